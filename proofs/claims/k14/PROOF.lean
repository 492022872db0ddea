import PyProof.Rows.All
import Wide.All
import OpenK.AllK
import Wide.FinOn
import HandS.ForMost
import HandS.ForExc
import HandS.Wide
import HandS.WideBits
import HandS.IsInst
import HandS.Flow
import HandS.Style
import HandS.Sort
import HandS.SortInts
import HandS.Zip
import HandS.Conv
import HandS.TupAny
import HandS.Codes
import HandS.Star
import HandS.ExcInit
import HandS.TryMany
import HandS.TupLe
import KE.GoesMore
import HandS.SortKw
import PyProof.LongRange
import HandS.Defaults
import HandS.CallSlots
import HandS.TupMul
import HandS.DictComp
import HandS.More
import HandS.SortRule
import HandS.Deep
import KE.GoesZip
import HandS.ExcField
import HandS.ExcIs
import HandS.Lambda
import HandS.EndOwn
import HandS.OwnEq
import PySem.Challenge.RW_pointorstrip_k14_whole_stairs
set_option Elab.async false
set_option linter.all false
set_option maxRecDepth 100000
namespace QL
open PySem PySem.Spec PyProof.Rows L2

/-! ### pure data -/
inductive D where
  | non | bl (b : Bool) | int (i : Int) | str (x : Str) | raw (v : V) | scr (ns : List Int)
  | tup (xs : List D) | lst (xs : List D) | dic (ks : List Key) (xs : List D) | dct (ks : List (List Int)) (xs : List D) | obj (C : Addr) (ns : List Str) (xs : List D)

mutual
/-- the value v is the datum in the frozen heap F -/
def Rep (K : PySem.W.Frag) (F : Hp) : D → V → Prop
  | .non, v => v = .non
  | .bl b, v => v = .bl b
  | .int i, v => v = .int i
  | .str x, v => v = .str x
  | .raw u, v => v = u
  | .scr ns, v => ∃ a, v = .ref a ∧ SqL K F a (ns.map V.int)
  | .tup xs, v => ∃ a vs, v = .ref a ∧ F a = some (.tup vs) ∧ RepL K F xs vs
  | .lst xs, v => ∃ a vs, v = .ref a ∧ F a = some (.lst vs) ∧ RepL K F xs vs
  | .dic ks xs, v => ∃ a, v = .ref a ∧ ∃ kvs : List (Key × V), F a = some (.dK kvs) ∧ ks = kvs.map (·.1) ∧ RepL K F xs (kvs.map (·.2))
  | .dct ks xs, v => ∃ a, v = .ref a ∧ ∃ kvs : List (List Key × V), F a = some (.dT kvs) ∧ kvs.map (·.1) = ks.map (List.map Sum.inl) ∧ RepL K F xs (kvs.map (·.2))
  | .obj C ns xs, v => ∃ a dx fs, v = .ref a ∧ F a = some (.ins C dx fs) ∧ fs.map (·.1) = ns ∧ RepL K F xs (fs.map (·.2))
def RepL (K : PySem.W.Frag) (F : Hp) : List D → List V → Prop
  | [], vs => vs = []
  | x :: xs, vs => ∃ v r, vs = v :: r ∧ Rep K F x v ∧ RepL K F xs r
end

theorem sqt_of {K : PySem.W.Frag} {H H' : Hp} {a : Addr} {xs : List V} (e : Same H H') (h : H a = some (.tup xs)) : SqT K H' a xs := .inl (.inl (e _ _ h))
theorem sqt0 {K : PySem.W.Frag} {H : Hp} {a : Addr} {xs : List V} (h : H a = some (.tup xs)) : SqT K H a xs := .inl (.inl h)
theorem same_sqt {K : PySem.W.Frag} {H H' : Hp} {a : Addr} {xs : List V} (e : Same H H') (h : SqT K H a xs) : SqT K H' a xs := by
  rcases h with (h | ⟨o, h⟩) | h
  · exact .inl (.inl (e _ _ h))
  · exact .inl (.inr ⟨o, e _ _ h⟩)
  · exact .inr h
section
variable {K : PySem.W.Frag} {F F' : Hp}
mutual
theorem Rep.mono (e : Same F F') : ∀ (d : D) (v : V), Rep K F d v → Rep K F' d v
  | .non, _, h => h
  | .bl _, _, h => h
  | .int _, _, h => h
  | .str _, _, h => h
  | .raw _, _, h => h
  | .tup xs, _, ⟨a, vs, h1, h2, h3⟩ => ⟨a, vs, h1, e _ _ h2, RepL.mono e xs vs h3⟩
  | .scr xs, _, ⟨a, h1, h2⟩ => ⟨a, h1, e.seq h2⟩
  | .lst xs, _, ⟨a, vs, h1, h2, h3⟩ => ⟨a, vs, h1, e _ _ h2, RepL.mono e xs vs h3⟩
  | .dic ks xs, _, ⟨a, h1, kvs, h2, h3, h4⟩ => ⟨a, h1, kvs, e _ _ h2, h3, RepL.mono e xs _ h4⟩
  | .dct ks xs, _, ⟨a, h1, kvs, h2, h3, h4⟩ => ⟨a, h1, kvs, e _ _ h2, h3, RepL.mono e xs _ h4⟩
  | .obj C ns xs, _, ⟨a, dx, fs, h1, h2, h3, h4⟩ => ⟨a, dx, fs, h1, e _ _ h2, h3, RepL.mono e xs _ h4⟩
theorem RepL.mono (e : Same F F') : ∀ (xs : List D) (vs : List V), RepL K F xs vs → RepL K F' xs vs
  | [], _, h => h
  | x :: xs, _, ⟨v, r, h1, h2, h3⟩ => ⟨v, r, h1, Rep.mono e x v h2, RepL.mono e xs r h3⟩
end
theorem RepL.length : ∀ {xs : List D} {vs : List V}, RepL K F xs vs → xs.length = vs.length
  | [], _, h => by rw [show _ = [] from h]; rfl
  | x :: xs, _, ⟨v, r, h1, h2, h3⟩ => by rw [h1, List.length_cons, List.length_cons, RepL.length h3]
theorem RepL.get : ∀ {xs : List D} {vs : List V} {i : Nat} {d : D}, RepL K F xs vs → xs[i]? = some d → ∃ v, vs[i]? = some v ∧ Rep K F d v
  | [], _, _, _, _, e => by simp at e
  | x :: xs, _, 0, d, ⟨v, r, h1, h2, h3⟩, e => by
    have e' : x = d := by simpa using e
    subst e'; exact ⟨v, by rw [h1]; rfl, h2⟩
  | x :: xs, _, i + 1, d, ⟨v, r, h1, h2, h3⟩, e => by
    obtain ⟨u, hu, ru⟩ := RepL.get (i := i) (d := d) h3 (by simpa using e)
    exact ⟨u, by rw [h1]; simpa using hu, ru⟩
theorem RepL.getV : ∀ {xs : List D} {vs : List V} {i : Nat} {v : V}, RepL K F xs vs → vs[i]? = some v → ∃ d, xs[i]? = some d ∧ Rep K F d v
  | [], _, _, _, h, e => by rw [show _ = [] from h] at e; simp at e
  | x :: xs, _, 0, d, ⟨v, r, h1, h2, h3⟩, e => by
    rw [h1] at e
    have e' : v = d := by simpa using e
    subst e'; exact ⟨x, rfl, h2⟩
  | x :: xs, _, i + 1, d, ⟨v, r, h1, h2, h3⟩, e => by
    rw [h1] at e
    obtain ⟨u, hu, ru⟩ := RepL.getV (i := i) (v := d) h3 (by simpa using e)
    exact ⟨u, by simpa using hu, ru⟩
theorem RepL.append : ∀ {xs ys : List D} {vs us : List V}, RepL K F xs vs → RepL K F ys us → RepL K F (xs ++ ys) (vs ++ us)
  | [], _, _, _, h, g => by rw [show _ = [] from h]; exact g
  | x :: xs, _, _, _, ⟨v, r, h1, h2, h3⟩, g => by rw [h1]; exact ⟨v, r ++ _, rfl, h2, RepL.append h3 g⟩
theorem RepL.one {d : D} {v : V} (h : Rep K F d v) : RepL K F [d] [v] := ⟨v, [], rfl, h, rfl⟩
theorem RepL.take : ∀ {xs : List D} {vs : List V} (n : Nat), RepL K F xs vs → RepL K F (xs.take n) (vs.take n)
  | _, _, 0, _ => by simp only [List.take_zero]; rfl
  | [], _, n + 1, h => by rw [show _ = [] from h]; rfl
  | x :: xs, _, n + 1, ⟨v, r, h1, h2, h3⟩ => by rw [h1]; exact ⟨v, _, rfl, h2, RepL.take n h3⟩
theorem RepL.drop : ∀ {xs : List D} {vs : List V} (n : Nat), RepL K F xs vs → RepL K F (xs.drop n) (vs.drop n)
  | xs, vs, 0, h => h
  | [], _, n + 1, h => by rw [show _ = [] from h]; rfl
  | x :: xs, _, n + 1, ⟨v, r, h1, h2, h3⟩ => by rw [h1]; exact RepL.drop n h3
theorem RepL.set : ∀ {xs : List D} {vs : List V} {d : D} {v : V} (n : Nat), RepL K F xs vs → Rep K F d v → RepL K F (xs.set n d) (vs.set n v)
  | [], _, _, _, _, h, _ => by rw [show _ = [] from h]; rfl
  | x :: xs, _, _, w, 0, ⟨v, r, h1, h2, h3⟩, g => by rw [h1]; exact ⟨w, r, rfl, g, h3⟩
  | x :: xs, _, _, _, n + 1, ⟨v, r, h1, h2, h3⟩, g => by rw [h1]; exact ⟨v, _, rfl, h2, RepL.set n h3 g⟩
theorem RepL.reverse : ∀ {xs : List D} {vs : List V}, RepL K F xs vs → RepL K F xs.reverse vs.reverse
  | [], _, h => by rw [show _ = [] from h]; rfl
  | x :: xs, _, ⟨v, r, h1, h2, h3⟩ => by rw [h1, List.reverse_cons, List.reverse_cons]; exact RepL.append (RepL.reverse h3) (RepL.one h2)
theorem RepL.ints : ∀ {ns : List Int} {vs : List V}, RepL K F (ns.map D.int) vs → vs = ns.map V.int
  | [], _, h => h
  | n :: ns, _, ⟨v, r, h1, h2, h3⟩ => by rw [h1, show v = .int n from h2, RepL.ints h3]; rfl
theorem RepL.of_ints : ∀ {ns : List Int}, RepL K F (ns.map D.int) (ns.map V.int)
  | [] => rfl
  | n :: ns => ⟨_, _, rfl, rfl, RepL.of_ints⟩
theorem RepL.bls : ∀ {ns : List Bool} {vs : List V}, RepL K F (ns.map D.bl) vs → vs = ns.map V.bl
  | [], _, h => h
  | n :: ns, _, ⟨v, r, h1, h2, h3⟩ => by rw [h1, show v = .bl n from h2, RepL.bls h3]; rfl
end

/-! ### slots -/
inductive Slot where
  | un | val (d : D) | own (d : D)

/-- an owned object: its content -/
def OwnH (K : PySem.W.Frag) (F : Hp) : D → HO → Prop
  | .lst xs, ho => ∃ vs, ho = .lst vs ∧ RepL K F xs vs
  | .dic ks xs, ho => ∃ kvs : List (Key × V), ho = .dK kvs ∧ ks = kvs.map (·.1) ∧ RepL K F xs (kvs.map (·.2))
  | .dct ks xs, ho => ∃ kvs : List (List Key × V), ho = .dT kvs ∧ kvs.map (·.1) = ks.map (List.map Sum.inl) ∧ RepL K F xs (kvs.map (·.2))
  | .obj C ns xs, ho => ∃ dx fs, ho = .ins C dx fs ∧ fs.map (·.1) = ns ∧ RepL K F xs (fs.map (·.2))
  | _, _ => False
theorem OwnH.mono {K : PySem.W.Frag} {F F' : Hp} (e : Same F F') : ∀ {d : D} {ho : HO}, OwnH K F d ho → OwnH K F' d ho
  | .lst xs, _, ⟨vs, h1, h2⟩ => ⟨vs, h1, RepL.mono e _ _ h2⟩
  | .dic ks xs, _, ⟨kvs, h2, h3, h4⟩ => ⟨kvs, h2, h3, RepL.mono e xs _ h4⟩
  | .dct ks xs, _, ⟨kvs, h2, h3, h4⟩ => ⟨kvs, h2, h3, RepL.mono e xs _ h4⟩
  | .obj C ns xs, _, ⟨dx, fs, h1, h2, h3⟩ => ⟨dx, fs, h1, h2, RepL.mono e _ _ h3⟩
  | .non, _, h => h.elim
  | .bl _, _, h => h.elim
  | .int _, _, h => h.elim
  | .str _, _, h => h.elim
  | .raw _, _, h => h.elim
  | .scr _, _, h => h.elim
  | .tup _, _, h => h.elim
/-- there is an object, and no tuple -/
def Hard (H : Hp) (a : Addr) : Prop := ∃ o, H a = some o ∧ ∀ vs, o ≠ .tup vs
theorem Hard.ne {H : Hp} {a : Addr} (h : Hard H a) : H a ≠ none := by
  obtain ⟨o, h, _⟩ := h
  rw [h]; simp
theorem Hard.mono {H H' : Hp} {a : Addr} (e : Same H H') : Hard H a → Hard H' a := fun ⟨o, h1, h2⟩ => ⟨o, e _ _ h1, h2⟩
theorem OwnH.hard {K : PySem.W.Frag} {F H : Hp} {a : Addr} : ∀ {d : D} {ho : HO}, H a = some ho → OwnH K F d ho → Hard H a
  | .lst xs, _, e, ⟨vs, h1, h2⟩ => ⟨_, e, fun us z => by rw [h1] at z; cases z⟩
  | .dic ks xs, _, e, ⟨kvs, h2, h3, h4⟩ => ⟨_, e, fun us z => by rw [h2] at z; cases z⟩
  | .dct ks xs, _, e, ⟨kvs, h2, h3, h4⟩ => ⟨_, e, fun us z => by rw [h2] at z; cases z⟩
  | .obj C ns xs, _, e, ⟨dx, fs, h1, h2, h3⟩ => ⟨_, e, fun us z => by rw [h1] at z; cases z⟩
  | .non, _, _, h => h.elim
  | .bl _, _, _, h => h.elim
  | .int _, _, _, h => h.elim
  | .str _, _, _, h => h.elim
  | .raw _, _, _, h => h.elim
  | .scr _, _, _, h => h.elim
  | .tup _, _, _, h => h.elim
theorem OwnH.nt {K : PySem.W.Frag} {F : Hp} {d : D} {ho : HO} (h : OwnH K F d ho) (vs : List V) : ho ≠ .tup vs := by
  obtain ⟨o, e, n⟩ := OwnH.hard (H := upd (fun _ => none) (0 : Nat) ho) upd_same h
  rw [upd_same] at e
  cases e
  exact n vs
theorem same_upd {H : Hp} {p : Addr} {o : HO} (h : H p = none) : Same H (upd H p o) := fun b x e => by
  rw [upd_ne (ne_of_none e h)]
  exact e
theorem same_upd2 {F H : Hp} {p : Addr} {o : HO} (s : Same F H) (h : F p = none) : Same F (upd H p o) := fun b x e => by
  rw [upd_ne (ne_of_none e h)]
  exact s _ _ e
theorem same_upd3 {F H : Hp} {p : Addr} {o : HO} (s : Same F H) (h : H p = some o) : Same (upd F p o) H := fun b x e => by
  by_cases hb : b = p
  · subst hb; rw [upd_same] at e; cases e; exact h
  · rw [upd_ne hb] at e; exact s _ _ e
theorem same_updb {F H : Hp} {p : Addr} {o : HO} (s : Same F H) : Same (upd F p o) (upd H p o) := fun b x e => by
  by_cases hb : b = p
  · subst hb; rw [upd_same] at e ⊢; exact e
  · rw [upd_ne hb] at e ⊢; exact s _ _ e
/-- frozen: it is a datum -/
theorem OwnH.rep {K : PySem.W.Frag} {F : Hp} {a : Addr} (hn : F a = none) : ∀ {d : D} {ho : HO}, OwnH K F d ho → Rep K (upd F a ho) d (.ref a)
  | .lst xs, _, ⟨vs, h1, h2⟩ => ⟨a, vs, rfl, by rw [upd_same, h1], RepL.mono (same_upd hn) _ _ h2⟩
  | .dic ks xs, _, ⟨kvs, h2, h3, h4⟩ => ⟨a, rfl, kvs, by rw [upd_same, h2], h3, RepL.mono (same_upd hn) xs _ h4⟩
  | .dct ks xs, _, ⟨kvs, h2, h3, h4⟩ => ⟨a, rfl, kvs, by rw [upd_same, h2], h3, RepL.mono (same_upd hn) xs _ h4⟩
  | .obj C ns xs, _, ⟨dx, fs, h1, h2, h3⟩ => ⟨a, dx, fs, rfl, by rw [upd_same, h1], h2, RepL.mono (same_upd hn) _ _ h3⟩
  | .non, _, h => h.elim
  | .bl _, _, h => h.elim
  | .int _, _, h => h.elim
  | .str _, _, h => h.elim
  | .raw _, _, h => h.elim
  | .scr _, _, h => h.elim
  | .tup _, _, h => h.elim

def SlotR (K : PySem.W.Frag) (B F H : Hp) (o : Option V) : Slot → Prop
  | .un => True
  | .val d => ∃ v, o = some v ∧ Rep K F d v
  | .own d => ∃ a ho, o = some (.ref a) ∧ F a = none ∧ B a = none ∧ H a = some ho ∧ OwnH K F d ho

/-- what a body starts from: the heap that is to be kept, the address of the object in slot 0 that may be changed -/
structure Bx where
  B : Hp
  io : Option Addr
  F0 : Hp

structure ER (K : PySem.W.Frag) (bx : Bx) (F : Hp) (env : List Slot) (σ : L2.St) (H : Hp) : Prop where
  sb : Same bx.B H
  sf : Same F H
  len : env.length = σ.length
  slots : ∀ (i : Nat) (s : Slot), env[i]? = some s → ∃ o, σ[i]? = some o ∧ SlotR K bx.B F H o s
  sep : ∀ (i j : Nat) d e a, env[i]? = some (.own d) → env[j]? = some (.own e) → σ[i]? = some (some (.ref a)) → σ[j]? = some (some (.ref a)) → i = j
  io : ∀ a, bx.io = some a → σ[0]? = some (some (.ref a)) ∧ ∃ d, env[0]? = some (.own d)
  f0 : Same bx.F0 F
  fz : ∀ a, bx.F0 a = none → Hard bx.B a → F a = none

section
variable {K : PySem.W.Frag} {bx : Bx} {F F' H H' : Hp} {env : List Slot} {σ : L2.St}
theorem ER.bh (R : ER K bx F env σ H) {a : Addr} (h : Hard bx.B a) : Hard H a := h.mono R.sb
/-- the heap grows or a frozen part is added: nothing that is owned is touched -/
theorem ER.grow (R : ER K bx F env σ H) (e : Same F F') (sf : Same F' H') (sh : Same H H') (hn : ∀ a, F a = none → Hard H a → F' a = none) : ER K bx F' env σ H' where
  sb := fun b o z => sh _ _ (R.sb b o z)
  sf := sf
  len := R.len
  slots := fun i s z => by
    obtain ⟨o, h1, h2⟩ := R.slots i s z
    refine ⟨o, h1, ?_⟩
    cases s with
    | un => trivial
    | val d => obtain ⟨v, h3, h4⟩ := h2; exact ⟨v, h3, Rep.mono e _ _ h4⟩
    | own d => obtain ⟨a, ho, h3, h4, h5, h6, h7⟩ := h2; exact ⟨a, ho, h3, hn a h4 (OwnH.hard h6 h7), h5, sh _ _ h6, OwnH.mono e h7⟩
  sep := R.sep
  io := R.io
  f0 := R.f0.trans e
  fz := fun a h1 h2 => hn a (R.fz a h1 h2) (R.bh h2)
/-- a new object, frozen at once -/
theorem ER.laid {p : Addr} {o : HO} (R : ER K bx F env σ H) (hp : H p = none) : ER K bx (upd F p o) env σ (upd H p o) :=
  R.grow (same_upd (R.sf.free hp)) (same_updb R.sf) (same_upd hp) fun a h1 h2 => by
    rw [upd_ne (fun z => h2.ne (by rw [z]; exact hp))]; exact h1
/-- .. not frozen -/
theorem ER.laid0 {p : Addr} {o : HO} (R : ER K bx F env σ H) (hp : H p = none) : ER K bx F env σ (upd H p o) :=
  R.grow (Same.refl _) (same_upd2 R.sf (R.sf.free hp)) (same_upd hp) fun a h1 h2 => h1
end

/-! ### readings over pure data -/
abbrev XD := D → List Slot → Prop
abbrev RE := List Slot → (D → List Slot → Prop) → Prop
abbrev RB := List Slot → (Bool → List Slot → Prop) → Prop
abbrev RA := List Slot → (List D → List Slot → Prop) → Prop
structure PEnds where
  nx : List Slot → Prop
  rt : D → List Slot → Prop
  bk : List Slot → Prop := fun _ => False
  ct : List Slot → Prop := fun _ => False
abbrev RS := PEnds → List Slot → Prop
section
variable (K : PySem.W.Frag) (bx : Bx)
def up (t : RE) : TE := fun σ H Q' => ∃ env F Q, ER K bx F env σ H ∧ t env Q ∧
  ∀ d v env' F' H', Same F F' → ER K bx F' env' σ H' → Rep K F' d v → Q d env' → Q' v H'
/-- an object at a that is new and nobody's -/
structure Lone (bx : Bx) (F : Hp) (env : List Slot) (σ : L2.St) (H : Hp) (a : Addr) : Prop where
  f : F a = none
  b : bx.B a = none
  h : Hard H a
  o : ∀ (i : Nat) d, env[i]? = some (.own d) → σ[i]? ≠ some (some (.ref a))
def upN (t : RE) : TE := fun σ H Q' => ∃ env F Q, ER K bx F env σ H ∧ t env Q ∧
  ∀ d a ho env' F' H', Same F F' → ER K bx F' env' σ H' → Lone bx F' env' σ H' a → H' a = some ho → OwnH K F' d ho → Q d env' → Q' (.ref a) H'
def upT (t : RB) : TT := fun σ H Q' => ∃ env F Q, ER K bx F env σ H ∧ t env Q ∧
  ∀ b env' F' H', Same F F' → ER K bx F' env' σ H' → Q b env' → Q' b H'
def upA (t : RA) : TA := fun σ H Q' => ∃ env F Q, ER K bx F env σ H ∧ t env Q ∧
  ∀ ds vs env' F' H', Same F F' → ER K bx F' env' σ H' → RepL K F' ds vs → Q ds env' → Q' vs H'
def upS (t : RS) : TS := fun Dn σ H => ∃ env F en, ER K bx F env σ H ∧ t en env ∧
  (∀ env' F' σ' H', Same F F' → ER K bx F' env' σ' H' → en.nx env' → Dn.nx σ' H') ∧
  (∀ d v env' F' σ' H', Same F F' → ER K bx F' env' σ' H' → Rep K F' d v → en.rt d env' → Dn.rt v H') ∧
  (∀ env' F' σ' H', Same F F' → ER K bx F' env' σ' H' → en.bk env' → Dn.bk σ' H') ∧
  (∀ env' F' σ' H', Same F F' → ER K bx F' env' σ' H' → en.ct env' → Dn.ct σ' H')
end
abbrev QE (X : Cx) (bx : Bx) (e : Expr) (t : RE) : Prop := L2.PE X e (up X.K bx t)
abbrev QN (X : Cx) (bx : Bx) (e : Expr) (t : RE) : Prop := L2.PE X e (upN X.K bx t)
abbrev QT (X : Cx) (bx : Bx) (e : Expr) (t : RB) : Prop := L2.PT X e (upT X.K bx t)
abbrev QW (X : Cx) (bx : Bx) (e : Expr) (t : RB) : Prop := L2.PW X e (upT X.K bx t)
abbrev QA (X : Cx) (bx : Bx) (es : List Expr) (t : RA) : Prop := L2.PA X es (upA X.K bx t)
abbrev QS (X : Cx) (bx : Bx) (st : Stmt) (t : RS) : Prop := L2.PS X st (upS X.K bx t)
abbrev QSs (X : Cx) (bx : Bx) (st : List Stmt) (t : RS) : Prop := L2.PSs X st (upS X.K bx t)

section
variable {X : Cx} {bx : Bx} {e a b : Expr}
theorem pe_imp {t t' : TE} (h : L2.PE X e t) (i : ∀ σ H Q, t' σ H Q → t σ H Q) : L2.PE X e t' := ⟨fun pins s σ H Q I q => h.run pins s σ H Q I (i σ H Q q)⟩
theorem pt_imp {t t' : TT} (h : L2.PT X e t) (i : ∀ σ H Q, t' σ H Q → t σ H Q) : L2.PT X e t' := ⟨fun pins s σ H Q I q => h.run pins s σ H Q I (i σ H Q q)⟩
theorem pw_imp {t t' : TT} (h : L2.PW X e t) (i : ∀ σ H Q, t' σ H Q → t σ H Q) : L2.PW X e t' := ⟨fun wh pins s σ H Q I q => h.run wh pins s σ H Q I (i σ H Q q)⟩
theorem pa_imp {es : List Expr} {t t' : TA} (h : L2.PA X es t) (i : ∀ σ H Q, t' σ H Q → t σ H Q) : L2.PA X es t' := ⟨fun pos pins s σ H Q I q => h.run pos pins s σ H Q I (i σ H Q q)⟩
theorem ps_imp {st : Stmt} {t t' : TS} (h : L2.PS X st t) (i : ∀ D σ H, t' D σ H → t D σ H) : L2.PS X st t' := ⟨fun pins s σ H D I q => h.run pins s σ H D I (i D σ H q)⟩
theorem pss_imp {st : List Stmt} {t t' : TS} (h : L2.PSs X st t) (i : ∀ D σ H, t' D σ H → t D σ H) : L2.PSs X st t' := ⟨fun pins s σ H D I q => h.run pins s σ H D I (i D σ H q)⟩

/-! ### how the heap may grow -/
structure Grow (F H F' H' : Hp) : Prop where
  e : Same F F'
  sf : Same F' H'
  sh : Same H H'
  hn : ∀ a, F a = none → Hard H a → F' a = none
theorem Grow.refl {F H : Hp} (s : Same F H) : Grow F H F H := ⟨Same.refl _, s, Same.refl _, fun _ h _ => h⟩
theorem Grow.laid {F H : Hp} {p : Addr} {o : HO} (s : Same F H) (hp : H p = none) : Grow F H (upd F p o) (upd H p o) :=
  ⟨same_upd (s.free hp), same_updb s, same_upd hp, fun a h1 h2 => by rw [upd_ne (fun z => h2.ne (by rw [z]; exact hp))]; exact h1⟩
theorem Grow.laid0 {F H : Hp} {p : Addr} {o : HO} (s : Same F H) (hp : H p = none) : Grow F H F (upd H p o) :=
  ⟨Same.refl _, same_upd2 s (s.free hp), same_upd hp, fun a h1 h2 => h1⟩
theorem Grow.trans {F H F1 H1 F2 H2 : Hp} (a : Grow F H F1 H1) (b : Grow F1 H1 F2 H2) : Grow F H F2 H2 :=
  ⟨a.e.trans b.e, b.sf, a.sh.trans b.sh, fun x h1 h2 => b.hn x (a.hn x h1 h2) (h2.mono a.sh)⟩
theorem ER.to {K : PySem.W.Frag} {F H F' H' : Hp} {env : List Slot} {σ : L2.St} (R : ER K bx F env σ H) (g : Grow F H F' H') : ER K bx F' env σ H' := R.grow g.e g.sf g.sh g.hn
theorem ER.lone {K : PySem.W.Frag} {F H : Hp} {env : List Slot} {σ : L2.St} {p : Addr} {o : HO} (R : ER K bx F env σ H) (hp : H p = none) (ht : ∀ vs, o ≠ .tup vs := by intro us z; cases z) : Lone bx F env σ (upd H p o) p :=
  ⟨R.sf.free hp, R.sb.free hp, ⟨o, upd_same, ht⟩, fun i d h z => by
    obtain ⟨o, h1, a, ho, h2, h3, h4, h5, h6⟩ := R.slots i _ h
    rw [z] at h1; cases h1; cases h2
    rw [hp] at h5; cases h5⟩
/-- what is nobody's may be frozen -/
theorem ER.freeze {K : PySem.W.Frag} {F H : Hp} {env : List Slot} {σ : L2.St} {p : Addr} {o : HO} (R : ER K bx F env σ H) (l : Lone bx F env σ H p) (hp : H p = some o) : ER K bx (upd F p o) env σ H where
  sb := R.sb
  sf := same_upd3 R.sf hp
  len := R.len
  slots := fun i s z => by
    obtain ⟨q, h1, h2⟩ := R.slots i s z
    refine ⟨q, h1, ?_⟩
    cases s with
    | un => trivial
    | val d => obtain ⟨v, h3, h4⟩ := h2; exact ⟨v, h3, Rep.mono (same_upd l.f) _ _ h4⟩
    | own d =>
      obtain ⟨a, ho, h3, h4, h5, h6, h7⟩ := h2
      refine ⟨a, ho, h3, ?_, h5, h6, OwnH.mono (same_upd l.f) h7⟩
      rw [upd_ne (fun e => l.o i d z (by rw [h1, h3, e]))]
      exact h4
  sep := R.sep
  io := R.io
  f0 := R.f0.trans (same_upd l.f)
  fz := fun a h1 h2 => by
    rw [upd_ne (fun e => h2.ne (by rw [e]; exact l.b))]
    exact R.fz a h1 h2
/-- a new object as a datum -/
theorem QN.qe {t : RE} (h : QN X bx e t) : QE X bx e t := pe_imp h fun σ H Q' ⟨env, F, Q, R, ht, k⟩ => ⟨env, F, Q, R, ht, fun d a ho env' F' H' s R' l ha o q =>
  k d (.ref a) env' (upd F' a ho) H' (s.trans (same_upd l.f)) (R'.freeze l ha) (OwnH.rep l.f o) q⟩

/-! ### names and constants -/
def rVar (i : Nat) : RE := fun env Q => match env[i]? with
  | some (.val d) => Q d env
  | _ => False
theorem q_var {i : Nat} (h : L2.PE X e (tVar i)) : QE X bx e (rVar i) := pe_imp h fun σ H Q' ⟨env, F, Q, R, ht, k⟩ => by
  unfold rVar at ht
  split at ht
  · rename_i d hd
    obtain ⟨o, h1, v, h2, h3⟩ := R.slots i _ hd
    exact ⟨v, by rw [h1, h2], k d v env F H (Same.refl _) R h3 ht⟩
  · exact ht.elim
end
end QL
set_option Elab.async false
set_option linter.all false
set_option maxRecDepth 100000
namespace QL
open PySem PySem.Spec PyProof.Rows L2
/-! ### operators by values -/
def Gr (K : PySem.W.Frag) (F H : Hp) (Q : D → Prop) (Q' : VK) : Prop := ∀ z u F' H', Grow F H F' H' → Rep K F' z u → Q z → Q' u H'
def GrN (K : PySem.W.Frag) (F H : Hp) (Q : D → Prop) (Q' : VK) : Prop := ∀ d ho p, H p = none → OwnH K F d ho → Q d → Q' (.ref p) (upd H p ho)
theorem Gr.flat {K : PySem.W.Frag} {F H : Hp} {Q : D → Prop} {Q' : VK} (g : Gr K F H Q Q') (s : Same F H) {z : D} {u : V} (r : Rep K F z u) (q : Q z) : Q' u H := g z u F H (Grow.refl s) r q
theorem Gr.toN {K : PySem.W.Frag} {F H : Hp} {Q : D → Prop} {Q' : VK} (g : Gr K F H Q Q') (s : Same F H) : GrN K F H Q Q' := fun d ho p hp o q =>
  g d (.ref p) (upd F p ho) (upd H p ho) (Grow.laid s hp) (OwnH.rep (s.free hp) o) q
/-- a new tuple -/
theorem Gr.tup {K : PySem.W.Frag} {F H : Hp} {Q : D → Prop} {Q' : VK} (g : Gr K F H Q Q') (s : Same F H) {xs : List D} {vs : List V} (r : RepL K F xs vs) (q : Q (.tup xs)) {p : Addr} (hp : H p = none) : Q' (.ref p) (upd H p (.tup vs)) :=
  g (.tup xs) (.ref p) _ _ (Grow.laid s hp) ⟨p, vs, rfl, upd_same, RepL.mono (same_upd (s.free hp)) _ _ r⟩ q
theorem Gr.i {K : PySem.W.Frag} {F H : Hp} {Q : D → Prop} {Q' : VK} (g : Gr K F H Q Q') (s : Same F H) {i : Int} (q : Q (.int i)) : Q' (.int i) H := g.flat s (z := .int i) rfl q
theorem Gr.b {K : PySem.W.Frag} {F H : Hp} {Q : D → Prop} {Q' : VK} (g : Gr K F H Q Q') (s : Same F H) {i : Bool} (q : Q (.bl i)) : Q' (.bl i) H := g.flat s (z := .bl i) rfl q
theorem Gr.n {K : PySem.W.Frag} {F H : Hp} {Q : D → Prop} {Q' : VK} (g : Gr K F H Q Q') (s : Same F H) (q : Q .non) : Q' .non H := g.flat s (z := .non) rfl q
theorem Gr.s {K : PySem.W.Frag} {F H : Hp} {Q : D → Prop} {Q' : VK} (g : Gr K F H Q Q') (s : Same F H) {i : Str} (q : Q (.str i)) : Q' (.str i) H := g.flat s (z := .str i) rfl q
theorem GrN.lst {K : PySem.W.Frag} {F H : Hp} {Q : D → Prop} {Q' : VK} (g : GrN K F H Q Q') {xs : List D} {vs : List V} (r : RepL K F xs vs) (q : Q (.lst xs)) {p : Addr} (hp : H p = none) : Q' (.ref p) (upd H p (.lst vs)) :=
  g (.lst xs) (.lst vs) p hp ⟨vs, rfl, r⟩ q
theorem Gr.lst {K : PySem.W.Frag} {F H : Hp} {Q : D → Prop} {Q' : VK} (g : Gr K F H Q Q') (s : Same F H) {xs : List D} {vs : List V} (r : RepL K F xs vs) (q : Q (.lst xs)) {p : Addr} (hp : H p = none) : Q' (.ref p) (upd H p (.lst vs)) := (g.toN s).lst r q hp
abbrev V1 := D → (D → Prop) → Prop
abbrev V2 := D → D → (D → Prop) → Prop
abbrev VL := List D → (D → Prop) → Prop
def upV1 (K : PySem.W.Frag) (r : V1) : V → Hp → VK → Prop := fun v H Q' => ∃ F d Q, Same F H ∧ Rep K F d v ∧ r d Q ∧ Gr K F H Q Q'
def upV2 (K : PySem.W.Frag) (r : V2) : R2 := fun v w H Q' => ∃ F d e Q, Same F H ∧ Rep K F d v ∧ Rep K F e w ∧ r d e Q ∧ Gr K F H Q Q'
def upN2 (K : PySem.W.Frag) (r : V2) : R2 := fun v w H Q' => ∃ F d e Q, Same F H ∧ Rep K F d v ∧ Rep K F e w ∧ r d e Q ∧ GrN K F H Q Q'
def upVL (K : PySem.W.Frag) (r : VL) : List V → Hp → VK → Prop := fun vs H Q' => ∃ F ds Q, Same F H ∧ RepL K F ds vs ∧ r ds Q ∧ Gr K F H Q Q'
def upNL (K : PySem.W.Frag) (r : VL) : List V → Hp → VK → Prop := fun vs H Q' => ∃ F ds Q, Same F H ∧ RepL K F ds vs ∧ r ds Q ∧ GrN K F H Q Q'
section
variable {X : Cx} {bx : Bx} {e a b : Expr} {ta tb : RE} {pos : Pos}

theorem OpR.imp {f : Value → Value → Sem Value} {r r' : R2} (h : OpR X f r) (i : ∀ x y H Q, r' x y H Q → r x y H Q) : OpR X f r' := fun pins s σ H x y v u Q I rx ry q => h pins s σ H x y v u Q I rx ry (i _ _ _ _ q)
theorem CallR.imp {f : Value} {r r' : List V → Hp → VK → Prop} (h : CallR X f r) (i : ∀ x H Q, r' x H Q → r x H Q) : CallR X f r' := fun pins s σ H x us Q I r0 q => h pins s σ H x us Q I r0 (i _ _ _ q)
theorem callN_V {f : Value} {r : VL} (h : CallR X f (upNL X.K r)) : CallR X f (upVL X.K r) := CallR.imp h fun x H Q' ⟨F, d, Q, s, r1, h, g⟩ => ⟨F, d, Q, s, r1, h, g.toN s⟩

/-! readings -/
def rC (d : D) : RE := fun env Q => Q d env
def rOp (r : V2) (ta tb : RE) : RE := fun env Q => ta env fun d env1 => tb env1 fun e env2 => r d e fun z => Q z env2
def rUn (r : V1) (ta : RE) : RE := fun env Q => ta env fun d env1 => r d fun z => Q z env1
theorem q_con {d : D} {v : V} (h : L2.PE X e (tC v)) (r : ∀ K F, Rep K F d v) : QE X bx e (rC d) := pe_imp h fun σ H Q' ⟨env, F, Q, R, ht, k⟩ => k d v env F H (Same.refl _) R (r _ _) ht
theorem q_int {i j pos} : QE X bx (.Constant (.int i) j pos) (rC (.int i)) := q_con pe_int fun _ _ => rfl
theorem q_bl {i j pos} : QE X bx (.Constant (.bool i) j pos) (rC (.bl i)) := q_con pe_bl fun _ _ => rfl
theorem q_non {j pos} : QE X bx (.Constant .none j pos) (rC .non) := q_con pe_non fun _ _ => rfl
theorem q_str {i j pos} : QE X bx (.Constant (.str i) j pos) (rC (.str i)) := q_con pe_str fun _ _ => rfl
theorem op_up {r : V2} {ta tb : RE} {σ : L2.St} {H : Hp} {Q' : VK} : up X.K bx (rOp r ta tb) σ H Q' → tOp (upV2 X.K r) (up X.K bx ta) (up X.K bx tb) σ H Q' := fun ⟨env, F, Q, R, ht, k⟩ =>
  ⟨env, F, _, R, ht, fun d v env1 F1 H1 s1 R1 r1 q1 => ⟨env1, F1, _, R1, q1, fun d2 w env2 F2 H2 s2 R2 r2 q2 => ⟨F2, d, d2, _, R2.sf, Rep.mono s2 _ _ r1, r2, q2, fun z u F3 H3 g r3 q3 =>
    k z u env2 F3 H3 ((s1.trans s2).trans g.e) (R2.to g) r3 q3⟩⟩⟩
theorem q_op {op : Operator} {r : V2} (ho : OpR X (binaryOp op) (upV2 X.K r)) (ha : QE X bx a ta) (hb : QE X bx b tb) : QE X bx (.BinOp a op b pos) (rOp r ta tb) := pe_imp (pe_op ho ha hb) fun _ _ _ => op_up
theorem q_un {op : UnaryOp} {r : V1} (ho : UnR X (unaryOp op) (upV1 X.K r)) (ha : QE X bx a ta) : QE X bx (.UnaryOp op a pos) (rUn r ta) := pe_imp (pe_un ho ha) fun σ H Q' ⟨env, F, Q, R, ht, k⟩ =>
  ⟨env, F, _, R, ht, fun d v env1 F1 H1 s1 R1 r1 q1 => ⟨F1, d, _, R1.sf, r1, q1, fun z u F3 H3 g r3 q3 => k z u env1 F3 H3 (s1.trans g.e) (R1.to g) r3 q3⟩⟩
theorem q_cmp {op : CmpOp} {r : V2} (ho : OpR X (compareOp op) (upV2 X.K r)) (ha : QE X bx a ta) (hb : QE X bx b tb) (hm : behindInMarks op b = false := by first | exact nomark _ | rfl) : QE X bx (.Compare a [op] [b] pos) (rOp r ta tb) :=
  pe_imp (pe_cmpR ho ha hb hm) fun _ _ _ => op_up
/-- a comparison whose answer is a bool, as a test -/
def rTst (t : RE) : RB := fun env Q => t env fun d env1 => match d with | .bl k => Q k env1 | _ => False
theorem tst_up {t : RE} {σ : L2.St} {H : Hp} {Q' : Bool → Hp → Prop} : upT X.K bx (rTst t) σ H Q' → up X.K bx t σ H fun x H' => ∃ k, x = .bl k ∧ Q' k H' := fun ⟨env, F, Q, R, ht, k⟩ =>
  ⟨env, F, _, R, ht, fun d v env1 F1 H1 s1 R1 r1 q1 => by
    cases d with
    | bl c => exact ⟨c, r1, k c env1 F1 H1 s1 R1 q1⟩
    | _ => exact q1.elim⟩
theorem qt_cmp {op : CmpOp} {r : V2} (ho : OpR X (compareOp op) (upV2 X.K r)) (ha : QE X bx a ta) (hb : QE X bx b tb) (hm : behindInMarks op b = false := by first | exact nomark _ | rfl) : QT X bx (.Compare a [op] [b] pos) (rTst (rOp r ta tb)) :=
  pt_imp (pt_cmpR ho ha hb hm) fun σ H Q' h => op_up (tst_up h)

/-! ### truth -/
def truD : D → Option Bool
  | .non => some false
  | .bl b => some b
  | .int i => some (i != 0)
  | .tup xs => some (!xs.isEmpty)
  | .lst xs => some (!xs.isEmpty)
  | .scr ns => some (!ns.isEmpty)
  | _ => none
theorem RepL.isEmpty {K : PySem.W.Frag} {F : Hp} : ∀ {xs : List D} {vs : List V}, RepL K F xs vs → xs.isEmpty = vs.isEmpty
  | [], _, h => by rw [show _ = [] from h]; rfl
  | _ :: _, _, ⟨v, r, h1, _, _⟩ => by rw [h1]; rfl
theorem tru_of {K : PySem.W.Frag} {F H : Hp} (s : Same F H) : ∀ {d : D} {v : V} {k : Bool}, Rep K F d v → truD d = some k → TruV K v H k
  | .non, _, _, r, e => by rw [show _ = V.non from r]; exact (Option.some.inj e).symm
  | .bl b, _, _, r, e => by rw [show _ = V.bl b from r]; exact (Option.some.inj e).symm
  | .int b, _, _, r, e => by rw [show _ = V.int b from r]; exact (Option.some.inj e).symm
  | .tup xs, _, _, ⟨a, vs, h1, h2, h3⟩, e => by rw [h1]; exact .inr (.inl ⟨vs, sqt_of s h2, by rw [← RepL.isEmpty h3]; exact (Option.some.inj e).symm⟩)
  | .lst xs, _, _, ⟨a, vs, h1, h2, h3⟩, e => by rw [h1]; exact .inl ⟨vs, .inl (.inl (s _ _ h2)), by rw [← RepL.isEmpty h3]; exact (Option.some.inj e).symm⟩
  | .scr xs, _, _, ⟨a, h1, h2⟩, e => by rw [h1]; exact .inl ⟨_, s.seq h2, by rw [List.isEmpty_map]; exact (Option.some.inj e).symm⟩
  | .str _, _, _, _, e => nomatch e
  | .raw _, _, _, _, e => nomatch e
  | .dic _ _, _, _, _, e => nomatch e
  | .dct _ _, _, _, _, e => nomatch e
  | .obj _ _ _, _, _, _, e => nomatch e
def rTru (t : RE) : RB := fun env Q => t env fun d env1 => match truD d with | some k => Q k env1 | none => False
theorem qt_tru (ha : QE X bx a ta) (he : ∀ whole, isTrue a X.env whole = (do let v ← whole; standAt a.pos; holding [v] (truthy v)) := by intro _; rfl) : QT X bx a (rTru ta) :=
  pt_imp (pt_truth ha he) fun σ H Q' ⟨env, F, Q, R, ht, k⟩ => ⟨env, F, _, R, ht, fun d v env1 F1 H1 s1 R1 r1 q1 => by
    split at q1
    · rename_i c hc
      exact ⟨c, tru_of R1.sf r1 hc, k c env1 F1 H1 s1 R1 q1⟩
    · exact q1.elim⟩
def rNotT (t : RB) : RB := fun env Q => t env fun b env1 => Q (!b) env1
theorem qt_not {t : RB} (h : QT X bx a t) : QT X bx (.UnaryOp .Not a pos) (rNotT t) := pt_imp (pt_not h) fun σ H Q' ⟨env, F, Q, R, ht, k⟩ => ⟨env, F, _, R, ht, fun b env1 F1 H1 s1 R1 q1 => k (!b) env1 F1 H1 s1 R1 q1⟩
def rAndT (t u : RB) : RB := fun env Q => t env fun b env1 => if b = true then u env1 Q else Q false env1
def rOrT (t u : RB) : RB := fun env Q => t env fun b env1 => if b = true then Q true env1 else u env1 Q
theorem qw_and1 {t : RB} (h : QT X bx a t) : QW X bx (.BoolOp .And [a] pos) t := pw_and1 h
theorem qw_or1 {t : RB} (h : QT X bx a t) : QW X bx (.BoolOp .Or [a] pos) t := pw_or1 h
theorem qw_and {t u : RB} {rest : List Expr} (h : QT X bx a t) (g : QW X bx (.BoolOp .And (b :: rest) pos) u) : QW X bx (.BoolOp .And (a :: b :: rest) pos) (rAndT t u) := pw_imp (pw_and h g) fun σ H Q' ⟨env, F, Q, R, ht, k⟩ => ⟨env, F, _, R, ht, fun c env1 F1 H1 s1 R1 q1 => by
    cases c with
    | true => rw [if_pos rfl] at q1 ⊢; exact ⟨env1, F1, Q, R1, q1, fun c2 env2 F2 H2 s2 R2 q2 => k c2 env2 F2 H2 (s1.trans s2) R2 q2⟩
    | false => rw [if_neg Bool.false_ne_true] at q1 ⊢; exact k false env1 F1 H1 s1 R1 q1⟩
theorem qw_or {t u : RB} {rest : List Expr} (h : QT X bx a t) (g : QW X bx (.BoolOp .Or (b :: rest) pos) u) : QW X bx (.BoolOp .Or (a :: b :: rest) pos) (rOrT t u) := pw_imp (pw_or h g) fun σ H Q' ⟨env, F, Q, R, ht, k⟩ => ⟨env, F, _, R, ht, fun c env1 F1 H1 s1 R1 q1 => by
    cases c with
    | false => rw [if_neg Bool.false_ne_true] at q1 ⊢; exact ⟨env1, F1, Q, R1, q1, fun c2 env2 F2 H2 s2 R2 q2 => k c2 env2 F2 H2 (s1.trans s2) R2 q2⟩
    | true => rw [if_pos rfl] at q1 ⊢; exact k true env1 F1 H1 s1 R1 q1⟩
theorem qt_w {t : RB} (h : QW X bx a t) : QT X bx a t := h.pt
/-- and, or, not, as values -/
def rAnd (t u : RE) : RE := fun env Q => t env fun d env1 => match truD d with | some k => (if k = true then u env1 Q else Q d env1) | none => False
def rOr (t u : RE) : RE := fun env Q => t env fun d env1 => match truD d with | some k => (if k = true then Q d env1 else u env1 Q) | none => False
def rNot (t : RE) : RE := fun env Q => t env fun d env1 => match truD d with | some k => Q (.bl (!k)) env1 | none => False
theorem q_one {op} {t : RE} (h : QE X bx a t) : QE X bx (.BoolOp op [a] pos) t := pe_one h
theorem q_and {t u : RE} {rest : List Expr} (h : QE X bx a t) (g : QE X bx (.BoolOp .And (b :: rest) pos) u) : QE X bx (.BoolOp .And (a :: b :: rest) pos) (rAnd t u) := pe_imp (pe_andT h g) fun σ H Q' ⟨env, F, Q, R, ht, k⟩ => ⟨env, F, _, R, ht, fun d v env1 F1 H1 s1 R1 r1 q1 => by
    split at q1
    · rename_i c hc
      refine ⟨c, tru_of R1.sf r1 hc, ?_⟩
      cases c with
      | true => rw [if_pos rfl] at q1 ⊢; exact ⟨env1, F1, Q, R1, q1, fun d2 v2 env2 F2 H2 s2 R2 r2 q2 => k d2 v2 env2 F2 H2 (s1.trans s2) R2 r2 q2⟩
      | false => rw [if_neg Bool.false_ne_true] at q1 ⊢; exact k d v env1 F1 H1 s1 R1 r1 q1
    · exact q1.elim⟩
theorem q_not {t : RE} (h : QE X bx a t) : QE X bx (.UnaryOp .Not a pos) (rNot t) := pe_imp (pe_notT h) fun σ H Q' ⟨env, F, Q, R, ht, k⟩ => ⟨env, F, _, R, ht, fun d v env1 F1 H1 s1 R1 r1 q1 => by
    split at q1
    · rename_i c hc
      exact ⟨c, tru_of R1.sf r1 hc, k (.bl (!c)) (.bl (!c)) env1 F1 H1 s1 R1 rfl q1⟩
    · exact q1.elim⟩
def rIf (c : RB) (t u : RE) : RE := fun env Q => c env fun b env1 => if b = true then t env1 Q else u env1 Q
theorem q_if {c : RB} {t u : RE} {ec : Expr} (hc : QT X bx ec c) (h : QE X bx a t) (g : QE X bx b u) : QE X bx (.IfExp ec a b pos) (rIf c t u) := pe_imp (pe_ifExp hc h g) fun σ H Q' ⟨env, F, Q, R, ht, k⟩ => ⟨env, F, _, R, ht, fun c env1 F1 H1 s1 R1 q1 => by
    cases c with
    | true => rw [if_pos rfl] at q1 ⊢; exact ⟨env1, F1, Q, R1, q1, fun d2 v2 env2 F2 H2 s2 R2 r2 q2 => k d2 v2 env2 F2 H2 (s1.trans s2) R2 r2 q2⟩
    | false => rw [if_neg Bool.false_ne_true] at q1 ⊢; exact ⟨env1, F1, Q, R1, q1, fun d2 v2 env2 F2 H2 s2 R2 r2 q2 => k d2 v2 env2 F2 H2 (s1.trans s2) R2 r2 q2⟩⟩
/-- a < b < c -/
def rChain (r r' : V2) (ta tb tc : RE) : RE := fun env Q => ta env fun d env1 => tb env1 fun e env2 => r d e fun z => match z with | .bl k => (if k = true then tc env2 fun w env3 => r' e w fun z => Q z env3 else Q (.bl false) env2) | _ => False
theorem chain_up {r r' : V2} {ta tb tc : RE} {σ : L2.St} {H : Hp} {Q' : VK} : up X.K bx (rChain r r' ta tb tc) σ H Q' → tChain (upV2 X.K r) (upV2 X.K r') (up X.K bx ta) (up X.K bx tb) (up X.K bx tc) σ H Q' := fun ⟨env, F, Q, R, ht, k⟩ =>
  ⟨env, F, _, R, ht, fun d v env1 F1 H1 s1 R1 r1 q1 => ⟨env1, F1, _, R1, q1, fun d2 w env2 F2 H2 s2 R2 r2 q2 => ⟨F2, d, d2, _, R2.sf, Rep.mono s2 _ _ r1, r2, q2, fun z u F3 H3 g r3 q3 => by
    cases z with
    | bl c =>
      refine ⟨c, r3, ?_⟩
      cases c with
      | true =>
        rw [if_pos rfl]
        have q3 := (if_pos rfl).mp q3
        exact ⟨env2, F3, _, R2.to g, q3, fun d4 v4 env4 F4 H4 s4 R4 r4 q4 => ⟨F4, d2, d4, _, R4.sf, Rep.mono (g.e.trans s4) _ _ r2, r4, q4, fun z u F5 H5 g5 r5 q5 =>
          k z u env4 F5 H5 ((((s1.trans s2).trans g.e).trans s4).trans g5.e) (R4.to g5) r5 q5⟩⟩
      | false =>
        rw [if_neg Bool.false_ne_true]
        have q3 := (if_neg Bool.false_ne_true).mp q3
        exact k (.bl false) (.bl false) env2 F3 H3 ((s1.trans s2).trans g.e) (R2.to g) rfl q3
    | _ => exact q3.elim⟩⟩⟩
theorem qt_chain {op op' : CmpOp} {r r' : V2} {c : Expr} {tc : RE} (ho : OpR X (compareOp op) (upV2 X.K r)) (ho' : OpR X (compareOp op') (upV2 X.K r')) (ha : QE X bx a ta) (hb : QE X bx b tb) (hc : QE X bx c tc)
    (hm : lastMarks [op, op'] [b, c] = false := by with_unfolding_all rfl) : QT X bx (.Compare a [op, op'] [b, c] pos) (rTst (rChain r r' ta tb tc)) := pt_imp (pt_chain ho ho' ha hb hc hm) fun σ H Q' h => chain_up (tst_up h)
end
end QL
set_option Elab.async false
set_option linter.all false
set_option maxRecDepth 100000
namespace QL
open PySem PySem.Spec PyProof.Rows L2
/-! ### the operators -/
def MOk (i j : Int) : Prop := CMulW i j ∨ CMul i j
def DOk (j : Int) : Prop := 0 < j ∧ j.natAbs.log2 < 9000
def vAdd : V2
  | .int i, .int j, Q => Q (.int (i + j))
  | .lst xs, .lst ys, Q => xs.length + ys.length ≤ sizeLine ∧ Q (.lst (xs ++ ys))
  | .tup xs, .tup ys, Q => (xs ≠ [] ∧ xs.length + ys.length ≤ sizeLine) ∧ Q (.tup (xs ++ ys))
  | .str x, .str y, Q => x.length + y.length ≤ sizeLine ∧ Q (.str (x ++ y))
  | _, _, _ => False
def vAddL : V2
  | .lst xs, .lst ys, Q => xs.length + ys.length ≤ sizeLine ∧ Q (.lst (xs ++ ys))
  | _, _, _ => False
def vSub : V2
  | .int i, .int j, Q => Q (.int (i - j))
  | _, _, _ => False
def vMul : V2
  | .int i, .int j, Q => MOk i j ∧ Q (.int (i * j))
  | .lst xs, .int k, Q => (-(2 ^ 63) ≤ k ∧ k < 2 ^ 63 ∧ xs.length * k.toNat ≤ sizeLine) ∧ Q (.lst (List.replicate k.toNat xs).flatten)
  | _, _, _ => False
def vDiv : V2
  | .int i, .int j, Q => DOk j ∧ Q (.int (i / j))
  | _, _, _ => False
def vMod : V2
  | .int i, .int j, Q => 0 < j ∧ Q (.int (i % j))
  | _, _, _ => False
def vPow : V2
  | .int i, .int j, Q => (0 ≤ j ∧ j ≤ 1000000 ∧ i.natAbs < 2 ^ 64) ∧ Q (.int (i ^ j.toNat))
  | _, _, _ => False
def vShl : V2
  | .int i, .int j, Q => (0 ≤ j ∧ j ≤ 1000000 ∧ i.natAbs < 2 ^ 64) ∧ Q (.int (i * 2 ^ j.toNat))
  | _, _, _ => False
def vShr : V2
  | .int i, .int j, Q => 0 ≤ j ∧ Q (.int (i / 2 ^ j.toNat))
  | _, _, _ => False
def vNeg : V1
  | .int i, Q => Q (.int (-i))
  | _, _ => False
def vLt : V2
  | .int i, .int j, Q => Q (.bl (decide (i < j)))
  | _, _, _ => False
def vLe : V2
  | .int i, .int j, Q => Q (.bl (decide (i ≤ j)))
  | _, _, _ => False
def vGt : V2
  | .int i, .int j, Q => Q (.bl (decide (j < i)))
  | _, _, _ => False
def vGe : V2
  | .int i, .int j, Q => Q (.bl (decide (j ≤ i)))
  | _, _, _ => False
def isNon : D → Bool
  | .non => true
  | _ => false
/-- is None: of data -/
def vIsN : V2
  | .raw _, _, _ => False
  | d, .non, Q => Q (.bl (isNon d))
  | _, _, _ => False
def vNotN : V2
  | .raw _, _, _ => False
  | d, .non, Q => Q (.bl (!isNon d))
  | _, _, _ => False
mutual
def toP : D → PyData
  | .non => .none
  | .bl b => .bool b
  | .int i => .int i
  | .str x => .str x
  | .scr ns => .list (ns.map PyData.int)
  | .tup xs => .tuple (toPs xs)
  | .lst xs => .list (toPs xs)
  | _ => .none
def toPs : List D → List PyData
  | [] => []
  | x :: xs => toP x :: toPs xs
end
mutual
def okP : D → Bool
  | .non => true
  | .bl _ => true
  | .int _ => true
  | .str _ => true
  | .scr _ => true
  | .tup xs => okPs xs
  | .lst xs => okPs xs
  | _ => false
def okPs : List D → Bool
  | [] => true
  | x :: xs => okP x && okPs xs
end
def vEqP (d e : D) (Q : Bool → Prop) : Prop := okP d = true ∧ okP e = true ∧ SeqAt.shaped (toP d) = true ∧ SeqAt.shaped (toP e) = true ∧ Q (PyData.eqv (toP d) (toP e))
def vEq : V2
  | .int i, .int j, Q => Q (.bl (decide (i = j)))
  | .str i, .str j, Q => Q (.bl (decide (i = j)))
  | .bl i, .bl j, Q => Q (.bl (decide (i = j)))
  | d, e, Q => vEqP d e fun b => Q (.bl b)
def vNe : V2
  | .int i, .int j, Q => Q (.bl (!decide (i = j)))
  | .str i, .str j, Q => Q (.bl (!decide (i = j)))
  | .bl i, .bl j, Q => Q (.bl (!decide (i = j)))
  | d, e, Q => vEqP d e fun b => Q (.bl (!b))
section
variable {X : Cx}
section
variable {K : PySem.W.Frag} {F H : Hp} {d e : D} {x y : V} {Q : D → Prop} {Q' : VK}
theorem dp_ints {K : PySem.W.Frag} {H : Hp} : ∀ ns : List Int, DpAll K H (ns.map V.int) (ns.map PyData.int)
  | [] => .nil
  | n :: r => .cons (.int n) (dp_ints r)
mutual
theorem dp_of (s : Same F H) : ∀ (d : D) (v : V), okP d = true → Rep K F d v → Dp K H v (toP d)
  | .non, _, _, r => by rw [show _ = V.non from r]; exact .non
  | .bl b, _, _, r => by rw [show _ = V.bl b from r]; exact .bl b
  | .int b, _, _, r => by rw [show _ = V.int b from r]; exact .int b
  | .str b, _, _, r => by rw [show _ = V.str b from r]; exact .str b
  | .scr ns, _, _, ⟨a, h1, h2⟩ => by rw [h1]; exact .lst (s.seq h2) (dp_ints ns)
  | .tup xs, _, h, ⟨a, vs, h1, h2, h3⟩ => by rw [h1]; exact .tup (sqt_of s h2) (dps_of s xs vs h h3)
  | .lst xs, _, h, ⟨a, vs, h1, h2, h3⟩ => by rw [h1]; exact .lst (.inl (.inl (s _ _ h2))) (dps_of s xs vs h h3)
  | .raw _, _, h, _ => nomatch h
  | .dic _ _, _, h, _ => nomatch h
  | .dct _ _, _, h, _ => nomatch h
  | .obj _ _ _, _, h, _ => nomatch h
theorem dps_of (s : Same F H) : ∀ (xs : List D) (vs : List V), okPs xs = true → RepL K F xs vs → DpAll K H vs (toPs xs)
  | [], _, _, h => by rw [show _ = [] from h]; exact .nil
  | x :: xs, _, h, ⟨v, r, h1, h2, h3⟩ => by
    rw [h1]
    have h' : okP x = true ∧ okPs xs = true := Bool.and_eq_true_iff.mp h
    exact .cons (dp_of s x v h'.1 h2) (dps_of s xs r h'.2 h3)
end
end
theorem qo_add : OpR X (binaryOp .Add) (upV2 X.K vAdd) := by
  intro pins s σ H x y v u Q' I rx ry ⟨F, d, e, Q, sm, r1, r2, h, g⟩
  unfold vAdd at h
  split at h
  · cases r1; cases r2
    exact op_add pins s σ H _ _ v u Q' I rx ry ⟨_, _, rfl, rfl, g.i sm h⟩
  · obtain ⟨a, vs, rfl, h2, h3⟩ := r1
    obtain ⟨b, ws, rfl, k2, k3⟩ := r2
    refine op_cat pins s σ H _ _ v u Q' I rx ry ⟨a, b, vs, ws, rfl, rfl, sm _ _ h2, sm _ _ k2, by rw [← h3.length, ← k3.length]; exact h.1, fun p hp => ?_⟩
    exact g.lst sm (RepL.append h3 k3) h.2 hp
  · obtain ⟨a, vs, rfl, h2, h3⟩ := r1
    obtain ⟨b, ws, rfl, k2, k3⟩ := r2
    refine op_catT pins s σ H _ _ v u Q' I rx ry ⟨a, b, vs, ws, rfl, rfl, sqt_of sm h2, sqt_of sm k2, fun z => ?_, by rw [← h3.length, ← k3.length]; exact h.1.2, fun z => ?_, fun _ p hp => ?_⟩
    · exact h.1.1 (by have e := h3.length; rw [z] at e; exact List.length_eq_zero_iff.mp e)
    · have e := k3.length
      rw [z] at e
      have e' := List.length_eq_zero_iff.mp e
      rw [e', List.append_nil] at h
      exact g.flat sm (z := .tup _) ⟨a, vs, rfl, h2, h3⟩ h.2
    · exact g.tup sm (RepL.append h3 k3) h.2 hp
  · cases r1; cases r2
    exact op_add_str pins s σ H _ _ v u Q' I rx ry ⟨_, _, rfl, rfl, h.1, g.s sm h.2⟩
  · exact h.elim
theorem qo_sub : OpR X (binaryOp .Sub) (upV2 X.K vSub) := by
  intro pins s σ H x y v u Q' I rx ry ⟨F, d, e, Q, sm, r1, r2, h, g⟩
  unfold vSub at h
  split at h
  · cases r1; cases r2
    exact op_sub pins s σ H _ _ v u Q' I rx ry ⟨_, _, rfl, rfl, g.i sm h⟩
  · exact h.elim
theorem rep_flat {K : PySem.W.Frag} {F : Hp} {xs : List D} {vs : List V} (r : RepL K F xs vs) : ∀ n : Nat, RepL K F (List.replicate n xs).flatten (List.replicate n vs).flatten
  | 0 => rfl
  | n + 1 => by
    rw [List.replicate_succ, List.replicate_succ, List.flatten_cons, List.flatten_cons]
    exact RepL.append r (rep_flat r n)
theorem qo_mul : OpR X (binaryOp .Mult) (upV2 X.K vMul) := by
  intro pins s σ H x y v u Q' I rx ry ⟨F, d, e, Q, sm, r1, r2, h, g⟩
  unfold vMul at h
  split at h
  · cases r1; cases r2
    rcases h.1 with c | c
    · exact op_mulW pins s σ H _ _ v u Q' I rx ry ⟨_, _, rfl, rfl, c, g.i sm h.2⟩
    · exact op_mul pins s σ H _ _ v u Q' I rx ry ⟨_, _, rfl, rfl, c, g.i sm h.2⟩
  · cases r2
    obtain ⟨a, vs, rfl, h2, h3⟩ := r1
    refine op_rep pins s σ H _ _ v u Q' I rx ry ⟨a, _, vs, rfl, rfl, sm _ _ h2, h.1.1, h.1.2.1, by rw [← h3.length]; exact h.1.2.2, fun p hp => ?_⟩
    exact g.lst sm (rep_flat h3 _) h.2 hp
  · exact h.elim
theorem qo_div : OpR X (binaryOp .FloorDiv) (upV2 X.K vDiv) := by
  intro pins s σ H x y v u Q' I rx ry ⟨F, d, e, Q, sm, r1, r2, h, g⟩
  unfold vDiv at h
  split at h
  · cases r1; cases r2
    exact op_fdivW pins s σ H _ _ v u Q' I rx ry ⟨_, _, rfl, rfl, h.1, g.i sm h.2⟩
  · exact h.elim
theorem qo_mod : OpR X (binaryOp .Mod) (upV2 X.K vMod) := by
  intro pins s σ H x y v u Q' I rx ry ⟨F, d, e, Q, sm, r1, r2, h, g⟩
  unfold vMod at h
  split at h
  · cases r1; cases r2
    exact op_mod pins s σ H _ _ v u Q' I rx ry ⟨_, _, rfl, rfl, h.1, g.i sm h.2⟩
  · exact h.elim
theorem qo_pow : OpR X (binaryOp .Pow) (upV2 X.K vPow) := by
  intro pins s σ H x y v u Q' I rx ry ⟨F, d, e, Q, sm, r1, r2, h, g⟩
  unfold vPow at h
  split at h
  · cases r1; cases r2
    exact op_pow pins s σ H _ _ v u Q' I rx ry ⟨_, _, rfl, rfl, h.1, g.i sm h.2⟩
  · exact h.elim
theorem qo_neg : UnR X (unaryOp .USub) (upV1 X.K vNeg) := by
  intro pins s σ H x v Q' I rx ⟨F, d, Q, sm, r1, h, g⟩
  unfold vNeg at h
  split at h
  · cases r1
    exact un_neg pins s σ H _ v Q' I rx ⟨_, rfl, g.i sm h⟩
  · exact h.elim
theorem qo_lt : OpR X (compareOp .Lt) (upV2 X.K vLt) := by
  intro pins s σ H x y v u Q' I rx ry ⟨F, d, e, Q, sm, r1, r2, h, g⟩
  unfold vLt at h
  split at h
  · cases r1; cases r2
    exact op_lt pins s σ H _ _ v u Q' I rx ry ⟨_, _, rfl, rfl, g.b sm h⟩
  · exact h.elim
theorem qo_le : OpR X (compareOp .LtE) (upV2 X.K vLe) := by
  intro pins s σ H x y v u Q' I rx ry ⟨F, d, e, Q, sm, r1, r2, h, g⟩
  unfold vLe at h
  split at h
  · cases r1; cases r2
    exact op_le pins s σ H _ _ v u Q' I rx ry ⟨_, _, rfl, rfl, g.b sm h⟩
  · exact h.elim
theorem qo_gt : OpR X (compareOp .Gt) (upV2 X.K vGt) := by
  intro pins s σ H x y v u Q' I rx ry ⟨F, d, e, Q, sm, r1, r2, h, g⟩
  unfold vGt at h
  split at h
  · cases r1; cases r2
    exact op_gt pins s σ H _ _ v u Q' I rx ry ⟨_, _, rfl, rfl, g.b sm h⟩
  · exact h.elim
theorem qo_ge : OpR X (compareOp .GtE) (upV2 X.K vGe) := by
  intro pins s σ H x y v u Q' I rx ry ⟨F, d, e, Q, sm, r1, r2, h, g⟩
  unfold vGe at h
  split at h
  · cases r1; cases r2
    exact op_ge pins s σ H _ _ v u Q' I rx ry ⟨_, _, rfl, rfl, g.b sm h⟩
  · exact h.elim
theorem isNon_rep {K : PySem.W.Frag} {F : Hp} : ∀ {d : D} {v : V}, (∀ u, d ≠ .raw u) → Rep K F d v → decide (v = V.non) = isNon d
  | .non, _, _, r => by rw [show _ = V.non from r]; rfl
  | .bl b, _, _, r => by rw [show _ = V.bl b from r]; rfl
  | .int b, _, _, r => by rw [show _ = V.int b from r]; rfl
  | .str b, _, _, r => by rw [show _ = V.str b from r]; rfl
  | .raw u, _, n, _ => absurd rfl (n u)
  | .scr ns, _, _, ⟨a, h1, _⟩ => by rw [h1]; rfl
  | .tup xs, _, _, ⟨a, vs, h1, _⟩ => by rw [h1]; rfl
  | .lst xs, _, _, ⟨a, vs, h1, _⟩ => by rw [h1]; rfl
  | .dic _ _, _, _, ⟨a, h1, _⟩ => by rw [h1]; rfl
  | .dct _ _, _, _, ⟨a, h1, _⟩ => by rw [h1]; rfl
  | .obj _ _ _, _, _, ⟨a, _, _, h1, _⟩ => by rw [h1]; rfl
theorem qo_isN : OpR X (compareOp .Is) (upV2 X.K vIsN) := by
  intro pins s σ H x y v u Q' I rx ry ⟨F, d, e, Q, sm, r1, r2, h, g⟩
  unfold vIsN at h
  split at h
  · exact h.elim
  · rename_i hn
    cases r2
    exact op_isN pins s σ H _ _ v u Q' I rx ry ⟨rfl, by rw [isNon_rep (fun u z => hn u z) r1]; exact g.b sm h⟩
  · exact h.elim
theorem qo_notN : OpR X (compareOp .IsNot) (upV2 X.K vNotN) := by
  intro pins s σ H x y v u Q' I rx ry ⟨F, d, e, Q, sm, r1, r2, h, g⟩
  unfold vNotN at h
  split at h
  · exact h.elim
  · rename_i hn
    cases r2
    exact op_notN pins s σ H _ _ v u Q' I rx ry ⟨rfl, by rw [isNon_rep (fun u z => hn u z) r1]; exact g.b sm h⟩
  · exact h.elim
theorem qo_eq (hu : X.A.units + 64 < cLine) : OpR X (compareOp .Eq) (upV2 X.K vEq) := by
  intro pins s σ H x y v u Q' I rx ry ⟨F, d, e, Q, sm, r1, r2, h, g⟩
  unfold vEq at h
  split at h
  · cases r1; cases r2
    exact op_eq pins s σ H _ _ v u Q' I rx ry ⟨rfl, by rw [show ∀ i j : Int, decide (V.int i = V.int j) = decide (i = j) from fun i j => by simp]; exact g.b sm h⟩
  · cases r1; cases r2
    exact op_eq pins s σ H _ _ v u Q' I rx ry ⟨rfl, by rw [show ∀ i j : Str, decide (V.str i = V.str j) = decide (i = j) from fun i j => by simp]; exact g.b sm h⟩
  · cases r1; cases r2
    exact op_eq pins s σ H _ _ v u Q' I rx ry ⟨rfl, by rw [show ∀ i j : Bool, decide (V.bl i = V.bl j) = decide (i = j) from fun i j => by simp]; exact g.b sm h⟩
  · obtain ⟨o1, o2, s1, s2, q⟩ := h
    exact op_eqD hu pins s σ H _ _ v u Q' I rx ry ⟨_, _, dp_of sm _ _ o1 r1, dp_of sm _ _ o2 r2, s1, s2, g.b sm q⟩
theorem qo_ne (hu : X.A.units + 64 < cLine) : OpR X (compareOp .NotEq) (upV2 X.K vNe) := by
  intro pins s σ H x y v u Q' I rx ry ⟨F, d, e, Q, sm, r1, r2, h, g⟩
  unfold vNe at h
  split at h
  · cases r1; cases r2
    exact op_ne pins s σ H _ _ v u Q' I rx ry ⟨rfl, by rw [show ∀ i j : Int, decide (V.int i = V.int j) = decide (i = j) from fun i j => by simp]; exact g.b sm h⟩
  · cases r1; cases r2
    exact op_ne pins s σ H _ _ v u Q' I rx ry ⟨rfl, by rw [show ∀ i j : Str, decide (V.str i = V.str j) = decide (i = j) from fun i j => by simp]; exact g.b sm h⟩
  · cases r1; cases r2
    exact op_ne pins s σ H _ _ v u Q' I rx ry ⟨rfl, by rw [show ∀ i j : Bool, decide (V.bl i = V.bl j) = decide (i = j) from fun i j => by simp]; exact g.b sm h⟩
  · obtain ⟨o1, o2, s1, s2, q⟩ := h
    exact op_neD hu pins s σ H _ _ v u Q' I rx ry ⟨_, _, dp_of sm _ _ o1 r1, dp_of sm _ _ o2 r2, s1, s2, g.b sm q⟩
end
end QL
set_option Elab.async false
set_option linter.all false
set_option maxRecDepth 100000
namespace QL
open PySem PySem.Spec PyProof.Rows L2
/-! ### what lets out: an exception as a datum -/
def RepX (K : PySem.W.Frag) (F : Hp) : D → Value → Option Addr → Prop
  | .obj C ns xs, cls, dx => cls = .ref C ∧ ∃ da fs, dx = some da ∧ F da = some (.xd fs) ∧ fs.map (·.1) = ns ∧ RepL K F xs (fs.map (·.2))
  | _, _, _ => False
theorem RepX.mono {K : PySem.W.Frag} {F F' : Hp} (e : Same F F') : ∀ {d : D} {cls : Value} {dx : Option Addr}, RepX K F d cls dx → RepX K F' d cls dx
  | .obj C ns xs, _, _, ⟨h1, da, fs, h2, h3, h4, h5⟩ => ⟨h1, da, fs, h2, e _ _ h3, h4, RepL.mono e _ _ h5⟩
  | .non, _, _, h => h.elim
  | .bl _, _, _, h => h.elim
  | .int _, _, _, h => h.elim
  | .str _, _, _, h => h.elim
  | .raw _, _, _, h => h.elim
  | .scr _, _, _, h => h.elim
  | .tup _, _, _, h => h.elim
  | .lst _, _, _, h => h.elim
  | .dic _ _, _, _, h => h.elim
  | .dct _ _, _, _, h => h.elim
def WEx (K : PySem.W.Frag) (bx : Bx) (EX : XD) : WX := fun cls dx σ H => ∃ env F ed, ER K bx F env σ H ∧ RepX K F ed cls dx ∧ EX ed env
def TkE (X : Cx) (bx : Bx) (EX : XD) : Prop := ∀ σ, PassesAt (L2.CX X.prog X.w) X σ (fun cls dx H => WEx X.K bx EX cls dx σ H)
abbrev EX0 : XD := fun _ _ => False
theorem tkE0 {X : Cx} {bx : Bx} : TkE X bx EX0 := fun σ _ _ _ _ _ _ h => by
  obtain ⟨_, _, _, _, _, _, _, _, _, _, _, _, _, _, _, _, _, z⟩ := h
  exact z.elim
theorem tkE_of {X : Cx} {bx : Bx} {EX : XD} (tk : Takes X (WEx X.K bx EX)) : TkE X bx EX := fun σ => passAt tk σ

/-! ### promises -/
abbrev FA := List D → (D → Prop) → (D → Prop) → Prop
abbrev FB := D → List D → (D → D → Prop) → (D → D → Prop) → Prop
/-- a call that leaves all as it was -/
def spA (K : PySem.W.Frag) (n : Nat) (S : FA) : Sp := fun vs H Q' E' => ∃ F ds Q E, ds.length = n ∧ Same F H ∧ RepL K F ds vs ∧ S ds Q E ∧ Gr K F H Q Q' ∧
  ∀ ed cls dx F' H', Grow F H F' H' → RepX K F' ed cls dx → E ed → E' cls dx H'
/-- all but the object at a -/
structure GrowB (a : Addr) (F H F' H' : Hp) : Prop where
  e : Same F F'
  sf : Same F' H'
  sh : ∀ b o, H b = some o → b ≠ a → H' b = some o
  hn : ∀ b, F b = none → Hard H b → F' b = none
/-- a call that changes the object in its first place -/
def spB (K : PySem.W.Frag) (n : Nat) (M : FB) : Sp := fun vs H Q' E' => ∃ F a ho d0 ds ws Q E, ds.length = n ∧ vs = .ref a :: ws ∧ Same F H ∧ F a = none ∧ H a = some ho ∧ OwnH K F d0 ho ∧ RepL K F ds ws ∧ M d0 ds Q E ∧
  (∀ z u d' ho' F' H', GrowB a F H F' H' → H' a = some ho' → OwnH K F' d' ho' → Rep K F' z u → Q z d' → Q' u H') ∧
  (∀ ed cls dx d' ho' F' H', GrowB a F H F' H' → H' a = some ho' → OwnH K F' d' ho' → RepX K F' ed cls dx → E ed d' → E' cls dx H')
section
variable {K : PySem.W.Frag} {bx : Bx} {F F' H H' : Hp} {env : List Slot} {σ : L2.St}
theorem set_some {α : Type} {l : List α} {i j : Nat} {x y : α} (h : (l.set i x)[j]? = some y) : (i = j ∧ x = y ∧ i < l.length) ∨ (i ≠ j ∧ l[j]? = some y) := by
  by_cases e : i = j
  · subst e
    have hl : i < l.length := by
      have := (List.getElem?_eq_some_iff.mp h).1
      simpa using this
    rw [List.getElem?_set_self hl] at h
    exact .inl ⟨rfl, Option.some.inj h, hl⟩
  · rw [List.getElem?_set_ne e] at h
    exact .inr ⟨e, h⟩
/-- the object of slot i has changed -/
theorem ER.setOwn {i : Nat} {a : Addr} {d0 d' : D} {ho' : HO} (R : ER K bx F env σ H) (hi : env[i]? = some (.own d0)) (hs : σ[i]? = some (some (.ref a))) (g : GrowB a F H F' H') (ha : H' a = some ho') (o : OwnH K F' d' ho') : ER K bx F' (env.set i (.own d')) σ H' := by
  obtain ⟨oa, h1, a', ho, h2, h3, h4, h5, h6⟩ := R.slots i _ hi
  rw [hs] at h1; cases h1; cases h2
  refine ⟨fun b q z => g.sh b q (R.sb b q z) (fun e => by rw [e, h4] at z; cases z), g.sf, by rw [List.length_set]; exact R.len, fun j s hj => ?_, fun j k d e c hj hk sj sk => ?_, fun c hc => ?_, R.f0.trans g.e, fun c h1 h2 => g.hn c (R.fz c h1 h2) (R.bh h2)⟩
  · rcases set_some hj with ⟨rfl, rfl, _⟩ | ⟨hne, hj⟩
    · exact ⟨_, hs, a, ho', rfl, g.hn a h3 (OwnH.hard h5 h6), h4, ha, o⟩
    · obtain ⟨q, k1, k2⟩ := R.slots j s hj
      refine ⟨q, k1, ?_⟩
      cases s with
      | un => trivial
      | val d => obtain ⟨v, k3, k4⟩ := k2; exact ⟨v, k3, Rep.mono g.e _ _ k4⟩
      | own d =>
        obtain ⟨c, hc, k3, k4, k5, k6, k7⟩ := k2
        have hca : c ≠ a := fun z => by
          subst z
          rw [k3] at k1
          exact hne (R.sep i j _ _ c hi hj hs k1)
        exact ⟨c, hc, k3, g.hn c k4 (OwnH.hard k6 k7), k5, g.sh c hc k6 hca, OwnH.mono g.e k7⟩
  · have own : ∀ {m : Nat} {d : D}, (env.set i (.own d'))[m]? = some (.own d) → ∃ d2, env[m]? = some (.own d2) := fun {m d} hm => by
      rcases set_some hm with ⟨rfl, _, _⟩ | ⟨_, hm⟩
      · exact ⟨_, hi⟩
      · exact ⟨_, hm⟩
    obtain ⟨d2, hj2⟩ := own hj
    obtain ⟨e2, hk2⟩ := own hk
    exact R.sep j k d2 e2 c hj2 hk2 sj sk
  · obtain ⟨k1, d, k2⟩ := R.io c hc
    refine ⟨k1, ?_⟩
    by_cases h0 : i = 0
    · subst h0
      exact ⟨d', by rw [List.getElem?_set_self (List.getElem?_eq_some_iff.mp hi).1]⟩
    · exact ⟨d, by rw [List.getElem?_set_ne h0]; exact k2⟩
/-- slot i takes a datum -/
theorem ER.setVal {i : Nat} {d : D} {v : V} (R : ER K bx F env σ H) (hio : bx.io = none ∨ i ≠ 0) (r : Rep K F d v) : ER K bx F (env.set i (.val d)) (σ.set i (some v)) H := by
  refine ⟨R.sb, R.sf, by rw [List.length_set, List.length_set]; exact R.len, fun j s hj => ?_, fun j k d1 e c hj hk sj sk => ?_, fun c hc => ?_, R.f0, R.fz⟩
  · rcases set_some hj with ⟨rfl, rfl, hl⟩ | ⟨hne, hj⟩
    · exact ⟨_, by rw [List.getElem?_set_self (by rw [← R.len]; exact hl)], v, rfl, r⟩
    · obtain ⟨q, k1, k2⟩ := R.slots j s hj
      exact ⟨q, by rw [List.getElem?_set_ne hne]; exact k1, k2⟩
  · have old : ∀ {m : Nat} {d2 : D}, (env.set i (.val d))[m]? = some (.own d2) → (σ.set i (some v))[m]? = some (some (V.ref c)) → env[m]? = some (.own d2) ∧ σ[m]? = some (some (V.ref c)) := fun {m d2} hm sm => by
      rcases set_some hm with ⟨rfl, z, _⟩ | ⟨hne, hm⟩
      · cases z
      · rw [List.getElem?_set_ne hne] at sm; exact ⟨hm, sm⟩
    obtain ⟨a1, a2⟩ := old hj sj
    obtain ⟨b1, b2⟩ := old hk sk
    exact R.sep j k _ _ c a1 b1 a2 b2
  · obtain ⟨k1, d2, k2⟩ := R.io c hc
    have h0 : i ≠ 0 := hio.elim (fun z => by rw [z] at hc; cases hc) id
    exact ⟨by rw [List.getElem?_set_ne h0]; exact k1, d2, by rw [List.getElem?_set_ne h0]; exact k2⟩
/-- slot i takes a new object of its own -/
theorem ER.setNew {i : Nat} {d : D} {a : Addr} {ho : HO} (R : ER K bx F env σ H) (hio : bx.io = none ∨ i ≠ 0) (l : Lone bx F env σ H a) (ha : H a = some ho) (o : OwnH K F d ho) : ER K bx F (env.set i (.own d)) (σ.set i (some (.ref a))) H := by
  refine ⟨R.sb, R.sf, by rw [List.length_set, List.length_set]; exact R.len, fun j s hj => ?_, fun j k d1 e c hj hk sj sk => ?_, fun c hc => ?_, R.f0, R.fz⟩
  · rcases set_some hj with ⟨rfl, rfl, hl⟩ | ⟨hne, hj⟩
    · exact ⟨_, by rw [List.getElem?_set_self (by rw [← R.len]; exact hl)], a, ho, rfl, l.f, l.b, ha, o⟩
    · obtain ⟨q, k1, k2⟩ := R.slots j s hj
      exact ⟨q, by rw [List.getElem?_set_ne hne]; exact k1, k2⟩
  · rcases set_some hj with ⟨rfl, _, hl⟩ | ⟨hne, hj⟩
    · rcases set_some hk with ⟨rfl, _, _⟩ | ⟨hne2, hk⟩
      · rfl
      · rw [List.getElem?_set_self (by rw [← R.len]; exact hl)] at sj
        cases sj
        rw [List.getElem?_set_ne hne2] at sk
        exact absurd sk (l.o k _ hk)
    · rcases set_some hk with ⟨rfl, _, hl⟩ | ⟨hne2, hk⟩
      · rw [List.getElem?_set_self (by rw [← R.len]; exact hl)] at sk
        cases sk
        rw [List.getElem?_set_ne hne] at sj
        exact absurd sj (l.o j _ hj)
      · rw [List.getElem?_set_ne hne] at sj
        rw [List.getElem?_set_ne hne2] at sk
        exact R.sep j k _ _ c hj hk sj sk
  · obtain ⟨k1, d2, k2⟩ := R.io c hc
    have h0 : i ≠ 0 := hio.elim (fun z => by rw [z] at hc; cases hc) id
    exact ⟨by rw [List.getElem?_set_ne h0]; exact k1, d2, by rw [List.getElem?_set_ne h0]; exact k2⟩
/-- what slot i owns becomes a datum -/
theorem ER.thaw {i : Nat} {d : D} {a : Addr} (R : ER K bx F env σ H) (hio : bx.io = none ∨ i ≠ 0) (hi : env[i]? = some (.own d)) : ∃ a ho, σ[i]? = some (some (.ref a)) ∧ H a = some ho ∧ F a = none ∧ ER K bx (upd F a ho) (env.set i (.val d)) σ H ∧ Rep K (upd F a ho) d (.ref a) := by
  obtain ⟨oa, h1, a', ho, h2, h3, h4, h5, h6⟩ := R.slots i _ hi
  cases h2
  have hl := (List.getElem?_eq_some_iff.mp hi).1
  refine ⟨a', ho, h1, h5, h3, ⟨R.sb, same_upd3 R.sf h5, by rw [List.length_set]; exact R.len, fun j s hj => ?_, fun j k d1 e c hj hk sj sk => ?_, fun c hc => ?_, R.f0.trans (same_upd h3), fun c k1 k2 => by
    rw [upd_ne (fun z => k2.ne (by rw [z]; exact h4))]
    exact R.fz c k1 k2⟩, OwnH.rep h3 h6⟩
  · rcases set_some hj with ⟨rfl, rfl, hl⟩ | ⟨hne, hj⟩
    · exact ⟨_, h1, _, rfl, OwnH.rep h3 h6⟩
    · obtain ⟨q, k1, k2⟩ := R.slots j s hj
      refine ⟨q, k1, ?_⟩
      cases s with
      | un => trivial
      | val d => obtain ⟨v, k3, k4⟩ := k2; exact ⟨v, k3, Rep.mono (same_upd h3) _ _ k4⟩
      | own d =>
        obtain ⟨c, hc, k3, k4, k5, k6, k7⟩ := k2
        refine ⟨c, hc, k3, ?_, k5, k6, OwnH.mono (same_upd h3) k7⟩
        rw [upd_ne (fun z => by
          subst z
          rw [k3] at k1
          exact hne (R.sep i j _ _ c hi hj h1 k1))]
        exact k4
  · rcases set_some hj with ⟨_, z, _⟩ | ⟨_, hj⟩
    · cases z
    · rcases set_some hk with ⟨_, z, _⟩ | ⟨_, hk⟩
      · cases z
      · exact R.sep j k _ _ c hj hk sj sk
  · obtain ⟨k1, d2, k2⟩ := R.io c hc
    have h0 : i ≠ 0 := hio.elim (fun z => by rw [z] at hc; cases hc) id
    exact ⟨k1, d2, by rw [List.getElem?_set_ne h0]; exact k2⟩
end
section
variable {X : Cx} {bx : Bx} {e a b : Expr} {es : List Expr} {te ta tb : RE} {t : RA} {pos : Pos} {i : Nat}
/-! ### a name -/
/-- a name of the def: a datum; what it owns becomes one -/
def rVarO (i : Nat) : RE := fun env Q => match env[i]? with
  | some (.val d) => Q d env
  | some (.own d) => Q d (env.set i (.val d))
  | _ => False
theorem q_varO (h : L2.PE X e (tVar i)) (hio : bx.io = none ∨ i ≠ 0) : QE X bx e (rVarO i) := pe_imp h fun σ H Q' ⟨env, F, Q, R, ht, k⟩ => by
  unfold rVarO at ht
  split at ht
  · rename_i d hd
    obtain ⟨o, h1, v, h2, h3⟩ := R.slots i _ hd
    exact ⟨v, by rw [h1, h2], k d v env F H (Same.refl _) R h3 ht⟩
  · rename_i d hd
    obtain ⟨a, ho, h1, h2, h3, R', r⟩ := R.thaw (a := 0) hio hd
    exact ⟨.ref a, h1, k d (.ref a) _ _ H (same_upd h3) R' r ht⟩
  · exact ht.elim
/-! ### arguments, displays -/
def rNil : RA := fun env Q => Q [] env
def rCons (te : RE) (t : RA) : RA := fun env Q => te env fun d env1 => t env1 fun ds env2 => Q (d :: ds) env2
def rStar (te : RE) (t : RA) : RA := fun env Q => te env fun d env1 => match d with
  | .tup xs => t env1 fun ds env2 => Q (xs ++ ds) env2
  | .lst xs => t env1 fun ds env2 => Q (xs ++ ds) env2
  | _ => False
theorem qa_nil : QA X bx [] rNil := pa_imp pa_nil fun σ H Q' ⟨env, F, Q, R, ht, k⟩ => k [] [] env F H (Same.refl _) R rfl ht
theorem qa_cons (ha : QE X bx e te) (hr : QA X bx es t) (hs : starEach (e :: es) X.env = (false, eval e X.env) :: starEach es X.env := by rfl) : QA X bx (e :: es) (rCons te t) := pa_imp (pa_cons ha hr hs) fun σ H Q' ⟨env, F, Q, R, ht, k⟩ =>
  ⟨env, F, _, R, ht, fun d v env1 F1 H1 s1 R1 r1 q1 => ⟨env1, F1, _, R1, q1, fun ds vs env2 F2 H2 s2 R2 r2 q2 => k (d :: ds) (v :: vs) env2 F2 H2 (s1.trans s2) R2 ⟨v, vs, rfl, Rep.mono s2 _ _ r1, r2⟩ q2⟩⟩
def rTup (t : RA) : RE := fun env Q => t env fun ds env1 => ds.length ≤ sizeLine ∧ Q (.tup ds) env1
def rLst (t : RA) : RE := fun env Q => t env fun ds env1 => ds.length ≤ sizeLine ∧ Q (.lst ds) env1
theorem q_tup {x1} (h : QA X bx es t) : QE X bx (.Tuple es x1 pos) (rTup t) := pe_imp (pe_tup h) fun σ H Q' ⟨env, F, Q, R, ht, k⟩ =>
  ⟨env, F, _, R, ht, fun ds vs env1 F1 H1 s1 R1 r1 q1 => ⟨by rw [← r1.length]; exact q1.1, fun p hp => k (.tup ds) (.ref p) env1 (upd F1 p (.tup vs)) _ (s1.trans (same_upd (R1.sf.free hp))) (R1.laid hp) ⟨p, vs, rfl, upd_same, RepL.mono (same_upd (R1.sf.free hp)) _ _ r1⟩ q1.2⟩⟩
theorem q_lstN (h : QA X bx es t) : QN X bx (.List es pos) (rLst t) := pe_imp (pe_lst h) fun σ H Q' ⟨env, F, Q, R, ht, k⟩ =>
  ⟨env, F, _, R, ht, fun ds vs env1 F1 H1 s1 R1 r1 q1 => ⟨by rw [← r1.length]; exact q1.1, fun p hp => k (.lst ds) p (.lst vs) env1 F1 _ s1 (R1.laid0 hp) (R1.lone hp) upd_same ⟨vs, rfl, r1⟩ q1.2⟩⟩
theorem q_lst (h : QA X bx es t) : QE X bx (.List es pos) (rLst t) := (q_lstN h).qe

/-! ### subscripts -/
def vIx : V2
  | .lst xs, .int i, Q => ∃ d, atI xs i = some d ∧ Q d
  | .tup xs, .int i, Q => ∃ d, atI xs i = some d ∧ Q d
  | .scr ns, .int i, Q => ∃ n, atI ns i = some n ∧ Q (.int n)
  | _, _, _ => False
theorem atI_rep {K : PySem.W.Frag} {F : Hp} {xs : List D} {vs : List V} {i : Int} {d : D} (r : RepL K F xs vs) (h : atI xs i = some d) : ∃ v, atI vs i = some v ∧ Rep K F d v := by
  unfold atI at h ⊢
  rw [← r.length]
  cases e : ixN xs.length i with
  | none => rw [e] at h; cases h
  | some j => rw [e] at h; exact r.get h
theorem atI_map {ns : List Int} {i n : Int} (h : atI ns i = some n) : atI (ns.map V.int) i = some (V.int n) := by
  unfold atI at h ⊢
  rw [List.length_map]
  cases e : ixN ns.length i with
  | none => rw [e] at h; cases h
  | some j => rw [e] at h; show (ns.map V.int)[j]? = _; rw [List.getElem?_map, show ns[j]? = some n from h]; rfl
theorem qi_ix : IxR X (upV2 X.K vIx) := by
  intro value slice pins s σ H x y v u Q' I rx ry ⟨F, d, e, Q, sm, r1, r2, h, g⟩ hs
  unfold vIx at h
  split at h
  · obtain ⟨a, vs, rfl, h2, h3⟩ := r1
    cases r2
    obtain ⟨z, hz, q⟩ := h
    obtain ⟨w, hw, rw⟩ := atI_rep h3 hz
    exact ix_list value slice pins s σ H _ _ v u Q' I rx ry ⟨a, vs, _, w, rfl, rfl, .inl (.inl (sm _ _ h2)), hw, g.flat sm rw q⟩ hs
  · obtain ⟨a, vs, rfl, h2, h3⟩ := r1
    cases r2
    obtain ⟨z, hz, q⟩ := h
    obtain ⟨w, hw, rw⟩ := atI_rep h3 hz
    exact ix_tup value slice pins s σ H _ _ v u Q' I rx ry ⟨a, vs, _, w, rfl, rfl, sqt_of sm h2, hw, g.flat sm rw q⟩ hs
  · obtain ⟨a, rfl, h2⟩ := r1
    cases r2
    obtain ⟨z, hz, q⟩ := h
    exact ix_list value slice pins s σ H _ _ v u Q' I rx ry ⟨a, _, _, _, rfl, rfl, sm.seq h2, atI_map hz, g.i sm q⟩ hs
  · exact h.elim
theorem q_ix (ha : QE X bx a ta) (hb : QE X bx b tb) (hs : PlainIx b := by exact fun _ _ => rfl) : QE X bx (.Subscript a b pos) (rOp vIx ta tb) := pe_imp (pe_ix qi_ix ha hb hs) fun _ _ _ => op_up
/-- an item of what a slot owns -/
def rIxO (i : Nat) (tb : RE) : RE := fun env Q => (∃ d, env[i]? = some (.own d)) ∧ tb env fun j env1 => match env1[i]? with
  | some (.own d) => vIx d j fun z => Q z env1
  | _ => False
theorem own_ix {K : PySem.W.Frag} {bx : Bx} {F H : Hp} {env : List Slot} {σ : L2.St} (R : ER K bx F env σ H) {i : Nat} {d : D} (hi : env[i]? = some (.own d)) : ∃ a ho, σ[i]? = some (some (.ref a)) ∧ H a = some ho ∧ F a = none ∧ OwnH K F d ho := by
  obtain ⟨oa, h1, a', ho, h2, h3, h4, h5, h6⟩ := R.slots i _ hi
  cases h2
  exact ⟨a', ho, h1, h5, h3, h6⟩
theorem q_ixO (h : L2.PE X a (tVar i)) (hb : QE X bx b tb) (hs : PlainIx b := by exact fun _ _ => rfl) : QE X bx (.Subscript a b pos) (rIxO i tb) := pe_imp (pe_ix ix_list h hb hs) fun σ H Q' ⟨env, F, Q, R, ⟨⟨d, hd⟩, ht⟩, k⟩ => by
  obtain ⟨p, ho, h1, h2, h3, h4⟩ := own_ix R hd
  refine ⟨.ref p, h1, env, F, _, R, ht, fun j w env1 F1 H1 s1 R1 r1 q1 => ?_⟩
  split at q1
  · rename_i d1 hd1
    obtain ⟨p1, ho1, g1, g2, g3, g4⟩ := own_ix R1 hd1
    rw [h1] at g1
    cases g1
    unfold vIx at q1
    split at q1
    · obtain ⟨vs, rfl, h6⟩ := g4
      cases r1
      obtain ⟨z, hz, q⟩ := q1
      obtain ⟨u, hu, ru⟩ := atI_rep h6 hz
      exact ⟨p, vs, _, u, rfl, rfl, .inl (.inl g2), hu, k z u env1 F1 H1 s1 R1 ru q⟩
    · exact g4.elim
    · exact g4.elim
    · exact q1.elim
  · exact q1.elim

/-! ### calls -/
def rCall (S : FA) (n : Nat) (EX : XD) (t : RA) : RE := fun env Q => t env fun ds env1 => ds.length = n ∧ S ds (fun d => Q d env1) fun ed => EX ed env1
theorem q_call {k n : Nat} {f : Addr} {fd : FuncData} {ps : List Str} {S : FA} {x : Str} {EX : XD} {p : Pos} (Fn : FnOk X.prog X.w X.K X.mg X.base (L2.CX X.prog X.w) k f fd ps (spA X.K n S)) (hr : Room k X.A) (hg : Gl X x) (hm : X.mg x = some (.ref f)) (hk : PySem.W.keepIn X.K (.ref f) = true)
    (hb : Binds X.K fd ps []) (tk : TkE X bx EX) (ha : QA X bx (e :: es) t) (hdb : (x == ("__debug__" : Str)) = false := by decide) (he : starEach (e :: es) X.env = (false, eval e X.env) :: starEach es X.env := by rfl) (hpl : (backTo pos (starEach es X.env)).any (·.1) = false := by rfl) :
    QE X bx (.Call (.Name x p) (e :: es) [] pos) (rCall S n EX t) := pe_imp (pe_callS Fn hr hg hm hk hb tk ha hdb he hpl) fun σ H Q' ⟨env, F, Q, R, ht, kk⟩ =>
  ⟨env, F, _, R, ht, fun ds vs env1 F1 H1 s1 R1 r1 q1 => ⟨F1, ds, _, _, q1.1, R1.sf, r1, q1.2, fun z u F2 H2 g r2 q2 => kk z u env1 F2 H2 (s1.trans g.e) (R1.to g) r2 q2,
    fun ed cls dx F2 H2 g rx ex => ⟨env1, F2, ed, R1.to g, rx, ex⟩⟩⟩
/-- f(x, e, ..), f changes what slot i owns -/
def rCallM (i : Nat) (M : FB) (n : Nat) (EX : XD) (t : RA) : RE := fun env Q => (∃ d, env[i]? = some (.own d)) ∧ t env fun ds env1 => match env1[i]? with
  | some (.own d0) => ds.length = n ∧ M d0 ds (fun d d' => Q d (env1.set i (.own d'))) fun ed d' => EX ed (env1.set i (.own d'))
  | _ => False
theorem callM_up {i n : Nat} {M : FB} {EX : XD} {σ : L2.St} {H : Hp} {Q' : VK} (h : up X.K bx (rCallM i M n EX t) σ H Q') :
    ∃ a, σ[i]? = some (some (.ref a)) ∧ upA X.K bx t σ H fun vs H1 => spB X.K n M (.ref a :: vs) H1 Q' fun cls dx H => WEx X.K bx EX cls dx σ H := by
  obtain ⟨env, F, Q, R, ⟨⟨d, hd⟩, ht⟩, kk⟩ := h
  obtain ⟨a, ho, h1, h2, h3, h4⟩ := own_ix R hd
  refine ⟨a, h1, env, F, _, R, ht, fun ds vs env1 F1 H1 s1 R1 r1 q1 => ?_⟩
  split at q1
  · rename_i d1 hd1
    obtain ⟨p1, ho1, g1, g2, g3, g4⟩ := own_ix R1 hd1
    rw [h1] at g1
    cases g1
    exact ⟨F1, a, ho1, d1, ds, vs, _, _, q1.1, rfl, R1.sf, g3, g2, g4, r1, q1.2,
      fun z u d' ho' F2 H2 g ha o r2 q2 => kk z u (env1.set i (.own d')) F2 H2 (s1.trans g.e) (R1.setOwn hd1 h1 g ha o) r2 q2,
      fun ed cls dx d' ho' F2 H2 g ha o rx ex => ⟨env1.set i (.own d'), F2, ed, R1.setOwn hd1 h1 g ha o, rx, ex⟩⟩
  · exact q1.elim
theorem q_callM {k n : Nat} {f : Addr} {fd : FuncData} {ps : List Str} {M : FB} {x : Str} {EX : XD} {p : Pos} (Fn : FnOk X.prog X.w X.K X.mg X.base (L2.CX X.prog X.w) k f fd ps (spB X.K n M)) (hr : Room k X.A) (hg : Gl X x) (hm : X.mg x = some (.ref f)) (hk : PySem.W.keepIn X.K (.ref f) = true)
    (hb : Binds X.K fd ps []) (tk : TkE X bx EX) (hv : L2.PE X e (tVar i)) (ha : QA X bx es t) (hdb : (x == ("__debug__" : Str)) = false := by decide) (he : starEach (e :: es) X.env = (false, eval e X.env) :: starEach es X.env := by rfl) (hpl : (backTo pos (starEach es X.env)).any (·.1) = false := by rfl) :
    QE X bx (.Call (.Name x p) (e :: es) [] pos) (rCallM i M n EX t) := pe_imp (pe_callS Fn hr hg hm hk hb tk (pa_cons hv ha he) hdb he hpl) fun σ H Q' h => by
  obtain ⟨a, h1, h2⟩ := callM_up h
  exact ⟨_, h1, h2⟩
/-- built-ins -/
def rCB (r : VL) (t : RA) : RE := fun env Q => t env fun ds env1 => r ds fun z => Q z env1
theorem cb_up {r : VL} {σ : L2.St} {H : Hp} {Q' : VK} : up X.K bx (rCB r t) σ H Q' → upA X.K bx t σ H fun vs H1 => upVL X.K r vs H1 Q' := fun ⟨env, F, Q, R, ht, k⟩ =>
  ⟨env, F, _, R, ht, fun ds vs env1 F1 H1 s1 R1 r1 q1 => ⟨F1, ds, _, R1.sf, r1, q1, fun z u F2 H2 g r2 q2 => k z u env1 F2 H2 (s1.trans g.e) (R1.to g) r2 q2⟩⟩
theorem q_callB {x : Str} {id : String} {r : VL} {p : Pos} (hc : CallR X (.builtin id) (upVL X.K r)) (hg : Gl X x) (hm : X.mg x = none) (hv : bootBuiltins x = some (.builtin id)) (ha : QA X bx (e :: es) t) (hn : x ≠ "__name__" := by decide) (hdb : (x == ("__debug__" : Str)) = false := by decide)
    (he : starEach (e :: es) X.env = (false, eval e X.env) :: starEach es X.env := by rfl) (hpl : (backTo pos (starEach es X.env)).any (·.1) = false := by rfl) : QE X bx (.Call (.Name x p) (e :: es) [] pos) (rCB r t) := pe_imp (pe_callB hc hg hm hv ha hn hdb he hpl) fun _ _ _ => cb_up
theorem q_callTy {x : Str} {id : String} {r : VL} {p : Pos} (hc : CallR X (.type id) (upVL X.K r)) (hg : Gl X x) (hm : X.mg x = none) (hv : bootBuiltins x = some (.type id)) (ha : QA X bx (e :: es) t) (hn : x ≠ "__name__" := by decide) (hdb : (x == ("__debug__" : Str)) = false := by decide)
    (he : starEach (e :: es) X.env = (false, eval e X.env) :: starEach es X.env := by rfl) (hpl : (backTo pos (starEach es X.env)).any (·.1) = false := by rfl) : QE X bx (.Call (.Name x p) (e :: es) [] pos) (rCB r t) := pe_imp (pe_callTy hc hg hm hv ha hn hdb he hpl) fun _ _ _ => cb_up
end
end QL
set_option Elab.async false
set_option linter.all false
set_option maxRecDepth 100000
namespace QL
open PySem PySem.Spec PyProof.Rows L2
theorem ownLst {K : PySem.W.Frag} {F : Hp} {xs : List D} {vs : List V} (h : RepL K F xs vs) : OwnH K F (.lst xs) (.lst vs) := ⟨vs, rfl, h⟩
theorem RepL.two {K : PySem.W.Frag} {F : Hp} {d e : D} {vs : List V} (h : RepL K F [d, e] vs) : ∃ v w, vs = [v, w] ∧ Rep K F d v ∧ Rep K F e w := by
  obtain ⟨v, r, rfl, rd, w, r', rfl, re, z⟩ := h
  rw [show r' = [] from z]
  exact ⟨v, w, rfl, rd, re⟩
theorem RepL.three {K : PySem.W.Frag} {F : Hp} {d e f : D} {vs : List V} (h : RepL K F [d, e, f] vs) : ∃ v w u, vs = [v, w, u] ∧ Rep K F d v ∧ Rep K F e w ∧ Rep K F f u := by
  obtain ⟨v, r, rfl, rd, h⟩ := h
  obtain ⟨w, u, rfl, re, rf⟩ := RepL.two h
  exact ⟨v, w, u, rfl, rd, re, rf⟩
/-! ### targets -/
abbrev RG := D → List Slot → (List Slot → Prop) → Prop
abbrev RGs := List D → List Slot → (List Slot → Prop) → Prop
/-- only places of P change -/
def Only' (P : Nat → Prop) (σ σ' : L2.St) : Prop := σ'.length = σ.length ∧ ∀ j : Nat, ¬ P j → σ'[j]? = σ[j]?
theorem Only'.refl {P : Nat → Prop} {σ : L2.St} : Only' P σ σ := ⟨rfl, fun _ _ => rfl⟩
theorem Only'.trans {P : Nat → Prop} {σ σ1 σ2 : L2.St} (a : Only' P σ σ1) (b : Only' P σ1 σ2) : Only' P σ σ2 := ⟨b.1.trans a.1, fun j h => (b.2 j h).trans (a.2 j h)⟩
theorem Only'.set {P : Nat → Prop} {σ : L2.St} {i : Nat} {v : Option V} (h : P i) : Only' P σ (σ.set i v) := ⟨by rw [List.length_set], fun j hj => by rw [List.getElem?_set_ne (fun e => hj (by rw [← e]; exact h))]⟩
def upG (K : PySem.W.Frag) (bx : Bx) (P : Nat → Prop) (g : RG) : TG := fun v σ H Q' => ∃ env F d Q, ER K bx F env σ H ∧ Rep K F d v ∧ g d env Q ∧ ∀ env' F' σ' H', Same F F' → ER K bx F' env' σ' H' → Only' P σ σ' → Q env' → Q' σ' H'
def upGs (K : PySem.W.Frag) (bx : Bx) (P : Nat → Prop) (g : RGs) : TGs := fun vs σ H Q' => ∃ env F ds Q, ER K bx F env σ H ∧ RepL K F ds vs ∧ g ds env Q ∧ ∀ env' F' σ' H', Same F F' → ER K bx F' env' σ' H' → Only' P σ σ' → Q env' → Q' σ' H'
abbrev anyP : Nat → Prop := fun _ => True
abbrev QG (X : Cx) (bx : Bx) (P : Nat → Prop) (tg : Expr) (g : RG) : Prop := L2.PG X tg (upG X.K bx P g)
abbrev QGs (X : Cx) (bx : Bx) (P : Nat → Prop) (tg : List Expr) (g : RGs) : Prop := L2.PGs X tg (upGs X.K bx P g)
def rgN (i : Nat) : RG := fun d env Q => Q (env.set i (.val d))
def rgNil : RGs := fun ds env Q => ds = [] ∧ Q env
def rgCons (g : RG) (gs : RGs) : RGs := fun ds env Q => match ds with
  | [] => False
  | d :: r => g d env fun env1 => gs r env1 Q
def rgT (n : Nat) (gs : RGs) : RG := fun d env Q => match d with
  | .tup xs => xs.length = n ∧ gs xs env Q
  | _ => False
section
variable {X : Cx} {bx : Bx} {e a b tg : Expr} {es tgs : List Expr} {te ta tb : RE} {t : RA} {pos : Pos} {i : Nat} {g : RG} {gs : RGs} {P : Nat → Prop}
theorem pg_imp {t t' : TG} (h : L2.PG X e t) (i : ∀ v σ H Q, t' v σ H Q → t v σ H Q) : L2.PG X e t' := ⟨fun pins s σ H v u Q I r q => h.run pins s σ H v u Q I r (i v σ H Q q)⟩
theorem pgs_imp {t t' : TGs} (h : L2.PGs X es t) (i : ∀ v σ H Q, t' v σ H Q → t v σ H Q) : L2.PGs X es t' := ⟨fun pins s σ H v u Q I r q => h.run pins s σ H v u Q I r (i v σ H Q q)⟩
theorem qg_n (h : L2.PG X tg (gName i)) (hio : bx.io = none ∨ i ≠ 0) (hP : P i := by first | trivial | decide) : QG X bx P tg (rgN i) := pg_imp h fun v σ H Q' ⟨env, F, d, Q, R, r, hg, k⟩ => k _ F _ H (Same.refl _) (R.setVal hio r) (Only'.set hP) hg
theorem qgs_nil : QGs X bx P [] rgNil := pgs_imp pgs_nil fun v σ H Q' ⟨env, F, ds, Q, R, r, hg, k⟩ => by
  obtain ⟨rfl, q⟩ := hg
  exact ⟨r, k env F σ H (Same.refl _) R Only'.refl q⟩
theorem qgs_cons (h1 : QG X bx P tg g) (h2 : QGs X bx P tgs gs) (hs : (assignEach (tg :: tgs) X.env).map (·.2) = assign tg X.env :: (assignEach tgs X.env).map (·.2) := by rfl) : QGs X bx P (tg :: tgs) (rgCons g gs) := pgs_imp (pgs_cons h1 h2 hs) fun v σ H Q' ⟨env, F, ds, Q, R, r, hg, k⟩ => by
  cases ds with
  | nil => exact hg.elim
  | cons d rest =>
    obtain ⟨v1, vs, rfl, r1, r2⟩ := r
    exact ⟨v1, vs, rfl, env, F, d, _, R, r1, hg, fun env1 F1 σ1 H1 s1 R1 o1 q1 => ⟨env1, F1, rest, Q, R1, RepL.mono s1 _ _ r2, q1, fun env2 F2 σ2 H2 s2 R2 o2 q2 => k env2 F2 σ2 H2 (s1.trans s2) R2 (o1.trans o2) q2⟩⟩
theorem qg_t {k n : Nat} (hc : X.calm = true) (h : QGs X bx P tgs gs) (hn : (assignEach tgs X.env).length = n := by rfl) (hst : (assignEach tgs X.env).findIdx? (·.1) = none := by rfl) : QG X bx P (.Tuple tgs k pos) (rgT n gs) := pg_imp (pg_tup hc h hn hst) fun v σ H Q' ⟨env, F, d, Q, R, r, hg, kk⟩ => by
  unfold rgT at hg
  split at hg
  · obtain ⟨p, vs, rfl, h2, h3⟩ := r
    exact ⟨p, vs, rfl, sqt_of R.sf h2, by rw [← h3.length]; exact hg.1, env, F, _, Q, R, h3, hg.2, kk⟩
  · exact hg.elim

/-! ### statements -/
def sNil : RS := fun en env => en.nx env
def sSeq (t u : RS) : RS := fun en env => t { en with nx := fun env' => u en env' } env
def sAsg (te : RE) (g : RG) : RS := fun en env => te env fun d env1 => g d env1 en.nx
def sOwn (i : Nat) (te : RE) : RS := fun en env => te env fun d env1 => en.nx (env1.set i (.own d))
def sDrop (te : RE) : RS := fun en env => te env fun _ env1 => en.nx env1
def sRet (te : RE) : RS := fun en env => te env en.rt
def sRetN : RS := fun en env => en.rt .non env
def sIf (c : RB) (t u : RS) : RS := fun en env => c env fun b env1 => if b = true then t en env1 else u en env1
def sBrk : RS := fun en env => en.bk env
def sCnt : RS := fun en env => en.ct env
def sPass : RS := fun en env => en.nx env
def sNever : RS := fun _ _ => False
variable {st : Stmt} {sts : List Stmt} {ts us : RS}
theorem qs_nil : QSs X bx [] sNil := pss_imp pss_nil fun Dn σ H ⟨env, F, en, R, ht, k, _⟩ => k env F σ H (Same.refl _) R ht
theorem seq_up {σ : L2.St} {H : Hp} {Dn : Ends} : upS X.K bx (sSeq ts us) Dn σ H → tSeq (upS X.K bx ts) (upS X.K bx us) Dn σ H := fun ⟨env, F, en, R, ht, k1, k2, k3, k4⟩ =>
  ⟨env, F, _, R, ht, fun env' F' σ' H' s R' q => ⟨env', F', en, R', q, fun env2 F2 σ2 H2 s2 => k1 env2 F2 σ2 H2 (s.trans s2), fun d v env2 F2 σ2 H2 s2 => k2 d v env2 F2 σ2 H2 (s.trans s2), fun env2 F2 σ2 H2 s2 => k3 env2 F2 σ2 H2 (s.trans s2), fun env2 F2 σ2 H2 s2 => k4 env2 F2 σ2 H2 (s.trans s2)⟩, k2, k3, k4⟩
theorem qs_cons (h : QS X bx st ts) (g : QSs X bx sts us) : QSs X bx (st :: sts) (sSeq ts us) := pss_imp (pss_cons h g) fun _ _ _ => seq_up
theorem qs_one (h : QS X bx st ts) : QSs X bx [st] ts := pss_one h
theorem qs_asg (he : QE X bx e te) (hg : QG X bx anyP tg g) (hs : swapsWithSole [tg] e pos.line X.env = pure false := by rfl) (hw : swappedStores [tg] e X.env = pure none := by rfl) (h1 : (assignEach [tg] X.env).map (·.2) = [assign tg X.env] := by rfl) : QS X bx (.Assign [tg] e pos) (sAsg te g) := ps_imp (ps_asg he hg hs hw h1) fun Dn σ H ⟨env, F, en, R, ht, k, _⟩ =>
  ⟨env, F, _, R, ht, fun d v env1 F1 H1 s1 R1 r1 q1 => ⟨env1, F1, d, _, R1, r1, q1, fun env2 F2 σ2 H2 s2 R2 _ q2 => k env2 F2 σ2 H2 (s1.trans s2) R2 q2⟩⟩
theorem qs_set {x : Str} {pos' : Pos} (hN : X.N.Nodup) (hi : X.N[i]? = some x) (hx : Loc X.env.scope x) (hio : bx.io = none ∨ i ≠ 0) (he : QE X bx e te) (hs : swapsWith e (some (.Name x pos')) pos.line X.env = pure false := by rfl) (hf : X.fn x = true ∨ X.env.scope.names.lookup x = some .local := by first | exact .inl rfl | exact .inr rfl | assumption) :
    QS X bx (.Assign [.Name x pos'] e pos) (sAsg te (rgN i)) := ps_imp (ps_set hN hi hx he hs hf) fun Dn σ H ⟨env, F, en, R, ht, k, _⟩ =>
  ⟨env, F, _, R, ht, fun d v env1 F1 H1 s1 R1 r1 q1 => k _ F1 _ H1 s1 (R1.setVal hio r1) q1⟩
theorem qs_own {x : Str} {pos' : Pos} (hN : X.N.Nodup) (hi : X.N[i]? = some x) (hx : Loc X.env.scope x) (hio : bx.io = none ∨ i ≠ 0) (he : QN X bx e te) (hs : swapsWith e (some (.Name x pos')) pos.line X.env = pure false := by rfl) (hf : X.fn x = true ∨ X.env.scope.names.lookup x = some .local := by first | exact .inl rfl | exact .inr rfl | assumption) :
    QS X bx (.Assign [.Name x pos'] e pos) (sOwn i te) := ps_imp (ps_set hN hi hx he hs hf) fun Dn σ H ⟨env, F, en, R, ht, k, _⟩ =>
  ⟨env, F, _, R, ht, fun d p ho env1 F1 H1 s1 R1 l hp o q1 => k _ F1 _ H1 s1 (R1.setNew hio l hp o) q1⟩
theorem qs_expr (he : QE X bx e te) (hs : swapsWith e none pos.line X.env = pure false := by rfl) : QS X bx (.Expr e pos) (sDrop te) := ps_imp (ps_expr he hs) fun Dn σ H ⟨env, F, en, R, ht, k, _⟩ =>
  ⟨env, F, _, R, ht, fun d v env1 F1 H1 s1 R1 r1 q1 => k env1 F1 σ H1 s1 R1 q1⟩
theorem qs_ret (he : QE X bx e te) : QS X bx (.Return (some e) pos) (sRet te) := ps_imp (ps_ret he) fun Dn σ H ⟨env, F, en, R, ht, _, k, _⟩ =>
  ⟨env, F, _, R, ht, fun d v env1 F1 H1 s1 R1 r1 q1 => k d v env1 F1 σ H1 s1 R1 r1 q1⟩
theorem qs_if {c : Expr} {sa sb : List Stmt} {tc : RB} (hc : QT X bx c tc) (ha : QSs X bx sa ts) (hb : QSs X bx sb us) : QS X bx (.If c sa sb pos) (sIf tc ts us) := ps_imp (ps_if hc ha hb) fun Dn σ H ⟨env, F, en, R, ht, k1, k2, k3, k4⟩ =>
  ⟨env, F, _, R, ht, fun b env1 F1 H1 s R1 q1 => by
    cases b with
    | true =>
      rw [if_pos rfl] at q1 ⊢
      exact ⟨env1, F1, en, R1, q1, fun env2 F2 σ2 H2 s2 => k1 env2 F2 σ2 H2 (s.trans s2), fun d v env2 F2 σ2 H2 s2 => k2 d v env2 F2 σ2 H2 (s.trans s2), fun env2 F2 σ2 H2 s2 => k3 env2 F2 σ2 H2 (s.trans s2), fun env2 F2 σ2 H2 s2 => k4 env2 F2 σ2 H2 (s.trans s2)⟩
    | false =>
      rw [if_neg Bool.false_ne_true] at q1 ⊢
      exact ⟨env1, F1, en, R1, q1, fun env2 F2 σ2 H2 s2 => k1 env2 F2 σ2 H2 (s.trans s2), fun d v env2 F2 σ2 H2 s2 => k2 d v env2 F2 σ2 H2 (s.trans s2), fun env2 F2 σ2 H2 s2 => k3 env2 F2 σ2 H2 (s.trans s2), fun env2 F2 σ2 H2 s2 => k4 env2 F2 σ2 H2 (s.trans s2)⟩⟩
/-- a, b = e1, e2 -/
def sPar (i j : Nat) (t : RA) : RS := fun en env => t env fun ds env1 => match ds with
  | [d, e] => en.nx ((env1.set i (.val d)).set j (.val e))
  | _ => False
theorem qs_par {j : Nat} {x y : Str} {px py pt : Pos} {kt k2 pt2} (hc : X.calm = true) (hN : X.N.Nodup) (hi : X.N[i]? = some x) (hj : X.N[j]? = some y) (hij : i ≠ j) (hio : bx.io = none ∨ i ≠ 0) (hio2 : bx.io = none ∨ j ≠ 0)
    (hx : X.env.scope.names.lookup x = some .local) (hy : X.env.scope.names.lookup y = some .local) (ha : QA X bx [a, b] t)
    (hw : swappedStores [.Tuple [.Name x px, .Name y py] kt pt] (.Tuple [a, b] k2 pt2) X.env = pure (some [x, y]))
    (hs : swapsWithSole [.Tuple [.Name x px, .Name y py] kt pt] (.Tuple [a, b] k2 pt2) pos.line X.env = pure false := by rfl) :
    QS X bx (.Assign [.Tuple [.Name x px, .Name y py] kt pt] (.Tuple [a, b] k2 pt2) pos) (sPar i j t) := ps_imp (ps_par hc hN hi hj hij hx hy ha hw hs) fun Dn σ H ⟨env, F, en, R, ht, k, _⟩ =>
  ⟨env, F, _, R, ht, fun ds vs env1 F1 H1 s1 R1 r1 q1 => by
    split at q1
    · obtain ⟨v, w, rfl, rd, re⟩ := RepL.two r1
      exact ⟨v, w, rfl, k _ F1 _ H1 s1 ((R1.setVal hio rd).setVal hio2 re) q1⟩
    · exact q1.elim⟩
def sPar3 (i j l : Nat) (t : RA) : RS := fun en env => t env fun ds env1 => match ds with
  | [d, e, f] => en.nx (((env1.set i (.val d)).set j (.val e)).set l (.val f))
  | _ => False
/-- x op= e -/
def sAug (i : Nat) (r : V2) (te : RE) : RS := fun en env => match env[i]? with
  | some (.val d) => te env fun e env1 => r d e fun z => en.nx (env1.set i (.val z))
  | _ => False
def IpQ (X : Cx) (op : Operator) (r : V2) : Prop := PIp X op (upV2 X.K r)
def vIAdd : V2
  | .int i, .int j, Q => Q (.int (i + j))
  | _, _, _ => False
def vISub : V2
  | .int i, .int j, Q => Q (.int (i - j))
  | _, _, _ => False
theorem qip_add : IpQ X .Add vIAdd := by
  intro pins s σ H x y v u Q' I rx ry ⟨F, d, e, Q, sm, r1, r2, h, g⟩
  unfold vIAdd at h
  split at h
  · cases r1; cases r2
    exact ip_add pins s σ H _ _ v u Q' I rx ry ⟨_, _, rfl, rfl, g.i sm h⟩
  · exact h.elim
theorem qs_aug {x : Str} {op : Operator} {r : V2} {pos' : Pos} (hN : X.N.Nodup) (hi : X.N[i]? = some x) (hx : Loc X.env.scope x) (hio : bx.io = none ∨ i ≠ 0) (ho : IpQ X op r) (he : QE X bx e te) (hf : X.fn x = true ∨ X.env.scope.names.lookup x = some .local := by first | exact .inl rfl | exact .inr rfl | assumption) :
    QS X bx (.AugAssign (.Name x pos') op e pos) (sAug i r te) := ps_imp (ps_aug hN hi hx he ho hf) fun Dn σ H ⟨env, F, en, R, ht, k, _⟩ => by
  unfold sAug at ht
  split at ht
  · rename_i d hd
    obtain ⟨o, h1, v, rfl, h3⟩ := R.slots i _ hd
    exact ⟨v, h1, env, F, _, R, ht, fun e w env1 F1 H1 s1 R1 r1 q1 => ⟨F1, d, e, _, R1.sf, Rep.mono s1 _ _ h3, r1, q1, fun z u F2 H2 g r2 q2 => k _ F2 _ H2 (s1.trans g.e) ((R1.to g).setVal hio r2) q2⟩⟩
  · exact ht.elim
/-! what a slot owns: lists -/
def sApp (i : Nat) (te : RE) : RS := fun en env => (∃ xs, env[i]? = some (.own (.lst xs))) ∧ te env fun d env1 => match env1[i]? with
  | some (.own (.lst xs)) => xs.length < sizeLine ∧ en.nx (env1.set i (.own (.lst (xs ++ [d]))))
  | _ => False
theorem growB_upd {F H : Hp} {a : Addr} {o : HO} (s : Same F H) (h : F a = none) : GrowB a F H F (upd H a o) :=
  ⟨Same.refl _, same_upd2 s h, fun b q z hb => by rw [upd_ne hb]; exact z, fun b h1 h2 => h1⟩
/-- x.pop() -/
def rPopO (i : Nat) : RE := fun env Q => match env[i]? with
  | some (.own (.lst xs)) => ∃ d, xs[xs.length - 1]? = some d ∧ Q d (env.set i (.own (.lst xs.dropLast)))
  | _ => False
theorem RepL.dropLast {K : PySem.W.Frag} {F : Hp} {xs : List D} {vs : List V} (h : RepL K F xs vs) : RepL K F xs.dropLast vs.dropLast := by
  rw [List.dropLast_eq_take, List.dropLast_eq_take, h.length]
  exact RepL.take _ h
/-- x[j] = e, x[j] op= e -/
def sPut (i : Nat) (te tj : RE) : RS := fun en env => te env fun d env1 => (∃ xs, env1[i]? = some (.own (.lst xs))) ∧ tj env1 fun j env2 => match env2[i]? with
  | some (.own (.lst xs)) => (match j with
    | .int k => ∃ n, ixN xs.length k = some n ∧ en.nx (env2.set i (.own (.lst (xs.set n d))))
    | _ => False)
  | _ => False
theorem get_list : PGet X (rIxL X.K) := by
  intro pins s σ H x y v u Q I rx ry h
  obtain ⟨p, xs, i, z, rfl, rfl, hq, he, q⟩ := h
  cases rx
  obtain ⟨t, rfl⟩ := ry
  obtain ⟨its, r, pl, hz⟩ := I.list hq
  obtain ⟨j, h1, h2, h3, h4, h5⟩ := atI_get he
  obtain ⟨w, ew, rw'⟩ := r.get h2
  have hl := r.length
  have hn := line63
  have fin : EP X pins σ Q w s := ⟨z, H, I, rw', q⟩
  by_cases h0 : 0 ≤ i
  · have hj : i.toNat = j := by
      rw [seqIndex_of h0 h5] at h1
      exact Option.some.inj h1
    exact wpAny_getItem_list pl.isList h0 (by omega) (by rw [hj]; simpa using ew) fin
  · have hj : (i + (its.toArray.size : Int)).toNat = j := by
      rw [seqIndex_neg (by omega) h4] at h1
      rw [List.size_toArray, ← hl]
      exact Option.some.inj h1
    exact wpAny_getItem_list_neg pl.isList (by omega) (by rw [List.size_toArray] <;> omega) (by omega) (by rw [hj]; simpa using ew) fin
def sAugI (i : Nat) (r : V2) (tj te : RE) : RS := fun en env => (∃ xs, env[i]? = some (.own (.lst xs))) ∧ tj env fun j env1 => match env1[i]? with
  | some (.own (.lst xs)) => (match j with
    | .int k => ∃ d, atI xs k = some d ∧ te env1 fun e env2 => r d e fun z => match env2[i]? with
      | some (.own (.lst ys)) => ∃ n, ixN ys.length k = some n ∧ en.nx (env2.set i (.own (.lst (ys.set n z))))
      | _ => False
    | _ => False)
  | _ => False
theorem qs_augI {o j : Expr} {tj : RE} {r : V2} {op : Operator} {p' : Pos} (ho : L2.PE X o (tVar i)) (hj : QE X bx j tj) (hp : IpQ X op r) (he : QE X bx e te)
    (ha : ∀ ov iv new, augStore j ov iv new = (do holding [new, ov, iv] (setItem ov iv new); release [new, ov, iv] []; pure .next) := by intros; rfl) : QS X bx (.AugAssign (.Subscript o j p') op e pos) (sAugI i r tj te) := ps_imp (ps_augS ho hj get_list he hp set_list ha) fun Dn σ H ⟨env, F, en, R, ⟨⟨xs, hx⟩, ht⟩, k, _⟩ => by
  obtain ⟨a, ho, h1, h2, h3, ⟨vs, rfl, h4⟩⟩ := own_ix R hx
  refine ⟨.ref a, h1, env, F, _, R, ht, fun z w env1 F1 H1 s1 R1 r1 q1 => ?_⟩
  split at q1
  · rename_i ys hy
    obtain ⟨a', ho', f1, f2, f3, ⟨ws, rfl, f4⟩⟩ := own_ix R1 hy
    rw [h1] at f1; cases f1
    split at q1
    · cases r1
      obtain ⟨d, hd, q2⟩ := q1
      obtain ⟨v, hv, rv⟩ := atI_rep f4 hd
      refine ⟨a, ws, _, v, rfl, rfl, .inl (.inl f2), hv, env1, F1, _, R1, q2, fun e w env2 F2 H2 s2 R2 r2 q3 => ⟨F2, d, e, _, R2.sf, Rep.mono s2 _ _ rv, r2, q3, fun z u F3 H3 g r3 q4 => ?_⟩⟩
      split at q4
      · rename_i zs hz
        have R3 := R2.to g
        obtain ⟨a', ho', e1, e2, e3, ⟨us, rfl, e4⟩⟩ := own_ix R3 hz
        rw [h1] at e1; cases e1
        obtain ⟨n, hn, q5⟩ := q4
        exact ⟨a, us, _, n, rfl, rfl, e2, by rw [← e4.length]; exact hn, k _ F3 σ _ ((s1.trans s2).trans g.e) (R3.setOwn hz h1 (growB_upd R3.sf e3) upd_same (ownLst (RepL.set n e4 r3))) q5⟩
      · exact q4.elim
    · exact q1.elim
  · exact q1.elim
end
end QL
set_option Elab.async false
set_option linter.all false
set_option maxRecDepth 100000
namespace QL
open PySem PySem.Spec PyProof.Rows L2
/-! ### what is walked -/
/-- the iterator J gives the data xs, one after another, as long as F0 stands frozen -/
structure Wk (K : PySem.W.Frag) (F0 : Hp) (J : It) (xs : List D) : Prop where
  go : ∀ (i : Nat) (F H : Hp), Same F0 F → Same F H → i < xs.length → J.go i H
  yl : ∀ (i : Nat) (F H : Hp) (v : V) (H' : Hp), Same F0 F → Same F H → i < xs.length → J.yld i H v H' → ∃ F' d, Grow F H F' H' ∧ xs[i]? = some d ∧ Rep K F' d v
  st : ∀ (i : Nat) (F H : Hp), Same F0 F → Same F H → xs.length ≤ i → J.stop i H
theorem wk_tup {K : PySem.W.Frag} {F0 : Hp} {a : Addr} {vs : List V} {xs : List D} (h : SqT K F0 a vs) (r : RepL K F0 xs vs) : Wk K F0 (Itt K a) xs where
  go := fun i F H s1 s2 hi => by
    rw [r.length] at hi
    exact ⟨vs, vs[i], same_sqt s2 (same_sqt s1 h), List.getElem?_eq_getElem hi⟩
  yl := fun i F H v H' s1 s2 hi ⟨e, y⟩ => by
    have hv := y vs (same_sqt s2 (same_sqt s1 h))
    obtain ⟨d, hd, rd⟩ := r.getV hv
    rw [e]
    exact ⟨F, d, Grow.refl s2, hd, Rep.mono s1 _ _ rd⟩
  st := fun i F H s1 s2 hi => ⟨vs, same_sqt s2 (same_sqt s1 h), by rw [← r.length]; exact hi⟩
def rng (lo : Int) (n : Nat) : List D := (List.range n).map fun i => D.int (lo + (i : Nat))
theorem wk_rng {K : PySem.W.Frag} {F0 : Hp} {lo : Int} {n : Nat} : Wk K F0 (Itr lo n) (rng lo n) where
  go := fun i F H s1 s2 hi => by
    have e : (rng lo n).length = n := by simp [rng]
    rw [e] at hi; exact hi
  yl := fun i F H v H' s1 s2 hi ⟨e, y⟩ => by
    have el : (rng lo n).length = n := by simp [rng]
    rw [el] at hi
    rw [e, y]
    refine ⟨F, .int (lo + (i : Nat)), Grow.refl s2, ?_, rfl⟩
    simp [rng, hi]
  st := fun i F H s1 s2 hi => by
    have el : (rng lo n).length = n := by simp [rng]
    rw [el] at hi; exact hi
def enumD (xs : List D) : List D := (List.range xs.length).zipWith (fun (i : Nat) d => D.tup [.int i, d]) xs
theorem enumD_get {xs : List D} {i : Nat} {d : D} (h : xs[i]? = some d) : (enumD xs)[i]? = some (.tup [.int i, d]) := by
  have hi := (List.getElem?_eq_some_iff.mp h).1
  unfold enumD
  rw [List.getElem?_zipWith, h, List.getElem?_range hi]
theorem enumD_len {xs : List D} : (enumD xs).length = xs.length := by unfold enumD; simp
theorem wk_enum {K : PySem.W.Frag} {F0 : Hp} {a : Addr} {vs : List V} {xs : List D} (h : SqL K F0 a vs) (r : RepL K F0 xs vs) : Wk K F0 (Ite K a) (enumD xs) where
  go := fun i F H s1 s2 hi => by
    rw [enumD_len, r.length] at hi
    exact ⟨vs, vs[i], s2.seq (s1.seq h), List.getElem?_eq_getElem hi⟩
  yl := fun i F H v H' s1 s2 hi ⟨T, x, e1, nT, e2, y⟩ => by
    have hv := y vs (s2.seq (s1.seq h))
    obtain ⟨d, hd, rd⟩ := r.getV hv
    rw [e1, e2]
    refine ⟨_, .tup [.int i, d], Grow.laid s2 nT, enumD_get hd, T, [.int i, x], rfl, upd_same, _, _, rfl, rfl, _, _, rfl, Rep.mono (s1.trans (same_upd (s2.free nT))) _ _ rd, rfl⟩
  st := fun i F H s1 s2 hi => ⟨vs, s2.seq (s1.seq h), by rw [← r.length, ← enumD_len]; exact hi⟩
def zipD (xs ys : List D) : List D := xs.zipWith (fun d e => D.tup [d, e]) ys
abbrev RI := List Slot → (List D → List Slot → Prop) → Prop
def upI (K : PySem.W.Frag) (bx : Bx) (t : RI) : TI := fun σ H R' => ∃ env F Q, ER K bx F env σ H ∧ t env Q ∧ ∀ xs env' F' H' J, Same F F' → ER K bx F' env' σ H' → Wk K F' J xs → Q xs env' → R' J H'
abbrev QI (X : Cx) (bx : Bx) (tg iter : Expr) (t : RI) : Prop := L2.PI X tg iter (upI X.K bx t)
def itD : D → Option (List D)
  | .lst xs => some xs
  | .tup xs => some xs
  | _ => none
def riL (te : RE) : RI := fun env Q => te env fun d env1 => match d with
  | .lst xs => Q xs env1
  | .scr ns => Q (ns.map D.int) env1
  | _ => False
def riT (te : RE) : RI := fun env Q => te env fun d env1 => match d with
  | .tup xs => Q xs env1
  | _ => False
def riR1 (t : RA) : RI := fun env Q => t env fun ds env1 => match ds with
  | [.int j] => (-(2 ^ 62) ≤ j ∧ j < 2 ^ 62) ∧ Q (rng 0 j.toNat) env1
  | _ => False
def riR2 (t : RA) : RI := fun env Q => t env fun ds env1 => match ds with
  | [.int i, .int j] => (-(2 ^ 62) ≤ i ∧ i < 2 ^ 62 ∧ -(2 ^ 62) ≤ j ∧ j < 2 ^ 62) ∧ Q (rng i (j - i).toNat) env1
  | _ => False
def riE (t : RA) : RI := fun env Q => t env fun ds env1 => match ds with
  | [.lst xs] => Q (enumD xs) env1
  | _ => False
def riZ (t : RA) : RI := fun env Q => t env fun ds env1 => match ds with
  | [.lst xs, .lst ys] => Q (zipD xs ys) env1
  | _ => False
section
variable {X : Cx} {bx : Bx} {e a b tg iter : Expr} {es : List Expr} {te : RE} {t : RA} {pos : Pos}
theorem pi_imp {w w' : TI} (h : L2.PI X tg iter w) (i : ∀ σ H Q, w' σ H Q → w σ H Q) : L2.PI X tg iter w' := ⟨fun pins s σ H R I q => h.run pins s σ H R I (i σ H R q)⟩
theorem qi_l (h : QE X bx e te) : QI X bx tg e (riL te) := pi_imp (pi_list h) fun σ H Q' ⟨env, F, Q, R, ht, k⟩ => ⟨env, F, _, R, ht, fun d v env1 F1 H1 s1 R1 r1 q1 => by
  split at q1
  · obtain ⟨a, vs, rfl, h2, h3⟩ := r1
    exact ⟨a, rfl, ⟨vs, .inl (.inl (R1.sf _ _ h2))⟩, k _ env1 F1 H1 _ s1 R1 ⟨fun i F H s1 s2 hi => by
      rw [h3.length] at hi
      exact ⟨vs, vs[i], .inl (.inl (s2 _ _ (s1 _ _ h2))), List.getElem?_eq_getElem hi⟩, fun i F H v H' s1 s2 hi ⟨e, y⟩ => by
      have hv := y vs (.inl (.inl (s2 _ _ (s1 _ _ h2))))
      obtain ⟨d, hd, rd⟩ := h3.getV hv
      rw [e]
      exact ⟨F, d, Grow.refl s2, hd, Rep.mono s1 _ _ rd⟩, fun i F H s1 s2 hi => ⟨vs, .inl (.inl (s2 _ _ (s1 _ _ h2))), by rw [← h3.length]; exact hi⟩⟩ q1⟩
  · obtain ⟨a, rfl, h2⟩ := r1
    rename_i ns
    have h3 : RepL X.K F1 (ns.map D.int) (ns.map V.int) := RepL.of_ints
    exact ⟨a, rfl, ⟨_, R1.sf.seq h2⟩, k _ env1 F1 H1 _ s1 R1 ⟨fun i F H s1 s2 hi => by
      rw [h3.length] at hi
      exact ⟨_, _, s2.seq (s1.seq h2), List.getElem?_eq_getElem hi⟩, fun i F H v H' s1 s2 hi ⟨e, y⟩ => by
      have hv := y _ (s2.seq (s1.seq h2))
      obtain ⟨d, hd, rd⟩ := h3.getV hv
      rw [e]
      exact ⟨F, d, Grow.refl s2, hd, Rep.mono s1 _ _ rd⟩, fun i F H s1 s2 hi => ⟨_, s2.seq (s1.seq h2), by rw [← h3.length]; exact hi⟩⟩ q1⟩
  · exact q1.elim⟩
theorem qi_t (h : QE X bx e te) : QI X bx tg e (riT te) := pi_imp (pi_tup h) fun σ H Q' ⟨env, F, Q, R, ht, k⟩ => ⟨env, F, _, R, ht, fun d v env1 F1 H1 s1 R1 r1 q1 => by
  split at q1
  · obtain ⟨a, vs, rfl, h2, h3⟩ := r1
    exact ⟨a, rfl, ⟨vs, sqt_of R1.sf h2⟩, k _ env1 F1 H1 _ s1 R1 (wk_tup (sqt0 h2) h3) q1⟩
  · exact q1.elim⟩
theorem qi_r1 {p : Pos} (hg : Gl X "range") (hm : X.mg "range" = none) (ha : QA X bx [a] t) (hs : starEach [a] X.env = [(false, eval a X.env)] := by rfl) : QI X bx tg (.Call (.Name "range" p) [a] [] pos) (riR1 t) := pi_imp (pi_range1 hg hm ha hs) fun σ H Q' ⟨env, F, Q, R, ht, k⟩ => ⟨env, F, _, R, ht, fun ds vs env1 F1 H1 s1 R1 r1 q1 => by
  split at q1
  · obtain ⟨v, r, rfl, rfl, rfl⟩ := r1
    exact ⟨_, rfl, q1.1.1, q1.1.2, k _ env1 F1 H1 _ s1 R1 wk_rng q1.2⟩
  · exact q1.elim⟩
theorem qi_r2 {p : Pos} (hg : Gl X "range") (hm : X.mg "range" = none) (ha : QA X bx [a, b] t) (hs : starEach [a, b] X.env = [(false, eval a X.env), (false, eval b X.env)] := by rfl) (hs2 : starEach [b] X.env = [(false, eval b X.env)] := by rfl) : QI X bx tg (.Call (.Name "range" p) [a, b] [] pos) (riR2 t) := pi_imp (pi_range2 hg hm ha hs hs2) fun σ H Q' ⟨env, F, Q, R, ht, k⟩ => ⟨env, F, _, R, ht, fun ds vs env1 F1 H1 s1 R1 r1 q1 => by
  split at q1
  · obtain ⟨v, w, rfl, rfl, rfl⟩ := RepL.two r1
    exact ⟨_, _, rfl, q1.1, k _ env1 F1 H1 _ s1 R1 wk_rng q1.2⟩
  · exact q1.elim⟩
/-! ### for -/
def forR (g : RG) (tb : RS) (en : PEnds) : List D → List Slot → Prop
  | [], env => en.nx env
  | x :: xs, env => g x env fun env1 => tb { en with nx := forR g tb en xs, ct := forR g tb en xs, bk := en.nx } env1
def sFor (ti : RI) (g : RG) (tb : RS) : RS := fun en env => ti env fun xs env1 => forR g tb en xs env1
theorem qs_for {body : List Stmt} {ti : RI} {g : RG} {tb : RS} (hp : PassesOwn (model X.prog X.w) X.A X.env X.xe) (hc : X.calm = true) (hi : QI X bx tg iter ti) (hg : QG X bx anyP tg g) (hb : QSs X bx body tb)
    (hs : ∀ x, foldedSetIterable iter X.env x = pure x := by intro _; rfl) : QS X bx (.For tg iter body [] pos) (sFor ti g tb) := ps_imp (ps_for hp hc hi hg hb hs) fun Dn σ H ⟨env, F, en, R, ht, k1, k2, k3, k4⟩ =>
  ⟨env, F, _, R, ht, fun xs env1 F1 H1 J s1 R1 wk q1 => by
    refine ⟨fun i m σ' H' => m = xs.length - i ∧ i ≤ xs.length ∧ ∃ env' F', Same F1 F' ∧ ER X.K bx F' env' σ' H' ∧ forR g tb en (xs.drop i) env', ⟨xs.length, rfl, Nat.zero_le _, env1, F1, Same.refl _, R1, q1⟩, ?_⟩
    rintro i m σ' H' ⟨rfl, hi, env', F', s', R', q'⟩
    by_cases hlt : i < xs.length
    · refine .inr ⟨wk.go i F' H' s' R'.sf hlt, fun σ2 H2 => ∃ env2 F2, Same F' F2 ∧ ER X.K bx F2 env2 σ2 H2 ∧ forR g tb en (xs.drop (i + 1)) env2, fun σ2 H2 ⟨env2, F2, s2, R2, q2⟩ => ⟨xs.length - (i + 1), by omega, rfl, hlt, env2, F2, s'.trans s2, R2, q2⟩, fun x H2 hy => ?_⟩
      obtain ⟨F2, d, gr, hd, rd⟩ := wk.yl i F' H' x H2 s' R'.sf hlt hy
      have ed : xs.drop i = d :: xs.drop (i + 1) := by
        rw [List.drop_eq_getElem_cons hlt]
        congr 1
        rw [List.getElem?_eq_getElem hlt] at hd
        exact Option.some.inj hd
      rw [ed] at q'
      refine ⟨env', F2, d, _, R'.to gr, rd, q', fun env3 F3 σ3 H3 s3 R3 _ q3 => ⟨env3, F3, _, R3, q3, fun env4 F4 σ4 H4 s4 R4 q4 => ⟨env4, F4, (gr.e.trans s3).trans s4, R4, q4⟩, fun d v env4 F4 σ4 H4 s4 => k2 d v env4 F4 σ4 H4 ((((s1.trans s').trans gr.e).trans s3).trans s4),
        fun env4 F4 σ4 H4 s4 => k1 env4 F4 σ4 H4 ((((s1.trans s').trans gr.e).trans s3).trans s4), fun env4 F4 σ4 H4 s4 R4 q4 => ⟨env4, F4, (gr.e.trans s3).trans s4, R4, q4⟩⟩⟩
    · have e : i = xs.length := by omega
      subst e
      rw [List.drop_length] at q'
      exact .inl ⟨wk.st _ F' H' s' R'.sf (Nat.le_refl _), k1 env' F' σ' H' (s1.trans s') R' q'⟩⟩
/-! ### while -/
def sWhl (c : RB) (tb : RS) : RS := fun en env => ∃ W : Nat → List Slot → Prop, (∃ m, W m env) ∧ ∀ m env1, W m env1 → c env1 fun b env2 => if b = true then
  tb { en with nx := fun env3 => ∃ m', m' < m ∧ W m' env3, ct := fun env3 => ∃ m', m' < m ∧ W m' env3, bk := en.nx } env2 else en.nx env2
theorem qs_whl {c : Expr} {body : List Stmt} {tc : RB} {tb : RS} (hp : PassesOwn (model X.prog X.w) X.A X.env X.xe) (hc : QT X bx c tc) (hb : QSs X bx body tb) : QS X bx (.While c body [] pos) (sWhl tc tb) := ps_imp (ps_while hp hc hb) fun Dn σ H ⟨env, F, en, R, ⟨W, ⟨m0, w0⟩, turn⟩, k1, k2, k3, k4⟩ => by
  refine ⟨fun m σ' H' => ∃ env' F', Same F F' ∧ ER X.K bx F' env' σ' H' ∧ W m env', ⟨m0, env, F, Same.refl _, R, w0⟩, ?_⟩
  rintro m σ' H' ⟨env', F', s', R', w'⟩
  refine ⟨env', F', _, R', turn m env' w', fun b env2 F2 H2 s2 R2 q2 => ?_⟩
  cases b with
  | true =>
    rw [if_pos rfl] at q2 ⊢
    refine ⟨fun σ3 H3 => ∃ env3 F3, Same F2 F3 ∧ ER X.K bx F3 env3 σ3 H3 ∧ ∃ m', m' < m ∧ W m' env3, fun σ3 H3 ⟨env3, F3, s3, R3, m', hm, w3⟩ => ⟨m', hm, env3, F3, (s'.trans s2).trans s3, R3, w3⟩, env2, F2, _, R2, q2, fun env3 F3 σ3 H3 s3 R3 q3 => ⟨env3, F3, s3, R3, q3⟩,
      fun d v env4 F4 σ4 H4 s4 => k2 d v env4 F4 σ4 H4 ((s'.trans s2).trans s4), fun env4 F4 σ4 H4 s4 => k1 env4 F4 σ4 H4 ((s'.trans s2).trans s4), fun env3 F3 σ3 H3 s3 R3 q3 => ⟨env3, F3, s3, R3, q3⟩⟩
  | false =>
    rw [if_neg Bool.false_ne_true] at q2 ⊢
    exact k1 env2 F2 σ' H2 (s'.trans s2) R2 q2
end
end QL
set_option Elab.async false
set_option linter.all false
set_option maxRecDepth 100000
namespace QL
open PySem PySem.Spec PyProof.Rows L2
/-! ### comprehensions -/
def wipeE : List Nat → List Slot → List Slot
  | [], env => env
  | i :: is, env => (wipeE is env).set i .un
def getS : List Slot → Nat → Slot
  | [], _ => .un
  | s :: _, 0 => s
  | _ :: l, n + 1 => getS l n
def putS : List Slot → Nat → Slot → List Slot
  | [], _, _ => []
  | _ :: l, 0, t => t :: l
  | s :: l, n + 1, t => s :: putS l n t
theorem putS_eq : ∀ (l : List Slot) (i : Nat) (s : Slot), l.set i s = putS l i s
  | [], _, _ => rfl
  | _ :: _, 0, _ => rfl
  | a :: l, n + 1, s => by show a :: l.set n s = a :: putS l n s; rw [putS_eq l n s]
theorem getS_eq : ∀ (l : List Slot) (i : Nat), getS l i = match l[i]? with | some s => s | none => .un
  | [], _ => rfl
  | _ :: _, 0 => rfl
  | _ :: l, n + 1 => getS_eq l n
theorem getS_some {l : List Slot} {i : Nat} (h : i < l.length) : l[i]? = some (getS l i) := by
  rw [getS_eq, List.getElem?_eq_getElem h]
/-- the slots in is as they were -/
def backE : List Nat → List Slot → List Slot → List Slot
  | [], _, env => env
  | i :: is, old, env => putS (backE is old env) i (getS old i)
def noOwn : List Nat → List Slot → Bool
  | [], _ => true
  | i :: is, env => (match env[i]? with | some (.own _) => false | _ => true) && noOwn is env
def lcR (g : RG) (tt : RB) (te : RE) (is : List Nat) : List D → List D → List Slot → (List D → List Slot → Prop) → Prop
  | [], acc, env, Q => Q acc env
  | x :: xs, acc, env, Q => g x env fun env1 => tt env1 fun b env2 => if b = true then te env2 fun d env3 => acc.length < sizeLine ∧ lcR g tt te is xs (acc ++ [d]) (wipeE is env3) Q else lcR g tt te is xs acc (wipeE is env2) Q
def rLc (ti : RI) (g : RG) (tt : RB) (te : RE) (is : List Nat) : RE := fun env Q => ti env fun xs env1 => noOwn is env1 = true ∧ lcR g tt te is xs [] (wipeE is env1) fun acc env2 => Q (.lst acc) (backE is env1 env2)
theorem wipeE_len (is : List Nat) (env : List Slot) : (wipeE is env).length = env.length := by
  induction is with
  | nil => rfl
  | cons i is ih => unfold wipeE; rw [List.length_set, ih]
theorem wipeE_get : ∀ {is : List Nat} {env : List Slot} {j : Nat} {s : Slot}, (wipeE is env)[j]? = some s → s = .un ∨ (j ∉ is ∧ env[j]? = some s)
  | [], env, j, s, h => .inr ⟨by simp, h⟩
  | i :: is, env, j, s, h => by
    unfold wipeE at h
    rcases set_some h with ⟨_, e, _⟩ | ⟨hne, h⟩
    · exact .inl e.symm
    · rcases wipeE_get h with e | ⟨h1, h2⟩
      · exact .inl e
      · exact .inr ⟨fun m => (List.mem_cons.mp m).elim (fun z => hne z.symm) h1, h2⟩
theorem wipe_len (σ : L2.St) (is : List Nat) : (wipe σ is).length = σ.length := wipe_length σ is
section
variable {K : PySem.W.Frag} {bx : Bx} {F H : Hp} {env : List Slot} {σ : L2.St}
theorem ER.wipe {is : List Nat} (R : ER K bx F env σ H) (h0 : bx.io = none ∨ 0 ∉ is) : ER K bx F (wipeE is env) (wipe σ is) H := by
  have un : ∀ {j : Nat} {d : D}, (wipeE is env)[j]? = some (.own d) → j ∉ is ∧ env[j]? = some (.own d) := fun {j d} h => by
    rcases wipeE_get h with e | h
    · cases e
    · exact h
  refine ⟨R.sb, R.sf, by rw [wipeE_len, wipe_len]; exact R.len, fun j s hj => ?_, fun j k d e a hj hk sj sk => ?_, fun c hc => ?_, R.f0, R.fz⟩
  · rcases wipeE_get hj with e | ⟨h1, h2⟩
    · subst e
      have hl := (List.getElem?_eq_some_iff.mp hj).1
      rw [wipeE_len, R.len, ← wipe_len σ is] at hl
      exact ⟨_, List.getElem?_eq_getElem hl, trivial⟩
    · obtain ⟨o, h3, h4⟩ := R.slots j s h2
      exact ⟨o, by rw [wipe_out h1]; exact h3, h4⟩
  · obtain ⟨j1, j2⟩ := un hj
    obtain ⟨k1, k2⟩ := un hk
    rw [wipe_out j1] at sj
    rw [wipe_out k1] at sk
    exact R.sep j k d e a j2 k2 sj sk
  · obtain ⟨h1, d, h2⟩ := R.io c hc
    have n0 : 0 ∉ is := h0.elim (fun z => by rw [z] at hc; cases hc) id
    refine ⟨by rw [wipe_out n0]; exact h1, d, ?_⟩
    have : ∀ is : List Nat, 0 ∉ is → (wipeE is env)[0]? = env[0]? := by
      intro is
      induction is with
      | nil => intro _; rfl
      | cons i is ih =>
        intro hn
        unfold wipeE
        rw [List.getElem?_set_ne (fun z => hn (by rw [z]; exact List.mem_cons_self)), ih (fun z => hn (List.mem_cons_of_mem _ z))]
    rw [this is n0]; exact h2
/-- within a turn: slots forgotten again -/
theorem ER.wipe2 {is : List Nat} {σ2 : L2.St} (R : ER K bx F env σ2 H) (h0 : bx.io = none ∨ 0 ∉ is) (e : L2.wipe σ2 is = L2.wipe σ is) : ER K bx F (wipeE is env) (L2.wipe σ is) H := by
  rw [← e]
  exact R.wipe h0
/-- the object at D is held besides -/
def Bx.hold (bx : Bx) (Dd : Addr) (o : HO) : Bx := ⟨upd bx.B Dd o, bx.io, bx.F0⟩
theorem ER.hold {Dd : Addr} {o : HO} (R : ER K bx F env σ H) (hn : H Dd = none) : ER K (bx.hold Dd o) F env σ (upd H Dd o) := by
  refine ⟨same_updb R.sb, same_upd2 R.sf (R.sf.free hn), R.len, fun j s hj => ?_, R.sep, R.io, R.f0, fun a k1 k2 => ?_⟩
  rotate_left
  · by_cases e : a = Dd
    · subst e; exact R.sf.free hn
    · obtain ⟨x, k2, k3⟩ := k2
      have k2' : upd bx.B Dd o a = some x := k2
      rw [upd_ne e] at k2'
      exact R.fz a k1 ⟨x, k2', k3⟩
  obtain ⟨q, h1, h2⟩ := R.slots j s hj
  refine ⟨q, h1, ?_⟩
  cases s with
  | un => trivial
  | val d => exact h2
  | own d =>
    obtain ⟨a, ho, h3, h4, h5, h6, h7⟩ := h2
    have na : a ≠ Dd := fun z => by rw [z, hn] at h6; cases h6
    exact ⟨a, ho, h3, h4, by show upd bx.B Dd o a = none; rw [upd_ne na]; exact h5, by rw [upd_ne na]; exact h6, h7⟩
theorem ER.heldF {Dd : Addr} {o : HO} (R : ER K (bx.hold Dd o) F env σ H) (h0 : bx.F0 Dd = none) (ht : ∀ vs, o ≠ .tup vs) : F Dd = none := R.fz Dd h0 ⟨o, by show upd bx.B Dd o Dd = some o; rw [upd_same], ht⟩
theorem ER.rehold {Dd : Addr} {o o' : HO} (R : ER K (bx.hold Dd o) F env σ H) (h0 : bx.F0 Dd = none) (ht : ∀ vs, o ≠ .tup vs) : ER K (bx.hold Dd o') F env σ (upd H Dd o') := by
  have e : upd (upd bx.B Dd o) Dd o' = upd bx.B Dd o' := upd_upd
  refine ⟨fun b q z => ?_, same_upd2 R.sf (R.heldF h0 ht), R.len, fun j s hj => ?_, R.sep, R.io, R.f0, fun a k1 k2 => R.fz a k1 ?_⟩
  rotate_left 2
  · obtain ⟨x, k2, k3⟩ := k2
    have k2' : upd bx.B Dd o' a = some x := k2
    by_cases e : a = Dd
    · subst e; exact ⟨o, by show upd bx.B a o a = some o; rw [upd_same], ht⟩
    · rw [upd_ne e] at k2'
      exact ⟨x, by show upd bx.B Dd o a = some x; rw [upd_ne e]; exact k2', k3⟩
  · by_cases hb : b = Dd
    · subst hb; have z' : upd bx.B b o' b = some q := z; rw [upd_same] at z' ⊢; exact z'
    · have z' : upd bx.B Dd o' b = some q := z
      rw [upd_ne hb] at z' ⊢
      exact R.sb b q (by show upd bx.B Dd o b = some q; rw [upd_ne hb]; exact z')
  · obtain ⟨q, h1, h2⟩ := R.slots j s hj
    refine ⟨q, h1, ?_⟩
    cases s with
    | un => trivial
    | val d => exact h2
    | own d =>
      obtain ⟨a, ho, h3, h4, h5, h6, h7⟩ := h2
      have h5' : upd bx.B Dd o a = none := h5
      have na : a ≠ Dd := fun z => by rw [z, upd_same] at h5'; cases h5'
      rw [upd_ne na] at h5'
      exact ⟨a, ho, h3, h4, by show upd bx.B Dd o' a = none; rw [upd_ne na]; exact h5', by rw [upd_ne na]; exact h6, h7⟩
theorem ER.held {Dd : Addr} {o : HO} (R : ER K (bx.hold Dd o) F env σ H) : H Dd = some o := R.sb Dd o (by show upd bx.B Dd o Dd = some o; exact upd_same)
theorem ER.unhold {Dd : Addr} {o : HO} (R : ER K (bx.hold Dd o) F env σ H) (hb : bx.B Dd = none) : ER K bx F env σ H ∧ ∀ (i : Nat) d, env[i]? = some (.own d) → σ[i]? ≠ some (some (.ref Dd)) := by
  refine ⟨⟨fun b q z => R.sb b q (by show upd bx.B Dd o b = some q; rw [upd_ne (fun e => by rw [e, hb] at z; cases z)]; exact z), R.sf, R.len, fun j s hj => ?_, R.sep, R.io, R.f0, fun a k1 k2 => R.fz a k1 (by
    obtain ⟨x, k2, k3⟩ := k2
    exact ⟨x, by show upd bx.B Dd o a = some x; rw [upd_ne (fun e => by rw [e, hb] at k2; cases k2)]; exact k2, k3⟩)⟩, fun i d hi hs => ?_⟩
  · obtain ⟨q, h1, h2⟩ := R.slots j s hj
    refine ⟨q, h1, ?_⟩
    cases s with
    | un => trivial
    | val d => exact h2
    | own d =>
      obtain ⟨a, ho, h3, h4, h5, h6, h7⟩ := h2
      have h5' : upd bx.B Dd o a = none := h5
      have na : a ≠ Dd := fun z => by rw [z, upd_same] at h5'; cases h5'
      rw [upd_ne na] at h5'
      exact ⟨a, ho, h3, h4, h5', h6, h7⟩
  · obtain ⟨q, h1, a, ho, h3, h4, h5, h6, h7⟩ := R.slots i _ hi
    rw [hs] at h1; cases h1; cases h3
    have h5' : upd bx.B Dd o Dd = none := h5
    rw [upd_same] at h5'; cases h5'
theorem backE_len (is : List Nat) (old env : List Slot) : (backE is old env).length = env.length := by
  induction is with
  | nil => rfl
  | cons i is ih =>
    unfold backE
    rw [← putS_eq, List.length_set, ih]
theorem backE_get : ∀ {is : List Nat} {old env : List Slot} {j : Nat} {s : Slot}, old.length = env.length → (backE is old env)[j]? = some s → (j ∈ is ∧ old[j]? = some s) ∨ env[j]? = some s
  | [], _, _, _, _, _, h => .inr h
  | i :: is, old, env, j, s, hl, h => by
    unfold backE at h
    rw [← putS_eq] at h
    rcases set_some h with ⟨rfl, rfl, hi⟩ | ⟨_, h⟩
    · rw [backE_len, ← hl] at hi
      exact .inl ⟨List.mem_cons_self, getS_some hi⟩
    · rcases backE_get hl h with ⟨a, b⟩ | a
      · exact .inl ⟨List.mem_cons_of_mem _ a, b⟩
      · exact .inr a
theorem noOwn_get : ∀ {is : List Nat} {env : List Slot} {j : Nat} {d : D}, noOwn is env = true → j ∈ is → env[j]? ≠ some (.own d)
  | [], _, _, _, _, h => by simp at h
  | i :: is, env, j, d, h, hj => fun e => by
    unfold noOwn at h
    have h' := Bool.and_eq_true_iff.mp h
    rcases List.mem_cons.mp hj with rfl | hj
    · rw [e] at h'; cases h'.1
    · exact noOwn_get h'.2 hj e
/-- behind a comprehension -/
theorem ER.back {is : List Nat} {F' H' : Hp} {env' : List Slot} (R : ER K bx F env σ H) (R' : ER K bx F' env' (L2.wipe σ is) H') (sF : Same F F') (hn : noOwn is env = true) (h0 : bx.io = none ∨ 0 ∉ is) (hu : ∀ (j : Nat) (s : Slot), j ∈ is → env'[j]? = some s → s = .un) : ER K bx F' (backE is env env') σ H' := by
  have hlen : env.length = env'.length := by rw [R.len, R'.len, wipe_len]
  have own : ∀ {j : Nat} {d : D}, (backE is env env')[j]? = some (.own d) → j ∉ is ∧ env'[j]? = some (.own d) := fun {j d} h => by
    rcases backE_get hlen h with ⟨a, b⟩ | a
    · exact absurd b (noOwn_get hn a)
    · exact ⟨fun z => (by cases hu j _ z a), a⟩
  refine ⟨R'.sb, R'.sf, by rw [backE_len, R'.len, wipe_len], fun j s hj => ?_, fun j k d e a hj hk sj sk => ?_, fun c hc => ?_, R'.f0, R'.fz⟩
  · rcases backE_get hlen hj with ⟨h1, h2⟩ | h2
    · obtain ⟨o, h3, h4⟩ := R.slots j s h2
      refine ⟨o, h3, ?_⟩
      cases s with
      | un => trivial
      | val d => obtain ⟨v, h5, h6⟩ := h4; exact ⟨v, h5, Rep.mono sF _ _ h6⟩
      | own d => exact absurd h2 (noOwn_get hn h1)
    · by_cases hm : j ∈ is
      · have e := hu j s hm h2
        subst e
        have hl := (List.getElem?_eq_some_iff.mp h2).1
        rw [R'.len, wipe_len] at hl
        exact ⟨_, List.getElem?_eq_getElem hl, trivial⟩
      · obtain ⟨o, h3, h4⟩ := R'.slots j s h2
        exact ⟨o, by rw [wipe_out hm] at h3; exact h3, h4⟩
  · obtain ⟨j1, j2⟩ := own hj
    obtain ⟨k1, k2⟩ := own hk
    exact R'.sep j k d e a j2 k2 (by rw [wipe_out j1]; exact sj) (by rw [wipe_out k1]; exact sk)
  · obtain ⟨h1, _⟩ := R.io c hc
    obtain ⟨_, d, h2⟩ := R'.io c hc
    refine ⟨h1, d, ?_⟩
    have n0 : 0 ∉ is := h0.elim (fun z => by rw [z] at hc; cases hc) id
    have : ∀ is : List Nat, 0 ∉ is → (backE is env env')[0]? = env'[0]? := by
      intro is
      induction is with
      | nil => intro _; rfl
      | cons i is ih =>
        intro hn
        unfold backE
        rw [← putS_eq, List.getElem?_set_ne (fun z => hn (by rw [z]; exact List.mem_cons_self)), ih (fun z => hn (List.mem_cons_of_mem _ z))]
    rw [this is n0]; exact h2
end
theorem wipeE_un : ∀ {is : List Nat} {env : List Slot} {j : Nat} {s : Slot}, j ∈ is → (wipeE is env)[j]? = some s → s = .un := fun {is env j s} hj h => by
  rcases wipeE_get h with e | ⟨h1, _⟩
  · exact e
  · exact absurd hj h1
section
variable {X : Cx} {bx : Bx} {tg iter elt : Expr} {ifs : List Expr} {pos : Pos} {ti : RI} {g : RG} {tt : RB} {te : RE}
abbrev QTs (X : Cx) (bx : Bx) (ifs : List Expr) (t : RB) : Prop := L2.PTs X ifs (upT X.K bx t)
def rYes : RB := fun env Q => Q true env
theorem qts_nil : QTs X bx [] rYes := ⟨fun pins s σ H Q I ⟨env, F, Q', R, ht, k⟩ => pts_nil.run pins s σ H Q I (k true env F H (Same.refl _) R ht)⟩
/-- what the block of a comprehension is proved over -/
abbrev BlkX (X : Cx) (s : Shared) (H : Hp) (scope : Scope) (C : Addr) (cl : List (Str × Addr)) (fp : List Addr) : Cx := X.blk s H scope (compEnvC scope cl C X.env) fp
/-- the rules of the block's parts: for every context of the block, and whatever is held -/
abbrev QGb (X : Cx) (bx : Bx) (P : Nat → Prop) (tg : Expr) (scope : Scope) (g : RG) : Prop := ∀ (B : Hp) (s : Shared) (H : Hp) (C : Addr) (cl : List (Str × Addr)) (fp : List Addr), QG (BlkX X s H scope C cl fp) ⟨B, bx.io, bx.F0⟩ P tg g
abbrev QTb (X : Cx) (bx : Bx) (ifs : List Expr) (scope : Scope) (t : RB) : Prop := ∀ (B : Hp) (s : Shared) (H : Hp) (C : Addr) (cl : List (Str × Addr)) (fp : List Addr), QTs (BlkX X s H scope C cl fp) ⟨B, bx.io, bx.F0⟩ ifs t
abbrev QEb (X : Cx) (bx : Bx) (e : Expr) (scope : Scope) (t : RE) : Prop := ∀ (B : Hp) (s : Shared) (H : Hp) (C : Addr) (cl : List (Str × Addr)) (fp : List Addr), QE (BlkX X s H scope C cl fp) ⟨B, bx.io, bx.F0⟩ e t
def anyG (K : PySem.W.Frag) (io : Option Addr) (F0 : Hp) (P : Nat → Prop) (g : RG) : TG := fun v σ H Q => ∃ B, upG K ⟨B, io, F0⟩ P g v σ H Q
def anyT (K : PySem.W.Frag) (io : Option Addr) (F0 : Hp) (t : RB) : TT := fun σ H Q => ∃ B, upT K ⟨B, io, F0⟩ t σ H Q
def anyE (K : PySem.W.Frag) (io : Option Addr) (F0 : Hp) (t : RE) : TE := fun σ H Q => ∃ B, up K ⟨B, io, F0⟩ t σ H Q
theorem wipe_in {σ : L2.St} {i : Nat} : ∀ {is : List Nat}, i ∈ is → i < σ.length → (L2.wipe σ is)[i]? = some none
  | [], h, _ => by simp at h
  | v :: vs, h, hl => by
    unfold L2.wipe
    by_cases e : v = i
    · subst e; rw [List.getElem?_set_self (by rw [wipe_len]; exact hl)]
    · rw [List.getElem?_set_ne e]; exact wipe_in ((List.mem_cons.mp h).resolve_left fun z => e z.symm) hl
theorem wipe_only {σ σ' : L2.St} {is : List Nat} (o : Only' (· ∈ is) σ σ') : L2.wipe σ' is = L2.wipe σ is := by
  apply List.ext_getElem?
  intro j
  by_cases hj : j ∈ is
  · by_cases hl : j < σ.length
    · rw [wipe_in hj hl, wipe_in hj (by rw [o.1]; exact hl)]
    · rw [List.getElem?_eq_none (by rw [wipe_len, o.1]; omega), List.getElem?_eq_none (by rw [wipe_len]; omega)]
  · rw [wipe_out hj, wipe_out hj, o.2 j hj]
theorem wipe_wipe {σ : L2.St} {is : List Nat} : L2.wipe (L2.wipe σ is) is = L2.wipe σ is := wipe_only ⟨wipe_len σ is, fun j hj => wipe_out hj⟩
theorem lc_up {is : List Nat} (h0 : bx.io = none ∨ 0 ∉ is) {σ : L2.St} {H : Hp} {Q' : VK}
    (h : upN X.K bx (rLc ti g tt te is) σ H Q') : tLc (upI X.K bx ti) (anyG X.K bx.io bx.F0 (· ∈ is) g) (anyT X.K bx.io bx.F0 tt) (anyE X.K bx.io bx.F0 te) is σ H Q' := by
  obtain ⟨env, F, Q, R, ht, k⟩ := h
  refine ⟨env, F, _, R, ht, fun xs env1 F1 H1 J s1 R1 wk ⟨hn, q1⟩ => ?_⟩
  intro Dd hD
  have bD : bx.B Dd = none := R1.sb.free hD
  have fD : F1 Dd = none := R1.sf.free hD
  have fD0 : bx.F0 Dd = none := R1.f0.free fD
  refine ⟨fun i m H' => m = xs.length - i ∧ i ≤ xs.length ∧ ∃ env' F' acc accV, Same F1 F' ∧ RepL X.K F' acc accV ∧ ER X.K (bx.hold Dd (.lst accV)) F' env' (L2.wipe σ is) H' ∧ (∀ (j : Nat) (s : Slot), j ∈ is → env'[j]? = some s → s = .un) ∧
    lcR g tt te is (xs.drop i) acc env' fun acc env2 => Q (.lst acc) (backE is env1 env2), ⟨xs.length, rfl, Nat.zero_le _, _, F1, [], [], Same.refl _, rfl, (R1.wipe h0).hold hD, fun j s => wipeE_un, q1⟩, ?_⟩
  rintro i m H' ⟨rfl, hi, env', F', acc, accV, s', ra, R', hu, q'⟩
  by_cases hlt : i < xs.length
  · refine .inr ⟨wk.go i F' H' s' R'.sf hlt, fun H2 => ∃ env2 F2 acc accV, Same F' F2 ∧ RepL X.K F2 acc accV ∧ ER X.K (bx.hold Dd (.lst accV)) F2 env2 (L2.wipe σ is) H2 ∧ (∀ (j : Nat) (s : Slot), j ∈ is → env2[j]? = some s → s = .un) ∧
      lcR g tt te is (xs.drop (i + 1)) acc env2 fun acc env2 => Q (.lst acc) (backE is env1 env2),
      fun H2 ⟨env2, F2, acc2, accV2, s2, ra2, R2, hu2, q2⟩ => ⟨xs.length - (i + 1), by omega, rfl, hlt, env2, F2, acc2, accV2, s'.trans s2, ra2, R2, hu2, q2⟩, fun x H2 hy => ?_⟩
    obtain ⟨F2, d, gr, hd, rd⟩ := wk.yl i F' H' x H2 s' R'.sf hlt hy
    have ed : xs.drop i = d :: xs.drop (i + 1) := by
      rw [List.drop_eq_getElem_cons hlt]
      congr 1
      rw [List.getElem?_eq_getElem hlt] at hd
      exact Option.some.inj hd
    rw [ed] at q'
    refine ⟨(bx.hold Dd (.lst accV)).B, ?_⟩
    refine ⟨env', F2, d, _, R'.to gr, rd, q', fun env4 F4 σ4 H4 s4 R4 o4 q4 => ?_⟩
    have ew' : L2.wipe σ4 is = L2.wipe σ is := (wipe_only o4).trans wipe_wipe
    refine ⟨ew'.trans wipe_wipe.symm |>.trans wipe_wipe, (bx.hold Dd (.lst accV)).B, env4, F4, _, R4, q4, fun b env5 F5 H5 s5 R5 q5 => ?_⟩
    cases b with
    | false =>
      rw [if_neg Bool.false_ne_true] at q5 ⊢
      exact ⟨_, F5, acc, accV, (gr.e.trans s4).trans s5, RepL.mono ((gr.e.trans s4).trans s5) _ _ ra, R5.wipe2 h0 ew', fun j s => wipeE_un, q5⟩
    | true =>
      rw [if_pos rfl] at q5 ⊢
      refine ⟨(bx.hold Dd (.lst accV)).B, env5, F5, _, R5, q5, fun d2 v2 env6 F6 H6 s6 R6 r6 q6 => ?_⟩
      have sA := ((gr.e.trans s4).trans s5).trans s6
      exact ⟨accV, R6.held, by rw [← ra.length]; exact q6.1, _, F6, acc ++ [d2], accV ++ [v2], sA, RepL.append (RepL.mono sA _ _ ra) (RepL.one r6), (ER.wipe2 R6 h0 ew').rehold fD0 (fun us z => by cases z), fun j s => wipeE_un, q6.2⟩
  · have e : i = xs.length := by omega
    subst e
    rw [List.drop_length] at q'
    refine .inl ⟨wk.st _ F' H' s' R'.sf (Nat.le_refl _), ?_⟩
    obtain ⟨R2, no⟩ := R'.unhold bD
    have Rb := R1.back R2 s' hn h0 hu
    refine k (.lst acc) Dd (.lst accV) _ F' H' (s1.trans s') Rb ⟨R'.heldF fD0 (fun us z => by cases z), bD, ⟨_, R'.held, fun us z => by cases z⟩, fun j d hj sj => ?_⟩ R'.held (ownLst ra) q'
    rcases backE_get (by rw [R1.len, R'.len, wipe_len]) hj with ⟨a, b⟩ | a
    · exact noOwn_get hn a b
    · by_cases hm : j ∈ is
      · cases hu j _ hm a
      · exact no j d a (by rw [wipe_out hm]; exact sj)

theorem blk_g {P : Nat → Prop} {scope : Scope} {e : Expr} {g : RG} (h : QGb X bx P e scope g) (s : Shared) (H : Hp) (C : Addr) (cl : List (Str × Addr)) (fp : List Addr) : L2.PG (BlkX X s H scope C cl fp) e (anyG X.K bx.io bx.F0 P g) :=
  ⟨fun pins s' σ H' v u Q I r ⟨B, q⟩ => (h B s H C cl fp).run pins s' σ H' v u Q I r q⟩
theorem blk_t {scope : Scope} {ifs : List Expr} {t : RB} (h : QTb X bx ifs scope t) (s : Shared) (H : Hp) (C : Addr) (cl : List (Str × Addr)) (fp : List Addr) : L2.PTs (BlkX X s H scope C cl fp) ifs (anyT X.K bx.io bx.F0 t) :=
  ⟨fun pins s' σ H' Q I ⟨B, q⟩ => (h B s H C cl fp).run pins s' σ H' Q I q⟩
theorem blk_e {scope : Scope} {e : Expr} {t : RE} (h : QEb X bx e scope t) (s : Shared) (H : Hp) (C : Addr) (cl : List (Str × Addr)) (fp : List Addr) : L2.PE (BlkX X s H scope C cl fp) e (anyE X.K bx.io bx.F0 t) :=
  ⟨fun pins s' σ H' Q I ⟨B, q⟩ => (h B s H C cl fp).run pins s' σ H' Q I q⟩
theorem q_lcN {scope : Scope} {own : List (Str × Nat)} (hc : X.calm = true) (hN : X.N.Nodup) (h0 : bx.io = none ∨ 0 ∉ own.map (·.2)) (hi : QI X bx tg iter ti) (ok : BlkOk X.N X.env.scope scope own)
    (hg : QGb X bx (· ∈ own.map (·.2)) tg scope g) (ht : QTb X bx ifs scope tt) (he : QEb X bx elt scope te) (hs : ∀ x, foldedSetIterable iter X.env x = pure x := by intro _; rfl) :
    QN X bx (.ListComp elt [⟨tg, iter, ifs, 0⟩] scope pos) (rLc ti g tt te (own.map (·.2))) := pe_imp (pe_lc hc hN hi ok (blk_g hg) (blk_t ht) (blk_e he) hs) fun σ H Q' h => lc_up h0 h
def sOwnLc (i : Nat) (te : RE) : RS := sOwn i te
end

/-! ### a def by its body -/
section
variable {P : Program} {w : World} {K : PySem.W.Frag} {mg : Str → Option Value} {base : Heap}
def envA (N : List Str) (ds : List D) : List Slot := ds.map .val ++ List.replicate (N.length - ds.length) .un
theorem er_start {N : List Str} {F H : Hp} {ds : List D} {vs : List V} (s : Same F H) (r : RepL K F ds vs) : ER K ⟨H, none, F⟩ F (envA N ds) (L2.start N vs) H := by
  have hl := r.length
  have old : ∀ (i : Nat) (sl : Slot), (envA N ds)[i]? = some sl → (∃ d, ds[i]? = some d ∧ sl = .val d) ∨ (ds.length ≤ i ∧ i < N.length ∧ sl = .un) := fun i sl h => by
    unfold envA at h
    by_cases hi : i < ds.length
    · rw [List.getElem?_append_left (by simpa using hi), List.getElem?_map] at h
      rw [List.getElem?_eq_getElem hi] at h ⊢
      exact .inl ⟨_, rfl, (Option.some.inj h).symm⟩
    · rw [List.getElem?_append_right (by simpa using hi), List.getElem?_replicate] at h
      split at h
      · rename_i hlt
        rw [List.length_map] at hlt
        exact .inr ⟨by omega, by omega, (Option.some.inj h).symm⟩
      · cases h
  refine ⟨Same.refl _, s, (by unfold envA L2.start; simp [hl]), fun i sl h => ?_, fun i j d e a hi _ _ _ => ?_, (fun a h => nomatch h), Same.refl _, fun a h _ => h⟩
  · rcases old i sl h with ⟨d, hd, rfl⟩ | ⟨h1, h2, rfl⟩
    · obtain ⟨v, hv, rv⟩ := r.get hd
      have hi : i < vs.length := (List.getElem?_eq_some_iff.mp hv).1
      refine ⟨some v, ?_, v, rfl, rv⟩
      unfold L2.start
      rw [List.getElem?_append_left (by simpa using hi), List.getElem?_map, hv]
      rfl
    · refine ⟨none, ?_, trivial⟩
      unfold L2.start
      rw [List.getElem?_append_right (by simp; omega), List.getElem?_replicate, if_pos (by simp; omega)]
  · rcases old i _ hi with ⟨d, _, z⟩ | ⟨_, _, z⟩
    · cases z
    · cases z
theorem ER.grown {bx : Bx} {F' H' : Hp} {env : List Slot} {σ : L2.St} (R : ER K bx F' env σ H') : Grow bx.F0 bx.B F' H' := ⟨R.f0, R.sf, R.sb, R.fz⟩
/-- a def that changes nothing of its caller's -/
theorem fnA {x qual : Str} {st : Stmt} {f : Addr} {fd : FuncData} {N ps : List Str} {k : Nat} {S : FA} (Fn : Fun K x qual st f fd) (Sc : FnScope N ps (defScope st))
    (hbody : ∀ (cdv : Value) (A : Around) (outer : List Env) (s : Shared) (H F0 : Hp) (E : XK) (EX : D → Prop), Room k (A.deeper (envOfC qual (defScope st) s.heap.objs.size f cdv)) →
      Takes (cxOf (L2.CX P w) P w K mg base N qual (defScope st) f cdv A outer s H E) (WEx K ⟨H, none, F0⟩ fun ed _ => EX ed) →
      ∃ t, QSs (cxOf (L2.CX P w) P w K mg base N qual (defScope st) f cdv A outer s H E) ⟨H, none, F0⟩ (defBody st) t ∧ ∀ ds Q, ds.length = ps.length → S ds Q EX → t { nx := fun _ => Q .non, rt := fun d _ => Q d } (envA N ds)) :
    FnOk P w K mg base (L2.CX P w) (k + 1) f fd ps (spA K ps.length S) := by
  refine Fn.okX Sc (fun vs H Q E ⟨F, ds, _, _, hn, _, r, _⟩ => by rw [← r.length]; exact hn) (fun cdv A outer s H vs Q' E' hr ⟨F, ds, Q, E, hn, sm, r, h, g, gx⟩ => ?_)
  obtain ⟨t, ht, hq⟩ := hbody cdv A outer s H F E' E hr ((takes_of rfl rfl rfl rfl : Takes (cxOf (L2.CX P w) P w K mg base N qual (defScope st) f cdv A outer s H E') (fun cls d _ H => E' cls d H)).imp fun cls d σ H' ⟨env, F', ed, R, rx, ex⟩ => gx ed cls d F' H' R.grown rx ex)
  refine ⟨_, ht, envA N ds, F, _, er_start sm r, hq ds Q hn h, fun env' F' σ' H' s' R' q => g .non .non F' H' R'.grown rfl q, fun d v env' F' σ' H' s' R' rd q => g d v F' H' R'.grown rd q, fun _ _ _ _ _ _ z => z.elim, fun _ _ _ _ _ _ z => z.elim⟩
end
end QL
set_option Elab.async false
set_option linter.all false
set_option maxRecDepth 100000
namespace QL
open PySem PySem.Spec PyProof.Rows L2
/-! ### built-in functions -/
def vLen : VL
  | [.lst xs], Q => Q (.int xs.length)
  | [.tup xs], Q => Q (.int xs.length)
  | [.scr xs], Q => Q (.int xs.length)
  | [.str x], Q => x.length ≤ sizeLine ∧ Q (.int x.length)
  | _, _ => False
def vAbs : VL
  | [.int i], Q => Q (.int (if i < 0 then -i else i))
  | _, _ => False
def vInt : VL
  | [.int i], Q => Q (.int i)
  | [.bl b], Q => Q (.int (if b then 1 else 0))
  | _, _ => False
def vBool : VL
  | [.int i], Q => Q (.bl (i != 0))
  | [.bl b], Q => Q (.bl b)
  | _, _ => False
def allInts : List D → Option (List Int)
  | [] => some []
  | .int i :: r => (allInts r).map (i :: ·)
  | _ => none
def allBls : List D → Option (List Bool)
  | [] => some []
  | .bl i :: r => (allBls r).map (i :: ·)
  | _ => none
theorem allInts_map : ∀ ns : List Int, allInts (ns.map D.int) = some ns
  | [] => rfl
  | n :: r => by simp only [List.map, allInts, allInts_map r, Option.map]
theorem allBls_map : ∀ ns : List Bool, allBls (ns.map D.bl) = some ns
  | [] => rfl
  | n :: r => by simp only [List.map, allBls, allBls_map r, Option.map]
theorem allInts_eq : ∀ {xs : List D} {ns : List Int}, allInts xs = some ns → xs = ns.map D.int
  | [], _, h => by cases h; rfl
  | .int i :: r, ns, h => by
    simp only [allInts, Option.map_eq_some_iff] at h
    obtain ⟨z, hz, rfl⟩ := h
    rw [allInts_eq hz]; rfl
  | .non :: _, _, h => nomatch h
  | .bl _ :: _, _, h => nomatch h
  | .str _ :: _, _, h => nomatch h
  | .raw _ :: _, _, h => nomatch h
  | .scr _ :: _, _, h => nomatch h
  | .tup _ :: _, _, h => nomatch h
  | .lst _ :: _, _, h => nomatch h
  | .dic _ _ :: _, _, h => nomatch h
  | .dct _ _ :: _, _, h => nomatch h
  | .obj _ _ _ :: _, _, h => nomatch h
theorem allBls_eq : ∀ {xs : List D} {ns : List Bool}, allBls xs = some ns → xs = ns.map D.bl
  | [], _, h => by cases h; rfl
  | .bl i :: r, ns, h => by
    simp only [allBls, Option.map_eq_some_iff] at h
    obtain ⟨z, hz, rfl⟩ := h
    rw [allBls_eq hz]; rfl
  | .non :: _, _, h => nomatch h
  | .int _ :: _, _, h => nomatch h
  | .str _ :: _, _, h => nomatch h
  | .raw _ :: _, _, h => nomatch h
  | .scr _ :: _, _, h => nomatch h
  | .tup _ :: _, _, h => nomatch h
  | .lst _ :: _, _, h => nomatch h
  | .dic _ _ :: _, _, h => nomatch h
  | .dct _ _ :: _, _, h => nomatch h
  | .obj _ _ _ :: _, _, h => nomatch h
def vSum : VL
  | [.lst xs], Q => ∃ ns, allInts xs = some ns ∧ Q (.int ns.sum)
  | _, _ => False
def vMax : VL
  | [.int i, .int j], Q => Q (.int (if j > i then j else i))
  | [.lst xs], Q => ∃ ns, allInts xs = some ns ∧ 0 < ns.length ∧ ∀ m, m ∈ ns → (∀ y, y ∈ ns → y ≤ m) → Q (.int m)
  | _, _ => False
def vMin : VL
  | [.int i, .int j], Q => Q (.int (if j < i then j else i))
  | [.lst xs], Q => ∃ ns, allInts xs = some ns ∧ 0 < ns.length ∧ ∀ m, m ∈ ns → (∀ y, y ∈ ns → m ≤ y) → Q (.int m)
  | _, _ => False
def vAll : VL
  | [.lst xs], Q => ∃ ns, allBls xs = some ns ∧ Q (.bl (ns.all id))
  | _, _ => False
def vAny : VL
  | [.lst xs], Q => ∃ ns, allBls xs = some ns ∧ Q (.bl (ns.any id))
  | _, _ => False
def vList : VL
  | [.lst xs], Q => Q (.lst xs)
  | [.tup xs], Q => Q (.lst xs)
  | _, _ => False
def vTuple : VL
  | [.lst xs], Q => Q (.tup xs)
  | [.tup xs], Q => Q (.tup xs)
  | _, _ => False
def tyN : D → Option String
  | .non => some "NoneType"
  | .bl _ => some "bool"
  | .int _ => some "int"
  | .str _ => some "str"
  | .scr _ => some "list"
  | .tup _ => some "tuple"
  | .lst _ => some "list"
  | .dic _ _ => some "dict"
  | .dct _ _ => some "dict"
  | _ => none
/-- isinstance(d, a built-in class) -/
def vIsiB : VL
  | [d, .raw (.ty n)], Q => ∃ t b, tyN d = some t ∧ kitB t n = some b ∧ Q (.bl b)
  | _, _ => False
section
variable {X : Cx}
theorem qc_len : CallR X (.builtin "len") (upVL X.K vLen) := by
  intro pins s σ H xs us Q' I r ⟨F, ds, Q, sm, rl, h, g⟩
  unfold vLen at h
  split at h
  · obtain ⟨v, _, rfl, ⟨a, vs, rfl, h2, h3⟩, rfl⟩ := rl
    exact call_len pins s σ H _ us Q' I r ⟨_, _, rfl, .inl ⟨vs, .inl (.inl (sm _ _ h2)), rfl⟩, by rw [← h3.length]; exact g.i sm h⟩
  · obtain ⟨v, _, rfl, ⟨a, vs, rfl, h2, h3⟩, rfl⟩ := rl
    exact call_len pins s σ H _ us Q' I r ⟨_, _, rfl, .inr ⟨vs, sqt_of sm h2, rfl⟩, by rw [← h3.length]; exact g.i sm h⟩
  · obtain ⟨v, _, rfl, ⟨a, rfl, h2⟩, rfl⟩ := rl
    exact call_len pins s σ H _ us Q' I r ⟨_, _, rfl, .inl ⟨_, sm.seq h2, rfl⟩, by rw [List.length_map]; exact g.i sm h⟩
  · obtain ⟨v, _, rfl, rfl, rfl⟩ := rl
    exact call_len pins s σ H _ us Q' I r ⟨_, _, rfl, ⟨h.1, rfl⟩, g.i sm h.2⟩
  · exact h.elim
theorem qc_int : CallR X (.type "int") (upVL X.K vInt) := by
  intro pins s σ H xs us Q' I r ⟨F, ds, Q, sm, rl, h, g⟩
  unfold vInt at h
  split at h
  · obtain ⟨v, _, rfl, rfl, rfl⟩ := rl
    exact call_int1 pins s σ H _ us Q' I r (.inl ⟨_, rfl, g.i sm h⟩)
  · obtain ⟨v, _, rfl, rfl, rfl⟩ := rl
    exact call_int1 pins s σ H _ us Q' I r (.inr ⟨_, rfl, g.i sm h⟩)
  · exact h.elim
theorem qc_max (hc : X.calm = true) : CallR X (.builtin "max") (upVL X.K vMax) := by
  intro pins s σ H xs us Q' I r ⟨F, ds, Q, sm, rl, h, g⟩
  unfold vMax at h
  split at h
  · obtain ⟨v, w, rfl, rfl, rfl⟩ := RepL.two rl
    exact call_max2 hc pins s σ H _ us Q' I r ⟨_, _, rfl, g.i sm h⟩
  · obtain ⟨v, _, rfl, ⟨a, vs, rfl, h2, h3⟩, rfl⟩ := rl
    obtain ⟨ns, hn, h0, q⟩ := h
    rw [allInts_eq hn] at h3
    rw [h3.ints] at h2
    exact cr_max hc pins s σ H _ us Q' I r ⟨a, ns, rfl, .inl (.inl (sm _ _ h2)), h0, fun m h1 h2 => g.i sm (q m h1 h2)⟩
  · exact h.elim
theorem qc_min (hc : X.calm = true) : CallR X (.builtin "min") (upVL X.K vMin) := by
  intro pins s σ H xs us Q' I r ⟨F, ds, Q, sm, rl, h, g⟩
  unfold vMin at h
  split at h
  · obtain ⟨v, w, rfl, rfl, rfl⟩ := RepL.two rl
    exact call_min2 hc pins s σ H _ us Q' I r ⟨_, _, rfl, g.i sm h⟩
  · obtain ⟨v, _, rfl, ⟨a, vs, rfl, h2, h3⟩, rfl⟩ := rl
    obtain ⟨ns, hn, h0, q⟩ := h
    rw [allInts_eq hn] at h3
    rw [h3.ints] at h2
    exact cr_min hc pins s σ H _ us Q' I r ⟨a, ns, rfl, .inl (.inl (sm _ _ h2)), h0, fun m h1 h2 => g.i sm (q m h1 h2)⟩
  · exact h.elim
theorem qc_all (hc : X.calm = true) : CallR X (.builtin "all") (upVL X.K vAll) := by
  intro pins s σ H xs us Q' I r ⟨F, ds, Q, sm, rl, h, g⟩
  unfold vAll at h
  split at h
  · obtain ⟨v, _, rfl, ⟨a, vs, rfl, h2, h3⟩, rfl⟩ := rl
    obtain ⟨ns, hn, q⟩ := h
    rw [allBls_eq hn] at h3
    rw [h3.bls] at h2
    exact cr_all hc pins s σ H _ us Q' I r ⟨a, ns, rfl, .inl (.inl (sm _ _ h2)), g.b sm q⟩
  · exact h.elim
theorem qc_any (hc : X.calm = true) : CallR X (.builtin "any") (upVL X.K vAny) := by
  intro pins s σ H xs us Q' I r ⟨F, ds, Q, sm, rl, h, g⟩
  unfold vAny at h
  split at h
  · obtain ⟨v, _, rfl, ⟨a, vs, rfl, h2, h3⟩, rfl⟩ := rl
    obtain ⟨ns, hn, q⟩ := h
    rw [allBls_eq hn] at h3
    rw [h3.bls] at h2
    exact cr_any hc pins s σ H _ us Q' I r ⟨a, ns, rfl, .inl (.inl (sm _ _ h2)), g.b sm q⟩
  · exact h.elim
theorem qc_listN : CallR X (.type "list") (upNL X.K vList) := by
  intro pins s σ H xs us Q' I r ⟨F, ds, Q, sm, rl, h, g⟩
  unfold vList at h
  split at h
  · obtain ⟨v, _, rfl, ⟨a, vs, rfl, h2, h3⟩, rfl⟩ := rl
    exact call_list_of pins s σ H _ us Q' I r ⟨a, vs, rfl, .inl (.inl (.inl (sm _ _ h2))), fun l hl => g.lst h3 h hl⟩
  · obtain ⟨v, _, rfl, ⟨a, vs, rfl, h2, h3⟩, rfl⟩ := rl
    exact call_list_of pins s σ H _ us Q' I r ⟨a, vs, rfl, .inr (sqt_of sm h2), fun l hl => g.lst h3 h hl⟩
  · exact h.elim
theorem qc_list : CallR X (.type "list") (upVL X.K vList) := callN_V qc_listN
theorem qc_tuple : CallR X (.type "tuple") (upVL X.K vTuple) := by
  intro pins s σ H xs us Q' I r ⟨F, ds, Q, sm, rl, h, g⟩
  unfold vTuple at h
  split at h
  · obtain ⟨v, _, rfl, ⟨a, vs, rfl, h2, h3⟩, rfl⟩ := rl
    exact call_tuple_of pins s σ H _ us Q' I r ⟨a, vs, rfl, .inl ⟨.inl (.inl (sm _ _ h2)), fun l hl => g.tup sm h3 h hl⟩⟩
  · obtain ⟨v, _, rfl, ⟨a, vs, rfl, h2, h3⟩, rfl⟩ := rl
    exact call_tuple_of pins s σ H _ us Q' I r ⟨a, vs, rfl, .inr ⟨sqt_of sm h2, g.flat sm (z := .tup _) ⟨a, vs, rfl, h2, h3⟩ h⟩⟩
  · exact h.elim
theorem tyx_of {K : PySem.W.Frag} {F H : Hp} (s : Same F H) : ∀ {d : D} {v : V} {n : String}, tyN d = some n → Rep K F d v → TyX K H v (.type n)
  | .non, _, _, e, r => by cases e; rw [show _ = V.non from r]; exact .base .non
  | .bl b, _, _, e, r => by cases e; rw [show _ = V.bl b from r]; exact .base (.bl b)
  | .int b, _, _, e, r => by cases e; rw [show _ = V.int b from r]; exact .base (.int b)
  | .str b, _, _, e, r => by cases e; rw [show _ = V.str b from r]; exact .base (.str b)
  | .scr ns, _, _, e, ⟨a, h1, h2⟩ => by
    cases e; rw [h1]
    rcases h2 with (h2 | ⟨o, h2⟩) | ⟨o, _, _, h2, h3, _⟩
    · exact .base (.lst (s _ _ h2))
    · exact .base (.frz (s _ _ h2))
    · exact .kList h2 h3
  | .tup xs, _, _, e, ⟨a, vs, h1, h2, h3⟩ => by cases e; rw [h1]; exact .base (.tup (s _ _ h2))
  | .lst xs, _, _, e, ⟨a, vs, h1, h2, h3⟩ => by cases e; rw [h1]; exact .base (.lst (s _ _ h2))
  | .dic ks xs, _, _, e, ⟨a, h1, kvs, h2, _⟩ => by cases e; rw [h1]; exact .base (.dK (s _ _ h2))
  | .dct ks xs, _, _, e, ⟨a, h1, kvs, h2, _⟩ => by cases e; rw [h1]; exact .base (.dT (s _ _ h2))
  | .raw _, _, _, e, _ => nomatch e
  | .obj _ _ _, _, _, e, _ => nomatch e
theorem qc_isiB : CallR X (.builtin "isinstance") (upVL X.K vIsiB) := by
  intro pins s σ H xs us Q' I r ⟨F, ds, Q, sm, rl, h, g⟩
  unfold vIsiB at h
  split at h
  · obtain ⟨v, w, rfl, rv, rfl⟩ := RepL.two rl
    obtain ⟨t, b, ht, hb, q⟩ := h
    exact call_isi pins s σ H _ us Q' I r ⟨v, _, _, _, b, rfl, .ty _, tyx_of sm ht rv, kit_ty hb, g.b sm q⟩
  · exact h.elim
end
section
variable {X : Cx} {bx : Bx} {e : Expr}
/-- a built-in's name as a value -/
theorem q_raw {v : V} (h : L2.PE X e (tC v)) : QE X bx e (rC (.raw v)) := q_con h fun _ _ => rfl
end
section
variable {P : Program} {w : World} {K : PySem.W.Frag} {mg : Str → Option Value} {base : Heap}
/-- a def (or method) that changes the object in its first place -/
def envB (N : List Str) (d0 : D) (ds : List D) : List Slot := .own d0 :: (ds.map .val ++ List.replicate (N.length - (ds.length + 1)) .un)
def minus (H : Hp) (a : Addr) : Hp := fun b => if b = a then none else H b
theorem er_startB {N : List Str} {F H : Hp} {a : Addr} {ho : HO} {d0 : D} {ds : List D} {vs : List V} (s : Same F H) (hf : F a = none) (ha : H a = some ho) (o : OwnH K F d0 ho) (r : RepL K F ds vs) : ER K ⟨minus H a, some a, F⟩ F (envB N d0 ds) (L2.start N (.ref a :: vs)) H := by
  have hl := r.length
  have old : ∀ (i : Nat) (sl : Slot), (envB N d0 ds)[i]? = some sl → (i = 0 ∧ sl = .own d0) ∨ (∃ j d, i = j + 1 ∧ ds[j]? = some d ∧ sl = .val d) ∨ (ds.length + 1 ≤ i ∧ i < N.length ∧ sl = .un) := fun i sl h => by
    unfold envB at h
    cases i with
    | zero => exact .inl ⟨rfl, (Option.some.inj h).symm⟩
    | succ j =>
      have h : (ds.map Slot.val ++ List.replicate (N.length - (ds.length + 1)) Slot.un)[j]? = some sl := h
      by_cases hi : j < ds.length
      · rw [List.getElem?_append_left (by simpa using hi), List.getElem?_map] at h
        rw [List.getElem?_eq_getElem hi] at h
        exact .inr (.inl ⟨j, ds[j], rfl, List.getElem?_eq_getElem hi, (Option.some.inj h).symm⟩)
      · rw [List.getElem?_append_right (by simpa using hi), List.getElem?_replicate] at h
        split at h
        · rename_i hlt
          rw [List.length_map] at hlt
          exact .inr (.inr ⟨by omega, by omega, (Option.some.inj h).symm⟩)
        · cases h
  refine ⟨fun b q z => ?_, s, (by unfold envB L2.start; simp [hl]), fun i sl h => ?_, fun i j d e c hi hj _ _ => ?_, (fun c h => ?_), Same.refl _, fun b h _ => h⟩
  · have z' : (if b = a then none else H b) = some q := z
    split at z'
    · cases z'
    · exact z'
  · rcases old i sl h with ⟨rfl, rfl⟩ | ⟨j, d, rfl, hd, rfl⟩ | ⟨h1, h2, rfl⟩
    · exact ⟨some (.ref a), rfl, a, ho, rfl, hf, if_pos rfl, ha, o⟩
    · obtain ⟨v, hv, rv⟩ := r.get hd
      have hi : j < vs.length := (List.getElem?_eq_some_iff.mp hv).1
      refine ⟨some v, ?_, v, rfl, rv⟩
      unfold L2.start
      show ((vs.map some) ++ _)[j]? = _
      rw [List.getElem?_append_left (by simpa using hi), List.getElem?_map, hv]
      rfl
    · refine ⟨none, ?_, trivial⟩
      unfold L2.start
      rw [List.getElem?_append_right (by simp; omega), List.getElem?_replicate, if_pos (by simp; omega)]
  · rcases old i _ hi with ⟨z, _⟩ | ⟨_, d, _, _, z⟩ | ⟨_, _, z⟩
    · rcases old j _ hj with ⟨z2, _⟩ | ⟨_, d, _, _, z⟩ | ⟨_, _, z⟩
      · rw [z, z2]
      · cases z
      · cases z
    · cases z
    · cases z
  · cases h
    exact ⟨rfl, d0, rfl⟩
/-- what slot 0 owns -/
def own0 (env : List Slot) (P : D → Prop) : Prop := match env[(0 : Nat)]? with
  | some (.own d) => P d
  | _ => False
theorem own0_of {env : List Slot} {P : D → Prop} (h : own0 env P) : ∃ d, env[(0 : Nat)]? = some (.own d) ∧ P d := by
  unfold own0 at h
  split at h
  · rename_i d hd
    exact ⟨d, hd, h⟩
  · exact h.elim
theorem fnB {x qual : Str} {st : Stmt} {f : Addr} {fd : FuncData} {N ps : List Str} {k n : Nat} {M : FB} (Fn : Fun K x qual st f fd) (Sc : FnScope N ps (defScope st)) (hps : ps.length = n + 1)
    (hbody : ∀ (cdv : Value) (A : Around) (outer : List Env) (s : Shared) (H B F0 : Hp) (a : Addr) (E : XK) (EX : D → D → Prop), Room k (A.deeper (envOfC qual (defScope st) s.heap.objs.size f cdv)) →
      Takes (cxOf (L2.CX P w) P w K mg base N qual (defScope st) f cdv A outer s H E) (WEx K ⟨B, some a, F0⟩ fun ed env => own0 env (EX ed)) →
      ∃ t, QSs (cxOf (L2.CX P w) P w K mg base N qual (defScope st) f cdv A outer s H E) ⟨B, some a, F0⟩ (defBody st) t ∧ ∀ d0 ds Q, ds.length = n → M d0 ds Q EX →
        t { nx := fun env => own0 env (Q .non), rt := fun d env => own0 env (Q d) } (envB N d0 ds)) :
    FnOk P w K mg base (L2.CX P w) (k + 1) f fd ps (spB K n M) := by
  refine Fn.okX Sc (fun vs H Q E ⟨F, a, ho, d0, ds, ws, _, _, hn, e, _, _, _, _, r, _⟩ => by rw [e, List.length_cons, ← r.length, hn, hps]) (fun cdv A outer s H vs Q' E' hr ⟨F, a, ho, d0, ds, ws, Q, E, hn, ev, sm, hf, ha, o, r, h, g, gx⟩ => ?_)
  subst ev
  have fin : ∀ {F' H' : Hp} {env : List Slot} {σ : L2.St} {d' : D}, ER K ⟨minus H a, some a, F⟩ F' env σ H' → env[0]? = some (.own d') → ∃ ho', GrowB a F H F' H' ∧ H' a = some ho' ∧ OwnH K F' d' ho' := fun {F' H' env σ d'} R h0 => by
    obtain ⟨p, ho', h1, h2, h3, h4⟩ := own_ix R h0
    obtain ⟨k1, _⟩ := R.io a rfl
    rw [k1] at h1; cases h1
    refine ⟨ho', ⟨R.f0, R.sf, fun b q z hb => R.sb b q (by show (if b = a then none else H b) = some q; rw [if_neg hb]; exact z), fun b z1 z2 => ?_⟩, h2, h4⟩
    by_cases hb : b = a
    · rw [hb]; exact h3
    · obtain ⟨x, z3, z4⟩ := z2
      exact R.fz b z1 ⟨x, by show (if b = a then none else H b) = some x; rw [if_neg hb]; exact z3, z4⟩
  obtain ⟨t, ht, hq⟩ := hbody cdv A outer s H (minus H a) F a E' E hr ((takes_of rfl rfl rfl rfl : Takes (cxOf (L2.CX P w) P w K mg base N qual (defScope st) f cdv A outer s H E') (fun cls d _ H => E' cls d H)).imp fun cls d σ H' ⟨env, F', ed, R, rx, ex⟩ => by
    obtain ⟨d', hd', ex⟩ := own0_of ex
    obtain ⟨ho', g1, g2, g3⟩ := fin R hd'
    exact gx ed cls d d' ho' F' H' g1 g2 g3 rx ex)
  refine ⟨_, ht, envB N d0 ds, F, _, er_startB sm hf ha o r, hq d0 ds Q hn h, fun env' F' σ' H' s' R' q => ?_, fun d v env' F' σ' H' s' R' rd q => ?_, fun _ _ _ _ _ _ z => z.elim, fun _ _ _ _ _ _ z => z.elim⟩
  · obtain ⟨d', hd', q⟩ := own0_of q
    obtain ⟨ho', g1, g2, g3⟩ := fin R' hd'
    exact g .non .non d' ho' F' H' g1 g2 g3 rfl q
  · obtain ⟨d', hd', q⟩ := own0_of q
    obtain ⟨ho', g1, g2, g3⟩ := fin R' hd'
    exact g d v d' ho' F' H' g1 g2 g3 rd q
end
end QL
namespace QL
open PySem PySem.Spec PyProof.Rows L2
theorem bt_len : bootBuiltins "len" = some (.builtin "len") := by decide +kernel
theorem bt_max : bootBuiltins "max" = some (.builtin "max") := by decide +kernel
theorem bt_min : bootBuiltins "min" = some (.builtin "min") := by decide +kernel
theorem bt_all : bootBuiltins "all" = some (.builtin "all") := by decide +kernel
theorem bt_any : bootBuiltins "any" = some (.builtin "any") := by decide +kernel
theorem bt_isinstance : bootBuiltins "isinstance" = some (.builtin "isinstance") := by decide +kernel
theorem bt_int : bootBuiltins "int" = some (.type "int") := by decide +kernel
theorem bt_bool : bootBuiltins "bool" = some (.type "bool") := by decide +kernel
theorem bt_list : bootBuiltins "list" = some (.type "list") := by decide +kernel
theorem bt_tuple : bootBuiltins "tuple" = some (.type "tuple") := by decide +kernel
theorem qs_nev {X : Cx} {bx : Bx} {st : Stmt} : QS X bx st sNever := ps_imp ps_never fun Dn σ H ⟨env, F, en, R, ht, _⟩ => ht
end QL
set_option Elab.async false
set_option linter.all false
set_option maxRecDepth 100000
namespace QL
open PySem PySem.Spec PyProof.Rows L2
/-! ### the readings, step by step -/
def bq (d : D) (Q : Bool → Prop) : Prop := match d with
  | .bl k => Q k
  | _ => False
def valQ (s : Slot) (Q : D → Prop) : Prop := match s with
  | .val d => Q d
  | _ => False
def ownQ (s : Slot) (Q : D → Prop) : Prop := match s with
  | .own d => Q d
  | _ => False
def anyQ (s : Slot) (Q : D → Prop) (Q' : D → Prop) : Prop := match s with
  | .val d => Q d
  | .own d => Q' d
  | _ => False
def trq (d : D) (P : Bool → Prop) : Prop := match truD d with
  | some k => P k
  | none => False
section
variable {env : List Slot} {Q : D → List Slot → Prop} {QB : Bool → List Slot → Prop} {QM : List D → List Slot → Prop} {Q0 : D → Prop} {d e : D} {i j : Nat} {ta tb tc : RE} {r r' : V2} {u : V1} {vl : VL} {t : RA} {c c' : RB} {en : PEnds} {ts us : RS} {g : RG} {gs : RGs} {EX : XD} {S : FA} {M : FB} {n : Nat}
theorem e_own0 {l : List Slot} {P : D → Prop} : own0 (.own d :: l) P = P d := rfl
theorem e_c : rC d env Q = Q d env := rfl
theorem e_var : rVar i env Q = valQ (getS env i) fun d => Q d env := by
  unfold rVar; rw [getS_eq]
  cases env[i]? with
  | none => rfl
  | some s => cases s <;> rfl
theorem e_varO : rVarO i env Q = anyQ (getS env i) (fun d => Q d env) (fun d => Q d (putS env i (.val d))) := by
  unfold rVarO; rw [getS_eq]
  cases env[i]? with
  | none => rfl
  | some s => cases s <;> first | rfl | (simp only [putS_eq]; rfl)
theorem e_valQ {P : D → Prop} : valQ (.val d) P = P d := rfl
theorem e_ownQ {P : D → Prop} : ownQ (.own d) P = P d := rfl
theorem e_anyV {P P' : D → Prop} : anyQ (.val d) P P' = P d := rfl
theorem e_anyO {P P' : D → Prop} : anyQ (.own d) P P' = P' d := rfl
theorem e_get0 {s : Slot} {l : List Slot} : getS (s :: l) 0 = s := rfl
theorem e_getS {s : Slot} {l : List Slot} : getS (s :: l) (n + 1) = getS l n := rfl
theorem e_put0 {s s' : Slot} {l : List Slot} : putS (s :: l) 0 s' = s' :: l := rfl
theorem e_putS {s s' : Slot} {l : List Slot} : putS (s :: l) (n + 1) s' = s :: putS l n s' := rfl
def notOwn : Slot → Bool
  | .own _ => false
  | _ => true
theorem e_noN {env : List Slot} : noOwn [] env = true := rfl
theorem e_noC {is : List Nat} {env : List Slot} : noOwn (i :: is) env = (notOwn (getS env i) && noOwn is env) := by
  show ((match env[i]? with | some (.own _) => false | _ => true) && noOwn is env) = _
  rw [getS_eq]
  cases env[i]? with
  | none => rfl
  | some s => cases s <;> rfl
theorem e_noU : notOwn .un = true := rfl
theorem e_noV : notOwn (.val d) = true := rfl
theorem e_wipN {env : List Slot} : wipeE [] env = env := rfl
theorem e_wipC {is : List Nat} {env : List Slot} : wipeE (i :: is) env = putS (wipeE is env) i .un := by show (wipeE is env).set i .un = _; rw [putS_eq]
theorem e_bakN {old env : List Slot} : backE [] old env = env := rfl
theorem e_bakC {is : List Nat} {old env : List Slot} : backE (i :: is) old env = putS (backE is old env) i (getS old i) := rfl
theorem e_ownN {α β : Type} {f : α → β} : List.map f [] = [] := rfl
theorem e_op : rOp r ta tb env Q = ta env fun d env1 => tb env1 fun e env2 => r d e fun z => Q z env2 := rfl
theorem e_un : rUn u ta env Q = ta env fun d env1 => u d fun z => Q z env1 := rfl
theorem e_tst : rTst ta env QB = ta env fun d env1 => bq d fun k => QB k env1 := rfl
theorem e_bq {k : Bool} {P : Bool → Prop} : bq (.bl k) P = P k := rfl
theorem e_tru : rTru ta env QB = ta env fun d env1 => trq d fun k => QB k env1 := rfl
theorem e_notT : rNotT c env QB = c env fun b env1 => QB (!b) env1 := rfl
theorem e_andT : rAndT c c' env QB = c env fun b env1 => if b = true then c' env1 QB else QB false env1 := rfl
theorem e_orT : rOrT c c' env QB = c env fun b env1 => if b = true then QB true env1 else c' env1 QB := rfl
theorem e_and : rAnd ta tb env Q = ta env fun d env1 => trq d fun k => (if k = true then tb env1 Q else Q d env1) := rfl
theorem e_or : rOr ta tb env Q = ta env fun d env1 => trq d fun k => (if k = true then Q d env1 else tb env1 Q) := rfl
theorem e_not : rNot ta env Q = ta env fun d env1 => trq d fun k => Q (.bl (!k)) env1 := rfl
theorem e_tqB {k : Bool} {P : Bool → Prop} : trq (.bl k) P = P k := rfl
theorem e_tqI {k : Int} {P : Bool → Prop} : trq (.int k) P = P (k != 0) := rfl
theorem e_tqN {P : Bool → Prop} : trq .non P = P false := rfl
theorem e_tqL {xs : List D} {P : Bool → Prop} : trq (.lst xs) P = P (!xs.isEmpty) := rfl
theorem e_tqT {xs : List D} {P : Bool → Prop} : trq (.tup xs) P = P (!xs.isEmpty) := rfl
theorem e_if : rIf c ta tb env Q = c env fun b env1 => if b = true then ta env1 Q else tb env1 Q := rfl
theorem e_chain : rChain r r' ta tb tc env Q = ta env fun d env1 => tb env1 fun e env2 => r d e fun z => bq z fun k => if k = true then tc env2 fun w env3 => r' e w fun z => Q z env3 else Q (.bl false) env2 := by
  unfold rChain bq; rfl
theorem e_nil : rNil env QM = QM [] env := rfl
theorem e_cons : rCons ta t env QM = ta env fun d env1 => t env1 fun ds env2 => QM (d :: ds) env2 := rfl
theorem e_tup : rTup t env Q = t env fun ds env1 => ds.length ≤ sizeLine ∧ Q (.tup ds) env1 := rfl
theorem e_lst : rLst t env Q = t env fun ds env1 => ds.length ≤ sizeLine ∧ Q (.lst ds) env1 := rfl
theorem e_ixO : rIxO i tb env Q = ownQ (getS env i) fun _ => tb env fun j env1 => ownQ (getS env1 i) fun d => vIx d j fun z => Q z env1 := by
  unfold rIxO; rw [getS_eq]
  cases h : env[i]? with
  | none =>
    show _ = False
    exact propext ⟨fun ⟨⟨d, z⟩, _⟩ => (by cases z), fun z => z.elim⟩
  | some s =>
    cases s with
    | un => exact propext ⟨fun ⟨⟨d, z⟩, _⟩ => (by cases z), fun z => z.elim⟩
    | val d => exact propext ⟨fun ⟨⟨d, z⟩, _⟩ => (by cases z), fun z => z.elim⟩
    | own d =>
      have e : (fun (j : D) (env1 : List Slot) => match env1[i]? with | some (.own d) => vIx d j fun z => Q z env1 | _ => False) = fun j env1 => ownQ (getS env1 i) fun d => vIx d j fun z => Q z env1 := by
        funext j env1
        rw [getS_eq]
        cases env1[i]? with
        | none => rfl
        | some s => cases s <;> rfl
      exact propext ⟨fun ⟨_, z⟩ => by rw [← e]; exact z, fun z => ⟨⟨d, rfl⟩, by rw [← e] at z; exact z⟩⟩
theorem e_call : rCall S n EX t env Q = t env fun ds env1 => ds.length = n ∧ S ds (fun d => Q d env1) fun ed => EX ed env1 := rfl
theorem e_callM : rCallM i M n EX t env Q = ownQ (getS env i) fun _ => t env fun ds env1 => ownQ (getS env1 i) fun d0 => ds.length = n ∧ M d0 ds (fun d d' => Q d (putS env1 i (.own d'))) fun ed d' => EX ed (putS env1 i (.own d')) := by
  unfold rCallM; rw [getS_eq]
  have e : (fun (ds : List D) (env1 : List Slot) => match env1[i]? with | some (.own d0) => ds.length = n ∧ M d0 ds (fun d d' => Q d (env1.set i (.own d'))) (fun ed d' => EX ed (env1.set i (.own d'))) | _ => False) = fun ds env1 => ownQ (getS env1 i) fun d0 => ds.length = n ∧ M d0 ds (fun d d' => Q d (putS env1 i (.own d'))) fun ed d' => EX ed (putS env1 i (.own d')) := by
    funext ds env1
    rw [getS_eq]
    cases env1[i]? with
    | none => rfl
    | some s => cases s <;> first | rfl | (simp only [putS_eq]; rfl)
  cases h : env[i]? with
  | none => exact propext ⟨fun ⟨⟨d, z⟩, _⟩ => (by cases z), fun z => z.elim⟩
  | some s =>
    cases s with
    | un => exact propext ⟨fun ⟨⟨d, z⟩, _⟩ => (by cases z), fun z => z.elim⟩
    | val d => exact propext ⟨fun ⟨⟨d, z⟩, _⟩ => (by cases z), fun z => z.elim⟩
    | own d => exact propext ⟨fun ⟨_, z⟩ => by rw [← e]; exact z, fun z => ⟨⟨d, rfl⟩, by rw [← e] at z; exact z⟩⟩
theorem e_cb : rCB vl t env Q = t env fun ds env1 => vl ds fun z => Q z env1 := rfl
theorem e_snil : sNil en env = en.nx env := rfl
theorem e_seq : sSeq ts us en env = ts { en with nx := fun env' => us en env' } env := rfl
theorem e_asg : sAsg ta g en env = ta env fun d env1 => g d env1 en.nx := rfl
theorem e_own : sOwn i ta en env = ta env fun d env1 => en.nx (putS env1 i (.own d)) := by unfold sOwn; simp only [putS_eq]
theorem e_drop : sDrop ta en env = ta env fun _ env1 => en.nx env1 := rfl
theorem e_ret : sRet ta en env = ta env en.rt := rfl
theorem e_retN : sRetN en env = en.rt .non env := rfl
theorem e_sif : sIf c ts us en env = c env fun b env1 => if b = true then ts en env1 else us en env1 := rfl
theorem e_brk : sBrk en env = en.bk env := rfl
theorem e_cnt : sCnt en env = en.ct env := rfl
theorem e_nev : sNever en env = False := rfl
theorem e_gn {P : List Slot → Prop} : rgN i d env P = P (putS env i (.val d)) := by unfold rgN; rw [putS_eq]
theorem e_gnil {P : List Slot → Prop} : rgNil [] env P = P env := by unfold rgNil; exact propext ⟨fun h => h.2, fun h => ⟨rfl, h⟩⟩
theorem e_gcons {P : List Slot → Prop} {ds : List D} : rgCons g gs (d :: ds) env P = g d env fun env1 => gs ds env1 P := rfl
theorem e_gt {P : List Slot → Prop} {xs : List D} : rgT n gs (.tup xs) env P = (xs.length = n ∧ gs xs env P) := rfl
theorem e_par : sPar i j t en env = t env fun ds env1 => match ds with | [d, e] => en.nx (putS (putS env1 i (.val d)) j (.val e)) | _ => False := by unfold sPar; simp only [putS_eq]; try rfl
theorem e_aug : sAug i r ta en env = valQ (getS env i) fun d => ta env fun e env1 => r d e fun z => en.nx (putS env1 i (.val z)) := by
  unfold sAug; rw [getS_eq]
  cases env[i]? with
  | none => rfl
  | some s => cases s <;> first | rfl | (simp only [putS_eq]; rfl)
def lstQ (d : D) (Q : List D → Prop) : Prop := match d with
  | .lst xs => Q xs
  | _ => False
theorem e_lstQ {xs : List D} {P : List D → Prop} : lstQ (.lst xs) P = P xs := rfl
def intQ (d : D) (Q : Int → Prop) : Prop := match d with
  | .int i => Q i
  | _ => False
theorem e_intQ {k : Int} {P : Int → Prop} : intQ (.int k) P = P k := rfl
theorem e_augI {r : V2} {tj te : RE} : sAugI i r tj te en env = ownQ (getS env i) fun d => lstQ d fun _ => tj env fun j env1 => ownQ (getS env1 i) fun e => lstQ e fun xs => intQ j fun k => ∃ d, atI xs k = some d ∧ te env1 fun e env2 => r d e fun z => ownQ (getS env2 i) fun f => lstQ f fun ys => ∃ n, ixN ys.length k = some n ∧ en.nx (putS env2 i (.own (.lst (ys.set n z)))) := by
  unfold sAugI; rw [getS_eq]
  have e : (fun (j : D) (env1 : List Slot) => match env1[i]? with
  | some (.own (.lst xs)) => (match j with
    | .int k => ∃ d, atI xs k = some d ∧ te env1 fun e env2 => r d e fun z => match env2[i]? with
      | some (.own (.lst ys)) => ∃ n, ixN ys.length k = some n ∧ en.nx (env2.set i (.own (.lst (ys.set n z))))
      | _ => False
    | _ => False)
  | _ => False) = fun j env1 => ownQ (getS env1 i) fun e => lstQ e fun xs => intQ j fun k => ∃ d, atI xs k = some d ∧ te env1 fun e env2 => r d e fun z => ownQ (getS env2 i) fun f => lstQ f fun ys => ∃ n, ixN ys.length k = some n ∧ en.nx (putS env2 i (.own (.lst (ys.set n z)))) := by
    funext j env1
    rw [getS_eq]
    cases env1[i]? with
    | none => rfl
    | some s =>
      cases s with
      | un => rfl
      | val _ => rfl
      | own z =>
        cases z with
        | lst xs =>
          cases j with
          | int k =>
            show (∃ d, atI xs k = some d ∧ te env1 fun e env2 => r d e fun z => match env2[i]? with
      | some (.own (.lst ys)) => ∃ n, ixN ys.length k = some n ∧ en.nx (env2.set i (.own (.lst (ys.set n z))))
      | _ => False) = ∃ d, atI xs k = some d ∧ te env1 fun e env2 => r d e fun z => ownQ (getS env2 i) fun f => lstQ f fun ys => ∃ n, ixN ys.length k = some n ∧ en.nx (putS env2 i (.own (.lst (ys.set n z))))
            congr 1; funext d; congr 1; congr 1; funext e env2; congr 1; funext z
            rw [getS_eq]
            cases env2[i]? with
            | none => rfl
            | some s =>
              cases s with
              | un => rfl
              | val _ => rfl
              | own z => cases z <;> first | rfl | (simp only [putS_eq]; rfl)
          | _ => rfl
        | _ => rfl
  cases h : env[i]? with
  | none => exact propext ⟨fun ⟨⟨d, z⟩, _⟩ => (by cases z), fun z => z.elim⟩
  | some s =>
    cases s with
    | un => exact propext ⟨fun ⟨⟨d, z⟩, _⟩ => (by cases z), fun z => z.elim⟩
    | val d => exact propext ⟨fun ⟨⟨d, z⟩, _⟩ => (by cases z), fun z => z.elim⟩
    | own d =>
      cases d with
      | lst xs => exact propext ⟨fun ⟨_, z⟩ => by rw [← e]; exact z, fun z => ⟨⟨xs, rfl⟩, by rw [← e] at z; exact z⟩⟩
      | _ => exact propext ⟨fun ⟨⟨d, z⟩, _⟩ => (by cases z), fun z => z.elim⟩
/-! loops -/
theorem e_for {ti : RI} {tb : RS} : sFor ti g tb en env = ti env fun xs env1 => forR g tb en xs env1 := rfl
theorem e_forN {tb : RS} : forR g tb en [] env = en.nx env := rfl
theorem e_forC {tb : RS} {xs : List D} : forR g tb en (d :: xs) env = g d env fun env1 => tb { en with nx := forR g tb en xs, ct := forR g tb en xs, bk := en.nx } env1 := rfl
theorem e_lc {ti : RI} {tt : RB} {is : List Nat} : rLc ti g tt ta is env Q = ti env fun xs env1 => noOwn is env1 = true ∧ lcR g tt ta is xs [] (wipeE is env1) fun acc env2 => Q (.lst acc) (backE is env1 env2) := rfl
theorem e_riL {P : List D → List Slot → Prop} : riL ta env P = ta env fun d env1 => match d with | .lst xs => P xs env1 | .scr ns => P (ns.map D.int) env1 | _ => False := rfl
theorem e_riT {P : List D → List Slot → Prop} : riT ta env P = ta env fun d env1 => match d with | .tup xs => P xs env1 | _ => False := rfl
theorem e_riR1 {P : List D → List Slot → Prop} : riR1 t env P = t env fun ds env1 => match ds with | [.int j] => (-(2 ^ 62) ≤ j ∧ j < 2 ^ 62) ∧ P (rng 0 j.toNat) env1 | _ => False := rfl
theorem e_riR2 {P : List D → List Slot → Prop} : riR2 t env P = t env fun ds env1 => match ds with | [.int i, .int j] => (-(2 ^ 62) ≤ i ∧ i < 2 ^ 62 ∧ -(2 ^ 62) ≤ j ∧ j < 2 ^ 62) ∧ P (rng i (j - i).toNat) env1 | _ => False := rfl
theorem e_riE {P : List D → List Slot → Prop} : riE t env P = t env fun ds env1 => match ds with | [.lst xs] => P (enumD xs) env1 | _ => False := rfl
theorem e_riZ {P : List D → List Slot → Prop} : riZ t env P = t env fun ds env1 => match ds with | [.lst xs, .lst ys] => P (zipD xs ys) env1 | _ => False := rfl
theorem e_yes : rYes env QB = QB true env := rfl
/-! operators -/
variable {a b : Int} {xs ys : List D} {P : D → Prop}
theorem o_add : vAdd (.int a) (.int b) P = P (.int (a + b)) := rfl
theorem o_addL : vAdd (.lst xs) (.lst ys) P = (xs.length + ys.length ≤ sizeLine ∧ P (.lst (xs ++ ys))) := rfl
theorem o_addT : vAdd (.tup xs) (.tup ys) P = ((xs ≠ [] ∧ xs.length + ys.length ≤ sizeLine) ∧ P (.tup (xs ++ ys))) := rfl
theorem o_addLL : vAddL (.lst xs) (.lst ys) P = (xs.length + ys.length ≤ sizeLine ∧ P (.lst (xs ++ ys))) := rfl
theorem o_sub : vSub (.int a) (.int b) P = P (.int (a - b)) := rfl
theorem o_mul : vMul (.int a) (.int b) P = (MOk a b ∧ P (.int (a * b))) := rfl
theorem o_div : vDiv (.int a) (.int b) P = (DOk b ∧ P (.int (a / b))) := rfl
theorem o_mod : vMod (.int a) (.int b) P = (0 < b ∧ P (.int (a % b))) := rfl
theorem o_pow : vPow (.int a) (.int b) P = ((0 ≤ b ∧ b ≤ 1000000 ∧ a.natAbs < 2 ^ 64) ∧ P (.int (a ^ b.toNat))) := rfl
theorem o_shl : vShl (.int a) (.int b) P = ((0 ≤ b ∧ b ≤ 1000000 ∧ a.natAbs < 2 ^ 64) ∧ P (.int (a * 2 ^ b.toNat))) := rfl
theorem o_shr : vShr (.int a) (.int b) P = (0 ≤ b ∧ P (.int (a / 2 ^ b.toNat))) := rfl
theorem o_neg : vNeg (.int a) P = P (.int (-a)) := rfl
theorem o_lt : vLt (.int a) (.int b) P = P (.bl (decide (a < b))) := rfl
theorem o_le : vLe (.int a) (.int b) P = P (.bl (decide (a ≤ b))) := rfl
theorem o_gt : vGt (.int a) (.int b) P = P (.bl (decide (b < a))) := rfl
theorem o_ge : vGe (.int a) (.int b) P = P (.bl (decide (b ≤ a))) := rfl
theorem o_eq : vEq (.int a) (.int b) P = P (.bl (decide (a = b))) := rfl
theorem o_ne : vNe (.int a) (.int b) P = P (.bl (!decide (a = b))) := rfl
theorem o_iadd : vIAdd (.int a) (.int b) P = P (.int (a + b)) := rfl
theorem o_isub : vISub (.int a) (.int b) P = P (.int (a - b)) := rfl
theorem o_ixL : vIx (.lst xs) (.int a) P = ∃ d, atI xs a = some d ∧ P d := rfl
theorem o_ixT : vIx (.tup xs) (.int a) P = ∃ d, atI xs a = some d ∧ P d := rfl
theorem o_ixS {ns : List Int} : vIx (.scr ns) (.int a) P = ∃ n, atI ns a = some n ∧ P (.int n) := rfl
theorem o_lenL : vLen [.lst xs] P = P (.int xs.length) := rfl
theorem o_lenT : vLen [.tup xs] P = P (.int xs.length) := rfl
theorem o_lenS {ns : List Int} : vLen [.scr ns] P = P (.int ns.length) := rfl
theorem o_abs : vAbs [.int a] P = P (.int (if a < 0 then -a else a)) := rfl
theorem o_int : QL.vInt [.int a] P = P (.int a) := rfl
theorem o_max : vMax [.int a, .int b] P = P (.int (if b > a then b else a)) := rfl
theorem o_min : vMin [.int a, .int b] P = P (.int (if b < a then b else a)) := rfl
theorem o_sum : vSum [.lst xs] P = ∃ ns, allInts xs = some ns ∧ P (.int ns.sum) := rfl
theorem shaped_ints (ns : List Int) : SeqAt.shaped (.list (ns.map PyData.int)) = true := by
  unfold SeqAt.shaped
  have h1 : ∀ ns : List Int, PyData.canLayAll0 (ns.map PyData.int) = true := fun ns => by
    induction ns with
    | nil => rfl
    | cons a r ih => simp only [List.map, PyData.canLayAll0, PyData.canLay0, ih, Bool.and_self]
  have h2 : ∀ ns : List Int, PyData.depthAll (ns.map PyData.int) = 0 := fun ns => by
    induction ns with
    | nil => rfl
    | cons a r ih => simp only [List.map, PyData.depthAll, PyData.depth, ih, Nat.max_self]
  rw [Bool.and_eq_true]
  exact ⟨by rw [PyData.canLay0]; exact h1 ns, by rw [PyData.depth, h2]; rfl⟩
theorem o_neS {ns : List Int} : vNe (.scr ns) (.lst []) P = P (.bl (!ns.isEmpty)) := by
  show (okP (.scr ns) = true ∧ okP (.lst []) = true ∧ SeqAt.shaped (.list (ns.map PyData.int)) = true ∧ SeqAt.shaped (.list []) = true ∧ P (.bl (!PyData.eqv (.list (ns.map PyData.int)) (.list [])))) = _
  have e : PyData.eqv (.list (ns.map PyData.int)) (.list []) = ns.isEmpty := by cases ns <;> rfl
  rw [e]
  exact propext ⟨fun h => h.2.2.2.2, fun h => ⟨rfl, rfl, shaped_ints ns, shaped_ints [], h⟩⟩
end
section
variable {g : RG} {tb : RS} {en : PEnds} {xs xs' acc acc' : List D} {env env' : List Slot} {c : RB} {tt : RB} {te : RE} {is : List Nat} {Q : List D → List Slot → Prop}
end
/-! a cut: what stands between is told -/
def rCut (t : RE) : RE := fun env Q => ∃ R : D → List Slot → Prop, t env R ∧ ∀ d env', R d env' → Q d env'
def sCut (t : RS) : RS := fun en env => ∃ N : List Slot → Prop, t { en with nx := N } env ∧ ∀ env', N env' → en.nx env'
theorem q_cut {X : Cx} {bx : Bx} {e : Expr} {t : RE} (h : QE X bx e t) : QE X bx e (rCut t) := pe_imp h fun σ H Q' ⟨env, F, Q, R, ⟨R0, ht, i⟩, k⟩ => ⟨env, F, R0, R, ht, fun d v env' F' H' s R' r q => k d v env' F' H' s R' r (i d env' q)⟩
theorem qs_cut {X : Cx} {bx : Bx} {st : Stmt} {t : RS} (h : QS X bx st t) : QS X bx st (sCut t) := ps_imp h fun Dn σ H ⟨env, F, en, R, ⟨N, ht, i⟩, k1, k2, k3, k4⟩ => ⟨env, F, _, R, ht, fun env' F' σ' H' s R' q => k1 env' F' σ' H' s R' (i env' q), k2, k3, k4⟩
/-! rules for loops -/
/-- a for by what holds behind each turn -/
theorem forR_inv {g : RG} {tb : RS} {en : PEnds} {xs : List D} {env : List Slot} (I : Nat → List Slot → Prop) (h0 : I 0 env)
    (hs : ∀ (i : Nat) (d : D) (env : List Slot) (N : List Slot → Prop), xs[i]? = some d → I i env → (∀ env', I (i + 1) env' → N env') → g d env fun env1 => tb { en with nx := N, ct := N, bk := en.nx } env1) (he : ∀ env, I xs.length env → en.nx env) : forR g tb en xs env := by
  have main : ∀ (n i : Nat) (env : List Slot), n = xs.length - i → i ≤ xs.length → I i env → forR g tb en (xs.drop i) env := by
    intro n
    induction n with
    | zero =>
      intro i env hn hi h
      have e : i = xs.length := by omega
      subst e
      rw [List.drop_length]
      exact he env h
    | succ n ih =>
      intro i env hn hi h
      have hlt : i < xs.length := by omega
      rw [List.drop_eq_getElem_cons hlt]
      exact hs i _ env _ (List.getElem?_eq_getElem hlt) h fun e' q' => ih (i + 1) e' (by omega) hlt q'
  exact main _ 0 env rfl (Nat.zero_le _) h0
theorem rng_len {lo : Int} {n : Nat} : (rng lo n).length = n := by simp [rng]
theorem rng_get {lo : Int} {n i : Nat} {d : D} (h : (rng lo n)[i]? = some d) : i < n ∧ d = .int (lo + (i : Nat)) := by
  have hi := (List.getElem?_eq_some_iff.mp h).1
  rw [rng_len] at hi
  simp [rng, hi] at h
  exact ⟨hi, h.symm⟩
/-- .. over a range -/
theorem forR_rng {g : RG} {tb : RS} {en : PEnds} {lo : Int} {n : Nat} {env : List Slot} (I : Nat → List Slot → Prop) (h0 : I 0 env)
    (hs : ∀ (i : Nat) (env : List Slot) (N : List Slot → Prop), i < n → I i env → (∀ env', I (i + 1) env' → N env') → g (.int (lo + (i : Nat))) env fun env1 => tb { en with nx := N, ct := N, bk := en.nx } env1) (he : ∀ env, I n env → en.nx env) : forR g tb en (rng lo n) env :=
  forR_inv I h0 (fun i d env N hd hI hN => by
    obtain ⟨hi, rfl⟩ := rng_get hd
    exact hs i env N hi hI hN) (fun env h => he env (by rw [rng_len] at h; exact h))
/-- a comprehension by what holds behind each turn -/
theorem lcR_inv {g : RG} {tt : RB} {te : RE} {is : List Nat} {xs acc0 : List D} {env : List Slot} {Q : List D → List Slot → Prop} (I : Nat → List D → List Slot → Prop) (h0 : I 0 acc0 env)
    (hs : ∀ (i : Nat) (d : D) (acc : List D) (env : List Slot) (N : List D → List Slot → Prop), xs[i]? = some d → I i acc env → (∀ acc' env', I (i + 1) acc' env' → N acc' env') →
      g d env fun env1 => tt env1 fun b env2 => if b = true then te env2 fun d env3 => acc.length < sizeLine ∧ N (acc ++ [d]) (wipeE is env3) else N acc (wipeE is env2)) (he : ∀ acc env, I xs.length acc env → Q acc env) : lcR g tt te is xs acc0 env Q := by
  have main : ∀ (n i : Nat) (acc : List D) (env : List Slot), n = xs.length - i → i ≤ xs.length → I i acc env → lcR g tt te is (xs.drop i) acc env Q := by
    intro n
    induction n with
    | zero =>
      intro i acc env hn hi h
      have e : i = xs.length := by omega
      subst e
      rw [List.drop_length]
      exact he acc env h
    | succ n ih =>
      intro i acc env hn hi h
      have hlt : i < xs.length := by omega
      rw [List.drop_eq_getElem_cons hlt]
      exact hs i _ acc env (fun acc env => lcR g tt te is (xs.drop (i + 1)) acc env Q) (List.getElem?_eq_getElem hlt) h fun acc' e' q' => ih (i + 1) acc' e' (by omega) hlt q'
  exact main _ 0 acc0 env rfl (Nat.zero_le _) h0
/-- .. that gives f of each item, and leaves all else -/
theorem lcR_map {g : RG} {te : RE} {is : List Nat} {xs : List D} {env : List Slot} {Q : List D → List Slot → Prop} (f : D → D) (hl : xs.length ≤ sizeLine)
    (hs : ∀ (d : D) (N : D → List Slot → Prop), d ∈ xs → (∀ env', wipeE is env' = env → N (f d) env') → g d env fun env1 => te env1 N) (he : Q (xs.map f) env) : lcR g rYes te is xs [] env Q := by
  refine lcR_inv (fun i acc e => acc = (xs.take i).map f ∧ e = env) ⟨by simp, rfl⟩ ?_ ?_
  · rintro i d acc e N hd ⟨rfl, rfl⟩ hN
    have hi := (List.getElem?_eq_some_iff.mp hd).1
    have z := hs d (fun z env3 => ((xs.take i).map f).length < sizeLine ∧ N ((xs.take i).map f ++ [z]) (wipeE is env3)) (List.mem_of_getElem? hd) (fun env' he => ⟨by rw [List.length_map, List.length_take]; omega, by
      rw [he]
      refine hN _ _ ⟨?_, rfl⟩
      rw [List.take_add_one, hd, List.map_append]
      rfl⟩)
    exact z
  · rintro acc e ⟨rfl, rfl⟩
    rw [List.take_length]
    exact he
theorem atI_get_nat {α : Type} {xs : List α} {i : Int} (h0 : 0 ≤ i) (h : i < xs.length) : ∃ d, atI xs i = some d ∧ d ∈ xs := by
  have hn : i.toNat < xs.length := by omega
  refine ⟨xs[i.toNat], ?_, List.getElem_mem _⟩
  have e : i = ((i.toNat : Nat) : Int) := by omega
  conv => lhs; rw [e]
  exact atI_nat (List.getElem?_eq_getElem hn)
/-! sizes -/
/-- below 2 ^ n -/
class Bd (i : Int) (n : outParam Nat) : Prop where
  h : i.natAbs < 2 ^ n
theorem MOk.of {i j : Int} {a b : Nat} (h1 : i.natAbs < 2 ^ a) (h2 : j.natAbs < 2 ^ b) (h : a + b ≤ 999990) : MOk i j :=
  .inl (wide_mul (a := a + 1) (b := b + 1) (Nat.lt_of_lt_of_le h1 (Nat.pow_le_pow_right (by decide) (by omega))) (Nat.lt_of_lt_of_le h2 (Nat.pow_le_pow_right (by decide) (by omega))) (by omega) (by omega) (by omega))
theorem MOk.l {i j : Int} (h : -(2 ^ 64) < i) (h2 : i < 2 ^ 64) : MOk i j := .inr (.inl ⟨h, h2⟩)
theorem MOk.r {i j : Int} (h : -(2 ^ 64) < j) (h2 : j < 2 ^ 64) : MOk i j := .inr (.inr ⟨h, h2⟩)
theorem DOk.of {j : Int} {b : Nat} (h : 0 < j) (h2 : j.natAbs < 2 ^ b) (h3 : b ≤ 8990) : DOk j := ⟨h, by
  have := wide_div (i := 0) (b := b + 1) h (Nat.lt_of_lt_of_le h2 (Nat.pow_le_pow_right (by decide) (by omega))) (by omega) (by omega)
  exact this.2⟩
theorem DOk.small {j : Int} (h : 0 < j) (h2 : j < 18446744073709551616) : DOk j := DOk.of (b := 64) h (by
  have : (2 : Nat) ^ 64 = 18446744073709551616 := by decide
  omega) (by decide)
theorem bd_mul {i j : Int} {a b : Nat} (h1 : i.natAbs < 2 ^ a) (h2 : j.natAbs < 2 ^ b) : (i * j).natAbs < 2 ^ (a + b) := wide_lt h1 h2
theorem bd_add {i j : Int} {a b : Nat} (h1 : i.natAbs < 2 ^ a) (h2 : j.natAbs < 2 ^ b) : (i + j).natAbs < 2 ^ (max a b + 1) := by
  have e1 : (2 : Nat) ^ a ≤ 2 ^ max a b := Nat.pow_le_pow_right (by decide) (Nat.le_max_left _ _)
  have e2 : (2 : Nat) ^ b ≤ 2 ^ max a b := Nat.pow_le_pow_right (by decide) (Nat.le_max_right _ _)
  have e3 : (2 : Nat) ^ (max a b + 1) = 2 ^ max a b + 2 ^ max a b := by rw [Nat.pow_succ]; omega
  omega
theorem bd_sub {i j : Int} {a b : Nat} (h1 : i.natAbs < 2 ^ a) (h2 : j.natAbs < 2 ^ b) : (i - j).natAbs < 2 ^ (max a b + 1) := by
  have e1 : (2 : Nat) ^ a ≤ 2 ^ max a b := Nat.pow_le_pow_right (by decide) (Nat.le_max_left _ _)
  have e2 : (2 : Nat) ^ b ≤ 2 ^ max a b := Nat.pow_le_pow_right (by decide) (Nat.le_max_right _ _)
  have e3 : (2 : Nat) ^ (max a b + 1) = 2 ^ max a b + 2 ^ max a b := by rw [Nat.pow_succ]; omega
  omega
theorem bd_mono {i : Int} {a b : Nat} (h1 : i.natAbs < 2 ^ a) (h : a ≤ b) : i.natAbs < 2 ^ b := Nat.lt_of_lt_of_le h1 (Nat.pow_le_pow_right (by decide) h)
theorem bd_div {i j : Int} {a : Nat} (h0 : 0 < j) (h1 : i.natAbs < 2 ^ a) : (i / j).natAbs < 2 ^ (a + 1) := by
  have h2 : (i / j).natAbs ≤ i.natAbs + 1 := by
    by_cases h : 0 ≤ i
    · have := Int.ediv_nonneg h (Int.le_of_lt h0)
      have := Int.ediv_le_self j h
      omega
    · have k1 : i / j < 0 := Int.ediv_neg_of_neg_of_pos (by omega) h0
      have k2 : i ≤ i / j := by
        have e := Int.mul_ediv_add_emod i j
        have e2 := Int.emod_nonneg i (show j ≠ 0 by omega)
        have e3 := Int.emod_lt_of_pos i h0
        by_cases hc : i ≤ i / j
        · exact hc
        · have h5 : j * (i / j + 1) ≤ 1 * (i / j + 1) := Int.mul_le_mul_of_nonpos_right (by omega) (by omega)
          rw [Int.mul_add] at h5
          omega
      omega
  have e3 : (2 : Nat) ^ (a + 1) = 2 ^ a + 2 ^ a := by rw [Nat.pow_succ]; omega
  omega
end QL
set_option Elab.async false
set_option linter.all false
set_option maxRecDepth 100000
namespace QL
open PySem PySem.Spec PyProof.Rows L2
/-! ### order of tuples of ints -/
def lxE (ns ms : List Int) (j : Nat) : Bool := decide (ns.getD j 0 = ms.getD j 0)
def lexG (r : Int → Int → Bool) (z : Nat → Nat → Bool) (ns ms : List Int) : Bool :=
  Ob.lexAt (lxE ns ms) (fun j => r (ns.getD j 0) (ms.getD j 0)) (z ns.length ms.length) 0 (min ns.length ms.length)
def vOrdT (r : Int → Int → Bool) (z : Nat → Nat → Bool) : V2
  | .int i, .int j, Q => Q (.bl (r i j))
  | .tup xs, .tup ys, Q => ∃ ns ms, allInts xs = some ns ∧ allInts ys = some ms ∧ Q (.bl (lexG r z ns ms))
  | _, _, _ => False
section
variable {X : Cx}
def CmpT (X : Cx) (op : CmpOp) (r : Int → Int → Bool) (z : Nat → Nat → Bool) : Prop := ∀ {A : Around} {s : Shared} {l b : Addr} {items items2 : Array Value} {e r' : Nat → Bool}, IsTup s.heap l items → IsTup s.heap b items2 → A.units < cLine →
    (∀ j (h1 : j < items.size) (h2 : j < items2.size), SeqAt.EqAt A.in1 s items[j] items2[j] (e j)) →
    (∀ j (h1 : j < items.size) (h2 : j < items2.size), e j = false → Ob.RcOp op A.in1 s items[j] items2[j] (r' j)) →
    Ob.RcOp op A s (.ref l) (.ref b) (Ob.lexAt e r' (z items.size items2.size) 0 (min items.size items2.size))
def vGtT : V2 := vOrdT (fun a b => decide (b < a)) (fun n m => decide (n > m))
def vGeT : V2 := vOrdT (fun a b => decide (b ≤ a)) (fun n m => decide (n ≥ m))
def vLtT : V2 := vOrdT (fun a b => decide (a < b)) (fun n m => decide (n < m))
def vLeT : V2 := vOrdT (fun a b => decide (a ≤ b)) (fun n m => decide (n ≤ m))
end
theorem q_gi {X : Cx} {bx : Bx} {x : Str} {i : Int} {pos : Pos} (hg : Gl X x) (hm : ∃ t, X.mg x = some (.int i t)) (hd : (x == ("__debug__" : Str)) = false := by decide) : QE X bx (.Name x pos) (rC (.int i)) := by
  obtain ⟨t, h⟩ := hm
  exact q_con (pe_glob (v := .int i) hg h ⟨t, rfl⟩ hd) fun _ _ => rfl
/-! ### == of ints in tuples and lists -/
theorem eqv_ints : ∀ ns ms : List Int, PyData.eqvAll (ns.map PyData.int) (ms.map PyData.int) = decide (ns = ms)
  | [], [] => rfl
  | [], _ :: _ => by simp [PyData.eqvAll]
  | _ :: _, [] => by simp [PyData.eqvAll]
  | n :: ns, m :: ms => by
    rw [List.map_cons, List.map_cons, PyData.eqvAll, eqv_ints ns ms]
    have e : PyData.eqv (.int n) (.int m) = decide (n = m) := by
      unfold PyData.eqv
      by_cases h : n = m
      · subst h; simp
      · simp [h]
    rw [e, ← Bool.decide_and]
    simp
theorem toPs_ints : ∀ ns : List Int, toPs (ns.map D.int) = ns.map PyData.int
  | [] => rfl
  | n :: ns => by rw [List.map_cons, toPs, toPs_ints ns]; rfl
theorem okPs_ints : ∀ ns : List Int, okPs (ns.map D.int) = true
  | [] => rfl
  | n :: ns => by rw [List.map_cons, okPs, okPs_ints ns]; rfl
theorem shapedT_ints (ns : List Int) : SeqAt.shaped (.tuple (ns.map PyData.int)) = true := by
  have h := shaped_ints ns
  unfold SeqAt.shaped at h ⊢
  rw [Bool.and_eq_true] at h ⊢
  exact ⟨by rw [PyData.canLay0]; have h1 := h.1; rw [PyData.canLay0] at h1; exact h1, by rw [PyData.depth]; have h1 := h.2; rw [PyData.depth] at h1; exact h1⟩
theorem o_eqTn {ns ms : List Int} {P : D → Prop} : vEq (.tup (ns.map D.int)) (.tup (ms.map D.int)) P = P (.bl (decide (ns = ms))) := by
  show (okPs _ = true ∧ okPs _ = true ∧ SeqAt.shaped (.tuple (toPs _)) = true ∧ SeqAt.shaped (.tuple (toPs _)) = true ∧ P (.bl (PyData.eqv (.tuple (toPs _)) (.tuple (toPs _))))) = _
  rw [toPs_ints, toPs_ints, PyData.eqv, eqv_ints]
  exact propext ⟨fun h => h.2.2.2.2, fun h => ⟨okPs_ints _, okPs_ints _, shapedT_ints _, shapedT_ints _, h⟩⟩
theorem o_eqT2 {a b c d : Int} {P : D → Prop} : vEq (.tup [.int a, .int b]) (.tup [.int c, .int d]) P = P (.bl (decide ([a, b] = [c, d]))) := o_eqTn (ns := [a, b]) (ms := [c, d])
theorem o_eqT3 {a b c d a' b' : Int} {P : D → Prop} : vEq (.tup [.int a, .int b, .int c]) (.tup [.int d, .int a', .int b']) P = P (.bl (decide ([a, b, c] = [d, a', b']))) := o_eqTn (ns := [a, b, c]) (ms := [d, a', b'])
theorem o_neLn {ns ms : List Int} {P : D → Prop} : vNe (.lst (ns.map D.int)) (.lst (ms.map D.int)) P = P (.bl (!decide (ns = ms))) := by
  show (okPs _ = true ∧ okPs _ = true ∧ SeqAt.shaped (.list (toPs _)) = true ∧ SeqAt.shaped (.list (toPs _)) = true ∧ P (.bl (!PyData.eqv (.list (toPs _)) (.list (toPs _))))) = _
  rw [toPs_ints, toPs_ints, PyData.eqv, eqv_ints]
  exact propext ⟨fun h => h.2.2.2.2, fun h => ⟨okPs_ints _, okPs_ints _, shaped_ints _, shaped_ints _, h⟩⟩
end QL
set_option Elab.async false
set_option linter.all false
set_option maxRecDepth 100000
namespace QL
open PySem PySem.Spec PyProof.Rows L2
/-! ### own classes: calls whose exceptions see the slots -/
section
variable {X : Cx} {T : CXT} {k : Nat} {g C : Addr} {fn : FuncData} {qs : List Str} {sp : Sp} {Ex : L2.St → XK} {x m : Str} {p1 p2 p3 : Pos} {e o : Expr} {es : List Expr} {ta : TE} {tt : TA}
def tMakeE (C : Addr) (sp : Sp) (Ex : L2.St → XK) (tt : TA) : TE := fun σ H Q => tt σ H fun vs H1 => ∀ y dy, H1 y = none → H1 dy = none → dy ≠ y →
  sp (.ref y :: vs) (upd (upd H1 dy (.own y)) y (.ins C dy [])) (fun v H2 => v = .non ∧ Q (.ref y) H2) (Ex σ)
theorem go_make {pins : List (Addr × Obj)} {σ : L2.St} {H : Hp} {s : Shared} {Q : VK} {us : List Value} {vs : List V} (mk : Mk X.K C g) (ok : FnOk X.prog X.w X.K X.mg X.base T k g fn qs sp) (rm : Room (k + 1) X.A) (bd : Binds X.K fn qs [])
    (ex : PassesAt T X σ (Ex σ)) (J : Inv X pins σ H s) (rv : Vals vs us)
    (q : ∀ y dy, H y = none → H dy = none → dy ≠ y → sp (.ref y :: vs) (upd (upd H dy (.own y)) y (.ins C dy [])) (fun v H2 => v = .non ∧ Q (.ref y) H2) (Ex σ)) :
    wpAny (model X.prog X.w) X.A (call (.ref C) us) (EP X pins σ Q) X.xe s := by
  have q0 := q (s.heap.objs.size + 1) s.heap.objs.size (J.hok.fresh (Nat.le_succ _)) (J.hok.fresh (Nat.le_refl _)) (Nat.ne_of_lt (Nat.lt_succ_self _))
  have J2 := Inv.made (C := C) J
  have rv2 : Vals (V.ref (s.heap.objs.size + 1) :: vs) (Value.ref (s.heap.objs.size + 1) :: us) := .cons rfl rv
  have ln : (Value.ref (s.heap.objs.size + 1) :: us).length = qs.length := by
    have z := rv2.length
    rw [ok.len _ _ _ _ q0] at z
    exact z.symm
  have bd2 := bd _ (Value.ref (s.heap.objs.size + 1) :: us) J2.kIn (by rw [List.append_nil]; exact ln)
  rw [List.append_nil] at bd2
  have run := ok.run _ X.stack _ _ ⟨Value.ref (s.heap.objs.size + 1) :: us, []⟩ (Value.ref (s.heap.objs.size + 1) :: us) _ _ (Ex σ) (rm.make C us []) (J2.env0.make C us []) bd2 rv2 q0
  refine wpAny_call (make_map (f := g) J.kIn mk.makes mk.init (beq_iff_eq.mp mk.fn) (codeAny_mono run fun r s2 w => ?_))
  rcases r with er | fl
  · exact ex pins _ _ er s2 J2 w
  · cases fl with
    | ret u =>
      obtain ⟨v, H2, J3, r3, rfl, q3⟩ := J2.after w
      exact ⟨r3, ⟨V.ref (s.heap.objs.size + 1), H2, J3, rfl, q3⟩⟩
    | next => exact w.elim
    | brk => exact w.elim
    | cont => exact w.elim
theorem pe_makeE (mk : Mk X.K C g) (ok : FnOk X.prog X.w X.K X.mg X.base T k g fn qs sp) (rm : Room (k + 1) X.A) (gl : Gl X x) (at_ : X.mg x = some (.ref C)) (bd : Binds X.K fn qs []) (ex : ∀ σ, PassesAt T X σ (Ex σ))
    (ag : PA X (e :: es) tt) (db : (x == ("__debug__" : Str)) = false := by decide) (s1 : starEach (e :: es) X.env = (false, eval e X.env) :: starEach es X.env := by rfl) (s2 : (backTo p2 (starEach es X.env)).any (·.1) = false := by rfl) :
    PE X (.Call (.Name x p1) (e :: es) [] p2) (tMakeE C sp Ex tt) :=
  ⟨fun pins s σ H Q J q => wpAny_Call_Name_kw (ld_glob J gl at_ (PySem.W.callWith_K (h₀ := X.base) J.ok.mod.kin mk.kp (thn (ag.run p2 pins s σ H _ J q) fun us s1 ⟨vs, H1, J1, r, w⟩ => ⟨J1.kIn, go_make mk ok rm bd (ex σ) J1 r w⟩) s1 s2) db)⟩
def tMethE (C : Addr) (m : Str) (sp : Sp) (Ex : L2.St → XK) (ta : TE) (tt : TA) : TE := fun σ H Q => ta σ H fun y H1 => ∃ a dx fs, y = .ref a ∧ H1 a = some (.ins C dx fs) ∧ fs.lookup m = none ∧ tt σ H1 fun vs H2 => sp (y :: vs) H2 Q (Ex σ)
theorem pe_methE {pl : Sem Bool} (ob : PE X o ta) (c : Cls X.K C) (me : Meth X.K C m g) (ok : FnOk X.prog X.w X.K X.mg X.base T k g fn qs sp) (rm : Room k X.A) (bd : Binds X.K fn qs []) (ex : ∀ σ, PassesAt T X σ (Ex σ)) (ag : PA X (e :: es) tt)
    (s1 : starEach (e :: es) X.env = (false, eval e X.env) :: starEach es X.env := by rfl) (s2 : (backTo p2 (starEach es X.env)).any (·.1) = false := by rfl)
    (tx : eval (.Call (.Attribute o m p3) (e :: es) [] p2) X.env = (do
      let w ← eval o X.env
      standAt p3.atName
      let (h, first) ← holding [w] (getMethod w m pl)
      callWith p2 h first (backTo p2 (starEach (e :: es) X.env)) (backToKw p2 (keywordEach [] X.env))) := by rfl) :
    PE X (.Call (.Attribute o m p3) (e :: es) [] p2) (tMethE C m sp Ex ta tt) := by
  refine ⟨fun pins s σ H Q J q => PySem.W.methodCall_KW (pl := pl) (thn (ob.run pins s σ H _ J q) fun u s3 ⟨y, H1, J1, ry, a, dx, fs, ey, ea, l, w⟩ => ?_) tx⟩
  subst ey
  cases (show u = Value.ref a from ry)
  refine getmeth_ok J1 ea c me l (PySem.W.callWith_K (first := [.ref a]) (h₀ := X.base) J.ok.mod.kin me.kp (thn (ag.run p2 pins s3 σ H1 _ J1 w) fun us s4 ⟨vs, H2, J2, r, w2⟩ => ⟨J2.kIn, ?_⟩) s1 s2)
  exact run_fnS (us := .ref a :: us) (vs := .ref a :: vs) ok rm bd (ex σ) J2 (.cons rfl r) w2
theorem pe_methE0 {pl : Sem Bool} (ob : PE X o ta) (c : Cls X.K C) (me : Meth X.K C m g) (ok : FnOk X.prog X.w X.K X.mg X.base T k g fn qs sp) (rm : Room k X.A) (bd : Binds X.K fn qs []) (ex : ∀ σ, PassesAt T X σ (Ex σ))
    (tx : eval (.Call (.Attribute o m p3) [] [] p2) X.env = (do
      let w ← eval o X.env
      standAt p3.atName
      let (h, first) ← holding [w] (getMethod w m pl)
      callWith p2 h first (backTo p2 (starEach [] X.env)) (backToKw p2 (keywordEach [] X.env))) := by rfl) :
    PE X (.Call (.Attribute o m p3) [] [] p2) (tMethE C m sp Ex ta tNil) := by
  refine ⟨fun pins s σ H Q J q => PySem.W.methodCall_KW (pl := pl) (thn (ob.run pins s σ H _ J q) fun u s3 ⟨y, H1, J1, ry, a, dx, fs, ey, ea, l, w⟩ => ?_) tx⟩
  subst ey
  cases (show u = Value.ref a from ry)
  refine getmeth_ok J1 ea c me l (PySem.W.callWith_K0 (first := [.ref a]) J1.kIn me.kp ?_)
  exact run_fnS (us := [.ref a]) (vs := [.ref a]) ok rm bd (ex σ) J1 (.cons rfl .nil) w
end

/-! ### attributes -/
def fldD (f : Str) : List Str → List D → Option D
  | n :: ns, x :: xs => if f = n then some x else fldD f ns xs
  | _, _ => none
def putN (f : Str) : List Str → List Str
  | [] => [f]
  | n :: ns => if n = f then n :: ns else n :: putN f ns
def putX (f : Str) (z : D) : List Str → List D → List D
  | n :: ns, x :: xs => if n = f then z :: xs else x :: putX f z ns xs
  | _, _ => [z]
section
variable {K : PySem.W.Frag} {F : Hp} {f : Str}
theorem lk_cons {n : Str} {v : V} {r : List (Str × V)} : List.lookup f ((n, v) :: r) = if f = n then some v else List.lookup f r := by
  by_cases h : f = n
  · subst h; rw [if_pos rfl]; simp [List.lookup]
  · rw [if_neg h]
    have : (f == n) = false := by simpa using h
    simp [List.lookup, this]
theorem fld_rep {z : D} : ∀ {fs : List (Str × V)} {xs : List D}, RepL K F xs (fs.map (·.2)) → fldD f (fs.map (·.1)) xs = some z → ∃ v, List.lookup f fs = some v ∧ Rep K F z v
  | [], [], _, h => nomatch h
  | [], _ :: _, r, _ => by obtain ⟨_, _, h, _⟩ := r; cases h
  | (n, v) :: fs, [], _, h => nomatch h
  | (n, v) :: fs, x :: xs, ⟨v', r, h1, h2, h3⟩, h => by
    rw [List.map_cons] at h1
    cases h1
    have h' : (if f = n then some x else fldD f (fs.map (·.1)) xs) = some z := h
    rw [lk_cons]
    by_cases e : f = n
    · rw [if_pos e] at h' ⊢
      cases h'
      exact ⟨v, rfl, h2⟩
    · rw [if_neg e] at h' ⊢
      exact fld_rep h3 h'
theorem fld_none : ∀ {fs : List (Str × V)} {xs : List D}, RepL K F xs (fs.map (·.2)) → fldD f (fs.map (·.1)) xs = none → List.lookup f fs = none
  | [], _, _, _ => rfl
  | (n, v) :: fs, [], r, _ => by cases (show _ = [] from r)
  | (n, v) :: fs, x :: xs, ⟨v', r, h1, h2, h3⟩, h => by
    rw [List.map_cons] at h1
    cases h1
    have h' : (if f = n then some x else fldD f (fs.map (·.1)) xs) = none := h
    rw [lk_cons]
    by_cases e : f = n
    · rw [if_pos e] at h'; cases h'
    · rw [if_neg e] at h' ⊢
      exact fld_none h3 h'
theorem put_n {z : V} : ∀ {fs : List (Str × V)}, (putF f z fs).map (·.1) = putN f (fs.map (·.1))
  | [] => rfl
  | (n, v) :: fs => by
    show List.map _ (if n = f then (n, z) :: fs else (n, v) :: putF f z fs) = if n = f then n :: fs.map (·.1) else n :: putN f (fs.map (·.1))
    by_cases e : n = f
    · rw [if_pos e, if_pos e]; rfl
    · rw [if_neg e, if_neg e, List.map_cons, put_n]
theorem put_x {z : D} {w : V} (r : Rep K F z w) : ∀ {fs : List (Str × V)} {xs : List D}, RepL K F xs (fs.map (·.2)) → RepL K F (putX f z (fs.map (·.1)) xs) ((putF f w fs).map (·.2))
  | [], [], _ => RepL.one r
  | [], _ :: _, h => by obtain ⟨_, _, z, _⟩ := h; cases z
  | (n, v) :: fs, [], h => by cases (show _ = [] from h)
  | (n, v) :: fs, x :: xs, ⟨v', q, h1, h2, h3⟩ => by
    rw [List.map_cons] at h1
    cases h1
    show RepL K F (if n = f then z :: xs else x :: putX f z (fs.map (·.1)) xs) (List.map _ (if n = f then (n, w) :: fs else (n, v) :: putF f w fs))
    by_cases e : n = f
    · rw [if_pos e, if_pos e]; exact ⟨w, _, rfl, r, h3⟩
    · rw [if_neg e, if_neg e]; exact ⟨v, _, rfl, h2, put_x r h3⟩
end
def fldQ (S : Addr → Prop) (f : Str) (d : D) (Q : D → Prop) : Prop := match d with
  | .obj C ns xs => S C ∧ ∃ z, fldD f ns xs = some z ∧ Q z
  | _ => False
abbrev HasF (K : PySem.W.Frag) (S : Addr → Prop) (f : Str) : Prop := ∀ C, S C → Cls K C ∧ NoAttr K C f
section
variable {X : Cx} {bx : Bx} {e o : Expr} {es : List Expr} {te ta : RE} {t : RA} {p1 p2 p3 : Pos} {i : Nat} {f m : Str} {S : Addr → Prop}
def rFld (S : Addr → Prop) (f : Str) (ta : RE) : RE := fun env Q => ta env fun d env1 => fldQ S f d fun z => Q z env1
theorem q_fld (hS : HasF X.K S f) (h : QE X bx e ta) (hb : attributeBase e f X.env (eval e X.env) = eval e X.env := by rfl) : QE X bx (.Attribute e f p1) (rFld S f ta) := pe_imp (pe_fld h hb) fun σ H Q' ⟨env, F, Q, R, ht, k⟩ =>
  ⟨env, F, _, R, ht, fun d v env1 F1 H1 s1 R1 r1 q1 => by
    unfold fldQ at q1
    split at q1
    · obtain ⟨hC, z, hz, q⟩ := q1
      obtain ⟨a, dx, fs, rfl, h2, h3, h4⟩ := r1
      subst h3
      obtain ⟨w, hw, rw⟩ := fld_rep h4 hz
      exact ⟨a, _, dx, fs, w, rfl, R1.sf _ _ h2, (hS _ hC).1, (hS _ hC).2, hw, k z w env1 F1 H1 s1 R1 rw q⟩
    · exact q1.elim⟩
/-- of a name that may own its object -/
def rFldO (S : Addr → Prop) (f : Str) (i : Nat) : RE := fun env Q => match env[i]? with
  | some (.val d) => fldQ S f d fun z => Q z env
  | some (.own d) => fldQ S f d fun z => Q z env
  | _ => False
/-- x.f = e, x owns its object -/
def sFldS (S : Addr → Prop) (f : Str) (i : Nat) (tv : RE) : RS := fun en env => tv env fun z env1 => match env1[i]? with
  | some (.own (.obj C ns xs)) => S C ∧ ns.length < 1000 ∧ en.nx (env1.set i (.own (.obj C (putN f ns) (putX f z ns xs))))
  | _ => False
theorem qs_fld (hS : HasF X.K S f) (h : L2.PE X o (tVar i)) (hv : QE X bx e te) (hs : swapsWith e (some (.Attribute o f p1)) p2.line X.env = pure false := by rfl) : QS X bx (.Assign [.Attribute o f p1] e p2) (sFldS S f i te) := ps_imp (ps_fld h hv hs) fun Dn σ H ⟨env, F, en, R, ht, k1, k2, k3, k4⟩ =>
  ⟨env, F, _, R, ht, fun z w env1 F1 H1 s1 R1 r1 q1 => by
    split at q1
    · rename_i C ns xs hd
      obtain ⟨a, ho, h1, h2, h3, h4⟩ := own_ix R1 hd
      obtain ⟨dx, fs, rfl, g3, g4⟩ := h4
      subst g3
      obtain ⟨hC, hl, q⟩ := q1
      refine ⟨_, h1, a, _, dx, fs, rfl, h2, (hS _ hC).1, (hS _ hC).2, by rw [List.length_map] at hl; exact hl, k1 (env1.set i (.own (.obj C (putN f (fs.map (·.1))) (putX f z (fs.map (·.1)) xs)))) F1 σ _ s1 ?_ q⟩
      refine R1.setOwn hd h1 (ho' := .ins C dx (putF f w fs)) ⟨Same.refl _, same_upd2 R1.sf h3, fun b q' e' hb => by rw [upd_ne hb]; exact e', fun b e' _ => e'⟩ upd_same ⟨dx, _, rfl, put_n, put_x r1 g4⟩
    · exact q1.elim⟩
end
end QL
set_option Elab.async false
set_option linter.all false
set_option maxRecDepth 100000
namespace QL
open PySem PySem.Spec PyProof.Rows L2
section
variable {K : PySem.W.Frag} {bx : Bx} {F F' H H' : Hp} {env : List Slot} {σ : L2.St}
/-- what is nobody's has changed -/
theorem ER.growB {a : Addr} (R : ER K bx F env σ H) (l : Lone bx F env σ H a) (g : GrowB a F H F' H') : ER K bx F' env σ H' where
  sb := fun b q z => g.sh b q (R.sb b q z) (fun e => by rw [e, l.b] at z; cases z)
  sf := g.sf
  len := R.len
  slots := fun j s hj => by
    obtain ⟨q, k1, k2⟩ := R.slots j s hj
    refine ⟨q, k1, ?_⟩
    cases s with
    | un => trivial
    | val d => obtain ⟨v, k3, k4⟩ := k2; exact ⟨v, k3, Rep.mono g.e _ _ k4⟩
    | own d =>
      obtain ⟨c, hc, k3, k4, k5, k6, k7⟩ := k2
      exact ⟨c, hc, k3, g.hn c k4 (OwnH.hard k6 k7), k5, g.sh c hc k6 (fun z => l.o j d hj (by rw [k1, k3, z])), OwnH.mono g.e k7⟩
  sep := R.sep
  io := R.io
  f0 := R.f0.trans g.e
  fz := fun c h1 h2 => g.hn c (R.fz c h1 h2) (R.bh h2)
theorem Lone.growB {a : Addr} {ho : HO} {d : D} (l : Lone bx F env σ H a) (g : GrowB a F H F' H') (h : H' a = some ho) (o : OwnH K F' d ho) : Lone bx F' env σ H' a := ⟨g.hn a l.f l.h, l.b, OwnH.hard h o, l.o⟩
end
section
variable {X : Cx} {bx : Bx} {e o : Expr} {es : List Expr} {te ta : RE} {t : RA} {p1 p2 p3 : Pos} {i k n : Nat} {f m x : Str} {C g : Addr} {fn : FuncData} {qs : List Str} {EX : XD}
/-! ### an object made -/
def rMake (C : Addr) (M : FB) (n : Nat) (EX : XD) (t : RA) : RE := fun env Q => t env fun ds env1 => ds.length = n ∧ M (.obj C [] []) ds (fun d d' => d = .non ∧ Q d' env1) fun ed _ => EX ed env1
theorem q_makeN {M : FB} (mk : Mk X.K C g) (ok : FnOk X.prog X.w X.K X.mg X.base (L2.CX X.prog X.w) k g fn qs (spB X.K n M)) (rm : Room (k + 1) X.A) (gl : Gl X x) (at_ : X.mg x = some (.ref C)) (bd : Binds X.K fn qs []) (tk : TkE X bx EX)
    (ag : QA X bx (e :: es) t) (db : (x == ("__debug__" : Str)) = false := by decide) (s1 : starEach (e :: es) X.env = (false, eval e X.env) :: starEach es X.env := by rfl) (s2 : (backTo p2 (starEach es X.env)).any (·.1) = false := by rfl) :
    QN X bx (.Call (.Name x p1) (e :: es) [] p2) (rMake C M n EX t) := pe_imp (pe_makeE mk ok rm gl at_ bd tk ag db s1 s2) fun σ H Q' ⟨env, F, Q, R, ht, kk⟩ =>
  ⟨env, F, _, R, ht, fun ds vs env1 F1 H1 s1 R1 r1 q1 y dy hy hd ne => by
    have R2 := R1.laid0 (o := .own y) hd
    have hy2 : (upd H1 dy (.own y)) y = none := by rw [upd_ne (fun z => ne z.symm)]; exact hy
    have l := R2.lone (o := .ins C dy []) hy2
    have R3 := R2.laid0 (o := .ins C dy []) hy2
    refine ⟨F1, y, _, .obj C [] [], ds, vs, _, _, q1.1, rfl, R3.sf, l.f, upd_same, ⟨dy, [], rfl, rfl, rfl⟩, r1, q1.2, ?_, ?_⟩
    · rintro z u d' ho' F2 H2 g ha ow r2 ⟨rfl, q2⟩
      exact ⟨r2, kk d' y ho' env1 F2 H2 (s1.trans g.e) (R3.growB l g) (l.growB g ha ow) ha ow q2⟩
    · intro ed cls dx d' ho' F2 H2 g ha ow rx ex
      exact ⟨env1, F2, ed, R3.growB l g, rx, ex⟩⟩
/-! ### a method that leaves its object -/
def objQ (C : Addr) (m : Str) (d : D) (Q : Prop) : Prop := match d with
  | .obj C' ns xs => C' = C ∧ fldD m ns xs = none ∧ Q
  | _ => False
def rMeth (C : Addr) (m : Str) (S : FA) (n : Nat) (EX : XD) (ta : RE) (t : RA) : RE := fun env Q => ta env fun d env1 => objQ C m d (t env1 fun ds env2 => ds.length = n ∧ S (d :: ds) (fun z => Q z env2) fun ed => EX ed env2)
theorem meth_up {S : FA} {σ : L2.St} {H : Hp} {Q' : VK} (h : up X.K bx (rMeth C m S n EX ta t) σ H Q') : tMethE C m (spA X.K (n + 1) S) (fun σ cls dx H => WEx X.K bx EX cls dx σ H) (up X.K bx ta) (upA X.K bx t) σ H Q' := by
  obtain ⟨env, F, Q, R, ht, kk⟩ := h
  refine ⟨env, F, _, R, ht, fun d v env1 F1 H1 s1 R1 r1 q1 => ?_⟩
  unfold objQ at q1
  split at q1
  · rename_i C' ns xs
    obtain ⟨rfl, hm, q⟩ := q1
    have r1' := r1
    obtain ⟨a, dx, fs, rfl, h2, h3, h4⟩ := r1
    subst h3
    exact ⟨a, dx, fs, rfl, R1.sf _ _ h2, fld_none h4 hm, env1, F1, _, R1, q, fun ds vs env2 F2 H2 s2 R2 r2 q2 => ⟨F2, _ :: ds, _, _, by rw [List.length_cons, q2.1], R2.sf, ⟨.ref a, vs, rfl, Rep.mono s2 _ _ r1', r2⟩, q2.2,
      fun z u F3 H3 g r3 q3 => kk z u env2 F3 H3 (s1.trans (s2.trans g.e)) (R2.to g) r3 q3, fun ed cls dx F3 H3 g rx ex => ⟨env2, F3, ed, R2.to g, rx, ex⟩⟩⟩
  · exact q1.elim
theorem q_meth {S : FA} (c : Cls X.K C) (me : Meth X.K C m g) (ok : FnOk X.prog X.w X.K X.mg X.base (L2.CX X.prog X.w) k g fn qs (spA X.K (n + 1) S)) (rm : Room k X.A) (bd : Binds X.K fn qs []) (tk : TkE X bx EX) (ob : QE X bx o ta) (ag : QA X bx (e :: es) t)
    (s1 : starEach (e :: es) X.env = (false, eval e X.env) :: starEach es X.env := by rfl) (s2 : (backTo p2 (starEach es X.env)).any (·.1) = false := by rfl) {pl : Sem Bool}
    (tx : eval (.Call (.Attribute o m p3) (e :: es) [] p2) X.env = (do
      let w ← eval o X.env
      standAt p3.atName
      let (h, first) ← holding [w] (getMethod w m pl)
      callWith p2 h first (backTo p2 (starEach (e :: es) X.env)) (backToKw p2 (keywordEach [] X.env))) := by rfl) :
    QE X bx (.Call (.Attribute o m p3) (e :: es) [] p2) (rMeth C m S n EX ta t) := pe_imp (pe_methE ob c me ok rm bd tk ag s1 s2 tx) fun σ H Q' h => meth_up h
theorem q_meth0 {S : FA} (c : Cls X.K C) (me : Meth X.K C m g) (ok : FnOk X.prog X.w X.K X.mg X.base (L2.CX X.prog X.w) k g fn qs (spA X.K 1 S)) (rm : Room k X.A) (bd : Binds X.K fn qs []) (tk : TkE X bx EX) (ob : QE X bx o ta) {pl : Sem Bool}
    (tx : eval (.Call (.Attribute o m p3) [] [] p2) X.env = (do
      let w ← eval o X.env
      standAt p3.atName
      let (h, first) ← holding [w] (getMethod w m pl)
      callWith p2 h first (backTo p2 (starEach [] X.env)) (backToKw p2 (keywordEach [] X.env))) := by rfl) :
    QE X bx (.Call (.Attribute o m p3) [] [] p2) (rMeth C m S 0 EX ta rNil) := pe_imp (pe_methE0 ob c me ok rm bd tk tx) fun σ H Q' h => by
  obtain ⟨env, F, Q, R, ht, kk⟩ := meth_up h
  refine ⟨env, F, Q, R, ht, fun d v env1 F1 H1 s1 R1 r1 q1 => ?_⟩
  obtain ⟨a, dx, fs, e1, e2, e3, env2, F2, Q2, R2, ht2, kk2⟩ := kk d v env1 F1 H1 s1 R1 r1 q1
  exact ⟨a, dx, fs, e1, e2, e3, kk2 [] [] env2 F2 H1 (Same.refl _) R2 rfl ht2⟩
/-! ### isinstance with an own class -/
structure IsC (K : PySem.W.Frag) (C : Addr) : Prop where
  cl : Cls K C
  ha : PySem.W.findIn K (.ref C) "__class__" = some (some (.builtin "object.__class__"))
  hn : PySem.W.specialIn K (.builtin "object.__class__") "__get__" = some (some (.builtin "getset_descriptor.__get__"))
  tk : PySem.W.takesIn K (.builtin "object.__class__") = some true
  mr : PySem.W.mroIn K C (.type "object") = some true
def TyD (K : PySem.W.Frag) : D → Value → Prop
  | .obj C _ _, t => t = .ref C ∧ IsC K C
  | d, t => ∃ n, tyN d = some n ∧ t = .type n
theorem tyd_of {K : PySem.W.Frag} {F H : Hp} (s : Same F H) {d : D} {v : V} {t : Value} (h : TyD K d t) (r : Rep K F d v) : TyX K H v t := by
  unfold TyD at h
  split at h
  · obtain ⟨rfl, c⟩ := h
    obtain ⟨a, dx, fs, rfl, h2, _⟩ := r
    exact .base (.ins (s _ _ h2) c.cl c.ha c.hn c.tk c.mr)
  · obtain ⟨n, hn, rfl⟩ := h
    exact tyx_of s hn r
def vIsiC (K : PySem.W.Frag) : VL
  | [d, .raw (.ref C)], Q => ∃ t b, TyD K d t ∧ PySem.W.kitOne K t (.ref C) = some b ∧ Q (.bl b)
  | [d, .raw (.ty n)], Q => ∃ t b, TyD K d t ∧ PySem.W.kitOne K t (.type n) = some b ∧ Q (.bl b)
  | _, _ => False
theorem qc_isiC : CallR X (.builtin "isinstance") (upVL X.K (vIsiC X.K)) := by
  intro pins s σ H xs us Q' I r ⟨F, ds, Q, sm, rl, h, g⟩
  unfold vIsiC at h
  split at h
  · obtain ⟨v, w, rfl, rv, rfl⟩ := RepL.two rl
    obtain ⟨t, b, ht, hb, q⟩ := h
    exact call_isi pins s σ H _ us Q' I r ⟨v, _, t, _, b, rfl, .own _, tyd_of sm ht rv, hb, g.b sm q⟩
  · obtain ⟨v, w, rfl, rv, rfl⟩ := RepL.two rl
    obtain ⟨t, b, ht, hb, q⟩ := h
    exact call_isi pins s σ H _ us Q' I r ⟨v, _, t, _, b, rfl, .ty _, tyd_of sm ht rv, hb, g.b sm q⟩
  · exact h.elim
/-- the name of an own class as a value -/
theorem q_cls {p : Pos} (hg : Gl X x) (hm : X.mg x = some (.ref C)) (hd : (x == ("__debug__" : Str)) = false := by decide) : QE X bx (.Name x p) (rC (.raw (.ref C))) := q_raw (pe_glob (v := .ref C) hg hm rfl hd)
end
/-! ### the readings, step by step -/
section
variable {env : List Slot} {Q : D → List Slot → Prop} {C C' : Addr} {ns : List Str} {xs : List D} {S : Addr → Prop} {f m : Str} {ta tv : RE} {t : RA} {n i : Nat} {EX : XD} {M : FB} {SA : FA} {P : D → Prop} {en : PEnds} {K : PySem.W.Frag}
theorem e_fld : rFld S f ta env Q = ta env fun d env1 => fldQ S f d fun z => Q z env1 := rfl
def objOQ (d : D) (Q : Addr → List Str → List D → Prop) : Prop := match d with
  | .obj C ns xs => Q C ns xs
  | _ => False
theorem e_objO {R : Addr → List Str → List D → Prop} : objOQ (.obj C ns xs) R = R C ns xs := rfl
theorem e_fldS : sFldS S f i tv en env = tv env fun z env1 => ownQ (getS env1 i) fun d => objOQ d fun C ns xs => S C ∧ ns.length < 1000 ∧ en.nx (putS env1 i (.own (.obj C (putN f ns) (putX f z ns xs)))) := by
  unfold sFldS
  congr 1; funext z env1
  rw [getS_eq]
  cases env1[i]? with
  | none => rfl
  | some s =>
    cases s with
    | un => rfl
    | val _ => rfl
    | own d => cases d <;> first | rfl | (simp only [putS_eq]; rfl)
theorem e_make : rMake C M n EX t env Q = t env fun ds env1 => ds.length = n ∧ M (.obj C [] []) ds (fun d d' => d = .non ∧ Q d' env1) fun ed _ => EX ed env1 := rfl
theorem e_meth : rMeth C m SA n EX ta t env Q = ta env fun d env1 => objQ C m d (t env1 fun ds env2 => ds.length = n ∧ SA (d :: ds) (fun z => Q z env2) fun ed => EX ed env2) := rfl
theorem o_isiO : vIsiC K [.obj C' ns xs, .raw (.ref C)] P = (IsC K C' ∧ ∃ b, PySem.W.kitOne K (.ref C') (.ref C) = some b ∧ P (.bl b)) := propext
  ⟨fun ⟨t, b, ⟨h1, h2⟩, h3, h4⟩ => ⟨h2, b, by rw [← h1]; exact h3, h4⟩, fun ⟨h2, b, h3, h4⟩ => ⟨_, b, ⟨rfl, h2⟩, h3, h4⟩⟩
end
end QL
set_option Elab.async false
set_option linter.all false
set_option maxRecDepth 100000
/-! enumerate over a tuple -/
namespace QT
open PySem
open Sem (wp)
open AutoSeq1 (wpAny_loadPart')
theorem new_enumT (q : Addr) (its : Array Value) (m : Nat) (dc : Option Addr) (st0 : Array (Option Value)) :
    Meets (Builtin.«enumerate.__new__» ⟨[.type "enumerate", .ref q], []⟩) (fun _ R s => s.heap.get? q = some { cls := .type "tuple", dict := dc, data := .seq its m, slots := st0 } ∧
      R (.ok (.ret (.ref (s.heap.push { cls := .type "tuple_iterator", data := .fields #[.ref q, .int 0 0] }).objs.size)))
        { s with heap := (s.heap.push { cls := .type "tuple_iterator", data := .fields #[.ref q, .int 0 0] }).push { cls := .type "enumerate", data := .fields #[.none, .bool false, .ref s.heap.objs.size, rawInt 0, .none, .none] } }) :=
  .of_wp fun prog w A R s z => by
    obtain ⟨hh, g, d, tk, os⟩ := s; obtain ⟨hq, z⟩ := z
    have hsub := sub_enumerate
    have hT : Heap.IsTuple (Shared.heap ⟨hh, g, d, tk, os⟩) q its := ⟨_, hq, rfl, m, rfl⟩
    wp_walk using wpAny_loadPart' hq
    refine wpAny_stack_any fun stk => wpAny_pure ?_
    split
    · rename_i cc _ _ _ _ _
      cases (cc == Value.type "enumerate")
      · wp_walk using wpAny_loadPart' hq, wpAny_pyIter_tuple hT
        exact ⟨_, rfl, z⟩
      · wp_walk using wpAny_loadPart' hq, wpAny_pyIter_tuple hT
        exact ⟨_, rfl, z⟩
    · wp_walk using wpAny_loadPart' hq, wpAny_pyIter_tuple hT
      exact ⟨_, rfl, z⟩
section
variable {prog : Program} {w : World} {A : Around} {E : Value → Shared → Prop} {s : Shared}
theorem call_enumT {q : Addr} {its : Array Value} {Q : Value → Shared → Prop} (hT : s.heap.IsTuple q its)
    (z : ∀ h2, IsEnum h2 (s.heap.objs.size + 1) s.heap.objs.size 0 .none → h2.IsTupleIter s.heap.objs.size q 0 →
      (∀ b o, s.heap.get? b = some o → h2.get? b = some o) → Q (.ref (s.heap.objs.size + 1)) { s with heap := h2 }) :
    wpAny (model prog w) A (call (.type "enumerate") [.ref q]) Q E s := by
  obtain ⟨⟨c0, dc, dt, st0⟩, hq, hc, m, hd⟩ := hT
  cases (show c0 = .type "tuple" from hc)
  cases (show dt = .seq its m from hd)
  refine callType_new F.called_enumerate (by decide) (F.typeCall_enumerate_1 _) (F.newCall_enumerate_1 _) (fun ob => F.args_object_init_2 ob _) F.entry_enumerate_new (new_enumT q its m dc st0) ⟨hq, ?_⟩
  have sz : (s.heap.push { cls := .type "tuple_iterator", data := .fields #[.ref q, .int 0 0] }).objs.size = s.heap.objs.size + 1 := Heap.size_push ..
  show _ ∧ _
  rw [sz]
  have en := Heap.get?_push_size (s.heap.push { cls := .type "tuple_iterator", data := .fields #[.ref q, .int 0 0] }) (o := { cls := .type "enumerate", data := .fields #[.none, .bool false, .ref s.heap.objs.size, rawInt 0, .none, .none] }) rfl
  rw [sz] at en
  exact ⟨⟨_, en, rfl⟩, z _ en ⟨_, Heap.get?_push_of_some _ (Heap.get?_push_size _ rfl), rfl, rfl⟩ fun b o x => Heap.get?_push_of_some _ (Heap.get?_push_of_some _ x)⟩
/-- the tuple's iterator has nothing more -/
theorem drawn {it t : Addr} {i : Nat} {its : Array Value} (hh : A.handled = none) (hx : its[i]? = none) : Draws prog w A it [it, t] 0 (fun _ _ => False) (fun _ h => h.IsTupleIter it t i ∧ h.IsTuple t its) where
  live := fun _ _ st => let ⟨o, ho, _⟩ := st.1; ⟨o, ho⟩
  frame := fun _ _ _ st k => ⟨st.1.at fun o e => k it (by simp) o e, st.2.at fun o e => k t (by simp) o e⟩
  item := fun i s Q E hi _ _ => absurd hi (Nat.not_lt_zero _)
  done := fun s Q E st hE => wpAny_nextOf_tuple_end hh st.1 st.2 hx hE
end
end QT
namespace QL
open PySem PySem.Spec PyProof.Rows L2
def IteT (K : PySem.W.Frag) (a : Addr) : It :=
  ⟨fun i H => ∃ (xs : List V) (x : V), SqT K H a xs ∧ xs[i]? = some x, fun i H v H' => ∃ T x, v = .ref T ∧ H T = none ∧ H' = upd H T (.tup [.int (i : Nat), x]) ∧ ∀ xs, SqT K H a xs → xs[i]? = some x, fun i H => ∃ xs : List V, SqT K H a xs ∧ xs.length ≤ i⟩
theorem turn_eT {P : Program} {w : World} {K : PySem.W.Frag} {elts : List Expr} {kk : Nat} {tpos : Pos} {a e it : Addr} (ne : e ≠ a) (ne2 : a ≠ it) :
    Turn P w K (.Tuple elts kk tpos) (IteT K a) [e, it] e (fun i h => (∃ old, IsEnum h e it ((i : Nat) : Int) old) ∧ h.IsTupleIter it a i ∧ e ≠ it) where
  mem := by simp
  obj := fun i h st b hb => by
    obtain ⟨⟨old, he⟩, ⟨o, ho, hc, hd⟩, _⟩ := st
    have e' : b = e ∨ b = it := by simpa using hb
    rcases e' with z | z
    · rw [z]; exact ⟨_, he, fun v q => nomatch q⟩
    · rw [z]; exact ⟨o, ho, fun v q => by rw [hd] at q; cases q⟩
  keep := fun i h h' st k => let ⟨⟨old, he⟩, hi, hne⟩ := st; ⟨⟨old, k e (by simp) _ he⟩, hi.at fun o q => k it (by simp) o q, hne⟩
  item := by
    intro X hP hw hK hc i pins s σ H E J hf st hg
    subst hP hw hK
    obtain ⟨⟨old, he⟩, hit, hne⟩ := st
    obtain ⟨xs, x, hq, hx⟩ := hg
    obtain ⟨its, rv, p, _⟩ := J.tuple hq
    obtain ⟨u, hu, ru⟩ := rv.get hx
    have l1 : e < s.heap.objs.size := Heap.lt_size he
    have l2 : it < s.heap.objs.size := by obtain ⟨_, q, _⟩ := hit; exact Heap.lt_size q
    have hd0 : X.A.in1.handled = none := J.ok.hd hc
    have lt : i < its.toArray.size := by
      rw [List.size_toArray]
      exact (List.getElem?_eq_some_iff.mp hu).1
    refine wpAny_pyNext_enum_itemD (Draws.tuple hd0 it a ne2 its.toArray) he ⟨hit, p⟩ lt hne (by simp [hne, ne]) fun y h2 tk hy ho st2 hT hsz k => ?_
    have ey : y = u := by
      have : its.toArray[i]? = some u := by simpa using hu
      rw [show its.toArray[i]? = some y from hy] at this
      exact Option.some.inj this
    subst ey
    refine ⟨_, rfl, wpAny_letOwnedTupleGo_enum (s := { s with heap := h2, toks := tk + 1 }) ho fun h3 he3 sb => ?_⟩
    have hT2 : h3.get? s.heap.objs.size = some { cls := .type "tuple", data := .seq #[.int i tk, y] } := (sb.2 _ (Nat.ne_of_gt l1)).trans hT
    have new : ObjOk X.prog X.w (upd H s.heap.objs.size (.tup [.int (i : Nat), x])) h3 s.heap.objs.size (.tup [.int (i : Nat), x]) :=
      ⟨by show 2 ≤ sizeLine; decide, [.int i tk, y], .cons ⟨_, rfl⟩ (.cons ru .nil), ⟨_, hT2, rfl, _, rfl⟩⟩
    have J1 : Inv X pins σ (upd H s.heap.objs.size (.tup [.int (i : Nat), x])) { s with heap := h3, toks := tk + 1 } :=
      J.turnedNew (ch := [e, it]) (fun b ob hb q => (sb.2 b (fun z => hb (by simp [z]))).trans (k b ob (fun z => hb (by simp [z])) (fun z => hb (by simp [z])) q)) hf (Nat.le_refl _) new
    refine ⟨.ref s.heap.objs.size, _, J1, rfl, ⟨_, x, rfl, J.hok.fresh (Nat.le_refl _), rfl, fun ys hy => by rw [J.tuple_inj hy hq]; exact hx⟩, ⟨⟨y, ?_⟩, st2.1.at fun o q => (sb.2 it (Ne.symm hne)).trans q, hne⟩, fun b hb => ?_⟩
    · rw [show ((i + 1 : Nat) : Int) = (i : Int) + 1 by omega]; exact he3
    · have lb : b < s.heap.objs.size := by
        have e' : b = e ∨ b = it := by simpa using hb
        rcases e' with z | z
        · rw [z]; exact l1
        · rw [z]; exact l2
      rw [upd_ne (Nat.ne_of_lt lb)]
      exact (hf b hb).1
  done := by
    intro X hP hw hK hc i pins s σ H E J hf st hg
    subst hP hw hK
    obtain ⟨⟨old, he⟩, hit, hne⟩ := st
    obtain ⟨xs, hq, hx⟩ := hg
    obtain ⟨its, rv, p, _⟩ := J.tuple hq
    obtain ⟨f0, f1, f2, f3, f4, f5⟩ := hf it (by simp)
    have hl := rv.length
    have hd0 : X.A.in1.handled = none := J.ok.hd hc
    exact wpAny_pyNext_enum_endD (QT.drawn (its := its.toArray) hd0 (by simp; omega)) he ⟨hit, p⟩ fun h' eb => ⟨rfl, J.turned (t' := s.toks) (fun b o hb q => eb b o hb q) f0 f1 f3 f4 f5⟩
  self := fun A i s Q E st h => let ⟨⟨_, he⟩, _⟩ := st; wpAny_pyIter_enum he h
def iEnT (K : PySem.W.Frag) (ta : TA) : TI := fun σ H R => ta σ H fun vs H1 => ∃ a xs, vs = [.ref a] ∧ ((SqL K H1 a xs ∧ R (Ite K a) H1) ∨ (SqT K H1 a xs ∧ R (IteT K a) H1))
theorem pi_enT {X : Cx} {e : Expr} {ta : TA} {p1 p2 p3 : Pos} {es : List Expr} {kk : Nat} (hg : Gl X "enumerate") (hm : X.mg "enumerate" = none) (ha : PA X [e] ta) (hs : starEach [e] X.env = [(false, eval e X.env)] := by rfl) :
    PI X (.Tuple es kk p3) (.Call (.Name "enumerate" p1) [e] [] p2) (iEnT X.K ta) := by
  refine ⟨fun pins s σ H R J z => Call_ (ld_blt J hg hm boot_enumerate (PyProof.Rows.callWith_type1 (thn (ha.run p2 pins s σ H _ J z) fun us s1 ⟨vs, H1, J1, r1, q1⟩ => ?_) hs rfl))⟩
  obtain ⟨a, xs, ex, q⟩ := q1
  subst ex
  cases r1 with
  | cons r rr =>
    cases rr
    cases r
    have fresh : ∀ b, b ∈ [s1.heap.objs.size + 1, s1.heap.objs.size] → FpOk X pins H1 b := fun b hb => by
      have e' : b = s1.heap.objs.size + 1 ∨ b = s1.heap.objs.size := by simpa using hb
      have le : s1.heap.objs.size ≤ b := by omega
      exact J1.fpOk le (J1.hok.fresh le)
    rcases q with ⟨hq, q⟩ | ⟨hq, q⟩
    · obtain ⟨its, rv, p, _⟩ := J1.list hq
      refine call_enumerate_list p.isList fun h2 he hit hsz k => wpAny_pyIter_enum he ?_
      exact ⟨s1.heap.objs.size + 1, [s1.heap.objs.size + 1, s1.heap.objs.size], _, _, H1, rfl, J1.kept (t' := s1.toks) k, turn_enum a (s1.heap.objs.size + 1) s1.heap.objs.size, ⟨⟨.none, he⟩, hit, Nat.succ_ne_self _⟩, fresh, q⟩
    · obtain ⟨its, rv, p, _⟩ := J1.tuple hq
      have la : a < s1.heap.objs.size := by obtain ⟨o, ho, _⟩ := id p; exact Heap.lt_size ho
      refine QT.call_enumT p fun h2 he hit k => wpAny_pyIter_enum he ?_
      exact ⟨s1.heap.objs.size + 1, [s1.heap.objs.size + 1, s1.heap.objs.size], _, _, H1, rfl, J1.kept (t' := s1.toks) k, turn_eT (a := a) (e := s1.heap.objs.size + 1) (it := s1.heap.objs.size) (Nat.ne_of_gt (Nat.lt_succ_of_lt la)) (Nat.ne_of_lt la), ⟨⟨.none, he⟩, hit, Nat.succ_ne_self _⟩, fresh, q⟩
theorem wk_enT {K : PySem.W.Frag} {F0 : Hp} {a : Addr} {vs : List V} {xs : List D} (h : SqT K F0 a vs) (r : RepL K F0 xs vs) : Wk K F0 (IteT K a) (enumD xs) where
  go := fun i F H s1 s2 hi => by
    rw [enumD_len, r.length] at hi
    exact ⟨vs, vs[i], same_sqt s2 (same_sqt s1 h), List.getElem?_eq_getElem hi⟩
  yl := fun i F H v H' s1 s2 hi ⟨T, x, e1, nT, e2, y⟩ => by
    obtain ⟨d, hd, rd⟩ := r.getV (y vs (same_sqt s2 (same_sqt s1 h)))
    rw [e1, e2]
    refine ⟨_, .tup [.int i, d], Grow.laid s2 nT, enumD_get hd, T, [.int i, x], rfl, upd_same, _, _, rfl, rfl, _, _, rfl, Rep.mono (s1.trans (same_upd (s2.free nT))) _ _ rd, rfl⟩
  st := fun i F H s1 s2 hi => ⟨vs, same_sqt s2 (same_sqt s1 h), by rw [← r.length, ← enumD_len]; exact hi⟩
/-- lo, lo + c, .. -/
def rngC (lo c : Int) (n : Nat) : List D := (List.range n).map fun i => D.int (lo + (i : Nat) * c)
def riEA (t : RA) : RI := fun env Q => t env fun ds env1 => match ds with
  | [.lst xs] => Q (enumD xs) env1
  | [.tup xs] => Q (enumD xs) env1
  | _ => False
def riZA (t : RA) : RI := fun env Q => t env fun ds env1 => match ds with
  | [.lst xs, .lst ys] => Q (zipD xs ys) env1
  | [.tup xs, .tup ys] => Q (zipD xs ys) env1
  | _ => False
def riR3 (t : RA) : RI := fun env Q => t env fun ds env1 => match ds with
  | [.int i, .int j, .int c] => ∃ n, RgC i j c n ∧ Q (rngC i c n) env1
  | _ => False
section
variable {X : Cx} {bx : Bx} {e a b c : Expr} {es : List Expr} {t : RA} {p1 p2 p3 : Pos} {kk : Nat} {tg : Expr}
theorem qi_eA (hg : Gl X "enumerate") (hm : X.mg "enumerate" = none) (ha : QA X bx [e] t) (hs : starEach [e] X.env = [(false, eval e X.env)] := by rfl) : QI X bx (.Tuple es kk p3) (.Call (.Name "enumerate" p1) [e] [] p2) (riEA t) := pi_imp (pi_enT hg hm ha hs) fun σ H Q' ⟨env, F, Q, R, ht, k⟩ => ⟨env, F, _, R, ht, fun ds vs env1 F1 H1 s1 R1 r1 q1 => by
  split at q1
  · obtain ⟨v, r, rfl, ⟨a, us, rfl, h2, h3⟩, rfl⟩ := r1
    exact ⟨a, us, rfl, .inl ⟨.inl (.inl (R1.sf _ _ h2)), k _ env1 F1 H1 _ s1 R1 (wk_enum (.inl (.inl h2)) h3) q1⟩⟩
  · obtain ⟨v, r, rfl, ⟨a, us, rfl, h2, h3⟩, rfl⟩ := r1
    exact ⟨a, us, rfl, .inr ⟨sqt_of R1.sf h2, k _ env1 F1 H1 _ s1 R1 (wk_enT (sqt0 h2) h3) q1⟩⟩
  · exact q1.elim⟩
end
section
variable {env : List Slot} {t : RA} {P : List D → List Slot → Prop}
theorem e_riEA : riEA t env P = t env fun ds env1 => match ds with | [.lst xs] => P (enumD xs) env1 | [.tup xs] => P (enumD xs) env1 | _ => False := rfl
theorem e_riZA : riZA t env P = t env fun ds env1 => match ds with | [.lst xs, .lst ys] => P (zipD xs ys) env1 | [.tup xs, .tup ys] => P (zipD xs ys) env1 | _ => False := rfl
theorem e_riR3 : riR3 t env P = t env fun ds env1 => match ds with | [.int i, .int j, .int c] => ∃ n, RgC i j c n ∧ P (rngC i c n) env1 | _ => False := rfl
end
end QL
set_option Elab.async false
set_option linter.all false
set_option maxRecDepth 100000
namespace QL
open PySem PySem.Spec PyProof.Rows L2
/-! ### slices -/
abbrev RO := List Slot → (Option Int → List Slot → Prop) → Prop
def upO (K : PySem.W.Frag) (bx : Bx) (t : RO) : TO := fun σ H Q' => ∃ env F Q, ER K bx F env σ H ∧ t env Q ∧ ∀ o env' F' H', Same F F' → ER K bx F' env' σ H' → Q o env' → Q' o H'
def roN : RO := fun env Q => Q none env
def roS (te : RE) : RO := fun env Q => te env fun d env1 => match d with
  | .int i => Q (some i) env1
  | _ => False
def cutD (xs : List D) (lo hi : Option Int) : List D := (xs.drop (HT.sIx xs.length 0 lo)).take (HT.sIx xs.length xs.length hi - HT.sIx xs.length 0 lo)
def vSli (d : D) (lo hi : Option Int) (Q : D → Prop) : Prop := match d with
  | .lst xs => Q (.lst (cutD xs lo hi))
  | .tup xs => Q (.tup (cutD xs lo hi))
  | _ => False
def rSli (ta : RE) (tl th : RO) : RE := fun env Q => ta env fun d env1 => tl env1 fun lo env2 => th env2 fun hi env3 => vSli d lo hi fun z => Q z env3
section
variable {X : Cx} {bx : Bx} {e a b : Expr} {es : List Expr} {te ta tb : RE} {t : RA} {lo hi : Option Expr} {tl th : RO} {p1 p2 p3 pos : Pos} {i : Nat}
theorem po_imp {t t' : TO} (h : L2.PO X lo t) (i : ∀ σ H Q, t' σ H Q → t σ H Q) : L2.PO X lo t' := ⟨fun pins s σ H Q I q => h.run pins s σ H Q I (i σ H Q q)⟩
theorem qo_none : L2.PO X none (upO X.K bx roN) := po_imp po_none fun σ H Q' ⟨env, F, Q, R, ht, k⟩ => k none env F H (Same.refl _) R ht
theorem qo_some (h : QE X bx e te) : L2.PO X (some e) (upO X.K bx (roS te)) := po_imp (po_some h) fun σ H Q' ⟨env, F, Q, R, ht, k⟩ =>
  ⟨env, F, _, R, ht, fun d v env1 F1 H1 s1 R1 r1 q1 => by
    split at q1
    · cases r1
      exact ⟨_, rfl, k _ env1 F1 H1 s1 R1 q1⟩
    · exact q1.elim⟩
theorem RepL.cut {K : PySem.W.Frag} {F : Hp} {xs : List D} {vs : List V} (r : RepL K F xs vs) (lo hi : Option Int) : RepL K F (cutD xs lo hi) (cutV vs lo hi) := by
  unfold cutD cutV
  rw [r.length]
  exact RepL.take _ (RepL.drop _ r)
theorem q_slice (ha : QE X bx a ta) (hl : L2.PO X lo (upO X.K bx tl)) (hh : L2.PO X hi (upO X.K bx th)) : QE X bx (.Subscript a (.Slice lo hi none p2) pos) (rSli ta tl th) := pe_imp (pe_slice (SlR.or sl_list sl_tupA) ha hl hh) fun σ H Q' ⟨env, F, Q, R, ht, k⟩ =>
  ⟨env, F, _, R, ht, fun d v env1 F1 H1 s1 R1 r1 q1 => ⟨env1, F1, _, R1, q1, fun l env2 F2 H2 s2 R2 q2 => ⟨env2, F2, _, R2, q2, fun u env3 F3 H3 s3 R3 q3 => by
    have r3 := Rep.mono (s2.trans s3) _ _ r1
    have s13 := s1.trans (s2.trans s3)
    unfold vSli at q3
    split at q3
    · obtain ⟨x, vs, rfl, h2, h3⟩ := r3
      exact .inl ⟨x, vs, rfl, .inl (.inl (R3.sf _ _ h2)), fun p hp => k (.lst _) (.ref p) env3 (upd F3 p (.lst (cutV vs l u))) _ (s13.trans (same_upd (R3.sf.free hp))) (R3.laid hp) ⟨p, _, rfl, upd_same, RepL.mono (same_upd (R3.sf.free hp)) _ _ (h3.cut l u)⟩ q3⟩
    · obtain ⟨x, vs, rfl, h2, h3⟩ := r3
      refine .inr ⟨x, vs, rfl, sqt_of R3.sf h2, fun hw => ?_, fun _ p hp => k (.tup _) (.ref p) env3 (upd F3 p (.tup (cutV vs l u))) _ (s13.trans (same_upd (R3.sf.free hp))) (R3.laid hp) ⟨p, _, rfl, upd_same, RepL.mono (same_upd (R3.sf.free hp)) _ _ (h3.cut l u)⟩ q3⟩
      have hc : ∀ ys : List D, ys.length = vs.length → cutD ys l u = ys := fun ys hy => by
        unfold cutD
        rw [hy, hw.1, hw.2, List.drop_zero, Nat.sub_zero, ← hy, List.take_length]
      rw [hc _ h3.length] at q3
      exact k (.tup _) (.ref x) env3 F3 H3 s13 R3 ⟨x, vs, rfl, h2, h3⟩ q3
    · exact q3.elim⟩⟩⟩
/-! ### an item of a name that may own its list -/
def rIxA (i : Nat) (tb : RE) : RE := fun env Q => match env[i]? with
  | some (.val d) => tb env fun j env1 => vIx d j fun z => Q z env1
  | some (.own _) => tb env fun j env1 => match env1[i]? with
    | some (.own d) => vIx d j fun z => Q z env1
    | _ => False
  | _ => False
/-! ### in, not in: ints -/
def vInI (neg : Bool) : V2
  | .int i, .tup xs, Q => ∃ ns, allInts xs = some ns ∧ Q (.bl (if neg then !decide (i ∈ ns) else decide (i ∈ ns)))
  | .int i, .lst xs, Q => ∃ ns, allInts xs = some ns ∧ Q (.bl (if neg then !decide (i ∈ ns) else decide (i ∈ ns)))
  | _, _, _ => False
/-! ### isinstance(x, (A, B)) -/
def clsVal : D → Option Value
  | .raw (.ty n) => some (.type n)
  | .raw (.ref C) => some (.ref C)
  | _ => none
def clsVals : List D → Option (List Value)
  | [] => some []
  | d :: ds => match clsVal d, clsVals ds with
    | some v, some vs => some (v :: vs)
    | _, _ => none
theorem cls_one {K : PySem.W.Frag} {F : Hp} {d : D} {v : V} {u : Value} (e : clsVal d = some u) (r : Rep K F d v) : ClsV v u := by
  unfold clsVal at e
  split at e
  · cases e
    first
      | exact (show v = V.ty _ from r) ▸ ClsV.ty _
      | exact (show v = V.ref _ from r) ▸ ClsV.own _
  · cases e
    first
      | exact (show v = V.ref _ from r) ▸ ClsV.own _
      | exact (show v = V.ty _ from r) ▸ ClsV.ty _
  · cases e
theorem cls_all {K : PySem.W.Frag} {F : Hp} : ∀ {ds : List D} {vs : List V} {us : List Value}, clsVals ds = some us → RepL K F ds vs → Paired ClsV vs us
  | [], _, _, e, r => by cases e; rw [show _ = [] from r]; exact .nil
  | d :: ds, _, us, e, ⟨v, r, h1, h2, h3⟩ => by
    unfold clsVals at e
    split at e
    · rename_i v1 vs1 e1 e2
      cases e
      rw [h1]
      exact .cons (cls_one e1 h2) (cls_all e2 h3)
    · cases e
def rIsiT (K : PySem.W.Frag) (ta : RE) (t : RA) : RE := fun env Q => ta env fun d env1 => t env1 fun cs env2 => cs.length ≤ sizeLine ∧ ∃ tv us b, TyD K d tv ∧ clsVals cs = some us ∧ PySem.W.kitAny K tv us = some b ∧ Q (.bl b) env2
theorem q_isiT {x1} (hg : Gl X "isinstance") (hm : X.mg "isinstance" = none) (hv : bootBuiltins "isinstance" = some (.builtin "isinstance")) (ha : QE X bx e ta) (ht : QA X bx es t)
    (hn : ("isinstance" : Str) ≠ "__name__" := by decide) (hdb : (("isinstance" : Str) == ("__debug__" : Str)) = false := by decide)
    (s1 : starEach [.Tuple es x1 p3] X.env = (false, eval (.Tuple es x1 p3) X.env) :: starEach [] X.env := by rfl)
    (he : starEach [e, .Tuple es x1 p3] X.env = (false, eval e X.env) :: starEach [.Tuple es x1 p3] X.env := by rfl) (hpl : (backTo p2 (starEach [.Tuple es x1 p3] X.env)).any (·.1) = false := by rfl) :
    QE X bx (.Call (.Name "isinstance" p1) [e, .Tuple es x1 p3] [] p2) (rIsiT X.K ta t) := pe_imp (pe_callB call_isiT hg hm hv (pa_cons ha (pa_cons (pe_tup ht) pa_nil s1) he) hn hdb he hpl) fun σ H Q' ⟨env, F, Q, R, hq, k⟩ =>
  ⟨env, F, _, R, hq, fun d v env1 F1 H1 s1 R1 r1 q1 => ⟨env1, F1, _, R1, q1, fun cs vs env2 F2 H2 s2 R2 r2 ⟨hl, tv, us, b, h1, h2, h3, q2⟩ => ⟨by rw [← r2.length]; exact hl, fun p hp =>
    ⟨v, p, vs, tv, us, b, rfl, upd_same, cls_all h2 r2, tyd_of (s2.trans (R2.sf.trans (same_upd hp))) h1 r1, h3, k (.bl b) _ env2 F2 _ (s1.trans s2) (R2.laid0 hp) rfl q2⟩⟩⟩⟩
end
/-! ### the readings, step by step -/
section
variable {env : List Slot} {Q : D → List Slot → Prop} {P : D → Prop} {xs : List D} {ta tb te : RE} {tl th : RO} {QO : Option Int → List Slot → Prop} {lo hi : Option Int} {i : Nat} {K : PySem.W.Frag} {t : RA} {a : Int} {neg : Bool}
theorem e_sli : rSli ta tl th env Q = ta env fun d env1 => tl env1 fun lo env2 => th env2 fun hi env3 => vSli d lo hi fun z => Q z env3 := rfl
theorem e_roN : roN env QO = QO none env := rfl
theorem e_roS : roS te env QO = te env fun d env1 => intQ d fun i => QO (some i) env1 := rfl
theorem o_sliL : vSli (.lst xs) lo hi P = P (.lst (cutD xs lo hi)) := rfl
theorem o_sliT : vSli (.tup xs) lo hi P = P (.tup (cutD xs lo hi)) := rfl
theorem o_inIT : vInI neg (.int a) (.tup xs) P = ∃ ns, allInts xs = some ns ∧ P (.bl (if neg then !decide (a ∈ ns) else decide (a ∈ ns))) := rfl
theorem o_inIL : vInI neg (.int a) (.lst xs) P = ∃ ns, allInts xs = some ns ∧ P (.bl (if neg then !decide (a ∈ ns) else decide (a ∈ ns))) := rfl
theorem e_isiT : rIsiT K ta t env Q = ta env fun d env1 => t env1 fun cs env2 => cs.length ≤ sizeLine ∧ ∃ tv us b, TyD K d tv ∧ clsVals cs = some us ∧ PySem.W.kitAny K tv us = some b ∧ Q (.bl b) env2 := rfl
end
theorem fld_hit {f : Str} {ns : List Str} {x : D} {xs : List D} : fldD f (f :: ns) (x :: xs) = some x := if_pos rfl
theorem fld_miss {f n : Str} {ns : List Str} {x : D} {xs : List D} (h : ¬ f = n) : fldD f (n :: ns) (x :: xs) = fldD f ns xs := if_neg h
theorem px_miss {f n : Str} {ns : List Str} {x z : D} {xs : List D} (h : ¬ n = f) : putX f z (n :: ns) (x :: xs) = x :: putX f z ns xs := if_neg h
theorem fldQ_hit {S : Addr → Prop} {f : Str} {C : Addr} {ns : List Str} {xs : List D} {z : D} {P : D → Prop} (h : S C) (e : fldD f ns xs = some z) : fldQ S f (.obj C ns xs) P = P z := propext
  ⟨fun ⟨_, y, hy, q⟩ => by rw [e] at hy; cases hy; exact q, fun q => ⟨h, z, e, q⟩⟩
theorem objQ_hit {C : Addr} {m : Str} {ns : List Str} {xs : List D} {R : Prop} (e : fldD m ns xs = none) : objQ C m (.obj C ns xs) R = R := propext ⟨fun h => h.2.2, fun q => ⟨rfl, e, q⟩⟩
end QL
set_option Elab.async false
set_option linter.all false
set_option maxRecDepth 100000
namespace QL
open PySem PySem.Spec PyProof.Rows L2
section
variable {x y z w : D} {xs : List D} {P : D → Prop} {a : Addr} {ns : List Str}
theorem e_ix0 : (∃ d, atI (x :: xs) 0 = some d ∧ P d) = P x := propext ⟨fun ⟨d, h, q⟩ => by
    have e : atI (x :: xs) ((0 : Nat) : Int) = some x := atI_nat (j := 0) rfl
    rw [show (0 : Int) = ((0 : Nat) : Int) from rfl, e] at h
    cases h; exact q, fun q => ⟨x, atI_nat (j := 0) rfl, q⟩⟩
theorem e_ix1 : (∃ d, atI (x :: y :: xs) 1 = some d ∧ P d) = P y := propext ⟨fun ⟨d, h, q⟩ => by
    have e : atI (x :: y :: xs) ((1 : Nat) : Int) = some y := atI_nat (j := 1) rfl
    rw [show (1 : Int) = ((1 : Nat) : Int) from rfl, e] at h
    cases h; exact q, fun q => ⟨y, atI_nat (j := 1) rfl, q⟩⟩
theorem e_ix2 : (∃ d, atI (x :: y :: z :: xs) 2 = some d ∧ P d) = P z := propext ⟨fun ⟨d, h, q⟩ => by
    have e : atI (x :: y :: z :: xs) ((2 : Nat) : Int) = some z := atI_nat (j := 2) rfl
    rw [show (2 : Int) = ((2 : Nat) : Int) from rfl, e] at h
    cases h; exact q, fun q => ⟨z, atI_nat (j := 2) rfl, q⟩⟩
theorem o_maxL : vMax [.lst xs] P = ∃ ns, allInts xs = some ns ∧ 0 < ns.length ∧ ∀ m, m ∈ ns → (∀ y, y ∈ ns → y ≤ m) → P (.int m) := rfl
theorem o_minL : vMin [.lst xs] P = ∃ ns, allInts xs = some ns ∧ 0 < ns.length ∧ ∀ m, m ∈ ns → (∀ y, y ∈ ns → m ≤ y) → P (.int m) := rfl
theorem o_tupL : vTuple [.lst xs] P = P (.tup xs) := rfl
theorem o_tupT : vTuple [.tup xs] P = P (.tup xs) := rfl
theorem o_listL : vList [.lst xs] P = P (.lst xs) := rfl
theorem o_listT : vList [.tup xs] P = P (.lst xs) := rfl
theorem o_intB {b : Bool} : QL.vInt [.bl b] P = P (.int (if b then 1 else 0)) := rfl
theorem o_allL : vAll [.lst xs] P = ∃ ns, allBls xs = some ns ∧ P (.bl (ns.all id)) := rfl
theorem o_anyL : vAny [.lst xs] P = ∃ ns, allBls xs = some ns ∧ P (.bl (ns.any id)) := rfl
theorem o_isN : vIsN (.obj a ns xs) .non P = P (.bl false) := rfl
theorem o_isNI {i : Int} : vIsN (.int i) .non P = P (.bl false) := rfl
theorem o_isNN : vIsN .non .non P = P (.bl true) := rfl
theorem o_isNT : vIsN (.tup xs) .non P = P (.bl false) := rfl
theorem o_isNL : vIsN (.lst xs) .non P = P (.bl false) := rfl
theorem o_ntN : vNotN (.obj a ns xs) .non P = P (.bl true) := rfl
theorem o_ntNI {i : Int} : vNotN (.int i) .non P = P (.bl true) := rfl
theorem o_ntNN : vNotN .non .non P = P (.bl false) := rfl
theorem o_ntNT : vNotN (.tup xs) .non P = P (.bl true) := rfl
theorem o_ntNL : vNotN (.lst xs) .non P = P (.bl true) := rfl
end
theorem enumD_inv {xs : List D} {i : Nat} {d : D} (h : (enumD xs)[i]? = some d) : ∃ e, xs[i]? = some e ∧ d = .tup [.int i, e] := by
  have hi := (List.getElem?_eq_some_iff.mp h).1
  rw [enumD_len] at hi
  have e := enumD_get (List.getElem?_eq_getElem hi)
  rw [h] at e
  exact ⟨_, List.getElem?_eq_getElem hi, Option.some.inj e⟩
theorem ints_get {ns : List Int} {i : Nat} {d : D} (h : (ns.map D.int)[i]? = some d) : i < ns.length ∧ d = .int (ns.getD i 0) := by
  have hi := (List.getElem?_eq_some_iff.mp h).1
  rw [List.length_map] at hi
  rw [List.getElem?_map, List.getElem?_eq_getElem hi] at h
  refine ⟨hi, ?_⟩
  rw [List.getD_eq_getElem?_getD, List.getElem?_eq_getElem hi]
  exact (Option.some.inj h).symm
end QL
set_option Elab.async false
set_option linter.all false
set_option maxRecDepth 100000
namespace QL
open PySem PySem.Spec PyProof.Rows L2
/-! ### dicts whose keys are tuples of ints -/
/-- the key that a tuple of ints is -/
def keyT (xs : List D) : Option (List Int) := allInts xs
abbrev keyL (ns : List Int) : List Key := ns.map Sum.inl
def keyD (d : D) (Q : List Int → Prop) : Prop := match d with
  | .tup xs => ∃ ns, allInts xs = some ns ∧ Q ns
  | _ => False
section
variable {X : Cx} {bx : Bx} {e a b o : Expr} {es : List Expr} {te ta tk tv : RE} {t : RA} {p1 p2 pos : Pos} {i : Nat}
/-- k in x, k not in x: x owns a dict with tuple keys -/
def rDin (i : Nat) (neg : Bool) (tk : RE) : RE := fun env Q => tk env fun d env1 => keyD d fun ns => match env1[i]? with
  | some (.own (.dct ks xs)) => Q (.bl (if neg then !decide (ns ∈ ks) else decide (ns ∈ ks))) env1
  | _ => False
/-! the store -/
def putKs (k : List Int) (ks : List (List Int)) : List (List Int) := if k ∈ ks then ks else ks ++ [k]
def putXs (k : List Int) (z : D) (ks : List (List Int)) (xs : List D) : List D := if k ∈ ks then List.zipWith (fun a x => if a = k then z else x) ks xs else xs ++ [z]
def sDput (i : Nat) (tv tk : RE) : RS := fun en env => tv env fun z env1 => (∃ ks xs, env1[i]? = some (.own (.dct ks xs))) ∧ tk env1 fun d env2 => keyD d fun ns => match env2[i]? with
  | some (.own (.dct ks xs)) => ks.length < sizeLine ∧ en.nx (env2.set i (.own (.dct (putKs ns ks) (putXs ns z ks xs))))
  | _ => False
/-! list(d): the keys, as tuples -/
def vListD : VL
  | [.dct ks _], Q => Q (.lst (ks.map fun k => D.tup (k.map D.int)))
  | _, _ => False
end
/-! the readings, step by step -/
section
variable {env : List Slot} {Q : D → List Slot → Prop} {tk tv : RE} {i : Nat} {neg : Bool} {ks : List (List Int)} {xs : List D} {ns : List Int} {P : D → Prop} {en : PEnds}
def dctQ (d : D) (Q : List (List Int) → List D → Prop) : Prop := match d with
  | .dct ks xs => Q ks xs
  | _ => False
theorem e_dctQ {R : List (List Int) → List D → Prop} : dctQ (.dct ks xs) R = R ks xs := rfl
theorem o_listD : vListD [.dct ks xs] P = P (.lst (ks.map fun k => D.tup (k.map D.int))) := rfl
end
end QL
set_option Elab.async false
set_option linter.all false
set_option maxRecDepth 100000
namespace QL
open PySem PySem.Spec PyProof.Rows L2
/-! ### comprehensions of two fors -/
def lc2R (g : RG) (tt : RB) (ti1 : RI) (g1 : RG) (tt1 : RB) (te : RE) (is is1 : List Nat) : List D → List D → List Slot → (List D → List Slot → Prop) → Prop
  | [], acc, env, Q => Q acc env
  | x :: xs, acc, env, Q => g x env fun env1 => tt env1 fun b env2 => if b = true then ti1 env2 fun ys env3 => lcR g1 tt1 te is1 ys acc (wipeE is1 env3) fun acc' env4 => lc2R g tt ti1 g1 tt1 te is is1 xs acc' (wipeE is env4) Q
    else lc2R g tt ti1 g1 tt1 te is is1 xs acc (wipeE is env2) Q
def rLc2 (ti : RI) (g : RG) (tt : RB) (ti1 : RI) (g1 : RG) (tt1 : RB) (te : RE) (is is1 : List Nat) : RE := fun env Q => ti env fun xs env1 => noOwn is env1 = true ∧ lc2R g tt ti1 g1 tt1 te is is1 xs [] (wipeE is env1) fun acc env2 => Q (.lst acc) (backE is env1 env2)
section
variable {X : Cx} {bx : Bx} {tg iter tg1 iter1 elt : Expr} {ifs ifs1 : List Expr} {pos : Pos} {ti ti1 : RI} {g g1 : RG} {tt tt1 : RB} {te : RE}
abbrev QIb (X : Cx) (bx : Bx) (tg iter : Expr) (scope : Scope) (t : RI) : Prop := ∀ (B : Hp) (s : Shared) (H : Hp) (C : Addr) (cl : List (Str × Addr)) (fp : List Addr), QI (BlkX X s H scope C cl fp) ⟨B, bx.io, bx.F0⟩ tg iter t
def anyI (K : PySem.W.Frag) (io : Option Addr) (F0 : Hp) (t : RI) : TI := fun σ H Q => ∃ B, upI K ⟨B, io, F0⟩ t σ H Q
end
/-! the readings, step by step -/
section
variable {env : List Slot} {Q : D → List Slot → Prop} {ti ti1 : RI} {g g1 : RG} {tt tt1 : RB} {te : RE} {is is1 : List Nat} {xs acc : List D} {x : D} {R : List D → List Slot → Prop}
theorem e_lc2 : rLc2 ti g tt ti1 g1 tt1 te is is1 env Q = ti env fun xs env1 => noOwn is env1 = true ∧ lc2R g tt ti1 g1 tt1 te is is1 xs [] (wipeE is env1) fun acc env2 => Q (.lst acc) (backE is env1 env2) := rfl
end
end QL
set_option Elab.async false
set_option linter.all false
set_option maxRecDepth 100000
namespace QL
open PySem PySem.Spec PyProof.Rows L2
/-! ### max(list, default=d) -/
section
open PySem
variable {prog : Program} {w : World} {A : Around}
variable {R : Result → Shared → Prop} {I : Addr} {fp wr : List Addr} {n : Nat} {P : Nat → Value → Prop} {St : Nat → Heap → Prop} {d : Value}
abbrev mxArgs (I S : Addr) (d : Value) : Args := ⟨[.ref I, .none, .ref S], [("default", d)]⟩
abbrev mxBox (v : Array Value) (c : Nat) : Obj := { cls := .type "list", dict := none, data := .seq v c, slots := #[] }
end
def vMaxD : List D → List D → (D → Prop) → Prop
  | [.lst xs], [.int d], Q => ∃ ns, allInts xs = some ns ∧ (ns = [] → Q (.int d)) ∧ ∀ m, m ∈ ns → (∀ y, y ∈ ns → y ≤ m) → Q (.int m)
  | _, _, _ => False
section
variable {X : Cx} {bx : Bx} {e : Expr} {te ta : RE} {p pos kp : Pos}
/-- max(xs, default=d) -/
def rMaxD (t : RA) (td : RE) : RE := fun env Q => t env fun ds env1 => td env1 fun d env2 => vMaxD ds [d] fun z => Q z env2
end
end QL
set_option Elab.async false
set_option linter.all false
set_option maxRecDepth 100000
namespace QL
open PySem PySem.Spec PyProof.Rows L2
/-! ### the truth of own objects -/
/-- objects of the class are b -/
inductive BoolC (X : Cx) (C : Addr) (b : Bool) : Prop where
  | own {g : Addr} {k : Nat} {fd : FuncData} {ps : List Str} (hs : PySem.W.findIn X.K (.ref C) "__bool__" = some (some (.ref g))) (hf : PySem.W.isFn X.K (.ref g) = true)
      (ok : FnOk X.prog X.w X.K X.mg X.base (L2.CX X.prog X.w) k g fd ps (spA X.K 1 fun ds Q _ => ∀ z, ds = [z] → Q (.bl b))) (rm : Room k X.A) (bd : Binds X.K fd ps []) (tk : ∀ σ, PassesAt (L2.CX X.prog X.w) X σ fun _ _ _ => False)
  | plain (hb : b = true) (hs : PySem.W.findIn X.K (.ref C) "__bool__" = some none) (hl : PySem.W.findIn X.K (.ref C) "__len__" = some none)
section
variable {X : Cx} {bx : Bx} {e : Expr} {te ta : RE} {pos : Pos} {pins : List (Addr × Obj)} {σ : L2.St} {H : Hp} {s : Shared}
/-- own objects, or data -/
def truO (T : Addr → Option Bool) : D → Option Bool
  | .obj C _ _ => T C
  | d => truD d
def rTruO (T : Addr → Option Bool) (t : RE) : RB := fun env Q => t env fun d env1 => match truO T d with | some k => Q k env1 | none => False
end
end QL
set_option Elab.async false
set_option linter.all false
set_option maxRecDepth 100000
namespace QL
open PySem PySem.Spec PyProof.Rows L2
/-! ### ranges with ends of any size -/
abbrev rgO (lo hi : Int) (t u v : Tok) : Obj := { cls := .type "range", data := .fields #[.int lo t, .int hi u, .int 1 v] }
section
variable {X : Cx} {bx : Bx} {tg e a b : Expr} {ta : TA} {t : RA} {p pos : Pos}
def iRgA (ta : TA) : TI := fun σ H R => ta σ H fun vs H1 => ∃ i j : Int, (vs = [.int i, .int j] ∨ (i = 0 ∧ vs = [.int j])) ∧ R (Itr i (j - i).toNat) H1
def riRA1 (t : RA) : RI := fun env Q => t env fun ds env1 => match ds with | [.int j] => Q (rng 0 j.toNat) env1 | _ => False
def riRA2 (t : RA) : RI := fun env Q => t env fun ds env1 => match ds with | [.int i, .int j] => Q (rng i (j - i).toNat) env1 | _ => False
end
/-! ### list(range(a, b)) -/
section
open PySem
variable {prog : Program} {w : World} {A : Around}
abbrev lsO (c : Nat) (x : Array Value) : Obj := { cls := .type "list", dict := none, data := .seq x c, slots := #[] }
abbrev rgI (lo hi : Int) : Obj := { cls := .type (if Builtin.Range.small lo hi 1 = true then "range_iterator" else "longrange_iterator"), data := .fields #[rawInt lo, rawInt (Builtin.Range.rangeSize lo hi 1), rawInt 1] }
abbrev RgP (lo : Int) (i : Nat) (v : Value) : Prop := ∃ t, v = .int (lo + i * 1) t
abbrev FinL (prog : Program) (w : World) (A : Around) (R : Result → Shared → Prop) : Fin → Shared → Prop := fun fin s' => match fin with
  | .done f => R (.ok f) s'
  | .again c' => c'.quiet = true ∧ codeAny (model prog w) A c' R s'
end
section
variable {X : Cx} {bx : Bx} {a b : Expr} {t : RA} {p pos p2 pos2 : Pos} {te : L2.St → Hp → (Int → Int → Hp → Prop) → Prop} {e : Expr} {ta tb : RE}
def rLstRg (ta tb : RE) : RE := fun env Q => ta env fun d env1 => tb env1 fun e env2 => match d, e with
  | .int i, .int j => (j - i).toNat ≤ 2 ^ 24 ∧ Q (.lst (rng i (j - i).toNat)) env2
  | _, _ => False
end
/-! the readings, step by step -/
section
variable {env : List Slot} {Q : D → List Slot → Prop} {t : RA} {ta tb : RE} {P : List D → List Slot → Prop}
theorem e_riRA1 : riRA1 t env P = t env fun ds env1 => match ds with | [.int j] => P (rng 0 j.toNat) env1 | _ => False := rfl
theorem e_riRA2 : riRA2 t env P = t env fun ds env1 => match ds with | [.int i, .int j] => P (rng i (j - i).toNat) env1 | _ => False := rfl
end
end QL
set_option Elab.async false
set_option linter.all false
set_option maxRecDepth 100000
namespace QL
open PySem PySem.Spec PyProof.Rows L2
/-! ### max and min of a tuple of ints -/
section
open PySem
variable {prog : Program} {w : World} {A : Around}
end
def vMaxT : VL
  | [.tup xs], Q => ∃ ns, allInts xs = some ns ∧ 0 < ns.length ∧ ∀ m, m ∈ ns → (∀ y, y ∈ ns → y ≤ m) → Q (.int m)
  | _, _ => False
def vMinT : VL
  | [.tup xs], Q => ∃ ns, allInts xs = some ns ∧ 0 < ns.length ∧ ∀ m, m ∈ ns → (∀ y, y ∈ ns → m ≤ y) → Q (.int m)
  | _, _ => False
section
variable {X : Cx} {bx : Bx} {e a b : Expr} {te ta tb tk tv : RE} {p pos p1 p2 apos cpos : Pos} {t : RA}
/-! ### // by what is not 0 -/
def vDivN : V2
  | .int i, .int j, Q => (j ≠ 0 ∧ j.natAbs.log2 < 9000) ∧ Q (.int (i.fdiv j))
  | _, _, _ => False
/-! ### {i: x}, {i: x, j: y} -/
def rDisp1 (tk tv : RE) : RE := fun env Q => tk env fun d env1 => tv env1 fun z env2 => match d with
  | .int i => Q (.dic [.inl i] [z]) env2
  | _ => False
def rDisp2 (tk tv tk2 tv2 : RE) : RE := fun env Q => tk env fun d env1 => tv env1 fun z env2 => tk2 env2 fun d2 env3 => tv2 env3 fun z2 env4 => match d, d2 with
  | .int i, .int j => i ≠ j ∧ Q (.dic [.inl i, .inl j] [z, z2]) env4
  | _, _ => False
/-! ### d.get(i, x) -/
def dicGet (k : Int) : List Key → List D → Option D
  | .inl a :: ks, x :: xs => if a = k then some x else dicGet k ks xs
  | _ :: ks, _ :: xs => dicGet k ks xs
  | _, _ => none
def rGet2 (to tk tv : RE) : RE := fun env Q => to env fun o env1 => match o with
  | .dic ks xs => tk env1 fun d env2 => tv env2 fun z env3 => match d with
    | .int i => Q ((dicGet i ks xs).getD z) env3
    | _ => False
  | _ => False
end
theorem hu1 {n c : Nat} (h : n + 64 < c) : n + 1 < c := by omega
/-! the readings, step by step -/
section
variable {env : List Slot} {Q : D → List Slot → Prop} {tk tv tk2 tv2 to : RE} {a b : Int} {xs : List D} {P : D → Prop} {ks : List Key}
theorem o_divN : vDivN (.int a) (.int b) P = ((b ≠ 0 ∧ b.natAbs.log2 < 9000) ∧ P (.int (a.fdiv b))) := rfl
theorem o_maxT : vMaxT [.tup xs] P = ∃ ns, allInts xs = some ns ∧ 0 < ns.length ∧ ∀ m, m ∈ ns → (∀ y, y ∈ ns → y ≤ m) → P (.int m) := rfl
theorem o_minT : vMinT [.tup xs] P = ∃ ns, allInts xs = some ns ∧ 0 < ns.length ∧ ∀ m, m ∈ ns → (∀ y, y ∈ ns → m ≤ y) → P (.int m) := rfl
def dicQ (d : D) (Q : List Key → List D → Prop) : Prop := match d with
  | .dic ks xs => Q ks xs
  | _ => False
theorem e_dicQ {R : List Key → List D → Prop} : dicQ (.dic ks xs) R = R ks xs := rfl
end
end QL
set_option Elab.async false
set_option linter.all false
set_option maxRecDepth 100000
namespace QL
open PySem PySem.Spec PyProof.Rows L2
/-! ### walks over encoded lists -/
section
variable {α : Type} {enc : α → D} {xs : List α}
theorem enc_get {i : Nat} {d : D} (h : (xs.map enc)[i]? = some d) : ∃ a, xs[i]? = some a ∧ d = enc a := by
  rw [List.getElem?_map] at h
  obtain ⟨a, e, z⟩ := Option.map_eq_some_iff.mp h
  exact ⟨a, e, z.symm⟩
theorem lcR_of {g : RG} {te : RE} {is : List Nat} {env : List Slot} {Q : List D → List Slot → Prop} (f : α → D) (hl : xs.length ≤ sizeLine)
    (hs : ∀ (a : α) (N : D → List Slot → Prop), a ∈ xs → (∀ env', wipeE is env' = env → N (f a) env') → g (enc a) env fun env1 => te env1 N) (he : Q (xs.map f) env) : lcR g rYes te is (xs.map enc) [] env Q := by
  refine lcR_inv (fun i acc e => acc = (xs.take i).map f ∧ e = env) ⟨by simp, rfl⟩ ?_ ?_
  · rintro i d acc e N hd ⟨rfl, rfl⟩ hN
    obtain ⟨a, ha, rfl⟩ := enc_get hd
    have hi := (List.getElem?_eq_some_iff.mp ha).1
    exact hs a (fun z env3 => ((xs.take i).map f).length < sizeLine ∧ N ((xs.take i).map f ++ [z]) (wipeE is env3)) (List.mem_of_getElem? ha) fun env' he => ⟨by rw [List.length_map, List.length_take]; omega, by
      rw [he]
      refine hN _ _ ⟨?_, rfl⟩
      rw [List.take_add_one, ha, List.map_append]
      rfl⟩
  · rintro acc e ⟨rfl, rfl⟩
    rw [List.length_map, List.take_length]
    exact he
theorem allBls_of {f : α → Bool} : allBls (xs.map fun a => D.bl (f a)) = some (xs.map f) := by
  have := allBls_map (xs.map f)
  rw [List.map_map] at this
  exact this
theorem allInts_of {f : α → Int} : allInts (xs.map fun a => D.int (f a)) = some (xs.map f) := by
  have := allInts_map (xs.map f)
  rw [List.map_map] at this
  exact this
theorem cut_take {i : Nat} (h : i ≤ xs.length) : cutD (xs.map enc) none (some (i : Int)) = (xs.take i).map enc := by
  unfold cutD
  rw [HT.sIx_none, HT.sIx_nat, List.drop_zero, List.length_map, Nat.sub_zero, ← List.map_take]
  congr 2
  omega
theorem cut_drop {i : Nat} (h : i ≤ xs.length) : cutD (xs.map enc) (some (i : Int)) none = (xs.drop i).map enc := by
  unfold cutD
  rw [HT.sIx_none, HT.sIx_nat, List.length_map, ← List.map_drop, Nat.min_eq_left h]
  exact List.take_of_length_le (by simp)
end
end QL
set_option Elab.async false
set_option linter.all false
set_option maxRecDepth 100000
namespace QL
open PySem PySem.Spec PyProof.Rows L2
/-! ### a comprehension with an if, over encoded items -/
section
variable {α : Type} {enc : α → D} {xs : List α}
/-! ### a list of tuples of ints, and [] -/
end
/-! ### {i: x, j: y, k: z} -/
section
variable {X : Cx} {bx : Bx} {a b a2 b2 a3 b3 : Expr} {tk tv tk2 tv2 tk3 tv3 : RE} {pos : Pos}
def rDisp3 (tk tv tk2 tv2 tk3 tv3 : RE) : RE := fun env Q => tk env fun d env1 => tv env1 fun z env2 => tk2 env2 fun d2 env3 => tv2 env3 fun z2 env4 => tk3 env4 fun d3 env5 => tv3 env5 fun z3 env6 => match d, d2, d3 with
  | .int i, .int j, .int l => (i ≠ j ∧ i ≠ l ∧ j ≠ l) ∧ Q (.dic [.inl i, .inl j, .inl l] [z, z2, z3]) env6
  | _, _, _ => False
variable {env : List Slot} {Q : D → List Slot → Prop}
end
end QL
set_option Elab.async false
set_option linter.all false
set_option maxRecDepth 100000
namespace QL
open PySem PySem.Spec PyProof.Rows L2
section
variable {X : Cx} {bx : Bx} {tg iter tg1 iter1 elt : Expr} {ifs ifs1 : List Expr} {pos : Pos} {ti ti1 : RI} {g g1 : RG} {tt tt1 : RB} {te : RE}
end
end QL
set_option Elab.async false
set_option linter.all false
set_option maxRecDepth 100000
namespace QL
open PySem PySem.Spec PyProof.Rows L2
section
variable {X : Cx} {bx : Bx} {e : Expr} {es : List Expr} {t : RA} {te : RE} {pos : Pos}
/-! ### a call that leaves the last parameter to its default, an empty tuple -/
def rCallD (S : FA) (n : Nat) (EX : XD) (z : Addr) (t : RA) : RE := fun env Q => t env fun ds env1 => ds.length + 1 = n ∧ S (ds ++ [.raw (.ref z)]) (fun d => Q d env1) fun ed => EX ed env1
/-- * of such an empty tuple -/
def rStarR (z : Addr) (te : RE) (t : RA) : RA := fun env Q => te env fun d env1 => d = .raw (.ref z) ∧ t env1 Q
variable {env : List Slot} {Q : D → List Slot → Prop} {P : List D → List Slot → Prop} {S : FA} {n : Nat} {EX : XD} {z : Addr}
theorem e_callD : rCallD S n EX z t env Q = t env fun ds env1 => ds.length + 1 = n ∧ S (ds ++ [.raw (.ref z)]) (fun d => Q d env1) fun ed => EX ed env1 := rfl
theorem e_starR : rStarR z te t env P = te env fun d env1 => d = .raw (.ref z) ∧ t env1 P := rfl
end
/-- a def as it stands, with defaults or without -/
structure FunE (K : PySem.W.Frag) (x qual : Str) (st : Stmt) (f : Addr) (fd : FuncData) : Prop where
  ex : ∃ (oc : Value) (od : Option Addr) (dV kV doc pm : Value) (an : Option Addr) (cdv ct : Value) (osl : Array (Option Value)),
    fd = PySem.W.fnOf x qual (defArgs st) (defBody st) (defScope st) dV kV doc pm an cdv ct ∧ K.lookup f = some ⟨oc, od, .func fd, osl⟩ ∧ PySem.W.codeIn K cdv qual = true
section
variable {P : Program} {w : World} {K : PySem.W.Frag} {mg : Str → Option Value} {base : Heap}
end
end QL
set_option Elab.async false
set_option linter.all false
set_option maxRecDepth 100000
namespace QL
open PySem PySem.Spec PyProof.Rows L2
/-! ### dicts with int keys that a slot owns -/
section
variable {X : Cx} {bx : Bx} {o a e : Expr} {tk tv : RE} {pos p1 : Pos} {i : Nat}
/-- x[n] = v, n new -/
def sDputN (i : Nat) (tv tk : RE) : RS := fun en env => tv env fun z env1 => (∃ ks xs, env1[i]? = some (.own (.dic ks xs))) ∧ tk env1 fun d env2 => intQ d fun n => match env2[i]? with
  | some (.own (.dic ks xs)) => (ks.length < sizeLine ∧ (Sum.inl n : Key) ∉ ks) ∧ en.nx (env2.set i (.own (.dic (ks ++ [.inl n]) (xs ++ [z]))))
  | _ => False
/-- x[n] -/
def rDgetN (i : Nat) (tk : RE) : RE := fun env Q => (∃ d, env[i]? = some (.own d)) ∧ tk env fun d env1 => intQ d fun n => match env1[i]? with
  | some (.own (.dic ks xs)) => ∃ z, dicGet n ks xs = some z ∧ Q z env1
  | _ => False
variable {env : List Slot} {Q : D → List Slot → Prop} {en : PEnds}
end
end QL
set_option Elab.async false
set_option linter.all false
set_option maxRecDepth 100000
namespace QL
open PySem PySem.Spec PyProof.Rows L2
section
variable {X : Cx} {bx : Bx} {a b : Expr} {ta tb : RE} {pos : Pos} {i j : Nat}
/-- x, y = e, {}: y owns what is new -/
def sParN (i j : Nat) (ta tb : RE) : RS := fun en env => ta env fun d env1 => tb env1 fun e env2 => en.nx ((env2.set j (.own e)).set i (.val d))
variable {env : List Slot} {en : PEnds}
end
end QL
set_option Elab.async false
set_option linter.all false
set_option maxRecDepth 100000
namespace QL
open PySem PySem.Spec PyProof.Rows L2
section
variable {X : Cx} {bx : Bx} {b : Expr} {tb : RE} {p p2 pos pos2 : Pos}
/-- list(range(n)) -/
def rLstR1 (tb : RE) : RE := fun env Q => tb env fun d env1 => intQ d fun j => j.toNat ≤ 2 ^ 24 ∧ Q (.lst (rng 0 j.toNat)) env1
variable {env : List Slot} {Q : D → List Slot → Prop}
theorem e_lstR1 : rLstR1 tb env Q = tb env fun d env1 => intQ d fun j => j.toNat ≤ 2 ^ 24 ∧ Q (.lst (rng 0 j.toNat)) env1 := rfl
end
end QL
set_option Elab.async false
set_option linter.all false
set_option maxRecDepth 100000
namespace QL
open PySem PySem.Spec PyProof.Rows L2
section
variable {X : Cx} {bx : Bx} {a b : Expr} {ta tb : RE} {pos : Pos} {i j : Nat}
end
end QL
set_option Elab.async false
set_option linter.all false
set_option maxRecDepth 100000
namespace QL
open PySem PySem.Spec PyProof.Rows L2
section
variable {T : Addr → Option Bool} {t : RE} {env : List Slot} {Q : Bool → List Slot → Prop} {C : Addr} {ns : List Str} {xs : List D} {b : Bool} {P : Bool → Prop}
/-- the truth of a datum -/
def truQ (T : Addr → Option Bool) (d : D) (P : Bool → Prop) : Prop := match truO T d with | some k => P k | none => False
theorem e_truO : rTruO T t env Q = t env fun d env1 => truQ T d fun k => Q k env1 := rfl
end
end QL
set_option Elab.async false
set_option linter.all false
set_option maxRecDepth 100000
namespace QL
open PySem PySem.Spec PyProof.Rows L2
/-! ### one of two readings -/
section
variable {X : Cx} {bx : Bx} {e : Expr} {ta tb : RE}
variable {env : List Slot} {Q : D → List Slot → Prop}
def rEith (ta tb : RE) : RE := fun env Q => ta env Q ∨ tb env Q
theorem q_eith (ha : QE X bx e ta) (hb : QE X bx e tb) : QE X bx e (rEith ta tb) := ⟨fun pins s σ H Q I ⟨env, F, Q0, R, ht, k⟩ => by
  rcases ht with ht | ht
  · exact ha.run pins s σ H Q I ⟨env, F, Q0, R, ht, k⟩
  · exact hb.run pins s σ H Q I ⟨env, F, Q0, R, ht, k⟩⟩
def rEithA (ta tb : RA) : RA := fun env Q => ta env Q ∨ tb env Q
theorem e_eithA {ta tb : RA} {P : List D → List Slot → Prop} : rEithA ta tb env P = (ta env P ∨ tb env P) := rfl
theorem e_eith : rEith ta tb env Q = (ta env Q ∨ tb env Q) := rfl
end
section
def seqQ (d : D) (P : List D → Prop) : Prop := match d with
  | .tup xs => P xs
  | .lst xs => P xs
  | _ => False
variable {te : RE} {t : RA} {env : List Slot} {Q : List D → List Slot → Prop} {xs : List D} {P : List D → Prop}
theorem e_seqT : seqQ (.tup xs) P = P xs := rfl
theorem e_seqL : seqQ (.lst xs) P = P xs := rfl
end
section
variable {a b : Bool} {P : D → Prop}
theorem o_eqB : vEq (.bl a) (.bl b) P = P (.bl (decide (a = b))) := rfl
theorem o_neB : vNe (.bl a) (.bl b) P = P (.bl (!decide (a = b))) := rfl
end
end QL
set_option Elab.async false
set_option linter.all false
set_option maxRecDepth 100000
set_option maxHeartbeats 4000000
namespace QL
open PySem PySem.Spec PyProof.Rows L2
/-! ### tuple * int -/
section
variable {X : Cx}
def rRepS (K : PySem.W.Frag) : R2 := fun x y H Q => ∃ l k xs, x = .ref l ∧ y = .int k ∧ SqT K H l xs ∧ xs ≠ [] ∧ -1000 ≤ k ∧ ((k = 1 ∧ Q (.ref l) H) ∨ (k ≤ 0 ∧ ∀ p, H p = none → Q (.ref p) (upd H p (.tup []))))
/-- a tuple times an int -/
def vMulT : V2
  | .tup xs, .int k, Q => (xs ≠ [] ∧ xs.length ≤ 1000 ∧ -1000 ≤ k ∧ k ≤ 1000) ∧ Q (.tup (List.replicate k.toNat xs).flatten)
  | _, _, _ => False
theorem o_mulT {xs : List D} {k : Int} {P : D → Prop} : vMulT (.tup xs) (.int k) P = ((xs ≠ [] ∧ xs.length ≤ 1000 ∧ -1000 ≤ k ∧ k ≤ 1000) ∧ P (.tup (List.replicate k.toNat xs).flatten)) := rfl
end
end QL
set_option Elab.async false
set_option linter.all false
set_option maxRecDepth 100000
namespace QL
open PySem PySem.Spec PyProof.Rows L2
/-! ### {x: True for ..}, and its keys in order -/
def insI (ks : List Int) (i : Int) : List Int := if i ∈ ks then ks else ks ++ [i]
abbrev kvsT (ks : List Int) : List (Key × V) := ks.map fun i => ((Sum.inl i : Key), V.bl true)
def dcR (g : RG) (tt : RB) (tk : RE) (is : List Nat) : List D → List Int → List Slot → (List Int → List Slot → Prop) → Prop
  | [], ks, env, Q => Q ks env
  | d :: xs, ks, env, Q => g d env fun env1 => tt env1 fun b env2 => if b = true then tk env2 fun y env3 => intQ y fun i => ks.length < sizeLine ∧ dcR g tt tk is xs (insI ks i) (wipeE is env3) Q else dcR g tt tk is xs ks (wipeE is env2) Q
section
variable {X : Cx} {bx : Bx} {tg iter kx vx : Expr} {ifs : List Expr} {pos : Pos} {ti : RI} {g : RG} {tt : RB} {tk : RE}
def rDc (ti : RI) (g : RG) (tt : RB) (tk : RE) (is : List Nat) : RE := fun env Q => ti env fun xs env1 => noOwn is env1 = true ∧ dcR g tt tk is xs [] (wipeE is env1) fun ks env2 => Q (.dic (ks.map Sum.inl) (ks.map fun _ => D.bl true)) (backE is env1 env2)
end
section
variable {X : Cx}
def vSortedD : VL
  | [.dic ks xs], Q => ∃ ns : List Int, ks = ns.map Sum.inl ∧ ns.length < 64 ∧ ∀ ys : List Int, ys.Perm ns → ys.Pairwise (· ≤ ·) → Q (.lst (ys.map D.int))
  | _, _ => False
variable {ti : RI} {g : RG} {tt : RB} {tk : RE} {is : List Nat} {env : List Slot} {Q : D → List Slot → Prop} {ks : List Key} {xs : List D} {P : D → Prop}
theorem e_dc : rDc ti g tt tk is env Q = ti env fun xs env1 => noOwn is env1 = true ∧ dcR g tt tk is xs [] (wipeE is env1) fun ks env2 => Q (.dic (ks.map Sum.inl) (ks.map fun _ => D.bl true)) (backE is env1 env2) := rfl
theorem o_sortedD : vSortedD [.dic ks xs] P = ∃ ns : List Int, ks = ns.map Sum.inl ∧ ns.length < 64 ∧ ∀ ys : List Int, ys.Perm ns → ys.Pairwise (· ≤ ·) → P (.lst (ys.map D.int)) := rfl
end

end QL
set_option Elab.async false
set_option linter.all false
set_option maxRecDepth 100000
set_option maxHeartbeats 4000000
namespace QL
open PySem PySem.Spec PyProof.Rows L2
/-! ### bool(an own object) -/
section
variable {X : Cx} {pins : List (Addr × Obj)} {σ : L2.St} {H : Hp} {s : Shared}
/-- objects of the class are b, also two calls further in -/
inductive BoolD (X : Cx) (C : Addr) (b : Bool) : Prop where
  | own {g : Addr} {k : Nat} {fd : FuncData} {ps : List Str} (hs : PySem.W.findIn X.K (.ref C) "__bool__" = some (some (.ref g))) (hf : PySem.W.isFn X.K (.ref g) = true)
      (ok : FnOk X.prog X.w X.K X.mg X.base (L2.CX X.prog X.w) k g fd ps (spA X.K 1 fun ds Q _ => ∀ z, ds = [z] → Q (.bl b))) (rm : Room (k + 2) X.A) (bd : Binds X.K fd ps [])
  | plain (hb : b = true) (hs : PySem.W.findIn X.K (.ref C) "__bool__" = some none) (hl : PySem.W.findIn X.K (.ref C) "__len__" = some none)
theorem truth_in {C a dx : Addr} {fs : List (Str × V)} {b : Bool} {Q : Bool → Shared → Prop} {E : Value → Shared → Prop} (hC : BoolD X C b) (I : Inv X pins σ H s) (ho : H a = some (.ins C dx fs)) {F : Hp} {d : D} (sm : Same F H) (r : Rep X.K F d (.ref a))
    (h : ∀ H' F' s', Grow F H F' H' → Inv X pins σ H' s' → Q b s') : wpAny (model X.prog X.w) X.A.in1.in1 (truthy (.ref a)) Q E s := by
  obtain ⟨mA, O, _⟩ := ins_get I.hok ho
  obtain ⟨od, inst, _⟩ := O.look
  obtain ⟨m, fr⟩ := I.fr
  cases hC with
  | own hs hf ok rm bd =>
    refine PySem.W.truthy_K fr I.ok.mod.kin inst hs hf ?_
    have hsp : spA X.K 1 (fun ds Q _ => ∀ z, ds = [z] → Q (.bl b)) [V.ref a] H (fun v H' => v = .bl b ∧ ∃ F', Grow F H F' H') (fun _ _ _ => False) :=
      ⟨F, [d], fun z => z = .bl b, fun _ => False, rfl, sm, RepL.one r, fun z _ => rfl, fun z u F' H' g rz ez => by subst ez; exact ⟨rz, F', g⟩, fun _ _ _ _ _ _ _ z => z⟩
    have hl : ([Value.ref a] : List Value).length = _ := ok.len _ _ _ _ hsp
    have b' := bd s [.ref a] I.kIn (by rw [List.append_nil]; exact hl)
    rw [List.append_nil] at b'
    refine wpAny_call (codeAny_mono (ok.run X.A.in1.in1 X.stack s H ⟨[.ref a], []⟩ [.ref a] [V.ref a] _ _ rm.in1.in1 I.env0.in1.in1 b' (.cons rfl .nil) hsp) fun r s' hq => ?_)
    cases r with
    | error e =>
      obtain ⟨_, _, _, _, _, _, _, _, _, _, _, _, z⟩ := hq
      exact z.elim
    | ok fl =>
      cases fl with
      | ret u =>
        obtain ⟨v2, H2, I2, rv, rfl, F2, g2⟩ := I.after hq
        cases (show u = .bool b from rv)
        exact h H2 F2 s' g2 I2
      | next => exact False.elim hq
      | brk => exact False.elim hq
      | cont => exact False.elim hq
  | plain hb hs hl =>
    refine PySem.W.truthy_K0 fr I.ok.mod.kin inst hs hl ?_
    rw [← hb]
    exact h H F s (Grow.refl sm) I
theorem bool_meets {prog : Program} {w : World} {x : Value} (hx : ∃ a, x = .ref a) : MeetsIn prog w (Builtin.«bool.__new__» ⟨[.type "bool", x], []⟩) (fun A R s => wpAny (model prog w) A.in1 (truthy x) (fun b s' => R (.ok (.ret (.bool b))) s') (fun e s' => R (.error e) s') s) := fun A R s h => by
  obtain ⟨a, rfl⟩ := hx
  have f1 := F.conv_sub_bool
  obtain ⟨hp, g, d, tk, os⟩ := s
  repeat (any_goals (first | (with_reducible refine wpAny_mono h (fun b s' hq => ?_) fun _ _ z => z) | wp_step))
  all_goals exact hq
end
section
variable {X : Cx}
def vBoolO (T : Addr → Option Bool) : VL
  | [.obj C _ _], Q => ∃ b, T C = some b ∧ Q (.bl b)
  | _, _ => False
theorem qc_boolO {T : Addr → Option Bool} (hT : ∀ C b, T C = some b → BoolD X C b) : CallR X (.type "bool") (upVL X.K (vBoolO T)) := by
  intro pins s σ H xs us Q' I r ⟨F, ds, Q, sm, rl, h, g⟩
  unfold vBoolO at h
  split at h
  · rename_i C ns xs
    obtain ⟨b, hb, q⟩ := h
    obtain ⟨v, w, rfl, ⟨a, dx, fs, rfl, h2, h3, h4⟩, rfl⟩ := rl
    obtain rfl := Vals.ref1 r
    refine callType_newIn PySem.F.called_bool PySem.F.newNe_bool (PySem.F.typeCall_bool_1 _) (PySem.F.newCall_bool_1 _) (fun obj => PySem.F.args_object_init_2 obj _) PySem.F.entry_bool_new (bool_meets ⟨a, rfl⟩) ?_
    refine truth_in (hT C b hb) I (sm _ _ h2) sm (d := .obj C ns xs) ⟨a, dx, fs, rfl, h2, h3, h4⟩ fun H' F' s' gr J => ?_
    exact ⟨rfl, .bl b, H', J, rfl, g (.bl b) (.bl b) F' H' gr rfl q⟩
  · exact h.elim
end
section
variable {T : Addr → Option Bool} {C : Addr} {ns : List Str} {xs : List D} {P : D → Prop} {a : Int}
theorem o_boolO : vBoolO T [.obj C ns xs] P = ∃ b, T C = some b ∧ P (.bl b) := rfl
end
end QL
set_option Elab.async false
set_option linter.all false
set_option maxRecDepth 100000
namespace QL
open PySem PySem.Spec PyProof.Rows L2
/-! ### not x, x an own object, as a value -/
section
variable {X : Cx} {bx : Bx} {a : Expr} {ta : RE} {pos : Pos}
def rNotO (T : Addr → Option Bool) (t : RE) : RE := fun env Q => t env fun d env1 => match truO T d with | some k => Q (.bl (!k)) env1 | none => False
variable {T : Addr → Option Bool} {env : List Slot} {Q : D → List Slot → Prop}
theorem e_notO : rNotO T ta env Q = ta env fun d env1 => truQ T d fun k => Q (.bl (!k)) env1 := rfl
end
end QL
set_option Elab.async false
set_option linter.all false
set_option maxRecDepth 100000
namespace QL
open PySem PySem.Spec PyProof.Rows L2
section
variable {X : Cx} {bx : Bx} {pos : Pos} {i j : Nat}
/-- x, y = [], []: both own what is new -/
def sParLL (i j : Nat) : RS := fun en env => en.nx ((env.set j (.own (.lst []))).set i (.own (.lst [])))
variable {env : List Slot} {en : PEnds}
end
end QL
set_option Elab.async false
set_option linter.all false
set_option maxRecDepth 100000
namespace QL
open PySem PySem.Spec PyProof.Rows L2
/-! ### isinstance in the condition of a comprehension -/
section
variable {X : Cx} {K : PySem.W.Frag}
end
end QL
set_option Elab.async false
set_option linter.all false
set_option maxRecDepth 100000
set_option maxHeartbeats 4000000
/-! ### sorted(list of triples of ints), sorted(list of pairs of ints) -/
namespace S3
open PySem PyProof.Rows Srt SrtO
variable {prog : Program} {w : World} {A : Around} {E : Value → Shared → Prop} {s : Shared}
abbrev I3 := Int × Int × Int
def IsTri (h : Heap) (v : Value) (k : I3) : Prop := ∃ a o t u r n, v = .ref a ∧ h.get? a = some o ∧ o.cls = .type "tuple" ∧ o.data = .seq #[.int k.1 t, .int k.2.1 u, .int k.2.2 r] n
theorem IsTri.keeps {h h' : Heap} {v : Value} {k : I3} (p : IsTri h v k) (g : ∀ b o, h.get? b = some o → o.cls = .type "tuple" → h'.get? b = some o) : IsTri h' v k := by
  obtain ⟨a, o, t, u, r, n, e, ho, hc, hd⟩ := p
  exact ⟨a, o, t, u, r, n, e, g _ _ ho hc, hc, hd⟩
def lex3 (p q : I3) : Bool := if p.1 = q.1 then (if p.2.1 = q.2.1 then decide (p.2.2 < q.2.2) else decide (p.2.1 < q.2.1)) else decide (p.1 < q.1)
end S3
namespace L2
open PySem PySem.Spec PyProof.Rows
def rSortedTri (K : PySem.W.Frag) : List V → Hp → VK → Prop := fun vs H Q => ∃ (a : Addr) (xs : List V) (k : V → S3.I3), vs = [V.ref a] ∧ SqL K H a xs ∧ (∀ x ∈ xs, ∃ t, x = V.ref t ∧ H t = some (.tup [.int (k x).1, .int (k x).2.1, .int (k x).2.2])) ∧
  ∀ ys p, SrtO.Srtd (fun x y => S3.lex3 (k x) (k y)) ys → ys.Perm xs → H p = none → Q (.ref p) (upd H p (.lst ys))
section
variable {X : Cx}
end
end L2
namespace QL
open PySem PySem.Spec PyProof.Rows L2
abbrev triD (k : S3.I3) : D := .tup [.int k.1, .int k.2.1, .int k.2.2]
abbrev duoD (k : Int × Int) : D := .tup [.int k.1, .int k.2]
def kTri (F : Hp) : V → S3.I3
  | .ref a => match F a with
    | some (.tup [.int x, .int y, .int z]) => (x, y, z)
    | _ => (0, 0, 0)
  | _ => (0, 0, 0)
def kDuo (F : Hp) : V → Int × Int
  | .ref a => match F a with
    | some (.tup [.int x, .int y]) => (x, y)
    | _ => (0, 0)
  | _ => (0, 0)
section
variable {K : PySem.W.Frag} {F : Hp}
end
def vSort3 : VL
  | [.lst xs], Q => ∃ ks : List S3.I3, xs = ks.map triD ∧ ∀ ys : List S3.I3, ys.Perm ks → ys.Pairwise (fun p q => S3.lex3 q p = false) → Q (.lst (ys.map triD))
  | _, _ => False
def vSort2 : VL
  | [.lst xs], Q => ∃ ks : List (Int × Int), xs = ks.map duoD ∧ ∀ ys : List (Int × Int), ys.Perm ks → ys.Pairwise (fun p q => SrtO.lexB q p = false) → Q (.lst (ys.map duoD))
  | _, _ => False
section
variable {X : Cx}
variable {xs : List D} {P : D → Prop}
theorem o_sort3 : vSort3 [.lst xs] P = ∃ ks : List S3.I3, xs = ks.map triD ∧ ∀ ys : List S3.I3, ys.Perm ks → ys.Pairwise (fun p q => S3.lex3 q p = false) → P (.lst (ys.map triD)) := rfl
theorem o_sort2 : vSort2 [.lst xs] P = ∃ ks : List (Int × Int), xs = ks.map duoD ∧ ∀ ys : List (Int × Int), ys.Perm ks → ys.Pairwise (fun p q => SrtO.lexB q p = false) → P (.lst (ys.map duoD)) := rfl
end
end QL
set_option Elab.async false
set_option linter.all false
set_option maxRecDepth 100000
namespace QL
open PySem PySem.Spec PyProof.Rows L2
/-! ### xs[::-1] -/
def vRev (d : D) (Q : D → Prop) : Prop := match d with
  | .lst xs => Q (.lst xs.reverse)
  | _ => False
def rRev (te : RE) : RE := fun env Q => te env fun d env1 => vRev d fun z => Q z env1
section
variable {X : Cx} {bx : Bx} {e : Expr} {te : RE} {k : Nat} {p1 p2 p3 pos : Pos} {env : List Slot} {Q : D → List Slot → Prop} {xs : List D} {P : D → Prop}
theorem e_rev : rRev te env Q = te env fun d env1 => vRev d fun z => Q z env1 := rfl
theorem o_rev : vRev (.lst xs) P = P (.lst xs.reverse) := rfl
end
end QL
set_option Elab.async false
set_option linter.all false
set_option maxRecDepth 100000
set_option maxHeartbeats 4000000
namespace QL
open PySem PySem.Spec PyProof.Rows L2
section
variable {X : Cx} {bx : Bx} {a1 a2 a3 a4 a5 : Expr} {t1 t2 t3 t4 t5 : RE} {pos : Pos} {i1 i2 i3 i4 i5 j l : Nat}
/-- x1, .., x5, y, z = e1, .., e5, [], None: y owns what is new -/
def sPar7 (i1 i2 i3 i4 i5 j l : Nat) (t1 t2 t3 t4 t5 : RE) : RS := fun en env => t1 env fun d1 env => t2 env fun d2 env => t3 env fun d3 env => t4 env fun d4 env => t5 env fun d5 env =>
  en.nx (((((((env.set j (.own (.lst []))).set i1 (.val d1)).set i2 (.val d2)).set i3 (.val d3)).set i4 (.val d4)).set i5 (.val d5)).set l (.val .non))
variable {en : PEnds} {env : List Slot}
end
end QL
set_option Elab.async false
set_option linter.all false
set_option maxRecDepth 100000
namespace QL
open PySem PySem.Spec PyProof.Rows L2
/-! ### xs[::-1] of a name that owns its list -/
def rRevO (i : Nat) : RE := fun env Q => match env[i]? with
  | some (.own d) => vRev d fun z => Q z env
  | _ => False
section
variable {X : Cx} {bx : Bx} {a : Expr} {k i : Nat} {p1 p2 p3 pos : Pos} {env : List Slot} {Q : D → List Slot → Prop}
end
end QL
set_option Elab.async false
set_option linter.all false
set_option maxRecDepth 100000
set_option maxHeartbeats 4000000
/-! ### min(list of pairs of ints), (x, y) in a list of pairs of ints -/
namespace S4
open PySem PyProof.Rows
variable {prog : Program} {w : World} {A : Around} {R : Result → Shared → Prop} {I : Addr} {fp wr : List Addr} {n : Nat} {P : Nat → Value → Prop} {St : Nat → Heap → Prop} {H0 : Heap}
def CmpAt (prog : Program) (w : World) (A : Around) (op : CmpOp) (P : Nat → Value → Prop) (bt : Nat → Nat → Bool) (H0 : Heap) : Prop :=
  ∀ i j vi vj (s : Shared) (Q : Value → Shared → Prop) (E : Value → Shared → Prop), (∀ b o, H0.get? b = some o → s.heap.get? b = some o) → P i vi → P j vj → Q (.bool (bt i j)) s → wpAny (model prog w) A (richCompare op vi vj) Q E s
abbrev mnBox (v : Array Value) (c : Nat) : Obj := { cls := .type "list", dict := none, data := .seq v c, slots := #[] }
abbrev mnArgs (I S : Addr) : Args := ⟨[.ref I, .none, .ref S], []⟩
def IsDuo (h : Heap) (v : Value) (k : Int × Int) : Prop := ∃ a o t u n, v = .ref a ∧ h.get? a = some o ∧ o.cls = .type "tuple" ∧ o.data = .seq #[.int k.1 t, .int k.2 u] n
end S4
namespace L2
open PySem PySem.Spec PyProof.Rows
def rMinDuo (K : PySem.W.Frag) : List V → Hp → VK → Prop := fun vs H Q => ∃ (a : Addr) (xs : List V) (k : V → Int × Int), vs = [V.ref a] ∧ SqL K H a xs ∧ 0 < xs.length ∧ (∀ x ∈ xs, ∃ t, x = V.ref t ∧ H t = some (.tup [.int (k x).1, .int (k x).2])) ∧
  ∀ y ∈ xs, (∀ x ∈ xs, SrtO.lexB (k x) (k y) = false) → Q y H
section
variable {X : Cx}
end
end L2
namespace QL
open PySem PySem.Spec PyProof.Rows L2
def vMin2 : VL
  | [.lst xs], Q => ∃ ks : List (Int × Int), xs = ks.map duoD ∧ ks ≠ [] ∧ ∀ p ∈ ks, (∀ q ∈ ks, SrtO.lexB q p = false) → Q (duoD p)
  | _, _ => False
/-- (x, y) in a list of pairs -/
def vInP (neg : Bool) : V2
  | .tup [.int x, .int y], .lst xs, Q => ∃ ks : List (Int × Int), xs = ks.map duoD ∧ Q (.bl (if neg then !decide ((x, y) ∈ ks) else decide ((x, y) ∈ ks)))
  | _, _, _ => False
section
variable {X : Cx}
end
theorem o_min2 {xs : List D} {P : D → Prop} : vMin2 [.lst xs] P = ∃ ks : List (Int × Int), xs = ks.map duoD ∧ ks ≠ [] ∧ ∀ p ∈ ks, (∀ q ∈ ks, SrtO.lexB q p = false) → P (duoD p) := rfl
theorem o_inP {x y : Int} {xs : List D} {P : D → Prop} : vInP false (.tup [.int x, .int y]) (.lst xs) P = ∃ ks : List (Int × Int), xs = ks.map duoD ∧ P (.bl (decide ((x, y) ∈ ks))) := rfl
end QL
set_option Elab.async false
set_option linter.all false
set_option maxRecDepth 100000
set_option maxHeartbeats 4000000
/-! ### zip(a tuple, a list) -/
namespace QM
open PySem
open PySem.Sem (wp)
section
variable {prog : Program} {w : World} {A : Around} {it t : Addr} {fp : List Addr} {n i : Nat} {P : Nat → Value → Prop} {St : Nat → Heap → Prop}
end
abbrev mH1 (h : Heap) (l1 : Addr) : Heap := h.push { cls := .type "tuple_iterator", data := .fields #[.ref l1, .int 0 0] }
abbrev mH2 (h : Heap) (l1 l2 : Addr) : Heap := (mH1 h l1).push { cls := .type "list_iterator", data := .fields #[.ref l2, .int 0 0] }
abbrev mH3 (h : Heap) (l1 l2 : Addr) : Heap := (mH2 h l1 l2).push { cls := .type "tuple", data := .seq #[.ref h.objs.size, .ref (mH1 h l1).objs.size] }
abbrev mH4 (h : Heap) (l1 l2 : Addr) : Heap := (mH3 h l1 l2).push { cls := .type "tuple", data := .seq #[.none, .none] }
abbrev mH5 (h : Heap) (l1 l2 : Addr) : Heap := (mH4 h l1 l2).push { cls := .type "zip", data := .fields #[.none, .bool false, .bool false, .ref (mH2 h l1 l2).objs.size, .ref (mH3 h l1 l2).objs.size] }
section
variable {prog : Program} {w : World} {A : Around} {E : Value → Shared → Prop} {s : Shared}
end
end QM
namespace QL
open PySem PySem.Spec PyProof.Rows L2
def ItzM (K : PySem.W.Frag) (a b : Addr) : It :=
  ⟨fun i H => ∃ (xs ys : List V) (x y : V), SqT K H a xs ∧ SqL K H b ys ∧ xs[i]? = some x ∧ ys[i]? = some y,
    fun i H v H' => ∃ T x y, v = .ref T ∧ H T = none ∧ H' = upd H T (.tup [x, y]) ∧ (∀ xs, SqT K H a xs → xs[i]? = some x) ∧ ∀ ys, SqL K H b ys → ys[i]? = some y,
    fun i H => ∃ xs ys : List V, SqT K H a xs ∧ SqL K H b ys ∧ (xs.length ≤ i ∨ ys.length ≤ i)⟩
def iZM (K : PySem.W.Frag) (ta : TA) : TI := fun σ H R => ta σ H fun vs H1 => ∃ a b xs ys, vs = [.ref a, .ref b] ∧ SqT K H1 a xs ∧ SqL K H1 b ys ∧ R (ItzM K a b) H1
def riZM (t : RA) : RI := fun env Q => t env fun ds env1 => match ds with
  | [.tup xs, .lst ys] => Q (zipD xs ys) env1
  | _ => False
section
variable {X : Cx} {bx : Bx} {e a b c : Expr} {es : List Expr} {t : RA} {p1 p2 p3 : Pos} {kk : Nat} {tg : Expr}
end
theorem e_riZM {env : List Slot} {t : RA} {P : List D → List Slot → Prop} : riZM t env P = t env fun ds env1 => match ds with | [.tup xs, .lst ys] => P (zipD xs ys) env1 | _ => False := rfl
end QL
set_option Elab.async false
set_option linter.all false
set_option maxRecDepth 100000
set_option maxHeartbeats 4000000
namespace PySem.W
open PySem PySem.Spec PySem.Calls PyProof.Rows PySem.Builtin
section
variable {prog : Program} {w : World} {A : Around} {E : Value → Shared → Prop} {s : Shared} {K : Frag} {x C L f : Addr} {h₀ : Heap} {m : Str → Option Value} {ox : Obj} {od : Option Obj} {name : Str} {b tb : Value}
end
end PySem.W
namespace QL
open PySem PySem.Spec PyProof.Rows L2
/-! ### == and != of an own class -/
def vEqO (K : PySem.W.Frag) (C : Addr) (S : FA) : V2 := fun d e Q => match d with
  | .obj C' _ _ => C' = C ∧ (∃ t, TyD K e t ∧ PySem.W.notFirst K C t = true) ∧ S [d, e] (fun z => match z with | .bl b => Q (.bl b) | _ => False) fun _ => False
  | _ => False
def vNeO (K : PySem.W.Frag) (C : Addr) (S : FA) : V2 := fun d e Q => match d with
  | .obj C' _ _ => C' = C ∧ (∃ t, TyD K e t ∧ PySem.W.notFirst K C t = true) ∧ S [d, e] (fun z => match z with | .bl b => Q (.bl (!b)) | _ => False) fun _ => False
  | _ => False
/-- a class with an own == -/
structure EqC (K : PySem.W.Frag) (C f : Addr) : Prop where
  eq : PySem.W.findIn K (.ref C) "__eq__" = some (some (.ref f))
  fn : PySem.W.isFn K (.ref f) = true
  ne : PySem.W.findIn K (.ref C) "__ne__" = some (some (.builtin "object.__ne__"))
  ob : PySem.W.subIn K (.ref C) (.type "object") = some true
section
variable {X : Cx} {k : Nat} {C f : Addr} {fd : FuncData} {ps : List Str} {S : FA}
theorem no_pass : Passes (L2.CX X.prog X.w) X (fun _ _ _ => False) := fun _ _ _ _ _ _ _ h => by
  obtain ⟨_, _, _, _, _, _, _, _, _, _, _, _, z⟩ := h
  exact z.elim
theorem qo_eqO (Fn : FnOk X.prog X.w X.K X.mg X.base (L2.CX X.prog X.w) k f fd ps (spA X.K 2 S)) (hr : Room k X.A) (hb : Binds X.K fd ps []) (c : EqC X.K C f) : OpR X (compareOp .Eq) (upV2 X.K (vEqO X.K C S)) := by
  intro pins s σ H x y v u Q' I rx ry ⟨F, d, e, Q, sm, r1, r2, h, g⟩
  unfold vEqO at h
  split at h
  · rename_i C' ns xs
    obtain ⟨rfl, ⟨t, ht, hn⟩, hS⟩ := h
    have r1' := r1
    obtain ⟨a, dx, fs, rfl, h2, _⟩ := r1'
    cases rx
    obtain ⟨mA, J, _⟩ := ins_get I.hok (sm _ _ h2)
    obtain ⟨od, J, _⟩ := J.look
    obtain ⟨P, kt, hP, _⟩ := kit_of I ry (tyd_of sm ht r2)
    obtain ⟨m, hF⟩ := I.fr
    show wpAny (model X.prog X.w) X.A (richCompare .Eq (.ref a) u) (EP X pins σ Q') X.xe s
    refine PySem.W.cmp_K (op := .Eq) (tb := t) hr.units0 hF I.ok.mod.kin J (kt.ty _ _ I.kIn hP) hn c.eq c.fn ?_
    have hsp : spA X.K 2 S [.ref a, y] H (fun z H' => ∃ b, z = .bl b ∧ Q' (.bl b) H') (fun _ _ _ => False) := ⟨F, [.obj C' ns xs, e], _, fun _ => False, rfl, sm, ⟨_, _, rfl, r1, _, _, rfl, r2, rfl⟩, hS, fun z w F' H' gr rz q => by
      cases z with
      | bl b => exact ⟨b, rz, g (.bl b) _ F' H' gr rfl q⟩
      | _ => exact q.elim, fun _ _ _ _ _ _ _ z => z.elim⟩
    have hl := Fn.len _ _ _ _ hsp
    have r2 : Vals [V.ref a, y] [Value.ref a, u] := .cons rfl (.cons ry .nil)
    refine wpAny_call (codeAny_mono (Fn.run X.A X.stack s H ⟨[.ref a, u], []⟩ [.ref a, u] [.ref a, y] _ _ hr I.env0 (by
      have := hb s [.ref a, u] I.kIn (by simpa using hl)
      simpa using this) r2 hsp) fun r s' hq => ?_)
    cases r with
    | error e => exact no_pass pins σ H s e s' I hq
    | ok fl =>
      cases fl with
      | ret w =>
        obtain ⟨z, H', I', rz, b, ez, q⟩ := I.after hq
        subst ez
        cases rz
        exact ⟨.bl b, H', I', rfl, q⟩
      | next => exact False.elim hq
      | brk => exact False.elim hq
      | cont => exact False.elim hq
  · exact h.elim
end
end QL
set_option Elab.async false
set_option linter.all false
set_option maxRecDepth 100000
set_option maxHeartbeats 4000000
namespace L2
open PySem PySem.Spec PyProof.Rows
/-! ### several clauses, each `except C as n` -/
def wAsM (K : PySem.W.Frag) (i : Nat) (Wout : WX) (D : Ends) : List (Value × (Addr → Value → Option Addr → TS)) → WX
  | [] => Wout
  | (c, ts) :: r => fun cls d σ H => ∃ b, PySem.W.exmOne K cls c = some b ∧
    (b = true → ∀ a, H a = none → ts a cls d { nx := fun σ' H' => D.nx (σ'.set i none) H', rt := D.rt, bk := fun σ' H' => D.bk (σ'.set i none) H', ct := fun σ' H' => D.ct (σ'.set i none) H' } (σ.set i (some (.ref a))) H) ∧
    (b = false → wAsM K i Wout D r cls d σ H)
inductive HdsAs (X : Cx) (n : Str) : List ExceptHandler → List (Value × (Addr → Value → Option Addr → TS)) → Prop
  | nil : HdsAs X n [] []
  | cons {x : Str} {c : Value} {ts : Addr → Value → Option Addr → TS} {b₀ : Stmt} {suite : List Stmt} {np pos' : Pos} {hds : List ExceptHandler} {l : List (Value × (Addr → Value → Option Addr → TS))} (hc : Names X x c)
      (hsu : ∀ (a : Addr) (oe : Obj) (cls : Value) (d : Option Addr) (pn : List (Addr × Obj)), Zc cls d oe → (∃ vs, oe.data = .fields vs) → PSs (X.suite a ((a, oe) :: pn)) (b₀ :: suite) (ts a cls d)) (r : HdsAs X n hds l) :
      HdsAs X n (.ExceptHandler (some (.Name x np)) (some n) (b₀ :: suite) pos' :: hds) ((c, ts) :: l)
section
variable {X : Cx} {n : Str} {i : Nat} {body : List Stmt} {h₀ : ExceptHandler} {hds : List ExceptHandler} {l : List (Value × (Addr → Value → Option Addr → TS))} {pos : Pos} {tb : WX → TS} {Wout : WX}
theorem ps_try_asM (hs : X.stack = X.env :: X.outer) (hf : X.env.frame = some X.env.locals) (hN : X.N.Nodup) (hi : X.N[i]? = some n) (hln : X.env.kindOf n = some .local) (tk : Takes X Wout)
    (hb : ∀ (W : WX) (pn : List (Addr × Obj)) (xe : Value → Shared → Prop), Takes (X.tr pn xe) W → PassesOwn (model X.prog X.w) X.A X.env xe → PSs (X.tr pn xe) body (tb W))
    (hh : HdsAs X n (h₀ :: hds) l) : PS X (.Try body (h₀ :: hds) [] [] pos) (fun D σ H => tb (wAsM X.K i Wout D l) D σ H) := by
  refine ⟨fun pins s σ H D I h => ?_⟩
  have ok := I.ok
  have hfr : X.A.frames = some (X.env :: X.outer) := by rw [ok.frames, hs]
  have hloc : Loc X.env.scope n := .inl hln
  refine wpAny_Try_except ?_
  refine wpAny_mono ((hb (wAsM X.K i Wout D l) (X.pn ++ pins) (fun e s₁ => wpAny (model X.prog X.w) X.A (noteFrame e X.env) (fun _ s₂ => wpAny (model X.prog X.w) X.A (setFlight e none) (fun _ s₃ =>
    wpAny (model X.prog X.w) X.A (handleBy e X.env (h₀ :: hds)) (SP X pins D) X.xe s₃) X.xe s₂) X.xe s₁) (fun u s' xx => ?_) PassesOwn.looking).run [] s σ H D (I.toTry _) h) (fun f s1 hsp => ?_) (fun e s1 he => he)
  · -- the catch
    obtain ⟨a, B, sI, pins', σ', H', cls, d, rfl, J', nb, up, sky, na, os, ag, w⟩ := xx
    have J : Inv X pins σ' H' sI := J'.ofTry ok
    have sky' : Sky B (X.env :: X.outer) a (Zc cls d) X.env.locals s'.heap := by rw [← hs]; exact sky
    show wpAny (model X.prog X.w) X.A (noteFrame (.ref a) X.env) _ _ _
    refine Sky.land Zc.steady hfr hf sky' fun h3 fl3 up3 => ?_
    have J3 : Inv X pins σ' H' { s' with heap := h3 } := J.landed nb fl3.1 (up.trans up3) os ag
    obtain ⟨oe3, vs3, he3, hz3, hd3⟩ := fl3.there
    have notFr : ∀ {h : Heap} {o : Obj} {vs : Array Value}, h.FunFrames B (X.env :: X.outer) → h.get? a = some o → o.data = .fields vs → a ∉ frs (X.env :: X.outer) := fun {h o vs} ff e dd hm => by
      obtain ⟨_, o', e', hnf⟩ := ff.mem hm
      rw [e] at e'; cases e'
      exact hnf _ dd
    have nfr := notFr fl3.2.2.1 he3 hd3
    have nL : a ≠ X.env.locals := fun z => nfr (List.mem_filterMap.mpr ⟨X.env, List.mem_cons_self, by rw [hf, z]⟩)
    have nF : a ∉ X.fs := fun hm => by
      obtain ⟨e, he, q⟩ := List.mem_filterMap.mp hm
      exact nfr (List.mem_filterMap.mpr ⟨e, List.mem_cons_of_mem _ he, q⟩)
    have S3 := J3.suite he3 hd3 na nL nF
    have go : ∀ {hds' : List ExceptHandler} {l' : List (Value × (Addr → Value → Option Addr → TS))}, HdsAs X n hds' l' → wAsM X.K i Wout D l' cls d σ' H' →
        wpAny (model X.prog X.w) X.A (handleBy (.ref a) X.env hds') (SP X pins D) X.xe { s' with heap := h3 } := by
      intro hds' l' hk
      induction hk with
      | nil =>
        intro w
        refine wpAny_handleBy_nil ?_
        obtain ⟨k1, k2, k3, oe, vs, T, oT, ts', he, hz, hd, h1, hr⟩ := id fl3
        unfold PySem.passOn
        refine wpAny_bind (wpAny_field he hd h1 ?_)
        rw [if_neg (show ¬ ((Value.ref T == Value.none) = true) from by simp)]
        have fin : wpAny (model X.prog X.w) X.A (setFlight (.ref a) X.env.frame) (fun _ s4 => wpAny (model X.prog X.w) X.A (throw (.ref a) : Sem Flow) (SP X pins D) X.xe s4) X.xe { s' with heap := h3 } := by
          rw [hf]
          refine HandSPX.setFlight_upZ fl3 fun h4 hh4 up4 => wpAny_throw (tk _ _ ?_)
          exact ⟨a, B, sI, pins, σ', H', cls, d, rfl, J, nb, (up.trans up3).trans up4, .inr (.inr (by rw [hs]; exact hh4)), na, os, ag, w⟩
        first
          | exact wpAny_bind (wpAny_pure (wpAny_bind fin))
          | exact wpAny_bind fin
      | @cons x c ts b₀ suite np pos' hds2 l2 hc hsu r ih =>
        intro w
        obtain ⟨b, hb1, hyes, hno⟩ := w
        refine wpAny_handleBy_cons (codeAny_handlers_test ?_) (by intro q; cases q)
        have LT : PySem.W.Looks (model X.prog X.w) h3 (typeOf (.ref a)) cls := fun A Q E s k q => wpAny_typeOf_ref (k _ _ he3) (by rw [hz3.1]; exact q)
        have LM := PySem.W.exm_one (M := model X.prog X.w) (J3.kIn) LT hb1
        have test : ∀ {Q : Value → Shared → Prop} {E : Value → Shared → Prop}, Q c { s' with heap := h3 } → wpAny (model X.prog X.w) (X.A.mark (some (.ref a))) (eval (.Name x np) X.env) Q E { s' with heap := h3 } := fun {Q E} q => by
          obtain ⟨hg, hdbg, hm | ⟨hm, hv, hnn⟩⟩ := hc
          · exact ld_glob (X := X.suite a ((a, oe3) :: (X.pn ++ pins))) S3 hg hm q hdbg
          · exact ld_blt (X := X.suite a ((a, oe3) :: (X.pn ++ pins))) S3 hg hm hv q hnn hdbg
        refine test (LM.here ?_)
        cases b with
        | true =>
          refine codeAny_handlers_suite_as ?_
          refine HandSPX.lands_againZ fl3 fun h4 fl4 up4 => ?_
          have J4 : Inv X pins σ' H' { s' with heap := h4 } := J.landed nb fl4.1 ((up.trans up3).trans up4) os ag
          obtain ⟨oe4, vs4, he4, hz4, hd4⟩ := fl4.there
          have S4 := J4.suite he4 hd4 na nL nF
          refine store_ok (X := X.suite a ((a, oe4) :: (X.pn ++ pins))) (v := .ref a) S4 hN hi hloc rfl (fun s5 S5 => ?_) (.inr hln)
          refine wpAny_mono ((hsu a oe4 cls d (X.pn ++ pins) hz4 ⟨_, hd4⟩).run [] s5 _ H' _ S5 (hyes rfl a na)) (fun f s6 hsp => ?_) (fun _ _ z => False.elim z)
          have end_ : ∀ {σ6 : St} {H6 : Hp} {Q : Shared → Prop}, Inv (X.suite a ((a, oe4) :: (X.pn ++ pins))) [] σ6 H6 s6 → (∀ s7, Inv X pins (σ6.set i none) H6 s7 → Q s7) →
              wpAny (model X.prog X.w) X.A (do bindName X.env n .none; unbindBehindTheSuite X.env n pos') (fun _ s7 => Q s7) X.xe s6 := fun {σ6 H6 Q} S6 hq => gone_ok (S6.unsuite ok) hN hi hln hq
          cases f with
          | next =>
            obtain ⟨σ6, H6, S6, q6⟩ := hsp
            exact end_ S6 fun s7 J7 => ⟨_, _, J7, q6⟩
          | brk =>
            obtain ⟨σ6, H6, S6, q6⟩ := hsp
            exact end_ S6 fun s7 J7 => ⟨_, _, J7, q6⟩
          | cont =>
            obtain ⟨σ6, H6, S6, q6⟩ := hsp
            exact end_ S6 fun s7 J7 => ⟨_, _, J7, q6⟩
          | ret u =>
            obtain ⟨v6, σ6, H6, S6, r6, q6⟩ := hsp
            exact end_ S6 fun s7 J7 => ⟨_, _, _, J7, r6, q6⟩
        | false =>
          show wpAny _ X.A (handleBy (.ref a) X.env hds2) _ _ _
          exact ih (hno rfl)
    exact go hh w
  · cases f with
    | next =>
      obtain ⟨σ', H', J', q⟩ := hsp
      exact wpAny_execs_nil ⟨σ', H', J'.ofTry ok, q⟩
    | brk =>
      obtain ⟨σ', H', J', q⟩ := hsp
      exact ⟨σ', H', J'.ofTry ok, q⟩
    | cont =>
      obtain ⟨σ', H', J', q⟩ := hsp
      exact ⟨σ', H', J'.ofTry ok, q⟩
    | ret u =>
      obtain ⟨v, σ', H', J', r, q⟩ := hsp
      exact ⟨v, σ', H', J'.ofTry ok, r, q⟩
end
end L2
namespace QL
open PySem PySem.Spec PyProof.Rows L2
/-! ### an exception's own __init__: self.f = value -/
def spI (C : Addr) (f : Str) : Sp := fun vs H Q _ => ∃ a v, vs = [.ref a, v] ∧ H a = some (exo a C none) ∧ ∀ dx, H dx = none → dx ≠ a → Q .non (upd (upd H dx (exd dx [(f, v)])) a (exo a C (some dx)))
theorem fnI {P : Program} {w : World} {K : PySem.W.Frag} {mg : Str → Option Value} {base : Heap} {x qual : Str} {st : Stmt} {f : Addr} {fd : FuncData} {N ps : List Str} {k : Nat} {C : Addr} {fl : Str} (Fn : Fun K x qual st f fd) (Sc : FnScope N ps (defScope st)) (hps : ps.length = 2)
    (T : OexC K C) (hno : PySem.W.findIn K (.ref C) fl = some none)
    (hbody : ∀ (cdv : Value) (A : Around) (outer : List Env) (s : Shared) (H : Hp) (E : XK), PSs (cxOf (L2.CX P w) P w K mg base N qual (defScope st) f cdv A outer s H E) (defBody st) (tOst K fl (tVar 0) (tVar 1))) :
    FnOk P w K mg base (L2.CX P w) (k + 1) f fd ps (spI C fl) := by
  refine Fn.okX Sc (fun vs H Q E ⟨a, v, e, _⟩ => by rw [e, hps]; rfl) fun cdv A outer s H vs Q E hr ⟨a, v, e, ha, q⟩ => ⟨_, hbody cdv A outer s H E, ?_⟩
  subst e
  exact ⟨v, rfl, .ref a, rfl, a, C, rfl, T, hno, .inl ⟨ha, fun dx h1 h2 => q dx h1 h2⟩⟩
/-! ### raise C(e) -/
def sRaise (C : Addr) (f : Str) (EX : XD) (te : RE) : RS := fun _ env => te env fun d env1 => EX (.obj C [f] [d]) env1
section
variable {X : Cx} {bx : Bx} {e : Expr} {te : RE} {C fI : Addr} {k : Nat} {fd : FuncData} {ps : List Str} {f x n : Str} {EX : XD} {p p2 pos : Pos}
theorem qs_raise (T : OexC X.K C) (iC : PySem.W.findIn X.K (.ref C) "__init__" = some (some (.ref fI))) (tI : PySem.W.typeIn X.K (.ref fI) = some (.type "function"))
    (F1 : FnOk X.prog X.w X.K X.mg X.base (L2.CX X.prog X.w) k fI fd ps (spI C f)) (hr : Room (k + 1) X.A) (hg : Gl X x) (hm : X.mg x = some (.ref C)) (hb : Binds X.K fd ps []) (hc : X.calm = true) (tk : Takes X (WEx X.K bx EX)) (he : QE X bx e te)
    (hdb : (x == ("__debug__" : Str)) = false := by decide) (hs : starEach (e :: []) X.env = (false, eval e X.env) :: starEach [] X.env := by rfl) (hpl : (backTo p2 (starEach [] X.env)).any (·.1) = false := by rfl) :
    QS X bx (.Raise (some (.Call (.Name x p) [e] [] p2)) none pos) (sRaise C f EX te) :=
  ps_imp (ps_raise hc tk (pmk_oex T iC tI F1 hr hb .nil no_pass hg hm (pa_cons he pa_nil hs) hdb hs hpl)) fun Dn σ H ⟨env, F, en, R, ht, _⟩ => by
    refine ⟨env, F, _, R, ht, fun d v env1 F1 H1 s1 R1 r1 q1 => ⟨by simp, fun a ha => ⟨a, v, rfl, upd_same, fun dx hdx hne => ⟨rfl, dx, [(f, v)], upd_same, ?_, ?_, ?_⟩⟩⟩⟩
    · rw [upd_ne hne, upd_same]
    · rw [upd_ne hne] at hdx; exact hdx
    · have hd1 : H1 dx = none := by rw [upd_ne hne] at hdx; exact hdx
      have eq : upd (del (upd (upd (upd H1 a (exo a C none)) dx (exd dx [(f, v)])) a (exo a C (some dx))) a) dx (.xd [(f, v)]) = upd H1 dx (.xd [(f, v)]) := by
        funext b
        by_cases hb : b = dx
        · rw [hb, upd_same, upd_same]
        · rw [upd_ne hb, upd_ne hb]
          by_cases hba : b = a
          · rw [hba, del_same, ha]
          · rw [del_ne hba, upd_ne hba, upd_ne hb, upd_ne hba]
      rw [eq]
      exact ⟨env1, upd F1 dx (.xd [(f, v)]), .obj C [f] [d], R1.laid hd1, ⟨rfl, dx, [(f, v)], rfl, upd_same, rfl, ⟨v, [], rfl, Rep.mono (same_upd (R1.sf.free hd1)) _ _ r1, rfl⟩⟩, q1⟩
/-! ### try -/
abbrev RH := Addr → D → RS
def unE (i : Nat) (en : PEnds) : PEnds := { nx := fun env => en.nx (env.set i .un), rt := en.rt, bk := fun env => en.bk (env.set i .un), ct := fun env => en.ct (env.set i .un) }
def disp (K : PySem.W.Frag) (i : Nat) (EX : XD) (en : PEnds) : List (Addr × RH) → XD
  | [] => EX
  | (c, ts) :: r => fun ed env => match ed with
    | .obj C _ _ => ∃ b, PySem.W.exmOne K (.ref C) (.ref c) = some b ∧ (b = true → ∀ a, ts a ed (unE i en) (env.set i (.val (.raw (.ref a))))) ∧ (b = false → disp K i EX en r ed env)
    | _ => False
inductive HdsQ (X : Cx) (bx : Bx) (n : Str) : List ExceptHandler → List (Addr × RH) → Prop
  | nil : HdsQ X bx n [] []
  | cons {x : Str} {c : Addr} {ts : RH} {b₀ : Stmt} {suite : List Stmt} {np pos' : Pos} {hds : List ExceptHandler} {l : List (Addr × RH)} (hg : Gl X x) (hm : X.mg x = some (.ref c))
      (hsu : ∀ (a : Addr) (oe : Obj) (cls : Value) (d : Option Addr) (pn : List (Addr × Obj)) (F0 : Hp) (ed : D), Zc cls d oe → (∃ vs, oe.data = .fields vs) → RepX X.K F0 ed cls d → QSs (X.suite a ((a, oe) :: pn)) ⟨bx.B, bx.io, F0⟩ (b₀ :: suite) (ts a ed))
      (r : HdsQ X bx n hds l) (hd : (x == ("__debug__" : Str)) = false := by decide) : HdsQ X bx n (.ExceptHandler (some (.Name x np)) (some n) (b₀ :: suite) pos' :: hds) ((c, ts) :: l)
def tHd (K : PySem.W.Frag) (bx : Bx) (ts : RH) : Addr → Value → Option Addr → TS := fun a cls d Dn σ H => ∃ F0 ed, RepX K F0 ed cls d ∧ upS K ⟨bx.B, bx.io, F0⟩ (ts a ed) Dn σ H
theorem HdsQ.as {hds : List ExceptHandler} {l : List (Addr × RH)} (h : HdsQ X bx n hds l) : HdsAs X n hds (l.map fun p => (.ref p.1, tHd X.K bx p.2)) := by
  induction h with
  | nil => exact .nil
  | cons hg hm hsu r hd ih =>
    refine .cons ⟨hg, hd, .inl hm⟩ (fun a oe cls d pn hz hf => ?_) ih
    exact ⟨fun pins s σ H D I ⟨F0, ed, rx, q⟩ => (hsu a oe cls d pn F0 ed hz hf rx).run pins s σ H D I q⟩
/-- slot i is let go -/
theorem ER.setUn {K : PySem.W.Frag} {F H : Hp} {env : List Slot} {σ : L2.St} {i : Nat} {o : Option V} (R : ER K bx F env σ H) (hio : bx.io = none ∨ i ≠ 0) : ER K bx F (env.set i .un) (σ.set i o) H := by
  refine ⟨R.sb, R.sf, by rw [List.length_set, List.length_set]; exact R.len, fun j s hj => ?_, fun j k d1 e c hj hk sj sk => ?_, fun c hc => ?_, R.f0, R.fz⟩
  · rcases set_some hj with ⟨rfl, rfl, hl⟩ | ⟨hne, hj⟩
    · exact ⟨_, by rw [List.getElem?_set_self (by rw [← R.len]; exact hl)], trivial⟩
    · obtain ⟨q, k1, k2⟩ := R.slots j s hj
      exact ⟨q, by rw [List.getElem?_set_ne hne]; exact k1, k2⟩
  · have old : ∀ {m : Nat} {d2 : D}, (env.set i .un)[m]? = some (.own d2) → (σ.set i o)[m]? = some (some (V.ref c)) → env[m]? = some (.own d2) ∧ σ[m]? = some (some (V.ref c)) := fun {m d2} hm sm => by
      rcases set_some hm with ⟨rfl, z, _⟩ | ⟨hne, hm⟩
      · cases z
      · rw [List.getElem?_set_ne hne] at sm; exact ⟨hm, sm⟩
    obtain ⟨a1, a2⟩ := old hj sj
    obtain ⟨b1, b2⟩ := old hk sk
    exact R.sep j k _ _ c a1 b1 a2 b2
  · obtain ⟨k1, d2, k2⟩ := R.io c hc
    have h0 : i ≠ 0 := hio.elim (fun z => by rw [z] at hc; cases hc) id
    exact ⟨by rw [List.getElem?_set_ne h0]; exact k1, d2, by rw [List.getElem?_set_ne h0]; exact k2⟩
theorem ER.at0 {K : PySem.W.Frag} {F H : Hp} {env : List Slot} {σ : L2.St} (R : ER K bx F env σ H) : ER K ⟨bx.B, bx.io, F⟩ F env σ H := ⟨R.sb, R.sf, R.len, R.slots, R.sep, R.io, Same.refl _, fun _ h _ => h⟩
theorem ER.of0 {K : PySem.W.Frag} {F F' H H' : Hp} {env env' : List Slot} {σ σ' : L2.St} (R : ER K bx F env σ H) (R' : ER K ⟨bx.B, bx.io, F⟩ F' env' σ' H') : ER K bx F' env' σ' H' :=
  ⟨R'.sb, R'.sf, R'.len, R'.slots, R'.sep, R'.io, R.f0.trans R'.f0, fun a h1 h2 => R'.fz a (R.fz a h1 h2) h2⟩
def sTry (K : PySem.W.Frag) (i : Nat) (EX : XD) (l : List (Addr × RH)) (tb : XD → RS) : RS := fun en env => tb (disp K i EX en l) en env
theorem qs_try {i : Nat} {body : List Stmt} {h₀ : ExceptHandler} {hds : List ExceptHandler} {l : List (Addr × RH)} {tb : XD → RS} (hs : X.stack = X.env :: X.outer) (hf : X.env.frame = some X.env.locals) (hN : X.N.Nodup) (hi : X.N[i]? = some n) (hln : X.env.kindOf n = some .local)
    (hio : bx.io = none ∨ i ≠ 0) (tk : Takes X (WEx X.K bx EX))
    (hb : ∀ (F0 : Hp), Same bx.F0 F0 → (∀ a, bx.F0 a = none → Hard bx.B a → F0 a = none) → ∀ (EXb : XD) (pn : List (Addr × Obj)) (xe : Value → Shared → Prop), Takes (X.tr pn xe) (WEx X.K ⟨bx.B, bx.io, F0⟩ EXb) → PassesOwn (model X.prog X.w) X.A X.env xe → QSs (X.tr pn xe) ⟨bx.B, bx.io, F0⟩ body (tb EXb))
    (hh : HdsQ X bx n (h₀ :: hds) l) : QS X bx (.Try body (h₀ :: hds) [] [] pos) (sTry X.K i EX l tb) := by
  refine ps_imp (ps_try_asM (tb := fun W Dn σ H => ∃ F0 EXb, (Same bx.F0 F0 ∧ ∀ a, bx.F0 a = none → Hard bx.B a → F0 a = none) ∧ (∀ cls d σ H, WEx X.K ⟨bx.B, bx.io, F0⟩ EXb cls d σ H → W cls d σ H) ∧ upS X.K ⟨bx.B, bx.io, F0⟩ (tb EXb) Dn σ H) hs hf hN hi hln tk
    (fun W pn xe tkW po => ⟨fun pins s σ H D I ⟨F0, EXb, sf, im, q⟩ => (hb F0 sf.1 sf.2 EXb pn xe (tkW.imp im) po).run pins s σ H D I q⟩) hh.as) fun Dn σ H ⟨env, F, en, R, ht, k1, k2, k3, k4⟩ => ?_
  refine ⟨F, disp X.K i EX en l, ⟨R.f0, R.fz⟩, fun cls d σ' H' ⟨env', F', ed, R', rx, ex⟩ => ?_, env, F, en, R.at0, ht, fun env' F' σ' H' s' R' q => k1 env' F' σ' H' s' (R.of0 R') q, fun d v env' F' σ' H' s' R' rd q => k2 d v env' F' σ' H' s' (R.of0 R') rd q,
    fun env' F' σ' H' s' R' q => k3 env' F' σ' H' s' (R.of0 R') q, fun env' F' σ' H' s' R' q => k4 env' F' σ' H' s' (R.of0 R') q⟩
  have s' : Same F F' := R'.f0
  have R2 := R.of0 R'
  have key : ∀ l' : List (Addr × RH), disp X.K i EX en l' ed env' → wAsM X.K i (WEx X.K bx EX) Dn (l'.map fun p => (.ref p.1, tHd X.K bx p.2)) cls d σ' H' := by
    intro l'
    induction l' with
    | nil => exact fun ex => ⟨env', F', ed, R2, rx, ex⟩
    | cons p r ih =>
      intro ex
      obtain ⟨c, ts⟩ := p
      cases ed with
      | obj C ns xs =>
        obtain ⟨b, e1, e2, e3⟩ := ex
        have hcls : cls = .ref C := rx.1
        refine ⟨b, by rw [hcls]; exact e1, fun hb' a ha => ?_, fun hb' => ih (e3 hb')⟩
        refine ⟨F', .obj C ns xs, rx, env'.set i (.val (.raw (.ref a))), F', unE i en, (ER.setVal (d := .raw (.ref a)) R2 hio rfl).at0, e2 hb' a, fun env2 F2 σ2 H2 s2 R3 q => ?_, fun d v env2 F2 σ2 H2 s2 R3 rd q => k2 d v env2 F2 σ2 H2 (s'.trans s2) ((ER.setVal (d := .raw (.ref a)) R2 hio rfl).of0 R3) rd q,
          fun env2 F2 σ2 H2 s2 R3 q => ?_, fun env2 F2 σ2 H2 s2 R3 q => ?_⟩
        · exact k1 _ F2 _ H2 (s'.trans s2) (ER.setUn ((ER.setVal (d := .raw (.ref a)) R2 hio rfl).of0 R3) hio) q
        · exact k3 _ F2 _ H2 (s'.trans s2) (ER.setUn ((ER.setVal (d := .raw (.ref a)) R2 hio rfl).of0 R3) hio) q
        · exact k4 _ F2 _ H2 (s'.trans s2) (ER.setUn ((ER.setVal (d := .raw (.ref a)) R2 hio rfl).of0 R3) hio) q
      | _ => exact ex.elim
  exact key l ex
end
end QL
namespace PySem.W
open PySem PySem.Spec PySem.Calls PyProof.Rows
section
variable {prog : Program} {w : World} {A : Around} {E : Value → Shared → Prop} {s : Shared} {K : Frag} {x D : Addr} {ox od : Obj}
end
end PySem.W
namespace QL
open PySem PySem.Spec PyProof.Rows L2
/-- a class of exceptions whose instances' fields may be read -/
def HasX (K : PySem.W.Frag) (S : Addr → Prop) (f : Str) : Prop := ∀ C, S C → XfC K C ∧ PySem.W.findIn K (.ref C) f = some none
def rXf (S : Addr → Prop) (a : Addr) (f : Str) (ed : D) (te : RE) : RE := fun env Q => te env fun d env1 => match ed with
  | .obj C ns xs => d = .raw (.ref a) ∧ S C ∧ ∃ z, fldD f ns xs = some z ∧ Q z env1
  | _ => False
section
variable {X : Cx} {a : Addr} {oe : Obj} {cls : Value} {d : Option Addr} {pn : List (Addr × Obj)} {B F0 : Hp} {io : Option Addr} {ed : D} {e : Expr} {te : RE} {f : Str} {pos : Pos} {S : Addr → Prop}
theorem q_xf (hz : Zc cls d oe) (hf : ∃ vs, oe.data = .fields vs) (rx : RepX X.K F0 ed cls d) (hS : HasX X.K S f) (he : QE (X.suite a ((a, oe) :: pn)) ⟨B, io, F0⟩ e te)
    (hb : attributeBase e f (X.suite a ((a, oe) :: pn)).env (eval e (X.suite a ((a, oe) :: pn)).env) = eval e (X.suite a ((a, oe) :: pn)).env := by rfl) :
    QE (X.suite a ((a, oe) :: pn)) ⟨B, io, F0⟩ (.Attribute e f pos) (rXf S a f ed te) := by
  refine ⟨fun pins s σ H Q' I ⟨env, F, Q, R, ht, k⟩ => ?_⟩
  refine attr_of hb (thn (he.run pins s σ H (fun x H1 => ∃ C ns xs env1 F1 z, ed = .obj C ns xs ∧ x = .ref a ∧ S C ∧ fldD f ns xs = some z ∧ Same F F1 ∧ ER (X.suite a ((a, oe) :: pn)).K ⟨B, io, F0⟩ F1 env1 σ H1 ∧ Q z env1) I ⟨env, F, _, R, ht, fun dd v env1 F1 H1 s1 R1 r1 q => ?_⟩) fun u s1 hh => ?_)
  · cases ed with
    | obj C ns xs =>
      obtain ⟨e1, hC, z, hz', q⟩ := q
      subst e1
      exact ⟨C, ns, xs, env1, F1, z, rfl, r1, hC, hz', s1, R1, q⟩
    | _ => exact q.elim
  · obtain ⟨x, H1, I1, rx1, C, ns, xs, env1, F1, z, rfl, rfl, hC, hz', sF, R1, q⟩ := hh
    obtain rfl : u = Value.ref a := rx1
    obtain ⟨ec, da, fs, h2, h3, h4, h5⟩ := rx
    subst h4
    subst ec
    subst h2
    obtain ⟨v, hv, rv⟩ := fld_rep h5 hz'
    obtain ⟨T, hno⟩ := hS C hC
    obtain ⟨ha, _⟩ := I1.pin (a, oe) (List.mem_append_left _ List.mem_cons_self)
    obtain ⟨vs, hd⟩ := hf
    have hx : ObjOk X.prog X.w H1 s1.heap da (.xd fs) := I1.hok da _ (R1.sf _ _ (R1.f0 _ _ h3))
    obtain ⟨mA, hns, hr⟩ := hx
    obtain ⟨od, ho, hl⟩ := lookIn_ns hns
    obtain ⟨u, hu, ru⟩ := RelO.some_of (v := v) (o := mA f) (by rw [← hv]; exact hr f)
    have J : PySem.W.InstAt s1.heap a oe C (some od) := ⟨ha, hz.1, by unfold PySem.W.notCls; rw [hd] <;> rfl, by rw [hz.2]; exact ho⟩
    exact HandSPX.exc_get I1.kIn J T.ga T.gg T.exC (PySem.W.findObj_own T.hdC hno rfl (by rw [hl, hu])) (handed_of ru) ⟨v, H1, I1.tok _, ru, k z v env1 F1 H1 sF R1 (Rep.mono R1.f0 _ _ rv) q⟩
/-- isinstance(e, c) of the caught exception -/
def vIsX (K : PySem.W.Frag) (a : Addr) (ed : D) : VL := fun ds Q => match ed, ds with
  | .obj C _ _, [.raw x, .raw (.ref c)] => x = .ref a ∧ ExcC K C ∧ ∃ b, PySem.W.kitOne K (.ref C) (.ref c) = some b ∧ Q (.bl b)
  | .obj C _ _, [.raw x, .raw (.ty c)] => x = .ref a ∧ ExcC K C ∧ ∃ b, PySem.W.kitOne K (.ref C) (.type c) = some b ∧ Q (.bl b)
  | _, _ => False
end
/-! ### step by step -/
section
variable {env : List Slot} {Q : D → List Slot → Prop} {C c : Addr} {ns : List Str} {xs : List D} {S : Addr → Prop} {f : Str} {te ta tb : RE} {t : RA} {i : Nat} {EX : XD} {SA : FA} {P : D → Prop} {en : PEnds} {K : PySem.W.Frag} {a : Addr} {ed d : D} {l : List (Addr × RH)} {ts : RH} {tB : XD → RS}
theorem e_raise : sRaise C f EX te en env = te env fun d env1 => EX (.obj C [f] [d]) env1 := rfl
theorem e_try : sTry K i EX l tB en env = tB (disp K i EX en l) en env := rfl
theorem e_disp0 {ed : D} : disp K i EX en [] ed env = EX ed env := rfl
theorem e_unErt : (unE i en).rt = en.rt := rfl
theorem e_unEnx : (unE i en).nx = fun env => en.nx (env.set i .un) := rfl
theorem e_xf : rXf S a f (.obj C ns xs) te env Q = te env fun d env1 => d = .raw (.ref a) ∧ S C ∧ ∃ z, fldD f ns xs = some z ∧ Q z env1 := rfl
end
end QL
set_option Elab.async false
set_option linter.all false
set_option maxRecDepth 100000
set_option maxHeartbeats 4000000
namespace QL
open PySem PySem.Spec PyProof.Rows L2
/-! ### an object made of a list that its name keeps -/
mutual
def noL : D → Bool
  | .lst _ => false
  | .scr _ => false
  | .dic _ _ => false
  | .dct _ _ => false
  | .tup xs => noLs xs
  | .obj _ _ xs => noLs xs
  | _ => true
def noLs : List D → Bool
  | [] => true
  | x :: xs => noL x && noLs xs
end
section
variable {K : PySem.W.Frag} {F : Hp} {a : Addr} {ws : List V}
end
def rMakeC (i : Nat) (C : Addr) (M : FB) : RE := fun env Q => match env[i]? with
  | some (.own (.lst xs)) => M (.obj C [] []) [.lst xs] (fun d d' => d = .non ∧ noL d' = true ∧ Q d' env) fun _ _ => False
  | _ => False
section
variable {X : Cx} {bx : Bx} {e : Expr} {p1 p2 : Pos} {i k : Nat} {x : Str} {C g : Addr} {fn : FuncData} {qs : List Str}
end
/-! ### step by step -/
section
variable {env : List Slot} {Q : D → List Slot → Prop} {C : Addr} {M : FB} {i : Nat}
theorem e_makeC : rMakeC i C M env Q = (match getS env i with | .own (.lst xs) => M (.obj C [] []) [.lst xs] (fun d d' => d = .non ∧ noL d' = true ∧ Q d' env) fun _ _ => False | _ => False) := by
  unfold rMakeC
  rw [getS_eq]
  cases env[i]? with
  | none => rfl
  | some s =>
    cases s with
    | own d => cases d <;> rfl
    | _ => rfl
end
end QL
set_option Elab.async false
set_option linter.all false
set_option maxRecDepth 100000
set_option maxHeartbeats 4000000
namespace LamX
open PySem PySem.Spec PyProof.Rows L2
section
variable {X : Cx} {pins : List (Addr × Obj)} {σ : L2.St} {H HZ : Hp} {s s1 : Shared}
/-- as pe_act, what is let out told slot by slot -/
theorem act_at {CXg : CXT} {Eg : XK} {Ng : List Str} {qg : Str} {sg : Scope} {g f c' : Addr} {cdg pm ctv : Value} {params : Arguments} {body : Expr} {scope : Scope} {k i : Nat} {a : Str} {pn : List (Addr × Obj)} {xe : Value → Shared → Prop} {E : L2.St → XK} {tb : XK → TE} {p1 p2 : Pos}
    (I : Inv X pins σ H s) (L : LamS X.env.scope scope) (hf : s.heap.get? f = some (PySem.W.kla_obj "<lambda>" (X.env.qual ++ "<lambda>") params body scope (cloFrom X.env.cells scope.names []) pm c' ctv)) (hfn : H f = none) (hfr : f ∉ frs X.stack)
    (hbind : bindArgs (PySem.W.kla_fn "<lambda>" (X.env.qual ++ "<lambda>") params body scope (cloFrom X.env.cells scope.names []) pm (.ref c') ctv) ⟨[], []⟩ = pure [])
    (hx : ∀ σ, PassesAt (L2.CX X.prog X.w) ((cxOf CXg X.prog X.w X.K X.mg X.base Ng qg sg g cdg X.A X.stack s H Eg).tr pn xe) σ (E σ)) (hr : Room (k + 1) (X.A.deeper (envOfC qg sg s.heap.objs.size g cdg)))
    (hbody : ∀ (E : XK) (A : Around) (outer : List Env) (s : Shared) (H : Hp), Room k (A.deeper (lamEnv X scope s.heap.objs.size f c')) → PE (lamCx X A outer s H E scope f c') body (tb E))
    (hN : Ng[i]? = some a) (hv : Vis sg a) (hd : (a == ("__debug__" : Str)) = false := by decide) (hcd : (a == ("__classdict__" : Str)) = false := by decide) :
    PE ((cxOf CXg X.prog X.w X.K X.mg X.base Ng qg sg g cdg X.A X.stack s H Eg).tr pn xe) (.Call (.Name a p1) [] [] p2)
      (fun σZ HZ Q => σZ[i]? = some (some (.ref f)) ∧ HZ c' = some (CodeO c' (X.env.qual ++ "<lambda>")) ∧ tb (E σZ) σ HZ Q) := by
  refine ⟨fun pinsZ sZ σZ HZ Q IZ h => ?_⟩
  obtain ⟨hs, hc, ht⟩ := h
  refine wpAny_Call_Name_kw (thn ((pe_var (pos := p1) (i := i) hN hv hd hcd).run pinsZ sZ σZ HZ (fun v H1 => v = .ref f ∧ H1 = HZ) IZ ⟨.ref f, hs, rfl, rfl⟩) fun u s1 ⟨v, H1, I1, r1, ev, eH⟩ => ?_)
  subst ev
  rw [eH] at I1
  obtain rfl : u = Value.ref f := r1
  have of1 := I1.base.keep f _ hf hfn hfr (fun z => nomatch (show f ∈ ([] : List Addr) from z))
  refine PySem.W.callWith_F0 ⟨_, _, _, _, of1⟩ ?_
  have un : Un (frs X.stack) [] H HZ s.heap s1.heap := I1.base
  obtain ⟨⟨oc, vs, t, hoc, hdc, hvc⟩, _, _⟩ := I1.hok c' _ hc
  have rc : codeAny (model X.prog X.w) (X.A.deeper (envOfC qg sg s.heap.objs.size g cdg)) (.call (.ref f) ⟨[], []⟩) (CR (L2.CX X.prog X.w) (envOfC qg sg s.heap.objs.size g cdg :: X.stack) X.prog X.w HZ s1 Q (E σZ)) s1 := by
    refine PySem.W.kla_callFunE hr.depth of1 rfl L.co L.gen rfl ⟨c', oc, vs, t, rfl, hoc, hdc, hvc⟩ ?_
    rw [hbind]
    refine wpAny_pure (wpAny_newFunctionEnv (fun y hy => (L.own y hy).2) (fun y hy => absurd hy (by simp)) (fun h₁ hns hsb => ⟨I1.nolimit.fresh _ hsb, ?_⟩) L.kind)
    have kp : ∀ b o, s1.heap.get? b = some o → h₁.get? b = some o := fun b o e => hsb.extBut b o (Nat.ne_of_lt (Heap.lt_size e)) (Heap.get?_push_of_some _ e)
    have J := lam_start2 (c' := c') (E := E σZ) (tk := s1.toks + ([] : List (Str × Value)).length) I L (f := f) I1.env0 hr.hd un hns kp
    refine PySem.W.kla_codeExpr (wpAny_mono ((hbody (E σZ) _ _ s1 HZ (hr.deeper _)).run [] _ _ HZ Q J ht) (fun v s' hq => ?_) fun e s' hq => hq)
    obtain ⟨w', H', J', rv, q⟩ := hq
    exact ⟨w', H', J'.os, J'.bare, J'.base, J'.hok, rv, q⟩
  refine wpAny_call (codeAny_mono rc fun r s' hq => ?_)
  rcases r with e | fl
  · exact hx σZ pinsZ HZ s1 e s' I1 hq
  · cases fl with
    | ret u => exact I1.after hq
    | _ => exact False.elim hq
end
/-- as GivesTo, what is let out told slot by slot -/
def GivesAt (X : Cx) (Ng : List Str) (x : Str) (sg : Scope) (g : Addr) (cdg : Value) (bg : List Stmt) (a : Str) (q : Str) (TT : (XK → Hp → VK → Prop) → Hp → VK → Prop) : Prop :=
  ∀ (f c' : Addr) (s : Shared) (H : Hp) (Q : VK) (tl : XK → Hp → VK → Prop),
    (∀ (pn : List (Addr × Obj)) (xe : Value → Shared → Prop) (E : L2.St → XK) (p1 p2 : Pos), (∀ σ, PassesAt (L2.CX X.prog X.w) ((cxOf C8.CX0 X.prog X.w X.K X.mg X.base Ng x sg g cdg X.A X.stack s H C8.E0).tr pn xe) σ (E σ)) →
      PE ((cxOf C8.CX0 X.prog X.w X.K X.mg X.base Ng x sg g cdg X.A X.stack s H C8.E0).tr pn xe) (.Call (.Name a p1) [] [] p2) (fun σZ HZ Q => σZ[0]? = some (some (.ref f)) ∧ HZ c' = some (CodeO c' q) ∧ tl (E σZ) HZ Q)) →
    H c' = some (CodeO c' q) → TT tl H Q →
    ∃ t, PSs (cxOf C8.CX0 X.prog X.w X.K X.mg X.base Ng x sg g cdg X.A X.stack s H C8.E0).nox bg t ∧ t { nx := fun _ H' => Q .non H', rt := Q } (L2.start Ng [.ref f]) H
section
variable {X : Cx}
theorem lam_call {T : List (Addr × Str)} {TT : (XK → Hp → VK → Prop) → Hp → VK → Prop} {x a : Str} {g c P : Addr} {k : Nat} {pg : Arguments} {bg : List Stmt} {sg : Scope} {dV kV doc pm cdv ct oc : Value} {an od : Option Addr} {osl : Array (Option Value)} {Ng : List Str}
    {params : Arguments} {body : Expr} {scope : Scope} {t : XK → TE} {p lpos pos : Pos} (hg : Gl X x) (hm : X.mg x = some (.ref g)) (hk : PySem.W.keepIn X.K (.ref g) = true)
    (lk : X.K.lookup g = some ⟨oc, od, .func (PySem.W.fnOf x x pg bg sg dV kV doc pm an cdv ct), osl⟩) (hcg : PySem.W.codeIn X.K cdv x = true) (hb : L2.Binds X.K (PySem.W.fnOf x x pg bg sg dV kV doc pm an cdv ct) [a] []) (Sg : FnScope Ng [a] sg) (hNg : Ng[0]? = some a) (hva : Vis sg a)
    (hG : GivesAt X Ng x sg g cdv bg a (X.env.qual ++ "<lambda>") TT)
    (TB : TabB X.base X.mg c P) (hcode : X.env.code = .ref c) (hmT : (P, X.env.qual ++ "<lambda>") ∈ T) (hu : ∀ p ∈ T, p.1 = P → p.2 = X.env.qual ++ "<lambda>") (hr : Room (k + 2) X.A) (L : LamS X.env.scope scope) (hdef : defaultsOf params X.env = ([], []))
    (hbind : ∀ (q : Str) (cl : List (Str × Addr)) (pm cv ctv : Value), bindArgs (PySem.W.kla_fn "<lambda>" q params body scope cl pm cv ctv) ⟨[], []⟩ = pure [])
    (hbody : ∀ (A : Around) (outer : List Env) (s : Shared) (H : Hp) (E : XK) (f c' : Addr), Room k (A.deeper (lamEnv X scope s.heap.objs.size f c')) → PE (lamCx X A outer s H E scope f c') body (t E))
    (hdb : (x == ("__debug__" : Str)) = false := by decide) (hd : (a == ("__debug__" : Str)) = false := by decide) (hcd : (a == ("__classdict__" : Str)) = false := by decide) :
    PE X (.Call (.Name x p) [.Lambda params body scope lpos] [] pos) (tLam T TT t) := by
  refine ⟨fun pins s σ H Q I ⟨hT, h⟩ => ?_⟩
  refine wpAny_Call_Name_kw (ld_glob I hg hm ?_ hdb)
  refine PySem.W.callWith_K (h₀ := X.base) I.ok.mod.kin hk ?_ (by rfl) (by rfl)
  show wpAny _ _ (spliced ((false, eval (.Lambda params body scope lpos) X.env) :: backTo pos (starEach [] X.env))) _ _ s
  refine Calls.spliced_cons (lam_make2 I TB hcode hmT hu hT hdef (L.has I.ok) fun f c' pm' ctv H1 s' I1 eN T1 hf hfn hfr hco => Calls.spliced_nil ⟨I1.kIn, ?_⟩)
  have rc : codeAny (model X.prog X.w) X.A (.call (.ref g) ⟨[.ref f], []⟩) (CR C8.CX0 X.stack X.prog X.w H1 s' Q C8.E0) s' := by
    refine run_ofS (N := Ng) (ps := [a]) (us := [.ref f]) (vs := [.ref f]) lk hcg Sg hr I1.env0 (hb s' [.ref f] I1.kIn rfl) (.cons rfl .nil) rfl fun hr' => ?_
    obtain ⟨t', ht', hq'⟩ := hG f c' s' H1 Q (fun E H' Q' => t E σ H' Q') (fun pn xe E p1 p2 hx => act_at (i := 0) (tb := t) I1 L hf hfn hfr (hbind _ _ _ _ _) hx hr' (fun E A outer s H hr2 => hbody A outer s H E f c' hr2) hNg hva hd hcd) hco (h H1 eN T1)
    exact ⟨t', ht'.nox, hq'⟩
  refine wpAny_call (codeAny_mono rc fun r s2 hq => ?_)
  rcases r with e | fl
  · exact (show False from hq).elim
  · cases fl with
    | ret u => exact I1.after hq
    | _ => exact False.elim hq
end
end LamX
namespace QL
open PySem PySem.Spec PyProof.Rows L2 LamX
/-! ### a heap without tables -/
def isTbl : HO → Bool
  | .tbl _ => true
  | .ext _ => true
  | _ => false
def noT (F : Hp) : Hp := fun a => match F a with
  | some o => if isTbl o then none else some o
  | none => none
section
variable {K : PySem.W.Frag} {F H : Hp}
theorem noT_of {a : Addr} {o : HO} (h : F a = some o) (n : isTbl o = false) : noT F a = some o := by
  unfold noT
  rw [h]
  show (if isTbl o = true then none else some o) = _
  rw [n, if_neg Bool.false_ne_true]
theorem noT_some {a : Addr} {o : HO} (h : noT F a = some o) : F a = some o ∧ isTbl o = false := by
  unfold noT at h
  cases e : F a with
  | none => rw [e] at h; cases h
  | some u =>
    rw [e] at h
    have h' : (if isTbl u = true then none else some u) = some o := h
    cases ht : isTbl u with
    | true => rw [ht, if_pos rfl] at h'; cases h'
    | false => rw [ht, if_neg Bool.false_ne_true] at h'; cases h'; exact ⟨rfl, ht⟩
theorem noT_none {a : Addr} (h : F a = none) : noT F a = none := by
  unfold noT
  rw [h]
theorem noT_same : Same (noT F) F := fun a o h => (noT_some h).1
theorem sqL_noT {a : Addr} {xs : List V} (h : SqL K F a xs) : SqL K (noT F) a xs := by
  rcases h with (h | ⟨o, h⟩) | h
  · exact .inl (.inl (noT_of h rfl))
  · exact .inl (.inr ⟨o, noT_of h rfl⟩)
  · exact .inr h
mutual
theorem rep_noT : ∀ (d : D) (v : V), Rep K F d v → Rep K (noT F) d v
  | .non, _, h => h
  | .bl _, _, h => h
  | .int _, _, h => h
  | .str _, _, h => h
  | .raw _, _, h => h
  | .scr _, _, ⟨a, h1, h2⟩ => ⟨a, h1, sqL_noT h2⟩
  | .tup xs, _, ⟨a, vs, h1, h2, h3⟩ => ⟨a, vs, h1, noT_of h2 rfl, repL_noT xs vs h3⟩
  | .lst xs, _, ⟨a, vs, h1, h2, h3⟩ => ⟨a, vs, h1, noT_of h2 rfl, repL_noT xs vs h3⟩
  | .dic ks xs, _, ⟨a, h1, kvs, h2, h3, h4⟩ => ⟨a, h1, kvs, noT_of h2 rfl, h3, repL_noT xs _ h4⟩
  | .dct ks xs, _, ⟨a, h1, kvs, h2, h3, h4⟩ => ⟨a, h1, kvs, noT_of h2 rfl, h3, repL_noT xs _ h4⟩
  | .obj C ns xs, _, ⟨a, dx, fs, h1, h2, h3, h4⟩ => ⟨a, dx, fs, h1, noT_of h2 rfl, h3, repL_noT xs _ h4⟩
theorem repL_noT : ∀ (xs : List D) (vs : List V), RepL K F xs vs → RepL K (noT F) xs vs
  | [], _, h => h
  | x :: xs, _, ⟨v, r, h1, h2, h3⟩ => ⟨v, r, h1, rep_noT x v h2, repL_noT xs r h3⟩
end
theorem own_noT : ∀ {d : D} {ho : HO}, OwnH K F d ho → OwnH K (noT F) d ho ∧ isTbl ho = false
  | .lst xs, _, ⟨vs, h1, h2⟩ => ⟨⟨vs, h1, repL_noT _ _ h2⟩, by rw [h1]; rfl⟩
  | .dic ks xs, _, ⟨kvs, h2, h3, h4⟩ => ⟨⟨kvs, h2, h3, repL_noT xs _ h4⟩, by rw [h2]; rfl⟩
  | .dct ks xs, _, ⟨kvs, h2, h3, h4⟩ => ⟨⟨kvs, h2, h3, repL_noT xs _ h4⟩, by rw [h2]; rfl⟩
  | .obj C ns xs, _, ⟨dx, fs, h1, h2, h3⟩ => ⟨⟨dx, fs, h1, h2, repL_noT _ _ h3⟩, by rw [h1]; rfl⟩
  | .non, _, h => h.elim
  | .bl _, _, h => h.elim
  | .int _, _, h => h.elim
  | .str _, _, h => h.elim
  | .raw _, _, h => h.elim
  | .scr _, _, h => h.elim
  | .tup _, _, h => h.elim
end
/-! ### a def that makes lambdas: its tables of code objects grow -/
abbrev bx0 : Bx := ⟨fun _ => none, none, fun _ => none⟩
abbrev Tbs := List (Addr × Str)
/-- the tables and code objects -/
def tabH (H : Hp) : Hp := fun a => match H a with
  | some o => if isTbl o then some o else none
  | none => none
theorem tabH_of {H : Hp} {a : Addr} {o : HO} (h : H a = some o) (n : isTbl o = true) : tabH H a = some o := by
  unfold tabH
  rw [h]
  show (if isTbl o = true then some o else none) = _
  rw [n, if_pos rfl]
theorem tabH_some {H : Hp} {a : Addr} {o : HO} (h : tabH H a = some o) : H a = some o ∧ isTbl o = true := by
  unfold tabH at h
  cases e : H a with
  | none => rw [e] at h; cases h
  | some u =>
    rw [e] at h
    have h' : (if isTbl u = true then some u else none) = some o := h
    cases ht : isTbl u with
    | true => rw [ht, if_pos rfl] at h'; cases h'; exact ⟨rfl, ht⟩
    | false => rw [ht, if_neg Bool.false_ne_true] at h'; cases h'
structure ERX (K : PySem.W.Frag) (T : Tbs) (F : Hp) (env : List Slot) (σ : L2.St) (H : Hp) : Prop where
  er : ER K bx0 F env σ H
  tb : Tabs T H
  nt : ∀ a o, F a = some o → isTbl o = false
section
variable {K : PySem.W.Frag} {T : Tbs} {F F' H H' : Hp} {env env' : List Slot} {σ σ' : L2.St}
theorem Tabs.keep (t : Tabs T H) (s : Same (tabH H) H') : Tabs T H' := fun p hp => by
  obtain ⟨ps, h1, h2, h3⟩ := t p hp
  refine ⟨ps, s _ _ (tabH_of h1 rfl), h2, fun pos cv hc => ?_⟩
  obtain ⟨c, e1, e2⟩ := h3 pos cv hc
  exact ⟨c, e1, s _ _ (tabH_of e2 rfl)⟩
theorem ERX.into (R : ERX K T F env σ H) : ER K ⟨tabH H, none, fun _ => none⟩ F env σ H := by
  refine ⟨fun b o h => (tabH_some h).1, R.er.sf, R.er.len, fun i s z => ?_, R.er.sep, (fun a h => nomatch h), (fun b o h => nomatch h), fun a _ ha => ?_⟩
  · obtain ⟨o, h1, h2⟩ := R.er.slots i s z
    refine ⟨o, h1, ?_⟩
    cases s with
    | un => trivial
    | val d => exact h2
    | own d =>
      obtain ⟨a, ho, h3, h4, h5, h6, h7⟩ := h2
      refine ⟨a, ho, h3, h4, ?_, h6, h7⟩
      show tabH H a = none
      cases e : tabH H a with
      | none => rfl
      | some u =>
        obtain ⟨e1, e2⟩ := tabH_some e
        rw [h6] at e1
        cases e1
        rw [(own_noT h7).2] at e2
        cases e2
  · obtain ⟨o, h1, _⟩ := ha
    obtain ⟨e1, e2⟩ := tabH_some h1
    cases hF : F a with
    | none => rfl
    | some u =>
      have e3 := R.er.sf _ _ hF
      rw [e1] at e3
      cases e3
      rw [R.nt a _ hF] at e2
      cases e2
/-- back from a step that keeps the tables -/
theorem ERX.back (R : ERX K T F env σ H) (R' : ER K ⟨tabH H, none, fun _ => none⟩ F' env' σ' H') : ERX K T (noT F') env' σ' H' where
  er := ⟨(fun b o h => nomatch h), noT_same.trans R'.sf, R'.len, fun i s z => by
    obtain ⟨o, h1, h2⟩ := R'.slots i s z
    refine ⟨o, h1, ?_⟩
    cases s with
    | un => trivial
    | val d => obtain ⟨v, h3, h4⟩ := h2; exact ⟨v, h3, rep_noT _ _ h4⟩
    | own d => obtain ⟨a, ho, h3, h4, h5, h6, h7⟩ := h2; exact ⟨a, ho, h3, noT_none h4, rfl, h6, (own_noT h7).1⟩, R'.sep, (fun a h => nomatch h), (fun b o h => nomatch h), fun a _ ha => by
      obtain ⟨o, h1, _⟩ := ha
      cases h1⟩
  tb := Tabs.keep R.tb R'.sb
  nt := fun a o h => (noT_some h).2
theorem ERX.sameN (R : ERX K T F env σ H) (s : Same F F') : Same F (noT F') := fun a o h => noT_of (s a o h) (R.nt a o h)
/-- the tables have grown -/
theorem ERX.grown (R : ERX K T F env σ H) (e : ExtN H H') (t : Tabs T H') : ERX K T F env σ H' := by
  have kp : ∀ a o, H a = some o → isTbl o = false → H' a = some o := fun a o h n => e a o h fun ps z => by rw [z] at n; cases n
  refine ⟨⟨(fun b o h => nomatch h), fun a o h => kp a o (R.er.sf a o h) (R.nt a o h), R.er.len, fun i s z => ?_, R.er.sep, (fun a h => nomatch h), (fun b o h => nomatch h), fun a _ ha => ?_⟩, t, R.nt⟩
  · obtain ⟨o, h1, h2⟩ := R.er.slots i s z
    refine ⟨o, h1, ?_⟩
    cases s with
    | un => trivial
    | val d => exact h2
    | own d => obtain ⟨a, ho, h3, h4, h5, h6, h7⟩ := h2; exact ⟨a, ho, h3, h4, h5, kp a ho h6 (own_noT h7).2, h7⟩
  · obtain ⟨o, h1, _⟩ := ha
    cases h1
theorem ERX.to (R : ERX K T F env σ H) (g : Grow F H F' H') : ERX K T (noT F') env σ H' := by
  have R2 : ER K bx0 F' env σ H' := R.er.grow g.e g.sf g.sh g.hn
  refine ⟨⟨(fun b o h => nomatch h), noT_same.trans g.sf, R2.len, fun i s z => ?_, R2.sep, (fun a h => nomatch h), (fun b o h => nomatch h), fun a _ ha => ?_⟩, R.tb.ext g.sh, fun a o h => (noT_some h).2⟩
  · obtain ⟨o, h1, h2⟩ := R2.slots i s z
    refine ⟨o, h1, ?_⟩
    cases s with
    | un => trivial
    | val d => obtain ⟨v, h3, h4⟩ := h2; exact ⟨v, h3, rep_noT _ _ h4⟩
    | own d => obtain ⟨a, ho, h3, h4, h5, h6, h7⟩ := h2; exact ⟨a, ho, h3, noT_none h4, rfl, h6, (own_noT h7).1⟩
  · obtain ⟨o, h1, _⟩ := ha
    cases h1
end
/-! ### readings over such states -/
section
variable (K : PySem.W.Frag) (T : Tbs)
def upX (t : RE) : TE := fun σ H Q' => ∃ env F Q, ERX K T F env σ H ∧ t env Q ∧ ∀ d v env' F' H', Same F F' → ERX K T F' env' σ H' → Rep K F' d v → Q d env' → Q' v H'
def upXT (t : RB) : TT := fun σ H Q' => ∃ env F Q, ERX K T F env σ H ∧ t env Q ∧ ∀ b env' F' H', Same F F' → ERX K T F' env' σ H' → Q b env' → Q' b H'
def upXS (t : RS) : TS := fun Dn σ H => ∃ env F en, ERX K T F env σ H ∧ t en env ∧
  (∀ env' F' σ' H', Same F F' → ERX K T F' env' σ' H' → en.nx env' → Dn.nx σ' H') ∧
  (∀ d v env' F' σ' H', Same F F' → ERX K T F' env' σ' H' → Rep K F' d v → en.rt d env' → Dn.rt v H') ∧
  (∀ env' F' σ' H', Same F F' → ERX K T F' env' σ' H' → en.bk env' → Dn.bk σ' H') ∧
  (∀ env' F' σ' H', Same F F' → ERX K T F' env' σ' H' → en.ct env' → Dn.ct σ' H')
end
abbrev XE' (X : Cx) (T : Tbs) (e : Expr) (t : RE) : Prop := L2.PE X e (upX X.K T t)
abbrev XT' (X : Cx) (T : Tbs) (e : Expr) (t : RB) : Prop := L2.PT X e (upXT X.K T t)
abbrev XS' (X : Cx) (T : Tbs) (st : Stmt) (t : RS) : Prop := L2.PS X st (upXS X.K T t)
abbrev XSs' (X : Cx) (T : Tbs) (st : List Stmt) (t : RS) : Prop := L2.PSs X st (upXS X.K T t)
section
variable {X : Cx} {T : Tbs} {e a b : Expr} {st : Stmt} {sts : List Stmt} {te ta tb : RE} {tc : RB} {ts us : RS} {pos : Pos}
theorem x_e (h : ∀ B F0, QE X ⟨B, none, F0⟩ e te) : XE' X T e te := ⟨fun pins s σ H Q' I ⟨env, F, Q, R, ht, k⟩ => (h (tabH H) fun _ => none).run pins s σ H Q' I ⟨env, F, Q, R.into, ht, fun d v env' F' H' s' R' rd q => k d v env' (noT F') H' (R.sameN s') (R.back R') (rep_noT _ _ rd) q⟩⟩
theorem x_s (h : ∀ B F0, QS X ⟨B, none, F0⟩ st ts) : XS' X T st ts := ⟨fun pins s σ H Dn I ⟨env, F, en, R, ht, k1, k2, k3, k4⟩ => (h (tabH H) fun _ => none).run pins s σ H Dn I ⟨env, F, en, R.into, ht,
  fun env' F' σ' H' s' R' q => k1 env' (noT F') σ' H' (R.sameN s') (R.back R') q, fun d v env' F' σ' H' s' R' rd q => k2 d v env' (noT F') σ' H' (R.sameN s') (R.back R') (rep_noT _ _ rd) q,
  fun env' F' σ' H' s' R' q => k3 env' (noT F') σ' H' (R.sameN s') (R.back R') q, fun env' F' σ' H' s' R' q => k4 env' (noT F') σ' H' (R.sameN s') (R.back R') q⟩⟩
theorem xs_one (h : XS' X T st ts) : XSs' X T [st] ts := pss_one h
theorem xs_nil : XSs' X T [] sNil := pss_imp pss_nil fun Dn σ H ⟨env, F, en, R, ht, k, _⟩ => k env F σ H (Same.refl _) R ht
theorem xs_cons (h : XS' X T st ts) (g : XSs' X T sts us) : XSs' X T (st :: sts) (sSeq ts us) := pss_imp (pss_cons h g) fun Dn σ H ⟨env, F, en, R, ht, k1, k2, k3, k4⟩ =>
  ⟨env, F, _, R, ht, fun env' F' σ' H' s R' q => ⟨env', F', en, R', q, fun env2 F2 σ2 H2 s2 => k1 env2 F2 σ2 H2 (s.trans s2), fun d v env2 F2 σ2 H2 s2 => k2 d v env2 F2 σ2 H2 (s.trans s2), fun env2 F2 σ2 H2 s2 => k3 env2 F2 σ2 H2 (s.trans s2), fun env2 F2 σ2 H2 s2 => k4 env2 F2 σ2 H2 (s.trans s2)⟩, k2, k3, k4⟩
theorem x_ret (h : XE' X T e te) : XS' X T (.Return (some e) pos) (sRet te) := ps_imp (ps_ret h) fun Dn σ H ⟨env, F, en, R, ht, _, k, _⟩ => ⟨env, F, _, R, ht, fun d v env1 F1 H1 s1 R1 r1 q1 => k d v env1 F1 σ H1 s1 R1 r1 q1⟩
theorem x_if {c : Expr} {sa sb : List Stmt} (hc : XT' X T c tc) (ha : XSs' X T sa ts) (hb : XSs' X T sb us) : XS' X T (.If c sa sb pos) (sIf tc ts us) := ps_imp (ps_if hc ha hb) fun Dn σ H ⟨env, F, en, R, ht, k1, k2, k3, k4⟩ =>
  ⟨env, F, _, R, ht, fun b env1 F1 H1 s R1 q1 => by
    cases b with
    | true =>
      rw [if_pos rfl] at q1 ⊢
      exact ⟨env1, F1, en, R1, q1, fun env2 F2 σ2 H2 s2 => k1 env2 F2 σ2 H2 (s.trans s2), fun d v env2 F2 σ2 H2 s2 => k2 d v env2 F2 σ2 H2 (s.trans s2), fun env2 F2 σ2 H2 s2 => k3 env2 F2 σ2 H2 (s.trans s2), fun env2 F2 σ2 H2 s2 => k4 env2 F2 σ2 H2 (s.trans s2)⟩
    | false =>
      rw [if_neg Bool.false_ne_true] at q1 ⊢
      exact ⟨env1, F1, en, R1, q1, fun env2 F2 σ2 H2 s2 => k1 env2 F2 σ2 H2 (s.trans s2), fun d v env2 F2 σ2 H2 s2 => k2 d v env2 F2 σ2 H2 (s.trans s2), fun env2 F2 σ2 H2 s2 => k3 env2 F2 σ2 H2 (s.trans s2), fun env2 F2 σ2 H2 s2 => k4 env2 F2 σ2 H2 (s.trans s2)⟩⟩
theorem xop_up {r : V2} {σ : L2.St} {H : Hp} {Q' : VK} : upX X.K T (rOp r ta tb) σ H Q' → tOp (upV2 X.K r) (upX X.K T ta) (upX X.K T tb) σ H Q' := fun ⟨env, F, Q, R, ht, k⟩ =>
  ⟨env, F, _, R, ht, fun d v env1 F1 H1 s1 R1 r1 q1 => ⟨env1, F1, _, R1, q1, fun d2 w env2 F2 H2 s2 R2 r2 q2 => ⟨F2, d, d2, _, R2.er.sf, Rep.mono s2 _ _ r1, r2, q2, fun z u F3 H3 g r3 q3 =>
    k z u env2 (noT F3) H3 (R.sameN ((s1.trans s2).trans g.e)) (R2.to g) (rep_noT _ _ r3) q3⟩⟩⟩
theorem x_cmp {op : CmpOp} {r : V2} (ho : OpR X (compareOp op) (upV2 X.K r)) (ha : XE' X T a ta) (hb : XE' X T b tb) (hm : behindInMarks op b = false := by first | exact nomark _ | rfl) : XE' X T (.Compare a [op] [b] pos) (rOp r ta tb) :=
  pe_imp (pe_cmpR ho ha hb hm) fun _ _ _ => xop_up
theorem xt_cmp {op : CmpOp} {r : V2} (ho : OpR X (compareOp op) (upV2 X.K r)) (ha : XE' X T a ta) (hb : XE' X T b tb) (hm : behindInMarks op b = false := by first | exact nomark _ | rfl) : XT' X T (.Compare a [op] [b] pos) (rTst (rOp r ta tb)) :=
  pt_imp (pt_cmpR ho ha hb hm) fun σ H Q' ⟨env, F, Q, R, ht, k⟩ => xop_up ⟨env, F, _, R, ht, fun d v env1 F1 H1 s1 R1 r1 q1 => by
    cases d with
    | bl c => exact ⟨c, r1, k c env1 F1 H1 s1 R1 q1⟩
    | _ => exact q1.elim⟩
end
end QL
namespace QL
open PySem PySem.Spec PyProof.Rows L2 LamX
/-! ### a def that calls what it got -/
abbrev FL := ((D → Prop) → (D → Prop) → Prop) → (D → Prop) → Prop
def rDeed (f : Addr) (L : (D → Prop) → (D → Prop) → Prop) (EX : XD) : RE := fun env Q => env[0]? = some (.val (.raw (.ref f))) ∧ L (fun d => Q d env) fun ed => EX ed env
def TTq (K : PySem.W.Frag) (S : FL) : (XK → Hp → VK → Prop) → Hp → VK → Prop := fun tl H1 Q' => ∃ (F : Hp) (L : (D → Prop) → (D → Prop) → Prop) (Q : D → Prop), Same F H1 ∧ S L Q ∧
  (∀ (HZ FZ : Hp) (Qd Ed : D → Prop) (QZ : VK) (EZ : XK), Grow F H1 FZ HZ → L Qd Ed → (∀ d v F' H', Grow FZ HZ F' H' → Rep K F' d v → Qd d → QZ v H') → (∀ ed cls dx F' H', Grow FZ HZ F' H' → RepX K F' ed cls dx → Ed ed → EZ cls dx H') → tl EZ HZ QZ) ∧
  (∀ d v F' H', Grow F H1 F' H' → Rep K F' d v → Q d → Q' v H')
section
variable {X : Cx} {Ng : List Str} {x a q : Str} {sg : Scope} {g : Addr} {cdg : Value} {bg : List Stmt} {S : FL}
theorem fnF (hbody : ∀ (f : Addr) (s : Shared) (H F0 : Hp) (L : (D → Prop) → (D → Prop) → Prop),
    (∀ (bx : Bx) (EXb : XD) (pn : List (Addr × Obj)) (xe : Value → Shared → Prop) (p1 p2 : Pos), bx.B = H → Same F0 bx.F0 → (∀ b, F0 b = none → Hard H b → bx.F0 b = none) →
      Takes ((cxOf C8.CX0 X.prog X.w X.K X.mg X.base Ng x sg g cdg X.A X.stack s H C8.E0).nox.tr pn xe) (WEx X.K bx EXb) →
      QE ((cxOf C8.CX0 X.prog X.w X.K X.mg X.base Ng x sg g cdg X.A X.stack s H C8.E0).nox.tr pn xe) bx (.Call (.Name a p1) [] [] p2) (rDeed f L EXb)) →
    ∃ t, QSs (cxOf C8.CX0 X.prog X.w X.K X.mg X.base Ng x sg g cdg X.A X.stack s H C8.E0).nox ⟨H, none, F0⟩ bg t ∧ ∀ Q, S L Q → t { nx := fun _ => Q .non, rt := fun d _ => Q d } (envA Ng [.raw (.ref f)])) :
    GivesAt X Ng x sg g cdg bg a q (TTq X.K S) := by
  intro f c' s H Q' tl act hc ⟨F, L, Q, sm, hS, him, hfin⟩
  obtain ⟨t, ht, hq⟩ := hbody f s H F L fun bx EXb pn xe p1 p2 hB hF hn tk => by
    refine pe_imp (act pn xe (fun σ cls dx H' => WEx X.K bx EXb cls dx σ H') p1 p2 (tkE_of (X := (cxOf C8.CX0 X.prog X.w X.K X.mg X.base Ng x sg g cdg X.A X.stack s H C8.E0).nox.tr pn xe) tk)) fun σZ HZ QZ ⟨env, FZ, Qe, R, ⟨h0, hL⟩, k⟩ => ?_
    obtain ⟨o, h1, v, h2, h3⟩ := R.slots 0 _ h0
    have h3 : v = .ref f := h3
    have gr : Grow F H FZ HZ := ⟨hF.trans R.f0, R.sf, by rw [← hB]; exact R.sb, fun b z1 z2 => R.fz b (hn b z1 z2) (by rw [hB]; exact z2)⟩
    refine ⟨by rw [h1, h2, h3], ?_, him HZ FZ _ _ QZ _ gr hL (fun d v F' H' g' rd qd => k d v env F' H' g'.e (R.to g') rd qd) fun ed cls dx F' H' g' rx ex => ⟨env, F', ed, R.to g', rx, ex⟩⟩
    exact R.sb _ _ (by rw [hB]; exact hc)
  refine ⟨_, ht, envA Ng [.raw (.ref f)], F, _, er_start sm ⟨_, _, rfl, rfl, rfl⟩, hq Q hS, fun env' F' σ' H' s' R' z => hfin .non .non F' H' R'.grown rfl z, fun d v env' F' σ' H' s' R' rd z => hfin d v F' H' R'.grown rd z, fun _ _ _ _ _ _ z => z.elim, fun _ _ _ _ _ _ z => z.elim⟩
end
/-! ### x(lambda: body) -/
def hide : List Slot → List Slot
  | [] => []
  | .own _ :: r => .un :: hide r
  | s :: r => s :: hide r
theorem hide_len : ∀ env : List Slot, (hide env).length = env.length
  | [] => rfl
  | .own _ :: r => by rw [hide, List.length_cons, List.length_cons, hide_len r]
  | .un :: r => by rw [hide, List.length_cons, List.length_cons, hide_len r]; exact fun d z => nomatch z
  | .val d :: r => by rw [hide, List.length_cons, List.length_cons, hide_len r]; exact fun d z => nomatch z
theorem hide_get : ∀ {env : List Slot} {i : Nat} {s : Slot}, (hide env)[i]? = some s → s = .un ∨ ((∀ d, s ≠ .own d) ∧ env[i]? = some s)
  | [], i, s, h => by simp [hide] at h
  | .own d :: r, 0, s, h => by
    have h' : Slot.un = s := by simpa [hide] using h
    exact .inl h'.symm
  | .un :: r, 0, s, h => by
    have h' : Slot.un = s := by simpa [hide] using h
    exact .inl h'.symm
  | .val d :: r, 0, s, h => by
    have h' : Slot.val d = s := by simpa [hide] using h
    subst h'
    exact .inr ⟨(fun d z => nomatch z), rfl⟩
  | .own d :: r, i + 1, s, h => by
    rcases hide_get (env := r) (i := i) (s := s) (by simpa [hide] using h) with e | ⟨e1, e2⟩
    · exact .inl e
    · exact .inr ⟨e1, by simpa using e2⟩
  | .un :: r, i + 1, s, h => by
    rcases hide_get (env := r) (i := i) (s := s) (by simpa [hide] using h) with e | ⟨e1, e2⟩
    · exact .inl e
    · exact .inr ⟨e1, by simpa using e2⟩
  | .val d :: r, i + 1, s, h => by
    rcases hide_get (env := r) (i := i) (s := s) (by simpa [hide] using h) with e | ⟨e1, e2⟩
    · exact .inl e
    · exact .inr ⟨e1, by simpa using e2⟩
theorem ER.hide {K : PySem.W.Frag} {bx : Bx} {F FZ H HZ : Hp} {env : List Slot} {σ : L2.St} (R : ER K bx F env σ H) (s1 : Same F FZ) (s2 : Same FZ HZ) : ER K ⟨HZ, none, FZ⟩ FZ (QL.hide env) σ HZ := by
  refine ⟨Same.refl _, s2, by rw [hide_len]; exact R.len, fun i s z => ?_, fun i j d e a h1 _ _ _ => ?_, (fun a h => nomatch h), Same.refl _, fun a h _ => h⟩
  · rcases hide_get z with rfl | ⟨n, z⟩
    · have hl : i < (QL.hide env).length := (List.getElem?_eq_some_iff.mp z).1
      rw [hide_len, R.len] at hl
      exact ⟨_, List.getElem?_eq_getElem hl, trivial⟩
    · obtain ⟨o, h1, h2⟩ := R.slots i s z
      refine ⟨o, h1, ?_⟩
      cases s with
      | un => trivial
      | val d => obtain ⟨v, h3, h4⟩ := h2; exact ⟨v, h3, Rep.mono s1 _ _ h4⟩
      | own d => exact absurd rfl (n d)
  · rcases hide_get h1 with z | ⟨n, _⟩
    · cases z
    · exact absurd rfl (n d)
def rLam (S : FL) (tl : XD → RE) : RE := fun env Q => S (fun Qd Ed => tl (fun ed _ => Ed ed) (hide env) fun d _ => Qd d) fun d => Q d env
section
variable {X : Cx}
theorem x_lam {T : Tbs} {S : FL} {x a : Str} {g c P : Addr} {k : Nat} {pg : Arguments} {bg : List Stmt} {sg : Scope} {dV kV doc pm cdv ct oc : Value} {an od : Option Addr} {osl : Array (Option Value)} {Ng : List Str}
    {params : Arguments} {body : Expr} {scope : Scope} {tl : XD → RE} {p lpos pos : Pos} (hg : Gl X x) (hm : X.mg x = some (.ref g)) (hk : PySem.W.keepIn X.K (.ref g) = true)
    (lk : X.K.lookup g = some ⟨oc, od, .func (PySem.W.fnOf x x pg bg sg dV kV doc pm an cdv ct), osl⟩) (hcg : PySem.W.codeIn X.K cdv x = true) (hb : L2.Binds X.K (PySem.W.fnOf x x pg bg sg dV kV doc pm an cdv ct) [a] []) (Sg : FnScope Ng [a] sg) (hNg : Ng[0]? = some a) (hva : Vis sg a)
    (hG : GivesAt X Ng x sg g cdv bg a (X.env.qual ++ "<lambda>") (TTq X.K S))
    (TB : TabB X.base X.mg c P) (hcode : X.env.code = .ref c) (hmT : (P, X.env.qual ++ "<lambda>") ∈ T) (hu : ∀ p ∈ T, p.1 = P → p.2 = X.env.qual ++ "<lambda>") (hr : Room (k + 2) X.A) (L : LamS X.env.scope scope) (hdef : defaultsOf params X.env = ([], []))
    (hbind : ∀ (q : Str) (cl : List (Str × Addr)) (pm cv ctv : Value), bindArgs (PySem.W.kla_fn "<lambda>" q params body scope cl pm cv ctv) ⟨[], []⟩ = pure [])
    (hbody : ∀ (B F0 : Hp) (EX : XD) (A : Around) (outer : List Env) (s : Shared) (H : Hp) (E : XK) (f c' : Addr), Room k (A.deeper (lamEnv X scope s.heap.objs.size f c')) → Takes (lamCx X A outer s H E scope f c') (WEx X.K ⟨B, none, F0⟩ EX) → QE (lamCx X A outer s H E scope f c') ⟨B, none, F0⟩ body (tl EX))
    (hdb : (x == ("__debug__" : Str)) = false := by decide) (hd : (a == ("__debug__" : Str)) = false := by decide) (hcd : (a == ("__classdict__" : Str)) = false := by decide) :
    XE' X T (.Call (.Name x p) [.Lambda params body scope lpos] [] pos) (rLam S tl) := by
  refine pe_imp (lam_call (T := T) (t := fun E σ HZ QZ => ∃ B F0 EX, (∀ cls dx σ' H', WEx X.K ⟨B, none, F0⟩ EX cls dx σ' H' → E cls dx H') ∧ up X.K ⟨B, none, F0⟩ (tl EX) σ HZ QZ) hg hm hk lk hcg hb Sg hNg hva hG TB hcode hmT hu hr L hdef hbind
    (fun A outer s H E f c' hr' => ⟨fun pins s' σ HZ QZ I ⟨B, F0, EX, im, u⟩ => (hbody B F0 EX A outer s H E f c' hr' ((takes_of rfl rfl rfl rfl : Takes (lamCx X A outer s H E scope f c') (fun cls d _ H => E cls d H)).imp fun cls d σ' H' w => im cls d σ' H' w)).run pins s' σ HZ QZ I u⟩) hdb hd hcd)
    fun σ H Q' ⟨env, F, Q, R, ht, k⟩ => ⟨R.tb, fun H1 eN T1 => ?_⟩
  have R1 := R.grown eN T1
  refine ⟨F, fun Qd Ed => tl (fun ed _ => Ed ed) (hide env) fun d _ => Qd d, fun d => Q d env, R1.er.sf, ht, fun HZ FZ Qd Ed QZ EZ gr hL kq ke => ?_, fun d v F' H' gr rd q => k d v env (noT F') H' (R1.sameN gr.e) (R1.to gr) (rep_noT _ _ rd) q⟩
  refine ⟨HZ, FZ, fun ed _ => Ed ed, fun cls dx σ' H' ⟨env2, F2, ed, R2, rx, ex⟩ => ke ed cls dx F2 H' R2.grown rx ex, hide env, FZ, _, R1.er.hide gr.e gr.sf, hL, fun d v env2 F2 H2 s2 R2 rd q => kq d v F2 H2 R2.grown rd q⟩
end
/-! ### step by step -/
section
variable {env : List Slot} {Q : D → List Slot → Prop} {f : Addr} {L : (D → Prop) → (D → Prop) → Prop} {EX : XD} {S : FL} {tl : XD → RE} {d : D} {s : Slot}
theorem e_deed : rDeed f L EX (.val (.raw (.ref f)) :: env) Q = L (fun d => Q d (.val (.raw (.ref f)) :: env)) fun ed => EX ed (.val (.raw (.ref f)) :: env) := propext ⟨fun h => h.2, fun h => ⟨rfl, h⟩⟩
theorem e_hide : ∀ {env : List Slot} {i : Nat} {P : D → Prop}, valQ (getS (hide env) i) P = valQ (getS env i) P
  | [], _, _ => rfl
  | s :: r, 0, P => by cases s <;> rfl
  | s :: r, i + 1, P => by
    have h : valQ (getS (hide r) i) P = valQ (getS r i) P := e_hide
    cases s <;> exact h
theorem e_lam : rLam S tl env Q = S (fun Qd Ed => tl (fun ed _ => Ed ed) (hide env) fun d _ => Qd d) fun d => Q d env := rfl
theorem e_hideN : hide [] = [] := rfl
theorem e_hideO : hide (.own d :: env) = .un :: hide env := rfl
theorem e_hideV : hide (.val d :: env) = .val d :: hide env := rfl
theorem e_hideU : hide (.un :: env) = .un :: hide env := rfl
end
end QL
set_option Elab.async false
set_option linter.all false
set_option maxRecDepth 100000
set_option maxHeartbeats 4000000
/-! ### max(list of pairs of ints); a list of ints in a list of lists of ints -/
namespace S5
open PySem PyProof.Rows S4
variable {prog : Program} {w : World} {A : Around} {R : Result → Shared → Prop} {I : Addr} {fp wr : List Addr} {n : Nat} {P : Nat → Value → Prop} {St : Nat → Heap → Prop} {H0 : Heap}
abbrev mnBox (v : Array Value) (c : Nat) : Obj := { cls := .type "list", dict := none, data := .seq v c, slots := #[] }
abbrev mnArgs (I S : Addr) : Args := ⟨[.ref I, .none, .ref S], []⟩
end S5
namespace L2
open PySem PySem.Spec PyProof.Rows
def rMaxDuo (K : PySem.W.Frag) : List V → Hp → VK → Prop := fun vs H Q => ∃ (a : Addr) (xs : List V) (k : V → Int × Int), vs = [V.ref a] ∧ SqL K H a xs ∧ 0 < xs.length ∧ (∀ x ∈ xs, ∃ t, x = V.ref t ∧ H t = some (.tup [.int (k x).1, .int (k x).2])) ∧
  ∀ y ∈ xs, (∀ x ∈ xs, SrtO.lexB (k y) (k x) = false) → Q y H
section
variable {X : Cx}
end
end L2
namespace QL
open PySem PySem.Spec PyProof.Rows L2
def vMax2 : VL
  | [.lst xs], Q => ∃ ks : List (Int × Int), xs = ks.map duoD ∧ ks ≠ [] ∧ ∀ p ∈ ks, (∀ q ∈ ks, SrtO.lexB p q = false) → Q (duoD p)
  | _, _ => False
section
variable {X : Cx}
end
theorem o_max2 {xs : List D} {P : D → Prop} : vMax2 [.lst xs] P = ∃ ks : List (Int × Int), xs = ks.map duoD ∧ ks ≠ [] ∧ ∀ p ∈ ks, (∀ q ∈ ks, SrtO.lexB p q = false) → P (duoD p) := rfl
/-! ### [x, y] in a list of lists of two ints -/
def lduoD (k : Int × Int) : D := .lst [.int k.1, .int k.2]
def vInL : V2
  | .lst [.int x, .int y], .lst xs, Q => ∃ ks : List (Int × Int), xs = ks.map lduoD ∧ Q (.bl (decide ((x, y) ∈ ks)))
  | _, _, _ => False
section
variable {X : Cx}
end
theorem o_inL {x y : Int} {xs : List D} {P : D → Prop} : vInL (.lst [.int x, .int y]) (.lst xs) P = ∃ ks : List (Int × Int), xs = ks.map lduoD ∧ P (.bl (decide ((x, y) ∈ ks))) := rfl
end QL
set_option Elab.async false
set_option linter.all false
set_option maxRecDepth 100000
set_option maxHeartbeats 4000000
namespace QL
open PySem PySem.Spec PyProof.Rows L2 LamX
/-! ### a law that makes lambdas -/
def spX (K : PySem.W.Frag) (T : Tbs) : Sp := fun vs H Q' _ => ∃ (a : Addr) (ns : List Int), vs = [V.ref a] ∧ SqL K H a (ns.map V.int) ∧ ns.length ≤ 63 ∧ Tabs T H ∧ ∀ H', Q' (.bl true) H'
section
variable {P : Program} {w : World} {K : PySem.W.Frag} {mg : Str → Option Value} {base : Heap}
theorem fnX {x qual : Str} {st : Stmt} {f c : Addr} {N : List Str} {sc : Str} {k : Nat} {T : Tbs} {kV doc pm ct oc : Value} {an od : Option Addr} {osl : Array (Option Value)}
    (lk : K.lookup f = some ⟨oc, od, .func (PySem.W.fnOf x qual (defArgs st) (defBody st) (defScope st) .none kV doc pm an (.ref c) ct), osl⟩) (hcd : PySem.W.codeIn K (.ref c) qual = true) (Sc : FnScope N [sc] (defScope st))
    (hbody : ∀ (A : Around) (outer : List Env) (s : Shared) (H : Hp) (E : XK), Room k (A.deeper (envOfC qual (defScope st) s.heap.objs.size f (.ref c))) →
      ∃ t, XSs' (cxOf (L2.CX P w) P w K mg base N qual (defScope st) f (.ref c) A outer s H E) T (defBody st) t ∧ ∀ ns, ns.length ≤ 63 → t { nx := fun _ => False, rt := fun d _ => d = .bl true } (envA N [.scr ns])) :
    FnOk P w K mg base (L2.CX P w) (k + 1) f (PySem.W.fnOf x qual (defArgs st) (defBody st) (defScope st) .none kV doc pm an (.ref c) ct) [sc] (spX K T) := by
  refine fn_of lk hcd Sc (fun vs H Q E ⟨a, ns, e, _⟩ => by rw [e]; rfl) fun A outer s H vs Q' E' hr ⟨a, ns, e, hS, hl, hT, q⟩ => ?_
  subst e
  obtain ⟨t, ht, hq⟩ := hbody A outer s H E' hr
  have R0 := er_start (N := N) (F := noT H) (H := H) (K := K) (ds := [.scr ns]) (vs := [.ref a]) noT_same ⟨_, _, rfl, ⟨a, rfl, sqL_noT hS⟩, rfl⟩
  have no : ∀ (i : Nat) (d : D), (envA N [.scr ns])[i]? ≠ some (.own d) := fun i d z => by
    unfold envA at z
    by_cases hi : i < 1
    · have : i = 0 := by omega
      subst this
      cases z
    · rw [List.getElem?_append_right (by show 1 ≤ i; omega), List.getElem?_replicate] at z
      split at z <;> cases z
  refine ⟨_, ht, envA N [.scr ns], noT H, _, ⟨⟨(fun b o h => nomatch h), noT_same, R0.len, fun i s' z => ?_, R0.sep, (fun a h => nomatch h), (fun b o h => nomatch h), fun b _ hb => by obtain ⟨o, h1, _⟩ := hb; cases h1⟩, hT, fun b o h => (noT_some h).2⟩,
    hq ns hl, fun _ _ _ _ _ _ z => z.elim, fun d v env' F' σ' H' s' R' rd z => ?_, fun _ _ _ _ _ _ z => z.elim, fun _ _ _ _ _ _ z => z.elim⟩
  · obtain ⟨o, h1, h2⟩ := R0.slots i s' z
    refine ⟨o, h1, ?_⟩
    cases s' with
    | un => trivial
    | val d => exact h2
    | own d => exact absurd z (no i d)
  · have z' : d = .bl true := z
    subst z'
    obtain rfl : v = .bl true := rd
    exact q H'
end
/-- what the facts give of the law -/
theorem lawX {l : PySem.W.OpenLaw} {w : World} {K : PySem.W.Frag} {mg : Str → Option Value} {fa c Pt : Addr} {h : Heap} {k : Nat} {x qual sc : Str} {st : Stmt} {kV doc pm ct oc ec : Value} {an od dc : Option Addr} {osl slc : Array (Option Value)} {vs : Array Value} {T : Tbs}
    (KX : K.In h) (own : OwnTab K fa h)
    (lk : K.lookup fa = some ⟨oc, od, .func (PySem.W.fnOf x qual (defArgs st) (defBody st) (defScope st) .none kV doc pm an (.ref c) ct), osl⟩)
    (lc : K.lookup c = some ⟨ec, dc, .fields vs, slc⟩) (h11 : vs[11]? = some (.ref Pt)) (hcd : PySem.W.codeHdIn K c Pt = true) (nT : K.lookup Pt = none) (hT : ∀ p ∈ T, p.1 = Pt)
    (hb : ∀ (s : Shared) (u : Value), BindsTo s (PySem.W.fnOf x qual (defArgs st) (defBody st) (defScope st) .none kV doc pm an (.ref c) ct) ⟨[u], []⟩ [(sc, u)])
    (F : ∀ base : Heap, K.In base → base.Ns mainGlobals mg → TabB base mg c Pt → FnOk l.prog w K mg base (L2.CX l.prog w) k fa (PySem.W.fnOf x qual (defArgs st) (defBody st) (defScope st) .none kV doc pm an (.ref c) ct) [sc] (spX K T)) :
    LawAtS l w K (L2.CX l.prog w) k 63 sc mg fa h := by
  have e := own c Pt _ _ ec dc vs slc lk rfl rfl lc h11
  refine ⟨_, [(c, Pt)], spX K T, fun p hp => ?_, fun p hp => ?_, fun p hp => ?_, hb, fun H a ns hl _ ht hS => ⟨a, ns, rfl, hS, hl, fun p hp => ?_, fun _ => rfl⟩, fun base KB NB TB => F base KB NB (TB (c, Pt) (List.mem_singleton.mpr rfl))⟩
  · rw [List.mem_singleton.mp hp]; exact e
  · rw [List.mem_singleton.mp hp]; exact nT
  · rw [List.mem_singleton.mp hp]; exact PySem.W.codeHd_of_K KX hcd
  · have := ht (c, Pt) (List.mem_singleton.mpr rfl)
    exact TabS.nil (by rw [hT p hp]; exact this)
end QL
namespace QL
open PySem PySem.Spec PyProof.Rows L2 LamX
theorem tk0 {X : Cx} {bx : Bx} : Takes X (WEx X.K bx EX0) := L2.takes0.imp fun _ _ _ _ ⟨_, _, _, _, _, z⟩ => z.elim
/-- the tables of a law that makes lambdas -/
abbrev tbs (x : Str) (sc : Scope) (P : Addr) : Tbs := [(P, (envOfC x sc 0 0 .none).qual ++ "<lambda>")]
end QL
set_option Elab.async false
set_option linter.all false
set_option maxRecDepth 100000
set_option maxHeartbeats 4000000
namespace QL
open PySem PySem.Spec PyProof.Rows L2
section
variable {X : Cx}
/-! ### % by what is not 0 -/
def vModN : V2
  | .int i, .int j, Q => j ≠ 0 ∧ Q (.int (i.fmod j))
  | _, _, _ => False
end
/-! ### a comprehension over a written-out row -/
theorem lcR_cons {g : RG} {te : RE} {is : List Nat} {x : D} {xs acc : List D} {env : List Slot} {Q : List D → List Slot → Prop} (h : g x env fun env1 => te env1 fun d env3 => acc.length < sizeLine ∧ lcR g rYes te is xs (acc ++ [d]) (wipeE is env3) Q) : lcR g rYes te is (x :: xs) acc env Q := h
theorem lcR_nil {g : RG} {tt : RB} {te : RE} {is : List Nat} {acc : List D} {env : List Slot} {Q : List D → List Slot → Prop} (h : Q acc env) : lcR g tt te is [] acc env Q := h
section
variable {a b : Int} {P : D → Prop}
theorem o_modN : vModN (.int a) (.int b) P = (b ≠ 0 ∧ P (.int (a.fmod b))) := rfl
end
end QL
set_option Elab.async false
set_option linter.all false
set_option maxRecDepth 100000
set_option maxHeartbeats 4000000
namespace GQ
open PySem PySem.SeqAt
open AutoSeq1 (wpAny_loadPart')
open MeetsSeq MeetsSeq2 MeetsSeq3 SeqRoads2
section
variable {prog : Program} {w : World} {A : Around} {R : Result → Shared → Prop}
/-- == of two tuples of one length, item by item, whatever it answers -/
theorem tuple_eqB (l b : Addr) (items items2 : Array Value) (n n2 : Nat) (dd dd2 : Option Addr) (sl sl2 : Array (Option Value)) (I : Nat → Shared → Prop)
    (turn : ∀ i (h1 : i < items.size) (h2 : i < items2.size) s, I i s → wpAny (model prog w) A.in1 (eqBool items[i] items2[i]) (fun r s' => (r = true ∧ I (i + 1) s') ∨ (r = false ∧ R (.ok (.ret (.bool false))) s')) (fun e s' => R (.error e) s') s)
    (fin : ∀ s, I (min items.size items2.size) s → R (.ok (.ret (.bool (items.size == items2.size)))) s) {s : Shared} (hl1 : s.heap.get? l = some { cls := .type "tuple", dict := dd, data := .seq items n, slots := sl }) (hb1 : s.heap.get? b = some { cls := .type "tuple", dict := dd2, data := .seq items2 n2, slots := sl2 }) (h : I 0 s) :
    wpAny (model prog w) A.in1 (Builtin.«tuple.__eq__» ⟨[.ref l, .ref b], []⟩) (FinOf prog w A R) (fun e s' => R (.error e) s') s := by
  have f2 := AutoSeq1.sub_tuple_tuple
  have hZ : (items.toList.zip items2.toList).length = min items.size items2.size := by simp
  have h0 := h
  obtain ⟨hp, g, d, tk, os⟩ := s
  wp_walk using wpAny_loadPart' hl1, wpAny_loadPart' hb1, wpAny_forIn_list _ (fun rest b s' => b.1 = none ∧ ∃ i, rest = (items.toList.zip items2.toList).drop i ∧ i ≤ min items.size items2.size ∧ I i s') _
  case turn =>
    rintro ⟨y, x⟩ rest b s' ⟨hb', i, hz, hi, hI⟩
    have hlt : i < (items.toList.zip items2.toList).length := by
      rcases Nat.lt_or_ge i (items.toList.zip items2.toList).length with h' | h'
      · exact h'
      · rw [List.drop_of_length_le h'] at hz; cases hz
    have h3 : i < min items.size items2.size := hZ ▸ hlt
    have h1 : i < items.size := by omega
    have h2 : i < items2.size := by omega
    rw [List.drop_eq_getElem_cons hlt] at hz
    injection hz with hyx hrest
    have hy : y = items[i] := by have := congrArg Prod.fst hyx; simpa using this
    have hx : x = items2[i] := by have := congrArg Prod.snd hyx; simpa using this
    subst hy hx
    refine wpAny_bind (wpAny_mono (turn i h1 h2 s' hI) (fun r s2 q2 => ?_) fun _ _ x => x)
    rcases q2 with ⟨hr, q2⟩ | ⟨hr, q2⟩
    · subst hr
      wp_walk
      exact ⟨rfl, i + 1, hrest, by omega, q2⟩
    · subst hr
      wp_walk
      exact q2
  case fin =>
    rintro ⟨b1, b2⟩ s' ⟨hb', i, hz, hi, hI⟩
    simp only at hb'
    subst hb'
    have hge : min items.size items2.size ≤ i := by
      rcases Nat.lt_or_ge i (items.toList.zip items2.toList).length with h' | h'
      · rw [List.drop_eq_getElem_cons h'] at hz; cases hz
      · exact hZ ▸ h'
    have hi' : i = min items.size items2.size := by omega
    have hR : R (.ok (.ret (.bool (items.size == items2.size)))) s' := fin s' (hi' ▸ hI)
    wp_walk
    simpa [Builtin.Tuple.tupleCompareSizes] using hR
  case h =>
    exact ⟨rfl, 0, rfl, Nat.zero_le _, h0⟩
end
section
variable {prog : Program} {w : World} {A : Around} {E : Value → Shared → Prop} {s : Shared}
theorem rc_tupB {l b : Addr} {items items2 : Array Value} {Q : Value → Shared → Prop} (hu : A.units < cLine) (I : Nat → Shared → Prop)
    (hl : s.heap.IsTuple l items) (hb : s.heap.IsTuple b items2)
    (turn : ∀ i (h1 : i < items.size) (h2 : i < items2.size) s, I i s → wpAny (model prog w) A.in1 (eqBool items[i] items2[i]) (fun r s' => (r = true ∧ I (i + 1) s') ∨ (r = false ∧ Q (.bool false) s')) E s)
    (fin : ∀ s, I (min items.size items2.size) s → Q (.bool (items.size == items2.size)) s) (h : I 0 s) : wpAny (model prog w) A (richCompare .Eq (.ref l) (.ref b)) Q E s := by
  obtain ⟨⟨cls, dd, data, sl⟩, ho, hc, n, hd⟩ := id hl
  obtain ⟨⟨cls2, dd2, data2, sl2⟩, ho2, hc2, n2, hd2⟩ := id hb
  simp only at hc hd hc2 hd2
  subst hc hd hc2 hd2
  refine wpAny_richCompare_same_room (op := .Eq) ⟨_, ho, rfl⟩ ⟨_, ho2, rfl⟩ F.slot_tuple_eq (call_here F.slot_tuple_eq ⟨_, ho, rfl⟩ F.entry_tuple_eq (F.args_tuple_eq_2 _ _) ?_) hu
  exact tuple_eqB (R := wants (fun v s' => v ≠ .notImplemented ∧ Q v s') E) l b items items2 n n2 dd dd2 sl sl2 I (fun i h1 h2 s' hi => wpAny_mono (turn i h1 h2 s' hi) (fun r s2 q => q.imp id fun ⟨e, q⟩ => ⟨e, (fun x => nomatch x), q⟩) fun _ _ x => x) (fun s' q => ⟨(fun x => nomatch x), fin s' q⟩) ho ho2 h
end
end GQ
namespace QL
open PySem PySem.Spec PyProof.Rows L2
/-- == of items: what it may answer -/
abbrev IW := D → D → (Bool → Prop) → Prop
/-- an item == another, inside a tuple -/
def ItemOK (X : Cx) (n : Nat) (W : IW) : Prop :=
  ∀ (A : Around) (pins : List (Addr × Obj)) (s : Shared) (σ : L2.St) (F H : Hp) (d e : D) (x y : V) (u v : Value) (P : Bool → Prop), L2.Sub X n A → Inv X pins σ H s → Same F H → Rep X.K F d x → Rep X.K F e y → RelV x u → RelV y v → W d e P →
    wpAny (model X.prog X.w) A (eqBool u v) (fun r s' => ∃ F' H', Inv X pins σ H' s' ∧ Grow F H F' H' ∧ P r) X.xe s
def orW (W W' : IW) : IW := fun d e P => W d e P ∨ W' d e P
/-- plain data -/
def plW : IW := vEqP
/-- objects of a class with an own == -/
def obW (K : PySem.W.Frag) (C : Addr) (S : FA) : IW := fun d e P => match d, e with
  | .obj C' ns xs, .obj C'' ns' xs' => C' = C ∧ (∃ t, TyD K (.obj C'' ns' xs') t ∧ PySem.W.notFirst K C t = true) ∧ ((∃ F v, Rep K F (.obj C' ns xs) v ∧ Rep K F (.obj C'' ns' xs') v) → P true) ∧ S [.obj C' ns xs, .obj C'' ns' xs'] (fun z => match z with | .bl b => P b | _ => False) fun _ => False
  | _, _ => False
/-- item by item -/
def seqW (W : IW) : List D → List D → (Bool → Prop) → Prop
  | [], [], P => P true
  | x :: xs, y :: ys, P => W x y fun b => if b = true then seqW W xs ys P else P false
  | [], _ :: _, P => P false
  | _ :: _, [], P => P false
/-- tuples -/
def tuW (K : PySem.W.Frag) (W : IW) : IW := fun d e P => match d, e with
  | .tup xs, .tup ys => ((∃ F v, Rep K F (.tup xs) v ∧ Rep K F (.tup ys) v) → P true) ∧ seqW W xs ys P
  | _, _ => False
def vEqT (W : IW) : V2 := fun d e Q => match d, e with
  | .tup xs, .tup ys => seqW W xs ys fun b => Q (.bl b)
  | _, _ => False
section
variable {X : Cx} {n m : Nat} {W W' : IW}
theorem ItemOK.mono (h : ItemOK X n W) (k : n ≤ m) : ItemOK X m W := fun A pins s σ F H d e x y u v P sb => h A pins s σ F H d e x y u v P (sb.mono k)
theorem ItemOK.or (h : ItemOK X n W) (h' : ItemOK X n W') : ItemOK X n (orW W W') := fun A pins s σ F H d e x y u v P sb I sm r1 r2 rx ry w => by
  rcases w with w | w
  · exact h A pins s σ F H d e x y u v P sb I sm r1 r2 rx ry w
  · exact h' A pins s σ F H d e x y u v P sb I sm r1 r2 rx ry w
theorem item_pl : ItemOK X 0 plW := fun A pins s σ F H d e x y u v P sb I sm r1 r2 rx ry ⟨o1, o2, s1, s2, q⟩ => by
  obtain ⟨as, k1⟩ := Dp.reads I _ x u (dp_of sm _ _ o1 r1) rx
  obtain ⟨bs, k2⟩ := Dp.reads I _ y v (dp_of sm _ _ o2 r2) ry
  exact SeqAt.eqAt_reads _ _ A s u v as bs k1 k2 (by unfold SeqAt.shaped at s1; rw [Bool.and_eq_true] at s1; exact s1.1) (by unfold SeqAt.shaped at s2; rw [Bool.and_eq_true] at s2; exact s2.1) (SeqAt.room_of_shaped s1 sb.room.units) X.prog X.w X.xe _ ⟨F, H, I, Grow.refl sm, q⟩
theorem item_ob {k : Nat} {C f : Addr} {fd : FuncData} {ps : List Str} {S : FA} (Fn : FnOk X.prog X.w X.K X.mg X.base (L2.CX X.prog X.w) k f fd ps (spA X.K 2 S)) (hb : Binds X.K fd ps []) (c : EqC X.K C f) : ItemOK X k (obW X.K C S) := by
  intro A pins s σ F H d e x y u v P sb I sm r1 r2 rx ry h
  unfold obW at h
  split at h
  · rename_i C' ns xs C'' ns' xs'
    obtain ⟨rfl, ⟨t, ht, hn⟩, hsame, hS⟩ := h
    have r1' := r1
    have r2' := r2
    obtain ⟨a, dx, fs, rfl, h2, _⟩ := r1'
    obtain ⟨a2, dx2, fs2, rfl, h22, _⟩ := r2'
    have ry' := ry
    cases rx
    cases ry
    by_cases hv : a = a2
    · subst hv
      exact SeqAt.EqAt.same (A := A) (s := s) (.ref a) X.prog X.w X.xe _ ⟨F, H, I, Grow.refl sm, hsame ⟨F, _, r1, r2⟩⟩
    obtain ⟨mA, J, _⟩ := ins_get I.hok (sm _ _ h2)
    obtain ⟨od, J, _⟩ := J.look
    obtain ⟨P', kt, hP, _⟩ := kit_of I ry' (tyd_of sm ht r2)
    obtain ⟨m, hF⟩ := I.fr
    have e0 : Env0 X.prog X.w X.K X.mg X.base A X.stack s H := by
      have e := I.env0
      exact ⟨by rw [sb.fr]; exact e.frames, e.mod, e.bs, e.bsz, e.funs, e.frf, e.hok, e.bare⟩
    refine GQ.eqBool_refG hv ?_
    refine PySem.W.cmp_K (op := .Eq) (tb := t) sb.room.units0 hF I.ok.mod.kin J (kt.ty _ _ I.kIn hP) hn c.eq c.fn ?_
    have hsp : spA X.K 2 S [.ref a, .ref a2] H (fun z H' => ∃ b F', z = .bl b ∧ Grow F H F' H' ∧ P b) (fun _ _ _ => False) := ⟨F, [.obj C' ns xs, .obj C'' ns' xs'], _, fun _ => False, rfl, sm, ⟨_, _, rfl, r1, _, _, rfl, r2, rfl⟩, hS, fun z w F' H' gr rz q => by
      cases z with
      | bl b => exact ⟨b, F', rz, gr, q⟩
      | _ => exact q.elim, fun _ _ _ _ _ _ _ z => z.elim⟩
    have hl := Fn.len _ _ _ _ hsp
    have rr : Vals [V.ref a, V.ref a2] [Value.ref a, Value.ref a2] := .cons rfl (.cons rfl .nil)
    refine wpAny_call (codeAny_mono (Fn.run A X.stack s H ⟨[.ref a, .ref a2], []⟩ [.ref a, .ref a2] [.ref a, .ref a2] _ _ sb.room e0 (by
      have := hb s [.ref a, .ref a2] I.kIn (by simpa using hl)
      simpa using this) rr hsp) fun r s' hq => ?_)
    cases r with
    | error e => exact no_pass pins σ H s e s' I hq
    | ok fl =>
      cases fl with
      | ret w =>
        obtain ⟨z, H', I', rz, b, F', ez, gr, q⟩ := I.after hq
        subst ez
        cases rz
        exact ⟨b, rfl, F', H', I', gr, q⟩
      | next => exact False.elim hq
      | brk => exact False.elim hq
      | cont => exact False.elim hq
  · exact h.elim
/-- the rich comparison of two tuples, by their items -/
theorem rc_seq (hW : ItemOK X n W) {A : Around} {pins : List (Addr × Obj)} {s : Shared} {σ : L2.St} {F H : Hp} {xs ys : List D} {a b : Addr} {P : Bool → Prop} (sb : L2.Sub X (n + 1) A) (I : Inv X pins σ H s) (sm : Same F H) (r1 : Rep X.K F (.tup xs) (.ref a)) (r2 : Rep X.K F (.tup ys) (.ref b)) (h : seqW W xs ys P) :
    wpAny (model X.prog X.w) A (richCompare .Eq (.ref a) (.ref b)) (fun r s' => ∃ k, r = .bool k ∧ ∃ F' H', Inv X pins σ H' s' ∧ Grow F H F' H' ∧ P k) X.xe s := by
  obtain ⟨a', vs, e1, h1, q1⟩ := r1
  obtain ⟨b', ws, e2, h2, q2⟩ := r2
  cases e1
  cases e2
  obtain ⟨its, k1, z1, _⟩ := I.tuple (sqt_of sm h1)
  obtain ⟨its2, k2, z2, _⟩ := I.tuple (sqt_of sm h2)
  have lx : xs.length = its.length := by rw [q1.length, k1.length]
  have ly : ys.length = its2.length := by rw [q2.length, k2.length]
  refine GQ.rc_tupB sb.room.units0 (fun i s' => ∃ F' H', Inv X pins σ H' s' ∧ Grow F H F' H' ∧ seqW W (xs.drop i) (ys.drop i) P) z1 z2 (fun i i1 i2 s' hi => ?_) (fun s' hi => ?_) ⟨F, H, I, Grow.refl sm, h⟩
  · obtain ⟨F1, H1, I1, g1, h⟩ := hi
    have j1 : i < its.length := by simpa using i1
    have j2 : i < its2.length := by simpa using i2
    have jx : i < xs.length := by omega
    have jy : i < ys.length := by omega
    rw [List.drop_eq_getElem_cons jx, List.drop_eq_getElem_cons jy] at h
    obtain ⟨v, hv, rv⟩ := q1.get (List.getElem?_eq_getElem jx)
    obtain ⟨w, hw, rw_⟩ := q2.get (List.getElem?_eq_getElem jy)
    obtain ⟨u1, hu1, ru1⟩ := k1.get hv
    obtain ⟨u2, hu2, ru2⟩ := k2.get hw
    have e1 : its.toArray[i] = u1 := by
      rw [List.getElem?_eq_getElem j1] at hu1
      simpa using Option.some.inj hu1
    have e2 : its2.toArray[i] = u2 := by
      rw [List.getElem?_eq_getElem j2] at hu2
      simpa using Option.some.inj hu2
    rw [e1, e2]
    refine wpAny_mono (hW A.in1 pins s' σ F1 H1 _ _ v w u1 u2 _ sb.in1 I1 g1.sf (Rep.mono g1.e _ _ rv) (Rep.mono g1.e _ _ rw_) ru1 ru2 h) (fun r s2 q => ?_) fun _ _ x => x
    obtain ⟨F2, H2, I2, g2, q⟩ := q
    cases r with
    | true => exact .inl ⟨rfl, F2, H2, I2, g1.trans g2, q⟩
    | false => exact .inr ⟨rfl, false, rfl, F2, H2, I2, g1.trans g2, q⟩
  · obtain ⟨F1, H1, I1, g1, h⟩ := hi
    refine ⟨_, rfl, F1, H1, I1, g1, ?_⟩
    have e1 : its.toArray.size = xs.length := by simp [lx]
    have e2 : its2.toArray.size = ys.length := by simp [ly]
    rw [e1, e2] at h ⊢
    by_cases c : xs.length = ys.length
    · rw [c, Nat.min_self, List.drop_length] at h
      rw [← c, List.drop_length] at h
      rw [c, beq_self_eq_true]
      exact h
    · have hb : (xs.length == ys.length) = false := by simpa using c
      rw [hb]
      by_cases l : xs.length < ys.length
      · rw [Nat.min_eq_left (Nat.le_of_lt l), List.drop_length, List.drop_eq_getElem_cons l] at h
        exact h
      · have l2 : ys.length < xs.length := by omega
        rw [Nat.min_eq_right (Nat.le_of_lt l2), List.drop_length, List.drop_eq_getElem_cons l2] at h
        exact h
theorem qo_eqT (hW : ItemOK X n W) (hr : Room (n + 1) X.A) : OpR X (compareOp .Eq) (upV2 X.K (vEqT W)) := by
  intro pins s σ H x y v u Q' I rx ry ⟨F, d, e, Q, sm, r1, r2, h, g⟩
  unfold vEqT at h
  split at h
  · rename_i xs ys
    have r1' := r1
    have r2' := r2
    obtain ⟨a, vs, rfl, _, _⟩ := r1'
    obtain ⟨b, ws, rfl, _, _⟩ := r2'
    cases rx
    cases ry
    show wpAny (model X.prog X.w) X.A (richCompare .Eq (.ref a) (.ref b)) (EP X pins σ Q') X.xe s
    refine wpAny_mono (rc_seq hW ⟨hr, rfl⟩ I sm r1 r2 h) (fun r s' q => ?_) fun _ _ x => x
    obtain ⟨k, rfl, F', H', I', gr, q⟩ := q
    exact ⟨.bl k, H', I', rfl, g (.bl k) _ F' H' gr rfl q⟩
  · exact h.elim
end
/-! ### going through a list or a tuple -/
def riEith (ta tb : RI) : RI := fun env Q => ta env Q ∨ tb env Q
theorem qi_eith {X : Cx} {bx : Bx} {tg e : Expr} {ta tb : RI} (ha : QI X bx tg e ta) (hb : QI X bx tg e tb) : QI X bx tg e (riEith ta tb) := ⟨fun pins s σ H Q I ⟨env, F, Q0, R, ht, k⟩ => by
  rcases ht with ht | ht
  · exact ha.run pins s σ H Q I ⟨env, F, Q0, R, ht, k⟩
  · exact hb.run pins s σ H Q I ⟨env, F, Q0, R, ht, k⟩⟩
theorem e_riEith {ta tb : RI} {env : List Slot} {Q : List D → List Slot → Prop} : riEith ta tb env Q = (ta env Q ∨ tb env Q) := rfl
/-! ### data without lists: one value is one datum -/
mutual
def plD : D → Bool
  | .non => true
  | .bl _ => true
  | .int _ => true
  | .str _ => true
  | .tup xs => plDs xs
  | .obj _ _ xs => plDs xs
  | _ => false
def plDs : List D → Bool
  | [] => true
  | x :: xs => plD x && plDs xs
end
section
variable {K : PySem.W.Frag} {F : Hp}
mutual
theorem rep_inj : ∀ (d e : D) (v : V), plD d = true → plD e = true → Rep K F d v → Rep K F e v → d = e
  | .non, e, v, _, pe, r, q => by
    have r : v = V.non := r
    cases e with
    | non => rfl
    | bl b2 =>
      have h : V.non = V.bl b2 := r.symm.trans q
      cases h
    | int b2 =>
      have h : V.non = V.int b2 := r.symm.trans q
      cases h
    | str b2 =>
      have h : V.non = V.str b2 := r.symm.trans q
      cases h
    | tup ys =>
      obtain ⟨a, vs, e1, _⟩ := q
      have h : V.non = V.ref a := r.symm.trans e1
      cases h
    | obj C ns ys =>
      obtain ⟨a, dx, fs, e1, _⟩ := q
      have h : V.non = V.ref a := r.symm.trans e1
      cases h
    | _ => cases pe
  | .bl b, e, v, _, pe, r, q => by
    have r : v = V.bl b := r
    cases e with
    | non =>
      have h : V.bl b = V.non := r.symm.trans q
      cases h
    | bl b2 =>
      have h : V.bl b = V.bl b2 := r.symm.trans q
      cases h
      rfl
    | int b2 =>
      have h : V.bl b = V.int b2 := r.symm.trans q
      cases h
    | str b2 =>
      have h : V.bl b = V.str b2 := r.symm.trans q
      cases h
    | tup ys =>
      obtain ⟨a, vs, e1, _⟩ := q
      have h : V.bl b = V.ref a := r.symm.trans e1
      cases h
    | obj C ns ys =>
      obtain ⟨a, dx, fs, e1, _⟩ := q
      have h : V.bl b = V.ref a := r.symm.trans e1
      cases h
    | _ => cases pe
  | .int b, e, v, _, pe, r, q => by
    have r : v = V.int b := r
    cases e with
    | non =>
      have h : V.int b = V.non := r.symm.trans q
      cases h
    | bl b2 =>
      have h : V.int b = V.bl b2 := r.symm.trans q
      cases h
    | int b2 =>
      have h : V.int b = V.int b2 := r.symm.trans q
      cases h
      rfl
    | str b2 =>
      have h : V.int b = V.str b2 := r.symm.trans q
      cases h
    | tup ys =>
      obtain ⟨a, vs, e1, _⟩ := q
      have h : V.int b = V.ref a := r.symm.trans e1
      cases h
    | obj C ns ys =>
      obtain ⟨a, dx, fs, e1, _⟩ := q
      have h : V.int b = V.ref a := r.symm.trans e1
      cases h
    | _ => cases pe
  | .str b, e, v, _, pe, r, q => by
    have r : v = V.str b := r
    cases e with
    | non =>
      have h : V.str b = V.non := r.symm.trans q
      cases h
    | bl b2 =>
      have h : V.str b = V.bl b2 := r.symm.trans q
      cases h
    | int b2 =>
      have h : V.str b = V.int b2 := r.symm.trans q
      cases h
    | str b2 =>
      have h : V.str b = V.str b2 := r.symm.trans q
      cases h
      rfl
    | tup ys =>
      obtain ⟨a, vs, e1, _⟩ := q
      have h : V.str b = V.ref a := r.symm.trans e1
      cases h
    | obj C ns ys =>
      obtain ⟨a, dx, fs, e1, _⟩ := q
      have h : V.str b = V.ref a := r.symm.trans e1
      cases h
    | _ => cases pe
  | .tup xs, e, v, pd, pe, r, q => by
    obtain ⟨a, vs, rfl, h1, h2⟩ := r
    cases e with
    | tup ys =>
      obtain ⟨b, ws, e1, g1, g2⟩ := q
      cases e1
      rw [h1] at g1
      cases g1
      rw [repL_inj xs ys _ pd pe h2 g2]
    | obj C ns ys =>
      obtain ⟨b, dx, fs, e1, g1, _⟩ := q
      cases e1
      rw [h1] at g1
      cases g1
    | non => exact absurd (show V.ref a = V.non from q) (fun z => by cases z)
    | bl b => exact absurd (show V.ref a = V.bl b from q) (fun z => by cases z)
    | int b => exact absurd (show V.ref a = V.int b from q) (fun z => by cases z)
    | str b => exact absurd (show V.ref a = V.str b from q) (fun z => by cases z)
    | _ => cases pe
  | .obj C ns xs, e, v, pd, pe, r, q => by
    obtain ⟨a, dx, fs, rfl, h1, h2, h3⟩ := r
    cases e with
    | obj C' ns' ys =>
      obtain ⟨b, dx', fs', e1, g1, g2, g3⟩ := q
      cases e1
      rw [h1] at g1
      cases g1
      rw [← h2, ← g2, repL_inj xs ys _ pd pe h3 g3]
    | tup ys =>
      obtain ⟨b, ws, e1, g1, g2⟩ := q
      cases e1
      rw [h1] at g1
      cases g1
    | non => exact absurd (show V.ref a = V.non from q) (fun z => by cases z)
    | bl b => exact absurd (show V.ref a = V.bl b from q) (fun z => by cases z)
    | int b => exact absurd (show V.ref a = V.int b from q) (fun z => by cases z)
    | str b => exact absurd (show V.ref a = V.str b from q) (fun z => by cases z)
    | _ => cases pe
  | .scr _, _, _, pd, _, _, _ => by cases pd
  | .lst _, _, _, pd, _, _, _ => by cases pd
  | .dic _ _, _, _, pd, _, _, _ => by cases pd
  | .dct _ _, _, _, pd, _, _, _ => by cases pd
  | .raw _, _, _, pd, _, _, _ => by cases pd
theorem repL_inj : ∀ (xs ys : List D) (vs : List V), plDs xs = true → plDs ys = true → RepL K F xs vs → RepL K F ys vs → xs = ys
  | [], [], _, _, _, _, _ => rfl
  | [], y :: ys, vs, _, _, r, q => by
    obtain ⟨v, t, e, _⟩ := q
    rw [show vs = [] from r] at e
    cases e
  | x :: xs, [], vs, _, _, r, q => by
    obtain ⟨v, t, e, _⟩ := r
    rw [show vs = [] from q] at e
    cases e
  | x :: xs, y :: ys, vs, p1, p2, r, q => by
    obtain ⟨v, t, e, h1, h2⟩ := r
    obtain ⟨v', t', e', g1, g2⟩ := q
    rw [e] at e'
    cases e'
    have p1 : (plD x && plDs xs) = true := p1
    have p2 : (plD y && plDs ys) = true := p2
    rw [Bool.and_eq_true] at p1 p2
    rw [rep_inj x y v p1.1 p2.1 h1 g1, repL_inj xs ys t p1.2 p2.2 h2 g2]
end
end
section
variable {W : IW} {xs ys : List D} {x y : D} {P : D → Prop} {Pb : Bool → Prop}
theorem o_eqTw : vEqT W (.tup xs) (.tup ys) P = seqW W xs ys fun b => P (.bl b) := rfl
theorem o_seqC : seqW W (x :: xs) (y :: ys) Pb = W x y fun b => if b = true then seqW W xs ys Pb else Pb false := rfl
theorem o_seqN : seqW W [] [] Pb = Pb true := rfl
end
end QL
set_option Elab.async false
set_option linter.all false
set_option maxRecDepth 100000
set_option maxHeartbeats 4000000
namespace L2
open PySem PySem.Spec PyProof.Rows
section
variable {X : Cx} {a b c d : Expr} {ta tb tc td : TE} {pos : Pos}
/-- a op1 b op2 c op3 d -/
def tChain3 (r r' r'' : R2) (ta tb tc td : TE) : TE := fun σ H Q => ta σ H fun x H1 => tb σ H1 fun y H2 => r x y H2 fun z H3 => ∃ k, z = .bl k ∧
  (if k = true then tc σ H3 fun y2 H4 => r' y y2 H4 fun z H5 => ∃ k, z = .bl k ∧ (if k = true then td σ H5 fun w' H6 => r'' y2 w' H6 Q else Q (.bl false) H5) else Q (.bl false) H3)
theorem pe_chain3 {op op' op'' : CmpOp} {r r' r'' : R2} (ho : OpR X (compareOp op) r) (ho' : OpR X (compareOp op') r') (ho'' : OpR X (compareOp op'') r'') (ha : PE X a ta) (hb : PE X b tb) (hc : PE X c tc) (hd : PE X d td)
    (hm : lastMarks [op, op', op''] [b, c, d] = false := by with_unfolding_all rfl) : PE X (.Compare a [op, op', op''] [b, c, d] pos) (tChain3 r r' r'' ta tb tc td) := by
  refine ⟨fun pins s σ H Q I h => ?_⟩
  refine Compare_chain (thn (ha.run pins s σ H _ I h) fun v s1 ⟨x, H1, I1, r1, q1⟩ => chain_link (thn (hb.run pins s1 σ H1 _ I1 q1) fun u s2 ⟨y, H2, I2, r2, q2⟩ =>
    thn (ho pins s2 σ H2 x y v u _ I2 r1 r2 q2) fun d s3 ⟨z, H3, I3, r3, k, e, q3⟩ => ?_)) hm
  subst e
  cases r3
  refine wpAny_truthy_bool ?_
  cases k with
  | false => exact ite_ff ⟨.bl false, H3, I3, rfl, q3⟩
  | true =>
    refine ite_tt (chain_link (thn (hc.run pins s3 σ H3 _ I3 q3) fun w s4 ⟨y2, H4, I4, r4, q4⟩ => thn (ho' pins s4 σ H4 y y2 u w _ I4 r2 r4 q4) fun d s5 ⟨z, H5, I5, r5, k, e, q5⟩ => ?_))
    subst e
    cases r5
    refine wpAny_truthy_bool ?_
    cases k with
    | false => exact ite_ff ⟨.bl false, H5, I5, rfl, q5⟩
    | true => exact ite_tt (chain_last (thn (hd.run pins s5 σ H5 _ I5 q5) fun w' s6 ⟨z', H6, I6, r6, q6⟩ => ho'' pins s6 σ H6 y2 z' w w' Q I6 r4 r6 q6))
end
end L2
namespace QL
open PySem PySem.Spec PyProof.Rows L2
section
variable {X : Cx} {bx : Bx} {a b c d : Expr} {ta tb tc td : RE} {pos : Pos}
/-- a < b < c < d -/
def rChain3 (r r' r'' : V2) (ta tb tc td : RE) : RE := fun env Q => ta env fun d env1 => tb env1 fun e env2 => r d e fun z => match z with | .bl k => (if k = true then tc env2 fun f env3 => r' e f fun z => match z with | .bl k => (if k = true then td env3 fun w env4 => r'' f w fun z => Q z env4 else Q (.bl false) env3) | _ => False else Q (.bl false) env2) | _ => False
theorem q_chain3 {op op' op'' : CmpOp} {r r' r'' : V2} (ho : OpR X (compareOp op) (upV2 X.K r)) (ho' : OpR X (compareOp op') (upV2 X.K r')) (ho'' : OpR X (compareOp op'') (upV2 X.K r'')) (ha : QE X bx a ta) (hb : QE X bx b tb) (hc : QE X bx c tc) (hd : QE X bx d td)
    (hm : lastMarks [op, op', op''] [b, c, d] = false := by with_unfolding_all rfl) : QE X bx (.Compare a [op, op', op''] [b, c, d] pos) (rChain3 r r' r'' ta tb tc td) := pe_imp (pe_chain3 ho ho' ho'' ha hb hc hd hm) fun σ H Q' ⟨env, F, Q, R, ht, k⟩ =>
  ⟨env, F, _, R, ht, fun d v env1 F1 H1 s1 R1 r1 q1 => ⟨env1, F1, _, R1, q1, fun d2 w env2 F2 H2 s2 R2 r2 q2 => ⟨F2, d, d2, _, R2.sf, Rep.mono s2 _ _ r1, r2, q2, fun z u F3 H3 g r3 q3 => by
    cases z with
    | bl c =>
      refine ⟨c, r3, ?_⟩
      cases c with
      | true =>
        rw [if_pos rfl]
        have q3 := (if_pos rfl).mp q3
        refine ⟨env2, F3, _, R2.to g, q3, fun d4 v4 env4 F4 H4 s4 R4 r4 q4 => ⟨F4, d2, d4, _, R4.sf, Rep.mono (g.e.trans s4) _ _ r2, r4, q4, fun z u F5 H5 g5 r5 q5 => ?_⟩⟩
        cases z with
        | bl c =>
          refine ⟨c, r5, ?_⟩
          cases c with
          | true =>
            rw [if_pos rfl]
            have q5 := (if_pos rfl).mp q5
            exact ⟨env4, F5, _, R4.to g5, q5, fun d6 v6 env6 F6 H6 s6 R6 r6 q6 => ⟨F6, d4, d6, _, R6.sf, Rep.mono (g5.e.trans s6) _ _ r4, r6, q6, fun z u F7 H7 g7 r7 q7 =>
              k z u env6 F7 H7 ((((((s1.trans s2).trans g.e).trans s4).trans g5.e).trans s6).trans g7.e) (R6.to g7) r7 q7⟩⟩
          | false =>
            rw [if_neg Bool.false_ne_true]
            have q5 := (if_neg Bool.false_ne_true).mp q5
            exact k (.bl false) (.bl false) env4 F5 H5 ((((s1.trans s2).trans g.e).trans s4).trans g5.e) (R4.to g5) rfl q5
        | _ => exact q5.elim
      | false =>
        rw [if_neg Bool.false_ne_true]
        have q3 := (if_neg Bool.false_ne_true).mp q3
        exact k (.bl false) (.bl false) env2 F3 H3 ((s1.trans s2).trans g.e) (R2.to g) rfl q3
    | _ => exact q3.elim⟩⟩⟩
end
section
variable {r r' r'' : V2} {ta tb tc td : RE} {env : List Slot} {Q : D → List Slot → Prop}
theorem e_chain3 : rChain3 r r' r'' ta tb tc td env Q = ta env fun d env1 => tb env1 fun e env2 => r d e fun z => bq z fun k => if k = true then tc env2 fun f env3 => r' e f fun z => bq z fun k => if k = true then td env3 fun w env4 => r'' f w fun z => Q z env4 else Q (.bl false) env3 else Q (.bl false) env2 := by
  unfold rChain3
  rfl
end
end QL
/-! sums of floors, plain -/
namespace FS
def fsum (a b m : Int) : Nat → Int
  | 0 => 0
  | n + 1 => fsum a b m n + (a * n + b) / m
def tri : Nat → Int
  | 0 => 0
  | n + 1 => tri n + n
def sumN (g : Nat → Int) : Nat → Int
  | 0 => 0
  | n + 1 => sumN g n + g n
/-! the laws of k46 -/
end FS
namespace FS
end FS
set_option linter.all false
namespace Geo
/-- a row a x + b y ≤ c -/
structure Row where
  a : Rat
  b : Rat
  c : Rat
abbrev In (rows : List Row) (x y : Rat) : Prop := ∀ r ∈ rows, r.a * x + r.b * y ≤ r.c
abbrev Row.at (r : Row) (x y : Rat) : Rat := r.a * x + r.b * y
/-- determinant -/
abbrev det (r q : Row) : Rat := r.a * q.b - r.b * q.a
/-- a direction that goes on without end -/
abbrev Opn (rows : List Row) (u v : Rat) : Prop := ∀ r ∈ rows, r.a * u + r.b * v ≤ 0
/-- a corner: two rows that are not parallel are tight there -/
structure Cor (rows : List Row) (x y : Rat) : Prop where
  mem : In rows x y
  two : ∃ r ∈ rows, ∃ q ∈ rows, det r q ≠ 0 ∧ r.at x y = r.c ∧ q.at x y = q.c

theorem ex_min {α : Type} (g : α → Rat) (P : α → Prop) : ∀ (l : List α), (∃ x ∈ l, P x) → ∃ x ∈ l, P x ∧ ∀ y ∈ l, P y → g x ≤ g y
  | [], h => by obtain ⟨x, hx, _⟩ := h; cases hx
  | z :: l, h => by
    by_cases hl : ∃ x ∈ l, P x
    · obtain ⟨x, hx, px, mx⟩ := ex_min g P l hl
      by_cases hz : P z ∧ g z ≤ g x
      · refine ⟨z, List.mem_cons_self, hz.1, fun y hy py => ?_⟩
        rcases List.mem_cons.mp hy with rfl | hy
        · exact Rat.le_refl
        · exact Rat.le_trans hz.2 (mx y hy py)
      · refine ⟨x, List.mem_cons_of_mem _ hx, px, fun y hy py => ?_⟩
        rcases List.mem_cons.mp hy with rfl | hy
        · have : ¬ g y ≤ g x := fun z => hz ⟨py, z⟩
          grind
        · exact mx y hy py
    · obtain ⟨x, hx, px⟩ := h
      rcases List.mem_cons.mp hx with rfl | hx
      · refine ⟨x, List.mem_cons_self, px, fun y hy py => ?_⟩
        rcases List.mem_cons.mp hy with rfl | hy
        · exact Rat.le_refl
        · exact absurd ⟨y, hy, py⟩ hl
      · exact absurd ⟨x, hx, px⟩ hl

theorem div_le {a b c : Rat} (h : 0 < b) : a / b ≤ c ↔ a ≤ c * b := by
  have e : a / b * b = a := by grind
  constructor
  · intro k
    have := Rat.mul_le_mul_of_nonneg_right k (Rat.le_of_lt h)
    grind
  · intro k
    rcases Classical.em (a / b ≤ c) with g | g
    · exact g
    · have g' : c < a / b := by grind
      have := Rat.mul_lt_mul_of_pos_right g' h
      grind
theorem le_div {a b c : Rat} (h : 0 < b) : c ≤ a / b ↔ c * b ≤ a := by
  have e : a / b * b = a := by grind
  constructor
  · intro k
    have := Rat.mul_le_mul_of_nonneg_right k (Rat.le_of_lt h)
    grind
  · intro k
    rcases Classical.em (c ≤ a / b) with g | g
    · exact g
    · have g' : a / b < c := by grind
      have := Rat.mul_lt_mul_of_pos_right g' h
      grind
theorem nn {a b : Rat} (h : 0 ≤ a) (g : 0 ≤ b) : 0 ≤ a * b := Rat.mul_nonneg h g

/-- going on in a direction until a row ends it -/
theorem walk {rows : List Row} {x y u v : Rat} (hp : In rows x y) (hb : ∃ r ∈ rows, 0 < r.a * u + r.b * v) :
    ∃ s : Rat, 0 ≤ s ∧ In rows (x + s * u) (y + s * v) ∧ ∃ r ∈ rows, 0 < r.a * u + r.b * v ∧ r.at (x + s * u) (y + s * v) = r.c := by
  obtain ⟨r, hr, pr, mr⟩ := ex_min (fun r => (r.c - r.at x y) / (r.a * u + r.b * v)) (fun r => 0 < r.a * u + r.b * v) rows hb
  have hs := hp r hr
  refine ⟨(r.c - r.at x y) / (r.a * u + r.b * v), (le_div pr).mpr (by grind), fun q hq => ?_, r, hr, pr, ?_⟩
  · have hq2 := hp q hq
    generalize hS : (r.c - r.at x y) / (r.a * u + r.b * v) = s at *
    have hs0 : 0 ≤ s := by rw [← hS]; exact (le_div pr).mpr (by grind)
    by_cases pq : 0 < q.a * u + q.b * v
    · have h1 := (le_div pq).mp (mr q hq pq)
      grind
    · have h1 : 0 ≤ s * (- (q.a * u + q.b * v)) := nn hs0 (by grind)
      grind
  · have e : (r.c - r.at x y) / (r.a * u + r.b * v) * (r.a * u + r.b * v) = r.c - r.at x y := by grind
    generalize (r.c - r.at x y) / (r.a * u + r.b * v) = s at *
    grind
/-- there are two rows that are not parallel -/
abbrev Two (rows : List Row) : Prop := ∃ r ∈ rows, ∃ q ∈ rows, det r q ≠ 0
abbrev ev (f g x y : Rat) : Rat := f * x + g * y

/-! ### when nothing is left -/
/-- one line: pairs decide -/
theorem helly1 (l : List (Rat × Rat)) (h : ∀ p ∈ l, ∀ q ∈ l, ∃ t : Rat, p.1 * t ≤ p.2 ∧ q.1 * t ≤ q.2) : ∃ t : Rat, ∀ p ∈ l, p.1 * t ≤ p.2 := by
  have z : ∀ p ∈ l, p.1 = 0 → 0 ≤ p.2 := fun p hp e => by
    obtain ⟨t, h1, _⟩ := h p hp p hp
    rw [e] at h1
    grind
  by_cases up : ∃ p ∈ l, 0 < p.1
  · obtain ⟨p, hp, pp, mp⟩ := ex_min (fun p : Rat × Rat => p.2 / p.1) (fun p => 0 < p.1) l up
    have e : p.1 * (p.2 / p.1) = p.2 := by grind
    refine ⟨p.2 / p.1, fun q hq => ?_⟩
    obtain ⟨t, h1, h2⟩ := h p hp q hq
    by_cases hq0 : 0 < q.1
    · have := (div_le (a := p.2) (c := q.2 / q.1) pp).mp (mp q hq hq0)
      have e2 : q.1 * (q.2 / q.1) = q.2 := by grind
      have := mp q hq hq0
      have := Rat.mul_le_mul_of_nonneg_left this (Rat.le_of_lt hq0)
      grind
    · by_cases hq1 : q.1 = 0
      · have := z q hq hq1
        rw [hq1]
        grind
      · have ht : t ≤ p.2 / p.1 := (le_div pp).mpr (by grind)
        have : 0 ≤ (-q.1) * (p.2 / p.1 - t) := nn (by grind) (by grind)
        grind
  · by_cases dn : ∃ p ∈ l, p.1 < 0
    · obtain ⟨p, hp, pp, mp⟩ := ex_min (fun p : Rat × Rat => p.2 / (-p.1)) (fun p => p.1 < 0) l dn
      have e : (-p.1) * (p.2 / (-p.1)) = p.2 := by grind
      refine ⟨-(p.2 / (-p.1)), fun q hq => ?_⟩
      have hq0 : ¬ 0 < q.1 := fun y => up ⟨q, hq, y⟩
      by_cases hq1 : q.1 = 0
      · have := z q hq hq1
        rw [hq1]
        grind
      · have hq2 : q.1 < 0 := by grind
        have e2 : (-q.1) * (q.2 / (-q.1)) = q.2 := by grind
        have := mp q hq hq2
        have := Rat.mul_le_mul_of_nonneg_left this (show 0 ≤ -q.1 by grind)
        grind
    · refine ⟨0, fun q hq => ?_⟩
      have hq0 : ¬ 0 < q.1 := fun y => up ⟨q, hq, y⟩
      have hq1 : ¬ q.1 < 0 := fun y => dn ⟨q, hq, y⟩
      have := z q hq (by grind)
      have e : q.1 = 0 := by grind
      rw [e]
      grind
theorem sq_pos {a b : Rat} (h : a ≠ 0 ∨ b ≠ 0) : 0 < a * a + b * b := by
  have ha : 0 ≤ a * a := by
    by_cases g : 0 ≤ a
    · exact nn g g
    · have := nn (show 0 ≤ -a by grind) (show 0 ≤ -a by grind)
      grind
  have hb : 0 ≤ b * b := by
    by_cases g : 0 ≤ b
    · exact nn g g
    · have := nn (show 0 ≤ -b by grind) (show 0 ≤ -b by grind)
      grind
  rcases h with h | h
  · have : a * a ≠ 0 := by grind
    grind
  · have : b * b ≠ 0 := by grind
    grind
theorem mdc {a b : Rat} (h : 0 < b) : b * (a / b) = a := by grind
theorem leq {a b : Rat} (h : a = b) : a ≤ b := by rw [h]; exact Rat.le_refl
theorem alg1 {l m N T c d : Rat} (hl : 0 < l) (e : l * N * T = c) (w : 0 ≤ -m * c + l * d) : m * N * T ≤ d := by
  subst e
  rcases Classical.em (m * N * T ≤ d) with g | g
  · exact g
  · have := Rat.mul_pos hl (show 0 < m * N * T - d by grind)
    grind
theorem mdl {a b : Rat} (h : 0 < b) : b * (a / b) ≤ a := by rw [mdc h]; exact Rat.le_refl
def ab (x : Rat) : Rat := if 0 ≤ x then x else -x
theorem ab_nn (x : Rat) : 0 ≤ ab x := by unfold ab; split <;> grind
theorem ab_mul (l x : Rat) : ab (l * x) = ab l * ab x := by
  unfold ab
  by_cases h1 : 0 ≤ l <;> by_cases h2 : 0 ≤ x
  · rw [if_pos h1, if_pos h2, if_pos (nn h1 h2)]
  · rw [if_pos h1, if_neg h2]
    have := nn h1 (show 0 ≤ -x by grind)
    split <;> grind
  · rw [if_neg h1, if_pos h2]
    have := nn (show 0 ≤ -l by grind) h2
    split <;> grind
  · rw [if_neg h1, if_neg h2]
    have := nn (show 0 ≤ -l by grind) (show 0 ≤ -x by grind)
    split <;> grind
/-- a row that nothing keeps -/
abbrev W1 (r : Row) : Prop := r.a = 0 ∧ r.b = 0 ∧ r.c < 0
/-- two rows against each other -/
abbrev W2 (r q : Row) : Prop := det r q = 0 ∧ r.a * q.a + r.b * q.b < 0 ∧ (ab q.a + ab q.b) * r.c + (ab r.a + ab r.b) * q.c < 0
/-- three rows -/
abbrev W3 (r q s : Row) : Prop := (0 ≤ det q s ∧ 0 ≤ det s r ∧ 0 < det r q ∧ det q s * r.c + det s r * q.c + det r q * s.c < 0) ∨
  (det q s ≤ 0 ∧ det s r ≤ 0 ∧ det r q < 0 ∧ 0 < det q s * r.c + det s r * q.c + det r q * s.c)
theorem par_of {r q : Row} (h : r.a ≠ 0 ∨ r.b ≠ 0) (e : det r q = 0) : ∃ l, q.a = l * r.a ∧ q.b = l * r.b := by
  by_cases ha : r.a = 0
  · have hb : r.b ≠ 0 := h.resolve_left (fun z => z ha)
    refine ⟨q.b / r.b, ?_, by grind⟩
    have : r.b * q.a = 0 := by grind
    grind
  · refine ⟨q.a / r.a, by grind, ?_⟩
    have : r.a * (q.b - q.a / r.a * r.b) = 0 := by grind
    grind
/-- rows all along one direction -/
theorem flat {rows : List Row} (hf : ∀ r ∈ rows, ∀ q ∈ rows, det r q = 0) (hn : ¬ ∃ x y, In rows x y) : (∃ r ∈ rows, W1 r) ∨ ∃ r ∈ rows, ∃ q ∈ rows, W2 r q := by
  by_cases h1 : ∃ r ∈ rows, W1 r
  · exact .inl h1
  refine .inr ?_
  have z : ∀ r ∈ rows, r.a = 0 → r.b = 0 → 0 ≤ r.c := fun r hr e1 e2 => by
    rcases Classical.em (0 ≤ r.c) with g | g
    · exact g
    · exact absurd ⟨r, hr, e1, e2, by grind⟩ h1
  by_cases h0 : ∃ r ∈ rows, r.a ≠ 0 ∨ r.b ≠ 0
  rotate_left
  · exfalso
    refine hn ⟨0, 0, fun r hr => ?_⟩
    have e1 : r.a = 0 := by
      rcases Classical.em (r.a = 0) with g | g
      · exact g
      · exact absurd ⟨r, hr, .inl g⟩ h0
    have e2 : r.b = 0 := by
      rcases Classical.em (r.b = 0) with g | g
      · exact g
      · exact absurd ⟨r, hr, .inr g⟩ h0
    have := z r hr e1 e2
    grind
  obtain ⟨r0, hr0, n0⟩ := h0
  have hN := sq_pos n0
  generalize hNe : r0.a * r0.a + r0.b * r0.b = N at hN
  rcases Classical.em (∃ r ∈ rows, ∃ q ∈ rows, W2 r q) with g | g
  · exact g
  exfalso
  have lam : ∀ r ∈ rows, ∃ l, r.a = l * r0.a ∧ r.b = l * r0.b := fun r hr => par_of n0 (hf r0 hr0 r hr)
  have hS : 0 < ab r0.a + ab r0.b := by
    have h1 := ab_nn r0.a
    have h2 := ab_nn r0.b
    unfold ab at *
    rcases n0 with n | n
    · split at h1 <;> split at h2 <;> grind
    · split at h1 <;> split at h2 <;> grind
  obtain ⟨t, ht⟩ := helly1 (rows.map fun q => (q.a * r0.a + q.b * r0.b, q.c)) (by
    intro p1 hp1 q1 hq1
    obtain ⟨p, hp, rfl⟩ := List.mem_map.mp hp1
    obtain ⟨q, hq, rfl⟩ := List.mem_map.mp hq1
    obtain ⟨l, e1, e2⟩ := lam p hp
    obtain ⟨m, e3, e4⟩ := lam q hq
    have f1 : p.a * r0.a + p.b * r0.b = l * N := by rw [e1, e2]; grind
    have f2 : q.a * r0.a + q.b * r0.b = m * N := by rw [e3, e4]; grind
    show ∃ t, (p.a * r0.a + p.b * r0.b) * t ≤ p.c ∧ (q.a * r0.a + q.b * r0.b) * t ≤ q.c
    rw [f1, f2]
    have key : ∀ (p q : Row) (l m : Rat), p ∈ rows → q ∈ rows → p.a = l * r0.a → p.b = l * r0.b → q.a = m * r0.a → q.b = m * r0.b → 0 < l → ∃ t, l * N * t ≤ p.c ∧ m * N * t ≤ q.c := by
      intro p q l m hp hq e1 e2 e3 e4 hl
      by_cases hm : 0 ≤ m
      · by_cases hm0 : m = 0
        · have := z q hq (by rw [e3, hm0]; grind) (by rw [e4, hm0]; grind)
          refine ⟨p.c / (l * N), ?_, ?_⟩
          · exact mdl (Rat.mul_pos hl hN)
          · rw [hm0, Rat.zero_mul, Rat.zero_mul]; exact this
        · have k1 := Rat.mul_pos hl hN
          have k2 := Rat.mul_pos (show 0 < m by grind) hN
          have d1 : l * N * (p.c / (l * N)) = p.c := mdc k1
          have d2 : m * N * (q.c / (m * N)) = q.c := mdc k2
          by_cases hc : p.c / (l * N) ≤ q.c / (m * N)
          · have := Rat.mul_le_mul_of_nonneg_left hc (Rat.le_of_lt k2)
            rw [d2] at this
            exact ⟨p.c / (l * N), leq d1, this⟩
          · have := Rat.mul_le_mul_of_nonneg_left (show q.c / (m * N) ≤ p.c / (l * N) by grind) (Rat.le_of_lt k1)
            rw [d1] at this
            exact ⟨q.c / (m * N), this, leq d2⟩
      · have ng : ¬ W2 p q := fun w => g ⟨p, hp, q, hq, w⟩
        have k1 := Rat.mul_pos hl hN
        have k2 := Rat.mul_pos (show 0 < -m by grind) hN
        have d1 : l * N * (p.c / (l * N)) = p.c := mdc k1
        refine ⟨p.c / (l * N), leq d1, ?_⟩
        have w1 : det p q = 0 := by unfold det; rw [e1, e2, e3, e4]; grind
        have w2 : p.a * q.a + p.b * q.b < 0 := by
          have e : p.a * q.a + p.b * q.b = l * m * N := by rw [e1, e2, e3, e4]; grind
          have := Rat.mul_pos hl k2
          grind
        have w3 : 0 ≤ (ab q.a + ab q.b) * p.c + (ab p.a + ab p.b) * q.c := by
          rcases Classical.em (0 ≤ (ab q.a + ab q.b) * p.c + (ab p.a + ab p.b) * q.c) with g | g
          · exact g
          · exact absurd ⟨w1, w2, by grind⟩ ng
        rw [e1, e2, e3, e4, ab_mul, ab_mul, ab_mul, ab_mul, show ab l = l from if_pos (Rat.le_of_lt hl), show ab m = -m from if_neg (by grind)] at w3
        have w4 : 0 ≤ (-m) * p.c + l * q.c := by
          rcases Classical.em (0 ≤ (-m) * p.c + l * q.c) with g | g
          · exact g
          · have := Rat.mul_pos (show 0 < -((-m) * p.c + l * q.c) by grind) hS
            grind
        exact alg1 hl d1 w4
    by_cases hl : 0 < l
    · exact key p q l m hp hq e1 e2 e3 e4 hl
    · by_cases hm : 0 < m
      · obtain ⟨t, t1, t2⟩ := key q p m l hq hp e3 e4 e1 e2 hm
        exact ⟨t, t2, t1⟩
      · -- both go on to the other side
        have neg : ∀ (p : Row) (l : Rat), p ∈ rows → p.a = l * r0.a → p.b = l * r0.b → ¬ 0 < l → ∃ T, ∀ t, T ≤ t → l * N * t ≤ p.c := fun p l hp e1 e2 hl => by
          by_cases h0 : l = 0
          · have := z p hp (by rw [e1, h0]; grind) (by rw [e2, h0]; grind)
            exact ⟨0, fun t _ => by rw [h0]; grind⟩
          · have k := Rat.mul_pos (show 0 < -l by grind) hN
            refine ⟨p.c / (l * N), fun t ht => ?_⟩
            have := nn (Rat.le_of_lt k) (show 0 ≤ t - p.c / (l * N) by grind)
            have e : -l * N * (p.c / (-l * N)) = p.c := mdc k
            have e2 : p.c / (l * N) = -(p.c / (-l * N)) := by
              have hz : l * N ≠ 0 := by grind
              clear hn h1 z hf lam g hS
              grind
            generalize p.c / (-l * N) = T at *
            rw [e2] at this
            clear hn h1 z hf lam g hS
            grind
        obtain ⟨T1, k1⟩ := neg p l hp e1 e2 hl
        obtain ⟨T2, k2⟩ := neg q m hq e3 e4 hm
        by_cases h : T1 ≤ T2
        · exact ⟨T2, k1 _ h, k2 _ Rat.le_refl⟩
        · exact ⟨T1, k1 _ Rat.le_refl, k2 _ (by grind)⟩)
  exact hn ⟨t * r0.a, t * r0.b, fun q hq => by
    have := ht _ (List.mem_map.mpr ⟨q, hq, rfl⟩)
    grind⟩
/-! ### strips -/
theorem in_mix {rows : List Row} {x y x' y' l m : Rat} (h : In rows x y) (g : In rows x' y') (hl : 0 ≤ l) (hm : 0 ≤ m) (e : l + m = 1) : In rows (l * x + m * x') (l * y + m * y') := fun r hr => by
  have h1 := nn hl (show 0 ≤ r.c - r.at x y by have := h r hr; grind)
  have h2 := nn hm (show 0 ≤ r.c - r.at x' y' by have := g r hr; grind)
  have e2 : l * r.c + m * r.c = r.c := by rw [← Rat.add_mul, e, Rat.one_mul]
  grind
/-- two constraints of one number -/
theorem pair1 {a c a' c' : Rat} (h : a = 0 → 0 ≤ c) (h' : a' = 0 → 0 ≤ c') (k : 0 < a → a' < 0 → 0 ≤ c * (-a') + c' * a) (k' : a < 0 → 0 < a' → 0 ≤ c * a' + c' * (-a)) : ∃ t : Rat, a * t ≤ c ∧ a' * t ≤ c' := by
  by_cases ha : a = 0
  · by_cases ha' : a' = 0
    · have := h ha
      have := h' ha'
      exact ⟨0, by grind, by grind⟩
    · have := h ha
      have e : a' * (c' / a') = c' := by grind
      exact ⟨c' / a', by rw [ha]; grind, leq e⟩
  · by_cases ha' : a' = 0
    · have := h' ha'
      have e : a * (c / a) = c := by grind
      exact ⟨c / a, leq e, by rw [ha']; grind⟩
    · have e : a * (c / a) = c := by grind
      have e' : a' * (c' / a') = c' := by grind
      generalize c / a = s at e
      generalize c' / a' = s' at e'
      subst e
      subst e'
      by_cases hp : 0 < a
      · by_cases hp' : 0 < a'
        · by_cases hs : s ≤ s'
          · exact ⟨s, Rat.le_refl, Rat.mul_le_mul_of_nonneg_left hs (Rat.le_of_lt hp')⟩
          · exact ⟨s', Rat.mul_le_mul_of_nonneg_left (by grind) (Rat.le_of_lt hp), Rat.le_refl⟩
        · have hn : a' < 0 := by grind
          have := k hp hn
          refine ⟨s, Rat.le_refl, ?_⟩
          rcases Classical.em (a' * s ≤ a' * s') with g | g
          · exact g
          · have := Rat.mul_pos hp (show 0 < a' * s - a' * s' by grind)
            grind
      · have hn : a < 0 := by grind
        by_cases hp' : 0 < a'
        · have := k' hn hp'
          refine ⟨s', ?_, Rat.le_refl⟩
          rcases Classical.em (a * s' ≤ a * s) with g | g
          · exact g
          · have := Rat.mul_pos hp' (show 0 < a * s' - a * s by grind)
            grind
        · by_cases hs : s ≤ s'
          · have := Rat.mul_le_mul_of_nonneg_left hs (show 0 ≤ -a by grind)
            exact ⟨s', by grind, Rat.le_refl⟩
          · have := Rat.mul_le_mul_of_nonneg_left (show s' ≤ s by grind) (show 0 ≤ -a' by grind)
            exact ⟨s, Rat.le_refl, by grind⟩
/-- a longest one of all -/
theorem ex_most {α : Type} {P : α → Rat → Prop} : ∀ (l : List α), l ≠ [] → (∀ v ∈ l, ∃ m, P v m ∧ ∀ m', P v m' → m' ≤ m) → ∃ v ∈ l, ∃ m, P v m ∧ ∀ v' ∈ l, ∀ m', P v' m' → m' ≤ m
  | [], h, _ => absurd rfl h
  | v :: l, _, h => by
    obtain ⟨m, hm, mm⟩ := h v List.mem_cons_self
    by_cases hl : l = []
    · subst hl
      exact ⟨v, List.mem_cons_self, m, hm, fun v' hv' m' h' => by
        rw [List.mem_singleton.mp hv'] at h'
        exact mm m' h'⟩
    · obtain ⟨v2, hv2, m2, h2, mm2⟩ := ex_most l hl fun v hv => h v (List.mem_cons_of_mem _ hv)
      by_cases hc : m ≤ m2
      · exact ⟨v2, List.mem_cons_of_mem _ hv2, m2, h2, fun v' hv' m' h' => by
          rcases List.mem_cons.mp hv' with rfl | hv'
          · exact Rat.le_trans (mm m' h') hc
          · exact mm2 v' hv' m' h'⟩
      · exact ⟨v, List.mem_cons_self, m, hm, fun v' hv' m' h' => by
          rcases List.mem_cons.mp hv' with rfl | hv'
          · exact mm m' h'
          · exact Rat.le_trans (mm2 v' hv' m' h') (by grind)⟩
/-- no direction goes on without end -/
abbrev Bnd (rows : List Row) : Prop := ∀ d e, Opn rows d e → d = 0 ∧ e = 0
theorem bnd_row {rows : List Row} (hb : Bnd rows) {u v : Rat} (h : u ≠ 0 ∨ v ≠ 0) : ∃ r ∈ rows, 0 < r.a * u + r.b * v := by
  rcases Classical.em (∃ r ∈ rows, 0 < r.a * u + r.b * v) with g | g
  · exact g
  · obtain ⟨e1, e2⟩ := hb u v fun r hr => by
      have : ¬ 0 < r.a * u + r.b * v := fun z => g ⟨r, hr, z⟩
      grind
    rcases h with h | h
    · exact absurd e1 h
    · exact absurd e2 h
theorem top {rows : List Row} (hb : Bnd rows) {x y : Rat} (h : In rows x y) : ∃ y', y ≤ y' ∧ In rows x y' ∧ (∃ r ∈ rows, 0 < r.b ∧ r.at x y' = r.c) ∧ ∀ y2, In rows x y2 → y2 ≤ y' := by
  obtain ⟨s, hs, hi, r, hr, p, t⟩ := walk h (bnd_row hb (u := 0) (v := 1) (.inr (by grind)))
  have e1 : x + s * 0 = x := by grind
  have e2 : y + s * 1 = y + s := by grind
  rw [e1, e2] at hi t
  refine ⟨y + s, by grind, hi, ⟨r, hr, by grind, t⟩, fun y2 h2 => ?_⟩
  have := h2 r hr
  rcases Classical.em (y2 ≤ y + s) with g | g
  · exact g
  · have := Rat.mul_pos (show 0 < r.b by grind) (show 0 < y2 - (y + s) by grind)
    grind
theorem bottom {rows : List Row} (hb : Bnd rows) {x y : Rat} (h : In rows x y) : ∃ y', y' ≤ y ∧ In rows x y' ∧ (∃ r ∈ rows, r.b < 0 ∧ r.at x y' = r.c) ∧ ∀ y2, In rows x y2 → y' ≤ y2 := by
  obtain ⟨s, hs, hi, r, hr, p, t⟩ := walk h (bnd_row hb (u := 0) (v := -1) (.inr (by grind)))
  have e1 : x + s * 0 = x := by grind
  have e2 : y + s * -1 = y - s := by grind
  rw [e1, e2] at hi t
  refine ⟨y - s, by grind, hi, ⟨r, hr, by grind, t⟩, fun y2 h2 => ?_⟩
  have := h2 r hr
  rcases Classical.em (y - s ≤ y2) with g | g
  · exact g
  · have := Rat.mul_pos (show 0 < -r.b by grind) (show 0 < (y - s) - y2 by grind)
    grind
/-- two points above one another go along their rows until one of them is a corner -/
theorem chord1 {rows : List Row} (hb : Bnd rows) {x y1 y2 : Rat} (h1 : In rows x y1) (h2 : In rows x y2) {r1 r2 : Row} (m1 : r1 ∈ rows) (m2 : r2 ∈ rows) (p1 : 0 < r1.b) (p2 : r2.b < 0) (t1 : r1.at x y1 = r1.c) (t2 : r2.at x y2 = r2.c) :
    ∃ x' y1' y2', In rows x' y1' ∧ In rows x' y2' ∧ y1 - y2 ≤ y1' - y2' ∧ (Cor rows x' y1' ∨ Cor rows x' y2') := by
  obtain ⟨k1, e1⟩ : ∃ k, r1.a + r1.b * k = 0 := ⟨-r1.a / r1.b, by grind⟩
  obtain ⟨k2, e2⟩ : ∃ k, r2.a + r2.b * k = 0 := ⟨-r2.a / r2.b, by grind⟩
  obtain ⟨g, hg0, hg⟩ : ∃ g : Rat, g ≠ 0 ∧ 0 ≤ g * (k1 - k2) := by
    by_cases h : 0 ≤ k1 - k2
    · exact ⟨1, by grind, by grind⟩
    · exact ⟨-1, by grind, by grind⟩
  let f := fun (k y : Rat) (r : Row) => (⟨g * (r.a + r.b * k), 0, r.c - r.at x y⟩ : Row)
  have i0 : In (rows.map (f k1 y1) ++ rows.map (f k2 y2)) 0 0 := fun q hq => by
    rcases List.mem_append.mp hq with hq | hq
    · obtain ⟨r, hr, rfl⟩ := List.mem_map.mp hq
      have := h1 r hr
      show g * (r.a + r.b * k1) * 0 + 0 * 0 ≤ r.c - r.at x y1
      grind
    · obtain ⟨r, hr, rfl⟩ := List.mem_map.mp hq
      have := h2 r hr
      show g * (r.a + r.b * k2) * 0 + 0 * 0 ≤ r.c - r.at x y2
      grind
  have hx : ∃ q ∈ rows.map (f k1 y1) ++ rows.map (f k2 y2), 0 < q.a * 1 + q.b * 0 := by
    obtain ⟨r, hr, p⟩ := bnd_row hb (u := g) (v := g * k1) (.inl hg0)
    refine ⟨_, List.mem_append.mpr (.inl (List.mem_map.mpr ⟨r, hr, rfl⟩)), ?_⟩
    show 0 < g * (r.a + r.b * k1) * 1 + 0 * 0
    grind
  obtain ⟨s, hs, hi, q, hq, hp, ht⟩ := walk i0 hx
  have j1 : In rows (x + s * g) (y1 + s * g * k1) := fun r hr => by
    have := hi _ (List.mem_append.mpr (.inl (List.mem_map.mpr ⟨r, hr, rfl⟩)))
    have : g * (r.a + r.b * k1) * (0 + s * 1) + 0 * (0 + s * 0) ≤ r.c - r.at x y1 := this
    grind
  have j2 : In rows (x + s * g) (y2 + s * g * k2) := fun r hr => by
    have := hi _ (List.mem_append.mpr (.inr (List.mem_map.mpr ⟨r, hr, rfl⟩)))
    have : g * (r.a + r.b * k2) * (0 + s * 1) + 0 * (0 + s * 0) ≤ r.c - r.at x y2 := this
    grind
  refine ⟨x + s * g, y1 + s * g * k1, y2 + s * g * k2, j1, j2, by have := nn hs hg; grind, ?_⟩
  have dt : ∀ (r r1 : Row) (k : Rat), r1.a + r1.b * k = 0 → 0 < g * (r.a + r.b * k) → r1.b ≠ 0 → det r1 r ≠ 0 := fun r r1 k e p n z => by
    have e2 : r1.b * (r.a + r.b * k) = - det r1 r := by grind
    rw [z] at e2
    have e3 : r.a + r.b * k = 0 := by grind
    rw [e3] at p
    grind
  rcases List.mem_append.mp hq with hq | hq
  · obtain ⟨r, hr, rfl⟩ := List.mem_map.mp hq
    have hp' : 0 < g * (r.a + r.b * k1) * 1 + 0 * 0 := hp
    have ht' : g * (r.a + r.b * k1) * (0 + s * 1) + 0 * (0 + s * 0) = r.c - r.at x y1 := ht
    exact .inl ⟨j1, r1, m1, r, hr, dt r r1 k1 e1 (by grind) (by grind), by grind, by grind⟩
  · obtain ⟨r, hr, rfl⟩ := List.mem_map.mp hq
    have hp' : 0 < g * (r.a + r.b * k2) * 1 + 0 * 0 := hp
    have ht' : g * (r.a + r.b * k2) * (0 + s * 1) + 0 * (0 + s * 0) = r.c - r.at x y2 := ht
    exact .inr ⟨j2, r2, m2, r, hr, dt r r2 k2 e2 (by grind) (by grind), by grind, by grind⟩
theorem fl_le (x : Rat) : (x.floor : Rat) ≤ x := Rat.floor_le x
theorem lt_fl (x : Rat) : x < (x.floor : Rat) + 1 := by
  rcases Classical.em (x < (x.floor : Rat) + 1) with g | g
  · exact g
  · have h : ((x.floor + 1 : Int) : Rat) ≤ x := by
      rw [Rat.intCast_add]
      have : ((1 : Int) : Rat) = 1 := rfl
      rw [this]
      grind
    have := Rat.le_floor_iff.mpr h
    omega
/-- a whole number in a stretch of length 1 -/
theorem ex_whole {a b : Rat} (h : 1 ≤ b - a) : ∃ n : Int, a ≤ n ∧ (n : Rat) ≤ b := ⟨b.floor, by have := lt_fl b; grind, fl_le b⟩

/-- the slope between: all corners lie between two lines through the ends of the longest stretch -/
theorem slope {rows : List Row} {V : List (Rat × Rat)} (hV : ∀ v ∈ V, In rows v.1 v.2) {t y1 y2 : Rat} (h1 : In rows t y1) (h2 : In rows t y2) (top : ∀ y, In rows t y → y ≤ y1) (bot : ∀ y, In rows t y → y2 ≤ y)
    (best : ∀ x p q, In rows x p → In rows x q → p - q ≤ y1 - y2) : ∃ s : Rat, ∀ v ∈ V, v.2 ≤ y1 + s * (v.1 - t) ∧ y2 + s * (v.1 - t) ≤ v.2 := by
  -- the four ways in which two constraints meet
  have c1 : ∀ v ∈ V, ∀ u ∈ V, v.1 < t → t < u.1 → 0 ≤ (y1 - v.2) * (u.1 - t) + (y1 - u.2) * (t - v.1) := fun v hv u hu a b => by
    have hN : 0 < u.1 - v.1 := by grind
    obtain ⟨l, hl⟩ : ∃ l, l * (u.1 - v.1) = u.1 - t := ⟨(u.1 - t) / (u.1 - v.1), by grind⟩
    have l0 : 0 ≤ l := by
      rcases Classical.em (0 ≤ l) with g | g
      · exact g
      · have := Rat.mul_pos (show 0 < -l by grind) hN
        grind
    have l1 : 0 ≤ 1 - l := by
      rcases Classical.em (0 ≤ 1 - l) with g | g
      · exact g
      · have := Rat.mul_pos (show 0 < l - 1 by grind) hN
        grind
    have m := in_mix (hV v hv) (hV u hu) l0 l1 (by grind)
    rw [show l * v.1 + (1 - l) * u.1 = t by grind] at m
    have z := nn (Rat.le_of_lt hN) (show 0 ≤ y1 - (l * v.2 + (1 - l) * u.2) by have := top _ m; grind)
    have e : (u.1 - v.1) * (y1 - (l * v.2 + (1 - l) * u.2)) = (y1 - v.2) * (u.1 - t) + (y1 - u.2) * (t - v.1) := by grind
    rw [e] at z
    exact z
  have c2 : ∀ v ∈ V, ∀ u ∈ V, v.1 < t → t < u.1 → 0 ≤ (v.2 - y2) * (u.1 - t) + (u.2 - y2) * (t - v.1) := fun v hv u hu a b => by
    have hN : 0 < u.1 - v.1 := by grind
    obtain ⟨l, hl⟩ : ∃ l, l * (u.1 - v.1) = u.1 - t := ⟨(u.1 - t) / (u.1 - v.1), by grind⟩
    have l0 : 0 ≤ l := by
      rcases Classical.em (0 ≤ l) with g | g
      · exact g
      · have := Rat.mul_pos (show 0 < -l by grind) hN
        grind
    have l1 : 0 ≤ 1 - l := by
      rcases Classical.em (0 ≤ 1 - l) with g | g
      · exact g
      · have := Rat.mul_pos (show 0 < l - 1 by grind) hN
        grind
    have m := in_mix (hV v hv) (hV u hu) l0 l1 (by grind)
    rw [show l * v.1 + (1 - l) * u.1 = t by grind] at m
    have z := nn (Rat.le_of_lt hN) (show 0 ≤ (l * v.2 + (1 - l) * u.2) - y2 by have := bot _ m; grind)
    have e : (u.1 - v.1) * ((l * v.2 + (1 - l) * u.2) - y2) = (v.2 - y2) * (u.1 - t) + (u.2 - y2) * (t - v.1) := by grind
    rw [e] at z
    exact z
  -- on one side: e and f are how far v and u are away
  have c3 : ∀ (v u : Rat × Rat) (e f : Rat), In rows v.1 v.2 → In rows u.1 u.2 → 0 < e → 0 < f → (v.1 - t) * f = (u.1 - t) * e → 0 ≤ (y1 - v.2) * f + (u.2 - y2) * e := fun v u e f hv hu he hf hs => by
    by_cases hc : e ≤ f
    · obtain ⟨l, hl⟩ : ∃ l, l * f = e := ⟨e / f, by grind⟩
      have l0 : 0 ≤ l := by
        rcases Classical.em (0 ≤ l) with g | g
        · exact g
        · have := Rat.mul_pos (show 0 < -l by grind) hf
          grind
      have l1 : 0 ≤ 1 - l := by
        rcases Classical.em (0 ≤ 1 - l) with g | g
        · exact g
        · have := Rat.mul_pos (show 0 < l - 1 by grind) hf
          grind
      have m := in_mix h2 hu l1 l0 (by grind)
      have ev : v.1 = (1 - l) * t + l * u.1 := by
        have : f * (v.1 - ((1 - l) * t + l * u.1)) = 0 := by grind
        grind
      rw [← ev] at m
      have z := nn (Rat.le_of_lt hf) (show 0 ≤ (y1 - y2) - (v.2 - ((1 - l) * y2 + l * u.2)) by have := best _ _ _ hv m; grind)
      have e : f * ((y1 - y2) - (v.2 - ((1 - l) * y2 + l * u.2))) = (y1 - v.2) * f + (u.2 - y2) * e := by grind
      rw [e] at z
      exact z
    · obtain ⟨l, hl⟩ : ∃ l, l * e = f := ⟨f / e, by grind⟩
      have l0 : 0 ≤ l := by
        rcases Classical.em (0 ≤ l) with g | g
        · exact g
        · have := Rat.mul_pos (show 0 < -l by grind) he
          grind
      have l1 : 0 ≤ 1 - l := by
        rcases Classical.em (0 ≤ 1 - l) with g | g
        · exact g
        · have := Rat.mul_pos (show 0 < l - 1 by grind) he
          grind
      have m := in_mix h1 hv l1 l0 (by grind)
      have ev : u.1 = (1 - l) * t + l * v.1 := by
        have : e * (u.1 - ((1 - l) * t + l * v.1)) = 0 := by grind
        grind
      rw [← ev] at m
      have z := nn (Rat.le_of_lt he) (show 0 ≤ (y1 - y2) - (((1 - l) * y1 + l * v.2) - u.2) by have := best _ _ _ m hu; grind)
      have e : e * ((y1 - y2) - (((1 - l) * y1 + l * v.2) - u.2)) = (y1 - v.2) * f + (u.2 - y2) * e := by grind
      rw [e] at z
      exact z
  obtain ⟨s, hs⟩ := helly1 (V.map (fun v => (-(v.1 - t), y1 - v.2)) ++ V.map (fun v => (v.1 - t, v.2 - y2))) (by
    have at0 : ∀ v ∈ V, v.1 = t → v.2 ≤ y1 ∧ y2 ≤ v.2 := fun v hv e => by
      have := hV v hv
      rw [e] at this
      exact ⟨top _ this, bot _ this⟩
    intro p1 hp1 q1 hq1
    rcases List.mem_append.mp hp1 with hp1 | hp1 <;> rcases List.mem_append.mp hq1 with hq1 | hq1 <;> obtain ⟨p, hp, rfl⟩ := List.mem_map.mp hp1 <;> obtain ⟨q, hq, rfl⟩ := List.mem_map.mp hq1 <;> refine pair1 ?_ ?_ ?_ ?_
    · intro e; have := at0 p hp (by grind); grind
    · intro e; have := at0 q hq (by grind); grind
    · intro e f
      have := c1 p hp q hq (by grind) (by grind)
      grind
    · intro e f
      have := c1 q hq p hp (by grind) (by grind)
      grind
    · intro e; have := at0 p hp (by grind); grind
    · intro e; have := at0 q hq (by grind); grind
    · intro e f
      have := c3 p q (t - p.1) (t - q.1) (hV p hp) (hV q hq) (by grind) (by grind) (by grind)
      grind
    · intro e f
      have := c3 p q (p.1 - t) (q.1 - t) (hV p hp) (hV q hq) (by grind) (by grind) (by grind)
      grind
    · intro e; have := at0 p hp (by grind); grind
    · intro e; have := at0 q hq (by grind); grind
    · intro e f
      have := c3 q p (q.1 - t) (p.1 - t) (hV q hq) (hV p hp) (by grind) (by grind) (by grind)
      grind
    · intro e f
      have := c3 q p (t - q.1) (t - p.1) (hV q hq) (hV p hp) (by grind) (by grind) (by grind)
      grind
    · intro e; have := at0 p hp (by grind); grind
    · intro e; have := at0 q hq (by grind); grind
    · intro e f
      have := c2 q hq p hp (by grind) (by grind)
      grind
    · intro e f
      have := c2 p hp q hq (by grind) (by grind)
      grind)
  refine ⟨s, fun v hv => ?_⟩
  have k1 := hs _ (List.mem_append.mpr (.inl (List.mem_map.mpr ⟨v, hv, rfl⟩)))
  have k2 := hs _ (List.mem_append.mpr (.inr (List.mem_map.mpr ⟨v, hv, rfl⟩)))
  exact ⟨by grind, by grind⟩
theorem in_between {rows : List Row} {x p q y : Rat} (hp : In rows x p) (hq : In rows x q) (h1 : q ≤ y) (h2 : y ≤ p) : In rows x y := fun r hr => by
  by_cases h : 0 ≤ r.b
  · have := nn h (show 0 ≤ p - y by grind)
    have := hp r hr
    grind
  · have := nn (show 0 ≤ -r.b by grind) (show 0 ≤ y - q by grind)
    have := hq r hr
    grind
theorem half_mul {d e w : Rat} (h1 : -(1 / 2) ≤ d) (h2 : d ≤ 1 / 2) (h3 : -w ≤ e) (h4 : e ≤ w) : d * e ≤ w / 2 := by
  by_cases he : 0 ≤ e
  · have := Rat.mul_le_mul_of_nonneg_right h2 he
    grind
  · have := Rat.mul_le_mul_of_nonneg_right (show -d ≤ 1 / 2 by grind) (show 0 ≤ -e by grind)
    grind
/-- from the ends of a stretch towards a far point: a stretch of 1 at the next whole number -/
theorem towards {rows : List Row} {t y1 y2 x y T w : Rat} (h1 : In rows t y1) (h2 : In rows t y2) (h : In rows x y) (hl : w / 2 ≤ y1 - y2) (hw : 4 ≤ w) {e r : Rat} (he0 : 0 ≤ e) (he1 : e < 1) (hr : w / 2 ≤ r) (hT : (T - t) * r = e * (x - t)) : ∃ Y : Int, In rows T Y := by
  have r0 : 0 < r := by grind
  obtain ⟨l, hl'⟩ : ∃ l, l * r = e := ⟨e / r, by grind⟩
  have l0 : 0 ≤ l := by
    rcases Classical.em (0 ≤ l) with g | g
    · exact g
    · have := Rat.mul_pos (show 0 < -l by grind) r0
      grind
  have l1 : 0 ≤ 1 - l := by
    rcases Classical.em (0 ≤ 1 - l) with g | g
    · exact g
    · have := Rat.mul_pos (show 0 < l - 1 by grind) r0
      grind
  have m1 := in_mix h1 h l1 l0 (by grind)
  have m2 := in_mix h2 h l1 l0 (by grind)
  have ev : (1 - l) * t + l * x = T := by
    have : r * (T - ((1 - l) * t + l * x)) = 0 := by grind
    grind
  rw [ev] at m1 m2
  have k1 := nn l0 (show 0 ≤ r - w / 2 by grind)
  have k2 := nn l1 (show 0 ≤ (y1 - y2) - w / 2 by grind)
  obtain ⟨n, n1, n2⟩ := ex_whole (a := (1 - l) * y2 + l * y) (b := (1 - l) * y1 + l * y) (by grind)
  exact ⟨n, in_between m1 m2 n1 n2⟩
theorem cl_le (x : Rat) : x ≤ ((-(-x).floor : Int) : Rat) := by
  have := fl_le (-x)
  rw [Rat.intCast_neg]
  grind
theorem cl_lt (x : Rat) : ((-(-x).floor : Int) : Rat) < x + 1 := by
  have := lt_fl (-x)
  rw [Rat.intCast_neg]
  grind
/-- a region that is at least 4 wide in each of some directions has a whole point, on one of a few lines -/
theorem strip {rows : List Row} {V : List (Rat × Rat)} (hb : Bnd rows) (hV : ∀ v ∈ V, Cor rows v.1 v.2) (hC : ∀ x y, Cor rows x y → (x, y) ∈ V) (hne : V ≠ []) {w : Rat} (hw : ∀ v ∈ V, ∀ u ∈ V, v.1 - u.1 ≤ w) (hw2 : ∃ v ∈ V, ∃ u ∈ V, v.1 - u.1 = w) (h4 : 4 ≤ w)
    (hk : ∀ k : Int, ∃ v ∈ V, ∃ u ∈ V, w ≤ (v.2 - k * v.1) - (u.2 - k * u.1)) : ∃ v ∈ V, ∃ T Y : Int, (T = v.1.floor ∨ T = -(-v.1).floor) ∧ In rows T Y := by
  obtain ⟨v0, hv0, m, ⟨p0, q0, hp0, hq0, em⟩, best0⟩ := ex_most (P := fun v m => ∃ p q, In rows v.1 p ∧ In rows v.1 q ∧ m = p - q) V hne fun v hv => by
    obtain ⟨p, _, h1, _, h2⟩ := top hb (hV v hv).mem
    obtain ⟨q, _, h3, _, h4⟩ := bottom hb (hV v hv).mem
    exact ⟨p - q, ⟨p, q, h1, h3, rfl⟩, fun m' ⟨p', q', h5, h6, e⟩ => by
      have := h2 _ h5
      have := h4 _ h6
      grind⟩
  obtain ⟨y1, _, h1, _, top1⟩ := top hb hp0
  obtain ⟨y2, _, h2, _, bot2⟩ := bottom hb hp0
  have best : ∀ x p q, In rows x p → In rows x q → p - q ≤ y1 - y2 := fun x p q hp hq => by
    obtain ⟨p1, a1, a2, ⟨r1, a3, a4, a5⟩, _⟩ := top hb hp
    obtain ⟨q1, b1, b2, ⟨r2, b3, b4, b5⟩, _⟩ := bottom hb hq
    obtain ⟨x', p2, q2, c1, c2, c3, c4⟩ := chord1 hb a2 b2 a3 b3 a4 b4 a5 b5
    have : p2 - q2 ≤ m := by
      rcases c4 with c4 | c4
      · exact best0 _ (hC _ _ c4) _ ⟨p2, q2, c1, c2, rfl⟩
      · exact best0 _ (hC _ _ c4) _ ⟨p2, q2, c1, c2, rfl⟩
    have := top1 _ hp0
    have := bot2 _ hq0
    grind
  obtain ⟨s, hs⟩ := slope (V := V) (fun v hv => (hV v hv).mem) h1 h2 top1 bot2 best
  have k1 := fl_le (s + 1 / 2)
  have k2 := lt_fl (s + 1 / 2)
  have hl : w / 2 ≤ y1 - y2 := by
    obtain ⟨v, hv, u, hu, e⟩ := hk (s + 1 / 2).floor
    have a1 := (hs v hv).1
    have a2 := (hs u hu).2
    have b1 := hw v hv u hu
    have b2 := hw u hu v hv
    generalize ((s + 1 / 2).floor : Rat) = k at *
    have := half_mul (d := s - k) (e := v.1 - u.1) (w := w) (by grind) (by grind) (by grind) b1
    have ee : (v.2 - k * v.1) - (u.2 - k * u.1) = (v.2 - u.2) - k * (v.1 - u.1) := by grind
    rw [ee] at e
    have e3 : (s - k) * (v.1 - u.1) = s * (v.1 - v0.1) - s * (u.1 - v0.1) - k * (v.1 - u.1) := by grind
    grind
  obtain ⟨v, hv, u, hu, e⟩ := hw2
  by_cases side : w / 2 ≤ v.1 - v0.1
  · have c1 := cl_le v0.1
    have c2 := cl_lt v0.1
    refine ⟨v0, hv0, -(-v0.1).floor, ?_⟩
    obtain ⟨Y, hY⟩ := towards (T := ((-(-v0.1).floor : Int) : Rat)) h1 h2 (hV v hv).mem hl h4 (e := ((-(-v0.1).floor : Int) : Rat) - v0.1) (by grind) (by grind) side rfl
    exact ⟨Y, .inr rfl, hY⟩
  · have c1 := fl_le v0.1
    have c2 := lt_fl v0.1
    refine ⟨v0, hv0, v0.1.floor, ?_⟩
    obtain ⟨Y, hY⟩ := towards (T := (v0.1.floor : Rat)) h1 h2 (hV u hu).mem hl h4 (e := v0.1 - (v0.1.floor : Rat)) (r := v0.1 - u.1) (by grind) (by grind) (by grind) (by grind)
    exact ⟨Y, .inl rfl, hY⟩
end Geo
set_option linter.all false
namespace Geo
theorem mz {a x : Rat} (h : 0 < a) (e : a * x = 0) : x = 0 := by grind
/-! ### directions without end -/
/-- a direction beside a row, or against it -/
abbrev Side (r : Row) (d e : Rat) : Prop := (d = -r.b ∧ e = r.a) ∨ (d = r.b ∧ e = -r.a) ∨ (d = -r.a ∧ e = -r.b)
abbrev nz (r : Row) : Prop := r.a ≠ 0 ∨ r.b ≠ 0
/-- an open direction along the line of a row: a side of the row is open -/
theorem side_of {rows : List Row} {r : Row} (hr : r ∈ rows) (hz : nz r) {d e : Rat} (h : Opn rows d e) (hd : d ≠ 0 ∨ e ≠ 0) (ht : r.a * d + r.b * e = 0) : Opn rows (-r.b) r.a ∨ Opn rows r.b (-r.a) := by
  -- (d, e) = l (-b, a)
  have hN := sq_pos hz
  obtain ⟨l, hl⟩ : ∃ l, l * (r.a * r.a + r.b * r.b) = r.a * e - r.b * d := ⟨(r.a * e - r.b * d) / (r.a * r.a + r.b * r.b), by grind⟩
  have e1 : d = l * (-r.b) := by
    have := mz hN (show (r.a * r.a + r.b * r.b) * (d - l * (-r.b)) = 0 by grind)
    grind
  have e2 : e = l * r.a := by
    have := mz hN (show (r.a * r.a + r.b * r.b) * (e - l * r.a) = 0 by grind)
    grind
  have l0 : l ≠ 0 := fun z => by
    rw [z] at e1 e2
    rcases hd with h | h
    · exact h (by grind)
    · exact h (by grind)
  clear hl hd
  subst e1
  subst e2
  by_cases lp : 0 < l
  · refine .inl fun q hq => ?_
    have := h q hq
    rcases Classical.em (q.a * (-r.b) + q.b * r.a ≤ 0) with g | g
    · exact g
    · have := Rat.mul_pos lp (show 0 < q.a * (-r.b) + q.b * r.a by grind)
      grind
  · refine .inr fun q hq => ?_
    have := h q hq
    rcases Classical.em (q.a * r.b + q.b * (-r.a) ≤ 0) with g | g
    · exact g
    · have := Rat.mul_pos (show 0 < -l by grind) (show 0 < q.a * r.b + q.b * (-r.a) by grind)
      grind
/-- turning an open direction on towards another one until a row bars it -/
theorem turn_on {rows : List Row} {d e u v : Rat} (h : Opn rows d e) (hb : ∃ r ∈ rows, 0 < r.a * u + r.b * v) : ∃ t, 0 ≤ t ∧ Opn rows (d + t * u) (e + t * v) ∧ ∃ r ∈ rows, 0 < r.a * u + r.b * v ∧ r.a * (d + t * u) + r.b * (e + t * v) = 0 := by
  obtain ⟨t, t0, hi, q, hq, hp, ht⟩ := walk (rows := rows.map fun r => ⟨r.a, r.b, 0⟩) (x := d) (y := e) (u := u) (v := v) (fun q hq => by
    obtain ⟨r, hr, rfl⟩ := List.mem_map.mp hq
    exact h r hr) (by
    obtain ⟨r, hr, p⟩ := hb
    exact ⟨_, List.mem_map.mpr ⟨r, hr, rfl⟩, p⟩)
  obtain ⟨r, hr, rfl⟩ := List.mem_map.mp hq
  exact ⟨t, t0, fun r hr => hi _ (List.mem_map.mpr ⟨r, hr, rfl⟩), r, hr, hp, ht⟩
/-- if a further one is, off the line of the first one, one of the sides of rows is -/
theorem open_more {rows : List Row} (hz : ∃ r ∈ rows, nz r) {d e u v : Rat} (h : Opn rows d e) (g : Opn rows u v) (hd : d * v - e * u ≠ 0) : ∃ r ∈ rows, nz r ∧ ∃ p q, Side r p q ∧ Opn rows p q ∧ d * q - e * p ≠ 0 := by
  by_cases b : ∃ r ∈ rows, 0 < r.a * (-d) + r.b * (-e)
  · obtain ⟨t, t0, ho, r, hr, p, ht⟩ := turn_on g b
    have hnz : nz r := by
      by_cases ha : r.a = 0
      · by_cases hb : r.b = 0
        · rw [ha, hb] at p; grind
        · exact .inr hb
      · exact .inl ha
    have hn : u + t * (-d) ≠ 0 ∨ v + t * (-e) ≠ 0 := by
      by_cases h1 : u + t * (-d) = 0
      · by_cases h2 : v + t * (-e) = 0
        · exact absurd (by grind) hd
        · exact .inr h2
      · exact .inl h1
    rcases side_of hr hnz ho hn ht with k | k
    · exact ⟨r, hr, hnz, _, _, .inl ⟨rfl, rfl⟩, k, by grind⟩
    · exact ⟨r, hr, hnz, _, _, .inr (.inl ⟨rfl, rfl⟩), k, by grind⟩
  · obtain ⟨r, hr, hnz⟩ := hz
    have al : ∀ q ∈ rows, q.a * d + q.b * e = 0 := fun q hq => by
      have h1 : ¬ 0 < q.a * (-d) + q.b * (-e) := fun z => b ⟨q, hq, z⟩
      have h2 := h q hq
      grind
    have h1 := al r hr
    have h2 := g r hr
    have hN := sq_pos hnz
    refine ⟨r, hr, hnz, _, _, .inr (.inr ⟨rfl, rfl⟩), fun q hq => ?_, fun z => ?_⟩
    · -- q = l r with l ≥ 0
      have h3 := al q hq
      have h4 := g q hq
      have dn : d ≠ 0 ∨ e ≠ 0 := by
        by_cases a1 : d = 0
        · by_cases a2 : e = 0
          · rw [a1, a2] at hd; exact absurd (by grind) hd
          · exact .inr a2
        · exact .inl a1
      have dN := sq_pos dn
      have hp : det r q = 0 := mz dN (show (d * d + e * e) * det r q = 0 by grind)
      obtain ⟨l, e1, e2⟩ := par_of hnz hp
      have ru : r.a * u + r.b * v ≠ 0 := fun z => by
        have k1 : r.a * (d * v - e * u) = 0 := by grind
        have k2 : r.b * (d * v - e * u) = 0 := by grind
        rcases hnz with n | n
        · grind
        · grind
      have l0 : 0 ≤ l := by
        rcases Classical.em (0 ≤ l) with k | k
        · exact k
        · have := Rat.mul_pos (show 0 < -l by grind) (show 0 < -(r.a * u + r.b * v) by grind)
          rw [e1, e2] at h4
          grind
      have := nn l0 (Rat.le_of_lt hN)
      rw [e1, e2]
      grind
    · have k1 : (d * d + e * e) * (r.a * r.a + r.b * r.b) = 0 := by grind
      have dn : d ≠ 0 ∨ e ≠ 0 := by
        by_cases a1 : d = 0
        · by_cases a2 : e = 0
          · rw [a1, a2] at hd; exact absurd (by grind) hd
          · exact .inr a2
        · exact .inl a1
      have dN := sq_pos dn
      have := Rat.mul_pos dN hN
      grind
/-- between two open directions off one line every row falls -/
theorem between {rows : List Row} {d e u v : Rat} (h : Opn rows d e) (g : Opn rows u v) (hd : d * v - e * u ≠ 0) {r : Row} (hr : r ∈ rows) (hz : nz r) : r.a * (d + u) + r.b * (e + v) < 0 := by
  have h1 := h r hr
  have h2 := g r hr
  rcases Classical.em (r.a * (d + u) + r.b * (e + v) < 0) with k | k
  · exact k
  · have e1 : r.a * d + r.b * e = 0 := by grind
    have e2 : r.a * u + r.b * v = 0 := by grind
    have k1 : r.a * (d * v - e * u) = 0 := by grind
    have k2 : r.b * (d * v - e * u) = 0 := by grind
    rcases hz with n | n
    · grind
    · grind
end Geo
set_option linter.all false
namespace Geo
/-! ### rows and points of whole numbers -/
abbrev IR := Int × Int × Int
def toR (r : IR) : Row := ⟨r.1, r.2.1, r.2.2⟩
def RR (rows : List IR) : List Row := rows.map toR
def Has (rows : List IR) (x y : Int) : Prop := ∀ r ∈ rows, r.1 * x + r.2.1 * y ≤ r.2.2
abbrev idet (r q : IR) : Int := r.1 * q.2.1 - r.2.1 * q.1
/-- the point (x / d, y / d) keeps a row -/
abbrev Keep (r p : IR) : Prop := r.1 * p.1 + r.2.1 * p.2.1 ≤ r.2.2 * p.2.2
abbrev Tight (r p : IR) : Prop := r.1 * p.1 + r.2.1 * p.2.1 = r.2.2 * p.2.2
def Pnt (p : IR) : Rat × Rat := ((p.1 : Rat) / (p.2.2 : Rat), (p.2.1 : Rat) / (p.2.2 : Rat))

theorem ile {a b : Int} : ((a : Rat) ≤ (b : Rat)) ↔ a ≤ b := Rat.intCast_le_intCast
theorem ilt {a b : Int} : ((a : Rat) < (b : Rat)) ↔ a < b := Rat.intCast_lt_intCast
theorem ieq {a b : Int} : ((a : Rat) = (b : Rat)) ↔ a = b := Rat.intCast_inj
theorem has_in {rows : List IR} {x y : Int} : Has rows x y ↔ In (RR rows) x y := by
  constructor
  · intro h r hr
    obtain ⟨q, hq, rfl⟩ := List.mem_map.mp hr
    have := ile.mpr (h q hq)
    rw [Rat.intCast_add, Rat.intCast_mul, Rat.intCast_mul] at this
    exact this
  · intro h r hr
    have := h _ (List.mem_map.mpr ⟨r, hr, rfl⟩)
    apply ile.mp
    rw [Rat.intCast_add, Rat.intCast_mul, Rat.intCast_mul]
    exact this
/-- a corner as the program has it -/
structure Crn (rows : List IR) (p : IR) : Prop where
  pos : 0 < p.2.2
  keep : ∀ r ∈ rows, Keep r p
  two : ∃ r ∈ rows, ∃ q ∈ rows, idet r q ≠ 0 ∧ Tight r p ∧ Tight q p
/-- all corners -/
structure Crns (rows V : List IR) : Prop where
  crn : ∀ p ∈ V, Crn rows p
  all : ∀ x y, Cor (RR rows) x y → ∃ p ∈ V, x = (Pnt p).1 ∧ y = (Pnt p).2
/-- where the lines of two rows meet -/
structure Meet (r q p : IR) : Prop where
  pos : 0 < p.2.2
  one : Tight r p
  two : Tight q p
end Geo
set_option linter.all false
namespace Geo
/-! ### widths -/
abbrev P2 := Int × Int
def dot (v p : P2) : Int := v.1 * p.1 + v.2 * p.2
/-- how far points are apart in a direction -/
def wd (pts : List P2) (v : P2) : Int := (pts.map (dot v)).max?.getD 0 - (pts.map (dot v)).min?.getD 0
theorem max_ex {l : List Int} (h : l ≠ []) : ∃ m, l.max? = some m ∧ m ∈ l ∧ ∀ x ∈ l, x ≤ m := by
  cases e : l.max? with
  | none => rw [List.max?_eq_none_iff] at e; exact absurd e h
  | some m => exact ⟨m, rfl, List.max?_eq_some_iff.mp e⟩
theorem min_ex {l : List Int} (h : l ≠ []) : ∃ m, l.min? = some m ∧ m ∈ l ∧ ∀ x ∈ l, m ≤ x := by
  cases e : l.min? with
  | none => rw [List.min?_eq_none_iff] at e; exact absurd e h
  | some m => exact ⟨m, rfl, List.min?_eq_some_iff.mp e⟩
theorem wd_eq {pts : List P2} {v : P2} {M m : Int} (h1 : M ∈ pts.map (dot v)) (h2 : ∀ x ∈ pts.map (dot v), x ≤ M) (h3 : m ∈ pts.map (dot v)) (h4 : ∀ x ∈ pts.map (dot v), m ≤ x) : wd pts v = M - m := by
  unfold wd
  rw [List.max?_eq_some_iff.mpr ⟨h1, h2⟩, List.min?_eq_some_iff.mpr ⟨h3, h4⟩]
  rfl
theorem wd_le {pts : List P2} {v p q : P2} (hp : p ∈ pts) (hq : q ∈ pts) : dot v p - dot v q ≤ wd pts v := by
  have hne : pts.map (dot v) ≠ [] := fun z => by
    rw [List.map_eq_nil_iff] at z
    rw [z] at hp
    cases hp
  obtain ⟨M, e1, m1, g1⟩ := max_ex hne
  obtain ⟨m, e2, m2, g2⟩ := min_ex hne
  rw [wd_eq m1 g1 m2 g2]
  have := g1 _ (List.mem_map.mpr ⟨p, hp, rfl⟩)
  have := g2 _ (List.mem_map.mpr ⟨q, hq, rfl⟩)
  omega
theorem wd_ex {pts : List P2} (h : pts ≠ []) (v : P2) : ∃ p ∈ pts, ∃ q ∈ pts, dot v p - dot v q = wd pts v := by
  have hne : pts.map (dot v) ≠ [] := fun z => h (List.map_eq_nil_iff.mp z)
  obtain ⟨M, e1, m1, g1⟩ := max_ex hne
  obtain ⟨m, e2, m2, g2⟩ := min_ex hne
  rw [wd_eq m1 g1 m2 g2]
  obtain ⟨p, hp, rfl⟩ := List.mem_map.mp m1
  obtain ⟨q, hq, rfl⟩ := List.mem_map.mp m2
  exact ⟨p, hp, q, hq, rfl⟩
theorem wd_nn {pts : List P2} (h : pts ≠ []) (v : P2) : 0 ≤ wd pts v := by
  obtain ⟨p, hp⟩ := List.exists_mem_of_ne_nil pts h
  have := wd_le (v := v) hp hp
  omega
/-- v less so many times u -/
def less (v u : P2) (k : Int) : P2 := (v.1 - k * u.1, v.2 - k * u.2)
theorem dot_less {v u p : P2} {k : Int} : dot (less v u k) p = dot v p - k * dot u p := by
  unfold dot less
  grind
theorem dot_neg {v p : P2} : dot (-v.1, -v.2) p = - dot v p := by
  unfold dot
  grind
theorem wd_neg {pts : List P2} (h : pts ≠ []) (v : P2) : wd pts (-v.1, -v.2) = wd pts v := by
  obtain ⟨p, hp, q, hq, e⟩ := wd_ex h v
  obtain ⟨p', hp', q', hq', e'⟩ := wd_ex h (-v.1, -v.2)
  have h1 := wd_le (v := (-v.1, -v.2)) hq hp
  have h2 := wd_le (v := v) hq' hp'
  rw [dot_neg, dot_neg] at e' h1
  omega
theorem wd_far {pts : List P2} (h : pts ≠ []) (v u : P2) (k : Int) : (k.natAbs : Int) * wd pts u ≤ wd pts (less v u k) + wd pts v := by
  obtain ⟨p, hp, q, hq, e⟩ := wd_ex h u
  rcases Int.le_total 0 k with hk | hk
  · have h1 := wd_le (v := less v u k) hq hp
    have h2 := wd_le (v := v) hp hq
    rw [dot_less, dot_less] at h1
    rw [show ((k.natAbs : Int)) = k by omega, ← e]
    grind
  · have h1 := wd_le (v := less v u k) hp hq
    have h2 := wd_le (v := v) hq hp
    rw [dot_less, dot_less] at h1
    rw [show ((k.natAbs : Int)) = -k by omega, ← e]
    grind
/-- a function that bends upwards -/
abbrev Bends (g : Int → Int) : Prop := ∀ k, 2 * g k ≤ g (k - 1) + g (k + 1)
theorem bends_up {g : Int → Int} (h : Bends g) {m : Int} (hm : g m ≤ g (m + 1)) : ∀ n : Nat, g (m + 1 + n) ≤ g (m + 1 + n + 1) ∧ g m ≤ g (m + 1 + n)
  | 0 => by
    have := h (m + 1)
    rw [show m + 1 - 1 = m by omega] at this
    simp only [Int.natCast_zero, Int.add_zero] at *
    exact ⟨by omega, hm⟩
  | n + 1 => by
    obtain ⟨h1, h2⟩ := bends_up h hm n
    have := h (m + 1 + n + 1)
    rw [show m + 1 + (n : Int) + 1 - 1 = m + 1 + n by omega] at this
    rw [show m + 1 + ((n + 1 : Nat) : Int) = m + 1 + n + 1 by omega]
    exact ⟨by omega, by omega⟩
theorem bends_down {g : Int → Int} (h : Bends g) {m : Int} (hm : g (m + 1) < g m) : ∀ n : Nat, g (m + 1) < g (m - n) ∧ g (m - n) < g (m - n - 1)
  | 0 => by
    have := h m
    simp only [Int.natCast_zero, Int.sub_zero] at *
    exact ⟨hm, by omega⟩
  | n + 1 => by
    obtain ⟨h1, h2⟩ := bends_down h hm n
    have := h (m - n - 1)
    rw [show m - (n : Int) - 1 + 1 = m - n by omega] at this
    rw [show m - ((n + 1 : Nat) : Int) = m - n - 1 by omega]
    exact ⟨by omega, by omega⟩
theorem bends_ge {g : Int → Int} (h : Bends g) {m k : Int} (hm : g m ≤ g (m + 1)) (hk : m < k) : g m ≤ g k := by
  have := (bends_up h hm (k - m - 1).toNat).2
  rw [show m + 1 + ((k - m - 1).toNat : Int) = k by omega] at this
  exact this
theorem bends_lt {g : Int → Int} (h : Bends g) {m k : Int} (hm : g (m + 1) < g m) (hk : k ≤ m) : g (m + 1) < g k := by
  have := (bends_down h hm (m - k).toNat).1
  rw [show m - ((m - k).toNat : Int) = k by omega] at this
  exact this
/-! ### how great a direction gets -/
/-- from two ways that are not parallel -/
theorem cramer {v d e : P2} {s t : Int} (h1 : dot v d = s) (h2 : dot v e = t) : v.1 * (d.1 * e.2 - d.2 * e.1) = s * e.2 - t * d.2 ∧ v.2 * (d.1 * e.2 - d.2 * e.1) = t * d.1 - s * e.1 := by
  subst h1
  subst h2
  unfold dot
  exact ⟨by grind, by grind⟩
theorem le_mul_ne {a b c : Int} (hb : b ≠ 0) (h : a * b = c) : a.natAbs ≤ c.natAbs := by
  rw [← h, Int.natAbs_mul]
  exact Nat.le_mul_of_pos_right _ (by omega)
/-- of two directions of determinant 1 and a way: each part of the first one -/
theorem ways {u v d : P2} (h : u.1 * v.2 - u.2 * v.1 = 1) : d.1 = dot u d * v.2 - dot v d * u.2 ∧ d.2 = dot v d * u.1 - dot u d * v.1 := by
  unfold dot
  exact ⟨by grind, by grind⟩
theorem near_half {s t : Int} (hs : s ≠ 0) : ∃ k : Int, 2 * (t - k * s).natAbs ≤ s.natAbs := by
  have key : ∀ s : Int, 0 < s → ∃ k : Int, 2 * (t - k * s).natAbs ≤ s.natAbs := fun s hs => by
    refine ⟨(2 * t + s) / (2 * s), ?_⟩
    have h1 := Int.mul_ediv_add_emod (2 * t + s) (2 * s)
    have h2 := Int.emod_nonneg (2 * t + s) (show 2 * s ≠ 0 by omega)
    have h3 := Int.emod_lt_of_pos (2 * t + s) (show 0 < 2 * s by omega)
    have e : 2 * s * ((2 * t + s) / (2 * s)) = 2 * (((2 * t + s) / (2 * s)) * s) := by grind
    omega
  rcases Int.lt_or_lt_of_ne hs with h | h
  · obtain ⟨k, hk⟩ := key (-s) (by omega)
    refine ⟨-k, ?_⟩
    rw [show -k * s = k * -s by grind]
    omega
  · exact key s h
end Geo
set_option linter.all false
namespace Geo
/-! ### the strip over whole numbers -/
/-- a point a corner stands for, so many times -/
def sc (L : Int) (p : IR) : P2 := (p.1 * (L / p.2.2), p.2.1 * (L / p.2.2))
def rdot (v : P2) (x y : Rat) : Rat := v.1 * x + v.2 * y
/-- a row over X = u x and Y = v x -/
def trR (u v : P2) (r : Row) : Row := ⟨r.a * v.2 - r.b * v.1, u.1 * r.b - u.2 * r.a, r.c⟩
section
variable {u v : P2} {rows : List Row}
end
end Geo
set_option linter.all false
namespace Geo
/-! ### open directions of whole rows -/
def iOpn (rows : List IR) (d : P2) : Prop := ∀ r ∈ rows, r.1 * d.1 + r.2.1 * d.2 ≤ 0
abbrev inz (r : IR) : Prop := r.1 ≠ 0 ∨ r.2.1 ≠ 0
theorem iopn {rows : List IR} {d : P2} : iOpn rows d ↔ Opn (RR rows) d.1 d.2 := by
  constructor
  · intro h r hr
    obtain ⟨q, hq, rfl⟩ := List.mem_map.mp hr
    have := ile.mpr (h q hq)
    rw [Rat.intCast_add, Rat.intCast_mul, Rat.intCast_mul] at this
    exact this
  · intro h r hr
    have := h _ (List.mem_map.mpr ⟨r, hr, rfl⟩)
    apply ile.mp
    rw [Rat.intCast_add, Rat.intCast_mul, Rat.intCast_mul]
    exact this
/-- the sides of a row, without a common divisor -/
def iSide (r : IR) (d : P2) : Prop := let g : Int := Int.gcd r.1 r.2.1
  d = (0 - r.2.1 / g, r.1 / g) ∨ d = (r.2.1 / g, 0 - r.1 / g) ∨ d = (0 - r.1 / g, 0 - r.2.1 / g)
theorem gpos {a b : Int} (h : a ≠ 0 ∨ b ≠ 0) : 0 < (Int.gcd a b : Int) := by
  have : 0 < Int.gcd a b := Int.gcd_pos_iff.mpr h
  omega
theorem side_prim {r : IR} (hz : inz r) {d : P2} (h : iSide r d) : Int.gcd d.1 d.2 = 1 := by
  have gp := gpos hz
  have hg : 0 < Int.gcd r.1 r.2.1 := Int.gcd_pos_iff.mpr hz
  have e := Int.gcd_ediv_gcd_ediv_gcd hg
  unfold iSide at h
  rcases h with rfl | rfl | rfl
  · show Int.gcd (0 - r.2.1 / (Int.gcd r.1 r.2.1 : Int)) (r.1 / (Int.gcd r.1 r.2.1 : Int)) = 1
    rw [Int.zero_sub, Int.neg_gcd, Int.gcd_comm]; exact e
  · show Int.gcd (r.2.1 / (Int.gcd r.1 r.2.1 : Int)) (0 - r.1 / (Int.gcd r.1 r.2.1 : Int)) = 1
    rw [Int.zero_sub, Int.gcd_neg, Int.gcd_comm]; exact e
  · show Int.gcd (0 - r.1 / (Int.gcd r.1 r.2.1 : Int)) (0 - r.2.1 / (Int.gcd r.1 r.2.1 : Int)) = 1
    rw [Int.zero_sub, Int.zero_sub, Int.neg_gcd, Int.gcd_neg]; exact e
/-- the list of open sides -/
structure OD (rows : List IR) (V : List P2) : Prop where
  mem : ∀ d ∈ V, iOpn rows d ∧ ∃ r ∈ rows, inz r ∧ iSide r d
  all : ∀ r ∈ rows, inz r → ∀ d, iSide r d → iOpn rows d → d ∈ V
theorem nz_iff {r : IR} : nz (toR r) ↔ inz r := by
  have e : ∀ a : Int, ((a : Rat) ≠ 0) ↔ a ≠ 0 := fun a => by
    have : ((0 : Int) : Rat) = 0 := rfl
    rw [← this]
    exact not_congr ieq
  unfold nz inz
  exact or_congr (e _) (e _)
/-- a side of a row in fractions is one in whole numbers -/
theorem side_int {rows : List IR} {r : IR} (hr : r ∈ rows) (hz : inz r) {p q : Rat} (hs : Side (toR r) p q) (ho : Opn (RR rows) p q) : ∃ d : P2, iSide r d ∧ iOpn rows d ∧ ∃ g : Rat, 0 < g ∧ p = g * d.1 ∧ q = g * d.2 := by
  have hd : ∃ d : P2, iSide r d ∧ ∃ g : Int, 0 < g ∧ p = ((g * d.1 : Int) : Rat) ∧ q = ((g * d.2 : Int) : Rat) := by
    have gp := gpos hz
    have e1 : (Int.gcd r.1 r.2.1 : Int) * (r.1 / (Int.gcd r.1 r.2.1 : Int)) = r.1 := Int.mul_ediv_cancel' (Int.gcd_dvd_left ..)
    have e2 : (Int.gcd r.1 r.2.1 : Int) * (r.2.1 / (Int.gcd r.1 r.2.1 : Int)) = r.2.1 := Int.mul_ediv_cancel' (Int.gcd_dvd_right ..)
    have n : ∀ a b : Int, a * (0 - b) = -(a * b) := fun a b => by rw [Int.zero_sub, Int.mul_neg]
    rcases hs with ⟨rfl, rfl⟩ | ⟨rfl, rfl⟩ | ⟨rfl, rfl⟩
    · exact ⟨_, .inl rfl, _, gp, by rw [n, e2, Rat.intCast_neg]; rfl, by rw [e1]; rfl⟩
    · exact ⟨_, .inr (.inl rfl), _, gp, by rw [e2]; rfl, by rw [n, e1, Rat.intCast_neg]; rfl⟩
    · exact ⟨_, .inr (.inr rfl), _, gp, by rw [n, e1, Rat.intCast_neg]; rfl, by rw [n, e2, Rat.intCast_neg]; rfl⟩
  obtain ⟨d, hd, g, gp, e1, e2⟩ := hd
  have gp' : (0 : Rat) < (g : Rat) := ilt.mpr gp
  rw [Rat.intCast_mul] at e1 e2
  refine ⟨d, hd, iopn.mpr fun s hs => ?_, g, gp', e1, e2⟩
  have := ho s hs
  rw [e1, e2] at this
  rcases Classical.em (s.a * (d.1 : Rat) + s.b * (d.2 : Rat) ≤ 0) with k | k
  · exact k
  · have := Rat.mul_pos gp' (show 0 < s.a * (d.1 : Rat) + s.b * (d.2 : Rat) by grind)
    grind
section
variable {rows : List IR} {V : List P2}
theorem OD.ne (h : OD rows V) {d : P2} (hd : d ∈ V) : d.1 ≠ 0 ∨ d.2 ≠ 0 := by
  obtain ⟨_, r, hr, hz, hs⟩ := h.mem d hd
  have := side_prim hz hs
  by_cases h1 : d.1 = 0
  · by_cases h2 : d.2 = 0
    · rw [h1, h2] at this; simp at this
    · exact .inr h2
  · exact .inl h1
/-- all on one line: so is every open direction -/
theorem OD.line (h : OD rows V) {c : P2} (hc : c ∈ V) (hl : ∀ d ∈ V, c.1 * d.2 - c.2 * d.1 = 0) {d e : Rat} (ho : Opn (RR rows) d e) : (c.1 : Rat) * e - c.2 * d = 0 := by
  rcases Classical.em ((c.1 : Rat) * e - c.2 * d = 0) with g | g
  · exact g
  · exfalso
    obtain ⟨oc, r0, hr0, z0, _⟩ := h.mem c hc
    obtain ⟨r', hr', hn, p, q, hs, hk, hd⟩ := open_more ⟨_, List.mem_map.mpr ⟨r0, hr0, rfl⟩, nz_iff.mpr z0⟩ (iopn.mp oc) ho g
    obtain ⟨r, hr, rfl⟩ := List.mem_map.mp hr'
    have hz := nz_iff.mp hn
    obtain ⟨b, hb, ob, s, sp, e1, e2⟩ := side_int hr hz hs hk
    have := ieq.mpr (hl b (h.all r hr hz b hb ob))
    rw [Rat.intCast_sub, Rat.intCast_mul, Rat.intCast_mul] at this
    apply hd
    rw [e1, e2]
    have z : ((0 : Int) : Rat) = 0 := rfl
    rw [z] at this
    have e3 : (c.1 : Rat) * (s * ((b.2 : Int) : Rat)) - c.2 * (s * ((b.1 : Int) : Rat)) = s * ((c.1 : Rat) * ((b.2 : Int) : Rat) - c.2 * ((b.1 : Int) : Rat)) := by grind
    rw [e3, this]
    grind
end
end Geo
set_option linter.all false
namespace Geo
/-! ### the least times, by halving -/
structure Half (g : Int → Int) (many low high : Int) : Prop where
  l : -many ≤ low
  m : low ≤ high
  h : high ≤ many
  k : ∃ k, low ≤ k ∧ k ≤ high ∧ ∀ j, -many ≤ j → j ≤ many → g k ≤ g j
theorem Half.up {g : Int → Int} (hg : Bends g) {many low high mid : Int} (H : Half g many low high) (h1 : low ≤ mid) (h2 : mid < high) (c : g (mid + 1) < g mid) : Half g many (mid + 1) high := by
  obtain ⟨k, k1, k2, k3⟩ := H.k
  refine ⟨by have := H.l; omega, by omega, H.h, k, ?_, k2, k3⟩
  rcases Int.lt_or_le mid k with z | z
  · omega
  · have := bends_lt hg c z
    have := k3 (mid + 1) (by have := H.l; omega) (by have := H.h; omega)
    omega
theorem Half.down {g : Int → Int} (hg : Bends g) {many low high mid : Int} (H : Half g many low high) (h1 : low ≤ mid) (h2 : mid < high) (c : ¬ g (mid + 1) < g mid) : Half g many low mid := by
  obtain ⟨k, k1, k2, k3⟩ := H.k
  refine ⟨H.l, h1, by have := H.h; omega, ?_⟩
  rcases Int.lt_or_le mid k with z | z
  · have := bends_ge hg (by omega) z
    exact ⟨mid, h1, Int.le_refl _, fun j a b => Int.le_trans this (k3 j a b)⟩
  · exact ⟨k, k1, z, k3⟩
theorem ex_least (g : Int → Int) : ∀ (n : Nat) (a : Int), ∃ k, a ≤ k ∧ k ≤ a + n ∧ ∀ j, a ≤ j → j ≤ a + n → g k ≤ g j
  | 0, a => ⟨a, Int.le_refl _, by omega, fun j h1 h2 => by rw [show j = a by omega]; exact Int.le_refl _⟩
  | n + 1, a => by
    obtain ⟨k, k1, k2, k3⟩ := ex_least g n a
    by_cases h : g k ≤ g (a + n + 1)
    · refine ⟨k, k1, by omega, fun j j1 j2 => ?_⟩
      by_cases e : j = a + n + 1
      · rw [e]; exact h
      · exact k3 j j1 (by omega)
    · refine ⟨a + n + 1, by omega, by omega, fun j j1 j2 => ?_⟩
      by_cases e : j = a + n + 1
      · rw [e]; exact Int.le_refl _
      · have := k3 j j1 (by omega)
        omega
theorem Half.start (g : Int → Int) {many : Int} (h : 0 ≤ many) : Half g many (0 - many) many := by
  obtain ⟨k, k1, k2, k3⟩ := ex_least g (2 * many).toNat (-many)
  exact ⟨by omega, by omega, Int.le_refl _, k, by omega, by omega, fun j a b => k3 j a (by omega)⟩
theorem Half.fin {pts : List P2} (hne : pts ≠ []) {v u : P2} (hu : 0 < wd pts u) {low high : Int} (H : Half (fun k => wd pts (less v u k)) (2 * (wd pts v / wd pts u) + 2) low high) (e : ¬ low < high) (j : Int) : wd pts (less v u low) ≤ wd pts (less v u j) := by
  obtain ⟨k, k1, k2, k3⟩ := H.k
  have ek : k = low := by have := H.m; omega
  subst ek
  have q0 : 0 ≤ wd pts v / wd pts u := Int.ediv_nonneg (wd_nn hne v) (Int.le_of_lt hu)
  by_cases hj : -(2 * (wd pts v / wd pts u) + 2) ≤ j ∧ j ≤ 2 * (wd pts v / wd pts u) + 2
  · exact k3 j hj.1 hj.2
  · have h0 := k3 0 (by omega) (by omega)
    have e0 : less v u 0 = v := by unfold less; simp
    simp only [e0] at h0
    have far := wd_far hne v u j
    have hn : 2 * (wd pts v / wd pts u) + 3 ≤ (j.natAbs : Int) := by omega
    have d1 := Int.mul_ediv_add_emod (wd pts v) (wd pts u)
    have d2 := Int.emod_lt_of_pos (wd pts v) hu
    have := Int.mul_le_mul_of_nonneg_right hn (Int.le_of_lt hu)
    have e : (2 * (wd pts v / wd pts u) + 3) * wd pts u = 2 * (wd pts u * (wd pts v / wd pts u)) + 3 * wd pts u := by grind
    show wd pts (less v u k) ≤ _
    omega
/-! ### how great the directions of a basis get -/
/-- the way from one corner to another one, times both denominators -/
def way (p q : IR) : P2 := (q.1 * p.2.2 - p.1 * q.2.2, q.2.1 * p.2.2 - p.2.1 * q.2.2)
theorem dot_way {L : Int} {p q : IR} (hp : p.2.2 ∣ L) (hq : q.2.2 ∣ L) (v : P2) : dot v (way p q) * L = (dot v (sc L q) - dot v (sc L p)) * (p.2.2 * q.2.2) := by
  obtain ⟨a, ha⟩ := hp
  obtain ⟨b, hb⟩ := hq
  by_cases h1 : p.2.2 = 0
  · rw [h1, Int.zero_mul] at ha
    rw [h1, ha]; simp
  by_cases h2 : q.2.2 = 0
  · rw [h2, Int.zero_mul] at hb
    rw [h2, hb]; simp
  unfold dot way sc
  rw [show L / q.2.2 = b by rw [hb]; exact Int.mul_ediv_cancel_left _ h2, show L / p.2.2 = a by rw [ha]; exact Int.mul_ediv_cancel_left _ h1]
  have e1 : q.2.2 * b = p.2.2 * a := by rw [← ha, ← hb]
  rw [ha]
  grind
structure Vok (N : Nat) (L : Int) (V : List IR) : Prop where
  ne : V ≠ []
  pos : 0 < L
  sm : ∀ p ∈ V, p.1.natAbs < 2 ^ N ∧ p.2.1.natAbs < 2 ^ N ∧ 0 < p.2.2 ∧ p.2.2.natAbs < 2 ^ N
  dv : ∀ p ∈ V, p.2.2 ∣ L
/-- all corners on one line -/
def Deg (V : List IR) : Prop := ∀ p ∈ V, ∀ q ∈ V, ∀ r ∈ V, (way p q).1 * (way p r).2 - (way p q).2 * (way p r).1 = 0
theorem abs_lt {a b : Int} {n : Nat} (ha : a.natAbs < 2 ^ n) (hb : b.natAbs < 2 ^ n) : (a - b).natAbs < 2 ^ (n + 1) := by
  rw [Nat.pow_succ]
  generalize 2 ^ n = k at *
  omega
theorem mul_lt {a b : Int} {n m : Nat} (ha : a.natAbs < 2 ^ n) (hb : b.natAbs < 2 ^ m) : (a * b).natAbs < 2 ^ (n + m) := by
  rw [Int.natAbs_mul, Nat.pow_add]
  exact Nat.mul_lt_mul'' ha hb
theorem way_lt {N : Nat} {L : Int} {V : List IR} (h : Vok N L V) {p q : IR} (hp : p ∈ V) (hq : q ∈ V) : (way p q).1.natAbs < 2 ^ (N + N + 1) ∧ (way p q).2.natAbs < 2 ^ (N + N + 1) := by
  obtain ⟨a1, a2, a3, a4⟩ := h.sm p hp
  obtain ⟨b1, b2, b3, b4⟩ := h.sm q hq
  exact ⟨abs_lt (mul_lt b1 a4) (mul_lt a1 b4), abs_lt (mul_lt b2 a4) (mul_lt a2 b4)⟩
theorem dotw_lt {N : Nat} {L : Int} {V : List IR} (h : Vok N L V) {v : P2} (hv : wd (V.map (sc L)) v ≤ 2 ^ (N + 1) * L) {p q : IR} (hp : p ∈ V) (hq : q ∈ V) : (dot v (way p q)).natAbs < 2 ^ (3 * N + 2) := by
  obtain ⟨a1, a2, a3, a4⟩ := h.sm p hp
  obtain ⟨b1, b2, b3, b4⟩ := h.sm q hq
  have e := dot_way (h.dv p hp) (h.dv q hq) v
  have h1 := wd_le (v := v) (List.mem_map.mpr ⟨q, hq, rfl⟩) (List.mem_map.mpr ⟨p, hp, rfl⟩ : sc L p ∈ V.map (sc L))
  have h2 := wd_le (v := v) (List.mem_map.mpr ⟨p, hp, rfl⟩) (List.mem_map.mpr ⟨q, hq, rfl⟩ : sc L q ∈ V.map (sc L))
  have hL := h.pos
  have h3 : (dot v (sc L q) - dot v (sc L p)).natAbs ≤ 2 ^ (N + 1) * L.natAbs := by
    have e2 : ((2 ^ (N + 1) * L.natAbs : Nat) : Int) = 2 ^ (N + 1) * L := by
      rw [Int.natCast_mul, Int.natCast_pow, Int.natAbs_of_nonneg (Int.le_of_lt hL)]
      rfl
    generalize (2 : Int) ^ (N + 1) * L = w at *
    generalize 2 ^ (N + 1) * L.natAbs = w' at *
    omega
  have h4 := mul_lt a4 b4
  have h5 : (dot v (way p q)).natAbs * L.natAbs < 2 ^ (N + 1) * L.natAbs * 2 ^ (N + N) := by
    rw [← Int.natAbs_mul, e, Int.natAbs_mul]
    refine Nat.lt_of_le_of_lt (Nat.mul_le_mul_right _ h3) ?_
    refine Nat.mul_lt_mul_of_pos_left h4 (Nat.mul_pos (Nat.two_pow_pos _) (by omega))
  have h6 : (dot v (way p q)).natAbs < 2 ^ (N + 1) * 2 ^ (N + N) := by
    refine Nat.lt_of_mul_lt_mul_right (a := L.natAbs) ?_
    refine Nat.lt_of_lt_of_eq h5 ?_
    ac_rfl
  refine Nat.lt_of_lt_of_le h6 ?_
  rw [← Nat.pow_add]
  exact Nat.pow_le_pow_right (by decide) (by omega)
theorem nondeg {N : Nat} {L : Int} {V : List IR} (h : Vok N L V) (hd : ¬ Deg V) {v : P2} (hv : wd (V.map (sc L)) v ≤ 2 ^ (N + 1) * L) : v.1.natAbs < 2 ^ (5 * N + 4) ∧ v.2.natAbs < 2 ^ (5 * N + 4) := by
  obtain ⟨p, hp, q, hq, r, hr, hn⟩ : ∃ p ∈ V, ∃ q ∈ V, ∃ r ∈ V, (way p q).1 * (way p r).2 - (way p q).2 * (way p r).1 ≠ 0 := by
    rcases Classical.em (∃ p ∈ V, ∃ q ∈ V, ∃ r ∈ V, (way p q).1 * (way p r).2 - (way p q).2 * (way p r).1 ≠ 0) with g | g
    · exact g
    · refine absurd (fun p hp q hq r hr => ?_) hd
      rcases Classical.em ((way p q).1 * (way p r).2 - (way p q).2 * (way p r).1 = 0) with k | k
      · exact k
      · exact absurd ⟨p, hp, q, hq, r, hr, k⟩ g
  obtain ⟨c1, c2⟩ := cramer (v := v) (d := way p q) (e := way p r) rfl rfl
  have s1 := dotw_lt h hv hp hq
  have s2 := dotw_lt h hv hp hr
  have w1 := way_lt h hp hq
  have w2 := way_lt h hp hr
  have e : 3 * N + 2 + (N + N + 1) + 1 = 5 * N + 4 := by omega
  have k1 := abs_lt (mul_lt s1 w2.2) (mul_lt s2 w1.2)
  have k2 := abs_lt (mul_lt s2 w1.1) (mul_lt s1 w2.1)
  rw [e] at k1 k2
  exact ⟨Nat.lt_of_le_of_lt (le_mul_ne hn c1) k1, Nat.lt_of_le_of_lt (le_mul_ne hn c2) k2⟩
/-- on one line widths go along -/
theorem deg_wd {N : Nat} {L : Int} {V : List IR} (h : Vok N L V) (hd : Deg V) {p q : IR} (hp : p ∈ V) (hq : q ∈ V) (u v : P2) : wd (V.map (sc L)) u * (dot v (way p q)).natAbs ≤ wd (V.map (sc L)) v * (dot u (way p q)).natAbs := by
  obtain ⟨a, ha, b, hb, e⟩ := wd_ex (fun z => h.ne (List.map_eq_nil_iff.mp z)) u
  obtain ⟨r, hr, rfl⟩ := List.mem_map.mp ha
  obtain ⟨s, hs, rfl⟩ := List.mem_map.mp hb
  -- the way from s to r is along that from p to q
  have par : (sc L r).1 - (sc L s).1 = (sc L r).1 - (sc L s).1 := rfl
  have hpd := (h.sm p hp).2.2.1
  have hqd := (h.sm q hq).2.2.1
  have hrd := (h.sm r hr).2.2.1
  have hsd := (h.sm s hs).2.2.1
  have key : ∀ x ∈ V, (way p q).1 * ((sc L x).2 - (sc L p).2) - (way p q).2 * ((sc L x).1 - (sc L p).1) = 0 := fun x hx => by
    have hxd := (h.sm x hx).2.2.1
    have d1 := dot_way (h.dv p hp) (h.dv x hx) (1, 0)
    have d2 := dot_way (h.dv p hp) (h.dv x hx) (0, 1)
    unfold dot at d1 d2
    simp only [Int.one_mul, Int.zero_mul, Int.add_zero, Int.zero_add] at d1 d2
    have hz := hd p hp q hq x hx
    have e3 : (way p q).1 * ((sc L x).2 - (sc L p).2) - (way p q).2 * ((sc L x).1 - (sc L p).1) = 0 := by
      have hne : p.2.2 * x.2.2 ≠ 0 := Int.mul_ne_zero (by omega) (by omega)
      refine Int.eq_of_mul_eq_mul_right hne ?_
      have e4 : ((way p q).1 * ((sc L x).2 - (sc L p).2) - (way p q).2 * ((sc L x).1 - (sc L p).1)) * (p.2.2 * x.2.2) = ((way p q).1 * (way p x).2 - (way p q).2 * (way p x).1) * L := by grind
      rw [e4, hz]
      simp
    exact e3
  have k1 := key r hr
  have k2 := key s hs
  have lin : ∀ z : P2, dot z (sc L r) - dot z (sc L s) = z.1 * ((sc L r).1 - (sc L s).1) + z.2 * ((sc L r).2 - (sc L s).2) := fun z => by unfold dot; grind
  have cross : (dot u (sc L r) - dot u (sc L s)) * dot v (way p q) = (dot v (sc L r) - dot v (sc L s)) * dot u (way p q) := by
    rw [lin, lin]
    unfold dot
    grind
  have hw := wd_le (v := v) (List.mem_map.mpr ⟨r, hr, rfl⟩) (List.mem_map.mpr ⟨s, hs, rfl⟩ : sc L s ∈ V.map (sc L))
  have hw2 := wd_le (v := v) (List.mem_map.mpr ⟨s, hs, rfl⟩) (List.mem_map.mpr ⟨r, hr, rfl⟩ : sc L r ∈ V.map (sc L))
  have un := wd_nn (pts := V.map (sc L)) (fun z => h.ne (List.map_eq_nil_iff.mp z)) u
  rw [e] at cross
  have c2 := congrArg Int.natAbs cross
  rw [Int.natAbs_mul, Int.natAbs_mul] at c2
  have c3 : ((wd (V.map (sc L)) u).natAbs : Int) = wd (V.map (sc L)) u := Int.natAbs_of_nonneg un
  have c4 : wd (V.map (sc L)) u * (dot v (way p q)).natAbs = (((dot v (sc L r) - dot v (sc L s)).natAbs * (dot u (way p q)).natAbs : Nat) : Int) := by
    rw [← c2, Int.natCast_mul, c3]
  rw [c4, Int.natCast_mul]
  refine Int.mul_le_mul_of_nonneg_right ?_ (by omega)
  omega
/-- the invariant of a basis -/
structure Bas (N : Nat) (L : Int) (V : List IR) (u v : P2) : Prop where
  det : u.1 * v.2 - u.2 * v.1 = 1
  wu : wd (V.map (sc L)) u ≤ 2 ^ (N + 1) * L
  wv : wd (V.map (sc L)) v ≤ 2 ^ (N + 1) * L
  deg : Deg V → u.1.natAbs ≤ 2 ^ (N + N + 2) ∧ u.2.natAbs ≤ 2 ^ (N + N + 2) ∧ v.1.natAbs ≤ 2 ^ (N + N + 2) ∧ v.2.natAbs ≤ 2 ^ (N + N + 2)
theorem Bas.sm {N : Nat} {L : Int} {V : List IR} {u v : P2} (h : Vok N L V) (b : Bas N L V u v) : u.1.natAbs < 2 ^ (5 * N + 4) ∧ u.2.natAbs < 2 ^ (5 * N + 4) ∧ v.1.natAbs < 2 ^ (5 * N + 4) ∧ v.2.natAbs < 2 ^ (5 * N + 4) := by
  by_cases hd : Deg V
  · obtain ⟨h1, h2, h3, h4⟩ := b.deg hd
    have hl : 2 ^ (N + N + 2) < 2 ^ (5 * N + 4) := Nat.pow_lt_pow_right (by decide) (by omega)
    exact ⟨Nat.lt_of_le_of_lt h1 hl, Nat.lt_of_le_of_lt h2 hl, Nat.lt_of_le_of_lt h3 hl, Nat.lt_of_le_of_lt h4 hl⟩
  · have h1 := nondeg h hd b.wu
    have h2 := nondeg h hd b.wv
    exact ⟨h1.1, h1.2, h2.1, h2.2⟩
theorem wd_start {N : Nat} {L : Int} {V : List IR} (h : Vok N L V) {v : P2} (hv : v = (1, 0) ∨ v = (0, 1)) : wd (V.map (sc L)) v ≤ 2 ^ (N + 1) * L := by
  obtain ⟨a, ha, b, hb, e⟩ := wd_ex (pts := V.map (sc L)) (fun z => h.ne (List.map_eq_nil_iff.mp z)) v
  obtain ⟨r, hr, rfl⟩ := List.mem_map.mp ha
  obtain ⟨s, hs, rfl⟩ := List.mem_map.mp hb
  have one : ∀ p ∈ V, ∀ x : Int, x.natAbs < 2 ^ N → (x * (L / p.2.2)).natAbs ≤ 2 ^ N * L.natAbs := fun p hp x hx => by
    obtain ⟨k, hk⟩ := h.dv p hp
    have hpd := (h.sm p hp).2.2.1
    rw [show L / p.2.2 = k by rw [hk]; exact Int.mul_ediv_cancel_left _ (by omega), Int.natAbs_mul]
    refine Nat.mul_le_mul (Nat.le_of_lt hx) ?_
    rw [hk, Int.natAbs_mul]
    exact Nat.le_mul_of_pos_left _ (by omega)
  have hL := h.pos
  have e2 : ((2 ^ N * L.natAbs : Nat) : Int) = 2 ^ N * L := by
    rw [Int.natCast_mul, Int.natCast_pow, Int.natAbs_of_nonneg (Int.le_of_lt hL)]
    rfl
  have e3 : (2 : Int) ^ (N + 1) * L = 2 * (2 ^ N * L) := by rw [Int.pow_succ]; grind
  rw [← e, e3, ← e2]
  rcases hv with rfl | rfl
  · have h1 := one r hr r.1 (h.sm r hr).1
    have h2 := one s hs s.1 (h.sm s hs).1
    unfold dot sc
    simp only [Int.one_mul, Int.zero_mul, Int.add_zero]
    omega
  · have h1 := one r hr r.2.1 (h.sm r hr).2.1
    have h2 := one s hs s.2.1 (h.sm s hs).2.1
    unfold dot sc
    simp only [Int.one_mul, Int.zero_mul, Int.zero_add]
    omega
theorem Bas.start {N : Nat} {L : Int} {V : List IR} (h : Vok N L V) : Bas N L V (1, 0) (0, 1) where
  det := by decide
  wu := wd_start h (.inl rfl)
  wv := wd_start h (.inr rfl)
  deg := fun _ => by
    have : 1 ≤ 2 ^ (N + N + 2) := Nat.one_le_two_pow
    exact ⟨this, by simp, by simp, this⟩
/-- the least wide one of other less times one -/
theorem Bas.late {N : Nat} {L : Int} {V : List IR} {u v : P2} (h : Vok N L V) (b : Bas N L V u v) (hu : 0 < wd (V.map (sc L)) u) {k : Int} (hk : ∀ j, wd (V.map (sc L)) (less v u k) ≤ wd (V.map (sc L)) (less v u j)) : Bas N L V u (less v u k) where
  det := by
    have := b.det
    unfold less
    grind
  wu := b.wu
  wv := by
    have := hk 0
    have e0 : less v u 0 = v := by unfold less; simp
    rw [e0] at this
    exact Int.le_trans this b.wv
  deg := fun hd => by
    obtain ⟨g1, g2, g3, g4⟩ := b.deg hd
    refine ⟨g1, g2, ?_⟩
    have hpt : V.map (sc L) ≠ [] := fun z => h.ne (List.map_eq_nil_iff.mp z)
    -- a pair that u parts
    obtain ⟨p, hp, q, hq, hn⟩ : ∃ p ∈ V, ∃ q ∈ V, dot u (way p q) ≠ 0 := by
      obtain ⟨a, ha, c, hc, e⟩ := wd_ex hpt u
      obtain ⟨r, hr, rfl⟩ := List.mem_map.mp ha
      obtain ⟨s, hs, rfl⟩ := List.mem_map.mp hc
      refine ⟨s, hs, r, hr, fun z => ?_⟩
      have := dot_way (h.dv s hs) (h.dv r hr) u
      rw [z, Int.zero_mul, e] at this
      have hne : wd (V.map (sc L)) u * (s.2.2 * r.2.2) ≠ 0 := Int.mul_ne_zero (by omega) (Int.mul_ne_zero (by have := (h.sm s hs).2.2.1; omega) (by have := (h.sm r hr).2.2.1; omega))
      exact hne this.symm
    obtain ⟨j, hj⟩ := near_half (t := dot v (way p q)) hn
    have half : 2 * (dot (less v u k) (way p q)).natAbs ≤ (dot u (way p q)).natAbs := by
      have h1 := deg_wd h hd hp hq u (less v u k)
      have h2 := deg_wd h hd hp hq (less v u j) u
      have h3 := hk j
      have e : dot (less v u j) (way p q) = dot v (way p q) - j * dot u (way p q) := dot_less
      rw [← e] at hj
      have h4 := Int.mul_le_mul_of_nonneg_right h3 (show (0 : Int) ≤ (dot u (way p q)).natAbs by omega)
      have h5 : wd (V.map (sc L)) u * ((dot (less v u k) (way p q)).natAbs : Int) ≤ wd (V.map (sc L)) u * ((dot (less v u j) (way p q)).natAbs : Int) := Int.le_trans h1 (Int.le_trans h4 h2)
      have h6 : ((dot (less v u k) (way p q)).natAbs : Int) ≤ ((dot (less v u j) (way p q)).natAbs : Int) := Int.le_of_mul_le_mul_left h5 hu
      omega
    have det : u.1 * (less v u k).2 - u.2 * (less v u k).1 = 1 := by
      have := b.det
      unfold less
      grind
    obtain ⟨w1, w2⟩ := ways (d := way p q) det
    obtain ⟨l1, l2⟩ := way_lt h hp hq
    have bound : ∀ x y z : Int, z.natAbs < 2 ^ (N + N + 1) → y.natAbs ≤ 2 ^ (N + N + 2) → (z = dot u (way p q) * x - dot (less v u k) (way p q) * y ∨ z = dot (less v u k) (way p q) * y - dot u (way p q) * x) → x.natAbs ≤ 2 ^ (N + N + 2) := fun x y z hz hy e => by
      have a1 : (dot u (way p q)).natAbs * x.natAbs ≤ z.natAbs + (dot (less v u k) (way p q)).natAbs * y.natAbs := by
        rw [← Int.natAbs_mul, ← Int.natAbs_mul]
        omega
      have a2 : 2 * ((dot (less v u k) (way p q)).natAbs * y.natAbs) ≤ (dot u (way p q)).natAbs * 2 ^ (N + N + 2) := by
        rw [← Nat.mul_assoc]
        exact Nat.mul_le_mul half hy
      have a3 : 1 ≤ (dot u (way p q)).natAbs := by omega
      have a4 : 2 ^ (N + N + 1) ≤ (dot u (way p q)).natAbs * 2 ^ (N + N + 1) := Nat.le_mul_of_pos_left _ (by omega)
      have a5 : 2 ^ (N + N + 2) = 2 * 2 ^ (N + N + 1) := by rw [Nat.pow_succ, Nat.mul_comm]
      rw [a5] at a2 ⊢
      have a6 : (dot u (way p q)).natAbs * (2 * 2 ^ (N + N + 1)) = 2 * ((dot u (way p q)).natAbs * 2 ^ (N + N + 1)) := by ac_rfl
      have a7 : (dot u (way p q)).natAbs * x.natAbs ≤ (dot u (way p q)).natAbs * (2 * 2 ^ (N + N + 1)) := by omega
      exact Nat.le_of_mul_le_mul_left a7 (by omega)
    exact ⟨bound _ u.1 _ l2 g1 (.inr w2), bound _ u.2 _ l1 g2 (.inl w1)⟩
theorem Bas.turn {N : Nat} {L : Int} {V : List IR} {u v : P2} (h : Vok N L V) (b : Bas N L V u v) : Bas N L V v (0 - u.1, 0 - u.2) where
  det := by
    have := b.det
    show v.1 * (0 - u.2) - v.2 * (0 - u.1) = 1
    grind
  wu := b.wv
  wv := by
    have := wd_neg (pts := V.map (sc L)) (fun z => h.ne (List.map_eq_nil_iff.mp z)) u
    rw [show (0 - u.1, 0 - u.2) = (-u.1, -u.2) by rw [Int.zero_sub, Int.zero_sub], this]
    exact b.wu
  deg := fun hd => by
    obtain ⟨g1, g2, g3, g4⟩ := b.deg hd
    refine ⟨g3, g4, ?_, ?_⟩
    · show (0 - u.1).natAbs ≤ _; omega
    · show (0 - u.2).natAbs ≤ _; omega
end Geo
set_option linter.all false
namespace Geo
/-! ### bounds of a direction on a region -/
def Bdd (rows : List IR) (f : P2) : Prop := ∀ d e, Opn (RR rows) d e → rdot f d e = 0
structure BdI (rows : List IR) (f : P2) (lo hi : Int) : Prop where
  ne : ∃ x y, In (RR rows) x y
  bd : Bdd rows f
  lo1 : ∀ x y, In (RR rows) x y → (lo : Rat) - 1 < rdot f x y
  lo2 : ∃ x y, In (RR rows) x y ∧ rdot f x y ≤ lo
  hi1 : ∀ x y, In (RR rows) x y → rdot f x y < (hi : Rat) + 1
  hi2 : ∃ x y, In (RR rows) x y ∧ (hi : Rat) ≤ rdot f x y
theorem rdot_int (f : P2) (x y : Int) : rdot f (x : Rat) (y : Rat) = ((f.1 * x + f.2 * y : Int) : Rat) := by
  unfold rdot
  rw [Rat.intCast_add, Rat.intCast_mul, Rat.intCast_mul]
theorem lt_one {a b : Int} (h : (a : Rat) - 1 < (b : Rat)) : a ≤ b := by
  have o : ((1 : Int) : Rat) = 1 := rfl
  rw [← o, ← Rat.intCast_sub, ilt] at h
  omega
theorem lt_one' {a b : Int} (h : (a : Rat) < (b : Rat) + 1) : a ≤ b := by
  have o : ((1 : Int) : Rat) = 1 := rfl
  rw [← o, ← Rat.intCast_add, ilt] at h
  omega
theorem BdI.whole {rows : List IR} {f : P2} {lo hi : Int} (h : BdI rows f lo hi) {x y : Int} (k : Has rows x y) : lo ≤ f.1 * x + f.2 * y ∧ f.1 * x + f.2 * y ≤ hi := by
  have hin := has_in.mp k
  have h1 := h.lo1 _ _ hin
  have h2 := h.hi1 _ _ hin
  rw [rdot_int] at h1 h2
  exact ⟨lt_one h1, lt_one' h2⟩
/-- on each whole line between there is a point -/
theorem mix {rows : List Row} {x y x2 y2 : Rat} (h1 : In rows x y) (h2 : In rows x2 y2) {t : Rat} (t0 : 0 ≤ t) (t1 : t ≤ 1) : In rows (x + t * (x2 - x)) (y + t * (y2 - y)) := fun r hr => by
  have a := Rat.mul_nonneg (show 0 ≤ 1 - t by grind) (show 0 ≤ r.c - (r.a * x + r.b * y) by have := h1 r hr; grind)
  have b := Rat.mul_nonneg t0 (show 0 ≤ r.c - (r.a * x2 + r.b * y2) by have := h2 r hr; grind)
  grind
theorem BdI.line {rows : List IR} {f : P2} {lo hi : Int} (h : BdI rows f lo hi) {T : Int} (h1 : lo ≤ T) (h2 : T ≤ hi) : ∃ x y, In (RR rows) x y ∧ rdot f x y = T := by
  obtain ⟨x, y, i1, l1⟩ := h.lo2
  obtain ⟨x2, y2, i2, l2⟩ := h.hi2
  have g1 : rdot f x y ≤ (T : Rat) := by
    have := ile.mpr h1
    grind
  have g2 : (T : Rat) ≤ rdot f x2 y2 := by
    have := ile.mpr h2
    grind
  rcases Classical.em (rdot f x y = (T : Rat)) with e | e
  · exact ⟨x, y, i1, e⟩
  · have hd : 0 < rdot f x2 y2 - rdot f x y := by grind
    obtain ⟨t, ht⟩ : ∃ t, t * (rdot f x2 y2 - rdot f x y) = T - rdot f x y := ⟨(T - rdot f x y) / (rdot f x2 y2 - rdot f x y), by grind⟩
    have t0 : 0 ≤ t := by
      rcases Classical.em (0 ≤ t) with k | k
      · exact k
      · have := Rat.mul_pos (show 0 < -t by grind) hd
        grind
    have t1 : t ≤ 1 := by
      rcases Classical.em (t ≤ 1) with k | k
      · exact k
      · have := Rat.mul_pos (show 0 < t - 1 by grind) hd
        grind
    refine ⟨_, _, mix i1 i2 t0 t1, ?_⟩
    unfold rdot at *
    grind
/-! ### a region whose rows are all along one direction -/
/-- row r is t times f -/
def Alg (f : P2) (r : IR) (t : Int) : Prop := r.1 = t * f.1 ∧ r.2.1 = t * f.2
theorem alg_uniq {f : P2} {r : IR} {t s : Int} (hf : f.1 ≠ 0 ∨ f.2 ≠ 0) (h : Alg f r t) (k : Alg f r s) : t = s := by
  rcases hf with z | z
  · exact Int.eq_of_mul_eq_mul_right z (h.1.symm.trans k.1)
  · exact Int.eq_of_mul_eq_mul_right z (h.2.symm.trans k.2)
def UpB (f : P2) (pre : List IR) : Option (Int × Int) → Prop
  | none => ∀ r ∈ pre, ∀ t, Alg f r t → t ≤ 0
  | some p => 0 < p.2 ∧ (∃ r ∈ pre, Alg f r p.2 ∧ r.2.2 = p.1) ∧ ∀ r ∈ pre, ∀ t, Alg f r t → 0 < t → p.1 * t ≤ r.2.2 * p.2
def DnB (f : P2) (pre : List IR) : Option (Int × Int) → Prop
  | none => ∀ r ∈ pre, ∀ t, Alg f r t → 0 ≤ t
  | some p => 0 < p.2 ∧ (∃ r ∈ pre, Alg f r (-p.2) ∧ r.2.2 = -p.1) ∧ ∀ r ∈ pre, ∀ t, Alg f r t → t < 0 → (-r.2.2) * p.2 ≤ p.1 * (-t)
theorem fr_trans {a b c d e f : Int} (hb : 0 < b) (hd : 0 < d) (hf : 0 < f) (h1 : a * d ≤ c * b) (h2 : c * f ≤ e * d) : a * f ≤ e * b := by
  have k1 := Int.mul_le_mul_of_nonneg_right h1 (Int.le_of_lt hf)
  have k2 := Int.mul_le_mul_of_nonneg_right h2 (Int.le_of_lt hb)
  refine Int.le_of_mul_le_mul_right (a := d) ?_ hd
  have e1 : a * f * d = a * d * f := by grind
  have e2 : e * b * d = e * d * b := by grind
  have e3 : c * b * f = c * f * b := by grind
  omega
section
variable {f : P2} {pre pre' : List IR} {r : IR} {t : Int} {p : Int × Int}
theorem UpB.skip {o : Option (Int × Int)} (h : UpB f pre o) (hm : ∀ q, q ∈ pre' ↔ q ∈ pre ∨ q = r) (hn : ∀ t, Alg f r t → t ≤ 0) : UpB f pre' o := by
  cases o with
  | none =>
    intro q hq
    rcases (hm q).mp hq with k | rfl
    · exact h q k
    · exact hn
  | some p =>
    obtain ⟨h1, ⟨q, hq, e⟩, h3⟩ := h
    refine ⟨h1, ⟨q, (hm q).mpr (.inl hq), e⟩, fun s hs t a z => ?_⟩
    rcases (hm s).mp hs with k | rfl
    · exact h3 s k t a z
    · have := hn t a
      omega
theorem DnB.skip {o : Option (Int × Int)} (h : DnB f pre o) (hm : ∀ q, q ∈ pre' ↔ q ∈ pre ∨ q = r) (hn : ∀ t, Alg f r t → 0 ≤ t) : DnB f pre' o := by
  cases o with
  | none =>
    intro q hq
    rcases (hm q).mp hq with k | rfl
    · exact h q k
    · exact hn
  | some p =>
    obtain ⟨h1, ⟨q, hq, e⟩, h3⟩ := h
    refine ⟨h1, ⟨q, (hm q).mpr (.inl hq), e⟩, fun s hs t a z => ?_⟩
    rcases (hm s).mp hs with k | rfl
    · exact h3 s k t a z
    · have := hn t a
      omega
variable (hf : f.1 ≠ 0 ∨ f.2 ≠ 0)
include hf
theorem UpB.one (h : UpB f pre none) (hm : ∀ q, q ∈ pre' ↔ q ∈ pre ∨ q = r) (ha : Alg f r t) (ht : 0 < t) : UpB f pre' (some (r.2.2, t)) :=
  ⟨ht, ⟨r, (hm r).mpr (.inr rfl), ha, rfl⟩, fun s hs u a z => by
    rcases (hm s).mp hs with k | rfl
    · have := h s k u a
      omega
    · rw [alg_uniq hf a ha]
      exact Int.le_refl _⟩
theorem DnB.one (h : DnB f pre none) (hm : ∀ q, q ∈ pre' ↔ q ∈ pre ∨ q = r) (ha : Alg f r t) (ht : t < 0) : DnB f pre' (some (0 - r.2.2, 0 - t)) :=
  ⟨by show 0 < 0 - t; omega, ⟨r, (hm r).mpr (.inr rfl), by rw [show -(0 - r.2.2, 0 - t).2 = t by show -(0 - t) = t; omega]; exact ha, by show r.2.2 = -(0 - r.2.2); omega⟩, fun s hs u a z => by
    rcases (hm s).mp hs with k | rfl
    · have := h s k u a
      omega
    · rw [alg_uniq hf a ha]
      show (-s.2.2) * (0 - t) ≤ (0 - s.2.2) * (-t)
      rw [show (0 - t) = -t by omega, show 0 - s.2.2 = -s.2.2 by omega]
      exact Int.le_refl _⟩
theorem UpB.less (h : UpB f pre (some p)) (hm : ∀ q, q ∈ pre' ↔ q ∈ pre ∨ q = r) (ha : Alg f r t) (ht : 0 < t) (hl : r.2.2 * p.2 < p.1 * t) : UpB f pre' (some (r.2.2, t)) := by
  obtain ⟨h1, h2, h3⟩ := h
  refine ⟨ht, ⟨r, (hm r).mpr (.inr rfl), ha, rfl⟩, fun s hs u a z => ?_⟩
  rcases (hm s).mp hs with k | rfl
  · exact fr_trans ht h1 z (Int.le_of_lt hl) (h3 s k u a z)
  · rw [alg_uniq hf a ha]
    exact Int.le_refl _
theorem UpB.keep (h : UpB f pre (some p)) (hm : ∀ q, q ∈ pre' ↔ q ∈ pre ∨ q = r) (ha : Alg f r t) (ht : 0 < t) (hl : ¬ r.2.2 * p.2 < p.1 * t) : UpB f pre' (some p) := by
  obtain ⟨h1, ⟨q, hq, e⟩, h3⟩ := h
  refine ⟨h1, ⟨q, (hm q).mpr (.inl hq), e⟩, fun s hs u a z => ?_⟩
  rcases (hm s).mp hs with k | rfl
  · exact h3 s k u a z
  · rw [alg_uniq hf a ha]
    omega
theorem DnB.less (h : DnB f pre (some p)) (hm : ∀ q, q ∈ pre' ↔ q ∈ pre ∨ q = r) (ha : Alg f r t) (ht : t < 0) (hl : p.1 * (0 - t) < (0 - r.2.2) * p.2) : DnB f pre' (some (0 - r.2.2, 0 - t)) := by
  obtain ⟨h1, h2, h3⟩ := h
  refine ⟨by show 0 < 0 - t; omega, ⟨r, (hm r).mpr (.inr rfl), by rw [show -(0 - r.2.2, 0 - t).2 = t by show -(0 - t) = t; omega]; exact ha, by show r.2.2 = -(0 - r.2.2); omega⟩, fun s hs u a z => ?_⟩
  rcases (hm s).mp hs with k | rfl
  · have := h3 s k u a z
    exact fr_trans (show 0 < -u by omega) h1 (show 0 < 0 - t by omega) this (Int.le_of_lt hl)
  · rw [alg_uniq hf a ha]
    show (-s.2.2) * (0 - t) ≤ (0 - s.2.2) * (-t)
    rw [show (0 - t) = -t by omega, show 0 - s.2.2 = -s.2.2 by omega]
    exact Int.le_refl _
theorem DnB.keep (h : DnB f pre (some p)) (hm : ∀ q, q ∈ pre' ↔ q ∈ pre ∨ q = r) (ha : Alg f r t) (ht : t < 0) (hl : ¬ p.1 * (0 - t) < (0 - r.2.2) * p.2) : DnB f pre' (some p) := by
  obtain ⟨h1, ⟨q, hq, e⟩, h3⟩ := h
  refine ⟨h1, ⟨q, (hm q).mpr (.inl hq), e⟩, fun s hs u a z => ?_⟩
  rcases (hm s).mp hs with k | rfl
  · exact h3 s k u a z
  · rw [alg_uniq hf a ha, show -s.2.2 = 0 - s.2.2 by omega, show -t = 0 - t by omega]
    omega
end
/-- rows that are all along f, or 0 -/
structure Along (rows : List IR) (f : P2) : Prop where
  all : ∀ r ∈ rows, ∃ t, Alg f r t ∧ (t = 0 → 0 ≤ r.2.2)
end Geo
set_option linter.all false
namespace Geo
/-! ### points on lines of a basis -/
end Geo
set_option linter.all false
namespace Geo
/-! ### the least whole value of a direction -/
theorem nat_ne {a b : Rat} (h : a ≠ 0 ∨ b ≠ 0) : 0 < a * a + b * b := sq_pos h
theorem nz_of {r : Row} {u v : Rat} (p : 0 < r.a * u + r.b * v) : nz r := by
  by_cases ha : r.a = 0
  · refine .inr fun hb => ?_
    rw [ha, hb] at p
    grind
  · exact .inl ha
theorem ev_turn {f g d e u v t : Rat} (h0 : ev f g u v = 0) (hf : ev f g d e < 0) : ev f g (d + t * u) (e + t * v) < 0 := by
  unfold ev at *
  have : t * (f * u + g * v) = 0 := by rw [h0]; grind
  grind
theorem par_mul {a b f g d e : Rat} (h : a * g = b * f) : (f * f + g * g) * (a * d + b * e) = (a * f + b * g) * (f * d + g * e) := by grind
theorem par_mul2 {a b f g p q : Rat} (h : a * g = b * f) (k : p * g = q * f) : (f * f + g * g) * (a * p + b * q) = (a * f + b * g) * (p * f + q * g) := by grind
theorem le_of_pos {s x : Rat} (hs : 0 < s) (h : 0 ≤ s * x) : 0 ≤ x := by
  rcases Classical.em (0 ≤ x) with k | k
  · exact k
  · have := Rat.mul_pos hs (show 0 < -x by grind)
    grind
/-- an open direction on which f goes down: one beside a row is such -/
theorem side_dn {rows : List Row} (hz : ∃ r ∈ rows, nz r) {f g d e : Rat} (ho : Opn rows d e) (hf : ev f g d e < 0) : ∃ r ∈ rows, nz r ∧ ∃ p q, Side r p q ∧ Opn rows p q ∧ ev f g p q < 0 := by
  have one : ∀ {r : Row}, r ∈ rows → nz r → ∀ {d e : Rat}, Opn rows d e → ev f g d e < 0 → r.a * d + r.b * e = 0 → ∃ r ∈ rows, nz r ∧ ∃ p q, Side r p q ∧ Opn rows p q ∧ ev f g p q < 0 := by
    intro r hr nzr d e ho hf ht
    have N := nat_ne nzr
    obtain ⟨s, e1, e2⟩ : ∃ s : Rat, d = s * (-r.b) ∧ e = s * r.a := ⟨(r.a * e - r.b * d) / (r.a * r.a + r.b * r.b), by
      have : (r.a * r.a + r.b * r.b) * d = (r.a * e - r.b * d) * (-r.b) := by grind
      have k : (r.a * r.a + r.b * r.b) * ((r.a * e - r.b * d) / (r.a * r.a + r.b * r.b)) = (r.a * e - r.b * d) := mdc N
      generalize (r.a * e - r.b * d) / (r.a * r.a + r.b * r.b) = z at *
      have h0 : (r.a * r.a + r.b * r.b) * (d - z * (-r.b)) = 0 := by grind
      have := mz N h0
      grind, by
      have : (r.a * r.a + r.b * r.b) * e = (r.a * e - r.b * d) * r.a := by grind
      have k : (r.a * r.a + r.b * r.b) * ((r.a * e - r.b * d) / (r.a * r.a + r.b * r.b)) = (r.a * e - r.b * d) := mdc N
      generalize (r.a * e - r.b * d) / (r.a * r.a + r.b * r.b) = z at *
      have h0 : (r.a * r.a + r.b * r.b) * (e - z * r.a) = 0 := by grind
      have := mz N h0
      grind⟩
    have sne : s ≠ 0 := fun z => by
      rw [z, Rat.zero_mul] at e1 e2
      unfold ev at hf
      rw [e1, e2] at hf
      grind
    rcases Classical.em (0 < s) with hs | hs
    · refine ⟨r, hr, nzr, -r.b, r.a, .inl ⟨rfl, rfl⟩, fun q hq => ?_, ?_⟩
      · have h1 := ho q hq
        rw [e1, e2] at h1
        have h2 : s * (q.a * (-r.b) + q.b * r.a) ≤ 0 := by grind
        rcases Classical.em (q.a * (-r.b) + q.b * r.a ≤ 0) with k | k
        · exact k
        · have := Rat.mul_pos hs (show 0 < q.a * (-r.b) + q.b * r.a by grind)
          grind
      · have h2 : s * ev f g (-r.b) r.a < 0 := by
          have h0 : ev f g d e = s * ev f g (-r.b) r.a := by unfold ev; rw [e1, e2]; grind
          rw [← h0]; exact hf
        rcases Classical.em (ev f g (-r.b) r.a < 0) with k | k
        · exact k
        · have := Rat.mul_nonneg (show 0 ≤ s by grind) (show 0 ≤ ev f g (-r.b) r.a by grind)
          grind
    · have hs' : 0 < -s := by grind
      refine ⟨r, hr, nzr, r.b, -r.a, .inr (.inl ⟨rfl, rfl⟩), fun q hq => ?_, ?_⟩
      · have h1 := ho q hq
        rw [e1, e2] at h1
        have h2 : (-s) * (q.a * r.b + q.b * (-r.a)) ≤ 0 := by grind
        rcases Classical.em (q.a * r.b + q.b * (-r.a) ≤ 0) with k | k
        · exact k
        · have := Rat.mul_pos hs' (show 0 < q.a * r.b + q.b * (-r.a) by grind)
          grind
      · have h2 : (-s) * ev f g r.b (-r.a) < 0 := by
          have h0 : ev f g d e = (-s) * ev f g r.b (-r.a) := by unfold ev; rw [e1, e2]; grind
          rw [← h0]; exact hf
        rcases Classical.em (ev f g r.b (-r.a) < 0) with k | k
        · exact k
        · have := Rat.mul_nonneg (show 0 ≤ -s by grind) (show 0 ≤ ev f g r.b (-r.a) by grind)
          grind
  have turn : ∀ {u v : Rat}, ev f g u v = 0 → (∃ r ∈ rows, 0 < r.a * u + r.b * v) → ∃ r ∈ rows, nz r ∧ ∃ p q, Side r p q ∧ Opn rows p q ∧ ev f g p q < 0 := by
    intro u v h0 hb
    obtain ⟨t, t0, ho', r, hr, p, ht⟩ := turn_on ho hb
    exact one hr (nz_of p) ho' (ev_turn h0 hf) ht
  by_cases b1 : ∃ r ∈ rows, 0 < r.a * (-g) + r.b * f
  · exact turn (by unfold ev; grind) b1
  by_cases b2 : ∃ r ∈ rows, 0 < r.a * g + r.b * (-f)
  · exact turn (by unfold ev; grind) b2
  have par : ∀ r ∈ rows, r.a * g = r.b * f := fun r hr => by
    have h1 : ¬ 0 < r.a * (-g) + r.b * f := fun z => b1 ⟨r, hr, z⟩
    have h2 : ¬ 0 < r.a * g + r.b * (-f) := fun z => b2 ⟨r, hr, z⟩
    grind
  clear one turn b1 b2
  have fne : f ≠ 0 ∨ g ≠ 0 := by
    by_cases h : f = 0
    · refine .inr fun h2 => ?_
      unfold ev at hf
      rw [h, h2] at hf
      clear par ho hz
      grind
    · exact .inl h
  have N := nat_ne fne
  have nn_ : ∀ r ∈ rows, 0 ≤ r.a * f + r.b * g := fun r hr => by
    have h1 := par_mul (d := d) (e := e) (par r hr)
    have h2 := ho r hr
    have h3 := Rat.mul_nonneg (Rat.le_of_lt N) (show 0 ≤ -(r.a * d + r.b * e) by clear par ho hz; grind)
    have hf' : 0 < -(f * d + g * e) := by unfold ev at hf; clear par ho hz; grind
    refine le_of_pos hf' ?_
    clear par ho hz
    grind
  obtain ⟨r, hr, nzr⟩ := hz
  have pr := par r hr
  have rp : 0 < r.a * f + r.b * g := by
    have h1 := nn_ r hr
    rcases Classical.em (r.a * f + r.b * g = 0) with k | k
    · exfalso
      have h2 : (f * f + g * g) * r.a = (r.a * f + r.b * g) * f := by clear par ho nn_ nzr; grind
      have h3 : (f * f + g * g) * r.b = (r.a * f + r.b * g) * g := by clear par ho nn_ nzr; grind
      rw [k, Rat.zero_mul] at h2 h3
      rcases nzr with z | z
      · exact z (mz N h2)
      · exact z (mz N h3)
    · clear par ho nn_ nzr
      grind
  refine ⟨r, hr, nzr, -r.a, -r.b, .inr (.inr ⟨rfl, rfl⟩), fun q hq => ?_, by unfold ev; clear par ho nn_ nzr; grind⟩
  have h1 := Rat.mul_nonneg (nn_ q hq) (Rat.le_of_lt rp)
  have e1 := par_mul2 (par q hq) pr
  have := le_of_pos N (show 0 ≤ (f * f + g * g) * (q.a * r.a + q.b * r.b) by rw [e1]; exact h1)
  clear par ho nn_ nzr
  grind
/-- .. in whole numbers -/
theorem iside_dn {rows : List IR} (hz : ∃ r ∈ rows, inz r) {f : P2} {d e : Rat} (ho : Opn (RR rows) d e) (hf : rdot f d e < 0) : ∃ r ∈ rows, inz r ∧ ∃ p : P2, iSide r p ∧ iOpn rows p ∧ f.1 * p.1 + f.2 * p.2 < 0 := by
  obtain ⟨r', hr', nzr, p, q, sd, op, lt⟩ := side_dn (rows := RR rows) (by
    obtain ⟨r, hr, z⟩ := hz
    exact ⟨toR r, List.mem_map.mpr ⟨r, hr, rfl⟩, nz_iff.mpr z⟩) (f := (f.1 : Rat)) (g := (f.2 : Rat)) ho hf
  obtain ⟨r, hr, rfl⟩ := List.mem_map.mp hr'
  have z := nz_iff.mp nzr
  obtain ⟨P, h1, h2, g, g0, e1, e2⟩ := side_int hr z sd op
  refine ⟨r, hr, z, P, h1, h2, ?_⟩
  apply ilt.mp
  have o : ((0 : Int) : Rat) = 0 := rfl
  rw [Rat.intCast_add, Rat.intCast_mul, Rat.intCast_mul, o]
  rw [e1, e2] at lt
  have k : g * ((f.1 : Rat) * P.1 + f.2 * P.2) < 0 := by unfold ev at lt; grind
  rcases Classical.em ((f.1 : Rat) * P.1 + f.2 * P.2 < 0) with c | c
  · exact c
  · have := Rat.mul_nonneg (Rat.le_of_lt g0) (show 0 ≤ (f.1 : Rat) * P.1 + f.2 * P.2 by grind)
    grind
/-- f goes down without end on no way -/
def Dn (rows : List IR) (f : P2) : Prop := ∀ d e, Opn (RR rows) d e → 0 ≤ rdot f d e
theorem dn_of {rows : List IR} {f : P2} (hz : ∃ r ∈ rows, inz r) (h : ∀ r ∈ rows, inz r → ∀ p : P2, iSide r p → iOpn rows p → 0 ≤ f.1 * p.1 + f.2 * p.2) : Dn rows f := fun d e ho => by
  rcases Classical.em (0 ≤ rdot f d e) with k | k
  · exact k
  · obtain ⟨r, hr, z, p, sd, op, lt⟩ := iside_dn hz ho (show rdot f d e < 0 by grind)
    have := h r hr z p sd op
    omega
theorem OD.dn {rows : List IR} {V : List P2} (od : OD rows V) (hz : ∃ r ∈ rows, inz r) {f : P2} (h : ∀ p ∈ V, 0 ≤ f.1 * p.1 + f.2 * p.2) : Dn rows f := dn_of hz fun r hr z p sd op => h p (od.all r hr z p sd op)
/-! how great the least value can be -/
structure Szs (rows : List IR) (A C : Int) : Prop where
  a : ∀ r ∈ rows, (-A ≤ r.1 ∧ r.1 ≤ A) ∧ -A ≤ r.2.1 ∧ r.2.1 ≤ A
  c : ∀ r ∈ rows, -C ≤ r.2.2 ∧ r.2.2 ≤ C
theorem Szs.up {rows : List IR} {A C C' : Int} (sz : Szs rows A C) (h : C ≤ C') : Szs rows A C' := ⟨sz.a, fun r hr => by have := sz.c r hr; omega⟩
end Geo
set_option linter.all false
namespace Geo
/-! ### how many whole points -/
def CntQ (P : Int → Int → Prop) (n : Nat) : Prop := ∃ L : List P2, L.Nodup ∧ (∀ p : P2, p ∈ L ↔ P p.1 p.2) ∧ L.length = n
section
variable {P Q : Int → Int → Prop} {n m : Nat}
theorem CntQ.congr (e : ∀ x y, P x y ↔ Q x y) (h : CntQ P n) : CntQ Q n := by
  obtain ⟨L, n1, m1, l1⟩ := h
  exact ⟨L, n1, fun p => (m1 p).trans (e _ _), l1⟩
theorem CntQ.zero (h : ∀ x y, ¬ P x y) : CntQ P 0 := ⟨[], List.nodup_nil, fun p => ⟨fun z => (by cases z), fun z => (h _ _ z).elim⟩, rfl⟩
/-- a sum over columns -/
def csum (f : Int → Int) (a : Int) : Nat → Int
  | 0 => 0
  | n + 1 => csum f a n + f (a + (n : Nat))
end
/-! rows that bound most, between corners -/
/-- turned over: y for -y -/
def fl (r : Row) : Row := ⟨r.a, -r.b, r.c⟩
def UpT (rows : List IR) (r : IR) (N D : Int) : Prop := r ∈ rows ∧ 0 < r.2.1 ∧ ∀ q ∈ rows, 0 < q.2.1 → (r.2.2 * D - r.1 * N) * q.2.1 ≤ (q.2.2 * D - q.1 * N) * r.2.1
def DnT (rows : List IR) (r : IR) (N D : Int) : Prop := r ∈ rows ∧ r.2.1 < 0 ∧ ∀ q ∈ rows, q.2.1 < 0 → (r.2.2 * D - r.1 * N) * (0 - q.2.1) ≤ (q.2.2 * D - q.1 * N) * (0 - r.2.1)
section
variable {rows V : List IR} {L one other : Int} {r : IR}
theorem rz : ((0 : Int) : Rat) = 0 := rfl
end
/-! stretches between corners -/
section
variable {rows V : List IR} {L one other : Int}
end
/-! few corners -/
end Geo
set_option Elab.async false
set_option linter.all false
/-! the plain law of stairs -/
namespace W50
theorem ftrans {x y b c o d : Int} (hc : 0 < c) (hy : 0 < y) (hd : 0 < d) (h1 : x * c ≤ b * y) (h2 : b * d ≤ o * c) : x * d ≤ o * y := by
  have a1 : x * c * d ≤ b * y * d := Int.mul_le_mul_of_nonneg_right h1 (Int.le_of_lt hd)
  have a2 : b * d * y ≤ o * c * y := Int.mul_le_mul_of_nonneg_right h2 (Int.le_of_lt hy)
  have e1 : x * c * d = x * d * c := by ac_rfl
  have e2 : b * y * d = b * d * y := by ac_rfl
  have e3 : o * c * y = o * y * c := by ac_rfl
  exact Int.le_of_mul_le_mul_right (show x * d * c ≤ o * y * c by omega) hc
section
variable (r : Int → Int) (n : Int)
/-- low and high are the tightest of the pairs in C -/
structure Cov (C : Int → Int → Prop) (i j k l : Int) : Prop where
  a0 : 0 ≤ i
  a1 : i < j
  a2 : j < n
  b0 : 0 ≤ k
  b1 : k < l
  b2 : l < n
  lo : ∀ p q, p < q → C p q → (r q - r p - 1) * (j - i) ≤ (r j - r i - 1) * (q - p)
  hi : ∀ p q, p < q → C p q → (r l - r k + 1) * (q - p) ≤ (r q - r p + 1) * (l - k)
end
variable {r : Int → Int} {n : Int} {C C' : Int → Int → Prop} {i j k l p0 q0 : Int}
theorem Cov.mono (h : Cov r n C i j k l) (m : ∀ p q, p < q → C' p q → C p q) : Cov r n C' i j k l := ⟨h.a0, h.a1, h.a2, h.b0, h.b1, h.b2, fun p q hp hc => h.lo p q hp (m p q hp hc), fun p q hp hc => h.hi p q hp (m p q hp hc)⟩
/-- one pair more: low -/
theorem Cov.low (h : Cov r n C i j k l) (h0 : 0 ≤ p0) (h1 : p0 < q0) (h2 : q0 < n) (g : (r j - r i - 1) * (q0 - p0) ≤ (r q0 - r p0 - 1) * (j - i)) : Cov r n C p0 q0 k l :=
  ⟨h0, h1, h2, h.b0, h.b1, h.b2, fun p q hp hc => ftrans (by have := h.a1; omega) (by omega) (by omega) (h.lo p q hp hc) g, h.hi⟩
theorem Cov.high (h : Cov r n C i j k l) (h0 : 0 ≤ p0) (h1 : p0 < q0) (h2 : q0 < n) (g : (r q0 - r p0 + 1) * (l - k) ≤ (r l - r k + 1) * (q0 - p0)) : Cov r n C i j p0 q0 :=
  ⟨h.a0, h.a1, h.a2, h0, h1, h2, h.lo, fun p q hp hc => by
    have b := h.b1
    have t := ftrans (x := r q0 - r p0 + 1) (y := q0 - p0) (b := r l - r k + 1) (c := l - k) (o := r q - r p + 1) (d := q - p) (by omega) (by omega) (by omega) g (h.hi p q hp hc)
    exact t⟩
theorem Cov.ext (h : Cov r n C i j k l) (m : ∀ p q, p < q → C' p q → C p q ∨ (p = p0 ∧ q = q0)) (g1 : (r q0 - r p0 - 1) * (j - i) ≤ (r j - r i - 1) * (q0 - p0)) (g2 : (r l - r k + 1) * (q0 - p0) ≤ (r q0 - r p0 + 1) * (l - k)) : Cov r n C' i j k l :=
  ⟨h.a0, h.a1, h.a2, h.b0, h.b1, h.b2, fun p q hp hc => (m p q hp hc).elim (fun z => h.lo p q hp z) (fun z => by rw [z.1, z.2]; exact g1), fun p q hp hc => (m p q hp hc).elim (fun z => h.hi p q hp z) (fun z => by rw [z.1, z.2]; exact g2)⟩
/-- what fits: a / m lies strictly between all slopes -/
def Fit (r : Int → Int) (n a m : Int) : Prop := ∀ p q, 0 ≤ p → p < q → q < n → (r q - r p - 1) * m < a * (q - p) ∧ a * (q - p) < (r q - r p + 1) * m
theorem ftr1 {x y b c a m : Int} (hc : 0 < c) (hy : 0 < y) (hm : 0 < m) (h1 : x * c ≤ b * y) (h2 : b * m < a * c) : x * m < a * y := by
  have a1 : x * c * m ≤ b * y * m := Int.mul_le_mul_of_nonneg_right h1 (Int.le_of_lt hm)
  have a2 : b * m * y < a * c * y := Int.mul_lt_mul_of_pos_right h2 hy
  have e1 : x * c * m = x * m * c := by ac_rfl
  have e2 : b * y * m = b * m * y := by ac_rfl
  have e3 : a * c * y = a * y * c := by ac_rfl
  exact Int.lt_of_mul_lt_mul_right (show x * m * c < a * y * c by omega) (Int.le_of_lt hc)
theorem ftr2 {x y b c a m : Int} (hc : 0 < c) (hy : 0 < y) (hm : 0 < m) (h1 : b * y ≤ x * c) (h2 : a * c < b * m) : a * y < x * m := by
  have a1 : b * y * m ≤ x * c * m := Int.mul_le_mul_of_nonneg_right h1 (Int.le_of_lt hm)
  have a2 : a * c * y < b * m * y := Int.mul_lt_mul_of_pos_right h2 hy
  have e1 : x * c * m = x * m * c := by ac_rfl
  have e2 : b * y * m = b * m * y := by ac_rfl
  have e3 : a * c * y = a * y * c := by ac_rfl
  exact Int.lt_of_mul_lt_mul_right (show a * y * c < x * m * c by omega) (Int.le_of_lt hc)
theorem Cov.fit {a m : Int} (h : Cov r n (fun p q => 0 ≤ p ∧ q < n) i j k l) (hm : 0 < m) : Fit r n a m ↔ ((r j - r i - 1) * m < a * (j - i) ∧ a * (l - k) < (r l - r k + 1) * m) := by
  have h1 := h.a1
  have h2 := h.b1
  constructor
  · intro f
    exact ⟨(f i j h.a0 h.a1 h.a2).1, (f k l h.b0 h.b1 h.b2).2⟩
  · rintro ⟨g1, g2⟩ p q hp hq hn
    exact ⟨ftr1 (by omega) (by omega) hm (h.lo p q hq ⟨hp, hn⟩) g1, ftr2 (by omega) (by omega) hm (h.hi p q hq ⟨hp, hn⟩) g2⟩
/-- the least a above a0 m / a1 -/
theorem least_gt {a0 a1 m a : Int} (h : 0 < a1) : a0 * m < a * a1 ↔ a0 * m / a1 + 1 ≤ a := by
  constructor
  · intro g
    have := Int.ediv_lt_of_lt_mul h g
    omega
  · intro g
    have := Int.lt_ediv_add_one_mul_self (a0 * m) h
    have := Int.mul_le_mul_of_nonneg_right g (Int.le_of_lt h)
    omega
theorem mid {a0 a1 b0 b1 m : Int} (h1 : 0 < a1) (h2 : 0 < b1) (hm : 0 < m) (h : ∃ a, a0 * m < a * a1 ∧ a * b1 < b0 * m) : a0 * b1 < b0 * a1 := by
  obtain ⟨a, g1, g2⟩ := h
  have e1 := Int.mul_lt_mul_of_pos_right g1 h2
  have e2 := Int.mul_lt_mul_of_pos_right g2 h1
  have e3 : a0 * m * b1 = a0 * b1 * m := by ac_rfl
  have e4 : b0 * m * a1 = b0 * a1 * m := by ac_rfl
  have e5 : a * a1 * b1 = a * b1 * a1 := by ac_rfl
  exact Int.lt_of_mul_lt_mul_right (show a0 * b1 * m < b0 * a1 * m by omega) (Int.le_of_lt hm)
theorem mid2 {a0 a1 b0 b1 : Int} (h1 : 0 < a1) (h2 : 0 < b1) (h : a0 * b1 < b0 * a1) : (a0 * (2 * a1 * b1) / a1 + 1) * b1 < b0 * (2 * a1 * b1) := by
  have e : a0 * (2 * a1 * b1) = (2 * (a0 * b1)) * a1 := by ac_rfl
  rw [e, Int.mul_ediv_cancel _ (by omega)]
  have e2 : b0 * (2 * a1 * b1) = (2 * (b0 * a1)) * b1 := by ac_rfl
  rw [e2]
  exact Int.mul_lt_mul_of_pos_right (by omega) h2
/-- the line told has the numbers -/
theorem Fit.at {a m b : Int} (hm : 0 < m) (f : Fit r n a m) (hb : ∃ x, 0 ≤ x ∧ x < n ∧ b = r x * m - a * x) (hmax : ∀ x, 0 ≤ x → x < n → r x * m - a * x ≤ b) {x : Int} (h0 : 0 ≤ x) (hn : x < n) : (a * x + b) / m = r x := by
  obtain ⟨y, y0, yn, rfl⟩ := hb
  have h1 := hmax x h0 hn
  have h2 : a * x + (r y * m - a * y) < (r x + 1) * m := by
    rcases Int.lt_trichotomy x y with g | g | g
    · have := (f x y h0 g yn).1
      rw [Int.mul_sub] at this
      rw [Int.sub_mul, Int.sub_mul, Int.one_mul] at this
      rw [Int.add_mul, Int.one_mul]
      omega
    · subst g
      rw [Int.add_mul, Int.one_mul]
      omega
    · have := (f y x y0 g hn).2
      rw [Int.mul_sub] at this
      rw [Int.add_mul, Int.sub_mul, Int.one_mul] at this
      rw [Int.add_mul, Int.one_mul]
      omega
  apply Int.le_antisymm
  · exact Int.le_of_lt_add_one (Int.ediv_lt_of_lt_mul hm h2)
  · exact (Int.le_ediv_iff_mul_le hm).mpr (by omega)
/-- numbers raised by s x fit with s m more -/
theorem Fit.raise {r2 : Int → Int} {s a m : Int} (hr : ∀ x, 0 ≤ x → x < n → r x = r2 x + s * x) : Fit r n a m ↔ Fit r2 n (a - s * m) m := by
  have key : ∀ p q, 0 ≤ p → p < q → q < n → r q - r p = r2 q - r2 p + s * (q - p) := fun p q h0 h1 h2 => by
    rw [hr q (by omega) h2, hr p h0 (by omega), Int.mul_sub]
    omega
  have e : ∀ p q c : Int, 0 ≤ p → p < q → q < n → (r q - r p + c) * m = (r2 q - r2 p + c) * m + s * m * (q - p) := fun p q c h0 h1 h2 => by
    rw [key p q h0 h1 h2, show r2 q - r2 p + s * (q - p) + c = (r2 q - r2 p + c) + s * (q - p) by omega, Int.add_mul]
    congr 1
    ac_rfl
  constructor
  · intro f p q h0 h1 h2
    obtain ⟨g1, g2⟩ := f p q h0 h1 h2
    rw [show r q - r p - 1 = r q - r p + -1 by omega, e p q (-1) h0 h1 h2] at g1
    rw [e p q 1 h0 h1 h2] at g2
    rw [Int.sub_mul a, show r2 q - r2 p - 1 = r2 q - r2 p + -1 by omega]
    omega
  · intro f p q h0 h1 h2
    obtain ⟨g1, g2⟩ := f p q h0 h1 h2
    rw [Int.sub_mul a, show r2 q - r2 p - 1 = r2 q - r2 p + -1 by omega] at g1
    rw [Int.sub_mul a] at g2
    rw [show r q - r p - 1 = r q - r p + -1 by omega, e p q (-1) h0 h1 h2, e p q 1 h0 h1 h2]
    omega
/-- what is least -/
theorem Fit.same {r2 : Int → Int} {s a m a2 m2 : Int} (hr : ∀ x, 0 ≤ x → x < n → r x = r2 x + s * x) (hm : 1 ≤ m) (hm2 : 1 ≤ m2) (f : Fit r n a m) (l1 : ∀ a' m', 0 < m' → m' < m → ¬ Fit r n a' m') (l2 : ∀ a', a' < a → ¬ Fit r n a' m)
    (f2 : Fit r2 n a2 m2) (k1 : ∀ a' m', 0 < m' → m' < m2 → ¬ Fit r2 n a' m') (k2 : ∀ a', a' < a2 → ¬ Fit r2 n a' m2) : m = m2 ∧ a = a2 + s * m2 := by
  have g1 := (Fit.raise hr).mp f
  have g2 : Fit r n (a2 + s * m2) m2 := (Fit.raise (s := s) hr).mpr (by rw [show a2 + s * m2 - s * m2 = a2 by omega]; exact f2)
  have e : m = m2 := by
    rcases Int.lt_trichotomy m m2 with z | z | z
    · exact absurd g1 (k1 _ _ (by omega) z)
    · exact z
    · exact absurd g2 (l1 _ _ (by omega) z)
  subst e
  refine ⟨rfl, ?_⟩
  rcases Int.lt_trichotomy a (a2 + s * m) with z | z | z
  · exact absurd g1 (k2 _ (by omega))
  · exact z
  · exact absurd g2 (l2 _ z)
/-! prefix sums -/
def pre (ns : List Int) (k : Nat) : Int := (ns.take k).sum
def ps (ns : List Int) (L : Nat) : List Int := (List.range (L + 1)).map (pre ns)
/-! how many are at most day -/
def cnt (f : Nat → Int) (day : Int) (n : Nat) : Nat := ((List.range n).filter fun i => decide (f (i + 1) ≤ day)).length
end W50
set_option Elab.async false
set_option linter.all false
set_option maxRecDepth 100000
set_option maxHeartbeats 4000000
set_option exponentiation.threshold 300
namespace LawW
open PySem PySem.Spec PyProof.Rows L2 QL
def topS (i : Nat) : Stmt := PySem.Challenge.pw_pointorstrip_k14_whole_stairs.main.body.getD i (.Pass ⟨0, 0, 0, 0⟩)
abbrev s_BadNumber___init__ : Stmt := inClass (topS 3) 0
theorem sc_BadNumber___init__ : FnScope ["self", "value"] ["self", "value"] (defScope s_BadNumber___init__) := ⟨rfl, rfl, rfl, by decide +kernel, rfl, by decide +kernel, by decide +kernel⟩
abbrev s_TooLarge___init__ : Stmt := inClass (topS 4) 0
theorem sc_TooLarge___init__ : FnScope ["self", "number"] ["self", "number"] (defScope s_TooLarge___init__) := ⟨rfl, rfl, rfl, by decide +kernel, rfl, by decide +kernel, by decide +kernel⟩
abbrev s_is_number : Stmt := topS 6
theorem sc_is_number : FnScope ["value"] ["value"] (defScope s_is_number) := ⟨rfl, rfl, rfl, by decide +kernel, rfl, by decide +kernel, by decide +kernel⟩
abbrev s_Line___init__ : Stmt := inClass (topS 8) 0
theorem sc_Line___init__ : FnScope ["self", "a", "b", "m", "value"] ["self", "a", "b", "m"] (defScope s_Line___init__) := ⟨rfl, rfl, rfl, by decide +kernel, rfl, by decide +kernel, by decide +kernel⟩
abbrev s_Line___eq__ : Stmt := inClass (topS 8) 1
theorem sc_Line___eq__ : FnScope ["self", "other"] ["self", "other"] (defScope s_Line___eq__) := ⟨rfl, rfl, rfl, by decide +kernel, rfl, by decide +kernel, by decide +kernel⟩
abbrev s_Line_told : Stmt := inClass (topS 8) 2
theorem sc_Line_told : FnScope ["self"] ["self"] (defScope s_Line_told) := ⟨rfl, rfl, rfl, by decide +kernel, rfl, by decide +kernel, by decide +kernel⟩
abbrev s_Line_at : Stmt := inClass (topS 8) 3
theorem sc_Line_at : FnScope ["self", "x"] ["self", "x"] (defScope s_Line_at) := ⟨rfl, rfl, rfl, by decide +kernel, rfl, by decide +kernel, by decide +kernel⟩
abbrev s_checked_row : Stmt := topS 11
theorem sc_checked_row : FnScope ["row", "value"] ["row"] (defScope s_checked_row) := ⟨rfl, rfl, rfl, by decide +kernel, rfl, by decide +kernel, by decide +kernel⟩
abbrev s_is_pair : Stmt := topS 12
theorem sc_is_pair : FnScope ["value", "many", "one"] ["value", "many"] (defScope s_is_pair) := ⟨rfl, rfl, rfl, by decide +kernel, rfl, by decide +kernel, by decide +kernel⟩
abbrev s_slope_above : Stmt := topS 13
theorem sc_slope_above : FnScope ["row", "pair", "first", "last"] ["row", "pair"] (defScope s_slope_above) := ⟨rfl, rfl, rfl, by decide +kernel, rfl, by decide +kernel, by decide +kernel⟩
abbrev s_slope_below : Stmt := topS 14
theorem sc_slope_below : FnScope ["row", "pair", "first", "last"] ["row", "pair"] (defScope s_slope_below) := ⟨rfl, rfl, rfl, by decide +kernel, rfl, by decide +kernel, by decide +kernel⟩
abbrev s_tightest : Stmt := topS 15
theorem sc_tightest : FnScope ["row", "low", "high", "last", "first", "one", "best"] ["row"] (defScope s_tightest) := ⟨rfl, rfl, rfl, by decide +kernel, rfl, by decide +kernel, by decide +kernel⟩
abbrev s_least_between : Stmt := topS 16
theorem sc_least_between : FnScope ["above", "below", "m", "number"] ["above", "below", "m"] (defScope s_least_between) := ⟨rfl, rfl, rfl, by decide +kernel, rfl, by decide +kernel, by decide +kernel⟩
abbrev s_Stairs___init__ : Stmt := inClass (topS 17) 0
theorem sc_Stairs___init__ : FnScope ["self", "line", "low", "high"] ["self", "line", "low", "high"] (defScope s_Stairs___init__) := ⟨rfl, rfl, rfl, by decide +kernel, rfl, by decide +kernel, by decide +kernel⟩
abbrev s_Stairs___bool__ : Stmt := inClass (topS 17) 1
theorem sc_Stairs___bool__ : FnScope ["self"] ["self"] (defScope s_Stairs___bool__) := ⟨rfl, rfl, rfl, by decide +kernel, rfl, by decide +kernel, by decide +kernel⟩
abbrev s_Stairs___eq__ : Stmt := inClass (topS 17) 2
theorem sc_Stairs___eq__ : FnScope ["self", "other"] ["self", "other"] (defScope s_Stairs___eq__) := ⟨rfl, rfl, rfl, by decide +kernel, rfl, by decide +kernel, by decide +kernel⟩
abbrev s_Stairs_shows : Stmt := inClass (topS 17) 3
theorem sc_Stairs_shows : FnScope ["self", "row", "x", "a", "b", "m", "above", "below", "lesser"] ["self", "row"] (defScope s_Stairs_shows) := ⟨rfl, rfl, rfl, by decide +kernel, rfl, by decide +kernel, by decide +kernel⟩
abbrev s_Crooked___init__ : Stmt := inClass (topS 18) 0
theorem sc_Crooked___init__ : FnScope ["self", "low", "high"] ["self", "low", "high"] (defScope s_Crooked___init__) := ⟨rfl, rfl, rfl, by decide +kernel, rfl, by decide +kernel, by decide +kernel⟩
abbrev s_Crooked___bool__ : Stmt := inClass (topS 18) 1
theorem sc_Crooked___bool__ : FnScope ["self"] ["self"] (defScope s_Crooked___bool__) := ⟨rfl, rfl, rfl, by decide +kernel, rfl, by decide +kernel, by decide +kernel⟩
abbrev s_Crooked___eq__ : Stmt := inClass (topS 18) 2
theorem sc_Crooked___eq__ : FnScope ["self", "other"] ["self", "other"] (defScope s_Crooked___eq__) := ⟨rfl, rfl, rfl, by decide +kernel, rfl, by decide +kernel, by decide +kernel⟩
abbrev s_Crooked_shows : Stmt := inClass (topS 18) 3
theorem sc_Crooked_shows : FnScope ["self", "row", "above", "below"] ["self", "row"] (defScope s_Crooked_shows) := ⟨rfl, rfl, rfl, by decide +kernel, rfl, by decide +kernel, by decide +kernel⟩
abbrev s_least_offset : Stmt := topS 19
theorem sc_least_offset : FnScope ["row", "a", "m", "x", "number"] ["row", "a", "m"] (defScope s_least_offset) := ⟨rfl, rfl, rfl, by decide +kernel, rfl, by decide +kernel, by decide +kernel⟩
abbrev s_stairs : Stmt := topS 20
theorem sc_stairs : FnScope ["row", "low", "high", "above", "below", "m", "a"] ["row"] (defScope s_stairs) := ⟨rfl, rfl, rfl, by decide +kernel, rfl, by decide +kernel, by decide +kernel⟩
abbrev s__law_number : Stmt := topS 22
theorem sc__law_number : FnScope ["script", "index", "cell", "turn", "rest", "step", "blend"] ["script", "index"] (defScope s__law_number) := ⟨rfl, rfl, rfl, by decide +kernel, rfl, by decide +kernel, by decide +kernel⟩
abbrev s__law_take : Stmt := topS 23
theorem sc__law_take : FnScope ["draw", "many"] ["draw", "many"] (defScope s__law_take) := ⟨rfl, rfl, rfl, by decide +kernel, rfl, by decide +kernel, by decide +kernel⟩
abbrev s__law_pick : Stmt := topS 24
theorem sc__law_pick : FnScope ["draw", "items"] ["draw", "items"] (defScope s__law_pick) := ⟨rfl, rfl, rfl, by decide +kernel, rfl, by decide +kernel, by decide +kernel⟩
abbrev s__law_long : Stmt := topS 25
theorem sc__law_long : FnScope ["draw", "figures", "found", "turn"] ["draw", "figures"] (defScope s__law_long) := ⟨rfl, rfl, rfl, by decide +kernel, rfl, by decide +kernel, by decide +kernel⟩
abbrev s__law_is_number : Stmt := topS 26
theorem sc__law_is_number : FnScope ["value"] ["value"] (defScope s__law_is_number) := ⟨rfl, rfl, rfl, by decide +kernel, rfl, by decide +kernel, by decide +kernel⟩
abbrev s__law_at : Stmt := topS 27
theorem sc__law_at : FnScope ["line", "x"] ["line", "x"] (defScope s__law_at) := ⟨rfl, rfl, rfl, by decide +kernel, rfl, by decide +kernel, by decide +kernel⟩
abbrev s__law_bounds_of : Stmt := topS 28
theorem sc__law_bounds_of : FnScope ["row", "low", "high"] ["row", "low", "high"] (defScope s__law_bounds_of) := ⟨rfl, rfl, rfl, by decide +kernel, rfl, by decide +kernel, by decide +kernel⟩
abbrev s__law_is_pair : Stmt := topS 29
theorem sc__law_is_pair : FnScope ["pair", "many", "one"] ["pair", "many"] (defScope s__law_is_pair) := ⟨rfl, rfl, rfl, by decide +kernel, rfl, by decide +kernel, by decide +kernel⟩
abbrev s__law_between : Stmt := topS 30
theorem sc__law_between : FnScope ["above", "below", "m", "number"] ["above", "below", "m"] (defScope s__law_between) := ⟨rfl, rfl, rfl, by decide +kernel, rfl, by decide +kernel, by decide +kernel⟩
abbrev s__law_is_right : Stmt := topS 31
theorem sc__law_is_right : FnScope ["row", "told", "above", "below", "a", "b", "m", "x", "less", "number"] ["row", "told"] (defScope s__law_is_right) := ⟨rfl, rfl, rfl, by decide +kernel, rfl, by decide +kernel, by decide +kernel⟩
abbrev s__law_has_line : Stmt := topS 32
theorem sc__law_has_line : FnScope ["row", "m", "low", "high", "a", "b", "x", "number"] ["row", "m"] (defScope s__law_has_line) := ⟨rfl, rfl, rfl, by decide +kernel, rfl, by decide +kernel, by decide +kernel⟩
abbrev s__law_fault : Stmt := topS 33
theorem sc__law_fault : FnScope ["deed", "fault"] ["deed"] (defScope s__law_fault) := ⟨rfl, rfl, rfl, by decide +kernel, rfl, by decide +kernel, by decide +kernel⟩
abbrev s_law : Stmt := topS 34
theorem sc_law : FnScope ["script", "draw", "again", "line", "many", "row", "x", "told", "m", "low", "high", "late", "more", "at", "bad", "long"] ["script"] (defScope s_law) := ⟨rfl, rfl, rfl, by decide +kernel, rfl, by decide +kernel, by decide +kernel⟩
set_option genInjectivity false in
structure Ad where
  c_Line : Addr
  c_Stairs : Addr
  c_Crooked : Addr
  c_BadNumber : Addr
  c_TooLarge : Addr
  f_BadNumber___init__ : Addr
  d_BadNumber___init__ : FuncData
  f_TooLarge___init__ : Addr
  d_TooLarge___init__ : FuncData
  f_is_number : Addr
  d_is_number : FuncData
  f_Line___init__ : Addr
  d_Line___init__ : FuncData
  f_Line___eq__ : Addr
  d_Line___eq__ : FuncData
  f_Line_told : Addr
  d_Line_told : FuncData
  f_Line_at : Addr
  d_Line_at : FuncData
  f_checked_row : Addr
  d_checked_row : FuncData
  f_is_pair : Addr
  d_is_pair : FuncData
  f_slope_above : Addr
  d_slope_above : FuncData
  f_slope_below : Addr
  d_slope_below : FuncData
  f_tightest : Addr
  d_tightest : FuncData
  f_least_between : Addr
  d_least_between : FuncData
  f_Stairs___init__ : Addr
  d_Stairs___init__ : FuncData
  f_Stairs___bool__ : Addr
  d_Stairs___bool__ : FuncData
  f_Stairs___eq__ : Addr
  d_Stairs___eq__ : FuncData
  f_Stairs_shows : Addr
  d_Stairs_shows : FuncData
  f_Crooked___init__ : Addr
  d_Crooked___init__ : FuncData
  f_Crooked___bool__ : Addr
  d_Crooked___bool__ : FuncData
  f_Crooked___eq__ : Addr
  d_Crooked___eq__ : FuncData
  f_Crooked_shows : Addr
  d_Crooked_shows : FuncData
  f_least_offset : Addr
  d_least_offset : FuncData
  f_stairs : Addr
  d_stairs : FuncData
  f__law_number : Addr
  d__law_number : FuncData
  f__law_take : Addr
  d__law_take : FuncData
  f__law_pick : Addr
  d__law_pick : FuncData
  f__law_long : Addr
  d__law_long : FuncData
  f__law_is_number : Addr
  d__law_is_number : FuncData
  f__law_at : Addr
  d__law_at : FuncData
  f__law_bounds_of : Addr
  d__law_bounds_of : FuncData
  f__law_is_pair : Addr
  d__law_is_pair : FuncData
  f__law_between : Addr
  d__law_between : FuncData
  f__law_is_right : Addr
  d__law_is_right : FuncData
  f__law_has_line : Addr
  d__law_has_line : FuncData
  f__law_fault : Addr
  d__law_fault : FuncData
  f_law : Addr
  d_law : FuncData
abbrev oLine (ad : Ad) (x0 x1 x2 : D) : D := .obj ad.c_Line ["a", "b", "m"] [x0, x1, x2]
abbrev oStairs (ad : Ad) (x0 x1 x2 : D) : D := .obj ad.c_Stairs ["line", "low", "high"] [x0, x1, x2]
abbrev oCrooked (ad : Ad) (x0 x1 : D) : D := .obj ad.c_Crooked ["low", "high"] [x0, x1]
def At_a (ad : Ad) (C : Addr) : Prop := C = ad.c_Line
theorem at_Line_a {ad : Ad} : At_a ad ad.c_Line = True := eq_true (rfl)
theorem fq_Line_a {ad : Ad} {x0 x1 x2 : D} {P : D → Prop} : fldQ (At_a ad) "a" (oLine ad x0 x1 x2) P = P x0 := fldQ_hit (rfl) (fld_hit)
def At_b (ad : Ad) (C : Addr) : Prop := C = ad.c_Line
theorem at_Line_b {ad : Ad} : At_b ad ad.c_Line = True := eq_true (rfl)
theorem fq_Line_b {ad : Ad} {x0 x1 x2 : D} {P : D → Prop} : fldQ (At_b ad) "b" (oLine ad x0 x1 x2) P = P x1 := fldQ_hit (rfl) ((fld_miss (by decide +kernel)).trans (fld_hit))
def At_high (ad : Ad) (C : Addr) : Prop := C = ad.c_Stairs ∨ C = ad.c_Crooked
theorem at_Stairs_high {ad : Ad} : At_high ad ad.c_Stairs = True := eq_true (.inl rfl)
theorem fq_Stairs_high {ad : Ad} {x0 x1 x2 : D} {P : D → Prop} : fldQ (At_high ad) "high" (oStairs ad x0 x1 x2) P = P x2 := fldQ_hit (.inl rfl) ((fld_miss (by decide +kernel)).trans ((fld_miss (by decide +kernel)).trans (fld_hit)))
theorem at_Crooked_high {ad : Ad} : At_high ad ad.c_Crooked = True := eq_true (.inr (rfl))
theorem fq_Crooked_high {ad : Ad} {x0 x1 : D} {P : D → Prop} : fldQ (At_high ad) "high" (oCrooked ad x0 x1) P = P x1 := fldQ_hit (.inr (rfl)) ((fld_miss (by decide +kernel)).trans (fld_hit))
def At_line (ad : Ad) (C : Addr) : Prop := C = ad.c_Stairs
theorem at_Stairs_line {ad : Ad} : At_line ad ad.c_Stairs = True := eq_true (rfl)
theorem fq_Stairs_line {ad : Ad} {x0 x1 x2 : D} {P : D → Prop} : fldQ (At_line ad) "line" (oStairs ad x0 x1 x2) P = P x0 := fldQ_hit (rfl) (fld_hit)
def At_low (ad : Ad) (C : Addr) : Prop := C = ad.c_Stairs ∨ C = ad.c_Crooked
theorem at_Stairs_low {ad : Ad} : At_low ad ad.c_Stairs = True := eq_true (.inl rfl)
theorem fq_Stairs_low {ad : Ad} {x0 x1 x2 : D} {P : D → Prop} : fldQ (At_low ad) "low" (oStairs ad x0 x1 x2) P = P x1 := fldQ_hit (.inl rfl) ((fld_miss (by decide +kernel)).trans (fld_hit))
theorem at_Crooked_low {ad : Ad} : At_low ad ad.c_Crooked = True := eq_true (.inr (rfl))
theorem fq_Crooked_low {ad : Ad} {x0 x1 : D} {P : D → Prop} : fldQ (At_low ad) "low" (oCrooked ad x0 x1) P = P x0 := fldQ_hit (.inr (rfl)) (fld_hit)
def At_m (ad : Ad) (C : Addr) : Prop := C = ad.c_Line
theorem at_Line_m {ad : Ad} : At_m ad ad.c_Line = True := eq_true (rfl)
theorem fq_Line_m {ad : Ad} {x0 x1 x2 : D} {P : D → Prop} : fldQ (At_m ad) "m" (oLine ad x0 x1 x2) P = P x2 := fldQ_hit (rfl) ((fld_miss (by decide +kernel)).trans ((fld_miss (by decide +kernel)).trans (fld_hit)))
theorem pn_Line_a : putN "a" ([] : List Str) = (["a"] : List Str) := by decide +kernel
theorem px_Line_a { z : D} : putX "a" z ([] : List Str) [] = [z] := by
  rfl
theorem pn_Line_b : putN "b" (["a"] : List Str) = (["a", "b"] : List Str) := by decide +kernel
theorem px_Line_b {x0 z : D} : putX "b" z (["a"] : List Str) [x0] = [x0, z] := by
  rw [px_miss (by decide +kernel)]
  rfl
theorem pn_Line_m : putN "m" (["a", "b"] : List Str) = (["a", "b", "m"] : List Str) := by decide +kernel
theorem px_Line_m {x0 x1 z : D} : putX "m" z (["a", "b"] : List Str) [x0, x1] = [x0, x1, z] := by
  rw [px_miss (by decide +kernel), px_miss (by decide +kernel)]
  rfl
theorem pn_Stairs_line : putN "line" ([] : List Str) = (["line"] : List Str) := by decide +kernel
theorem px_Stairs_line { z : D} : putX "line" z ([] : List Str) [] = [z] := by
  rfl
theorem pn_Stairs_low : putN "low" (["line"] : List Str) = (["line", "low"] : List Str) := by decide +kernel
theorem px_Stairs_low {x0 z : D} : putX "low" z (["line"] : List Str) [x0] = [x0, z] := by
  rw [px_miss (by decide +kernel)]
  rfl
theorem pn_Stairs_high : putN "high" (["line", "low"] : List Str) = (["line", "low", "high"] : List Str) := by decide +kernel
theorem px_Stairs_high {x0 x1 z : D} : putX "high" z (["line", "low"] : List Str) [x0, x1] = [x0, x1, z] := by
  rw [px_miss (by decide +kernel), px_miss (by decide +kernel)]
  rfl
theorem pn_Crooked_low : putN "low" ([] : List Str) = (["low"] : List Str) := by decide +kernel
theorem px_Crooked_low { z : D} : putX "low" z ([] : List Str) [] = [z] := by
  rfl
theorem pn_Crooked_high : putN "high" (["low"] : List Str) = (["low", "high"] : List Str) := by decide +kernel
theorem px_Crooked_high {x0 z : D} : putX "high" z (["low"] : List Str) [x0] = [x0, z] := by
  rw [px_miss (by decide +kernel)]
  rfl
theorem oq_Line_told {ad : Ad} {x0 x1 x2 : D} {R : Prop} : objQ ad.c_Line "told" (oLine ad x0 x1 x2) R = R := objQ_hit ((fld_miss (by decide +kernel)).trans ((fld_miss (by decide +kernel)).trans ((fld_miss (by decide +kernel)).trans (rfl))))
theorem oq_Line_at {ad : Ad} {x0 x1 x2 : D} {R : Prop} : objQ ad.c_Line "at" (oLine ad x0 x1 x2) R = R := objQ_hit ((fld_miss (by decide +kernel)).trans ((fld_miss (by decide +kernel)).trans ((fld_miss (by decide +kernel)).trans (rfl))))
theorem oq_Stairs_shows {ad : Ad} {x0 x1 x2 : D} {R : Prop} : objQ ad.c_Stairs "shows" (oStairs ad x0 x1 x2) R = R := objQ_hit ((fld_miss (by decide +kernel)).trans ((fld_miss (by decide +kernel)).trans ((fld_miss (by decide +kernel)).trans (rfl))))
theorem oq_Crooked_shows {ad : Ad} {x0 x1 : D} {R : Prop} : objQ ad.c_Crooked "shows" (oCrooked ad x0 x1) R = R := objQ_hit ((fld_miss (by decide +kernel)).trans ((fld_miss (by decide +kernel)).trans (rfl)))
structure Tx (K : PySem.W.Frag) (mg : Str → Option Value) (ad : Ad) : Prop where
  n_all : mg "all" = none
  n_any : mg "any" = none
  n_bool : mg "bool" = none
  n_enumerate : mg "enumerate" = none
  n_int : mg "int" = none
  n_isinstance : mg "isinstance" = none
  n_len : mg "len" = none
  n_list : mg "list" = none
  n_max : mg "max" = none
  n_min : mg "min" = none
  n_range : mg "range" = none
  n_tuple : mg "tuple" = none
  g_MOST_STAIRS : ∃ t, mg "MOST_STAIRS" = some (.int 200 t)
  g_Line : mg "Line" = some (.ref ad.c_Line)
  cl_Line : Cls K ad.c_Line
  na_Line_a : NoAttr K ad.c_Line "a"
  na_Line_b : NoAttr K ad.c_Line "b"
  na_Line_m : NoAttr K ad.c_Line "m"
  mk_Line : Mk K ad.c_Line ad.f_Line___init__
  isc_Line : IsC K ad.c_Line
  i_Line_Line : PySem.W.kitOne K (.ref ad.c_Line) (.ref ad.c_Line) = some true
  i_Line_Stairs : PySem.W.kitOne K (.ref ad.c_Line) (.ref ad.c_Stairs) = some false
  i_Line_Crooked : PySem.W.kitOne K (.ref ad.c_Line) (.ref ad.c_Crooked) = some false
  g_Stairs : mg "Stairs" = some (.ref ad.c_Stairs)
  cl_Stairs : Cls K ad.c_Stairs
  na_Stairs_line : NoAttr K ad.c_Stairs "line"
  na_Stairs_low : NoAttr K ad.c_Stairs "low"
  na_Stairs_high : NoAttr K ad.c_Stairs "high"
  mk_Stairs : Mk K ad.c_Stairs ad.f_Stairs___init__
  isc_Stairs : IsC K ad.c_Stairs
  i_Stairs_Line : PySem.W.kitOne K (.ref ad.c_Stairs) (.ref ad.c_Line) = some false
  i_Stairs_Stairs : PySem.W.kitOne K (.ref ad.c_Stairs) (.ref ad.c_Stairs) = some true
  i_Stairs_Crooked : PySem.W.kitOne K (.ref ad.c_Stairs) (.ref ad.c_Crooked) = some false
  g_Crooked : mg "Crooked" = some (.ref ad.c_Crooked)
  cl_Crooked : Cls K ad.c_Crooked
  na_Crooked_low : NoAttr K ad.c_Crooked "low"
  na_Crooked_high : NoAttr K ad.c_Crooked "high"
  mk_Crooked : Mk K ad.c_Crooked ad.f_Crooked___init__
  isc_Crooked : IsC K ad.c_Crooked
  i_Crooked_Line : PySem.W.kitOne K (.ref ad.c_Crooked) (.ref ad.c_Line) = some false
  i_Crooked_Stairs : PySem.W.kitOne K (.ref ad.c_Crooked) (.ref ad.c_Stairs) = some false
  i_Crooked_Crooked : PySem.W.kitOne K (.ref ad.c_Crooked) (.ref ad.c_Crooked) = some true
  i_tuple_Line : PySem.W.kitOne K (.type "tuple") (.ref ad.c_Line) = some false
  i_list_Line : PySem.W.kitOne K (.type "list") (.ref ad.c_Line) = some false
  i_tuple_Stairs : PySem.W.kitOne K (.type "tuple") (.ref ad.c_Stairs) = some false
  i_list_Stairs : PySem.W.kitOne K (.type "list") (.ref ad.c_Stairs) = some false
  i_tuple_Crooked : PySem.W.kitOne K (.type "tuple") (.ref ad.c_Crooked) = some false
  i_list_Crooked : PySem.W.kitOne K (.type "list") (.ref ad.c_Crooked) = some false
  g_BadNumber : mg "BadNumber" = some (.ref ad.c_BadNumber)
  g_TooLarge : mg "TooLarge" = some (.ref ad.c_TooLarge)
  ox_BadNumber : OexC K ad.c_BadNumber
  ix_BadNumber : PySem.W.findIn K (.ref ad.c_BadNumber) "__init__" = some (some (.ref ad.f_BadNumber___init__))
  jx_BadNumber : PySem.W.typeIn K (.ref ad.f_BadNumber___init__) = some (.type "function")
  xf_BadNumber : XfC K ad.c_BadNumber
  no_BadNumber_value : PySem.W.findIn K (.ref ad.c_BadNumber) "value" = some none
  xm_BadNumber_BadNumber : PySem.W.exmOne K (.ref ad.c_BadNumber) (.ref ad.c_BadNumber) = some true
  xm_BadNumber_TooLarge : PySem.W.exmOne K (.ref ad.c_BadNumber) (.ref ad.c_TooLarge) = some false
  ox_TooLarge : OexC K ad.c_TooLarge
  ix_TooLarge : PySem.W.findIn K (.ref ad.c_TooLarge) "__init__" = some (some (.ref ad.f_TooLarge___init__))
  jx_TooLarge : PySem.W.typeIn K (.ref ad.f_TooLarge___init__) = some (.type "function")
  xf_TooLarge : XfC K ad.c_TooLarge
  no_TooLarge_number : PySem.W.findIn K (.ref ad.c_TooLarge) "number" = some none
  xm_TooLarge_BadNumber : PySem.W.exmOne K (.ref ad.c_TooLarge) (.ref ad.c_BadNumber) = some false
  xm_TooLarge_TooLarge : PySem.W.exmOne K (.ref ad.c_TooLarge) (.ref ad.c_TooLarge) = some true
  q_Line : EqC K ad.c_Line ad.f_Line___eq__
  nf_Line_Line : PySem.W.notFirst K ad.c_Line (.ref ad.c_Line) = true
  q_Stairs : EqC K ad.c_Stairs ad.f_Stairs___eq__
  nf_Stairs_Stairs : PySem.W.notFirst K ad.c_Stairs (.ref ad.c_Stairs) = true
  nf_Stairs_Crooked : PySem.W.notFirst K ad.c_Stairs (.ref ad.c_Crooked) = true
  q_Crooked : EqC K ad.c_Crooked ad.f_Crooked___eq__
  nf_Crooked_Crooked : PySem.W.notFirst K ad.c_Crooked (.ref ad.c_Crooked) = true
  nf_Crooked_Stairs : PySem.W.notFirst K ad.c_Crooked (.ref ad.c_Stairs) = true
  me_Line_told : Meth K ad.c_Line "told" ad.f_Line_told
  me_Line_at : Meth K ad.c_Line "at" ad.f_Line_at
  me_Stairs___bool__ : Meth K ad.c_Stairs "__bool__" ad.f_Stairs___bool__
  me_Stairs_shows : Meth K ad.c_Stairs "shows" ad.f_Stairs_shows
  me_Crooked___bool__ : Meth K ad.c_Crooked "__bool__" ad.f_Crooked___bool__
  me_Crooked_shows : Meth K ad.c_Crooked "shows" ad.f_Crooked_shows
  F_BadNumber___init__ : Fun K "__init__" "BadNumber.__init__" s_BadNumber___init__ ad.f_BadNumber___init__ ad.d_BadNumber___init__
  b_BadNumber___init__ : Binds K ad.d_BadNumber___init__ ["self", "value"] []
  k_BadNumber___init__ : PySem.W.keepIn K (.ref ad.f_BadNumber___init__) = true
  F_TooLarge___init__ : Fun K "__init__" "TooLarge.__init__" s_TooLarge___init__ ad.f_TooLarge___init__ ad.d_TooLarge___init__
  b_TooLarge___init__ : Binds K ad.d_TooLarge___init__ ["self", "number"] []
  k_TooLarge___init__ : PySem.W.keepIn K (.ref ad.f_TooLarge___init__) = true
  F_is_number : Fun K "is_number" "is_number" s_is_number ad.f_is_number ad.d_is_number
  b_is_number : Binds K ad.d_is_number ["value"] []
  k_is_number : PySem.W.keepIn K (.ref ad.f_is_number) = true
  g_is_number : mg "is_number" = some (.ref ad.f_is_number)
  F_Line___init__ : Fun K "__init__" "Line.__init__" s_Line___init__ ad.f_Line___init__ ad.d_Line___init__
  b_Line___init__ : Binds K ad.d_Line___init__ ["self", "a", "b", "m"] []
  k_Line___init__ : PySem.W.keepIn K (.ref ad.f_Line___init__) = true
  F_Line___eq__ : Fun K "__eq__" "Line.__eq__" s_Line___eq__ ad.f_Line___eq__ ad.d_Line___eq__
  b_Line___eq__ : Binds K ad.d_Line___eq__ ["self", "other"] []
  k_Line___eq__ : PySem.W.keepIn K (.ref ad.f_Line___eq__) = true
  F_Line_told : Fun K "told" "Line.told" s_Line_told ad.f_Line_told ad.d_Line_told
  b_Line_told : Binds K ad.d_Line_told ["self"] []
  k_Line_told : PySem.W.keepIn K (.ref ad.f_Line_told) = true
  F_Line_at : Fun K "at" "Line.at" s_Line_at ad.f_Line_at ad.d_Line_at
  b_Line_at : Binds K ad.d_Line_at ["self", "x"] []
  k_Line_at : PySem.W.keepIn K (.ref ad.f_Line_at) = true
  F_checked_row : Fun K "checked_row" "checked_row" s_checked_row ad.f_checked_row ad.d_checked_row
  b_checked_row : Binds K ad.d_checked_row ["row"] []
  k_checked_row : PySem.W.keepIn K (.ref ad.f_checked_row) = true
  g_checked_row : mg "checked_row" = some (.ref ad.f_checked_row)
  F_is_pair : Fun K "is_pair" "is_pair" s_is_pair ad.f_is_pair ad.d_is_pair
  b_is_pair : Binds K ad.d_is_pair ["value", "many"] []
  k_is_pair : PySem.W.keepIn K (.ref ad.f_is_pair) = true
  g_is_pair : mg "is_pair" = some (.ref ad.f_is_pair)
  F_slope_above : Fun K "slope_above" "slope_above" s_slope_above ad.f_slope_above ad.d_slope_above
  b_slope_above : Binds K ad.d_slope_above ["row", "pair"] []
  k_slope_above : PySem.W.keepIn K (.ref ad.f_slope_above) = true
  g_slope_above : mg "slope_above" = some (.ref ad.f_slope_above)
  F_slope_below : Fun K "slope_below" "slope_below" s_slope_below ad.f_slope_below ad.d_slope_below
  b_slope_below : Binds K ad.d_slope_below ["row", "pair"] []
  k_slope_below : PySem.W.keepIn K (.ref ad.f_slope_below) = true
  g_slope_below : mg "slope_below" = some (.ref ad.f_slope_below)
  F_tightest : Fun K "tightest" "tightest" s_tightest ad.f_tightest ad.d_tightest
  b_tightest : Binds K ad.d_tightest ["row"] []
  k_tightest : PySem.W.keepIn K (.ref ad.f_tightest) = true
  g_tightest : mg "tightest" = some (.ref ad.f_tightest)
  F_least_between : Fun K "least_between" "least_between" s_least_between ad.f_least_between ad.d_least_between
  b_least_between : Binds K ad.d_least_between ["above", "below", "m"] []
  k_least_between : PySem.W.keepIn K (.ref ad.f_least_between) = true
  g_least_between : mg "least_between" = some (.ref ad.f_least_between)
  F_Stairs___init__ : Fun K "__init__" "Stairs.__init__" s_Stairs___init__ ad.f_Stairs___init__ ad.d_Stairs___init__
  b_Stairs___init__ : Binds K ad.d_Stairs___init__ ["self", "line", "low", "high"] []
  k_Stairs___init__ : PySem.W.keepIn K (.ref ad.f_Stairs___init__) = true
  F_Stairs___bool__ : Fun K "__bool__" "Stairs.__bool__" s_Stairs___bool__ ad.f_Stairs___bool__ ad.d_Stairs___bool__
  b_Stairs___bool__ : Binds K ad.d_Stairs___bool__ ["self"] []
  k_Stairs___bool__ : PySem.W.keepIn K (.ref ad.f_Stairs___bool__) = true
  F_Stairs___eq__ : Fun K "__eq__" "Stairs.__eq__" s_Stairs___eq__ ad.f_Stairs___eq__ ad.d_Stairs___eq__
  b_Stairs___eq__ : Binds K ad.d_Stairs___eq__ ["self", "other"] []
  k_Stairs___eq__ : PySem.W.keepIn K (.ref ad.f_Stairs___eq__) = true
  F_Stairs_shows : Fun K "shows" "Stairs.shows" s_Stairs_shows ad.f_Stairs_shows ad.d_Stairs_shows
  b_Stairs_shows : Binds K ad.d_Stairs_shows ["self", "row"] []
  k_Stairs_shows : PySem.W.keepIn K (.ref ad.f_Stairs_shows) = true
  F_Crooked___init__ : Fun K "__init__" "Crooked.__init__" s_Crooked___init__ ad.f_Crooked___init__ ad.d_Crooked___init__
  b_Crooked___init__ : Binds K ad.d_Crooked___init__ ["self", "low", "high"] []
  k_Crooked___init__ : PySem.W.keepIn K (.ref ad.f_Crooked___init__) = true
  F_Crooked___bool__ : Fun K "__bool__" "Crooked.__bool__" s_Crooked___bool__ ad.f_Crooked___bool__ ad.d_Crooked___bool__
  b_Crooked___bool__ : Binds K ad.d_Crooked___bool__ ["self"] []
  k_Crooked___bool__ : PySem.W.keepIn K (.ref ad.f_Crooked___bool__) = true
  F_Crooked___eq__ : Fun K "__eq__" "Crooked.__eq__" s_Crooked___eq__ ad.f_Crooked___eq__ ad.d_Crooked___eq__
  b_Crooked___eq__ : Binds K ad.d_Crooked___eq__ ["self", "other"] []
  k_Crooked___eq__ : PySem.W.keepIn K (.ref ad.f_Crooked___eq__) = true
  F_Crooked_shows : Fun K "shows" "Crooked.shows" s_Crooked_shows ad.f_Crooked_shows ad.d_Crooked_shows
  b_Crooked_shows : Binds K ad.d_Crooked_shows ["self", "row"] []
  k_Crooked_shows : PySem.W.keepIn K (.ref ad.f_Crooked_shows) = true
  F_least_offset : Fun K "least_offset" "least_offset" s_least_offset ad.f_least_offset ad.d_least_offset
  b_least_offset : Binds K ad.d_least_offset ["row", "a", "m"] []
  k_least_offset : PySem.W.keepIn K (.ref ad.f_least_offset) = true
  g_least_offset : mg "least_offset" = some (.ref ad.f_least_offset)
  F_stairs : Fun K "stairs" "stairs" s_stairs ad.f_stairs ad.d_stairs
  b_stairs : Binds K ad.d_stairs ["row"] []
  k_stairs : PySem.W.keepIn K (.ref ad.f_stairs) = true
  g_stairs : mg "stairs" = some (.ref ad.f_stairs)
  F__law_number : Fun K "_law_number" "_law_number" s__law_number ad.f__law_number ad.d__law_number
  b__law_number : Binds K ad.d__law_number ["script", "index"] []
  k__law_number : PySem.W.keepIn K (.ref ad.f__law_number) = true
  g__law_number : mg "_law_number" = some (.ref ad.f__law_number)
  F__law_take : Fun K "_law_take" "_law_take" s__law_take ad.f__law_take ad.d__law_take
  b__law_take : Binds K ad.d__law_take ["draw", "many"] []
  k__law_take : PySem.W.keepIn K (.ref ad.f__law_take) = true
  g__law_take : mg "_law_take" = some (.ref ad.f__law_take)
  F__law_pick : Fun K "_law_pick" "_law_pick" s__law_pick ad.f__law_pick ad.d__law_pick
  b__law_pick : Binds K ad.d__law_pick ["draw", "items"] []
  k__law_pick : PySem.W.keepIn K (.ref ad.f__law_pick) = true
  g__law_pick : mg "_law_pick" = some (.ref ad.f__law_pick)
  F__law_long : Fun K "_law_long" "_law_long" s__law_long ad.f__law_long ad.d__law_long
  b__law_long : Binds K ad.d__law_long ["draw", "figures"] []
  k__law_long : PySem.W.keepIn K (.ref ad.f__law_long) = true
  g__law_long : mg "_law_long" = some (.ref ad.f__law_long)
  F__law_is_number : Fun K "_law_is_number" "_law_is_number" s__law_is_number ad.f__law_is_number ad.d__law_is_number
  b__law_is_number : Binds K ad.d__law_is_number ["value"] []
  k__law_is_number : PySem.W.keepIn K (.ref ad.f__law_is_number) = true
  g__law_is_number : mg "_law_is_number" = some (.ref ad.f__law_is_number)
  F__law_at : Fun K "_law_at" "_law_at" s__law_at ad.f__law_at ad.d__law_at
  b__law_at : Binds K ad.d__law_at ["line", "x"] []
  k__law_at : PySem.W.keepIn K (.ref ad.f__law_at) = true
  g__law_at : mg "_law_at" = some (.ref ad.f__law_at)
  F__law_bounds_of : Fun K "_law_bounds_of" "_law_bounds_of" s__law_bounds_of ad.f__law_bounds_of ad.d__law_bounds_of
  b__law_bounds_of : Binds K ad.d__law_bounds_of ["row", "low", "high"] []
  k__law_bounds_of : PySem.W.keepIn K (.ref ad.f__law_bounds_of) = true
  g__law_bounds_of : mg "_law_bounds_of" = some (.ref ad.f__law_bounds_of)
  F__law_is_pair : Fun K "_law_is_pair" "_law_is_pair" s__law_is_pair ad.f__law_is_pair ad.d__law_is_pair
  b__law_is_pair : Binds K ad.d__law_is_pair ["pair", "many"] []
  k__law_is_pair : PySem.W.keepIn K (.ref ad.f__law_is_pair) = true
  g__law_is_pair : mg "_law_is_pair" = some (.ref ad.f__law_is_pair)
  F__law_between : Fun K "_law_between" "_law_between" s__law_between ad.f__law_between ad.d__law_between
  b__law_between : Binds K ad.d__law_between ["above", "below", "m"] []
  k__law_between : PySem.W.keepIn K (.ref ad.f__law_between) = true
  g__law_between : mg "_law_between" = some (.ref ad.f__law_between)
  F__law_is_right : Fun K "_law_is_right" "_law_is_right" s__law_is_right ad.f__law_is_right ad.d__law_is_right
  b__law_is_right : Binds K ad.d__law_is_right ["row", "told"] []
  k__law_is_right : PySem.W.keepIn K (.ref ad.f__law_is_right) = true
  g__law_is_right : mg "_law_is_right" = some (.ref ad.f__law_is_right)
  F__law_has_line : Fun K "_law_has_line" "_law_has_line" s__law_has_line ad.f__law_has_line ad.d__law_has_line
  b__law_has_line : Binds K ad.d__law_has_line ["row", "m"] []
  k__law_has_line : PySem.W.keepIn K (.ref ad.f__law_has_line) = true
  g__law_has_line : mg "_law_has_line" = some (.ref ad.f__law_has_line)
  F__law_fault : Fun K "_law_fault" "_law_fault" s__law_fault ad.f__law_fault ad.d__law_fault
  b__law_fault : Binds K ad.d__law_fault ["deed"] []
  k__law_fault : PySem.W.keepIn K (.ref ad.f__law_fault) = true
  g__law_fault : mg "_law_fault" = some (.ref ad.f__law_fault)
  F_law : Fun K "law" "law" s_law ad.f_law ad.d_law
  b_law : Binds K ad.d_law ["script"] []
  k_law : PySem.W.keepIn K (.ref ad.f_law) = true
  g_law : mg "law" = some (.ref ad.f_law)
variable {P : Program} {w : World} {K : PySem.W.Frag} {mg : Str → Option Value} {base : Heap} {ad : Ad}
theorem hf_a (T : Tx K mg ad) : HasF K (At_a ad) "a" := fun C h => by
  rcases h with rfl
  · exact ⟨T.cl_Line, T.na_Line_a⟩
theorem hf_b (T : Tx K mg ad) : HasF K (At_b ad) "b" := fun C h => by
  rcases h with rfl
  · exact ⟨T.cl_Line, T.na_Line_b⟩
theorem hf_high (T : Tx K mg ad) : HasF K (At_high ad) "high" := fun C h => by
  rcases h with rfl | rfl
  · exact ⟨T.cl_Stairs, T.na_Stairs_high⟩
  · exact ⟨T.cl_Crooked, T.na_Crooked_high⟩
theorem hf_line (T : Tx K mg ad) : HasF K (At_line ad) "line" := fun C h => by
  rcases h with rfl
  · exact ⟨T.cl_Stairs, T.na_Stairs_line⟩
theorem hf_low (T : Tx K mg ad) : HasF K (At_low ad) "low" := fun C h => by
  rcases h with rfl | rfl
  · exact ⟨T.cl_Stairs, T.na_Stairs_low⟩
  · exact ⟨T.cl_Crooked, T.na_Crooked_low⟩
theorem hf_m (T : Tx K mg ad) : HasF K (At_m ad) "m" := fun C h => by
  rcases h with rfl
  · exact ⟨T.cl_Line, T.na_Line_m⟩
def Ax_number (ad : Ad) (C : Addr) : Prop := C = ad.c_TooLarge
theorem hx_number (T : Tx K mg ad) : HasX K (Ax_number ad) "number" := fun C h => by
  rcases h with rfl
  · exact ⟨T.xf_TooLarge, T.no_TooLarge_number⟩
theorem ax_TooLarge_number {ad : Ad} : Ax_number ad ad.c_TooLarge = True := eq_true (rfl)
def Ax_value (ad : Ad) (C : Addr) : Prop := C = ad.c_BadNumber
theorem hx_value (T : Tx K mg ad) : HasX K (Ax_value ad) "value" := fun C h => by
  rcases h with rfl
  · exact ⟨T.xf_BadNumber, T.no_BadNumber_value⟩
theorem ax_BadNumber_value {ad : Ad} : Ax_value ad ad.c_BadNumber = True := eq_true (rfl)
def Drw (d : D) : Prop := ∃ (ns : List Int) (k : Int), ns.length ≤ 63 ∧ d = .lst [.scr ns, .int k]
def S_number : FA := fun ds Q _ => match ds with
  | [.scr ns, .int _] => ns.length ≤ 63 ∧ ∀ r, Q (.int r)
  | _ => False
def M_take : FB := fun d0 ds Q _ => match ds with
  | [.int many] => Drw d0 ∧ 0 < many ∧ ∀ r d', 0 ≤ r → r < many → Drw d' → Q (.int r) d'
  | _ => False
def M_pick : FB := fun d0 ds Q _ => match ds with
  | [.lst xs] => Drw d0 ∧ (0 < xs.length ∧ xs.length ≤ 1000) ∧ ∀ r d', r ∈ xs → Drw d' → Q r d'
  | _ => False
def M_long : FB := fun d0 ds Q _ => match ds with
  | [.int f] => Drw d0 ∧ (0 ≤ f ∧ f ≤ 1000) ∧ ∀ r d', r.natAbs < 10 ^ f.toNat → Drw d' → Q (.int r) d'
  | _ => False
def S_law : FA := fun ds Q _ => ∃ ns, ds = [.scr ns] ∧ ns.length ≤ 63 ∧ Q (.bl true)
def isN : D → Bool
  | .int _ => true
  | _ => false
def S_num : FA := fun ds Q _ => match ds with
  | [d] => (tyN d).isSome = true ∧ Q (.bl (isN d))
  | _ => False
def Sm (n : Nat) (i : Int) : Prop := i.natAbs < 2 ^ n
theorem u_number {ns : List Int} {i : Int} {Q E : D → Prop} : S_number [.scr ns, .int i] Q E = (ns.length ≤ 63 ∧ ∀ r, Q (.int r)) := rfl
theorem u_take {d0 : D} {i : Int} {Q E : D → D → Prop} : M_take d0 [.int i] Q E = (Drw d0 ∧ 0 < i ∧ ∀ r d', 0 ≤ r → r < i → Drw d' → Q (.int r) d') := rfl
theorem u_pick {d0 : D} {xs : List D} {Q E : D → D → Prop} : M_pick d0 [.lst xs] Q E = (Drw d0 ∧ (0 < xs.length ∧ xs.length ≤ 1000) ∧ ∀ r d', r ∈ xs → Drw d' → Q r d') := rfl
theorem u_long {d0 : D} {f : Int} {Q E : D → D → Prop} : M_long d0 [.int f] Q E = (Drw d0 ∧ (0 ≤ f ∧ f ≤ 1000) ∧ ∀ r d', r.natAbs < 10 ^ f.toNat → Drw d' → Q (.int r) d') := rfl
theorem u_numI {i : Int} {Q E : D → Prop} : S_num [.int i] Q E = Q (.bl true) := propext ⟨fun ⟨_, q⟩ => q, fun q => ⟨rfl, q⟩⟩
theorem if_nt {a b : Prop} : (if (!true) = true then a else b) = b := if_neg (by decide)
theorem if_ff' {a b : Prop} : (if false = true then a else b) = b := if_neg (by decide)
theorem if_tt' {a b : Prop} : (if true = true then a else b) = a := if_pos rfl
def M_Line (ad : Ad) : FB := fun d0 ds Q _ => match ds with
  | [.int a, .int b, .int m] => d0 = .obj ad.c_Line [] [] ∧ 1 ≤ m ∧ Q .non (oLine ad (.int a) (.int b) (.int m))
  | _ => False
def S_at (ad : Ad) : FA := fun ds Q _ => match ds with
  | [d, .int x] => ∃ a b m, d = oLine ad (.int a) (.int b) (.int m) ∧ (MOk a x ∧ DOk m) ∧ Q (.int ((a * x + b) / m))
  | _ => False
def nth (ns : List Int) (i : Int) : Int := ns.getD i.toNat 0
def In (ns : List Int) (i : Int) : Prop := 0 ≤ i ∧ i < ns.length
def S_slA : FA := fun ds Q _ => match ds with
  | [.tup xs, .tup [.int i, .int j]] => ∃ ns, allInts xs = some ns ∧ (In ns i ∧ In ns j) ∧ Q (.tup [.int (nth ns j - nth ns i - 1), .int (j - i)])
  | _ => False
def S_slB : FA := fun ds Q _ => match ds with
  | [.tup xs, .tup [.int i, .int j]] => ∃ ns, allInts xs = some ns ∧ (In ns i ∧ In ns j) ∧ Q (.tup [.int (nth ns j - nth ns i + 1), .int (j - i)])
  | _ => False
def S_between : FA := fun ds Q _ => match ds with
  | [.tup [.int a0, .int a1], .tup [.int b0, .int b1], .int m] => (0 < a1 ∧ 0 < b1 ∧ 0 < m ∧ Sm 90 a0 ∧ Sm 90 a1 ∧ Sm 90 b0 ∧ Sm 90 b1 ∧ Sm 90 m) ∧ Q (if (a0 * m / a1 + 1) * b1 < b0 * m then .int (a0 * m / a1 + 1) else .non)
  | _ => False
def M_Stairs (ad : Ad) : FB := fun d0 ds Q _ => match ds with
  | [l, a, b] => d0 = .obj ad.c_Stairs [] [] ∧ Q .non (oStairs ad l a b)
  | _ => False
def M_Crooked (ad : Ad) : FB := fun d0 ds Q _ => match ds with
  | [a, b] => d0 = .obj ad.c_Crooked [] [] ∧ Q .non (oCrooked ad a b)
  | _ => False
def S_offset : FA := fun ds Q _ => match ds with
  | [.tup xs, .int a, .int m] => ∃ ns, allInts xs = some ns ∧ (0 < ns.length ∧ ns.length ≤ 200 ∧ Sm 90 a ∧ Sm 90 m ∧ ∀ n ∈ ns, Sm 90 n) ∧ ∀ b, (∃ i : Nat, i < ns.length ∧ b = ns.getD i 0 * m - a * i) → (∀ i : Nat, i < ns.length → ns.getD i 0 * m - a * i ≤ b) → Q (.int b)
  | _ => False
def S_tight : FA := fun ds Q _ => match ds with
  | [.tup xs] => ∃ ns, allInts xs = some ns ∧ (2 ≤ ns.length ∧ ns.length ≤ 200 ∧ ∀ n ∈ ns, Sm 50 n) ∧ ∀ i j k l, W50.Cov (nth ns) ns.length (fun p q => 0 ≤ p ∧ q < ns.length) i j k l → Q (.tup [.tup [.int i, .int j], .tup [.int k, .int l]])
  | _ => False
theorem u_slA {ns : List Int} {i j : Int} {Q E : D → Prop} : S_slA [.tup (ns.map D.int), .tup [.int i, .int j]] Q E = ((In ns i ∧ In ns j) ∧ Q (.tup [.int (nth ns j - nth ns i - 1), .int (j - i)])) := propext
  ⟨fun ⟨ns', e, q⟩ => by rw [allInts_map] at e; cases e; exact q, fun q => ⟨ns, allInts_map ns, q⟩⟩
theorem u_slB {ns : List Int} {i j : Int} {Q E : D → Prop} : S_slB [.tup (ns.map D.int), .tup [.int i, .int j]] Q E = ((In ns i ∧ In ns j) ∧ Q (.tup [.int (nth ns j - nth ns i + 1), .int (j - i)])) := propext
  ⟨fun ⟨ns', e, q⟩ => by rw [allInts_map] at e; cases e; exact q, fun q => ⟨ns, allInts_map ns, q⟩⟩
theorem u_between {a0 a1 b0 b1 m : Int} {Q E : D → Prop} : S_between [.tup [.int a0, .int a1], .tup [.int b0, .int b1], .int m] Q E = ((0 < a1 ∧ 0 < b1 ∧ 0 < m ∧ Sm 90 a0 ∧ Sm 90 a1 ∧ Sm 90 b0 ∧ Sm 90 b1 ∧ Sm 90 m) ∧ Q (if (a0 * m / a1 + 1) * b1 < b0 * m then .int (a0 * m / a1 + 1) else .non)) := rfl
theorem u_Stairs {ad : Ad} {l a b : D} {Q E : D → D → Prop} : M_Stairs ad (.obj ad.c_Stairs [] []) [l, a, b] Q E = Q .non (oStairs ad l a b) := propext ⟨fun h => h.2, fun h => ⟨rfl, h⟩⟩
theorem u_Crooked {ad : Ad} {a b : D} {Q E : D → D → Prop} : M_Crooked ad (.obj ad.c_Crooked [] []) [a, b] Q E = Q .non (oCrooked ad a b) := propext ⟨fun h => h.2, fun h => ⟨rfl, h⟩⟩
theorem u_offset {ns : List Int} {a m : Int} {Q E : D → Prop} : S_offset [.tup (ns.map D.int), .int a, .int m] Q E = ((0 < ns.length ∧ ns.length ≤ 200 ∧ Sm 90 a ∧ Sm 90 m ∧ ∀ n ∈ ns, Sm 90 n) ∧ ∀ b, (∃ i : Nat, i < ns.length ∧ b = ns.getD i 0 * m - a * i) → (∀ i : Nat, i < ns.length → ns.getD i 0 * m - a * i ≤ b) → Q (.int b)) := propext
  ⟨fun ⟨ns', e, q⟩ => by rw [allInts_map] at e; cases e; exact q, fun q => ⟨ns, allInts_map ns, q⟩⟩
theorem u_tight {ns : List Int} {Q E : D → Prop} : S_tight [.tup (ns.map D.int)] Q E = ((2 ≤ ns.length ∧ ns.length ≤ 200 ∧ ∀ n ∈ ns, Sm 50 n) ∧ ∀ i j k l, W50.Cov (nth ns) ns.length (fun p q => 0 ≤ p ∧ q < ns.length) i j k l → Q (.tup [.tup [.int i, .int j], .tup [.int k, .int l]])) := propext
  ⟨fun ⟨ns', e, q⟩ => by rw [allInts_map] at e; cases e; exact q, fun q => ⟨ns, allInts_map ns, q⟩⟩
theorem isN_ite {c : Prop} [Decidable c] {x : Int} {P : D → Prop} : vIsN (if c then .int x else .non) .non P = P (.bl (!decide c)) := by
  by_cases h : c
  · rw [if_pos h, decide_eq_true h]; rfl
  · rw [if_neg h, decide_eq_false h]; rfl
theorem nth_sm {ns : List Int} {b : Nat} (h : ∀ n ∈ ns, Sm b n) {i : Int} (hi : In ns i) : Sm b (nth ns i) := by
  have hn : i.toNat < ns.length := by have := hi.1; have := hi.2; omega
  unfold nth
  rw [List.getD_eq_getElem?_getD, List.getElem?_eq_getElem hn]
  exact h _ (List.getElem_mem hn)
theorem nth_at {ns : List Int} {i : Int} (h : In ns i) : atI (ns.map D.int) i = some (.int (nth ns i)) := by
  obtain ⟨h1, h2⟩ := h
  have hn : i.toNat < ns.length := by omega
  have e : i = ((i.toNat : Nat) : Int) := by omega
  unfold nth
  conv => lhs; rw [e]
  refine atI_nat ?_
  rw [List.getElem?_map, List.getElem?_eq_getElem hn, List.getD_eq_getElem?_getD, List.getElem?_eq_getElem hn]
  rfl
theorem u_Line {ad : Ad} {a b m : Int} {Q E : D → D → Prop} : M_Line ad (.obj ad.c_Line [] []) [.int a, .int b, .int m] Q E = (1 ≤ m ∧ Q .non (oLine ad (.int a) (.int b) (.int m))) := propext ⟨fun h => h.2, fun h => ⟨rfl, h⟩⟩
theorem u_at {ad : Ad} {a b m x : Int} {Q E : D → Prop} : S_at ad [oLine ad (.int a) (.int b) (.int m), .int x] Q E = ((MOk a x ∧ DOk m) ∧ Q (.int ((a * x + b) / m))) := propext
  ⟨fun ⟨a', b', m', h, q⟩ => by cases h; exact q, fun q => ⟨_, _, _, rfl, q⟩⟩
/-! k14: stairs -/
abbrev prD (p : Int × Int) : D := .tup [.int p.1, .int p.2]
abbrev liD (ad : Ad) (L : Int × Int × Int) : D := oLine ad (.int L.1) (.int L.2.1) (.int L.2.2)
abbrev bnD (ad : Ad) (d : D) : D := .obj ad.c_BadNumber ["value"] [d]
abbrev tlD (ad : Ad) (d : D) : D := .obj ad.c_TooLarge ["number"] [d]
def rwOf : D → Option (List D)
  | .lst xs => some xs
  | .tup xs => some xs
  | _ => none
def fstB : List D → Option D
  | [] => none
  | x :: r => if isN x then fstB r else some x
def Row (d : D) (ns : List Int) : Prop := d = .lst (ns.map D.int) ∨ d = .tup (ns.map D.int)
def S_checked (ad : Ad) : FA := fun ds Q E => match ds with
  | [d] => ∃ xs, rwOf d = some xs ∧ (xs.all (fun x => (tyN x).isSome) = true ∧ xs.length ≤ 1000) ∧ (∀ z, fstB xs = some z → E (bnD ad z)) ∧ (fstB xs = none → (2 ≤ xs.length ∧ xs.length ≤ 200 → Q (.tup xs)) ∧ (¬ (2 ≤ xs.length ∧ xs.length ≤ 200) → E (tlD ad (.int xs.length))))
  | _ => False
def PrOk (ns : List Int) (p : Int × Int) : Prop := 0 ≤ p.1 ∧ p.1 < p.2 ∧ p.2 < ns.length
def a0 (ns : List Int) (p : Int × Int) : Int := nth ns p.2 - nth ns p.1 - 1
def b0 (ns : List Int) (p : Int × Int) : Int := nth ns p.2 - nth ns p.1 + 1
/-- the least number whose m-th is above what one pair asks -/
def num (ns : List Int) (lo : Int × Int) (m : Int) : Int := a0 ns lo * m / (lo.2 - lo.1) + 1
def Btw (ns : List Int) (lo hi : Int × Int) (m : Int) : Prop := num ns lo m * (hi.2 - hi.1) < b0 ns hi * m
instance {ns : List Int} {p : Int × Int} : Decidable (PrOk ns p) := inferInstanceAs (Decidable (0 ≤ p.1 ∧ p.1 < p.2 ∧ p.2 < ns.length))
instance {ns : List Int} {lo hi : Int × Int} {m : Int} : Decidable (Btw ns lo hi m) := inferInstanceAs (Decidable (num ns lo m * (hi.2 - hi.1) < b0 ns hi * m))
/-- the line is right for a row -/
structure SR (ns : List Int) (L : Int × Int × Int) (lo hi : Int × Int) : Prop where
  p1 : PrOk ns lo
  p2 : PrOk ns hi
  at_ : ∀ x : Nat, x < ns.length → (L.1 * x + L.2.1) / L.2.2 = ns.getD x 0
  less : ∀ m', 0 < m' → m' < L.2.2 → ¬ Btw ns lo hi m'
  here : Btw ns lo hi L.2.2
  a : num ns lo L.2.2 = L.1
  b : (∃ i : Nat, i < ns.length ∧ L.2.1 = ns.getD i 0 * L.2.2 - L.1 * i) ∧ ∀ i : Nat, i < ns.length → ns.getD i 0 * L.2.2 - L.1 * i ≤ L.2.1
/-- no line has a row's numbers -/
structure CR (ns : List Int) (lo hi : Int × Int) : Prop where
  p1 : PrOk ns lo
  p2 : PrOk ns hi
  no : b0 ns hi * (lo.2 - lo.1) ≤ a0 ns lo * (hi.2 - hi.1)
def NoLess (ns : List Int) (m : Int) : Prop := ∀ a' m', 0 < m' → m' < m → ¬ W50.Fit (nth ns) ns.length a' m'
def TD (ad : Ad) (ns : List Int) (d : D) : Prop := (∃ lo hi, d = oCrooked ad (prD lo) (prD hi) ∧ CR ns lo hi ∧ ∀ a m, 0 < m → ¬ W50.Fit (nth ns) ns.length a m) ∨
  ∃ L lo hi, d = oStairs ad (liD ad L) (prD lo) (prD hi) ∧ SR ns L lo hi ∧ (1 ≤ L.2.2 ∧ L.2.2 ≤ 2 * ns.length) ∧ (Sm 80 L.1 ∧ Sm 85 L.2.1) ∧ NoLess ns L.2.2
def S_stairs (ad : Ad) : FA := fun ds Q E => match ds with
  | [d] => ∃ xs, rwOf d = some xs ∧ (xs.all (fun x => (tyN x).isSome) = true ∧ xs.length ≤ 1000) ∧ (∀ z, fstB xs = some z → E (bnD ad z)) ∧ (fstB xs = none → (2 ≤ xs.length ∧ xs.length ≤ 200 → ∃ ns : List Int, xs = ns.map D.int ∧ (∀ n ∈ ns, Sm 50 n) ∧ ∀ t, TD ad ns t → Q t) ∧ (¬ (2 ≤ xs.length ∧ xs.length ≤ 200) → E (tlD ad (.int xs.length))))
  | _ => False
def S_pair : FA := fun ds Q _ => match ds with
  | [.tup [.int a, .int b], .int n] => Q (.bl (decide (0 ≤ a ∧ a < b ∧ b < n)))
  | _ => False
theorem u_pair {a b n : Int} {Q E : D → Prop} : S_pair [.tup [.int a, .int b], .int n] Q E = Q (.bl (decide (0 ≤ a ∧ a < b ∧ b < n))) := rfl
def S_told (ad : Ad) : FA := fun ds Q _ => match ds with
  | [d] => ∃ L, d = liD ad L ∧ Q (.tup [.int L.1, .int L.2.1, .int L.2.2])
  | _ => False
theorem u_told {ad : Ad} {a b m : Int} {Q E : D → Prop} : S_told ad [oLine ad (.int a) (.int b) (.int m)] Q E = Q (.tup [.int a, .int b, .int m]) := propext ⟨fun ⟨L, h, q⟩ => by cases h; exact q, fun q => ⟨(a, b, m), rfl, q⟩⟩
def S_Leq (ad : Ad) : FA := fun ds Q _ => match ds with
  | [d, e] => ∃ L M, d = liD ad L ∧ e = liD ad M ∧ Q (.bl (decide (L = M)))
  | _ => False
def S_Seq (ad : Ad) : FA := fun ds Q _ => match ds with
  | [d, e] => ∃ (L : Int × Int × Int) (lo hi : Int × Int), d = oStairs ad (liD ad L) (prD lo) (prD hi) ∧ ((∃ (M : Int × Int × Int) (lo' hi' : Int × Int), e = oStairs ad (liD ad M) (prD lo') (prD hi') ∧ Q (.bl (decide ((L, lo, hi) = (M, lo', hi'))))) ∨ (∃ x y, e = oCrooked ad x y ∧ Q (.bl false)))
  | _ => False
def S_Ceq (ad : Ad) : FA := fun ds Q _ => match ds with
  | [d, e] => ∃ (lo hi : Int × Int), d = oCrooked ad (prD lo) (prD hi) ∧ ((∃ (lo' hi' : Int × Int), e = oCrooked ad (prD lo') (prD hi') ∧ Q (.bl (decide ((lo, hi) = (lo', hi'))))) ∨ (∃ x y z, e = oStairs ad x y z ∧ Q (.bl false)))
  | _ => False
def S_Sshows (ad : Ad) : FA := fun ds Q _ => match ds with
  | [d, e] => ∃ (L : Int × Int × Int) (lo hi : Int × Int) (ns : List Int), d = oStairs ad (liD ad L) (prD lo) (prD hi) ∧ Row e ns ∧ (2 ≤ ns.length ∧ ns.length ≤ 200 ∧ (∀ n ∈ ns, Sm 50 n) ∧ 1 ≤ L.2.2 ∧ Sm 87 L.1 ∧ Sm 87 L.2.1 ∧ Sm 87 L.2.2) ∧ ∀ b : Bool, (b = true ↔ L.2.2 ≤ 2 * ns.length ∧ SR ns L lo hi) → Q (.bl b)
  | _ => False
def S_Cshows (ad : Ad) : FA := fun ds Q _ => match ds with
  | [d, e] => ∃ (lo hi : Int × Int) (ns : List Int), d = oCrooked ad (prD lo) (prD hi) ∧ Row e ns ∧ (2 ≤ ns.length ∧ ns.length ≤ 200 ∧ ∀ n ∈ ns, Sm 50 n) ∧ ∀ b : Bool, (b = true ↔ CR ns lo hi) → Q (.bl b)
  | _ => False
def S_lat : FA := fun ds Q _ => match ds with
  | [.tup [.int a, .int b, .int m], .int x] => (MOk a x ∧ DOk m) ∧ Q (.int ((a * x + b) / m))
  | _ => False
theorem u_lat {a b m x : Int} {Q E : D → Prop} : S_lat [.tup [.int a, .int b, .int m], .int x] Q E = ((MOk a x ∧ DOk m) ∧ Q (.int ((a * x + b) / m))) := rfl
def S_lbounds : FA := fun ds Q _ => match ds with
  | [.lst xs, .tup [.int i, .int j], .tup [.int k, .int l]] => ∃ ns, allInts xs = some ns ∧ (In ns i ∧ In ns j ∧ In ns k ∧ In ns l) ∧ Q (.tup [.tup [.int (nth ns j - nth ns i - 1), .int (j - i)], .tup [.int (nth ns l - nth ns k + 1), .int (l - k)]])
  | _ => False
def S_lright (ad : Ad) : FA := fun ds Q _ => match ds with
  | [.lst xs, t] => ∃ ns : List Int, xs = ns.map D.int ∧ (2 ≤ ns.length ∧ ns.length ≤ 200 ∧ ∀ n ∈ ns, Sm 50 n) ∧
    ((∃ (L : Int × Int × Int) (lo hi : Int × Int), t = oStairs ad (liD ad L) (prD lo) (prD hi) ∧ (1 ≤ L.2.2 ∧ L.2.2 ≤ 400 ∧ Sm 87 L.1 ∧ Sm 87 L.2.1) ∧ ∀ b : Bool, (b = true ↔ SR ns L lo hi) → Q (.bl b)) ∨
     (∃ (lo hi : Int × Int), t = oCrooked ad (prD lo) (prD hi) ∧ ∀ b : Bool, (b = true ↔ CR ns lo hi) → Q (.bl b)))
  | _ => False
def S_lhasl : FA := fun ds Q _ => match ds with
  | [.lst xs, .int m] => ∃ ns : List Int, xs = ns.map D.int ∧ (2 ≤ ns.length ∧ ns.length ≤ 200 ∧ (∀ n ∈ ns, Sm 50 n) ∧ 1 ≤ m ∧ m ≤ 5 ∧ ∀ a, ¬ W50.Fit (nth ns) ns.length a m) ∧ Q (.bl false)
  | _ => False
def S_fault (ad : Ad) : FL := fun L Q => ∀ E : D → Prop, (∀ d, Q (.tup [.str "number", d]) → E (bnD ad d)) → (∀ d, Q (.tup [.str "large", d]) → E (tlD ad d)) → L (fun _ => Q (.str "none")) E
/-! truth -/
def S_bT (b : Bool) : FA := fun ds Q _ => ∀ z, ds = [z] → Q (.bl b)
def tBs (ad : Ad) (C : Addr) : Option Bool := if C = ad.c_Stairs then some true else if C = ad.c_Crooked then some false else none
theorem hD_sc {X : Cx} {ad : Ad} (T : Tx X.K X.mg ad) (rm : Room 3 X.A) (g1 : FnOk X.prog X.w X.K X.mg X.base (L2.CX X.prog X.w) 1 ad.f_Stairs___bool__ ad.d_Stairs___bool__ ["self"] (spA X.K 1 (S_bT true)))
    (g2 : FnOk X.prog X.w X.K X.mg X.base (L2.CX X.prog X.w) 1 ad.f_Crooked___bool__ ad.d_Crooked___bool__ ["self"] (spA X.K 1 (S_bT false))) : ∀ C b, tBs ad C = some b → BoolD X C b := fun C b h => by
  unfold tBs at h
  split at h
  · rename_i e
    cases h
    subst e
    exact .own T.me_Stairs___bool__.1 T.me_Stairs___bool__.2 g1 rm T.b_Stairs___bool__
  · split at h
    · rename_i e
      cases h
      subst e
      exact .own T.me_Crooked___bool__.1 T.me_Crooked___bool__.2 g2 rm T.b_Crooked___bool__
    · cases h
section
variable {K : PySem.W.Frag} {mg : Str → Option Value} {ad : Ad}
theorem tb_s : tBs ad ad.c_Stairs = some true := if_pos rfl
theorem tb_c (T : Tx K mg ad) : tBs ad ad.c_Crooked = some false := by
  unfold tBs
  rw [if_neg fun e => ?_, if_pos rfl]
  have h := T.i_Crooked_Stairs
  rw [e, T.i_Stairs_Stairs] at h
  cases h
end
theorem fstB_at : ∀ {xs : List D} {i : Nat} {x : D}, (∀ (j : Nat) (e : D), j < i → xs[j]? = some e → isN e = true) → xs[i]? = some x → isN x = false → fstB xs = some x
  | [], _, _, _, e, _ => by simp at e
  | y :: xs, 0, x, _, e, hx => by
    have e : y = x := by simpa using e
    subst e
    show (if isN y then _ else some y) = _
    rw [hx]
    rfl
  | y :: xs, i + 1, x, h, e, hx => by
    show (if isN y then fstB xs else some y) = _
    rw [h 0 y (by omega) rfl, if_pos rfl]
    exact fstB_at (i := i) (fun j e hj he => h (j + 1) e (by omega) (by simpa using he)) (by simpa using e) hx
theorem fstB_all : ∀ {xs : List D}, (∀ (j : Nat) (e : D), xs[j]? = some e → isN e = true) → fstB xs = none
  | [], _ => rfl
  | y :: xs, h => by
    show (if isN y then fstB xs else some y) = _
    rw [h 0 y rfl, if_pos rfl]
    exact fstB_all fun j e he => h (j + 1) e (by simpa using he)
theorem fstB_ints : ∀ ns : List Int, fstB (ns.map D.int) = none
  | [] => rfl
  | n :: ns => fstB_ints ns
theorem fstB_bad {b : D} (hb : isN b = false) (more : List D) : ∀ ns : List Int, fstB (ns.map D.int ++ b :: more) = some b
  | [] => by
    show (if isN b then _ else some b) = _
    rw [hb]
    rfl
  | n :: ns => fstB_bad hb more ns
theorem ty_ints (ns : List Int) : (ns.map D.int).all (fun x => (tyN x).isSome) = true := by
  rw [List.all_eq_true]
  intro d hd
  obtain ⟨n, _, rfl⟩ := List.mem_map.mp hd
  rfl
theorem row_of {d : D} {ns : List Int} (h : Row d ns) : rwOf d = some (ns.map D.int) := by
  rcases h with rfl | rfl <;> rfl
theorem use_checked {ad : Ad} {d : D} {ns : List Int} {Q E : D → Prop} (h : Row d ns) (hl : 2 ≤ ns.length ∧ ns.length ≤ 200) (q : Q (.tup (ns.map D.int))) : S_checked ad [d] Q E :=
  ⟨_, row_of h, ⟨ty_ints ns, by rw [List.length_map]; omega⟩, (fun z e => by rw [fstB_ints] at e; cases e), fun _ => ⟨fun _ => q, fun z => absurd (by rw [List.length_map]; exact hl) z⟩⟩
theorem eqv_pr {p q : Int × Int} : PyData.eqv (toP (prD p)) (toP (prD q)) = decide (p = q) := by
  obtain ⟨a, b⟩ := p
  obtain ⟨c, d⟩ := q
  rw [Bool.eq_iff_iff, decide_eq_true_eq]
  simp [toP, toPs, PyData.eqv, PyData.eqvAll]
section
variable {K : PySem.W.Frag} {mg : Str → Option Value} {ad : Ad}
theorem use_obL (T : Tx K mg ad) {L M : Int × Int × Int} {P : Bool → Prop} (q : P (decide (L = M))) : orW plW (obW K ad.c_Line (S_Leq ad)) (liD ad L) (liD ad M) P := .inr ⟨rfl, ⟨_, ⟨rfl, T.isc_Line⟩, T.nf_Line_Line⟩, (fun ⟨F, v, r1, r2⟩ => by
  have e := rep_inj _ _ _ rfl rfl r1 r2
  have e2 : L = M := by
    obtain ⟨a, b, c⟩ := L
    obtain ⟨a', b', c'⟩ := M
    injection e with _ _ e
    injection e with e1 e
    injection e with e2 e
    injection e with e3 _
    injection e1 with e1
    injection e2 with e2
    injection e3 with e3
    exact Prod.ext e1 (Prod.ext e2 e3)
  rw [decide_eq_true e2] at q
  exact q), L, M, rfl, rfl, q⟩
theorem use_plP {p p' : Int × Int} {W : IW} {P : Bool → Prop} (q : P (decide (p = p'))) : orW plW W (prD p) (prD p') P := .inl ⟨rfl, rfl, rfl, rfl, by rw [eqv_pr]; exact q⟩
theorem k_cEq {p q p' q' : Int × Int} {P : D → Prop} (h : P (.bl (decide ((p, q) = (p', q'))))) : vEq (.tup [prD p, prD q]) (.tup [prD p', prD q']) P := by
  refine ⟨rfl, rfl, rfl, rfl, ?_⟩
  have e : PyData.eqv (toP (.tup [prD p, prD q])) (toP (.tup [prD p', prD q'])) = decide ((p, q) = (p', q')) := by
    obtain ⟨a, b⟩ := p
    obtain ⟨c, d⟩ := q
    obtain ⟨a', b'⟩ := p'
    obtain ⟨c', d'⟩ := q'
    rw [Bool.eq_iff_iff, decide_eq_true_eq]
    simp [toP, toPs, PyData.eqv, PyData.eqvAll, and_assoc]
  rw [e]
  exact h
end
theorem notN_ite {c : Prop} [Decidable c] {x : Int} {P : D → Prop} : vNotN (if c then .int x else .non) .non P = P (.bl (decide c)) := by
  by_cases h : c
  · rw [if_pos h, decide_eq_true h]; rfl
  · rw [if_neg h, decide_eq_false h]; rfl
theorem eq_ite {c : Prop} [Decidable c] {x a : Int} {P : D → Prop} (q : P (.bl (decide (c ∧ x = a)))) : vEq (if c then .int x else .non) (.int a) P := by
  by_cases h : c
  · rw [if_pos h]
    show P (.bl (decide (x = a)))
    rw [show decide (x = a) = decide (c ∧ x = a) by simp [h]]
    exact q
  · rw [if_neg h]
    refine ⟨rfl, rfl, rfl, rfl, ?_⟩
    have e : PyData.eqv (toP .non) (toP (.int a)) = decide (c ∧ x = a) := by
      rw [decide_eq_false (fun z => h z.1)]
      simp [toP, PyData.eqv]
    rw [e]
    exact q
theorem list_at {f : Nat → Int} {ns : List Int} : (List.range ns.length).map f = ns ↔ ∀ x : Nat, x < ns.length → f x = ns.getD x 0 := by
  constructor
  · intro h x hx
    have e : ((List.range ns.length).map f)[x]? = ns[x]? := by rw [h]
    rw [List.getElem?_map, List.getElem?_range hx, List.getElem?_eq_getElem hx] at e
    rw [List.getD_eq_getElem?_getD, List.getElem?_eq_getElem hx]
    exact Option.some.inj e
  · intro h
    refine List.ext_getElem? fun x => ?_
    by_cases hx : x < ns.length
    · rw [List.getElem?_map, List.getElem?_range hx, List.getElem?_eq_getElem hx]
      have := h x hx
      rw [List.getD_eq_getElem?_getD, List.getElem?_eq_getElem hx] at this
      exact congrArg some this
    · rw [List.getElem?_eq_none (by simp; omega), List.getElem?_eq_none (by omega)]
theorem PrOk.in1 {ns : List Int} {p : Int × Int} (h : PrOk ns p) : In ns p.1 := ⟨h.1, by have := h.2.1; have := h.2.2; omega⟩
theorem PrOk.in2 {ns : List Int} {p : Int × Int} (h : PrOk ns p) : In ns p.2 := ⟨by have := h.1; have := h.2.1; omega, h.2.2⟩
theorem a0_sm {ns : List Int} {p : Int × Int} (h : PrOk ns p) (hs : ∀ n ∈ ns, Sm 50 n) : Sm 60 (a0 ns p) := bd_mono (bd_sub (bd_sub (nth_sm hs h.in2) (nth_sm hs h.in1)) (show Sm 1 1 by unfold Sm; decide)) (by decide)
theorem b0_sm {ns : List Int} {p : Int × Int} (h : PrOk ns p) (hs : ∀ n ∈ ns, Sm 50 n) : Sm 60 (b0 ns p) := bd_mono (bd_add (bd_sub (nth_sm hs h.in2) (nth_sm hs h.in1)) (show Sm 1 1 by unfold Sm; decide)) (by decide)
theorem pr_d {ns : List Int} {p : Int × Int} (h : PrOk ns p) (hl : ns.length ≤ 200) : (0 < p.2 - p.1 ∧ p.2 - p.1 < 200) ∧ Sm 8 (p.2 - p.1) := by
  obtain ⟨h1, h2, h3⟩ := h
  refine ⟨by omega, ?_⟩
  have : (2 : Nat) ^ 8 = 256 := by decide
  unfold Sm
  omega
theorem d_pf {ns : List Int} {p : Int × Int} (h : ¬ PrOk ns p) : (!decide (0 ≤ p.1 ∧ p.1 < p.2 ∧ p.2 < (ns.length : Int))) = true := by
  have h : ¬ (0 ≤ p.1 ∧ p.1 < p.2 ∧ p.2 < (ns.length : Int)) := h
  rw [decide_eq_false h]
  rfl
theorem d_pt {ns : List Int} {p : Int × Int} (h : PrOk ns p) : ¬ (!decide (0 ≤ p.1 ∧ p.1 < p.2 ∧ p.2 < (ns.length : Int))) = true := by
  have h : (0 ≤ p.1 ∧ p.1 < p.2 ∧ p.2 < (ns.length : Int)) := h
  rw [decide_eq_true h]
  decide
theorem med {A d1 B d2 : Int} (h1 : 0 < d1) (h2 : 0 < d2) (h : A * d2 < B * d1) : (A * (d1 + d2) / d1 + 1) * d2 < B * (d1 + d2) := by
  have e1 : A * (d1 + d2) < (A + B) * d1 := by
    rw [Int.mul_add, Int.add_mul]
    omega
  have e2 : A * (d1 + d2) / d1 < A + B := (Int.ediv_lt_iff_lt_mul h1).mpr e1
  have e3 := Int.mul_le_mul_of_nonneg_right (show A * (d1 + d2) / d1 + 1 ≤ A + B by omega) (Int.le_of_lt h2)
  rw [Int.add_mul A] at e3
  have e4 : B * (d1 + d2) = B * d1 + B * d2 := Int.mul_add ..
  omega
theorem fit_of {r : Int → Int} {n a b m : Int} (hm : 0 < m) (h : ∀ x, 0 ≤ x → x < n → (a * x + b) / m = r x) : W50.Fit r n a m := fun p q p0 pq qn => by
  have e1 := h p p0 (by omega)
  have e2 := h q (by omega) qn
  have f1 := Int.emod_add_mul_ediv (a * p + b) m
  have f2 := Int.emod_add_mul_ediv (a * q + b) m
  have g1 := Int.emod_nonneg (a * p + b) (show m ≠ 0 by omega)
  have g2 := Int.emod_nonneg (a * q + b) (show m ≠ 0 by omega)
  have k1 := Int.emod_lt_of_pos (a * p + b) hm
  have k2 := Int.emod_lt_of_pos (a * q + b) hm
  rw [e1] at f1
  rw [e2] at f2
  have s1 : (r q - r p - 1) * m = m * r q - m * r p - m := by grind
  have s2 : (r q - r p + 1) * m = m * r q - m * r p + m := by grind
  have s3 : a * (q - p) = a * q - a * p := by grind
  rw [s1, s2, s3]
  omega
theorem enum_range (ns : List Int) : enumD (ns.map D.int) = (List.range ns.length).map fun i : Nat => D.tup [.int (i : Nat), .int (ns.getD i 0)] := by
  refine List.ext_getElem? fun i => ?_
  by_cases hi : i < ns.length
  · rw [enumD_get (d := .int (ns.getD i 0)) (by rw [List.getElem?_map, List.getElem?_eq_getElem hi, List.getD_eq_getElem?_getD, List.getElem?_eq_getElem hi]; rfl), List.getElem?_map, List.getElem?_range hi]
    rfl
  · rw [List.getElem?_eq_none (by rw [enumD_len, List.length_map]; omega), List.getElem?_eq_none (by simp; omega)]
theorem getD_sm {ns : List Int} {b : Nat} (hs : ∀ n ∈ ns, Sm b n) {i : Nat} (hi : i < ns.length) : Sm b (ns.getD i 0) := by
  rw [List.getD_eq_getElem?_getD, List.getElem?_eq_getElem hi]
  exact hs _ (List.getElem_mem hi)
/-- a row that the law draws -/
def GR (R : List Int) : Prop := 2 ≤ R.length ∧ R.length ≤ 61 ∧ ∀ n ∈ R, Sm 50 n
theorem hide_val : ∀ {env : List QL.Slot} {i : Nat} {d : D}, getS env i = .val d → getS (hide env) i = .val d
  | [], _, _, h => h
  | s :: r, 0, d, h => by
    have h : s = .val d := h
    subst h
    rfl
  | s :: r, i + 1, d, h => by
    have h : getS r i = .val d := h
    have g := hide_val h
    cases s <;> exact g
theorem row_sm {a b m q : Int} (ha : a.natAbs < 100) (hb : b.natAbs < 1000) (q0 : 0 ≤ q) (q1 : q ≤ 61) : ((a * q + b) / m).natAbs < 10000 := by
  have h1 : (a * q).natAbs ≤ 100 * 61 := by
    rw [Int.natAbs_mul]
    exact Nat.mul_le_mul (by omega) (by omega)
  have h2 := Int.natAbs_ediv_le_natAbs (a * q + b) m
  omega
theorem gr_of {R : List Int} (h1 : 2 ≤ R.length) (h2 : R.length ≤ 61) (h : ∀ n ∈ R, n.natAbs < 20000) : GR R := ⟨h1, h2, fun n hn => Nat.lt_trans (h n hn) (by decide)⟩
theorem ixN_in {R : List Int} {r : Int} (h : In R r) : ixN R.length r = some r.toNat := by
  obtain ⟨h1, h2⟩ := h
  unfold ixN
  rw [if_pos h1, if_pos h2]
theorem nth_abs {R : List Int} {r : Int} {b : Nat} (h : ∀ n ∈ R, n.natAbs < b) (hr : In R r) : (nth R r).natAbs < b := by
  have hn : r.toNat < R.length := by have := hr.1; have := hr.2; omega
  unfold nth
  rw [List.getD_eq_getElem?_getD, List.getElem?_eq_getElem hn]
  exact h _ (List.getElem_mem hn)
theorem use_stairs {ad : Ad} {t : D} {R : List Int} {Q E : D → Prop} (hR : GR R) (ht : Row t R) (hq : ∀ d, TD ad R d → Q d) : S_stairs ad [t] Q E := by
  obtain ⟨g1, g2, g3⟩ := hR
  exact ⟨_, row_of ht, ⟨ty_ints R, by rw [List.length_map]; omega⟩, (fun z e => by rw [fstB_ints] at e; cases e), fun _ => ⟨fun _ => ⟨R, rfl, g3, hq⟩, fun z => absurd (by rw [List.length_map]; omega) z⟩⟩
theorem st_if {c : Prop} [Decidable c] {ad : Ad} {R : List Int} {Q E1 E2 : D → Prop} (hR : GR R) (hq : ∀ d, TD ad R d → Q d) : if c then S_stairs ad [.tup (R.map D.int)] Q E1 else S_stairs ad [.lst (R.map D.int)] Q E2 := by
  by_cases h : c
  · rw [if_pos h]
    exact use_stairs hR (.inr rfl) hq
  · rw [if_neg h]
    exact use_stairs hR (.inl rfl) hq
theorem ite_mid {c : Prop} [Decidable c] {A B : Prop} (hA : A) (hB : A → B) : if c then A else B := by
  by_cases h : c
  · rw [if_pos h]; exact hA
  · rw [if_neg h]; exact hB hA
theorem any_ff {n : Nat} : ((List.range n).map fun _ : Nat => false).any id = false := by
  rw [List.any_map, List.any_eq_false]
  exact fun x _ z => Bool.noConfusion (show false = true from z)
section
variable {K : PySem.W.Frag} {mg : Str → Option Value} {ad : Ad}
theorem use_ceq (T : Tx K mg ad) {lo hi lo' hi' : Int × Int} {P : D → Prop} (q : P (.bl (decide ((lo, hi) = (lo', hi'))))) : vEqO K ad.c_Crooked (S_Ceq ad) (oCrooked ad (prD lo) (prD hi)) (oCrooked ad (prD lo') (prD hi')) P := ⟨rfl, ⟨_, ⟨rfl, T.isc_Crooked⟩, T.nf_Crooked_Crooked⟩, lo, hi, rfl, .inl ⟨lo', hi', rfl, q⟩⟩
theorem use_ceqS (T : Tx K mg ad) {lo hi : Int × Int} {x y z : D} {P : D → Prop} (q : P (.bl false)) : vEqO K ad.c_Crooked (S_Ceq ad) (oCrooked ad (prD lo) (prD hi)) (oStairs ad x y z) P := ⟨rfl, ⟨_, ⟨rfl, T.isc_Stairs⟩, T.nf_Crooked_Stairs⟩, lo, hi, rfl, .inr ⟨x, y, z, rfl, q⟩⟩
theorem use_seq (T : Tx K mg ad) {L M : Int × Int × Int} {lo hi lo' hi' : Int × Int} {P : D → Prop} (q : P (.bl (decide ((L, lo, hi) = (M, lo', hi'))))) : vEqO K ad.c_Stairs (S_Seq ad) (oStairs ad (liD ad L) (prD lo) (prD hi)) (oStairs ad (liD ad M) (prD lo') (prD hi')) P := ⟨rfl, ⟨_, ⟨rfl, T.isc_Stairs⟩, T.nf_Stairs_Stairs⟩, L, lo, hi, rfl, .inl ⟨M, lo', hi', rfl, q⟩⟩
end
theorem use_rightC {ad : Ad} {R : List Int} {lo hi : Int × Int} {Q E : D → Prop} (hR : GR R) (q : ∀ b : Bool, (b = true ↔ CR R lo hi) → Q (.bl b)) : S_lright ad [.lst (R.map D.int), oCrooked ad (prD lo) (prD hi)] Q E := ⟨R, rfl, ⟨hR.1, by have := hR.2.1; omega, hR.2.2⟩, .inr ⟨lo, hi, rfl, q⟩⟩
theorem use_rightS {ad : Ad} {R : List Int} {L : Int × Int × Int} {lo hi : Int × Int} {Q E : D → Prop} (hR : GR R) (h : 1 ≤ L.2.2 ∧ L.2.2 ≤ 400 ∧ Sm 87 L.1 ∧ Sm 87 L.2.1) (q : ∀ b : Bool, (b = true ↔ SR R L lo hi) → Q (.bl b)) : S_lright ad [.lst (R.map D.int), oStairs ad (liD ad L) (prD lo) (prD hi)] Q E := ⟨R, rfl, ⟨hR.1, by have := hR.2.1; omega, hR.2.2⟩, .inl ⟨L, lo, hi, rfl, h, q⟩⟩
theorem use_showsC {ad : Ad} {R : List Int} {lo hi : Int × Int} {Q E : D → Prop} (hR : GR R) (q : ∀ b : Bool, (b = true ↔ CR R lo hi) → Q (.bl b)) : S_Cshows ad [oCrooked ad (prD lo) (prD hi), .lst (R.map D.int)] Q E := ⟨lo, hi, R, rfl, .inl rfl, ⟨hR.1, by have := hR.2.1; omega, hR.2.2⟩, q⟩
theorem use_showsS {ad : Ad} {R : List Int} {L : Int × Int × Int} {lo hi : Int × Int} {Q E : D → Prop} (hR : GR R) (h : 1 ≤ L.2.2 ∧ Sm 87 L.1 ∧ Sm 87 L.2.1 ∧ Sm 87 L.2.2) (q : ∀ b : Bool, (b = true ↔ L.2.2 ≤ 2 * R.length ∧ SR R L lo hi) → Q (.bl b)) : S_Sshows ad [oStairs ad (liD ad L) (prD lo) (prD hi), .lst (R.map D.int)] Q E := ⟨L, lo, hi, R, rfl, .inl rfl, ⟨hR.1, by have := hR.2.1; omega, hR.2.2, h⟩, q⟩
theorem ne_same {x y : Bool} (h : x = y) : ¬ (!decide (x = y)) = true := by
  rw [decide_eq_true h]
  decide
theorem ne_bl {i j : Bool} {P : D → Prop} (h : i = j) (q : P (.bl false)) : vNe (.bl i) (.bl j) P := by
  show P (.bl (!decide (i = j)))
  rw [decide_eq_true h]
  exact q
theorem sr_dbl {ns : List Int} {L : Int × Int × Int} {lo hi : Int × Int} {x y : Int} (h : SR ns L lo hi) (hm : 1 ≤ L.2.2) : ¬ SR ns (x, y, L.2.2 * 2) lo hi := fun g => g.less L.2.2 (by omega) (by show L.2.2 < L.2.2 * 2; omega) h.here
theorem sr_up {ns : List Int} {L : Int × Int × Int} {lo hi : Int × Int} (h : SR ns L lo hi) : ¬ SR ns (L.1, L.2.1 + 1, L.2.2) lo hi := fun g => by
  obtain ⟨⟨i, hi1, hi2⟩, _⟩ := g.b
  have := h.b.2 i hi1
  have hi2 : L.2.1 + 1 = ns.getD i 0 * L.2.2 - L.1 * i := hi2
  omega
theorem sm_dbl {x r : Int} (h : Sm 85 x) (r0 : 0 ≤ r) (r1 : r < 2) : Sm 87 (x * 2 + r) := by
  have e : (2 : Nat) ^ 87 = 4 * 2 ^ 85 := by decide
  have z : 1 ≤ (2 : Nat) ^ 85 := Nat.two_pow_pos 85
  unfold Sm at h ⊢
  rw [e]
  generalize (2 : Nat) ^ 85 = z at *
  omega
theorem any_hide {env : List QL.Slot} {i : Nat} {d : D} {P P2 : D → Prop} (h : getS env i = .val d) (q : P d) : anyQ (getS (hide env) i) P P2 := by
  rw [hide_val h]
  exact q
/-- values that are no numbers -/
def BadV (d : D) : Prop := isN d = false ∧ (tyN d).isSome = true ∧ ∀ P : D → Prop, P (.bl false) → vNe (.tup [.str (Str.ofString "number"), d]) (.tup [.str (Str.ofString "number"), d]) P
theorem badV_of {r : D} (h : r ∈ [D.non, D.str (Str.ofString "1"), D.bl true, D.tup [D.int 1]]) : BadV r := by
  have fin : ∀ d : D, okP d = true → SeqAt.shaped (toP d) = true → PyData.eqv (toP d) (toP d) = true → ∀ P : D → Prop, P (.bl false) → vEqP d d fun b => P (.bl (!b)) := fun d h1 h2 e P q => ⟨h1, h1, h2, h2, by rw [e]; exact q⟩
  simp only [List.mem_cons, List.not_mem_nil, or_false] at h
  rcases h with rfl | rfl | rfl | rfl
  · exact ⟨rfl, rfl, fin _ rfl (by decide +kernel) (by simp [toP, toPs, PyData.eqv, PyData.eqvAll])⟩
  · exact ⟨rfl, rfl, fin _ rfl (by decide +kernel) (by simp [toP, toPs, PyData.eqv, PyData.eqvAll])⟩
  · exact ⟨rfl, rfl, fin _ rfl (by decide +kernel) (by simp [toP, toPs, PyData.eqv, PyData.eqvAll])⟩
  · exact ⟨rfl, rfl, fin _ rfl (by decide +kernel) (by simp [toP, toPs, PyData.eqv, PyData.eqvAll])⟩
theorem eq_large {n : Int} {P : D → Prop} (q : P (.bl true)) : vEq (.tup [.str (Str.ofString "large"), .int n]) (.tup [.str (Str.ofString "large"), .int n]) P := by
  have h : SeqAt.shaped (toP (.tup [.str (Str.ofString "large"), .int n])) = true := by
    have h0 : SeqAt.shaped (toP (.tup [.str (Str.ofString "large"), .int 0])) = true := by decide +kernel
    exact h0
  refine ⟨rfl, rfl, h, h, ?_⟩
  have e : PyData.eqv (toP (.tup [.str (Str.ofString "large"), .int n])) (toP (.tup [.str (Str.ofString "large"), .int n])) = true := by simp [toP, toPs, PyData.eqv, PyData.eqvAll]
  rw [e]
  exact q
local macro_rules | `(tactic| walk_at "q") => `(tactic| (try simp only [↓QL.e_own0, ↓QL.e_c, ↓QL.e_var, ↓QL.e_varO, ↓QL.e_valQ, ↓QL.e_ownQ, ↓QL.e_anyV, ↓QL.e_anyO, ↓QL.e_get0, ↓QL.e_getS, ↓QL.e_put0, ↓QL.e_putS, ↓QL.e_noN, ↓QL.e_noC, ↓QL.e_noU, ↓QL.e_noV, ↓QL.e_wipN, ↓QL.e_wipC, ↓QL.e_bakN, ↓QL.e_bakC, ↓QL.e_ownN, ↓QL.e_op, ↓QL.e_un, ↓QL.e_tst, ↓QL.e_bq, ↓QL.e_tru, ↓QL.e_notT, ↓QL.e_andT, ↓QL.e_orT, ↓QL.e_and, ↓QL.e_or, ↓QL.e_not, ↓QL.e_tqB, ↓QL.e_tqI, ↓QL.e_tqN, ↓QL.e_tqL, ↓QL.e_tqT, ↓QL.e_if, ↓QL.e_chain, ↓QL.e_nil, ↓QL.e_cons, ↓QL.e_tup, ↓QL.e_lst, ↓QL.e_ixO, ↓QL.e_call, ↓QL.e_callM, ↓QL.e_cb, ↓QL.e_snil, ↓QL.e_seq, ↓QL.e_asg, ↓QL.e_own, ↓QL.e_drop, ↓QL.e_ret, ↓QL.e_retN, ↓QL.e_sif, ↓QL.e_brk, ↓QL.e_cnt, ↓QL.e_nev, ↓QL.e_gn, ↓QL.e_gnil, ↓QL.e_gcons, ↓QL.e_gt, ↓QL.e_par, ↓QL.e_aug, ↓QL.e_lstQ, ↓QL.e_intQ, ↓QL.e_augI, ↓QL.e_for, ↓QL.e_forN, ↓QL.e_forC, ↓QL.e_lc, ↓QL.e_riL, ↓QL.e_riT, ↓QL.e_riR1, ↓QL.e_riR2, ↓QL.e_riE, ↓QL.e_riZ, ↓QL.e_yes, ↓QL.o_add, ↓QL.o_addL, ↓QL.o_addT, ↓QL.o_addLL, ↓QL.o_sub, ↓QL.o_mul, ↓QL.o_div, ↓QL.o_mod, ↓QL.o_pow, ↓QL.o_shl, ↓QL.o_shr, ↓QL.o_neg, ↓QL.o_lt, ↓QL.o_le, ↓QL.o_gt, ↓QL.o_ge, ↓QL.o_eq, ↓QL.o_ne, ↓QL.o_iadd, ↓QL.o_isub, ↓QL.o_ixL, ↓QL.o_ixT, ↓QL.o_ixS, ↓QL.o_lenL, ↓QL.o_lenT, ↓QL.o_lenS, ↓QL.o_abs, ↓QL.o_int, ↓QL.o_max, ↓QL.o_min, ↓QL.o_sum, ↓QL.o_neS, ↓QL.o_eqTn, ↓QL.o_eqT2, ↓QL.o_eqT3, ↓QL.o_neLn, ↓QL.e_fld, ↓QL.e_objO, ↓QL.e_fldS, ↓QL.e_make, ↓QL.e_meth, ↓QL.o_isiO, ↓QL.e_riEA, ↓QL.e_riZA, ↓QL.e_riR3, ↓QL.e_sli, ↓QL.e_roN, ↓QL.e_roS, ↓QL.o_sliL, ↓QL.o_sliT, ↓QL.o_inIT, ↓QL.o_inIL, ↓QL.e_isiT, ↓QL.e_ix0, ↓QL.e_ix1, ↓QL.e_ix2, ↓QL.o_maxL, ↓QL.o_minL, ↓QL.o_tupL, ↓QL.o_tupT, ↓QL.o_listL, ↓QL.o_listT, ↓QL.o_intB, ↓QL.o_allL, ↓QL.o_anyL, ↓QL.o_isN, ↓QL.o_isNI, ↓QL.o_isNN, ↓QL.o_isNT, ↓QL.o_isNL, ↓QL.o_ntN, ↓QL.o_ntNI, ↓QL.o_ntNN, ↓QL.o_ntNT, ↓QL.o_ntNL, ↓QL.e_dctQ, ↓QL.o_listD, ↓QL.e_lc2, ↓QL.e_riRA1, ↓QL.e_riRA2, ↓QL.o_divN, ↓QL.o_maxT, ↓QL.o_minT, ↓QL.e_dicQ, ↓QL.e_callD, ↓QL.e_starR, ↓QL.e_lstR1, ↓QL.e_truO, ↓QL.e_eithA, ↓QL.e_eith, ↓QL.e_seqT, ↓QL.e_seqL, ↓QL.o_eqB, ↓QL.o_neB, ↓QL.o_mulT, ↓QL.e_dc, ↓QL.o_sortedD, ↓QL.o_boolO, ↓QL.e_notO, ↓QL.o_sort3, ↓QL.o_sort2, ↓QL.e_rev, ↓QL.o_rev, ↓QL.o_min2, ↓QL.o_inP, ↓QL.e_riZM, ↓QL.e_raise, ↓QL.e_try, ↓QL.e_disp0, ↓QL.e_unErt, ↓QL.e_unEnx, ↓QL.e_xf, ↓QL.e_makeC, ↓QL.e_deed, ↓QL.e_hide, ↓QL.e_lam, ↓QL.e_hideN, ↓QL.e_hideO, ↓QL.e_hideV, ↓QL.e_hideU, ↓QL.o_max2, ↓QL.o_inL, ↓QL.o_modN, ↓QL.e_riEith, ↓QL.o_eqTw, ↓QL.o_seqC, ↓QL.o_seqN, ↓QL.e_chain3, ↓at_Line_a, ↓fq_Line_a, ↓at_Line_b, ↓fq_Line_b, ↓at_Stairs_high, ↓fq_Stairs_high, ↓at_Crooked_high, ↓fq_Crooked_high, ↓at_Stairs_line, ↓fq_Stairs_line, ↓at_Stairs_low, ↓fq_Stairs_low, ↓at_Crooked_low, ↓fq_Crooked_low, ↓at_Line_m, ↓fq_Line_m, ↓pn_Line_a, ↓px_Line_a, ↓pn_Line_b, ↓px_Line_b, ↓pn_Line_m, ↓px_Line_m, ↓pn_Stairs_line, ↓px_Stairs_line, ↓pn_Stairs_low, ↓px_Stairs_low, ↓pn_Stairs_high, ↓px_Stairs_high, ↓pn_Crooked_low, ↓px_Crooked_low, ↓pn_Crooked_high, ↓px_Crooked_high, ↓oq_Line_told, ↓oq_Line_at, ↓oq_Stairs_shows, ↓oq_Crooked_shows, ↓ax_TooLarge_number, ↓ax_BadNumber_value, ↓u_Line, ↓u_at, ↓u_slA, ↓u_slB, ↓u_between, ↓u_Stairs, ↓u_Crooked, ↓u_offset, ↓u_tight, ↓u_pair, ↓u_told, ↓u_lat, ↓notN_ite, ↓u_numI, ↓u_number, ↓u_take, ↓u_pick, ↓u_long, ↓if_ff', ↓if_tt',  List.map_cons, List.map_nil, Bool.and_true, Bool.and_self, List.length_cons, List.length_nil]))
local macro_rules | `(tactic| walk_at "wi") => `(tactic| (try simp -implicitDefEqProofs only [↓QL.e_own0, ↓QL.e_c, ↓QL.e_var, ↓QL.e_varO, ↓QL.e_valQ, ↓QL.e_ownQ, ↓QL.e_anyV, ↓QL.e_anyO, ↓QL.e_get0, ↓QL.e_getS, ↓QL.e_put0, ↓QL.e_putS, ↓QL.e_noN, ↓QL.e_noC, ↓QL.e_noU, ↓QL.e_noV, ↓QL.e_wipN, ↓QL.e_wipC, ↓QL.e_bakN, ↓QL.e_bakC, ↓QL.e_ownN, ↓QL.e_op, ↓QL.e_un, ↓QL.e_tst, ↓QL.e_bq, ↓QL.e_tru, ↓QL.e_notT, ↓QL.e_andT, ↓QL.e_orT, ↓QL.e_and, ↓QL.e_or, ↓QL.e_not, ↓QL.e_tqB, ↓QL.e_tqI, ↓QL.e_tqN, ↓QL.e_tqL, ↓QL.e_tqT, ↓QL.e_if, ↓QL.e_chain, ↓QL.e_nil, ↓QL.e_cons, ↓QL.e_tup, ↓QL.e_lst, ↓QL.e_ixO, ↓QL.e_call, ↓QL.e_callM, ↓QL.e_cb, ↓QL.e_snil, ↓QL.e_seq, ↓QL.e_asg, ↓QL.e_own, ↓QL.e_drop, ↓QL.e_ret, ↓QL.e_retN, ↓QL.e_sif, ↓QL.e_brk, ↓QL.e_cnt, ↓QL.e_nev, ↓QL.e_gn, ↓QL.e_gnil, ↓QL.e_gcons, ↓QL.e_gt, ↓QL.e_par, ↓QL.e_aug, ↓QL.e_lstQ, ↓QL.e_intQ, ↓QL.e_augI, ↓QL.e_for, ↓QL.e_forN, ↓QL.e_forC, ↓QL.e_lc, ↓QL.e_riL, ↓QL.e_riT, ↓QL.e_riR1, ↓QL.e_riR2, ↓QL.e_riE, ↓QL.e_riZ, ↓QL.e_yes, ↓QL.o_add, ↓QL.o_addL, ↓QL.o_addT, ↓QL.o_addLL, ↓QL.o_sub, ↓QL.o_mul, ↓QL.o_div, ↓QL.o_mod, ↓QL.o_pow, ↓QL.o_shl, ↓QL.o_shr, ↓QL.o_neg, ↓QL.o_lt, ↓QL.o_le, ↓QL.o_gt, ↓QL.o_ge, ↓QL.o_eq, ↓QL.o_ne, ↓QL.o_iadd, ↓QL.o_isub, ↓QL.o_ixL, ↓QL.o_ixT, ↓QL.o_ixS, ↓QL.o_lenL, ↓QL.o_lenT, ↓QL.o_lenS, ↓QL.o_abs, ↓QL.o_int, ↓QL.o_max, ↓QL.o_min, ↓QL.o_sum, ↓QL.o_neS, ↓QL.o_eqTn, ↓QL.o_eqT2, ↓QL.o_eqT3, ↓QL.o_neLn, ↓QL.e_fld, ↓QL.e_objO, ↓QL.e_fldS, ↓QL.e_make, ↓QL.e_meth, ↓QL.o_isiO, ↓QL.e_riEA, ↓QL.e_riZA, ↓QL.e_riR3, ↓QL.e_sli, ↓QL.e_roN, ↓QL.e_roS, ↓QL.o_sliL, ↓QL.o_sliT, ↓QL.o_inIT, ↓QL.o_inIL, ↓QL.e_isiT, ↓QL.e_ix0, ↓QL.e_ix1, ↓QL.e_ix2, ↓QL.o_maxL, ↓QL.o_minL, ↓QL.o_tupL, ↓QL.o_tupT, ↓QL.o_listL, ↓QL.o_listT, ↓QL.o_intB, ↓QL.o_allL, ↓QL.o_anyL, ↓QL.o_isN, ↓QL.o_isNI, ↓QL.o_isNN, ↓QL.o_isNT, ↓QL.o_isNL, ↓QL.o_ntN, ↓QL.o_ntNI, ↓QL.o_ntNN, ↓QL.o_ntNT, ↓QL.o_ntNL, ↓QL.e_dctQ, ↓QL.o_listD, ↓QL.e_lc2, ↓QL.e_riRA1, ↓QL.e_riRA2, ↓QL.o_divN, ↓QL.o_maxT, ↓QL.o_minT, ↓QL.e_dicQ, ↓QL.e_callD, ↓QL.e_starR, ↓QL.e_lstR1, ↓QL.e_truO, ↓QL.e_eithA, ↓QL.e_eith, ↓QL.e_seqT, ↓QL.e_seqL, ↓QL.o_eqB, ↓QL.o_neB, ↓QL.o_mulT, ↓QL.e_dc, ↓QL.o_sortedD, ↓QL.o_boolO, ↓QL.e_notO, ↓QL.o_sort3, ↓QL.o_sort2, ↓QL.e_rev, ↓QL.o_rev, ↓QL.o_min2, ↓QL.o_inP, ↓QL.e_riZM, ↓QL.e_raise, ↓QL.e_try, ↓QL.e_disp0, ↓QL.e_unErt, ↓QL.e_unEnx, ↓QL.e_xf, ↓QL.e_makeC, ↓QL.e_deed, ↓QL.e_hide, ↓QL.e_lam, ↓QL.e_hideN, ↓QL.e_hideO, ↓QL.e_hideV, ↓QL.e_hideU, ↓QL.o_max2, ↓QL.o_inL, ↓QL.o_modN, ↓QL.e_riEith, ↓QL.o_eqTw, ↓QL.o_seqC, ↓QL.o_seqN, ↓QL.e_chain3, ↓at_Line_a, ↓fq_Line_a, ↓at_Line_b, ↓fq_Line_b, ↓at_Stairs_high, ↓fq_Stairs_high, ↓at_Crooked_high, ↓fq_Crooked_high, ↓at_Stairs_line, ↓fq_Stairs_line, ↓at_Stairs_low, ↓fq_Stairs_low, ↓at_Crooked_low, ↓fq_Crooked_low, ↓at_Line_m, ↓fq_Line_m, ↓pn_Line_a, ↓px_Line_a, ↓pn_Line_b, ↓px_Line_b, ↓pn_Line_m, ↓px_Line_m, ↓pn_Stairs_line, ↓px_Stairs_line, ↓pn_Stairs_low, ↓px_Stairs_low, ↓pn_Stairs_high, ↓px_Stairs_high, ↓pn_Crooked_low, ↓px_Crooked_low, ↓pn_Crooked_high, ↓px_Crooked_high, ↓oq_Line_told, ↓oq_Line_at, ↓oq_Stairs_shows, ↓oq_Crooked_shows, ↓ax_TooLarge_number, ↓ax_BadNumber_value, List.length_map, true_and, ↓u_Line, ↓u_at, ↓u_slA, ↓u_slB, ↓u_between, ↓u_Stairs, ↓u_Crooked, ↓u_offset, ↓u_tight, ↓u_pair, ↓u_told, ↓u_lat, ↓notN_ite, ↓u_numI, ↓u_number, ↓u_take, ↓u_pick, ↓u_long, ↓if_ff', ↓if_tt',  List.map_cons, List.map_nil, Bool.and_true, Bool.and_self, List.length_cons, List.length_nil]))
local macro_rules | `(tactic| walk_at "k") => `(tactic| (try simp -implicitDefEqProofs only [↓QL.e_own0, ↓QL.e_c, ↓QL.e_var, ↓QL.e_varO, ↓QL.e_valQ, ↓QL.e_ownQ, ↓QL.e_anyV, ↓QL.e_anyO, ↓QL.e_get0, ↓QL.e_getS, ↓QL.e_put0, ↓QL.e_putS, ↓QL.e_noN, ↓QL.e_noC, ↓QL.e_noU, ↓QL.e_noV, ↓QL.e_wipN, ↓QL.e_wipC, ↓QL.e_bakN, ↓QL.e_bakC, ↓QL.e_ownN, ↓QL.e_op, ↓QL.e_un, ↓QL.e_tst, ↓QL.e_bq, ↓QL.e_tru, ↓QL.e_notT, ↓QL.e_andT, ↓QL.e_orT, ↓QL.e_and, ↓QL.e_or, ↓QL.e_not, ↓QL.e_tqB, ↓QL.e_tqI, ↓QL.e_tqN, ↓QL.e_tqL, ↓QL.e_tqT, ↓QL.e_if, ↓QL.e_chain, ↓QL.e_nil, ↓QL.e_cons, ↓QL.e_tup, ↓QL.e_lst, ↓QL.e_ixO, ↓QL.e_call, ↓QL.e_callM, ↓QL.e_cb, ↓QL.e_snil, ↓QL.e_seq, ↓QL.e_asg, ↓QL.e_own, ↓QL.e_drop, ↓QL.e_ret, ↓QL.e_retN, ↓QL.e_sif, ↓QL.e_brk, ↓QL.e_cnt, ↓QL.e_nev, ↓QL.e_gn, ↓QL.e_gnil, ↓QL.e_gcons, ↓QL.e_gt, ↓QL.e_par, ↓QL.e_aug, ↓QL.e_lstQ, ↓QL.e_intQ, ↓QL.e_augI, ↓QL.e_for, ↓QL.e_forN, ↓QL.e_forC, ↓QL.e_lc, ↓QL.e_riL, ↓QL.e_riT, ↓QL.e_riR1, ↓QL.e_riR2, ↓QL.e_riE, ↓QL.e_riZ, ↓QL.e_yes, ↓QL.o_add, ↓QL.o_addL, ↓QL.o_addT, ↓QL.o_addLL, ↓QL.o_sub, ↓QL.o_mul, ↓QL.o_div, ↓QL.o_mod, ↓QL.o_pow, ↓QL.o_shl, ↓QL.o_shr, ↓QL.o_neg, ↓QL.o_lt, ↓QL.o_le, ↓QL.o_gt, ↓QL.o_ge, ↓QL.o_eq, ↓QL.o_ne, ↓QL.o_iadd, ↓QL.o_isub, ↓QL.o_ixL, ↓QL.o_ixT, ↓QL.o_ixS, ↓QL.o_lenL, ↓QL.o_lenT, ↓QL.o_lenS, ↓QL.o_abs, ↓QL.o_int, ↓QL.o_max, ↓QL.o_min, ↓QL.o_sum, ↓QL.o_neS, ↓QL.o_eqTn, ↓QL.o_eqT2, ↓QL.o_eqT3, ↓QL.o_neLn, ↓QL.e_fld, ↓QL.e_objO, ↓QL.e_fldS, ↓QL.e_make, ↓QL.e_meth, ↓QL.o_isiO, ↓QL.e_riEA, ↓QL.e_riZA, ↓QL.e_riR3, ↓QL.e_sli, ↓QL.e_roN, ↓QL.e_roS, ↓QL.o_sliL, ↓QL.o_sliT, ↓QL.o_inIT, ↓QL.o_inIL, ↓QL.e_isiT, ↓QL.e_ix0, ↓QL.e_ix1, ↓QL.e_ix2, ↓QL.o_maxL, ↓QL.o_minL, ↓QL.o_tupL, ↓QL.o_tupT, ↓QL.o_listL, ↓QL.o_listT, ↓QL.o_intB, ↓QL.o_allL, ↓QL.o_anyL, ↓QL.o_isN, ↓QL.o_isNI, ↓QL.o_isNN, ↓QL.o_isNT, ↓QL.o_isNL, ↓QL.o_ntN, ↓QL.o_ntNI, ↓QL.o_ntNN, ↓QL.o_ntNT, ↓QL.o_ntNL, ↓QL.e_dctQ, ↓QL.o_listD, ↓QL.e_lc2, ↓QL.e_riRA1, ↓QL.e_riRA2, ↓QL.o_divN, ↓QL.o_maxT, ↓QL.o_minT, ↓QL.e_dicQ, ↓QL.e_callD, ↓QL.e_starR, ↓QL.e_lstR1, ↓QL.e_truO, ↓QL.e_eithA, ↓QL.e_eith, ↓QL.e_seqT, ↓QL.e_seqL, ↓QL.o_eqB, ↓QL.o_neB, ↓QL.o_mulT, ↓QL.e_dc, ↓QL.o_sortedD, ↓QL.o_boolO, ↓QL.e_notO, ↓QL.o_sort3, ↓QL.o_sort2, ↓QL.e_rev, ↓QL.o_rev, ↓QL.o_min2, ↓QL.o_inP, ↓QL.e_riZM, ↓QL.e_raise, ↓QL.e_try, ↓QL.e_disp0, ↓QL.e_unErt, ↓QL.e_unEnx, ↓QL.e_xf, ↓QL.e_makeC, ↓QL.e_deed, ↓QL.e_hide, ↓QL.e_lam, ↓QL.e_hideN, ↓QL.e_hideO, ↓QL.e_hideV, ↓QL.e_hideU, ↓QL.o_max2, ↓QL.o_inL, ↓QL.o_modN, ↓QL.e_riEith, ↓QL.o_eqTw, ↓QL.o_seqC, ↓QL.o_seqN, ↓QL.e_chain3, ↓at_Line_a, ↓fq_Line_a, ↓at_Line_b, ↓fq_Line_b, ↓at_Stairs_high, ↓fq_Stairs_high, ↓at_Crooked_high, ↓fq_Crooked_high, ↓at_Stairs_line, ↓fq_Stairs_line, ↓at_Stairs_low, ↓fq_Stairs_low, ↓at_Crooked_low, ↓fq_Crooked_low, ↓at_Line_m, ↓fq_Line_m, ↓pn_Line_a, ↓px_Line_a, ↓pn_Line_b, ↓px_Line_b, ↓pn_Line_m, ↓px_Line_m, ↓pn_Stairs_line, ↓px_Stairs_line, ↓pn_Stairs_low, ↓px_Stairs_low, ↓pn_Stairs_high, ↓px_Stairs_high, ↓pn_Crooked_low, ↓px_Crooked_low, ↓pn_Crooked_high, ↓px_Crooked_high, ↓oq_Line_told, ↓oq_Line_at, ↓oq_Stairs_shows, ↓oq_Crooked_shows, ↓ax_TooLarge_number, ↓ax_BadNumber_value, List.length_map, ↓u_numI, ↓u_number, ↓u_take, ↓u_pick, ↓u_long, ↓u_Line, ↓u_at, ↓u_slA, ↓u_slB, ↓u_between, ↓u_Stairs, ↓u_Crooked, ↓u_offset, ↓u_tight, ↓u_pair, ↓u_told, ↓u_lat, ↓notN_ite, ↓o_neLn, ↓isN_ite, ↓notN_ite, Int.zero_add, ↓if_nt, true_and, List.map_cons, List.map_nil, Bool.and_true, Bool.and_self, List.length_cons, List.length_nil]))
theorem ok_is_number (T : Tx K mg ad) : FnOk P w K mg base (L2.CX P w) 1 ad.f_is_number ad.d_is_number ["value"] (spA K 1 (S_num)) := by
  refine fnA (k := 0) T.F_is_number sc_is_number fun cdv A outer s H F0 E EX hr tk => ⟨_, (qs_one (qs_ret (q_and (q_callB qc_isiB (by rfl) T.n_isinstance bt_isinstance (qa_cons (q_var (pv 0)) (qa_cons (q_raw (pe_bltn (v := .ty "int") (by rfl) T.n_int bt_int rfl)) qa_nil))) (q_one (q_not (q_callB qc_isiB (by rfl) T.n_isinstance bt_isinstance (qa_cons (q_var (pv 0)) (qa_cons (q_raw (pe_bltn (v := .ty "bool") (by rfl) T.n_bool bt_bool rfl)) qa_nil)))))))), fun ds Q hn h => ?_⟩
  unfold S_num at h
  split at h
  rotate_left
  · exact h.elim
  rename_i d
  obtain ⟨hd, q⟩ := h
  show sRet _ _ [.val d]
  walk_at "wi"
  cases d with
  | int i =>
    refine ⟨_, _, rfl, (by decide +kernel : kitB "int" "int" = some true), ?_⟩
    walk_at "wi"
    exact ⟨_, _, rfl, (by decide +kernel : kitB "int" "bool" = some false), q⟩
  | bl b =>
    refine ⟨_, _, rfl, (by decide +kernel : kitB "bool" "int" = some true), ?_⟩
    walk_at "wi"
    exact ⟨_, _, rfl, (by decide +kernel : kitB "bool" "bool" = some true), q⟩
  | non => exact ⟨_, _, rfl, (by decide +kernel : kitB "NoneType" "int" = some false), q⟩
  | str x => exact ⟨_, _, rfl, (by decide +kernel : kitB "str" "int" = some false), q⟩
  | scr x => exact ⟨_, _, rfl, (by decide +kernel : kitB "list" "int" = some false), q⟩
  | tup x => exact ⟨_, _, rfl, (by decide +kernel : kitB "tuple" "int" = some false), q⟩
  | lst x => exact ⟨_, _, rfl, (by decide +kernel : kitB "list" "int" = some false), q⟩
  | dic x y => exact ⟨_, _, rfl, (by decide +kernel : kitB "dict" "int" = some false), q⟩
  | dct x y => exact ⟨_, _, rfl, (by decide +kernel : kitB "dict" "int" = some false), q⟩
  | raw v => cases hd
  | obj C ns xs => cases hd
theorem ok__law_number (T : Tx K mg ad) : FnOk P w K mg base (L2.CX P w) 1 ad.f__law_number ad.d__law_number ["script", "index"] (spA K 2 (S_number)) := by
  refine fnA (k := 0) T.F__law_number sc__law_number fun cdv A outer s H F0 E EX hr tk => ⟨_, (qs_cons (qs_asg (q_cut (q_if (qt_cmp (qo_ne hr.units) (q_var (pv 0)) (q_lst qa_nil)) (q_tup (qa_cons (q_ix (q_var (pv 0)) (q_op qo_mod (q_var (pv 1)) (q_callB qc_len (by rfl) T.n_len bt_len (qa_cons (q_var (pv 0)) qa_nil)))) (qa_cons (q_op qo_div (q_var (pv 1)) (q_callB qc_len (by rfl) T.n_len bt_len (qa_cons (q_var (pv 0)) qa_nil))) qa_nil))) (q_tup (qa_cons q_int (qa_cons q_int qa_nil))))) (qg_t (n := 2) rfl (qgs_cons (qg_n (pg_name (i := 2) sc__law_number.nd rfl (.inl rfl)) (.inl rfl)) (qgs_cons (qg_n (pg_name (i := 3) sc__law_number.nd rfl (.inl rfl)) (.inl rfl)) qgs_nil))))
      (qs_cons (qs_set (i := 4) sc__law_number.nd rfl (.inl rfl) (.inl rfl) (q_cut (q_if (qt_cmp qo_lt (q_var (pv 3)) q_int) (q_op qo_sub (q_var (pv 2)) (q_op qo_pow q_int q_int)) q_int)))
      (qs_cons (qs_for PassesOwn.leaving rfl (qi_r1 (by rfl) T.n_range (qa_cons (q_op qo_mod (q_callTy qc_int (by rfl) T.n_int bt_int (qa_cons (q_var (pv 3)) qa_nil)) q_int) qa_nil)) (qg_n (pg_name (i := 5) sc__law_number.nd rfl (.inl rfl)) (.inl rfl)) (qs_one (qs_set (i := 4) sc__law_number.nd rfl (.inl rfl) (.inl rfl) (q_op qo_div (q_var (pv 4)) q_int))))
      (qs_cons (qs_if (qt_cmp qo_gt (q_var (pv 4)) q_int) (qs_one (qs_ret (q_op qo_mod (q_callTy qc_int (by rfl) T.n_int bt_int (qa_cons (q_var (pv 4)) qa_nil)) q_int))) qs_nil)
      (qs_cons (qs_set (i := 6) sc__law_number.nd rfl (.inl rfl) (.inl rfl) (q_op qo_mod (q_op qo_add (q_op qo_mul (q_callTy qc_int (by rfl) T.n_int bt_int (qa_cons (q_op qo_add (q_var (pv 2)) (q_op qo_mul q_int (q_var (pv 1)))) qa_nil)) q_int) (q_op qo_mul q_int (q_callB qc_len (by rfl) T.n_len bt_len (qa_cons (q_var (pv 0)) qa_nil)))) q_int))
      (qs_cons (qs_set (i := 6) sc__law_number.nd rfl (.inl rfl) (.inl rfl) (q_op qo_mod (q_op qo_add (q_op qo_mul (q_var (pv 6)) (q_var (pv 6))) (q_op qo_mul q_int (q_var (pv 1)))) q_int))
      (qs_one (qs_ret (q_callTy qc_int (by rfl) T.n_int bt_int (qa_cons (q_op qo_mod (q_op qo_add (q_op qo_mul (q_var (pv 6)) q_int) (q_op qo_div (q_var (pv 6)) q_int)) q_int) qa_nil)))))))))), fun ds Q hn h => ?_⟩
  unfold S_number at h
  split at h
  rotate_left
  · exact h.elim
  rename_i ns i
  obtain ⟨hl, q⟩ := h
  show sSeq _ _ _ [.val (.scr ns), .val (.int i), .un, .un, .un, .un, .un]
  walk_at "q"
  refine ⟨fun d env' => env' = [.val (.scr ns), .val (.int i), .un, .un, .un, .un, .un] ∧ ∃ c t, d = .tup [.int c, .int t], ?_, ?_⟩
  · walk_at "q"
    refine ⟨Nat.zero_le _, ?_⟩
    split
    · rename_i h0
      have hp : 0 < ns.length := by
        cases ns with
        | nil => simp at h0
        | cons _ _ => exact Nat.succ_pos _
      have hm := Int.emod_nonneg i (show (ns.length : Int) ≠ 0 by omega)
      have hm2 := Int.emod_lt_of_pos i (show 0 < (ns.length : Int) by omega)
      obtain ⟨n, hn, _⟩ := atI_get_nat hm hm2
      exact ⟨by omega, n, hn, DOk.small (by omega) (by omega), (by decide), trivial, _, _, rfl⟩
    · exact ⟨(by decide), trivial, _, _, rfl⟩
  rintro d env' ⟨rfl, c, t, rfl⟩
  walk_at "q"
  refine ⟨trivial, ?_⟩
  refine ⟨fun d env' => env' = [.val (.scr ns), .val (.int i), .val (.int c), .val (.int t), .un, .un, .un] ∧ ∃ r, d = .int r, ?_, ?_⟩
  · walk_at "q"
    split
    · exact ⟨by decide, trivial, _, rfl⟩
    · exact ⟨trivial, _, rfl⟩
  rintro d env' ⟨rfl, r, rfl⟩
  walk_at "q"
  have hm := Int.emod_nonneg t (show (60 : Int) ≠ 0 by decide)
  have hm2 := Int.emod_lt_of_pos t (show (0 : Int) < 60 by decide)
  refine ⟨by decide, ⟨by omega, by omega⟩, ?_⟩
  refine forR_rng (fun _ env => ∃ r s, env = [.val (.scr ns), .val (.int i), .val (.int c), .val (.int t), .val (.int r), s, .un]) ⟨r, .un, rfl⟩ ?_ ?_
  · rintro k env N hk ⟨r, s, rfl⟩ hN
    walk_at "q"
    exact ⟨DOk.small (by decide) (by decide), hN _ ⟨_, _, rfl⟩⟩
  · rintro env ⟨r, s, rfl⟩
    walk_at "q"
    split
    · exact ⟨by decide, q _⟩
    · have hb := Int.emod_nonneg ((c + 977 * i) * 48271 + 31 * (ns.length : Int)) (show (2147483647 : Int) ≠ 0 by decide)
      have hb2 := Int.emod_lt_of_pos ((c + 977 * i) * 48271 + 31 * (ns.length : Int)) (show (0 : Int) < 2147483647 by decide)
      exact ⟨.l (by decide) (by decide), .r (by decide) (by decide), .l (by decide) (by decide), by decide, .l (by omega) (by omega), .l (by decide) (by decide), by decide, .r (by decide) (by decide), DOk.small (by decide) (by decide), by decide, q _⟩
theorem ok__law_take (T : Tx K mg ad) : FnOk P w K mg base (L2.CX P w) 2 ad.f__law_take ad.d__law_take ["draw", "many"] (spB K 1 (M_take)) := by
  have G__law_number := ok__law_number (P := P) (w := w) (base := base) T
  refine fnB (k := 1) T.F__law_take sc__law_take rfl fun cdv A outer s H B F0 a E EX hr tk => ⟨_, (qs_cons (qs_augI (pv 0) q_int qip_add q_int)
      (qs_one (qs_ret (q_op qo_mod (q_callTy qc_int (by rfl) T.n_int bt_int (qa_cons (q_call G__law_number (hr.mono (by decide)) (by rfl) T.g__law_number T.k__law_number T.b__law_number tkE0 (qa_cons (q_ixO (pv 0) q_int) (qa_cons (q_callTy qc_int (by rfl) T.n_int bt_int (qa_cons (q_ixO (pv 0) q_int) qa_nil)) qa_nil))) qa_nil)) (q_var (pv 1)))))), fun d0 ds Q hn h => ?_⟩
  unfold M_take at h
  split at h
  rotate_left
  · exact h.elim
  rename_i many
  show sSeq _ _ _ [.own d0, .val (.int many)]
  obtain ⟨⟨ns, k, hns, rfl⟩, hm, q⟩ := h
  walk_at "q"
  first | (refine ⟨.int k, rfl, ?_⟩; walk_at "q") | skip
  refine ⟨1, rfl, .scr ns, rfl, .int (k + 1), rfl, ?_⟩
  walk_at "q"
  refine ⟨trivial, hns, fun r => ?_⟩
  walk_at "q"
  exact ⟨hm, q _ _ (Int.emod_nonneg _ (by omega)) (Int.emod_lt_of_pos _ hm) ⟨ns, k + 1, hns, rfl⟩⟩
theorem ok__law_pick (T : Tx K mg ad) : FnOk P w K mg base (L2.CX P w) 3 ad.f__law_pick ad.d__law_pick ["draw", "items"] (spB K 1 (M_pick)) := by
  have G__law_take := ok__law_take (P := P) (w := w) (base := base) T
  refine fnB (k := 2) T.F__law_pick sc__law_pick rfl fun cdv A outer s H B F0 a E EX hr tk => ⟨_, (qs_one (qs_ret (q_ix (q_var (pv 1)) (q_callM G__law_take (hr.mono (by decide)) (by rfl) T.g__law_take T.k__law_take T.b__law_take tkE0 (pv 0) (qa_cons (q_callB qc_len (by rfl) T.n_len bt_len (qa_cons (q_var (pv 1)) qa_nil)) qa_nil))))), fun d0 ds Q hn h => ?_⟩
  unfold M_pick at h
  split at h
  rotate_left
  · exact h.elim
  rename_i xs
  obtain ⟨hD, ⟨h1, h2⟩, q⟩ := h
  show sRet _ _ [.own d0, .val (.lst xs)]
  walk_at "q"
  refine ⟨trivial, hD, by omega, fun r d' h3 h4 hD' => ?_⟩
  obtain ⟨z, hz, hm⟩ := atI_get_nat h3 h4
  exact ⟨z, hz, q _ _ hm hD'⟩
theorem ok__law_long (T : Tx K mg ad) : FnOk P w K mg base (L2.CX P w) 3 ad.f__law_long ad.d__law_long ["draw", "figures"] (spB K 1 (M_long)) := by
  have G__law_take := ok__law_take (P := P) (w := w) (base := base) T
  refine fnB (k := 2) T.F__law_long sc__law_long rfl fun cdv A outer s H B F0 a E EX hr tk => ⟨_, (qs_cons (qs_set (i := 2) sc__law_long.nd rfl (.inl rfl) (.inr (by decide)) q_int)
      (qs_cons (qs_for PassesOwn.leaving rfl (qi_r1 (by rfl) T.n_range (qa_cons (q_callM G__law_take (hr.mono (by decide)) (by rfl) T.g__law_take T.k__law_take T.b__law_take tkE0 (pv 0) (qa_cons (q_op qo_add (q_var (pv 1)) q_int) qa_nil)) qa_nil)) (qg_n (pg_name (i := 3) sc__law_long.nd rfl (.inl rfl)) (.inr (by decide))) (qs_one (qs_set (i := 2) sc__law_long.nd rfl (.inl rfl) (.inr (by decide)) (q_op qo_add (q_op qo_mul q_int (q_var (pv 2))) (q_callM G__law_take (hr.mono (by decide)) (by rfl) T.g__law_take T.k__law_take T.b__law_take tkE0 (pv 0) (qa_cons q_int qa_nil))))))
      (qs_one (qs_ret (q_if (qt_cmp (qo_eq hr.units) (q_callM G__law_take (hr.mono (by decide)) (by rfl) T.g__law_take T.k__law_take T.b__law_take tkE0 (pv 0) (qa_cons q_int qa_nil)) q_int) (q_var (pv 2)) (q_op qo_sub q_int (q_var (pv 2)))))))), fun d0 ds Q hn h => ?_⟩
  unfold M_long at h
  split at h
  rotate_left
  · exact h.elim
  rename_i f
  obtain ⟨hD, ⟨h1, h2⟩, q⟩ := h
  show sSeq _ _ _ [.own d0, .val (.int f), .un, .un]
  walk_at "q"
  refine ⟨trivial, hD, by omega, fun n d' h3 h4 hD' => ?_⟩
  refine ⟨⟨by omega, by omega⟩, ?_⟩
  refine forR_rng (fun i env => ∃ d' r s, Drw d' ∧ r.natAbs < 10 ^ i ∧ 0 ≤ r ∧ env = [.own d', .val (.int f), .val (.int r), s]) ⟨d', 0, .un, hD', by decide, by decide, rfl⟩ ?_ ?_
  · rintro k env N hk ⟨d', r, s, hD', hr, hr0, rfl⟩ hN
    walk_at "q"
    refine ⟨.l (by decide) (by decide), trivial, hD', by decide, fun x d2 hx1 hx2 hD2 => hN _ ⟨d2, _, _, hD2, ?_, ?_, rfl⟩⟩
    · have e : (10 : Nat) ^ (k + 1) = 10 ^ k * 10 := rfl
      omega
    · omega
  · rintro env ⟨d', r, s, hD', hr, hr0, rfl⟩
    have hr' : r.natAbs < 10 ^ f.toNat := Nat.lt_of_lt_of_le hr (Nat.pow_le_pow_right (by decide) (by omega))
    walk_at "q"
    refine ⟨trivial, hD', by decide, fun x d2 hx1 hx2 hD2 => ?_⟩
    split
    · exact q _ _ hr' hD2
    · exact q _ _ (by omega) hD2
theorem ok_Line___init__ (T : Tx K mg ad) : FnOk P w K mg base (L2.CX P w) 3 ad.f_Line___init__ ad.d_Line___init__ ["self", "a", "b", "m"] (spB K 3 (M_Line ad)) := by
  have G_is_number := ok_is_number (P := P) (w := w) (base := base) T
  refine fnB (k := 2) T.F_Line___init__ sc_Line___init__ rfl fun cdv A outer s H B F0 a E EX hr tk => ⟨_, (qs_cons (qs_for PassesOwn.leaving rfl (qi_t (q_tup (qa_cons (q_var (pv 1)) (qa_cons (q_var (pv 2)) (qa_cons (q_var (pv 3)) qa_nil))))) (qg_n (pg_name (i := 4) sc_Line___init__.nd rfl (.inl rfl)) (.inr (by decide))) (qs_one (qs_if (qt_not (qt_tru (q_call G_is_number (hr.mono (by decide)) (by rfl) T.g_is_number T.k_is_number T.b_is_number tkE0 (qa_cons (q_var (pv 4)) qa_nil)))) (qs_one qs_nev) qs_nil)))
      (qs_cons (qs_if (qt_cmp qo_lt (q_var (pv 3)) q_int) (qs_one qs_nev) qs_nil)
      (qs_cons (qs_fld (hf_a T) (pv 0) (q_var (pv 1)))
      (qs_cons (qs_fld (hf_b T) (pv 0) (q_var (pv 2)))
      (qs_one (qs_fld (hf_m T) (pv 0) (q_var (pv 3)))))))), fun d0 ds Q hn h => ?_⟩
  unfold M_Line at h
  split at h
  rotate_left
  · exact h.elim
  rename_i a b m
  obtain ⟨rfl, hm, q⟩ := h
  show sSeq _ _ _ [.own _, .val (.int a), .val (.int b), .val (.int m), .un]
  walk_at "k"
  refine ⟨by decide, ?_⟩
  rw [if_neg (by rw [decide_eq_true_eq]; omega)]
  exact ⟨by decide, by decide, by decide, q⟩
theorem ok_Line_at (T : Tx K mg ad) : FnOk P w K mg base (L2.CX P w) 1 ad.f_Line_at ad.d_Line_at ["self", "x"] (spA K 2 (S_at ad)) := by
  refine fnA (k := 0) T.F_Line_at sc_Line_at fun cdv A outer s H F0 E EX hr tk => ⟨_, (qs_one (qs_ret (q_op qo_div (q_op qo_add (q_op qo_mul (q_fld (hf_a T) (q_var (pv 0))) (q_var (pv 1))) (q_fld (hf_b T) (q_var (pv 0)))) (q_fld (hf_m T) (q_var (pv 0)))))), fun ds Q hn h => ?_⟩
  unfold S_at at h
  split at h
  rotate_left
  · exact h.elim
  rename_i d x
  obtain ⟨a, b, m, rfl, ⟨h1, h2⟩, q⟩ := h
  show sRet _ _ [.val (oLine ad (.int a) (.int b) (.int m)), .val (.int x)]
  walk_at "k"
  exact ⟨h1, h2, q⟩
theorem ok_slope_above (T : Tx K mg ad) : FnOk P w K mg base (L2.CX P w) 1 ad.f_slope_above ad.d_slope_above ["row", "pair"] (spA K 2 (S_slA)) := by
  refine fnA (k := 0) T.F_slope_above sc_slope_above fun cdv A outer s H F0 E EX hr tk => ⟨_, (qs_cons (qs_asg (q_var (pv 1)) (qg_t (n := 2) rfl (qgs_cons (qg_n (pg_name (i := 2) sc_slope_above.nd rfl (.inl rfl)) (.inl rfl)) (qgs_cons (qg_n (pg_name (i := 3) sc_slope_above.nd rfl (.inl rfl)) (.inl rfl)) qgs_nil))))
      (qs_one (qs_ret (q_tup (qa_cons (q_op qo_sub (q_op qo_sub (q_ix (q_var (pv 0)) (q_var (pv 3))) (q_ix (q_var (pv 0)) (q_var (pv 2)))) q_int) (qa_cons (q_op qo_sub (q_var (pv 3)) (q_var (pv 2))) qa_nil)))))), fun ds Q hn h => ?_⟩
  unfold S_slA at h
  split at h
  rotate_left
  · exact h.elim
  rename_i xs i j
  obtain ⟨ns, e, ⟨h1, h2⟩, q⟩ := h
  cases allInts_eq e
  show sSeq _ _ _ [.val (.tup _), .val (.tup _), .un, .un]
  walk_at "k"
  exact ⟨_, nth_at h2, _, nth_at h1, by walk_at "k"; exact ⟨by decide, q⟩⟩
theorem ok_slope_below (T : Tx K mg ad) : FnOk P w K mg base (L2.CX P w) 1 ad.f_slope_below ad.d_slope_below ["row", "pair"] (spA K 2 (S_slB)) := by
  refine fnA (k := 0) T.F_slope_below sc_slope_below fun cdv A outer s H F0 E EX hr tk => ⟨_, (qs_cons (qs_asg (q_var (pv 1)) (qg_t (n := 2) rfl (qgs_cons (qg_n (pg_name (i := 2) sc_slope_below.nd rfl (.inl rfl)) (.inl rfl)) (qgs_cons (qg_n (pg_name (i := 3) sc_slope_below.nd rfl (.inl rfl)) (.inl rfl)) qgs_nil))))
      (qs_one (qs_ret (q_tup (qa_cons (q_op qo_add (q_op qo_sub (q_ix (q_var (pv 0)) (q_var (pv 3))) (q_ix (q_var (pv 0)) (q_var (pv 2)))) q_int) (qa_cons (q_op qo_sub (q_var (pv 3)) (q_var (pv 2))) qa_nil)))))), fun ds Q hn h => ?_⟩
  unfold S_slB at h
  split at h
  rotate_left
  · exact h.elim
  rename_i xs i j
  obtain ⟨ns, e, ⟨h1, h2⟩, q⟩ := h
  cases allInts_eq e
  show sSeq _ _ _ [.val (.tup _), .val (.tup _), .un, .un]
  walk_at "k"
  exact ⟨_, nth_at h2, _, nth_at h1, by walk_at "k"; exact ⟨by decide, q⟩⟩
theorem ok_tightest (T : Tx K mg ad) : FnOk P w K mg base (L2.CX P w) 2 ad.f_tightest ad.d_tightest ["row"] (spA K 1 (S_tight)) := by
  have G_slope_above := ok_slope_above (P := P) (w := w) (base := base) T
  have G_slope_below := ok_slope_below (P := P) (w := w) (base := base) T
  refine fnA (k := 1) T.F_tightest sc_tightest fun cdv A outer s H F0 E EX hr tk => ⟨_, (qs_cons (qs_asg (q_tup (qa_cons (q_tup (qa_cons q_int (qa_cons q_int qa_nil))) (qa_cons (q_tup (qa_cons q_int (qa_cons q_int qa_nil))) qa_nil))) (qg_t (n := 2) rfl (qgs_cons (qg_n (pg_name (i := 1) sc_tightest.nd rfl (.inl rfl)) (.inl rfl)) (qgs_cons (qg_n (pg_name (i := 2) sc_tightest.nd rfl (.inl rfl)) (.inl rfl)) qgs_nil))))
      (qs_cons (qs_for PassesOwn.leaving rfl (qi_r1 (by rfl) T.n_range (qa_cons (q_callB qc_len (by rfl) T.n_len bt_len (qa_cons (q_var (pv 0)) qa_nil)) qa_nil)) (qg_n (pg_name (i := 3) sc_tightest.nd rfl (.inl rfl)) (.inl rfl)) (qs_one (qs_for PassesOwn.leaving rfl (qi_r1 (by rfl) T.n_range (qa_cons (q_var (pv 3)) qa_nil)) (qg_n (pg_name (i := 4) sc_tightest.nd rfl (.inl rfl)) (.inl rfl)) (qs_cons (qs_par (i := 5) (j := 6) rfl sc_tightest.nd rfl rfl (by decide) (.inl rfl) (.inl rfl) rfl rfl (qa_cons (q_call G_slope_above (hr.mono (by decide)) (by rfl) T.g_slope_above T.k_slope_above T.b_slope_above tkE0 (qa_cons (q_var (pv 0)) (qa_cons (q_tup (qa_cons (q_var (pv 4)) (qa_cons (q_var (pv 3)) qa_nil))) qa_nil))) (qa_cons (q_call G_slope_above (hr.mono (by decide)) (by rfl) T.g_slope_above T.k_slope_above T.b_slope_above tkE0 (qa_cons (q_var (pv 0)) (qa_cons (q_var (pv 1)) qa_nil))) qa_nil)) (by rfl))
      (qs_cons (qs_if (qt_cmp qo_gt (q_op qo_mul (q_ix (q_var (pv 5)) q_int) (q_ix (q_var (pv 6)) q_int)) (q_op qo_mul (q_ix (q_var (pv 6)) q_int) (q_ix (q_var (pv 5)) q_int))) (qs_one (qs_set (i := 1) sc_tightest.nd rfl (.inl rfl) (.inl rfl) (q_tup (qa_cons (q_var (pv 4)) (qa_cons (q_var (pv 3)) qa_nil))))) qs_nil)
      (qs_cons (qs_par (i := 5) (j := 6) rfl sc_tightest.nd rfl rfl (by decide) (.inl rfl) (.inl rfl) rfl rfl (qa_cons (q_call G_slope_below (hr.mono (by decide)) (by rfl) T.g_slope_below T.k_slope_below T.b_slope_below tkE0 (qa_cons (q_var (pv 0)) (qa_cons (q_tup (qa_cons (q_var (pv 4)) (qa_cons (q_var (pv 3)) qa_nil))) qa_nil))) (qa_cons (q_call G_slope_below (hr.mono (by decide)) (by rfl) T.g_slope_below T.k_slope_below T.b_slope_below tkE0 (qa_cons (q_var (pv 0)) (qa_cons (q_var (pv 2)) qa_nil))) qa_nil)) (by rfl))
      (qs_one (qs_if (qt_cmp qo_lt (q_op qo_mul (q_ix (q_var (pv 5)) q_int) (q_ix (q_var (pv 6)) q_int)) (q_op qo_mul (q_ix (q_var (pv 6)) q_int) (q_ix (q_var (pv 5)) q_int))) (qs_one (qs_set (i := 2) sc_tightest.nd rfl (.inl rfl) (.inl rfl) (q_tup (qa_cons (q_var (pv 4)) (qa_cons (q_var (pv 3)) qa_nil))))) qs_nil))))))))
      (qs_one (qs_ret (q_tup (qa_cons (q_var (pv 1)) (qa_cons (q_var (pv 2)) qa_nil))))))), fun ds Q hn h => ?_⟩
  unfold S_tight at h
  split at h
  rotate_left
  · exact h.elim
  rename_i xs
  obtain ⟨ns, e, ⟨h1, h2, h3⟩, q⟩ := h
  cases allInts_eq e
  show sSeq _ _ _ [.val (.tup _), .un, .un, .un, .un, .un, .un]
  walk_at "k"
  refine ⟨by decide, by decide, by decide, ⟨by omega, by omega⟩, ?_⟩
  have cov0 : W50.Cov (nth ns) ns.length (fun p q => 0 ≤ p ∧ q < ((0 : Nat) : Int)) 0 1 0 1 := ⟨by decide, by decide, by omega, by decide, by decide, by omega, fun p q hp hc => by omega, fun p q hp hc => by omega⟩
  refine forR_rng (fun L env => ∃ i j k l s1 s2 s3 s4, env = [.val (.tup (ns.map D.int)), .val (.tup [.int i, .int j]), .val (.tup [.int k, .int l]), s1, s2, s3, s4] ∧ W50.Cov (nth ns) ns.length (fun p q => 0 ≤ p ∧ q < (L : Int)) i j k l) ⟨0, 1, 0, 1, _, _, _, _, rfl, cov0⟩ ?_ ?_
  · rintro L env N hL ⟨i, j, k, l, s1, s2, s3, s4, rfl, cov⟩ hN
    walk_at "k"
    refine ⟨⟨by omega, by omega⟩, ?_⟩
    refine forR_rng (fun F env => ∃ i j k l s2 s3 s4, env = [.val (.tup (ns.map D.int)), .val (.tup [.int i, .int j]), .val (.tup [.int k, .int l]), .val (.int (L : Int)), s2, s3, s4] ∧ W50.Cov (nth ns) ns.length (fun p q => 0 ≤ p ∧ (q < (L : Int) ∨ q = L ∧ p < (F : Int))) i j k l) ⟨i, j, k, l, _, _, _, rfl, cov.mono fun p q _ hc => ⟨hc.1, by omega⟩⟩ ?_ ?_
    · rintro F env N2 hF ⟨i, j, k, l, s2, s3, s4, rfl, cov⟩ hN2
      walk_at "k"
      have hF' : F < L := by omega
      have hL' : L < ns.length := by omega
      have inF : In ns F := ⟨by omega, by omega⟩
      have inL : In ns L := ⟨by omega, by omega⟩
      have c1 := cov.a0
      have c2 := cov.a1
      have c3 := cov.a2
      have c4 := cov.b0
      have c5 := cov.b1
      have c6 := cov.b2
      have M : ∀ x y : Int, 0 ≤ y → y < 1000 → MOk x y := fun x y g1 g2 => .r (by omega) (by omega)
      have m : ∀ p q : Int, p < q → (0 ≤ p ∧ (q < (L : Int) ∨ q = L ∧ p < ((F + 1 : Nat) : Int))) → (0 ≤ p ∧ (q < (L : Int) ∨ q = L ∧ p < (F : Int))) ∨ (p = (F : Int) ∧ q = (L : Int)) := fun p q hp hc => by omega
      refine ⟨by decide, ⟨inF, inL⟩, ⟨⟨by omega, by omega⟩, ⟨by omega, by omega⟩⟩, M _ _ (by omega) (by omega), M _ _ (by omega) (by omega), ?_⟩
      split
      · rename_i g1
        rw [decide_eq_true_eq] at g1
        have cov1 := cov.low (p0 := F) (q0 := L) (by omega) (by omega) (by omega) (Int.le_of_lt g1)
        refine ⟨by decide, by decide, ⟨inF, inL⟩, ⟨⟨by omega, by omega⟩, ⟨by omega, by omega⟩⟩, M _ _ (by omega) (by omega), M _ _ (by omega) (by omega), ?_⟩
        split
        · rename_i g2
          rw [decide_eq_true_eq] at g2
          have cov2 := cov1.high (p0 := F) (q0 := L) (by omega) (by omega) (by omega) (Int.le_of_lt g2)
          exact ⟨by decide, hN2 _ ⟨_, _, _, _, _, _, _, rfl, cov2.ext m (Int.le_refl _) (Int.le_refl _)⟩⟩
        · rename_i g2
          rw [decide_eq_true_eq] at g2
          exact hN2 _ ⟨_, _, _, _, _, _, _, rfl, cov1.ext m (Int.le_refl _) (Int.not_lt.mp g2)⟩
      · rename_i g1
        rw [decide_eq_true_eq] at g1
        refine ⟨by decide, ⟨inF, inL⟩, ⟨⟨by omega, by omega⟩, ⟨by omega, by omega⟩⟩, M _ _ (by omega) (by omega), M _ _ (by omega) (by omega), ?_⟩
        split
        · rename_i g2
          rw [decide_eq_true_eq] at g2
          have cov2 := cov.high (p0 := F) (q0 := L) (by omega) (by omega) (by omega) (Int.le_of_lt g2)
          exact ⟨by decide, hN2 _ ⟨_, _, _, _, _, _, _, rfl, cov2.ext m (Int.not_lt.mp g1) (Int.le_refl _)⟩⟩
        · rename_i g2
          rw [decide_eq_true_eq] at g2
          exact hN2 _ ⟨_, _, _, _, _, _, _, rfl, cov.ext m (Int.not_lt.mp g1) (Int.not_lt.mp g2)⟩
    · rintro env ⟨i, j, k, l, s2, s3, s4, rfl, cov⟩
      refine hN _ ⟨i, j, k, l, _, _, _, _, rfl, cov.mono fun p q hp hc => ⟨hc.1, by omega⟩⟩
  · rintro env ⟨i, j, k, l, s1, s2, s3, s4, rfl, cov⟩
    walk_at "k"
    exact ⟨by decide, q i j k l (cov.mono fun p q hp hc => ⟨hc.1, by omega⟩)⟩
theorem ok_least_between (T : Tx K mg ad) : FnOk P w K mg base (L2.CX P w) 1 ad.f_least_between ad.d_least_between ["above", "below", "m"] (spA K 3 (S_between)) := by
  refine fnA (k := 0) T.F_least_between sc_least_between fun cdv A outer s H F0 E EX hr tk => ⟨_, (qs_cons (qs_set (i := 3) sc_least_between.nd rfl (.inl rfl) (.inl rfl) (q_op qo_add (q_op qo_div (q_op qo_mul (q_ix (q_var (pv 0)) q_int) (q_var (pv 2))) (q_ix (q_var (pv 0)) q_int)) q_int))
      (qs_one (qs_ret (q_if (qt_cmp qo_lt (q_op qo_mul (q_var (pv 3)) (q_ix (q_var (pv 1)) q_int)) (q_op qo_mul (q_ix (q_var (pv 1)) q_int) (q_var (pv 2)))) (q_var (pv 3)) q_non)))), fun ds Q hn h => ?_⟩
  unfold S_between at h
  split at h
  rotate_left
  · exact h.elim
  rename_i a0 a1 b0 b1 m
  obtain ⟨⟨h1, h2, h3, s1, s2, s3, s4, s5⟩, q⟩ := h
  show sSeq _ _ _ [.val (.tup [.int a0, .int a1]), .val (.tup [.int b0, .int b1]), .val (.int m), .un]
  walk_at "k"
  refine ⟨MOk.of s1 s5 (by decide), DOk.of h1 s2 (by decide), MOk.of (bd_add (bd_div h1 (bd_mul s1 s5)) (show Sm 1 1 by unfold Sm; decide)) s4 (by decide), MOk.of s3 s5 (by decide), ?_⟩
  by_cases hc : (a0 * m / a1 + 1) * b1 < b0 * m
  · rw [if_pos hc] at q
    rw [if_pos (by rw [decide_eq_true_eq]; exact hc)]
    exact q
  · rw [if_neg hc] at q
    rw [if_neg (by rw [decide_eq_true_eq]; exact hc)]
    exact q
theorem ok_Stairs___init__ (T : Tx K mg ad) : FnOk P w K mg base (L2.CX P w) 1 ad.f_Stairs___init__ ad.d_Stairs___init__ ["self", "line", "low", "high"] (spB K 3 (M_Stairs ad)) := by
  refine fnB (k := 0) T.F_Stairs___init__ sc_Stairs___init__ rfl fun cdv A outer s H B F0 a E EX hr tk => ⟨_, (qs_cons (qs_fld (hf_line T) (pv 0) (q_var (pv 1)))
      (qs_cons (qs_fld (hf_low T) (pv 0) (q_var (pv 2)))
      (qs_one (qs_fld (hf_high T) (pv 0) (q_var (pv 3)))))), fun d0 ds Q hn h => ?_⟩
  unfold M_Stairs at h
  split at h
  rotate_left
  · exact h.elim
  rename_i l a b
  obtain ⟨rfl, q⟩ := h
  show sSeq _ _ _ [.own _, .val l, .val a, .val b]
  walk_at "k"
  exact ⟨by decide, by decide, by decide, q⟩
theorem ok_Crooked___init__ (T : Tx K mg ad) : FnOk P w K mg base (L2.CX P w) 1 ad.f_Crooked___init__ ad.d_Crooked___init__ ["self", "low", "high"] (spB K 2 (M_Crooked ad)) := by
  refine fnB (k := 0) T.F_Crooked___init__ sc_Crooked___init__ rfl fun cdv A outer s H B F0 a E EX hr tk => ⟨_, (qs_cons (qs_fld (hf_low T) (pv 0) (q_var (pv 1)))
      (qs_one (qs_fld (hf_high T) (pv 0) (q_var (pv 2))))), fun d0 ds Q hn h => ?_⟩
  unfold M_Crooked at h
  split at h
  rotate_left
  · exact h.elim
  rename_i a b
  obtain ⟨rfl, q⟩ := h
  show sSeq _ _ _ [.own _, .val a, .val b]
  walk_at "k"
  exact ⟨by decide, by decide, q⟩
theorem ok_least_offset (T : Tx K mg ad) : FnOk P w K mg base (L2.CX P w) 1 ad.f_least_offset ad.d_least_offset ["row", "a", "m"] (spA K 3 (S_offset)) := by
  refine fnA (k := 0) T.F_least_offset sc_least_offset fun cdv A outer s H F0 E EX hr tk => ⟨_, (qs_one (qs_ret (q_callB (qc_max rfl) (by rfl) T.n_max bt_max (qa_cons (q_lcN (own := [("x", 3), ("number", 4)]) rfl sc_least_offset.nd (.inl rfl) (qi_eA (by rfl) T.n_enumerate (qa_cons (q_var (pv 0)) qa_nil)) (blkOk_by (by kernel_rfl)) (fun _ _ _ _ _ _ => (qg_t (n := 2) rfl (qgs_cons (qg_n (pg_name (i := 3) sc_least_offset.nd rfl (.inl rfl)) (.inl rfl)) (qgs_cons (qg_n (pg_name (i := 4) sc_least_offset.nd rfl (.inl rfl)) (.inl rfl)) qgs_nil)))) (fun _ _ _ _ _ _ => qts_nil) (fun _ _ _ _ _ _ => (q_op qo_sub (q_op qo_mul (q_var (pv 4)) (q_var (pv 2))) (q_op qo_mul (q_var (pv 1)) (q_var (pv 3)))))).qe qa_nil)))), fun ds Q hn h => ?_⟩
  unfold S_offset at h
  split at h
  rotate_left
  · exact h.elim
  rename_i xs a m
  obtain ⟨ns, e, ⟨h1, h2, s1, s2, s3⟩, q⟩ := h
  cases allInts_eq e
  show sRet _ _ [.val (.tup _), .val (.int a), .val (.int m), .un, .un]
  walk_at "k"
  have e2 : ∀ L : List Int, (∀ i : Nat, i < ns.length → L[i]? = some (ns.getD i 0 * m - a * i)) → L.length = ns.length → (enumD (ns.map D.int)).map (fun d => match d with | .tup [.int x, .int n] => D.int (n * m - a * x) | _ => .non) = L.map D.int := fun L h3 h4 => by
    refine List.ext_getElem? fun i => ?_
    rw [List.getElem?_map, List.getElem?_map]
    by_cases hi : i < ns.length
    · rw [h3 i hi, enumD_get (d := .int (ns.getD i 0)) (by rw [List.getElem?_map, List.getElem?_eq_getElem hi, List.getD_eq_getElem?_getD, List.getElem?_eq_getElem hi]; rfl)]
      rfl
    · rw [List.getElem?_eq_none (by rw [enumD_len, List.length_map]; omega), List.getElem?_eq_none (by omega)]
      rfl
  have hb : ∀ i : Nat, i < ns.length → Sm 90 (ns.getD i 0) := fun i hi => by
    rw [List.getD_eq_getElem?_getD, List.getElem?_eq_getElem hi]
    exact s3 _ (List.getElem_mem hi)
  refine lcR_map (fun d => match d with | .tup [.int x, .int n] => D.int (n * m - a * x) | _ => .non) (by rw [enumD_len, List.length_map]; exact Nat.le_trans h2 (by decide)) ?_ ?_
  · intro d N hd hN
    obtain ⟨i, hi⟩ := List.getElem?_of_mem hd
    obtain ⟨e, he, rfl⟩ := enumD_inv hi
    obtain ⟨hi2, rfl⟩ := ints_get he
    walk_at "k"
    refine ⟨MOk.of (hb i hi2) s2 (by decide), .r (by omega) (by omega), hN _ ?_⟩
    walk_at "k"
  · have e3 := e2 ((List.range ns.length).map fun i : Nat => ns.getD i 0 * m - a * i) (fun i hi => by rw [List.getElem?_map, List.getElem?_range hi]; rfl) (by simp)
    rw [e3]
    refine ⟨_, allInts_map _, by simpa using h1, fun b hb1 hb2 => q b ?_ fun i hi => hb2 _ (List.mem_map.mpr ⟨i, List.mem_range.mpr hi, rfl⟩)⟩
    obtain ⟨i, hi, rfl⟩ := List.mem_map.mp hb1
    exact ⟨i, List.mem_range.mp hi, rfl⟩
theorem ok_BadNumber___init__ (T : Tx K mg ad) : FnOk P w K mg base (L2.CX P w) 1 ad.f_BadNumber___init__ ad.d_BadNumber___init__ ["self", "value"] (spI ad.c_BadNumber "value") :=
  fnI T.F_BadNumber___init__ sc_BadNumber___init__ rfl T.ox_BadNumber T.no_BadNumber_value fun cdv A outer s H E => pss_one (ps_ost (pv 0) (pv 1))
theorem ok_TooLarge___init__ (T : Tx K mg ad) : FnOk P w K mg base (L2.CX P w) 1 ad.f_TooLarge___init__ ad.d_TooLarge___init__ ["self", "number"] (spI ad.c_TooLarge "number") :=
  fnI T.F_TooLarge___init__ sc_TooLarge___init__ rfl T.ox_TooLarge T.no_TooLarge_number fun cdv A outer s H E => pss_one (ps_ost (pv 0) (pv 1))
theorem ok_Line___eq__ (T : Tx K mg ad) : FnOk P w K mg base (L2.CX P w) 1 ad.f_Line___eq__ ad.d_Line___eq__ ["self", "other"] (spA K 2 (S_Leq ad)) := by
  refine fnA (k := 0) T.F_Line___eq__ sc_Line___eq__ fun cdv A outer s H F0 E EX hr tk => ⟨_, (qs_one (qs_ret (q_and (q_callB qc_isiC (by rfl) T.n_isinstance bt_isinstance (qa_cons (q_var (pv 1)) (qa_cons (q_cls (by rfl) T.g_Line) qa_nil))) (q_one (q_cmp (qo_eq hr.units) (q_tup (qa_cons (q_fld (hf_a T) (q_var (pv 0))) (qa_cons (q_fld (hf_b T) (q_var (pv 0))) (qa_cons (q_fld (hf_m T) (q_var (pv 0))) qa_nil)))) (q_tup (qa_cons (q_fld (hf_a T) (q_var (pv 1))) (qa_cons (q_fld (hf_b T) (q_var (pv 1))) (qa_cons (q_fld (hf_m T) (q_var (pv 1))) qa_nil))))))))), fun ds Q hn h => ?_⟩
  unfold S_Leq at h
  split at h
  rotate_left
  · exact h.elim
  obtain ⟨L, M, rfl, rfl, q⟩ := h
  show sRet _ _ [.val (liD ad L), .val (liD ad M)]
  walk_at "wi"
  refine ⟨T.isc_Line, true, T.i_Line_Line, ?_⟩
  rw [if_pos rfl]
  have e : decide ([L.1, L.2.1, L.2.2] = [M.1, M.2.1, M.2.2]) = decide (L = M) := by
    obtain ⟨a, b, c⟩ := L
    obtain ⟨d, e, f⟩ := M
    simp
  rw [e]
  exact ⟨by decide, by decide, q⟩
theorem ok_Line_told (T : Tx K mg ad) : FnOk P w K mg base (L2.CX P w) 1 ad.f_Line_told ad.d_Line_told ["self"] (spA K 1 (S_told ad)) := by
  refine fnA (k := 0) T.F_Line_told sc_Line_told fun cdv A outer s H F0 E EX hr tk => ⟨_, (qs_one (qs_ret (q_tup (qa_cons (q_fld (hf_a T) (q_var (pv 0))) (qa_cons (q_fld (hf_b T) (q_var (pv 0))) (qa_cons (q_fld (hf_m T) (q_var (pv 0))) qa_nil)))))), fun ds Q hn h => ?_⟩
  unfold S_told at h
  split at h
  rotate_left
  · exact h.elim
  obtain ⟨L, rfl, q⟩ := h
  show sRet _ _ [.val (liD ad L)]
  walk_at "wi"
  exact ⟨by decide, q⟩
theorem ok_checked_row (T : Tx K mg ad) : FnOk P w K mg base (L2.CX P w) 3 ad.f_checked_row ad.d_checked_row ["row"] (spA K 1 (S_checked ad)) := by
  have G_BadNumber___init__ := ok_BadNumber___init__ (P := P) (w := w) (base := base) T
  have G_TooLarge___init__ := ok_TooLarge___init__ (P := P) (w := w) (base := base) T
  have G_is_number := ok_is_number (P := P) (w := w) (base := base) T
  refine fnA (k := 2) T.F_checked_row sc_checked_row fun cdv A outer s H F0 E EX hr tk => ⟨_, (qs_cons (qs_if (qt_not (qt_tru (q_isiT (by rfl) T.n_isinstance bt_isinstance (q_var (pv 0)) (qa_cons (q_raw (pe_bltn (v := .ty "list") (by rfl) T.n_list bt_list rfl)) (qa_cons (q_raw (pe_bltn (v := .ty "tuple") (by rfl) T.n_tuple bt_tuple rfl)) qa_nil))))) (qs_one (qs_raise T.ox_BadNumber T.ix_BadNumber T.jx_BadNumber G_BadNumber___init__ (hr.mono (by decide)) (by rfl) T.g_BadNumber T.b_BadNumber___init__ rfl tk (q_var (pv 0)))) qs_nil)
      (qs_cons (qs_for PassesOwn.leaving rfl (qi_eith (qi_l (q_var (pv 0))) (qi_t (q_var (pv 0)))) (qg_n (pg_name (i := 1) sc_checked_row.nd rfl (.inl rfl)) (.inl rfl)) (qs_one (qs_if (qt_not (qt_tru (q_call G_is_number (hr.mono (by decide)) (by rfl) T.g_is_number T.k_is_number T.b_is_number (tkE_of tk) (qa_cons (q_var (pv 1)) qa_nil)))) (qs_one (qs_raise T.ox_BadNumber T.ix_BadNumber T.jx_BadNumber G_BadNumber___init__ (hr.mono (by decide)) (by rfl) T.g_BadNumber T.b_BadNumber___init__ rfl tk (q_var (pv 1)))) qs_nil)))
      (qs_cons (qs_if (qt_not (qt_chain qo_le qo_le q_int (q_callB qc_len (by rfl) T.n_len bt_len (qa_cons (q_var (pv 0)) qa_nil)) (q_gi (by rfl) T.g_MOST_STAIRS))) (qs_one (qs_raise T.ox_TooLarge T.ix_TooLarge T.jx_TooLarge G_TooLarge___init__ (hr.mono (by decide)) (by rfl) T.g_TooLarge T.b_TooLarge___init__ rfl tk (q_callB qc_len (by rfl) T.n_len bt_len (qa_cons (q_var (pv 0)) qa_nil)))) qs_nil)
      (qs_one (qs_ret (q_callTy qc_tuple (by rfl) T.n_tuple bt_tuple (qa_cons (q_var (pv 0)) qa_nil))))))), fun ds Q hn h => ?_⟩
  unfold S_checked at h
  split at h
  rotate_left
  · exact h.elim
  rename_i d
  obtain ⟨xs, hx, ⟨ht, hl⟩, e1, h⟩ := h
  show sSeq _ _ _ [.val d, .un]
  walk_at "wi"
  have hd : d = .lst xs ∨ d = .tup xs := by
    unfold rwOf at hx
    split at hx
    · cases hx; exact .inl rfl
    · cases hx; exact .inr rfl
    · cases hx
  rcases hd with rfl | rfl
  · refine ⟨by decide, .type "list", [.type "list", .type "tuple"], true, ⟨"list", rfl, rfl⟩, rfl, rfl, ?_⟩
    rw [if_neg (by decide)]
    refine .inl ?_
    refine forR_inv (fun i env => (∀ j e, j < i → xs[j]? = some e → isN e = true) ∧ ∃ s, env = [.val (.lst xs), s]) ⟨fun j e hj => by omega, _, rfl⟩ ?_ ?_
    · rintro i x env N hi ⟨hall, s, rfl⟩ hN
      have hty := List.all_eq_true.mp ht x (List.mem_of_getElem? hi)
      walk_at "wi"
      refine ⟨hty, ?_⟩
      cases hx : isN x with
      | false =>
        walk_at "wi"
        exact e1 _ (fstB_at hall hi hx)
      | true =>
        walk_at "wi"
        rw [if_neg (by decide)]
        refine hN _ ⟨fun j e hj he => ?_, _, rfl⟩
        by_cases c : j < i
        · exact hall j e c he
        · obtain rfl : j = i := by omega
          rw [hi] at he
          cases he
          exact hx
    · rintro env ⟨hall, s, rfl⟩
      obtain ⟨q, e2⟩ := h (fstB_all fun j e he => hall j e (by
        have := (List.getElem?_eq_some_iff.mp he).1
        exact this) he)
      walk_at "wi"
      by_cases c1 : 2 ≤ xs.length
      · rw [if_pos (decide_eq_true (by omega))]
        by_cases c2 : xs.length ≤ 200
        · rw [if_neg (by rw [decide_eq_true (show (xs.length : Int) ≤ 200 by omega)]; decide)]
          exact q ⟨c1, c2⟩
        · rw [if_pos (by rw [decide_eq_false (show ¬ (xs.length : Int) ≤ 200 by omega)]; rfl)]
          exact e2 fun z => c2 z.2
      · rw [if_neg (by rw [decide_eq_true_eq]; omega)]
        first
          | exact e2 fun z => c1 z.1
          | (rw [if_pos (by decide)]; exact e2 fun z => c1 z.1)
  · refine ⟨by decide, .type "tuple", [.type "list", .type "tuple"], true, ⟨"tuple", rfl, rfl⟩, rfl, rfl, ?_⟩
    rw [if_neg (by decide)]
    refine .inr ?_
    refine forR_inv (fun i env => (∀ j e, j < i → xs[j]? = some e → isN e = true) ∧ ∃ s, env = [.val (.tup xs), s]) ⟨fun j e hj => by omega, _, rfl⟩ ?_ ?_
    · rintro i x env N hi ⟨hall, s, rfl⟩ hN
      have hty := List.all_eq_true.mp ht x (List.mem_of_getElem? hi)
      walk_at "wi"
      refine ⟨hty, ?_⟩
      cases hx : isN x with
      | false =>
        walk_at "wi"
        exact e1 _ (fstB_at hall hi hx)
      | true =>
        walk_at "wi"
        rw [if_neg (by decide)]
        refine hN _ ⟨fun j e hj he => ?_, _, rfl⟩
        by_cases c : j < i
        · exact hall j e c he
        · obtain rfl : j = i := by omega
          rw [hi] at he
          cases he
          exact hx
    · rintro env ⟨hall, s, rfl⟩
      obtain ⟨q, e2⟩ := h (fstB_all fun j e he => hall j e (by
        have := (List.getElem?_eq_some_iff.mp he).1
        exact this) he)
      walk_at "wi"
      by_cases c1 : 2 ≤ xs.length
      · rw [if_pos (decide_eq_true (by omega))]
        by_cases c2 : xs.length ≤ 200
        · rw [if_neg (by rw [decide_eq_true (show (xs.length : Int) ≤ 200 by omega)]; decide)]
          exact q ⟨c1, c2⟩
        · rw [if_pos (by rw [decide_eq_false (show ¬ (xs.length : Int) ≤ 200 by omega)]; rfl)]
          exact e2 fun z => c2 z.2
      · rw [if_neg (by rw [decide_eq_true_eq]; omega)]
        first
          | exact e2 fun z => c1 z.1
          | (rw [if_pos (by decide)]; exact e2 fun z => c1 z.1)
theorem ok_is_pair (T : Tx K mg ad) : FnOk P w K mg base (L2.CX P w) 2 ad.f_is_pair ad.d_is_pair ["value", "many"] (spA K 2 (S_pair)) := by
  have G_is_number := ok_is_number (P := P) (w := w) (base := base) T
  refine fnA (k := 1) T.F_is_pair sc_is_pair fun cdv A outer s H F0 E EX hr tk => ⟨_, (qs_cons (qs_if (qt_w (qw_or (qt_not (qt_tru (q_callB qc_isiB (by rfl) T.n_isinstance bt_isinstance (qa_cons (q_var (pv 0)) (qa_cons (q_raw (pe_bltn (v := .ty "tuple") (by rfl) T.n_tuple bt_tuple rfl)) qa_nil))))) (qw_or (qt_cmp (qo_ne hr.units) (q_callB qc_len (by rfl) T.n_len bt_len (qa_cons (q_var (pv 0)) qa_nil)) q_int) (qw_or1 (qt_not (qt_tru (q_callB (qc_all rfl) (by rfl) T.n_all bt_all (qa_cons (q_lcN (own := [("one", 2)]) rfl sc_is_pair.nd (.inl rfl) (qi_t (q_var (pv 0))) (blkOk_by (by kernel_rfl)) (fun _ _ _ _ _ _ => (qg_n (pg_name (i := 2) sc_is_pair.nd rfl (.inl rfl)) (.inl rfl))) (fun _ _ _ _ _ _ => qts_nil) (fun _ _ _ _ _ _ => (q_call G_is_number (hr.mono (by decide)) (by rfl) T.g_is_number T.k_is_number T.b_is_number tkE0 (qa_cons (q_var (pv 2)) qa_nil)))).qe qa_nil)))))))) (qs_one (qs_ret q_bl)) qs_nil)
      (qs_one (qs_ret (q_chain3 qo_le qo_lt qo_lt q_int (q_ix (q_var (pv 0)) q_int) (q_ix (q_var (pv 0)) q_int) (q_var (pv 1)))))), fun ds Q hn h => ?_⟩
  unfold S_pair at h
  split at h
  rotate_left
  · exact h.elim
  rename_i a b n
  show sSeq _ _ _ [.val (.tup [.int a, .int b]), .val (.int n), .un]
  walk_at "wi"
  refine ⟨_, _, rfl, (by decide +kernel : kitB "tuple" "tuple" = some true), ?_⟩
  walk_at "wi"
  rw [if_neg (by decide), if_neg (by decide)]
  refine lcR_cons ?_
  walk_at "wi"
  refine ⟨(show 0 < sizeLine by decide), lcR_cons ?_⟩
  walk_at "wi"
  refine ⟨(show 1 < sizeLine by decide), lcR_nil ⟨[true, true], rfl, ?_⟩⟩
  rw [if_neg (by decide)]
  walk_at "wi"
  by_cases c1 : 0 ≤ a
  · rw [if_pos (decide_eq_true c1)]
    by_cases c2 : a < b
    · rw [if_pos (decide_eq_true c2)]
      rw [show decide (b < n) = decide (0 ≤ a ∧ a < b ∧ b < n) by simp [c1, c2]]
      exact h
    · rw [if_neg (by rw [decide_eq_true_eq]; exact c2)]
      rw [show false = decide (0 ≤ a ∧ a < b ∧ b < n) by simp [c2]]
      exact h
  · rw [if_neg (by rw [decide_eq_true_eq]; exact c1)]
    rw [show false = decide (0 ≤ a ∧ a < b ∧ b < n) by simp [c1]]
    exact h
theorem ok_Stairs___bool__ (T : Tx K mg ad) : FnOk P w K mg base (L2.CX P w) 1 ad.f_Stairs___bool__ ad.d_Stairs___bool__ ["self"] (spA K 1 (S_bT true)) := by
  refine fnA (k := 0) T.F_Stairs___bool__ sc_Stairs___bool__ fun cdv A outer s H F0 E EX hr tk => ⟨_, (qs_one (qs_ret q_bl)), fun ds Q hn h => ?_⟩
  cases ds with
  | nil => cases hn
  | cons d rest => cases rest with
    | cons _ _ => cases hn
    | nil =>
      show sRet _ _ [.val d]
      walk_at "wi"
      exact h d rfl
theorem ok_Stairs___eq__ (T : Tx K mg ad) : FnOk P w K mg base (L2.CX P w) 3 ad.f_Stairs___eq__ ad.d_Stairs___eq__ ["self", "other"] (spA K 2 (S_Seq ad)) := by
  have G_Line___eq__ := ok_Line___eq__ (P := P) (w := w) (base := base) T
  refine fnA (k := 2) T.F_Stairs___eq__ sc_Stairs___eq__ fun cdv A outer s H F0 E EX hr tk => ⟨_, (qs_one (qs_ret (q_and (q_callB qc_isiC (by rfl) T.n_isinstance bt_isinstance (qa_cons (q_var (pv 1)) (qa_cons (q_cls (by rfl) T.g_Stairs) qa_nil))) (q_one (q_cmp (qo_eqT ((item_pl.mono (Nat.zero_le _)).or (item_ob G_Line___eq__ T.b_Line___eq__ T.q_Line)) (hr.mono (by decide))) (q_tup (qa_cons (q_fld (hf_line T) (q_var (pv 0))) (qa_cons (q_fld (hf_low T) (q_var (pv 0))) (qa_cons (q_fld (hf_high T) (q_var (pv 0))) qa_nil)))) (q_tup (qa_cons (q_fld (hf_line T) (q_var (pv 1))) (qa_cons (q_fld (hf_low T) (q_var (pv 1))) (qa_cons (q_fld (hf_high T) (q_var (pv 1))) qa_nil))))))))), fun ds Q hn h => ?_⟩
  unfold S_Seq at h
  split at h
  rotate_left
  · exact h.elim
  rename_i d e
  obtain ⟨L, lo, hi, rfl, h⟩ := h
  show sRet _ _ [.val _, .val e]
  rcases h with ⟨M, lo', hi', rfl, q⟩ | ⟨x, y, rfl, q⟩
  · walk_at "wi"
    refine ⟨T.isc_Stairs, true, T.i_Stairs_Stairs, ?_⟩
    rw [if_pos rfl]
    refine ⟨by decide, by decide, use_obL T ?_⟩
    by_cases c1 : L = M
    · rw [decide_eq_true c1, if_pos rfl]
      refine use_plP ?_
      by_cases c2 : lo = lo'
      · rw [decide_eq_true c2, if_pos rfl]
        refine use_plP ?_
        by_cases c3 : hi = hi'
        · rw [decide_eq_true c3, if_pos rfl]
          rw [decide_eq_true (by rw [c1, c2, c3])] at q
          exact q
        · rw [decide_eq_false c3, if_neg (by decide)]
          rw [decide_eq_false (fun z => c3 (by injection z with _ z; injection z))] at q
          exact q
      · rw [decide_eq_false c2, if_neg (by decide)]
        rw [decide_eq_false (fun z => c2 (by injection z with _ z; injection z))] at q
        exact q
    · rw [decide_eq_false c1, if_neg (by decide)]
      rw [decide_eq_false (fun z => c1 (by injection z))] at q
      exact q
  · walk_at "wi"
    refine ⟨T.isc_Crooked, false, T.i_Crooked_Stairs, ?_⟩
    rw [if_neg (by decide)]
    exact q
theorem ok_Stairs_shows (T : Tx K mg ad) : FnOk P w K mg base (L2.CX P w) 4 ad.f_Stairs_shows ad.d_Stairs_shows ["self", "row"] (spA K 2 (S_Sshows ad)) := by
  have G_Line_at := ok_Line_at (P := P) (w := w) (base := base) T
  have G_Line_told := ok_Line_told (P := P) (w := w) (base := base) T
  have G_checked_row := ok_checked_row (P := P) (w := w) (base := base) T
  have G_is_pair := ok_is_pair (P := P) (w := w) (base := base) T
  have G_least_between := ok_least_between (P := P) (w := w) (base := base) T
  have G_least_offset := ok_least_offset (P := P) (w := w) (base := base) T
  have G_slope_above := ok_slope_above (P := P) (w := w) (base := base) T
  have G_slope_below := ok_slope_below (P := P) (w := w) (base := base) T
  refine fnA (k := 3) T.F_Stairs_shows sc_Stairs_shows fun cdv A outer s H F0 E EX hr tk => ⟨_, (qs_cons (qs_set (i := 1) sc_Stairs_shows.nd rfl (.inl rfl) (.inl rfl) (q_call G_checked_row (hr.mono (by decide)) (by rfl) T.g_checked_row T.k_checked_row T.b_checked_row tkE0 (qa_cons (q_var (pv 1)) qa_nil)))
      (qs_cons (qs_if (qt_w (qw_or (qt_not (qt_tru (q_call G_is_pair (hr.mono (by decide)) (by rfl) T.g_is_pair T.k_is_pair T.b_is_pair tkE0 (qa_cons (q_fld (hf_low T) (q_var (pv 0))) (qa_cons (q_callB qc_len (by rfl) T.n_len bt_len (qa_cons (q_var (pv 1)) qa_nil)) qa_nil))))) (qw_or1 (qt_not (qt_tru (q_call G_is_pair (hr.mono (by decide)) (by rfl) T.g_is_pair T.k_is_pair T.b_is_pair tkE0 (qa_cons (q_fld (hf_high T) (q_var (pv 0))) (qa_cons (q_callB qc_len (by rfl) T.n_len bt_len (qa_cons (q_var (pv 1)) qa_nil)) qa_nil)))))))) (qs_one (qs_ret q_bl)) qs_nil)
      (qs_cons (qs_if (qt_w (qw_or (qt_cmp qo_gt (q_fld (hf_m T) (q_fld (hf_line T) (q_var (pv 0)))) (q_op qo_mul q_int (q_callB qc_len (by rfl) T.n_len bt_len (qa_cons (q_var (pv 1)) qa_nil)))) (qw_or1 (qt_cmp (qo_ne hr.units) (q_lcN (own := [("x", 2)]) rfl sc_Stairs_shows.nd (.inl rfl) (qi_r1 (by rfl) T.n_range (qa_cons (q_callB qc_len (by rfl) T.n_len bt_len (qa_cons (q_var (pv 1)) qa_nil)) qa_nil)) (blkOk_by (by kernel_rfl)) (fun _ _ _ _ _ _ => (qg_n (pg_name (i := 2) sc_Stairs_shows.nd rfl (.inl rfl)) (.inl rfl))) (fun _ _ _ _ _ _ => qts_nil) (fun _ _ _ _ _ _ => (q_meth T.cl_Line T.me_Line_at G_Line_at (hr.mono (by decide)) T.b_Line_at tkE0 (q_fld (hf_line T) (q_var (pv 0))) (qa_cons (q_var (pv 2)) qa_nil)))).qe (q_callTy qc_list (by rfl) T.n_list bt_list (qa_cons (q_var (pv 1)) qa_nil)))))) (qs_one (qs_ret q_bl)) qs_nil)
      (qs_cons (qs_asg (q_meth0 T.cl_Line T.me_Line_told G_Line_told (hr.mono (by decide)) T.b_Line_told tkE0 (q_fld (hf_line T) (q_var (pv 0)))) (qg_t (n := 3) rfl (qgs_cons (qg_n (pg_name (i := 3) sc_Stairs_shows.nd rfl (.inl rfl)) (.inl rfl)) (qgs_cons (qg_n (pg_name (i := 4) sc_Stairs_shows.nd rfl (.inl rfl)) (.inl rfl)) (qgs_cons (qg_n (pg_name (i := 5) sc_Stairs_shows.nd rfl (.inl rfl)) (.inl rfl)) qgs_nil)))))
      (qs_cons (qs_asg (q_tup (qa_cons (q_call G_slope_above (hr.mono (by decide)) (by rfl) T.g_slope_above T.k_slope_above T.b_slope_above tkE0 (qa_cons (q_var (pv 1)) (qa_cons (q_fld (hf_low T) (q_var (pv 0))) qa_nil))) (qa_cons (q_call G_slope_below (hr.mono (by decide)) (by rfl) T.g_slope_below T.k_slope_below T.b_slope_below tkE0 (qa_cons (q_var (pv 1)) (qa_cons (q_fld (hf_high T) (q_var (pv 0))) qa_nil))) qa_nil))) (qg_t (n := 2) rfl (qgs_cons (qg_n (pg_name (i := 6) sc_Stairs_shows.nd rfl (.inr rfl)) (.inl rfl)) (qgs_cons (qg_n (pg_name (i := 7) sc_Stairs_shows.nd rfl (.inr rfl)) (.inl rfl)) qgs_nil))))
      (qs_cons (qs_if (qt_tru (q_callB (qc_any rfl) (by rfl) T.n_any bt_any (qa_cons (q_lcN (own := [("lesser", 8)]) rfl sc_Stairs_shows.nd (.inl rfl) (qi_r2 (by rfl) T.n_range (qa_cons q_int (qa_cons (q_var (pv 5)) qa_nil))) (blkOk_by (by kernel_rfl)) (fun _ _ _ _ _ _ => (qg_n (pg_name (i := 8) sc_Stairs_shows.nd rfl (.inl rfl)) (.inl rfl))) (fun _ _ _ _ _ _ => qts_nil) (fun _ _ _ _ _ _ => (q_cmp qo_notN (q_call G_least_between (hr.mono (by decide)) (by rfl) T.g_least_between T.k_least_between T.b_least_between tkE0 (qa_cons (q_var (pv 6)) (qa_cons (q_var (pv 7)) (qa_cons (q_var (pv 8)) qa_nil)))) q_non))).qe qa_nil))) (qs_one (qs_ret q_bl)) qs_nil)
      (qs_one (qs_ret (q_and (q_cmp (qo_eq hr.units) (q_call G_least_between (hr.mono (by decide)) (by rfl) T.g_least_between T.k_least_between T.b_least_between tkE0 (qa_cons (q_var (pv 6)) (qa_cons (q_var (pv 7)) (qa_cons (q_var (pv 5)) qa_nil)))) (q_var (pv 3))) (q_one (q_cmp (qo_eq hr.units) (q_var (pv 4)) (q_call G_least_offset (hr.mono (by decide)) (by rfl) T.g_least_offset T.k_least_offset T.b_least_offset tkE0 (qa_cons (q_var (pv 1)) (qa_cons (q_var (pv 3)) (qa_cons (q_var (pv 5)) qa_nil))))))))))))))), fun ds Q hn h => ?_⟩
  unfold S_Sshows at h
  split at h
  rotate_left
  · exact h.elim
  rename_i d e
  obtain ⟨L, lo, hi, ns, rfl, hr, ⟨l1, l2, hs, m1, sa, sb, sm⟩, q⟩ := h
  show sSeq _ _ _ [.val _, .val e, .un, .un, .un, .un, .un, .un, .un]
  walk_at "wi"
  refine use_checked hr ⟨l1, l2⟩ ?_
  walk_at "wi"
  by_cases p1 : PrOk ns lo
  rotate_left
  · rw [if_pos (d_pf p1)]
    exact q false ⟨(fun z => by cases z), fun z => absurd z.2.p1 p1⟩
  rw [if_neg (d_pt p1)]
  by_cases p2 : PrOk ns hi
  rotate_left
  · rw [if_pos (d_pf p2)]
    exact q false ⟨(fun z => by cases z), fun z => absurd z.2.p2 p2⟩
  rw [if_neg (d_pt p2)]
  refine ⟨.r (by omega) (by omega), ?_⟩
  by_cases hm : L.2.2 ≤ 2 * ns.length
  rotate_left
  · rw [if_pos (decide_eq_true (by omega))]
    exact q false ⟨(fun z => by cases z), fun z => absurd z.1 hm⟩
  rw [if_neg (by rw [decide_eq_true_eq]; omega)]
  refine ⟨⟨by omega, by omega⟩, ?_⟩
  refine lcR_inv (fun i acc env => acc = (List.range i).map (fun j : Nat => D.int ((L.1 * j + L.2.1) / L.2.2)) ∧ env = [.val (oStairs ad (liD ad L) (prD lo) (prD hi)), .val (.tup (ns.map D.int)), .un, .un, .un, .un, .un, .un, .un]) ⟨rfl, rfl⟩ ?_ ?_
  · rintro i x acc env N hx ⟨rfl, rfl⟩ hN
    obtain ⟨hi', rfl⟩ := rng_get hx
    walk_at "wi"
    rw [Int.zero_add]
    refine ⟨⟨MOk.r (by omega) (by omega), DOk.small (by omega) (by omega)⟩, ?_, hN _ _ ⟨?_, rfl⟩⟩
    · rw [List.length_range]
      exact Nat.lt_of_le_of_lt (show _ ≤ 200 by omega) (by decide)
    · rw [List.range_succ, List.map_append]; rfl
  · rintro acc env ⟨rfl, rfl⟩
    rw [rng_len]
    walk_at "wi"
    have eL : (List.range (ns.length : Int).toNat).map (fun j : Nat => D.int ((L.1 * j + L.2.1) / L.2.2)) = ((List.range ns.length).map fun j : Nat => (L.1 * j + L.2.1) / L.2.2).map D.int := by
      rw [List.map_map]
      rfl
    rw [eL, o_neLn]
    walk_at "wi"
    by_cases hat : (List.range ns.length).map (fun j : Nat => (L.1 * j + L.2.1) / L.2.2) = ns
    rotate_left
    · rw [if_pos (by rw [decide_eq_false hat]; rfl)]
      exact q false ⟨(fun z => by cases z), fun z => absurd (list_at.mpr z.2.at_) hat⟩
    rw [if_neg (by rw [decide_eq_true hat]; decide)]
    have sA := a0_sm p1 hs
    have sB := b0_sm p2 hs
    obtain ⟨⟨d1, d1'⟩, sd1⟩ := pr_d p1 l2
    obtain ⟨⟨d2, d2'⟩, sd2⟩ := pr_d p2 l2
    have bt : ∀ m : Int, 0 < m → m ≤ 400 → 0 < lo.2 - lo.1 ∧ 0 < hi.2 - hi.1 ∧ 0 < m ∧ Sm 90 (a0 ns lo) ∧ Sm 90 (lo.2 - lo.1) ∧ Sm 90 (b0 ns hi) ∧ Sm 90 (hi.2 - hi.1) ∧ Sm 90 m := fun m h0 h1 => ⟨d1, d2, h0, bd_mono sA (by decide), bd_mono sd1 (by decide), bd_mono sB (by decide), bd_mono sd2 (by decide), by
      have : (2 : Nat) ^ 9 = 512 := by decide
      exact bd_mono (show Sm 9 m by unfold Sm; omega) (by decide)⟩
    refine ⟨⟨p1.in1, p1.in2⟩, ⟨p2.in1, p2.in2⟩, by decide, ⟨by omega, by omega, by omega, by omega⟩, ?_⟩
    refine lcR_inv (fun i acc env => acc = (List.range i).map (fun j : Nat => D.bl (decide (Btw ns lo hi (1 + j)))) ∧ env = [.val (oStairs ad (liD ad L) (prD lo) (prD hi)), .val (.tup (ns.map D.int)), .un, .val (.int L.1), .val (.int L.2.1), .val (.int L.2.2), .val (.tup [.int (a0 ns lo), .int (lo.2 - lo.1)]), .val (.tup [.int (b0 ns hi), .int (hi.2 - hi.1)]), .un]) ⟨rfl, rfl⟩ ?_ ?_
    · rintro i x acc env N hx ⟨rfl, rfl⟩ hN
      obtain ⟨hi', rfl⟩ := rng_get hx
      walk_at "wi"
      refine ⟨bt _ (by omega) (by omega), ?_⟩
      refine ⟨?_, hN _ _ ⟨?_, rfl⟩⟩
      · rw [List.length_range]
        exact Nat.lt_of_le_of_lt (show _ ≤ 400 by omega) (by decide)
      · rw [List.range_succ, List.map_append]; rfl
    · rintro acc env ⟨rfl, rfl⟩
      rw [rng_len]
      walk_at "wi"
      refine ⟨_, allBls_of (f := fun j : Nat => decide (Btw ns lo hi (1 + j))), ?_⟩
      rw [List.any_map]
      by_cases hl : ∀ m', 0 < m' → m' < L.2.2 → ¬ Btw ns lo hi m'
      rotate_left
      · rw [if_pos ?_]
        · exact q false ⟨(fun z => by cases z), fun z => absurd z.2.less hl⟩
        · rw [List.any_eq_true]
          refine Classical.byContradiction fun no => hl fun m' g0 g1 g2 => no ⟨(m' - 1).toNat, List.mem_range.mpr (by omega), ?_⟩
          show decide (Btw ns lo hi (1 + ((m' - 1).toNat : Int))) = true
          rw [show (1 + ((m' - 1).toNat : Int)) = m' by omega]
          exact decide_eq_true g2
      rw [if_neg ?_]
      rotate_left
      · rw [List.any_eq_true]
        rintro ⟨j, hj, hb⟩
        have hj := List.mem_range.mp hj
        exact hl _ (by omega) (by omega) (of_decide_eq_true hb)
      refine ⟨bt _ (by omega) (by omega), ?_⟩
      refine eq_ite ?_
      walk_at "wi"
      by_cases hc : (a0 ns lo * L.2.2 / (lo.2 - lo.1) + 1) * (hi.2 - hi.1) < b0 ns hi * L.2.2 ∧ a0 ns lo * L.2.2 / (lo.2 - lo.1) + 1 = L.1
      rotate_left
      · rw [if_neg (by rw [decide_eq_true_eq]; exact hc), decide_eq_false hc]
        exact q false ⟨(fun z => by cases z), fun z => absurd ⟨z.2.here, z.2.a⟩ hc⟩
      rw [if_pos (decide_eq_true hc)]
      refine ⟨⟨by omega, l2, bd_mono sa (by decide), bd_mono sm (by decide), fun n hn => bd_mono (hs n hn) (by decide)⟩, fun b hb1 hb2 => q _ ?_⟩
      rw [decide_eq_true_eq]
      constructor
      · exact fun z => ⟨hm, p1, p2, list_at.mp hat, hl, hc.1, hc.2, by rw [z]; exact ⟨hb1, hb2⟩⟩
      · rintro ⟨_, z⟩
        obtain ⟨⟨i, hi1, hi2⟩, hz⟩ := z.b
        obtain ⟨j, hj1, hj2⟩ := hb1
        have := hz j hj1
        have := hb2 i hi1
        omega
theorem ok_Crooked___bool__ (T : Tx K mg ad) : FnOk P w K mg base (L2.CX P w) 1 ad.f_Crooked___bool__ ad.d_Crooked___bool__ ["self"] (spA K 1 (S_bT false)) := by
  refine fnA (k := 0) T.F_Crooked___bool__ sc_Crooked___bool__ fun cdv A outer s H F0 E EX hr tk => ⟨_, (qs_one (qs_ret q_bl)), fun ds Q hn h => ?_⟩
  cases ds with
  | nil => cases hn
  | cons d rest => cases rest with
    | cons _ _ => cases hn
    | nil =>
      show sRet _ _ [.val d]
      walk_at "wi"
      exact h d rfl
theorem ok_Crooked___eq__ (T : Tx K mg ad) : FnOk P w K mg base (L2.CX P w) 1 ad.f_Crooked___eq__ ad.d_Crooked___eq__ ["self", "other"] (spA K 2 (S_Ceq ad)) := by
  refine fnA (k := 0) T.F_Crooked___eq__ sc_Crooked___eq__ fun cdv A outer s H F0 E EX hr tk => ⟨_, (qs_one (qs_ret (q_and (q_callB qc_isiC (by rfl) T.n_isinstance bt_isinstance (qa_cons (q_var (pv 1)) (qa_cons (q_cls (by rfl) T.g_Crooked) qa_nil))) (q_one (q_cmp (qo_eq hr.units) (q_tup (qa_cons (q_fld (hf_low T) (q_var (pv 0))) (qa_cons (q_fld (hf_high T) (q_var (pv 0))) qa_nil))) (q_tup (qa_cons (q_fld (hf_low T) (q_var (pv 1))) (qa_cons (q_fld (hf_high T) (q_var (pv 1))) qa_nil)))))))), fun ds Q hn h => ?_⟩
  unfold S_Ceq at h
  split at h
  rotate_left
  · exact h.elim
  rename_i d e
  obtain ⟨lo, hi, rfl, h⟩ := h
  show sRet _ _ [.val _, .val e]
  rcases h with ⟨lo', hi', rfl, q⟩ | ⟨x, y, z, rfl, q⟩
  · walk_at "wi"
    refine ⟨T.isc_Crooked, true, T.i_Crooked_Crooked, ?_⟩
    rw [if_pos rfl]
    exact ⟨by decide, by decide, k_cEq q⟩
  · walk_at "wi"
    refine ⟨T.isc_Stairs, false, T.i_Stairs_Crooked, ?_⟩
    rw [if_neg (by decide)]
    exact q
theorem ok_Crooked_shows (T : Tx K mg ad) : FnOk P w K mg base (L2.CX P w) 4 ad.f_Crooked_shows ad.d_Crooked_shows ["self", "row"] (spA K 2 (S_Cshows ad)) := by
  have G_checked_row := ok_checked_row (P := P) (w := w) (base := base) T
  have G_is_pair := ok_is_pair (P := P) (w := w) (base := base) T
  have G_slope_above := ok_slope_above (P := P) (w := w) (base := base) T
  have G_slope_below := ok_slope_below (P := P) (w := w) (base := base) T
  refine fnA (k := 3) T.F_Crooked_shows sc_Crooked_shows fun cdv A outer s H F0 E EX hr tk => ⟨_, (qs_cons (qs_set (i := 1) sc_Crooked_shows.nd rfl (.inl rfl) (.inl rfl) (q_call G_checked_row (hr.mono (by decide)) (by rfl) T.g_checked_row T.k_checked_row T.b_checked_row tkE0 (qa_cons (q_var (pv 1)) qa_nil)))
      (qs_cons (qs_if (qt_w (qw_or (qt_not (qt_tru (q_call G_is_pair (hr.mono (by decide)) (by rfl) T.g_is_pair T.k_is_pair T.b_is_pair tkE0 (qa_cons (q_fld (hf_low T) (q_var (pv 0))) (qa_cons (q_callB qc_len (by rfl) T.n_len bt_len (qa_cons (q_var (pv 1)) qa_nil)) qa_nil))))) (qw_or1 (qt_not (qt_tru (q_call G_is_pair (hr.mono (by decide)) (by rfl) T.g_is_pair T.k_is_pair T.b_is_pair tkE0 (qa_cons (q_fld (hf_high T) (q_var (pv 0))) (qa_cons (q_callB qc_len (by rfl) T.n_len bt_len (qa_cons (q_var (pv 1)) qa_nil)) qa_nil)))))))) (qs_one (qs_ret q_bl)) qs_nil)
      (qs_cons (qs_par (i := 2) (j := 3) rfl sc_Crooked_shows.nd rfl rfl (by decide) (.inl rfl) (.inl rfl) rfl rfl (qa_cons (q_call G_slope_above (hr.mono (by decide)) (by rfl) T.g_slope_above T.k_slope_above T.b_slope_above tkE0 (qa_cons (q_var (pv 1)) (qa_cons (q_fld (hf_low T) (q_var (pv 0))) qa_nil))) (qa_cons (q_call G_slope_below (hr.mono (by decide)) (by rfl) T.g_slope_below T.k_slope_below T.b_slope_below tkE0 (qa_cons (q_var (pv 1)) (qa_cons (q_fld (hf_high T) (q_var (pv 0))) qa_nil))) qa_nil)) (by rfl))
      (qs_one (qs_ret (q_cmp qo_ge (q_op qo_mul (q_ix (q_var (pv 2)) q_int) (q_ix (q_var (pv 3)) q_int)) (q_op qo_mul (q_ix (q_var (pv 3)) q_int) (q_ix (q_var (pv 2)) q_int)))))))), fun ds Q hn h => ?_⟩
  unfold S_Cshows at h
  split at h
  rotate_left
  · exact h.elim
  rename_i d e
  obtain ⟨lo, hi, ns, rfl, hr, ⟨l1, l2, hs⟩, q⟩ := h
  show sSeq _ _ _ [.val _, .val e, .un, .un]
  walk_at "wi"
  refine use_checked hr ⟨l1, l2⟩ ?_
  walk_at "wi"
  by_cases p1 : PrOk ns lo
  rotate_left
  · rw [if_pos (d_pf p1)]
    exact q false ⟨(fun z => by cases z), fun z => absurd z.p1 p1⟩
  rw [if_neg (d_pt p1)]
  by_cases p2 : PrOk ns hi
  rotate_left
  · rw [if_pos (d_pf p2)]
    exact q false ⟨(fun z => by cases z), fun z => absurd z.p2 p2⟩
  rw [if_neg (d_pt p2)]
  refine ⟨⟨p1.in1, p1.in2⟩, ⟨p2.in1, p2.in2⟩, MOk.of (a0_sm p1 hs) (pr_d p2 l2).2 (by decide), MOk.of (b0_sm p2 hs) (pr_d p1 l2).2 (by decide), q _ ?_⟩
  rw [decide_eq_true_eq]
  exact ⟨fun z => ⟨p1, p2, z⟩, fun z => z.no⟩
theorem ok_stairs (T : Tx K mg ad) : FnOk P w K mg base (L2.CX P w) 5 ad.f_stairs ad.d_stairs ["row"] (spA K 1 (S_stairs ad)) := by
  have G_Crooked___init__ := ok_Crooked___init__ (P := P) (w := w) (base := base) T
  have G_Line___init__ := ok_Line___init__ (P := P) (w := w) (base := base) T
  have G_Stairs___init__ := ok_Stairs___init__ (P := P) (w := w) (base := base) T
  have G_checked_row := ok_checked_row (P := P) (w := w) (base := base) T
  have G_least_between := ok_least_between (P := P) (w := w) (base := base) T
  have G_least_offset := ok_least_offset (P := P) (w := w) (base := base) T
  have G_slope_above := ok_slope_above (P := P) (w := w) (base := base) T
  have G_slope_below := ok_slope_below (P := P) (w := w) (base := base) T
  have G_tightest := ok_tightest (P := P) (w := w) (base := base) T
  refine fnA (k := 4) T.F_stairs sc_stairs fun cdv A outer s H F0 E EX hr tk => ⟨_, (qs_cons (qs_set (i := 0) sc_stairs.nd rfl (.inl rfl) (.inl rfl) (q_call G_checked_row (hr.mono (by decide)) (by rfl) T.g_checked_row T.k_checked_row T.b_checked_row (tkE_of tk) (qa_cons (q_var (pv 0)) qa_nil)))
      (qs_cons (qs_asg (q_call G_tightest (hr.mono (by decide)) (by rfl) T.g_tightest T.k_tightest T.b_tightest (tkE_of tk) (qa_cons (q_var (pv 0)) qa_nil)) (qg_t (n := 2) rfl (qgs_cons (qg_n (pg_name (i := 1) sc_stairs.nd rfl (.inl rfl)) (.inl rfl)) (qgs_cons (qg_n (pg_name (i := 2) sc_stairs.nd rfl (.inl rfl)) (.inl rfl)) qgs_nil))))
      (qs_cons (qs_par (i := 3) (j := 4) rfl sc_stairs.nd rfl rfl (by decide) (.inl rfl) (.inl rfl) rfl rfl (qa_cons (q_call G_slope_above (hr.mono (by decide)) (by rfl) T.g_slope_above T.k_slope_above T.b_slope_above (tkE_of tk) (qa_cons (q_var (pv 0)) (qa_cons (q_var (pv 1)) qa_nil))) (qa_cons (q_call G_slope_below (hr.mono (by decide)) (by rfl) T.g_slope_below T.k_slope_below T.b_slope_below (tkE_of tk) (qa_cons (q_var (pv 0)) (qa_cons (q_var (pv 2)) qa_nil))) qa_nil)) (by rfl))
      (qs_cons (qs_if (qt_cmp qo_ge (q_op qo_mul (q_ix (q_var (pv 3)) q_int) (q_ix (q_var (pv 4)) q_int)) (q_op qo_mul (q_ix (q_var (pv 4)) q_int) (q_ix (q_var (pv 3)) q_int))) (qs_one (qs_ret (q_makeN T.mk_Crooked G_Crooked___init__ (hr.mono (by decide)) (by rfl) T.g_Crooked T.b_Crooked___init__ (tkE_of tk) (qa_cons (q_var (pv 1)) (qa_cons (q_var (pv 2)) qa_nil))).qe)) qs_nil)
      (qs_cons (qs_set (i := 5) sc_stairs.nd rfl (.inl rfl) (.inl rfl) q_int)
      (qs_cons (qs_whl PassesOwn.leaving (qt_cmp qo_isN (q_call G_least_between (hr.mono (by decide)) (by rfl) T.g_least_between T.k_least_between T.b_least_between (tkE_of tk) (qa_cons (q_var (pv 3)) (qa_cons (q_var (pv 4)) (qa_cons (q_var (pv 5)) qa_nil)))) q_non) (qs_one (qs_aug (i := 5) sc_stairs.nd rfl (.inl rfl) (.inl rfl) qip_add q_int)))
      (qs_cons (qs_set (i := 6) sc_stairs.nd rfl (.inl rfl) (.inl rfl) (q_call G_least_between (hr.mono (by decide)) (by rfl) T.g_least_between T.k_least_between T.b_least_between (tkE_of tk) (qa_cons (q_var (pv 3)) (qa_cons (q_var (pv 4)) (qa_cons (q_var (pv 5)) qa_nil)))))
      (qs_one (qs_ret (q_makeN T.mk_Stairs G_Stairs___init__ (hr.mono (by decide)) (by rfl) T.g_Stairs T.b_Stairs___init__ (tkE_of tk) (qa_cons (q_makeN T.mk_Line G_Line___init__ (hr.mono (by decide)) (by rfl) T.g_Line T.b_Line___init__ (tkE_of tk) (qa_cons (q_var (pv 6)) (qa_cons (q_call G_least_offset (hr.mono (by decide)) (by rfl) T.g_least_offset T.k_least_offset T.b_least_offset (tkE_of tk) (qa_cons (q_var (pv 0)) (qa_cons (q_var (pv 6)) (qa_cons (q_var (pv 5)) qa_nil)))) (qa_cons (q_var (pv 5)) qa_nil)))).qe (qa_cons (q_var (pv 1)) (qa_cons (q_var (pv 2)) qa_nil)))).qe))))))))), fun ds Q hn h => ?_⟩
  unfold S_stairs at h
  split at h
  rotate_left
  · exact h.elim
  rename_i d
  obtain ⟨xs, hx, ⟨ht, hl⟩, e1, h⟩ := h
  show sSeq _ _ _ [.val d, .un, .un, .un, .un, .un, .un]
  walk_at "k"
  refine ⟨xs, hx, ⟨ht, hl⟩, fun z hz => e1 z hz, fun nb => ⟨fun hg => ?_, fun hg => ?_⟩⟩
  · obtain ⟨ns, rfl, h3, q⟩ := (h nb).1 hg
    rw [List.length_map] at hg
    obtain ⟨h1, h2⟩ := hg
    walk_at "k"
    refine ⟨⟨h1, h2, h3⟩, fun i j k l cov => ?_⟩
    have c1 := cov.a0
    have c2 := cov.a1
    have c3 := cov.a2
    have c4 := cov.b0
    have c5 := cov.b1
    have c6 := cov.b2
    have ini : In ns i := ⟨by omega, by omega⟩
    have inj : In ns j := ⟨by omega, by omega⟩
    have ink : In ns k := ⟨by omega, by omega⟩
    have inl : In ns l := ⟨by omega, by omega⟩
    have fit := fun a m hm => cov.fit (a := a) (m := m) hm
    have sA : Sm 60 (nth ns j - nth ns i - 1) := bd_mono (bd_sub (bd_sub (nth_sm h3 inj) (nth_sm h3 ini)) (show Sm 1 1 by unfold Sm; decide)) (by decide)
    have sB : Sm 60 (nth ns l - nth ns k + 1) := bd_mono (bd_add (bd_sub (nth_sm h3 inl) (nth_sm h3 ink)) (show Sm 1 1 by unfold Sm; decide)) (by decide)
    generalize hA0 : nth ns j - nth ns i - 1 = A0 at *
    generalize hB0 : nth ns l - nth ns k + 1 = B0 at *
    have hA1 : 0 < j - i ∧ j - i < 200 := by omega
    have hB1 : 0 < l - k ∧ l - k < 200 := by omega
    have small : ∀ x : Int, 0 ≤ x → x ≤ 100000 → Sm 17 x := fun x g1 g2 => by
      have : (2 : Nat) ^ 17 = 131072 := by decide
      unfold Sm
      omega
    have hAB0 : 0 < (j - i) * (l - k) := Int.mul_pos hA1.1 hB1.1
    have hAB : (j - i) * (l - k) ≤ 199 * 199 := Int.mul_le_mul (by omega) (by omega) (by omega) (by decide)
    have hT : 2 * (j - i) * (l - k) = 2 * ((j - i) * (l - k)) := Int.mul_assoc ..
    walk_at "k"
    refine ⟨⟨ini, inj⟩, ⟨ink, inl⟩, .r (by omega) (by omega), .r (by omega) (by omega), ?_⟩
    split
    · rename_i g
      rw [decide_eq_true_eq] at g
      refine q _ (.inl ⟨(i, j), (k, l), rfl, ⟨⟨c1, c2, c3⟩, ⟨c4, c5, c6⟩, by show (nth ns l - nth ns k + 1) * (j - i) ≤ (nth ns j - nth ns i - 1) * (l - k); rw [hA0, hB0]; exact g⟩, fun a m hm f => ?_⟩)
      have := W50.mid hA1.1 hB1.1 hm ⟨a, (fit a m hm).mp f⟩
      omega
    · rename_i g
      rw [decide_eq_true_eq] at g
      have g' : A0 * (l - k) < B0 * (j - i) := by omega
      have last := W50.mid2 hA1.1 hB1.1 g'
      refine ⟨fun kk env => ∃ m : Int, env = [.val (.tup (ns.map D.int)), .val (.tup [.int i, .int j]), .val (.tup [.int k, .int l]), .val (.tup [.int A0, .int (j - i)]), .val (.tup [.int B0, .int (l - k)]), .val (.int m), .un] ∧ kk = (2 * (j - i) * (l - k) - m).toNat ∧ 1 ≤ m ∧ m ≤ 2 * (j - i) * (l - k) ∧ (∀ m', 0 < m' → m' < m → ¬ ((A0 * m' / (j - i) + 1) * (l - k) < B0 * m')), ⟨_, 1, rfl, rfl, by omega, by omega, fun m' z1 z2 => by omega⟩, ?_⟩
      rintro kk env ⟨m, rfl, rfl, hm1, hm2, hm3⟩
      walk_at "k"
      have sm : Sm 17 m := small m (by omega) (by omega)
      have bt : 0 < j - i ∧ 0 < l - k ∧ 0 < m ∧ Sm 90 A0 ∧ Sm 90 (j - i) ∧ Sm 90 B0 ∧ Sm 90 (l - k) ∧ Sm 90 m := ⟨hA1.1, hB1.1, by omega, bd_mono sA (by decide), bd_mono (small _ (by omega) (by omega)) (by decide), bd_mono sB (by decide), bd_mono (small _ (by omega) (by omega)) (by decide), bd_mono sm (by decide)⟩
      refine ⟨bt, ?_⟩
      by_cases hc : (A0 * m / (j - i) + 1) * (l - k) < B0 * m
      · rw [decide_eq_true hc, if_neg (by decide), if_pos hc]
        refine ⟨bt, ?_⟩
        walk_at "k"
        have le2 : m ≤ 2 * ns.length := by
          refine Int.not_lt.mp fun c => hm3 ((j - i) + (l - k)) (by omega) (by omega) ?_
          exact med hA1.1 hB1.1 g'
        have sm9 : Sm 9 m := by
          have : (2 : Nat) ^ 9 = 512 := by decide
          unfold Sm
          omega
        have sa : Sm 80 (A0 * m / (j - i) + 1) := bd_mono (bd_add (bd_div hA1.1 (bd_mul sA sm)) (show Sm 1 1 by unfold Sm; decide)) (by decide)
        have sa2 : Sm 76 (A0 * m / (j - i) + 1) := bd_mono (bd_add (bd_div hA1.1 (bd_mul sA sm9)) (show Sm 1 1 by unfold Sm; decide)) (by decide)
        have lg := fun a' => W50.least_gt (a0 := A0) (m := m) (a := a') hA1.1
        generalize hae : A0 * m / (j - i) + 1 = a at *
        refine ⟨⟨by omega, h2, bd_mono sa (by decide), bd_mono sm (by decide), fun n hn => bd_mono (h3 n hn) (by decide)⟩, fun b hb1 hb2 => ⟨hm1, ?_⟩⟩
        have eq0 : ∀ x : Nat, nth ns (x : Int) = ns.getD x 0 := fun x => rfl
        have hFit : W50.Fit (nth ns) ns.length a m := (fit a m (by omega)).mpr ⟨(lg a).mpr (Int.le_refl _), hc⟩
        have hAe : a0 ns (i, j) = A0 := hA0
        have hBe : b0 ns (k, l) = B0 := hB0
        have hmax : ∀ x : Int, 0 ≤ x → x < ns.length → nth ns x * m - a * x ≤ b := fun x hx1 hx2 => by
          have := hb2 x.toNat (by omega)
          rw [show ((x.toNat : Nat) : Int) = x by omega] at this
          exact this
        have hex : ∃ x : Int, 0 ≤ x ∧ x < ns.length ∧ b = nth ns x * m - a * x := by
          obtain ⟨x, hx, rfl⟩ := hb1
          exact ⟨x, by omega, by omega, rfl⟩
        have sb : Sm 85 b := by
          obtain ⟨x, hx, rfl⟩ := hb1
          have h5 : Sm 50 (ns.getD x 0) := by
            rw [List.getD_eq_getElem?_getD, List.getElem?_eq_getElem hx]
            exact h3 _ (List.getElem_mem hx)
          have hx8 : Sm 8 (x : Int) := by
            have : (2 : Nat) ^ 8 = 256 := by decide
            unfold Sm
            omega
          exact bd_mono (bd_sub (bd_mul h5 sm) (bd_mul (show Sm 76 a from sa2) hx8)) (by decide)
        refine q _ (.inr ⟨(a, b, m), (i, j), (k, l), rfl, ⟨⟨c1, c2, c3⟩, ⟨c4, c5, c6⟩, fun x hx => ?_, fun m' z1 z2 z => ?_, ?_, ?_, hb1, hb2⟩, ⟨hm1, le2⟩, ⟨sa, sb⟩, fun a' m' z1 z2 f => ?_⟩)
        · exact hFit.at (by omega) hex hmax (x := x) (by omega) (by omega)
        · refine hm3 m' z1 z2 ?_
          have z : (a0 ns (i, j) * m' / (j - i) + 1) * (l - k) < b0 ns (k, l) * m' := z
          rw [hAe, hBe] at z
          exact z
        · show (a0 ns (i, j) * m / (j - i) + 1) * (l - k) < b0 ns (k, l) * m
          rw [hAe, hBe, hae]
          exact hc
        · show a0 ns (i, j) * m / (j - i) + 1 = a
          rw [hAe]
          exact hae
        · obtain ⟨f1, f2⟩ := (fit a' m' z1).mp f
          refine hm3 m' z1 z2 ?_
          have := (W50.least_gt (a0 := A0) (m := m') (a := a') hA1.1).mp f1
          have := Int.mul_le_mul_of_nonneg_right this (Int.le_of_lt hB1.1)
          omega
      · rw [decide_eq_false hc, if_pos (by decide)]
        have hne : m ≠ 2 * (j - i) * (l - k) := fun z => hc (by rw [z]; exact last)
        refine ⟨_, ?_, m + 1, rfl, rfl, by omega, by omega, fun m' z1 z2 => ?_⟩
        · omega
        · by_cases he : m' = m
          · rw [he]; exact hc
          · exact hm3 m' z1 (by omega)
  · exact (h nb).2 hg
theorem ok__law_is_number (T : Tx K mg ad) : FnOk P w K mg base (L2.CX P w) 1 ad.f__law_is_number ad.d__law_is_number ["value"] (spA K 1 (S_num)) := by
  refine fnA (k := 0) T.F__law_is_number sc__law_is_number fun cdv A outer s H F0 E EX hr tk => ⟨_, (qs_one (qs_ret (q_and (q_callB qc_isiB (by rfl) T.n_isinstance bt_isinstance (qa_cons (q_var (pv 0)) (qa_cons (q_raw (pe_bltn (v := .ty "int") (by rfl) T.n_int bt_int rfl)) qa_nil))) (q_one (q_not (q_callB qc_isiB (by rfl) T.n_isinstance bt_isinstance (qa_cons (q_var (pv 0)) (qa_cons (q_raw (pe_bltn (v := .ty "bool") (by rfl) T.n_bool bt_bool rfl)) qa_nil)))))))), fun ds Q hn h => ?_⟩
  unfold S_num at h
  split at h
  rotate_left
  · exact h.elim
  rename_i d
  obtain ⟨hd, q⟩ := h
  show sRet _ _ [.val d]
  walk_at "wi"
  cases d with
  | int i =>
    refine ⟨_, _, rfl, (by decide +kernel : kitB "int" "int" = some true), ?_⟩
    walk_at "wi"
    exact ⟨_, _, rfl, (by decide +kernel : kitB "int" "bool" = some false), q⟩
  | bl b =>
    refine ⟨_, _, rfl, (by decide +kernel : kitB "bool" "int" = some true), ?_⟩
    walk_at "wi"
    exact ⟨_, _, rfl, (by decide +kernel : kitB "bool" "bool" = some true), q⟩
  | non => exact ⟨_, _, rfl, (by decide +kernel : kitB "NoneType" "int" = some false), q⟩
  | str x => exact ⟨_, _, rfl, (by decide +kernel : kitB "str" "int" = some false), q⟩
  | scr x => exact ⟨_, _, rfl, (by decide +kernel : kitB "list" "int" = some false), q⟩
  | tup x => exact ⟨_, _, rfl, (by decide +kernel : kitB "tuple" "int" = some false), q⟩
  | lst x => exact ⟨_, _, rfl, (by decide +kernel : kitB "list" "int" = some false), q⟩
  | dic x y => exact ⟨_, _, rfl, (by decide +kernel : kitB "dict" "int" = some false), q⟩
  | dct x y => exact ⟨_, _, rfl, (by decide +kernel : kitB "dict" "int" = some false), q⟩
  | raw v => cases hd
  | obj C ns xs => cases hd
theorem ok__law_at (T : Tx K mg ad) : FnOk P w K mg base (L2.CX P w) 1 ad.f__law_at ad.d__law_at ["line", "x"] (spA K 2 (S_lat)) := by
  refine fnA (k := 0) T.F__law_at sc__law_at fun cdv A outer s H F0 E EX hr tk => ⟨_, (qs_one (qs_ret (q_op qo_div (q_op qo_add (q_op qo_mul (q_ix (q_var (pv 0)) q_int) (q_var (pv 1))) (q_ix (q_var (pv 0)) q_int)) (q_ix (q_var (pv 0)) q_int)))), fun ds Q hn h => ?_⟩
  unfold S_lat at h
  split at h
  rotate_left
  · exact h.elim
  rename_i a b m x
  obtain ⟨⟨h1, h2⟩, q⟩ := h
  show sRet _ _ [.val (.tup [.int a, .int b, .int m]), .val (.int x)]
  walk_at "wi"
  exact ⟨h1, h2, q⟩
theorem ok__law_bounds_of (T : Tx K mg ad) : FnOk P w K mg base (L2.CX P w) 1 ad.f__law_bounds_of ad.d__law_bounds_of ["row", "low", "high"] (spA K 3 (S_lbounds)) := by
  refine fnA (k := 0) T.F__law_bounds_of sc__law_bounds_of fun cdv A outer s H F0 E EX hr tk => ⟨_, (qs_one (qs_ret (q_tup (qa_cons (q_tup (qa_cons (q_op qo_sub (q_op qo_sub (q_ix (q_var (pv 0)) (q_ix (q_var (pv 1)) q_int)) (q_ix (q_var (pv 0)) (q_ix (q_var (pv 1)) q_int))) q_int) (qa_cons (q_op qo_sub (q_ix (q_var (pv 1)) q_int) (q_ix (q_var (pv 1)) q_int)) qa_nil))) (qa_cons (q_tup (qa_cons (q_op qo_add (q_op qo_sub (q_ix (q_var (pv 0)) (q_ix (q_var (pv 2)) q_int)) (q_ix (q_var (pv 0)) (q_ix (q_var (pv 2)) q_int))) q_int) (qa_cons (q_op qo_sub (q_ix (q_var (pv 2)) q_int) (q_ix (q_var (pv 2)) q_int)) qa_nil))) qa_nil))))), fun ds Q hn h => ?_⟩
  unfold S_lbounds at h
  split at h
  rotate_left
  · exact h.elim
  rename_i xs i j k l
  obtain ⟨ns, e, ⟨h1, h2, h3, h4⟩, q⟩ := h
  cases allInts_eq e
  show sRet _ _ [.val (.lst _), .val _, .val _]
  walk_at "wi"
  exact ⟨_, nth_at h2, _, nth_at h1, by walk_at "wi"; exact ⟨by decide, _, nth_at h4, _, nth_at h3, by walk_at "wi"; exact ⟨by decide, by decide, q⟩⟩⟩
theorem ok__law_is_pair (T : Tx K mg ad) : FnOk P w K mg base (L2.CX P w) 2 ad.f__law_is_pair ad.d__law_is_pair ["pair", "many"] (spA K 2 (S_pair)) := by
  have G__law_is_number := ok__law_is_number (P := P) (w := w) (base := base) T
  refine fnA (k := 1) T.F__law_is_pair sc__law_is_pair fun cdv A outer s H F0 E EX hr tk => ⟨_, (qs_one (qs_ret (q_and (q_callB qc_isiB (by rfl) T.n_isinstance bt_isinstance (qa_cons (q_var (pv 0)) (qa_cons (q_raw (pe_bltn (v := .ty "tuple") (by rfl) T.n_tuple bt_tuple rfl)) qa_nil))) (q_and (q_cmp (qo_eq hr.units) (q_callB qc_len (by rfl) T.n_len bt_len (qa_cons (q_var (pv 0)) qa_nil)) q_int) (q_and (q_callB (qc_all rfl) (by rfl) T.n_all bt_all (qa_cons (q_lcN (own := [("one", 2)]) rfl sc__law_is_pair.nd (.inl rfl) (qi_t (q_var (pv 0))) (blkOk_by (by kernel_rfl)) (fun _ _ _ _ _ _ => (qg_n (pg_name (i := 2) sc__law_is_pair.nd rfl (.inl rfl)) (.inl rfl))) (fun _ _ _ _ _ _ => qts_nil) (fun _ _ _ _ _ _ => (q_call G__law_is_number (hr.mono (by decide)) (by rfl) T.g__law_is_number T.k__law_is_number T.b__law_is_number tkE0 (qa_cons (q_var (pv 2)) qa_nil)))).qe qa_nil)) (q_one (q_chain3 qo_le qo_lt qo_lt q_int (q_ix (q_var (pv 0)) q_int) (q_ix (q_var (pv 0)) q_int) (q_var (pv 1))))))))), fun ds Q hn h => ?_⟩
  unfold S_pair at h
  split at h
  rotate_left
  · exact h.elim
  rename_i a b n
  show sRet _ _ [.val (.tup [.int a, .int b]), .val (.int n), .un]
  walk_at "wi"
  refine ⟨_, _, rfl, (by decide +kernel : kitB "tuple" "tuple" = some true), ?_⟩
  walk_at "wi"
  rw [if_pos (by decide)]
  refine lcR_cons ?_
  walk_at "wi"
  refine ⟨(show 0 < sizeLine by decide), lcR_cons ?_⟩
  walk_at "wi"
  refine ⟨(show 1 < sizeLine by decide), lcR_nil ⟨[true, true], rfl, ?_⟩⟩
  rw [if_pos (by decide)]
  walk_at "wi"
  by_cases c1 : 0 ≤ a
  · rw [if_pos (decide_eq_true c1)]
    by_cases c2 : a < b
    · rw [if_pos (decide_eq_true c2)]
      rw [show decide (b < n) = decide (0 ≤ a ∧ a < b ∧ b < n) by simp [c1, c2]]
      exact h
    · rw [if_neg (by rw [decide_eq_true_eq]; exact c2)]
      rw [show false = decide (0 ≤ a ∧ a < b ∧ b < n) by simp [c2]]
      exact h
  · rw [if_neg (by rw [decide_eq_true_eq]; exact c1)]
    rw [show false = decide (0 ≤ a ∧ a < b ∧ b < n) by simp [c1]]
    exact h
theorem ok__law_between (T : Tx K mg ad) : FnOk P w K mg base (L2.CX P w) 1 ad.f__law_between ad.d__law_between ["above", "below", "m"] (spA K 3 (S_between)) := by
  refine fnA (k := 0) T.F__law_between sc__law_between fun cdv A outer s H F0 E EX hr tk => ⟨_, (qs_cons (qs_set (i := 3) sc__law_between.nd rfl (.inl rfl) (.inl rfl) (q_op qo_add (q_op qo_div (q_op qo_mul (q_ix (q_var (pv 0)) q_int) (q_var (pv 2))) (q_ix (q_var (pv 0)) q_int)) q_int))
      (qs_one (qs_ret (q_if (qt_cmp qo_lt (q_op qo_mul (q_var (pv 3)) (q_ix (q_var (pv 1)) q_int)) (q_op qo_mul (q_ix (q_var (pv 1)) q_int) (q_var (pv 2)))) (q_var (pv 3)) q_non)))), fun ds Q hn h => ?_⟩
  unfold S_between at h
  split at h
  rotate_left
  · exact h.elim
  rename_i a0 a1 b0 b1 m
  obtain ⟨⟨h1, h2, h3, s1, s2, s3, s4, s5⟩, q⟩ := h
  show sSeq _ _ _ [.val (.tup [.int a0, .int a1]), .val (.tup [.int b0, .int b1]), .val (.int m), .un]
  walk_at "k"
  refine ⟨MOk.of s1 s5 (by decide), DOk.of h1 s2 (by decide), MOk.of (bd_add (bd_div h1 (bd_mul s1 s5)) (show Sm 1 1 by unfold Sm; decide)) s4 (by decide), MOk.of s3 s5 (by decide), ?_⟩
  by_cases hc : (a0 * m / a1 + 1) * b1 < b0 * m
  · rw [if_pos hc] at q
    rw [if_pos (by rw [decide_eq_true_eq]; exact hc)]
    exact q
  · rw [if_neg hc] at q
    rw [if_neg (by rw [decide_eq_true_eq]; exact hc)]
    exact q
theorem ok__law_is_right (T : Tx K mg ad) : FnOk P w K mg base (L2.CX P w) 3 ad.f__law_is_right ad.d__law_is_right ["row", "told"] (spA K 2 (S_lright ad)) := by
  have G__law_between := ok__law_between (P := P) (w := w) (base := base) T
  have G__law_bounds_of := ok__law_bounds_of (P := P) (w := w) (base := base) T
  have G__law_is_pair := ok__law_is_pair (P := P) (w := w) (base := base) T
  refine fnA (k := 2) T.F__law_is_right sc__law_is_right fun cdv A outer s H F0 E EX hr tk => ⟨_, (qs_cons (qs_if (qt_w (qw_or (qt_not (qt_tru (q_call G__law_is_pair (hr.mono (by decide)) (by rfl) T.g__law_is_pair T.k__law_is_pair T.b__law_is_pair tkE0 (qa_cons (q_fld (hf_low T) (q_var (pv 1))) (qa_cons (q_callB qc_len (by rfl) T.n_len bt_len (qa_cons (q_var (pv 0)) qa_nil)) qa_nil))))) (qw_or1 (qt_not (qt_tru (q_call G__law_is_pair (hr.mono (by decide)) (by rfl) T.g__law_is_pair T.k__law_is_pair T.b__law_is_pair tkE0 (qa_cons (q_fld (hf_high T) (q_var (pv 1))) (qa_cons (q_callB qc_len (by rfl) T.n_len bt_len (qa_cons (q_var (pv 0)) qa_nil)) qa_nil)))))))) (qs_one (qs_ret q_bl)) qs_nil)
      (qs_cons (qs_asg (q_call G__law_bounds_of (hr.mono (by decide)) (by rfl) T.g__law_bounds_of T.k__law_bounds_of T.b__law_bounds_of tkE0 (qa_cons (q_var (pv 0)) (qa_cons (q_fld (hf_low T) (q_var (pv 1))) (qa_cons (q_fld (hf_high T) (q_var (pv 1))) qa_nil)))) (qg_t (n := 2) rfl (qgs_cons (qg_n (pg_name (i := 2) sc__law_is_right.nd rfl (.inr rfl)) (.inl rfl)) (qgs_cons (qg_n (pg_name (i := 3) sc__law_is_right.nd rfl (.inr rfl)) (.inl rfl)) qgs_nil))))
      (qs_cons (qs_if (qt_tru (q_callB qc_isiC (by rfl) T.n_isinstance bt_isinstance (qa_cons (q_var (pv 1)) (qa_cons (q_cls (by rfl) T.g_Crooked) qa_nil)))) (qs_one (qs_ret (q_cmp qo_ge (q_op qo_mul (q_ix (q_var (pv 2)) q_int) (q_ix (q_var (pv 3)) q_int)) (q_op qo_mul (q_ix (q_var (pv 3)) q_int) (q_ix (q_var (pv 2)) q_int))))) qs_nil)
      (qs_cons (qs_asg (q_tup (qa_cons (q_fld (hf_a T) (q_fld (hf_line T) (q_var (pv 1)))) (qa_cons (q_fld (hf_b T) (q_fld (hf_line T) (q_var (pv 1)))) (qa_cons (q_fld (hf_m T) (q_fld (hf_line T) (q_var (pv 1)))) qa_nil)))) (qg_t (n := 3) rfl (qgs_cons (qg_n (pg_name (i := 4) sc__law_is_right.nd rfl (.inr rfl)) (.inl rfl)) (qgs_cons (qg_n (pg_name (i := 5) sc__law_is_right.nd rfl (.inr rfl)) (.inl rfl)) (qgs_cons (qg_n (pg_name (i := 6) sc__law_is_right.nd rfl (.inr rfl)) (.inl rfl)) qgs_nil)))))
      (qs_cons (qs_if (qt_w (qw_or (qt_cmp (qo_ne hr.units) (q_lcN (own := [("x", 7)]) rfl sc__law_is_right.nd (.inl rfl) (qi_r1 (by rfl) T.n_range (qa_cons (q_callB qc_len (by rfl) T.n_len bt_len (qa_cons (q_var (pv 0)) qa_nil)) qa_nil)) (blkOk_by (by kernel_rfl)) (fun _ _ _ _ _ _ => (qg_n (pg_name (i := 7) sc__law_is_right.nd rfl (.inl rfl)) (.inl rfl))) (fun _ _ _ _ _ _ => qts_nil) (fun _ _ _ _ _ _ => (q_op qo_div (q_op qo_add (q_op qo_mul (q_var (pv 4)) (q_var (pv 7))) (q_var (pv 5))) (q_var (pv 6))))).qe (q_callTy qc_list (by rfl) T.n_list bt_list (qa_cons (q_var (pv 0)) qa_nil))) (qw_or1 (qt_tru (q_callB (qc_any rfl) (by rfl) T.n_any bt_any (qa_cons (q_lcN (own := [("less", 8)]) rfl sc__law_is_right.nd (.inl rfl) (qi_r2 (by rfl) T.n_range (qa_cons q_int (qa_cons (q_var (pv 6)) qa_nil))) (blkOk_by (by kernel_rfl)) (fun _ _ _ _ _ _ => (qg_n (pg_name (i := 8) sc__law_is_right.nd rfl (.inl rfl)) (.inl rfl))) (fun _ _ _ _ _ _ => qts_nil) (fun _ _ _ _ _ _ => (q_cmp qo_notN (q_call G__law_between (hr.mono (by decide)) (by rfl) T.g__law_between T.k__law_between T.b__law_between tkE0 (qa_cons (q_var (pv 2)) (qa_cons (q_var (pv 3)) (qa_cons (q_var (pv 8)) qa_nil)))) q_non))).qe qa_nil)))))) (qs_one (qs_ret q_bl)) qs_nil)
      (qs_one (qs_ret (q_and (q_cmp (qo_eq hr.units) (q_call G__law_between (hr.mono (by decide)) (by rfl) T.g__law_between T.k__law_between T.b__law_between tkE0 (qa_cons (q_var (pv 2)) (qa_cons (q_var (pv 3)) (qa_cons (q_var (pv 6)) qa_nil)))) (q_var (pv 4))) (q_one (q_cmp (qo_eq hr.units) (q_var (pv 5)) (q_callB (qc_max rfl) (by rfl) T.n_max bt_max (qa_cons (q_lcN (own := [("x", 7), ("number", 9)]) rfl sc__law_is_right.nd (.inl rfl) (qi_eA (by rfl) T.n_enumerate (qa_cons (q_var (pv 0)) qa_nil)) (blkOk_by (by kernel_rfl)) (fun _ _ _ _ _ _ => (qg_t (n := 2) rfl (qgs_cons (qg_n (pg_name (i := 7) sc__law_is_right.nd rfl (.inl rfl)) (.inl rfl)) (qgs_cons (qg_n (pg_name (i := 9) sc__law_is_right.nd rfl (.inl rfl)) (.inl rfl)) qgs_nil)))) (fun _ _ _ _ _ _ => qts_nil) (fun _ _ _ _ _ _ => (q_op qo_sub (q_op qo_mul (q_var (pv 9)) (q_var (pv 6))) (q_op qo_mul (q_var (pv 4)) (q_var (pv 7)))))).qe qa_nil)))))))))))), fun ds Q hn h => ?_⟩
  unfold S_lright at h
  split at h
  rotate_left
  · exact h.elim
  rename_i xs t
  obtain ⟨ns, rfl, ⟨l1, l2, hs⟩, h⟩ := h
  rcases h with ⟨L, lo, hi, rfl, ⟨m1, m2, sa, sb⟩, q⟩ | ⟨lo, hi, rfl, q⟩
  · show sSeq _ _ _ [.val (.lst (ns.map D.int)), .val _, .un, .un, .un, .un, .un, .un, .un, .un]
    walk_at "wi"
    by_cases p1 : PrOk ns lo
    rotate_left
    · rw [if_pos (d_pf p1)]
      exact q false ⟨(fun z => by cases z), fun z => absurd z.p1 p1⟩
    rw [if_neg (d_pt p1)]
    by_cases p2 : PrOk ns hi
    rotate_left
    · rw [if_pos (d_pf p2)]
      exact q false ⟨(fun z => by cases z), fun z => absurd z.p2 p2⟩
    rw [if_neg (d_pt p2)]
    have sA := a0_sm p1 hs
    have sB := b0_sm p2 hs
    obtain ⟨⟨d1, d1'⟩, sd1⟩ := pr_d p1 l2
    obtain ⟨⟨d2, d2'⟩, sd2⟩ := pr_d p2 l2
    refine ⟨ns, allInts_map ns, ⟨p1.in1, p1.in2, p2.in1, p2.in2⟩, ?_⟩
    walk_at "wi"
    refine ⟨T.isc_Stairs, false, T.i_Stairs_Crooked, ?_⟩
    rw [if_neg (by decide)]
    refine ⟨by decide, ⟨by omega, by omega⟩, ?_⟩
    refine lcR_inv (fun i acc env => acc = (List.range i).map (fun j : Nat => D.int ((L.1 * j + L.2.1) / L.2.2)) ∧ env = [.val (.lst (ns.map D.int)), .val (oStairs ad (liD ad L) (prD lo) (prD hi)), .val (.tup [.int (a0 ns lo), .int (lo.2 - lo.1)]), .val (.tup [.int (b0 ns hi), .int (hi.2 - hi.1)]), .val (.int L.1), .val (.int L.2.1), .val (.int L.2.2), .un, .un, .un]) ⟨rfl, rfl⟩ ?_ ?_
    · rintro i x acc env N hx ⟨rfl, rfl⟩ hN
      obtain ⟨hi', rfl⟩ := rng_get hx
      walk_at "wi"
      rw [Int.zero_add]
      refine ⟨MOk.r (by omega) (by omega), DOk.small (by omega) (by omega), ?_, hN _ _ ⟨?_, rfl⟩⟩
      · rw [List.length_range]
        exact Nat.lt_of_le_of_lt (show _ ≤ 200 by omega) (by decide)
      · rw [List.range_succ, List.map_append]; rfl
    · rintro acc env ⟨rfl, rfl⟩
      rw [rng_len]
      walk_at "wi"
      have eL : (List.range (ns.length : Int).toNat).map (fun j : Nat => D.int ((L.1 * j + L.2.1) / L.2.2)) = ((List.range ns.length).map fun j : Nat => (L.1 * j + L.2.1) / L.2.2).map D.int := by
        rw [List.map_map]
        rfl
      rw [eL, o_neLn]
      walk_at "wi"
      by_cases hat : (List.range ns.length).map (fun j : Nat => (L.1 * j + L.2.1) / L.2.2) = ns
      rotate_left
      · rw [if_pos (by rw [decide_eq_false hat]; rfl)]
        exact q false ⟨(fun z => by cases z), fun z => absurd (list_at.mpr z.at_) hat⟩
      rw [if_neg (by rw [decide_eq_true hat]; decide)]
      have bt : ∀ m : Int, 0 < m → m ≤ 400 → 0 < lo.2 - lo.1 ∧ 0 < hi.2 - hi.1 ∧ 0 < m ∧ Sm 90 (a0 ns lo) ∧ Sm 90 (lo.2 - lo.1) ∧ Sm 90 (b0 ns hi) ∧ Sm 90 (hi.2 - hi.1) ∧ Sm 90 m := fun m h0 h1 => ⟨d1, d2, h0, bd_mono sA (by decide), bd_mono sd1 (by decide), bd_mono sB (by decide), bd_mono sd2 (by decide), by
        have : (2 : Nat) ^ 9 = 512 := by decide
        exact bd_mono (show Sm 9 m by unfold Sm; omega) (by decide)⟩
      refine ⟨⟨by omega, by omega, by omega, by omega⟩, ?_⟩
      refine lcR_inv (fun i acc env => acc = (List.range i).map (fun j : Nat => D.bl (decide (Btw ns lo hi (1 + j)))) ∧ env = [.val (.lst (ns.map D.int)), .val (oStairs ad (liD ad L) (prD lo) (prD hi)), .val (.tup [.int (a0 ns lo), .int (lo.2 - lo.1)]), .val (.tup [.int (b0 ns hi), .int (hi.2 - hi.1)]), .val (.int L.1), .val (.int L.2.1), .val (.int L.2.2), .un, .un, .un]) ⟨rfl, rfl⟩ ?_ ?_
      · rintro i x acc env N hx ⟨rfl, rfl⟩ hN
        obtain ⟨hi', rfl⟩ := rng_get hx
        walk_at "wi"
        refine ⟨bt _ (by omega) (by omega), ?_⟩
        refine ⟨?_, hN _ _ ⟨?_, rfl⟩⟩
        · rw [List.length_range]
          exact Nat.lt_of_le_of_lt (show _ ≤ 400 by omega) (by decide)
        · rw [List.range_succ, List.map_append]; rfl
      · rintro acc env ⟨rfl, rfl⟩
        rw [rng_len]
        walk_at "wi"
        refine ⟨_, allBls_of (f := fun j : Nat => decide (Btw ns lo hi (1 + j))), ?_⟩
        rw [List.any_map]
        by_cases hl : ∀ m', 0 < m' → m' < L.2.2 → ¬ Btw ns lo hi m'
        rotate_left
        · rw [if_pos ?_]
          · exact q false ⟨(fun z => by cases z), fun z => absurd z.less hl⟩
          · rw [List.any_eq_true]
            refine Classical.byContradiction fun no => hl fun m' g0 g1 g2 => no ⟨(m' - 1).toNat, List.mem_range.mpr (by omega), ?_⟩
            show decide (Btw ns lo hi (1 + ((m' - 1).toNat : Int))) = true
            rw [show (1 + ((m' - 1).toNat : Int)) = m' by omega]
            exact decide_eq_true g2
        rw [if_neg ?_]
        rotate_left
        · rw [List.any_eq_true]
          rintro ⟨j, hj, hb⟩
          have hj := List.mem_range.mp hj
          exact hl _ (by omega) (by omega) (of_decide_eq_true hb)
        refine ⟨bt _ (by omega) (by omega), ?_⟩
        refine eq_ite ?_
        walk_at "wi"
        by_cases hc : (a0 ns lo * L.2.2 / (lo.2 - lo.1) + 1) * (hi.2 - hi.1) < b0 ns hi * L.2.2 ∧ a0 ns lo * L.2.2 / (lo.2 - lo.1) + 1 = L.1
        rotate_left
        · rw [if_neg (by rw [decide_eq_true_eq]; exact hc), decide_eq_false hc]
          exact q false ⟨(fun z => by cases z), fun z => absurd ⟨z.here, z.a⟩ hc⟩
        rw [if_pos (decide_eq_true hc)]
        have sm9 : Sm 9 L.2.2 := by
          have : (2 : Nat) ^ 9 = 512 := by decide
          unfold Sm
          omega
        rw [enum_range]
        refine lcR_of (fun i : Nat => D.int (ns.getD i 0 * L.2.2 - L.1 * i)) (by rw [List.length_range]; exact Nat.le_trans l2 (by decide)) ?_ ?_
        · intro i N hi' hN
          have hi' := List.mem_range.mp hi'
          walk_at "wi"
          refine ⟨MOk.of (getD_sm hs hi') sm9 (by decide), .r (by omega) (by omega), hN _ ?_⟩
          rfl
        · refine ⟨_, allInts_of (f := fun i : Nat => ns.getD i 0 * L.2.2 - L.1 * i), by rw [List.length_map, List.length_range]; omega, fun b hb1 hb2 => q _ ?_⟩
          obtain ⟨j, hj1, hj2⟩ := List.mem_map.mp hb1
          have hj1 := List.mem_range.mp hj1
          have hb3 : ∀ i : Nat, i < ns.length → ns.getD i 0 * L.2.2 - L.1 * i ≤ b := fun i hi' => hb2 _ (List.mem_map.mpr ⟨i, List.mem_range.mpr hi', rfl⟩)
          rw [decide_eq_true_eq]
          constructor
          · exact fun z => ⟨p1, p2, list_at.mp hat, hl, hc.1, hc.2, by rw [z]; exact ⟨⟨j, hj1, hj2.symm⟩, hb3⟩⟩
          · rintro z
            obtain ⟨⟨i, hi1, hi2⟩, hz⟩ := z.b
            have := hz j hj1
            have := hb3 i hi1
            omega
  · show sSeq _ _ _ [.val (.lst (ns.map D.int)), .val _, .un, .un, .un, .un, .un, .un, .un, .un]
    walk_at "wi"
    by_cases p1 : PrOk ns lo
    rotate_left
    · rw [if_pos (d_pf p1)]
      exact q false ⟨(fun z => by cases z), fun z => absurd z.p1 p1⟩
    rw [if_neg (d_pt p1)]
    by_cases p2 : PrOk ns hi
    rotate_left
    · rw [if_pos (d_pf p2)]
      exact q false ⟨(fun z => by cases z), fun z => absurd z.p2 p2⟩
    rw [if_neg (d_pt p2)]
    have sA := a0_sm p1 hs
    have sB := b0_sm p2 hs
    obtain ⟨⟨d1, d1'⟩, sd1⟩ := pr_d p1 l2
    obtain ⟨⟨d2, d2'⟩, sd2⟩ := pr_d p2 l2
    refine ⟨ns, allInts_map ns, ⟨p1.in1, p1.in2, p2.in1, p2.in2⟩, ?_⟩
    walk_at "wi"
    refine ⟨T.isc_Crooked, true, T.i_Crooked_Crooked, ?_⟩
    rw [if_pos rfl]
    refine ⟨MOk.of sA sd2 (by decide), MOk.of sB sd1 (by decide), q _ ?_⟩
    rw [decide_eq_true_eq]
    exact ⟨fun z => ⟨p1, p2, z⟩, fun z => z.no⟩
theorem ok__law_has_line (T : Tx K mg ad) : FnOk P w K mg base (L2.CX P w) 1 ad.f__law_has_line ad.d__law_has_line ["row", "m"] (spA K 2 (S_lhasl)) := by
  refine fnA (k := 0) T.F__law_has_line sc__law_has_line fun cdv A outer s H F0 E EX hr tk => ⟨_, (qs_cons (qs_par (i := 2) (j := 3) rfl sc__law_has_line.nd rfl rfl (by decide) (.inl rfl) (.inl rfl) rfl rfl (qa_cons (q_op qo_mul (q_op qo_sub (q_op qo_sub (q_ix (q_var (pv 0)) q_int) (q_ix (q_var (pv 0)) q_int)) q_int) (q_var (pv 1))) (qa_cons (q_op qo_mul (q_op qo_add (q_op qo_sub (q_ix (q_var (pv 0)) q_int) (q_ix (q_var (pv 0)) q_int)) q_int) (q_var (pv 1))) qa_nil)) (by rfl))
      (qs_cons (qs_for PassesOwn.leaving rfl (qi_r2 (by rfl) T.n_range (qa_cons (q_var (pv 2)) (qa_cons (q_op qo_add (q_var (pv 3)) q_int) qa_nil))) (qg_n (pg_name (i := 4) sc__law_has_line.nd rfl (.inr rfl)) (.inl rfl)) (qs_cons (qs_set (i := 5) sc__law_has_line.nd rfl (.inr rfl) (.inl rfl) (q_callB (qc_max rfl) (by rfl) T.n_max bt_max (qa_cons (q_lcN (own := [("x", 6), ("number", 7)]) rfl sc__law_has_line.nd (.inl rfl) (qi_eA (by rfl) T.n_enumerate (qa_cons (q_var (pv 0)) qa_nil)) (blkOk_by (by kernel_rfl)) (fun _ _ _ _ _ _ => (qg_t (n := 2) rfl (qgs_cons (qg_n (pg_name (i := 6) sc__law_has_line.nd rfl (.inl rfl)) (.inl rfl)) (qgs_cons (qg_n (pg_name (i := 7) sc__law_has_line.nd rfl (.inl rfl)) (.inl rfl)) qgs_nil)))) (fun _ _ _ _ _ _ => qts_nil) (fun _ _ _ _ _ _ => (q_op qo_sub (q_op qo_mul (q_var (pv 7)) (q_var (pv 1))) (q_op qo_mul (q_var (pv 4)) (q_var (pv 6)))))).qe qa_nil)))
      (qs_one (qs_if (qt_tru (q_callB (qc_all rfl) (by rfl) T.n_all bt_all (qa_cons (q_lcN (own := [("x", 6), ("number", 7)]) rfl sc__law_has_line.nd (.inl rfl) (qi_eA (by rfl) T.n_enumerate (qa_cons (q_var (pv 0)) qa_nil)) (blkOk_by (by kernel_rfl)) (fun _ _ _ _ _ _ => (qg_t (n := 2) rfl (qgs_cons (qg_n (pg_name (i := 6) sc__law_has_line.nd rfl (.inl rfl)) (.inl rfl)) (qgs_cons (qg_n (pg_name (i := 7) sc__law_has_line.nd rfl (.inl rfl)) (.inl rfl)) qgs_nil)))) (fun _ _ _ _ _ _ => qts_nil) (fun _ _ _ _ _ _ => (q_cmp (qo_eq hr.units) (q_op qo_div (q_op qo_add (q_op qo_mul (q_var (pv 4)) (q_var (pv 6))) (q_var (pv 5))) (q_var (pv 1))) (q_var (pv 7))))).qe qa_nil))) (qs_one (qs_ret q_bl)) qs_nil))))
      (qs_one (qs_ret q_bl)))), fun ds Q hn h => ?_⟩
  unfold S_lhasl at h
  split at h
  rotate_left
  · exact h.elim
  rename_i xs m
  obtain ⟨ns, rfl, ⟨l1, l2, hs, m1, m5, nf⟩, q⟩ := h
  show sSeq _ _ _ [.val (.lst (ns.map D.int)), .val (.int m), .un, .un, .un, .un, .un, .un]
  walk_at "wi"
  have i0 : In ns 0 := ⟨by omega, by omega⟩
  have i1 : In ns 1 := ⟨by omega, by omega⟩
  refine ⟨_, nth_at i1, _, nth_at i0, ?_⟩
  walk_at "wi"
  refine ⟨.r (by omega) (by omega), _, nth_at i1, _, nth_at i0, ?_⟩
  walk_at "wi"
  have s0 := nth_sm hs i0
  have s1 := nth_sm hs i1
  have sm3 : Sm 3 m := by
    have : (2 : Nat) ^ 3 = 8 := by decide
    unfold Sm
    omega
  have sl : Sm 56 ((nth ns 1 - nth ns 0 - 1) * m) := bd_mono (bd_mul (bd_sub (bd_sub s1 s0) (show Sm 1 1 by unfold Sm; decide)) sm3) (by decide)
  have sh : Sm 56 ((nth ns 1 - nth ns 0 + 1) * m) := bd_mono (bd_mul (bd_add (bd_sub s1 s0) (show Sm 1 1 by unfold Sm; decide)) sm3) (by decide)
  refine ⟨.r (by omega) (by omega), ?_⟩
  generalize (nth ns 1 - nth ns 0 - 1) * m = lo at *
  generalize (nth ns 1 - nth ns 0 + 1) * m = hi at *
  have k56 : (2 : Nat) ^ 56 = 72057594037927936 := by decide
  unfold Sm at sl sh
  refine ⟨⟨by omega, by omega, by omega, by omega⟩, ?_⟩
  refine forR_rng (fun _ env => ∃ s4 s5, notOwn s4 = true ∧ env = [.val (.lst (ns.map D.int)), .val (.int m), .val (.int lo), .val (.int hi), s4, s5, .un, .un]) ⟨.un, _, rfl, rfl⟩ ?_ ?_
  · rintro i env N hi' ⟨s4, s5, n4, rfl⟩ hN
    walk_at "wi"
    have sa : Sm 60 (lo + (i : Int)) := by
      have : (2 : Nat) ^ 60 = 1152921504606846976 := by decide
      unfold Sm
      omega
    generalize lo + (i : Int) = a at *
    rw [enum_range]
    refine lcR_of (fun i : Nat => D.int (ns.getD i 0 * m - a * i)) (by rw [List.length_range]; exact Nat.le_trans l2 (by decide)) ?_ ?_
    · intro j N hj hN
      have hj := List.mem_range.mp hj
      walk_at "wi"
      exact ⟨.r (by omega) (by omega), .r (by omega) (by omega), hN _ rfl⟩
    refine ⟨_, allInts_of (f := fun i : Nat => ns.getD i 0 * m - a * i), by rw [List.length_map, List.length_range]; omega, fun b hb1 hb2 => ?_⟩
    walk_at "wi"
    rw [enum_range]
    refine lcR_of (fun i : Nat => D.bl (decide ((a * i + b) / m = ns.getD i 0))) (by rw [List.length_range]; exact Nat.le_trans l2 (by decide)) ?_ ?_
    · intro j N hj hN
      have hj := List.mem_range.mp hj
      walk_at "wi"
      exact ⟨.r (by omega) (by omega), DOk.small (by omega) (by omega), hN _ rfl⟩
    refine ⟨_, allBls_of (f := fun i : Nat => decide ((a * i + b) / m = ns.getD i 0)), ?_⟩
    rw [List.all_map, if_neg ?_]
    · exact hN _ ⟨_, _, rfl, rfl⟩
    · rw [List.all_eq_true]
      intro hall
      refine nf a (fit_of (b := b) (by omega) fun x x0 xn => ?_)
      have := of_decide_eq_true (hall x.toNat (List.mem_range.mpr (by omega)))
      rw [show ((x.toNat : Nat) : Int) = x by omega] at this
      exact this
  · rintro env ⟨s4, s5, n4, rfl⟩
    walk_at "wi"
    exact q
theorem gv__law_fault (T : Tx K mg ad) {N : List Str} {qual : Str} {sc : Scope} {f : Addr} {cdv cdg : Value} {A : Around} {outer : List Env} {s : Shared} {H : Hp} {E : XK} {q : Str} : LamX.GivesAt (cxOf (L2.CX P w) P w K mg base N qual sc f cdv A outer s H E) ["deed", "fault"] "_law_fault" (defScope s__law_fault) ad.f__law_fault cdg (defBody s__law_fault) "deed" q (TTq K (S_fault ad)) := by
  refine fnF fun f s H F0 L deed => ⟨_, (qs_cons (qs_try (i := 1) rfl rfl sc__law_fault.nd rfl rfl (.inl rfl) tk0 (fun _ sF hF _ _ _ tk _ => (qs_one (qs_expr (deed _ _ _ _ _ _ rfl sF hF tk)))) (.cons (by rfl) T.g_BadNumber (fun a oe cls d pn F0 ed hz hf rx => (qs_one (qs_ret (q_tup (qa_cons q_str (qa_cons (q_xf hz hf rx (hx_value T) (q_var (pv 1))) qa_nil)))))) (.cons (by rfl) T.g_TooLarge (fun a oe cls d pn F0 ed hz hf rx => (qs_one (qs_ret (q_tup (qa_cons q_str (qa_cons (q_xf hz hf rx (hx_number T) (q_var (pv 1))) qa_nil)))))) .nil)))
      (qs_one (qs_ret q_str))), fun Q h => ?_⟩
  show sSeq _ _ _ [.val (.raw (.ref f)), .un]
  walk_at "wi"
  refine h _ (fun d q => ?_) fun d q => ?_
  · refine ⟨true, T.xm_BadNumber_BadNumber, fun _ a => ?_, fun z => by cases z⟩
    show sRet _ _ [.val (.raw (.ref f)), .val (.raw (.ref a))]
    walk_at "wi"
    exact ⟨_, fld_hit, by decide, q⟩
  · refine ⟨false, T.xm_TooLarge_BadNumber, (fun z => by cases z), fun _ => ?_⟩
    refine ⟨true, T.xm_TooLarge_TooLarge, fun _ a => ?_, fun z => by cases z⟩
    show sRet _ _ [.val (.raw (.ref f)), .val (.raw (.ref a))]
    walk_at "wi"
    exact ⟨_, fld_hit, by decide, q⟩
theorem ok_law (T : Tx K mg ad) {c Pt : Addr} {kV doc pm ct oc : Value} {an od : Option Addr} {osl : Array (Option Value)} (lk : K.lookup ad.f_law = some ⟨oc, od, .func (PySem.W.fnOf "law" "law" (defArgs s_law) (defBody s_law) (defScope s_law) .none kV doc pm an (.ref c) ct), osl⟩) (hcd : PySem.W.codeIn K (.ref c) "law" = true) (TB : LamX.TabB base mg c Pt) :
    FnOk P w K mg base (L2.CX P w) 8 ad.f_law (PySem.W.fnOf "law" "law" (defArgs s_law) (defBody s_law) (defScope s_law) .none kV doc pm an (.ref c) ct) ["script"] (spX K (tbs "law" (defScope s_law) Pt)) := by
  have G_Crooked___bool__ := ok_Crooked___bool__ (P := P) (w := w) (base := base) T
  have G_Crooked___eq__ := ok_Crooked___eq__ (P := P) (w := w) (base := base) T
  have G_Crooked___init__ := ok_Crooked___init__ (P := P) (w := w) (base := base) T
  have G_Crooked_shows := ok_Crooked_shows (P := P) (w := w) (base := base) T
  have G_Line___init__ := ok_Line___init__ (P := P) (w := w) (base := base) T
  have G_Stairs___bool__ := ok_Stairs___bool__ (P := P) (w := w) (base := base) T
  have G_Stairs___eq__ := ok_Stairs___eq__ (P := P) (w := w) (base := base) T
  have G_Stairs___init__ := ok_Stairs___init__ (P := P) (w := w) (base := base) T
  have G_Stairs_shows := ok_Stairs_shows (P := P) (w := w) (base := base) T
  have G__law_at := ok__law_at (P := P) (w := w) (base := base) T
  have G__law_has_line := ok__law_has_line (P := P) (w := w) (base := base) T
  have G__law_is_right := ok__law_is_right (P := P) (w := w) (base := base) T
  have G__law_long := ok__law_long (P := P) (w := w) (base := base) T
  have G__law_pick := ok__law_pick (P := P) (w := w) (base := base) T
  have G__law_take := ok__law_take (P := P) (w := w) (base := base) T
  have G_stairs := ok_stairs (P := P) (w := w) (base := base) T
  obtain ⟨oc1, od1, kV1, dc1, pm1, an1, cd1, ct1, sl1, fd1, lk1, hc1⟩ := T.F__law_fault.ex
  have b1 := T.b__law_fault
  rw [fd1] at lk1 b1
  refine fnX (k := 7) lk hcd sc_law fun A outer s H E hr => ⟨_, (xs_cons (x_s fun B F0 => (qs_own (i := 1) sc_law.nd rfl (.inl rfl) (.inl rfl) (q_lstN (qa_cons (q_var (pv 0)) (qa_cons q_int qa_nil)))))
      (xs_cons (x_s fun B F0 => (qs_for PassesOwn.leaving rfl (qi_r1 (by rfl) T.n_range (qa_cons q_int qa_nil)) (qg_n (pg_name (i := 2) sc_law.nd rfl (.inl rfl)) (.inl rfl)) (qs_cons (qs_asg (q_tup (qa_cons (q_tup (qa_cons (q_callM G__law_long (hr.mono (by decide)) (by rfl) T.g__law_long T.k__law_long T.b__law_long tkE0 (pv 1) (qa_cons q_int qa_nil)) (qa_cons (q_callM G__law_long (hr.mono (by decide)) (by rfl) T.g__law_long T.k__law_long T.b__law_long tkE0 (pv 1) (qa_cons q_int qa_nil)) (qa_cons (q_op qo_add q_int (q_callM G__law_take (hr.mono (by decide)) (by rfl) T.g__law_take T.k__law_take T.b__law_take tkE0 (pv 1) (qa_cons q_int qa_nil))) qa_nil)))) (qa_cons (q_op qo_add q_int (q_callM G__law_take (hr.mono (by decide)) (by rfl) T.g__law_take T.k__law_take T.b__law_take tkE0 (pv 1) (qa_cons (q_callM G__law_pick (hr.mono (by decide)) (by rfl) T.g__law_pick T.k__law_pick T.b__law_pick tkE0 (pv 1) (qa_cons (q_lst (qa_cons q_int (qa_cons q_int (qa_cons q_int qa_nil)))) qa_nil)) qa_nil))) qa_nil))) (qg_t (n := 2) rfl (qgs_cons (qg_n (pg_name (i := 3) sc_law.nd rfl (.inr rfl)) (.inl rfl)) (qgs_cons (qg_n (pg_name (i := 4) sc_law.nd rfl (.inl rfl)) (.inl rfl)) qgs_nil))))
      (qs_cons (qs_own (i := 5) sc_law.nd rfl (.inr rfl) (.inl rfl) (q_lcN (own := [("x", 6)]) rfl sc_law.nd (.inl rfl) (qi_r1 (by rfl) T.n_range (qa_cons (q_var (pv 4)) qa_nil)) (blkOk_by (by kernel_rfl)) (fun _ _ _ _ _ _ => (qg_n (pg_name (i := 6) sc_law.nd rfl (.inl rfl)) (.inl rfl))) (fun _ _ _ _ _ _ => qts_nil) (fun _ _ _ _ _ _ => (q_call G__law_at (hr.mono (by decide)) (by rfl) T.g__law_at T.k__law_at T.b__law_at tkE0 (qa_cons (q_var (pv 3)) (qa_cons (q_var (pv 6)) qa_nil))))))
      (qs_cons (qs_cut (qs_if (qt_cmp (qo_eq hr.units) (q_callM G__law_take (hr.mono (by decide)) (by rfl) T.g__law_take T.k__law_take T.b__law_take tkE0 (pv 1) (qa_cons q_int qa_nil)) q_int) (qs_one (qs_augI (pv 5) (q_callM G__law_take (hr.mono (by decide)) (by rfl) T.g__law_take T.k__law_take T.b__law_take tkE0 (pv 1) (qa_cons (q_var (pv 4)) qa_nil)) qip_add (q_callM G__law_pick (hr.mono (by decide)) (by rfl) T.g__law_pick T.k__law_pick T.b__law_pick tkE0 (pv 1) (qa_cons (q_lst (qa_cons q_int (qa_cons (q_un qo_neg q_int) (qa_cons q_int (qa_cons q_int qa_nil))))) qa_nil)))) qs_nil))
      (qs_cons (qs_set (i := 7) sc_law.nd rfl (.inl rfl) (.inl rfl) (q_call G_stairs (hr.mono (by decide)) (by rfl) T.g_stairs T.k_stairs T.b_stairs tkE0 (qa_cons (q_if (qt_cmp (qo_eq hr.units) (q_callM G__law_take (hr.mono (by decide)) (by rfl) T.g__law_take T.k__law_take T.b__law_take tkE0 (pv 1) (qa_cons q_int qa_nil)) q_int) (q_callTy qc_tuple (by rfl) T.n_tuple bt_tuple (qa_cons (q_varO (pv 5) (.inl rfl)) qa_nil)) (q_varO (pv 5) (.inl rfl))) qa_nil)))
      (qs_cons (qs_cut (qs_if (qt_w (qw_or (qt_cmp (qo_ne hr.units) (q_callTy (qc_boolO (hD_sc T (hr.mono (by decide)) G_Stairs___bool__ G_Crooked___bool__)) (by rfl) T.n_bool bt_bool (qa_cons (q_var (pv 7)) qa_nil)) (q_callB qc_isiC (by rfl) T.n_isinstance bt_isinstance (qa_cons (q_var (pv 7)) (qa_cons (q_cls (by rfl) T.g_Stairs) qa_nil)))) (qw_or (qt_not (qt_tru (q_call G__law_is_right (hr.mono (by decide)) (by rfl) T.g__law_is_right T.k__law_is_right T.b__law_is_right tkE0 (qa_cons (q_varO (pv 5) (.inl rfl)) (qa_cons (q_var (pv 7)) qa_nil))))) (qw_or1 (qt_not (qt_tru (q_eith (q_meth T.cl_Stairs T.me_Stairs_shows G_Stairs_shows (hr.mono (by decide)) T.b_Stairs_shows tkE0 (q_var (pv 7)) (qa_cons (q_varO (pv 5) (.inl rfl)) qa_nil)) (q_meth T.cl_Crooked T.me_Crooked_shows G_Crooked_shows (hr.mono (by decide)) T.b_Crooked_shows tkE0 (q_var (pv 7)) (qa_cons (q_varO (pv 5) (.inl rfl)) qa_nil))))))))) (qs_one (qs_ret q_bl)) qs_nil))
      (qs_cons (qs_cut (qs_if (qt_w (qw_and (qt_tru (q_callB qc_isiC (by rfl) T.n_isinstance bt_isinstance (qa_cons (q_var (pv 7)) (qa_cons (q_cls (by rfl) T.g_Stairs) qa_nil)))) (qw_and (qt_cmp qo_lt (q_var (pv 4)) q_int) (qw_and1 (qt_tru (q_callB (qc_any rfl) (by rfl) T.n_any bt_any (qa_cons (q_lcN (own := [("m", 8)]) rfl sc_law.nd (.inl rfl) (qi_r2 (by rfl) T.n_range (qa_cons q_int (qa_cons (q_callB (qc_min rfl) (by rfl) T.n_min bt_min (qa_cons q_int (qa_cons (q_fld (hf_m T) (q_fld (hf_line T) (q_var (pv 7)))) qa_nil))) qa_nil))) (blkOk_by (by kernel_rfl)) (fun _ _ _ _ _ _ => (qg_n (pg_name (i := 8) sc_law.nd rfl (.inl rfl)) (.inl rfl))) (fun _ _ _ _ _ _ => qts_nil) (fun _ _ _ _ _ _ => (q_call G__law_has_line (hr.mono (by decide)) (by rfl) T.g__law_has_line T.k__law_has_line T.b__law_has_line tkE0 (qa_cons (q_varO (pv 5) (.inl rfl)) (qa_cons (q_var (pv 8)) qa_nil))))).qe qa_nil))))))) (qs_one (qs_ret q_bl)) qs_nil))
      (qs_cons (qs_cut (qs_if (qt_w (qw_and (qt_tru (q_callB qc_isiC (by rfl) T.n_isinstance bt_isinstance (qa_cons (q_var (pv 7)) (qa_cons (q_cls (by rfl) T.g_Crooked) qa_nil)))) (qw_and (qt_cmp qo_lt (q_var (pv 4)) q_int) (qw_and1 (qt_tru (q_callB (qc_any rfl) (by rfl) T.n_any bt_any (qa_cons (q_lcN (own := [("m", 8)]) rfl sc_law.nd (.inl rfl) (qi_r2 (by rfl) T.n_range (qa_cons q_int (qa_cons q_int qa_nil))) (blkOk_by (by kernel_rfl)) (fun _ _ _ _ _ _ => (qg_n (pg_name (i := 8) sc_law.nd rfl (.inl rfl)) (.inl rfl))) (fun _ _ _ _ _ _ => qts_nil) (fun _ _ _ _ _ _ => (q_call G__law_has_line (hr.mono (by decide)) (by rfl) T.g__law_has_line T.k__law_has_line T.b__law_has_line tkE0 (qa_cons (q_varO (pv 5) (.inl rfl)) (qa_cons (q_var (pv 8)) qa_nil))))).qe qa_nil))))))) (qs_one (qs_ret q_bl)) qs_nil))
      (qs_cons (qs_par (i := 9) (j := 10) rfl sc_law.nd rfl rfl (by decide) (.inl rfl) (.inl rfl) rfl rfl (qa_cons (q_tup (qa_cons (q_callM G__law_take (hr.mono (by decide)) (by rfl) T.g__law_take T.k__law_take T.b__law_take tkE0 (pv 1) (qa_cons (q_var (pv 4)) qa_nil)) (qa_cons (q_callM G__law_take (hr.mono (by decide)) (by rfl) T.g__law_take T.k__law_take T.b__law_take tkE0 (pv 1) (qa_cons (q_var (pv 4)) qa_nil)) qa_nil))) (qa_cons (q_fld (hf_high T) (q_var (pv 7))) qa_nil)) (by rfl))
      (qs_cons (qs_set (i := 11) sc_law.nd rfl (.inl rfl) (.inl rfl) (q_if (qt_w (qw_or (qt_cmp (qo_eq hr.units) (q_callM G__law_take (hr.mono (by decide)) (by rfl) T.g__law_take T.k__law_take T.b__law_take tkE0 (pv 1) (qa_cons q_int qa_nil)) q_int) (qw_or1 (qt_tru (q_callB qc_isiC (by rfl) T.n_isinstance bt_isinstance (qa_cons (q_var (pv 7)) (qa_cons (q_cls (by rfl) T.g_Crooked) qa_nil))))))) (q_makeN T.mk_Crooked G_Crooked___init__ (hr.mono (by decide)) (by rfl) T.g_Crooked T.b_Crooked___init__ tkE0 (qa_cons (q_var (pv 9)) (qa_cons (q_var (pv 10)) qa_nil))).qe (q_makeN T.mk_Stairs G_Stairs___init__ (hr.mono (by decide)) (by rfl) T.g_Stairs T.b_Stairs___init__ tkE0 (qa_cons (q_fld (hf_line T) (q_var (pv 7))) (qa_cons (q_var (pv 9)) (qa_cons (q_var (pv 10)) qa_nil)))).qe))
      (qs_cons (qs_cut (qs_if (qt_w (qw_or (qt_cmp (qo_ne hr.units) (q_eith (q_meth T.cl_Stairs T.me_Stairs_shows G_Stairs_shows (hr.mono (by decide)) T.b_Stairs_shows tkE0 (q_var (pv 11)) (qa_cons (q_varO (pv 5) (.inl rfl)) qa_nil)) (q_meth T.cl_Crooked T.me_Crooked_shows G_Crooked_shows (hr.mono (by decide)) T.b_Crooked_shows tkE0 (q_var (pv 11)) (qa_cons (q_varO (pv 5) (.inl rfl)) qa_nil))) (q_call G__law_is_right (hr.mono (by decide)) (by rfl) T.g__law_is_right T.k__law_is_right T.b__law_is_right tkE0 (qa_cons (q_varO (pv 5) (.inl rfl)) (qa_cons (q_var (pv 11)) qa_nil)))) (qw_or1 (qt_cmp (qo_ne hr.units) (q_eith (q_cmp (qo_eqO G_Stairs___eq__ (hr.mono (by decide)) T.b_Stairs___eq__ T.q_Stairs) (q_var (pv 11)) (q_var (pv 7))) (q_cmp (qo_eqO G_Crooked___eq__ (hr.mono (by decide)) T.b_Crooked___eq__ T.q_Crooked) (q_var (pv 11)) (q_var (pv 7)))) (q_and (q_cmp (qo_eq hr.units) (q_callB qc_isiC (by rfl) T.n_isinstance bt_isinstance (qa_cons (q_var (pv 11)) (qa_cons (q_cls (by rfl) T.g_Stairs) qa_nil))) (q_callB qc_isiC (by rfl) T.n_isinstance bt_isinstance (qa_cons (q_var (pv 7)) (qa_cons (q_cls (by rfl) T.g_Stairs) qa_nil)))) (q_one (q_cmp (qo_eq hr.units) (q_fld (hf_low T) (q_var (pv 11))) (q_fld (hf_low T) (q_var (pv 7)))))))))) (qs_one (qs_ret q_bl)) qs_nil))
      (qs_one (qs_cut (qs_if (qt_tru (q_callB qc_isiC (by rfl) T.n_isinstance bt_isinstance (qa_cons (q_var (pv 7)) (qa_cons (q_cls (by rfl) T.g_Stairs) qa_nil)))) (qs_cons (qs_set (i := 12) sc_law.nd rfl (.inl rfl) (.inl rfl) (q_makeN T.mk_Stairs G_Stairs___init__ (hr.mono (by decide)) (by rfl) T.g_Stairs T.b_Stairs___init__ tkE0 (qa_cons (q_makeN T.mk_Line G_Line___init__ (hr.mono (by decide)) (by rfl) T.g_Line T.b_Line___init__ tkE0 (qa_cons (q_op qo_mul (q_fld (hf_a T) (q_fld (hf_line T) (q_var (pv 7)))) q_int) (qa_cons (q_op qo_add (q_op qo_mul (q_fld (hf_b T) (q_fld (hf_line T) (q_var (pv 7)))) q_int) (q_callM G__law_take (hr.mono (by decide)) (by rfl) T.g__law_take T.k__law_take T.b__law_take tkE0 (pv 1) (qa_cons q_int qa_nil))) (qa_cons (q_op qo_mul (q_fld (hf_m T) (q_fld (hf_line T) (q_var (pv 7)))) q_int) qa_nil)))).qe (qa_cons (q_fld (hf_low T) (q_var (pv 7))) (qa_cons (q_fld (hf_high T) (q_var (pv 7))) qa_nil)))).qe)
      (qs_cons (qs_if (qt_tru (q_meth T.cl_Stairs T.me_Stairs_shows G_Stairs_shows (hr.mono (by decide)) T.b_Stairs_shows tkE0 (q_var (pv 12)) (qa_cons (q_varO (pv 5) (.inl rfl)) qa_nil))) (qs_one (qs_ret q_bl)) qs_nil)
      (qs_cons (qs_set (i := 12) sc_law.nd rfl (.inl rfl) (.inl rfl) (q_makeN T.mk_Stairs G_Stairs___init__ (hr.mono (by decide)) (by rfl) T.g_Stairs T.b_Stairs___init__ tkE0 (qa_cons (q_makeN T.mk_Line G_Line___init__ (hr.mono (by decide)) (by rfl) T.g_Line T.b_Line___init__ tkE0 (qa_cons (q_fld (hf_a T) (q_fld (hf_line T) (q_var (pv 7)))) (qa_cons (q_op qo_add (q_fld (hf_b T) (q_fld (hf_line T) (q_var (pv 7)))) q_int) (qa_cons (q_fld (hf_m T) (q_fld (hf_line T) (q_var (pv 7)))) qa_nil)))).qe (qa_cons (q_fld (hf_low T) (q_var (pv 7))) (qa_cons (q_fld (hf_high T) (q_var (pv 7))) qa_nil)))).qe)
      (qs_one (qs_if (qt_w (qw_or (qt_tru (q_meth T.cl_Stairs T.me_Stairs_shows G_Stairs_shows (hr.mono (by decide)) T.b_Stairs_shows tkE0 (q_var (pv 12)) (qa_cons (q_varO (pv 5) (.inl rfl)) qa_nil))) (qw_or1 (qt_cmp (qo_ne hr.units) (q_meth T.cl_Stairs T.me_Stairs_shows G_Stairs_shows (hr.mono (by decide)) T.b_Stairs_shows tkE0 (q_makeN T.mk_Stairs G_Stairs___init__ (hr.mono (by decide)) (by rfl) T.g_Stairs T.b_Stairs___init__ tkE0 (qa_cons (q_fld (hf_line T) (q_var (pv 7))) (qa_cons (q_fld (hf_high T) (q_var (pv 7))) (qa_cons (q_fld (hf_low T) (q_var (pv 7))) qa_nil)))).qe (qa_cons (q_varO (pv 5) (.inl rfl)) qa_nil)) (q_call G__law_is_right (hr.mono (by decide)) (by rfl) T.g__law_is_right T.k__law_is_right T.b__law_is_right tkE0 (qa_cons (q_varO (pv 5) (.inl rfl)) (qa_cons (q_makeN T.mk_Stairs G_Stairs___init__ (hr.mono (by decide)) (by rfl) T.g_Stairs T.b_Stairs___init__ tkE0 (qa_cons (q_fld (hf_line T) (q_var (pv 7))) (qa_cons (q_fld (hf_high T) (q_var (pv 7))) (qa_cons (q_fld (hf_low T) (q_var (pv 7))) qa_nil)))).qe qa_nil))))))) (qs_one (qs_ret q_bl)) qs_nil))))) qs_nil)))))))))))))))
      (xs_cons (x_s fun B F0 => (qs_asg (q_tup (qa_cons (q_callM G__law_take (hr.mono (by decide)) (by rfl) T.g__law_take T.k__law_take T.b__law_take tkE0 (pv 1) (qa_cons (q_callB qc_len (by rfl) T.n_len bt_len (qa_cons (q_varO (pv 5) (.inl rfl)) qa_nil)) qa_nil)) (qa_cons (q_callM G__law_pick (hr.mono (by decide)) (by rfl) T.g__law_pick T.k__law_pick T.b__law_pick tkE0 (pv 1) (qa_cons (q_lst (qa_cons q_non (qa_cons q_str (qa_cons q_bl (qa_cons (q_tup (qa_cons q_int qa_nil)) qa_nil))))) qa_nil)) qa_nil))) (qg_t (n := 2) rfl (qgs_cons (qg_n (pg_name (i := 13) sc_law.nd rfl (.inr rfl)) (.inl rfl)) (qgs_cons (qg_n (pg_name (i := 14) sc_law.nd rfl (.inr rfl)) (.inl rfl)) qgs_nil)))))
      (xs_cons (x_if (xt_cmp (qo_ne hr.units) (x_lam (k := 5) (by rfl) T.g__law_fault T.k__law_fault lk1 hc1 b1 sc__law_fault rfl (.inl rfl) (gv__law_fault T) TB rfl (List.mem_singleton.mpr rfl) (fun p hp _ => by rw [List.mem_singleton.mp hp]; rfl) (hr.mono (by decide)) (LamX.lamS_by (by kernel_rfl)) rfl (fun _ _ _ _ _ => rfl) fun B F0 EX A outer s H E f c' hr tk => (q_call G_stairs (hr.mono (by decide)) (by rfl) T.g_stairs T.k_stairs T.b_stairs (tkE_of tk) (qa_cons (q_op qo_add (q_op qo_add (q_slice (q_varO (pv 5) (.inl rfl)) qo_none (qo_some (q_var (pv 13)))) (q_lst (qa_cons (q_var (pv 14)) qa_nil))) (q_slice (q_varO (pv 5) (.inl rfl)) (qo_some (q_op qo_add (q_var (pv 13)) q_int)) qo_none)) qa_nil))) (x_e fun B F0 => (q_tup (qa_cons q_str (qa_cons (q_var (pv 14)) qa_nil))))) (xs_one (x_s fun B F0 => (qs_ret q_bl))) xs_nil)
      (xs_cons (x_s fun B F0 => (qs_set (i := 15) sc_law.nd rfl (.inr rfl) (.inl rfl) (q_lcN (own := [("x", 6)]) rfl sc_law.nd (.inl rfl) (qi_r1 (by rfl) T.n_range (qa_cons (q_callM G__law_pick (hr.mono (by decide)) (by rfl) T.g__law_pick T.k__law_pick T.b__law_pick tkE0 (pv 1) (qa_cons (q_lst (qa_cons q_int (qa_cons q_int (qa_cons q_int (qa_cons q_int (qa_cons q_int qa_nil)))))) qa_nil)) qa_nil)) (blkOk_by (by kernel_rfl)) (fun _ _ _ _ _ _ => (qg_n (pg_name (i := 6) sc_law.nd rfl (.inl rfl)) (.inl rfl))) (fun _ _ _ _ _ _ => qts_nil) (fun _ _ _ _ _ _ => (q_op qo_div (q_var (pv 6)) q_int))).qe))
      (xs_one (x_ret (x_cmp (qo_eq hr.units) (x_lam (k := 5) (by rfl) T.g__law_fault T.k__law_fault lk1 hc1 b1 sc__law_fault rfl (.inl rfl) (gv__law_fault T) TB rfl (List.mem_singleton.mpr rfl) (fun p hp _ => by rw [List.mem_singleton.mp hp]; rfl) (hr.mono (by decide)) (LamX.lamS_by (by kernel_rfl)) rfl (fun _ _ _ _ _ => rfl) fun B F0 EX A outer s H E f c' hr tk => (q_call G_stairs (hr.mono (by decide)) (by rfl) T.g_stairs T.k_stairs T.b_stairs (tkE_of tk) (qa_cons (q_var (pv 15)) qa_nil))) (x_e fun B F0 => (q_if (qt_chain qo_le qo_le q_int (q_callB qc_len (by rfl) T.n_len bt_len (qa_cons (q_var (pv 15)) qa_nil)) q_int) q_str (q_tup (qa_cons q_str (qa_cons (q_callB qc_len (by rfl) T.n_len bt_len (qa_cons (q_var (pv 15)) qa_nil)) qa_nil))))))))))))), fun ns hns => ?_⟩
  show sSeq _ _ _ [.val (.scr ns), .un, .un, .un, .un, .un, .un, .un, .un, .un, .un, .un, .un, .un, .un, .un]
  have hD : Drw (.lst [.scr ns, .int 0]) := ⟨ns, 0, hns, rfl⟩
  walk_at "wi"
  refine ⟨by decide, by decide, ?_⟩
  refine forR_rng (fun i env => ∃ dd s2 s3 s4 s5 s6 s7 s8 s9 s10 s11 s12, (Drw dd ∧ notOwn s6 = true ∧ notOwn s8 = true ∧ (i ≠ 0 → ∃ R, GR R ∧ s5 = .val (.lst (R.map D.int)))) ∧ env = [.val (.scr ns), .own dd, s2, s3, s4, s5, s6, s7, s8, s9, s10, s11, s12, .un, .un, .un]) ⟨_, _, _, _, _, .un, _, .un, _, _, _, _, ⟨hD, rfl, rfl, fun z => absurd rfl z⟩, rfl⟩ ?_ ?_
  · rintro i env N hi ⟨dd, s2, s3, s4, s5, s6, s7, s8, s9, s10, s11, s12, ⟨hD, n6, n8, _⟩, rfl⟩ hN
    walk_at "wi"
    refine ⟨hD, by decide, fun a d1 ha hD1 => ⟨hD1, by decide, fun b d2 hb hD2 => ⟨hD2, by decide, fun m' d3 m0 m1 hD3 => ?_⟩⟩⟩
    refine ⟨by decide, by decide, hD3, by decide, fun k d4 hk hD4 => ?_⟩
    obtain ⟨k', rfl, k1, k2⟩ : ∃ k' : Int, k = .int k' ∧ 4 ≤ k' ∧ k' ≤ 60 := by
      simp only [List.mem_cons, List.not_mem_nil, or_false] at hk
      rcases hk with rfl | rfl | rfl
      · exact ⟨_, rfl, by decide, by decide⟩
      · exact ⟨_, rfl, by decide, by decide⟩
      · exact ⟨_, rfl, by decide, by decide⟩
    walk_at "wi"
    refine ⟨hD4, by omega, fun t d5 t0 t1 hD5 => ⟨by decide, ⟨by omega, by omega⟩, n6, ?_⟩⟩
    have ha : a.natAbs < 100 := ha
    have hb : b.natAbs < 1000 := hb
    have many2 : 2 ≤ 2 + t := by omega
    have many61 : 2 + t ≤ 61 := by omega
    generalize 2 + t = many at *
    refine lcR_inv (fun j acc env => acc = (List.range j).map (fun q : Nat => D.int ((a * q + b) / (1 + m'))) ∧ env = [.val (.scr ns), .own d5, .val (.int (0 + ↑i)), .val (.tup [.int a, .int b, .int (1 + m')]), .val (.int many), s5, .un, s7, s8, s9, s10, s11, s12, .un, .un, .un]) ⟨rfl, rfl⟩ ?_ ?_
    · rintro j x acc env N' hx ⟨rfl, rfl⟩ hN'
      obtain ⟨hj, rfl⟩ := rng_get hx
      walk_at "wi"
      rw [Int.zero_add]
      refine ⟨⟨.r (by omega) (by omega), DOk.small (by omega) (by omega)⟩, ?_, hN' _ _ ⟨?_, rfl⟩⟩
      · rw [List.length_range]
        exact Nat.lt_of_le_of_lt (show _ ≤ 200 by omega) (by decide)
      · rw [List.range_succ, List.map_append]; rfl
    rintro acc env ⟨rfl, rfl⟩
    rw [rng_len]
    obtain ⟨R0, hR0, hl0, hs0⟩ : ∃ R0 : List Int, (List.range many.toNat).map (fun q : Nat => D.int ((a * q + b) / (1 + m'))) = R0.map D.int ∧ (R0.length : Int) = many ∧ ∀ n ∈ R0, n.natAbs < 10000 := by
      refine ⟨(List.range many.toNat).map fun q : Nat => (a * q + b) / (1 + m'), by rw [List.map_map]; rfl, by rw [List.length_map, List.length_range]; omega, fun n hn => ?_⟩
      obtain ⟨q, hq, rfl⟩ := List.mem_map.mp hn
      have hq := List.mem_range.mp hq
      exact row_sm ha hb (by omega) (by omega)
    rw [hR0]
    walk_at "wi"
    refine ⟨fun env' => ∃ R d6, (GR R ∧ Drw d6 ∧ (R.length : Int) = many) ∧ env' = [.val (.scr ns), .own d6, .val (.int (0 + ↑i)), .val (.tup [.int a, .int b, .int (1 + m')]), .val (.int many), .own (.lst (R.map D.int)), s6, s7, s8, s9, s10, s11, s12, .un, .un, .un], ?_, ?_⟩
    · walk_at "wi"
      refine ⟨hD5, by decide, fun t d6 t0 t1 hD6 => ?_⟩
      by_cases ht : t = 0
      · rw [if_pos (decide_eq_true ht)]
        refine ⟨hD6, by omega, fun r d7 r0 r1 hD7 => ?_⟩
        have inr : In R0 r := ⟨r0, by omega⟩
        refine ⟨_, nth_at inr, ?_⟩
        walk_at "wi"
        refine ⟨by decide, hD7, by decide, fun v d8 hv hD8 => ?_⟩
        obtain ⟨v', rfl, v1⟩ : ∃ v' : Int, v = .int v' ∧ v'.natAbs ≤ 3 := by
          simp only [List.mem_cons, List.not_mem_nil, or_false] at hv
          rcases hv with rfl | rfl | rfl | rfl
          · exact ⟨_, rfl, by decide⟩
          · exact ⟨_, rfl, by decide⟩
          · exact ⟨_, rfl, by decide⟩
          · exact ⟨_, rfl, by decide⟩
        show ∃ n, ixN R0.length r = some n ∧ _
        refine ⟨r.toNat, ixN_in inr, R0.set r.toNat (nth R0 r + v'), d8, ⟨gr_of (by rw [List.length_set]; omega) (by rw [List.length_set]; omega) fun n hn => ?_, hD8, by rw [List.length_set]; exact hl0⟩, ?_⟩
        · rcases List.mem_or_eq_of_mem_set hn with hn | rfl
          · have := hs0 n hn
            omega
          · have := nth_abs hs0 inr
            omega
        · rw [List.map_set]
      · rw [if_neg (by rw [decide_eq_true_eq]; exact ht)]
        exact ⟨R0, _, ⟨gr_of (by omega) (by omega) fun n hn => by have := hs0 n hn; omega, hD6, hl0⟩, rfl⟩
    rintro env ⟨R, d6, ⟨hR, hD6, hlen⟩, rfl⟩
    walk_at "wi"
    refine ⟨hD6, by decide, fun t d7 t0 t1 hD7 => ?_⟩
    refine st_if hR fun told td => ?_
    obtain ⟨g1, g2, g3⟩ := hR
    have hR : GR R := ⟨g1, g2, g3⟩
    have row2 : Row (.lst (R.map D.int)) R := .inl rfl
    refine ⟨fun env' => env' = [.val (.scr ns), .own d7, .val (.int (0 + ↑i)), .val (.tup [.int a, .int b, .int (1 + m')]), .val (.int many), .val (.lst (R.map D.int)), s6, .val told, s8, s9, s10, s11, s12, .un, .un, .un], ?_, ?_⟩
    · rcases td with ⟨lo, hi, rfl, cr, nf⟩ | ⟨L, lo, hi, rfl, sr, ⟨m1, m2⟩, ⟨sa, sb⟩, nl⟩
      · walk_at "wi"
        refine ⟨false, tb_c T, T.isc_Crooked, false, T.i_Crooked_Stairs, ?_⟩
        rw [if_neg (by decide)]
        refine ⟨R, rfl, ⟨g1, by omega, g3⟩, .inr ⟨lo, hi, rfl, fun b1 hb1 => ?_⟩⟩
        rw [show b1 = true from hb1.mpr cr]
        walk_at "wi"
        rw [if_neg (by decide)]
        refine .inr ⟨lo, hi, R, rfl, row2, ⟨g1, by omega, g3⟩, fun b2 hb2 => ?_⟩
        rw [show b2 = true from hb2.mpr cr]
        walk_at "wi"
        rw [if_neg (by decide)]
        trivial
      · walk_at "wi"
        refine ⟨true, tb_s, T.isc_Stairs, true, T.i_Stairs_Stairs, ?_⟩
        rw [if_neg (by decide)]
        refine ⟨R, rfl, ⟨g1, by omega, g3⟩, .inl ⟨L, lo, hi, rfl, ⟨m1, by omega, bd_mono sa (by decide), bd_mono sb (by decide)⟩, fun b1 hb1 => ?_⟩⟩
        rw [show b1 = true from hb1.mpr sr]
        walk_at "wi"
        rw [if_neg (by decide)]
        have sm9 : Sm 9 L.2.2 := by
          have : (2 : Nat) ^ 9 = 512 := by decide
          unfold Sm
          omega
        refine .inl ⟨L, lo, hi, R, rfl, row2, ⟨g1, by omega, g3, m1, bd_mono sa (by decide), bd_mono sb (by decide), bd_mono sm9 (by decide)⟩, fun b2 hb2 => ?_⟩
        rw [show b2 = true from hb2.mpr ⟨m2, sr⟩]
        walk_at "wi"
        rw [if_neg (by decide)]
        trivial
    rintro env rfl
    walk_at "wi"
    refine ⟨fun env' => env' = [.val (.scr ns), .own d7, .val (.int (0 + ↑i)), .val (.tup [.int a, .int b, .int (1 + m')]), .val (.int many), .val (.lst (R.map D.int)), s6, .val told, s8, s9, s10, s11, s12, .un, .un, .un], ?_, ?_⟩
    · rcases td with ⟨lo, hi, rfl, cr, nf⟩ | ⟨L, lo, hi, rfl, sr, ⟨m1, m2⟩, ⟨sa, sb⟩, nl⟩
      · walk_at "wi"
        refine ⟨T.isc_Crooked, false, T.i_Crooked_Stairs, ?_⟩
        rw [if_neg (by decide)]
        trivial
      · walk_at "wi"
        refine ⟨T.isc_Stairs, true, T.i_Stairs_Stairs, ?_⟩
        rw [if_pos rfl]
        by_cases c9 : many < 9
        rotate_left
        · rw [if_neg (by rw [decide_eq_true_eq]; exact c9)]
          trivial
        rw [if_pos (decide_eq_true c9)]
        have mn : (if L.2.2 < 6 then L.2.2 else 6) ≤ 6 ∧ (if L.2.2 < 6 then L.2.2 else 6) ≤ L.2.2 := by split <;> omega
        refine ⟨⟨by decide, by decide, by split <;> omega, by split <;> omega⟩, n8, ?_⟩
        refine lcR_inv (fun j acc env => acc = (List.range j).map (fun _ : Nat => D.bl false) ∧ env = [.val (.scr ns), .own d7, .val (.int (0 + ↑i)), .val (.tup [.int a, .int b, .int (1 + m')]), .val (.int many), .val (.lst (R.map D.int)), s6, .val (oStairs ad (liD ad L) (prD lo) (prD hi)), .un, s9, s10, s11, s12, .un, .un, .un]) ⟨rfl, rfl⟩ ?_ ?_
        · rintro j x acc env N' hx ⟨rfl, rfl⟩ hN'
          obtain ⟨hj, rfl⟩ := rng_get hx
          walk_at "wi"
          refine ⟨R, rfl, ⟨g1, by omega, g3, by omega, by omega, fun a' => nl a' _ (by omega) (by omega)⟩, ?_, hN' _ _ ⟨?_, rfl⟩⟩
          · rw [List.length_range]
            exact Nat.lt_of_le_of_lt (show _ ≤ 200 by omega) (by decide)
          · rw [List.range_succ, List.map_append]; rfl
        · rintro acc env ⟨rfl, rfl⟩
          refine ⟨_, allBls_of (f := fun _ : Nat => false), ?_⟩
          rw [any_ff, if_neg (by decide)]
          rfl
    rintro env rfl
    walk_at "wi"
    refine ⟨fun env' => env' = [.val (.scr ns), .own d7, .val (.int (0 + ↑i)), .val (.tup [.int a, .int b, .int (1 + m')]), .val (.int many), .val (.lst (R.map D.int)), s6, .val told, s8, s9, s10, s11, s12, .un, .un, .un], ?_, ?_⟩
    · rcases td with ⟨lo, hi, rfl, cr, nf⟩ | ⟨L, lo, hi, rfl, sr, ⟨m1, m2⟩, ⟨sa, sb⟩, nl⟩
      · walk_at "wi"
        refine ⟨T.isc_Crooked, true, T.i_Crooked_Crooked, ?_⟩
        rw [if_pos rfl]
        by_cases c9 : many < 9
        rotate_left
        · rw [if_neg (by rw [decide_eq_true_eq]; exact c9)]
          trivial
        rw [if_pos (decide_eq_true c9)]
        refine ⟨⟨by decide, by decide, by decide, by decide⟩, n8, ?_⟩
        refine lcR_inv (fun j acc env => acc = (List.range j).map (fun _ : Nat => D.bl false) ∧ env = [.val (.scr ns), .own d7, .val (.int (0 + ↑i)), .val (.tup [.int a, .int b, .int (1 + m')]), .val (.int many), .val (.lst (R.map D.int)), s6, .val (oCrooked ad (prD lo) (prD hi)), .un, s9, s10, s11, s12, .un, .un, .un]) ⟨rfl, rfl⟩ ?_ ?_
        · rintro j x acc env N' hx ⟨rfl, rfl⟩ hN'
          obtain ⟨hj, rfl⟩ := rng_get hx
          walk_at "wi"
          refine ⟨R, rfl, ⟨g1, by omega, g3, by omega, by omega, fun a' => nf a' _ (by omega)⟩, ?_, hN' _ _ ⟨?_, rfl⟩⟩
          · rw [List.length_range]
            exact Nat.lt_of_le_of_lt (show _ ≤ 200 by omega) (by decide)
          · rw [List.range_succ, List.map_append]; rfl
        · rintro acc env ⟨rfl, rfl⟩
          refine ⟨_, allBls_of (f := fun _ : Nat => false), ?_⟩
          rw [any_ff, if_neg (by decide)]
          rfl
      · walk_at "wi"
        refine ⟨T.isc_Stairs, false, T.i_Stairs_Crooked, ?_⟩
        rw [if_neg (by decide)]
        trivial
    rintro env rfl
    walk_at "wi"
    refine ⟨hD7, by omega, fun p1 d8 p10 p11 hD8 => ⟨hD8, by omega, fun p2 d9 p20 p21 hD9 => ?_⟩⟩
    rcases td with ⟨lo, hi, rfl, cr, nf⟩ | ⟨L, lo, hi, rfl, sr, ⟨m1, m2⟩, ⟨sa, sb⟩, nl⟩
    · walk_at "wi"
      refine ⟨by decide, hD9, by decide, fun t d10 t0 t1 hD10 => ?_⟩
      refine ite_mid ?_ fun hC => ?_
      rotate_left
      · refine ⟨T.isc_Crooked, true, T.i_Crooked_Crooked, ?_⟩
        rw [if_pos rfl]
        exact hC
      refine ⟨fun env' => env' = [.val (.scr ns), .own d10, .val (.int (0 + ↑i)), .val (.tup [.int a, .int b, .int (1 + m')]), .val (.int many), .val (.lst (R.map D.int)), s6, .val (oCrooked ad (prD lo) (prD hi)), s8, .val (prD (p1, p2)), .val (prD hi), .val (oCrooked ad (prD (p1, p2)) (prD hi)), s12, .un, .un, .un], ?_, ?_⟩
      · walk_at "wi"
        refine .inr (use_showsC (lo := (p1, p2)) hR fun b1 hb1 => use_rightC (lo := (p1, p2)) hR fun b2 hb2 => ?_)
        walk_at "wi"
        rw [if_neg (ne_same (Bool.eq_iff_iff.mpr (hb1.trans hb2.symm)))]
        refine .inr (use_ceq T (lo := (p1, p2)) ?_)
        refine ⟨T.isc_Crooked, false, T.i_Crooked_Stairs, T.isc_Crooked, false, T.i_Crooked_Stairs, ?_⟩
        rw [if_pos (by decide)]
        refine ne_bl ?_ ?_
        · rw [Bool.eq_iff_iff, decide_eq_true_eq, decide_eq_true_eq]
          obtain ⟨l1, l2⟩ := lo
          simp
        walk_at "wi"
      rintro env rfl
      walk_at "wi"
      refine ⟨fun env' => env' = [.val (.scr ns), .own d10, .val (.int (0 + ↑i)), .val (.tup [.int a, .int b, .int (1 + m')]), .val (.int many), .val (.lst (R.map D.int)), s6, .val (oCrooked ad (prD lo) (prD hi)), s8, .val (prD (p1, p2)), .val (prD hi), .val (oCrooked ad (prD (p1, p2)) (prD hi)), s12, .un, .un, .un], ?_, ?_⟩
      · walk_at "wi"
        refine ⟨T.isc_Crooked, false, T.i_Crooked_Stairs, ?_⟩
        rw [if_neg (by decide)]
        trivial
      rintro env rfl
      exact hN _ ⟨_, _, _, _, _, _, _, _, _, _, _, _, ⟨hD10, n6, n8, fun _ => ⟨R, hR, rfl⟩⟩, rfl⟩
    · walk_at "wi"
      refine ⟨by decide, hD9, by decide, fun t d10 t0 t1 hD10 => ?_⟩
      have sm9 : Sm 9 L.2.2 := by
        have : (2 : Nat) ^ 9 = 512 := by decide
        unfold Sm
        omega
      refine ite_mid ?_ fun hC => ?_
      · refine ⟨fun env' => env' = [.val (.scr ns), .own d10, .val (.int (0 + ↑i)), .val (.tup [.int a, .int b, .int (1 + m')]), .val (.int many), .val (.lst (R.map D.int)), s6, .val (oStairs ad (liD ad L) (prD lo) (prD hi)), s8, .val (prD (p1, p2)), .val (prD hi), .val (oCrooked ad (prD (p1, p2)) (prD hi)), s12, .un, .un, .un], ?_, ?_⟩
        · walk_at "wi"
          refine .inr (use_showsC (lo := (p1, p2)) hR fun b1 hb1 => use_rightC (lo := (p1, p2)) hR fun b2 hb2 => ?_)
          walk_at "wi"
          rw [if_neg (ne_same (Bool.eq_iff_iff.mpr (hb1.trans hb2.symm)))]
          refine .inr (use_ceqS T (lo := (p1, p2)) ?_)
          refine ⟨T.isc_Crooked, false, T.i_Crooked_Stairs, T.isc_Stairs, true, T.i_Stairs_Stairs, ?_⟩
          rw [if_neg (by decide)]
          refine ne_bl rfl ?_
          walk_at "wi"
        rintro env rfl
        walk_at "wi"
        refine ⟨fun env' => ∃ d11 sm, Drw d11 ∧ env' = [.val (.scr ns), .own d11, .val (.int (0 + ↑i)), .val (.tup [.int a, .int b, .int (1 + m')]), .val (.int many), .val (.lst (R.map D.int)), s6, .val (oStairs ad (liD ad L) (prD lo) (prD hi)), s8, .val (prD (p1, p2)), .val (prD hi), .val (oCrooked ad (prD (p1, p2)) (prD hi)), sm, .un, .un, .un], ?_, ?_⟩
        · walk_at "wi"
          refine ⟨T.isc_Stairs, true, T.i_Stairs_Stairs, ?_⟩
          rw [if_pos rfl]
          refine ⟨.r (by omega) (by omega), .r (by omega) (by omega), hD10, by decide, fun r d11 r0 r1 hD11 => ⟨.r (by omega) (by omega), by omega, ?_⟩⟩
          have sa0 : Sm 85 L.1 := bd_mono sa (by decide)
          have sa2 : Sm 87 (L.1 * 2) := by
            have := sm_dbl sa0 (Int.le_refl 0) (by decide)
            rwa [Int.add_zero] at this
          have sc9 : Sm 85 L.2.2 := bd_mono sm9 (by decide)
          have sc2 : Sm 87 (L.2.2 * 2) := by
            have := sm_dbl sc9 (Int.le_refl 0) (by decide)
            rwa [Int.add_zero] at this
          refine use_showsS (L := (L.1 * 2, L.2.1 * 2 + r, L.2.2 * 2)) hR ⟨by show 1 ≤ L.2.2 * 2; omega, sa2, sm_dbl sb r0 r1, sc2⟩ fun b1 hb1 => ?_
          have e1 : b1 = false := by
            cases b1 with
            | false => rfl
            | true => exact absurd (hb1.mp rfl).2 (sr_dbl sr m1)
          rw [e1]
          walk_at "wi"
          have sb1 : Sm 87 (L.2.1 + 1) := bd_mono (bd_add sb (show Sm 1 1 by unfold Sm; decide)) (by decide)
          refine ⟨m1, use_showsS (L := (L.1, L.2.1 + 1, L.2.2)) hR ⟨m1, bd_mono sa (by decide), sb1, bd_mono sm9 (by decide)⟩ fun b2 hb2 => ?_⟩
          have e2 : b2 = false := by
            cases b2 with
            | false => rfl
            | true => exact absurd (hb2.mp rfl).2 (sr_up sr)
          rw [e2]
          walk_at "wi"
          refine use_showsS hR ⟨m1, bd_mono sa (by decide), bd_mono sb (by decide), bd_mono sm9 (by decide)⟩ fun b3 hb3 => use_rightS hR ⟨m1, by omega, bd_mono sa (by decide), bd_mono sb (by decide)⟩ fun b4 hb4 => ?_
          walk_at "wi"
          rw [if_neg (ne_same (Bool.eq_iff_iff.mpr ((hb3.trans ⟨fun z => z.2, fun z => ⟨m2, z⟩⟩).trans hb4.symm)))]
          exact ⟨d11, _, hD11, rfl⟩
        rintro env ⟨d11, sm, hD11, rfl⟩
        exact hN _ ⟨_, _, _, _, _, _, _, _, _, _, _, _, ⟨hD11, n6, n8, fun _ => ⟨R, hR, rfl⟩⟩, rfl⟩
      · refine ⟨T.isc_Stairs, false, T.i_Stairs_Crooked, ?_⟩
        rw [if_neg (by decide)]
        refine ⟨fun env' => env' = [.val (.scr ns), .own d10, .val (.int (0 + ↑i)), .val (.tup [.int a, .int b, .int (1 + m')]), .val (.int many), .val (.lst (R.map D.int)), s6, .val (oStairs ad (liD ad L) (prD lo) (prD hi)), s8, .val (prD (p1, p2)), .val (prD hi), .val (oStairs ad (liD ad L) (prD (p1, p2)) (prD hi)), s12, .un, .un, .un], ?_, ?_⟩
        · walk_at "wi"
          refine .inl (use_showsS (lo := (p1, p2)) hR ⟨m1, bd_mono sa (by decide), bd_mono sb (by decide), bd_mono sm9 (by decide)⟩ fun b1 hb1 => use_rightS (lo := (p1, p2)) hR ⟨m1, by omega, bd_mono sa (by decide), bd_mono sb (by decide)⟩ fun b2 hb2 => ?_)
          walk_at "wi"
          rw [if_neg (ne_same (Bool.eq_iff_iff.mpr ((hb1.trans ⟨fun z => z.2, fun z => ⟨m2, z⟩⟩).trans hb2.symm)))]
          refine .inl (use_seq T (lo := (p1, p2)) ?_)
          refine ⟨T.isc_Stairs, true, T.i_Stairs_Stairs, T.isc_Stairs, true, T.i_Stairs_Stairs, ?_⟩
          rw [if_pos (by decide)]
          refine ne_bl ?_ ?_
          · rw [Bool.eq_iff_iff, decide_eq_true_eq, decide_eq_true_eq]
            obtain ⟨l1, l2⟩ := lo
            simp
          walk_at "wi"
        rintro env rfl
        walk_at "wi"
        refine ⟨fun env' => ∃ d11 sm, Drw d11 ∧ env' = [.val (.scr ns), .own d11, .val (.int (0 + ↑i)), .val (.tup [.int a, .int b, .int (1 + m')]), .val (.int many), .val (.lst (R.map D.int)), s6, .val (oStairs ad (liD ad L) (prD lo) (prD hi)), s8, .val (prD (p1, p2)), .val (prD hi), .val (oStairs ad (liD ad L) (prD (p1, p2)) (prD hi)), sm, .un, .un, .un], ?_, ?_⟩
        · walk_at "wi"
          refine ⟨T.isc_Stairs, true, T.i_Stairs_Stairs, ?_⟩
          rw [if_pos rfl]
          refine ⟨.r (by omega) (by omega), .r (by omega) (by omega), hD10, by decide, fun r d11 r0 r1 hD11 => ⟨.r (by omega) (by omega), by omega, ?_⟩⟩
          have sa0 : Sm 85 L.1 := bd_mono sa (by decide)
          have sa2 : Sm 87 (L.1 * 2) := by
            have := sm_dbl sa0 (Int.le_refl 0) (by decide)
            rwa [Int.add_zero] at this
          have sc9 : Sm 85 L.2.2 := bd_mono sm9 (by decide)
          have sc2 : Sm 87 (L.2.2 * 2) := by
            have := sm_dbl sc9 (Int.le_refl 0) (by decide)
            rwa [Int.add_zero] at this
          refine use_showsS (L := (L.1 * 2, L.2.1 * 2 + r, L.2.2 * 2)) hR ⟨by show 1 ≤ L.2.2 * 2; omega, sa2, sm_dbl sb r0 r1, sc2⟩ fun b1 hb1 => ?_
          have e1 : b1 = false := by
            cases b1 with
            | false => rfl
            | true => exact absurd (hb1.mp rfl).2 (sr_dbl sr m1)
          rw [e1]
          walk_at "wi"
          have sb1 : Sm 87 (L.2.1 + 1) := bd_mono (bd_add sb (show Sm 1 1 by unfold Sm; decide)) (by decide)
          refine ⟨m1, use_showsS (L := (L.1, L.2.1 + 1, L.2.2)) hR ⟨m1, bd_mono sa (by decide), sb1, bd_mono sm9 (by decide)⟩ fun b2 hb2 => ?_⟩
          have e2 : b2 = false := by
            cases b2 with
            | false => rfl
            | true => exact absurd (hb2.mp rfl).2 (sr_up sr)
          rw [e2]
          walk_at "wi"
          refine use_showsS hR ⟨m1, bd_mono sa (by decide), bd_mono sb (by decide), bd_mono sm9 (by decide)⟩ fun b3 hb3 => use_rightS hR ⟨m1, by omega, bd_mono sa (by decide), bd_mono sb (by decide)⟩ fun b4 hb4 => ?_
          walk_at "wi"
          rw [if_neg (ne_same (Bool.eq_iff_iff.mpr ((hb3.trans ⟨fun z => z.2, fun z => ⟨m2, z⟩⟩).trans hb4.symm)))]
          exact ⟨d11, _, hD11, rfl⟩
        rintro env ⟨d11, sm, hD11, rfl⟩
        exact hN _ ⟨_, _, _, _, _, _, _, _, _, _, _, _, ⟨hD11, n6, n8, fun _ => ⟨R, hR, rfl⟩⟩, rfl⟩
  · rintro env ⟨dd, s2, s3, s4, s5, s6, s7, s8, s9, s10, s11, s12, ⟨hD, n6, n8, h5⟩, rfl⟩
    obtain ⟨R, hR, rfl⟩ := h5 (by decide)
    walk_at "wi"
    obtain ⟨g1, g2, g3⟩ := hR
    refine ⟨hD, by omega, fun r d1 r0 r1 hD1 => ⟨by decide, by decide, hD1, by decide, fun bad d2 hb hD2 => ⟨by decide, ?_⟩⟩⟩
    obtain ⟨b1, b2, b3⟩ := badV_of hb
    intro E1 hE1 hE2
    refine any_hide rfl ?_
    walk_at "wi"
    obtain ⟨j, rfl⟩ := Int.eq_ofNat_of_zero_le r0
    have hj : j < R.length := by omega
    have ej : ((j : Int) + 1) = ((j + 1 : Nat) : Int) := by omega
    rw [QL.cut_take (by omega)]
    refine ⟨by decide, by rw [List.length_map, List.length_take]; exact Nat.le_trans (show _ ≤ 100 by omega) (by decide), ?_⟩
    refine any_hide rfl ?_
    walk_at "wi"
    rw [ej, QL.cut_drop (by omega)]
    have el : ((R.take j).map D.int ++ [bad]) ++ (R.drop (j + 1)).map D.int = (R.take j).map D.int ++ bad :: (R.drop (j + 1)).map D.int := by rw [List.append_assoc]; rfl
    rw [el]
    have fb := fstB_bad b1 ((R.drop (j + 1)).map D.int) (R.take j)
    refine ⟨?_, _, rfl, ⟨?_, ?_⟩, fun z hz => ?_, fun nb => ?_⟩
    · simp only [List.length_append, List.length_map, List.length_take, List.length_drop, List.length_cons, List.length_nil]
      exact Nat.le_trans (show _ ≤ 200 by omega) (by decide)
    · rw [List.all_append, List.all_cons, ty_ints, ty_ints, b2]
      rfl
    · simp only [List.length_append, List.length_map, List.length_take, List.length_drop, List.length_cons]
      omega
    rotate_left
    · rw [fb] at nb
      cases nb
    rw [fb] at hz
    cases hz
    refine hE1 _ ⟨by decide, b3 _ ?_⟩
    walk_at "wi"
    refine ⟨by decide, hD2, by decide, fun w d3 hw hD3 => ?_⟩
    obtain ⟨n, rfl, n0, n1⟩ : ∃ n : Int, w = .int n ∧ 0 ≤ n ∧ n ≤ 240 := by
      simp only [List.mem_cons, List.not_mem_nil, or_false] at hw
      rcases hw with rfl | rfl | rfl | rfl | rfl
      · exact ⟨_, rfl, by decide, by decide⟩
      · exact ⟨_, rfl, by decide, by decide⟩
      · exact ⟨_, rfl, by decide, by decide⟩
      · exact ⟨_, rfl, by decide, by decide⟩
      · exact ⟨_, rfl, by decide, by decide⟩
    walk_at "wi"
    refine ⟨⟨by omega, by omega⟩, n6, ?_⟩
    refine lcR_inv (fun i acc env => acc = (List.range i).map (fun q : Nat => D.int ((q : Int) / 3)) ∧ env = [.val (.scr ns), .own d3, s2, s3, s4, .val (.lst (R.map D.int)), .un, s7, s8, s9, s10, s11, s12, .val (.int (j : Nat)), .val bad, .un]) ⟨rfl, rfl⟩ ?_ ?_
    · rintro i x acc env N hx ⟨rfl, rfl⟩ hN
      obtain ⟨hi', rfl⟩ := rng_get hx
      walk_at "wi"
      rw [Int.zero_add]
      refine ⟨DOk.small (by decide) (by decide), ?_, hN _ _ ⟨?_, rfl⟩⟩
      · rw [List.length_range]
        exact Nat.lt_of_le_of_lt (show _ ≤ 300 by omega) (by decide)
      · rw [List.range_succ, List.map_append]; rfl
    rintro acc env ⟨rfl, rfl⟩
    rw [rng_len]
    obtain ⟨M, hM, hlM, hsM⟩ : ∃ M : List Int, (List.range n.toNat).map (fun q : Nat => D.int ((q : Int) / 3)) = M.map D.int ∧ (M.length : Int) = n ∧ ∀ v ∈ M, Sm 50 v := by
      refine ⟨(List.range n.toNat).map fun q : Nat => (q : Int) / 3, by rw [List.map_map]; rfl, by rw [List.length_map, List.length_range]; omega, fun v hv => ?_⟩
      obtain ⟨q, hq, rfl⟩ := List.mem_map.mp hv
      have hq := List.mem_range.mp hq
      exact Nat.lt_of_le_of_lt (show _ ≤ 300 by omega) (by decide)
    rw [hM]
    walk_at "wi"
    intro E3 _ hE3
    refine ⟨_, rfl, ⟨ty_ints M, by rw [List.length_map]; omega⟩, (fun z hz => by rw [fstB_ints] at hz; cases hz), fun _ => ⟨fun hg => ?_, fun hg => ?_⟩⟩
    · rw [List.length_map] at hg
      refine ⟨M, rfl, hsM, fun t _ => ?_⟩
      show (if decide ((2 : Int) ≤ (M.length : Int)) = true then (if decide ((M.length : Int) ≤ 200) = true then _ else _) else _)
      rw [if_pos (decide_eq_true (show (2 : Int) ≤ (M.length : Int) by omega)), if_pos (decide_eq_true (show (M.length : Int) ≤ 200 by omega))]
      rfl
    · rw [List.length_map] at hg ⊢
      refine hE3 _ ?_
      show (if decide ((2 : Int) ≤ (M.length : Int)) = true then (if decide ((M.length : Int) ≤ 200) = true then _ else _) else _)
      by_cases c1 : 2 ≤ M.length
      · rw [if_pos (decide_eq_true (show (2 : Int) ≤ (M.length : Int) by omega)), if_neg (by rw [decide_eq_true_eq]; omega)]
        exact ⟨by decide, eq_large rfl⟩
      · rw [if_neg (by rw [decide_eq_true_eq]; omega)]
        exact ⟨by decide, eq_large rfl⟩
theorem all_mk {l : PySem.W.OpenLaw} {w : World} {K : PySem.W.Frag} {h : Heap} {mg : Str → Option Value} {fa : Addr} (X : K.In h) (G : h.Ns mainGlobals mg) (hfa : mg "law" = some (.ref fa))
    {od_BadNumber___init__ an_BadNumber___init__ : Option Addr} {sl_BadNumber___init__ : Array (Option Value)} {oc_BadNumber___init__ kV_BadNumber___init__ dc_BadNumber___init__ pm_BadNumber___init__ cd_BadNumber___init__ ct_BadNumber___init__ : Value} {f_BadNumber___init__ : Addr}
    {od_TooLarge___init__ an_TooLarge___init__ : Option Addr} {sl_TooLarge___init__ : Array (Option Value)} {oc_TooLarge___init__ kV_TooLarge___init__ dc_TooLarge___init__ pm_TooLarge___init__ cd_TooLarge___init__ ct_TooLarge___init__ : Value} {f_TooLarge___init__ : Addr}
    {od_is_number an_is_number : Option Addr} {sl_is_number : Array (Option Value)} {oc_is_number kV_is_number dc_is_number pm_is_number cd_is_number ct_is_number : Value} {f_is_number : Addr}
    {od_Line___init__ an_Line___init__ : Option Addr} {sl_Line___init__ : Array (Option Value)} {oc_Line___init__ kV_Line___init__ dc_Line___init__ pm_Line___init__ cd_Line___init__ ct_Line___init__ : Value} {f_Line___init__ : Addr}
    {od_Line___eq__ an_Line___eq__ : Option Addr} {sl_Line___eq__ : Array (Option Value)} {oc_Line___eq__ kV_Line___eq__ dc_Line___eq__ pm_Line___eq__ cd_Line___eq__ ct_Line___eq__ : Value} {f_Line___eq__ : Addr}
    {od_Line_told an_Line_told : Option Addr} {sl_Line_told : Array (Option Value)} {oc_Line_told kV_Line_told dc_Line_told pm_Line_told cd_Line_told ct_Line_told : Value} {f_Line_told : Addr}
    {od_Line_at an_Line_at : Option Addr} {sl_Line_at : Array (Option Value)} {oc_Line_at kV_Line_at dc_Line_at pm_Line_at cd_Line_at ct_Line_at : Value} {f_Line_at : Addr}
    {od_checked_row an_checked_row : Option Addr} {sl_checked_row : Array (Option Value)} {oc_checked_row kV_checked_row dc_checked_row pm_checked_row cd_checked_row ct_checked_row : Value} {f_checked_row : Addr}
    {od_is_pair an_is_pair : Option Addr} {sl_is_pair : Array (Option Value)} {oc_is_pair kV_is_pair dc_is_pair pm_is_pair cd_is_pair ct_is_pair : Value} {f_is_pair : Addr}
    {od_slope_above an_slope_above : Option Addr} {sl_slope_above : Array (Option Value)} {oc_slope_above kV_slope_above dc_slope_above pm_slope_above cd_slope_above ct_slope_above : Value} {f_slope_above : Addr}
    {od_slope_below an_slope_below : Option Addr} {sl_slope_below : Array (Option Value)} {oc_slope_below kV_slope_below dc_slope_below pm_slope_below cd_slope_below ct_slope_below : Value} {f_slope_below : Addr}
    {od_tightest an_tightest : Option Addr} {sl_tightest : Array (Option Value)} {oc_tightest kV_tightest dc_tightest pm_tightest cd_tightest ct_tightest : Value} {f_tightest : Addr}
    {od_least_between an_least_between : Option Addr} {sl_least_between : Array (Option Value)} {oc_least_between kV_least_between dc_least_between pm_least_between cd_least_between ct_least_between : Value} {f_least_between : Addr}
    {od_Stairs___init__ an_Stairs___init__ : Option Addr} {sl_Stairs___init__ : Array (Option Value)} {oc_Stairs___init__ kV_Stairs___init__ dc_Stairs___init__ pm_Stairs___init__ cd_Stairs___init__ ct_Stairs___init__ : Value} {f_Stairs___init__ : Addr}
    {od_Stairs___bool__ an_Stairs___bool__ : Option Addr} {sl_Stairs___bool__ : Array (Option Value)} {oc_Stairs___bool__ kV_Stairs___bool__ dc_Stairs___bool__ pm_Stairs___bool__ cd_Stairs___bool__ ct_Stairs___bool__ : Value} {f_Stairs___bool__ : Addr}
    {od_Stairs___eq__ an_Stairs___eq__ : Option Addr} {sl_Stairs___eq__ : Array (Option Value)} {oc_Stairs___eq__ kV_Stairs___eq__ dc_Stairs___eq__ pm_Stairs___eq__ cd_Stairs___eq__ ct_Stairs___eq__ : Value} {f_Stairs___eq__ : Addr}
    {od_Stairs_shows an_Stairs_shows : Option Addr} {sl_Stairs_shows : Array (Option Value)} {oc_Stairs_shows kV_Stairs_shows dc_Stairs_shows pm_Stairs_shows cd_Stairs_shows ct_Stairs_shows : Value} {f_Stairs_shows : Addr}
    {od_Crooked___init__ an_Crooked___init__ : Option Addr} {sl_Crooked___init__ : Array (Option Value)} {oc_Crooked___init__ kV_Crooked___init__ dc_Crooked___init__ pm_Crooked___init__ cd_Crooked___init__ ct_Crooked___init__ : Value} {f_Crooked___init__ : Addr}
    {od_Crooked___bool__ an_Crooked___bool__ : Option Addr} {sl_Crooked___bool__ : Array (Option Value)} {oc_Crooked___bool__ kV_Crooked___bool__ dc_Crooked___bool__ pm_Crooked___bool__ cd_Crooked___bool__ ct_Crooked___bool__ : Value} {f_Crooked___bool__ : Addr}
    {od_Crooked___eq__ an_Crooked___eq__ : Option Addr} {sl_Crooked___eq__ : Array (Option Value)} {oc_Crooked___eq__ kV_Crooked___eq__ dc_Crooked___eq__ pm_Crooked___eq__ cd_Crooked___eq__ ct_Crooked___eq__ : Value} {f_Crooked___eq__ : Addr}
    {od_Crooked_shows an_Crooked_shows : Option Addr} {sl_Crooked_shows : Array (Option Value)} {oc_Crooked_shows kV_Crooked_shows dc_Crooked_shows pm_Crooked_shows cd_Crooked_shows ct_Crooked_shows : Value} {f_Crooked_shows : Addr}
    {od_least_offset an_least_offset : Option Addr} {sl_least_offset : Array (Option Value)} {oc_least_offset kV_least_offset dc_least_offset pm_least_offset cd_least_offset ct_least_offset : Value} {f_least_offset : Addr}
    {od_stairs an_stairs : Option Addr} {sl_stairs : Array (Option Value)} {oc_stairs kV_stairs dc_stairs pm_stairs cd_stairs ct_stairs : Value} {f_stairs : Addr}
    {od__law_number an__law_number : Option Addr} {sl__law_number : Array (Option Value)} {oc__law_number kV__law_number dc__law_number pm__law_number cd__law_number ct__law_number : Value} {f__law_number : Addr}
    {od__law_take an__law_take : Option Addr} {sl__law_take : Array (Option Value)} {oc__law_take kV__law_take dc__law_take pm__law_take cd__law_take ct__law_take : Value} {f__law_take : Addr}
    {od__law_pick an__law_pick : Option Addr} {sl__law_pick : Array (Option Value)} {oc__law_pick kV__law_pick dc__law_pick pm__law_pick cd__law_pick ct__law_pick : Value} {f__law_pick : Addr}
    {od__law_long an__law_long : Option Addr} {sl__law_long : Array (Option Value)} {oc__law_long kV__law_long dc__law_long pm__law_long cd__law_long ct__law_long : Value} {f__law_long : Addr}
    {od__law_is_number an__law_is_number : Option Addr} {sl__law_is_number : Array (Option Value)} {oc__law_is_number kV__law_is_number dc__law_is_number pm__law_is_number cd__law_is_number ct__law_is_number : Value} {f__law_is_number : Addr}
    {od__law_at an__law_at : Option Addr} {sl__law_at : Array (Option Value)} {oc__law_at kV__law_at dc__law_at pm__law_at cd__law_at ct__law_at : Value} {f__law_at : Addr}
    {od__law_bounds_of an__law_bounds_of : Option Addr} {sl__law_bounds_of : Array (Option Value)} {oc__law_bounds_of kV__law_bounds_of dc__law_bounds_of pm__law_bounds_of cd__law_bounds_of ct__law_bounds_of : Value} {f__law_bounds_of : Addr}
    {od__law_is_pair an__law_is_pair : Option Addr} {sl__law_is_pair : Array (Option Value)} {oc__law_is_pair kV__law_is_pair dc__law_is_pair pm__law_is_pair cd__law_is_pair ct__law_is_pair : Value} {f__law_is_pair : Addr}
    {od__law_between an__law_between : Option Addr} {sl__law_between : Array (Option Value)} {oc__law_between kV__law_between dc__law_between pm__law_between cd__law_between ct__law_between : Value} {f__law_between : Addr}
    {od__law_is_right an__law_is_right : Option Addr} {sl__law_is_right : Array (Option Value)} {oc__law_is_right kV__law_is_right dc__law_is_right pm__law_is_right cd__law_is_right ct__law_is_right : Value} {f__law_is_right : Addr}
    {od__law_has_line an__law_has_line : Option Addr} {sl__law_has_line : Array (Option Value)} {oc__law_has_line kV__law_has_line dc__law_has_line pm__law_has_line cd__law_has_line ct__law_has_line : Value} {f__law_has_line : Addr}
    {od__law_fault an__law_fault : Option Addr} {sl__law_fault : Array (Option Value)} {oc__law_fault kV__law_fault dc__law_fault pm__law_fault cd__law_fault ct__law_fault : Value} {f__law_fault : Addr}
    {od_law an_law : Option Addr} {sl_law : Array (Option Value)} {oc_law kV_law dc_law pm_law ct_law : Value} {f_law : Addr}
    {cl_law Pt_law : Addr} {ec_law : Value} {ed_law : Option Addr} {vs_law : Array Value} {es_law : Array (Option Value)}
    (l_BadNumber___init__ : K.lookup f_BadNumber___init__ = some ⟨oc_BadNumber___init__, od_BadNumber___init__, .func (PySem.W.fnOf "__init__" "BadNumber.__init__" (defArgs s_BadNumber___init__) (defBody s_BadNumber___init__) (defScope s_BadNumber___init__) .none kV_BadNumber___init__ dc_BadNumber___init__ pm_BadNumber___init__ an_BadNumber___init__ cd_BadNumber___init__ ct_BadNumber___init__), sl_BadNumber___init__⟩)
    (c_BadNumber___init__ : PySem.W.codeIn K cd_BadNumber___init__ "BadNumber.__init__" = true) (k_BadNumber___init__ : PySem.W.keepIn K (.ref f_BadNumber___init__) = true)
    (l_TooLarge___init__ : K.lookup f_TooLarge___init__ = some ⟨oc_TooLarge___init__, od_TooLarge___init__, .func (PySem.W.fnOf "__init__" "TooLarge.__init__" (defArgs s_TooLarge___init__) (defBody s_TooLarge___init__) (defScope s_TooLarge___init__) .none kV_TooLarge___init__ dc_TooLarge___init__ pm_TooLarge___init__ an_TooLarge___init__ cd_TooLarge___init__ ct_TooLarge___init__), sl_TooLarge___init__⟩)
    (c_TooLarge___init__ : PySem.W.codeIn K cd_TooLarge___init__ "TooLarge.__init__" = true) (k_TooLarge___init__ : PySem.W.keepIn K (.ref f_TooLarge___init__) = true)
    (a_is_number : PySem.W.nsIn K mainGlobals "is_number" = some (some (.ref f_is_number)))
    (l_is_number : K.lookup f_is_number = some ⟨oc_is_number, od_is_number, .func (PySem.W.fnOf "is_number" "is_number" (defArgs s_is_number) (defBody s_is_number) (defScope s_is_number) .none kV_is_number dc_is_number pm_is_number an_is_number cd_is_number ct_is_number), sl_is_number⟩)
    (c_is_number : PySem.W.codeIn K cd_is_number "is_number" = true) (k_is_number : PySem.W.keepIn K (.ref f_is_number) = true)
    (l_Line___init__ : K.lookup f_Line___init__ = some ⟨oc_Line___init__, od_Line___init__, .func (PySem.W.fnOf "__init__" "Line.__init__" (defArgs s_Line___init__) (defBody s_Line___init__) (defScope s_Line___init__) .none kV_Line___init__ dc_Line___init__ pm_Line___init__ an_Line___init__ cd_Line___init__ ct_Line___init__), sl_Line___init__⟩)
    (c_Line___init__ : PySem.W.codeIn K cd_Line___init__ "Line.__init__" = true) (k_Line___init__ : PySem.W.keepIn K (.ref f_Line___init__) = true)
    (l_Line___eq__ : K.lookup f_Line___eq__ = some ⟨oc_Line___eq__, od_Line___eq__, .func (PySem.W.fnOf "__eq__" "Line.__eq__" (defArgs s_Line___eq__) (defBody s_Line___eq__) (defScope s_Line___eq__) .none kV_Line___eq__ dc_Line___eq__ pm_Line___eq__ an_Line___eq__ cd_Line___eq__ ct_Line___eq__), sl_Line___eq__⟩)
    (c_Line___eq__ : PySem.W.codeIn K cd_Line___eq__ "Line.__eq__" = true) (k_Line___eq__ : PySem.W.keepIn K (.ref f_Line___eq__) = true)
    (l_Line_told : K.lookup f_Line_told = some ⟨oc_Line_told, od_Line_told, .func (PySem.W.fnOf "told" "Line.told" (defArgs s_Line_told) (defBody s_Line_told) (defScope s_Line_told) .none kV_Line_told dc_Line_told pm_Line_told an_Line_told cd_Line_told ct_Line_told), sl_Line_told⟩)
    (c_Line_told : PySem.W.codeIn K cd_Line_told "Line.told" = true) (k_Line_told : PySem.W.keepIn K (.ref f_Line_told) = true)
    (l_Line_at : K.lookup f_Line_at = some ⟨oc_Line_at, od_Line_at, .func (PySem.W.fnOf "at" "Line.at" (defArgs s_Line_at) (defBody s_Line_at) (defScope s_Line_at) .none kV_Line_at dc_Line_at pm_Line_at an_Line_at cd_Line_at ct_Line_at), sl_Line_at⟩)
    (c_Line_at : PySem.W.codeIn K cd_Line_at "Line.at" = true) (k_Line_at : PySem.W.keepIn K (.ref f_Line_at) = true)
    (a_checked_row : PySem.W.nsIn K mainGlobals "checked_row" = some (some (.ref f_checked_row)))
    (l_checked_row : K.lookup f_checked_row = some ⟨oc_checked_row, od_checked_row, .func (PySem.W.fnOf "checked_row" "checked_row" (defArgs s_checked_row) (defBody s_checked_row) (defScope s_checked_row) .none kV_checked_row dc_checked_row pm_checked_row an_checked_row cd_checked_row ct_checked_row), sl_checked_row⟩)
    (c_checked_row : PySem.W.codeIn K cd_checked_row "checked_row" = true) (k_checked_row : PySem.W.keepIn K (.ref f_checked_row) = true)
    (a_is_pair : PySem.W.nsIn K mainGlobals "is_pair" = some (some (.ref f_is_pair)))
    (l_is_pair : K.lookup f_is_pair = some ⟨oc_is_pair, od_is_pair, .func (PySem.W.fnOf "is_pair" "is_pair" (defArgs s_is_pair) (defBody s_is_pair) (defScope s_is_pair) .none kV_is_pair dc_is_pair pm_is_pair an_is_pair cd_is_pair ct_is_pair), sl_is_pair⟩)
    (c_is_pair : PySem.W.codeIn K cd_is_pair "is_pair" = true) (k_is_pair : PySem.W.keepIn K (.ref f_is_pair) = true)
    (a_slope_above : PySem.W.nsIn K mainGlobals "slope_above" = some (some (.ref f_slope_above)))
    (l_slope_above : K.lookup f_slope_above = some ⟨oc_slope_above, od_slope_above, .func (PySem.W.fnOf "slope_above" "slope_above" (defArgs s_slope_above) (defBody s_slope_above) (defScope s_slope_above) .none kV_slope_above dc_slope_above pm_slope_above an_slope_above cd_slope_above ct_slope_above), sl_slope_above⟩)
    (c_slope_above : PySem.W.codeIn K cd_slope_above "slope_above" = true) (k_slope_above : PySem.W.keepIn K (.ref f_slope_above) = true)
    (a_slope_below : PySem.W.nsIn K mainGlobals "slope_below" = some (some (.ref f_slope_below)))
    (l_slope_below : K.lookup f_slope_below = some ⟨oc_slope_below, od_slope_below, .func (PySem.W.fnOf "slope_below" "slope_below" (defArgs s_slope_below) (defBody s_slope_below) (defScope s_slope_below) .none kV_slope_below dc_slope_below pm_slope_below an_slope_below cd_slope_below ct_slope_below), sl_slope_below⟩)
    (c_slope_below : PySem.W.codeIn K cd_slope_below "slope_below" = true) (k_slope_below : PySem.W.keepIn K (.ref f_slope_below) = true)
    (a_tightest : PySem.W.nsIn K mainGlobals "tightest" = some (some (.ref f_tightest)))
    (l_tightest : K.lookup f_tightest = some ⟨oc_tightest, od_tightest, .func (PySem.W.fnOf "tightest" "tightest" (defArgs s_tightest) (defBody s_tightest) (defScope s_tightest) .none kV_tightest dc_tightest pm_tightest an_tightest cd_tightest ct_tightest), sl_tightest⟩)
    (c_tightest : PySem.W.codeIn K cd_tightest "tightest" = true) (k_tightest : PySem.W.keepIn K (.ref f_tightest) = true)
    (a_least_between : PySem.W.nsIn K mainGlobals "least_between" = some (some (.ref f_least_between)))
    (l_least_between : K.lookup f_least_between = some ⟨oc_least_between, od_least_between, .func (PySem.W.fnOf "least_between" "least_between" (defArgs s_least_between) (defBody s_least_between) (defScope s_least_between) .none kV_least_between dc_least_between pm_least_between an_least_between cd_least_between ct_least_between), sl_least_between⟩)
    (c_least_between : PySem.W.codeIn K cd_least_between "least_between" = true) (k_least_between : PySem.W.keepIn K (.ref f_least_between) = true)
    (l_Stairs___init__ : K.lookup f_Stairs___init__ = some ⟨oc_Stairs___init__, od_Stairs___init__, .func (PySem.W.fnOf "__init__" "Stairs.__init__" (defArgs s_Stairs___init__) (defBody s_Stairs___init__) (defScope s_Stairs___init__) .none kV_Stairs___init__ dc_Stairs___init__ pm_Stairs___init__ an_Stairs___init__ cd_Stairs___init__ ct_Stairs___init__), sl_Stairs___init__⟩)
    (c_Stairs___init__ : PySem.W.codeIn K cd_Stairs___init__ "Stairs.__init__" = true) (k_Stairs___init__ : PySem.W.keepIn K (.ref f_Stairs___init__) = true)
    (l_Stairs___bool__ : K.lookup f_Stairs___bool__ = some ⟨oc_Stairs___bool__, od_Stairs___bool__, .func (PySem.W.fnOf "__bool__" "Stairs.__bool__" (defArgs s_Stairs___bool__) (defBody s_Stairs___bool__) (defScope s_Stairs___bool__) .none kV_Stairs___bool__ dc_Stairs___bool__ pm_Stairs___bool__ an_Stairs___bool__ cd_Stairs___bool__ ct_Stairs___bool__), sl_Stairs___bool__⟩)
    (c_Stairs___bool__ : PySem.W.codeIn K cd_Stairs___bool__ "Stairs.__bool__" = true) (k_Stairs___bool__ : PySem.W.keepIn K (.ref f_Stairs___bool__) = true)
    (l_Stairs___eq__ : K.lookup f_Stairs___eq__ = some ⟨oc_Stairs___eq__, od_Stairs___eq__, .func (PySem.W.fnOf "__eq__" "Stairs.__eq__" (defArgs s_Stairs___eq__) (defBody s_Stairs___eq__) (defScope s_Stairs___eq__) .none kV_Stairs___eq__ dc_Stairs___eq__ pm_Stairs___eq__ an_Stairs___eq__ cd_Stairs___eq__ ct_Stairs___eq__), sl_Stairs___eq__⟩)
    (c_Stairs___eq__ : PySem.W.codeIn K cd_Stairs___eq__ "Stairs.__eq__" = true) (k_Stairs___eq__ : PySem.W.keepIn K (.ref f_Stairs___eq__) = true)
    (l_Stairs_shows : K.lookup f_Stairs_shows = some ⟨oc_Stairs_shows, od_Stairs_shows, .func (PySem.W.fnOf "shows" "Stairs.shows" (defArgs s_Stairs_shows) (defBody s_Stairs_shows) (defScope s_Stairs_shows) .none kV_Stairs_shows dc_Stairs_shows pm_Stairs_shows an_Stairs_shows cd_Stairs_shows ct_Stairs_shows), sl_Stairs_shows⟩)
    (c_Stairs_shows : PySem.W.codeIn K cd_Stairs_shows "Stairs.shows" = true) (k_Stairs_shows : PySem.W.keepIn K (.ref f_Stairs_shows) = true)
    (l_Crooked___init__ : K.lookup f_Crooked___init__ = some ⟨oc_Crooked___init__, od_Crooked___init__, .func (PySem.W.fnOf "__init__" "Crooked.__init__" (defArgs s_Crooked___init__) (defBody s_Crooked___init__) (defScope s_Crooked___init__) .none kV_Crooked___init__ dc_Crooked___init__ pm_Crooked___init__ an_Crooked___init__ cd_Crooked___init__ ct_Crooked___init__), sl_Crooked___init__⟩)
    (c_Crooked___init__ : PySem.W.codeIn K cd_Crooked___init__ "Crooked.__init__" = true) (k_Crooked___init__ : PySem.W.keepIn K (.ref f_Crooked___init__) = true)
    (l_Crooked___bool__ : K.lookup f_Crooked___bool__ = some ⟨oc_Crooked___bool__, od_Crooked___bool__, .func (PySem.W.fnOf "__bool__" "Crooked.__bool__" (defArgs s_Crooked___bool__) (defBody s_Crooked___bool__) (defScope s_Crooked___bool__) .none kV_Crooked___bool__ dc_Crooked___bool__ pm_Crooked___bool__ an_Crooked___bool__ cd_Crooked___bool__ ct_Crooked___bool__), sl_Crooked___bool__⟩)
    (c_Crooked___bool__ : PySem.W.codeIn K cd_Crooked___bool__ "Crooked.__bool__" = true) (k_Crooked___bool__ : PySem.W.keepIn K (.ref f_Crooked___bool__) = true)
    (l_Crooked___eq__ : K.lookup f_Crooked___eq__ = some ⟨oc_Crooked___eq__, od_Crooked___eq__, .func (PySem.W.fnOf "__eq__" "Crooked.__eq__" (defArgs s_Crooked___eq__) (defBody s_Crooked___eq__) (defScope s_Crooked___eq__) .none kV_Crooked___eq__ dc_Crooked___eq__ pm_Crooked___eq__ an_Crooked___eq__ cd_Crooked___eq__ ct_Crooked___eq__), sl_Crooked___eq__⟩)
    (c_Crooked___eq__ : PySem.W.codeIn K cd_Crooked___eq__ "Crooked.__eq__" = true) (k_Crooked___eq__ : PySem.W.keepIn K (.ref f_Crooked___eq__) = true)
    (l_Crooked_shows : K.lookup f_Crooked_shows = some ⟨oc_Crooked_shows, od_Crooked_shows, .func (PySem.W.fnOf "shows" "Crooked.shows" (defArgs s_Crooked_shows) (defBody s_Crooked_shows) (defScope s_Crooked_shows) .none kV_Crooked_shows dc_Crooked_shows pm_Crooked_shows an_Crooked_shows cd_Crooked_shows ct_Crooked_shows), sl_Crooked_shows⟩)
    (c_Crooked_shows : PySem.W.codeIn K cd_Crooked_shows "Crooked.shows" = true) (k_Crooked_shows : PySem.W.keepIn K (.ref f_Crooked_shows) = true)
    (a_least_offset : PySem.W.nsIn K mainGlobals "least_offset" = some (some (.ref f_least_offset)))
    (l_least_offset : K.lookup f_least_offset = some ⟨oc_least_offset, od_least_offset, .func (PySem.W.fnOf "least_offset" "least_offset" (defArgs s_least_offset) (defBody s_least_offset) (defScope s_least_offset) .none kV_least_offset dc_least_offset pm_least_offset an_least_offset cd_least_offset ct_least_offset), sl_least_offset⟩)
    (c_least_offset : PySem.W.codeIn K cd_least_offset "least_offset" = true) (k_least_offset : PySem.W.keepIn K (.ref f_least_offset) = true)
    (a_stairs : PySem.W.nsIn K mainGlobals "stairs" = some (some (.ref f_stairs)))
    (l_stairs : K.lookup f_stairs = some ⟨oc_stairs, od_stairs, .func (PySem.W.fnOf "stairs" "stairs" (defArgs s_stairs) (defBody s_stairs) (defScope s_stairs) .none kV_stairs dc_stairs pm_stairs an_stairs cd_stairs ct_stairs), sl_stairs⟩)
    (c_stairs : PySem.W.codeIn K cd_stairs "stairs" = true) (k_stairs : PySem.W.keepIn K (.ref f_stairs) = true)
    (a__law_number : PySem.W.nsIn K mainGlobals "_law_number" = some (some (.ref f__law_number)))
    (l__law_number : K.lookup f__law_number = some ⟨oc__law_number, od__law_number, .func (PySem.W.fnOf "_law_number" "_law_number" (defArgs s__law_number) (defBody s__law_number) (defScope s__law_number) .none kV__law_number dc__law_number pm__law_number an__law_number cd__law_number ct__law_number), sl__law_number⟩)
    (c__law_number : PySem.W.codeIn K cd__law_number "_law_number" = true) (k__law_number : PySem.W.keepIn K (.ref f__law_number) = true)
    (a__law_take : PySem.W.nsIn K mainGlobals "_law_take" = some (some (.ref f__law_take)))
    (l__law_take : K.lookup f__law_take = some ⟨oc__law_take, od__law_take, .func (PySem.W.fnOf "_law_take" "_law_take" (defArgs s__law_take) (defBody s__law_take) (defScope s__law_take) .none kV__law_take dc__law_take pm__law_take an__law_take cd__law_take ct__law_take), sl__law_take⟩)
    (c__law_take : PySem.W.codeIn K cd__law_take "_law_take" = true) (k__law_take : PySem.W.keepIn K (.ref f__law_take) = true)
    (a__law_pick : PySem.W.nsIn K mainGlobals "_law_pick" = some (some (.ref f__law_pick)))
    (l__law_pick : K.lookup f__law_pick = some ⟨oc__law_pick, od__law_pick, .func (PySem.W.fnOf "_law_pick" "_law_pick" (defArgs s__law_pick) (defBody s__law_pick) (defScope s__law_pick) .none kV__law_pick dc__law_pick pm__law_pick an__law_pick cd__law_pick ct__law_pick), sl__law_pick⟩)
    (c__law_pick : PySem.W.codeIn K cd__law_pick "_law_pick" = true) (k__law_pick : PySem.W.keepIn K (.ref f__law_pick) = true)
    (a__law_long : PySem.W.nsIn K mainGlobals "_law_long" = some (some (.ref f__law_long)))
    (l__law_long : K.lookup f__law_long = some ⟨oc__law_long, od__law_long, .func (PySem.W.fnOf "_law_long" "_law_long" (defArgs s__law_long) (defBody s__law_long) (defScope s__law_long) .none kV__law_long dc__law_long pm__law_long an__law_long cd__law_long ct__law_long), sl__law_long⟩)
    (c__law_long : PySem.W.codeIn K cd__law_long "_law_long" = true) (k__law_long : PySem.W.keepIn K (.ref f__law_long) = true)
    (a__law_is_number : PySem.W.nsIn K mainGlobals "_law_is_number" = some (some (.ref f__law_is_number)))
    (l__law_is_number : K.lookup f__law_is_number = some ⟨oc__law_is_number, od__law_is_number, .func (PySem.W.fnOf "_law_is_number" "_law_is_number" (defArgs s__law_is_number) (defBody s__law_is_number) (defScope s__law_is_number) .none kV__law_is_number dc__law_is_number pm__law_is_number an__law_is_number cd__law_is_number ct__law_is_number), sl__law_is_number⟩)
    (c__law_is_number : PySem.W.codeIn K cd__law_is_number "_law_is_number" = true) (k__law_is_number : PySem.W.keepIn K (.ref f__law_is_number) = true)
    (a__law_at : PySem.W.nsIn K mainGlobals "_law_at" = some (some (.ref f__law_at)))
    (l__law_at : K.lookup f__law_at = some ⟨oc__law_at, od__law_at, .func (PySem.W.fnOf "_law_at" "_law_at" (defArgs s__law_at) (defBody s__law_at) (defScope s__law_at) .none kV__law_at dc__law_at pm__law_at an__law_at cd__law_at ct__law_at), sl__law_at⟩)
    (c__law_at : PySem.W.codeIn K cd__law_at "_law_at" = true) (k__law_at : PySem.W.keepIn K (.ref f__law_at) = true)
    (a__law_bounds_of : PySem.W.nsIn K mainGlobals "_law_bounds_of" = some (some (.ref f__law_bounds_of)))
    (l__law_bounds_of : K.lookup f__law_bounds_of = some ⟨oc__law_bounds_of, od__law_bounds_of, .func (PySem.W.fnOf "_law_bounds_of" "_law_bounds_of" (defArgs s__law_bounds_of) (defBody s__law_bounds_of) (defScope s__law_bounds_of) .none kV__law_bounds_of dc__law_bounds_of pm__law_bounds_of an__law_bounds_of cd__law_bounds_of ct__law_bounds_of), sl__law_bounds_of⟩)
    (c__law_bounds_of : PySem.W.codeIn K cd__law_bounds_of "_law_bounds_of" = true) (k__law_bounds_of : PySem.W.keepIn K (.ref f__law_bounds_of) = true)
    (a__law_is_pair : PySem.W.nsIn K mainGlobals "_law_is_pair" = some (some (.ref f__law_is_pair)))
    (l__law_is_pair : K.lookup f__law_is_pair = some ⟨oc__law_is_pair, od__law_is_pair, .func (PySem.W.fnOf "_law_is_pair" "_law_is_pair" (defArgs s__law_is_pair) (defBody s__law_is_pair) (defScope s__law_is_pair) .none kV__law_is_pair dc__law_is_pair pm__law_is_pair an__law_is_pair cd__law_is_pair ct__law_is_pair), sl__law_is_pair⟩)
    (c__law_is_pair : PySem.W.codeIn K cd__law_is_pair "_law_is_pair" = true) (k__law_is_pair : PySem.W.keepIn K (.ref f__law_is_pair) = true)
    (a__law_between : PySem.W.nsIn K mainGlobals "_law_between" = some (some (.ref f__law_between)))
    (l__law_between : K.lookup f__law_between = some ⟨oc__law_between, od__law_between, .func (PySem.W.fnOf "_law_between" "_law_between" (defArgs s__law_between) (defBody s__law_between) (defScope s__law_between) .none kV__law_between dc__law_between pm__law_between an__law_between cd__law_between ct__law_between), sl__law_between⟩)
    (c__law_between : PySem.W.codeIn K cd__law_between "_law_between" = true) (k__law_between : PySem.W.keepIn K (.ref f__law_between) = true)
    (a__law_is_right : PySem.W.nsIn K mainGlobals "_law_is_right" = some (some (.ref f__law_is_right)))
    (l__law_is_right : K.lookup f__law_is_right = some ⟨oc__law_is_right, od__law_is_right, .func (PySem.W.fnOf "_law_is_right" "_law_is_right" (defArgs s__law_is_right) (defBody s__law_is_right) (defScope s__law_is_right) .none kV__law_is_right dc__law_is_right pm__law_is_right an__law_is_right cd__law_is_right ct__law_is_right), sl__law_is_right⟩)
    (c__law_is_right : PySem.W.codeIn K cd__law_is_right "_law_is_right" = true) (k__law_is_right : PySem.W.keepIn K (.ref f__law_is_right) = true)
    (a__law_has_line : PySem.W.nsIn K mainGlobals "_law_has_line" = some (some (.ref f__law_has_line)))
    (l__law_has_line : K.lookup f__law_has_line = some ⟨oc__law_has_line, od__law_has_line, .func (PySem.W.fnOf "_law_has_line" "_law_has_line" (defArgs s__law_has_line) (defBody s__law_has_line) (defScope s__law_has_line) .none kV__law_has_line dc__law_has_line pm__law_has_line an__law_has_line cd__law_has_line ct__law_has_line), sl__law_has_line⟩)
    (c__law_has_line : PySem.W.codeIn K cd__law_has_line "_law_has_line" = true) (k__law_has_line : PySem.W.keepIn K (.ref f__law_has_line) = true)
    (a__law_fault : PySem.W.nsIn K mainGlobals "_law_fault" = some (some (.ref f__law_fault)))
    (l__law_fault : K.lookup f__law_fault = some ⟨oc__law_fault, od__law_fault, .func (PySem.W.fnOf "_law_fault" "_law_fault" (defArgs s__law_fault) (defBody s__law_fault) (defScope s__law_fault) .none kV__law_fault dc__law_fault pm__law_fault an__law_fault cd__law_fault ct__law_fault), sl__law_fault⟩)
    (c__law_fault : PySem.W.codeIn K cd__law_fault "_law_fault" = true) (k__law_fault : PySem.W.keepIn K (.ref f__law_fault) = true)
    (a_law : PySem.W.nsIn K mainGlobals "law" = some (some (.ref f_law)))
    (l_law : K.lookup f_law = some ⟨oc_law, od_law, .func (PySem.W.fnOf "law" "law" (defArgs s_law) (defBody s_law) (defScope s_law) .none kV_law dc_law pm_law an_law (.ref cl_law) ct_law), sl_law⟩)
    (c_law : PySem.W.codeIn K (.ref cl_law) "law" = true) (k_law : PySem.W.keepIn K (.ref f_law) = true)
    (lc_law : K.lookup cl_law = some ⟨ec_law, ed_law, .fields vs_law, es_law⟩) (h11_law : vs_law[11]? = some (.ref Pt_law)) (hd_law : PySem.W.codeHdIn K cl_law Pt_law = true) (nt_law : K.lookup Pt_law = none)
    {c_Line : Addr} (g_Line : PySem.W.nsIn K mainGlobals "Line" = some (some (.ref c_Line)))
    (pg_Line : PySem.W.plainGet K c_Line Str.empty = true) (hd_Line : PySem.W.hasDictIn K c_Line = true) (po_Line : PySem.W.plainOver K c_Line = true) (sa_Line : PySem.W.findIn K (.ref c_Line) "__setattr__" = some (some (.builtin "object.__setattr__"))) (mk_Line : PySem.W.makesIn K c_Line = true) (kc_Line : PySem.W.keepIn K (.ref c_Line) = true)
    (na_Line_a : PySem.W.findIn K (.ref c_Line) "a" = some none)
    (na_Line_b : PySem.W.findIn K (.ref c_Line) "b" = some none)
    (na_Line_m : PySem.W.findIn K (.ref c_Line) "m" = some none)
    (ha_Line : PySem.W.findIn K (.ref c_Line) "__class__" = some (some (.builtin "object.__class__"))) (mr_Line : PySem.W.mroIn K c_Line (.type "object") = some true)
    {c_Stairs : Addr} (g_Stairs : PySem.W.nsIn K mainGlobals "Stairs" = some (some (.ref c_Stairs)))
    (pg_Stairs : PySem.W.plainGet K c_Stairs Str.empty = true) (hd_Stairs : PySem.W.hasDictIn K c_Stairs = true) (po_Stairs : PySem.W.plainOver K c_Stairs = true) (sa_Stairs : PySem.W.findIn K (.ref c_Stairs) "__setattr__" = some (some (.builtin "object.__setattr__"))) (mk_Stairs : PySem.W.makesIn K c_Stairs = true) (kc_Stairs : PySem.W.keepIn K (.ref c_Stairs) = true)
    (na_Stairs_line : PySem.W.findIn K (.ref c_Stairs) "line" = some none)
    (na_Stairs_low : PySem.W.findIn K (.ref c_Stairs) "low" = some none)
    (na_Stairs_high : PySem.W.findIn K (.ref c_Stairs) "high" = some none)
    (ha_Stairs : PySem.W.findIn K (.ref c_Stairs) "__class__" = some (some (.builtin "object.__class__"))) (mr_Stairs : PySem.W.mroIn K c_Stairs (.type "object") = some true)
    {c_Crooked : Addr} (g_Crooked : PySem.W.nsIn K mainGlobals "Crooked" = some (some (.ref c_Crooked)))
    (pg_Crooked : PySem.W.plainGet K c_Crooked Str.empty = true) (hd_Crooked : PySem.W.hasDictIn K c_Crooked = true) (po_Crooked : PySem.W.plainOver K c_Crooked = true) (sa_Crooked : PySem.W.findIn K (.ref c_Crooked) "__setattr__" = some (some (.builtin "object.__setattr__"))) (mk_Crooked : PySem.W.makesIn K c_Crooked = true) (kc_Crooked : PySem.W.keepIn K (.ref c_Crooked) = true)
    (na_Crooked_low : PySem.W.findIn K (.ref c_Crooked) "low" = some none)
    (na_Crooked_high : PySem.W.findIn K (.ref c_Crooked) "high" = some none)
    (ha_Crooked : PySem.W.findIn K (.ref c_Crooked) "__class__" = some (some (.builtin "object.__class__"))) (mr_Crooked : PySem.W.mroIn K c_Crooked (.type "object") = some true)
    {c_BadNumber : Addr} (g_BadNumber : PySem.W.nsIn K mainGlobals "BadNumber" = some (some (.ref c_BadNumber)))
    {c_TooLarge : Addr} (g_TooLarge : PySem.W.nsIn K mainGlobals "TooLarge" = some (some (.ref c_TooLarge)))
    (bx_BadNumber : PySem.W.subIn K (.ref c_BadNumber) (.type "BaseException") = some true) (tx_BadNumber : PySem.W.typeIn K (.ref c_BadNumber) = some (.type "type")) (dx_BadNumber : PySem.W.hasDictIn K c_BadNumber = true)
    (bx_TooLarge : PySem.W.subIn K (.ref c_TooLarge) (.type "BaseException") = some true) (tx_TooLarge : PySem.W.typeIn K (.ref c_TooLarge) = some (.type "type")) (dx_TooLarge : PySem.W.hasDictIn K c_TooLarge = true)
    {nm_BadNumber q_BadNumber : Str} {N_BadNumber : Addr} {bs_BadNumber bm_BadNumber : List Value} {sn_BadNumber : List Str} {sb_BadNumber : List Value} {ab_BadNumber : Bool} {co_BadNumber : Option Bool} {dd_BadNumber : Option Addr} {k0_BadNumber k1_BadNumber k2_BadNumber k3_BadNumber k5_BadNumber : Option Value}
    (lx_BadNumber : K.lookup c_BadNumber = some (excClassObj nm_BadNumber q_BadNumber c_BadNumber N_BadNumber bs_BadNumber bm_BadNumber true sn_BadNumber sb_BadNumber ab_BadNumber co_BadNumber dd_BadNumber k0_BadNumber k1_BadNumber k2_BadNumber k3_BadNumber k5_BadNumber "ValueError.__new__")) (rv_BadNumber : PySem.HandSPX.refsVE bm_BadNumber = true)
    (sx_BadNumber : PySem.W.findIn K (.ref c_BadNumber) "__setattr__" = some (some (.builtin "object.__setattr__"))) (kx_BadNumber : PySem.W.keepIn K (.ref c_BadNumber) = true)
    (gx_BadNumber : PySem.W.findIn K (.ref c_BadNumber) "__getattribute__" = some (some (.builtin "BaseException.__getattribute__"))) (hx_BadNumber : PySem.W.findIn K (.ref c_BadNumber) "__getattr__" = some none)
    (no_BadNumber_value : PySem.W.findIn K (.ref c_BadNumber) "value" = some none) (jx_BadNumber : PySem.W.typeIn K (.ref f_BadNumber___init__) = some (.type "function"))
    (xs_BadNumber_BadNumber : PySem.W.subIn K (.ref c_BadNumber) (.ref c_BadNumber) = some true)
    (xs_BadNumber_TooLarge : PySem.W.subIn K (.ref c_BadNumber) (.ref c_TooLarge) = some false)
    {nm_TooLarge q_TooLarge : Str} {N_TooLarge : Addr} {bs_TooLarge bm_TooLarge : List Value} {sn_TooLarge : List Str} {sb_TooLarge : List Value} {ab_TooLarge : Bool} {co_TooLarge : Option Bool} {dd_TooLarge : Option Addr} {k0_TooLarge k1_TooLarge k2_TooLarge k3_TooLarge k5_TooLarge : Option Value}
    (lx_TooLarge : K.lookup c_TooLarge = some (excClassObj nm_TooLarge q_TooLarge c_TooLarge N_TooLarge bs_TooLarge bm_TooLarge true sn_TooLarge sb_TooLarge ab_TooLarge co_TooLarge dd_TooLarge k0_TooLarge k1_TooLarge k2_TooLarge k3_TooLarge k5_TooLarge "ValueError.__new__")) (rv_TooLarge : PySem.HandSPX.refsVE bm_TooLarge = true)
    (sx_TooLarge : PySem.W.findIn K (.ref c_TooLarge) "__setattr__" = some (some (.builtin "object.__setattr__"))) (kx_TooLarge : PySem.W.keepIn K (.ref c_TooLarge) = true)
    (gx_TooLarge : PySem.W.findIn K (.ref c_TooLarge) "__getattribute__" = some (some (.builtin "BaseException.__getattribute__"))) (hx_TooLarge : PySem.W.findIn K (.ref c_TooLarge) "__getattr__" = some none)
    (no_TooLarge_number : PySem.W.findIn K (.ref c_TooLarge) "number" = some none) (jx_TooLarge : PySem.W.typeIn K (.ref f_TooLarge___init__) = some (.type "function"))
    (xs_TooLarge_BadNumber : PySem.W.subIn K (.ref c_TooLarge) (.ref c_BadNumber) = some false)
    (xs_TooLarge_TooLarge : PySem.W.subIn K (.ref c_TooLarge) (.ref c_TooLarge) = some true)
    (qe_Line : PySem.W.findIn K (.ref c_Line) "__eq__" = some (some (.ref f_Line___eq__))) (qf_Line : PySem.W.isFn K (.ref f_Line___eq__) = true) (qn_Line : PySem.W.findIn K (.ref c_Line) "__ne__" = some (some (.builtin "object.__ne__"))) (qo_Line : PySem.W.subIn K (.ref c_Line) (.type "object") = some true)
    (nf_Line_Line : PySem.W.notFirst K c_Line (.ref c_Line) = true)
    (qe_Stairs : PySem.W.findIn K (.ref c_Stairs) "__eq__" = some (some (.ref f_Stairs___eq__))) (qf_Stairs : PySem.W.isFn K (.ref f_Stairs___eq__) = true) (qn_Stairs : PySem.W.findIn K (.ref c_Stairs) "__ne__" = some (some (.builtin "object.__ne__"))) (qo_Stairs : PySem.W.subIn K (.ref c_Stairs) (.type "object") = some true)
    (nf_Stairs_Stairs : PySem.W.notFirst K c_Stairs (.ref c_Stairs) = true)
    (nf_Stairs_Crooked : PySem.W.notFirst K c_Stairs (.ref c_Crooked) = true)
    (qe_Crooked : PySem.W.findIn K (.ref c_Crooked) "__eq__" = some (some (.ref f_Crooked___eq__))) (qf_Crooked : PySem.W.isFn K (.ref f_Crooked___eq__) = true) (qn_Crooked : PySem.W.findIn K (.ref c_Crooked) "__ne__" = some (some (.builtin "object.__ne__"))) (qo_Crooked : PySem.W.subIn K (.ref c_Crooked) (.type "object") = some true)
    (nf_Crooked_Crooked : PySem.W.notFirst K c_Crooked (.ref c_Crooked) = true)
    (nf_Crooked_Stairs : PySem.W.notFirst K c_Crooked (.ref c_Stairs) = true)
    (hn_ : PySem.W.specialIn K (.builtin "object.__class__") "__get__" = some (some (.builtin "getset_descriptor.__get__"))) (htk_ : PySem.W.takesIn K (.builtin "object.__class__") = some true)
    (i_Line_Line : PySem.W.kitOne K (.ref c_Line) (.ref c_Line) = some true)
    (i_Stairs_Line : PySem.W.kitOne K (.ref c_Stairs) (.ref c_Line) = some false)
    (i_Crooked_Line : PySem.W.kitOne K (.ref c_Crooked) (.ref c_Line) = some false)
    (i_tuple_Line : PySem.W.kitOne K (.type "tuple") (.ref c_Line) = some false)
    (i_list_Line : PySem.W.kitOne K (.type "list") (.ref c_Line) = some false)
    (i_Line_Stairs : PySem.W.kitOne K (.ref c_Line) (.ref c_Stairs) = some false)
    (i_Stairs_Stairs : PySem.W.kitOne K (.ref c_Stairs) (.ref c_Stairs) = some true)
    (i_Crooked_Stairs : PySem.W.kitOne K (.ref c_Crooked) (.ref c_Stairs) = some false)
    (i_tuple_Stairs : PySem.W.kitOne K (.type "tuple") (.ref c_Stairs) = some false)
    (i_list_Stairs : PySem.W.kitOne K (.type "list") (.ref c_Stairs) = some false)
    (i_Line_Crooked : PySem.W.kitOne K (.ref c_Line) (.ref c_Crooked) = some false)
    (i_Stairs_Crooked : PySem.W.kitOne K (.ref c_Stairs) (.ref c_Crooked) = some false)
    (i_Crooked_Crooked : PySem.W.kitOne K (.ref c_Crooked) (.ref c_Crooked) = some true)
    (i_tuple_Crooked : PySem.W.kitOne K (.type "tuple") (.ref c_Crooked) = some false)
    (i_list_Crooked : PySem.W.kitOne K (.type "list") (.ref c_Crooked) = some false)
    (m_BadNumber___init__ : PySem.W.findIn K (.ref c_BadNumber) "__init__" = some (some (.ref f_BadNumber___init__))) (fn_BadNumber___init__ : PySem.W.isFn K (.ref f_BadNumber___init__) = true)
    (m_TooLarge___init__ : PySem.W.findIn K (.ref c_TooLarge) "__init__" = some (some (.ref f_TooLarge___init__))) (fn_TooLarge___init__ : PySem.W.isFn K (.ref f_TooLarge___init__) = true)
    (m_Line___init__ : PySem.W.findIn K (.ref c_Line) "__init__" = some (some (.ref f_Line___init__))) (fn_Line___init__ : PySem.W.isFn K (.ref f_Line___init__) = true)
    (m_Line___eq__ : PySem.W.findIn K (.ref c_Line) "__eq__" = some (some (.ref f_Line___eq__))) (fn_Line___eq__ : PySem.W.isFn K (.ref f_Line___eq__) = true)
    (m_Line_told : PySem.W.findIn K (.ref c_Line) "told" = some (some (.ref f_Line_told))) (fn_Line_told : PySem.W.isFn K (.ref f_Line_told) = true)
    (m_Line_at : PySem.W.findIn K (.ref c_Line) "at" = some (some (.ref f_Line_at))) (fn_Line_at : PySem.W.isFn K (.ref f_Line_at) = true)
    (m_Stairs___init__ : PySem.W.findIn K (.ref c_Stairs) "__init__" = some (some (.ref f_Stairs___init__))) (fn_Stairs___init__ : PySem.W.isFn K (.ref f_Stairs___init__) = true)
    (m_Stairs___bool__ : PySem.W.findIn K (.ref c_Stairs) "__bool__" = some (some (.ref f_Stairs___bool__))) (fn_Stairs___bool__ : PySem.W.isFn K (.ref f_Stairs___bool__) = true)
    (m_Stairs___eq__ : PySem.W.findIn K (.ref c_Stairs) "__eq__" = some (some (.ref f_Stairs___eq__))) (fn_Stairs___eq__ : PySem.W.isFn K (.ref f_Stairs___eq__) = true)
    (m_Stairs_shows : PySem.W.findIn K (.ref c_Stairs) "shows" = some (some (.ref f_Stairs_shows))) (fn_Stairs_shows : PySem.W.isFn K (.ref f_Stairs_shows) = true)
    (m_Crooked___init__ : PySem.W.findIn K (.ref c_Crooked) "__init__" = some (some (.ref f_Crooked___init__))) (fn_Crooked___init__ : PySem.W.isFn K (.ref f_Crooked___init__) = true)
    (m_Crooked___bool__ : PySem.W.findIn K (.ref c_Crooked) "__bool__" = some (some (.ref f_Crooked___bool__))) (fn_Crooked___bool__ : PySem.W.isFn K (.ref f_Crooked___bool__) = true)
    (m_Crooked___eq__ : PySem.W.findIn K (.ref c_Crooked) "__eq__" = some (some (.ref f_Crooked___eq__))) (fn_Crooked___eq__ : PySem.W.isFn K (.ref f_Crooked___eq__) = true)
    (m_Crooked_shows : PySem.W.findIn K (.ref c_Crooked) "shows" = some (some (.ref f_Crooked_shows))) (fn_Crooked_shows : PySem.W.isFn K (.ref f_Crooked_shows) = true)
    (n_all : PySem.W.nsIn K mainGlobals "all" = some none)
    (n_any : PySem.W.nsIn K mainGlobals "any" = some none)
    (n_bool : PySem.W.nsIn K mainGlobals "bool" = some none)
    (n_enumerate : PySem.W.nsIn K mainGlobals "enumerate" = some none)
    (n_int : PySem.W.nsIn K mainGlobals "int" = some none)
    (n_isinstance : PySem.W.nsIn K mainGlobals "isinstance" = some none)
    (n_len : PySem.W.nsIn K mainGlobals "len" = some none)
    (n_list : PySem.W.nsIn K mainGlobals "list" = some none)
    (n_max : PySem.W.nsIn K mainGlobals "max" = some none)
    (n_min : PySem.W.nsIn K mainGlobals "min" = some none)
    (n_range : PySem.W.nsIn K mainGlobals "range" = some none)
    (n_tuple : PySem.W.nsIn K mainGlobals "tuple" = some none)
    {tk_MOST_STAIRS : Tok} (a_MOST_STAIRS : PySem.W.nsIn K mainGlobals "MOST_STAIRS" = some (some (.int 200 tk_MOST_STAIRS)))
    (own : LamX.OwnTab K fa h) : LamX.LawAtS l w K (L2.CX l.prog w) 8 63 "script" mg fa h := by
  have e := hfa.symm.trans (PySem.W.mg_of X G a_law)
  cases e
  let ad : Ad := { c_Line := c_Line, c_Stairs := c_Stairs, c_Crooked := c_Crooked, c_BadNumber := c_BadNumber, c_TooLarge := c_TooLarge, f_BadNumber___init__ := f_BadNumber___init__, d_BadNumber___init__ := PySem.W.fnOf "__init__" "BadNumber.__init__" (defArgs s_BadNumber___init__) (defBody s_BadNumber___init__) (defScope s_BadNumber___init__) .none kV_BadNumber___init__ dc_BadNumber___init__ pm_BadNumber___init__ an_BadNumber___init__ cd_BadNumber___init__ ct_BadNumber___init__, f_TooLarge___init__ := f_TooLarge___init__, d_TooLarge___init__ := PySem.W.fnOf "__init__" "TooLarge.__init__" (defArgs s_TooLarge___init__) (defBody s_TooLarge___init__) (defScope s_TooLarge___init__) .none kV_TooLarge___init__ dc_TooLarge___init__ pm_TooLarge___init__ an_TooLarge___init__ cd_TooLarge___init__ ct_TooLarge___init__, f_is_number := f_is_number, d_is_number := PySem.W.fnOf "is_number" "is_number" (defArgs s_is_number) (defBody s_is_number) (defScope s_is_number) .none kV_is_number dc_is_number pm_is_number an_is_number cd_is_number ct_is_number, f_Line___init__ := f_Line___init__, d_Line___init__ := PySem.W.fnOf "__init__" "Line.__init__" (defArgs s_Line___init__) (defBody s_Line___init__) (defScope s_Line___init__) .none kV_Line___init__ dc_Line___init__ pm_Line___init__ an_Line___init__ cd_Line___init__ ct_Line___init__, f_Line___eq__ := f_Line___eq__, d_Line___eq__ := PySem.W.fnOf "__eq__" "Line.__eq__" (defArgs s_Line___eq__) (defBody s_Line___eq__) (defScope s_Line___eq__) .none kV_Line___eq__ dc_Line___eq__ pm_Line___eq__ an_Line___eq__ cd_Line___eq__ ct_Line___eq__, f_Line_told := f_Line_told, d_Line_told := PySem.W.fnOf "told" "Line.told" (defArgs s_Line_told) (defBody s_Line_told) (defScope s_Line_told) .none kV_Line_told dc_Line_told pm_Line_told an_Line_told cd_Line_told ct_Line_told, f_Line_at := f_Line_at, d_Line_at := PySem.W.fnOf "at" "Line.at" (defArgs s_Line_at) (defBody s_Line_at) (defScope s_Line_at) .none kV_Line_at dc_Line_at pm_Line_at an_Line_at cd_Line_at ct_Line_at, f_checked_row := f_checked_row, d_checked_row := PySem.W.fnOf "checked_row" "checked_row" (defArgs s_checked_row) (defBody s_checked_row) (defScope s_checked_row) .none kV_checked_row dc_checked_row pm_checked_row an_checked_row cd_checked_row ct_checked_row, f_is_pair := f_is_pair, d_is_pair := PySem.W.fnOf "is_pair" "is_pair" (defArgs s_is_pair) (defBody s_is_pair) (defScope s_is_pair) .none kV_is_pair dc_is_pair pm_is_pair an_is_pair cd_is_pair ct_is_pair, f_slope_above := f_slope_above, d_slope_above := PySem.W.fnOf "slope_above" "slope_above" (defArgs s_slope_above) (defBody s_slope_above) (defScope s_slope_above) .none kV_slope_above dc_slope_above pm_slope_above an_slope_above cd_slope_above ct_slope_above, f_slope_below := f_slope_below, d_slope_below := PySem.W.fnOf "slope_below" "slope_below" (defArgs s_slope_below) (defBody s_slope_below) (defScope s_slope_below) .none kV_slope_below dc_slope_below pm_slope_below an_slope_below cd_slope_below ct_slope_below, f_tightest := f_tightest, d_tightest := PySem.W.fnOf "tightest" "tightest" (defArgs s_tightest) (defBody s_tightest) (defScope s_tightest) .none kV_tightest dc_tightest pm_tightest an_tightest cd_tightest ct_tightest, f_least_between := f_least_between, d_least_between := PySem.W.fnOf "least_between" "least_between" (defArgs s_least_between) (defBody s_least_between) (defScope s_least_between) .none kV_least_between dc_least_between pm_least_between an_least_between cd_least_between ct_least_between, f_Stairs___init__ := f_Stairs___init__, d_Stairs___init__ := PySem.W.fnOf "__init__" "Stairs.__init__" (defArgs s_Stairs___init__) (defBody s_Stairs___init__) (defScope s_Stairs___init__) .none kV_Stairs___init__ dc_Stairs___init__ pm_Stairs___init__ an_Stairs___init__ cd_Stairs___init__ ct_Stairs___init__, f_Stairs___bool__ := f_Stairs___bool__, d_Stairs___bool__ := PySem.W.fnOf "__bool__" "Stairs.__bool__" (defArgs s_Stairs___bool__) (defBody s_Stairs___bool__) (defScope s_Stairs___bool__) .none kV_Stairs___bool__ dc_Stairs___bool__ pm_Stairs___bool__ an_Stairs___bool__ cd_Stairs___bool__ ct_Stairs___bool__, f_Stairs___eq__ := f_Stairs___eq__, d_Stairs___eq__ := PySem.W.fnOf "__eq__" "Stairs.__eq__" (defArgs s_Stairs___eq__) (defBody s_Stairs___eq__) (defScope s_Stairs___eq__) .none kV_Stairs___eq__ dc_Stairs___eq__ pm_Stairs___eq__ an_Stairs___eq__ cd_Stairs___eq__ ct_Stairs___eq__, f_Stairs_shows := f_Stairs_shows, d_Stairs_shows := PySem.W.fnOf "shows" "Stairs.shows" (defArgs s_Stairs_shows) (defBody s_Stairs_shows) (defScope s_Stairs_shows) .none kV_Stairs_shows dc_Stairs_shows pm_Stairs_shows an_Stairs_shows cd_Stairs_shows ct_Stairs_shows, f_Crooked___init__ := f_Crooked___init__, d_Crooked___init__ := PySem.W.fnOf "__init__" "Crooked.__init__" (defArgs s_Crooked___init__) (defBody s_Crooked___init__) (defScope s_Crooked___init__) .none kV_Crooked___init__ dc_Crooked___init__ pm_Crooked___init__ an_Crooked___init__ cd_Crooked___init__ ct_Crooked___init__, f_Crooked___bool__ := f_Crooked___bool__, d_Crooked___bool__ := PySem.W.fnOf "__bool__" "Crooked.__bool__" (defArgs s_Crooked___bool__) (defBody s_Crooked___bool__) (defScope s_Crooked___bool__) .none kV_Crooked___bool__ dc_Crooked___bool__ pm_Crooked___bool__ an_Crooked___bool__ cd_Crooked___bool__ ct_Crooked___bool__, f_Crooked___eq__ := f_Crooked___eq__, d_Crooked___eq__ := PySem.W.fnOf "__eq__" "Crooked.__eq__" (defArgs s_Crooked___eq__) (defBody s_Crooked___eq__) (defScope s_Crooked___eq__) .none kV_Crooked___eq__ dc_Crooked___eq__ pm_Crooked___eq__ an_Crooked___eq__ cd_Crooked___eq__ ct_Crooked___eq__, f_Crooked_shows := f_Crooked_shows, d_Crooked_shows := PySem.W.fnOf "shows" "Crooked.shows" (defArgs s_Crooked_shows) (defBody s_Crooked_shows) (defScope s_Crooked_shows) .none kV_Crooked_shows dc_Crooked_shows pm_Crooked_shows an_Crooked_shows cd_Crooked_shows ct_Crooked_shows, f_least_offset := f_least_offset, d_least_offset := PySem.W.fnOf "least_offset" "least_offset" (defArgs s_least_offset) (defBody s_least_offset) (defScope s_least_offset) .none kV_least_offset dc_least_offset pm_least_offset an_least_offset cd_least_offset ct_least_offset, f_stairs := f_stairs, d_stairs := PySem.W.fnOf "stairs" "stairs" (defArgs s_stairs) (defBody s_stairs) (defScope s_stairs) .none kV_stairs dc_stairs pm_stairs an_stairs cd_stairs ct_stairs, f__law_number := f__law_number, d__law_number := PySem.W.fnOf "_law_number" "_law_number" (defArgs s__law_number) (defBody s__law_number) (defScope s__law_number) .none kV__law_number dc__law_number pm__law_number an__law_number cd__law_number ct__law_number, f__law_take := f__law_take, d__law_take := PySem.W.fnOf "_law_take" "_law_take" (defArgs s__law_take) (defBody s__law_take) (defScope s__law_take) .none kV__law_take dc__law_take pm__law_take an__law_take cd__law_take ct__law_take, f__law_pick := f__law_pick, d__law_pick := PySem.W.fnOf "_law_pick" "_law_pick" (defArgs s__law_pick) (defBody s__law_pick) (defScope s__law_pick) .none kV__law_pick dc__law_pick pm__law_pick an__law_pick cd__law_pick ct__law_pick, f__law_long := f__law_long, d__law_long := PySem.W.fnOf "_law_long" "_law_long" (defArgs s__law_long) (defBody s__law_long) (defScope s__law_long) .none kV__law_long dc__law_long pm__law_long an__law_long cd__law_long ct__law_long, f__law_is_number := f__law_is_number, d__law_is_number := PySem.W.fnOf "_law_is_number" "_law_is_number" (defArgs s__law_is_number) (defBody s__law_is_number) (defScope s__law_is_number) .none kV__law_is_number dc__law_is_number pm__law_is_number an__law_is_number cd__law_is_number ct__law_is_number, f__law_at := f__law_at, d__law_at := PySem.W.fnOf "_law_at" "_law_at" (defArgs s__law_at) (defBody s__law_at) (defScope s__law_at) .none kV__law_at dc__law_at pm__law_at an__law_at cd__law_at ct__law_at, f__law_bounds_of := f__law_bounds_of, d__law_bounds_of := PySem.W.fnOf "_law_bounds_of" "_law_bounds_of" (defArgs s__law_bounds_of) (defBody s__law_bounds_of) (defScope s__law_bounds_of) .none kV__law_bounds_of dc__law_bounds_of pm__law_bounds_of an__law_bounds_of cd__law_bounds_of ct__law_bounds_of, f__law_is_pair := f__law_is_pair, d__law_is_pair := PySem.W.fnOf "_law_is_pair" "_law_is_pair" (defArgs s__law_is_pair) (defBody s__law_is_pair) (defScope s__law_is_pair) .none kV__law_is_pair dc__law_is_pair pm__law_is_pair an__law_is_pair cd__law_is_pair ct__law_is_pair, f__law_between := f__law_between, d__law_between := PySem.W.fnOf "_law_between" "_law_between" (defArgs s__law_between) (defBody s__law_between) (defScope s__law_between) .none kV__law_between dc__law_between pm__law_between an__law_between cd__law_between ct__law_between, f__law_is_right := f__law_is_right, d__law_is_right := PySem.W.fnOf "_law_is_right" "_law_is_right" (defArgs s__law_is_right) (defBody s__law_is_right) (defScope s__law_is_right) .none kV__law_is_right dc__law_is_right pm__law_is_right an__law_is_right cd__law_is_right ct__law_is_right, f__law_has_line := f__law_has_line, d__law_has_line := PySem.W.fnOf "_law_has_line" "_law_has_line" (defArgs s__law_has_line) (defBody s__law_has_line) (defScope s__law_has_line) .none kV__law_has_line dc__law_has_line pm__law_has_line an__law_has_line cd__law_has_line ct__law_has_line, f__law_fault := f__law_fault, d__law_fault := PySem.W.fnOf "_law_fault" "_law_fault" (defArgs s__law_fault) (defBody s__law_fault) (defScope s__law_fault) .none kV__law_fault dc__law_fault pm__law_fault an__law_fault cd__law_fault ct__law_fault, f_law := fa, d_law := PySem.W.fnOf "law" "law" (defArgs s_law) (defBody s_law) (defScope s_law) .none kV_law dc_law pm_law an_law (.ref cl_law) ct_law }
  have F_BadNumber___init__ := fun_mk (st := s_BadNumber___init__) l_BadNumber___init__ c_BadNumber___init__ k_BadNumber___init__
  have b_BadNumber___init__ := F_BadNumber___init__.binds (ps := ["self", "value"]) fun _ _ _ _ _ _ us hl => match us, hl with | [_, _], _ => rfl
  have F_TooLarge___init__ := fun_mk (st := s_TooLarge___init__) l_TooLarge___init__ c_TooLarge___init__ k_TooLarge___init__
  have b_TooLarge___init__ := F_TooLarge___init__.binds (ps := ["self", "number"]) fun _ _ _ _ _ _ us hl => match us, hl with | [_, _], _ => rfl
  have F_is_number := fun_mk (st := s_is_number) l_is_number c_is_number k_is_number
  have b_is_number := F_is_number.binds (ps := ["value"]) fun _ _ _ _ _ _ us hl => match us, hl with | [_], _ => rfl
  have F_Line___init__ := fun_mk (st := s_Line___init__) l_Line___init__ c_Line___init__ k_Line___init__
  have b_Line___init__ := F_Line___init__.binds (ps := ["self", "a", "b", "m"]) fun _ _ _ _ _ _ us hl => match us, hl with | [_, _, _, _], _ => rfl
  have F_Line___eq__ := fun_mk (st := s_Line___eq__) l_Line___eq__ c_Line___eq__ k_Line___eq__
  have b_Line___eq__ := F_Line___eq__.binds (ps := ["self", "other"]) fun _ _ _ _ _ _ us hl => match us, hl with | [_, _], _ => rfl
  have F_Line_told := fun_mk (st := s_Line_told) l_Line_told c_Line_told k_Line_told
  have b_Line_told := F_Line_told.binds (ps := ["self"]) fun _ _ _ _ _ _ us hl => match us, hl with | [_], _ => rfl
  have F_Line_at := fun_mk (st := s_Line_at) l_Line_at c_Line_at k_Line_at
  have b_Line_at := F_Line_at.binds (ps := ["self", "x"]) fun _ _ _ _ _ _ us hl => match us, hl with | [_, _], _ => rfl
  have F_checked_row := fun_mk (st := s_checked_row) l_checked_row c_checked_row k_checked_row
  have b_checked_row := F_checked_row.binds (ps := ["row"]) fun _ _ _ _ _ _ us hl => match us, hl with | [_], _ => rfl
  have F_is_pair := fun_mk (st := s_is_pair) l_is_pair c_is_pair k_is_pair
  have b_is_pair := F_is_pair.binds (ps := ["value", "many"]) fun _ _ _ _ _ _ us hl => match us, hl with | [_, _], _ => rfl
  have F_slope_above := fun_mk (st := s_slope_above) l_slope_above c_slope_above k_slope_above
  have b_slope_above := F_slope_above.binds (ps := ["row", "pair"]) fun _ _ _ _ _ _ us hl => match us, hl with | [_, _], _ => rfl
  have F_slope_below := fun_mk (st := s_slope_below) l_slope_below c_slope_below k_slope_below
  have b_slope_below := F_slope_below.binds (ps := ["row", "pair"]) fun _ _ _ _ _ _ us hl => match us, hl with | [_, _], _ => rfl
  have F_tightest := fun_mk (st := s_tightest) l_tightest c_tightest k_tightest
  have b_tightest := F_tightest.binds (ps := ["row"]) fun _ _ _ _ _ _ us hl => match us, hl with | [_], _ => rfl
  have F_least_between := fun_mk (st := s_least_between) l_least_between c_least_between k_least_between
  have b_least_between := F_least_between.binds (ps := ["above", "below", "m"]) fun _ _ _ _ _ _ us hl => match us, hl with | [_, _, _], _ => rfl
  have F_Stairs___init__ := fun_mk (st := s_Stairs___init__) l_Stairs___init__ c_Stairs___init__ k_Stairs___init__
  have b_Stairs___init__ := F_Stairs___init__.binds (ps := ["self", "line", "low", "high"]) fun _ _ _ _ _ _ us hl => match us, hl with | [_, _, _, _], _ => rfl
  have F_Stairs___bool__ := fun_mk (st := s_Stairs___bool__) l_Stairs___bool__ c_Stairs___bool__ k_Stairs___bool__
  have b_Stairs___bool__ := F_Stairs___bool__.binds (ps := ["self"]) fun _ _ _ _ _ _ us hl => match us, hl with | [_], _ => rfl
  have F_Stairs___eq__ := fun_mk (st := s_Stairs___eq__) l_Stairs___eq__ c_Stairs___eq__ k_Stairs___eq__
  have b_Stairs___eq__ := F_Stairs___eq__.binds (ps := ["self", "other"]) fun _ _ _ _ _ _ us hl => match us, hl with | [_, _], _ => rfl
  have F_Stairs_shows := fun_mk (st := s_Stairs_shows) l_Stairs_shows c_Stairs_shows k_Stairs_shows
  have b_Stairs_shows := F_Stairs_shows.binds (ps := ["self", "row"]) fun _ _ _ _ _ _ us hl => match us, hl with | [_, _], _ => rfl
  have F_Crooked___init__ := fun_mk (st := s_Crooked___init__) l_Crooked___init__ c_Crooked___init__ k_Crooked___init__
  have b_Crooked___init__ := F_Crooked___init__.binds (ps := ["self", "low", "high"]) fun _ _ _ _ _ _ us hl => match us, hl with | [_, _, _], _ => rfl
  have F_Crooked___bool__ := fun_mk (st := s_Crooked___bool__) l_Crooked___bool__ c_Crooked___bool__ k_Crooked___bool__
  have b_Crooked___bool__ := F_Crooked___bool__.binds (ps := ["self"]) fun _ _ _ _ _ _ us hl => match us, hl with | [_], _ => rfl
  have F_Crooked___eq__ := fun_mk (st := s_Crooked___eq__) l_Crooked___eq__ c_Crooked___eq__ k_Crooked___eq__
  have b_Crooked___eq__ := F_Crooked___eq__.binds (ps := ["self", "other"]) fun _ _ _ _ _ _ us hl => match us, hl with | [_, _], _ => rfl
  have F_Crooked_shows := fun_mk (st := s_Crooked_shows) l_Crooked_shows c_Crooked_shows k_Crooked_shows
  have b_Crooked_shows := F_Crooked_shows.binds (ps := ["self", "row"]) fun _ _ _ _ _ _ us hl => match us, hl with | [_, _], _ => rfl
  have F_least_offset := fun_mk (st := s_least_offset) l_least_offset c_least_offset k_least_offset
  have b_least_offset := F_least_offset.binds (ps := ["row", "a", "m"]) fun _ _ _ _ _ _ us hl => match us, hl with | [_, _, _], _ => rfl
  have F_stairs := fun_mk (st := s_stairs) l_stairs c_stairs k_stairs
  have b_stairs := F_stairs.binds (ps := ["row"]) fun _ _ _ _ _ _ us hl => match us, hl with | [_], _ => rfl
  have F__law_number := fun_mk (st := s__law_number) l__law_number c__law_number k__law_number
  have b__law_number := F__law_number.binds (ps := ["script", "index"]) fun _ _ _ _ _ _ us hl => match us, hl with | [_, _], _ => rfl
  have F__law_take := fun_mk (st := s__law_take) l__law_take c__law_take k__law_take
  have b__law_take := F__law_take.binds (ps := ["draw", "many"]) fun _ _ _ _ _ _ us hl => match us, hl with | [_, _], _ => rfl
  have F__law_pick := fun_mk (st := s__law_pick) l__law_pick c__law_pick k__law_pick
  have b__law_pick := F__law_pick.binds (ps := ["draw", "items"]) fun _ _ _ _ _ _ us hl => match us, hl with | [_, _], _ => rfl
  have F__law_long := fun_mk (st := s__law_long) l__law_long c__law_long k__law_long
  have b__law_long := F__law_long.binds (ps := ["draw", "figures"]) fun _ _ _ _ _ _ us hl => match us, hl with | [_, _], _ => rfl
  have F__law_is_number := fun_mk (st := s__law_is_number) l__law_is_number c__law_is_number k__law_is_number
  have b__law_is_number := F__law_is_number.binds (ps := ["value"]) fun _ _ _ _ _ _ us hl => match us, hl with | [_], _ => rfl
  have F__law_at := fun_mk (st := s__law_at) l__law_at c__law_at k__law_at
  have b__law_at := F__law_at.binds (ps := ["line", "x"]) fun _ _ _ _ _ _ us hl => match us, hl with | [_, _], _ => rfl
  have F__law_bounds_of := fun_mk (st := s__law_bounds_of) l__law_bounds_of c__law_bounds_of k__law_bounds_of
  have b__law_bounds_of := F__law_bounds_of.binds (ps := ["row", "low", "high"]) fun _ _ _ _ _ _ us hl => match us, hl with | [_, _, _], _ => rfl
  have F__law_is_pair := fun_mk (st := s__law_is_pair) l__law_is_pair c__law_is_pair k__law_is_pair
  have b__law_is_pair := F__law_is_pair.binds (ps := ["pair", "many"]) fun _ _ _ _ _ _ us hl => match us, hl with | [_, _], _ => rfl
  have F__law_between := fun_mk (st := s__law_between) l__law_between c__law_between k__law_between
  have b__law_between := F__law_between.binds (ps := ["above", "below", "m"]) fun _ _ _ _ _ _ us hl => match us, hl with | [_, _, _], _ => rfl
  have F__law_is_right := fun_mk (st := s__law_is_right) l__law_is_right c__law_is_right k__law_is_right
  have b__law_is_right := F__law_is_right.binds (ps := ["row", "told"]) fun _ _ _ _ _ _ us hl => match us, hl with | [_, _], _ => rfl
  have F__law_has_line := fun_mk (st := s__law_has_line) l__law_has_line c__law_has_line k__law_has_line
  have b__law_has_line := F__law_has_line.binds (ps := ["row", "m"]) fun _ _ _ _ _ _ us hl => match us, hl with | [_, _], _ => rfl
  have F__law_fault := fun_mk (st := s__law_fault) l__law_fault c__law_fault k__law_fault
  have b__law_fault := F__law_fault.binds (ps := ["deed"]) fun _ _ _ _ _ _ us hl => match us, hl with | [_], _ => rfl
  have F_law := fun_mk (st := s_law) l_law c_law k_law
  have b_law := F_law.binds (ps := ["script"]) fun _ _ _ _ _ _ us hl => match us, hl with | [_], _ => rfl
  have T : Tx K mg ad := { n_all := PySem.W.mg_none_of X G n_all, n_any := PySem.W.mg_none_of X G n_any, n_bool := PySem.W.mg_none_of X G n_bool, n_enumerate := PySem.W.mg_none_of X G n_enumerate, n_int := PySem.W.mg_none_of X G n_int, n_isinstance := PySem.W.mg_none_of X G n_isinstance, n_len := PySem.W.mg_none_of X G n_len, n_list := PySem.W.mg_none_of X G n_list, n_max := PySem.W.mg_none_of X G n_max, n_min := PySem.W.mg_none_of X G n_min, n_range := PySem.W.mg_none_of X G n_range, n_tuple := PySem.W.mg_none_of X G n_tuple, g_Line := PySem.W.mg_of X G g_Line, cl_Line := ⟨pg_Line, hd_Line, po_Line, sa_Line⟩, mk_Line := ⟨mk_Line, m_Line___init__, fn_Line___init__, kc_Line⟩, na_Line_a := na_Line_a, na_Line_b := na_Line_b, na_Line_m := na_Line_m, isc_Line := ⟨⟨pg_Line, hd_Line, po_Line, sa_Line⟩, ha_Line, hn_, htk_, mr_Line⟩, i_Line_Line := i_Line_Line, i_Line_Stairs := i_Line_Stairs, i_Line_Crooked := i_Line_Crooked, g_Stairs := PySem.W.mg_of X G g_Stairs, cl_Stairs := ⟨pg_Stairs, hd_Stairs, po_Stairs, sa_Stairs⟩, mk_Stairs := ⟨mk_Stairs, m_Stairs___init__, fn_Stairs___init__, kc_Stairs⟩, na_Stairs_line := na_Stairs_line, na_Stairs_low := na_Stairs_low, na_Stairs_high := na_Stairs_high, isc_Stairs := ⟨⟨pg_Stairs, hd_Stairs, po_Stairs, sa_Stairs⟩, ha_Stairs, hn_, htk_, mr_Stairs⟩, i_Stairs_Line := i_Stairs_Line, i_Stairs_Stairs := i_Stairs_Stairs, i_Stairs_Crooked := i_Stairs_Crooked, g_Crooked := PySem.W.mg_of X G g_Crooked, cl_Crooked := ⟨pg_Crooked, hd_Crooked, po_Crooked, sa_Crooked⟩, mk_Crooked := ⟨mk_Crooked, m_Crooked___init__, fn_Crooked___init__, kc_Crooked⟩, na_Crooked_low := na_Crooked_low, na_Crooked_high := na_Crooked_high, isc_Crooked := ⟨⟨pg_Crooked, hd_Crooked, po_Crooked, sa_Crooked⟩, ha_Crooked, hn_, htk_, mr_Crooked⟩, i_Crooked_Line := i_Crooked_Line, i_Crooked_Stairs := i_Crooked_Stairs, i_Crooked_Crooked := i_Crooked_Crooked, i_tuple_Line := i_tuple_Line, i_list_Line := i_list_Line, i_tuple_Stairs := i_tuple_Stairs, i_list_Stairs := i_list_Stairs, i_tuple_Crooked := i_tuple_Crooked, i_list_Crooked := i_list_Crooked, g_BadNumber := PySem.W.mg_of X G g_BadNumber, g_TooLarge := PySem.W.mg_of X G g_TooLarge, ox_BadNumber := ⟨⟨_, _, _, _, _, _, _, _, _, _, _, _, _, _, _, lx_BadNumber, rv_BadNumber⟩, sx_BadNumber, bx_BadNumber, tx_BadNumber, kx_BadNumber⟩, ix_BadNumber := m_BadNumber___init__, jx_BadNumber := jx_BadNumber, xf_BadNumber := ⟨gx_BadNumber, hx_BadNumber, bx_BadNumber, dx_BadNumber⟩, no_BadNumber_value := no_BadNumber_value, xm_BadNumber_BadNumber := PySem.W.exm_ref bx_BadNumber dx_BadNumber tx_BadNumber xs_BadNumber_BadNumber, xm_BadNumber_TooLarge := PySem.W.exm_ref bx_TooLarge dx_TooLarge tx_TooLarge xs_BadNumber_TooLarge, ox_TooLarge := ⟨⟨_, _, _, _, _, _, _, _, _, _, _, _, _, _, _, lx_TooLarge, rv_TooLarge⟩, sx_TooLarge, bx_TooLarge, tx_TooLarge, kx_TooLarge⟩, ix_TooLarge := m_TooLarge___init__, jx_TooLarge := jx_TooLarge, xf_TooLarge := ⟨gx_TooLarge, hx_TooLarge, bx_TooLarge, dx_TooLarge⟩, no_TooLarge_number := no_TooLarge_number, xm_TooLarge_BadNumber := PySem.W.exm_ref bx_BadNumber dx_BadNumber tx_BadNumber xs_TooLarge_BadNumber, xm_TooLarge_TooLarge := PySem.W.exm_ref bx_TooLarge dx_TooLarge tx_TooLarge xs_TooLarge_TooLarge, q_Line := ⟨qe_Line, qf_Line, qn_Line, qo_Line⟩, nf_Line_Line := nf_Line_Line, q_Stairs := ⟨qe_Stairs, qf_Stairs, qn_Stairs, qo_Stairs⟩, nf_Stairs_Stairs := nf_Stairs_Stairs, nf_Stairs_Crooked := nf_Stairs_Crooked, q_Crooked := ⟨qe_Crooked, qf_Crooked, qn_Crooked, qo_Crooked⟩, nf_Crooked_Crooked := nf_Crooked_Crooked, nf_Crooked_Stairs := nf_Crooked_Stairs, me_Line_told := ⟨m_Line_told, fn_Line_told, k_Line_told⟩, me_Line_at := ⟨m_Line_at, fn_Line_at, k_Line_at⟩, me_Stairs___bool__ := ⟨m_Stairs___bool__, fn_Stairs___bool__, k_Stairs___bool__⟩, me_Stairs_shows := ⟨m_Stairs_shows, fn_Stairs_shows, k_Stairs_shows⟩, me_Crooked___bool__ := ⟨m_Crooked___bool__, fn_Crooked___bool__, k_Crooked___bool__⟩, me_Crooked_shows := ⟨m_Crooked_shows, fn_Crooked_shows, k_Crooked_shows⟩, g_MOST_STAIRS := ⟨_, PySem.W.mg_of X G a_MOST_STAIRS⟩, F_BadNumber___init__ := F_BadNumber___init__, b_BadNumber___init__ := b_BadNumber___init__, k_BadNumber___init__ := k_BadNumber___init__, F_TooLarge___init__ := F_TooLarge___init__, b_TooLarge___init__ := b_TooLarge___init__, k_TooLarge___init__ := k_TooLarge___init__, F_is_number := F_is_number, b_is_number := b_is_number, k_is_number := k_is_number, g_is_number := PySem.W.mg_of X G a_is_number, F_Line___init__ := F_Line___init__, b_Line___init__ := b_Line___init__, k_Line___init__ := k_Line___init__, F_Line___eq__ := F_Line___eq__, b_Line___eq__ := b_Line___eq__, k_Line___eq__ := k_Line___eq__, F_Line_told := F_Line_told, b_Line_told := b_Line_told, k_Line_told := k_Line_told, F_Line_at := F_Line_at, b_Line_at := b_Line_at, k_Line_at := k_Line_at, F_checked_row := F_checked_row, b_checked_row := b_checked_row, k_checked_row := k_checked_row, g_checked_row := PySem.W.mg_of X G a_checked_row, F_is_pair := F_is_pair, b_is_pair := b_is_pair, k_is_pair := k_is_pair, g_is_pair := PySem.W.mg_of X G a_is_pair, F_slope_above := F_slope_above, b_slope_above := b_slope_above, k_slope_above := k_slope_above, g_slope_above := PySem.W.mg_of X G a_slope_above, F_slope_below := F_slope_below, b_slope_below := b_slope_below, k_slope_below := k_slope_below, g_slope_below := PySem.W.mg_of X G a_slope_below, F_tightest := F_tightest, b_tightest := b_tightest, k_tightest := k_tightest, g_tightest := PySem.W.mg_of X G a_tightest, F_least_between := F_least_between, b_least_between := b_least_between, k_least_between := k_least_between, g_least_between := PySem.W.mg_of X G a_least_between, F_Stairs___init__ := F_Stairs___init__, b_Stairs___init__ := b_Stairs___init__, k_Stairs___init__ := k_Stairs___init__, F_Stairs___bool__ := F_Stairs___bool__, b_Stairs___bool__ := b_Stairs___bool__, k_Stairs___bool__ := k_Stairs___bool__, F_Stairs___eq__ := F_Stairs___eq__, b_Stairs___eq__ := b_Stairs___eq__, k_Stairs___eq__ := k_Stairs___eq__, F_Stairs_shows := F_Stairs_shows, b_Stairs_shows := b_Stairs_shows, k_Stairs_shows := k_Stairs_shows, F_Crooked___init__ := F_Crooked___init__, b_Crooked___init__ := b_Crooked___init__, k_Crooked___init__ := k_Crooked___init__, F_Crooked___bool__ := F_Crooked___bool__, b_Crooked___bool__ := b_Crooked___bool__, k_Crooked___bool__ := k_Crooked___bool__, F_Crooked___eq__ := F_Crooked___eq__, b_Crooked___eq__ := b_Crooked___eq__, k_Crooked___eq__ := k_Crooked___eq__, F_Crooked_shows := F_Crooked_shows, b_Crooked_shows := b_Crooked_shows, k_Crooked_shows := k_Crooked_shows, F_least_offset := F_least_offset, b_least_offset := b_least_offset, k_least_offset := k_least_offset, g_least_offset := PySem.W.mg_of X G a_least_offset, F_stairs := F_stairs, b_stairs := b_stairs, k_stairs := k_stairs, g_stairs := PySem.W.mg_of X G a_stairs, F__law_number := F__law_number, b__law_number := b__law_number, k__law_number := k__law_number, g__law_number := PySem.W.mg_of X G a__law_number, F__law_take := F__law_take, b__law_take := b__law_take, k__law_take := k__law_take, g__law_take := PySem.W.mg_of X G a__law_take, F__law_pick := F__law_pick, b__law_pick := b__law_pick, k__law_pick := k__law_pick, g__law_pick := PySem.W.mg_of X G a__law_pick, F__law_long := F__law_long, b__law_long := b__law_long, k__law_long := k__law_long, g__law_long := PySem.W.mg_of X G a__law_long, F__law_is_number := F__law_is_number, b__law_is_number := b__law_is_number, k__law_is_number := k__law_is_number, g__law_is_number := PySem.W.mg_of X G a__law_is_number, F__law_at := F__law_at, b__law_at := b__law_at, k__law_at := k__law_at, g__law_at := PySem.W.mg_of X G a__law_at, F__law_bounds_of := F__law_bounds_of, b__law_bounds_of := b__law_bounds_of, k__law_bounds_of := k__law_bounds_of, g__law_bounds_of := PySem.W.mg_of X G a__law_bounds_of, F__law_is_pair := F__law_is_pair, b__law_is_pair := b__law_is_pair, k__law_is_pair := k__law_is_pair, g__law_is_pair := PySem.W.mg_of X G a__law_is_pair, F__law_between := F__law_between, b__law_between := b__law_between, k__law_between := k__law_between, g__law_between := PySem.W.mg_of X G a__law_between, F__law_is_right := F__law_is_right, b__law_is_right := b__law_is_right, k__law_is_right := k__law_is_right, g__law_is_right := PySem.W.mg_of X G a__law_is_right, F__law_has_line := F__law_has_line, b__law_has_line := b__law_has_line, k__law_has_line := k__law_has_line, g__law_has_line := PySem.W.mg_of X G a__law_has_line, F__law_fault := F__law_fault, b__law_fault := b__law_fault, k__law_fault := k__law_fault, g__law_fault := PySem.W.mg_of X G a__law_fault, F_law := F_law, b_law := b_law, k_law := k_law, g_law := PySem.W.mg_of X G a_law }
  exact lawX X own l_law lc_law h11_law hd_law nt_law (fun p hp => by rw [List.mem_singleton.mp hp]) (fun s v => .of_eq rfl) fun base _ _ TB => ok_law T l_law c_law TB
theorem walk {l : PySem.W.OpenLaw} {q : Program} {loose : List Str} {XP : (Str → Option Value) → Heap → Prop} {YP : World → Heap → Prop} {d : DefRec} {K : Params → PySem.W.Frag} (hn : l.most = some 63) (hdf : d.params.defaults = [])
    (hrec : ((recsOf q).any fun e => e.name == d.name) = true) (hY : ∀ (w : World) (h : Heap), YP w h → (K w.params).In h)
    (F : ∀ (w : World) (mg : Str → Option Value) (fa : Addr) (h : Heap), YP w h → (K w.params).In h → h.Ns mainGlobals mg → mg d.name = some (.ref fa) → LamX.OwnTab (K w.params) fa h → LamX.LawAtS l w (K w.params) (L2.CX l.prog w) 8 63 "script" mg fa h) :
    PySem.W.WalkO q loose XP YP l.row.toRowW d [] (fun f vs => PySem.call f vs) :=
  LamX.walk_ofOwn (n := 63) (k := 8) (x := "script") (CX := fun w => L2.CX l.prog w) hn (by decide) hdf ⟨rfl, by decide, by decide⟩ hrec hY F fun _ _ _ _ _ z => by
      obtain ⟨_, _, _, _, _, _, _, _, _, _, _, _, z⟩ := z
      exact z.elim
end LawW
open PySem PySem.W PyProof.Rows
set_option maxRecDepth 100000 in
set_option maxHeartbeats 0 in
theorem PySem.Challenge.cw_pointorstrip_k14_whole_stairs_holds : PySem.Challenge.rw_pointorstrip_k14_whole_stairs.Holds := by
  w_on; o_law; k_head; (case hw => w_witness2)
  k_fill
  refine LawW.walk (l := PySem.Challenge.rw_pointorstrip_k14_whole_stairs) rfl rfl (by decide +kernel) (fun w h Y => PySem.W.km_in_of Y) ?F
  case F =>
    intro w mg fa h Y KX G hmg own
    refine' LawW.all_mk KX G hmg ?l_BadNumber___init__ ?c_BadNumber___init__ ?k_BadNumber___init__ ?l_TooLarge___init__ ?c_TooLarge___init__ ?k_TooLarge___init__ ?a_is_number ?l_is_number ?c_is_number ?k_is_number ?l_Line___init__ ?c_Line___init__ ?k_Line___init__ ?l_Line___eq__ ?c_Line___eq__ ?k_Line___eq__ ?l_Line_told ?c_Line_told ?k_Line_told ?l_Line_at ?c_Line_at ?k_Line_at ?a_checked_row ?l_checked_row ?c_checked_row ?k_checked_row ?a_is_pair ?l_is_pair ?c_is_pair ?k_is_pair ?a_slope_above ?l_slope_above ?c_slope_above ?k_slope_above ?a_slope_below ?l_slope_below ?c_slope_below ?k_slope_below ?a_tightest ?l_tightest ?c_tightest ?k_tightest ?a_least_between ?l_least_between ?c_least_between ?k_least_between ?l_Stairs___init__ ?c_Stairs___init__ ?k_Stairs___init__ ?l_Stairs___bool__ ?c_Stairs___bool__ ?k_Stairs___bool__ ?l_Stairs___eq__ ?c_Stairs___eq__ ?k_Stairs___eq__ ?l_Stairs_shows ?c_Stairs_shows ?k_Stairs_shows ?l_Crooked___init__ ?c_Crooked___init__ ?k_Crooked___init__ ?l_Crooked___bool__ ?c_Crooked___bool__ ?k_Crooked___bool__ ?l_Crooked___eq__ ?c_Crooked___eq__ ?k_Crooked___eq__ ?l_Crooked_shows ?c_Crooked_shows ?k_Crooked_shows ?a_least_offset ?l_least_offset ?c_least_offset ?k_least_offset ?a_stairs ?l_stairs ?c_stairs ?k_stairs ?a__law_number ?l__law_number ?c__law_number ?k__law_number ?a__law_take ?l__law_take ?c__law_take ?k__law_take ?a__law_pick ?l__law_pick ?c__law_pick ?k__law_pick ?a__law_long ?l__law_long ?c__law_long ?k__law_long ?a__law_is_number ?l__law_is_number ?c__law_is_number ?k__law_is_number ?a__law_at ?l__law_at ?c__law_at ?k__law_at ?a__law_bounds_of ?l__law_bounds_of ?c__law_bounds_of ?k__law_bounds_of ?a__law_is_pair ?l__law_is_pair ?c__law_is_pair ?k__law_is_pair ?a__law_between ?l__law_between ?c__law_between ?k__law_between ?a__law_is_right ?l__law_is_right ?c__law_is_right ?k__law_is_right ?a__law_has_line ?l__law_has_line ?c__law_has_line ?k__law_has_line ?a__law_fault ?l__law_fault ?c__law_fault ?k__law_fault ?a_law ?l_law ?c_law ?k_law ?lc_law ?h11_law ?hd_law ?nt_law ?g_Line ?pg_Line ?hd_Line ?po_Line ?sa_Line ?mk_Line ?kc_Line ?na_Line_a ?na_Line_b ?na_Line_m ?ha_Line ?mr_Line ?g_Stairs ?pg_Stairs ?hd_Stairs ?po_Stairs ?sa_Stairs ?mk_Stairs ?kc_Stairs ?na_Stairs_line ?na_Stairs_low ?na_Stairs_high ?ha_Stairs ?mr_Stairs ?g_Crooked ?pg_Crooked ?hd_Crooked ?po_Crooked ?sa_Crooked ?mk_Crooked ?kc_Crooked ?na_Crooked_low ?na_Crooked_high ?ha_Crooked ?mr_Crooked ?g_BadNumber ?g_TooLarge ?bx_BadNumber ?tx_BadNumber ?dx_BadNumber ?bx_TooLarge ?tx_TooLarge ?dx_TooLarge ?lx_BadNumber ?rv_BadNumber ?sx_BadNumber ?kx_BadNumber ?gx_BadNumber ?hx_BadNumber ?no_BadNumber_value ?jx_BadNumber ?xs_BadNumber_BadNumber ?xs_BadNumber_TooLarge ?lx_TooLarge ?rv_TooLarge ?sx_TooLarge ?kx_TooLarge ?gx_TooLarge ?hx_TooLarge ?no_TooLarge_number ?jx_TooLarge ?xs_TooLarge_BadNumber ?xs_TooLarge_TooLarge ?qe_Line ?qf_Line ?qn_Line ?qo_Line ?nf_Line_Line ?qe_Stairs ?qf_Stairs ?qn_Stairs ?qo_Stairs ?nf_Stairs_Stairs ?nf_Stairs_Crooked ?qe_Crooked ?qf_Crooked ?qn_Crooked ?qo_Crooked ?nf_Crooked_Crooked ?nf_Crooked_Stairs ?hn_ ?htk_ ?i_Line_Line ?i_Stairs_Line ?i_Crooked_Line ?i_tuple_Line ?i_list_Line ?i_Line_Stairs ?i_Stairs_Stairs ?i_Crooked_Stairs ?i_tuple_Stairs ?i_list_Stairs ?i_Line_Crooked ?i_Stairs_Crooked ?i_Crooked_Crooked ?i_tuple_Crooked ?i_list_Crooked ?m_BadNumber___init__ ?fn_BadNumber___init__ ?m_TooLarge___init__ ?fn_TooLarge___init__ ?m_Line___init__ ?fn_Line___init__ ?m_Line___eq__ ?fn_Line___eq__ ?m_Line_told ?fn_Line_told ?m_Line_at ?fn_Line_at ?m_Stairs___init__ ?fn_Stairs___init__ ?m_Stairs___bool__ ?fn_Stairs___bool__ ?m_Stairs___eq__ ?fn_Stairs___eq__ ?m_Stairs_shows ?fn_Stairs_shows ?m_Crooked___init__ ?fn_Crooked___init__ ?m_Crooked___bool__ ?fn_Crooked___bool__ ?m_Crooked___eq__ ?fn_Crooked___eq__ ?m_Crooked_shows ?fn_Crooked_shows ?n_all ?n_any ?n_bool ?n_enumerate ?n_int ?n_isinstance ?n_len ?n_list ?n_max ?n_min ?n_range ?n_tuple ?a_MOST_STAIRS own
    (case a_is_number => k_is)
    (case a_checked_row => k_is)
    (case a_is_pair => k_is)
    (case a_slope_above => k_is)
    (case a_slope_below => k_is)
    (case a_tightest => k_is)
    (case a_least_between => k_is)
    (case a_least_offset => k_is)
    (case a_stairs => k_is)
    (case a__law_number => k_is)
    (case a__law_take => k_is)
    (case a__law_pick => k_is)
    (case a__law_long => k_is)
    (case a__law_is_number => k_is)
    (case a__law_at => k_is)
    (case a__law_bounds_of => k_is)
    (case a__law_is_pair => k_is)
    (case a__law_between => k_is)
    (case a__law_is_right => k_is)
    (case a__law_has_line => k_is)
    (case a__law_fault => k_is)
    (case a_law => k_is)
    (case g_Line => k_is)
    (case g_Stairs => k_is)
    (case g_Crooked => k_is)
    (case g_BadNumber => k_is)
    (case g_TooLarge => k_is)
    (case a_MOST_STAIRS => k_is)
    (case l_law => k_is)
    (case lc_law => k_is)
    (case h11_law => exact rfl)
    (case lx_BadNumber => k_is)
    (case lx_TooLarge => k_is)
    (case qe_Line => k_is)
    (case qe_Stairs => k_is)
    (case qe_Crooked => k_is)
    (case m_BadNumber___init__ => k_is)
    (case m_TooLarge___init__ => k_is)
    (case m_Line___init__ => k_is)
    (case m_Line___eq__ => k_is)
    (case m_Line_told => k_is)
    (case m_Line_at => k_is)
    (case m_Stairs___init__ => k_is)
    (case m_Stairs___bool__ => k_is)
    (case m_Stairs___eq__ => k_is)
    (case m_Stairs_shows => k_is)
    (case m_Crooked___init__ => k_is)
    (case m_Crooked___bool__ => k_is)
    (case m_Crooked___eq__ => k_is)
    (case m_Crooked_shows => k_is)
    (case l_BadNumber___init__ => k_is)
    (case c_BadNumber___init__ => k_is)
    (case k_BadNumber___init__ => k_is)
    (case l_TooLarge___init__ => k_is)
    (case c_TooLarge___init__ => k_is)
    (case k_TooLarge___init__ => k_is)
    (case l_is_number => k_is)
    (case c_is_number => k_is)
    (case k_is_number => k_is)
    (case l_Line___init__ => k_is)
    (case c_Line___init__ => k_is)
    (case k_Line___init__ => k_is)
    (case l_Line___eq__ => k_is)
    (case c_Line___eq__ => k_is)
    (case k_Line___eq__ => k_is)
    (case l_Line_told => k_is)
    (case c_Line_told => k_is)
    (case k_Line_told => k_is)
    (case l_Line_at => k_is)
    (case c_Line_at => k_is)
    (case k_Line_at => k_is)
    (case l_checked_row => k_is)
    (case c_checked_row => k_is)
    (case k_checked_row => k_is)
    (case l_is_pair => k_is)
    (case c_is_pair => k_is)
    (case k_is_pair => k_is)
    (case l_slope_above => k_is)
    (case c_slope_above => k_is)
    (case k_slope_above => k_is)
    (case l_slope_below => k_is)
    (case c_slope_below => k_is)
    (case k_slope_below => k_is)
    (case l_tightest => k_is)
    (case c_tightest => k_is)
    (case k_tightest => k_is)
    (case l_least_between => k_is)
    (case c_least_between => k_is)
    (case k_least_between => k_is)
    (case l_Stairs___init__ => k_is)
    (case c_Stairs___init__ => k_is)
    (case k_Stairs___init__ => k_is)
    (case l_Stairs___bool__ => k_is)
    (case c_Stairs___bool__ => k_is)
    (case k_Stairs___bool__ => k_is)
    (case l_Stairs___eq__ => k_is)
    (case c_Stairs___eq__ => k_is)
    (case k_Stairs___eq__ => k_is)
    (case l_Stairs_shows => k_is)
    (case c_Stairs_shows => k_is)
    (case k_Stairs_shows => k_is)
    (case l_Crooked___init__ => k_is)
    (case c_Crooked___init__ => k_is)
    (case k_Crooked___init__ => k_is)
    (case l_Crooked___bool__ => k_is)
    (case c_Crooked___bool__ => k_is)
    (case k_Crooked___bool__ => k_is)
    (case l_Crooked___eq__ => k_is)
    (case c_Crooked___eq__ => k_is)
    (case k_Crooked___eq__ => k_is)
    (case l_Crooked_shows => k_is)
    (case c_Crooked_shows => k_is)
    (case k_Crooked_shows => k_is)
    (case l_least_offset => k_is)
    (case c_least_offset => k_is)
    (case k_least_offset => k_is)
    (case l_stairs => k_is)
    (case c_stairs => k_is)
    (case k_stairs => k_is)
    (case l__law_number => k_is)
    (case c__law_number => k_is)
    (case k__law_number => k_is)
    (case l__law_take => k_is)
    (case c__law_take => k_is)
    (case k__law_take => k_is)
    (case l__law_pick => k_is)
    (case c__law_pick => k_is)
    (case k__law_pick => k_is)
    (case l__law_long => k_is)
    (case c__law_long => k_is)
    (case k__law_long => k_is)
    (case l__law_is_number => k_is)
    (case c__law_is_number => k_is)
    (case k__law_is_number => k_is)
    (case l__law_at => k_is)
    (case c__law_at => k_is)
    (case k__law_at => k_is)
    (case l__law_bounds_of => k_is)
    (case c__law_bounds_of => k_is)
    (case k__law_bounds_of => k_is)
    (case l__law_is_pair => k_is)
    (case c__law_is_pair => k_is)
    (case k__law_is_pair => k_is)
    (case l__law_between => k_is)
    (case c__law_between => k_is)
    (case k__law_between => k_is)
    (case l__law_is_right => k_is)
    (case c__law_is_right => k_is)
    (case k__law_is_right => k_is)
    (case l__law_has_line => k_is)
    (case c__law_has_line => k_is)
    (case k__law_has_line => k_is)
    (case l__law_fault => k_is)
    (case c__law_fault => k_is)
    (case k__law_fault => k_is)
    (case c_law => k_is)
    (case k_law => k_is)
    (case hd_law => kernel_rfl)
    (case nt_law => kernel_rfl)
    (case pg_Line => k_is)
    (case hd_Line => k_is)
    (case po_Line => k_is)
    (case sa_Line => k_is)
    (case mk_Line => k_is)
    (case kc_Line => k_is)
    (case na_Line_a => k_is)
    (case na_Line_b => k_is)
    (case na_Line_m => k_is)
    (case ha_Line => k_is)
    (case mr_Line => k_is)
    (case pg_Stairs => k_is)
    (case hd_Stairs => k_is)
    (case po_Stairs => k_is)
    (case sa_Stairs => k_is)
    (case mk_Stairs => k_is)
    (case kc_Stairs => k_is)
    (case na_Stairs_line => k_is)
    (case na_Stairs_low => k_is)
    (case na_Stairs_high => k_is)
    (case ha_Stairs => k_is)
    (case mr_Stairs => k_is)
    (case pg_Crooked => k_is)
    (case hd_Crooked => k_is)
    (case po_Crooked => k_is)
    (case sa_Crooked => k_is)
    (case mk_Crooked => k_is)
    (case kc_Crooked => k_is)
    (case na_Crooked_low => k_is)
    (case na_Crooked_high => k_is)
    (case ha_Crooked => k_is)
    (case mr_Crooked => k_is)
    (case bx_BadNumber => k_is)
    (case tx_BadNumber => k_is)
    (case dx_BadNumber => k_is)
    (case bx_TooLarge => k_is)
    (case tx_TooLarge => k_is)
    (case dx_TooLarge => k_is)
    (case rv_BadNumber => exact rfl)
    (case sx_BadNumber => k_is)
    (case kx_BadNumber => k_is)
    (case gx_BadNumber => k_is)
    (case hx_BadNumber => k_is)
    (case no_BadNumber_value => k_is)
    (case jx_BadNumber => k_is)
    (case xs_BadNumber_BadNumber => k_is)
    (case xs_BadNumber_TooLarge => k_is)
    (case rv_TooLarge => exact rfl)
    (case sx_TooLarge => k_is)
    (case kx_TooLarge => k_is)
    (case gx_TooLarge => k_is)
    (case hx_TooLarge => k_is)
    (case no_TooLarge_number => k_is)
    (case jx_TooLarge => k_is)
    (case xs_TooLarge_BadNumber => k_is)
    (case xs_TooLarge_TooLarge => k_is)
    (case qf_Line => k_is)
    (case qn_Line => k_is)
    (case qo_Line => k_is)
    (case nf_Line_Line => k_is)
    (case qf_Stairs => k_is)
    (case qn_Stairs => k_is)
    (case qo_Stairs => k_is)
    (case nf_Stairs_Stairs => k_is)
    (case nf_Stairs_Crooked => k_is)
    (case qf_Crooked => k_is)
    (case qn_Crooked => k_is)
    (case qo_Crooked => k_is)
    (case nf_Crooked_Crooked => k_is)
    (case nf_Crooked_Stairs => k_is)
    (case hn_ => k_is)
    (case htk_ => k_is)
    (case i_Line_Line => kit_is)
    (case i_Stairs_Line => kit_is)
    (case i_Crooked_Line => kit_is)
    (case i_tuple_Line => kit_is)
    (case i_list_Line => kit_is)
    (case i_Line_Stairs => kit_is)
    (case i_Stairs_Stairs => kit_is)
    (case i_Crooked_Stairs => kit_is)
    (case i_tuple_Stairs => kit_is)
    (case i_list_Stairs => kit_is)
    (case i_Line_Crooked => kit_is)
    (case i_Stairs_Crooked => kit_is)
    (case i_Crooked_Crooked => kit_is)
    (case i_tuple_Crooked => kit_is)
    (case i_list_Crooked => kit_is)
    (case fn_BadNumber___init__ => k_is)
    (case fn_TooLarge___init__ => k_is)
    (case fn_Line___init__ => k_is)
    (case fn_Line___eq__ => k_is)
    (case fn_Line_told => k_is)
    (case fn_Line_at => k_is)
    (case fn_Stairs___init__ => k_is)
    (case fn_Stairs___bool__ => k_is)
    (case fn_Stairs___eq__ => k_is)
    (case fn_Stairs_shows => k_is)
    (case fn_Crooked___init__ => k_is)
    (case fn_Crooked___bool__ => k_is)
    (case fn_Crooked___eq__ => k_is)
    (case fn_Crooked_shows => k_is)
    (case n_all => k_is)
    (case n_any => k_is)
    (case n_bool => k_is)
    (case n_enumerate => k_is)
    (case n_int => k_is)
    (case n_isinstance => k_is)
    (case n_len => k_is)
    (case n_list => k_is)
    (case n_max => k_is)
    (case n_min => k_is)
    (case n_range => k_is)
    (case n_tuple => k_is)
