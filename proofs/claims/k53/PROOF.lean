import PyProof.Rows.All
import Wide.All
import OpenK.AllK
import Wide.FinOn
import HandS.ForMost
import HandS.ForExc
import HandS.Wide
import HandS.WideBits
import HandS.IsInst
import HandS.Flow
import HandS.Style
import HandS.Sort
import HandS.SortInts
import HandS.Zip
import HandS.Conv
import HandS.TupAny
import HandS.Codes
import HandS.Star
import HandS.ExcInit
import HandS.TryMany
import HandS.TupLe
import PySem.Challenge.RW_pointorstrip_k53_words_of_formats
set_option Elab.async false
set_option linter.all false
set_option maxRecDepth 100000
namespace QL
open PySem PySem.Spec PyProof.Rows L2

/-! ### pure data -/
abbrev DK := Sum Key (List Key)
inductive D where
  | non | bl (b : Bool) | int (i : Int) | str (x : Str) | raw (v : V) | scr (ns : List Int)
  | tup (xs : List D) | lst (xs : List D) | dic (ks : List DK) (xs : List D) | obj (C : Addr) (ns : List Str) (xs : List D)

mutual
/-- the value v is the datum in the frozen heap F -/
def Rep (K : PySem.W.Frag) (F : Hp) : D → V → Prop
  | .non, v => v = .non
  | .bl b, v => v = .bl b
  | .int i, v => v = .int i
  | .str x, v => v = .str x
  | .raw u, v => v = u
  | .scr ns, v => ∃ a, v = .ref a ∧ SqL K F a (ns.map V.int)
  | .tup xs, v => ∃ a vs, v = .ref a ∧ SqT K F a vs ∧ RepL K F xs vs
  | .lst xs, v => ∃ a vs, v = .ref a ∧ F a = some (.lst vs) ∧ RepL K F xs vs
  | .dic ks xs, v => ∃ a, v = .ref a ∧ ((∃ kvs : List (Key × V), F a = some (.dK kvs) ∧ ks = kvs.map (fun p => Sum.inl p.1) ∧ RepL K F xs (kvs.map (·.2))) ∨
      (∃ kvs : List (List Key × V), F a = some (.dT kvs) ∧ ks = kvs.map (fun p => Sum.inr p.1) ∧ RepL K F xs (kvs.map (·.2))))
  | .obj C ns xs, v => ∃ a dx fs, v = .ref a ∧ F a = some (.ins C dx fs) ∧ fs.map (·.1) = ns ∧ RepL K F xs (fs.map (·.2))
def RepL (K : PySem.W.Frag) (F : Hp) : List D → List V → Prop
  | [], vs => vs = []
  | x :: xs, vs => ∃ v r, vs = v :: r ∧ Rep K F x v ∧ RepL K F xs r
end

theorem same_sqt {K : PySem.W.Frag} {H H' : Hp} {a : Addr} {xs : List V} (e : Same H H') (h : SqT K H a xs) : SqT K H' a xs := by
  rcases h with (h | ⟨o, h⟩) | h
  · exact .inl (.inl (e _ _ h))
  · exact .inl (.inr ⟨o, e _ _ h⟩)
  · exact .inr h
section
variable {K : PySem.W.Frag} {F F' : Hp}
mutual
theorem Rep.mono (e : Same F F') : ∀ (d : D) (v : V), Rep K F d v → Rep K F' d v
  | .non, _, h => h
  | .bl _, _, h => h
  | .int _, _, h => h
  | .str _, _, h => h
  | .raw _, _, h => h
  | .tup xs, _, ⟨a, vs, h1, h2, h3⟩ => ⟨a, vs, h1, same_sqt e h2, RepL.mono e xs vs h3⟩
  | .scr xs, _, ⟨a, h1, h2⟩ => ⟨a, h1, e.seq h2⟩
  | .lst xs, _, ⟨a, vs, h1, h2, h3⟩ => ⟨a, vs, h1, e _ _ h2, RepL.mono e xs vs h3⟩
  | .dic ks xs, _, ⟨a, h1, h⟩ => ⟨a, h1, h.elim (fun ⟨kvs, h2, h3, h4⟩ => .inl ⟨kvs, e _ _ h2, h3, RepL.mono e xs _ h4⟩) (fun ⟨kvs, h2, h3, h4⟩ => .inr ⟨kvs, e _ _ h2, h3, RepL.mono e xs _ h4⟩)⟩
  | .obj C ns xs, _, ⟨a, dx, fs, h1, h2, h3, h4⟩ => ⟨a, dx, fs, h1, e _ _ h2, h3, RepL.mono e xs _ h4⟩
theorem RepL.mono (e : Same F F') : ∀ (xs : List D) (vs : List V), RepL K F xs vs → RepL K F' xs vs
  | [], _, h => h
  | x :: xs, _, ⟨v, r, h1, h2, h3⟩ => ⟨v, r, h1, Rep.mono e x v h2, RepL.mono e xs r h3⟩
end
theorem RepL.length : ∀ {xs : List D} {vs : List V}, RepL K F xs vs → xs.length = vs.length
  | [], _, h => by rw [show _ = [] from h]; rfl
  | x :: xs, _, ⟨v, r, h1, h2, h3⟩ => by rw [h1, List.length_cons, List.length_cons, RepL.length h3]
theorem RepL.get : ∀ {xs : List D} {vs : List V} {i : Nat} {d : D}, RepL K F xs vs → xs[i]? = some d → ∃ v, vs[i]? = some v ∧ Rep K F d v
  | [], _, _, _, _, e => by simp at e
  | x :: xs, _, 0, d, ⟨v, r, h1, h2, h3⟩, e => by
    have e' : x = d := by simpa using e
    subst e'; exact ⟨v, by rw [h1]; rfl, h2⟩
  | x :: xs, _, i + 1, d, ⟨v, r, h1, h2, h3⟩, e => by
    obtain ⟨u, hu, ru⟩ := RepL.get (i := i) (d := d) h3 (by simpa using e)
    exact ⟨u, by rw [h1]; simpa using hu, ru⟩
theorem RepL.getV : ∀ {xs : List D} {vs : List V} {i : Nat} {v : V}, RepL K F xs vs → vs[i]? = some v → ∃ d, xs[i]? = some d ∧ Rep K F d v
  | [], _, _, _, h, e => by rw [show _ = [] from h] at e; simp at e
  | x :: xs, _, 0, d, ⟨v, r, h1, h2, h3⟩, e => by
    rw [h1] at e
    have e' : v = d := by simpa using e
    subst e'; exact ⟨x, rfl, h2⟩
  | x :: xs, _, i + 1, d, ⟨v, r, h1, h2, h3⟩, e => by
    rw [h1] at e
    obtain ⟨u, hu, ru⟩ := RepL.getV (i := i) (v := d) h3 (by simpa using e)
    exact ⟨u, by simpa using hu, ru⟩
theorem RepL.append : ∀ {xs ys : List D} {vs us : List V}, RepL K F xs vs → RepL K F ys us → RepL K F (xs ++ ys) (vs ++ us)
  | [], _, _, _, h, g => by rw [show _ = [] from h]; exact g
  | x :: xs, _, _, _, ⟨v, r, h1, h2, h3⟩, g => by rw [h1]; exact ⟨v, r ++ _, rfl, h2, RepL.append h3 g⟩
theorem RepL.one {d : D} {v : V} (h : Rep K F d v) : RepL K F [d] [v] := ⟨v, [], rfl, h, rfl⟩
theorem RepL.take : ∀ {xs : List D} {vs : List V} (n : Nat), RepL K F xs vs → RepL K F (xs.take n) (vs.take n)
  | _, _, 0, _ => by simp only [List.take_zero]; rfl
  | [], _, n + 1, h => by rw [show _ = [] from h]; rfl
  | x :: xs, _, n + 1, ⟨v, r, h1, h2, h3⟩ => by rw [h1]; exact ⟨v, _, rfl, h2, RepL.take n h3⟩
theorem RepL.drop : ∀ {xs : List D} {vs : List V} (n : Nat), RepL K F xs vs → RepL K F (xs.drop n) (vs.drop n)
  | xs, vs, 0, h => h
  | [], _, n + 1, h => by rw [show _ = [] from h]; rfl
  | x :: xs, _, n + 1, ⟨v, r, h1, h2, h3⟩ => by rw [h1]; exact RepL.drop n h3
theorem RepL.set : ∀ {xs : List D} {vs : List V} {d : D} {v : V} (n : Nat), RepL K F xs vs → Rep K F d v → RepL K F (xs.set n d) (vs.set n v)
  | [], _, _, _, _, h, _ => by rw [show _ = [] from h]; rfl
  | x :: xs, _, _, w, 0, ⟨v, r, h1, h2, h3⟩, g => by rw [h1]; exact ⟨w, r, rfl, g, h3⟩
  | x :: xs, _, _, _, n + 1, ⟨v, r, h1, h2, h3⟩, g => by rw [h1]; exact ⟨v, _, rfl, h2, RepL.set n h3 g⟩
theorem RepL.reverse : ∀ {xs : List D} {vs : List V}, RepL K F xs vs → RepL K F xs.reverse vs.reverse
  | [], _, h => by rw [show _ = [] from h]; rfl
  | x :: xs, _, ⟨v, r, h1, h2, h3⟩ => by rw [h1, List.reverse_cons, List.reverse_cons]; exact RepL.append (RepL.reverse h3) (RepL.one h2)
theorem RepL.ints : ∀ {ns : List Int} {vs : List V}, RepL K F (ns.map D.int) vs → vs = ns.map V.int
  | [], _, h => h
  | n :: ns, _, ⟨v, r, h1, h2, h3⟩ => by rw [h1, show v = .int n from h2, RepL.ints h3]; rfl
theorem RepL.of_ints : ∀ {ns : List Int}, RepL K F (ns.map D.int) (ns.map V.int)
  | [] => rfl
  | n :: ns => ⟨_, _, rfl, rfl, RepL.of_ints⟩
theorem RepL.bls : ∀ {ns : List Bool} {vs : List V}, RepL K F (ns.map D.bl) vs → vs = ns.map V.bl
  | [], _, h => h
  | n :: ns, _, ⟨v, r, h1, h2, h3⟩ => by rw [h1, show v = .bl n from h2, RepL.bls h3]; rfl
end

/-! ### slots -/
inductive Slot where
  | un | val (d : D) | own (d : D)

/-- an owned object: its content -/
def OwnH (K : PySem.W.Frag) (F : Hp) : D → HO → Prop
  | .lst xs, ho => ∃ vs, ho = .lst vs ∧ RepL K F xs vs
  | .dic ks xs, ho => (∃ kvs : List (Key × V), ho = .dK kvs ∧ ks = kvs.map (fun p => Sum.inl p.1) ∧ RepL K F xs (kvs.map (·.2))) ∨
      (∃ kvs : List (List Key × V), ho = .dT kvs ∧ ks = kvs.map (fun p => Sum.inr p.1) ∧ RepL K F xs (kvs.map (·.2)))
  | .obj C ns xs, ho => ∃ dx fs, ho = .ins C dx fs ∧ fs.map (·.1) = ns ∧ RepL K F xs (fs.map (·.2))
  | _, _ => False
theorem OwnH.mono {K : PySem.W.Frag} {F F' : Hp} (e : Same F F') : ∀ {d : D} {ho : HO}, OwnH K F d ho → OwnH K F' d ho
  | .lst xs, _, ⟨vs, h1, h2⟩ => ⟨vs, h1, RepL.mono e _ _ h2⟩
  | .dic ks xs, _, h => h.elim (fun ⟨kvs, h2, h3, h4⟩ => .inl ⟨kvs, h2, h3, RepL.mono e xs _ h4⟩) (fun ⟨kvs, h2, h3, h4⟩ => .inr ⟨kvs, h2, h3, RepL.mono e xs _ h4⟩)
  | .obj C ns xs, _, ⟨dx, fs, h1, h2, h3⟩ => ⟨dx, fs, h1, h2, RepL.mono e _ _ h3⟩
  | .non, _, h => h.elim
  | .bl _, _, h => h.elim
  | .int _, _, h => h.elim
  | .str _, _, h => h.elim
  | .raw _, _, h => h.elim
  | .scr _, _, h => h.elim
  | .tup _, _, h => h.elim
theorem same_upd {H : Hp} {p : Addr} {o : HO} (h : H p = none) : Same H (upd H p o) := fun b x e => by
  rw [upd_ne (ne_of_none e h)]
  exact e
theorem same_upd2 {F H : Hp} {p : Addr} {o : HO} (s : Same F H) (h : F p = none) : Same F (upd H p o) := fun b x e => by
  rw [upd_ne (ne_of_none e h)]
  exact s _ _ e
theorem same_upd3 {F H : Hp} {p : Addr} {o : HO} (s : Same F H) (h : H p = some o) : Same (upd F p o) H := fun b x e => by
  by_cases hb : b = p
  · subst hb; rw [upd_same] at e; cases e; exact h
  · rw [upd_ne hb] at e; exact s _ _ e
theorem same_updb {F H : Hp} {p : Addr} {o : HO} (s : Same F H) : Same (upd F p o) (upd H p o) := fun b x e => by
  by_cases hb : b = p
  · subst hb; rw [upd_same] at e ⊢; exact e
  · rw [upd_ne hb] at e ⊢; exact s _ _ e
/-- frozen: it is a datum -/
theorem OwnH.rep {K : PySem.W.Frag} {F : Hp} {a : Addr} (hn : F a = none) : ∀ {d : D} {ho : HO}, OwnH K F d ho → Rep K (upd F a ho) d (.ref a)
  | .lst xs, _, ⟨vs, h1, h2⟩ => ⟨a, vs, rfl, by rw [upd_same, h1], RepL.mono (same_upd hn) _ _ h2⟩
  | .dic ks xs, _, h => ⟨a, rfl, h.elim (fun ⟨kvs, h2, h3, h4⟩ => .inl ⟨kvs, by rw [upd_same, h2], h3, RepL.mono (same_upd hn) xs _ h4⟩) (fun ⟨kvs, h2, h3, h4⟩ => .inr ⟨kvs, by rw [upd_same, h2], h3, RepL.mono (same_upd hn) xs _ h4⟩)⟩
  | .obj C ns xs, _, ⟨dx, fs, h1, h2, h3⟩ => ⟨a, dx, fs, rfl, by rw [upd_same, h1], h2, RepL.mono (same_upd hn) _ _ h3⟩
  | .non, _, h => h.elim
  | .bl _, _, h => h.elim
  | .int _, _, h => h.elim
  | .str _, _, h => h.elim
  | .raw _, _, h => h.elim
  | .scr _, _, h => h.elim
  | .tup _, _, h => h.elim

def SlotR (K : PySem.W.Frag) (B F H : Hp) (o : Option V) : Slot → Prop
  | .un => True
  | .val d => ∃ v, o = some v ∧ Rep K F d v
  | .own d => ∃ a ho, o = some (.ref a) ∧ F a = none ∧ B a = none ∧ H a = some ho ∧ OwnH K F d ho

/-- what a body starts from: the heap that is to be kept, the address of the object in slot 0 that may be changed -/
structure Bx where
  B : Hp
  io : Option Addr
  F0 : Hp

structure ER (K : PySem.W.Frag) (bx : Bx) (F : Hp) (env : List Slot) (σ : L2.St) (H : Hp) : Prop where
  sb : Same bx.B H
  sf : Same F H
  len : env.length = σ.length
  slots : ∀ (i : Nat) (s : Slot), env[i]? = some s → ∃ o, σ[i]? = some o ∧ SlotR K bx.B F H o s
  sep : ∀ (i j : Nat) d e a, env[i]? = some (.own d) → env[j]? = some (.own e) → σ[i]? = some (some (.ref a)) → σ[j]? = some (some (.ref a)) → i = j
  io : ∀ a, bx.io = some a → σ[0]? = some (some (.ref a)) ∧ ∃ d, env[0]? = some (.own d)
  f0 : Same bx.F0 F
  fz : ∀ a, bx.F0 a = none → bx.B a ≠ none → F a = none

section
variable {K : PySem.W.Frag} {bx : Bx} {F F' H H' : Hp} {env : List Slot} {σ : L2.St}
theorem ER.bh (R : ER K bx F env σ H) {a : Addr} (h : bx.B a ≠ none) : H a ≠ none := by
  cases e : bx.B a with
  | none => exact absurd e h
  | some o => rw [R.sb a o e]; simp
/-- the heap grows or a frozen part is added: nothing that is owned is touched -/
theorem ER.grow (R : ER K bx F env σ H) (e : Same F F') (sf : Same F' H') (sh : Same H H') (hn : ∀ a, F a = none → H a ≠ none → F' a = none) : ER K bx F' env σ H' where
  sb := fun b o z => sh _ _ (R.sb b o z)
  sf := sf
  len := R.len
  slots := fun i s z => by
    obtain ⟨o, h1, h2⟩ := R.slots i s z
    refine ⟨o, h1, ?_⟩
    cases s with
    | un => trivial
    | val d => obtain ⟨v, h3, h4⟩ := h2; exact ⟨v, h3, Rep.mono e _ _ h4⟩
    | own d => obtain ⟨a, ho, h3, h4, h5, h6, h7⟩ := h2; exact ⟨a, ho, h3, hn a h4 (by rw [h6]; simp), h5, sh _ _ h6, OwnH.mono e h7⟩
  sep := R.sep
  io := R.io
  f0 := R.f0.trans e
  fz := fun a h1 h2 => hn a (R.fz a h1 h2) (R.bh h2)
/-- a new object, frozen at once -/
theorem ER.laid {p : Addr} {o : HO} (R : ER K bx F env σ H) (hp : H p = none) : ER K bx (upd F p o) env σ (upd H p o) :=
  R.grow (same_upd (R.sf.free hp)) (same_updb R.sf) (same_upd hp) fun a h1 h2 => by
    rw [upd_ne (fun z => h2 (by rw [z]; exact hp))]; exact h1
/-- .. not frozen -/
theorem ER.laid0 {p : Addr} {o : HO} (R : ER K bx F env σ H) (hp : H p = none) : ER K bx F env σ (upd H p o) :=
  R.grow (Same.refl _) (same_upd2 R.sf (R.sf.free hp)) (same_upd hp) fun a h1 h2 => h1
end

/-! ### readings over pure data -/
abbrev XD := D → List Slot → Prop
abbrev RE := List Slot → (D → List Slot → Prop) → Prop
abbrev RB := List Slot → (Bool → List Slot → Prop) → Prop
abbrev RA := List Slot → (List D → List Slot → Prop) → Prop
structure PEnds where
  nx : List Slot → Prop
  rt : D → List Slot → Prop
  bk : List Slot → Prop := fun _ => False
  ct : List Slot → Prop := fun _ => False
abbrev RS := PEnds → List Slot → Prop
section
variable (K : PySem.W.Frag) (bx : Bx)
def up (t : RE) : TE := fun σ H Q' => ∃ env F Q, ER K bx F env σ H ∧ t env Q ∧
  ∀ d v env' F' H', Same F F' → ER K bx F' env' σ H' → Rep K F' d v → Q d env' → Q' v H'
/-- an object at a that is new and nobody's -/
structure Lone (bx : Bx) (F : Hp) (env : List Slot) (σ : L2.St) (H : Hp) (a : Addr) : Prop where
  f : F a = none
  b : bx.B a = none
  h : H a ≠ none
  o : ∀ (i : Nat) d, env[i]? = some (.own d) → σ[i]? ≠ some (some (.ref a))
def upN (t : RE) : TE := fun σ H Q' => ∃ env F Q, ER K bx F env σ H ∧ t env Q ∧
  ∀ d a ho env' F' H', Same F F' → ER K bx F' env' σ H' → Lone bx F' env' σ H' a → H' a = some ho → OwnH K F' d ho → Q d env' → Q' (.ref a) H'
def upT (t : RB) : TT := fun σ H Q' => ∃ env F Q, ER K bx F env σ H ∧ t env Q ∧
  ∀ b env' F' H', Same F F' → ER K bx F' env' σ H' → Q b env' → Q' b H'
def upA (t : RA) : TA := fun σ H Q' => ∃ env F Q, ER K bx F env σ H ∧ t env Q ∧
  ∀ ds vs env' F' H', Same F F' → ER K bx F' env' σ H' → RepL K F' ds vs → Q ds env' → Q' vs H'
def upS (t : RS) : TS := fun Dn σ H => ∃ env F en, ER K bx F env σ H ∧ t en env ∧
  (∀ env' F' σ' H', Same F F' → ER K bx F' env' σ' H' → en.nx env' → Dn.nx σ' H') ∧
  (∀ d v env' F' σ' H', Same F F' → ER K bx F' env' σ' H' → Rep K F' d v → en.rt d env' → Dn.rt v H') ∧
  (∀ env' F' σ' H', Same F F' → ER K bx F' env' σ' H' → en.bk env' → Dn.bk σ' H') ∧
  (∀ env' F' σ' H', Same F F' → ER K bx F' env' σ' H' → en.ct env' → Dn.ct σ' H')
end
abbrev QE (X : Cx) (bx : Bx) (e : Expr) (t : RE) : Prop := L2.PE X e (up X.K bx t)
abbrev QN (X : Cx) (bx : Bx) (e : Expr) (t : RE) : Prop := L2.PE X e (upN X.K bx t)
abbrev QT (X : Cx) (bx : Bx) (e : Expr) (t : RB) : Prop := L2.PT X e (upT X.K bx t)
abbrev QW (X : Cx) (bx : Bx) (e : Expr) (t : RB) : Prop := L2.PW X e (upT X.K bx t)
abbrev QA (X : Cx) (bx : Bx) (es : List Expr) (t : RA) : Prop := L2.PA X es (upA X.K bx t)
abbrev QS (X : Cx) (bx : Bx) (st : Stmt) (t : RS) : Prop := L2.PS X st (upS X.K bx t)
abbrev QSs (X : Cx) (bx : Bx) (st : List Stmt) (t : RS) : Prop := L2.PSs X st (upS X.K bx t)

section
variable {X : Cx} {bx : Bx} {e a b : Expr}
theorem pe_imp {t t' : TE} (h : L2.PE X e t) (i : ∀ σ H Q, t' σ H Q → t σ H Q) : L2.PE X e t' := ⟨fun pins s σ H Q I q => h.run pins s σ H Q I (i σ H Q q)⟩
theorem pt_imp {t t' : TT} (h : L2.PT X e t) (i : ∀ σ H Q, t' σ H Q → t σ H Q) : L2.PT X e t' := ⟨fun pins s σ H Q I q => h.run pins s σ H Q I (i σ H Q q)⟩
theorem pw_imp {t t' : TT} (h : L2.PW X e t) (i : ∀ σ H Q, t' σ H Q → t σ H Q) : L2.PW X e t' := ⟨fun wh pins s σ H Q I q => h.run wh pins s σ H Q I (i σ H Q q)⟩
theorem pa_imp {es : List Expr} {t t' : TA} (h : L2.PA X es t) (i : ∀ σ H Q, t' σ H Q → t σ H Q) : L2.PA X es t' := ⟨fun pos pins s σ H Q I q => h.run pos pins s σ H Q I (i σ H Q q)⟩
theorem ps_imp {st : Stmt} {t t' : TS} (h : L2.PS X st t) (i : ∀ D σ H, t' D σ H → t D σ H) : L2.PS X st t' := ⟨fun pins s σ H D I q => h.run pins s σ H D I (i D σ H q)⟩
theorem pss_imp {st : List Stmt} {t t' : TS} (h : L2.PSs X st t) (i : ∀ D σ H, t' D σ H → t D σ H) : L2.PSs X st t' := ⟨fun pins s σ H D I q => h.run pins s σ H D I (i D σ H q)⟩

/-! ### how the heap may grow -/
structure Grow (F H F' H' : Hp) : Prop where
  e : Same F F'
  sf : Same F' H'
  sh : Same H H'
  hn : ∀ a, F a = none → H a ≠ none → F' a = none
theorem Grow.refl {F H : Hp} (s : Same F H) : Grow F H F H := ⟨Same.refl _, s, Same.refl _, fun _ h _ => h⟩
theorem Grow.laid {F H : Hp} {p : Addr} {o : HO} (s : Same F H) (hp : H p = none) : Grow F H (upd F p o) (upd H p o) :=
  ⟨same_upd (s.free hp), same_updb s, same_upd hp, fun a h1 h2 => by rw [upd_ne (fun z => h2 (by rw [z]; exact hp))]; exact h1⟩
theorem Grow.laid0 {F H : Hp} {p : Addr} {o : HO} (s : Same F H) (hp : H p = none) : Grow F H F (upd H p o) :=
  ⟨Same.refl _, same_upd2 s (s.free hp), same_upd hp, fun a h1 h2 => h1⟩
theorem Grow.trans {F H F1 H1 F2 H2 : Hp} (a : Grow F H F1 H1) (b : Grow F1 H1 F2 H2) : Grow F H F2 H2 :=
  ⟨a.e.trans b.e, b.sf, a.sh.trans b.sh, fun x h1 h2 => b.hn x (a.hn x h1 h2) (fun z => h2 (a.sh.free z))⟩
theorem ER.to {K : PySem.W.Frag} {F H F' H' : Hp} {env : List Slot} {σ : L2.St} (R : ER K bx F env σ H) (g : Grow F H F' H') : ER K bx F' env σ H' := R.grow g.e g.sf g.sh g.hn
theorem ER.lone {K : PySem.W.Frag} {F H : Hp} {env : List Slot} {σ : L2.St} {p : Addr} {o : HO} (R : ER K bx F env σ H) (hp : H p = none) : Lone bx F env σ (upd H p o) p :=
  ⟨R.sf.free hp, R.sb.free hp, by rw [upd_same]; simp, fun i d h z => by
    obtain ⟨o, h1, a, ho, h2, h3, h4, h5, h6⟩ := R.slots i _ h
    rw [z] at h1; cases h1; cases h2
    rw [hp] at h5; cases h5⟩
/-- what is nobody's may be frozen -/
theorem ER.freeze {K : PySem.W.Frag} {F H : Hp} {env : List Slot} {σ : L2.St} {p : Addr} {o : HO} (R : ER K bx F env σ H) (l : Lone bx F env σ H p) (hp : H p = some o) : ER K bx (upd F p o) env σ H where
  sb := R.sb
  sf := same_upd3 R.sf hp
  len := R.len
  slots := fun i s z => by
    obtain ⟨q, h1, h2⟩ := R.slots i s z
    refine ⟨q, h1, ?_⟩
    cases s with
    | un => trivial
    | val d => obtain ⟨v, h3, h4⟩ := h2; exact ⟨v, h3, Rep.mono (same_upd l.f) _ _ h4⟩
    | own d =>
      obtain ⟨a, ho, h3, h4, h5, h6, h7⟩ := h2
      refine ⟨a, ho, h3, ?_, h5, h6, OwnH.mono (same_upd l.f) h7⟩
      rw [upd_ne (fun e => l.o i d z (by rw [h1, h3, e]))]
      exact h4
  sep := R.sep
  io := R.io
  f0 := R.f0.trans (same_upd l.f)
  fz := fun a h1 h2 => by
    rw [upd_ne (fun e => h2 (by rw [e]; exact l.b))]
    exact R.fz a h1 h2
/-- a new object as a datum -/
theorem QN.qe {t : RE} (h : QN X bx e t) : QE X bx e t := pe_imp h fun σ H Q' ⟨env, F, Q, R, ht, k⟩ => ⟨env, F, Q, R, ht, fun d a ho env' F' H' s R' l ha o q =>
  k d (.ref a) env' (upd F' a ho) H' (s.trans (same_upd l.f)) (R'.freeze l ha) (OwnH.rep l.f o) q⟩

/-! ### names and constants -/
def rVar (i : Nat) : RE := fun env Q => match env[i]? with
  | some (.val d) => Q d env
  | _ => False
theorem q_var {i : Nat} (h : L2.PE X e (tVar i)) : QE X bx e (rVar i) := pe_imp h fun σ H Q' ⟨env, F, Q, R, ht, k⟩ => by
  unfold rVar at ht
  split at ht
  · rename_i d hd
    obtain ⟨o, h1, v, h2, h3⟩ := R.slots i _ hd
    exact ⟨v, by rw [h1, h2], k d v env F H (Same.refl _) R h3 ht⟩
  · exact ht.elim
end
end QL
set_option Elab.async false
set_option linter.all false
set_option maxRecDepth 100000
namespace QL
open PySem PySem.Spec PyProof.Rows L2
/-! ### operators by values -/
def Gr (K : PySem.W.Frag) (F H : Hp) (Q : D → Prop) (Q' : VK) : Prop := ∀ z u F' H', Grow F H F' H' → Rep K F' z u → Q z → Q' u H'
def GrN (K : PySem.W.Frag) (F H : Hp) (Q : D → Prop) (Q' : VK) : Prop := ∀ d ho p, H p = none → OwnH K F d ho → Q d → Q' (.ref p) (upd H p ho)
theorem Gr.flat {K : PySem.W.Frag} {F H : Hp} {Q : D → Prop} {Q' : VK} (g : Gr K F H Q Q') (s : Same F H) {z : D} {u : V} (r : Rep K F z u) (q : Q z) : Q' u H := g z u F H (Grow.refl s) r q
theorem Gr.toN {K : PySem.W.Frag} {F H : Hp} {Q : D → Prop} {Q' : VK} (g : Gr K F H Q Q') (s : Same F H) : GrN K F H Q Q' := fun d ho p hp o q =>
  g d (.ref p) (upd F p ho) (upd H p ho) (Grow.laid s hp) (OwnH.rep (s.free hp) o) q
/-- a new tuple -/
theorem Gr.tup {K : PySem.W.Frag} {F H : Hp} {Q : D → Prop} {Q' : VK} (g : Gr K F H Q Q') (s : Same F H) {xs : List D} {vs : List V} (r : RepL K F xs vs) (q : Q (.tup xs)) {p : Addr} (hp : H p = none) : Q' (.ref p) (upd H p (.tup vs)) :=
  g (.tup xs) (.ref p) _ _ (Grow.laid s hp) ⟨p, vs, rfl, .inl (.inl upd_same), RepL.mono (same_upd (s.free hp)) _ _ r⟩ q
theorem Gr.i {K : PySem.W.Frag} {F H : Hp} {Q : D → Prop} {Q' : VK} (g : Gr K F H Q Q') (s : Same F H) {i : Int} (q : Q (.int i)) : Q' (.int i) H := g.flat s (z := .int i) rfl q
theorem Gr.b {K : PySem.W.Frag} {F H : Hp} {Q : D → Prop} {Q' : VK} (g : Gr K F H Q Q') (s : Same F H) {i : Bool} (q : Q (.bl i)) : Q' (.bl i) H := g.flat s (z := .bl i) rfl q
theorem Gr.n {K : PySem.W.Frag} {F H : Hp} {Q : D → Prop} {Q' : VK} (g : Gr K F H Q Q') (s : Same F H) (q : Q .non) : Q' .non H := g.flat s (z := .non) rfl q
theorem Gr.s {K : PySem.W.Frag} {F H : Hp} {Q : D → Prop} {Q' : VK} (g : Gr K F H Q Q') (s : Same F H) {i : Str} (q : Q (.str i)) : Q' (.str i) H := g.flat s (z := .str i) rfl q
theorem GrN.lst {K : PySem.W.Frag} {F H : Hp} {Q : D → Prop} {Q' : VK} (g : GrN K F H Q Q') {xs : List D} {vs : List V} (r : RepL K F xs vs) (q : Q (.lst xs)) {p : Addr} (hp : H p = none) : Q' (.ref p) (upd H p (.lst vs)) :=
  g (.lst xs) (.lst vs) p hp ⟨vs, rfl, r⟩ q
theorem Gr.lst {K : PySem.W.Frag} {F H : Hp} {Q : D → Prop} {Q' : VK} (g : Gr K F H Q Q') (s : Same F H) {xs : List D} {vs : List V} (r : RepL K F xs vs) (q : Q (.lst xs)) {p : Addr} (hp : H p = none) : Q' (.ref p) (upd H p (.lst vs)) := (g.toN s).lst r q hp
abbrev V1 := D → (D → Prop) → Prop
abbrev V2 := D → D → (D → Prop) → Prop
abbrev VL := List D → (D → Prop) → Prop
def upV1 (K : PySem.W.Frag) (r : V1) : V → Hp → VK → Prop := fun v H Q' => ∃ F d Q, Same F H ∧ Rep K F d v ∧ r d Q ∧ Gr K F H Q Q'
def upV2 (K : PySem.W.Frag) (r : V2) : R2 := fun v w H Q' => ∃ F d e Q, Same F H ∧ Rep K F d v ∧ Rep K F e w ∧ r d e Q ∧ Gr K F H Q Q'
def upN2 (K : PySem.W.Frag) (r : V2) : R2 := fun v w H Q' => ∃ F d e Q, Same F H ∧ Rep K F d v ∧ Rep K F e w ∧ r d e Q ∧ GrN K F H Q Q'
def upVL (K : PySem.W.Frag) (r : VL) : List V → Hp → VK → Prop := fun vs H Q' => ∃ F ds Q, Same F H ∧ RepL K F ds vs ∧ r ds Q ∧ Gr K F H Q Q'
def upNL (K : PySem.W.Frag) (r : VL) : List V → Hp → VK → Prop := fun vs H Q' => ∃ F ds Q, Same F H ∧ RepL K F ds vs ∧ r ds Q ∧ GrN K F H Q Q'
section
variable {X : Cx} {bx : Bx} {e a b : Expr} {ta tb : RE} {pos : Pos}

theorem OpR.imp {f : Value → Value → Sem Value} {r r' : R2} (h : OpR X f r) (i : ∀ x y H Q, r' x y H Q → r x y H Q) : OpR X f r' := fun pins s σ H x y v u Q I rx ry q => h pins s σ H x y v u Q I rx ry (i _ _ _ _ q)
theorem CallR.imp {f : Value} {r r' : List V → Hp → VK → Prop} (h : CallR X f r) (i : ∀ x H Q, r' x H Q → r x H Q) : CallR X f r' := fun pins s σ H x us Q I r0 q => h pins s σ H x us Q I r0 (i _ _ _ q)
theorem opN_V {f : Value → Value → Sem Value} {r : V2} (h : OpR X f (upN2 X.K r)) : OpR X f (upV2 X.K r) := OpR.imp h fun x y H Q' ⟨F, d, e, Q, s, r1, r2, h, g⟩ => ⟨F, d, e, Q, s, r1, r2, h, g.toN s⟩
theorem callN_V {f : Value} {r : VL} (h : CallR X f (upNL X.K r)) : CallR X f (upVL X.K r) := CallR.imp h fun x H Q' ⟨F, d, Q, s, r1, h, g⟩ => ⟨F, d, Q, s, r1, h, g.toN s⟩

/-! readings -/
def rC (d : D) : RE := fun env Q => Q d env
def rOp (r : V2) (ta tb : RE) : RE := fun env Q => ta env fun d env1 => tb env1 fun e env2 => r d e fun z => Q z env2
def rUn (r : V1) (ta : RE) : RE := fun env Q => ta env fun d env1 => r d fun z => Q z env1
theorem q_con {d : D} {v : V} (h : L2.PE X e (tC v)) (r : ∀ K F, Rep K F d v) : QE X bx e (rC d) := pe_imp h fun σ H Q' ⟨env, F, Q, R, ht, k⟩ => k d v env F H (Same.refl _) R (r _ _) ht
theorem q_int {i j pos} : QE X bx (.Constant (.int i) j pos) (rC (.int i)) := q_con pe_int fun _ _ => rfl
theorem q_bl {i j pos} : QE X bx (.Constant (.bool i) j pos) (rC (.bl i)) := q_con pe_bl fun _ _ => rfl
theorem q_non {j pos} : QE X bx (.Constant .none j pos) (rC .non) := q_con pe_non fun _ _ => rfl
theorem q_str {i j pos} : QE X bx (.Constant (.str i) j pos) (rC (.str i)) := q_con pe_str fun _ _ => rfl
theorem op_up {r : V2} {ta tb : RE} {σ : L2.St} {H : Hp} {Q' : VK} : up X.K bx (rOp r ta tb) σ H Q' → tOp (upV2 X.K r) (up X.K bx ta) (up X.K bx tb) σ H Q' := fun ⟨env, F, Q, R, ht, k⟩ =>
  ⟨env, F, _, R, ht, fun d v env1 F1 H1 s1 R1 r1 q1 => ⟨env1, F1, _, R1, q1, fun d2 w env2 F2 H2 s2 R2 r2 q2 => ⟨F2, d, d2, _, R2.sf, Rep.mono s2 _ _ r1, r2, q2, fun z u F3 H3 g r3 q3 =>
    k z u env2 F3 H3 ((s1.trans s2).trans g.e) (R2.to g) r3 q3⟩⟩⟩
theorem op_upN {r : V2} {ta tb : RE} {σ : L2.St} {H : Hp} {Q' : VK} : upN X.K bx (rOp r ta tb) σ H Q' → tOp (upN2 X.K r) (up X.K bx ta) (up X.K bx tb) σ H Q' := fun ⟨env, F, Q, R, ht, k⟩ =>
  ⟨env, F, _, R, ht, fun d v env1 F1 H1 s1 R1 r1 q1 => ⟨env1, F1, _, R1, q1, fun d2 w env2 F2 H2 s2 R2 r2 q2 => ⟨F2, d, d2, _, R2.sf, Rep.mono s2 _ _ r1, r2, q2, fun z ho p hp o q3 =>
    k z p ho env2 F2 (upd H2 p ho) (s1.trans s2) (R2.laid0 hp) (R2.lone hp) upd_same o q3⟩⟩⟩
theorem q_op {op : Operator} {r : V2} (ho : OpR X (binaryOp op) (upV2 X.K r)) (ha : QE X bx a ta) (hb : QE X bx b tb) : QE X bx (.BinOp a op b pos) (rOp r ta tb) := pe_imp (pe_op ho ha hb) fun _ _ _ => op_up
theorem q_opN {op : Operator} {r : V2} (ho : OpR X (binaryOp op) (upN2 X.K r)) (ha : QE X bx a ta) (hb : QE X bx b tb) : QN X bx (.BinOp a op b pos) (rOp r ta tb) := pe_imp (pe_op ho ha hb) fun _ _ _ => op_upN
theorem q_un {op : UnaryOp} {r : V1} (ho : UnR X (unaryOp op) (upV1 X.K r)) (ha : QE X bx a ta) : QE X bx (.UnaryOp op a pos) (rUn r ta) := pe_imp (pe_un ho ha) fun σ H Q' ⟨env, F, Q, R, ht, k⟩ =>
  ⟨env, F, _, R, ht, fun d v env1 F1 H1 s1 R1 r1 q1 => ⟨F1, d, _, R1.sf, r1, q1, fun z u F3 H3 g r3 q3 => k z u env1 F3 H3 (s1.trans g.e) (R1.to g) r3 q3⟩⟩
theorem q_cmp {op : CmpOp} {r : V2} (ho : OpR X (compareOp op) (upV2 X.K r)) (ha : QE X bx a ta) (hb : QE X bx b tb) (hm : behindInMarks op b = false := by first | exact nomark _ | rfl) : QE X bx (.Compare a [op] [b] pos) (rOp r ta tb) :=
  pe_imp (pe_cmpR ho ha hb hm) fun _ _ _ => op_up
/-- a comparison whose answer is a bool, as a test -/
def rTst (t : RE) : RB := fun env Q => t env fun d env1 => match d with | .bl k => Q k env1 | _ => False
theorem tst_up {t : RE} {σ : L2.St} {H : Hp} {Q' : Bool → Hp → Prop} : upT X.K bx (rTst t) σ H Q' → up X.K bx t σ H fun x H' => ∃ k, x = .bl k ∧ Q' k H' := fun ⟨env, F, Q, R, ht, k⟩ =>
  ⟨env, F, _, R, ht, fun d v env1 F1 H1 s1 R1 r1 q1 => by
    cases d with
    | bl c => exact ⟨c, r1, k c env1 F1 H1 s1 R1 q1⟩
    | _ => exact q1.elim⟩
theorem up_mono {t : RE} {σ : L2.St} {H : Hp} {Q1 Q2 : VK} (h : up X.K bx t σ H Q1) (i : ∀ v H, Q1 v H → Q2 v H) : up X.K bx t σ H Q2 := by
  obtain ⟨env, F, Q, R, ht, k⟩ := h
  exact ⟨env, F, Q, R, ht, fun d v env' F' H' s R' r q => i _ _ (k d v env' F' H' s R' r q)⟩
theorem qt_cmp {op : CmpOp} {r : V2} (ho : OpR X (compareOp op) (upV2 X.K r)) (ha : QE X bx a ta) (hb : QE X bx b tb) (hm : behindInMarks op b = false := by first | exact nomark _ | rfl) : QT X bx (.Compare a [op] [b] pos) (rTst (rOp r ta tb)) :=
  pt_imp (pt_cmpR ho ha hb hm) fun σ H Q' h => op_up (tst_up h)

/-! ### truth -/
def truD : D → Option Bool
  | .non => some false
  | .bl b => some b
  | .int i => some (i != 0)
  | .tup xs => some (!xs.isEmpty)
  | .lst xs => some (!xs.isEmpty)
  | .scr ns => some (!ns.isEmpty)
  | _ => none
theorem RepL.isEmpty {K : PySem.W.Frag} {F : Hp} : ∀ {xs : List D} {vs : List V}, RepL K F xs vs → xs.isEmpty = vs.isEmpty
  | [], _, h => by rw [show _ = [] from h]; rfl
  | _ :: _, _, ⟨v, r, h1, _, _⟩ => by rw [h1]; rfl
theorem tru_of {K : PySem.W.Frag} {F H : Hp} (s : Same F H) : ∀ {d : D} {v : V} {k : Bool}, Rep K F d v → truD d = some k → TruV K v H k
  | .non, _, _, r, e => by rw [show _ = V.non from r]; exact (Option.some.inj e).symm
  | .bl b, _, _, r, e => by rw [show _ = V.bl b from r]; exact (Option.some.inj e).symm
  | .int b, _, _, r, e => by rw [show _ = V.int b from r]; exact (Option.some.inj e).symm
  | .tup xs, _, _, ⟨a, vs, h1, h2, h3⟩, e => by rw [h1]; exact .inr (.inl ⟨vs, same_sqt s h2, by rw [← RepL.isEmpty h3]; exact (Option.some.inj e).symm⟩)
  | .lst xs, _, _, ⟨a, vs, h1, h2, h3⟩, e => by rw [h1]; exact .inl ⟨vs, .inl (.inl (s _ _ h2)), by rw [← RepL.isEmpty h3]; exact (Option.some.inj e).symm⟩
  | .scr xs, _, _, ⟨a, h1, h2⟩, e => by rw [h1]; exact .inl ⟨_, s.seq h2, by rw [List.isEmpty_map]; exact (Option.some.inj e).symm⟩
  | .str _, _, _, _, e => nomatch e
  | .raw _, _, _, _, e => nomatch e
  | .dic _ _, _, _, _, e => nomatch e
  | .obj _ _ _, _, _, _, e => nomatch e
def rTru (t : RE) : RB := fun env Q => t env fun d env1 => match truD d with | some k => Q k env1 | none => False
theorem qt_tru (ha : QE X bx a ta) (he : ∀ whole, isTrue a X.env whole = (do let v ← whole; standAt a.pos; holding [v] (truthy v)) := by intro _; rfl) : QT X bx a (rTru ta) :=
  pt_imp (pt_truth ha he) fun σ H Q' ⟨env, F, Q, R, ht, k⟩ => ⟨env, F, _, R, ht, fun d v env1 F1 H1 s1 R1 r1 q1 => by
    split at q1
    · rename_i c hc
      exact ⟨c, tru_of R1.sf r1 hc, k c env1 F1 H1 s1 R1 q1⟩
    · exact q1.elim⟩
def rNotT (t : RB) : RB := fun env Q => t env fun b env1 => Q (!b) env1
theorem qt_not {t : RB} (h : QT X bx a t) : QT X bx (.UnaryOp .Not a pos) (rNotT t) := pt_imp (pt_not h) fun σ H Q' ⟨env, F, Q, R, ht, k⟩ => ⟨env, F, _, R, ht, fun b env1 F1 H1 s1 R1 q1 => k (!b) env1 F1 H1 s1 R1 q1⟩
def rAndT (t u : RB) : RB := fun env Q => t env fun b env1 => if b = true then u env1 Q else Q false env1
def rOrT (t u : RB) : RB := fun env Q => t env fun b env1 => if b = true then Q true env1 else u env1 Q
theorem qw_and1 {t : RB} (h : QT X bx a t) : QW X bx (.BoolOp .And [a] pos) t := pw_and1 h
theorem qw_or1 {t : RB} (h : QT X bx a t) : QW X bx (.BoolOp .Or [a] pos) t := pw_or1 h
theorem qw_and {t u : RB} {rest : List Expr} (h : QT X bx a t) (g : QW X bx (.BoolOp .And (b :: rest) pos) u) : QW X bx (.BoolOp .And (a :: b :: rest) pos) (rAndT t u) := pw_imp (pw_and h g) fun σ H Q' ⟨env, F, Q, R, ht, k⟩ => ⟨env, F, _, R, ht, fun c env1 F1 H1 s1 R1 q1 => by
    cases c with
    | true => rw [if_pos rfl] at q1 ⊢; exact ⟨env1, F1, Q, R1, q1, fun c2 env2 F2 H2 s2 R2 q2 => k c2 env2 F2 H2 (s1.trans s2) R2 q2⟩
    | false => rw [if_neg Bool.false_ne_true] at q1 ⊢; exact k false env1 F1 H1 s1 R1 q1⟩
theorem qw_or {t u : RB} {rest : List Expr} (h : QT X bx a t) (g : QW X bx (.BoolOp .Or (b :: rest) pos) u) : QW X bx (.BoolOp .Or (a :: b :: rest) pos) (rOrT t u) := pw_imp (pw_or h g) fun σ H Q' ⟨env, F, Q, R, ht, k⟩ => ⟨env, F, _, R, ht, fun c env1 F1 H1 s1 R1 q1 => by
    cases c with
    | false => rw [if_neg Bool.false_ne_true] at q1 ⊢; exact ⟨env1, F1, Q, R1, q1, fun c2 env2 F2 H2 s2 R2 q2 => k c2 env2 F2 H2 (s1.trans s2) R2 q2⟩
    | true => rw [if_pos rfl] at q1 ⊢; exact k true env1 F1 H1 s1 R1 q1⟩
theorem qt_w {t : RB} (h : QW X bx a t) : QT X bx a t := h.pt
/-- and, or, not, as values -/
def rAnd (t u : RE) : RE := fun env Q => t env fun d env1 => match truD d with | some k => (if k = true then u env1 Q else Q d env1) | none => False
def rOr (t u : RE) : RE := fun env Q => t env fun d env1 => match truD d with | some k => (if k = true then Q d env1 else u env1 Q) | none => False
def rNot (t : RE) : RE := fun env Q => t env fun d env1 => match truD d with | some k => Q (.bl (!k)) env1 | none => False
theorem q_one {op} {t : RE} (h : QE X bx a t) : QE X bx (.BoolOp op [a] pos) t := pe_one h
theorem q_and {t u : RE} {rest : List Expr} (h : QE X bx a t) (g : QE X bx (.BoolOp .And (b :: rest) pos) u) : QE X bx (.BoolOp .And (a :: b :: rest) pos) (rAnd t u) := pe_imp (pe_andT h g) fun σ H Q' ⟨env, F, Q, R, ht, k⟩ => ⟨env, F, _, R, ht, fun d v env1 F1 H1 s1 R1 r1 q1 => by
    split at q1
    · rename_i c hc
      refine ⟨c, tru_of R1.sf r1 hc, ?_⟩
      cases c with
      | true => rw [if_pos rfl] at q1 ⊢; exact ⟨env1, F1, Q, R1, q1, fun d2 v2 env2 F2 H2 s2 R2 r2 q2 => k d2 v2 env2 F2 H2 (s1.trans s2) R2 r2 q2⟩
      | false => rw [if_neg Bool.false_ne_true] at q1 ⊢; exact k d v env1 F1 H1 s1 R1 r1 q1
    · exact q1.elim⟩
theorem q_or {t u : RE} {rest : List Expr} (h : QE X bx a t) (g : QE X bx (.BoolOp .Or (b :: rest) pos) u) : QE X bx (.BoolOp .Or (a :: b :: rest) pos) (rOr t u) := pe_imp (pe_orT h g) fun σ H Q' ⟨env, F, Q, R, ht, k⟩ => ⟨env, F, _, R, ht, fun d v env1 F1 H1 s1 R1 r1 q1 => by
    split at q1
    · rename_i c hc
      refine ⟨c, tru_of R1.sf r1 hc, ?_⟩
      cases c with
      | false => rw [if_neg Bool.false_ne_true] at q1 ⊢; exact ⟨env1, F1, Q, R1, q1, fun d2 v2 env2 F2 H2 s2 R2 r2 q2 => k d2 v2 env2 F2 H2 (s1.trans s2) R2 r2 q2⟩
      | true => rw [if_pos rfl] at q1 ⊢; exact k d v env1 F1 H1 s1 R1 r1 q1
    · exact q1.elim⟩
theorem q_not {t : RE} (h : QE X bx a t) : QE X bx (.UnaryOp .Not a pos) (rNot t) := pe_imp (pe_notT h) fun σ H Q' ⟨env, F, Q, R, ht, k⟩ => ⟨env, F, _, R, ht, fun d v env1 F1 H1 s1 R1 r1 q1 => by
    split at q1
    · rename_i c hc
      exact ⟨c, tru_of R1.sf r1 hc, k (.bl (!c)) (.bl (!c)) env1 F1 H1 s1 R1 rfl q1⟩
    · exact q1.elim⟩
def rIf (c : RB) (t u : RE) : RE := fun env Q => c env fun b env1 => if b = true then t env1 Q else u env1 Q
theorem q_if {c : RB} {t u : RE} {ec : Expr} (hc : QT X bx ec c) (h : QE X bx a t) (g : QE X bx b u) : QE X bx (.IfExp ec a b pos) (rIf c t u) := pe_imp (pe_ifExp hc h g) fun σ H Q' ⟨env, F, Q, R, ht, k⟩ => ⟨env, F, _, R, ht, fun c env1 F1 H1 s1 R1 q1 => by
    cases c with
    | true => rw [if_pos rfl] at q1 ⊢; exact ⟨env1, F1, Q, R1, q1, fun d2 v2 env2 F2 H2 s2 R2 r2 q2 => k d2 v2 env2 F2 H2 (s1.trans s2) R2 r2 q2⟩
    | false => rw [if_neg Bool.false_ne_true] at q1 ⊢; exact ⟨env1, F1, Q, R1, q1, fun d2 v2 env2 F2 H2 s2 R2 r2 q2 => k d2 v2 env2 F2 H2 (s1.trans s2) R2 r2 q2⟩⟩
/-- a < b < c -/
def rChain (r r' : V2) (ta tb tc : RE) : RE := fun env Q => ta env fun d env1 => tb env1 fun e env2 => r d e fun z => match z with | .bl k => (if k = true then tc env2 fun w env3 => r' e w fun z => Q z env3 else Q (.bl false) env2) | _ => False
theorem chain_up {r r' : V2} {ta tb tc : RE} {σ : L2.St} {H : Hp} {Q' : VK} : up X.K bx (rChain r r' ta tb tc) σ H Q' → tChain (upV2 X.K r) (upV2 X.K r') (up X.K bx ta) (up X.K bx tb) (up X.K bx tc) σ H Q' := fun ⟨env, F, Q, R, ht, k⟩ =>
  ⟨env, F, _, R, ht, fun d v env1 F1 H1 s1 R1 r1 q1 => ⟨env1, F1, _, R1, q1, fun d2 w env2 F2 H2 s2 R2 r2 q2 => ⟨F2, d, d2, _, R2.sf, Rep.mono s2 _ _ r1, r2, q2, fun z u F3 H3 g r3 q3 => by
    cases z with
    | bl c =>
      refine ⟨c, r3, ?_⟩
      cases c with
      | true =>
        rw [if_pos rfl]
        have q3 := (if_pos rfl).mp q3
        exact ⟨env2, F3, _, R2.to g, q3, fun d4 v4 env4 F4 H4 s4 R4 r4 q4 => ⟨F4, d2, d4, _, R4.sf, Rep.mono (g.e.trans s4) _ _ r2, r4, q4, fun z u F5 H5 g5 r5 q5 =>
          k z u env4 F5 H5 ((((s1.trans s2).trans g.e).trans s4).trans g5.e) (R4.to g5) r5 q5⟩⟩
      | false =>
        rw [if_neg Bool.false_ne_true]
        have q3 := (if_neg Bool.false_ne_true).mp q3
        exact k (.bl false) (.bl false) env2 F3 H3 ((s1.trans s2).trans g.e) (R2.to g) rfl q3
    | _ => exact q3.elim⟩⟩⟩
theorem q_chain {op op' : CmpOp} {r r' : V2} {c : Expr} {tc : RE} (ho : OpR X (compareOp op) (upV2 X.K r)) (ho' : OpR X (compareOp op') (upV2 X.K r')) (ha : QE X bx a ta) (hb : QE X bx b tb) (hc : QE X bx c tc)
    (hm : lastMarks [op, op'] [b, c] = false := by with_unfolding_all rfl) : QE X bx (.Compare a [op, op'] [b, c] pos) (rChain r r' ta tb tc) := pe_imp (pe_chain ho ho' ha hb hc hm) fun _ _ _ => chain_up
theorem qt_chain {op op' : CmpOp} {r r' : V2} {c : Expr} {tc : RE} (ho : OpR X (compareOp op) (upV2 X.K r)) (ho' : OpR X (compareOp op') (upV2 X.K r')) (ha : QE X bx a ta) (hb : QE X bx b tb) (hc : QE X bx c tc)
    (hm : lastMarks [op, op'] [b, c] = false := by with_unfolding_all rfl) : QT X bx (.Compare a [op, op'] [b, c] pos) (rTst (rChain r r' ta tb tc)) := pt_imp (pt_chain ho ho' ha hb hc hm) fun σ H Q' h => chain_up (tst_up h)
end
end QL
set_option Elab.async false
set_option linter.all false
set_option maxRecDepth 100000
namespace QL
open PySem PySem.Spec PyProof.Rows L2
/-! ### the operators -/
def MOk (i j : Int) : Prop := CMulW i j ∨ CMul i j
def DOk (j : Int) : Prop := 0 < j ∧ j.natAbs.log2 < 9000
def vAdd : V2
  | .int i, .int j, Q => Q (.int (i + j))
  | .lst xs, .lst ys, Q => xs.length + ys.length ≤ sizeLine ∧ Q (.lst (xs ++ ys))
  | .tup xs, .tup ys, Q => (xs ≠ [] ∧ xs.length + ys.length ≤ sizeLine) ∧ Q (.tup (xs ++ ys))
  | .str x, .str y, Q => x.length + y.length ≤ sizeLine ∧ Q (.str (x ++ y))
  | _, _, _ => False
def vAddL : V2
  | .lst xs, .lst ys, Q => xs.length + ys.length ≤ sizeLine ∧ Q (.lst (xs ++ ys))
  | _, _, _ => False
def vSub : V2
  | .int i, .int j, Q => Q (.int (i - j))
  | _, _, _ => False
def vMul : V2
  | .int i, .int j, Q => MOk i j ∧ Q (.int (i * j))
  | .lst xs, .int k, Q => (-(2 ^ 63) ≤ k ∧ k < 2 ^ 63 ∧ xs.length * k.toNat ≤ sizeLine) ∧ Q (.lst (List.replicate k.toNat xs).flatten)
  | _, _, _ => False
def vDiv : V2
  | .int i, .int j, Q => DOk j ∧ Q (.int (i / j))
  | _, _, _ => False
def vMod : V2
  | .int i, .int j, Q => 0 < j ∧ Q (.int (i % j))
  | _, _, _ => False
def vPow : V2
  | .int i, .int j, Q => (0 ≤ j ∧ j ≤ 1000000 ∧ i.natAbs < 2 ^ 64) ∧ Q (.int (i ^ j.toNat))
  | _, _, _ => False
def vShl : V2
  | .int i, .int j, Q => (0 ≤ j ∧ j ≤ 1000000 ∧ i.natAbs < 2 ^ 64) ∧ Q (.int (i * 2 ^ j.toNat))
  | _, _, _ => False
def vShr : V2
  | .int i, .int j, Q => 0 ≤ j ∧ Q (.int (i / 2 ^ j.toNat))
  | _, _, _ => False
def vNeg : V1
  | .int i, Q => Q (.int (-i))
  | _, _ => False
def vLt : V2
  | .int i, .int j, Q => Q (.bl (decide (i < j)))
  | _, _, _ => False
def vLe : V2
  | .int i, .int j, Q => Q (.bl (decide (i ≤ j)))
  | _, _, _ => False
def vGt : V2
  | .int i, .int j, Q => Q (.bl (decide (j < i)))
  | _, _, _ => False
def vGe : V2
  | .int i, .int j, Q => Q (.bl (decide (j ≤ i)))
  | _, _, _ => False
def isNon : D → Bool
  | .non => true
  | _ => false
/-- is None: of data -/
def vIsN : V2
  | .raw _, _, _ => False
  | d, .non, Q => Q (.bl (isNon d))
  | _, _, _ => False
def vNotN : V2
  | .raw _, _, _ => False
  | d, .non, Q => Q (.bl (!isNon d))
  | _, _, _ => False
mutual
def toP : D → PyData
  | .non => .none
  | .bl b => .bool b
  | .int i => .int i
  | .str x => .str x
  | .scr ns => .list (ns.map PyData.int)
  | .tup xs => .tuple (toPs xs)
  | .lst xs => .list (toPs xs)
  | _ => .none
def toPs : List D → List PyData
  | [] => []
  | x :: xs => toP x :: toPs xs
end
mutual
def okP : D → Bool
  | .non => true
  | .bl _ => true
  | .int _ => true
  | .str _ => true
  | .scr _ => true
  | .tup xs => okPs xs
  | .lst xs => okPs xs
  | _ => false
def okPs : List D → Bool
  | [] => true
  | x :: xs => okP x && okPs xs
end
def vEqP (d e : D) (Q : Bool → Prop) : Prop := okP d = true ∧ okP e = true ∧ SeqAt.shaped (toP d) = true ∧ SeqAt.shaped (toP e) = true ∧ Q (PyData.eqv (toP d) (toP e))
def vEq : V2
  | .int i, .int j, Q => Q (.bl (decide (i = j)))
  | .str i, .str j, Q => Q (.bl (decide (i = j)))
  | .bl i, .bl j, Q => Q (.bl (decide (i = j)))
  | d, e, Q => vEqP d e fun b => Q (.bl b)
def vNe : V2
  | .int i, .int j, Q => Q (.bl (!decide (i = j)))
  | .str i, .str j, Q => Q (.bl (!decide (i = j)))
  | .bl i, .bl j, Q => Q (.bl (!decide (i = j)))
  | d, e, Q => vEqP d e fun b => Q (.bl (!b))
section
variable {X : Cx}
section
variable {K : PySem.W.Frag} {F H : Hp} {d e : D} {x y : V} {Q : D → Prop} {Q' : VK}
theorem dp_ints {K : PySem.W.Frag} {H : Hp} : ∀ ns : List Int, DpAll K H (ns.map V.int) (ns.map PyData.int)
  | [] => .nil
  | n :: r => .cons (.int n) (dp_ints r)
mutual
theorem dp_of (s : Same F H) : ∀ (d : D) (v : V), okP d = true → Rep K F d v → Dp K H v (toP d)
  | .non, _, _, r => by rw [show _ = V.non from r]; exact .non
  | .bl b, _, _, r => by rw [show _ = V.bl b from r]; exact .bl b
  | .int b, _, _, r => by rw [show _ = V.int b from r]; exact .int b
  | .str b, _, _, r => by rw [show _ = V.str b from r]; exact .str b
  | .scr ns, _, _, ⟨a, h1, h2⟩ => by rw [h1]; exact .lst (s.seq h2) (dp_ints ns)
  | .tup xs, _, h, ⟨a, vs, h1, h2, h3⟩ => by rw [h1]; exact .tup (same_sqt s h2) (dps_of s xs vs h h3)
  | .lst xs, _, h, ⟨a, vs, h1, h2, h3⟩ => by rw [h1]; exact .lst (.inl (.inl (s _ _ h2))) (dps_of s xs vs h h3)
  | .raw _, _, h, _ => nomatch h
  | .dic _ _, _, h, _ => nomatch h
  | .obj _ _ _, _, h, _ => nomatch h
theorem dps_of (s : Same F H) : ∀ (xs : List D) (vs : List V), okPs xs = true → RepL K F xs vs → DpAll K H vs (toPs xs)
  | [], _, _, h => by rw [show _ = [] from h]; exact .nil
  | x :: xs, _, h, ⟨v, r, h1, h2, h3⟩ => by
    rw [h1]
    have h' : okP x = true ∧ okPs xs = true := Bool.and_eq_true_iff.mp h
    exact .cons (dp_of s x v h'.1 h2) (dps_of s xs r h'.2 h3)
end
end
theorem qo_add : OpR X (binaryOp .Add) (upV2 X.K vAdd) := by
  intro pins s σ H x y v u Q' I rx ry ⟨F, d, e, Q, sm, r1, r2, h, g⟩
  unfold vAdd at h
  split at h
  · cases r1; cases r2
    exact op_add pins s σ H _ _ v u Q' I rx ry ⟨_, _, rfl, rfl, g.i sm h⟩
  · obtain ⟨a, vs, rfl, h2, h3⟩ := r1
    obtain ⟨b, ws, rfl, k2, k3⟩ := r2
    refine op_cat pins s σ H _ _ v u Q' I rx ry ⟨a, b, vs, ws, rfl, rfl, sm _ _ h2, sm _ _ k2, by rw [← h3.length, ← k3.length]; exact h.1, fun p hp => ?_⟩
    exact g.lst sm (RepL.append h3 k3) h.2 hp
  · obtain ⟨a, vs, rfl, h2, h3⟩ := r1
    obtain ⟨b, ws, rfl, k2, k3⟩ := r2
    refine op_catT pins s σ H _ _ v u Q' I rx ry ⟨a, b, vs, ws, rfl, rfl, same_sqt sm h2, same_sqt sm k2, fun z => ?_, by rw [← h3.length, ← k3.length]; exact h.1.2, fun z => ?_, fun _ p hp => ?_⟩
    · exact h.1.1 (by have e := h3.length; rw [z] at e; exact List.length_eq_zero_iff.mp e)
    · have e := k3.length
      rw [z] at e
      have e' := List.length_eq_zero_iff.mp e
      rw [e', List.append_nil] at h
      exact g.flat sm (z := .tup _) ⟨a, vs, rfl, h2, h3⟩ h.2
    · exact g.tup sm (RepL.append h3 k3) h.2 hp
  · cases r1; cases r2
    exact op_add_str pins s σ H _ _ v u Q' I rx ry ⟨_, _, rfl, rfl, h.1, g.s sm h.2⟩
  · exact h.elim
theorem qo_addL : OpR X (binaryOp .Add) (upN2 X.K vAddL) := by
  intro pins s σ H x y v u Q' I rx ry ⟨F, d, e, Q, sm, r1, r2, h, g⟩
  unfold vAddL at h
  split at h
  · obtain ⟨a, vs, rfl, h2, h3⟩ := r1
    obtain ⟨b, ws, rfl, k2, k3⟩ := r2
    refine op_cat pins s σ H _ _ v u Q' I rx ry ⟨a, b, vs, ws, rfl, rfl, sm _ _ h2, sm _ _ k2, by rw [← h3.length, ← k3.length]; exact h.1, fun p hp => ?_⟩
    exact g.lst (RepL.append h3 k3) h.2 hp
  · exact h.elim
theorem qo_sub : OpR X (binaryOp .Sub) (upV2 X.K vSub) := by
  intro pins s σ H x y v u Q' I rx ry ⟨F, d, e, Q, sm, r1, r2, h, g⟩
  unfold vSub at h
  split at h
  · cases r1; cases r2
    exact op_sub pins s σ H _ _ v u Q' I rx ry ⟨_, _, rfl, rfl, g.i sm h⟩
  · exact h.elim
theorem rep_flat {K : PySem.W.Frag} {F : Hp} {xs : List D} {vs : List V} (r : RepL K F xs vs) : ∀ n : Nat, RepL K F (List.replicate n xs).flatten (List.replicate n vs).flatten
  | 0 => rfl
  | n + 1 => by
    rw [List.replicate_succ, List.replicate_succ, List.flatten_cons, List.flatten_cons]
    exact RepL.append r (rep_flat r n)
theorem qo_mul : OpR X (binaryOp .Mult) (upV2 X.K vMul) := by
  intro pins s σ H x y v u Q' I rx ry ⟨F, d, e, Q, sm, r1, r2, h, g⟩
  unfold vMul at h
  split at h
  · cases r1; cases r2
    rcases h.1 with c | c
    · exact op_mulW pins s σ H _ _ v u Q' I rx ry ⟨_, _, rfl, rfl, c, g.i sm h.2⟩
    · exact op_mul pins s σ H _ _ v u Q' I rx ry ⟨_, _, rfl, rfl, c, g.i sm h.2⟩
  · cases r2
    obtain ⟨a, vs, rfl, h2, h3⟩ := r1
    refine op_rep pins s σ H _ _ v u Q' I rx ry ⟨a, _, vs, rfl, rfl, sm _ _ h2, h.1.1, h.1.2.1, by rw [← h3.length]; exact h.1.2.2, fun p hp => ?_⟩
    exact g.lst sm (rep_flat h3 _) h.2 hp
  · exact h.elim
theorem qo_div : OpR X (binaryOp .FloorDiv) (upV2 X.K vDiv) := by
  intro pins s σ H x y v u Q' I rx ry ⟨F, d, e, Q, sm, r1, r2, h, g⟩
  unfold vDiv at h
  split at h
  · cases r1; cases r2
    exact op_fdivW pins s σ H _ _ v u Q' I rx ry ⟨_, _, rfl, rfl, h.1, g.i sm h.2⟩
  · exact h.elim
theorem qo_mod : OpR X (binaryOp .Mod) (upV2 X.K vMod) := by
  intro pins s σ H x y v u Q' I rx ry ⟨F, d, e, Q, sm, r1, r2, h, g⟩
  unfold vMod at h
  split at h
  · cases r1; cases r2
    exact op_mod pins s σ H _ _ v u Q' I rx ry ⟨_, _, rfl, rfl, h.1, g.i sm h.2⟩
  · exact h.elim
theorem qo_pow : OpR X (binaryOp .Pow) (upV2 X.K vPow) := by
  intro pins s σ H x y v u Q' I rx ry ⟨F, d, e, Q, sm, r1, r2, h, g⟩
  unfold vPow at h
  split at h
  · cases r1; cases r2
    exact op_pow pins s σ H _ _ v u Q' I rx ry ⟨_, _, rfl, rfl, h.1, g.i sm h.2⟩
  · exact h.elim
theorem qo_shl : OpR X (binaryOp .LShift) (upV2 X.K vShl) := by
  intro pins s σ H x y v u Q' I rx ry ⟨F, d, e, Q, sm, r1, r2, h, g⟩
  unfold vShl at h
  split at h
  · cases r1; cases r2
    exact op_shl pins s σ H _ _ v u Q' I rx ry ⟨_, _, rfl, rfl, h.1, g.i sm h.2⟩
  · exact h.elim
theorem qo_shr : OpR X (binaryOp .RShift) (upV2 X.K vShr) := by
  intro pins s σ H x y v u Q' I rx ry ⟨F, d, e, Q, sm, r1, r2, h, g⟩
  unfold vShr at h
  split at h
  · cases r1; cases r2
    exact op_shr pins s σ H _ _ v u Q' I rx ry ⟨_, _, rfl, rfl, h.1, g.i sm h.2⟩
  · exact h.elim
theorem qo_neg : UnR X (unaryOp .USub) (upV1 X.K vNeg) := by
  intro pins s σ H x v Q' I rx ⟨F, d, Q, sm, r1, h, g⟩
  unfold vNeg at h
  split at h
  · cases r1
    exact un_neg pins s σ H _ v Q' I rx ⟨_, rfl, g.i sm h⟩
  · exact h.elim
theorem qo_lt : OpR X (compareOp .Lt) (upV2 X.K vLt) := by
  intro pins s σ H x y v u Q' I rx ry ⟨F, d, e, Q, sm, r1, r2, h, g⟩
  unfold vLt at h
  split at h
  · cases r1; cases r2
    exact op_lt pins s σ H _ _ v u Q' I rx ry ⟨_, _, rfl, rfl, g.b sm h⟩
  · exact h.elim
theorem qo_le : OpR X (compareOp .LtE) (upV2 X.K vLe) := by
  intro pins s σ H x y v u Q' I rx ry ⟨F, d, e, Q, sm, r1, r2, h, g⟩
  unfold vLe at h
  split at h
  · cases r1; cases r2
    exact op_le pins s σ H _ _ v u Q' I rx ry ⟨_, _, rfl, rfl, g.b sm h⟩
  · exact h.elim
theorem qo_gt : OpR X (compareOp .Gt) (upV2 X.K vGt) := by
  intro pins s σ H x y v u Q' I rx ry ⟨F, d, e, Q, sm, r1, r2, h, g⟩
  unfold vGt at h
  split at h
  · cases r1; cases r2
    exact op_gt pins s σ H _ _ v u Q' I rx ry ⟨_, _, rfl, rfl, g.b sm h⟩
  · exact h.elim
theorem qo_ge : OpR X (compareOp .GtE) (upV2 X.K vGe) := by
  intro pins s σ H x y v u Q' I rx ry ⟨F, d, e, Q, sm, r1, r2, h, g⟩
  unfold vGe at h
  split at h
  · cases r1; cases r2
    exact op_ge pins s σ H _ _ v u Q' I rx ry ⟨_, _, rfl, rfl, g.b sm h⟩
  · exact h.elim
theorem isNon_rep {K : PySem.W.Frag} {F : Hp} : ∀ {d : D} {v : V}, (∀ u, d ≠ .raw u) → Rep K F d v → decide (v = V.non) = isNon d
  | .non, _, _, r => by rw [show _ = V.non from r]; rfl
  | .bl b, _, _, r => by rw [show _ = V.bl b from r]; rfl
  | .int b, _, _, r => by rw [show _ = V.int b from r]; rfl
  | .str b, _, _, r => by rw [show _ = V.str b from r]; rfl
  | .raw u, _, n, _ => absurd rfl (n u)
  | .scr ns, _, _, ⟨a, h1, _⟩ => by rw [h1]; rfl
  | .tup xs, _, _, ⟨a, vs, h1, _⟩ => by rw [h1]; rfl
  | .lst xs, _, _, ⟨a, vs, h1, _⟩ => by rw [h1]; rfl
  | .dic _ _, _, _, ⟨a, h1, _⟩ => by rw [h1]; rfl
  | .obj _ _ _, _, _, ⟨a, _, _, h1, _⟩ => by rw [h1]; rfl
theorem qo_isN : OpR X (compareOp .Is) (upV2 X.K vIsN) := by
  intro pins s σ H x y v u Q' I rx ry ⟨F, d, e, Q, sm, r1, r2, h, g⟩
  unfold vIsN at h
  split at h
  · exact h.elim
  · rename_i hn
    cases r2
    exact op_isN pins s σ H _ _ v u Q' I rx ry ⟨rfl, by rw [isNon_rep (fun u z => hn u z) r1]; exact g.b sm h⟩
  · exact h.elim
theorem qo_notN : OpR X (compareOp .IsNot) (upV2 X.K vNotN) := by
  intro pins s σ H x y v u Q' I rx ry ⟨F, d, e, Q, sm, r1, r2, h, g⟩
  unfold vNotN at h
  split at h
  · exact h.elim
  · rename_i hn
    cases r2
    exact op_notN pins s σ H _ _ v u Q' I rx ry ⟨rfl, by rw [isNon_rep (fun u z => hn u z) r1]; exact g.b sm h⟩
  · exact h.elim
theorem qo_eq (hu : X.A.units + 64 < cLine) : OpR X (compareOp .Eq) (upV2 X.K vEq) := by
  intro pins s σ H x y v u Q' I rx ry ⟨F, d, e, Q, sm, r1, r2, h, g⟩
  unfold vEq at h
  split at h
  · cases r1; cases r2
    exact op_eq pins s σ H _ _ v u Q' I rx ry ⟨rfl, by rw [show ∀ i j : Int, decide (V.int i = V.int j) = decide (i = j) from fun i j => by simp]; exact g.b sm h⟩
  · cases r1; cases r2
    exact op_eq pins s σ H _ _ v u Q' I rx ry ⟨rfl, by rw [show ∀ i j : Str, decide (V.str i = V.str j) = decide (i = j) from fun i j => by simp]; exact g.b sm h⟩
  · cases r1; cases r2
    exact op_eq pins s σ H _ _ v u Q' I rx ry ⟨rfl, by rw [show ∀ i j : Bool, decide (V.bl i = V.bl j) = decide (i = j) from fun i j => by simp]; exact g.b sm h⟩
  · obtain ⟨o1, o2, s1, s2, q⟩ := h
    exact op_eqD hu pins s σ H _ _ v u Q' I rx ry ⟨_, _, dp_of sm _ _ o1 r1, dp_of sm _ _ o2 r2, s1, s2, g.b sm q⟩
theorem qo_ne (hu : X.A.units + 64 < cLine) : OpR X (compareOp .NotEq) (upV2 X.K vNe) := by
  intro pins s σ H x y v u Q' I rx ry ⟨F, d, e, Q, sm, r1, r2, h, g⟩
  unfold vNe at h
  split at h
  · cases r1; cases r2
    exact op_ne pins s σ H _ _ v u Q' I rx ry ⟨rfl, by rw [show ∀ i j : Int, decide (V.int i = V.int j) = decide (i = j) from fun i j => by simp]; exact g.b sm h⟩
  · cases r1; cases r2
    exact op_ne pins s σ H _ _ v u Q' I rx ry ⟨rfl, by rw [show ∀ i j : Str, decide (V.str i = V.str j) = decide (i = j) from fun i j => by simp]; exact g.b sm h⟩
  · cases r1; cases r2
    exact op_ne pins s σ H _ _ v u Q' I rx ry ⟨rfl, by rw [show ∀ i j : Bool, decide (V.bl i = V.bl j) = decide (i = j) from fun i j => by simp]; exact g.b sm h⟩
  · obtain ⟨o1, o2, s1, s2, q⟩ := h
    exact op_neD hu pins s σ H _ _ v u Q' I rx ry ⟨_, _, dp_of sm _ _ o1 r1, dp_of sm _ _ o2 r2, s1, s2, g.b sm q⟩
end
end QL
set_option Elab.async false
set_option linter.all false
set_option maxRecDepth 100000
namespace QL
open PySem PySem.Spec PyProof.Rows L2
/-! ### what lets out: an exception as a datum -/
def RepX (K : PySem.W.Frag) (F : Hp) : D → Value → Option Addr → Prop
  | .obj C ns xs, cls, dx => cls = .ref C ∧ ∃ da fs, dx = some da ∧ F da = some (.xd fs) ∧ fs.map (·.1) = ns ∧ RepL K F xs (fs.map (·.2))
  | _, _, _ => False
theorem RepX.mono {K : PySem.W.Frag} {F F' : Hp} (e : Same F F') : ∀ {d : D} {cls : Value} {dx : Option Addr}, RepX K F d cls dx → RepX K F' d cls dx
  | .obj C ns xs, _, _, ⟨h1, da, fs, h2, h3, h4, h5⟩ => ⟨h1, da, fs, h2, e _ _ h3, h4, RepL.mono e _ _ h5⟩
  | .non, _, _, h => h.elim
  | .bl _, _, _, h => h.elim
  | .int _, _, _, h => h.elim
  | .str _, _, _, h => h.elim
  | .raw _, _, _, h => h.elim
  | .scr _, _, _, h => h.elim
  | .tup _, _, _, h => h.elim
  | .lst _, _, _, h => h.elim
  | .dic _ _, _, _, h => h.elim
def WEx (K : PySem.W.Frag) (bx : Bx) (EX : XD) : WX := fun cls dx σ H => ∃ env F ed, ER K bx F env σ H ∧ RepX K F ed cls dx ∧ EX ed env
def TkE (X : Cx) (bx : Bx) (EX : XD) : Prop := ∀ σ, PassesAt (L2.CX X.prog X.w) X σ (fun cls dx H => WEx X.K bx EX cls dx σ H)
abbrev EX0 : XD := fun _ _ => False
theorem tkE0 {X : Cx} {bx : Bx} : TkE X bx EX0 := fun σ _ _ _ _ _ _ h => by
  obtain ⟨_, _, _, _, _, _, _, _, _, _, _, _, _, _, _, _, _, z⟩ := h
  exact z.elim
theorem tkE_of {X : Cx} {bx : Bx} {EX : XD} (tk : Takes X (WEx X.K bx EX)) : TkE X bx EX := fun σ => passAt tk σ

/-! ### promises -/
abbrev FA := List D → (D → Prop) → (D → Prop) → Prop
abbrev FB := D → List D → (D → D → Prop) → (D → D → Prop) → Prop
/-- a call that leaves all as it was -/
def spA (K : PySem.W.Frag) (n : Nat) (S : FA) : Sp := fun vs H Q' E' => ∃ F ds Q E, ds.length = n ∧ Same F H ∧ RepL K F ds vs ∧ S ds Q E ∧ Gr K F H Q Q' ∧
  ∀ ed cls dx F' H', Grow F H F' H' → RepX K F' ed cls dx → E ed → E' cls dx H'
/-- all but the object at a -/
structure GrowB (a : Addr) (F H F' H' : Hp) : Prop where
  e : Same F F'
  sf : Same F' H'
  sh : ∀ b o, H b = some o → b ≠ a → H' b = some o
  hn : ∀ b, F b = none → H b ≠ none → F' b = none
/-- a call that changes the object in its first place -/
def spB (K : PySem.W.Frag) (n : Nat) (M : FB) : Sp := fun vs H Q' E' => ∃ F a ho d0 ds ws Q E, ds.length = n ∧ vs = .ref a :: ws ∧ Same F H ∧ F a = none ∧ H a = some ho ∧ OwnH K F d0 ho ∧ RepL K F ds ws ∧ M d0 ds Q E ∧
  (∀ z u d' ho' F' H', GrowB a F H F' H' → H' a = some ho' → OwnH K F' d' ho' → Rep K F' z u → Q z d' → Q' u H') ∧
  (∀ ed cls dx d' ho' F' H', GrowB a F H F' H' → H' a = some ho' → OwnH K F' d' ho' → RepX K F' ed cls dx → E ed d' → E' cls dx H')
section
variable {K : PySem.W.Frag} {bx : Bx} {F F' H H' : Hp} {env : List Slot} {σ : L2.St}
theorem set_some {α : Type} {l : List α} {i j : Nat} {x y : α} (h : (l.set i x)[j]? = some y) : (i = j ∧ x = y ∧ i < l.length) ∨ (i ≠ j ∧ l[j]? = some y) := by
  by_cases e : i = j
  · subst e
    have hl : i < l.length := by
      have := (List.getElem?_eq_some_iff.mp h).1
      simpa using this
    rw [List.getElem?_set_self hl] at h
    exact .inl ⟨rfl, Option.some.inj h, hl⟩
  · rw [List.getElem?_set_ne e] at h
    exact .inr ⟨e, h⟩
/-- the object of slot i has changed -/
theorem ER.setOwn {i : Nat} {a : Addr} {d0 d' : D} {ho' : HO} (R : ER K bx F env σ H) (hi : env[i]? = some (.own d0)) (hs : σ[i]? = some (some (.ref a))) (g : GrowB a F H F' H') (ha : H' a = some ho') (o : OwnH K F' d' ho') : ER K bx F' (env.set i (.own d')) σ H' := by
  obtain ⟨oa, h1, a', ho, h2, h3, h4, h5, h6⟩ := R.slots i _ hi
  rw [hs] at h1; cases h1; cases h2
  refine ⟨fun b q z => g.sh b q (R.sb b q z) (fun e => by rw [e, h4] at z; cases z), g.sf, by rw [List.length_set]; exact R.len, fun j s hj => ?_, fun j k d e c hj hk sj sk => ?_, fun c hc => ?_, R.f0.trans g.e, fun c h1 h2 => g.hn c (R.fz c h1 h2) (R.bh h2)⟩
  · rcases set_some hj with ⟨rfl, rfl, _⟩ | ⟨hne, hj⟩
    · exact ⟨_, hs, a, ho', rfl, g.hn a h3 (by rw [h5]; simp), h4, ha, o⟩
    · obtain ⟨q, k1, k2⟩ := R.slots j s hj
      refine ⟨q, k1, ?_⟩
      cases s with
      | un => trivial
      | val d => obtain ⟨v, k3, k4⟩ := k2; exact ⟨v, k3, Rep.mono g.e _ _ k4⟩
      | own d =>
        obtain ⟨c, hc, k3, k4, k5, k6, k7⟩ := k2
        have hca : c ≠ a := fun z => by
          subst z
          rw [k3] at k1
          exact hne (R.sep i j _ _ c hi hj hs k1)
        exact ⟨c, hc, k3, g.hn c k4 (by rw [k6]; simp), k5, g.sh c hc k6 hca, OwnH.mono g.e k7⟩
  · have own : ∀ {m : Nat} {d : D}, (env.set i (.own d'))[m]? = some (.own d) → ∃ d2, env[m]? = some (.own d2) := fun {m d} hm => by
      rcases set_some hm with ⟨rfl, _, _⟩ | ⟨_, hm⟩
      · exact ⟨_, hi⟩
      · exact ⟨_, hm⟩
    obtain ⟨d2, hj2⟩ := own hj
    obtain ⟨e2, hk2⟩ := own hk
    exact R.sep j k d2 e2 c hj2 hk2 sj sk
  · obtain ⟨k1, d, k2⟩ := R.io c hc
    refine ⟨k1, ?_⟩
    by_cases h0 : i = 0
    · subst h0
      exact ⟨d', by rw [List.getElem?_set_self (List.getElem?_eq_some_iff.mp hi).1]⟩
    · exact ⟨d, by rw [List.getElem?_set_ne h0]; exact k2⟩
/-- slot i takes a datum -/
theorem ER.setVal {i : Nat} {d : D} {v : V} (R : ER K bx F env σ H) (hio : bx.io = none ∨ i ≠ 0) (r : Rep K F d v) : ER K bx F (env.set i (.val d)) (σ.set i (some v)) H := by
  refine ⟨R.sb, R.sf, by rw [List.length_set, List.length_set]; exact R.len, fun j s hj => ?_, fun j k d1 e c hj hk sj sk => ?_, fun c hc => ?_, R.f0, R.fz⟩
  · rcases set_some hj with ⟨rfl, rfl, hl⟩ | ⟨hne, hj⟩
    · exact ⟨_, by rw [List.getElem?_set_self (by rw [← R.len]; exact hl)], v, rfl, r⟩
    · obtain ⟨q, k1, k2⟩ := R.slots j s hj
      exact ⟨q, by rw [List.getElem?_set_ne hne]; exact k1, k2⟩
  · have old : ∀ {m : Nat} {d2 : D}, (env.set i (.val d))[m]? = some (.own d2) → (σ.set i (some v))[m]? = some (some (V.ref c)) → env[m]? = some (.own d2) ∧ σ[m]? = some (some (V.ref c)) := fun {m d2} hm sm => by
      rcases set_some hm with ⟨rfl, z, _⟩ | ⟨hne, hm⟩
      · cases z
      · rw [List.getElem?_set_ne hne] at sm; exact ⟨hm, sm⟩
    obtain ⟨a1, a2⟩ := old hj sj
    obtain ⟨b1, b2⟩ := old hk sk
    exact R.sep j k _ _ c a1 b1 a2 b2
  · obtain ⟨k1, d2, k2⟩ := R.io c hc
    have h0 : i ≠ 0 := hio.elim (fun z => by rw [z] at hc; cases hc) id
    exact ⟨by rw [List.getElem?_set_ne h0]; exact k1, d2, by rw [List.getElem?_set_ne h0]; exact k2⟩
/-- slot i takes a new object of its own -/
theorem ER.setNew {i : Nat} {d : D} {a : Addr} {ho : HO} (R : ER K bx F env σ H) (hio : bx.io = none ∨ i ≠ 0) (l : Lone bx F env σ H a) (ha : H a = some ho) (o : OwnH K F d ho) : ER K bx F (env.set i (.own d)) (σ.set i (some (.ref a))) H := by
  refine ⟨R.sb, R.sf, by rw [List.length_set, List.length_set]; exact R.len, fun j s hj => ?_, fun j k d1 e c hj hk sj sk => ?_, fun c hc => ?_, R.f0, R.fz⟩
  · rcases set_some hj with ⟨rfl, rfl, hl⟩ | ⟨hne, hj⟩
    · exact ⟨_, by rw [List.getElem?_set_self (by rw [← R.len]; exact hl)], a, ho, rfl, l.f, l.b, ha, o⟩
    · obtain ⟨q, k1, k2⟩ := R.slots j s hj
      exact ⟨q, by rw [List.getElem?_set_ne hne]; exact k1, k2⟩
  · rcases set_some hj with ⟨rfl, _, hl⟩ | ⟨hne, hj⟩
    · rcases set_some hk with ⟨rfl, _, _⟩ | ⟨hne2, hk⟩
      · rfl
      · rw [List.getElem?_set_self (by rw [← R.len]; exact hl)] at sj
        cases sj
        rw [List.getElem?_set_ne hne2] at sk
        exact absurd sk (l.o k _ hk)
    · rcases set_some hk with ⟨rfl, _, hl⟩ | ⟨hne2, hk⟩
      · rw [List.getElem?_set_self (by rw [← R.len]; exact hl)] at sk
        cases sk
        rw [List.getElem?_set_ne hne] at sj
        exact absurd sj (l.o j _ hj)
      · rw [List.getElem?_set_ne hne] at sj
        rw [List.getElem?_set_ne hne2] at sk
        exact R.sep j k _ _ c hj hk sj sk
  · obtain ⟨k1, d2, k2⟩ := R.io c hc
    have h0 : i ≠ 0 := hio.elim (fun z => by rw [z] at hc; cases hc) id
    exact ⟨by rw [List.getElem?_set_ne h0]; exact k1, d2, by rw [List.getElem?_set_ne h0]; exact k2⟩
/-- what slot i owns becomes a datum -/
theorem ER.thaw {i : Nat} {d : D} {a : Addr} (R : ER K bx F env σ H) (hio : bx.io = none ∨ i ≠ 0) (hi : env[i]? = some (.own d)) : ∃ a ho, σ[i]? = some (some (.ref a)) ∧ H a = some ho ∧ F a = none ∧ ER K bx (upd F a ho) (env.set i (.val d)) σ H ∧ Rep K (upd F a ho) d (.ref a) := by
  obtain ⟨oa, h1, a', ho, h2, h3, h4, h5, h6⟩ := R.slots i _ hi
  cases h2
  have hl := (List.getElem?_eq_some_iff.mp hi).1
  refine ⟨a', ho, h1, h5, h3, ⟨R.sb, same_upd3 R.sf h5, by rw [List.length_set]; exact R.len, fun j s hj => ?_, fun j k d1 e c hj hk sj sk => ?_, fun c hc => ?_, R.f0.trans (same_upd h3), fun c k1 k2 => by
    rw [upd_ne (fun z => k2 (by rw [z]; exact h4))]
    exact R.fz c k1 k2⟩, OwnH.rep h3 h6⟩
  · rcases set_some hj with ⟨rfl, rfl, hl⟩ | ⟨hne, hj⟩
    · exact ⟨_, h1, _, rfl, OwnH.rep h3 h6⟩
    · obtain ⟨q, k1, k2⟩ := R.slots j s hj
      refine ⟨q, k1, ?_⟩
      cases s with
      | un => trivial
      | val d => obtain ⟨v, k3, k4⟩ := k2; exact ⟨v, k3, Rep.mono (same_upd h3) _ _ k4⟩
      | own d =>
        obtain ⟨c, hc, k3, k4, k5, k6, k7⟩ := k2
        refine ⟨c, hc, k3, ?_, k5, k6, OwnH.mono (same_upd h3) k7⟩
        rw [upd_ne (fun z => by
          subst z
          rw [k3] at k1
          exact hne (R.sep i j _ _ c hi hj h1 k1))]
        exact k4
  · rcases set_some hj with ⟨_, z, _⟩ | ⟨_, hj⟩
    · cases z
    · rcases set_some hk with ⟨_, z, _⟩ | ⟨_, hk⟩
      · cases z
      · exact R.sep j k _ _ c hj hk sj sk
  · obtain ⟨k1, d2, k2⟩ := R.io c hc
    have h0 : i ≠ 0 := hio.elim (fun z => by rw [z] at hc; cases hc) id
    exact ⟨k1, d2, by rw [List.getElem?_set_ne h0]; exact k2⟩
end
section
variable {X : Cx} {bx : Bx} {e a b : Expr} {es : List Expr} {te ta tb : RE} {t : RA} {pos : Pos} {i : Nat}
/-! ### a name -/
/-- a name of the def: a datum; what it owns becomes one -/
def rVarO (i : Nat) : RE := fun env Q => match env[i]? with
  | some (.val d) => Q d env
  | some (.own d) => Q d (env.set i (.val d))
  | _ => False
theorem q_varO (h : L2.PE X e (tVar i)) (hio : bx.io = none ∨ i ≠ 0) : QE X bx e (rVarO i) := pe_imp h fun σ H Q' ⟨env, F, Q, R, ht, k⟩ => by
  unfold rVarO at ht
  split at ht
  · rename_i d hd
    obtain ⟨o, h1, v, h2, h3⟩ := R.slots i _ hd
    exact ⟨v, by rw [h1, h2], k d v env F H (Same.refl _) R h3 ht⟩
  · rename_i d hd
    obtain ⟨a, ho, h1, h2, h3, R', r⟩ := R.thaw (a := 0) hio hd
    exact ⟨.ref a, h1, k d (.ref a) _ _ H (same_upd h3) R' r ht⟩
  · exact ht.elim
/-! ### arguments, displays -/
def rNil : RA := fun env Q => Q [] env
def rCons (te : RE) (t : RA) : RA := fun env Q => te env fun d env1 => t env1 fun ds env2 => Q (d :: ds) env2
def rStar (te : RE) (t : RA) : RA := fun env Q => te env fun d env1 => match d with
  | .tup xs => t env1 fun ds env2 => Q (xs ++ ds) env2
  | .lst xs => t env1 fun ds env2 => Q (xs ++ ds) env2
  | _ => False
theorem qa_nil : QA X bx [] rNil := pa_imp pa_nil fun σ H Q' ⟨env, F, Q, R, ht, k⟩ => k [] [] env F H (Same.refl _) R rfl ht
theorem qa_cons (ha : QE X bx e te) (hr : QA X bx es t) (hs : starEach (e :: es) X.env = (false, eval e X.env) :: starEach es X.env := by rfl) : QA X bx (e :: es) (rCons te t) := pa_imp (pa_cons ha hr hs) fun σ H Q' ⟨env, F, Q, R, ht, k⟩ =>
  ⟨env, F, _, R, ht, fun d v env1 F1 H1 s1 R1 r1 q1 => ⟨env1, F1, _, R1, q1, fun ds vs env2 F2 H2 s2 R2 r2 q2 => k (d :: ds) (v :: vs) env2 F2 H2 (s1.trans s2) R2 ⟨v, vs, rfl, Rep.mono s2 _ _ r1, r2⟩ q2⟩⟩
theorem qa_star {p : Pos} (ha : QE X bx e te) (hr : QA X bx es t) (hs : starEach (.Starred e p :: es) X.env = (true, eval e X.env) :: starEach es X.env := by rfl) : QA X bx (.Starred e p :: es) (rStar te t) := pa_imp (StX.pa_star ha hr hs) fun σ H Q' ⟨env, F, Q, R, ht, k⟩ =>
  ⟨env, F, _, R, ht, fun d v env1 F1 H1 s1 R1 r1 q1 => by
    split at q1
    · obtain ⟨a, us, rfl, h2, h3⟩ := r1
      exact ⟨a, us, rfl, .inl (same_sqt R1.sf h2), env1, F1, _, R1, q1, fun ds vs env2 F2 H2 s2 R2 r2 q2 => k _ (us ++ vs) env2 F2 H2 (s1.trans s2) R2 (RepL.append (RepL.mono s2 _ _ h3) r2) q2⟩
    · obtain ⟨a, us, rfl, h2, h3⟩ := r1
      exact ⟨a, us, rfl, .inr (.inl (.inl (R1.sf _ _ h2))), env1, F1, _, R1, q1, fun ds vs env2 F2 H2 s2 R2 r2 q2 => k _ (us ++ vs) env2 F2 H2 (s1.trans s2) R2 (RepL.append (RepL.mono s2 _ _ h3) r2) q2⟩
    · exact q1.elim⟩
def rTup (t : RA) : RE := fun env Q => t env fun ds env1 => ds.length ≤ sizeLine ∧ Q (.tup ds) env1
def rLst (t : RA) : RE := fun env Q => t env fun ds env1 => ds.length ≤ sizeLine ∧ Q (.lst ds) env1
theorem q_tup {x1} (h : QA X bx es t) : QE X bx (.Tuple es x1 pos) (rTup t) := pe_imp (pe_tup h) fun σ H Q' ⟨env, F, Q, R, ht, k⟩ =>
  ⟨env, F, _, R, ht, fun ds vs env1 F1 H1 s1 R1 r1 q1 => ⟨by rw [← r1.length]; exact q1.1, fun p hp => k (.tup ds) (.ref p) env1 (upd F1 p (.tup vs)) _ (s1.trans (same_upd (R1.sf.free hp))) (R1.laid hp) ⟨p, vs, rfl, .inl (.inl upd_same), RepL.mono (same_upd (R1.sf.free hp)) _ _ r1⟩ q1.2⟩⟩
theorem q_lstN (h : QA X bx es t) : QN X bx (.List es pos) (rLst t) := pe_imp (pe_lst h) fun σ H Q' ⟨env, F, Q, R, ht, k⟩ =>
  ⟨env, F, _, R, ht, fun ds vs env1 F1 H1 s1 R1 r1 q1 => ⟨by rw [← r1.length]; exact q1.1, fun p hp => k (.lst ds) p (.lst vs) env1 F1 _ s1 (R1.laid0 hp) (R1.lone hp) upd_same ⟨vs, rfl, r1⟩ q1.2⟩⟩
theorem q_lst (h : QA X bx es t) : QE X bx (.List es pos) (rLst t) := (q_lstN h).qe

/-! ### subscripts -/
def vIx : V2
  | .lst xs, .int i, Q => ∃ d, atI xs i = some d ∧ Q d
  | .tup xs, .int i, Q => ∃ d, atI xs i = some d ∧ Q d
  | .scr ns, .int i, Q => ∃ n, atI ns i = some n ∧ Q (.int n)
  | _, _, _ => False
theorem atI_rep {K : PySem.W.Frag} {F : Hp} {xs : List D} {vs : List V} {i : Int} {d : D} (r : RepL K F xs vs) (h : atI xs i = some d) : ∃ v, atI vs i = some v ∧ Rep K F d v := by
  unfold atI at h ⊢
  rw [← r.length]
  cases e : ixN xs.length i with
  | none => rw [e] at h; cases h
  | some j => rw [e] at h; exact r.get h
theorem atI_map {ns : List Int} {i n : Int} (h : atI ns i = some n) : atI (ns.map V.int) i = some (V.int n) := by
  unfold atI at h ⊢
  rw [List.length_map]
  cases e : ixN ns.length i with
  | none => rw [e] at h; cases h
  | some j => rw [e] at h; show (ns.map V.int)[j]? = _; rw [List.getElem?_map, show ns[j]? = some n from h]; rfl
theorem qi_ix : IxR X (upV2 X.K vIx) := by
  intro value slice pins s σ H x y v u Q' I rx ry ⟨F, d, e, Q, sm, r1, r2, h, g⟩ hs
  unfold vIx at h
  split at h
  · obtain ⟨a, vs, rfl, h2, h3⟩ := r1
    cases r2
    obtain ⟨z, hz, q⟩ := h
    obtain ⟨w, hw, rw⟩ := atI_rep h3 hz
    exact ix_list value slice pins s σ H _ _ v u Q' I rx ry ⟨a, vs, _, w, rfl, rfl, .inl (.inl (sm _ _ h2)), hw, g.flat sm rw q⟩ hs
  · obtain ⟨a, vs, rfl, h2, h3⟩ := r1
    cases r2
    obtain ⟨z, hz, q⟩ := h
    obtain ⟨w, hw, rw⟩ := atI_rep h3 hz
    exact ix_tup value slice pins s σ H _ _ v u Q' I rx ry ⟨a, vs, _, w, rfl, rfl, same_sqt sm h2, hw, g.flat sm rw q⟩ hs
  · obtain ⟨a, rfl, h2⟩ := r1
    cases r2
    obtain ⟨z, hz, q⟩ := h
    exact ix_list value slice pins s σ H _ _ v u Q' I rx ry ⟨a, _, _, _, rfl, rfl, sm.seq h2, atI_map hz, g.i sm q⟩ hs
  · exact h.elim
theorem q_ix (ha : QE X bx a ta) (hb : QE X bx b tb) (hs : PlainIx b := by exact fun _ _ => rfl) : QE X bx (.Subscript a b pos) (rOp vIx ta tb) := pe_imp (pe_ix qi_ix ha hb hs) fun _ _ _ => op_up
/-- an item of what a slot owns -/
def rIxO (i : Nat) (tb : RE) : RE := fun env Q => (∃ d, env[i]? = some (.own d)) ∧ tb env fun j env1 => match env1[i]? with
  | some (.own d) => vIx d j fun z => Q z env1
  | _ => False
theorem own_ix {K : PySem.W.Frag} {bx : Bx} {F H : Hp} {env : List Slot} {σ : L2.St} (R : ER K bx F env σ H) {i : Nat} {d : D} (hi : env[i]? = some (.own d)) : ∃ a ho, σ[i]? = some (some (.ref a)) ∧ H a = some ho ∧ F a = none ∧ OwnH K F d ho := by
  obtain ⟨oa, h1, a', ho, h2, h3, h4, h5, h6⟩ := R.slots i _ hi
  cases h2
  exact ⟨a', ho, h1, h5, h3, h6⟩
theorem q_ixO (h : L2.PE X a (tVar i)) (hb : QE X bx b tb) (hs : PlainIx b := by exact fun _ _ => rfl) : QE X bx (.Subscript a b pos) (rIxO i tb) := pe_imp (pe_ix ix_list h hb hs) fun σ H Q' ⟨env, F, Q, R, ⟨⟨d, hd⟩, ht⟩, k⟩ => by
  obtain ⟨p, ho, h1, h2, h3, h4⟩ := own_ix R hd
  refine ⟨.ref p, h1, env, F, _, R, ht, fun j w env1 F1 H1 s1 R1 r1 q1 => ?_⟩
  split at q1
  · rename_i d1 hd1
    obtain ⟨p1, ho1, g1, g2, g3, g4⟩ := own_ix R1 hd1
    rw [h1] at g1
    cases g1
    unfold vIx at q1
    split at q1
    · obtain ⟨vs, rfl, h6⟩ := g4
      cases r1
      obtain ⟨z, hz, q⟩ := q1
      obtain ⟨u, hu, ru⟩ := atI_rep h6 hz
      exact ⟨p, vs, _, u, rfl, rfl, .inl (.inl g2), hu, k z u env1 F1 H1 s1 R1 ru q⟩
    · exact g4.elim
    · exact g4.elim
    · exact q1.elim
  · exact q1.elim

/-! ### calls -/
def rCall (S : FA) (n : Nat) (EX : XD) (t : RA) : RE := fun env Q => t env fun ds env1 => ds.length = n ∧ S ds (fun d => Q d env1) fun ed => EX ed env1
theorem q_call {k n : Nat} {f : Addr} {fd : FuncData} {ps : List Str} {S : FA} {x : Str} {EX : XD} {p : Pos} (Fn : FnOk X.prog X.w X.K X.mg X.base (L2.CX X.prog X.w) k f fd ps (spA X.K n S)) (hr : Room k X.A) (hg : Gl X x) (hm : X.mg x = some (.ref f)) (hk : PySem.W.keepIn X.K (.ref f) = true)
    (hb : Binds X.K fd ps []) (tk : TkE X bx EX) (ha : QA X bx (e :: es) t) (hdb : (x == ("__debug__" : Str)) = false := by decide) (he : starEach (e :: es) X.env = (false, eval e X.env) :: starEach es X.env := by rfl) (hpl : (backTo pos (starEach es X.env)).any (·.1) = false := by rfl) :
    QE X bx (.Call (.Name x p) (e :: es) [] pos) (rCall S n EX t) := pe_imp (pe_callS Fn hr hg hm hk hb tk ha hdb he hpl) fun σ H Q' ⟨env, F, Q, R, ht, kk⟩ =>
  ⟨env, F, _, R, ht, fun ds vs env1 F1 H1 s1 R1 r1 q1 => ⟨F1, ds, _, _, q1.1, R1.sf, r1, q1.2, fun z u F2 H2 g r2 q2 => kk z u env1 F2 H2 (s1.trans g.e) (R1.to g) r2 q2,
    fun ed cls dx F2 H2 g rx ex => ⟨env1, F2, ed, R1.to g, rx, ex⟩⟩⟩
/-- f(x, e, ..), f changes what slot i owns -/
def rCallM (i : Nat) (M : FB) (n : Nat) (EX : XD) (t : RA) : RE := fun env Q => (∃ d, env[i]? = some (.own d)) ∧ t env fun ds env1 => match env1[i]? with
  | some (.own d0) => ds.length = n ∧ M d0 ds (fun d d' => Q d (env1.set i (.own d'))) fun ed d' => EX ed (env1.set i (.own d'))
  | _ => False
theorem callM_up {i n : Nat} {M : FB} {EX : XD} {σ : L2.St} {H : Hp} {Q' : VK} (h : up X.K bx (rCallM i M n EX t) σ H Q') :
    ∃ a, σ[i]? = some (some (.ref a)) ∧ upA X.K bx t σ H fun vs H1 => spB X.K n M (.ref a :: vs) H1 Q' fun cls dx H => WEx X.K bx EX cls dx σ H := by
  obtain ⟨env, F, Q, R, ⟨⟨d, hd⟩, ht⟩, kk⟩ := h
  obtain ⟨a, ho, h1, h2, h3, h4⟩ := own_ix R hd
  refine ⟨a, h1, env, F, _, R, ht, fun ds vs env1 F1 H1 s1 R1 r1 q1 => ?_⟩
  split at q1
  · rename_i d1 hd1
    obtain ⟨p1, ho1, g1, g2, g3, g4⟩ := own_ix R1 hd1
    rw [h1] at g1
    cases g1
    exact ⟨F1, a, ho1, d1, ds, vs, _, _, q1.1, rfl, R1.sf, g3, g2, g4, r1, q1.2,
      fun z u d' ho' F2 H2 g ha o r2 q2 => kk z u (env1.set i (.own d')) F2 H2 (s1.trans g.e) (R1.setOwn hd1 h1 g ha o) r2 q2,
      fun ed cls dx d' ho' F2 H2 g ha o rx ex => ⟨env1.set i (.own d'), F2, ed, R1.setOwn hd1 h1 g ha o, rx, ex⟩⟩
  · exact q1.elim
theorem q_callM {k n : Nat} {f : Addr} {fd : FuncData} {ps : List Str} {M : FB} {x : Str} {EX : XD} {p : Pos} (Fn : FnOk X.prog X.w X.K X.mg X.base (L2.CX X.prog X.w) k f fd ps (spB X.K n M)) (hr : Room k X.A) (hg : Gl X x) (hm : X.mg x = some (.ref f)) (hk : PySem.W.keepIn X.K (.ref f) = true)
    (hb : Binds X.K fd ps []) (tk : TkE X bx EX) (hv : L2.PE X e (tVar i)) (ha : QA X bx es t) (hdb : (x == ("__debug__" : Str)) = false := by decide) (he : starEach (e :: es) X.env = (false, eval e X.env) :: starEach es X.env := by rfl) (hpl : (backTo pos (starEach es X.env)).any (·.1) = false := by rfl) :
    QE X bx (.Call (.Name x p) (e :: es) [] pos) (rCallM i M n EX t) := pe_imp (pe_callS Fn hr hg hm hk hb tk (pa_cons hv ha he) hdb he hpl) fun σ H Q' h => by
  obtain ⟨a, h1, h2⟩ := callM_up h
  exact ⟨_, h1, h2⟩
/-- built-ins -/
def rCB (r : VL) (t : RA) : RE := fun env Q => t env fun ds env1 => r ds fun z => Q z env1
theorem cb_up {r : VL} {σ : L2.St} {H : Hp} {Q' : VK} : up X.K bx (rCB r t) σ H Q' → upA X.K bx t σ H fun vs H1 => upVL X.K r vs H1 Q' := fun ⟨env, F, Q, R, ht, k⟩ =>
  ⟨env, F, _, R, ht, fun ds vs env1 F1 H1 s1 R1 r1 q1 => ⟨F1, ds, _, R1.sf, r1, q1, fun z u F2 H2 g r2 q2 => k z u env1 F2 H2 (s1.trans g.e) (R1.to g) r2 q2⟩⟩
theorem cb_upN {r : VL} {σ : L2.St} {H : Hp} {Q' : VK} : upN X.K bx (rCB r t) σ H Q' → upA X.K bx t σ H fun vs H1 => upNL X.K r vs H1 Q' := fun ⟨env, F, Q, R, ht, k⟩ =>
  ⟨env, F, _, R, ht, fun ds vs env1 F1 H1 s1 R1 r1 q1 => ⟨F1, ds, _, R1.sf, r1, q1, fun z ho p hp o q2 => k z p ho env1 F1 _ s1 (R1.laid0 hp) (R1.lone hp) upd_same o q2⟩⟩
theorem q_callB {x : Str} {id : String} {r : VL} {p : Pos} (hc : CallR X (.builtin id) (upVL X.K r)) (hg : Gl X x) (hm : X.mg x = none) (hv : bootBuiltins x = some (.builtin id)) (ha : QA X bx (e :: es) t) (hn : x ≠ "__name__" := by decide) (hdb : (x == ("__debug__" : Str)) = false := by decide)
    (he : starEach (e :: es) X.env = (false, eval e X.env) :: starEach es X.env := by rfl) (hpl : (backTo pos (starEach es X.env)).any (·.1) = false := by rfl) : QE X bx (.Call (.Name x p) (e :: es) [] pos) (rCB r t) := pe_imp (pe_callB hc hg hm hv ha hn hdb he hpl) fun _ _ _ => cb_up
theorem q_callTy {x : Str} {id : String} {r : VL} {p : Pos} (hc : CallR X (.type id) (upVL X.K r)) (hg : Gl X x) (hm : X.mg x = none) (hv : bootBuiltins x = some (.type id)) (ha : QA X bx (e :: es) t) (hn : x ≠ "__name__" := by decide) (hdb : (x == ("__debug__" : Str)) = false := by decide)
    (he : starEach (e :: es) X.env = (false, eval e X.env) :: starEach es X.env := by rfl) (hpl : (backTo pos (starEach es X.env)).any (·.1) = false := by rfl) : QE X bx (.Call (.Name x p) (e :: es) [] pos) (rCB r t) := pe_imp (pe_callTy hc hg hm hv ha hn hdb he hpl) fun _ _ _ => cb_up
theorem q_callTyN {x : Str} {id : String} {r : VL} {p : Pos} (hc : CallR X (.type id) (upNL X.K r)) (hg : Gl X x) (hm : X.mg x = none) (hv : bootBuiltins x = some (.type id)) (ha : QA X bx (e :: es) t) (hn : x ≠ "__name__" := by decide) (hdb : (x == ("__debug__" : Str)) = false := by decide)
    (he : starEach (e :: es) X.env = (false, eval e X.env) :: starEach es X.env := by rfl) (hpl : (backTo pos (starEach es X.env)).any (·.1) = false := by rfl) : QN X bx (.Call (.Name x p) (e :: es) [] pos) (rCB r t) := pe_imp (pe_callTy hc hg hm hv ha hn hdb he hpl) fun _ _ _ => cb_upN
end
end QL
set_option Elab.async false
set_option linter.all false
set_option maxRecDepth 100000
namespace QL
open PySem PySem.Spec PyProof.Rows L2
theorem ownLst {K : PySem.W.Frag} {F : Hp} {xs : List D} {vs : List V} (h : RepL K F xs vs) : OwnH K F (.lst xs) (.lst vs) := ⟨vs, rfl, h⟩
theorem RepL.two {K : PySem.W.Frag} {F : Hp} {d e : D} {vs : List V} (h : RepL K F [d, e] vs) : ∃ v w, vs = [v, w] ∧ Rep K F d v ∧ Rep K F e w := by
  obtain ⟨v, r, rfl, rd, w, r', rfl, re, z⟩ := h
  rw [show r' = [] from z]
  exact ⟨v, w, rfl, rd, re⟩
theorem RepL.three {K : PySem.W.Frag} {F : Hp} {d e f : D} {vs : List V} (h : RepL K F [d, e, f] vs) : ∃ v w u, vs = [v, w, u] ∧ Rep K F d v ∧ Rep K F e w ∧ Rep K F f u := by
  obtain ⟨v, r, rfl, rd, h⟩ := h
  obtain ⟨w, u, rfl, re, rf⟩ := RepL.two h
  exact ⟨v, w, u, rfl, rd, re, rf⟩
/-! ### targets -/
abbrev RG := D → List Slot → (List Slot → Prop) → Prop
abbrev RGs := List D → List Slot → (List Slot → Prop) → Prop
/-- only places of P change -/
def Only' (P : Nat → Prop) (σ σ' : L2.St) : Prop := σ'.length = σ.length ∧ ∀ j : Nat, ¬ P j → σ'[j]? = σ[j]?
theorem Only'.refl {P : Nat → Prop} {σ : L2.St} : Only' P σ σ := ⟨rfl, fun _ _ => rfl⟩
theorem Only'.trans {P : Nat → Prop} {σ σ1 σ2 : L2.St} (a : Only' P σ σ1) (b : Only' P σ1 σ2) : Only' P σ σ2 := ⟨b.1.trans a.1, fun j h => (b.2 j h).trans (a.2 j h)⟩
theorem Only'.set {P : Nat → Prop} {σ : L2.St} {i : Nat} {v : Option V} (h : P i) : Only' P σ (σ.set i v) := ⟨by rw [List.length_set], fun j hj => by rw [List.getElem?_set_ne (fun e => hj (by rw [← e]; exact h))]⟩
def upG (K : PySem.W.Frag) (bx : Bx) (P : Nat → Prop) (g : RG) : TG := fun v σ H Q' => ∃ env F d Q, ER K bx F env σ H ∧ Rep K F d v ∧ g d env Q ∧ ∀ env' F' σ' H', Same F F' → ER K bx F' env' σ' H' → Only' P σ σ' → Q env' → Q' σ' H'
def upGs (K : PySem.W.Frag) (bx : Bx) (P : Nat → Prop) (g : RGs) : TGs := fun vs σ H Q' => ∃ env F ds Q, ER K bx F env σ H ∧ RepL K F ds vs ∧ g ds env Q ∧ ∀ env' F' σ' H', Same F F' → ER K bx F' env' σ' H' → Only' P σ σ' → Q env' → Q' σ' H'
abbrev anyP : Nat → Prop := fun _ => True
abbrev QG (X : Cx) (bx : Bx) (P : Nat → Prop) (tg : Expr) (g : RG) : Prop := L2.PG X tg (upG X.K bx P g)
abbrev QGs (X : Cx) (bx : Bx) (P : Nat → Prop) (tg : List Expr) (g : RGs) : Prop := L2.PGs X tg (upGs X.K bx P g)
def rgN (i : Nat) : RG := fun d env Q => Q (env.set i (.val d))
def rgNil : RGs := fun ds env Q => ds = [] ∧ Q env
def rgCons (g : RG) (gs : RGs) : RGs := fun ds env Q => match ds with
  | [] => False
  | d :: r => g d env fun env1 => gs r env1 Q
def rgT (n : Nat) (gs : RGs) : RG := fun d env Q => match d with
  | .tup xs => xs.length = n ∧ gs xs env Q
  | _ => False
section
variable {X : Cx} {bx : Bx} {e a b tg : Expr} {es tgs : List Expr} {te ta tb : RE} {t : RA} {pos : Pos} {i : Nat} {g : RG} {gs : RGs} {P : Nat → Prop}
theorem pg_imp {t t' : TG} (h : L2.PG X e t) (i : ∀ v σ H Q, t' v σ H Q → t v σ H Q) : L2.PG X e t' := ⟨fun pins s σ H v u Q I r q => h.run pins s σ H v u Q I r (i v σ H Q q)⟩
theorem pgs_imp {t t' : TGs} (h : L2.PGs X es t) (i : ∀ v σ H Q, t' v σ H Q → t v σ H Q) : L2.PGs X es t' := ⟨fun pins s σ H v u Q I r q => h.run pins s σ H v u Q I r (i v σ H Q q)⟩
theorem qg_n (h : L2.PG X tg (gName i)) (hio : bx.io = none ∨ i ≠ 0) (hP : P i := by first | trivial | decide) : QG X bx P tg (rgN i) := pg_imp h fun v σ H Q' ⟨env, F, d, Q, R, r, hg, k⟩ => k _ F _ H (Same.refl _) (R.setVal hio r) (Only'.set hP) hg
theorem qgs_nil : QGs X bx P [] rgNil := pgs_imp pgs_nil fun v σ H Q' ⟨env, F, ds, Q, R, r, hg, k⟩ => by
  obtain ⟨rfl, q⟩ := hg
  exact ⟨r, k env F σ H (Same.refl _) R Only'.refl q⟩
theorem qgs_cons (h1 : QG X bx P tg g) (h2 : QGs X bx P tgs gs) (hs : (assignEach (tg :: tgs) X.env).map (·.2) = assign tg X.env :: (assignEach tgs X.env).map (·.2) := by rfl) : QGs X bx P (tg :: tgs) (rgCons g gs) := pgs_imp (pgs_cons h1 h2 hs) fun v σ H Q' ⟨env, F, ds, Q, R, r, hg, k⟩ => by
  cases ds with
  | nil => exact hg.elim
  | cons d rest =>
    obtain ⟨v1, vs, rfl, r1, r2⟩ := r
    exact ⟨v1, vs, rfl, env, F, d, _, R, r1, hg, fun env1 F1 σ1 H1 s1 R1 o1 q1 => ⟨env1, F1, rest, Q, R1, RepL.mono s1 _ _ r2, q1, fun env2 F2 σ2 H2 s2 R2 o2 q2 => k env2 F2 σ2 H2 (s1.trans s2) R2 (o1.trans o2) q2⟩⟩
theorem qg_t {k n : Nat} (hc : X.calm = true) (h : QGs X bx P tgs gs) (hn : (assignEach tgs X.env).length = n := by rfl) (hst : (assignEach tgs X.env).findIdx? (·.1) = none := by rfl) : QG X bx P (.Tuple tgs k pos) (rgT n gs) := pg_imp (pg_tup hc h hn hst) fun v σ H Q' ⟨env, F, d, Q, R, r, hg, kk⟩ => by
  unfold rgT at hg
  split at hg
  · obtain ⟨p, vs, rfl, h2, h3⟩ := r
    exact ⟨p, vs, rfl, same_sqt R.sf h2, by rw [← h3.length]; exact hg.1, env, F, _, Q, R, h3, hg.2, kk⟩
  · exact hg.elim

/-! ### statements -/
def sNil : RS := fun en env => en.nx env
def sSeq (t u : RS) : RS := fun en env => t { en with nx := fun env' => u en env' } env
def sAsg (te : RE) (g : RG) : RS := fun en env => te env fun d env1 => g d env1 en.nx
def sOwn (i : Nat) (te : RE) : RS := fun en env => te env fun d env1 => en.nx (env1.set i (.own d))
def sDrop (te : RE) : RS := fun en env => te env fun _ env1 => en.nx env1
def sRet (te : RE) : RS := fun en env => te env en.rt
def sRetN : RS := fun en env => en.rt .non env
def sIf (c : RB) (t u : RS) : RS := fun en env => c env fun b env1 => if b = true then t en env1 else u en env1
def sBrk : RS := fun en env => en.bk env
def sCnt : RS := fun en env => en.ct env
def sPass : RS := fun en env => en.nx env
def sNever : RS := fun _ _ => False
variable {st : Stmt} {sts : List Stmt} {ts us : RS}
theorem qs_nil : QSs X bx [] sNil := pss_imp pss_nil fun Dn σ H ⟨env, F, en, R, ht, k, _⟩ => k env F σ H (Same.refl _) R ht
theorem seq_up {σ : L2.St} {H : Hp} {Dn : Ends} : upS X.K bx (sSeq ts us) Dn σ H → tSeq (upS X.K bx ts) (upS X.K bx us) Dn σ H := fun ⟨env, F, en, R, ht, k1, k2, k3, k4⟩ =>
  ⟨env, F, _, R, ht, fun env' F' σ' H' s R' q => ⟨env', F', en, R', q, fun env2 F2 σ2 H2 s2 => k1 env2 F2 σ2 H2 (s.trans s2), fun d v env2 F2 σ2 H2 s2 => k2 d v env2 F2 σ2 H2 (s.trans s2), fun env2 F2 σ2 H2 s2 => k3 env2 F2 σ2 H2 (s.trans s2), fun env2 F2 σ2 H2 s2 => k4 env2 F2 σ2 H2 (s.trans s2)⟩, k2, k3, k4⟩
theorem qs_cons (h : QS X bx st ts) (g : QSs X bx sts us) : QSs X bx (st :: sts) (sSeq ts us) := pss_imp (pss_cons h g) fun _ _ _ => seq_up
theorem qs_one (h : QS X bx st ts) : QSs X bx [st] ts := pss_one h
theorem qs_never : QSs X bx sts sNever := pss_imp pss_never fun Dn σ H ⟨env, F, en, R, ht, _⟩ => ht
theorem qs_asg (he : QE X bx e te) (hg : QG X bx anyP tg g) (hs : swapsWithSole [tg] e pos.line X.env = pure false := by rfl) (hw : swappedStores [tg] e X.env = pure none := by rfl) (h1 : (assignEach [tg] X.env).map (·.2) = [assign tg X.env] := by rfl) : QS X bx (.Assign [tg] e pos) (sAsg te g) := ps_imp (ps_asg he hg hs hw h1) fun Dn σ H ⟨env, F, en, R, ht, k, _⟩ =>
  ⟨env, F, _, R, ht, fun d v env1 F1 H1 s1 R1 r1 q1 => ⟨env1, F1, d, _, R1, r1, q1, fun env2 F2 σ2 H2 s2 R2 _ q2 => k env2 F2 σ2 H2 (s1.trans s2) R2 q2⟩⟩
theorem qs_set {x : Str} {pos' : Pos} (hN : X.N.Nodup) (hi : X.N[i]? = some x) (hx : Loc X.env.scope x) (hio : bx.io = none ∨ i ≠ 0) (he : QE X bx e te) (hs : swapsWith e (some (.Name x pos')) pos.line X.env = pure false := by rfl) (hf : X.fn x = true ∨ X.env.scope.names.lookup x = some .local := by first | exact .inl rfl | exact .inr rfl | assumption) :
    QS X bx (.Assign [.Name x pos'] e pos) (sAsg te (rgN i)) := ps_imp (ps_set hN hi hx he hs hf) fun Dn σ H ⟨env, F, en, R, ht, k, _⟩ =>
  ⟨env, F, _, R, ht, fun d v env1 F1 H1 s1 R1 r1 q1 => k _ F1 _ H1 s1 (R1.setVal hio r1) q1⟩
theorem qs_own {x : Str} {pos' : Pos} (hN : X.N.Nodup) (hi : X.N[i]? = some x) (hx : Loc X.env.scope x) (hio : bx.io = none ∨ i ≠ 0) (he : QN X bx e te) (hs : swapsWith e (some (.Name x pos')) pos.line X.env = pure false := by rfl) (hf : X.fn x = true ∨ X.env.scope.names.lookup x = some .local := by first | exact .inl rfl | exact .inr rfl | assumption) :
    QS X bx (.Assign [.Name x pos'] e pos) (sOwn i te) := ps_imp (ps_set hN hi hx he hs hf) fun Dn σ H ⟨env, F, en, R, ht, k, _⟩ =>
  ⟨env, F, _, R, ht, fun d p ho env1 F1 H1 s1 R1 l hp o q1 => k _ F1 _ H1 s1 (R1.setNew hio l hp o) q1⟩
theorem qs_expr (he : QE X bx e te) (hs : swapsWith e none pos.line X.env = pure false := by rfl) : QS X bx (.Expr e pos) (sDrop te) := ps_imp (ps_expr he hs) fun Dn σ H ⟨env, F, en, R, ht, k, _⟩ =>
  ⟨env, F, _, R, ht, fun d v env1 F1 H1 s1 R1 r1 q1 => k env1 F1 σ H1 s1 R1 q1⟩
theorem qs_ret (he : QE X bx e te) : QS X bx (.Return (some e) pos) (sRet te) := ps_imp (ps_ret he) fun Dn σ H ⟨env, F, en, R, ht, _, k, _⟩ =>
  ⟨env, F, _, R, ht, fun d v env1 F1 H1 s1 R1 r1 q1 => k d v env1 F1 σ H1 s1 R1 r1 q1⟩
theorem qs_retN : QS X bx (.Return none pos) sRetN := ps_imp ps_retN fun Dn σ H ⟨env, F, en, R, ht, _, k, _⟩ => k .non .non env F σ H (Same.refl _) R rfl ht
theorem qs_if {c : Expr} {sa sb : List Stmt} {tc : RB} (hc : QT X bx c tc) (ha : QSs X bx sa ts) (hb : QSs X bx sb us) : QS X bx (.If c sa sb pos) (sIf tc ts us) := ps_imp (ps_if hc ha hb) fun Dn σ H ⟨env, F, en, R, ht, k1, k2, k3, k4⟩ =>
  ⟨env, F, _, R, ht, fun b env1 F1 H1 s R1 q1 => by
    cases b with
    | true =>
      rw [if_pos rfl] at q1 ⊢
      exact ⟨env1, F1, en, R1, q1, fun env2 F2 σ2 H2 s2 => k1 env2 F2 σ2 H2 (s.trans s2), fun d v env2 F2 σ2 H2 s2 => k2 d v env2 F2 σ2 H2 (s.trans s2), fun env2 F2 σ2 H2 s2 => k3 env2 F2 σ2 H2 (s.trans s2), fun env2 F2 σ2 H2 s2 => k4 env2 F2 σ2 H2 (s.trans s2)⟩
    | false =>
      rw [if_neg Bool.false_ne_true] at q1 ⊢
      exact ⟨env1, F1, en, R1, q1, fun env2 F2 σ2 H2 s2 => k1 env2 F2 σ2 H2 (s.trans s2), fun d v env2 F2 σ2 H2 s2 => k2 d v env2 F2 σ2 H2 (s.trans s2), fun env2 F2 σ2 H2 s2 => k3 env2 F2 σ2 H2 (s.trans s2), fun env2 F2 σ2 H2 s2 => k4 env2 F2 σ2 H2 (s.trans s2)⟩⟩
theorem qs_brk : QS X bx (.Break pos) sBrk := ps_imp ps_break fun Dn σ H ⟨env, F, en, R, ht, _, _, k, _⟩ => k env F σ H (Same.refl _) R ht
theorem qs_cnt : QS X bx (.Continue pos) sCnt := ps_imp ps_continue fun Dn σ H ⟨env, F, en, R, ht, _, _, _, k⟩ => k env F σ H (Same.refl _) R ht
theorem qs_pass : QS X bx (.Pass pos) sPass := ps_imp ps_pass fun Dn σ H ⟨env, F, en, R, ht, k, _⟩ => k env F σ H (Same.refl _) R ht
/-- a, b = e1, e2 -/
def sPar (i j : Nat) (t : RA) : RS := fun en env => t env fun ds env1 => match ds with
  | [d, e] => en.nx ((env1.set i (.val d)).set j (.val e))
  | _ => False
theorem qs_par {j : Nat} {x y : Str} {px py pt : Pos} {kt k2 pt2} (hc : X.calm = true) (hN : X.N.Nodup) (hi : X.N[i]? = some x) (hj : X.N[j]? = some y) (hij : i ≠ j) (hio : bx.io = none ∨ i ≠ 0) (hio2 : bx.io = none ∨ j ≠ 0)
    (hx : X.env.scope.names.lookup x = some .local) (hy : X.env.scope.names.lookup y = some .local) (ha : QA X bx [a, b] t)
    (hw : swappedStores [.Tuple [.Name x px, .Name y py] kt pt] (.Tuple [a, b] k2 pt2) X.env = pure (some [x, y]))
    (hs : swapsWithSole [.Tuple [.Name x px, .Name y py] kt pt] (.Tuple [a, b] k2 pt2) pos.line X.env = pure false := by rfl) :
    QS X bx (.Assign [.Tuple [.Name x px, .Name y py] kt pt] (.Tuple [a, b] k2 pt2) pos) (sPar i j t) := ps_imp (ps_par hc hN hi hj hij hx hy ha hw hs) fun Dn σ H ⟨env, F, en, R, ht, k, _⟩ =>
  ⟨env, F, _, R, ht, fun ds vs env1 F1 H1 s1 R1 r1 q1 => by
    split at q1
    · obtain ⟨v, w, rfl, rd, re⟩ := RepL.two r1
      exact ⟨v, w, rfl, k _ F1 _ H1 s1 ((R1.setVal hio rd).setVal hio2 re) q1⟩
    · exact q1.elim⟩
def sPar3 (i j l : Nat) (t : RA) : RS := fun en env => t env fun ds env1 => match ds with
  | [d, e, f] => en.nx (((env1.set i (.val d)).set j (.val e)).set l (.val f))
  | _ => False
theorem qs_par3 {j l : Nat} {x y z : Str} {c : Expr} {px py pz pt : Pos} {kt k2 pt2} (hc : X.calm = true) (hN : X.N.Nodup) (hi : X.N[i]? = some x) (hj : X.N[j]? = some y) (hl : X.N[l]? = some z) (hij : i ≠ j) (hil : i ≠ l) (hjl : j ≠ l) (hio : bx.io = none ∨ i ≠ 0) (hio2 : bx.io = none ∨ j ≠ 0) (hio3 : bx.io = none ∨ l ≠ 0)
    (hx : X.env.scope.names.lookup x = some .local) (hy : X.env.scope.names.lookup y = some .local) (hz : X.env.scope.names.lookup z = some .local) (ha : QA X bx [a, b, c] t)
    (hw : swappedStores [.Tuple [.Name x px, .Name y py, .Name z pz] kt pt] (.Tuple [a, b, c] k2 pt2) X.env = pure (some [x, y, z]))
    (hs : swapsWithSole [.Tuple [.Name x px, .Name y py, .Name z pz] kt pt] (.Tuple [a, b, c] k2 pt2) pos.line X.env = pure false := by rfl) :
    QS X bx (.Assign [.Tuple [.Name x px, .Name y py, .Name z pz] kt pt] (.Tuple [a, b, c] k2 pt2) pos) (sPar3 i j l t) := ps_imp (ps_par3 hc hN hi hj hl hij hil hjl hx hy hz ha hw hs) fun Dn σ H ⟨env, F, en, R, ht, k, _⟩ =>
  ⟨env, F, _, R, ht, fun ds vs env1 F1 H1 s1 R1 r1 q1 => by
    split at q1
    · obtain ⟨v, w, u, rfl, rd, re, rf⟩ := RepL.three r1
      exact ⟨v, w, u, rfl, k _ F1 _ H1 s1 (((R1.setVal hio rd).setVal hio2 re).setVal hio3 rf) q1⟩
    · exact q1.elim⟩
/-- x op= e -/
def sAug (i : Nat) (r : V2) (te : RE) : RS := fun en env => match env[i]? with
  | some (.val d) => te env fun e env1 => r d e fun z => en.nx (env1.set i (.val z))
  | _ => False
def IpQ (X : Cx) (op : Operator) (r : V2) : Prop := PIp X op (upV2 X.K r)
theorem ip_of {op : Operator} {r : V2} (h : OpR X (inplaceOp op) (upV2 X.K r)) : IpQ X op r := fun pins s σ H x y v u Q I r1 r2 q => h pins s σ H x y v u Q I r1 r2 q
def vIAdd : V2
  | .int i, .int j, Q => Q (.int (i + j))
  | _, _, _ => False
def vISub : V2
  | .int i, .int j, Q => Q (.int (i - j))
  | _, _, _ => False
theorem qip_add : IpQ X .Add vIAdd := by
  intro pins s σ H x y v u Q' I rx ry ⟨F, d, e, Q, sm, r1, r2, h, g⟩
  unfold vIAdd at h
  split at h
  · cases r1; cases r2
    exact ip_add pins s σ H _ _ v u Q' I rx ry ⟨_, _, rfl, rfl, g.i sm h⟩
  · exact h.elim
theorem qip_sub : IpQ X .Sub vISub := by
  intro pins s σ H x y v u Q' I rx ry ⟨F, d, e, Q, sm, r1, r2, h, g⟩
  unfold vISub at h
  split at h
  · cases r1; cases r2
    exact ip_sub pins s σ H _ _ v u Q' I rx ry ⟨_, _, rfl, rfl, g.i sm h⟩
  · exact h.elim
theorem qs_aug {x : Str} {op : Operator} {r : V2} {pos' : Pos} (hN : X.N.Nodup) (hi : X.N[i]? = some x) (hx : Loc X.env.scope x) (hio : bx.io = none ∨ i ≠ 0) (ho : IpQ X op r) (he : QE X bx e te) (hf : X.fn x = true ∨ X.env.scope.names.lookup x = some .local := by first | exact .inl rfl | exact .inr rfl | assumption) :
    QS X bx (.AugAssign (.Name x pos') op e pos) (sAug i r te) := ps_imp (ps_aug hN hi hx he ho hf) fun Dn σ H ⟨env, F, en, R, ht, k, _⟩ => by
  unfold sAug at ht
  split at ht
  · rename_i d hd
    obtain ⟨o, h1, v, rfl, h3⟩ := R.slots i _ hd
    exact ⟨v, h1, env, F, _, R, ht, fun e w env1 F1 H1 s1 R1 r1 q1 => ⟨F1, d, e, _, R1.sf, Rep.mono s1 _ _ h3, r1, q1, fun z u F2 H2 g r2 q2 => k _ F2 _ H2 (s1.trans g.e) ((R1.to g).setVal hio r2) q2⟩⟩
  · exact ht.elim
/-! what a slot owns: lists -/
def sApp (i : Nat) (te : RE) : RS := fun en env => (∃ xs, env[i]? = some (.own (.lst xs))) ∧ te env fun d env1 => match env1[i]? with
  | some (.own (.lst xs)) => xs.length < sizeLine ∧ en.nx (env1.set i (.own (.lst (xs ++ [d]))))
  | _ => False
theorem growB_upd {F H : Hp} {a : Addr} {o : HO} (s : Same F H) (h : F a = none) : GrowB a F H F (upd H a o) :=
  ⟨Same.refl _, same_upd2 s h, fun b q z hb => by rw [upd_ne hb]; exact z, fun b h1 h2 => h1⟩
theorem pe_append {o e : Expr} {apos cpos : Pos} {to te : TE} (ho : L2.PE X o to) (he : L2.PE X e te) (hbase : attributeBase o "append" X.env (eval o X.env) = eval o X.env := by rfl)
    (hfew : ((backTo cpos (starEach [e] X.env)).all (fun x => !x.1) && (backToKw cpos (keywordEach [] X.env)).all (fun x => x.1.isSome) && decide ([e].length + ([] : List Keyword).length + (if ([] : List Keyword).isEmpty then 0 else 1) < 30)) = true := by rfl)
    (hline : (apos.endLine == cpos.line) = true := by rfl) (hs : starEach [e] X.env = (false, eval e X.env) :: starEach [] X.env := by rfl) (hplain : (backTo cpos (starEach [] X.env)).any (·.1) = false := by rfl) :
    L2.PE X (.Call (.Attribute o "append" apos) [e] [] cpos) (tBM X.K "list" rAppend to (tCons te tNil)) :=
  pe_bm PySem.F.plainAttrs_list PySem.F.slot_list_append PySem.F.type_list_append mt_append ho (pa_cons he pa_nil hs) hbase hfew hline hs hplain
theorem qs_app {o : Expr} {apos cpos : Pos} (ho : L2.PE X o (tVar i)) (he : QE X bx e te) (hbase : attributeBase o "append" X.env (eval o X.env) = eval o X.env := by rfl)
    (hfew : ((backTo cpos (starEach [e] X.env)).all (fun x => !x.1) && (backToKw cpos (keywordEach [] X.env)).all (fun x => x.1.isSome) && decide ([e].length + ([] : List Keyword).length + (if ([] : List Keyword).isEmpty then 0 else 1) < 30)) = true := by rfl)
    (hline : (apos.endLine == cpos.line) = true := by rfl) (hs : starEach [e] X.env = (false, eval e X.env) :: starEach [] X.env := by rfl) (hplain : (backTo cpos (starEach [] X.env)).any (·.1) = false := by rfl)
    (hsw : swapsWith (.Call (.Attribute o "append" apos) [e] [] cpos) none pos.line X.env = pure false := by rfl) :
    QS X bx (.Expr (.Call (.Attribute o "append" apos) [e] [] cpos) pos) (sApp i te) := ps_imp (ps_expr (pe_append ho he hbase hfew hline hs hplain) hsw) fun Dn σ H ⟨env, F, en, R, ⟨⟨xs, hx⟩, ht⟩, k, _⟩ => by
  obtain ⟨a, ho, h1, h2, h3, ⟨vs, rfl, h4⟩⟩ := own_ix R hx
  refine ⟨.ref a, h1, .inl ⟨rfl, _, .inl (.inl h2)⟩, env, F, _, R, ht, fun d v env1 F1 H1 s1 R1 r1 q1 => ?_⟩
  split at q1
  · rename_i ys hy
    obtain ⟨a', ho', g1, g2, g3, ⟨ws, rfl, g4⟩⟩ := own_ix R1 hy
    rw [h1] at g1; cases g1
    exact ⟨a, ws, v, rfl, rfl, g2, by rw [← g4.length]; exact q1.1, k _ F1 σ _ s1 (R1.setOwn hy h1 (growB_upd R1.sf g3) upd_same (ownLst (RepL.append g4 (RepL.one r1)))) q1.2⟩
  · exact q1.elim
/-- x.pop() -/
def rPopO (i : Nat) : RE := fun env Q => match env[i]? with
  | some (.own (.lst xs)) => ∃ d, xs[xs.length - 1]? = some d ∧ Q d (env.set i (.own (.lst xs.dropLast)))
  | _ => False
theorem RepL.dropLast {K : PySem.W.Frag} {F : Hp} {xs : List D} {vs : List V} (h : RepL K F xs vs) : RepL K F xs.dropLast vs.dropLast := by
  rw [List.dropLast_eq_take, List.dropLast_eq_take, h.length]
  exact RepL.take _ h
theorem q_pop {o : Expr} {apos cpos : Pos} (ho : L2.PE X o (tVar i)) (hbase : attributeBase o "pop" X.env (eval o X.env) = eval o X.env := by rfl) (hline : (apos.endLine == cpos.line) = true := by rfl) :
    QE X bx (.Call (.Attribute o "pop" apos) [] [] cpos) (rPopO i) := pe_imp (pe_bm0 PySem.F.plainAttrs_list PySem.F.slot_list_pop PySem.F.type_list_pop mt_pop ho hbase hline) fun σ H Q' ⟨env, F, Q, R, ht, k⟩ => by
  unfold rPopO at ht
  split at ht
  · rename_i xs hx
    obtain ⟨d, hd, q⟩ := ht
    obtain ⟨a, ho, h1, h2, h3, ⟨vs, rfl, h4⟩⟩ := own_ix R hx
    obtain ⟨v, hv, rv⟩ := h4.get hd
    refine ⟨.ref a, h1, .inl ⟨rfl, _, .inl (.inl h2)⟩, a, vs, v, rfl, rfl, h2, by rw [← h4.length]; exact hv, ?_⟩
    exact k d v _ F _ (Same.refl _) (R.setOwn hx h1 (growB_upd R.sf h3) upd_same (ownLst h4.dropLast)) rv q
  · exact ht.elim
/-- x[j] = e, x[j] op= e -/
def sPut (i : Nat) (te tj : RE) : RS := fun en env => te env fun d env1 => (∃ xs, env1[i]? = some (.own (.lst xs))) ∧ tj env1 fun j env2 => match env2[i]? with
  | some (.own (.lst xs)) => (match j with
    | .int k => ∃ n, ixN xs.length k = some n ∧ en.nx (env2.set i (.own (.lst (xs.set n d))))
    | _ => False)
  | _ => False
theorem qs_put {o j : Expr} {tj : RE} {p' : Pos} (ho : L2.PE X o (tVar i)) (hj : QE X bx j tj) (he : QE X bx e te) (hs : swapsWithSole [.Subscript o j p'] e pos.line X.env = pure false := by rfl) (hw : swappedStores [.Subscript o j p'] e X.env = pure none := by rfl) (h1 : (assignEach [.Subscript o j p'] X.env).map (·.2) = [assign (.Subscript o j p') X.env] := by rfl)
    (ha : ∀ v, assign (.Subscript o j p') X.env v = (do
      let ov ← holding [v] (eval o X.env)
      let iv ← holding [v, ov] (eval j X.env)
      standAt p'
      holding [v, ov, iv] (setItem ov iv v)
      release [v, ov, iv] []) := by intro _; rfl) : QS X bx (.Assign [.Subscript o j p'] e pos) (sPut i te tj) := ps_imp (ps_asg he (pg_sub ho hj set_list ha) hs hw h1) fun Dn σ H ⟨env, F, en, R, ht, k, _⟩ =>
  ⟨env, F, _, R, ht, fun d v env1 F1 H1 s1 R1 r1 ⟨⟨xs, hx⟩, q1⟩ => by
    obtain ⟨a, ho, g1, g2, g3, ⟨vs, rfl, g4⟩⟩ := own_ix R1 hx
    refine ⟨.ref a, g1, env1, F1, _, R1, q1, fun z w env2 F2 H2 s2 R2 r2 q2 => ?_⟩
    split at q2
    · rename_i ys hy
      obtain ⟨a', ho', f1, f2, f3, ⟨ws, rfl, f4⟩⟩ := own_ix R2 hy
      rw [g1] at f1; cases f1
      split at q2
      · cases r2
        obtain ⟨n, hn, q3⟩ := q2
        exact ⟨a, ws, _, n, rfl, rfl, f2, by rw [← f4.length]; exact hn, k _ F2 σ _ (s1.trans s2) (R2.setOwn hy g1 (growB_upd R2.sf f3) upd_same (ownLst (RepL.set n f4 (Rep.mono s2 _ _ r1)))) q3⟩
      · exact q2.elim
    · exact q2.elim⟩
theorem get_list : PGet X (rIxL X.K) := by
  intro pins s σ H x y v u Q I rx ry h
  obtain ⟨p, xs, i, z, rfl, rfl, hq, he, q⟩ := h
  cases rx
  obtain ⟨t, rfl⟩ := ry
  obtain ⟨its, r, pl, hz⟩ := I.list hq
  obtain ⟨j, h1, h2, h3, h4, h5⟩ := atI_get he
  obtain ⟨w, ew, rw'⟩ := r.get h2
  have hl := r.length
  have hn := line63
  have fin : EP X pins σ Q w s := ⟨z, H, I, rw', q⟩
  by_cases h0 : 0 ≤ i
  · have hj : i.toNat = j := by
      rw [seqIndex_of h0 h5] at h1
      exact Option.some.inj h1
    exact wpAny_getItem_list pl.isList h0 (by omega) (by rw [hj]; simpa using ew) fin
  · have hj : (i + (its.toArray.size : Int)).toNat = j := by
      rw [seqIndex_neg (by omega) h4] at h1
      rw [List.size_toArray, ← hl]
      exact Option.some.inj h1
    exact wpAny_getItem_list_neg pl.isList (by omega) (by rw [List.size_toArray] <;> omega) (by omega) (by rw [hj]; simpa using ew) fin
def sAugI (i : Nat) (r : V2) (tj te : RE) : RS := fun en env => (∃ xs, env[i]? = some (.own (.lst xs))) ∧ tj env fun j env1 => match env1[i]? with
  | some (.own (.lst xs)) => (match j with
    | .int k => ∃ d, atI xs k = some d ∧ te env1 fun e env2 => r d e fun z => match env2[i]? with
      | some (.own (.lst ys)) => ∃ n, ixN ys.length k = some n ∧ en.nx (env2.set i (.own (.lst (ys.set n z))))
      | _ => False
    | _ => False)
  | _ => False
theorem qs_augI {o j : Expr} {tj : RE} {r : V2} {op : Operator} {p' : Pos} (ho : L2.PE X o (tVar i)) (hj : QE X bx j tj) (hp : IpQ X op r) (he : QE X bx e te)
    (ha : ∀ ov iv new, augStore j ov iv new = (do holding [new, ov, iv] (setItem ov iv new); release [new, ov, iv] []; pure .next) := by intros; rfl) : QS X bx (.AugAssign (.Subscript o j p') op e pos) (sAugI i r tj te) := ps_imp (ps_augS ho hj get_list he hp set_list ha) fun Dn σ H ⟨env, F, en, R, ⟨⟨xs, hx⟩, ht⟩, k, _⟩ => by
  obtain ⟨a, ho, h1, h2, h3, ⟨vs, rfl, h4⟩⟩ := own_ix R hx
  refine ⟨.ref a, h1, env, F, _, R, ht, fun z w env1 F1 H1 s1 R1 r1 q1 => ?_⟩
  split at q1
  · rename_i ys hy
    obtain ⟨a', ho', f1, f2, f3, ⟨ws, rfl, f4⟩⟩ := own_ix R1 hy
    rw [h1] at f1; cases f1
    split at q1
    · cases r1
      obtain ⟨d, hd, q2⟩ := q1
      obtain ⟨v, hv, rv⟩ := atI_rep f4 hd
      refine ⟨a, ws, _, v, rfl, rfl, .inl (.inl f2), hv, env1, F1, _, R1, q2, fun e w env2 F2 H2 s2 R2 r2 q3 => ⟨F2, d, e, _, R2.sf, Rep.mono s2 _ _ rv, r2, q3, fun z u F3 H3 g r3 q4 => ?_⟩⟩
      split at q4
      · rename_i zs hz
        have R3 := R2.to g
        obtain ⟨a', ho', e1, e2, e3, ⟨us, rfl, e4⟩⟩ := own_ix R3 hz
        rw [h1] at e1; cases e1
        obtain ⟨n, hn, q5⟩ := q4
        exact ⟨a, us, _, n, rfl, rfl, e2, by rw [← e4.length]; exact hn, k _ F3 σ _ ((s1.trans s2).trans g.e) (R3.setOwn hz h1 (growB_upd R3.sf e3) upd_same (ownLst (RepL.set n e4 r3))) q5⟩
      · exact q4.elim
    · exact q1.elim
  · exact q1.elim
end
end QL
set_option Elab.async false
set_option linter.all false
set_option maxRecDepth 100000
namespace QL
open PySem PySem.Spec PyProof.Rows L2
/-! ### what is walked -/
/-- the iterator J gives the data xs, one after another, as long as F0 stands frozen -/
structure Wk (K : PySem.W.Frag) (F0 : Hp) (J : It) (xs : List D) : Prop where
  go : ∀ (i : Nat) (F H : Hp), Same F0 F → Same F H → i < xs.length → J.go i H
  yl : ∀ (i : Nat) (F H : Hp) (v : V) (H' : Hp), Same F0 F → Same F H → i < xs.length → J.yld i H v H' → ∃ F' d, Grow F H F' H' ∧ xs[i]? = some d ∧ Rep K F' d v
  st : ∀ (i : Nat) (F H : Hp), Same F0 F → Same F H → xs.length ≤ i → J.stop i H
theorem wk_list {K : PySem.W.Frag} {F0 : Hp} {a : Addr} {vs : List V} {xs : List D} (h : SqL K F0 a vs) (r : RepL K F0 xs vs) (un : ∀ F H ys, Same F0 F → Same F H → SqL K H a ys → ys = vs) : Wk K F0 (Itl K a) xs where
  go := fun i F H s1 s2 hi => by
    rw [r.length] at hi
    exact ⟨vs, vs[i], s2.seq (s1.seq h), List.getElem?_eq_getElem hi⟩
  yl := fun i F H v H' s1 s2 hi ⟨e, y⟩ => by
    have hv := y vs (s2.seq (s1.seq h))
    obtain ⟨d, hd, rd⟩ := r.getV hv
    rw [e]
    exact ⟨F, d, Grow.refl s2, hd, Rep.mono s1 _ _ rd⟩
  st := fun i F H s1 s2 hi => ⟨vs, s2.seq (s1.seq h), by rw [← r.length]; exact hi⟩
theorem wk_tup {K : PySem.W.Frag} {F0 : Hp} {a : Addr} {vs : List V} {xs : List D} (h : SqT K F0 a vs) (r : RepL K F0 xs vs) : Wk K F0 (Itt K a) xs where
  go := fun i F H s1 s2 hi => by
    rw [r.length] at hi
    exact ⟨vs, vs[i], same_sqt s2 (same_sqt s1 h), List.getElem?_eq_getElem hi⟩
  yl := fun i F H v H' s1 s2 hi ⟨e, y⟩ => by
    have hv := y vs (same_sqt s2 (same_sqt s1 h))
    obtain ⟨d, hd, rd⟩ := r.getV hv
    rw [e]
    exact ⟨F, d, Grow.refl s2, hd, Rep.mono s1 _ _ rd⟩
  st := fun i F H s1 s2 hi => ⟨vs, same_sqt s2 (same_sqt s1 h), by rw [← r.length]; exact hi⟩
def rng (lo : Int) (n : Nat) : List D := (List.range n).map fun i => D.int (lo + (i : Nat))
theorem wk_rng {K : PySem.W.Frag} {F0 : Hp} {lo : Int} {n : Nat} : Wk K F0 (Itr lo n) (rng lo n) where
  go := fun i F H s1 s2 hi => by
    have e : (rng lo n).length = n := by simp [rng]
    rw [e] at hi; exact hi
  yl := fun i F H v H' s1 s2 hi ⟨e, y⟩ => by
    have el : (rng lo n).length = n := by simp [rng]
    rw [el] at hi
    rw [e, y]
    refine ⟨F, .int (lo + (i : Nat)), Grow.refl s2, ?_, rfl⟩
    simp [rng, hi]
  st := fun i F H s1 s2 hi => by
    have el : (rng lo n).length = n := by simp [rng]
    rw [el] at hi; exact hi
def enumD (xs : List D) : List D := (List.range xs.length).zipWith (fun (i : Nat) d => D.tup [.int i, d]) xs
theorem enumD_get {xs : List D} {i : Nat} {d : D} (h : xs[i]? = some d) : (enumD xs)[i]? = some (.tup [.int i, d]) := by
  have hi := (List.getElem?_eq_some_iff.mp h).1
  unfold enumD
  rw [List.getElem?_zipWith, h, List.getElem?_range hi]
theorem enumD_len {xs : List D} : (enumD xs).length = xs.length := by unfold enumD; simp
theorem wk_enum {K : PySem.W.Frag} {F0 : Hp} {a : Addr} {vs : List V} {xs : List D} (h : SqL K F0 a vs) (r : RepL K F0 xs vs) : Wk K F0 (Ite K a) (enumD xs) where
  go := fun i F H s1 s2 hi => by
    rw [enumD_len, r.length] at hi
    exact ⟨vs, vs[i], s2.seq (s1.seq h), List.getElem?_eq_getElem hi⟩
  yl := fun i F H v H' s1 s2 hi ⟨T, x, e1, nT, e2, y⟩ => by
    have hv := y vs (s2.seq (s1.seq h))
    obtain ⟨d, hd, rd⟩ := r.getV hv
    rw [e1, e2]
    refine ⟨_, .tup [.int i, d], Grow.laid s2 nT, enumD_get hd, T, [.int i, x], rfl, .inl (.inl upd_same), _, _, rfl, rfl, _, _, rfl, Rep.mono (s1.trans (same_upd (s2.free nT))) _ _ rd, rfl⟩
  st := fun i F H s1 s2 hi => ⟨vs, s2.seq (s1.seq h), by rw [← r.length, ← enumD_len]; exact hi⟩
def zipD (xs ys : List D) : List D := xs.zipWith (fun d e => D.tup [d, e]) ys
theorem wk_zip {K : PySem.W.Frag} {F0 : Hp} {a b : Addr} {vs ws : List V} {xs ys : List D} (h : SqL K F0 a vs) (r : RepL K F0 xs vs) (g : SqL K F0 b ws) (q : RepL K F0 ys ws) : Wk K F0 (Itz K a b) (zipD xs ys) where
  go := fun i F H s1 s2 hi => by
    have hl : i < vs.length ∧ i < ws.length := by
      unfold zipD at hi
      rw [List.length_zipWith, r.length, q.length] at hi
      omega
    exact ⟨vs, ws, vs[i], ws[i], s2.seq (s1.seq h), s2.seq (s1.seq g), List.getElem?_eq_getElem hl.1, List.getElem?_eq_getElem hl.2⟩
  yl := fun i F H v H' s1 s2 hi ⟨T, x, y, e1, nT, e2, y1, y2⟩ => by
    obtain ⟨d, hd, rd⟩ := r.getV (y1 vs (s2.seq (s1.seq h)))
    obtain ⟨e, he, re⟩ := q.getV (y2 ws (s2.seq (s1.seq g)))
    rw [e1, e2]
    have s3 := s1.trans (same_upd (o := .tup [x, y]) (s2.free nT))
    refine ⟨_, .tup [d, e], Grow.laid s2 nT, ?_, T, [x, y], rfl, .inl (.inl upd_same), _, _, rfl, Rep.mono s3 _ _ rd, _, _, rfl, Rep.mono s3 _ _ re, rfl⟩
    unfold zipD
    rw [List.getElem?_zipWith, hd, he]
  st := fun i F H s1 s2 hi => by
    refine ⟨vs, ws, s2.seq (s1.seq h), s2.seq (s1.seq g), ?_⟩
    unfold zipD at hi
    rw [List.length_zipWith, r.length, q.length] at hi
    omega
abbrev RI := List Slot → (List D → List Slot → Prop) → Prop
def upI (K : PySem.W.Frag) (bx : Bx) (t : RI) : TI := fun σ H R' => ∃ env F Q, ER K bx F env σ H ∧ t env Q ∧ ∀ xs env' F' H' J, Same F F' → ER K bx F' env' σ H' → Wk K F' J xs → Q xs env' → R' J H'
abbrev QI (X : Cx) (bx : Bx) (tg iter : Expr) (t : RI) : Prop := L2.PI X tg iter (upI X.K bx t)
def itD : D → Option (List D)
  | .lst xs => some xs
  | .tup xs => some xs
  | _ => none
def riL (te : RE) : RI := fun env Q => te env fun d env1 => match d with
  | .lst xs => Q xs env1
  | .scr ns => Q (ns.map D.int) env1
  | _ => False
def riT (te : RE) : RI := fun env Q => te env fun d env1 => match d with
  | .tup xs => Q xs env1
  | _ => False
def riR1 (t : RA) : RI := fun env Q => t env fun ds env1 => match ds with
  | [.int j] => (-(2 ^ 62) ≤ j ∧ j < 2 ^ 62) ∧ Q (rng 0 j.toNat) env1
  | _ => False
def riR2 (t : RA) : RI := fun env Q => t env fun ds env1 => match ds with
  | [.int i, .int j] => (-(2 ^ 62) ≤ i ∧ i < 2 ^ 62 ∧ -(2 ^ 62) ≤ j ∧ j < 2 ^ 62) ∧ Q (rng i (j - i).toNat) env1
  | _ => False
def riE (t : RA) : RI := fun env Q => t env fun ds env1 => match ds with
  | [.lst xs] => Q (enumD xs) env1
  | _ => False
def riZ (t : RA) : RI := fun env Q => t env fun ds env1 => match ds with
  | [.lst xs, .lst ys] => Q (zipD xs ys) env1
  | _ => False
section
variable {X : Cx} {bx : Bx} {e a b tg iter : Expr} {es : List Expr} {te : RE} {t : RA} {pos : Pos}
theorem pi_imp {w w' : TI} (h : L2.PI X tg iter w) (i : ∀ σ H Q, w' σ H Q → w σ H Q) : L2.PI X tg iter w' := ⟨fun pins s σ H R I q => h.run pins s σ H R I (i σ H R q)⟩
theorem lst_un {K : PySem.W.Frag} {H : Hp} {a : Addr} {vs ys : List V} (h : H a = some (.lst vs)) (hk : K.lookup a = none) (g : SqL K H a ys) : ys = vs := by
  rcases g with (g | ⟨o, g⟩) | ⟨o, _, _, g, _⟩
  · rw [h] at g; cases g; rfl
  · rw [h] at g; cases g
  · rw [hk] at g; cases g
theorem qi_l (h : QE X bx e te) : QI X bx tg e (riL te) := pi_imp (pi_list h) fun σ H Q' ⟨env, F, Q, R, ht, k⟩ => ⟨env, F, _, R, ht, fun d v env1 F1 H1 s1 R1 r1 q1 => by
  split at q1
  · obtain ⟨a, vs, rfl, h2, h3⟩ := r1
    exact ⟨a, rfl, ⟨vs, .inl (.inl (R1.sf _ _ h2))⟩, k _ env1 F1 H1 _ s1 R1 ⟨fun i F H s1 s2 hi => by
      rw [h3.length] at hi
      exact ⟨vs, vs[i], .inl (.inl (s2 _ _ (s1 _ _ h2))), List.getElem?_eq_getElem hi⟩, fun i F H v H' s1 s2 hi ⟨e, y⟩ => by
      have hv := y vs (.inl (.inl (s2 _ _ (s1 _ _ h2))))
      obtain ⟨d, hd, rd⟩ := h3.getV hv
      rw [e]
      exact ⟨F, d, Grow.refl s2, hd, Rep.mono s1 _ _ rd⟩, fun i F H s1 s2 hi => ⟨vs, .inl (.inl (s2 _ _ (s1 _ _ h2))), by rw [← h3.length]; exact hi⟩⟩ q1⟩
  · obtain ⟨a, rfl, h2⟩ := r1
    rename_i ns
    have h3 : RepL X.K F1 (ns.map D.int) (ns.map V.int) := RepL.of_ints
    exact ⟨a, rfl, ⟨_, R1.sf.seq h2⟩, k _ env1 F1 H1 _ s1 R1 ⟨fun i F H s1 s2 hi => by
      rw [h3.length] at hi
      exact ⟨_, _, s2.seq (s1.seq h2), List.getElem?_eq_getElem hi⟩, fun i F H v H' s1 s2 hi ⟨e, y⟩ => by
      have hv := y _ (s2.seq (s1.seq h2))
      obtain ⟨d, hd, rd⟩ := h3.getV hv
      rw [e]
      exact ⟨F, d, Grow.refl s2, hd, Rep.mono s1 _ _ rd⟩, fun i F H s1 s2 hi => ⟨_, s2.seq (s1.seq h2), by rw [← h3.length]; exact hi⟩⟩ q1⟩
  · exact q1.elim⟩
theorem qi_t (h : QE X bx e te) : QI X bx tg e (riT te) := pi_imp (pi_tup h) fun σ H Q' ⟨env, F, Q, R, ht, k⟩ => ⟨env, F, _, R, ht, fun d v env1 F1 H1 s1 R1 r1 q1 => by
  split at q1
  · obtain ⟨a, vs, rfl, h2, h3⟩ := r1
    exact ⟨a, rfl, ⟨vs, same_sqt R1.sf h2⟩, k _ env1 F1 H1 _ s1 R1 (wk_tup h2 h3) q1⟩
  · exact q1.elim⟩
theorem qi_r1 {p : Pos} (hg : Gl X "range") (hm : X.mg "range" = none) (ha : QA X bx [a] t) (hs : starEach [a] X.env = [(false, eval a X.env)] := by rfl) : QI X bx tg (.Call (.Name "range" p) [a] [] pos) (riR1 t) := pi_imp (pi_range1 hg hm ha hs) fun σ H Q' ⟨env, F, Q, R, ht, k⟩ => ⟨env, F, _, R, ht, fun ds vs env1 F1 H1 s1 R1 r1 q1 => by
  split at q1
  · obtain ⟨v, r, rfl, rfl, rfl⟩ := r1
    exact ⟨_, rfl, q1.1.1, q1.1.2, k _ env1 F1 H1 _ s1 R1 wk_rng q1.2⟩
  · exact q1.elim⟩
theorem qi_r2 {p : Pos} (hg : Gl X "range") (hm : X.mg "range" = none) (ha : QA X bx [a, b] t) (hs : starEach [a, b] X.env = [(false, eval a X.env), (false, eval b X.env)] := by rfl) (hs2 : starEach [b] X.env = [(false, eval b X.env)] := by rfl) : QI X bx tg (.Call (.Name "range" p) [a, b] [] pos) (riR2 t) := pi_imp (pi_range2 hg hm ha hs hs2) fun σ H Q' ⟨env, F, Q, R, ht, k⟩ => ⟨env, F, _, R, ht, fun ds vs env1 F1 H1 s1 R1 r1 q1 => by
  split at q1
  · obtain ⟨v, w, rfl, rfl, rfl⟩ := RepL.two r1
    exact ⟨_, _, rfl, q1.1, k _ env1 F1 H1 _ s1 R1 wk_rng q1.2⟩
  · exact q1.elim⟩
theorem qi_e {p tpos : Pos} {elts : List Expr} {kk : Nat} (hg : Gl X "enumerate") (hm : X.mg "enumerate" = none) (ha : QA X bx [e] t) (hs : starEach [e] X.env = [(false, eval e X.env)] := by rfl) : QI X bx (.Tuple elts kk tpos) (.Call (.Name "enumerate" p) [e] [] pos) (riE t) := pi_imp (pi_enum hg hm ha hs) fun σ H Q' ⟨env, F, Q, R, ht, k⟩ => ⟨env, F, _, R, ht, fun ds vs env1 F1 H1 s1 R1 r1 q1 => by
  split at q1
  · obtain ⟨v, r, rfl, ⟨a, us, rfl, h2, h3⟩, rfl⟩ := r1
    exact ⟨a, us, rfl, .inl (.inl (R1.sf _ _ h2)), k _ env1 F1 H1 _ s1 R1 (wk_enum (.inl (.inl h2)) h3) q1⟩
  · exact q1.elim⟩
theorem qi_z {p tpos : Pos} {elts : List Expr} {kk : Nat} (hg : Gl X "zip") (hm : X.mg "zip" = none) (ha : QA X bx [a, b] t) (hs : starEach [a, b] X.env = (false, eval a X.env) :: starEach [b] X.env := by rfl) (hpl : (backTo pos (starEach [b] X.env)).any (·.1) = false := by rfl) : QI X bx (.Tuple elts kk tpos) (.Call (.Name "zip" p) [a, b] [] pos) (riZ t) := pi_imp (pi_zip hg hm ha hs hpl) fun σ H Q' ⟨env, F, Q, R, ht, k⟩ => ⟨env, F, _, R, ht, fun ds vs env1 F1 H1 s1 R1 r1 q1 => by
  split at q1
  · obtain ⟨v, w, rfl, ⟨a, us, rfl, h2, h3⟩, ⟨b, ws, rfl, g2, g3⟩⟩ := RepL.two r1
    exact ⟨a, b, us, ws, rfl, .inl (.inl (R1.sf _ _ h2)), .inl (.inl (R1.sf _ _ g2)), k _ env1 F1 H1 _ s1 R1 (wk_zip (.inl (.inl h2)) h3 (.inl (.inl g2)) g3) q1⟩
  · exact q1.elim⟩

/-! ### for -/
def forR (g : RG) (tb : RS) (en : PEnds) : List D → List Slot → Prop
  | [], env => en.nx env
  | x :: xs, env => g x env fun env1 => tb { en with nx := forR g tb en xs, ct := forR g tb en xs, bk := en.nx } env1
def sFor (ti : RI) (g : RG) (tb : RS) : RS := fun en env => ti env fun xs env1 => forR g tb en xs env1
theorem qs_for {body : List Stmt} {ti : RI} {g : RG} {tb : RS} (hp : PassesOwn (model X.prog X.w) X.A X.env X.xe) (hc : X.calm = true) (hi : QI X bx tg iter ti) (hg : QG X bx anyP tg g) (hb : QSs X bx body tb)
    (hs : ∀ x, foldedSetIterable iter X.env x = pure x := by intro _; rfl) : QS X bx (.For tg iter body [] pos) (sFor ti g tb) := ps_imp (ps_for hp hc hi hg hb hs) fun Dn σ H ⟨env, F, en, R, ht, k1, k2, k3, k4⟩ =>
  ⟨env, F, _, R, ht, fun xs env1 F1 H1 J s1 R1 wk q1 => by
    refine ⟨fun i m σ' H' => m = xs.length - i ∧ i ≤ xs.length ∧ ∃ env' F', Same F1 F' ∧ ER X.K bx F' env' σ' H' ∧ forR g tb en (xs.drop i) env', ⟨xs.length, rfl, Nat.zero_le _, env1, F1, Same.refl _, R1, q1⟩, ?_⟩
    rintro i m σ' H' ⟨rfl, hi, env', F', s', R', q'⟩
    by_cases hlt : i < xs.length
    · refine .inr ⟨wk.go i F' H' s' R'.sf hlt, fun σ2 H2 => ∃ env2 F2, Same F' F2 ∧ ER X.K bx F2 env2 σ2 H2 ∧ forR g tb en (xs.drop (i + 1)) env2, fun σ2 H2 ⟨env2, F2, s2, R2, q2⟩ => ⟨xs.length - (i + 1), by omega, rfl, hlt, env2, F2, s'.trans s2, R2, q2⟩, fun x H2 hy => ?_⟩
      obtain ⟨F2, d, gr, hd, rd⟩ := wk.yl i F' H' x H2 s' R'.sf hlt hy
      have ed : xs.drop i = d :: xs.drop (i + 1) := by
        rw [List.drop_eq_getElem_cons hlt]
        congr 1
        rw [List.getElem?_eq_getElem hlt] at hd
        exact Option.some.inj hd
      rw [ed] at q'
      refine ⟨env', F2, d, _, R'.to gr, rd, q', fun env3 F3 σ3 H3 s3 R3 _ q3 => ⟨env3, F3, _, R3, q3, fun env4 F4 σ4 H4 s4 R4 q4 => ⟨env4, F4, (gr.e.trans s3).trans s4, R4, q4⟩, fun d v env4 F4 σ4 H4 s4 => k2 d v env4 F4 σ4 H4 ((((s1.trans s').trans gr.e).trans s3).trans s4),
        fun env4 F4 σ4 H4 s4 => k1 env4 F4 σ4 H4 ((((s1.trans s').trans gr.e).trans s3).trans s4), fun env4 F4 σ4 H4 s4 R4 q4 => ⟨env4, F4, (gr.e.trans s3).trans s4, R4, q4⟩⟩⟩
    · have e : i = xs.length := by omega
      subst e
      rw [List.drop_length] at q'
      exact .inl ⟨wk.st _ F' H' s' R'.sf (Nat.le_refl _), k1 env' F' σ' H' (s1.trans s') R' q'⟩⟩
/-! ### while -/
def sWhl (c : RB) (tb : RS) : RS := fun en env => ∃ W : Nat → List Slot → Prop, (∃ m, W m env) ∧ ∀ m env1, W m env1 → c env1 fun b env2 => if b = true then
  tb { en with nx := fun env3 => ∃ m', m' < m ∧ W m' env3, ct := fun env3 => ∃ m', m' < m ∧ W m' env3, bk := en.nx } env2 else en.nx env2
theorem qs_whl {c : Expr} {body : List Stmt} {tc : RB} {tb : RS} (hp : PassesOwn (model X.prog X.w) X.A X.env X.xe) (hc : QT X bx c tc) (hb : QSs X bx body tb) : QS X bx (.While c body [] pos) (sWhl tc tb) := ps_imp (ps_while hp hc hb) fun Dn σ H ⟨env, F, en, R, ⟨W, ⟨m0, w0⟩, turn⟩, k1, k2, k3, k4⟩ => by
  refine ⟨fun m σ' H' => ∃ env' F', Same F F' ∧ ER X.K bx F' env' σ' H' ∧ W m env', ⟨m0, env, F, Same.refl _, R, w0⟩, ?_⟩
  rintro m σ' H' ⟨env', F', s', R', w'⟩
  refine ⟨env', F', _, R', turn m env' w', fun b env2 F2 H2 s2 R2 q2 => ?_⟩
  cases b with
  | true =>
    rw [if_pos rfl] at q2 ⊢
    refine ⟨fun σ3 H3 => ∃ env3 F3, Same F2 F3 ∧ ER X.K bx F3 env3 σ3 H3 ∧ ∃ m', m' < m ∧ W m' env3, fun σ3 H3 ⟨env3, F3, s3, R3, m', hm, w3⟩ => ⟨m', hm, env3, F3, (s'.trans s2).trans s3, R3, w3⟩, env2, F2, _, R2, q2, fun env3 F3 σ3 H3 s3 R3 q3 => ⟨env3, F3, s3, R3, q3⟩,
      fun d v env4 F4 σ4 H4 s4 => k2 d v env4 F4 σ4 H4 ((s'.trans s2).trans s4), fun env4 F4 σ4 H4 s4 => k1 env4 F4 σ4 H4 ((s'.trans s2).trans s4), fun env3 F3 σ3 H3 s3 R3 q3 => ⟨env3, F3, s3, R3, q3⟩⟩
  | false =>
    rw [if_neg Bool.false_ne_true] at q2 ⊢
    exact k1 env2 F2 σ' H2 (s'.trans s2) R2 q2
end
end QL
set_option Elab.async false
set_option linter.all false
set_option maxRecDepth 100000
namespace QL
open PySem PySem.Spec PyProof.Rows L2
/-! ### comprehensions -/
def wipeE : List Nat → List Slot → List Slot
  | [], env => env
  | i :: is, env => (wipeE is env).set i .un
def getS : List Slot → Nat → Slot
  | [], _ => .un
  | s :: _, 0 => s
  | _ :: l, n + 1 => getS l n
def putS : List Slot → Nat → Slot → List Slot
  | [], _, _ => []
  | _ :: l, 0, t => t :: l
  | s :: l, n + 1, t => s :: putS l n t
theorem putS_eq : ∀ (l : List Slot) (i : Nat) (s : Slot), l.set i s = putS l i s
  | [], _, _ => rfl
  | _ :: _, 0, _ => rfl
  | a :: l, n + 1, s => by show a :: l.set n s = a :: putS l n s; rw [putS_eq l n s]
theorem getS_eq : ∀ (l : List Slot) (i : Nat), getS l i = match l[i]? with | some s => s | none => .un
  | [], _ => rfl
  | _ :: _, 0 => rfl
  | _ :: l, n + 1 => getS_eq l n
theorem getS_some {l : List Slot} {i : Nat} (h : i < l.length) : l[i]? = some (getS l i) := by
  rw [getS_eq, List.getElem?_eq_getElem h]
/-- the slots in is as they were -/
def backE : List Nat → List Slot → List Slot → List Slot
  | [], _, env => env
  | i :: is, old, env => putS (backE is old env) i (getS old i)
def noOwn : List Nat → List Slot → Bool
  | [], _ => true
  | i :: is, env => (match env[i]? with | some (.own _) => false | _ => true) && noOwn is env
def lcR (g : RG) (tt : RB) (te : RE) (is : List Nat) : List D → List D → List Slot → (List D → List Slot → Prop) → Prop
  | [], acc, env, Q => Q acc env
  | x :: xs, acc, env, Q => g x env fun env1 => tt env1 fun b env2 => if b = true then te env2 fun d env3 => acc.length < sizeLine ∧ lcR g tt te is xs (acc ++ [d]) (wipeE is env3) Q else lcR g tt te is xs acc (wipeE is env2) Q
def rLc (ti : RI) (g : RG) (tt : RB) (te : RE) (is : List Nat) : RE := fun env Q => ti env fun xs env1 => noOwn is env1 = true ∧ lcR g tt te is xs [] (wipeE is env1) fun acc env2 => Q (.lst acc) (backE is env1 env2)
theorem wipeE_len (is : List Nat) (env : List Slot) : (wipeE is env).length = env.length := by
  induction is with
  | nil => rfl
  | cons i is ih => unfold wipeE; rw [List.length_set, ih]
theorem wipeE_get : ∀ {is : List Nat} {env : List Slot} {j : Nat} {s : Slot}, (wipeE is env)[j]? = some s → s = .un ∨ (j ∉ is ∧ env[j]? = some s)
  | [], env, j, s, h => .inr ⟨by simp, h⟩
  | i :: is, env, j, s, h => by
    unfold wipeE at h
    rcases set_some h with ⟨_, e, _⟩ | ⟨hne, h⟩
    · exact .inl e.symm
    · rcases wipeE_get h with e | ⟨h1, h2⟩
      · exact .inl e
      · exact .inr ⟨fun m => (List.mem_cons.mp m).elim (fun z => hne z.symm) h1, h2⟩
theorem wipe_len (σ : L2.St) (is : List Nat) : (wipe σ is).length = σ.length := wipe_length σ is
section
variable {K : PySem.W.Frag} {bx : Bx} {F H : Hp} {env : List Slot} {σ : L2.St}
theorem ER.wipe {is : List Nat} (R : ER K bx F env σ H) (h0 : bx.io = none ∨ 0 ∉ is) : ER K bx F (wipeE is env) (wipe σ is) H := by
  have un : ∀ {j : Nat} {d : D}, (wipeE is env)[j]? = some (.own d) → j ∉ is ∧ env[j]? = some (.own d) := fun {j d} h => by
    rcases wipeE_get h with e | h
    · cases e
    · exact h
  refine ⟨R.sb, R.sf, by rw [wipeE_len, wipe_len]; exact R.len, fun j s hj => ?_, fun j k d e a hj hk sj sk => ?_, fun c hc => ?_, R.f0, R.fz⟩
  · rcases wipeE_get hj with e | ⟨h1, h2⟩
    · subst e
      have hl := (List.getElem?_eq_some_iff.mp hj).1
      rw [wipeE_len, R.len, ← wipe_len σ is] at hl
      exact ⟨_, List.getElem?_eq_getElem hl, trivial⟩
    · obtain ⟨o, h3, h4⟩ := R.slots j s h2
      exact ⟨o, by rw [wipe_out h1]; exact h3, h4⟩
  · obtain ⟨j1, j2⟩ := un hj
    obtain ⟨k1, k2⟩ := un hk
    rw [wipe_out j1] at sj
    rw [wipe_out k1] at sk
    exact R.sep j k d e a j2 k2 sj sk
  · obtain ⟨h1, d, h2⟩ := R.io c hc
    have n0 : 0 ∉ is := h0.elim (fun z => by rw [z] at hc; cases hc) id
    refine ⟨by rw [wipe_out n0]; exact h1, d, ?_⟩
    have : ∀ is : List Nat, 0 ∉ is → (wipeE is env)[0]? = env[0]? := by
      intro is
      induction is with
      | nil => intro _; rfl
      | cons i is ih =>
        intro hn
        unfold wipeE
        rw [List.getElem?_set_ne (fun z => hn (by rw [z]; exact List.mem_cons_self)), ih (fun z => hn (List.mem_cons_of_mem _ z))]
    rw [this is n0]; exact h2
/-- within a turn: slots forgotten again -/
theorem ER.wipe2 {is : List Nat} {σ2 : L2.St} (R : ER K bx F env σ2 H) (h0 : bx.io = none ∨ 0 ∉ is) (e : L2.wipe σ2 is = L2.wipe σ is) : ER K bx F (wipeE is env) (L2.wipe σ is) H := by
  rw [← e]
  exact R.wipe h0
/-- the object at D is held besides -/
def Bx.hold (bx : Bx) (Dd : Addr) (o : HO) : Bx := ⟨upd bx.B Dd o, bx.io, bx.F0⟩
theorem ER.hold {Dd : Addr} {o : HO} (R : ER K bx F env σ H) (hn : H Dd = none) : ER K (bx.hold Dd o) F env σ (upd H Dd o) := by
  refine ⟨same_updb R.sb, same_upd2 R.sf (R.sf.free hn), R.len, fun j s hj => ?_, R.sep, R.io, R.f0, fun a k1 k2 => ?_⟩
  rotate_left
  · by_cases e : a = Dd
    · subst e; exact R.sf.free hn
    · have k2' : upd bx.B Dd o a ≠ none := k2
      rw [upd_ne e] at k2'
      exact R.fz a k1 k2'
  obtain ⟨q, h1, h2⟩ := R.slots j s hj
  refine ⟨q, h1, ?_⟩
  cases s with
  | un => trivial
  | val d => exact h2
  | own d =>
    obtain ⟨a, ho, h3, h4, h5, h6, h7⟩ := h2
    have na : a ≠ Dd := fun z => by rw [z, hn] at h6; cases h6
    exact ⟨a, ho, h3, h4, by show upd bx.B Dd o a = none; rw [upd_ne na]; exact h5, by rw [upd_ne na]; exact h6, h7⟩
theorem ER.heldF {Dd : Addr} {o : HO} (R : ER K (bx.hold Dd o) F env σ H) (h0 : bx.F0 Dd = none) : F Dd = none := R.fz Dd h0 (by show upd bx.B Dd o Dd ≠ none; rw [upd_same]; simp)
theorem ER.rehold {Dd : Addr} {o o' : HO} (R : ER K (bx.hold Dd o) F env σ H) (h0 : bx.F0 Dd = none) : ER K (bx.hold Dd o') F env σ (upd H Dd o') := by
  have e : upd (upd bx.B Dd o) Dd o' = upd bx.B Dd o' := upd_upd
  refine ⟨fun b q z => ?_, same_upd2 R.sf (R.heldF h0), R.len, fun j s hj => ?_, R.sep, R.io, R.f0, fun a k1 k2 => R.fz a k1 fun z => k2 ?_⟩
  rotate_left 2
  · have z' : upd bx.B Dd o a = none := z
    show upd bx.B Dd o' a = none
    by_cases e : a = Dd
    · subst e; rw [upd_same] at z'; cases z'
    · rw [upd_ne e] at z' ⊢; exact z'
  · by_cases hb : b = Dd
    · subst hb; have z' : upd bx.B b o' b = some q := z; rw [upd_same] at z' ⊢; exact z'
    · have z' : upd bx.B Dd o' b = some q := z
      rw [upd_ne hb] at z' ⊢
      exact R.sb b q (by show upd bx.B Dd o b = some q; rw [upd_ne hb]; exact z')
  · obtain ⟨q, h1, h2⟩ := R.slots j s hj
    refine ⟨q, h1, ?_⟩
    cases s with
    | un => trivial
    | val d => exact h2
    | own d =>
      obtain ⟨a, ho, h3, h4, h5, h6, h7⟩ := h2
      have h5' : upd bx.B Dd o a = none := h5
      have na : a ≠ Dd := fun z => by rw [z, upd_same] at h5'; cases h5'
      rw [upd_ne na] at h5'
      exact ⟨a, ho, h3, h4, by show upd bx.B Dd o' a = none; rw [upd_ne na]; exact h5', by rw [upd_ne na]; exact h6, h7⟩
theorem ER.held {Dd : Addr} {o : HO} (R : ER K (bx.hold Dd o) F env σ H) : H Dd = some o := R.sb Dd o (by show upd bx.B Dd o Dd = some o; exact upd_same)
theorem ER.unhold {Dd : Addr} {o : HO} (R : ER K (bx.hold Dd o) F env σ H) (hb : bx.B Dd = none) : ER K bx F env σ H ∧ ∀ (i : Nat) d, env[i]? = some (.own d) → σ[i]? ≠ some (some (.ref Dd)) := by
  refine ⟨⟨fun b q z => R.sb b q (by show upd bx.B Dd o b = some q; rw [upd_ne (fun e => by rw [e, hb] at z; cases z)]; exact z), R.sf, R.len, fun j s hj => ?_, R.sep, R.io, R.f0, fun a k1 k2 => R.fz a k1 (by show upd bx.B Dd o a ≠ none; rw [upd_ne (fun e => k2 (by rw [e]; exact hb))]; exact k2)⟩, fun i d hi hs => ?_⟩
  · obtain ⟨q, h1, h2⟩ := R.slots j s hj
    refine ⟨q, h1, ?_⟩
    cases s with
    | un => trivial
    | val d => exact h2
    | own d =>
      obtain ⟨a, ho, h3, h4, h5, h6, h7⟩ := h2
      have h5' : upd bx.B Dd o a = none := h5
      have na : a ≠ Dd := fun z => by rw [z, upd_same] at h5'; cases h5'
      rw [upd_ne na] at h5'
      exact ⟨a, ho, h3, h4, h5', h6, h7⟩
  · obtain ⟨q, h1, a, ho, h3, h4, h5, h6, h7⟩ := R.slots i _ hi
    rw [hs] at h1; cases h1; cases h3
    have h5' : upd bx.B Dd o Dd = none := h5
    rw [upd_same] at h5'; cases h5'
theorem backE_len (is : List Nat) (old env : List Slot) : (backE is old env).length = env.length := by
  induction is with
  | nil => rfl
  | cons i is ih =>
    unfold backE
    rw [← putS_eq, List.length_set, ih]
theorem backE_get : ∀ {is : List Nat} {old env : List Slot} {j : Nat} {s : Slot}, old.length = env.length → (backE is old env)[j]? = some s → (j ∈ is ∧ old[j]? = some s) ∨ env[j]? = some s
  | [], _, _, _, _, _, h => .inr h
  | i :: is, old, env, j, s, hl, h => by
    unfold backE at h
    rw [← putS_eq] at h
    rcases set_some h with ⟨rfl, rfl, hi⟩ | ⟨_, h⟩
    · rw [backE_len, ← hl] at hi
      exact .inl ⟨List.mem_cons_self, getS_some hi⟩
    · rcases backE_get hl h with ⟨a, b⟩ | a
      · exact .inl ⟨List.mem_cons_of_mem _ a, b⟩
      · exact .inr a
theorem noOwn_get : ∀ {is : List Nat} {env : List Slot} {j : Nat} {d : D}, noOwn is env = true → j ∈ is → env[j]? ≠ some (.own d)
  | [], _, _, _, _, h => by simp at h
  | i :: is, env, j, d, h, hj => fun e => by
    unfold noOwn at h
    have h' := Bool.and_eq_true_iff.mp h
    rcases List.mem_cons.mp hj with rfl | hj
    · rw [e] at h'; cases h'.1
    · exact noOwn_get h'.2 hj e
/-- behind a comprehension -/
theorem ER.back {is : List Nat} {F' H' : Hp} {env' : List Slot} (R : ER K bx F env σ H) (R' : ER K bx F' env' (L2.wipe σ is) H') (sF : Same F F') (hn : noOwn is env = true) (h0 : bx.io = none ∨ 0 ∉ is) (hu : ∀ (j : Nat) (s : Slot), j ∈ is → env'[j]? = some s → s = .un) : ER K bx F' (backE is env env') σ H' := by
  have hlen : env.length = env'.length := by rw [R.len, R'.len, wipe_len]
  have own : ∀ {j : Nat} {d : D}, (backE is env env')[j]? = some (.own d) → j ∉ is ∧ env'[j]? = some (.own d) := fun {j d} h => by
    rcases backE_get hlen h with ⟨a, b⟩ | a
    · exact absurd b (noOwn_get hn a)
    · exact ⟨fun z => (by cases hu j _ z a), a⟩
  refine ⟨R'.sb, R'.sf, by rw [backE_len, R'.len, wipe_len], fun j s hj => ?_, fun j k d e a hj hk sj sk => ?_, fun c hc => ?_, R'.f0, R'.fz⟩
  · rcases backE_get hlen hj with ⟨h1, h2⟩ | h2
    · obtain ⟨o, h3, h4⟩ := R.slots j s h2
      refine ⟨o, h3, ?_⟩
      cases s with
      | un => trivial
      | val d => obtain ⟨v, h5, h6⟩ := h4; exact ⟨v, h5, Rep.mono sF _ _ h6⟩
      | own d => exact absurd h2 (noOwn_get hn h1)
    · by_cases hm : j ∈ is
      · have e := hu j s hm h2
        subst e
        have hl := (List.getElem?_eq_some_iff.mp h2).1
        rw [R'.len, wipe_len] at hl
        exact ⟨_, List.getElem?_eq_getElem hl, trivial⟩
      · obtain ⟨o, h3, h4⟩ := R'.slots j s h2
        exact ⟨o, by rw [wipe_out hm] at h3; exact h3, h4⟩
  · obtain ⟨j1, j2⟩ := own hj
    obtain ⟨k1, k2⟩ := own hk
    exact R'.sep j k d e a j2 k2 (by rw [wipe_out j1]; exact sj) (by rw [wipe_out k1]; exact sk)
  · obtain ⟨h1, _⟩ := R.io c hc
    obtain ⟨_, d, h2⟩ := R'.io c hc
    refine ⟨h1, d, ?_⟩
    have n0 : 0 ∉ is := h0.elim (fun z => by rw [z] at hc; cases hc) id
    have : ∀ is : List Nat, 0 ∉ is → (backE is env env')[0]? = env'[0]? := by
      intro is
      induction is with
      | nil => intro _; rfl
      | cons i is ih =>
        intro hn
        unfold backE
        rw [← putS_eq, List.getElem?_set_ne (fun z => hn (by rw [z]; exact List.mem_cons_self)), ih (fun z => hn (List.mem_cons_of_mem _ z))]
    rw [this is n0]; exact h2
end
theorem wipeE_un : ∀ {is : List Nat} {env : List Slot} {j : Nat} {s : Slot}, j ∈ is → (wipeE is env)[j]? = some s → s = .un := fun {is env j s} hj h => by
  rcases wipeE_get h with e | ⟨h1, _⟩
  · exact e
  · exact absurd hj h1
section
variable {X : Cx} {bx : Bx} {tg iter elt : Expr} {ifs : List Expr} {pos : Pos} {ti : RI} {g : RG} {tt : RB} {te : RE}
abbrev QTs (X : Cx) (bx : Bx) (ifs : List Expr) (t : RB) : Prop := L2.PTs X ifs (upT X.K bx t)
def rYes : RB := fun env Q => Q true env
theorem qts_nil : QTs X bx [] rYes := ⟨fun pins s σ H Q I ⟨env, F, Q', R, ht, k⟩ => pts_nil.run pins s σ H Q I (k true env F H (Same.refl _) R ht)⟩
theorem qts_one {c : Expr} {t : RB} (h : QT X bx c t) : QTs X bx [c] t := pts_one h
/-- what the block of a comprehension is proved over -/
abbrev BlkX (X : Cx) (s : Shared) (H : Hp) (scope : Scope) (C : Addr) (cl : List (Str × Addr)) (fp : List Addr) : Cx := X.blk s H scope (compEnvC scope cl C X.env) fp
/-- the rules of the block's parts: for every context of the block, and whatever is held -/
abbrev QGb (X : Cx) (bx : Bx) (P : Nat → Prop) (tg : Expr) (scope : Scope) (g : RG) : Prop := ∀ (B : Hp) (s : Shared) (H : Hp) (C : Addr) (cl : List (Str × Addr)) (fp : List Addr), QG (BlkX X s H scope C cl fp) ⟨B, bx.io, bx.F0⟩ P tg g
abbrev QTb (X : Cx) (bx : Bx) (ifs : List Expr) (scope : Scope) (t : RB) : Prop := ∀ (B : Hp) (s : Shared) (H : Hp) (C : Addr) (cl : List (Str × Addr)) (fp : List Addr), QTs (BlkX X s H scope C cl fp) ⟨B, bx.io, bx.F0⟩ ifs t
abbrev QEb (X : Cx) (bx : Bx) (e : Expr) (scope : Scope) (t : RE) : Prop := ∀ (B : Hp) (s : Shared) (H : Hp) (C : Addr) (cl : List (Str × Addr)) (fp : List Addr), QE (BlkX X s H scope C cl fp) ⟨B, bx.io, bx.F0⟩ e t
def anyG (K : PySem.W.Frag) (io : Option Addr) (F0 : Hp) (P : Nat → Prop) (g : RG) : TG := fun v σ H Q => ∃ B, upG K ⟨B, io, F0⟩ P g v σ H Q
def anyT (K : PySem.W.Frag) (io : Option Addr) (F0 : Hp) (t : RB) : TT := fun σ H Q => ∃ B, upT K ⟨B, io, F0⟩ t σ H Q
def anyE (K : PySem.W.Frag) (io : Option Addr) (F0 : Hp) (t : RE) : TE := fun σ H Q => ∃ B, up K ⟨B, io, F0⟩ t σ H Q
theorem wipe_in {σ : L2.St} {i : Nat} : ∀ {is : List Nat}, i ∈ is → i < σ.length → (L2.wipe σ is)[i]? = some none
  | [], h, _ => by simp at h
  | v :: vs, h, hl => by
    unfold L2.wipe
    by_cases e : v = i
    · subst e; rw [List.getElem?_set_self (by rw [wipe_len]; exact hl)]
    · rw [List.getElem?_set_ne e]; exact wipe_in ((List.mem_cons.mp h).resolve_left fun z => e z.symm) hl
theorem wipe_only {σ σ' : L2.St} {is : List Nat} (o : Only' (· ∈ is) σ σ') : L2.wipe σ' is = L2.wipe σ is := by
  apply List.ext_getElem?
  intro j
  by_cases hj : j ∈ is
  · by_cases hl : j < σ.length
    · rw [wipe_in hj hl, wipe_in hj (by rw [o.1]; exact hl)]
    · rw [List.getElem?_eq_none (by rw [wipe_len, o.1]; omega), List.getElem?_eq_none (by rw [wipe_len]; omega)]
  · rw [wipe_out hj, wipe_out hj, o.2 j hj]
theorem wipe_wipe {σ : L2.St} {is : List Nat} : L2.wipe (L2.wipe σ is) is = L2.wipe σ is := wipe_only ⟨wipe_len σ is, fun j hj => wipe_out hj⟩
theorem lc_up {is : List Nat} (h0 : bx.io = none ∨ 0 ∉ is) {σ : L2.St} {H : Hp} {Q' : VK}
    (h : upN X.K bx (rLc ti g tt te is) σ H Q') : tLc (upI X.K bx ti) (anyG X.K bx.io bx.F0 (· ∈ is) g) (anyT X.K bx.io bx.F0 tt) (anyE X.K bx.io bx.F0 te) is σ H Q' := by
  obtain ⟨env, F, Q, R, ht, k⟩ := h
  refine ⟨env, F, _, R, ht, fun xs env1 F1 H1 J s1 R1 wk ⟨hn, q1⟩ => ?_⟩
  intro Dd hD
  have bD : bx.B Dd = none := R1.sb.free hD
  have fD : F1 Dd = none := R1.sf.free hD
  have fD0 : bx.F0 Dd = none := R1.f0.free fD
  refine ⟨fun i m H' => m = xs.length - i ∧ i ≤ xs.length ∧ ∃ env' F' acc accV, Same F1 F' ∧ RepL X.K F' acc accV ∧ ER X.K (bx.hold Dd (.lst accV)) F' env' (L2.wipe σ is) H' ∧ (∀ (j : Nat) (s : Slot), j ∈ is → env'[j]? = some s → s = .un) ∧
    lcR g tt te is (xs.drop i) acc env' fun acc env2 => Q (.lst acc) (backE is env1 env2), ⟨xs.length, rfl, Nat.zero_le _, _, F1, [], [], Same.refl _, rfl, (R1.wipe h0).hold hD, fun j s => wipeE_un, q1⟩, ?_⟩
  rintro i m H' ⟨rfl, hi, env', F', acc, accV, s', ra, R', hu, q'⟩
  by_cases hlt : i < xs.length
  · refine .inr ⟨wk.go i F' H' s' R'.sf hlt, fun H2 => ∃ env2 F2 acc accV, Same F' F2 ∧ RepL X.K F2 acc accV ∧ ER X.K (bx.hold Dd (.lst accV)) F2 env2 (L2.wipe σ is) H2 ∧ (∀ (j : Nat) (s : Slot), j ∈ is → env2[j]? = some s → s = .un) ∧
      lcR g tt te is (xs.drop (i + 1)) acc env2 fun acc env2 => Q (.lst acc) (backE is env1 env2),
      fun H2 ⟨env2, F2, acc2, accV2, s2, ra2, R2, hu2, q2⟩ => ⟨xs.length - (i + 1), by omega, rfl, hlt, env2, F2, acc2, accV2, s'.trans s2, ra2, R2, hu2, q2⟩, fun x H2 hy => ?_⟩
    obtain ⟨F2, d, gr, hd, rd⟩ := wk.yl i F' H' x H2 s' R'.sf hlt hy
    have ed : xs.drop i = d :: xs.drop (i + 1) := by
      rw [List.drop_eq_getElem_cons hlt]
      congr 1
      rw [List.getElem?_eq_getElem hlt] at hd
      exact Option.some.inj hd
    rw [ed] at q'
    refine ⟨(bx.hold Dd (.lst accV)).B, ?_⟩
    refine ⟨env', F2, d, _, R'.to gr, rd, q', fun env4 F4 σ4 H4 s4 R4 o4 q4 => ?_⟩
    have ew' : L2.wipe σ4 is = L2.wipe σ is := (wipe_only o4).trans wipe_wipe
    refine ⟨ew'.trans wipe_wipe.symm |>.trans wipe_wipe, (bx.hold Dd (.lst accV)).B, env4, F4, _, R4, q4, fun b env5 F5 H5 s5 R5 q5 => ?_⟩
    cases b with
    | false =>
      rw [if_neg Bool.false_ne_true] at q5 ⊢
      exact ⟨_, F5, acc, accV, (gr.e.trans s4).trans s5, RepL.mono ((gr.e.trans s4).trans s5) _ _ ra, R5.wipe2 h0 ew', fun j s => wipeE_un, q5⟩
    | true =>
      rw [if_pos rfl] at q5 ⊢
      refine ⟨(bx.hold Dd (.lst accV)).B, env5, F5, _, R5, q5, fun d2 v2 env6 F6 H6 s6 R6 r6 q6 => ?_⟩
      have sA := ((gr.e.trans s4).trans s5).trans s6
      exact ⟨accV, R6.held, by rw [← ra.length]; exact q6.1, _, F6, acc ++ [d2], accV ++ [v2], sA, RepL.append (RepL.mono sA _ _ ra) (RepL.one r6), (ER.wipe2 R6 h0 ew').rehold fD0, fun j s => wipeE_un, q6.2⟩
  · have e : i = xs.length := by omega
    subst e
    rw [List.drop_length] at q'
    refine .inl ⟨wk.st _ F' H' s' R'.sf (Nat.le_refl _), ?_⟩
    obtain ⟨R2, no⟩ := R'.unhold bD
    have Rb := R1.back R2 s' hn h0 hu
    refine k (.lst acc) Dd (.lst accV) _ F' H' (s1.trans s') Rb ⟨R'.heldF fD0, bD, by rw [R'.held]; simp, fun j d hj sj => ?_⟩ R'.held (ownLst ra) q'
    rcases backE_get (by rw [R1.len, R'.len, wipe_len]) hj with ⟨a, b⟩ | a
    · exact noOwn_get hn a b
    · by_cases hm : j ∈ is
      · cases hu j _ hm a
      · exact no j d a (by rw [wipe_out hm]; exact sj)

theorem blk_g {P : Nat → Prop} {scope : Scope} {e : Expr} {g : RG} (h : QGb X bx P e scope g) (s : Shared) (H : Hp) (C : Addr) (cl : List (Str × Addr)) (fp : List Addr) : L2.PG (BlkX X s H scope C cl fp) e (anyG X.K bx.io bx.F0 P g) :=
  ⟨fun pins s' σ H' v u Q I r ⟨B, q⟩ => (h B s H C cl fp).run pins s' σ H' v u Q I r q⟩
theorem blk_t {scope : Scope} {ifs : List Expr} {t : RB} (h : QTb X bx ifs scope t) (s : Shared) (H : Hp) (C : Addr) (cl : List (Str × Addr)) (fp : List Addr) : L2.PTs (BlkX X s H scope C cl fp) ifs (anyT X.K bx.io bx.F0 t) :=
  ⟨fun pins s' σ H' Q I ⟨B, q⟩ => (h B s H C cl fp).run pins s' σ H' Q I q⟩
theorem blk_e {scope : Scope} {e : Expr} {t : RE} (h : QEb X bx e scope t) (s : Shared) (H : Hp) (C : Addr) (cl : List (Str × Addr)) (fp : List Addr) : L2.PE (BlkX X s H scope C cl fp) e (anyE X.K bx.io bx.F0 t) :=
  ⟨fun pins s' σ H' Q I ⟨B, q⟩ => (h B s H C cl fp).run pins s' σ H' Q I q⟩
theorem q_lcN {scope : Scope} {own : List (Str × Nat)} (hc : X.calm = true) (hN : X.N.Nodup) (h0 : bx.io = none ∨ 0 ∉ own.map (·.2)) (hi : QI X bx tg iter ti) (ok : BlkOk X.N X.env.scope scope own)
    (hg : QGb X bx (· ∈ own.map (·.2)) tg scope g) (ht : QTb X bx ifs scope tt) (he : QEb X bx elt scope te) (hs : ∀ x, foldedSetIterable iter X.env x = pure x := by intro _; rfl) :
    QN X bx (.ListComp elt [⟨tg, iter, ifs, 0⟩] scope pos) (rLc ti g tt te (own.map (·.2))) := pe_imp (pe_lc hc hN hi ok (blk_g hg) (blk_t ht) (blk_e he) hs) fun σ H Q' h => lc_up h0 h
def sOwnLc (i : Nat) (te : RE) : RS := sOwn i te
theorem qs_ownLc {i : Nat} {y : Str} {py : Pos} {spos : Pos} {scope : Scope} {own : List (Str × Nat)} (hc : X.calm = true) (hN : X.N.Nodup) (hy : X.N[i]? = some y) (hyl : X.env.scope.names.lookup y = some .local) (hio : bx.io = none ∨ i ≠ 0) (h0 : bx.io = none ∨ 0 ∉ own.map (·.2))
    (hsw : swapsWith (.ListComp elt [⟨tg, iter, ifs, 0⟩] scope pos) (some (.Name y py)) spos.line X.env = pure true) (hi : QI X bx tg iter ti) (ok : BlkOk X.N X.env.scope scope own)
    (hg : QGb X bx (· ∈ own.map (·.2)) tg scope g) (ht : QTb X bx ifs scope tt) (he : QEb X bx elt scope te) (hs : ∀ x, foldedSetIterable iter X.env x = pure x := by intro _; rfl) :
    QS X bx (.Assign [.Name y py] (.ListComp elt [⟨tg, iter, ifs, 0⟩] scope pos) spos) (sOwn i (rLc ti g tt te (own.map (·.2)))) := ps_imp (ps_setLc hc hN hy hyl hsw hi ok (blk_g hg) (blk_t ht) (blk_e he) hs) fun Dn σ H ⟨env, F, en, R, ht, k, _⟩ =>
  lc_up h0 ⟨env, F, _, R, ht, fun d p ho env1 F1 H1 s1 R1 l hp o q1 => k _ F1 _ H1 s1 (R1.setNew hio l hp o) q1⟩
theorem qs_setLc {i : Nat} {y : Str} {py : Pos} {spos : Pos} {scope : Scope} {own : List (Str × Nat)} (hc : X.calm = true) (hN : X.N.Nodup) (hy : X.N[i]? = some y) (hyl : X.env.scope.names.lookup y = some .local) (hio : bx.io = none ∨ i ≠ 0) (h0 : bx.io = none ∨ 0 ∉ own.map (·.2))
    (hsw : swapsWith (.ListComp elt [⟨tg, iter, ifs, 0⟩] scope pos) (some (.Name y py)) spos.line X.env = pure true) (hi : QI X bx tg iter ti) (ok : BlkOk X.N X.env.scope scope own)
    (hg : QGb X bx (· ∈ own.map (·.2)) tg scope g) (ht : QTb X bx ifs scope tt) (he : QEb X bx elt scope te) (hs : ∀ x, foldedSetIterable iter X.env x = pure x := by intro _; rfl) :
    QS X bx (.Assign [.Name y py] (.ListComp elt [⟨tg, iter, ifs, 0⟩] scope pos) spos) (sAsg (rLc ti g tt te (own.map (·.2))) (rgN i)) := ps_imp (ps_setLc hc hN hy hyl hsw hi ok (blk_g hg) (blk_t ht) (blk_e he) hs) fun Dn σ H ⟨env, F, en, R, ht, k, _⟩ =>
  lc_up h0 ⟨env, F, _, R, ht, fun d p ho env1 F1 H1 s1 R1 l hp o q1 => k _ (upd F1 p ho) _ H1 (s1.trans (same_upd l.f)) ((R1.freeze l hp).setVal hio (OwnH.rep l.f o)) q1⟩
end

/-! ### a def by its body -/
section
variable {P : Program} {w : World} {K : PySem.W.Frag} {mg : Str → Option Value} {base : Heap}
def envA (N : List Str) (ds : List D) : List Slot := ds.map .val ++ List.replicate (N.length - ds.length) .un
theorem er_start {N : List Str} {F H : Hp} {ds : List D} {vs : List V} (s : Same F H) (r : RepL K F ds vs) : ER K ⟨H, none, F⟩ F (envA N ds) (L2.start N vs) H := by
  have hl := r.length
  have old : ∀ (i : Nat) (sl : Slot), (envA N ds)[i]? = some sl → (∃ d, ds[i]? = some d ∧ sl = .val d) ∨ (ds.length ≤ i ∧ i < N.length ∧ sl = .un) := fun i sl h => by
    unfold envA at h
    by_cases hi : i < ds.length
    · rw [List.getElem?_append_left (by simpa using hi), List.getElem?_map] at h
      rw [List.getElem?_eq_getElem hi] at h ⊢
      exact .inl ⟨_, rfl, (Option.some.inj h).symm⟩
    · rw [List.getElem?_append_right (by simpa using hi), List.getElem?_replicate] at h
      split at h
      · rename_i hlt
        rw [List.length_map] at hlt
        exact .inr ⟨by omega, by omega, (Option.some.inj h).symm⟩
      · cases h
  refine ⟨Same.refl _, s, (by unfold envA L2.start; simp [hl]), fun i sl h => ?_, fun i j d e a hi _ _ _ => ?_, (fun a h => nomatch h), Same.refl _, fun a h _ => h⟩
  · rcases old i sl h with ⟨d, hd, rfl⟩ | ⟨h1, h2, rfl⟩
    · obtain ⟨v, hv, rv⟩ := r.get hd
      have hi : i < vs.length := (List.getElem?_eq_some_iff.mp hv).1
      refine ⟨some v, ?_, v, rfl, rv⟩
      unfold L2.start
      rw [List.getElem?_append_left (by simpa using hi), List.getElem?_map, hv]
      rfl
    · refine ⟨none, ?_, trivial⟩
      unfold L2.start
      rw [List.getElem?_append_right (by simp; omega), List.getElem?_replicate, if_pos (by simp; omega)]
  · rcases old i _ hi with ⟨d, _, z⟩ | ⟨_, _, z⟩
    · cases z
    · cases z
theorem ER.grown {bx : Bx} {F' H' : Hp} {env : List Slot} {σ : L2.St} (R : ER K bx F' env σ H') : Grow bx.F0 bx.B F' H' := ⟨R.f0, R.sf, R.sb, R.fz⟩
/-- a def that changes nothing of its caller's -/
theorem fnA {x qual : Str} {st : Stmt} {f : Addr} {fd : FuncData} {N ps : List Str} {k : Nat} {S : FA} (Fn : Fun K x qual st f fd) (Sc : FnScope N ps (defScope st))
    (hbody : ∀ (cdv : Value) (A : Around) (outer : List Env) (s : Shared) (H F0 : Hp) (E : XK) (EX : D → Prop), Room k (A.deeper (envOfC qual (defScope st) s.heap.objs.size f cdv)) →
      Takes (cxOf (L2.CX P w) P w K mg base N qual (defScope st) f cdv A outer s H E) (WEx K ⟨H, none, F0⟩ fun ed _ => EX ed) →
      ∃ t, QSs (cxOf (L2.CX P w) P w K mg base N qual (defScope st) f cdv A outer s H E) ⟨H, none, F0⟩ (defBody st) t ∧ ∀ ds Q, ds.length = ps.length → S ds Q EX → t { nx := fun _ => Q .non, rt := fun d _ => Q d } (envA N ds)) :
    FnOk P w K mg base (L2.CX P w) (k + 1) f fd ps (spA K ps.length S) := by
  refine Fn.okX Sc (fun vs H Q E ⟨F, ds, _, _, hn, _, r, _⟩ => by rw [← r.length]; exact hn) (fun cdv A outer s H vs Q' E' hr ⟨F, ds, Q, E, hn, sm, r, h, g, gx⟩ => ?_)
  obtain ⟨t, ht, hq⟩ := hbody cdv A outer s H F E' E hr ((takes_of rfl rfl rfl rfl : Takes (cxOf (L2.CX P w) P w K mg base N qual (defScope st) f cdv A outer s H E') (fun cls d _ H => E' cls d H)).imp fun cls d σ H' ⟨env, F', ed, R, rx, ex⟩ => gx ed cls d F' H' R.grown rx ex)
  refine ⟨_, ht, envA N ds, F, _, er_start sm r, hq ds Q hn h, fun env' F' σ' H' s' R' q => g .non .non F' H' R'.grown rfl q, fun d v env' F' σ' H' s' R' rd q => g d v F' H' R'.grown rd q, fun _ _ _ _ _ _ z => z.elim, fun _ _ _ _ _ _ z => z.elim⟩
end
end QL
set_option Elab.async false
set_option linter.all false
set_option maxRecDepth 100000
namespace QL
open PySem PySem.Spec PyProof.Rows L2
/-! ### built-in functions -/
def vLen : VL
  | [.lst xs], Q => Q (.int xs.length)
  | [.tup xs], Q => Q (.int xs.length)
  | [.scr xs], Q => Q (.int xs.length)
  | [.str x], Q => x.length ≤ sizeLine ∧ Q (.int x.length)
  | _, _ => False
def vAbs : VL
  | [.int i], Q => Q (.int (if i < 0 then -i else i))
  | _, _ => False
def vInt : VL
  | [.int i], Q => Q (.int i)
  | [.bl b], Q => Q (.int (if b then 1 else 0))
  | _, _ => False
def vBool : VL
  | [.int i], Q => Q (.bl (i != 0))
  | [.bl b], Q => Q (.bl b)
  | _, _ => False
def allInts : List D → Option (List Int)
  | [] => some []
  | .int i :: r => (allInts r).map (i :: ·)
  | _ => none
def allBls : List D → Option (List Bool)
  | [] => some []
  | .bl i :: r => (allBls r).map (i :: ·)
  | _ => none
theorem allInts_map : ∀ ns : List Int, allInts (ns.map D.int) = some ns
  | [] => rfl
  | n :: r => by simp only [List.map, allInts, allInts_map r, Option.map]
theorem allBls_map : ∀ ns : List Bool, allBls (ns.map D.bl) = some ns
  | [] => rfl
  | n :: r => by simp only [List.map, allBls, allBls_map r, Option.map]
theorem allInts_eq : ∀ {xs : List D} {ns : List Int}, allInts xs = some ns → xs = ns.map D.int
  | [], _, h => by cases h; rfl
  | .int i :: r, ns, h => by
    simp only [allInts, Option.map_eq_some_iff] at h
    obtain ⟨z, hz, rfl⟩ := h
    rw [allInts_eq hz]; rfl
  | .non :: _, _, h => nomatch h
  | .bl _ :: _, _, h => nomatch h
  | .str _ :: _, _, h => nomatch h
  | .raw _ :: _, _, h => nomatch h
  | .scr _ :: _, _, h => nomatch h
  | .tup _ :: _, _, h => nomatch h
  | .lst _ :: _, _, h => nomatch h
  | .dic _ _ :: _, _, h => nomatch h
  | .obj _ _ _ :: _, _, h => nomatch h
theorem allBls_eq : ∀ {xs : List D} {ns : List Bool}, allBls xs = some ns → xs = ns.map D.bl
  | [], _, h => by cases h; rfl
  | .bl i :: r, ns, h => by
    simp only [allBls, Option.map_eq_some_iff] at h
    obtain ⟨z, hz, rfl⟩ := h
    rw [allBls_eq hz]; rfl
  | .non :: _, _, h => nomatch h
  | .int _ :: _, _, h => nomatch h
  | .str _ :: _, _, h => nomatch h
  | .raw _ :: _, _, h => nomatch h
  | .scr _ :: _, _, h => nomatch h
  | .tup _ :: _, _, h => nomatch h
  | .lst _ :: _, _, h => nomatch h
  | .dic _ _ :: _, _, h => nomatch h
  | .obj _ _ _ :: _, _, h => nomatch h
def vSum : VL
  | [.lst xs], Q => ∃ ns, allInts xs = some ns ∧ Q (.int ns.sum)
  | _, _ => False
def vMax : VL
  | [.int i, .int j], Q => Q (.int (if j > i then j else i))
  | [.lst xs], Q => ∃ ns, allInts xs = some ns ∧ 0 < ns.length ∧ ∀ m, m ∈ ns → (∀ y, y ∈ ns → y ≤ m) → Q (.int m)
  | _, _ => False
def vMin : VL
  | [.int i, .int j], Q => Q (.int (if j < i then j else i))
  | [.lst xs], Q => ∃ ns, allInts xs = some ns ∧ 0 < ns.length ∧ ∀ m, m ∈ ns → (∀ y, y ∈ ns → m ≤ y) → Q (.int m)
  | _, _ => False
def vAll : VL
  | [.lst xs], Q => ∃ ns, allBls xs = some ns ∧ Q (.bl (ns.all id))
  | _, _ => False
def vAny : VL
  | [.lst xs], Q => ∃ ns, allBls xs = some ns ∧ Q (.bl (ns.any id))
  | _, _ => False
def vList : VL
  | [.lst xs], Q => Q (.lst xs)
  | [.tup xs], Q => Q (.lst xs)
  | _, _ => False
def vTuple : VL
  | [.lst xs], Q => Q (.tup xs)
  | [.tup xs], Q => Q (.tup xs)
  | _, _ => False
def tyN : D → Option String
  | .non => some "NoneType"
  | .bl _ => some "bool"
  | .int _ => some "int"
  | .str _ => some "str"
  | .scr _ => some "list"
  | .tup _ => some "tuple"
  | .lst _ => some "list"
  | .dic _ _ => some "dict"
  | _ => none
/-- isinstance(d, a built-in class) -/
def vIsiB : VL
  | [d, .raw (.ty n)], Q => ∃ t b, tyN d = some t ∧ kitB t n = some b ∧ Q (.bl b)
  | _, _ => False
section
variable {X : Cx}
theorem qc_len : CallR X (.builtin "len") (upVL X.K vLen) := by
  intro pins s σ H xs us Q' I r ⟨F, ds, Q, sm, rl, h, g⟩
  unfold vLen at h
  split at h
  · obtain ⟨v, _, rfl, ⟨a, vs, rfl, h2, h3⟩, rfl⟩ := rl
    exact call_len pins s σ H _ us Q' I r ⟨_, _, rfl, .inl ⟨vs, .inl (.inl (sm _ _ h2)), rfl⟩, by rw [← h3.length]; exact g.i sm h⟩
  · obtain ⟨v, _, rfl, ⟨a, vs, rfl, h2, h3⟩, rfl⟩ := rl
    exact call_len pins s σ H _ us Q' I r ⟨_, _, rfl, .inr ⟨vs, same_sqt sm h2, rfl⟩, by rw [← h3.length]; exact g.i sm h⟩
  · obtain ⟨v, _, rfl, ⟨a, rfl, h2⟩, rfl⟩ := rl
    exact call_len pins s σ H _ us Q' I r ⟨_, _, rfl, .inl ⟨_, sm.seq h2, rfl⟩, by rw [List.length_map]; exact g.i sm h⟩
  · obtain ⟨v, _, rfl, rfl, rfl⟩ := rl
    exact call_len pins s σ H _ us Q' I r ⟨_, _, rfl, ⟨h.1, rfl⟩, g.i sm h.2⟩
  · exact h.elim
theorem qc_abs : CallR X (.builtin "abs") (upVL X.K vAbs) := by
  intro pins s σ H xs us Q' I r ⟨F, ds, Q, sm, rl, h, g⟩
  unfold vAbs at h
  split at h
  · obtain ⟨v, _, rfl, rfl, rfl⟩ := rl
    exact call_abs pins s σ H _ us Q' I r ⟨_, rfl, g.i sm h⟩
  · exact h.elim
theorem qc_int : CallR X (.type "int") (upVL X.K vInt) := by
  intro pins s σ H xs us Q' I r ⟨F, ds, Q, sm, rl, h, g⟩
  unfold vInt at h
  split at h
  · obtain ⟨v, _, rfl, rfl, rfl⟩ := rl
    exact call_int1 pins s σ H _ us Q' I r (.inl ⟨_, rfl, g.i sm h⟩)
  · obtain ⟨v, _, rfl, rfl, rfl⟩ := rl
    exact call_int1 pins s σ H _ us Q' I r (.inr ⟨_, rfl, g.i sm h⟩)
  · exact h.elim
theorem qc_bool : CallR X (.type "bool") (upVL X.K vBool) := by
  intro pins s σ H xs us Q' I r ⟨F, ds, Q, sm, rl, h, g⟩
  unfold vBool at h
  split at h
  · obtain ⟨v, _, rfl, rfl, rfl⟩ := rl
    exact call_bool1 pins s σ H _ us Q' I r (.inl ⟨_, rfl, g.b sm h⟩)
  · obtain ⟨v, _, rfl, rfl, rfl⟩ := rl
    exact call_bool1 pins s σ H _ us Q' I r (.inr ⟨_, rfl, g.b sm h⟩)
  · exact h.elim
theorem qc_sum (hc : X.calm = true) : CallR X (.builtin "sum") (upVL X.K vSum) := by
  intro pins s σ H xs us Q' I r ⟨F, ds, Q, sm, rl, h, g⟩
  unfold vSum at h
  split at h
  · obtain ⟨v, _, rfl, ⟨a, vs, rfl, h2, h3⟩, rfl⟩ := rl
    obtain ⟨ns, hn, q⟩ := h
    rw [allInts_eq hn] at h3
    rw [h3.ints] at h2
    exact cr_sum hc pins s σ H _ us Q' I r ⟨a, ns, rfl, .inl (.inl (sm _ _ h2)), g.i sm q⟩
  · exact h.elim
theorem qc_max (hc : X.calm = true) : CallR X (.builtin "max") (upVL X.K vMax) := by
  intro pins s σ H xs us Q' I r ⟨F, ds, Q, sm, rl, h, g⟩
  unfold vMax at h
  split at h
  · obtain ⟨v, w, rfl, rfl, rfl⟩ := RepL.two rl
    exact call_max2 hc pins s σ H _ us Q' I r ⟨_, _, rfl, g.i sm h⟩
  · obtain ⟨v, _, rfl, ⟨a, vs, rfl, h2, h3⟩, rfl⟩ := rl
    obtain ⟨ns, hn, h0, q⟩ := h
    rw [allInts_eq hn] at h3
    rw [h3.ints] at h2
    exact cr_max hc pins s σ H _ us Q' I r ⟨a, ns, rfl, .inl (.inl (sm _ _ h2)), h0, fun m h1 h2 => g.i sm (q m h1 h2)⟩
  · exact h.elim
theorem qc_min (hc : X.calm = true) : CallR X (.builtin "min") (upVL X.K vMin) := by
  intro pins s σ H xs us Q' I r ⟨F, ds, Q, sm, rl, h, g⟩
  unfold vMin at h
  split at h
  · obtain ⟨v, w, rfl, rfl, rfl⟩ := RepL.two rl
    exact call_min2 hc pins s σ H _ us Q' I r ⟨_, _, rfl, g.i sm h⟩
  · obtain ⟨v, _, rfl, ⟨a, vs, rfl, h2, h3⟩, rfl⟩ := rl
    obtain ⟨ns, hn, h0, q⟩ := h
    rw [allInts_eq hn] at h3
    rw [h3.ints] at h2
    exact cr_min hc pins s σ H _ us Q' I r ⟨a, ns, rfl, .inl (.inl (sm _ _ h2)), h0, fun m h1 h2 => g.i sm (q m h1 h2)⟩
  · exact h.elim
theorem qc_all (hc : X.calm = true) : CallR X (.builtin "all") (upVL X.K vAll) := by
  intro pins s σ H xs us Q' I r ⟨F, ds, Q, sm, rl, h, g⟩
  unfold vAll at h
  split at h
  · obtain ⟨v, _, rfl, ⟨a, vs, rfl, h2, h3⟩, rfl⟩ := rl
    obtain ⟨ns, hn, q⟩ := h
    rw [allBls_eq hn] at h3
    rw [h3.bls] at h2
    exact cr_all hc pins s σ H _ us Q' I r ⟨a, ns, rfl, .inl (.inl (sm _ _ h2)), g.b sm q⟩
  · exact h.elim
theorem qc_any (hc : X.calm = true) : CallR X (.builtin "any") (upVL X.K vAny) := by
  intro pins s σ H xs us Q' I r ⟨F, ds, Q, sm, rl, h, g⟩
  unfold vAny at h
  split at h
  · obtain ⟨v, _, rfl, ⟨a, vs, rfl, h2, h3⟩, rfl⟩ := rl
    obtain ⟨ns, hn, q⟩ := h
    rw [allBls_eq hn] at h3
    rw [h3.bls] at h2
    exact cr_any hc pins s σ H _ us Q' I r ⟨a, ns, rfl, .inl (.inl (sm _ _ h2)), g.b sm q⟩
  · exact h.elim
theorem qc_listN : CallR X (.type "list") (upNL X.K vList) := by
  intro pins s σ H xs us Q' I r ⟨F, ds, Q, sm, rl, h, g⟩
  unfold vList at h
  split at h
  · obtain ⟨v, _, rfl, ⟨a, vs, rfl, h2, h3⟩, rfl⟩ := rl
    exact call_list_of pins s σ H _ us Q' I r ⟨a, vs, rfl, .inl (.inl (.inl (sm _ _ h2))), fun l hl => g.lst h3 h hl⟩
  · obtain ⟨v, _, rfl, ⟨a, vs, rfl, h2, h3⟩, rfl⟩ := rl
    exact call_list_of pins s σ H _ us Q' I r ⟨a, vs, rfl, .inr (same_sqt sm h2), fun l hl => g.lst h3 h hl⟩
  · exact h.elim
theorem qc_list : CallR X (.type "list") (upVL X.K vList) := callN_V qc_listN
theorem qc_tuple : CallR X (.type "tuple") (upVL X.K vTuple) := by
  intro pins s σ H xs us Q' I r ⟨F, ds, Q, sm, rl, h, g⟩
  unfold vTuple at h
  split at h
  · obtain ⟨v, _, rfl, ⟨a, vs, rfl, h2, h3⟩, rfl⟩ := rl
    exact call_tuple_of pins s σ H _ us Q' I r ⟨a, vs, rfl, .inl ⟨.inl (.inl (sm _ _ h2)), fun l hl => g.tup sm h3 h hl⟩⟩
  · obtain ⟨v, _, rfl, ⟨a, vs, rfl, h2, h3⟩, rfl⟩ := rl
    exact call_tuple_of pins s σ H _ us Q' I r ⟨a, vs, rfl, .inr ⟨same_sqt sm h2, g.flat sm (z := .tup _) ⟨a, vs, rfl, h2, h3⟩ h⟩⟩
  · exact h.elim
theorem tyx_of {K : PySem.W.Frag} {F H : Hp} (s : Same F H) : ∀ {d : D} {v : V} {n : String}, tyN d = some n → Rep K F d v → TyX K H v (.type n)
  | .non, _, _, e, r => by cases e; rw [show _ = V.non from r]; exact .base .non
  | .bl b, _, _, e, r => by cases e; rw [show _ = V.bl b from r]; exact .base (.bl b)
  | .int b, _, _, e, r => by cases e; rw [show _ = V.int b from r]; exact .base (.int b)
  | .str b, _, _, e, r => by cases e; rw [show _ = V.str b from r]; exact .base (.str b)
  | .scr ns, _, _, e, ⟨a, h1, h2⟩ => by
    cases e; rw [h1]
    rcases h2 with (h2 | ⟨o, h2⟩) | ⟨o, _, _, h2, h3, _⟩
    · exact .base (.lst (s _ _ h2))
    · exact .base (.frz (s _ _ h2))
    · exact .kList h2 h3
  | .tup xs, _, _, e, ⟨a, vs, h1, h2, h3⟩ => by
    cases e; rw [h1]
    rcases h2 with (h2 | ⟨o, h2⟩) | ⟨o, _, _, h2, h4, _⟩
    · exact .base (.tup (s _ _ h2))
    · exact .fTuple (s _ _ h2)
    · exact .kTuple h2 h4
  | .lst xs, _, _, e, ⟨a, vs, h1, h2, h3⟩ => by cases e; rw [h1]; exact .base (.lst (s _ _ h2))
  | .dic ks xs, _, _, e, ⟨a, h1, h⟩ => by
    cases e; rw [h1]
    rcases h with ⟨kvs, h2, _⟩ | ⟨kvs, h2, _⟩
    · exact .base (.dK (s _ _ h2))
    · exact .base (.dT (s _ _ h2))
  | .raw _, _, _, e, _ => nomatch e
  | .obj _ _ _, _, _, e, _ => nomatch e
theorem qc_isiB : CallR X (.builtin "isinstance") (upVL X.K vIsiB) := by
  intro pins s σ H xs us Q' I r ⟨F, ds, Q, sm, rl, h, g⟩
  unfold vIsiB at h
  split at h
  · obtain ⟨v, w, rfl, rv, rfl⟩ := RepL.two rl
    obtain ⟨t, b, ht, hb, q⟩ := h
    exact call_isi pins s σ H _ us Q' I r ⟨v, _, _, _, b, rfl, .ty _, tyx_of sm ht rv, kit_ty hb, g.b sm q⟩
  · exact h.elim
end
section
variable {X : Cx} {bx : Bx} {e : Expr}
/-- a built-in's name as a value -/
theorem q_raw {v : V} (h : L2.PE X e (tC v)) : QE X bx e (rC (.raw v)) := q_con h fun _ _ => rfl
end
section
variable {P : Program} {w : World} {K : PySem.W.Frag} {mg : Str → Option Value} {base : Heap}
/-- a def (or method) that changes the object in its first place -/
def envB (N : List Str) (d0 : D) (ds : List D) : List Slot := .own d0 :: (ds.map .val ++ List.replicate (N.length - (ds.length + 1)) .un)
def minus (H : Hp) (a : Addr) : Hp := fun b => if b = a then none else H b
theorem er_startB {N : List Str} {F H : Hp} {a : Addr} {ho : HO} {d0 : D} {ds : List D} {vs : List V} (s : Same F H) (hf : F a = none) (ha : H a = some ho) (o : OwnH K F d0 ho) (r : RepL K F ds vs) : ER K ⟨minus H a, some a, F⟩ F (envB N d0 ds) (L2.start N (.ref a :: vs)) H := by
  have hl := r.length
  have old : ∀ (i : Nat) (sl : Slot), (envB N d0 ds)[i]? = some sl → (i = 0 ∧ sl = .own d0) ∨ (∃ j d, i = j + 1 ∧ ds[j]? = some d ∧ sl = .val d) ∨ (ds.length + 1 ≤ i ∧ i < N.length ∧ sl = .un) := fun i sl h => by
    unfold envB at h
    cases i with
    | zero => exact .inl ⟨rfl, (Option.some.inj h).symm⟩
    | succ j =>
      have h : (ds.map Slot.val ++ List.replicate (N.length - (ds.length + 1)) Slot.un)[j]? = some sl := h
      by_cases hi : j < ds.length
      · rw [List.getElem?_append_left (by simpa using hi), List.getElem?_map] at h
        rw [List.getElem?_eq_getElem hi] at h
        exact .inr (.inl ⟨j, ds[j], rfl, List.getElem?_eq_getElem hi, (Option.some.inj h).symm⟩)
      · rw [List.getElem?_append_right (by simpa using hi), List.getElem?_replicate] at h
        split at h
        · rename_i hlt
          rw [List.length_map] at hlt
          exact .inr (.inr ⟨by omega, by omega, (Option.some.inj h).symm⟩)
        · cases h
  refine ⟨fun b q z => ?_, s, (by unfold envB L2.start; simp [hl]), fun i sl h => ?_, fun i j d e c hi hj _ _ => ?_, (fun c h => ?_), Same.refl _, fun b h _ => h⟩
  · have z' : (if b = a then none else H b) = some q := z
    split at z'
    · cases z'
    · exact z'
  · rcases old i sl h with ⟨rfl, rfl⟩ | ⟨j, d, rfl, hd, rfl⟩ | ⟨h1, h2, rfl⟩
    · exact ⟨some (.ref a), rfl, a, ho, rfl, hf, if_pos rfl, ha, o⟩
    · obtain ⟨v, hv, rv⟩ := r.get hd
      have hi : j < vs.length := (List.getElem?_eq_some_iff.mp hv).1
      refine ⟨some v, ?_, v, rfl, rv⟩
      unfold L2.start
      show ((vs.map some) ++ _)[j]? = _
      rw [List.getElem?_append_left (by simpa using hi), List.getElem?_map, hv]
      rfl
    · refine ⟨none, ?_, trivial⟩
      unfold L2.start
      rw [List.getElem?_append_right (by simp; omega), List.getElem?_replicate, if_pos (by simp; omega)]
  · rcases old i _ hi with ⟨z, _⟩ | ⟨_, d, _, _, z⟩ | ⟨_, _, z⟩
    · rcases old j _ hj with ⟨z2, _⟩ | ⟨_, d, _, _, z⟩ | ⟨_, _, z⟩
      · rw [z, z2]
      · cases z
      · cases z
    · cases z
    · cases z
  · cases h
    exact ⟨rfl, d0, rfl⟩
/-- what slot 0 owns -/
def own0 (env : List Slot) (P : D → Prop) : Prop := match env[(0 : Nat)]? with
  | some (.own d) => P d
  | _ => False
theorem own0_of {env : List Slot} {P : D → Prop} (h : own0 env P) : ∃ d, env[(0 : Nat)]? = some (.own d) ∧ P d := by
  unfold own0 at h
  split at h
  · rename_i d hd
    exact ⟨d, hd, h⟩
  · exact h.elim
theorem fnB {x qual : Str} {st : Stmt} {f : Addr} {fd : FuncData} {N ps : List Str} {k n : Nat} {M : FB} (Fn : Fun K x qual st f fd) (Sc : FnScope N ps (defScope st)) (hps : ps.length = n + 1)
    (hbody : ∀ (cdv : Value) (A : Around) (outer : List Env) (s : Shared) (H B F0 : Hp) (a : Addr) (E : XK) (EX : D → D → Prop), Room k (A.deeper (envOfC qual (defScope st) s.heap.objs.size f cdv)) →
      Takes (cxOf (L2.CX P w) P w K mg base N qual (defScope st) f cdv A outer s H E) (WEx K ⟨B, some a, F0⟩ fun ed env => own0 env (EX ed)) →
      ∃ t, QSs (cxOf (L2.CX P w) P w K mg base N qual (defScope st) f cdv A outer s H E) ⟨B, some a, F0⟩ (defBody st) t ∧ ∀ d0 ds Q, ds.length = n → M d0 ds Q EX →
        t { nx := fun env => own0 env (Q .non), rt := fun d env => own0 env (Q d) } (envB N d0 ds)) :
    FnOk P w K mg base (L2.CX P w) (k + 1) f fd ps (spB K n M) := by
  refine Fn.okX Sc (fun vs H Q E ⟨F, a, ho, d0, ds, ws, _, _, hn, e, _, _, _, _, r, _⟩ => by rw [e, List.length_cons, ← r.length, hn, hps]) (fun cdv A outer s H vs Q' E' hr ⟨F, a, ho, d0, ds, ws, Q, E, hn, ev, sm, hf, ha, o, r, h, g, gx⟩ => ?_)
  subst ev
  have fin : ∀ {F' H' : Hp} {env : List Slot} {σ : L2.St} {d' : D}, ER K ⟨minus H a, some a, F⟩ F' env σ H' → env[0]? = some (.own d') → ∃ ho', GrowB a F H F' H' ∧ H' a = some ho' ∧ OwnH K F' d' ho' := fun {F' H' env σ d'} R h0 => by
    obtain ⟨p, ho', h1, h2, h3, h4⟩ := own_ix R h0
    obtain ⟨k1, _⟩ := R.io a rfl
    rw [k1] at h1; cases h1
    refine ⟨ho', ⟨R.f0, R.sf, fun b q z hb => R.sb b q (by show (if b = a then none else H b) = some q; rw [if_neg hb]; exact z), fun b z1 z2 => ?_⟩, h2, h4⟩
    by_cases hb : b = a
    · rw [hb]; exact h3
    · exact R.fz b z1 (by show (if b = a then none else H b) ≠ none; rw [if_neg hb]; exact z2)
  obtain ⟨t, ht, hq⟩ := hbody cdv A outer s H (minus H a) F a E' E hr ((takes_of rfl rfl rfl rfl : Takes (cxOf (L2.CX P w) P w K mg base N qual (defScope st) f cdv A outer s H E') (fun cls d _ H => E' cls d H)).imp fun cls d σ H' ⟨env, F', ed, R, rx, ex⟩ => by
    obtain ⟨d', hd', ex⟩ := own0_of ex
    obtain ⟨ho', g1, g2, g3⟩ := fin R hd'
    exact gx ed cls d d' ho' F' H' g1 g2 g3 rx ex)
  refine ⟨_, ht, envB N d0 ds, F, _, er_startB sm hf ha o r, hq d0 ds Q hn h, fun env' F' σ' H' s' R' q => ?_, fun d v env' F' σ' H' s' R' rd q => ?_, fun _ _ _ _ _ _ z => z.elim, fun _ _ _ _ _ _ z => z.elim⟩
  · obtain ⟨d', hd', q⟩ := own0_of q
    obtain ⟨ho', g1, g2, g3⟩ := fin R' hd'
    exact g .non .non d' ho' F' H' g1 g2 g3 rfl q
  · obtain ⟨d', hd', q⟩ := own0_of q
    obtain ⟨ho', g1, g2, g3⟩ := fin R' hd'
    exact g d v d' ho' F' H' g1 g2 g3 rd q
end
end QL
namespace QL
open PySem PySem.Spec PyProof.Rows L2
theorem bt_len : bootBuiltins "len" = some (.builtin "len") := by decide +kernel
theorem bt_abs : bootBuiltins "abs" = some (.builtin "abs") := by decide +kernel
theorem bt_sum : bootBuiltins "sum" = some (.builtin "sum") := by decide +kernel
theorem bt_max : bootBuiltins "max" = some (.builtin "max") := by decide +kernel
theorem bt_min : bootBuiltins "min" = some (.builtin "min") := by decide +kernel
theorem bt_all : bootBuiltins "all" = some (.builtin "all") := by decide +kernel
theorem bt_any : bootBuiltins "any" = some (.builtin "any") := by decide +kernel
theorem bt_isinstance : bootBuiltins "isinstance" = some (.builtin "isinstance") := by decide +kernel
theorem bt_int : bootBuiltins "int" = some (.type "int") := by decide +kernel
theorem bt_bool : bootBuiltins "bool" = some (.type "bool") := by decide +kernel
theorem bt_list : bootBuiltins "list" = some (.type "list") := by decide +kernel
theorem bt_tuple : bootBuiltins "tuple" = some (.type "tuple") := by decide +kernel
theorem bt_str : bootBuiltins "str" = some (.type "str") := by decide +kernel
theorem bt_dict : bootBuiltins "dict" = some (.type "dict") := by decide +kernel
theorem qs_nev {X : Cx} {bx : Bx} {st : Stmt} : QS X bx st sNever := ps_imp ps_never fun Dn σ H ⟨env, F, en, R, ht, _⟩ => ht
end QL
set_option Elab.async false
set_option linter.all false
set_option maxRecDepth 100000
namespace QL
open PySem PySem.Spec PyProof.Rows L2
/-! ### the readings, step by step -/
def bq (d : D) (Q : Bool → Prop) : Prop := match d with
  | .bl k => Q k
  | _ => False
def valQ (s : Slot) (Q : D → Prop) : Prop := match s with
  | .val d => Q d
  | _ => False
def ownQ (s : Slot) (Q : D → Prop) : Prop := match s with
  | .own d => Q d
  | _ => False
def anyQ (s : Slot) (Q : D → Prop) (Q' : D → Prop) : Prop := match s with
  | .val d => Q d
  | .own d => Q' d
  | _ => False
def trq (d : D) (P : Bool → Prop) : Prop := match truD d with
  | some k => P k
  | none => False
section
variable {env : List Slot} {Q : D → List Slot → Prop} {QB : Bool → List Slot → Prop} {QM : List D → List Slot → Prop} {Q0 : D → Prop} {d e : D} {i j : Nat} {ta tb tc : RE} {r r' : V2} {u : V1} {vl : VL} {t : RA} {c c' : RB} {en : PEnds} {ts us : RS} {g : RG} {gs : RGs} {EX : XD} {S : FA} {M : FB} {n : Nat}
theorem e_own0 {l : List Slot} {P : D → Prop} : own0 (.own d :: l) P = P d := rfl
theorem e_c : rC d env Q = Q d env := rfl
theorem e_var : rVar i env Q = valQ (getS env i) fun d => Q d env := by
  unfold rVar; rw [getS_eq]
  cases env[i]? with
  | none => rfl
  | some s => cases s <;> rfl
theorem e_varO : rVarO i env Q = anyQ (getS env i) (fun d => Q d env) (fun d => Q d (putS env i (.val d))) := by
  unfold rVarO; rw [getS_eq]
  cases env[i]? with
  | none => rfl
  | some s => cases s <;> first | rfl | (simp only [putS_eq]; rfl)
theorem e_valQ {P : D → Prop} : valQ (.val d) P = P d := rfl
theorem e_ownQ {P : D → Prop} : ownQ (.own d) P = P d := rfl
theorem e_anyV {P P' : D → Prop} : anyQ (.val d) P P' = P d := rfl
theorem e_anyO {P P' : D → Prop} : anyQ (.own d) P P' = P' d := rfl
theorem e_get0 {s : Slot} {l : List Slot} : getS (s :: l) 0 = s := rfl
theorem e_getS {s : Slot} {l : List Slot} : getS (s :: l) (n + 1) = getS l n := rfl
theorem e_put0 {s s' : Slot} {l : List Slot} : putS (s :: l) 0 s' = s' :: l := rfl
theorem e_putS {s s' : Slot} {l : List Slot} : putS (s :: l) (n + 1) s' = s :: putS l n s' := rfl
def notOwn : Slot → Bool
  | .own _ => false
  | _ => true
theorem e_noN {env : List Slot} : noOwn [] env = true := rfl
theorem e_noC {is : List Nat} {env : List Slot} : noOwn (i :: is) env = (notOwn (getS env i) && noOwn is env) := by
  show ((match env[i]? with | some (.own _) => false | _ => true) && noOwn is env) = _
  rw [getS_eq]
  cases env[i]? with
  | none => rfl
  | some s => cases s <;> rfl
theorem e_noU : notOwn .un = true := rfl
theorem e_noV : notOwn (.val d) = true := rfl
theorem e_wipN {env : List Slot} : wipeE [] env = env := rfl
theorem e_wipC {is : List Nat} {env : List Slot} : wipeE (i :: is) env = putS (wipeE is env) i .un := by show (wipeE is env).set i .un = _; rw [putS_eq]
theorem e_bakN {old env : List Slot} : backE [] old env = env := rfl
theorem e_bakC {is : List Nat} {old env : List Slot} : backE (i :: is) old env = putS (backE is old env) i (getS old i) := rfl
theorem e_ownN {α β : Type} {f : α → β} : List.map f [] = [] := rfl
theorem e_op : rOp r ta tb env Q = ta env fun d env1 => tb env1 fun e env2 => r d e fun z => Q z env2 := rfl
theorem e_un : rUn u ta env Q = ta env fun d env1 => u d fun z => Q z env1 := rfl
theorem e_tst : rTst ta env QB = ta env fun d env1 => bq d fun k => QB k env1 := rfl
theorem e_bq {k : Bool} {P : Bool → Prop} : bq (.bl k) P = P k := rfl
theorem e_tru : rTru ta env QB = ta env fun d env1 => trq d fun k => QB k env1 := rfl
theorem e_notT : rNotT c env QB = c env fun b env1 => QB (!b) env1 := rfl
theorem e_andT : rAndT c c' env QB = c env fun b env1 => if b = true then c' env1 QB else QB false env1 := rfl
theorem e_orT : rOrT c c' env QB = c env fun b env1 => if b = true then QB true env1 else c' env1 QB := rfl
theorem e_and : rAnd ta tb env Q = ta env fun d env1 => trq d fun k => (if k = true then tb env1 Q else Q d env1) := rfl
theorem e_or : rOr ta tb env Q = ta env fun d env1 => trq d fun k => (if k = true then Q d env1 else tb env1 Q) := rfl
theorem e_not : rNot ta env Q = ta env fun d env1 => trq d fun k => Q (.bl (!k)) env1 := rfl
theorem e_tqB {k : Bool} {P : Bool → Prop} : trq (.bl k) P = P k := rfl
theorem e_tqI {k : Int} {P : Bool → Prop} : trq (.int k) P = P (k != 0) := rfl
theorem e_tqN {P : Bool → Prop} : trq .non P = P false := rfl
theorem e_tqL {xs : List D} {P : Bool → Prop} : trq (.lst xs) P = P (!xs.isEmpty) := rfl
theorem e_tqT {xs : List D} {P : Bool → Prop} : trq (.tup xs) P = P (!xs.isEmpty) := rfl
theorem e_if : rIf c ta tb env Q = c env fun b env1 => if b = true then ta env1 Q else tb env1 Q := rfl
theorem e_chain : rChain r r' ta tb tc env Q = ta env fun d env1 => tb env1 fun e env2 => r d e fun z => bq z fun k => if k = true then tc env2 fun w env3 => r' e w fun z => Q z env3 else Q (.bl false) env2 := by
  unfold rChain bq; rfl
theorem e_nil : rNil env QM = QM [] env := rfl
theorem e_cons : rCons ta t env QM = ta env fun d env1 => t env1 fun ds env2 => QM (d :: ds) env2 := rfl
theorem e_tup : rTup t env Q = t env fun ds env1 => ds.length ≤ sizeLine ∧ Q (.tup ds) env1 := rfl
theorem e_lst : rLst t env Q = t env fun ds env1 => ds.length ≤ sizeLine ∧ Q (.lst ds) env1 := rfl
theorem e_ixO : rIxO i tb env Q = ownQ (getS env i) fun _ => tb env fun j env1 => ownQ (getS env1 i) fun d => vIx d j fun z => Q z env1 := by
  unfold rIxO; rw [getS_eq]
  cases h : env[i]? with
  | none =>
    show _ = False
    exact propext ⟨fun ⟨⟨d, z⟩, _⟩ => (by cases z), fun z => z.elim⟩
  | some s =>
    cases s with
    | un => exact propext ⟨fun ⟨⟨d, z⟩, _⟩ => (by cases z), fun z => z.elim⟩
    | val d => exact propext ⟨fun ⟨⟨d, z⟩, _⟩ => (by cases z), fun z => z.elim⟩
    | own d =>
      have e : (fun (j : D) (env1 : List Slot) => match env1[i]? with | some (.own d) => vIx d j fun z => Q z env1 | _ => False) = fun j env1 => ownQ (getS env1 i) fun d => vIx d j fun z => Q z env1 := by
        funext j env1
        rw [getS_eq]
        cases env1[i]? with
        | none => rfl
        | some s => cases s <;> rfl
      exact propext ⟨fun ⟨_, z⟩ => by rw [← e]; exact z, fun z => ⟨⟨d, rfl⟩, by rw [← e] at z; exact z⟩⟩
theorem e_call : rCall S n EX t env Q = t env fun ds env1 => ds.length = n ∧ S ds (fun d => Q d env1) fun ed => EX ed env1 := rfl
theorem e_callM : rCallM i M n EX t env Q = ownQ (getS env i) fun _ => t env fun ds env1 => ownQ (getS env1 i) fun d0 => ds.length = n ∧ M d0 ds (fun d d' => Q d (putS env1 i (.own d'))) fun ed d' => EX ed (putS env1 i (.own d')) := by
  unfold rCallM; rw [getS_eq]
  have e : (fun (ds : List D) (env1 : List Slot) => match env1[i]? with | some (.own d0) => ds.length = n ∧ M d0 ds (fun d d' => Q d (env1.set i (.own d'))) (fun ed d' => EX ed (env1.set i (.own d'))) | _ => False) = fun ds env1 => ownQ (getS env1 i) fun d0 => ds.length = n ∧ M d0 ds (fun d d' => Q d (putS env1 i (.own d'))) fun ed d' => EX ed (putS env1 i (.own d')) := by
    funext ds env1
    rw [getS_eq]
    cases env1[i]? with
    | none => rfl
    | some s => cases s <;> first | rfl | (simp only [putS_eq]; rfl)
  cases h : env[i]? with
  | none => exact propext ⟨fun ⟨⟨d, z⟩, _⟩ => (by cases z), fun z => z.elim⟩
  | some s =>
    cases s with
    | un => exact propext ⟨fun ⟨⟨d, z⟩, _⟩ => (by cases z), fun z => z.elim⟩
    | val d => exact propext ⟨fun ⟨⟨d, z⟩, _⟩ => (by cases z), fun z => z.elim⟩
    | own d => exact propext ⟨fun ⟨_, z⟩ => by rw [← e]; exact z, fun z => ⟨⟨d, rfl⟩, by rw [← e] at z; exact z⟩⟩
theorem e_cb : rCB vl t env Q = t env fun ds env1 => vl ds fun z => Q z env1 := rfl
theorem e_snil : sNil en env = en.nx env := rfl
theorem e_seq : sSeq ts us en env = ts { en with nx := fun env' => us en env' } env := rfl
theorem e_asg : sAsg ta g en env = ta env fun d env1 => g d env1 en.nx := rfl
theorem e_own : sOwn i ta en env = ta env fun d env1 => en.nx (putS env1 i (.own d)) := by unfold sOwn; simp only [putS_eq]
theorem e_drop : sDrop ta en env = ta env fun _ env1 => en.nx env1 := rfl
theorem e_ret : sRet ta en env = ta env en.rt := rfl
theorem e_retN : sRetN en env = en.rt .non env := rfl
theorem e_sif : sIf c ts us en env = c env fun b env1 => if b = true then ts en env1 else us en env1 := rfl
theorem e_brk : sBrk en env = en.bk env := rfl
theorem e_cnt : sCnt en env = en.ct env := rfl
theorem e_nev : sNever en env = False := rfl
theorem e_gn {P : List Slot → Prop} : rgN i d env P = P (putS env i (.val d)) := by unfold rgN; rw [putS_eq]
theorem e_gnil {P : List Slot → Prop} : rgNil [] env P = P env := by unfold rgNil; exact propext ⟨fun h => h.2, fun h => ⟨rfl, h⟩⟩
theorem e_gcons {P : List Slot → Prop} {ds : List D} : rgCons g gs (d :: ds) env P = g d env fun env1 => gs ds env1 P := rfl
theorem e_gt {P : List Slot → Prop} {xs : List D} : rgT n gs (.tup xs) env P = (xs.length = n ∧ gs xs env P) := rfl
theorem e_par : sPar i j t en env = t env fun ds env1 => match ds with | [d, e] => en.nx (putS (putS env1 i (.val d)) j (.val e)) | _ => False := by unfold sPar; simp only [putS_eq]; try rfl
theorem e_par3 {k : Nat} : sPar3 i j k t en env = t env fun ds env1 => match ds with | [d, e, f] => en.nx (putS (putS (putS env1 i (.val d)) j (.val e)) k (.val f)) | _ => False := by unfold sPar3; simp only [putS_eq]; try rfl
theorem e_aug : sAug i r ta en env = valQ (getS env i) fun d => ta env fun e env1 => r d e fun z => en.nx (putS env1 i (.val z)) := by
  unfold sAug; rw [getS_eq]
  cases env[i]? with
  | none => rfl
  | some s => cases s <;> first | rfl | (simp only [putS_eq]; rfl)
def lstQ (d : D) (Q : List D → Prop) : Prop := match d with
  | .lst xs => Q xs
  | _ => False
theorem e_lstQ {xs : List D} {P : List D → Prop} : lstQ (.lst xs) P = P xs := rfl
theorem e_app : sApp i ta en env = ownQ (getS env i) fun d => lstQ d fun _ => ta env fun d env1 => ownQ (getS env1 i) fun e => lstQ e fun xs => xs.length < sizeLine ∧ en.nx (putS env1 i (.own (.lst (xs ++ [d])))) := by
  unfold sApp; rw [getS_eq]
  have e : (fun (d : D) (env1 : List Slot) => match env1[i]? with | some (.own (.lst xs)) => xs.length < sizeLine ∧ en.nx (env1.set i (.own (.lst (xs ++ [d])))) | _ => False) = fun d env1 => ownQ (getS env1 i) fun e => lstQ e fun xs => xs.length < sizeLine ∧ en.nx (putS env1 i (.own (.lst (xs ++ [d])))) := by
    funext d env1
    rw [getS_eq]
    cases env1[i]? with
    | none => rfl
    | some s =>
      cases s with
      | un => rfl
      | val _ => rfl
      | own z => cases z <;> first | rfl | (simp only [putS_eq]; rfl)
  cases h : env[i]? with
  | none => exact propext ⟨fun ⟨⟨d, z⟩, _⟩ => (by cases z), fun z => z.elim⟩
  | some s =>
    cases s with
    | un => exact propext ⟨fun ⟨⟨d, z⟩, _⟩ => (by cases z), fun z => z.elim⟩
    | val d => exact propext ⟨fun ⟨⟨d, z⟩, _⟩ => (by cases z), fun z => z.elim⟩
    | own d =>
      cases d with
      | lst xs => exact propext ⟨fun ⟨_, z⟩ => by rw [← e]; exact z, fun z => ⟨⟨xs, rfl⟩, by rw [← e] at z; exact z⟩⟩
      | _ => exact propext ⟨fun ⟨⟨d, z⟩, _⟩ => (by cases z), fun z => z.elim⟩
def intQ (d : D) (Q : Int → Prop) : Prop := match d with
  | .int i => Q i
  | _ => False
theorem e_intQ {k : Int} {P : Int → Prop} : intQ (.int k) P = P k := rfl
theorem e_augI {r : V2} {tj te : RE} : sAugI i r tj te en env = ownQ (getS env i) fun d => lstQ d fun _ => tj env fun j env1 => ownQ (getS env1 i) fun e => lstQ e fun xs => intQ j fun k => ∃ d, atI xs k = some d ∧ te env1 fun e env2 => r d e fun z => ownQ (getS env2 i) fun f => lstQ f fun ys => ∃ n, ixN ys.length k = some n ∧ en.nx (putS env2 i (.own (.lst (ys.set n z)))) := by
  unfold sAugI; rw [getS_eq]
  have e : (fun (j : D) (env1 : List Slot) => match env1[i]? with
  | some (.own (.lst xs)) => (match j with
    | .int k => ∃ d, atI xs k = some d ∧ te env1 fun e env2 => r d e fun z => match env2[i]? with
      | some (.own (.lst ys)) => ∃ n, ixN ys.length k = some n ∧ en.nx (env2.set i (.own (.lst (ys.set n z))))
      | _ => False
    | _ => False)
  | _ => False) = fun j env1 => ownQ (getS env1 i) fun e => lstQ e fun xs => intQ j fun k => ∃ d, atI xs k = some d ∧ te env1 fun e env2 => r d e fun z => ownQ (getS env2 i) fun f => lstQ f fun ys => ∃ n, ixN ys.length k = some n ∧ en.nx (putS env2 i (.own (.lst (ys.set n z)))) := by
    funext j env1
    rw [getS_eq]
    cases env1[i]? with
    | none => rfl
    | some s =>
      cases s with
      | un => rfl
      | val _ => rfl
      | own z =>
        cases z with
        | lst xs =>
          cases j with
          | int k =>
            show (∃ d, atI xs k = some d ∧ te env1 fun e env2 => r d e fun z => match env2[i]? with
      | some (.own (.lst ys)) => ∃ n, ixN ys.length k = some n ∧ en.nx (env2.set i (.own (.lst (ys.set n z))))
      | _ => False) = ∃ d, atI xs k = some d ∧ te env1 fun e env2 => r d e fun z => ownQ (getS env2 i) fun f => lstQ f fun ys => ∃ n, ixN ys.length k = some n ∧ en.nx (putS env2 i (.own (.lst (ys.set n z))))
            congr 1; funext d; congr 1; congr 1; funext e env2; congr 1; funext z
            rw [getS_eq]
            cases env2[i]? with
            | none => rfl
            | some s =>
              cases s with
              | un => rfl
              | val _ => rfl
              | own z => cases z <;> first | rfl | (simp only [putS_eq]; rfl)
          | _ => rfl
        | _ => rfl
  cases h : env[i]? with
  | none => exact propext ⟨fun ⟨⟨d, z⟩, _⟩ => (by cases z), fun z => z.elim⟩
  | some s =>
    cases s with
    | un => exact propext ⟨fun ⟨⟨d, z⟩, _⟩ => (by cases z), fun z => z.elim⟩
    | val d => exact propext ⟨fun ⟨⟨d, z⟩, _⟩ => (by cases z), fun z => z.elim⟩
    | own d =>
      cases d with
      | lst xs => exact propext ⟨fun ⟨_, z⟩ => by rw [← e]; exact z, fun z => ⟨⟨xs, rfl⟩, by rw [← e] at z; exact z⟩⟩
      | _ => exact propext ⟨fun ⟨⟨d, z⟩, _⟩ => (by cases z), fun z => z.elim⟩
/-! loops -/
theorem e_for {ti : RI} {tb : RS} : sFor ti g tb en env = ti env fun xs env1 => forR g tb en xs env1 := rfl
theorem e_forN {tb : RS} : forR g tb en [] env = en.nx env := rfl
theorem e_forC {tb : RS} {xs : List D} : forR g tb en (d :: xs) env = g d env fun env1 => tb { en with nx := forR g tb en xs, ct := forR g tb en xs, bk := en.nx } env1 := rfl
theorem e_lc {ti : RI} {tt : RB} {is : List Nat} : rLc ti g tt ta is env Q = ti env fun xs env1 => noOwn is env1 = true ∧ lcR g tt ta is xs [] (wipeE is env1) fun acc env2 => Q (.lst acc) (backE is env1 env2) := rfl
theorem e_riL {P : List D → List Slot → Prop} : riL ta env P = ta env fun d env1 => match d with | .lst xs => P xs env1 | .scr ns => P (ns.map D.int) env1 | _ => False := rfl
theorem e_riT {P : List D → List Slot → Prop} : riT ta env P = ta env fun d env1 => match d with | .tup xs => P xs env1 | _ => False := rfl
theorem e_riR1 {P : List D → List Slot → Prop} : riR1 t env P = t env fun ds env1 => match ds with | [.int j] => (-(2 ^ 62) ≤ j ∧ j < 2 ^ 62) ∧ P (rng 0 j.toNat) env1 | _ => False := rfl
theorem e_riR2 {P : List D → List Slot → Prop} : riR2 t env P = t env fun ds env1 => match ds with | [.int i, .int j] => (-(2 ^ 62) ≤ i ∧ i < 2 ^ 62 ∧ -(2 ^ 62) ≤ j ∧ j < 2 ^ 62) ∧ P (rng i (j - i).toNat) env1 | _ => False := rfl
theorem e_riE {P : List D → List Slot → Prop} : riE t env P = t env fun ds env1 => match ds with | [.lst xs] => P (enumD xs) env1 | _ => False := rfl
theorem e_riZ {P : List D → List Slot → Prop} : riZ t env P = t env fun ds env1 => match ds with | [.lst xs, .lst ys] => P (zipD xs ys) env1 | _ => False := rfl
theorem e_yes : rYes env QB = QB true env := rfl
/-! operators -/
variable {a b : Int} {xs ys : List D} {P : D → Prop}
theorem o_add : vAdd (.int a) (.int b) P = P (.int (a + b)) := rfl
theorem o_addL : vAdd (.lst xs) (.lst ys) P = (xs.length + ys.length ≤ sizeLine ∧ P (.lst (xs ++ ys))) := rfl
theorem o_addT : vAdd (.tup xs) (.tup ys) P = ((xs ≠ [] ∧ xs.length + ys.length ≤ sizeLine) ∧ P (.tup (xs ++ ys))) := rfl
theorem o_addLL : vAddL (.lst xs) (.lst ys) P = (xs.length + ys.length ≤ sizeLine ∧ P (.lst (xs ++ ys))) := rfl
theorem o_sub : vSub (.int a) (.int b) P = P (.int (a - b)) := rfl
theorem o_mul : vMul (.int a) (.int b) P = (MOk a b ∧ P (.int (a * b))) := rfl
theorem o_div : vDiv (.int a) (.int b) P = (DOk b ∧ P (.int (a / b))) := rfl
theorem o_mod : vMod (.int a) (.int b) P = (0 < b ∧ P (.int (a % b))) := rfl
theorem o_pow : vPow (.int a) (.int b) P = ((0 ≤ b ∧ b ≤ 1000000 ∧ a.natAbs < 2 ^ 64) ∧ P (.int (a ^ b.toNat))) := rfl
theorem o_shl : vShl (.int a) (.int b) P = ((0 ≤ b ∧ b ≤ 1000000 ∧ a.natAbs < 2 ^ 64) ∧ P (.int (a * 2 ^ b.toNat))) := rfl
theorem o_shr : vShr (.int a) (.int b) P = (0 ≤ b ∧ P (.int (a / 2 ^ b.toNat))) := rfl
theorem o_neg : vNeg (.int a) P = P (.int (-a)) := rfl
theorem o_lt : vLt (.int a) (.int b) P = P (.bl (decide (a < b))) := rfl
theorem o_le : vLe (.int a) (.int b) P = P (.bl (decide (a ≤ b))) := rfl
theorem o_gt : vGt (.int a) (.int b) P = P (.bl (decide (b < a))) := rfl
theorem o_ge : vGe (.int a) (.int b) P = P (.bl (decide (b ≤ a))) := rfl
theorem o_eq : vEq (.int a) (.int b) P = P (.bl (decide (a = b))) := rfl
theorem o_ne : vNe (.int a) (.int b) P = P (.bl (!decide (a = b))) := rfl
theorem o_iadd : vIAdd (.int a) (.int b) P = P (.int (a + b)) := rfl
theorem o_isub : vISub (.int a) (.int b) P = P (.int (a - b)) := rfl
theorem o_ixL : vIx (.lst xs) (.int a) P = ∃ d, atI xs a = some d ∧ P d := rfl
theorem o_ixT : vIx (.tup xs) (.int a) P = ∃ d, atI xs a = some d ∧ P d := rfl
theorem o_ixS {ns : List Int} : vIx (.scr ns) (.int a) P = ∃ n, atI ns a = some n ∧ P (.int n) := rfl
theorem o_lenL : vLen [.lst xs] P = P (.int xs.length) := rfl
theorem o_lenT : vLen [.tup xs] P = P (.int xs.length) := rfl
theorem o_lenS {ns : List Int} : vLen [.scr ns] P = P (.int ns.length) := rfl
theorem o_abs : vAbs [.int a] P = P (.int (if a < 0 then -a else a)) := rfl
theorem o_int : QL.vInt [.int a] P = P (.int a) := rfl
theorem o_max : vMax [.int a, .int b] P = P (.int (if b > a then b else a)) := rfl
theorem o_min : vMin [.int a, .int b] P = P (.int (if b < a then b else a)) := rfl
theorem o_sum : vSum [.lst xs] P = ∃ ns, allInts xs = some ns ∧ P (.int ns.sum) := rfl
theorem shaped_ints (ns : List Int) : SeqAt.shaped (.list (ns.map PyData.int)) = true := by
  unfold SeqAt.shaped
  have h1 : ∀ ns : List Int, PyData.canLayAll0 (ns.map PyData.int) = true := fun ns => by
    induction ns with
    | nil => rfl
    | cons a r ih => simp only [List.map, PyData.canLayAll0, PyData.canLay0, ih, Bool.and_self]
  have h2 : ∀ ns : List Int, PyData.depthAll (ns.map PyData.int) = 0 := fun ns => by
    induction ns with
    | nil => rfl
    | cons a r ih => simp only [List.map, PyData.depthAll, PyData.depth, ih, Nat.max_self]
  rw [Bool.and_eq_true]
  exact ⟨by rw [PyData.canLay0]; exact h1 ns, by rw [PyData.depth, h2]; rfl⟩
theorem o_neS {ns : List Int} : vNe (.scr ns) (.lst []) P = P (.bl (!ns.isEmpty)) := by
  show (okP (.scr ns) = true ∧ okP (.lst []) = true ∧ SeqAt.shaped (.list (ns.map PyData.int)) = true ∧ SeqAt.shaped (.list []) = true ∧ P (.bl (!PyData.eqv (.list (ns.map PyData.int)) (.list [])))) = _
  have e : PyData.eqv (.list (ns.map PyData.int)) (.list []) = ns.isEmpty := by cases ns <;> rfl
  rw [e]
  exact propext ⟨fun h => h.2.2.2.2, fun h => ⟨rfl, rfl, shaped_ints ns, shaped_ints [], h⟩⟩
end
section
variable {g : RG} {tb : RS} {en : PEnds} {xs xs' acc acc' : List D} {env env' : List Slot} {c : RB} {tt : RB} {te : RE} {is : List Nat} {Q : List D → List Slot → Prop}
theorem forR_congr (h : xs = xs') (h2 : env = env') : forR g tb en xs env = forR g tb en xs' env' := by rw [h, h2]
theorem lcR_congr (h : xs = xs') (h2 : env = env') : lcR g tt te is xs acc env Q = lcR g tt te is xs' acc env' Q := by rw [h, h2]
theorem sWhl_congr (h2 : env = env') : sWhl c tb en env = sWhl c tb en env' := by rw [h2]
end
/-! a cut: what stands between is told -/
def rCut (t : RE) : RE := fun env Q => ∃ R : D → List Slot → Prop, t env R ∧ ∀ d env', R d env' → Q d env'
def sCut (t : RS) : RS := fun en env => ∃ N : List Slot → Prop, t { en with nx := N } env ∧ ∀ env', N env' → en.nx env'
theorem q_cut {X : Cx} {bx : Bx} {e : Expr} {t : RE} (h : QE X bx e t) : QE X bx e (rCut t) := pe_imp h fun σ H Q' ⟨env, F, Q, R, ⟨R0, ht, i⟩, k⟩ => ⟨env, F, R0, R, ht, fun d v env' F' H' s R' r q => k d v env' F' H' s R' r (i d env' q)⟩
theorem qs_cut {X : Cx} {bx : Bx} {st : Stmt} {t : RS} (h : QS X bx st t) : QS X bx st (sCut t) := ps_imp h fun Dn σ H ⟨env, F, en, R, ⟨N, ht, i⟩, k1, k2, k3, k4⟩ => ⟨env, F, _, R, ht, fun env' F' σ' H' s R' q => k1 env' F' σ' H' s R' (i env' q), k2, k3, k4⟩
theorem rCut_congr {t : RE} {env env' : List Slot} {Q : D → List Slot → Prop} (h : env = env') : rCut t env Q = rCut t env' Q := by rw [h]
theorem sCut_congr {t : RS} {env env' : List Slot} {en : PEnds} (h : env = env') : sCut t en env = sCut t en env' := by rw [h]
/-! rules for loops -/
/-- a for by what holds behind each turn -/
theorem forR_inv {g : RG} {tb : RS} {en : PEnds} {xs : List D} {env : List Slot} (I : Nat → List Slot → Prop) (h0 : I 0 env)
    (hs : ∀ (i : Nat) (d : D) (env : List Slot) (N : List Slot → Prop), xs[i]? = some d → I i env → (∀ env', I (i + 1) env' → N env') → g d env fun env1 => tb { en with nx := N, ct := N, bk := en.nx } env1) (he : ∀ env, I xs.length env → en.nx env) : forR g tb en xs env := by
  have main : ∀ (n i : Nat) (env : List Slot), n = xs.length - i → i ≤ xs.length → I i env → forR g tb en (xs.drop i) env := by
    intro n
    induction n with
    | zero =>
      intro i env hn hi h
      have e : i = xs.length := by omega
      subst e
      rw [List.drop_length]
      exact he env h
    | succ n ih =>
      intro i env hn hi h
      have hlt : i < xs.length := by omega
      rw [List.drop_eq_getElem_cons hlt]
      exact hs i _ env _ (List.getElem?_eq_getElem hlt) h fun e' q' => ih (i + 1) e' (by omega) hlt q'
  exact main _ 0 env rfl (Nat.zero_le _) h0
theorem rng_len {lo : Int} {n : Nat} : (rng lo n).length = n := by simp [rng]
theorem rng_get {lo : Int} {n i : Nat} {d : D} (h : (rng lo n)[i]? = some d) : i < n ∧ d = .int (lo + (i : Nat)) := by
  have hi := (List.getElem?_eq_some_iff.mp h).1
  rw [rng_len] at hi
  simp [rng, hi] at h
  exact ⟨hi, h.symm⟩
/-- .. over a range -/
theorem forR_rng {g : RG} {tb : RS} {en : PEnds} {lo : Int} {n : Nat} {env : List Slot} (I : Nat → List Slot → Prop) (h0 : I 0 env)
    (hs : ∀ (i : Nat) (env : List Slot) (N : List Slot → Prop), i < n → I i env → (∀ env', I (i + 1) env' → N env') → g (.int (lo + (i : Nat))) env fun env1 => tb { en with nx := N, ct := N, bk := en.nx } env1) (he : ∀ env, I n env → en.nx env) : forR g tb en (rng lo n) env :=
  forR_inv I h0 (fun i d env N hd hI hN => by
    obtain ⟨hi, rfl⟩ := rng_get hd
    exact hs i env N hi hI hN) (fun env h => he env (by rw [rng_len] at h; exact h))
/-- .. that only leads on -/
theorem forR_nil {g : RG} {tb : RS} {en : PEnds} {env : List Slot} (h : en.nx env) : forR g tb en [] env := h
/-- a comprehension by what holds behind each turn -/
theorem lcR_inv {g : RG} {tt : RB} {te : RE} {is : List Nat} {xs acc0 : List D} {env : List Slot} {Q : List D → List Slot → Prop} (I : Nat → List D → List Slot → Prop) (h0 : I 0 acc0 env)
    (hs : ∀ (i : Nat) (d : D) (acc : List D) (env : List Slot) (N : List D → List Slot → Prop), xs[i]? = some d → I i acc env → (∀ acc' env', I (i + 1) acc' env' → N acc' env') →
      g d env fun env1 => tt env1 fun b env2 => if b = true then te env2 fun d env3 => acc.length < sizeLine ∧ N (acc ++ [d]) (wipeE is env3) else N acc (wipeE is env2)) (he : ∀ acc env, I xs.length acc env → Q acc env) : lcR g tt te is xs acc0 env Q := by
  have main : ∀ (n i : Nat) (acc : List D) (env : List Slot), n = xs.length - i → i ≤ xs.length → I i acc env → lcR g tt te is (xs.drop i) acc env Q := by
    intro n
    induction n with
    | zero =>
      intro i acc env hn hi h
      have e : i = xs.length := by omega
      subst e
      rw [List.drop_length]
      exact he acc env h
    | succ n ih =>
      intro i acc env hn hi h
      have hlt : i < xs.length := by omega
      rw [List.drop_eq_getElem_cons hlt]
      exact hs i _ acc env (fun acc env => lcR g tt te is (xs.drop (i + 1)) acc env Q) (List.getElem?_eq_getElem hlt) h fun acc' e' q' => ih (i + 1) acc' e' (by omega) hlt q'
  exact main _ 0 acc0 env rfl (Nat.zero_le _) h0
/-- .. that gives f of each item, and leaves all else -/
theorem lcR_map {g : RG} {te : RE} {is : List Nat} {xs : List D} {env : List Slot} {Q : List D → List Slot → Prop} (f : D → D) (hl : xs.length ≤ sizeLine)
    (hs : ∀ (d : D) (N : D → List Slot → Prop), d ∈ xs → (∀ env', wipeE is env' = env → N (f d) env') → g d env fun env1 => te env1 N) (he : Q (xs.map f) env) : lcR g rYes te is xs [] env Q := by
  refine lcR_inv (fun i acc e => acc = (xs.take i).map f ∧ e = env) ⟨by simp, rfl⟩ ?_ ?_
  · rintro i d acc e N hd ⟨rfl, rfl⟩ hN
    have hi := (List.getElem?_eq_some_iff.mp hd).1
    have z := hs d (fun z env3 => ((xs.take i).map f).length < sizeLine ∧ N ((xs.take i).map f ++ [z]) (wipeE is env3)) (List.mem_of_getElem? hd) (fun env' he => ⟨by rw [List.length_map, List.length_take]; omega, by
      rw [he]
      refine hN _ _ ⟨?_, rfl⟩
      rw [List.take_add_one, hd, List.map_append]
      rfl⟩)
    exact z
  · rintro acc e ⟨rfl, rfl⟩
    rw [List.take_length]
    exact he
theorem atI_get_nat {α : Type} {xs : List α} {i : Int} (h0 : 0 ≤ i) (h : i < xs.length) : ∃ d, atI xs i = some d ∧ d ∈ xs := by
  have hn : i.toNat < xs.length := by omega
  refine ⟨xs[i.toNat], ?_, List.getElem_mem _⟩
  have e : i = ((i.toNat : Nat) : Int) := by omega
  conv => lhs; rw [e]
  exact atI_nat (List.getElem?_eq_getElem hn)
/-! sizes -/
/-- below 2 ^ n -/
class Bd (i : Int) (n : outParam Nat) : Prop where
  h : i.natAbs < 2 ^ n
theorem MOk.of {i j : Int} {a b : Nat} (h1 : i.natAbs < 2 ^ a) (h2 : j.natAbs < 2 ^ b) (h : a + b ≤ 999990) : MOk i j :=
  .inl (wide_mul (a := a + 1) (b := b + 1) (Nat.lt_of_lt_of_le h1 (Nat.pow_le_pow_right (by decide) (by omega))) (Nat.lt_of_lt_of_le h2 (Nat.pow_le_pow_right (by decide) (by omega))) (by omega) (by omega) (by omega))
theorem MOk.l {i j : Int} (h : -(2 ^ 64) < i) (h2 : i < 2 ^ 64) : MOk i j := .inr (.inl ⟨h, h2⟩)
theorem MOk.r {i j : Int} (h : -(2 ^ 64) < j) (h2 : j < 2 ^ 64) : MOk i j := .inr (.inr ⟨h, h2⟩)
theorem DOk.of {j : Int} {b : Nat} (h : 0 < j) (h2 : j.natAbs < 2 ^ b) (h3 : b ≤ 8990) : DOk j := ⟨h, by
  have := wide_div (i := 0) (b := b + 1) h (Nat.lt_of_lt_of_le h2 (Nat.pow_le_pow_right (by decide) (by omega))) (by omega) (by omega)
  exact this.2⟩
theorem DOk.small {j : Int} (h : 0 < j) (h2 : j < 18446744073709551616) : DOk j := DOk.of (b := 64) h (by
  have : (2 : Nat) ^ 64 = 18446744073709551616 := by decide
  omega) (by decide)
theorem bd_mul {i j : Int} {a b : Nat} (h1 : i.natAbs < 2 ^ a) (h2 : j.natAbs < 2 ^ b) : (i * j).natAbs < 2 ^ (a + b) := wide_lt h1 h2
theorem bd_add {i j : Int} {a b : Nat} (h1 : i.natAbs < 2 ^ a) (h2 : j.natAbs < 2 ^ b) : (i + j).natAbs < 2 ^ (max a b + 1) := by
  have e1 : (2 : Nat) ^ a ≤ 2 ^ max a b := Nat.pow_le_pow_right (by decide) (Nat.le_max_left _ _)
  have e2 : (2 : Nat) ^ b ≤ 2 ^ max a b := Nat.pow_le_pow_right (by decide) (Nat.le_max_right _ _)
  have e3 : (2 : Nat) ^ (max a b + 1) = 2 ^ max a b + 2 ^ max a b := by rw [Nat.pow_succ]; omega
  omega
theorem bd_sub {i j : Int} {a b : Nat} (h1 : i.natAbs < 2 ^ a) (h2 : j.natAbs < 2 ^ b) : (i - j).natAbs < 2 ^ (max a b + 1) := by
  have e1 : (2 : Nat) ^ a ≤ 2 ^ max a b := Nat.pow_le_pow_right (by decide) (Nat.le_max_left _ _)
  have e2 : (2 : Nat) ^ b ≤ 2 ^ max a b := Nat.pow_le_pow_right (by decide) (Nat.le_max_right _ _)
  have e3 : (2 : Nat) ^ (max a b + 1) = 2 ^ max a b + 2 ^ max a b := by rw [Nat.pow_succ]; omega
  omega
theorem bd_neg {i : Int} {a : Nat} (h1 : i.natAbs < 2 ^ a) : (-i).natAbs < 2 ^ a := by rw [Int.natAbs_neg]; exact h1
theorem bd_mono {i : Int} {a b : Nat} (h1 : i.natAbs < 2 ^ a) (h : a ≤ b) : i.natAbs < 2 ^ b := Nat.lt_of_lt_of_le h1 (Nat.pow_le_pow_right (by decide) h)
theorem bd_le {i j : Int} {a : Nat} (h0 : 0 ≤ i) (h : i ≤ j) (h1 : j.natAbs < 2 ^ a) : i.natAbs < 2 ^ a := by omega
theorem bd_div {i j : Int} {a : Nat} (h0 : 0 < j) (h1 : i.natAbs < 2 ^ a) : (i / j).natAbs < 2 ^ (a + 1) := by
  have h2 : (i / j).natAbs ≤ i.natAbs + 1 := by
    by_cases h : 0 ≤ i
    · have := Int.ediv_nonneg h (Int.le_of_lt h0)
      have := Int.ediv_le_self j h
      omega
    · have k1 : i / j < 0 := Int.ediv_neg_of_neg_of_pos (by omega) h0
      have k2 : i ≤ i / j := by
        have e := Int.mul_ediv_add_emod i j
        have e2 := Int.emod_nonneg i (show j ≠ 0 by omega)
        have e3 := Int.emod_lt_of_pos i h0
        by_cases hc : i ≤ i / j
        · exact hc
        · have h5 : j * (i / j + 1) ≤ 1 * (i / j + 1) := Int.mul_le_mul_of_nonpos_right (by omega) (by omega)
          rw [Int.mul_add] at h5
          omega
      omega
  have e3 : (2 : Nat) ^ (a + 1) = 2 ^ a + 2 ^ a := by rw [Nat.pow_succ]; omega
  omega
theorem bd_mod {i j : Int} {a : Nat} (h0 : 0 < j) (h1 : j.natAbs < 2 ^ a) : (i % j).natAbs < 2 ^ a := by
  have e2 := Int.emod_nonneg i (show j ≠ 0 by omega)
  have e3 := Int.emod_lt_of_pos i h0
  omega
end QL
set_option Elab.async false
set_option linter.all false
set_option maxRecDepth 100000
namespace QL
open PySem PySem.Spec PyProof.Rows L2
/-! ### order of tuples of ints -/
def lxE (ns ms : List Int) (j : Nat) : Bool := decide (ns.getD j 0 = ms.getD j 0)
def lexG (r : Int → Int → Bool) (z : Nat → Nat → Bool) (ns ms : List Int) : Bool :=
  Ob.lexAt (lxE ns ms) (fun j => r (ns.getD j 0) (ms.getD j 0)) (z ns.length ms.length) 0 (min ns.length ms.length)
def vOrdT (r : Int → Int → Bool) (z : Nat → Nat → Bool) : V2
  | .int i, .int j, Q => Q (.bl (r i j))
  | .tup xs, .tup ys, Q => ∃ ns ms, allInts xs = some ns ∧ allInts ys = some ms ∧ Q (.bl (lexG r z ns ms))
  | _, _, _ => False
theorem repInts {K : PySem.W.Frag} {F : Hp} : ∀ {ns : List Int} {vs : List V}, RepL K F (ns.map D.int) vs → vs = ns.map V.int
  | [], _, h => h
  | n :: ns, _, ⟨v, r, h1, h2, h3⟩ => by rw [h1, show v = V.int n from h2, repInts h3]; rfl
section
variable {X : Cx}
def CmpT (X : Cx) (op : CmpOp) (r : Int → Int → Bool) (z : Nat → Nat → Bool) : Prop := ∀ {A : Around} {s : Shared} {l b : Addr} {items items2 : Array Value} {e r' : Nat → Bool}, IsTup s.heap l items → IsTup s.heap b items2 → A.units < cLine →
    (∀ j (h1 : j < items.size) (h2 : j < items2.size), SeqAt.EqAt A.in1 s items[j] items2[j] (e j)) →
    (∀ j (h1 : j < items.size) (h2 : j < items2.size), e j = false → Ob.RcOp op A.in1 s items[j] items2[j] (r' j)) →
    Ob.RcOp op A s (.ref l) (.ref b) (Ob.lexAt e r' (z items.size items2.size) 0 (min items.size items2.size))
theorem qo_ordT {op : CmpOp} {r : Int → Int → Bool} {z : Nat → Nat → Bool} (hc : CmpT X op r z) (hi : ∀ (A : Around) (s : Shared) (a b : Int) (t u : Tok), Ob.RcOp op A s (.int a t) (.int b u) (r a b))
    (h0 : OpR X (compareOp op) fun x y H Q => ∃ i j, x = .int i ∧ y = .int j ∧ Q (.bl (r i j)) H)
    (hcmp : ∀ l b, compareOp op (.ref l) (.ref b) = richCompare op (.ref l) (.ref b)) (hu : X.A.units < cLine) : OpR X (compareOp op) (upV2 X.K (vOrdT r z)) := by
  intro pins s σ H x y v u Q' I rx ry ⟨F, d, e, Q, sm, r1, r2, h, g⟩
  unfold vOrdT at h
  split at h
  · cases r1; cases r2
    exact h0 pins s σ H _ _ v u Q' I rx ry ⟨_, _, rfl, rfl, g.b sm h⟩
  · obtain ⟨ns, ms, e1, e2, q⟩ := h
    obtain ⟨a, vs, rfl, h2, h3⟩ := r1
    obtain ⟨b, ws, rfl, k2, k3⟩ := r2
    rw [allInts_eq e1] at h3
    rw [allInts_eq e2] at k3
    have z1 := repInts h3
    have z2 := repInts k3
    subst z1 z2
    cases rx
    cases ry
    obtain ⟨its, r1, p1, _⟩ := I.tuple (same_sqt sm h2)
    obtain ⟨its2, r2, p2, _⟩ := I.tuple (same_sqt sm k2)
    have i1 : IntsAre its ns := Vals.ints r1
    have i2 : IntsAre its2 ms := Vals.ints r2
    have s1 : its.toArray.size = ns.length := by rw [List.size_toArray]; exact i1.length
    have s2 : its2.toArray.size = ms.length := by rw [List.size_toArray]; exact i2.length
    have at1 : ∀ j (h1 : j < its.toArray.size), ∃ t, its.toArray[j] = .int (ns.getD j 0) t := fun j h1 => PyProof.Rows.IntsAre.int_at i1 _ _ (by simp at h1; simp [h1])
    have at2 : ∀ j (h1 : j < its2.toArray.size), ∃ t, its2.toArray[j] = .int (ms.getD j 0) t := fun j h1 => PyProof.Rows.IntsAre.int_at i2 _ _ (by simp at h1; simp [h1])
    have R := hc (A := X.A) (s := s) (e := lxE ns ms) (r' := fun j => r (ns.getD j 0) (ms.getD j 0)) p1 p2 hu (fun j h1 h2 => by
      obtain ⟨t, et⟩ := at1 j h1
      obtain ⟨t', et'⟩ := at2 j h2
      rw [et, et']
      have z : (ns.getD j 0 == ms.getD j 0) = lxE ns ms j := by
        unfold lxE
        by_cases q : ns.getD j 0 = ms.getD j 0
        · rw [decide_eq_true q]; exact beq_iff_eq.mpr q
        · rw [decide_eq_false q]; exact beq_eq_false_iff_ne.mpr q
      rw [← z]
      exact SeqAt.EqAt.int_int _ _ _ _) (fun j h1 h2 _ => by
      obtain ⟨t, et⟩ := at1 j h1
      obtain ⟨t', et'⟩ := at2 j h2
      rw [et, et']
      exact hi _ _ _ _ _ _)
    rw [s1, s2] at R
    have zz : wpAny (model X.prog X.w) X.A (richCompare op (.ref a) (.ref b)) (EP X pins σ Q') X.xe s := R X.prog X.w X.xe (EP X pins σ Q') ⟨.bl _, H, I, rfl, g.b sm q⟩
    rw [hcmp]
    exact zz
  · exact h.elim
def vGtT : V2 := vOrdT (fun a b => decide (b < a)) (fun n m => decide (n > m))
theorem qo_gtT (hu : X.A.units < cLine) : OpR X (compareOp .Gt) (upV2 X.K vGtT) := qo_ordT Ob.RcOp.tuples_gt (fun _ _ => Ob.RcOp.gt_int) op_gt (fun _ _ => rfl) hu
def vGeT : V2 := vOrdT (fun a b => decide (b ≤ a)) (fun n m => decide (n ≥ m))
theorem qo_geT (hu : X.A.units < cLine) : OpR X (compareOp .GtE) (upV2 X.K vGeT) := qo_ordT Ob.RcOp.tuples_ge (fun _ _ => Ob.RcOp.ge_int) op_ge (fun _ _ => rfl) hu
def vLtT : V2 := vOrdT (fun a b => decide (a < b)) (fun n m => decide (n < m))
theorem qo_ltT (hu : X.A.units < cLine) : OpR X (compareOp .Lt) (upV2 X.K vLtT) := qo_ordT Ob.RcOp.tuples_lt (fun _ _ => Ob.RcOp.lt_int) op_lt (fun _ _ => rfl) hu
def vLeT : V2 := vOrdT (fun a b => decide (a ≤ b)) (fun n m => decide (n ≤ m))
theorem qo_leT (hu : X.A.units < cLine) : OpR X (compareOp .LtE) (upV2 X.K vLeT) := qo_ordT Ob.RcOp.tuples_le (fun _ _ => Ob.RcOp.le_int) op_le (fun _ _ => rfl) hu
end
theorem o_ord2 {r : Int → Int → Bool} {z : Nat → Nat → Bool} {a b c d : Int} {P : D → Prop} : vOrdT r z (.tup [.int a, .int b]) (.tup [.int c, .int d]) P = P (.bl (if a = c then (if b = d then z 2 2 else r b d) else r a c)) := by
  have e : lexG r z [a, b] [c, d] = (if a = c then (if b = d then z 2 2 else r b d) else r a c) := by
    unfold lexG lxE
    show Ob.lexAt _ _ _ 0 2 = _
    rw [Ob.lexAt_succ, Ob.lexAt_succ, Ob.lexAt_zero]
    simp
  unfold vOrdT
  exact propext ⟨fun ⟨ns, ms, h1, h2, q⟩ => by
    cases h1; cases h2
    rw [← e]; exact q, fun q => ⟨_, _, rfl, rfl, by rw [e]; exact q⟩⟩

theorem q_gi {X : Cx} {bx : Bx} {x : Str} {i : Int} {pos : Pos} (hg : Gl X x) (hm : ∃ t, X.mg x = some (.int i t)) (hd : (x == ("__debug__" : Str)) = false := by decide) : QE X bx (.Name x pos) (rC (.int i)) := by
  obtain ⟨t, h⟩ := hm
  exact q_con (pe_glob (v := .int i) hg h ⟨t, rfl⟩ hd) fun _ _ => rfl
theorem o_gtT {a b c d : Int} {P : D → Prop} : vGtT (.tup [.int a, .int b]) (.tup [.int c, .int d]) P = P (.bl (if a = c then (if b = d then false else decide (d < b)) else decide (c < a))) := by unfold vGtT; rw [o_ord2]; rfl
theorem o_geT {a b c d : Int} {P : D → Prop} : vGeT (.tup [.int a, .int b]) (.tup [.int c, .int d]) P = P (.bl (if a = c then (if b = d then true else decide (d ≤ b)) else decide (c ≤ a))) := by unfold vGeT; rw [o_ord2]; rfl
theorem o_ltT {a b c d : Int} {P : D → Prop} : vLtT (.tup [.int a, .int b]) (.tup [.int c, .int d]) P = P (.bl (if a = c then (if b = d then false else decide (b < d)) else decide (a < c))) := by unfold vLtT; rw [o_ord2]; rfl
theorem o_leT {a b c d : Int} {P : D → Prop} : vLeT (.tup [.int a, .int b]) (.tup [.int c, .int d]) P = P (.bl (if a = c then (if b = d then true else decide (b ≤ d)) else decide (a ≤ c))) := by unfold vLeT; rw [o_ord2]; rfl
/-! ### == of ints in tuples and lists -/
theorem eqv_ints : ∀ ns ms : List Int, PyData.eqvAll (ns.map PyData.int) (ms.map PyData.int) = decide (ns = ms)
  | [], [] => rfl
  | [], _ :: _ => by simp [PyData.eqvAll]
  | _ :: _, [] => by simp [PyData.eqvAll]
  | n :: ns, m :: ms => by
    rw [List.map_cons, List.map_cons, PyData.eqvAll, eqv_ints ns ms]
    have e : PyData.eqv (.int n) (.int m) = decide (n = m) := by
      unfold PyData.eqv
      by_cases h : n = m
      · subst h; simp
      · simp [h]
    rw [e, ← Bool.decide_and]
    simp
theorem toPs_ints : ∀ ns : List Int, toPs (ns.map D.int) = ns.map PyData.int
  | [] => rfl
  | n :: ns => by rw [List.map_cons, toPs, toPs_ints ns]; rfl
theorem okPs_ints : ∀ ns : List Int, okPs (ns.map D.int) = true
  | [] => rfl
  | n :: ns => by rw [List.map_cons, okPs, okPs_ints ns]; rfl
theorem shapedT_ints (ns : List Int) : SeqAt.shaped (.tuple (ns.map PyData.int)) = true := by
  have h := shaped_ints ns
  unfold SeqAt.shaped at h ⊢
  rw [Bool.and_eq_true] at h ⊢
  exact ⟨by rw [PyData.canLay0]; have h1 := h.1; rw [PyData.canLay0] at h1; exact h1, by rw [PyData.depth]; have h1 := h.2; rw [PyData.depth] at h1; exact h1⟩
theorem o_eqTn {ns ms : List Int} {P : D → Prop} : vEq (.tup (ns.map D.int)) (.tup (ms.map D.int)) P = P (.bl (decide (ns = ms))) := by
  show (okPs _ = true ∧ okPs _ = true ∧ SeqAt.shaped (.tuple (toPs _)) = true ∧ SeqAt.shaped (.tuple (toPs _)) = true ∧ P (.bl (PyData.eqv (.tuple (toPs _)) (.tuple (toPs _))))) = _
  rw [toPs_ints, toPs_ints, PyData.eqv, eqv_ints]
  exact propext ⟨fun h => h.2.2.2.2, fun h => ⟨okPs_ints _, okPs_ints _, shapedT_ints _, shapedT_ints _, h⟩⟩
theorem o_eqT2 {a b c d : Int} {P : D → Prop} : vEq (.tup [.int a, .int b]) (.tup [.int c, .int d]) P = P (.bl (decide ([a, b] = [c, d]))) := o_eqTn (ns := [a, b]) (ms := [c, d])
theorem o_eqT3 {a b c d a' b' : Int} {P : D → Prop} : vEq (.tup [.int a, .int b, .int c]) (.tup [.int d, .int a', .int b']) P = P (.bl (decide ([a, b, c] = [d, a', b']))) := o_eqTn (ns := [a, b, c]) (ms := [d, a', b'])
theorem o_eqLn {ns ms : List Int} {P : D → Prop} : vEq (.lst (ns.map D.int)) (.lst (ms.map D.int)) P = P (.bl (decide (ns = ms))) := by
  show (okPs _ = true ∧ okPs _ = true ∧ SeqAt.shaped (.list (toPs _)) = true ∧ SeqAt.shaped (.list (toPs _)) = true ∧ P (.bl (PyData.eqv (.list (toPs _)) (.list (toPs _))))) = _
  rw [toPs_ints, toPs_ints, PyData.eqv, eqv_ints]
  exact propext ⟨fun h => h.2.2.2.2, fun h => ⟨okPs_ints _, okPs_ints _, shaped_ints _, shaped_ints _, h⟩⟩
theorem o_neTn {ns ms : List Int} {P : D → Prop} : vNe (.tup (ns.map D.int)) (.tup (ms.map D.int)) P = P (.bl (!decide (ns = ms))) := by
  show (okPs _ = true ∧ okPs _ = true ∧ SeqAt.shaped (.tuple (toPs _)) = true ∧ SeqAt.shaped (.tuple (toPs _)) = true ∧ P (.bl (!PyData.eqv (.tuple (toPs _)) (.tuple (toPs _))))) = _
  rw [toPs_ints, toPs_ints, PyData.eqv, eqv_ints]
  exact propext ⟨fun h => h.2.2.2.2, fun h => ⟨okPs_ints _, okPs_ints _, shapedT_ints _, shapedT_ints _, h⟩⟩
theorem o_neT2 {a b c d : Int} {P : D → Prop} : vNe (.tup [.int a, .int b]) (.tup [.int c, .int d]) P = P (.bl (!decide ([a, b] = [c, d]))) := o_neTn (ns := [a, b]) (ms := [c, d])
theorem o_neT3 {a b c d a' b' : Int} {P : D → Prop} : vNe (.tup [.int a, .int b, .int c]) (.tup [.int d, .int a', .int b']) P = P (.bl (!decide ([a, b, c] = [d, a', b']))) := o_neTn (ns := [a, b, c]) (ms := [d, a', b'])
theorem o_neLn {ns ms : List Int} {P : D → Prop} : vNe (.lst (ns.map D.int)) (.lst (ms.map D.int)) P = P (.bl (!decide (ns = ms))) := by
  show (okPs _ = true ∧ okPs _ = true ∧ SeqAt.shaped (.list (toPs _)) = true ∧ SeqAt.shaped (.list (toPs _)) = true ∧ P (.bl (!PyData.eqv (.list (toPs _)) (.list (toPs _))))) = _
  rw [toPs_ints, toPs_ints, PyData.eqv, eqv_ints]
  exact propext ⟨fun h => h.2.2.2.2, fun h => ⟨okPs_ints _, okPs_ints _, shaped_ints _, shaped_ints _, h⟩⟩
end QL
set_option Elab.async false
set_option linter.all false
/-! the plain law of k53: figures of a base -/
namespace W53
def pw (o f : Int) : Int := o ^ f.toNat
theorem pw_pos {o : Int} (h : 0 < o) (f : Int) : 0 < pw o f := Int.pow_pos h
theorem key {o g f : Int} (h : g ≤ f) : pw o f * pw o (-g) = o ^ (f - g).toNat * (pw o g * pw o (-f)) := by
  unfold pw
  rw [← Int.pow_add, ← Int.pow_add, ← Int.pow_add]
  congr 1
  omega
theorem pow_ge {o : Int} (h : 1 ≤ o) : ∀ n : Nat, 1 ≤ n → o ≤ o ^ n
  | 0, z => by omega
  | n + 1, _ => by
    rw [Int.pow_succ]
    have h1 : 0 < o ^ n := Int.pow_pos (by omega)
    have := Int.mul_le_mul_of_nonneg_right (show 1 ≤ o ^ n by omega) (show 0 ≤ o by omega)
    omega
theorem le_f {o L b x x' f f' : Int} (ho : 1 ≤ o) (hL : 0 < L) (hb : 0 < b) (h1 : L * (pw o f * b) ≤ x * pw o (-f)) (h2 : x' * pw o (-f') < L * o * (pw o f' * b)) (h3 : x ≤ x') : f ≤ f' := by
  by_cases hc : f ≤ f'
  · exact hc
  exfalso
  have k := key (o := o) (show f' ≤ f by omega)
  have g := pow_ge ho (f - f').toNat (by omega)
  have p1 := pw_pos (o := o) (by omega) f
  have p2 := pw_pos (o := o) (by omega) (-f)
  have p3 := pw_pos (o := o) (by omega) f'
  have p4 := pw_pos (o := o) (by omega) (-f')
  generalize pw o f = P at *
  generalize pw o (-f) = q at *
  generalize pw o f' = P' at *
  generalize pw o (-f') = q' at *
  have g2 : o * (P' * q) ≤ P * q' := by rw [k]; exact Int.mul_le_mul_of_nonneg_right g (Int.le_of_lt (Int.mul_pos p3 p2))
  have a1 : (L * b) * (o * (P' * q)) ≤ (L * b) * (P * q') := Int.mul_le_mul_of_nonneg_left g2 (Int.le_of_lt (Int.mul_pos hL hb))
  have a2 : L * (P * b) * q' ≤ x * q * q' := Int.mul_le_mul_of_nonneg_right h1 (Int.le_of_lt p4)
  have a3 : x' * q' * q < L * o * (P' * b) * q := Int.mul_lt_mul_of_pos_right h2 p2
  have a4 : x * (q * q') ≤ x' * (q * q') := Int.mul_le_mul_of_nonneg_right h3 (Int.le_of_lt (Int.mul_pos p2 p4))
  have e1 : (L * b) * (P * q') = L * (P * b) * q' := by ac_rfl
  have e2 : (L * b) * (o * (P' * q)) = L * o * (P' * b) * q := by ac_rfl
  have e3 : x * (q * q') = x * q * q' := by ac_rfl
  have e4 : x' * (q * q') = x' * q' * q := by ac_rfl
  omega
theorem rnd {X t : Int} (ht : 0 < t) : 2 * (t * ((2 * X + t) / (2 * t))) ≤ 2 * X + t ∧ 2 * X < 2 * (t * ((2 * X + t) / (2 * t))) + t := by
  have h1 := Int.mul_ediv_add_emod (2 * X + t) (2 * t)
  have h2 := Int.emod_nonneg (2 * X + t) (show 2 * t ≠ 0 by omega)
  have h3 := Int.emod_lt_of_pos (2 * X + t) (show 0 < 2 * t by omega)
  rw [Int.mul_assoc] at h1
  omega
/-- what is written of x / b with figures from L on -/
def Wr (L o x b : Int) (d f : Int) : Prop := ∃ f0 d0, L * (pw o f0 * b) ≤ x * pw o (-f0) ∧ x * pw o (-f0) < L * o * (pw o f0 * b) ∧
  d0 = (2 * (x * pw o (-f0)) + pw o f0 * b) / (2 * (pw o f0 * b)) ∧ ((d0 = L * o ∧ d = L ∧ f = f0 + 1) ∨ (d0 ≠ L * o ∧ d = d0 ∧ f = f0))
theorem d0_between {L M X t : Int} (ht : 0 < t) (h1 : L * t ≤ X) (h2 : X < M * t) : L ≤ (2 * X + t) / (2 * t) ∧ (2 * X + t) / (2 * t) ≤ M := by
  constructor
  · rw [Int.le_ediv_iff_mul_le (by omega)]
    have e : L * (2 * t) = 2 * (L * t) := by ac_rfl
    omega
  · refine Int.le_of_lt_add_one ?_
    rw [Int.ediv_lt_iff_lt_mul (by omega)]
    have e : (M + 1) * (2 * t) = 2 * (M * t) + 2 * t := by rw [Int.add_mul, Int.one_mul]; congr 1; ac_rfl
    omega
theorem Wr.range {L o x b d f : Int} (ho : 2 ≤ o) (hL : 0 < L) (hb : 0 < b) (h : Wr L o x b d f) : L ≤ d ∧ d < L * o := by
  obtain ⟨f0, d0, h1, h2, rfl, h4⟩ := h
  have p := Int.mul_pos (pw_pos (o := o) (by omega) f0) hb
  have r := d0_between p h1 h2
  have : L * 2 ≤ L * o := Int.mul_le_mul_of_nonneg_left ho (by omega)
  omega
theorem Wr.near {L o x b d f : Int} (ho : 2 ≤ o) (hb : 0 < b) (h : Wr L o x b d f) : -(pw o f * b) ≤ 2 * (x * pw o (-f) - d * (pw o f * b)) ∧ 2 * (x * pw o (-f) - d * (pw o f * b)) ≤ pw o f * b := by
  obtain ⟨f0, d0, h1, h2, h3, h4⟩ := h
  have p := Int.mul_pos (pw_pos (o := o) (by omega) f0) hb
  have r := rnd (X := x * pw o (-f0)) p
  rw [← h3] at r
  rcases h4 with ⟨e, rfl, rfl⟩ | ⟨_, rfl, rfl⟩
  · by_cases hf : 0 ≤ f0
    · have e1 : pw o (f0 + 1) = pw o f0 * o := by unfold pw; rw [← Int.pow_succ]; congr 1; omega
      have e2 : pw o (-(f0 + 1)) = pw o (-f0) := by unfold pw; congr 1; omega
      rw [e1, e2]
      have e3 : pw o f0 * b * d0 = d * (pw o f0 * o * b) := by rw [e]; ac_rfl
      have e4 : pw o f0 * o * b = pw o f0 * b * o := by ac_rfl
      rw [e3] at r
      have := Int.mul_le_mul_of_nonneg_left (show 1 ≤ o by omega) (Int.le_of_lt p)
      omega
    · have e1 : pw o (f0 + 1) = pw o f0 := by unfold pw; congr 1; omega
      have e2 : pw o (-f0) = pw o (-(f0 + 1)) * o := by unfold pw; rw [← Int.pow_succ]; congr 1; omega
      rw [e1]
      rw [e2] at r
      have e3 : pw o f0 * b * d0 = d * (pw o f0 * b) * o := by rw [e]; ac_rfl
      have e5 : x * (pw o (-(f0 + 1)) * o) = x * pw o (-(f0 + 1)) * o := by ac_rfl
      rw [e3, e5] at r
      generalize x * pw o (-(f0 + 1)) = X at *
      generalize d * (pw o f0 * b) = Y at *
      generalize pw o f0 * b = t at *
      have hz : 2 * ((X - Y) * o) ≤ t ∧ -t ≤ 2 * ((X - Y) * o) := by rw [Int.sub_mul]; omega
      generalize X - Y = Z at *
      by_cases hZ : 0 ≤ Z
      · have := Int.mul_le_mul_of_nonneg_left (show 1 ≤ o by omega) hZ
        omega
      · have := Int.mul_le_mul_of_nonneg_left (show 1 ≤ o by omega) (show 0 ≤ -Z by omega)
        rw [Int.neg_mul, Int.neg_mul] at this
        omega
  · rw [Int.mul_comm d] 
    omega
theorem Wr.mono {L o x x' b d f d' f' : Int} (ho : 2 ≤ o) (hL : 0 < L) (hb : 0 < b) (hx : x ≤ x') (h : Wr L o x b d f) (h' : Wr L o x' b d' f') : f < f' ∨ (f = f' ∧ d ≤ d') := by
  have rg := h'.range ho hL hb
  obtain ⟨f0, d0, h1, h2, h3, h4⟩ := h
  obtain ⟨f1, d1, k1, k2, k3, k4⟩ := h'
  have hf := le_f (show 1 ≤ o by omega) hL hb h1 k2 hx
  by_cases he : f0 = f1
  · subst he
    have p := Int.mul_pos (pw_pos (o := o) (by omega) f0) hb
    have hd : d0 ≤ d1 := by
      rw [h3, k3]
      refine Int.ediv_le_ediv (by omega) ?_
      have := Int.mul_le_mul_of_nonneg_right hx (Int.le_of_lt (pw_pos (o := o) (by omega) (-f0)))
      omega
    have rk := (d0_between p k1 k2).2
    rw [← k3] at rk
    omega
  · omega
theorem Wr.exact {L o d f : Int} {k : Nat} {d' f' : Int} (ho : 2 ≤ o) (hL : 0 < L) (h1 : L ≤ d) (h2 : d < L * o) (h : Wr (L * o ^ k) o (d * pw o f) (pw o (-f)) d' f') : d' = d * o ^ k ∧ f' = f - k := by
  obtain ⟨f0, d0, a1, a2, a3, a4⟩ := h
  have hk : 0 < o ^ k := Int.pow_pos (by omega)
  have hLk := Int.mul_pos hL hk
  have hb := pw_pos (o := o) (by omega) (-f)
  have K := key (o := o) (show f - k ≤ f by omega)
  rw [show (f - (f - (k : Int))).toNat = k by omega] at K
  have p := Int.mul_pos (pw_pos (o := o) (by omega) (f - k)) hb
  have c1 : L * o ^ k * (pw o (f - k) * pw o (-f)) ≤ d * pw o f * pw o (-(f - k)) := by
    rw [Int.mul_assoc d, K, ← Int.mul_assoc d]
    refine Int.mul_le_mul_of_nonneg_right ?_ (Int.le_of_lt p)
    exact Int.mul_le_mul_of_nonneg_right h1 (Int.le_of_lt hk)
  have c2 : d * pw o f * pw o (-(f - k)) < L * o ^ k * o * (pw o (f - k) * pw o (-f)) := by
    rw [Int.mul_assoc d, K, ← Int.mul_assoc d]
    refine Int.mul_lt_mul_of_pos_right ?_ p
    rw [show L * o ^ k * o = (L * o) * o ^ k by ac_rfl]
    exact Int.mul_lt_mul_of_pos_right h2 hk
  have g1 := le_f (show 1 ≤ o by omega) hLk hb a1 c2 (Int.le_refl _)
  have g2 := le_f (show 1 ≤ o by omega) hLk hb c1 a2 (Int.le_refl _)
  have e : f0 = f - k := by omega
  subst e
  have e2 : d0 = d * o ^ k := by
    rw [a3, Int.mul_assoc d, K]
    generalize pw o (f - k) * pw o (-f) = t at *
    rw [show 2 * (d * (o ^ k * t)) + t = t + (d * o ^ k) * (2 * t) by rw [Int.add_comm]; congr 1; ac_rfl, Int.add_mul_ediv_right _ _ (by omega), Int.ediv_eq_zero_of_lt (by omega) (by omega), Int.zero_add]
  have lt : d * o ^ k < L * o ^ k * o := by
    rw [show L * o ^ k * o = (L * o) * o ^ k by ac_rfl]
    exact Int.mul_lt_mul_of_pos_right h2 hk
  rcases a4 with ⟨z, _, _⟩ | ⟨_, rfl, rfl⟩
  · rw [e2] at z; omega
  · exact ⟨e2, rfl⟩
theorem pow_bits {o x : Int} {k n : Nat} (ho : 2 ≤ o) (h : o ^ k ≤ x) (hx : x.natAbs < 2 ^ n) : k < n := by
  have h1 : 2 ^ k ≤ (o ^ k).natAbs := by rw [Int.natAbs_pow]; exact Nat.pow_le_pow_left (by omega) k
  have h2 : 0 < o ^ k := Int.pow_pos (by omega)
  have h3 : (2 : Nat) ^ k < 2 ^ n := by omega
  exact (Nat.pow_lt_pow_iff_right (by decide)).mp h3
theorem f_bits {o L b x f : Int} {n m : Nat} (ho : 2 ≤ o) (hL : 0 < L) (hb : 0 < b) (hx : 0 < x) (h1 : L * (pw o f * b) ≤ x * pw o (-f)) (h2 : x * pw o (-f) < L * o * (pw o f * b))
    (sx : x.natAbs < 2 ^ n) (sb : (L * o * b).natAbs < 2 ^ m) : -(m : Int) ≤ f ∧ f < n ∧ (1 ≤ pw o f ∧ (pw o f = 1 ∨ pw o f * b ≤ x)) := by
  have p := pw_pos (o := o) (by omega) f
  by_cases hf : 0 ≤ f
  · have e : pw o (-f) = 1 := by unfold pw; rw [show (-f).toNat = 0 by omega, Int.pow_zero]
    rw [e, Int.mul_one] at h1
    have g1 := Int.mul_le_mul_of_nonneg_right (show 1 ≤ L by omega) (Int.le_of_lt (Int.mul_pos p hb))
    have g2 := Int.mul_le_mul_of_nonneg_left (show 1 ≤ b by omega) (Int.le_of_lt p)
    have := pow_bits (k := f.toNat) ho (show pw o f ≤ x by omega) sx
    exact ⟨by omega, by omega, by omega, .inr (by omega)⟩
  · have e : pw o f = 1 := by unfold pw; rw [show f.toNat = 0 by omega, Int.pow_zero]
    rw [e, Int.one_mul] at h2
    have g2 := Int.mul_le_mul_of_nonneg_right (show 1 ≤ x by omega) (Int.le_of_lt (pw_pos (o := o) (by omega) (-f)))
    have := pow_bits (k := (-f).toNat) ho (show pw o (-f) ≤ L * o * b by omega) sb
    exact ⟨by omega, by omega, by omega, .inl e⟩
end W53
set_option Elab.async false
set_option linter.all false
set_option maxRecDepth 100000
set_option maxHeartbeats 4000000
set_option exponentiation.threshold 300
namespace LawW
open PySem PySem.Spec PyProof.Rows L2 QL
def Drw (d : D) : Prop := ∃ (ns : List Int) (k : Int), ns.length ≤ 63 ∧ d = .lst [.scr ns, .int k]
def S_number : FA := fun ds Q _ => match ds with
  | [.scr ns, .int _] => ns.length ≤ 63 ∧ ∀ r, Q (.int r)
  | _ => False
def M_take : FB := fun d0 ds Q _ => match ds with
  | [.int many] => Drw d0 ∧ 0 < many ∧ ∀ r d', 0 ≤ r → r < many → Drw d' → Q (.int r) d'
  | _ => False
def M_pick : FB := fun d0 ds Q _ => match ds with
  | [.lst xs] => Drw d0 ∧ (0 < xs.length ∧ xs.length ≤ 1000) ∧ ∀ r d', r ∈ xs → Drw d' → Q r d'
  | _ => False
def M_long : FB := fun d0 ds Q _ => match ds with
  | [.int f] => Drw d0 ∧ (0 ≤ f ∧ f ≤ 1000) ∧ ∀ r d', r.natAbs < 10 ^ f.toNat → Drw d' → Q (.int r) d'
  | _ => False
def S_law : FA := fun ds Q _ => ∃ ns, ds = [.scr ns] ∧ ns.length ≤ 63 ∧ Q (.bl true)
def S_num : FA := fun ds Q _ => match ds with
  | [d] => ∃ i, d = .int i ∧ Q (.bl true)
  | _ => False
def Sm (n : Nat) (i : Int) : Prop := i.natAbs < 2 ^ n
theorem u_num {d : D} {Q E : D → Prop} : S_num [d] Q E = (∃ i, d = .int i ∧ Q (.bl true)) := rfl
theorem u_number {ns : List Int} {i : Int} {Q E : D → Prop} : S_number [.scr ns, .int i] Q E = (ns.length ≤ 63 ∧ ∀ r, Q (.int r)) := rfl
theorem u_take {d0 : D} {i : Int} {Q E : D → D → Prop} : M_take d0 [.int i] Q E = (Drw d0 ∧ 0 < i ∧ ∀ r d', 0 ≤ r → r < i → Drw d' → Q (.int r) d') := rfl
theorem u_pick {d0 : D} {xs : List D} {Q E : D → D → Prop} : M_pick d0 [.lst xs] Q E = (Drw d0 ∧ (0 < xs.length ∧ xs.length ≤ 1000) ∧ ∀ r d', r ∈ xs → Drw d' → Q r d') := rfl
theorem u_long {d0 : D} {f : Int} {Q E : D → D → Prop} : M_long d0 [.int f] Q E = (Drw d0 ∧ (0 ≤ f ∧ f ≤ 1000) ∧ ∀ r d', r.natAbs < 10 ^ f.toNat → Drw d' → Q (.int r) d') := rfl
def S_power : FA := fun ds Q _ => match ds with
  | [.int b, .int e] => (0 ≤ b ∧ b ≤ 100 ∧ 0 ≤ e ∧ e ≤ 3000) ∧ ∀ x, x = b ^ e.toNat → Q (.int x)
  | _ => False
def S_checkB : FA := fun ds Q _ => match ds with
  | [.int v, .int lo, .int hi] => (lo ≤ v ∧ v ≤ hi) ∧ Q .non
  | _ => False
def S_checkW : FA := fun ds Q _ => match ds with
  | [.int b, .int f] => ((2 ≤ b ∧ b ≤ 100) ∧ 1 ≤ f ∧ f ≤ 60) ∧ Q .non
  | _ => False
def S_scales : FA := fun ds Q _ => match ds with
  | [.int b, .int e, .int o, .int f] => (0 ≤ b ∧ b ≤ 100 ∧ 0 ≤ o ∧ o ≤ 100 ∧ -400 ≤ e ∧ e ≤ 400 ∧ -3000 ≤ f ∧ f ≤ 3000) ∧ ∀ x y, x = W53.pw b e * W53.pw o (-f) → y = W53.pw o f * W53.pw b (-e) → Q (.tup [.int x, .int y])
  | _ => False
def S_powat : FA := fun ds Q _ => match ds with
  | [.int above, .int below, .int o, .int figs] => (2 ≤ o ∧ o ≤ 100 ∧ 1 ≤ figs ∧ figs ≤ 60 ∧ 0 < above ∧ 0 < below ∧ Sm 3000 above ∧ Sm 3000 below) ∧
     ∀ f, o ^ (figs - 1).toNat * (W53.pw o f * below) ≤ above * W53.pw o (-f) → above * W53.pw o (-f) < o ^ (figs - 1).toNat * o * (W53.pw o f * below) → Q (.int f)
  | _ => False
def S_written : FA := fun ds Q _ => match ds with
  | [.int b, .int m, .int e, .int o, .int figs] => ((2 ≤ b ∧ b ≤ 100) ∧ (1 ≤ m ∧ m ≤ 1000000000000000000000000000000000000000000000000000000000000000000000000000000000000000000000000000000000000000000000000) ∧ (-200 ≤ e ∧ e ≤ 200) ∧ (2 ≤ o ∧ o ≤ 100) ∧ 1 ≤ figs ∧ figs ≤ 60) ∧
     ∀ d f, -2950 ≤ f → f ≤ 2950 → W53.Wr (o ^ (figs - 1).toNat) o (m * W53.pw b e) (W53.pw b (-e)) d f → Q (.tup [.int d, .int f])
  | _ => False
def S_pair : FA := fun ds Q _ => match ds with
  | [.int b, .int e] => (0 ≤ b ∧ b ≤ 100 ∧ -3000 ≤ e ∧ e ≤ 3000) ∧ ∀ x y, x = W53.pw b e → y = W53.pw b (-e) → Q (.tup [.int x, .int y])
  | _ => False
theorem u_written {b m e o figs : Int} {Q E : D → Prop} : S_written [.int b, .int m, .int e, .int o, .int figs] Q E = (((2 ≤ b ∧ b ≤ 100) ∧ (1 ≤ m ∧ m ≤ 1000000000000000000000000000000000000000000000000000000000000000000000000000000000000000000000000000000000000000000000000) ∧ (-200 ≤ e ∧ e ≤ 200) ∧ (2 ≤ o ∧ o ≤ 100) ∧ 1 ≤ figs ∧ figs ≤ 60) ∧
     ∀ d f, -2950 ≤ f → f ≤ 2950 → W53.Wr (o ^ (figs - 1).toNat) o (m * W53.pw b e) (W53.pw b (-e)) d f → Q (.tup [.int d, .int f])) := rfl
theorem u_pair {b e : Int} {Q E : D → Prop} : S_pair [.int b, .int e] Q E = ((0 ≤ b ∧ b ≤ 100 ∧ -3000 ≤ e ∧ e ≤ 3000) ∧ ∀ x y, x = W53.pw b e → y = W53.pw b (-e) → Q (.tup [.int x, .int y])) := rfl
theorem u_power {b e : Int} {Q E : D → Prop} : S_power [.int b, .int e] Q E = ((0 ≤ b ∧ b ≤ 100 ∧ 0 ≤ e ∧ e ≤ 3000) ∧ ∀ x, x = b ^ e.toNat → Q (.int x)) := rfl
theorem u_checkB {v lo hi : Int} {Q E : D → Prop} : S_checkB [.int v, .int lo, .int hi] Q E = ((lo ≤ v ∧ v ≤ hi) ∧ Q .non) := rfl
theorem u_checkW {b f : Int} {Q E : D → Prop} : S_checkW [.int b, .int f] Q E = (((2 ≤ b ∧ b ≤ 100) ∧ 1 ≤ f ∧ f ≤ 60) ∧ Q .non) := rfl
theorem u_scales {b e o f : Int} {Q E : D → Prop} : S_scales [.int b, .int e, .int o, .int f] Q E = ((0 ≤ b ∧ b ≤ 100 ∧ 0 ≤ o ∧ o ≤ 100 ∧ -400 ≤ e ∧ e ≤ 400 ∧ -3000 ≤ f ∧ f ≤ 3000) ∧ ∀ x y, x = W53.pw b e * W53.pw o (-f) → y = W53.pw o f * W53.pw b (-e) → Q (.tup [.int x, .int y])) := rfl
theorem u_powat {above below o figs : Int} {Q E : D → Prop} : S_powat [.int above, .int below, .int o, .int figs] Q E = ((2 ≤ o ∧ o ≤ 100 ∧ 1 ≤ figs ∧ figs ≤ 60 ∧ 0 < above ∧ 0 < below ∧ Sm 3000 above ∧ Sm 3000 below) ∧
     ∀ f, o ^ (figs - 1).toNat * (W53.pw o f * below) ≤ above * W53.pw o (-f) → above * W53.pw o (-f) < o ^ (figs - 1).toNat * o * (W53.pw o f * below) → Q (.int f)) := rfl
theorem sm_pow {b : Int} {n m : Nat} (h0 : 0 ≤ b) (h : b ≤ 100) (hn : n ≤ m) (hm0 : 0 < m) : Sm (7 * m) (b ^ n) := by
  have h1 : b.natAbs < 2 ^ 7 := by omega
  unfold Sm
  rw [Int.natAbs_pow]
  rcases Nat.eq_zero_or_pos n with rfl | hp
  · rcases Nat.eq_zero_or_pos m with rfl | hm
    · omega
    · exact Nat.lt_of_lt_of_le (show b.natAbs ^ 0 < 2 ^ 1 by rw [Nat.pow_zero]; decide) (Nat.pow_le_pow_right (by decide) (by omega))
  · rw [Nat.pow_mul]
    exact Nat.lt_of_lt_of_le (Nat.pow_lt_pow_left h1 (by omega)) (Nat.pow_le_pow_right (by decide) hn)
local macro_rules | `(tactic| walk_at "q") => `(tactic| (try simp -implicitDefEqProofs only [↓QL.e_own0, ↓QL.e_c, ↓QL.e_var, ↓QL.e_varO, ↓QL.e_valQ, ↓QL.e_ownQ, ↓QL.e_anyV, ↓QL.e_anyO, ↓QL.e_get0, ↓QL.e_getS, ↓QL.e_put0, ↓QL.e_putS, ↓QL.e_noN, ↓QL.e_noC, ↓QL.e_noU, ↓QL.e_noV, ↓QL.e_wipN, ↓QL.e_wipC, ↓QL.e_bakN, ↓QL.e_bakC, ↓QL.e_ownN, ↓QL.e_op, ↓QL.e_un, ↓QL.e_tst, ↓QL.e_bq, ↓QL.e_tru, ↓QL.e_notT, ↓QL.e_andT, ↓QL.e_orT, ↓QL.e_and, ↓QL.e_or, ↓QL.e_not, ↓QL.e_tqB, ↓QL.e_tqI, ↓QL.e_tqN, ↓QL.e_tqL, ↓QL.e_tqT, ↓QL.e_if, ↓QL.e_chain, ↓QL.e_nil, ↓QL.e_cons, ↓QL.e_tup, ↓QL.e_lst, ↓QL.e_ixO, ↓QL.e_call, ↓QL.e_callM, ↓QL.e_cb, ↓QL.e_snil, ↓QL.e_seq, ↓QL.e_asg, ↓QL.e_own, ↓QL.e_drop, ↓QL.e_ret, ↓QL.e_retN, ↓QL.e_sif, ↓QL.e_brk, ↓QL.e_cnt, ↓QL.e_nev, ↓QL.e_gn, ↓QL.e_gnil, ↓QL.e_gcons, ↓QL.e_gt, ↓QL.e_par, ↓QL.e_par3, ↓QL.e_aug, ↓QL.e_lstQ, ↓QL.e_app, ↓QL.e_intQ, ↓QL.e_augI, ↓QL.e_for, ↓QL.e_forN, ↓QL.e_forC, ↓QL.e_lc, ↓QL.e_riL, ↓QL.e_riT, ↓QL.e_riR1, ↓QL.e_riR2, ↓QL.e_riE, ↓QL.e_riZ, ↓QL.e_yes, ↓QL.o_add, ↓QL.o_addL, ↓QL.o_addT, ↓QL.o_addLL, ↓QL.o_sub, ↓QL.o_mul, ↓QL.o_div, ↓QL.o_mod, ↓QL.o_pow, ↓QL.o_shl, ↓QL.o_shr, ↓QL.o_neg, ↓QL.o_lt, ↓QL.o_le, ↓QL.o_gt, ↓QL.o_ge, ↓QL.o_eq, ↓QL.o_ne, ↓QL.o_iadd, ↓QL.o_isub, ↓QL.o_ixL, ↓QL.o_ixT, ↓QL.o_ixS, ↓QL.o_lenL, ↓QL.o_lenT, ↓QL.o_lenS, ↓QL.o_abs, ↓QL.o_int, ↓QL.o_max, ↓QL.o_min, ↓QL.o_sum, ↓QL.o_neS, ↓QL.o_ord2, ↓QL.o_gtT, ↓QL.o_geT, ↓QL.o_ltT, ↓QL.o_leT, ↓QL.o_eqTn, ↓QL.o_eqT2, ↓QL.o_eqT3, ↓QL.o_eqLn, ↓QL.o_neTn, ↓QL.o_neT2, ↓QL.o_neT3, ↓QL.o_neLn, ↓u_num, ↓u_number, ↓u_take, ↓u_pick, ↓u_long, ↓u_power, ↓u_checkB, ↓u_checkW, ↓u_powat, ↓u_written, ↓u_pair, List.map_cons, List.map_nil, Bool.and_true, Bool.and_self, List.length_cons, List.length_nil]))
def topS (i : Nat) : Stmt := PySem.Challenge.pw_pointorstrip_k53_words_of_formats.main.body.getD i (.Pass ⟨0, 0, 0, 0⟩)
abbrev s_is_number : Stmt := topS 4
theorem sc_is_number : FnScope ["value"] ["value"] (defScope s_is_number) := ⟨rfl, rfl, rfl, by decide +kernel, rfl, by decide +kernel, by decide +kernel⟩
abbrev s_power : Stmt := topS 5
theorem sc_power : FnScope ["base", "exponent", "found", "turn"] ["base", "exponent"] (defScope s_power) := ⟨rfl, rfl, rfl, by decide +kernel, rfl, by decide +kernel, by decide +kernel⟩
abbrev s_check_between : Stmt := topS 11
theorem sc_check_between : FnScope ["value", "low", "high"] ["value", "low", "high"] (defScope s_check_between) := ⟨rfl, rfl, rfl, by decide +kernel, rfl, by decide +kernel, by decide +kernel⟩
abbrev s_check_written : Stmt := topS 12
theorem sc_check_written : FnScope ["base", "figures"] ["base", "figures"] (defScope s_check_written) := ⟨rfl, rfl, rfl, by decide +kernel, rfl, by decide +kernel, by decide +kernel⟩
abbrev s_scales : Stmt := topS 13
theorem sc_scales : FnScope ["base", "e", "other", "f", "mine"] ["base", "e", "other", "f"] (defScope s_scales) := ⟨rfl, rfl, rfl, by decide +kernel, rfl, by decide +kernel, by decide +kernel⟩
abbrev s_power_at : Stmt := topS 14
theorem sc_power_at : FnScope ["above", "below", "base", "figures", "f", "least"] ["above", "below", "base", "figures"] (defScope s_power_at) := ⟨rfl, rfl, rfl, by decide +kernel, rfl, by decide +kernel, by decide +kernel⟩
abbrev s_written : Stmt := topS 15
theorem sc_written : FnScope ["base", "m", "e", "other", "figures", "above", "below", "f", "mine", "theirs", "d"] ["base", "m", "e", "other", "figures"] (defScope s_written) := ⟨rfl, rfl, rfl, by decide +kernel, rfl, by decide +kernel, by decide +kernel⟩
abbrev s__law_number : Stmt := topS 17
theorem sc__law_number : FnScope ["script", "index", "cell", "turn", "rest", "step", "blend"] ["script", "index"] (defScope s__law_number) := ⟨rfl, rfl, rfl, by decide +kernel, rfl, by decide +kernel, by decide +kernel⟩
abbrev s__law_take : Stmt := topS 18
theorem sc__law_take : FnScope ["draw", "many"] ["draw", "many"] (defScope s__law_take) := ⟨rfl, rfl, rfl, by decide +kernel, rfl, by decide +kernel, by decide +kernel⟩
abbrev s__law_pick : Stmt := topS 19
theorem sc__law_pick : FnScope ["draw", "items"] ["draw", "items"] (defScope s__law_pick) := ⟨rfl, rfl, rfl, by decide +kernel, rfl, by decide +kernel, by decide +kernel⟩
abbrev s__law_long : Stmt := topS 20
theorem sc__law_long : FnScope ["draw", "figures", "found", "turn"] ["draw", "figures"] (defScope s__law_long) := ⟨rfl, rfl, rfl, by decide +kernel, rfl, by decide +kernel, by decide +kernel⟩
abbrev s__law_pair : Stmt := topS 21
theorem sc__law_pair : FnScope ["base", "exponent", "found", "turn"] ["base", "exponent"] (defScope s__law_pair) := ⟨rfl, rfl, rfl, by decide +kernel, rfl, by decide +kernel, by decide +kernel⟩
abbrev s_law : Stmt := topS 22
theorem sc_law : FnScope ["script", "draw", "base", "other", "figures", "least", "e", "m", "late", "d", "f", "a", "b", "p", "q", "one", "first", "two", "last"] ["script"] (defScope s_law) := ⟨rfl, rfl, rfl, by decide +kernel, rfl, by decide +kernel, by decide +kernel⟩
structure Ad where
  f_is_number : Addr
  d_is_number : FuncData
  f_power : Addr
  d_power : FuncData
  f_check_between : Addr
  d_check_between : FuncData
  f_check_written : Addr
  d_check_written : FuncData
  f_scales : Addr
  d_scales : FuncData
  f_power_at : Addr
  d_power_at : FuncData
  f_written : Addr
  d_written : FuncData
  f__law_number : Addr
  d__law_number : FuncData
  f__law_take : Addr
  d__law_take : FuncData
  f__law_pick : Addr
  d__law_pick : FuncData
  f__law_long : Addr
  d__law_long : FuncData
  f__law_pair : Addr
  d__law_pair : FuncData
  f_law : Addr
  d_law : FuncData
structure Tx (K : PySem.W.Frag) (mg : Str → Option Value) (ad : Ad) : Prop where
  n_abs : mg "abs" = none
  n_bool : mg "bool" = none
  n_int : mg "int" = none
  n_isinstance : mg "isinstance" = none
  n_len : mg "len" = none
  n_max : mg "max" = none
  n_range : mg "range" = none
  g_MOST_BASE : ∃ t, mg "MOST_BASE" = some (.int 100 t)
  g_MOST_FIGURES : ∃ t, mg "MOST_FIGURES" = some (.int 60 t)
  g_MOST_EXPONENT : ∃ t, mg "MOST_EXPONENT" = some (.int 200 t)
  g_GREAT : ∃ t, mg "GREAT" = some (.int 1000000000000000000000000000000000000000000000000000000000000000000000000000000000000000000000000000000000000000000000000 t)
  F_is_number : Fun K "is_number" "is_number" s_is_number ad.f_is_number ad.d_is_number
  b_is_number : Binds K ad.d_is_number ["value"] []
  k_is_number : PySem.W.keepIn K (.ref ad.f_is_number) = true
  g_is_number : mg "is_number" = some (.ref ad.f_is_number)
  F_power : Fun K "power" "power" s_power ad.f_power ad.d_power
  b_power : Binds K ad.d_power ["base", "exponent"] []
  k_power : PySem.W.keepIn K (.ref ad.f_power) = true
  g_power : mg "power" = some (.ref ad.f_power)
  F_check_between : Fun K "check_between" "check_between" s_check_between ad.f_check_between ad.d_check_between
  b_check_between : Binds K ad.d_check_between ["value", "low", "high"] []
  k_check_between : PySem.W.keepIn K (.ref ad.f_check_between) = true
  g_check_between : mg "check_between" = some (.ref ad.f_check_between)
  F_check_written : Fun K "check_written" "check_written" s_check_written ad.f_check_written ad.d_check_written
  b_check_written : Binds K ad.d_check_written ["base", "figures"] []
  k_check_written : PySem.W.keepIn K (.ref ad.f_check_written) = true
  g_check_written : mg "check_written" = some (.ref ad.f_check_written)
  F_scales : Fun K "scales" "scales" s_scales ad.f_scales ad.d_scales
  b_scales : Binds K ad.d_scales ["base", "e", "other", "f"] []
  k_scales : PySem.W.keepIn K (.ref ad.f_scales) = true
  g_scales : mg "scales" = some (.ref ad.f_scales)
  F_power_at : Fun K "power_at" "power_at" s_power_at ad.f_power_at ad.d_power_at
  b_power_at : Binds K ad.d_power_at ["above", "below", "base", "figures"] []
  k_power_at : PySem.W.keepIn K (.ref ad.f_power_at) = true
  g_power_at : mg "power_at" = some (.ref ad.f_power_at)
  F_written : Fun K "written" "written" s_written ad.f_written ad.d_written
  b_written : Binds K ad.d_written ["base", "m", "e", "other", "figures"] []
  k_written : PySem.W.keepIn K (.ref ad.f_written) = true
  g_written : mg "written" = some (.ref ad.f_written)
  F__law_number : Fun K "_law_number" "_law_number" s__law_number ad.f__law_number ad.d__law_number
  b__law_number : Binds K ad.d__law_number ["script", "index"] []
  k__law_number : PySem.W.keepIn K (.ref ad.f__law_number) = true
  g__law_number : mg "_law_number" = some (.ref ad.f__law_number)
  F__law_take : Fun K "_law_take" "_law_take" s__law_take ad.f__law_take ad.d__law_take
  b__law_take : Binds K ad.d__law_take ["draw", "many"] []
  k__law_take : PySem.W.keepIn K (.ref ad.f__law_take) = true
  g__law_take : mg "_law_take" = some (.ref ad.f__law_take)
  F__law_pick : Fun K "_law_pick" "_law_pick" s__law_pick ad.f__law_pick ad.d__law_pick
  b__law_pick : Binds K ad.d__law_pick ["draw", "items"] []
  k__law_pick : PySem.W.keepIn K (.ref ad.f__law_pick) = true
  g__law_pick : mg "_law_pick" = some (.ref ad.f__law_pick)
  F__law_long : Fun K "_law_long" "_law_long" s__law_long ad.f__law_long ad.d__law_long
  b__law_long : Binds K ad.d__law_long ["draw", "figures"] []
  k__law_long : PySem.W.keepIn K (.ref ad.f__law_long) = true
  g__law_long : mg "_law_long" = some (.ref ad.f__law_long)
  F__law_pair : Fun K "_law_pair" "_law_pair" s__law_pair ad.f__law_pair ad.d__law_pair
  b__law_pair : Binds K ad.d__law_pair ["base", "exponent"] []
  k__law_pair : PySem.W.keepIn K (.ref ad.f__law_pair) = true
  g__law_pair : mg "_law_pair" = some (.ref ad.f__law_pair)
  F_law : Fun K "law" "law" s_law ad.f_law ad.d_law
  b_law : Binds K ad.d_law ["script"] []
  k_law : PySem.W.keepIn K (.ref ad.f_law) = true
  g_law : mg "law" = some (.ref ad.f_law)
variable {P : Program} {w : World} {K : PySem.W.Frag} {mg : Str → Option Value} {base : Heap} {ad : Ad}
theorem ok_is_number (T : Tx K mg ad) : FnOk P w K mg base (L2.CX P w) 1 ad.f_is_number ad.d_is_number ["value"] (spA K 1 (S_num)) := by
  refine fnA (k := 0) T.F_is_number sc_is_number fun cdv A outer s H F0 E EX hr tk => ⟨_, (qs_one (qs_ret (q_and (q_callB qc_isiB (by rfl) T.n_isinstance bt_isinstance (qa_cons (q_var (pv 0)) (qa_cons (q_raw (pe_bltn (v := .ty "int") (by rfl) T.n_int bt_int rfl)) qa_nil))) (q_one (q_not (q_callB qc_isiB (by rfl) T.n_isinstance bt_isinstance (qa_cons (q_var (pv 0)) (qa_cons (q_raw (pe_bltn (v := .ty "bool") (by rfl) T.n_bool bt_bool rfl)) qa_nil)))))))), fun ds Q hn h => ?_⟩
  unfold S_num at h
  split at h
  rotate_left
  · exact h.elim
  obtain ⟨i, rfl, q⟩ := h
  show sRet _ _ [.val (.int i)]
  walk_at "q"
  refine ⟨_, _, rfl, (by decide +kernel : kitB "int" "int" = some true), ?_⟩
  walk_at "q"
  rw [if_pos trivial]
  exact ⟨_, _, rfl, (by decide +kernel : kitB "int" "bool" = some false), q⟩
theorem ok_power (T : Tx K mg ad) : FnOk P w K mg base (L2.CX P w) 1 ad.f_power ad.d_power ["base", "exponent"] (spA K 2 (S_power)) := by
  refine fnA (k := 0) T.F_power sc_power fun cdv A outer s H F0 E EX hr tk => ⟨_, (qs_cons (qs_set (i := 2) sc_power.nd rfl (.inl rfl) (.inl rfl) q_int)
      (qs_cons (qs_for PassesOwn.leaving rfl (qi_r1 (by rfl) T.n_range (qa_cons (q_var (pv 1)) qa_nil)) (qg_n (pg_name (i := 3) sc_power.nd rfl (.inl rfl)) (.inl rfl)) (qs_one (qs_set (i := 2) sc_power.nd rfl (.inl rfl) (.inl rfl) (q_op qo_mul (q_var (pv 2)) (q_var (pv 0))))))
      (qs_one (qs_ret (q_var (pv 2)))))), fun ds Q hn h => ?_⟩
  unfold S_power at h
  split at h
  rotate_left
  · exact h.elim
  rename_i b e
  obtain ⟨⟨hb, hb2, he0, he⟩, q⟩ := h
  show sSeq _ _ _ [.val (.int b), .val (.int e), .un, .un]
  walk_at "q"
  refine ⟨⟨by omega, by omega⟩, ?_⟩
  refine forR_rng (fun i env => ∃ s, env = [.val (.int b), .val (.int e), .val (.int (b ^ i)), s]) ⟨.un, by rw [Int.pow_zero]⟩ ?_ ?_
  · rintro k env N hk ⟨s, rfl⟩ hN
    walk_at "q"
    exact ⟨.r (by omega) (by omega), hN _ ⟨_, by rw [Int.pow_succ]⟩⟩
  · rintro env ⟨s, rfl⟩
    walk_at "q"
    exact q _ rfl
theorem ok_check_between (T : Tx K mg ad) : FnOk P w K mg base (L2.CX P w) 3 ad.f_check_between ad.d_check_between ["value", "low", "high"] (spA K 3 (S_checkB)) := by
  have G_is_number := ok_is_number (P := P) (w := w) (base := base) T
  refine fnA (k := 2) T.F_check_between sc_check_between fun cdv A outer s H F0 E EX hr tk => ⟨_, (qs_one (qs_if (qt_w (qw_or (qt_not (qt_tru (q_call G_is_number (hr.mono (by decide)) (by rfl) T.g_is_number T.k_is_number T.b_is_number tkE0 (qa_cons (q_var (pv 0)) qa_nil)))) (qw_or1 (qt_not (qt_chain qo_le qo_le (q_var (pv 1)) (q_var (pv 0)) (q_var (pv 2))))))) (qs_one qs_nev) qs_nil)), fun ds Q hn h => ?_⟩
  unfold S_checkB at h
  split at h
  rotate_left
  · exact h.elim
  rename_i v lo hi
  obtain ⟨⟨h1, h2⟩, q⟩ := h
  show sIf _ _ _ _ [.val (.int v), .val (.int lo), .val (.int hi)]
  walk_at "q"
  refine ⟨trivial, v, rfl, ?_⟩
  rw [if_neg (by decide), if_pos (by rw [decide_eq_true_eq]; exact h1), if_neg (by rw [decide_eq_true h2]; decide)]
  exact q
theorem ok_check_written (T : Tx K mg ad) : FnOk P w K mg base (L2.CX P w) 4 ad.f_check_written ad.d_check_written ["base", "figures"] (spA K 2 (S_checkW)) := by
  have G_check_between := ok_check_between (P := P) (w := w) (base := base) T
  refine fnA (k := 3) T.F_check_written sc_check_written fun cdv A outer s H F0 E EX hr tk => ⟨_, (qs_cons (qs_expr (q_call G_check_between (hr.mono (by decide)) (by rfl) T.g_check_between T.k_check_between T.b_check_between tkE0 (qa_cons (q_var (pv 0)) (qa_cons q_int (qa_cons (q_gi (by rfl) T.g_MOST_BASE) qa_nil)))))
      (qs_one (qs_expr (q_call G_check_between (hr.mono (by decide)) (by rfl) T.g_check_between T.k_check_between T.b_check_between tkE0 (qa_cons (q_var (pv 1)) (qa_cons q_int (qa_cons (q_gi (by rfl) T.g_MOST_FIGURES) qa_nil))))))), fun ds Q hn h => ?_⟩
  unfold S_checkW at h
  split at h
  rotate_left
  · exact h.elim
  rename_i b f
  obtain ⟨⟨⟨h1, h2⟩, h3⟩, q⟩ := h
  show sSeq _ _ _ [.val (.int b), .val (.int f)]
  walk_at "q"
  exact ⟨trivial, ⟨h1, h2⟩, trivial, h3, q⟩
theorem ok_scales (T : Tx K mg ad) : FnOk P w K mg base (L2.CX P w) 2 ad.f_scales ad.d_scales ["base", "e", "other", "f"] (spA K 4 (S_scales)) := by
  have G_power := ok_power (P := P) (w := w) (base := base) T
  refine fnA (k := 1) T.F_scales sc_scales fun cdv A outer s H F0 E EX hr tk => ⟨_, (qs_cons (qs_set (i := 4) sc_scales.nd rfl (.inl rfl) (.inl rfl) (q_op qo_mul (q_call G_power (hr.mono (by decide)) (by rfl) T.g_power T.k_power T.b_power tkE0 (qa_cons (q_var (pv 0)) (qa_cons (q_callB (qc_max rfl) (by rfl) T.n_max bt_max (qa_cons (q_var (pv 1)) (qa_cons q_int qa_nil))) qa_nil))) (q_call G_power (hr.mono (by decide)) (by rfl) T.g_power T.k_power T.b_power tkE0 (qa_cons (q_var (pv 2)) (qa_cons (q_callB (qc_max rfl) (by rfl) T.n_max bt_max (qa_cons (q_op qo_sub q_int (q_var (pv 3))) (qa_cons q_int qa_nil))) qa_nil)))))
      (qs_one (qs_ret (q_tup (qa_cons (q_var (pv 4)) (qa_cons (q_op qo_mul (q_call G_power (hr.mono (by decide)) (by rfl) T.g_power T.k_power T.b_power tkE0 (qa_cons (q_var (pv 2)) (qa_cons (q_callB (qc_max rfl) (by rfl) T.n_max bt_max (qa_cons (q_var (pv 3)) (qa_cons q_int qa_nil))) qa_nil))) (q_call G_power (hr.mono (by decide)) (by rfl) T.g_power T.k_power T.b_power tkE0 (qa_cons (q_var (pv 0)) (qa_cons (q_callB (qc_max rfl) (by rfl) T.n_max bt_max (qa_cons (q_op qo_sub q_int (q_var (pv 1))) (qa_cons q_int qa_nil))) qa_nil)))) qa_nil)))))), fun ds Q hn h => ?_⟩
  unfold S_scales at h
  split at h
  rotate_left
  · exact h.elim
  rename_i b e o f
  obtain ⟨⟨hb, hb2, ho, ho2, he, he2, hf, hf2⟩, q⟩ := h
  have mx : ∀ x : Int, (if 0 > x then 0 else x).toNat = x.toNat := fun x => by split <;> omega
  have ml : ∀ x : Int, -3000 ≤ x → x ≤ 3000 → 0 ≤ (if 0 > x then 0 else x) ∧ (if 0 > x then 0 else x) ≤ 3000 := fun x h1 h2 => by split <;> omega
  have nn : ∀ x : Int, (0 - x) = -x := fun x => by omega
  have sp : ∀ b x : Int, 0 ≤ b → b ≤ 100 → -3000 ≤ x → x ≤ 3000 → Sm 21000 (b ^ x.toNat) := fun b x h1 h2 h3 h4 => sm_pow (m := 3000) h1 h2 (by omega) (by decide)
  show sSeq _ _ _ [.val (.int b), .val (.int e), .val (.int o), .val (.int f), .un]
  walk_at "q"
  refine ⟨trivial, ⟨hb, hb2, ml _ (by omega) (by omega)⟩, fun x1 h1 => ⟨trivial, ⟨ho, ho2, ml _ (by omega) (by omega)⟩, fun x2 h2 => ?_⟩⟩
  rw [mx] at h1 h2
  rw [nn] at h2
  subst h1 h2
  refine ⟨MOk.of (sp _ _ hb hb2 (by omega) (by omega)) (sp _ _ ho ho2 (by omega) (by omega)) (by decide), trivial, ⟨ho, ho2, ml _ hf hf2⟩, fun x3 h3 => ⟨trivial, ⟨hb, hb2, ml _ (by omega) (by omega)⟩, fun x4 h4 => ?_⟩⟩
  rw [mx] at h3 h4
  rw [nn] at h4
  subst h3 h4
  exact ⟨MOk.of (sp _ _ ho ho2 hf hf2) (sp _ _ hb hb2 (by omega) (by omega)) (by decide), by decide, q _ _ rfl rfl⟩
theorem ok_power_at (T : Tx K mg ad) : FnOk P w K mg base (L2.CX P w) 2 ad.f_power_at ad.d_power_at ["above", "below", "base", "figures"] (spA K 4 (S_powat)) := by
  have G_power := ok_power (P := P) (w := w) (base := base) T
  refine fnA (k := 1) T.F_power_at sc_power_at fun cdv A outer s H F0 E EX hr tk => ⟨_, (qs_cons (qs_par (i := 4) (j := 5) rfl sc_power_at.nd rfl rfl (by decide) (.inl rfl) (.inl rfl) rfl rfl (qa_cons q_int (qa_cons (q_call G_power (hr.mono (by decide)) (by rfl) T.g_power T.k_power T.b_power tkE0 (qa_cons (q_var (pv 2)) (qa_cons (q_op qo_sub (q_var (pv 3)) q_int) qa_nil))) qa_nil)) (by rfl))
      (qs_cons (qs_whl PassesOwn.leaving (qt_cmp qo_ge (q_var (pv 0)) (q_op qo_mul (q_op qo_mul (q_var (pv 5)) (q_var (pv 2))) (q_var (pv 1)))) (qs_one (qs_par (i := 1) (j := 4) rfl sc_power_at.nd rfl rfl (by decide) (.inl rfl) (.inl rfl) rfl rfl (qa_cons (q_op qo_mul (q_var (pv 1)) (q_var (pv 2))) (qa_cons (q_op qo_add (q_var (pv 4)) q_int) qa_nil)) (by rfl))))
      (qs_cons (qs_whl PassesOwn.leaving (qt_cmp qo_lt (q_var (pv 0)) (q_op qo_mul (q_var (pv 5)) (q_var (pv 1)))) (qs_one (qs_par (i := 0) (j := 4) rfl sc_power_at.nd rfl rfl (by decide) (.inl rfl) (.inl rfl) rfl rfl (qa_cons (q_op qo_mul (q_var (pv 0)) (q_var (pv 2))) (qa_cons (q_op qo_sub (q_var (pv 4)) q_int) qa_nil)) (by rfl))))
      (qs_one (qs_ret (q_var (pv 4))))))), fun ds Q hn h => ?_⟩
  unfold S_powat at h
  split at h
  rotate_left
  · exact h.elim
  rename_i above below o figs
  obtain ⟨⟨ho, ho2, hf, hf2, ha, hb, sa, sb⟩, q⟩ := h
  show sSeq _ _ _ [.val (.int above), .val (.int below), .val (.int o), .val (.int figs), .un, .un]
  walk_at "q"
  refine ⟨trivial, ⟨by omega, ho2, by omega, by omega⟩, fun L hL0 => ?_⟩
  rw [← hL0] at q
  have sL : Sm 420 L := by rw [hL0]; exact sm_pow (m := 60) (by omega) ho2 (by omega) (by decide)
  have hL : 0 < L := by rw [hL0]; exact Int.pow_pos (by omega)
  clear hL0
  have so : Sm 7 o := by unfold Sm; omega
  refine ⟨fun k env => ∃ p : Nat, env = [.val (.int above), .val (.int (below * o ^ p)), .val (.int o), .val (.int figs), .val (.int p), .val (.int L)] ∧ k = (above - below * o ^ p).toNat ∧ (p = 0 ∨ L * (below * o ^ p) ≤ above), ⟨_, 0, by rw [Int.pow_zero, Int.mul_one]; rfl, rfl, .inl rfl⟩, ?_⟩
  rintro k env ⟨p, rfl, rfl, hp⟩
  have hbp : 0 < below * o ^ p := Int.mul_pos hb (Int.pow_pos (by omega))
  have sbp : Sm 3000 (below * o ^ p) := by
    rcases hp with rfl | hp
    · rw [Int.pow_zero, Int.mul_one]; exact sb
    · have := Int.mul_le_mul_of_nonneg_right (show 1 ≤ L by omega) (Int.le_of_lt hbp)
      exact bd_le (Int.le_of_lt hbp) (by omega) sa
  have M1 : MOk L o := .r (by omega) (by omega)
  have M2 : MOk (L * o) (below * o ^ p) := MOk.of (bd_mul sL so) sbp (by decide)
  walk_at "q"
  refine ⟨M1, M2, ?_⟩
  split
  · rename_i hg
    rw [decide_eq_true_eq] at hg
    have e1 : below * o ^ p * o = below * o ^ (p + 1) := by rw [Int.pow_succ]; ac_rfl
    have e2 : L * o * (below * o ^ p) = L * (below * o ^ (p + 1)) := by rw [Int.pow_succ]; ac_rfl
    have g1 := Int.mul_le_mul_of_nonneg_left (show 2 ≤ o by omega) (Int.le_of_lt hbp)
    have hbp' : 0 < below * o ^ (p + 1) := Int.mul_pos hb (Int.pow_pos (by omega))
    have g2 := Int.mul_le_mul_of_nonneg_right (show 1 ≤ L by omega) (Int.le_of_lt hbp')
    rw [e1]
    refine ⟨.r (by omega) (by omega), _, ?_, p + 1, by rfl, rfl, .inr (by omega)⟩
    omega
  · rename_i hg
    rw [decide_eq_true_eq] at hg
    clear M2
    refine ⟨fun k env => ∃ n : Nat, env = [.val (.int (above * o ^ n)), .val (.int (below * o ^ p)), .val (.int o), .val (.int figs), .val (.int ((p : Int) - n)), .val (.int L)] ∧ k = (L * (below * o ^ p) - above * o ^ n).toNat ∧ (n = 0 ∨ p = 0) ∧ above * o ^ n < L * o * (below * o ^ p), ⟨_, 0, by rw [Int.pow_zero, Int.mul_one]; all_goals (congr <;> omega), rfl, .inl rfl, by rw [Int.pow_zero, Int.mul_one]; omega⟩, ?_⟩
    rintro k env ⟨n, rfl, rfl, hn', hlt⟩
    have M3 : MOk L (below * o ^ p) := MOk.of sL sbp (by decide)
    have han : 0 < above * o ^ n := Int.mul_pos ha (Int.pow_pos (by omega))
    walk_at "q"
    refine ⟨M3, ?_⟩
    split
    · rename_i hg2
      rw [decide_eq_true_eq] at hg2
      have p0 : p = 0 := by
        rcases hn' with rfl | z
        · rw [Int.pow_zero, Int.mul_one] at hg2
          omega
        · exact z
      have e1 : above * o ^ n * o = above * o ^ (n + 1) := by rw [Int.pow_succ]; ac_rfl
      have g1 := Int.mul_le_mul_of_nonneg_left (show 2 ≤ o by omega) (Int.le_of_lt han)
      have g3 := Int.mul_lt_mul_of_pos_right hg2 (show 0 < o by omega)
      have e3 : L * (below * o ^ p) * o = L * o * (below * o ^ p) := by ac_rfl
      rw [e1]
      refine ⟨.r (by omega) (by omega), _, ?_, n + 1, by rw [show (p : Int) - n - 1 = (p : Int) - ((n + 1 : Nat) : Int) by omega], rfl, .inr p0, by omega⟩
      omega
    · rename_i hg2
      rw [decide_eq_true_eq] at hg2
      have pw1 : W53.pw o ((p : Int) - n) = o ^ p := by
        unfold W53.pw
        rcases hn' with rfl | rfl
        · congr 1 <;> omega
        · rw [show ((((0 : Nat) : Int)) - (n : Int)).toNat = 0 by omega]
      have pw2 : W53.pw o (-((p : Int) - n)) = o ^ n := by
        unfold W53.pw
        rcases hn' with rfl | rfl
        · rw [show (-((p : Int) - ((0 : Nat) : Int))).toNat = 0 by omega]
        · congr 1 <;> omega
      refine q _ ?_ ?_
      · rw [pw1, pw2, Int.mul_comm (o ^ p)]; omega
      · rw [pw1, pw2, Int.mul_comm (o ^ p)]; omega
theorem ok_written (T : Tx K mg ad) : FnOk P w K mg base (L2.CX P w) 5 ad.f_written ad.d_written ["base", "m", "e", "other", "figures"] (spA K 5 (S_written)) := by
  have G_check_between := ok_check_between (P := P) (w := w) (base := base) T
  have G_check_written := ok_check_written (P := P) (w := w) (base := base) T
  have G_power := ok_power (P := P) (w := w) (base := base) T
  have G_power_at := ok_power_at (P := P) (w := w) (base := base) T
  have G_scales := ok_scales (P := P) (w := w) (base := base) T
  refine fnA (k := 4) T.F_written sc_written fun cdv A outer s H F0 E EX hr tk => ⟨_, (qs_cons (qs_expr (q_call G_check_between (hr.mono (by decide)) (by rfl) T.g_check_between T.k_check_between T.b_check_between tkE0 (qa_cons (q_var (pv 0)) (qa_cons q_int (qa_cons (q_gi (by rfl) T.g_MOST_BASE) qa_nil)))))
      (qs_cons (qs_expr (q_call G_check_between (hr.mono (by decide)) (by rfl) T.g_check_between T.k_check_between T.b_check_between tkE0 (qa_cons (q_var (pv 1)) (qa_cons q_int (qa_cons (q_gi (by rfl) T.g_GREAT) qa_nil)))))
      (qs_cons (qs_expr (q_call G_check_between (hr.mono (by decide)) (by rfl) T.g_check_between T.k_check_between T.b_check_between tkE0 (qa_cons (q_var (pv 2)) (qa_cons (q_op qo_sub q_int (q_gi (by rfl) T.g_MOST_EXPONENT)) (qa_cons (q_gi (by rfl) T.g_MOST_EXPONENT) qa_nil)))))
      (qs_cons (qs_expr (q_call G_check_written (hr.mono (by decide)) (by rfl) T.g_check_written T.k_check_written T.b_check_written tkE0 (qa_cons (q_var (pv 3)) (qa_cons (q_var (pv 4)) qa_nil))))
      (qs_cons (qs_asg (q_call G_scales (hr.mono (by decide)) (by rfl) T.g_scales T.k_scales T.b_scales tkE0 (qa_cons (q_var (pv 0)) (qa_cons (q_var (pv 2)) (qa_cons (q_var (pv 3)) (qa_cons q_int qa_nil))))) (qg_t (n := 2) rfl (qgs_cons (qg_n (pg_name (i := 5) sc_written.nd rfl (.inl rfl)) (.inl rfl)) (qgs_cons (qg_n (pg_name (i := 6) sc_written.nd rfl (.inl rfl)) (.inl rfl)) qgs_nil))))
      (qs_cons (qs_set (i := 7) sc_written.nd rfl (.inl rfl) (.inl rfl) (q_call G_power_at (hr.mono (by decide)) (by rfl) T.g_power_at T.k_power_at T.b_power_at tkE0 (qa_cons (q_op qo_mul (q_var (pv 1)) (q_var (pv 5))) (qa_cons (q_var (pv 6)) (qa_cons (q_var (pv 3)) (qa_cons (q_var (pv 4)) qa_nil))))))
      (qs_cons (qs_asg (q_call G_scales (hr.mono (by decide)) (by rfl) T.g_scales T.k_scales T.b_scales tkE0 (qa_cons (q_var (pv 0)) (qa_cons (q_var (pv 2)) (qa_cons (q_var (pv 3)) (qa_cons (q_var (pv 7)) qa_nil))))) (qg_t (n := 2) rfl (qgs_cons (qg_n (pg_name (i := 8) sc_written.nd rfl (.inl rfl)) (.inl rfl)) (qgs_cons (qg_n (pg_name (i := 9) sc_written.nd rfl (.inl rfl)) (.inl rfl)) qgs_nil))))
      (qs_cons (qs_set (i := 10) sc_written.nd rfl (.inl rfl) (.inl rfl) (q_op qo_div (q_op qo_add (q_op qo_mul (q_op qo_mul q_int (q_var (pv 1))) (q_var (pv 8))) (q_var (pv 9))) (q_op qo_mul q_int (q_var (pv 9)))))
      (qs_one (qs_ret (q_if (qt_cmp (qo_eq hr.units) (q_var (pv 10)) (q_call G_power (hr.mono (by decide)) (by rfl) T.g_power T.k_power T.b_power tkE0 (qa_cons (q_var (pv 3)) (qa_cons (q_var (pv 4)) qa_nil)))) (q_tup (qa_cons (q_op qo_div (q_var (pv 10)) (q_var (pv 3))) (qa_cons (q_op qo_add (q_var (pv 7)) q_int) qa_nil))) (q_tup (qa_cons (q_var (pv 10)) (qa_cons (q_var (pv 7)) qa_nil)))))))))))))), fun ds Q hn h => ?_⟩
  unfold S_written at h
  split at h
  rotate_left
  · exact h.elim
  rename_i b m e o figs
  obtain ⟨⟨⟨hb, hb2⟩, ⟨hm, hm2⟩, ⟨he, he2⟩, ⟨ho, ho2⟩, hf, hf2⟩, q⟩ := h
  show sSeq _ _ _ [.val (.int b), .val (.int m), .val (.int e), .val (.int o), .val (.int figs), .un, .un, .un, .un, .un, .un]
  walk_at "q"
  have sm : Sm 400 m := by
    refine bd_le (j := 1000000000000000000000000000000000000000000000000000000000000000000000000000000000000000000000000000000000000000000000000) (Int.le_trans (by decide) hm) hm2 ?_
    decide
  refine ⟨trivial, ⟨hb, hb2⟩, trivial, ⟨hm, hm2⟩, ?_⟩
  clear hm2
  refine ⟨trivial, ⟨by omega, by omega⟩, trivial, ⟨⟨ho, ho2⟩, hf, hf2⟩, trivial, ⟨by omega, hb2, by omega, ho2, by omega, by omega, by decide, by decide⟩, fun x1 y1 hx1 hy1 => ?_⟩
  walk_at "q"
  have pb1 := W53.pw_pos (o := b) (by omega) e
  have pb2 := W53.pw_pos (o := b) (by omega) (-e)
  have sA : Sm 1400 (W53.pw b e) := sm_pow (m := 200) (by omega) hb2 (by omega) (by decide)
  have sB : Sm 1400 (W53.pw b (-e)) := sm_pow (m := 200) (by omega) hb2 (by omega) (by decide)
  have sx : Sm 1800 (m * W53.pw b e) := bd_mul sm sA
  have hx : 0 < m * W53.pw b e := Int.mul_pos (by omega) pb1
  have sL : Sm 420 (o ^ (figs - 1).toNat) := sm_pow (m := 60) (by omega) ho2 (by omega) (by decide)
  have hL : 0 < o ^ (figs - 1).toNat := Int.pow_pos (by omega)
  have so : Sm 7 o := by unfold Sm; omega
  have eL : o ^ figs.toNat = o ^ (figs - 1).toNat * o := by rw [← Int.pow_succ]; congr 1; omega
  rw [show W53.pw o (-0) = 1 from Int.pow_zero o, Int.mul_one] at hx1
  rw [show W53.pw o 0 = 1 from Int.pow_zero o, Int.one_mul] at hy1
  subst hx1 hy1
  refine ⟨trivial, MOk.of sm sA (by decide), trivial, ⟨ho, ho2, hf, hf2, hx, pb2, bd_mono sx (by decide), bd_mono sB (by decide)⟩, fun f h1 h2 => ?_⟩
  obtain ⟨hf1, hf3, hf4, hf5⟩ := W53.f_bits (n := 1800) (m := 1827) ho hL pb2 hx h1 h2 sx (bd_mul (bd_mul sL so) sB)
  have sP : Sm 1800 (W53.pw o f) := by
    rcases hf5 with z | z
    · rw [z]; unfold Sm; exact Nat.one_lt_two_pow (by decide)
    · have := Int.mul_le_mul_of_nonneg_left (show 1 ≤ W53.pw b (-e) by omega) (show 0 ≤ W53.pw o f by omega)
      exact bd_le (by omega) (by omega) sx
  have sq : Sm 21000 (W53.pw o (-f)) := sm_pow (m := 3000) (by omega) ho2 (by omega) (by decide)
  have sth : Sm 3200 (W53.pw o f * W53.pw b (-e)) := bd_mul sP sB
  have pth : 0 < W53.pw o f * W53.pw b (-e) := Int.mul_pos (by omega) pb2
  refine ⟨trivial, ⟨by omega, hb2, by omega, ho2, by omega, by omega, by omega, by omega⟩, fun mine theirs hmi hth => ?_⟩
  walk_at "q"
  refine ⟨trivial, .l (by decide) (by decide), MOk.of (bd_mul (show Sm 2 2 by unfold Sm; decide) sm) (by rw [hmi]; exact bd_mul sA sq) (by decide), .l (by decide) (by decide), DOk.of (by omega) (by rw [hth]; exact bd_mul (show Sm 2 2 by unfold Sm; decide) sth) (by decide), trivial, ⟨by omega, ho2, by omega, by omega⟩, fun top htop => ?_⟩
  rw [eL] at htop
  have ex : 2 * m * mine = 2 * (m * W53.pw b e * W53.pw o (-f)) := by rw [hmi]; ac_rfl
  rw [ex, hth]
  generalize hd : (2 * (m * W53.pw b e * W53.pw o (-f)) + W53.pw o f * W53.pw b (-e)) / (2 * (W53.pw o f * W53.pw b (-e))) = d
  split
  · rename_i hg
    rw [decide_eq_true_eq] at hg
    refine ⟨DOk.small (by omega) (by omega), by decide, q _ _ (by omega) (by omega) ⟨f, d, h1, h2, hd.symm, .inl ⟨by omega, ?_, rfl⟩⟩⟩
    rw [hg, htop, Int.mul_ediv_cancel _ (by omega)]
  · rename_i hg
    rw [decide_eq_true_eq] at hg
    exact ⟨by decide, q _ _ (by omega) (by omega) ⟨f, d, h1, h2, hd.symm, .inr ⟨by omega, rfl, rfl⟩⟩⟩
theorem ok__law_number (T : Tx K mg ad) : FnOk P w K mg base (L2.CX P w) 1 ad.f__law_number ad.d__law_number ["script", "index"] (spA K 2 (S_number)) := by
  refine fnA (k := 0) T.F__law_number sc__law_number fun cdv A outer s H F0 E EX hr tk => ⟨_, (qs_cons (qs_asg (q_cut (q_if (qt_cmp (qo_ne hr.units) (q_var (pv 0)) (q_lst qa_nil)) (q_tup (qa_cons (q_ix (q_var (pv 0)) (q_op qo_mod (q_var (pv 1)) (q_callB qc_len (by rfl) T.n_len bt_len (qa_cons (q_var (pv 0)) qa_nil)))) (qa_cons (q_op qo_div (q_var (pv 1)) (q_callB qc_len (by rfl) T.n_len bt_len (qa_cons (q_var (pv 0)) qa_nil))) qa_nil))) (q_tup (qa_cons q_int (qa_cons q_int qa_nil))))) (qg_t (n := 2) rfl (qgs_cons (qg_n (pg_name (i := 2) sc__law_number.nd rfl (.inl rfl)) (.inl rfl)) (qgs_cons (qg_n (pg_name (i := 3) sc__law_number.nd rfl (.inl rfl)) (.inl rfl)) qgs_nil))))
      (qs_cons (qs_set (i := 4) sc__law_number.nd rfl (.inl rfl) (.inl rfl) (q_cut (q_if (qt_cmp qo_lt (q_var (pv 3)) q_int) (q_op qo_sub (q_var (pv 2)) (q_op qo_pow q_int q_int)) q_int)))
      (qs_cons (qs_for PassesOwn.leaving rfl (qi_r1 (by rfl) T.n_range (qa_cons (q_op qo_mod (q_callTy qc_int (by rfl) T.n_int bt_int (qa_cons (q_var (pv 3)) qa_nil)) q_int) qa_nil)) (qg_n (pg_name (i := 5) sc__law_number.nd rfl (.inl rfl)) (.inl rfl)) (qs_one (qs_set (i := 4) sc__law_number.nd rfl (.inl rfl) (.inl rfl) (q_op qo_div (q_var (pv 4)) q_int))))
      (qs_cons (qs_if (qt_cmp qo_gt (q_var (pv 4)) q_int) (qs_one (qs_ret (q_op qo_mod (q_callTy qc_int (by rfl) T.n_int bt_int (qa_cons (q_var (pv 4)) qa_nil)) q_int))) qs_nil)
      (qs_cons (qs_set (i := 6) sc__law_number.nd rfl (.inl rfl) (.inl rfl) (q_op qo_mod (q_op qo_add (q_op qo_mul (q_callTy qc_int (by rfl) T.n_int bt_int (qa_cons (q_op qo_add (q_var (pv 2)) (q_op qo_mul q_int (q_var (pv 1)))) qa_nil)) q_int) (q_op qo_mul q_int (q_callB qc_len (by rfl) T.n_len bt_len (qa_cons (q_var (pv 0)) qa_nil)))) q_int))
      (qs_cons (qs_set (i := 6) sc__law_number.nd rfl (.inl rfl) (.inl rfl) (q_op qo_mod (q_op qo_add (q_op qo_mul (q_var (pv 6)) (q_var (pv 6))) (q_op qo_mul q_int (q_var (pv 1)))) q_int))
      (qs_one (qs_ret (q_callTy qc_int (by rfl) T.n_int bt_int (qa_cons (q_op qo_mod (q_op qo_add (q_op qo_mul (q_var (pv 6)) q_int) (q_op qo_div (q_var (pv 6)) q_int)) q_int) qa_nil)))))))))), fun ds Q hn h => ?_⟩
  unfold S_number at h
  split at h
  rotate_left
  · exact h.elim
  rename_i ns i
  obtain ⟨hl, q⟩ := h
  show sSeq _ _ _ [.val (.scr ns), .val (.int i), .un, .un, .un, .un, .un]
  walk_at "q"
  refine ⟨fun d env' => env' = [.val (.scr ns), .val (.int i), .un, .un, .un, .un, .un] ∧ ∃ c t, d = .tup [.int c, .int t], ?_, ?_⟩
  · walk_at "q"
    refine ⟨Nat.zero_le _, ?_⟩
    split
    · rename_i h0
      have hp : 0 < ns.length := by
        cases ns with
        | nil => simp at h0
        | cons _ _ => exact Nat.succ_pos _
      have hm := Int.emod_nonneg i (show (ns.length : Int) ≠ 0 by omega)
      have hm2 := Int.emod_lt_of_pos i (show 0 < (ns.length : Int) by omega)
      obtain ⟨n, hn, _⟩ := atI_get_nat hm hm2
      exact ⟨by omega, n, hn, DOk.small (by omega) (by omega), (by decide), trivial, _, _, rfl⟩
    · exact ⟨(by decide), trivial, _, _, rfl⟩
  rintro d env' ⟨rfl, c, t, rfl⟩
  walk_at "q"
  refine ⟨trivial, ?_⟩
  refine ⟨fun d env' => env' = [.val (.scr ns), .val (.int i), .val (.int c), .val (.int t), .un, .un, .un] ∧ ∃ r, d = .int r, ?_, ?_⟩
  · walk_at "q"
    split
    · exact ⟨by decide, trivial, _, rfl⟩
    · exact ⟨trivial, _, rfl⟩
  rintro d env' ⟨rfl, r, rfl⟩
  walk_at "q"
  have hm := Int.emod_nonneg t (show (60 : Int) ≠ 0 by decide)
  have hm2 := Int.emod_lt_of_pos t (show (0 : Int) < 60 by decide)
  refine ⟨by decide, ⟨by omega, by omega⟩, ?_⟩
  refine forR_rng (fun _ env => ∃ r s, env = [.val (.scr ns), .val (.int i), .val (.int c), .val (.int t), .val (.int r), s, .un]) ⟨r, .un, rfl⟩ ?_ ?_
  · rintro k env N hk ⟨r, s, rfl⟩ hN
    walk_at "q"
    exact ⟨DOk.small (by decide) (by decide), hN _ ⟨_, _, rfl⟩⟩
  · rintro env ⟨r, s, rfl⟩
    walk_at "q"
    split
    · exact ⟨by decide, q _⟩
    · have hb := Int.emod_nonneg ((c + 977 * i) * 48271 + 31 * (ns.length : Int)) (show (2147483647 : Int) ≠ 0 by decide)
      have hb2 := Int.emod_lt_of_pos ((c + 977 * i) * 48271 + 31 * (ns.length : Int)) (show (0 : Int) < 2147483647 by decide)
      exact ⟨.l (by decide) (by decide), .r (by decide) (by decide), .l (by decide) (by decide), by decide, .l (by omega) (by omega), .l (by decide) (by decide), by decide, .r (by decide) (by decide), DOk.small (by decide) (by decide), by decide, q _⟩
theorem ok__law_take (T : Tx K mg ad) : FnOk P w K mg base (L2.CX P w) 2 ad.f__law_take ad.d__law_take ["draw", "many"] (spB K 1 (M_take)) := by
  have G__law_number := ok__law_number (P := P) (w := w) (base := base) T
  refine fnB (k := 1) T.F__law_take sc__law_take rfl fun cdv A outer s H B F0 a E EX hr tk => ⟨_, (qs_cons (qs_augI (pv 0) q_int qip_add q_int)
      (qs_one (qs_ret (q_op qo_mod (q_callTy qc_int (by rfl) T.n_int bt_int (qa_cons (q_call G__law_number (hr.mono (by decide)) (by rfl) T.g__law_number T.k__law_number T.b__law_number tkE0 (qa_cons (q_ixO (pv 0) q_int) (qa_cons (q_callTy qc_int (by rfl) T.n_int bt_int (qa_cons (q_ixO (pv 0) q_int) qa_nil)) qa_nil))) qa_nil)) (q_var (pv 1)))))), fun d0 ds Q hn h => ?_⟩
  unfold M_take at h
  split at h
  rotate_left
  · exact h.elim
  rename_i many
  show sSeq _ _ _ [.own d0, .val (.int many)]
  obtain ⟨⟨ns, k, hns, rfl⟩, hm, q⟩ := h
  walk_at "q"
  refine ⟨.int k, rfl, ?_⟩
  walk_at "q"
  refine ⟨1, rfl, .scr ns, rfl, .int (k + 1), rfl, ?_⟩
  walk_at "q"
  refine ⟨trivial, hns, fun r => ?_⟩
  walk_at "q"
  exact ⟨hm, q _ _ (Int.emod_nonneg _ (by omega)) (Int.emod_lt_of_pos _ hm) ⟨ns, k + 1, hns, rfl⟩⟩
theorem ok__law_pick (T : Tx K mg ad) : FnOk P w K mg base (L2.CX P w) 3 ad.f__law_pick ad.d__law_pick ["draw", "items"] (spB K 1 (M_pick)) := by
  have G__law_take := ok__law_take (P := P) (w := w) (base := base) T
  refine fnB (k := 2) T.F__law_pick sc__law_pick rfl fun cdv A outer s H B F0 a E EX hr tk => ⟨_, (qs_one (qs_ret (q_ix (q_var (pv 1)) (q_callM G__law_take (hr.mono (by decide)) (by rfl) T.g__law_take T.k__law_take T.b__law_take tkE0 (pv 0) (qa_cons (q_callB qc_len (by rfl) T.n_len bt_len (qa_cons (q_var (pv 1)) qa_nil)) qa_nil))))), fun d0 ds Q hn h => ?_⟩
  unfold M_pick at h
  split at h
  rotate_left
  · exact h.elim
  rename_i xs
  obtain ⟨hD, ⟨h1, h2⟩, q⟩ := h
  show sRet _ _ [.own d0, .val (.lst xs)]
  walk_at "q"
  refine ⟨trivial, hD, by omega, fun r d' h3 h4 hD' => ?_⟩
  obtain ⟨z, hz, hm⟩ := atI_get_nat h3 h4
  exact ⟨z, hz, q _ _ hm hD'⟩
theorem ok__law_long (T : Tx K mg ad) : FnOk P w K mg base (L2.CX P w) 3 ad.f__law_long ad.d__law_long ["draw", "figures"] (spB K 1 (M_long)) := by
  have G__law_take := ok__law_take (P := P) (w := w) (base := base) T
  refine fnB (k := 2) T.F__law_long sc__law_long rfl fun cdv A outer s H B F0 a E EX hr tk => ⟨_, (qs_cons (qs_set (i := 2) sc__law_long.nd rfl (.inl rfl) (.inr (by decide)) q_int)
      (qs_cons (qs_for PassesOwn.leaving rfl (qi_r1 (by rfl) T.n_range (qa_cons (q_callM G__law_take (hr.mono (by decide)) (by rfl) T.g__law_take T.k__law_take T.b__law_take tkE0 (pv 0) (qa_cons (q_op qo_add (q_var (pv 1)) q_int) qa_nil)) qa_nil)) (qg_n (pg_name (i := 3) sc__law_long.nd rfl (.inl rfl)) (.inr (by decide))) (qs_one (qs_set (i := 2) sc__law_long.nd rfl (.inl rfl) (.inr (by decide)) (q_op qo_add (q_op qo_mul q_int (q_var (pv 2))) (q_callM G__law_take (hr.mono (by decide)) (by rfl) T.g__law_take T.k__law_take T.b__law_take tkE0 (pv 0) (qa_cons q_int qa_nil))))))
      (qs_one (qs_ret (q_if (qt_cmp (qo_eq hr.units) (q_callM G__law_take (hr.mono (by decide)) (by rfl) T.g__law_take T.k__law_take T.b__law_take tkE0 (pv 0) (qa_cons q_int qa_nil)) q_int) (q_var (pv 2)) (q_op qo_sub q_int (q_var (pv 2)))))))), fun d0 ds Q hn h => ?_⟩
  unfold M_long at h
  split at h
  rotate_left
  · exact h.elim
  rename_i f
  obtain ⟨hD, ⟨h1, h2⟩, q⟩ := h
  show sSeq _ _ _ [.own d0, .val (.int f), .un, .un]
  walk_at "q"
  refine ⟨trivial, hD, by omega, fun n d' h3 h4 hD' => ?_⟩
  refine ⟨⟨by omega, by omega⟩, ?_⟩
  refine forR_rng (fun i env => ∃ d' r s, Drw d' ∧ r.natAbs < 10 ^ i ∧ 0 ≤ r ∧ env = [.own d', .val (.int f), .val (.int r), s]) ⟨d', 0, .un, hD', by decide, by decide, rfl⟩ ?_ ?_
  · rintro k env N hk ⟨d', r, s, hD', hr, hr0, rfl⟩ hN
    walk_at "q"
    refine ⟨.l (by decide) (by decide), trivial, hD', by decide, fun x d2 hx1 hx2 hD2 => hN _ ⟨d2, _, _, hD2, ?_, ?_, rfl⟩⟩
    · have e : (10 : Nat) ^ (k + 1) = 10 ^ k * 10 := rfl
      omega
    · omega
  · rintro env ⟨d', r, s, hD', hr, hr0, rfl⟩
    have hr' : r.natAbs < 10 ^ f.toNat := Nat.lt_of_lt_of_le hr (Nat.pow_le_pow_right (by decide) (by omega))
    walk_at "q"
    refine ⟨trivial, hD', by decide, fun x d2 hx1 hx2 hD2 => ?_⟩
    split
    · exact q _ _ hr' hD2
    · exact q _ _ (by omega) hD2
theorem ok__law_pair (T : Tx K mg ad) : FnOk P w K mg base (L2.CX P w) 1 ad.f__law_pair ad.d__law_pair ["base", "exponent"] (spA K 2 (S_pair)) := by
  refine fnA (k := 0) T.F__law_pair sc__law_pair fun cdv A outer s H F0 E EX hr tk => ⟨_, (qs_cons (qs_set (i := 2) sc__law_pair.nd rfl (.inl rfl) (.inl rfl) q_int)
      (qs_cons (qs_for PassesOwn.leaving rfl (qi_r1 (by rfl) T.n_range (qa_cons (q_callB qc_abs (by rfl) T.n_abs bt_abs (qa_cons (q_var (pv 1)) qa_nil)) qa_nil)) (qg_n (pg_name (i := 3) sc__law_pair.nd rfl (.inl rfl)) (.inl rfl)) (qs_one (qs_set (i := 2) sc__law_pair.nd rfl (.inl rfl) (.inl rfl) (q_op qo_mul (q_var (pv 2)) (q_var (pv 0))))))
      (qs_one (qs_ret (q_if (qt_cmp qo_ge (q_var (pv 1)) q_int) (q_tup (qa_cons (q_var (pv 2)) (qa_cons q_int qa_nil))) (q_tup (qa_cons q_int (qa_cons (q_var (pv 2)) qa_nil)))))))), fun ds Q hn h => ?_⟩
  unfold S_pair at h
  split at h
  rotate_left
  · exact h.elim
  rename_i b e
  obtain ⟨⟨hb, hb2, he, he2⟩, q⟩ := h
  show sSeq _ _ _ [.val (.int b), .val (.int e), .un, .un]
  walk_at "q"
  refine ⟨by split <;> omega, ?_⟩
  refine forR_rng (fun i env => ∃ s, env = [.val (.int b), .val (.int e), .val (.int (b ^ i)), s]) ⟨.un, by rw [Int.pow_zero]⟩ ?_ ?_
  · rintro k env N hk ⟨s, rfl⟩ hN
    walk_at "q"
    exact ⟨.r (by omega) (by omega), hN _ ⟨_, by rw [Int.pow_succ]⟩⟩
  · rintro env ⟨s, rfl⟩
    walk_at "q"
    split
    · rename_i hg
      rw [decide_eq_true_eq] at hg
      rw [if_neg (by omega)]
      exact ⟨by decide, q _ _ rfl (by unfold W53.pw; rw [show (-e).toNat = 0 by omega, Int.pow_zero])⟩
    · rename_i hg
      rw [decide_eq_true_eq] at hg
      rw [if_pos (by omega)]
      exact ⟨by decide, q _ _ (by unfold W53.pw; rw [show e.toNat = 0 by omega, Int.pow_zero]) rfl⟩
local macro_rules | `(tactic| walk_at "q") => `(tactic| (try simp -implicitDefEqProofs only [↓QL.e_own0, ↓QL.e_c, ↓QL.e_var, ↓QL.e_varO, ↓QL.e_valQ, ↓QL.e_ownQ, ↓QL.e_anyV, ↓QL.e_anyO, ↓QL.e_get0, ↓QL.e_getS, ↓QL.e_put0, ↓QL.e_putS, ↓QL.e_noN, ↓QL.e_noC, ↓QL.e_noU, ↓QL.e_noV, ↓QL.e_wipN, ↓QL.e_wipC, ↓QL.e_bakN, ↓QL.e_bakC, ↓QL.e_ownN, ↓QL.e_op, ↓QL.e_un, ↓QL.e_tst, ↓QL.e_bq, ↓QL.e_tru, ↓QL.e_notT, ↓QL.e_andT, ↓QL.e_orT, ↓QL.e_and, ↓QL.e_or, ↓QL.e_not, ↓QL.e_tqB, ↓QL.e_tqI, ↓QL.e_tqN, ↓QL.e_tqL, ↓QL.e_tqT, ↓QL.e_if, ↓QL.e_chain, ↓QL.e_nil, ↓QL.e_cons, ↓QL.e_tup, ↓QL.e_lst, ↓QL.e_ixO, ↓QL.e_call, ↓QL.e_callM, ↓QL.e_cb, ↓QL.e_snil, ↓QL.e_seq, ↓QL.e_asg, ↓QL.e_own, ↓QL.e_drop, ↓QL.e_ret, ↓QL.e_retN, ↓QL.e_sif, ↓QL.e_brk, ↓QL.e_cnt, ↓QL.e_nev, ↓QL.e_gn, ↓QL.e_gnil, ↓QL.e_gcons, ↓QL.e_gt, ↓QL.e_par, ↓QL.e_par3, ↓QL.e_aug, ↓QL.e_lstQ, ↓QL.e_app, ↓QL.e_intQ, ↓QL.e_augI, ↓QL.e_for, ↓QL.e_lc, ↓QL.e_riL, ↓QL.e_riT, ↓QL.e_riR1, ↓QL.e_riR2, ↓QL.e_riE, ↓QL.e_riZ, ↓QL.e_yes, ↓QL.o_add, ↓QL.o_addL, ↓QL.o_addT, ↓QL.o_addLL, ↓QL.o_sub, ↓QL.o_mul, ↓QL.o_div, ↓QL.o_mod, ↓QL.o_pow, ↓QL.o_shl, ↓QL.o_shr, ↓QL.o_neg, ↓QL.o_lt, ↓QL.o_le, ↓QL.o_gt, ↓QL.o_ge, ↓QL.o_eq, ↓QL.o_ne, ↓QL.o_iadd, ↓QL.o_isub, ↓QL.o_ixL, ↓QL.o_ixT, ↓QL.o_ixS, ↓QL.o_lenL, ↓QL.o_lenT, ↓QL.o_lenS, ↓QL.o_abs, ↓QL.o_int, ↓QL.o_max, ↓QL.o_min, ↓QL.o_sum, ↓QL.o_neS, ↓QL.o_ord2, ↓QL.o_gtT, ↓QL.o_geT, ↓QL.o_ltT, ↓QL.o_leT, ↓QL.o_eqTn, ↓QL.o_eqT2, ↓QL.o_eqT3, ↓QL.o_eqLn, ↓QL.o_neTn, ↓QL.o_neT2, ↓QL.o_neT3, ↓QL.o_neLn, ↓u_num, ↓u_number, ↓u_take, ↓u_pick, ↓u_long, ↓u_power, ↓u_checkB, ↓u_checkW, ↓u_powat, ↓u_written, ↓u_pair, List.map_cons, List.map_nil, Bool.and_true, Bool.and_self, List.length_cons, List.length_nil]))
theorem sm_bound {d : Int} (h : Sm 147 d) : d ≤ 1000000000000000000000000000000000000000000000000000000000000000000000000000000000000000000000000000000000000000000000000 := by
  have h1 : d ≤ ((2 ^ 147 : Nat) : Int) := by unfold Sm at h; omega
  exact Int.le_trans h1 (by decide)
theorem ok_law (T : Tx K mg ad) : FnOk P w K mg base (L2.CX P w) 6 ad.f_law ad.d_law ["script"] (spA K 1 (S_law)) := by
  have G__law_long := ok__law_long (P := P) (w := w) (base := base) T
  have G__law_pair := ok__law_pair (P := P) (w := w) (base := base) T
  have G__law_pick := ok__law_pick (P := P) (w := w) (base := base) T
  have G__law_take := ok__law_take (P := P) (w := w) (base := base) T
  have G_written := ok_written (P := P) (w := w) (base := base) T
  refine fnA (k := 5) T.F_law sc_law fun cdv A outer s H F0 E EX hr tk => ⟨_, (qs_cons (qs_own (i := 1) sc_law.nd rfl (.inl rfl) (.inl rfl) (q_lstN (qa_cons (q_var (pv 0)) (qa_cons q_int qa_nil))))
      (qs_cons (qs_par3 (i := 2) (j := 3) (l := 4) rfl sc_law.nd rfl rfl rfl (by decide) (by decide) (by decide) (.inl rfl) (.inl rfl) (.inl rfl) rfl rfl rfl (qa_cons (q_callM G__law_pick (hr.mono (by decide)) (by rfl) T.g__law_pick T.k__law_pick T.b__law_pick tkE0 (pv 1) (qa_cons (q_lst (qa_cons q_int (qa_cons q_int (qa_cons q_int (qa_cons q_int (qa_cons q_int qa_nil)))))) qa_nil)) (qa_cons (q_callM G__law_pick (hr.mono (by decide)) (by rfl) T.g__law_pick T.k__law_pick T.b__law_pick tkE0 (pv 1) (qa_cons (q_lst (qa_cons q_int (qa_cons q_int (qa_cons q_int (qa_cons q_int (qa_cons q_int qa_nil)))))) qa_nil)) (qa_cons (q_op qo_add q_int (q_callM G__law_take (hr.mono (by decide)) (by rfl) T.g__law_take T.k__law_take T.b__law_take tkE0 (pv 1) (qa_cons q_int qa_nil))) qa_nil))) (by rfl))
      (qs_cons (qs_set (i := 5) sc_law.nd rfl (.inl rfl) (.inl rfl) (q_ix (q_call G__law_pair (hr.mono (by decide)) (by rfl) T.g__law_pair T.k__law_pair T.b__law_pair tkE0 (qa_cons (q_var (pv 3)) (qa_cons (q_op qo_sub (q_var (pv 4)) q_int) qa_nil))) q_int))
      (qs_cons (qs_set (i := 6) sc_law.nd rfl (.inl rfl) (.inl rfl) (q_op qo_sub (q_callM G__law_take (hr.mono (by decide)) (by rfl) T.g__law_take T.k__law_take T.b__law_take tkE0 (pv 1) (qa_cons q_int qa_nil)) q_int))
      (qs_cons (qs_set (i := 7) sc_law.nd rfl (.inl rfl) (.inl rfl) (q_op qo_add q_int (q_callB qc_abs (by rfl) T.n_abs bt_abs (qa_cons (q_callM G__law_long (hr.mono (by decide)) (by rfl) T.g__law_long T.k__law_long T.b__law_long tkE0 (pv 1) (qa_cons q_int qa_nil)) qa_nil))))
      (qs_cons (qs_for PassesOwn.leaving rfl (qi_t (q_tup (qa_cons (q_var (pv 7)) (qa_cons (q_op qo_add (q_op qo_add (q_var (pv 7)) q_int) (q_callM G__law_take (hr.mono (by decide)) (by rfl) T.g__law_take T.k__law_take T.b__law_take tkE0 (pv 1) (qa_cons q_int qa_nil))) qa_nil)))) (qg_n (pg_name (i := 8) sc_law.nd rfl (.inl rfl)) (.inl rfl)) (qs_cons (qs_asg (q_call G_written (hr.mono (by decide)) (by rfl) T.g_written T.k_written T.b_written tkE0 (qa_cons (q_var (pv 2)) (qa_cons (q_var (pv 8)) (qa_cons (q_var (pv 6)) (qa_cons (q_var (pv 3)) (qa_cons (q_var (pv 4)) qa_nil)))))) (qg_t (n := 2) rfl (qgs_cons (qg_n (pg_name (i := 9) sc_law.nd rfl (.inl rfl)) (.inl rfl)) (qgs_cons (qg_n (pg_name (i := 10) sc_law.nd rfl (.inl rfl)) (.inl rfl)) qgs_nil))))
      (qs_cons (qs_if (qt_not (qt_chain qo_le qo_lt (q_var (pv 5)) (q_var (pv 9)) (q_op qo_mul (q_var (pv 5)) (q_var (pv 3))))) (qs_one (qs_ret q_bl)) qs_nil)
      (qs_cons (qs_asg (q_tup (qa_cons (q_call G__law_pair (hr.mono (by decide)) (by rfl) T.g__law_pair T.k__law_pair T.b__law_pair tkE0 (qa_cons (q_var (pv 2)) (qa_cons (q_var (pv 6)) qa_nil))) (qa_cons (q_call G__law_pair (hr.mono (by decide)) (by rfl) T.g__law_pair T.k__law_pair T.b__law_pair tkE0 (qa_cons (q_var (pv 3)) (qa_cons (q_var (pv 10)) qa_nil))) qa_nil))) (qg_t (n := 2) rfl (qgs_cons (qg_t (n := 2) rfl (qgs_cons (qg_n (pg_name (i := 11) sc_law.nd rfl (.inl rfl)) (.inl rfl)) (qgs_cons (qg_n (pg_name (i := 12) sc_law.nd rfl (.inl rfl)) (.inl rfl)) qgs_nil))) (qgs_cons (qg_t (n := 2) rfl (qgs_cons (qg_n (pg_name (i := 13) sc_law.nd rfl (.inl rfl)) (.inl rfl)) (qgs_cons (qg_n (pg_name (i := 14) sc_law.nd rfl (.inl rfl)) (.inl rfl)) qgs_nil))) qgs_nil))))
      (qs_one (qs_if (qt_cmp qo_gt (q_op qo_mul q_int (q_callB qc_abs (by rfl) T.n_abs bt_abs (qa_cons (q_op qo_sub (q_op qo_mul (q_op qo_mul (q_var (pv 8)) (q_var (pv 11))) (q_var (pv 14))) (q_op qo_mul (q_op qo_mul (q_var (pv 9)) (q_var (pv 13))) (q_var (pv 12)))) qa_nil))) (q_op qo_mul (q_var (pv 13)) (q_var (pv 12)))) (qs_one (qs_ret q_bl)) qs_nil))))))
      (qs_cons (qs_asg (q_tup (qa_cons (q_call G_written (hr.mono (by decide)) (by rfl) T.g_written T.k_written T.b_written tkE0 (qa_cons (q_var (pv 2)) (qa_cons (q_var (pv 7)) (qa_cons (q_var (pv 6)) (qa_cons (q_var (pv 3)) (qa_cons (q_var (pv 4)) qa_nil)))))) (qa_cons (q_call G_written (hr.mono (by decide)) (by rfl) T.g_written T.k_written T.b_written tkE0 (qa_cons (q_var (pv 2)) (qa_cons (q_op qo_add (q_var (pv 7)) (q_callM G__law_take (hr.mono (by decide)) (by rfl) T.g__law_take T.k__law_take T.b__law_take tkE0 (pv 1) (qa_cons q_int qa_nil))) (qa_cons (q_var (pv 6)) (qa_cons (q_var (pv 3)) (qa_cons (q_var (pv 4)) qa_nil)))))) qa_nil))) (qg_t (n := 2) rfl (qgs_cons (qg_t (n := 2) rfl (qgs_cons (qg_n (pg_name (i := 15) sc_law.nd rfl (.inl rfl)) (.inl rfl)) (qgs_cons (qg_n (pg_name (i := 16) sc_law.nd rfl (.inl rfl)) (.inl rfl)) qgs_nil))) (qgs_cons (qg_t (n := 2) rfl (qgs_cons (qg_n (pg_name (i := 17) sc_law.nd rfl (.inl rfl)) (.inl rfl)) (qgs_cons (qg_n (pg_name (i := 18) sc_law.nd rfl (.inl rfl)) (.inl rfl)) qgs_nil))) qgs_nil))))
      (qs_cons (qs_if (qt_cmp (qo_gtT (Nat.lt_of_le_of_lt (Nat.le_add_right _ _) hr.units)) (q_tup (qa_cons (q_var (pv 16)) (qa_cons (q_var (pv 15)) qa_nil))) (q_tup (qa_cons (q_var (pv 18)) (qa_cons (q_var (pv 17)) qa_nil)))) (qs_one (qs_ret q_bl)) qs_nil)
      (qs_cons (qs_par (i := 9) (j := 10) rfl sc_law.nd rfl rfl (by decide) (.inl rfl) (.inl rfl) rfl rfl (qa_cons (q_op qo_add (q_var (pv 5)) (q_callM G__law_take (hr.mono (by decide)) (by rfl) T.g__law_take T.k__law_take T.b__law_take tkE0 (pv 1) (qa_cons (q_op qo_mul (q_var (pv 5)) (q_op qo_sub (q_var (pv 3)) q_int)) qa_nil))) (qa_cons (q_op qo_sub (q_callM G__law_take (hr.mono (by decide)) (by rfl) T.g__law_take T.k__law_take T.b__law_take tkE0 (pv 1) (qa_cons q_int qa_nil)) q_int) qa_nil)) (by rfl))
      (qs_one (qs_ret (q_and (q_cmp (qo_eq hr.units) (q_call G_written (hr.mono (by decide)) (by rfl) T.g_written T.k_written T.b_written tkE0 (qa_cons (q_var (pv 3)) (qa_cons (q_var (pv 9)) (qa_cons (q_var (pv 10)) (qa_cons (q_var (pv 3)) (qa_cons (q_var (pv 4)) qa_nil)))))) (q_tup (qa_cons (q_var (pv 9)) (qa_cons (q_var (pv 10)) qa_nil)))) (q_one (q_cmp (qo_eq hr.units) (q_call G_written (hr.mono (by decide)) (by rfl) T.g_written T.k_written T.b_written tkE0 (qa_cons (q_var (pv 3)) (qa_cons (q_var (pv 9)) (qa_cons (q_var (pv 10)) (qa_cons (q_var (pv 3)) (qa_cons (q_op qo_add (q_var (pv 4)) q_int) qa_nil)))))) (q_tup (qa_cons (q_op qo_mul (q_op qo_mul (q_var (pv 9)) (q_var (pv 3))) (q_var (pv 3))) (qa_cons (q_op qo_sub (q_var (pv 10)) q_int) qa_nil))))))))))))))))), fun ds Q hn h => ?_⟩
  obtain ⟨ns, rfl, hl, q⟩ := h
  show sSeq _ _ _ [.val (.scr ns), .un, .un, .un, .un, .un, .un, .un, .un, .un, .un, .un, .un, .un, .un, .un, .un, .un, .un]
  walk_at "q"
  refine ⟨by decide, by decide, trivial, ⟨ns, 0, hl, rfl⟩, by decide, fun r1 d1 hr1 hD1 => ⟨by decide, trivial, hD1, by decide, fun r2 d2 hr2 hD2 => ⟨trivial, hD2, by decide, fun fg d3 hf1 hf2 hD3 => ?_⟩⟩⟩
  obtain ⟨b, rfl, hb, hb2⟩ : ∃ f : Int, r1 = .int f ∧ 2 ≤ f ∧ f ≤ 36 := by
    simp only [List.mem_cons, List.not_mem_nil, or_false] at hr1
    rcases hr1 with rfl | rfl | rfl | rfl | rfl <;> exact ⟨_, rfl, by decide, by decide⟩
  obtain ⟨o, rfl, ho, ho2⟩ : ∃ f : Int, r2 = .int f ∧ 2 ≤ f ∧ f ≤ 36 := by
    simp only [List.mem_cons, List.not_mem_nil, or_false] at hr2
    rcases hr2 with rfl | rfl | rfl | rfl | rfl <;> exact ⟨_, rfl, by decide, by decide⟩
  clear hr1 hr2
  walk_at "q"
  refine ⟨trivial, ⟨by omega, by omega, by omega, by omega⟩, fun L y0 hL0 hy0 => ⟨.int L, rfl, trivial, hD3, by decide, fun e0 d4 he1 he2 hD4 => ⟨trivial, hD4, by decide, fun m0 d5 hm0 hD5 => ⟨trivial, hD5, by decide, fun t0 d6 ht1 ht2 hD6 => ⟨by decide, ?_⟩⟩⟩⟩⟩
  have e10 : 10 ^ Int.toNat 20 = 100000000000000000000 := by decide
  rw [e10] at hm0
  clear e10 hy0
  generalize hmm : (1 + if m0 < 0 then -m0 else m0) = m
  obtain ⟨hm1, hm2⟩ : 1 ≤ m ∧ m ≤ 100000000000000000000 := by rw [← hmm]; split <;> omega
  clear hmm hm0
  have hLL : o ^ (1 + fg - 1).toNat = L := hL0.symm
  have hL : 0 < L := by rw [hL0]; exact W53.pw_pos (by omega) _
  have sL : Sm 140 L := by rw [hL0]; exact sm_pow (m := 20) (by omega) (by omega) (by omega) (by decide)
  have so : Sm 7 o := by unfold Sm; omega
  have sd : ∀ d : Int, L ≤ d → d < L * o → Sm 147 d := fun d h1 h2 => bd_le (by omega) (by omega) (bd_mul sL so)
  have big : ∀ x : Int, x ≤ 200000000000000000000 → x ≤ 1000000000000000000000000000000000000000000000000000000000000000000000000000000000000000000000000000000000000000000000000 := fun x h => Int.le_trans h (by decide)
  generalize he : e0 - 40 = e
  have he3 : -40 ≤ e ∧ e ≤ 40 := by omega
  clear he he1 he2
  have pb2 := W53.pw_pos (o := b) (by omega) (-e)
  refine forR_inv (fun i env => ∃ s8 s9 s10 s11 s12 s13 s14, env = [.val (.scr ns), .own d6, .val (.int b), .val (.int o), .val (.int (1 + fg)), .val (.int L), .val (.int e), .val (.int m), s8, s9, s10, s11, s12, s13, s14, .un, .un, .un, .un]) ⟨_, _, _, _, _, _, _, rfl⟩ ?_ ?_
  · rintro i dd env N hd ⟨s8, s9, s10, s11, s12, s13, s14, rfl⟩ hN
    obtain ⟨late, rfl, hl1, hl2⟩ : ∃ z : Int, dd = .int z ∧ 1 ≤ z ∧ z ≤ 200000000000000000000 := by
      have hmem := List.mem_of_getElem? hd
      simp only [List.mem_cons, List.not_mem_nil, or_false] at hmem
      rcases hmem with rfl | rfl
      · exact ⟨_, rfl, by omega, by omega⟩
      · exact ⟨_, rfl, by omega, by omega⟩
    clear hd
    walk_at "q"
    refine ⟨trivial, ⟨⟨by omega, by omega⟩, ⟨hl1, big _ hl2⟩, ⟨by omega, by omega⟩, ⟨by omega, by omega⟩, by omega, by omega⟩, fun d f hf3 hf4 hW => ?_⟩
    rw [hLL] at hW
    obtain ⟨g1, g2⟩ := hW.range ho hL pb2
    have g3 := hW.near ho pb2
    walk_at "q"
    refine ⟨trivial, ?_⟩
    rw [if_pos (by rw [decide_eq_true_eq]; exact g1)]
    refine ⟨.r (by omega) (by omega), ?_⟩
    rw [if_neg (by rw [decide_eq_true g2]; decide)]
    refine ⟨trivial, ⟨by omega, by omega, by omega, by omega⟩, fun x y hx hy => ⟨trivial, ⟨by omega, by omega, by omega, by omega⟩, fun p q' hp hq => ⟨by decide, trivial, trivial, trivial, ?_⟩⟩⟩
    have slate : Sm 70 late := bd_le (j := 200000000000000000000) (by omega) hl2 (by decide)
    have sx : Sm 280 x := by rw [hx]; exact sm_pow (m := 40) (by omega) (by omega) (by omega) (by decide)
    have sy : Sm 280 y := by rw [hy]; exact sm_pow (m := 40) (by omega) (by omega) (by omega) (by decide)
    have sp : Sm 21000 p := by rw [hp]; exact sm_pow (m := 3000) (by omega) (by omega) (by omega) (by decide)
    have sq : Sm 21000 q' := by rw [hq]; exact sm_pow (m := 3000) (by omega) (by omega) (by omega) (by decide)
    have sdd := sd d g1 g2
    rw [← hx, ← hy, ← hp, ← hq] at g3
    have ea : late * x * q' - d * (p * y) = late * x * q' - d * p * y := by rw [Int.mul_assoc d]
    rw [ea] at g3
    refine ⟨MOk.of slate sx (by decide), MOk.of (bd_mul slate sx) sq (by decide), MOk.of sdd sp (by decide), MOk.of (bd_mul sdd sp) sy (by decide), .l (by decide) (by decide), MOk.of sp sy (by decide), ?_⟩
    rw [if_neg (by rw [decide_eq_true_eq]; split <;> omega)]
    exact hN _ ⟨_, _, _, _, _, _, _, rfl⟩
  · rintro env ⟨s8, s9, s10, s11, s12, s13, s14, rfl⟩
    walk_at "q"
    refine ⟨trivial, ⟨⟨by omega, by omega⟩, ⟨hm1, big _ (by omega)⟩, ⟨by omega, by omega⟩, ⟨by omega, by omega⟩, by omega, by omega⟩, fun da fa hfa1 hfa2 hWa => ⟨trivial, hD6, by decide, fun t1 d7 ht3 ht4 hD7 => ⟨trivial, ⟨⟨by omega, by omega⟩, ⟨by omega, big _ (by omega)⟩, ⟨by omega, by omega⟩, ⟨by omega, by omega⟩, by omega, by omega⟩, fun db fb hfb1 hfb2 hWb => ?_⟩⟩⟩
    rw [hLL] at hWa hWb
    have hmono := W53.Wr.mono ho hL pb2 (Int.mul_le_mul_of_nonneg_right (show m ≤ m + t1 by omega) (Int.le_of_lt (W53.pw_pos (o := b) (by omega) e))) hWa hWb
    walk_at "q"
    refine ⟨by decide, trivial, trivial, trivial, by decide, by decide, ?_⟩
    rw [if_neg (by
      rcases hmono with z | ⟨rfl, z⟩
      · rw [if_neg (by omega), decide_eq_true_eq]; omega
      · rw [if_pos rfl]
        split
        · decide
        · rw [decide_eq_true_eq]; omega)]
    clear hmono hWa hWb
    have hL1 : 0 < L * (o - 1) := Int.mul_pos hL (by omega)
    refine ⟨.r (by omega) (by omega), trivial, hD7, hL1, fun u d8 hu1 hu2 hD8 => ⟨trivial, hD8, by decide, fun v d9 hv1 hv2 hD9 => ?_⟩⟩
    have eo : L * (o - 1) = L * o - L := by rw [Int.mul_sub, Int.mul_one]
    generalize hdd : L + u = d
    generalize hff : v - 30 = f
    have hd1 : L ≤ d := by omega
    have hd2 : d < L * o := by omega
    have bd := sm_bound (sd d hd1 hd2)
    clear hdd hu1 hu2
    refine ⟨trivial, ⟨⟨ho, by omega⟩, ⟨Int.le_trans (show 1 ≤ L by omega) hd1, bd⟩, ⟨by omega, by omega⟩, ⟨ho, by omega⟩, by clear bd; omega, by clear bd; omega⟩, fun d' f' h1 h2 hW => ?_⟩
    rw [hLL, show L = L * o ^ 0 by rw [Int.pow_zero, Int.mul_one]] at hW
    obtain ⟨e1, e2⟩ := hW.exact ho hL hd1 hd2
    have e3 : d' = d := by rw [e1, Int.pow_zero, Int.mul_one]
    have e4 : f' = f := by clear bd; omega
    refine ⟨by decide, ?_⟩
    rw [e3, e4, if_pos (by rw [decide_eq_true_eq])]
    refine ⟨trivial, ⟨⟨ho, by omega⟩, ⟨Int.le_trans (show 1 ≤ L by omega) hd1, bd⟩, ⟨by omega, by omega⟩, ⟨ho, by omega⟩, by clear bd; omega, by clear bd; omega⟩, fun d2 f2 h3 h4 hW2 => ?_⟩
    clear bd
    have eL2 : o ^ (1 + fg + 2 - 1).toNat = L * o ^ 2 := by
      rw [← hLL, ← Int.pow_add]
      congr 1
      omega
    rw [eL2] at hW2
    obtain ⟨k1, k2⟩ := hW2.exact ho hL hd1 hd2
    have k3 : d2 = d * o * o := by rw [k1, Int.pow_succ, Int.pow_succ, Int.pow_zero, Int.one_mul, Int.mul_assoc]
    have k4 : f2 = f - 2 := by omega
    refine ⟨.r (by omega) (by omega), .r (by omega) (by omega), by decide, ?_⟩
    rw [k3, k4, decide_eq_true rfl]
    exact q
theorem all_mk {l : PySem.W.OpenLaw} {w : World} {K : PySem.W.Frag} {h : Heap} {mg : Str → Option Value} {fa : Addr} (X : K.In h) (G : h.Ns mainGlobals mg) (hfa : mg "law" = some (.ref fa))
    {od_is_number an_is_number : Option Addr} {sl_is_number : Array (Option Value)} {oc_is_number kV_is_number dc_is_number pm_is_number cd_is_number ct_is_number : Value} {f_is_number : Addr}
    {od_power an_power : Option Addr} {sl_power : Array (Option Value)} {oc_power kV_power dc_power pm_power cd_power ct_power : Value} {f_power : Addr}
    {od_check_between an_check_between : Option Addr} {sl_check_between : Array (Option Value)} {oc_check_between kV_check_between dc_check_between pm_check_between cd_check_between ct_check_between : Value} {f_check_between : Addr}
    {od_check_written an_check_written : Option Addr} {sl_check_written : Array (Option Value)} {oc_check_written kV_check_written dc_check_written pm_check_written cd_check_written ct_check_written : Value} {f_check_written : Addr}
    {od_scales an_scales : Option Addr} {sl_scales : Array (Option Value)} {oc_scales kV_scales dc_scales pm_scales cd_scales ct_scales : Value} {f_scales : Addr}
    {od_power_at an_power_at : Option Addr} {sl_power_at : Array (Option Value)} {oc_power_at kV_power_at dc_power_at pm_power_at cd_power_at ct_power_at : Value} {f_power_at : Addr}
    {od_written an_written : Option Addr} {sl_written : Array (Option Value)} {oc_written kV_written dc_written pm_written cd_written ct_written : Value} {f_written : Addr}
    {od__law_number an__law_number : Option Addr} {sl__law_number : Array (Option Value)} {oc__law_number kV__law_number dc__law_number pm__law_number cd__law_number ct__law_number : Value} {f__law_number : Addr}
    {od__law_take an__law_take : Option Addr} {sl__law_take : Array (Option Value)} {oc__law_take kV__law_take dc__law_take pm__law_take cd__law_take ct__law_take : Value} {f__law_take : Addr}
    {od__law_pick an__law_pick : Option Addr} {sl__law_pick : Array (Option Value)} {oc__law_pick kV__law_pick dc__law_pick pm__law_pick cd__law_pick ct__law_pick : Value} {f__law_pick : Addr}
    {od__law_long an__law_long : Option Addr} {sl__law_long : Array (Option Value)} {oc__law_long kV__law_long dc__law_long pm__law_long cd__law_long ct__law_long : Value} {f__law_long : Addr}
    {od__law_pair an__law_pair : Option Addr} {sl__law_pair : Array (Option Value)} {oc__law_pair kV__law_pair dc__law_pair pm__law_pair cd__law_pair ct__law_pair : Value} {f__law_pair : Addr}
    {od_law an_law : Option Addr} {sl_law : Array (Option Value)} {oc_law kV_law dc_law pm_law cd_law ct_law : Value} {f_law : Addr}
    (a_is_number : PySem.W.nsIn K mainGlobals "is_number" = some (some (.ref f_is_number)))
    (l_is_number : K.lookup f_is_number = some ⟨oc_is_number, od_is_number, .func (PySem.W.fnOf "is_number" "is_number" (defArgs s_is_number) (defBody s_is_number) (defScope s_is_number) .none kV_is_number dc_is_number pm_is_number an_is_number cd_is_number ct_is_number), sl_is_number⟩)
    (c_is_number : PySem.W.codeIn K cd_is_number "is_number" = true) (k_is_number : PySem.W.keepIn K (.ref f_is_number) = true)
    (a_power : PySem.W.nsIn K mainGlobals "power" = some (some (.ref f_power)))
    (l_power : K.lookup f_power = some ⟨oc_power, od_power, .func (PySem.W.fnOf "power" "power" (defArgs s_power) (defBody s_power) (defScope s_power) .none kV_power dc_power pm_power an_power cd_power ct_power), sl_power⟩)
    (c_power : PySem.W.codeIn K cd_power "power" = true) (k_power : PySem.W.keepIn K (.ref f_power) = true)
    (a_check_between : PySem.W.nsIn K mainGlobals "check_between" = some (some (.ref f_check_between)))
    (l_check_between : K.lookup f_check_between = some ⟨oc_check_between, od_check_between, .func (PySem.W.fnOf "check_between" "check_between" (defArgs s_check_between) (defBody s_check_between) (defScope s_check_between) .none kV_check_between dc_check_between pm_check_between an_check_between cd_check_between ct_check_between), sl_check_between⟩)
    (c_check_between : PySem.W.codeIn K cd_check_between "check_between" = true) (k_check_between : PySem.W.keepIn K (.ref f_check_between) = true)
    (a_check_written : PySem.W.nsIn K mainGlobals "check_written" = some (some (.ref f_check_written)))
    (l_check_written : K.lookup f_check_written = some ⟨oc_check_written, od_check_written, .func (PySem.W.fnOf "check_written" "check_written" (defArgs s_check_written) (defBody s_check_written) (defScope s_check_written) .none kV_check_written dc_check_written pm_check_written an_check_written cd_check_written ct_check_written), sl_check_written⟩)
    (c_check_written : PySem.W.codeIn K cd_check_written "check_written" = true) (k_check_written : PySem.W.keepIn K (.ref f_check_written) = true)
    (a_scales : PySem.W.nsIn K mainGlobals "scales" = some (some (.ref f_scales)))
    (l_scales : K.lookup f_scales = some ⟨oc_scales, od_scales, .func (PySem.W.fnOf "scales" "scales" (defArgs s_scales) (defBody s_scales) (defScope s_scales) .none kV_scales dc_scales pm_scales an_scales cd_scales ct_scales), sl_scales⟩)
    (c_scales : PySem.W.codeIn K cd_scales "scales" = true) (k_scales : PySem.W.keepIn K (.ref f_scales) = true)
    (a_power_at : PySem.W.nsIn K mainGlobals "power_at" = some (some (.ref f_power_at)))
    (l_power_at : K.lookup f_power_at = some ⟨oc_power_at, od_power_at, .func (PySem.W.fnOf "power_at" "power_at" (defArgs s_power_at) (defBody s_power_at) (defScope s_power_at) .none kV_power_at dc_power_at pm_power_at an_power_at cd_power_at ct_power_at), sl_power_at⟩)
    (c_power_at : PySem.W.codeIn K cd_power_at "power_at" = true) (k_power_at : PySem.W.keepIn K (.ref f_power_at) = true)
    (a_written : PySem.W.nsIn K mainGlobals "written" = some (some (.ref f_written)))
    (l_written : K.lookup f_written = some ⟨oc_written, od_written, .func (PySem.W.fnOf "written" "written" (defArgs s_written) (defBody s_written) (defScope s_written) .none kV_written dc_written pm_written an_written cd_written ct_written), sl_written⟩)
    (c_written : PySem.W.codeIn K cd_written "written" = true) (k_written : PySem.W.keepIn K (.ref f_written) = true)
    (a__law_number : PySem.W.nsIn K mainGlobals "_law_number" = some (some (.ref f__law_number)))
    (l__law_number : K.lookup f__law_number = some ⟨oc__law_number, od__law_number, .func (PySem.W.fnOf "_law_number" "_law_number" (defArgs s__law_number) (defBody s__law_number) (defScope s__law_number) .none kV__law_number dc__law_number pm__law_number an__law_number cd__law_number ct__law_number), sl__law_number⟩)
    (c__law_number : PySem.W.codeIn K cd__law_number "_law_number" = true) (k__law_number : PySem.W.keepIn K (.ref f__law_number) = true)
    (a__law_take : PySem.W.nsIn K mainGlobals "_law_take" = some (some (.ref f__law_take)))
    (l__law_take : K.lookup f__law_take = some ⟨oc__law_take, od__law_take, .func (PySem.W.fnOf "_law_take" "_law_take" (defArgs s__law_take) (defBody s__law_take) (defScope s__law_take) .none kV__law_take dc__law_take pm__law_take an__law_take cd__law_take ct__law_take), sl__law_take⟩)
    (c__law_take : PySem.W.codeIn K cd__law_take "_law_take" = true) (k__law_take : PySem.W.keepIn K (.ref f__law_take) = true)
    (a__law_pick : PySem.W.nsIn K mainGlobals "_law_pick" = some (some (.ref f__law_pick)))
    (l__law_pick : K.lookup f__law_pick = some ⟨oc__law_pick, od__law_pick, .func (PySem.W.fnOf "_law_pick" "_law_pick" (defArgs s__law_pick) (defBody s__law_pick) (defScope s__law_pick) .none kV__law_pick dc__law_pick pm__law_pick an__law_pick cd__law_pick ct__law_pick), sl__law_pick⟩)
    (c__law_pick : PySem.W.codeIn K cd__law_pick "_law_pick" = true) (k__law_pick : PySem.W.keepIn K (.ref f__law_pick) = true)
    (a__law_long : PySem.W.nsIn K mainGlobals "_law_long" = some (some (.ref f__law_long)))
    (l__law_long : K.lookup f__law_long = some ⟨oc__law_long, od__law_long, .func (PySem.W.fnOf "_law_long" "_law_long" (defArgs s__law_long) (defBody s__law_long) (defScope s__law_long) .none kV__law_long dc__law_long pm__law_long an__law_long cd__law_long ct__law_long), sl__law_long⟩)
    (c__law_long : PySem.W.codeIn K cd__law_long "_law_long" = true) (k__law_long : PySem.W.keepIn K (.ref f__law_long) = true)
    (a__law_pair : PySem.W.nsIn K mainGlobals "_law_pair" = some (some (.ref f__law_pair)))
    (l__law_pair : K.lookup f__law_pair = some ⟨oc__law_pair, od__law_pair, .func (PySem.W.fnOf "_law_pair" "_law_pair" (defArgs s__law_pair) (defBody s__law_pair) (defScope s__law_pair) .none kV__law_pair dc__law_pair pm__law_pair an__law_pair cd__law_pair ct__law_pair), sl__law_pair⟩)
    (c__law_pair : PySem.W.codeIn K cd__law_pair "_law_pair" = true) (k__law_pair : PySem.W.keepIn K (.ref f__law_pair) = true)
    (a_law : PySem.W.nsIn K mainGlobals "law" = some (some (.ref f_law)))
    (l_law : K.lookup f_law = some ⟨oc_law, od_law, .func (PySem.W.fnOf "law" "law" (defArgs s_law) (defBody s_law) (defScope s_law) .none kV_law dc_law pm_law an_law cd_law ct_law), sl_law⟩)
    (c_law : PySem.W.codeIn K cd_law "law" = true) (k_law : PySem.W.keepIn K (.ref f_law) = true)
    (n_abs : PySem.W.nsIn K mainGlobals "abs" = some none)
    (n_bool : PySem.W.nsIn K mainGlobals "bool" = some none)
    (n_int : PySem.W.nsIn K mainGlobals "int" = some none)
    (n_isinstance : PySem.W.nsIn K mainGlobals "isinstance" = some none)
    (n_len : PySem.W.nsIn K mainGlobals "len" = some none)
    (n_max : PySem.W.nsIn K mainGlobals "max" = some none)
    (n_range : PySem.W.nsIn K mainGlobals "range" = some none)
    {tk_MOST_BASE : Tok} (a_MOST_BASE : PySem.W.nsIn K mainGlobals "MOST_BASE" = some (some (.int 100 tk_MOST_BASE)))
    {tk_MOST_FIGURES : Tok} (a_MOST_FIGURES : PySem.W.nsIn K mainGlobals "MOST_FIGURES" = some (some (.int 60 tk_MOST_FIGURES)))
    {tk_MOST_EXPONENT : Tok} (a_MOST_EXPONENT : PySem.W.nsIn K mainGlobals "MOST_EXPONENT" = some (some (.int 200 tk_MOST_EXPONENT)))
    {tk_GREAT : Tok} (a_GREAT : PySem.W.nsIn K mainGlobals "GREAT" = some (some (.int 1000000000000000000000000000000000000000000000000000000000000000000000000000000000000000000000000000000000000000000000000 tk_GREAT)))
    : ∃ fd : FuncData, (∀ (s : Shared) (v : Value), BindsTo s fd ⟨[v], []⟩ [("script", v)]) ∧ ∀ base : Heap, K.In base → base.Ns mainGlobals mg → FnOk l.prog w K mg base (L2.CX l.prog w) 6 fa fd ["script"] (spA K 1 S_law) := by
  have e := hfa.symm.trans (PySem.W.mg_of X G a_law)
  cases e
  let ad : Ad := { f_is_number := f_is_number, d_is_number := PySem.W.fnOf "is_number" "is_number" (defArgs s_is_number) (defBody s_is_number) (defScope s_is_number) .none kV_is_number dc_is_number pm_is_number an_is_number cd_is_number ct_is_number, f_power := f_power, d_power := PySem.W.fnOf "power" "power" (defArgs s_power) (defBody s_power) (defScope s_power) .none kV_power dc_power pm_power an_power cd_power ct_power, f_check_between := f_check_between, d_check_between := PySem.W.fnOf "check_between" "check_between" (defArgs s_check_between) (defBody s_check_between) (defScope s_check_between) .none kV_check_between dc_check_between pm_check_between an_check_between cd_check_between ct_check_between, f_check_written := f_check_written, d_check_written := PySem.W.fnOf "check_written" "check_written" (defArgs s_check_written) (defBody s_check_written) (defScope s_check_written) .none kV_check_written dc_check_written pm_check_written an_check_written cd_check_written ct_check_written, f_scales := f_scales, d_scales := PySem.W.fnOf "scales" "scales" (defArgs s_scales) (defBody s_scales) (defScope s_scales) .none kV_scales dc_scales pm_scales an_scales cd_scales ct_scales, f_power_at := f_power_at, d_power_at := PySem.W.fnOf "power_at" "power_at" (defArgs s_power_at) (defBody s_power_at) (defScope s_power_at) .none kV_power_at dc_power_at pm_power_at an_power_at cd_power_at ct_power_at, f_written := f_written, d_written := PySem.W.fnOf "written" "written" (defArgs s_written) (defBody s_written) (defScope s_written) .none kV_written dc_written pm_written an_written cd_written ct_written, f__law_number := f__law_number, d__law_number := PySem.W.fnOf "_law_number" "_law_number" (defArgs s__law_number) (defBody s__law_number) (defScope s__law_number) .none kV__law_number dc__law_number pm__law_number an__law_number cd__law_number ct__law_number, f__law_take := f__law_take, d__law_take := PySem.W.fnOf "_law_take" "_law_take" (defArgs s__law_take) (defBody s__law_take) (defScope s__law_take) .none kV__law_take dc__law_take pm__law_take an__law_take cd__law_take ct__law_take, f__law_pick := f__law_pick, d__law_pick := PySem.W.fnOf "_law_pick" "_law_pick" (defArgs s__law_pick) (defBody s__law_pick) (defScope s__law_pick) .none kV__law_pick dc__law_pick pm__law_pick an__law_pick cd__law_pick ct__law_pick, f__law_long := f__law_long, d__law_long := PySem.W.fnOf "_law_long" "_law_long" (defArgs s__law_long) (defBody s__law_long) (defScope s__law_long) .none kV__law_long dc__law_long pm__law_long an__law_long cd__law_long ct__law_long, f__law_pair := f__law_pair, d__law_pair := PySem.W.fnOf "_law_pair" "_law_pair" (defArgs s__law_pair) (defBody s__law_pair) (defScope s__law_pair) .none kV__law_pair dc__law_pair pm__law_pair an__law_pair cd__law_pair ct__law_pair, f_law := fa, d_law := PySem.W.fnOf "law" "law" (defArgs s_law) (defBody s_law) (defScope s_law) .none kV_law dc_law pm_law an_law cd_law ct_law }
  have F_is_number := fun_mk (st := s_is_number) l_is_number c_is_number k_is_number
  have b_is_number := F_is_number.binds (ps := ["value"]) fun _ _ _ _ _ _ us hl => match us, hl with | [_], _ => rfl
  have F_power := fun_mk (st := s_power) l_power c_power k_power
  have b_power := F_power.binds (ps := ["base", "exponent"]) fun _ _ _ _ _ _ us hl => match us, hl with | [_, _], _ => rfl
  have F_check_between := fun_mk (st := s_check_between) l_check_between c_check_between k_check_between
  have b_check_between := F_check_between.binds (ps := ["value", "low", "high"]) fun _ _ _ _ _ _ us hl => match us, hl with | [_, _, _], _ => rfl
  have F_check_written := fun_mk (st := s_check_written) l_check_written c_check_written k_check_written
  have b_check_written := F_check_written.binds (ps := ["base", "figures"]) fun _ _ _ _ _ _ us hl => match us, hl with | [_, _], _ => rfl
  have F_scales := fun_mk (st := s_scales) l_scales c_scales k_scales
  have b_scales := F_scales.binds (ps := ["base", "e", "other", "f"]) fun _ _ _ _ _ _ us hl => match us, hl with | [_, _, _, _], _ => rfl
  have F_power_at := fun_mk (st := s_power_at) l_power_at c_power_at k_power_at
  have b_power_at := F_power_at.binds (ps := ["above", "below", "base", "figures"]) fun _ _ _ _ _ _ us hl => match us, hl with | [_, _, _, _], _ => rfl
  have F_written := fun_mk (st := s_written) l_written c_written k_written
  have b_written := F_written.binds (ps := ["base", "m", "e", "other", "figures"]) fun _ _ _ _ _ _ us hl => match us, hl with | [_, _, _, _, _], _ => rfl
  have F__law_number := fun_mk (st := s__law_number) l__law_number c__law_number k__law_number
  have b__law_number := F__law_number.binds (ps := ["script", "index"]) fun _ _ _ _ _ _ us hl => match us, hl with | [_, _], _ => rfl
  have F__law_take := fun_mk (st := s__law_take) l__law_take c__law_take k__law_take
  have b__law_take := F__law_take.binds (ps := ["draw", "many"]) fun _ _ _ _ _ _ us hl => match us, hl with | [_, _], _ => rfl
  have F__law_pick := fun_mk (st := s__law_pick) l__law_pick c__law_pick k__law_pick
  have b__law_pick := F__law_pick.binds (ps := ["draw", "items"]) fun _ _ _ _ _ _ us hl => match us, hl with | [_, _], _ => rfl
  have F__law_long := fun_mk (st := s__law_long) l__law_long c__law_long k__law_long
  have b__law_long := F__law_long.binds (ps := ["draw", "figures"]) fun _ _ _ _ _ _ us hl => match us, hl with | [_, _], _ => rfl
  have F__law_pair := fun_mk (st := s__law_pair) l__law_pair c__law_pair k__law_pair
  have b__law_pair := F__law_pair.binds (ps := ["base", "exponent"]) fun _ _ _ _ _ _ us hl => match us, hl with | [_, _], _ => rfl
  have F_law := fun_mk (st := s_law) l_law c_law k_law
  have b_law := F_law.binds (ps := ["script"]) fun _ _ _ _ _ _ us hl => match us, hl with | [_], _ => rfl
  have T : Tx K mg ad := { n_abs := PySem.W.mg_none_of X G n_abs, n_bool := PySem.W.mg_none_of X G n_bool, n_int := PySem.W.mg_none_of X G n_int, n_isinstance := PySem.W.mg_none_of X G n_isinstance, n_len := PySem.W.mg_none_of X G n_len, n_max := PySem.W.mg_none_of X G n_max, n_range := PySem.W.mg_none_of X G n_range, g_MOST_BASE := ⟨_, PySem.W.mg_of X G a_MOST_BASE⟩, g_MOST_FIGURES := ⟨_, PySem.W.mg_of X G a_MOST_FIGURES⟩, g_MOST_EXPONENT := ⟨_, PySem.W.mg_of X G a_MOST_EXPONENT⟩, g_GREAT := ⟨_, PySem.W.mg_of X G a_GREAT⟩, F_is_number := F_is_number, b_is_number := b_is_number, k_is_number := k_is_number, g_is_number := PySem.W.mg_of X G a_is_number, F_power := F_power, b_power := b_power, k_power := k_power, g_power := PySem.W.mg_of X G a_power, F_check_between := F_check_between, b_check_between := b_check_between, k_check_between := k_check_between, g_check_between := PySem.W.mg_of X G a_check_between, F_check_written := F_check_written, b_check_written := b_check_written, k_check_written := k_check_written, g_check_written := PySem.W.mg_of X G a_check_written, F_scales := F_scales, b_scales := b_scales, k_scales := k_scales, g_scales := PySem.W.mg_of X G a_scales, F_power_at := F_power_at, b_power_at := b_power_at, k_power_at := k_power_at, g_power_at := PySem.W.mg_of X G a_power_at, F_written := F_written, b_written := b_written, k_written := k_written, g_written := PySem.W.mg_of X G a_written, F__law_number := F__law_number, b__law_number := b__law_number, k__law_number := k__law_number, g__law_number := PySem.W.mg_of X G a__law_number, F__law_take := F__law_take, b__law_take := b__law_take, k__law_take := k__law_take, g__law_take := PySem.W.mg_of X G a__law_take, F__law_pick := F__law_pick, b__law_pick := b__law_pick, k__law_pick := k__law_pick, g__law_pick := PySem.W.mg_of X G a__law_pick, F__law_long := F__law_long, b__law_long := b__law_long, k__law_long := k__law_long, g__law_long := PySem.W.mg_of X G a__law_long, F__law_pair := F__law_pair, b__law_pair := b__law_pair, k__law_pair := k__law_pair, g__law_pair := PySem.W.mg_of X G a__law_pair, F_law := F_law, b_law := b_law, k_law := k_law, g_law := PySem.W.mg_of X G a_law }
  exact ⟨ad.d_law, fun s v => .of_eq rfl, fun base _ _ => ok_law T⟩
theorem walk {l : PySem.W.OpenLaw} {q : Program} {loose : List Str} {XP : (Str → Option Value) → Heap → Prop} {YP : World → Heap → Prop} {d : DefRec} {K : Params → PySem.W.Frag} (hn : l.most = some 63) (hdf : d.params.defaults = [])
    (hY : ∀ (w : World) (h : Heap), YP w h → (K w.params).In h)
    (F : ∀ (w : World) (mg : Str → Option Value) (fa : Addr) (h : Heap), (K w.params).In h → h.Ns mainGlobals mg → mg d.name = some (.ref fa) →
      ∃ fd : FuncData, (∀ (s : Shared) (u : Value), BindsTo s fd ⟨[u], []⟩ [("script", u)]) ∧ ∀ base : Heap, (K w.params).In base → base.Ns mainGlobals mg → FnOk l.prog w (K w.params) mg base (L2.CX l.prog w) 6 fa fd ["script"] (spA (K w.params) 1 S_law)) :
    PySem.W.WalkO q loose XP YP l.row.toRowW d [] (fun f vs => PySem.call f vs) :=
  L2.walk_of (n := 63) (k := 6) (x := "script") (CX := fun w => L2.CX l.prog w) (sp := fun w => spA (K w.params) 1 S_law) hn (by decide) hdf ⟨rfl, by decide, by decide⟩ hY F
    (fun w H a ns hl _ hS => ⟨H, [.scr ns], _, fun _ => False, rfl, Same.refl _, ⟨_, _, rfl, ⟨a, rfl, hS⟩, rfl⟩, ⟨ns, rfl, hl, rfl⟩, fun z u F' H' g r q => by
      have q' : D.bl true = z := q
      subst q'; exact r, fun _ _ _ _ _ _ _ z => z.elim⟩) fun _ _ _ _ _ z => by
      obtain ⟨_, _, _, _, _, _, _, _, _, _, _, _, z⟩ := z
      exact z.elim
end LawW
open PySem PySem.W PyProof.Rows
set_option maxRecDepth 100000 in
set_option maxHeartbeats 0 in
theorem PySem.Challenge.cw_pointorstrip_k53_words_of_formats_holds : PySem.Challenge.rw_pointorstrip_k53_words_of_formats.Holds := by
  w_on; o_law; k_head; (case hw => w_witness2)
  k_fill
  refine LawW.walk (l := PySem.Challenge.rw_pointorstrip_k53_words_of_formats) rfl rfl (fun w h Y => PySem.W.kIn_of Y) ?F
  case F =>
    intro w mg fa h KX G hmg
    refine' LawW.all_mk KX G hmg ?a_is_number ?l_is_number ?c_is_number ?k_is_number ?a_power ?l_power ?c_power ?k_power ?a_check_between ?l_check_between ?c_check_between ?k_check_between ?a_check_written ?l_check_written ?c_check_written ?k_check_written ?a_scales ?l_scales ?c_scales ?k_scales ?a_power_at ?l_power_at ?c_power_at ?k_power_at ?a_written ?l_written ?c_written ?k_written ?a__law_number ?l__law_number ?c__law_number ?k__law_number ?a__law_take ?l__law_take ?c__law_take ?k__law_take ?a__law_pick ?l__law_pick ?c__law_pick ?k__law_pick ?a__law_long ?l__law_long ?c__law_long ?k__law_long ?a__law_pair ?l__law_pair ?c__law_pair ?k__law_pair ?a_law ?l_law ?c_law ?k_law ?n_abs ?n_bool ?n_int ?n_isinstance ?n_len ?n_max ?n_range ?a_MOST_BASE ?a_MOST_FIGURES ?a_MOST_EXPONENT ?a_GREAT
    (case a_is_number => k_is)
    (case l_is_number => k_is)
    (case c_is_number => k_is)
    (case k_is_number => k_is)
    (case a_power => k_is)
    (case l_power => k_is)
    (case c_power => k_is)
    (case k_power => k_is)
    (case a_check_between => k_is)
    (case l_check_between => k_is)
    (case c_check_between => k_is)
    (case k_check_between => k_is)
    (case a_check_written => k_is)
    (case l_check_written => k_is)
    (case c_check_written => k_is)
    (case k_check_written => k_is)
    (case a_scales => k_is)
    (case l_scales => k_is)
    (case c_scales => k_is)
    (case k_scales => k_is)
    (case a_power_at => k_is)
    (case l_power_at => k_is)
    (case c_power_at => k_is)
    (case k_power_at => k_is)
    (case a_written => k_is)
    (case l_written => k_is)
    (case c_written => k_is)
    (case k_written => k_is)
    (case a__law_number => k_is)
    (case l__law_number => k_is)
    (case c__law_number => k_is)
    (case k__law_number => k_is)
    (case a__law_take => k_is)
    (case l__law_take => k_is)
    (case c__law_take => k_is)
    (case k__law_take => k_is)
    (case a__law_pick => k_is)
    (case l__law_pick => k_is)
    (case c__law_pick => k_is)
    (case k__law_pick => k_is)
    (case a__law_long => k_is)
    (case l__law_long => k_is)
    (case c__law_long => k_is)
    (case k__law_long => k_is)
    (case a__law_pair => k_is)
    (case l__law_pair => k_is)
    (case c__law_pair => k_is)
    (case k__law_pair => k_is)
    (case a_law => k_is)
    (case l_law => k_is)
    (case c_law => k_is)
    (case k_law => k_is)
    (case n_abs => k_is)
    (case n_bool => k_is)
    (case n_int => k_is)
    (case n_isinstance => k_is)
    (case n_len => k_is)
    (case n_max => k_is)
    (case n_range => k_is)
    (case a_MOST_BASE => k_is)
    (case a_MOST_FIGURES => k_is)
    (case a_MOST_EXPONENT => k_is)
    (case a_GREAT => k_is)
