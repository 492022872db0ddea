import PyProof.Rows.All
import Wide.All
import OpenK.AllK
import Wide.FinOn
import HandS.ForMost
import HandS.ForExc
import HandS.Wide
import HandS.WideBits
import HandS.IsInst
import HandS.Flow
import HandS.Style
import HandS.Sort
import HandS.SortInts
import HandS.Zip
import HandS.Conv
import HandS.TupAny
import HandS.Codes
import HandS.Star
import HandS.ExcInit
import HandS.TryMany
import HandS.TupLe
import KE.GoesMore
import KE.RegKIsAll
import PySem.Challenge.RW_pointorstrip_k50_calendar_rows
set_option Elab.async false
set_option linter.all false
set_option maxRecDepth 100000
namespace QL
open PySem PySem.Spec PyProof.Rows L2

/-! ### pure data -/
abbrev DK := Sum Key (List Key)
inductive D where
  | non | bl (b : Bool) | int (i : Int) | str (x : Str) | raw (v : V) | scr (ns : List Int)
  | tup (xs : List D) | lst (xs : List D) | dic (ks : List DK) (xs : List D) | obj (C : Addr) (ns : List Str) (xs : List D)

mutual
/-- the value v is the datum in the frozen heap F -/
def Rep (K : PySem.W.Frag) (F : Hp) : D → V → Prop
  | .non, v => v = .non
  | .bl b, v => v = .bl b
  | .int i, v => v = .int i
  | .str x, v => v = .str x
  | .raw u, v => v = u
  | .scr ns, v => ∃ a, v = .ref a ∧ SqL K F a (ns.map V.int)
  | .tup xs, v => ∃ a vs, v = .ref a ∧ SqT K F a vs ∧ RepL K F xs vs
  | .lst xs, v => ∃ a vs, v = .ref a ∧ F a = some (.lst vs) ∧ RepL K F xs vs
  | .dic ks xs, v => ∃ a, v = .ref a ∧ ((∃ kvs : List (Key × V), F a = some (.dK kvs) ∧ ks = kvs.map (fun p => Sum.inl p.1) ∧ RepL K F xs (kvs.map (·.2))) ∨
      (∃ kvs : List (List Key × V), F a = some (.dT kvs) ∧ ks = kvs.map (fun p => Sum.inr p.1) ∧ RepL K F xs (kvs.map (·.2))))
  | .obj C ns xs, v => ∃ a dx fs, v = .ref a ∧ F a = some (.ins C dx fs) ∧ fs.map (·.1) = ns ∧ RepL K F xs (fs.map (·.2))
def RepL (K : PySem.W.Frag) (F : Hp) : List D → List V → Prop
  | [], vs => vs = []
  | x :: xs, vs => ∃ v r, vs = v :: r ∧ Rep K F x v ∧ RepL K F xs r
end

theorem same_sqt {K : PySem.W.Frag} {H H' : Hp} {a : Addr} {xs : List V} (e : Same H H') (h : SqT K H a xs) : SqT K H' a xs := by
  rcases h with (h | ⟨o, h⟩) | h
  · exact .inl (.inl (e _ _ h))
  · exact .inl (.inr ⟨o, e _ _ h⟩)
  · exact .inr h
section
variable {K : PySem.W.Frag} {F F' : Hp}
mutual
theorem Rep.mono (e : Same F F') : ∀ (d : D) (v : V), Rep K F d v → Rep K F' d v
  | .non, _, h => h
  | .bl _, _, h => h
  | .int _, _, h => h
  | .str _, _, h => h
  | .raw _, _, h => h
  | .tup xs, _, ⟨a, vs, h1, h2, h3⟩ => ⟨a, vs, h1, same_sqt e h2, RepL.mono e xs vs h3⟩
  | .scr xs, _, ⟨a, h1, h2⟩ => ⟨a, h1, e.seq h2⟩
  | .lst xs, _, ⟨a, vs, h1, h2, h3⟩ => ⟨a, vs, h1, e _ _ h2, RepL.mono e xs vs h3⟩
  | .dic ks xs, _, ⟨a, h1, h⟩ => ⟨a, h1, h.elim (fun ⟨kvs, h2, h3, h4⟩ => .inl ⟨kvs, e _ _ h2, h3, RepL.mono e xs _ h4⟩) (fun ⟨kvs, h2, h3, h4⟩ => .inr ⟨kvs, e _ _ h2, h3, RepL.mono e xs _ h4⟩)⟩
  | .obj C ns xs, _, ⟨a, dx, fs, h1, h2, h3, h4⟩ => ⟨a, dx, fs, h1, e _ _ h2, h3, RepL.mono e xs _ h4⟩
theorem RepL.mono (e : Same F F') : ∀ (xs : List D) (vs : List V), RepL K F xs vs → RepL K F' xs vs
  | [], _, h => h
  | x :: xs, _, ⟨v, r, h1, h2, h3⟩ => ⟨v, r, h1, Rep.mono e x v h2, RepL.mono e xs r h3⟩
end
theorem RepL.length : ∀ {xs : List D} {vs : List V}, RepL K F xs vs → xs.length = vs.length
  | [], _, h => by rw [show _ = [] from h]; rfl
  | x :: xs, _, ⟨v, r, h1, h2, h3⟩ => by rw [h1, List.length_cons, List.length_cons, RepL.length h3]
theorem RepL.get : ∀ {xs : List D} {vs : List V} {i : Nat} {d : D}, RepL K F xs vs → xs[i]? = some d → ∃ v, vs[i]? = some v ∧ Rep K F d v
  | [], _, _, _, _, e => by simp at e
  | x :: xs, _, 0, d, ⟨v, r, h1, h2, h3⟩, e => by
    have e' : x = d := by simpa using e
    subst e'; exact ⟨v, by rw [h1]; rfl, h2⟩
  | x :: xs, _, i + 1, d, ⟨v, r, h1, h2, h3⟩, e => by
    obtain ⟨u, hu, ru⟩ := RepL.get (i := i) (d := d) h3 (by simpa using e)
    exact ⟨u, by rw [h1]; simpa using hu, ru⟩
theorem RepL.getV : ∀ {xs : List D} {vs : List V} {i : Nat} {v : V}, RepL K F xs vs → vs[i]? = some v → ∃ d, xs[i]? = some d ∧ Rep K F d v
  | [], _, _, _, h, e => by rw [show _ = [] from h] at e; simp at e
  | x :: xs, _, 0, d, ⟨v, r, h1, h2, h3⟩, e => by
    rw [h1] at e
    have e' : v = d := by simpa using e
    subst e'; exact ⟨x, rfl, h2⟩
  | x :: xs, _, i + 1, d, ⟨v, r, h1, h2, h3⟩, e => by
    rw [h1] at e
    obtain ⟨u, hu, ru⟩ := RepL.getV (i := i) (v := d) h3 (by simpa using e)
    exact ⟨u, by simpa using hu, ru⟩
theorem RepL.append : ∀ {xs ys : List D} {vs us : List V}, RepL K F xs vs → RepL K F ys us → RepL K F (xs ++ ys) (vs ++ us)
  | [], _, _, _, h, g => by rw [show _ = [] from h]; exact g
  | x :: xs, _, _, _, ⟨v, r, h1, h2, h3⟩, g => by rw [h1]; exact ⟨v, r ++ _, rfl, h2, RepL.append h3 g⟩
theorem RepL.one {d : D} {v : V} (h : Rep K F d v) : RepL K F [d] [v] := ⟨v, [], rfl, h, rfl⟩
theorem RepL.take : ∀ {xs : List D} {vs : List V} (n : Nat), RepL K F xs vs → RepL K F (xs.take n) (vs.take n)
  | _, _, 0, _ => by simp only [List.take_zero]; rfl
  | [], _, n + 1, h => by rw [show _ = [] from h]; rfl
  | x :: xs, _, n + 1, ⟨v, r, h1, h2, h3⟩ => by rw [h1]; exact ⟨v, _, rfl, h2, RepL.take n h3⟩
theorem RepL.drop : ∀ {xs : List D} {vs : List V} (n : Nat), RepL K F xs vs → RepL K F (xs.drop n) (vs.drop n)
  | xs, vs, 0, h => h
  | [], _, n + 1, h => by rw [show _ = [] from h]; rfl
  | x :: xs, _, n + 1, ⟨v, r, h1, h2, h3⟩ => by rw [h1]; exact RepL.drop n h3
theorem RepL.set : ∀ {xs : List D} {vs : List V} {d : D} {v : V} (n : Nat), RepL K F xs vs → Rep K F d v → RepL K F (xs.set n d) (vs.set n v)
  | [], _, _, _, _, h, _ => by rw [show _ = [] from h]; rfl
  | x :: xs, _, _, w, 0, ⟨v, r, h1, h2, h3⟩, g => by rw [h1]; exact ⟨w, r, rfl, g, h3⟩
  | x :: xs, _, _, _, n + 1, ⟨v, r, h1, h2, h3⟩, g => by rw [h1]; exact ⟨v, _, rfl, h2, RepL.set n h3 g⟩
theorem RepL.reverse : ∀ {xs : List D} {vs : List V}, RepL K F xs vs → RepL K F xs.reverse vs.reverse
  | [], _, h => by rw [show _ = [] from h]; rfl
  | x :: xs, _, ⟨v, r, h1, h2, h3⟩ => by rw [h1, List.reverse_cons, List.reverse_cons]; exact RepL.append (RepL.reverse h3) (RepL.one h2)
theorem RepL.ints : ∀ {ns : List Int} {vs : List V}, RepL K F (ns.map D.int) vs → vs = ns.map V.int
  | [], _, h => h
  | n :: ns, _, ⟨v, r, h1, h2, h3⟩ => by rw [h1, show v = .int n from h2, RepL.ints h3]; rfl
theorem RepL.of_ints : ∀ {ns : List Int}, RepL K F (ns.map D.int) (ns.map V.int)
  | [] => rfl
  | n :: ns => ⟨_, _, rfl, rfl, RepL.of_ints⟩
theorem RepL.bls : ∀ {ns : List Bool} {vs : List V}, RepL K F (ns.map D.bl) vs → vs = ns.map V.bl
  | [], _, h => h
  | n :: ns, _, ⟨v, r, h1, h2, h3⟩ => by rw [h1, show v = .bl n from h2, RepL.bls h3]; rfl
end

/-! ### slots -/
inductive Slot where
  | un | val (d : D) | own (d : D)

/-- an owned object: its content -/
def OwnH (K : PySem.W.Frag) (F : Hp) : D → HO → Prop
  | .lst xs, ho => ∃ vs, ho = .lst vs ∧ RepL K F xs vs
  | .dic ks xs, ho => (∃ kvs : List (Key × V), ho = .dK kvs ∧ ks = kvs.map (fun p => Sum.inl p.1) ∧ RepL K F xs (kvs.map (·.2))) ∨
      (∃ kvs : List (List Key × V), ho = .dT kvs ∧ ks = kvs.map (fun p => Sum.inr p.1) ∧ RepL K F xs (kvs.map (·.2)))
  | .obj C ns xs, ho => ∃ dx fs, ho = .ins C dx fs ∧ fs.map (·.1) = ns ∧ RepL K F xs (fs.map (·.2))
  | _, _ => False
theorem OwnH.mono {K : PySem.W.Frag} {F F' : Hp} (e : Same F F') : ∀ {d : D} {ho : HO}, OwnH K F d ho → OwnH K F' d ho
  | .lst xs, _, ⟨vs, h1, h2⟩ => ⟨vs, h1, RepL.mono e _ _ h2⟩
  | .dic ks xs, _, h => h.elim (fun ⟨kvs, h2, h3, h4⟩ => .inl ⟨kvs, h2, h3, RepL.mono e xs _ h4⟩) (fun ⟨kvs, h2, h3, h4⟩ => .inr ⟨kvs, h2, h3, RepL.mono e xs _ h4⟩)
  | .obj C ns xs, _, ⟨dx, fs, h1, h2, h3⟩ => ⟨dx, fs, h1, h2, RepL.mono e _ _ h3⟩
  | .non, _, h => h.elim
  | .bl _, _, h => h.elim
  | .int _, _, h => h.elim
  | .str _, _, h => h.elim
  | .raw _, _, h => h.elim
  | .scr _, _, h => h.elim
  | .tup _, _, h => h.elim
theorem same_upd {H : Hp} {p : Addr} {o : HO} (h : H p = none) : Same H (upd H p o) := fun b x e => by
  rw [upd_ne (ne_of_none e h)]
  exact e
theorem same_upd2 {F H : Hp} {p : Addr} {o : HO} (s : Same F H) (h : F p = none) : Same F (upd H p o) := fun b x e => by
  rw [upd_ne (ne_of_none e h)]
  exact s _ _ e
theorem same_upd3 {F H : Hp} {p : Addr} {o : HO} (s : Same F H) (h : H p = some o) : Same (upd F p o) H := fun b x e => by
  by_cases hb : b = p
  · subst hb; rw [upd_same] at e; cases e; exact h
  · rw [upd_ne hb] at e; exact s _ _ e
theorem same_updb {F H : Hp} {p : Addr} {o : HO} (s : Same F H) : Same (upd F p o) (upd H p o) := fun b x e => by
  by_cases hb : b = p
  · subst hb; rw [upd_same] at e ⊢; exact e
  · rw [upd_ne hb] at e ⊢; exact s _ _ e
/-- frozen: it is a datum -/
theorem OwnH.rep {K : PySem.W.Frag} {F : Hp} {a : Addr} (hn : F a = none) : ∀ {d : D} {ho : HO}, OwnH K F d ho → Rep K (upd F a ho) d (.ref a)
  | .lst xs, _, ⟨vs, h1, h2⟩ => ⟨a, vs, rfl, by rw [upd_same, h1], RepL.mono (same_upd hn) _ _ h2⟩
  | .dic ks xs, _, h => ⟨a, rfl, h.elim (fun ⟨kvs, h2, h3, h4⟩ => .inl ⟨kvs, by rw [upd_same, h2], h3, RepL.mono (same_upd hn) xs _ h4⟩) (fun ⟨kvs, h2, h3, h4⟩ => .inr ⟨kvs, by rw [upd_same, h2], h3, RepL.mono (same_upd hn) xs _ h4⟩)⟩
  | .obj C ns xs, _, ⟨dx, fs, h1, h2, h3⟩ => ⟨a, dx, fs, rfl, by rw [upd_same, h1], h2, RepL.mono (same_upd hn) _ _ h3⟩
  | .non, _, h => h.elim
  | .bl _, _, h => h.elim
  | .int _, _, h => h.elim
  | .str _, _, h => h.elim
  | .raw _, _, h => h.elim
  | .scr _, _, h => h.elim
  | .tup _, _, h => h.elim

def SlotR (K : PySem.W.Frag) (B F H : Hp) (o : Option V) : Slot → Prop
  | .un => True
  | .val d => ∃ v, o = some v ∧ Rep K F d v
  | .own d => ∃ a ho, o = some (.ref a) ∧ F a = none ∧ B a = none ∧ H a = some ho ∧ OwnH K F d ho

/-- what a body starts from: the heap that is to be kept, the address of the object in slot 0 that may be changed -/
structure Bx where
  B : Hp
  io : Option Addr
  F0 : Hp

structure ER (K : PySem.W.Frag) (bx : Bx) (F : Hp) (env : List Slot) (σ : L2.St) (H : Hp) : Prop where
  sb : Same bx.B H
  sf : Same F H
  len : env.length = σ.length
  slots : ∀ (i : Nat) (s : Slot), env[i]? = some s → ∃ o, σ[i]? = some o ∧ SlotR K bx.B F H o s
  sep : ∀ (i j : Nat) d e a, env[i]? = some (.own d) → env[j]? = some (.own e) → σ[i]? = some (some (.ref a)) → σ[j]? = some (some (.ref a)) → i = j
  io : ∀ a, bx.io = some a → σ[0]? = some (some (.ref a)) ∧ ∃ d, env[0]? = some (.own d)
  f0 : Same bx.F0 F
  fz : ∀ a, bx.F0 a = none → bx.B a ≠ none → F a = none

section
variable {K : PySem.W.Frag} {bx : Bx} {F F' H H' : Hp} {env : List Slot} {σ : L2.St}
theorem ER.bh (R : ER K bx F env σ H) {a : Addr} (h : bx.B a ≠ none) : H a ≠ none := by
  cases e : bx.B a with
  | none => exact absurd e h
  | some o => rw [R.sb a o e]; simp
/-- the heap grows or a frozen part is added: nothing that is owned is touched -/
theorem ER.grow (R : ER K bx F env σ H) (e : Same F F') (sf : Same F' H') (sh : Same H H') (hn : ∀ a, F a = none → H a ≠ none → F' a = none) : ER K bx F' env σ H' where
  sb := fun b o z => sh _ _ (R.sb b o z)
  sf := sf
  len := R.len
  slots := fun i s z => by
    obtain ⟨o, h1, h2⟩ := R.slots i s z
    refine ⟨o, h1, ?_⟩
    cases s with
    | un => trivial
    | val d => obtain ⟨v, h3, h4⟩ := h2; exact ⟨v, h3, Rep.mono e _ _ h4⟩
    | own d => obtain ⟨a, ho, h3, h4, h5, h6, h7⟩ := h2; exact ⟨a, ho, h3, hn a h4 (by rw [h6]; simp), h5, sh _ _ h6, OwnH.mono e h7⟩
  sep := R.sep
  io := R.io
  f0 := R.f0.trans e
  fz := fun a h1 h2 => hn a (R.fz a h1 h2) (R.bh h2)
/-- a new object, frozen at once -/
theorem ER.laid {p : Addr} {o : HO} (R : ER K bx F env σ H) (hp : H p = none) : ER K bx (upd F p o) env σ (upd H p o) :=
  R.grow (same_upd (R.sf.free hp)) (same_updb R.sf) (same_upd hp) fun a h1 h2 => by
    rw [upd_ne (fun z => h2 (by rw [z]; exact hp))]; exact h1
/-- .. not frozen -/
theorem ER.laid0 {p : Addr} {o : HO} (R : ER K bx F env σ H) (hp : H p = none) : ER K bx F env σ (upd H p o) :=
  R.grow (Same.refl _) (same_upd2 R.sf (R.sf.free hp)) (same_upd hp) fun a h1 h2 => h1
end

/-! ### readings over pure data -/
abbrev XD := D → List Slot → Prop
abbrev RE := List Slot → (D → List Slot → Prop) → Prop
abbrev RB := List Slot → (Bool → List Slot → Prop) → Prop
abbrev RA := List Slot → (List D → List Slot → Prop) → Prop
structure PEnds where
  nx : List Slot → Prop
  rt : D → List Slot → Prop
  bk : List Slot → Prop := fun _ => False
  ct : List Slot → Prop := fun _ => False
abbrev RS := PEnds → List Slot → Prop
section
variable (K : PySem.W.Frag) (bx : Bx)
def up (t : RE) : TE := fun σ H Q' => ∃ env F Q, ER K bx F env σ H ∧ t env Q ∧
  ∀ d v env' F' H', Same F F' → ER K bx F' env' σ H' → Rep K F' d v → Q d env' → Q' v H'
/-- an object at a that is new and nobody's -/
structure Lone (bx : Bx) (F : Hp) (env : List Slot) (σ : L2.St) (H : Hp) (a : Addr) : Prop where
  f : F a = none
  b : bx.B a = none
  h : H a ≠ none
  o : ∀ (i : Nat) d, env[i]? = some (.own d) → σ[i]? ≠ some (some (.ref a))
def upN (t : RE) : TE := fun σ H Q' => ∃ env F Q, ER K bx F env σ H ∧ t env Q ∧
  ∀ d a ho env' F' H', Same F F' → ER K bx F' env' σ H' → Lone bx F' env' σ H' a → H' a = some ho → OwnH K F' d ho → Q d env' → Q' (.ref a) H'
def upT (t : RB) : TT := fun σ H Q' => ∃ env F Q, ER K bx F env σ H ∧ t env Q ∧
  ∀ b env' F' H', Same F F' → ER K bx F' env' σ H' → Q b env' → Q' b H'
def upA (t : RA) : TA := fun σ H Q' => ∃ env F Q, ER K bx F env σ H ∧ t env Q ∧
  ∀ ds vs env' F' H', Same F F' → ER K bx F' env' σ H' → RepL K F' ds vs → Q ds env' → Q' vs H'
def upS (t : RS) : TS := fun Dn σ H => ∃ env F en, ER K bx F env σ H ∧ t en env ∧
  (∀ env' F' σ' H', Same F F' → ER K bx F' env' σ' H' → en.nx env' → Dn.nx σ' H') ∧
  (∀ d v env' F' σ' H', Same F F' → ER K bx F' env' σ' H' → Rep K F' d v → en.rt d env' → Dn.rt v H') ∧
  (∀ env' F' σ' H', Same F F' → ER K bx F' env' σ' H' → en.bk env' → Dn.bk σ' H') ∧
  (∀ env' F' σ' H', Same F F' → ER K bx F' env' σ' H' → en.ct env' → Dn.ct σ' H')
end
abbrev QE (X : Cx) (bx : Bx) (e : Expr) (t : RE) : Prop := L2.PE X e (up X.K bx t)
abbrev QN (X : Cx) (bx : Bx) (e : Expr) (t : RE) : Prop := L2.PE X e (upN X.K bx t)
abbrev QT (X : Cx) (bx : Bx) (e : Expr) (t : RB) : Prop := L2.PT X e (upT X.K bx t)
abbrev QW (X : Cx) (bx : Bx) (e : Expr) (t : RB) : Prop := L2.PW X e (upT X.K bx t)
abbrev QA (X : Cx) (bx : Bx) (es : List Expr) (t : RA) : Prop := L2.PA X es (upA X.K bx t)
abbrev QS (X : Cx) (bx : Bx) (st : Stmt) (t : RS) : Prop := L2.PS X st (upS X.K bx t)
abbrev QSs (X : Cx) (bx : Bx) (st : List Stmt) (t : RS) : Prop := L2.PSs X st (upS X.K bx t)

section
variable {X : Cx} {bx : Bx} {e a b : Expr}
theorem pe_imp {t t' : TE} (h : L2.PE X e t) (i : ∀ σ H Q, t' σ H Q → t σ H Q) : L2.PE X e t' := ⟨fun pins s σ H Q I q => h.run pins s σ H Q I (i σ H Q q)⟩
theorem pt_imp {t t' : TT} (h : L2.PT X e t) (i : ∀ σ H Q, t' σ H Q → t σ H Q) : L2.PT X e t' := ⟨fun pins s σ H Q I q => h.run pins s σ H Q I (i σ H Q q)⟩
theorem pw_imp {t t' : TT} (h : L2.PW X e t) (i : ∀ σ H Q, t' σ H Q → t σ H Q) : L2.PW X e t' := ⟨fun wh pins s σ H Q I q => h.run wh pins s σ H Q I (i σ H Q q)⟩
theorem pa_imp {es : List Expr} {t t' : TA} (h : L2.PA X es t) (i : ∀ σ H Q, t' σ H Q → t σ H Q) : L2.PA X es t' := ⟨fun pos pins s σ H Q I q => h.run pos pins s σ H Q I (i σ H Q q)⟩
theorem ps_imp {st : Stmt} {t t' : TS} (h : L2.PS X st t) (i : ∀ D σ H, t' D σ H → t D σ H) : L2.PS X st t' := ⟨fun pins s σ H D I q => h.run pins s σ H D I (i D σ H q)⟩
theorem pss_imp {st : List Stmt} {t t' : TS} (h : L2.PSs X st t) (i : ∀ D σ H, t' D σ H → t D σ H) : L2.PSs X st t' := ⟨fun pins s σ H D I q => h.run pins s σ H D I (i D σ H q)⟩

/-! ### how the heap may grow -/
structure Grow (F H F' H' : Hp) : Prop where
  e : Same F F'
  sf : Same F' H'
  sh : Same H H'
  hn : ∀ a, F a = none → H a ≠ none → F' a = none
theorem Grow.refl {F H : Hp} (s : Same F H) : Grow F H F H := ⟨Same.refl _, s, Same.refl _, fun _ h _ => h⟩
theorem Grow.laid {F H : Hp} {p : Addr} {o : HO} (s : Same F H) (hp : H p = none) : Grow F H (upd F p o) (upd H p o) :=
  ⟨same_upd (s.free hp), same_updb s, same_upd hp, fun a h1 h2 => by rw [upd_ne (fun z => h2 (by rw [z]; exact hp))]; exact h1⟩
theorem Grow.laid0 {F H : Hp} {p : Addr} {o : HO} (s : Same F H) (hp : H p = none) : Grow F H F (upd H p o) :=
  ⟨Same.refl _, same_upd2 s (s.free hp), same_upd hp, fun a h1 h2 => h1⟩
theorem Grow.trans {F H F1 H1 F2 H2 : Hp} (a : Grow F H F1 H1) (b : Grow F1 H1 F2 H2) : Grow F H F2 H2 :=
  ⟨a.e.trans b.e, b.sf, a.sh.trans b.sh, fun x h1 h2 => b.hn x (a.hn x h1 h2) (fun z => h2 (a.sh.free z))⟩
theorem ER.to {K : PySem.W.Frag} {F H F' H' : Hp} {env : List Slot} {σ : L2.St} (R : ER K bx F env σ H) (g : Grow F H F' H') : ER K bx F' env σ H' := R.grow g.e g.sf g.sh g.hn
theorem ER.lone {K : PySem.W.Frag} {F H : Hp} {env : List Slot} {σ : L2.St} {p : Addr} {o : HO} (R : ER K bx F env σ H) (hp : H p = none) : Lone bx F env σ (upd H p o) p :=
  ⟨R.sf.free hp, R.sb.free hp, by rw [upd_same]; simp, fun i d h z => by
    obtain ⟨o, h1, a, ho, h2, h3, h4, h5, h6⟩ := R.slots i _ h
    rw [z] at h1; cases h1; cases h2
    rw [hp] at h5; cases h5⟩
/-- what is nobody's may be frozen -/
theorem ER.freeze {K : PySem.W.Frag} {F H : Hp} {env : List Slot} {σ : L2.St} {p : Addr} {o : HO} (R : ER K bx F env σ H) (l : Lone bx F env σ H p) (hp : H p = some o) : ER K bx (upd F p o) env σ H where
  sb := R.sb
  sf := same_upd3 R.sf hp
  len := R.len
  slots := fun i s z => by
    obtain ⟨q, h1, h2⟩ := R.slots i s z
    refine ⟨q, h1, ?_⟩
    cases s with
    | un => trivial
    | val d => obtain ⟨v, h3, h4⟩ := h2; exact ⟨v, h3, Rep.mono (same_upd l.f) _ _ h4⟩
    | own d =>
      obtain ⟨a, ho, h3, h4, h5, h6, h7⟩ := h2
      refine ⟨a, ho, h3, ?_, h5, h6, OwnH.mono (same_upd l.f) h7⟩
      rw [upd_ne (fun e => l.o i d z (by rw [h1, h3, e]))]
      exact h4
  sep := R.sep
  io := R.io
  f0 := R.f0.trans (same_upd l.f)
  fz := fun a h1 h2 => by
    rw [upd_ne (fun e => h2 (by rw [e]; exact l.b))]
    exact R.fz a h1 h2
/-- a new object as a datum -/
theorem QN.qe {t : RE} (h : QN X bx e t) : QE X bx e t := pe_imp h fun σ H Q' ⟨env, F, Q, R, ht, k⟩ => ⟨env, F, Q, R, ht, fun d a ho env' F' H' s R' l ha o q =>
  k d (.ref a) env' (upd F' a ho) H' (s.trans (same_upd l.f)) (R'.freeze l ha) (OwnH.rep l.f o) q⟩

/-! ### names and constants -/
def rVar (i : Nat) : RE := fun env Q => match env[i]? with
  | some (.val d) => Q d env
  | _ => False
theorem q_var {i : Nat} (h : L2.PE X e (tVar i)) : QE X bx e (rVar i) := pe_imp h fun σ H Q' ⟨env, F, Q, R, ht, k⟩ => by
  unfold rVar at ht
  split at ht
  · rename_i d hd
    obtain ⟨o, h1, v, h2, h3⟩ := R.slots i _ hd
    exact ⟨v, by rw [h1, h2], k d v env F H (Same.refl _) R h3 ht⟩
  · exact ht.elim
end
end QL
set_option Elab.async false
set_option linter.all false
set_option maxRecDepth 100000
namespace QL
open PySem PySem.Spec PyProof.Rows L2
/-! ### operators by values -/
def Gr (K : PySem.W.Frag) (F H : Hp) (Q : D → Prop) (Q' : VK) : Prop := ∀ z u F' H', Grow F H F' H' → Rep K F' z u → Q z → Q' u H'
def GrN (K : PySem.W.Frag) (F H : Hp) (Q : D → Prop) (Q' : VK) : Prop := ∀ d ho p, H p = none → OwnH K F d ho → Q d → Q' (.ref p) (upd H p ho)
theorem Gr.flat {K : PySem.W.Frag} {F H : Hp} {Q : D → Prop} {Q' : VK} (g : Gr K F H Q Q') (s : Same F H) {z : D} {u : V} (r : Rep K F z u) (q : Q z) : Q' u H := g z u F H (Grow.refl s) r q
theorem Gr.toN {K : PySem.W.Frag} {F H : Hp} {Q : D → Prop} {Q' : VK} (g : Gr K F H Q Q') (s : Same F H) : GrN K F H Q Q' := fun d ho p hp o q =>
  g d (.ref p) (upd F p ho) (upd H p ho) (Grow.laid s hp) (OwnH.rep (s.free hp) o) q
/-- a new tuple -/
theorem Gr.tup {K : PySem.W.Frag} {F H : Hp} {Q : D → Prop} {Q' : VK} (g : Gr K F H Q Q') (s : Same F H) {xs : List D} {vs : List V} (r : RepL K F xs vs) (q : Q (.tup xs)) {p : Addr} (hp : H p = none) : Q' (.ref p) (upd H p (.tup vs)) :=
  g (.tup xs) (.ref p) _ _ (Grow.laid s hp) ⟨p, vs, rfl, .inl (.inl upd_same), RepL.mono (same_upd (s.free hp)) _ _ r⟩ q
theorem Gr.i {K : PySem.W.Frag} {F H : Hp} {Q : D → Prop} {Q' : VK} (g : Gr K F H Q Q') (s : Same F H) {i : Int} (q : Q (.int i)) : Q' (.int i) H := g.flat s (z := .int i) rfl q
theorem Gr.b {K : PySem.W.Frag} {F H : Hp} {Q : D → Prop} {Q' : VK} (g : Gr K F H Q Q') (s : Same F H) {i : Bool} (q : Q (.bl i)) : Q' (.bl i) H := g.flat s (z := .bl i) rfl q
theorem Gr.n {K : PySem.W.Frag} {F H : Hp} {Q : D → Prop} {Q' : VK} (g : Gr K F H Q Q') (s : Same F H) (q : Q .non) : Q' .non H := g.flat s (z := .non) rfl q
theorem Gr.s {K : PySem.W.Frag} {F H : Hp} {Q : D → Prop} {Q' : VK} (g : Gr K F H Q Q') (s : Same F H) {i : Str} (q : Q (.str i)) : Q' (.str i) H := g.flat s (z := .str i) rfl q
theorem GrN.lst {K : PySem.W.Frag} {F H : Hp} {Q : D → Prop} {Q' : VK} (g : GrN K F H Q Q') {xs : List D} {vs : List V} (r : RepL K F xs vs) (q : Q (.lst xs)) {p : Addr} (hp : H p = none) : Q' (.ref p) (upd H p (.lst vs)) :=
  g (.lst xs) (.lst vs) p hp ⟨vs, rfl, r⟩ q
theorem Gr.lst {K : PySem.W.Frag} {F H : Hp} {Q : D → Prop} {Q' : VK} (g : Gr K F H Q Q') (s : Same F H) {xs : List D} {vs : List V} (r : RepL K F xs vs) (q : Q (.lst xs)) {p : Addr} (hp : H p = none) : Q' (.ref p) (upd H p (.lst vs)) := (g.toN s).lst r q hp
abbrev V1 := D → (D → Prop) → Prop
abbrev V2 := D → D → (D → Prop) → Prop
abbrev VL := List D → (D → Prop) → Prop
def upV1 (K : PySem.W.Frag) (r : V1) : V → Hp → VK → Prop := fun v H Q' => ∃ F d Q, Same F H ∧ Rep K F d v ∧ r d Q ∧ Gr K F H Q Q'
def upV2 (K : PySem.W.Frag) (r : V2) : R2 := fun v w H Q' => ∃ F d e Q, Same F H ∧ Rep K F d v ∧ Rep K F e w ∧ r d e Q ∧ Gr K F H Q Q'
def upN2 (K : PySem.W.Frag) (r : V2) : R2 := fun v w H Q' => ∃ F d e Q, Same F H ∧ Rep K F d v ∧ Rep K F e w ∧ r d e Q ∧ GrN K F H Q Q'
def upVL (K : PySem.W.Frag) (r : VL) : List V → Hp → VK → Prop := fun vs H Q' => ∃ F ds Q, Same F H ∧ RepL K F ds vs ∧ r ds Q ∧ Gr K F H Q Q'
def upNL (K : PySem.W.Frag) (r : VL) : List V → Hp → VK → Prop := fun vs H Q' => ∃ F ds Q, Same F H ∧ RepL K F ds vs ∧ r ds Q ∧ GrN K F H Q Q'
section
variable {X : Cx} {bx : Bx} {e a b : Expr} {ta tb : RE} {pos : Pos}

theorem OpR.imp {f : Value → Value → Sem Value} {r r' : R2} (h : OpR X f r) (i : ∀ x y H Q, r' x y H Q → r x y H Q) : OpR X f r' := fun pins s σ H x y v u Q I rx ry q => h pins s σ H x y v u Q I rx ry (i _ _ _ _ q)
theorem CallR.imp {f : Value} {r r' : List V → Hp → VK → Prop} (h : CallR X f r) (i : ∀ x H Q, r' x H Q → r x H Q) : CallR X f r' := fun pins s σ H x us Q I r0 q => h pins s σ H x us Q I r0 (i _ _ _ q)
theorem opN_V {f : Value → Value → Sem Value} {r : V2} (h : OpR X f (upN2 X.K r)) : OpR X f (upV2 X.K r) := OpR.imp h fun x y H Q' ⟨F, d, e, Q, s, r1, r2, h, g⟩ => ⟨F, d, e, Q, s, r1, r2, h, g.toN s⟩
theorem callN_V {f : Value} {r : VL} (h : CallR X f (upNL X.K r)) : CallR X f (upVL X.K r) := CallR.imp h fun x H Q' ⟨F, d, Q, s, r1, h, g⟩ => ⟨F, d, Q, s, r1, h, g.toN s⟩

/-! readings -/
def rC (d : D) : RE := fun env Q => Q d env
def rOp (r : V2) (ta tb : RE) : RE := fun env Q => ta env fun d env1 => tb env1 fun e env2 => r d e fun z => Q z env2
def rUn (r : V1) (ta : RE) : RE := fun env Q => ta env fun d env1 => r d fun z => Q z env1
theorem q_con {d : D} {v : V} (h : L2.PE X e (tC v)) (r : ∀ K F, Rep K F d v) : QE X bx e (rC d) := pe_imp h fun σ H Q' ⟨env, F, Q, R, ht, k⟩ => k d v env F H (Same.refl _) R (r _ _) ht
theorem q_int {i j pos} : QE X bx (.Constant (.int i) j pos) (rC (.int i)) := q_con pe_int fun _ _ => rfl
theorem q_bl {i j pos} : QE X bx (.Constant (.bool i) j pos) (rC (.bl i)) := q_con pe_bl fun _ _ => rfl
theorem q_non {j pos} : QE X bx (.Constant .none j pos) (rC .non) := q_con pe_non fun _ _ => rfl
theorem q_str {i j pos} : QE X bx (.Constant (.str i) j pos) (rC (.str i)) := q_con pe_str fun _ _ => rfl
theorem op_up {r : V2} {ta tb : RE} {σ : L2.St} {H : Hp} {Q' : VK} : up X.K bx (rOp r ta tb) σ H Q' → tOp (upV2 X.K r) (up X.K bx ta) (up X.K bx tb) σ H Q' := fun ⟨env, F, Q, R, ht, k⟩ =>
  ⟨env, F, _, R, ht, fun d v env1 F1 H1 s1 R1 r1 q1 => ⟨env1, F1, _, R1, q1, fun d2 w env2 F2 H2 s2 R2 r2 q2 => ⟨F2, d, d2, _, R2.sf, Rep.mono s2 _ _ r1, r2, q2, fun z u F3 H3 g r3 q3 =>
    k z u env2 F3 H3 ((s1.trans s2).trans g.e) (R2.to g) r3 q3⟩⟩⟩
theorem op_upN {r : V2} {ta tb : RE} {σ : L2.St} {H : Hp} {Q' : VK} : upN X.K bx (rOp r ta tb) σ H Q' → tOp (upN2 X.K r) (up X.K bx ta) (up X.K bx tb) σ H Q' := fun ⟨env, F, Q, R, ht, k⟩ =>
  ⟨env, F, _, R, ht, fun d v env1 F1 H1 s1 R1 r1 q1 => ⟨env1, F1, _, R1, q1, fun d2 w env2 F2 H2 s2 R2 r2 q2 => ⟨F2, d, d2, _, R2.sf, Rep.mono s2 _ _ r1, r2, q2, fun z ho p hp o q3 =>
    k z p ho env2 F2 (upd H2 p ho) (s1.trans s2) (R2.laid0 hp) (R2.lone hp) upd_same o q3⟩⟩⟩
theorem q_op {op : Operator} {r : V2} (ho : OpR X (binaryOp op) (upV2 X.K r)) (ha : QE X bx a ta) (hb : QE X bx b tb) : QE X bx (.BinOp a op b pos) (rOp r ta tb) := pe_imp (pe_op ho ha hb) fun _ _ _ => op_up
theorem q_opN {op : Operator} {r : V2} (ho : OpR X (binaryOp op) (upN2 X.K r)) (ha : QE X bx a ta) (hb : QE X bx b tb) : QN X bx (.BinOp a op b pos) (rOp r ta tb) := pe_imp (pe_op ho ha hb) fun _ _ _ => op_upN
theorem q_un {op : UnaryOp} {r : V1} (ho : UnR X (unaryOp op) (upV1 X.K r)) (ha : QE X bx a ta) : QE X bx (.UnaryOp op a pos) (rUn r ta) := pe_imp (pe_un ho ha) fun σ H Q' ⟨env, F, Q, R, ht, k⟩ =>
  ⟨env, F, _, R, ht, fun d v env1 F1 H1 s1 R1 r1 q1 => ⟨F1, d, _, R1.sf, r1, q1, fun z u F3 H3 g r3 q3 => k z u env1 F3 H3 (s1.trans g.e) (R1.to g) r3 q3⟩⟩
theorem q_cmp {op : CmpOp} {r : V2} (ho : OpR X (compareOp op) (upV2 X.K r)) (ha : QE X bx a ta) (hb : QE X bx b tb) (hm : behindInMarks op b = false := by first | exact nomark _ | rfl) : QE X bx (.Compare a [op] [b] pos) (rOp r ta tb) :=
  pe_imp (pe_cmpR ho ha hb hm) fun _ _ _ => op_up
/-- a comparison whose answer is a bool, as a test -/
def rTst (t : RE) : RB := fun env Q => t env fun d env1 => match d with | .bl k => Q k env1 | _ => False
theorem tst_up {t : RE} {σ : L2.St} {H : Hp} {Q' : Bool → Hp → Prop} : upT X.K bx (rTst t) σ H Q' → up X.K bx t σ H fun x H' => ∃ k, x = .bl k ∧ Q' k H' := fun ⟨env, F, Q, R, ht, k⟩ =>
  ⟨env, F, _, R, ht, fun d v env1 F1 H1 s1 R1 r1 q1 => by
    cases d with
    | bl c => exact ⟨c, r1, k c env1 F1 H1 s1 R1 q1⟩
    | _ => exact q1.elim⟩
theorem up_mono {t : RE} {σ : L2.St} {H : Hp} {Q1 Q2 : VK} (h : up X.K bx t σ H Q1) (i : ∀ v H, Q1 v H → Q2 v H) : up X.K bx t σ H Q2 := by
  obtain ⟨env, F, Q, R, ht, k⟩ := h
  exact ⟨env, F, Q, R, ht, fun d v env' F' H' s R' r q => i _ _ (k d v env' F' H' s R' r q)⟩
theorem qt_cmp {op : CmpOp} {r : V2} (ho : OpR X (compareOp op) (upV2 X.K r)) (ha : QE X bx a ta) (hb : QE X bx b tb) (hm : behindInMarks op b = false := by first | exact nomark _ | rfl) : QT X bx (.Compare a [op] [b] pos) (rTst (rOp r ta tb)) :=
  pt_imp (pt_cmpR ho ha hb hm) fun σ H Q' h => op_up (tst_up h)

/-! ### truth -/
def truD : D → Option Bool
  | .non => some false
  | .bl b => some b
  | .int i => some (i != 0)
  | .tup xs => some (!xs.isEmpty)
  | .lst xs => some (!xs.isEmpty)
  | .scr ns => some (!ns.isEmpty)
  | _ => none
theorem RepL.isEmpty {K : PySem.W.Frag} {F : Hp} : ∀ {xs : List D} {vs : List V}, RepL K F xs vs → xs.isEmpty = vs.isEmpty
  | [], _, h => by rw [show _ = [] from h]; rfl
  | _ :: _, _, ⟨v, r, h1, _, _⟩ => by rw [h1]; rfl
theorem tru_of {K : PySem.W.Frag} {F H : Hp} (s : Same F H) : ∀ {d : D} {v : V} {k : Bool}, Rep K F d v → truD d = some k → TruV K v H k
  | .non, _, _, r, e => by rw [show _ = V.non from r]; exact (Option.some.inj e).symm
  | .bl b, _, _, r, e => by rw [show _ = V.bl b from r]; exact (Option.some.inj e).symm
  | .int b, _, _, r, e => by rw [show _ = V.int b from r]; exact (Option.some.inj e).symm
  | .tup xs, _, _, ⟨a, vs, h1, h2, h3⟩, e => by rw [h1]; exact .inr (.inl ⟨vs, same_sqt s h2, by rw [← RepL.isEmpty h3]; exact (Option.some.inj e).symm⟩)
  | .lst xs, _, _, ⟨a, vs, h1, h2, h3⟩, e => by rw [h1]; exact .inl ⟨vs, .inl (.inl (s _ _ h2)), by rw [← RepL.isEmpty h3]; exact (Option.some.inj e).symm⟩
  | .scr xs, _, _, ⟨a, h1, h2⟩, e => by rw [h1]; exact .inl ⟨_, s.seq h2, by rw [List.isEmpty_map]; exact (Option.some.inj e).symm⟩
  | .str _, _, _, _, e => nomatch e
  | .raw _, _, _, _, e => nomatch e
  | .dic _ _, _, _, _, e => nomatch e
  | .obj _ _ _, _, _, _, e => nomatch e
def rTru (t : RE) : RB := fun env Q => t env fun d env1 => match truD d with | some k => Q k env1 | none => False
theorem qt_tru (ha : QE X bx a ta) (he : ∀ whole, isTrue a X.env whole = (do let v ← whole; standAt a.pos; holding [v] (truthy v)) := by intro _; rfl) : QT X bx a (rTru ta) :=
  pt_imp (pt_truth ha he) fun σ H Q' ⟨env, F, Q, R, ht, k⟩ => ⟨env, F, _, R, ht, fun d v env1 F1 H1 s1 R1 r1 q1 => by
    split at q1
    · rename_i c hc
      exact ⟨c, tru_of R1.sf r1 hc, k c env1 F1 H1 s1 R1 q1⟩
    · exact q1.elim⟩
def rNotT (t : RB) : RB := fun env Q => t env fun b env1 => Q (!b) env1
theorem qt_not {t : RB} (h : QT X bx a t) : QT X bx (.UnaryOp .Not a pos) (rNotT t) := pt_imp (pt_not h) fun σ H Q' ⟨env, F, Q, R, ht, k⟩ => ⟨env, F, _, R, ht, fun b env1 F1 H1 s1 R1 q1 => k (!b) env1 F1 H1 s1 R1 q1⟩
def rAndT (t u : RB) : RB := fun env Q => t env fun b env1 => if b = true then u env1 Q else Q false env1
def rOrT (t u : RB) : RB := fun env Q => t env fun b env1 => if b = true then Q true env1 else u env1 Q
theorem qw_and1 {t : RB} (h : QT X bx a t) : QW X bx (.BoolOp .And [a] pos) t := pw_and1 h
theorem qw_or1 {t : RB} (h : QT X bx a t) : QW X bx (.BoolOp .Or [a] pos) t := pw_or1 h
theorem qw_and {t u : RB} {rest : List Expr} (h : QT X bx a t) (g : QW X bx (.BoolOp .And (b :: rest) pos) u) : QW X bx (.BoolOp .And (a :: b :: rest) pos) (rAndT t u) := pw_imp (pw_and h g) fun σ H Q' ⟨env, F, Q, R, ht, k⟩ => ⟨env, F, _, R, ht, fun c env1 F1 H1 s1 R1 q1 => by
    cases c with
    | true => rw [if_pos rfl] at q1 ⊢; exact ⟨env1, F1, Q, R1, q1, fun c2 env2 F2 H2 s2 R2 q2 => k c2 env2 F2 H2 (s1.trans s2) R2 q2⟩
    | false => rw [if_neg Bool.false_ne_true] at q1 ⊢; exact k false env1 F1 H1 s1 R1 q1⟩
theorem qw_or {t u : RB} {rest : List Expr} (h : QT X bx a t) (g : QW X bx (.BoolOp .Or (b :: rest) pos) u) : QW X bx (.BoolOp .Or (a :: b :: rest) pos) (rOrT t u) := pw_imp (pw_or h g) fun σ H Q' ⟨env, F, Q, R, ht, k⟩ => ⟨env, F, _, R, ht, fun c env1 F1 H1 s1 R1 q1 => by
    cases c with
    | false => rw [if_neg Bool.false_ne_true] at q1 ⊢; exact ⟨env1, F1, Q, R1, q1, fun c2 env2 F2 H2 s2 R2 q2 => k c2 env2 F2 H2 (s1.trans s2) R2 q2⟩
    | true => rw [if_pos rfl] at q1 ⊢; exact k true env1 F1 H1 s1 R1 q1⟩
theorem qt_w {t : RB} (h : QW X bx a t) : QT X bx a t := h.pt
/-- and, or, not, as values -/
def rAnd (t u : RE) : RE := fun env Q => t env fun d env1 => match truD d with | some k => (if k = true then u env1 Q else Q d env1) | none => False
def rOr (t u : RE) : RE := fun env Q => t env fun d env1 => match truD d with | some k => (if k = true then Q d env1 else u env1 Q) | none => False
def rNot (t : RE) : RE := fun env Q => t env fun d env1 => match truD d with | some k => Q (.bl (!k)) env1 | none => False
theorem q_one {op} {t : RE} (h : QE X bx a t) : QE X bx (.BoolOp op [a] pos) t := pe_one h
theorem q_and {t u : RE} {rest : List Expr} (h : QE X bx a t) (g : QE X bx (.BoolOp .And (b :: rest) pos) u) : QE X bx (.BoolOp .And (a :: b :: rest) pos) (rAnd t u) := pe_imp (pe_andT h g) fun σ H Q' ⟨env, F, Q, R, ht, k⟩ => ⟨env, F, _, R, ht, fun d v env1 F1 H1 s1 R1 r1 q1 => by
    split at q1
    · rename_i c hc
      refine ⟨c, tru_of R1.sf r1 hc, ?_⟩
      cases c with
      | true => rw [if_pos rfl] at q1 ⊢; exact ⟨env1, F1, Q, R1, q1, fun d2 v2 env2 F2 H2 s2 R2 r2 q2 => k d2 v2 env2 F2 H2 (s1.trans s2) R2 r2 q2⟩
      | false => rw [if_neg Bool.false_ne_true] at q1 ⊢; exact k d v env1 F1 H1 s1 R1 r1 q1
    · exact q1.elim⟩
theorem q_or {t u : RE} {rest : List Expr} (h : QE X bx a t) (g : QE X bx (.BoolOp .Or (b :: rest) pos) u) : QE X bx (.BoolOp .Or (a :: b :: rest) pos) (rOr t u) := pe_imp (pe_orT h g) fun σ H Q' ⟨env, F, Q, R, ht, k⟩ => ⟨env, F, _, R, ht, fun d v env1 F1 H1 s1 R1 r1 q1 => by
    split at q1
    · rename_i c hc
      refine ⟨c, tru_of R1.sf r1 hc, ?_⟩
      cases c with
      | false => rw [if_neg Bool.false_ne_true] at q1 ⊢; exact ⟨env1, F1, Q, R1, q1, fun d2 v2 env2 F2 H2 s2 R2 r2 q2 => k d2 v2 env2 F2 H2 (s1.trans s2) R2 r2 q2⟩
      | true => rw [if_pos rfl] at q1 ⊢; exact k d v env1 F1 H1 s1 R1 r1 q1
    · exact q1.elim⟩
theorem q_not {t : RE} (h : QE X bx a t) : QE X bx (.UnaryOp .Not a pos) (rNot t) := pe_imp (pe_notT h) fun σ H Q' ⟨env, F, Q, R, ht, k⟩ => ⟨env, F, _, R, ht, fun d v env1 F1 H1 s1 R1 r1 q1 => by
    split at q1
    · rename_i c hc
      exact ⟨c, tru_of R1.sf r1 hc, k (.bl (!c)) (.bl (!c)) env1 F1 H1 s1 R1 rfl q1⟩
    · exact q1.elim⟩
def rIf (c : RB) (t u : RE) : RE := fun env Q => c env fun b env1 => if b = true then t env1 Q else u env1 Q
theorem q_if {c : RB} {t u : RE} {ec : Expr} (hc : QT X bx ec c) (h : QE X bx a t) (g : QE X bx b u) : QE X bx (.IfExp ec a b pos) (rIf c t u) := pe_imp (pe_ifExp hc h g) fun σ H Q' ⟨env, F, Q, R, ht, k⟩ => ⟨env, F, _, R, ht, fun c env1 F1 H1 s1 R1 q1 => by
    cases c with
    | true => rw [if_pos rfl] at q1 ⊢; exact ⟨env1, F1, Q, R1, q1, fun d2 v2 env2 F2 H2 s2 R2 r2 q2 => k d2 v2 env2 F2 H2 (s1.trans s2) R2 r2 q2⟩
    | false => rw [if_neg Bool.false_ne_true] at q1 ⊢; exact ⟨env1, F1, Q, R1, q1, fun d2 v2 env2 F2 H2 s2 R2 r2 q2 => k d2 v2 env2 F2 H2 (s1.trans s2) R2 r2 q2⟩⟩
/-- a < b < c -/
def rChain (r r' : V2) (ta tb tc : RE) : RE := fun env Q => ta env fun d env1 => tb env1 fun e env2 => r d e fun z => match z with | .bl k => (if k = true then tc env2 fun w env3 => r' e w fun z => Q z env3 else Q (.bl false) env2) | _ => False
theorem chain_up {r r' : V2} {ta tb tc : RE} {σ : L2.St} {H : Hp} {Q' : VK} : up X.K bx (rChain r r' ta tb tc) σ H Q' → tChain (upV2 X.K r) (upV2 X.K r') (up X.K bx ta) (up X.K bx tb) (up X.K bx tc) σ H Q' := fun ⟨env, F, Q, R, ht, k⟩ =>
  ⟨env, F, _, R, ht, fun d v env1 F1 H1 s1 R1 r1 q1 => ⟨env1, F1, _, R1, q1, fun d2 w env2 F2 H2 s2 R2 r2 q2 => ⟨F2, d, d2, _, R2.sf, Rep.mono s2 _ _ r1, r2, q2, fun z u F3 H3 g r3 q3 => by
    cases z with
    | bl c =>
      refine ⟨c, r3, ?_⟩
      cases c with
      | true =>
        rw [if_pos rfl]
        have q3 := (if_pos rfl).mp q3
        exact ⟨env2, F3, _, R2.to g, q3, fun d4 v4 env4 F4 H4 s4 R4 r4 q4 => ⟨F4, d2, d4, _, R4.sf, Rep.mono (g.e.trans s4) _ _ r2, r4, q4, fun z u F5 H5 g5 r5 q5 =>
          k z u env4 F5 H5 ((((s1.trans s2).trans g.e).trans s4).trans g5.e) (R4.to g5) r5 q5⟩⟩
      | false =>
        rw [if_neg Bool.false_ne_true]
        have q3 := (if_neg Bool.false_ne_true).mp q3
        exact k (.bl false) (.bl false) env2 F3 H3 ((s1.trans s2).trans g.e) (R2.to g) rfl q3
    | _ => exact q3.elim⟩⟩⟩
theorem q_chain {op op' : CmpOp} {r r' : V2} {c : Expr} {tc : RE} (ho : OpR X (compareOp op) (upV2 X.K r)) (ho' : OpR X (compareOp op') (upV2 X.K r')) (ha : QE X bx a ta) (hb : QE X bx b tb) (hc : QE X bx c tc)
    (hm : lastMarks [op, op'] [b, c] = false := by with_unfolding_all rfl) : QE X bx (.Compare a [op, op'] [b, c] pos) (rChain r r' ta tb tc) := pe_imp (pe_chain ho ho' ha hb hc hm) fun _ _ _ => chain_up
theorem qt_chain {op op' : CmpOp} {r r' : V2} {c : Expr} {tc : RE} (ho : OpR X (compareOp op) (upV2 X.K r)) (ho' : OpR X (compareOp op') (upV2 X.K r')) (ha : QE X bx a ta) (hb : QE X bx b tb) (hc : QE X bx c tc)
    (hm : lastMarks [op, op'] [b, c] = false := by with_unfolding_all rfl) : QT X bx (.Compare a [op, op'] [b, c] pos) (rTst (rChain r r' ta tb tc)) := pt_imp (pt_chain ho ho' ha hb hc hm) fun σ H Q' h => chain_up (tst_up h)
end
end QL
set_option Elab.async false
set_option linter.all false
set_option maxRecDepth 100000
namespace QL
open PySem PySem.Spec PyProof.Rows L2
/-! ### the operators -/
def MOk (i j : Int) : Prop := CMulW i j ∨ CMul i j
def DOk (j : Int) : Prop := 0 < j ∧ j.natAbs.log2 < 9000
def vAdd : V2
  | .int i, .int j, Q => Q (.int (i + j))
  | .lst xs, .lst ys, Q => xs.length + ys.length ≤ sizeLine ∧ Q (.lst (xs ++ ys))
  | .tup xs, .tup ys, Q => (xs ≠ [] ∧ xs.length + ys.length ≤ sizeLine) ∧ Q (.tup (xs ++ ys))
  | .str x, .str y, Q => x.length + y.length ≤ sizeLine ∧ Q (.str (x ++ y))
  | _, _, _ => False
def vAddL : V2
  | .lst xs, .lst ys, Q => xs.length + ys.length ≤ sizeLine ∧ Q (.lst (xs ++ ys))
  | _, _, _ => False
def vSub : V2
  | .int i, .int j, Q => Q (.int (i - j))
  | _, _, _ => False
def vMul : V2
  | .int i, .int j, Q => MOk i j ∧ Q (.int (i * j))
  | .lst xs, .int k, Q => (-(2 ^ 63) ≤ k ∧ k < 2 ^ 63 ∧ xs.length * k.toNat ≤ sizeLine) ∧ Q (.lst (List.replicate k.toNat xs).flatten)
  | _, _, _ => False
def vDiv : V2
  | .int i, .int j, Q => DOk j ∧ Q (.int (i / j))
  | _, _, _ => False
def vMod : V2
  | .int i, .int j, Q => 0 < j ∧ Q (.int (i % j))
  | _, _, _ => False
def vPow : V2
  | .int i, .int j, Q => (0 ≤ j ∧ j ≤ 1000000 ∧ i.natAbs < 2 ^ 64) ∧ Q (.int (i ^ j.toNat))
  | _, _, _ => False
def vShl : V2
  | .int i, .int j, Q => (0 ≤ j ∧ j ≤ 1000000 ∧ i.natAbs < 2 ^ 64) ∧ Q (.int (i * 2 ^ j.toNat))
  | _, _, _ => False
def vShr : V2
  | .int i, .int j, Q => 0 ≤ j ∧ Q (.int (i / 2 ^ j.toNat))
  | _, _, _ => False
def vNeg : V1
  | .int i, Q => Q (.int (-i))
  | _, _ => False
def vLt : V2
  | .int i, .int j, Q => Q (.bl (decide (i < j)))
  | _, _, _ => False
def vLe : V2
  | .int i, .int j, Q => Q (.bl (decide (i ≤ j)))
  | _, _, _ => False
def vGt : V2
  | .int i, .int j, Q => Q (.bl (decide (j < i)))
  | _, _, _ => False
def vGe : V2
  | .int i, .int j, Q => Q (.bl (decide (j ≤ i)))
  | _, _, _ => False
def isNon : D → Bool
  | .non => true
  | _ => false
/-- is None: of data -/
def vIsN : V2
  | .raw _, _, _ => False
  | d, .non, Q => Q (.bl (isNon d))
  | _, _, _ => False
def vNotN : V2
  | .raw _, _, _ => False
  | d, .non, Q => Q (.bl (!isNon d))
  | _, _, _ => False
mutual
def toP : D → PyData
  | .non => .none
  | .bl b => .bool b
  | .int i => .int i
  | .str x => .str x
  | .scr ns => .list (ns.map PyData.int)
  | .tup xs => .tuple (toPs xs)
  | .lst xs => .list (toPs xs)
  | _ => .none
def toPs : List D → List PyData
  | [] => []
  | x :: xs => toP x :: toPs xs
end
mutual
def okP : D → Bool
  | .non => true
  | .bl _ => true
  | .int _ => true
  | .str _ => true
  | .scr _ => true
  | .tup xs => okPs xs
  | .lst xs => okPs xs
  | _ => false
def okPs : List D → Bool
  | [] => true
  | x :: xs => okP x && okPs xs
end
def vEqP (d e : D) (Q : Bool → Prop) : Prop := okP d = true ∧ okP e = true ∧ SeqAt.shaped (toP d) = true ∧ SeqAt.shaped (toP e) = true ∧ Q (PyData.eqv (toP d) (toP e))
def vEq : V2
  | .int i, .int j, Q => Q (.bl (decide (i = j)))
  | .str i, .str j, Q => Q (.bl (decide (i = j)))
  | .bl i, .bl j, Q => Q (.bl (decide (i = j)))
  | d, e, Q => vEqP d e fun b => Q (.bl b)
def vNe : V2
  | .int i, .int j, Q => Q (.bl (!decide (i = j)))
  | .str i, .str j, Q => Q (.bl (!decide (i = j)))
  | .bl i, .bl j, Q => Q (.bl (!decide (i = j)))
  | d, e, Q => vEqP d e fun b => Q (.bl (!b))
section
variable {X : Cx}
section
variable {K : PySem.W.Frag} {F H : Hp} {d e : D} {x y : V} {Q : D → Prop} {Q' : VK}
theorem dp_ints {K : PySem.W.Frag} {H : Hp} : ∀ ns : List Int, DpAll K H (ns.map V.int) (ns.map PyData.int)
  | [] => .nil
  | n :: r => .cons (.int n) (dp_ints r)
mutual
theorem dp_of (s : Same F H) : ∀ (d : D) (v : V), okP d = true → Rep K F d v → Dp K H v (toP d)
  | .non, _, _, r => by rw [show _ = V.non from r]; exact .non
  | .bl b, _, _, r => by rw [show _ = V.bl b from r]; exact .bl b
  | .int b, _, _, r => by rw [show _ = V.int b from r]; exact .int b
  | .str b, _, _, r => by rw [show _ = V.str b from r]; exact .str b
  | .scr ns, _, _, ⟨a, h1, h2⟩ => by rw [h1]; exact .lst (s.seq h2) (dp_ints ns)
  | .tup xs, _, h, ⟨a, vs, h1, h2, h3⟩ => by rw [h1]; exact .tup (same_sqt s h2) (dps_of s xs vs h h3)
  | .lst xs, _, h, ⟨a, vs, h1, h2, h3⟩ => by rw [h1]; exact .lst (.inl (.inl (s _ _ h2))) (dps_of s xs vs h h3)
  | .raw _, _, h, _ => nomatch h
  | .dic _ _, _, h, _ => nomatch h
  | .obj _ _ _, _, h, _ => nomatch h
theorem dps_of (s : Same F H) : ∀ (xs : List D) (vs : List V), okPs xs = true → RepL K F xs vs → DpAll K H vs (toPs xs)
  | [], _, _, h => by rw [show _ = [] from h]; exact .nil
  | x :: xs, _, h, ⟨v, r, h1, h2, h3⟩ => by
    rw [h1]
    have h' : okP x = true ∧ okPs xs = true := Bool.and_eq_true_iff.mp h
    exact .cons (dp_of s x v h'.1 h2) (dps_of s xs r h'.2 h3)
end
end
theorem qo_add : OpR X (binaryOp .Add) (upV2 X.K vAdd) := by
  intro pins s σ H x y v u Q' I rx ry ⟨F, d, e, Q, sm, r1, r2, h, g⟩
  unfold vAdd at h
  split at h
  · cases r1; cases r2
    exact op_add pins s σ H _ _ v u Q' I rx ry ⟨_, _, rfl, rfl, g.i sm h⟩
  · obtain ⟨a, vs, rfl, h2, h3⟩ := r1
    obtain ⟨b, ws, rfl, k2, k3⟩ := r2
    refine op_cat pins s σ H _ _ v u Q' I rx ry ⟨a, b, vs, ws, rfl, rfl, sm _ _ h2, sm _ _ k2, by rw [← h3.length, ← k3.length]; exact h.1, fun p hp => ?_⟩
    exact g.lst sm (RepL.append h3 k3) h.2 hp
  · obtain ⟨a, vs, rfl, h2, h3⟩ := r1
    obtain ⟨b, ws, rfl, k2, k3⟩ := r2
    refine op_catT pins s σ H _ _ v u Q' I rx ry ⟨a, b, vs, ws, rfl, rfl, same_sqt sm h2, same_sqt sm k2, fun z => ?_, by rw [← h3.length, ← k3.length]; exact h.1.2, fun z => ?_, fun _ p hp => ?_⟩
    · exact h.1.1 (by have e := h3.length; rw [z] at e; exact List.length_eq_zero_iff.mp e)
    · have e := k3.length
      rw [z] at e
      have e' := List.length_eq_zero_iff.mp e
      rw [e', List.append_nil] at h
      exact g.flat sm (z := .tup _) ⟨a, vs, rfl, h2, h3⟩ h.2
    · exact g.tup sm (RepL.append h3 k3) h.2 hp
  · cases r1; cases r2
    exact op_add_str pins s σ H _ _ v u Q' I rx ry ⟨_, _, rfl, rfl, h.1, g.s sm h.2⟩
  · exact h.elim
theorem qo_addL : OpR X (binaryOp .Add) (upN2 X.K vAddL) := by
  intro pins s σ H x y v u Q' I rx ry ⟨F, d, e, Q, sm, r1, r2, h, g⟩
  unfold vAddL at h
  split at h
  · obtain ⟨a, vs, rfl, h2, h3⟩ := r1
    obtain ⟨b, ws, rfl, k2, k3⟩ := r2
    refine op_cat pins s σ H _ _ v u Q' I rx ry ⟨a, b, vs, ws, rfl, rfl, sm _ _ h2, sm _ _ k2, by rw [← h3.length, ← k3.length]; exact h.1, fun p hp => ?_⟩
    exact g.lst (RepL.append h3 k3) h.2 hp
  · exact h.elim
theorem qo_sub : OpR X (binaryOp .Sub) (upV2 X.K vSub) := by
  intro pins s σ H x y v u Q' I rx ry ⟨F, d, e, Q, sm, r1, r2, h, g⟩
  unfold vSub at h
  split at h
  · cases r1; cases r2
    exact op_sub pins s σ H _ _ v u Q' I rx ry ⟨_, _, rfl, rfl, g.i sm h⟩
  · exact h.elim
theorem rep_flat {K : PySem.W.Frag} {F : Hp} {xs : List D} {vs : List V} (r : RepL K F xs vs) : ∀ n : Nat, RepL K F (List.replicate n xs).flatten (List.replicate n vs).flatten
  | 0 => rfl
  | n + 1 => by
    rw [List.replicate_succ, List.replicate_succ, List.flatten_cons, List.flatten_cons]
    exact RepL.append r (rep_flat r n)
theorem qo_mul : OpR X (binaryOp .Mult) (upV2 X.K vMul) := by
  intro pins s σ H x y v u Q' I rx ry ⟨F, d, e, Q, sm, r1, r2, h, g⟩
  unfold vMul at h
  split at h
  · cases r1; cases r2
    rcases h.1 with c | c
    · exact op_mulW pins s σ H _ _ v u Q' I rx ry ⟨_, _, rfl, rfl, c, g.i sm h.2⟩
    · exact op_mul pins s σ H _ _ v u Q' I rx ry ⟨_, _, rfl, rfl, c, g.i sm h.2⟩
  · cases r2
    obtain ⟨a, vs, rfl, h2, h3⟩ := r1
    refine op_rep pins s σ H _ _ v u Q' I rx ry ⟨a, _, vs, rfl, rfl, sm _ _ h2, h.1.1, h.1.2.1, by rw [← h3.length]; exact h.1.2.2, fun p hp => ?_⟩
    exact g.lst sm (rep_flat h3 _) h.2 hp
  · exact h.elim
theorem qo_div : OpR X (binaryOp .FloorDiv) (upV2 X.K vDiv) := by
  intro pins s σ H x y v u Q' I rx ry ⟨F, d, e, Q, sm, r1, r2, h, g⟩
  unfold vDiv at h
  split at h
  · cases r1; cases r2
    exact op_fdivW pins s σ H _ _ v u Q' I rx ry ⟨_, _, rfl, rfl, h.1, g.i sm h.2⟩
  · exact h.elim
theorem qo_mod : OpR X (binaryOp .Mod) (upV2 X.K vMod) := by
  intro pins s σ H x y v u Q' I rx ry ⟨F, d, e, Q, sm, r1, r2, h, g⟩
  unfold vMod at h
  split at h
  · cases r1; cases r2
    exact op_mod pins s σ H _ _ v u Q' I rx ry ⟨_, _, rfl, rfl, h.1, g.i sm h.2⟩
  · exact h.elim
theorem qo_pow : OpR X (binaryOp .Pow) (upV2 X.K vPow) := by
  intro pins s σ H x y v u Q' I rx ry ⟨F, d, e, Q, sm, r1, r2, h, g⟩
  unfold vPow at h
  split at h
  · cases r1; cases r2
    exact op_pow pins s σ H _ _ v u Q' I rx ry ⟨_, _, rfl, rfl, h.1, g.i sm h.2⟩
  · exact h.elim
theorem qo_shl : OpR X (binaryOp .LShift) (upV2 X.K vShl) := by
  intro pins s σ H x y v u Q' I rx ry ⟨F, d, e, Q, sm, r1, r2, h, g⟩
  unfold vShl at h
  split at h
  · cases r1; cases r2
    exact op_shl pins s σ H _ _ v u Q' I rx ry ⟨_, _, rfl, rfl, h.1, g.i sm h.2⟩
  · exact h.elim
theorem qo_shr : OpR X (binaryOp .RShift) (upV2 X.K vShr) := by
  intro pins s σ H x y v u Q' I rx ry ⟨F, d, e, Q, sm, r1, r2, h, g⟩
  unfold vShr at h
  split at h
  · cases r1; cases r2
    exact op_shr pins s σ H _ _ v u Q' I rx ry ⟨_, _, rfl, rfl, h.1, g.i sm h.2⟩
  · exact h.elim
theorem qo_neg : UnR X (unaryOp .USub) (upV1 X.K vNeg) := by
  intro pins s σ H x v Q' I rx ⟨F, d, Q, sm, r1, h, g⟩
  unfold vNeg at h
  split at h
  · cases r1
    exact un_neg pins s σ H _ v Q' I rx ⟨_, rfl, g.i sm h⟩
  · exact h.elim
theorem qo_lt : OpR X (compareOp .Lt) (upV2 X.K vLt) := by
  intro pins s σ H x y v u Q' I rx ry ⟨F, d, e, Q, sm, r1, r2, h, g⟩
  unfold vLt at h
  split at h
  · cases r1; cases r2
    exact op_lt pins s σ H _ _ v u Q' I rx ry ⟨_, _, rfl, rfl, g.b sm h⟩
  · exact h.elim
theorem qo_le : OpR X (compareOp .LtE) (upV2 X.K vLe) := by
  intro pins s σ H x y v u Q' I rx ry ⟨F, d, e, Q, sm, r1, r2, h, g⟩
  unfold vLe at h
  split at h
  · cases r1; cases r2
    exact op_le pins s σ H _ _ v u Q' I rx ry ⟨_, _, rfl, rfl, g.b sm h⟩
  · exact h.elim
theorem qo_gt : OpR X (compareOp .Gt) (upV2 X.K vGt) := by
  intro pins s σ H x y v u Q' I rx ry ⟨F, d, e, Q, sm, r1, r2, h, g⟩
  unfold vGt at h
  split at h
  · cases r1; cases r2
    exact op_gt pins s σ H _ _ v u Q' I rx ry ⟨_, _, rfl, rfl, g.b sm h⟩
  · exact h.elim
theorem qo_ge : OpR X (compareOp .GtE) (upV2 X.K vGe) := by
  intro pins s σ H x y v u Q' I rx ry ⟨F, d, e, Q, sm, r1, r2, h, g⟩
  unfold vGe at h
  split at h
  · cases r1; cases r2
    exact op_ge pins s σ H _ _ v u Q' I rx ry ⟨_, _, rfl, rfl, g.b sm h⟩
  · exact h.elim
theorem isNon_rep {K : PySem.W.Frag} {F : Hp} : ∀ {d : D} {v : V}, (∀ u, d ≠ .raw u) → Rep K F d v → decide (v = V.non) = isNon d
  | .non, _, _, r => by rw [show _ = V.non from r]; rfl
  | .bl b, _, _, r => by rw [show _ = V.bl b from r]; rfl
  | .int b, _, _, r => by rw [show _ = V.int b from r]; rfl
  | .str b, _, _, r => by rw [show _ = V.str b from r]; rfl
  | .raw u, _, n, _ => absurd rfl (n u)
  | .scr ns, _, _, ⟨a, h1, _⟩ => by rw [h1]; rfl
  | .tup xs, _, _, ⟨a, vs, h1, _⟩ => by rw [h1]; rfl
  | .lst xs, _, _, ⟨a, vs, h1, _⟩ => by rw [h1]; rfl
  | .dic _ _, _, _, ⟨a, h1, _⟩ => by rw [h1]; rfl
  | .obj _ _ _, _, _, ⟨a, _, _, h1, _⟩ => by rw [h1]; rfl
theorem qo_isN : OpR X (compareOp .Is) (upV2 X.K vIsN) := by
  intro pins s σ H x y v u Q' I rx ry ⟨F, d, e, Q, sm, r1, r2, h, g⟩
  unfold vIsN at h
  split at h
  · exact h.elim
  · rename_i hn
    cases r2
    exact op_isN pins s σ H _ _ v u Q' I rx ry ⟨rfl, by rw [isNon_rep (fun u z => hn u z) r1]; exact g.b sm h⟩
  · exact h.elim
theorem qo_notN : OpR X (compareOp .IsNot) (upV2 X.K vNotN) := by
  intro pins s σ H x y v u Q' I rx ry ⟨F, d, e, Q, sm, r1, r2, h, g⟩
  unfold vNotN at h
  split at h
  · exact h.elim
  · rename_i hn
    cases r2
    exact op_notN pins s σ H _ _ v u Q' I rx ry ⟨rfl, by rw [isNon_rep (fun u z => hn u z) r1]; exact g.b sm h⟩
  · exact h.elim
theorem qo_eq (hu : X.A.units + 64 < cLine) : OpR X (compareOp .Eq) (upV2 X.K vEq) := by
  intro pins s σ H x y v u Q' I rx ry ⟨F, d, e, Q, sm, r1, r2, h, g⟩
  unfold vEq at h
  split at h
  · cases r1; cases r2
    exact op_eq pins s σ H _ _ v u Q' I rx ry ⟨rfl, by rw [show ∀ i j : Int, decide (V.int i = V.int j) = decide (i = j) from fun i j => by simp]; exact g.b sm h⟩
  · cases r1; cases r2
    exact op_eq pins s σ H _ _ v u Q' I rx ry ⟨rfl, by rw [show ∀ i j : Str, decide (V.str i = V.str j) = decide (i = j) from fun i j => by simp]; exact g.b sm h⟩
  · cases r1; cases r2
    exact op_eq pins s σ H _ _ v u Q' I rx ry ⟨rfl, by rw [show ∀ i j : Bool, decide (V.bl i = V.bl j) = decide (i = j) from fun i j => by simp]; exact g.b sm h⟩
  · obtain ⟨o1, o2, s1, s2, q⟩ := h
    exact op_eqD hu pins s σ H _ _ v u Q' I rx ry ⟨_, _, dp_of sm _ _ o1 r1, dp_of sm _ _ o2 r2, s1, s2, g.b sm q⟩
theorem qo_ne (hu : X.A.units + 64 < cLine) : OpR X (compareOp .NotEq) (upV2 X.K vNe) := by
  intro pins s σ H x y v u Q' I rx ry ⟨F, d, e, Q, sm, r1, r2, h, g⟩
  unfold vNe at h
  split at h
  · cases r1; cases r2
    exact op_ne pins s σ H _ _ v u Q' I rx ry ⟨rfl, by rw [show ∀ i j : Int, decide (V.int i = V.int j) = decide (i = j) from fun i j => by simp]; exact g.b sm h⟩
  · cases r1; cases r2
    exact op_ne pins s σ H _ _ v u Q' I rx ry ⟨rfl, by rw [show ∀ i j : Str, decide (V.str i = V.str j) = decide (i = j) from fun i j => by simp]; exact g.b sm h⟩
  · cases r1; cases r2
    exact op_ne pins s σ H _ _ v u Q' I rx ry ⟨rfl, by rw [show ∀ i j : Bool, decide (V.bl i = V.bl j) = decide (i = j) from fun i j => by simp]; exact g.b sm h⟩
  · obtain ⟨o1, o2, s1, s2, q⟩ := h
    exact op_neD hu pins s σ H _ _ v u Q' I rx ry ⟨_, _, dp_of sm _ _ o1 r1, dp_of sm _ _ o2 r2, s1, s2, g.b sm q⟩
end
end QL
set_option Elab.async false
set_option linter.all false
set_option maxRecDepth 100000
namespace QL
open PySem PySem.Spec PyProof.Rows L2
/-! ### what lets out: an exception as a datum -/
def RepX (K : PySem.W.Frag) (F : Hp) : D → Value → Option Addr → Prop
  | .obj C ns xs, cls, dx => cls = .ref C ∧ ∃ da fs, dx = some da ∧ F da = some (.xd fs) ∧ fs.map (·.1) = ns ∧ RepL K F xs (fs.map (·.2))
  | _, _, _ => False
theorem RepX.mono {K : PySem.W.Frag} {F F' : Hp} (e : Same F F') : ∀ {d : D} {cls : Value} {dx : Option Addr}, RepX K F d cls dx → RepX K F' d cls dx
  | .obj C ns xs, _, _, ⟨h1, da, fs, h2, h3, h4, h5⟩ => ⟨h1, da, fs, h2, e _ _ h3, h4, RepL.mono e _ _ h5⟩
  | .non, _, _, h => h.elim
  | .bl _, _, _, h => h.elim
  | .int _, _, _, h => h.elim
  | .str _, _, _, h => h.elim
  | .raw _, _, _, h => h.elim
  | .scr _, _, _, h => h.elim
  | .tup _, _, _, h => h.elim
  | .lst _, _, _, h => h.elim
  | .dic _ _, _, _, h => h.elim
def WEx (K : PySem.W.Frag) (bx : Bx) (EX : XD) : WX := fun cls dx σ H => ∃ env F ed, ER K bx F env σ H ∧ RepX K F ed cls dx ∧ EX ed env
def TkE (X : Cx) (bx : Bx) (EX : XD) : Prop := ∀ σ, PassesAt (L2.CX X.prog X.w) X σ (fun cls dx H => WEx X.K bx EX cls dx σ H)
abbrev EX0 : XD := fun _ _ => False
theorem tkE0 {X : Cx} {bx : Bx} : TkE X bx EX0 := fun σ _ _ _ _ _ _ h => by
  obtain ⟨_, _, _, _, _, _, _, _, _, _, _, _, _, _, _, _, _, z⟩ := h
  exact z.elim
theorem tkE_of {X : Cx} {bx : Bx} {EX : XD} (tk : Takes X (WEx X.K bx EX)) : TkE X bx EX := fun σ => passAt tk σ

/-! ### promises -/
abbrev FA := List D → (D → Prop) → (D → Prop) → Prop
abbrev FB := D → List D → (D → D → Prop) → (D → D → Prop) → Prop
/-- a call that leaves all as it was -/
def spA (K : PySem.W.Frag) (n : Nat) (S : FA) : Sp := fun vs H Q' E' => ∃ F ds Q E, ds.length = n ∧ Same F H ∧ RepL K F ds vs ∧ S ds Q E ∧ Gr K F H Q Q' ∧
  ∀ ed cls dx F' H', Grow F H F' H' → RepX K F' ed cls dx → E ed → E' cls dx H'
/-- all but the object at a -/
structure GrowB (a : Addr) (F H F' H' : Hp) : Prop where
  e : Same F F'
  sf : Same F' H'
  sh : ∀ b o, H b = some o → b ≠ a → H' b = some o
  hn : ∀ b, F b = none → H b ≠ none → F' b = none
/-- a call that changes the object in its first place -/
def spB (K : PySem.W.Frag) (n : Nat) (M : FB) : Sp := fun vs H Q' E' => ∃ F a ho d0 ds ws Q E, ds.length = n ∧ vs = .ref a :: ws ∧ Same F H ∧ F a = none ∧ H a = some ho ∧ OwnH K F d0 ho ∧ RepL K F ds ws ∧ M d0 ds Q E ∧
  (∀ z u d' ho' F' H', GrowB a F H F' H' → H' a = some ho' → OwnH K F' d' ho' → Rep K F' z u → Q z d' → Q' u H') ∧
  (∀ ed cls dx d' ho' F' H', GrowB a F H F' H' → H' a = some ho' → OwnH K F' d' ho' → RepX K F' ed cls dx → E ed d' → E' cls dx H')
section
variable {K : PySem.W.Frag} {bx : Bx} {F F' H H' : Hp} {env : List Slot} {σ : L2.St}
theorem set_some {α : Type} {l : List α} {i j : Nat} {x y : α} (h : (l.set i x)[j]? = some y) : (i = j ∧ x = y ∧ i < l.length) ∨ (i ≠ j ∧ l[j]? = some y) := by
  by_cases e : i = j
  · subst e
    have hl : i < l.length := by
      have := (List.getElem?_eq_some_iff.mp h).1
      simpa using this
    rw [List.getElem?_set_self hl] at h
    exact .inl ⟨rfl, Option.some.inj h, hl⟩
  · rw [List.getElem?_set_ne e] at h
    exact .inr ⟨e, h⟩
/-- the object of slot i has changed -/
theorem ER.setOwn {i : Nat} {a : Addr} {d0 d' : D} {ho' : HO} (R : ER K bx F env σ H) (hi : env[i]? = some (.own d0)) (hs : σ[i]? = some (some (.ref a))) (g : GrowB a F H F' H') (ha : H' a = some ho') (o : OwnH K F' d' ho') : ER K bx F' (env.set i (.own d')) σ H' := by
  obtain ⟨oa, h1, a', ho, h2, h3, h4, h5, h6⟩ := R.slots i _ hi
  rw [hs] at h1; cases h1; cases h2
  refine ⟨fun b q z => g.sh b q (R.sb b q z) (fun e => by rw [e, h4] at z; cases z), g.sf, by rw [List.length_set]; exact R.len, fun j s hj => ?_, fun j k d e c hj hk sj sk => ?_, fun c hc => ?_, R.f0.trans g.e, fun c h1 h2 => g.hn c (R.fz c h1 h2) (R.bh h2)⟩
  · rcases set_some hj with ⟨rfl, rfl, _⟩ | ⟨hne, hj⟩
    · exact ⟨_, hs, a, ho', rfl, g.hn a h3 (by rw [h5]; simp), h4, ha, o⟩
    · obtain ⟨q, k1, k2⟩ := R.slots j s hj
      refine ⟨q, k1, ?_⟩
      cases s with
      | un => trivial
      | val d => obtain ⟨v, k3, k4⟩ := k2; exact ⟨v, k3, Rep.mono g.e _ _ k4⟩
      | own d =>
        obtain ⟨c, hc, k3, k4, k5, k6, k7⟩ := k2
        have hca : c ≠ a := fun z => by
          subst z
          rw [k3] at k1
          exact hne (R.sep i j _ _ c hi hj hs k1)
        exact ⟨c, hc, k3, g.hn c k4 (by rw [k6]; simp), k5, g.sh c hc k6 hca, OwnH.mono g.e k7⟩
  · have own : ∀ {m : Nat} {d : D}, (env.set i (.own d'))[m]? = some (.own d) → ∃ d2, env[m]? = some (.own d2) := fun {m d} hm => by
      rcases set_some hm with ⟨rfl, _, _⟩ | ⟨_, hm⟩
      · exact ⟨_, hi⟩
      · exact ⟨_, hm⟩
    obtain ⟨d2, hj2⟩ := own hj
    obtain ⟨e2, hk2⟩ := own hk
    exact R.sep j k d2 e2 c hj2 hk2 sj sk
  · obtain ⟨k1, d, k2⟩ := R.io c hc
    refine ⟨k1, ?_⟩
    by_cases h0 : i = 0
    · subst h0
      exact ⟨d', by rw [List.getElem?_set_self (List.getElem?_eq_some_iff.mp hi).1]⟩
    · exact ⟨d, by rw [List.getElem?_set_ne h0]; exact k2⟩
/-- slot i takes a datum -/
theorem ER.setVal {i : Nat} {d : D} {v : V} (R : ER K bx F env σ H) (hio : bx.io = none ∨ i ≠ 0) (r : Rep K F d v) : ER K bx F (env.set i (.val d)) (σ.set i (some v)) H := by
  refine ⟨R.sb, R.sf, by rw [List.length_set, List.length_set]; exact R.len, fun j s hj => ?_, fun j k d1 e c hj hk sj sk => ?_, fun c hc => ?_, R.f0, R.fz⟩
  · rcases set_some hj with ⟨rfl, rfl, hl⟩ | ⟨hne, hj⟩
    · exact ⟨_, by rw [List.getElem?_set_self (by rw [← R.len]; exact hl)], v, rfl, r⟩
    · obtain ⟨q, k1, k2⟩ := R.slots j s hj
      exact ⟨q, by rw [List.getElem?_set_ne hne]; exact k1, k2⟩
  · have old : ∀ {m : Nat} {d2 : D}, (env.set i (.val d))[m]? = some (.own d2) → (σ.set i (some v))[m]? = some (some (V.ref c)) → env[m]? = some (.own d2) ∧ σ[m]? = some (some (V.ref c)) := fun {m d2} hm sm => by
      rcases set_some hm with ⟨rfl, z, _⟩ | ⟨hne, hm⟩
      · cases z
      · rw [List.getElem?_set_ne hne] at sm; exact ⟨hm, sm⟩
    obtain ⟨a1, a2⟩ := old hj sj
    obtain ⟨b1, b2⟩ := old hk sk
    exact R.sep j k _ _ c a1 b1 a2 b2
  · obtain ⟨k1, d2, k2⟩ := R.io c hc
    have h0 : i ≠ 0 := hio.elim (fun z => by rw [z] at hc; cases hc) id
    exact ⟨by rw [List.getElem?_set_ne h0]; exact k1, d2, by rw [List.getElem?_set_ne h0]; exact k2⟩
/-- slot i takes a new object of its own -/
theorem ER.setNew {i : Nat} {d : D} {a : Addr} {ho : HO} (R : ER K bx F env σ H) (hio : bx.io = none ∨ i ≠ 0) (l : Lone bx F env σ H a) (ha : H a = some ho) (o : OwnH K F d ho) : ER K bx F (env.set i (.own d)) (σ.set i (some (.ref a))) H := by
  refine ⟨R.sb, R.sf, by rw [List.length_set, List.length_set]; exact R.len, fun j s hj => ?_, fun j k d1 e c hj hk sj sk => ?_, fun c hc => ?_, R.f0, R.fz⟩
  · rcases set_some hj with ⟨rfl, rfl, hl⟩ | ⟨hne, hj⟩
    · exact ⟨_, by rw [List.getElem?_set_self (by rw [← R.len]; exact hl)], a, ho, rfl, l.f, l.b, ha, o⟩
    · obtain ⟨q, k1, k2⟩ := R.slots j s hj
      exact ⟨q, by rw [List.getElem?_set_ne hne]; exact k1, k2⟩
  · rcases set_some hj with ⟨rfl, _, hl⟩ | ⟨hne, hj⟩
    · rcases set_some hk with ⟨rfl, _, _⟩ | ⟨hne2, hk⟩
      · rfl
      · rw [List.getElem?_set_self (by rw [← R.len]; exact hl)] at sj
        cases sj
        rw [List.getElem?_set_ne hne2] at sk
        exact absurd sk (l.o k _ hk)
    · rcases set_some hk with ⟨rfl, _, hl⟩ | ⟨hne2, hk⟩
      · rw [List.getElem?_set_self (by rw [← R.len]; exact hl)] at sk
        cases sk
        rw [List.getElem?_set_ne hne] at sj
        exact absurd sj (l.o j _ hj)
      · rw [List.getElem?_set_ne hne] at sj
        rw [List.getElem?_set_ne hne2] at sk
        exact R.sep j k _ _ c hj hk sj sk
  · obtain ⟨k1, d2, k2⟩ := R.io c hc
    have h0 : i ≠ 0 := hio.elim (fun z => by rw [z] at hc; cases hc) id
    exact ⟨by rw [List.getElem?_set_ne h0]; exact k1, d2, by rw [List.getElem?_set_ne h0]; exact k2⟩
/-- what slot i owns becomes a datum -/
theorem ER.thaw {i : Nat} {d : D} {a : Addr} (R : ER K bx F env σ H) (hio : bx.io = none ∨ i ≠ 0) (hi : env[i]? = some (.own d)) : ∃ a ho, σ[i]? = some (some (.ref a)) ∧ H a = some ho ∧ F a = none ∧ ER K bx (upd F a ho) (env.set i (.val d)) σ H ∧ Rep K (upd F a ho) d (.ref a) := by
  obtain ⟨oa, h1, a', ho, h2, h3, h4, h5, h6⟩ := R.slots i _ hi
  cases h2
  have hl := (List.getElem?_eq_some_iff.mp hi).1
  refine ⟨a', ho, h1, h5, h3, ⟨R.sb, same_upd3 R.sf h5, by rw [List.length_set]; exact R.len, fun j s hj => ?_, fun j k d1 e c hj hk sj sk => ?_, fun c hc => ?_, R.f0.trans (same_upd h3), fun c k1 k2 => by
    rw [upd_ne (fun z => k2 (by rw [z]; exact h4))]
    exact R.fz c k1 k2⟩, OwnH.rep h3 h6⟩
  · rcases set_some hj with ⟨rfl, rfl, hl⟩ | ⟨hne, hj⟩
    · exact ⟨_, h1, _, rfl, OwnH.rep h3 h6⟩
    · obtain ⟨q, k1, k2⟩ := R.slots j s hj
      refine ⟨q, k1, ?_⟩
      cases s with
      | un => trivial
      | val d => obtain ⟨v, k3, k4⟩ := k2; exact ⟨v, k3, Rep.mono (same_upd h3) _ _ k4⟩
      | own d =>
        obtain ⟨c, hc, k3, k4, k5, k6, k7⟩ := k2
        refine ⟨c, hc, k3, ?_, k5, k6, OwnH.mono (same_upd h3) k7⟩
        rw [upd_ne (fun z => by
          subst z
          rw [k3] at k1
          exact hne (R.sep i j _ _ c hi hj h1 k1))]
        exact k4
  · rcases set_some hj with ⟨_, z, _⟩ | ⟨_, hj⟩
    · cases z
    · rcases set_some hk with ⟨_, z, _⟩ | ⟨_, hk⟩
      · cases z
      · exact R.sep j k _ _ c hj hk sj sk
  · obtain ⟨k1, d2, k2⟩ := R.io c hc
    have h0 : i ≠ 0 := hio.elim (fun z => by rw [z] at hc; cases hc) id
    exact ⟨k1, d2, by rw [List.getElem?_set_ne h0]; exact k2⟩
end
section
variable {X : Cx} {bx : Bx} {e a b : Expr} {es : List Expr} {te ta tb : RE} {t : RA} {pos : Pos} {i : Nat}
/-! ### a name -/
/-- a name of the def: a datum; what it owns becomes one -/
def rVarO (i : Nat) : RE := fun env Q => match env[i]? with
  | some (.val d) => Q d env
  | some (.own d) => Q d (env.set i (.val d))
  | _ => False
theorem q_varO (h : L2.PE X e (tVar i)) (hio : bx.io = none ∨ i ≠ 0) : QE X bx e (rVarO i) := pe_imp h fun σ H Q' ⟨env, F, Q, R, ht, k⟩ => by
  unfold rVarO at ht
  split at ht
  · rename_i d hd
    obtain ⟨o, h1, v, h2, h3⟩ := R.slots i _ hd
    exact ⟨v, by rw [h1, h2], k d v env F H (Same.refl _) R h3 ht⟩
  · rename_i d hd
    obtain ⟨a, ho, h1, h2, h3, R', r⟩ := R.thaw (a := 0) hio hd
    exact ⟨.ref a, h1, k d (.ref a) _ _ H (same_upd h3) R' r ht⟩
  · exact ht.elim
/-! ### arguments, displays -/
def rNil : RA := fun env Q => Q [] env
def rCons (te : RE) (t : RA) : RA := fun env Q => te env fun d env1 => t env1 fun ds env2 => Q (d :: ds) env2
def rStar (te : RE) (t : RA) : RA := fun env Q => te env fun d env1 => match d with
  | .tup xs => t env1 fun ds env2 => Q (xs ++ ds) env2
  | .lst xs => t env1 fun ds env2 => Q (xs ++ ds) env2
  | _ => False
theorem qa_nil : QA X bx [] rNil := pa_imp pa_nil fun σ H Q' ⟨env, F, Q, R, ht, k⟩ => k [] [] env F H (Same.refl _) R rfl ht
theorem qa_cons (ha : QE X bx e te) (hr : QA X bx es t) (hs : starEach (e :: es) X.env = (false, eval e X.env) :: starEach es X.env := by rfl) : QA X bx (e :: es) (rCons te t) := pa_imp (pa_cons ha hr hs) fun σ H Q' ⟨env, F, Q, R, ht, k⟩ =>
  ⟨env, F, _, R, ht, fun d v env1 F1 H1 s1 R1 r1 q1 => ⟨env1, F1, _, R1, q1, fun ds vs env2 F2 H2 s2 R2 r2 q2 => k (d :: ds) (v :: vs) env2 F2 H2 (s1.trans s2) R2 ⟨v, vs, rfl, Rep.mono s2 _ _ r1, r2⟩ q2⟩⟩
theorem qa_star {p : Pos} (ha : QE X bx e te) (hr : QA X bx es t) (hs : starEach (.Starred e p :: es) X.env = (true, eval e X.env) :: starEach es X.env := by rfl) : QA X bx (.Starred e p :: es) (rStar te t) := pa_imp (StX.pa_star ha hr hs) fun σ H Q' ⟨env, F, Q, R, ht, k⟩ =>
  ⟨env, F, _, R, ht, fun d v env1 F1 H1 s1 R1 r1 q1 => by
    split at q1
    · obtain ⟨a, us, rfl, h2, h3⟩ := r1
      exact ⟨a, us, rfl, .inl (same_sqt R1.sf h2), env1, F1, _, R1, q1, fun ds vs env2 F2 H2 s2 R2 r2 q2 => k _ (us ++ vs) env2 F2 H2 (s1.trans s2) R2 (RepL.append (RepL.mono s2 _ _ h3) r2) q2⟩
    · obtain ⟨a, us, rfl, h2, h3⟩ := r1
      exact ⟨a, us, rfl, .inr (.inl (.inl (R1.sf _ _ h2))), env1, F1, _, R1, q1, fun ds vs env2 F2 H2 s2 R2 r2 q2 => k _ (us ++ vs) env2 F2 H2 (s1.trans s2) R2 (RepL.append (RepL.mono s2 _ _ h3) r2) q2⟩
    · exact q1.elim⟩
def rTup (t : RA) : RE := fun env Q => t env fun ds env1 => ds.length ≤ sizeLine ∧ Q (.tup ds) env1
def rLst (t : RA) : RE := fun env Q => t env fun ds env1 => ds.length ≤ sizeLine ∧ Q (.lst ds) env1
theorem q_tup {x1} (h : QA X bx es t) : QE X bx (.Tuple es x1 pos) (rTup t) := pe_imp (pe_tup h) fun σ H Q' ⟨env, F, Q, R, ht, k⟩ =>
  ⟨env, F, _, R, ht, fun ds vs env1 F1 H1 s1 R1 r1 q1 => ⟨by rw [← r1.length]; exact q1.1, fun p hp => k (.tup ds) (.ref p) env1 (upd F1 p (.tup vs)) _ (s1.trans (same_upd (R1.sf.free hp))) (R1.laid hp) ⟨p, vs, rfl, .inl (.inl upd_same), RepL.mono (same_upd (R1.sf.free hp)) _ _ r1⟩ q1.2⟩⟩
theorem q_lstN (h : QA X bx es t) : QN X bx (.List es pos) (rLst t) := pe_imp (pe_lst h) fun σ H Q' ⟨env, F, Q, R, ht, k⟩ =>
  ⟨env, F, _, R, ht, fun ds vs env1 F1 H1 s1 R1 r1 q1 => ⟨by rw [← r1.length]; exact q1.1, fun p hp => k (.lst ds) p (.lst vs) env1 F1 _ s1 (R1.laid0 hp) (R1.lone hp) upd_same ⟨vs, rfl, r1⟩ q1.2⟩⟩
theorem q_lst (h : QA X bx es t) : QE X bx (.List es pos) (rLst t) := (q_lstN h).qe

/-! ### subscripts -/
def vIx : V2
  | .lst xs, .int i, Q => ∃ d, atI xs i = some d ∧ Q d
  | .tup xs, .int i, Q => ∃ d, atI xs i = some d ∧ Q d
  | .scr ns, .int i, Q => ∃ n, atI ns i = some n ∧ Q (.int n)
  | _, _, _ => False
theorem atI_rep {K : PySem.W.Frag} {F : Hp} {xs : List D} {vs : List V} {i : Int} {d : D} (r : RepL K F xs vs) (h : atI xs i = some d) : ∃ v, atI vs i = some v ∧ Rep K F d v := by
  unfold atI at h ⊢
  rw [← r.length]
  cases e : ixN xs.length i with
  | none => rw [e] at h; cases h
  | some j => rw [e] at h; exact r.get h
theorem atI_map {ns : List Int} {i n : Int} (h : atI ns i = some n) : atI (ns.map V.int) i = some (V.int n) := by
  unfold atI at h ⊢
  rw [List.length_map]
  cases e : ixN ns.length i with
  | none => rw [e] at h; cases h
  | some j => rw [e] at h; show (ns.map V.int)[j]? = _; rw [List.getElem?_map, show ns[j]? = some n from h]; rfl
theorem qi_ix : IxR X (upV2 X.K vIx) := by
  intro value slice pins s σ H x y v u Q' I rx ry ⟨F, d, e, Q, sm, r1, r2, h, g⟩ hs
  unfold vIx at h
  split at h
  · obtain ⟨a, vs, rfl, h2, h3⟩ := r1
    cases r2
    obtain ⟨z, hz, q⟩ := h
    obtain ⟨w, hw, rw⟩ := atI_rep h3 hz
    exact ix_list value slice pins s σ H _ _ v u Q' I rx ry ⟨a, vs, _, w, rfl, rfl, .inl (.inl (sm _ _ h2)), hw, g.flat sm rw q⟩ hs
  · obtain ⟨a, vs, rfl, h2, h3⟩ := r1
    cases r2
    obtain ⟨z, hz, q⟩ := h
    obtain ⟨w, hw, rw⟩ := atI_rep h3 hz
    exact ix_tup value slice pins s σ H _ _ v u Q' I rx ry ⟨a, vs, _, w, rfl, rfl, same_sqt sm h2, hw, g.flat sm rw q⟩ hs
  · obtain ⟨a, rfl, h2⟩ := r1
    cases r2
    obtain ⟨z, hz, q⟩ := h
    exact ix_list value slice pins s σ H _ _ v u Q' I rx ry ⟨a, _, _, _, rfl, rfl, sm.seq h2, atI_map hz, g.i sm q⟩ hs
  · exact h.elim
theorem q_ix (ha : QE X bx a ta) (hb : QE X bx b tb) (hs : PlainIx b := by exact fun _ _ => rfl) : QE X bx (.Subscript a b pos) (rOp vIx ta tb) := pe_imp (pe_ix qi_ix ha hb hs) fun _ _ _ => op_up
/-- an item of what a slot owns -/
def rIxO (i : Nat) (tb : RE) : RE := fun env Q => (∃ d, env[i]? = some (.own d)) ∧ tb env fun j env1 => match env1[i]? with
  | some (.own d) => vIx d j fun z => Q z env1
  | _ => False
theorem own_ix {K : PySem.W.Frag} {bx : Bx} {F H : Hp} {env : List Slot} {σ : L2.St} (R : ER K bx F env σ H) {i : Nat} {d : D} (hi : env[i]? = some (.own d)) : ∃ a ho, σ[i]? = some (some (.ref a)) ∧ H a = some ho ∧ F a = none ∧ OwnH K F d ho := by
  obtain ⟨oa, h1, a', ho, h2, h3, h4, h5, h6⟩ := R.slots i _ hi
  cases h2
  exact ⟨a', ho, h1, h5, h3, h6⟩
theorem q_ixO (h : L2.PE X a (tVar i)) (hb : QE X bx b tb) (hs : PlainIx b := by exact fun _ _ => rfl) : QE X bx (.Subscript a b pos) (rIxO i tb) := pe_imp (pe_ix ix_list h hb hs) fun σ H Q' ⟨env, F, Q, R, ⟨⟨d, hd⟩, ht⟩, k⟩ => by
  obtain ⟨p, ho, h1, h2, h3, h4⟩ := own_ix R hd
  refine ⟨.ref p, h1, env, F, _, R, ht, fun j w env1 F1 H1 s1 R1 r1 q1 => ?_⟩
  split at q1
  · rename_i d1 hd1
    obtain ⟨p1, ho1, g1, g2, g3, g4⟩ := own_ix R1 hd1
    rw [h1] at g1
    cases g1
    unfold vIx at q1
    split at q1
    · obtain ⟨vs, rfl, h6⟩ := g4
      cases r1
      obtain ⟨z, hz, q⟩ := q1
      obtain ⟨u, hu, ru⟩ := atI_rep h6 hz
      exact ⟨p, vs, _, u, rfl, rfl, .inl (.inl g2), hu, k z u env1 F1 H1 s1 R1 ru q⟩
    · exact g4.elim
    · exact g4.elim
    · exact q1.elim
  · exact q1.elim

/-! ### calls -/
def rCall (S : FA) (n : Nat) (EX : XD) (t : RA) : RE := fun env Q => t env fun ds env1 => ds.length = n ∧ S ds (fun d => Q d env1) fun ed => EX ed env1
theorem q_call {k n : Nat} {f : Addr} {fd : FuncData} {ps : List Str} {S : FA} {x : Str} {EX : XD} {p : Pos} (Fn : FnOk X.prog X.w X.K X.mg X.base (L2.CX X.prog X.w) k f fd ps (spA X.K n S)) (hr : Room k X.A) (hg : Gl X x) (hm : X.mg x = some (.ref f)) (hk : PySem.W.keepIn X.K (.ref f) = true)
    (hb : Binds X.K fd ps []) (tk : TkE X bx EX) (ha : QA X bx (e :: es) t) (hdb : (x == ("__debug__" : Str)) = false := by decide) (he : starEach (e :: es) X.env = (false, eval e X.env) :: starEach es X.env := by rfl) (hpl : (backTo pos (starEach es X.env)).any (·.1) = false := by rfl) :
    QE X bx (.Call (.Name x p) (e :: es) [] pos) (rCall S n EX t) := pe_imp (pe_callS Fn hr hg hm hk hb tk ha hdb he hpl) fun σ H Q' ⟨env, F, Q, R, ht, kk⟩ =>
  ⟨env, F, _, R, ht, fun ds vs env1 F1 H1 s1 R1 r1 q1 => ⟨F1, ds, _, _, q1.1, R1.sf, r1, q1.2, fun z u F2 H2 g r2 q2 => kk z u env1 F2 H2 (s1.trans g.e) (R1.to g) r2 q2,
    fun ed cls dx F2 H2 g rx ex => ⟨env1, F2, ed, R1.to g, rx, ex⟩⟩⟩
/-- f(x, e, ..), f changes what slot i owns -/
def rCallM (i : Nat) (M : FB) (n : Nat) (EX : XD) (t : RA) : RE := fun env Q => (∃ d, env[i]? = some (.own d)) ∧ t env fun ds env1 => match env1[i]? with
  | some (.own d0) => ds.length = n ∧ M d0 ds (fun d d' => Q d (env1.set i (.own d'))) fun ed d' => EX ed (env1.set i (.own d'))
  | _ => False
theorem callM_up {i n : Nat} {M : FB} {EX : XD} {σ : L2.St} {H : Hp} {Q' : VK} (h : up X.K bx (rCallM i M n EX t) σ H Q') :
    ∃ a, σ[i]? = some (some (.ref a)) ∧ upA X.K bx t σ H fun vs H1 => spB X.K n M (.ref a :: vs) H1 Q' fun cls dx H => WEx X.K bx EX cls dx σ H := by
  obtain ⟨env, F, Q, R, ⟨⟨d, hd⟩, ht⟩, kk⟩ := h
  obtain ⟨a, ho, h1, h2, h3, h4⟩ := own_ix R hd
  refine ⟨a, h1, env, F, _, R, ht, fun ds vs env1 F1 H1 s1 R1 r1 q1 => ?_⟩
  split at q1
  · rename_i d1 hd1
    obtain ⟨p1, ho1, g1, g2, g3, g4⟩ := own_ix R1 hd1
    rw [h1] at g1
    cases g1
    exact ⟨F1, a, ho1, d1, ds, vs, _, _, q1.1, rfl, R1.sf, g3, g2, g4, r1, q1.2,
      fun z u d' ho' F2 H2 g ha o r2 q2 => kk z u (env1.set i (.own d')) F2 H2 (s1.trans g.e) (R1.setOwn hd1 h1 g ha o) r2 q2,
      fun ed cls dx d' ho' F2 H2 g ha o rx ex => ⟨env1.set i (.own d'), F2, ed, R1.setOwn hd1 h1 g ha o, rx, ex⟩⟩
  · exact q1.elim
theorem q_callM {k n : Nat} {f : Addr} {fd : FuncData} {ps : List Str} {M : FB} {x : Str} {EX : XD} {p : Pos} (Fn : FnOk X.prog X.w X.K X.mg X.base (L2.CX X.prog X.w) k f fd ps (spB X.K n M)) (hr : Room k X.A) (hg : Gl X x) (hm : X.mg x = some (.ref f)) (hk : PySem.W.keepIn X.K (.ref f) = true)
    (hb : Binds X.K fd ps []) (tk : TkE X bx EX) (hv : L2.PE X e (tVar i)) (ha : QA X bx es t) (hdb : (x == ("__debug__" : Str)) = false := by decide) (he : starEach (e :: es) X.env = (false, eval e X.env) :: starEach es X.env := by rfl) (hpl : (backTo pos (starEach es X.env)).any (·.1) = false := by rfl) :
    QE X bx (.Call (.Name x p) (e :: es) [] pos) (rCallM i M n EX t) := pe_imp (pe_callS Fn hr hg hm hk hb tk (pa_cons hv ha he) hdb he hpl) fun σ H Q' h => by
  obtain ⟨a, h1, h2⟩ := callM_up h
  exact ⟨_, h1, h2⟩
/-- built-ins -/
def rCB (r : VL) (t : RA) : RE := fun env Q => t env fun ds env1 => r ds fun z => Q z env1
theorem cb_up {r : VL} {σ : L2.St} {H : Hp} {Q' : VK} : up X.K bx (rCB r t) σ H Q' → upA X.K bx t σ H fun vs H1 => upVL X.K r vs H1 Q' := fun ⟨env, F, Q, R, ht, k⟩ =>
  ⟨env, F, _, R, ht, fun ds vs env1 F1 H1 s1 R1 r1 q1 => ⟨F1, ds, _, R1.sf, r1, q1, fun z u F2 H2 g r2 q2 => k z u env1 F2 H2 (s1.trans g.e) (R1.to g) r2 q2⟩⟩
theorem cb_upN {r : VL} {σ : L2.St} {H : Hp} {Q' : VK} : upN X.K bx (rCB r t) σ H Q' → upA X.K bx t σ H fun vs H1 => upNL X.K r vs H1 Q' := fun ⟨env, F, Q, R, ht, k⟩ =>
  ⟨env, F, _, R, ht, fun ds vs env1 F1 H1 s1 R1 r1 q1 => ⟨F1, ds, _, R1.sf, r1, q1, fun z ho p hp o q2 => k z p ho env1 F1 _ s1 (R1.laid0 hp) (R1.lone hp) upd_same o q2⟩⟩
theorem q_callB {x : Str} {id : String} {r : VL} {p : Pos} (hc : CallR X (.builtin id) (upVL X.K r)) (hg : Gl X x) (hm : X.mg x = none) (hv : bootBuiltins x = some (.builtin id)) (ha : QA X bx (e :: es) t) (hn : x ≠ "__name__" := by decide) (hdb : (x == ("__debug__" : Str)) = false := by decide)
    (he : starEach (e :: es) X.env = (false, eval e X.env) :: starEach es X.env := by rfl) (hpl : (backTo pos (starEach es X.env)).any (·.1) = false := by rfl) : QE X bx (.Call (.Name x p) (e :: es) [] pos) (rCB r t) := pe_imp (pe_callB hc hg hm hv ha hn hdb he hpl) fun _ _ _ => cb_up
theorem q_callTy {x : Str} {id : String} {r : VL} {p : Pos} (hc : CallR X (.type id) (upVL X.K r)) (hg : Gl X x) (hm : X.mg x = none) (hv : bootBuiltins x = some (.type id)) (ha : QA X bx (e :: es) t) (hn : x ≠ "__name__" := by decide) (hdb : (x == ("__debug__" : Str)) = false := by decide)
    (he : starEach (e :: es) X.env = (false, eval e X.env) :: starEach es X.env := by rfl) (hpl : (backTo pos (starEach es X.env)).any (·.1) = false := by rfl) : QE X bx (.Call (.Name x p) (e :: es) [] pos) (rCB r t) := pe_imp (pe_callTy hc hg hm hv ha hn hdb he hpl) fun _ _ _ => cb_up
theorem q_callTyN {x : Str} {id : String} {r : VL} {p : Pos} (hc : CallR X (.type id) (upNL X.K r)) (hg : Gl X x) (hm : X.mg x = none) (hv : bootBuiltins x = some (.type id)) (ha : QA X bx (e :: es) t) (hn : x ≠ "__name__" := by decide) (hdb : (x == ("__debug__" : Str)) = false := by decide)
    (he : starEach (e :: es) X.env = (false, eval e X.env) :: starEach es X.env := by rfl) (hpl : (backTo pos (starEach es X.env)).any (·.1) = false := by rfl) : QN X bx (.Call (.Name x p) (e :: es) [] pos) (rCB r t) := pe_imp (pe_callTy hc hg hm hv ha hn hdb he hpl) fun _ _ _ => cb_upN
end
end QL
set_option Elab.async false
set_option linter.all false
set_option maxRecDepth 100000
namespace QL
open PySem PySem.Spec PyProof.Rows L2
theorem ownLst {K : PySem.W.Frag} {F : Hp} {xs : List D} {vs : List V} (h : RepL K F xs vs) : OwnH K F (.lst xs) (.lst vs) := ⟨vs, rfl, h⟩
theorem RepL.two {K : PySem.W.Frag} {F : Hp} {d e : D} {vs : List V} (h : RepL K F [d, e] vs) : ∃ v w, vs = [v, w] ∧ Rep K F d v ∧ Rep K F e w := by
  obtain ⟨v, r, rfl, rd, w, r', rfl, re, z⟩ := h
  rw [show r' = [] from z]
  exact ⟨v, w, rfl, rd, re⟩
theorem RepL.three {K : PySem.W.Frag} {F : Hp} {d e f : D} {vs : List V} (h : RepL K F [d, e, f] vs) : ∃ v w u, vs = [v, w, u] ∧ Rep K F d v ∧ Rep K F e w ∧ Rep K F f u := by
  obtain ⟨v, r, rfl, rd, h⟩ := h
  obtain ⟨w, u, rfl, re, rf⟩ := RepL.two h
  exact ⟨v, w, u, rfl, rd, re, rf⟩
/-! ### targets -/
abbrev RG := D → List Slot → (List Slot → Prop) → Prop
abbrev RGs := List D → List Slot → (List Slot → Prop) → Prop
/-- only places of P change -/
def Only' (P : Nat → Prop) (σ σ' : L2.St) : Prop := σ'.length = σ.length ∧ ∀ j : Nat, ¬ P j → σ'[j]? = σ[j]?
theorem Only'.refl {P : Nat → Prop} {σ : L2.St} : Only' P σ σ := ⟨rfl, fun _ _ => rfl⟩
theorem Only'.trans {P : Nat → Prop} {σ σ1 σ2 : L2.St} (a : Only' P σ σ1) (b : Only' P σ1 σ2) : Only' P σ σ2 := ⟨b.1.trans a.1, fun j h => (b.2 j h).trans (a.2 j h)⟩
theorem Only'.set {P : Nat → Prop} {σ : L2.St} {i : Nat} {v : Option V} (h : P i) : Only' P σ (σ.set i v) := ⟨by rw [List.length_set], fun j hj => by rw [List.getElem?_set_ne (fun e => hj (by rw [← e]; exact h))]⟩
def upG (K : PySem.W.Frag) (bx : Bx) (P : Nat → Prop) (g : RG) : TG := fun v σ H Q' => ∃ env F d Q, ER K bx F env σ H ∧ Rep K F d v ∧ g d env Q ∧ ∀ env' F' σ' H', Same F F' → ER K bx F' env' σ' H' → Only' P σ σ' → Q env' → Q' σ' H'
def upGs (K : PySem.W.Frag) (bx : Bx) (P : Nat → Prop) (g : RGs) : TGs := fun vs σ H Q' => ∃ env F ds Q, ER K bx F env σ H ∧ RepL K F ds vs ∧ g ds env Q ∧ ∀ env' F' σ' H', Same F F' → ER K bx F' env' σ' H' → Only' P σ σ' → Q env' → Q' σ' H'
abbrev anyP : Nat → Prop := fun _ => True
abbrev QG (X : Cx) (bx : Bx) (P : Nat → Prop) (tg : Expr) (g : RG) : Prop := L2.PG X tg (upG X.K bx P g)
abbrev QGs (X : Cx) (bx : Bx) (P : Nat → Prop) (tg : List Expr) (g : RGs) : Prop := L2.PGs X tg (upGs X.K bx P g)
def rgN (i : Nat) : RG := fun d env Q => Q (env.set i (.val d))
def rgNil : RGs := fun ds env Q => ds = [] ∧ Q env
def rgCons (g : RG) (gs : RGs) : RGs := fun ds env Q => match ds with
  | [] => False
  | d :: r => g d env fun env1 => gs r env1 Q
def rgT (n : Nat) (gs : RGs) : RG := fun d env Q => match d with
  | .tup xs => xs.length = n ∧ gs xs env Q
  | _ => False
section
variable {X : Cx} {bx : Bx} {e a b tg : Expr} {es tgs : List Expr} {te ta tb : RE} {t : RA} {pos : Pos} {i : Nat} {g : RG} {gs : RGs} {P : Nat → Prop}
theorem pg_imp {t t' : TG} (h : L2.PG X e t) (i : ∀ v σ H Q, t' v σ H Q → t v σ H Q) : L2.PG X e t' := ⟨fun pins s σ H v u Q I r q => h.run pins s σ H v u Q I r (i v σ H Q q)⟩
theorem pgs_imp {t t' : TGs} (h : L2.PGs X es t) (i : ∀ v σ H Q, t' v σ H Q → t v σ H Q) : L2.PGs X es t' := ⟨fun pins s σ H v u Q I r q => h.run pins s σ H v u Q I r (i v σ H Q q)⟩
theorem qg_n (h : L2.PG X tg (gName i)) (hio : bx.io = none ∨ i ≠ 0) (hP : P i := by first | trivial | decide) : QG X bx P tg (rgN i) := pg_imp h fun v σ H Q' ⟨env, F, d, Q, R, r, hg, k⟩ => k _ F _ H (Same.refl _) (R.setVal hio r) (Only'.set hP) hg
theorem qgs_nil : QGs X bx P [] rgNil := pgs_imp pgs_nil fun v σ H Q' ⟨env, F, ds, Q, R, r, hg, k⟩ => by
  obtain ⟨rfl, q⟩ := hg
  exact ⟨r, k env F σ H (Same.refl _) R Only'.refl q⟩
theorem qgs_cons (h1 : QG X bx P tg g) (h2 : QGs X bx P tgs gs) (hs : (assignEach (tg :: tgs) X.env).map (·.2) = assign tg X.env :: (assignEach tgs X.env).map (·.2) := by rfl) : QGs X bx P (tg :: tgs) (rgCons g gs) := pgs_imp (pgs_cons h1 h2 hs) fun v σ H Q' ⟨env, F, ds, Q, R, r, hg, k⟩ => by
  cases ds with
  | nil => exact hg.elim
  | cons d rest =>
    obtain ⟨v1, vs, rfl, r1, r2⟩ := r
    exact ⟨v1, vs, rfl, env, F, d, _, R, r1, hg, fun env1 F1 σ1 H1 s1 R1 o1 q1 => ⟨env1, F1, rest, Q, R1, RepL.mono s1 _ _ r2, q1, fun env2 F2 σ2 H2 s2 R2 o2 q2 => k env2 F2 σ2 H2 (s1.trans s2) R2 (o1.trans o2) q2⟩⟩
theorem qg_t {k n : Nat} (hc : X.calm = true) (h : QGs X bx P tgs gs) (hn : (assignEach tgs X.env).length = n := by rfl) (hst : (assignEach tgs X.env).findIdx? (·.1) = none := by rfl) : QG X bx P (.Tuple tgs k pos) (rgT n gs) := pg_imp (pg_tup hc h hn hst) fun v σ H Q' ⟨env, F, d, Q, R, r, hg, kk⟩ => by
  unfold rgT at hg
  split at hg
  · obtain ⟨p, vs, rfl, h2, h3⟩ := r
    exact ⟨p, vs, rfl, same_sqt R.sf h2, by rw [← h3.length]; exact hg.1, env, F, _, Q, R, h3, hg.2, kk⟩
  · exact hg.elim

/-! ### statements -/
def sNil : RS := fun en env => en.nx env
def sSeq (t u : RS) : RS := fun en env => t { en with nx := fun env' => u en env' } env
def sAsg (te : RE) (g : RG) : RS := fun en env => te env fun d env1 => g d env1 en.nx
def sOwn (i : Nat) (te : RE) : RS := fun en env => te env fun d env1 => en.nx (env1.set i (.own d))
def sDrop (te : RE) : RS := fun en env => te env fun _ env1 => en.nx env1
def sRet (te : RE) : RS := fun en env => te env en.rt
def sRetN : RS := fun en env => en.rt .non env
def sIf (c : RB) (t u : RS) : RS := fun en env => c env fun b env1 => if b = true then t en env1 else u en env1
def sBrk : RS := fun en env => en.bk env
def sCnt : RS := fun en env => en.ct env
def sPass : RS := fun en env => en.nx env
def sNever : RS := fun _ _ => False
variable {st : Stmt} {sts : List Stmt} {ts us : RS}
theorem qs_nil : QSs X bx [] sNil := pss_imp pss_nil fun Dn σ H ⟨env, F, en, R, ht, k, _⟩ => k env F σ H (Same.refl _) R ht
theorem seq_up {σ : L2.St} {H : Hp} {Dn : Ends} : upS X.K bx (sSeq ts us) Dn σ H → tSeq (upS X.K bx ts) (upS X.K bx us) Dn σ H := fun ⟨env, F, en, R, ht, k1, k2, k3, k4⟩ =>
  ⟨env, F, _, R, ht, fun env' F' σ' H' s R' q => ⟨env', F', en, R', q, fun env2 F2 σ2 H2 s2 => k1 env2 F2 σ2 H2 (s.trans s2), fun d v env2 F2 σ2 H2 s2 => k2 d v env2 F2 σ2 H2 (s.trans s2), fun env2 F2 σ2 H2 s2 => k3 env2 F2 σ2 H2 (s.trans s2), fun env2 F2 σ2 H2 s2 => k4 env2 F2 σ2 H2 (s.trans s2)⟩, k2, k3, k4⟩
theorem qs_cons (h : QS X bx st ts) (g : QSs X bx sts us) : QSs X bx (st :: sts) (sSeq ts us) := pss_imp (pss_cons h g) fun _ _ _ => seq_up
theorem qs_one (h : QS X bx st ts) : QSs X bx [st] ts := pss_one h
theorem qs_never : QSs X bx sts sNever := pss_imp pss_never fun Dn σ H ⟨env, F, en, R, ht, _⟩ => ht
theorem qs_asg (he : QE X bx e te) (hg : QG X bx anyP tg g) (hs : swapsWithSole [tg] e pos.line X.env = pure false := by rfl) (hw : swappedStores [tg] e X.env = pure none := by rfl) (h1 : (assignEach [tg] X.env).map (·.2) = [assign tg X.env] := by rfl) : QS X bx (.Assign [tg] e pos) (sAsg te g) := ps_imp (ps_asg he hg hs hw h1) fun Dn σ H ⟨env, F, en, R, ht, k, _⟩ =>
  ⟨env, F, _, R, ht, fun d v env1 F1 H1 s1 R1 r1 q1 => ⟨env1, F1, d, _, R1, r1, q1, fun env2 F2 σ2 H2 s2 R2 _ q2 => k env2 F2 σ2 H2 (s1.trans s2) R2 q2⟩⟩
theorem qs_set {x : Str} {pos' : Pos} (hN : X.N.Nodup) (hi : X.N[i]? = some x) (hx : Loc X.env.scope x) (hio : bx.io = none ∨ i ≠ 0) (he : QE X bx e te) (hs : swapsWith e (some (.Name x pos')) pos.line X.env = pure false := by rfl) (hf : X.fn x = true ∨ X.env.scope.names.lookup x = some .local := by first | exact .inl rfl | exact .inr rfl | assumption) :
    QS X bx (.Assign [.Name x pos'] e pos) (sAsg te (rgN i)) := ps_imp (ps_set hN hi hx he hs hf) fun Dn σ H ⟨env, F, en, R, ht, k, _⟩ =>
  ⟨env, F, _, R, ht, fun d v env1 F1 H1 s1 R1 r1 q1 => k _ F1 _ H1 s1 (R1.setVal hio r1) q1⟩
theorem qs_own {x : Str} {pos' : Pos} (hN : X.N.Nodup) (hi : X.N[i]? = some x) (hx : Loc X.env.scope x) (hio : bx.io = none ∨ i ≠ 0) (he : QN X bx e te) (hs : swapsWith e (some (.Name x pos')) pos.line X.env = pure false := by rfl) (hf : X.fn x = true ∨ X.env.scope.names.lookup x = some .local := by first | exact .inl rfl | exact .inr rfl | assumption) :
    QS X bx (.Assign [.Name x pos'] e pos) (sOwn i te) := ps_imp (ps_set hN hi hx he hs hf) fun Dn σ H ⟨env, F, en, R, ht, k, _⟩ =>
  ⟨env, F, _, R, ht, fun d p ho env1 F1 H1 s1 R1 l hp o q1 => k _ F1 _ H1 s1 (R1.setNew hio l hp o) q1⟩
theorem qs_expr (he : QE X bx e te) (hs : swapsWith e none pos.line X.env = pure false := by rfl) : QS X bx (.Expr e pos) (sDrop te) := ps_imp (ps_expr he hs) fun Dn σ H ⟨env, F, en, R, ht, k, _⟩ =>
  ⟨env, F, _, R, ht, fun d v env1 F1 H1 s1 R1 r1 q1 => k env1 F1 σ H1 s1 R1 q1⟩
theorem qs_ret (he : QE X bx e te) : QS X bx (.Return (some e) pos) (sRet te) := ps_imp (ps_ret he) fun Dn σ H ⟨env, F, en, R, ht, _, k, _⟩ =>
  ⟨env, F, _, R, ht, fun d v env1 F1 H1 s1 R1 r1 q1 => k d v env1 F1 σ H1 s1 R1 r1 q1⟩
theorem qs_retN : QS X bx (.Return none pos) sRetN := ps_imp ps_retN fun Dn σ H ⟨env, F, en, R, ht, _, k, _⟩ => k .non .non env F σ H (Same.refl _) R rfl ht
theorem qs_if {c : Expr} {sa sb : List Stmt} {tc : RB} (hc : QT X bx c tc) (ha : QSs X bx sa ts) (hb : QSs X bx sb us) : QS X bx (.If c sa sb pos) (sIf tc ts us) := ps_imp (ps_if hc ha hb) fun Dn σ H ⟨env, F, en, R, ht, k1, k2, k3, k4⟩ =>
  ⟨env, F, _, R, ht, fun b env1 F1 H1 s R1 q1 => by
    cases b with
    | true =>
      rw [if_pos rfl] at q1 ⊢
      exact ⟨env1, F1, en, R1, q1, fun env2 F2 σ2 H2 s2 => k1 env2 F2 σ2 H2 (s.trans s2), fun d v env2 F2 σ2 H2 s2 => k2 d v env2 F2 σ2 H2 (s.trans s2), fun env2 F2 σ2 H2 s2 => k3 env2 F2 σ2 H2 (s.trans s2), fun env2 F2 σ2 H2 s2 => k4 env2 F2 σ2 H2 (s.trans s2)⟩
    | false =>
      rw [if_neg Bool.false_ne_true] at q1 ⊢
      exact ⟨env1, F1, en, R1, q1, fun env2 F2 σ2 H2 s2 => k1 env2 F2 σ2 H2 (s.trans s2), fun d v env2 F2 σ2 H2 s2 => k2 d v env2 F2 σ2 H2 (s.trans s2), fun env2 F2 σ2 H2 s2 => k3 env2 F2 σ2 H2 (s.trans s2), fun env2 F2 σ2 H2 s2 => k4 env2 F2 σ2 H2 (s.trans s2)⟩⟩
theorem qs_brk : QS X bx (.Break pos) sBrk := ps_imp ps_break fun Dn σ H ⟨env, F, en, R, ht, _, _, k, _⟩ => k env F σ H (Same.refl _) R ht
theorem qs_cnt : QS X bx (.Continue pos) sCnt := ps_imp ps_continue fun Dn σ H ⟨env, F, en, R, ht, _, _, _, k⟩ => k env F σ H (Same.refl _) R ht
theorem qs_pass : QS X bx (.Pass pos) sPass := ps_imp ps_pass fun Dn σ H ⟨env, F, en, R, ht, k, _⟩ => k env F σ H (Same.refl _) R ht
/-- a, b = e1, e2 -/
def sPar (i j : Nat) (t : RA) : RS := fun en env => t env fun ds env1 => match ds with
  | [d, e] => en.nx ((env1.set i (.val d)).set j (.val e))
  | _ => False
theorem qs_par {j : Nat} {x y : Str} {px py pt : Pos} {kt k2 pt2} (hc : X.calm = true) (hN : X.N.Nodup) (hi : X.N[i]? = some x) (hj : X.N[j]? = some y) (hij : i ≠ j) (hio : bx.io = none ∨ i ≠ 0) (hio2 : bx.io = none ∨ j ≠ 0)
    (hx : X.env.scope.names.lookup x = some .local) (hy : X.env.scope.names.lookup y = some .local) (ha : QA X bx [a, b] t)
    (hw : swappedStores [.Tuple [.Name x px, .Name y py] kt pt] (.Tuple [a, b] k2 pt2) X.env = pure (some [x, y]))
    (hs : swapsWithSole [.Tuple [.Name x px, .Name y py] kt pt] (.Tuple [a, b] k2 pt2) pos.line X.env = pure false := by rfl) :
    QS X bx (.Assign [.Tuple [.Name x px, .Name y py] kt pt] (.Tuple [a, b] k2 pt2) pos) (sPar i j t) := ps_imp (ps_par hc hN hi hj hij hx hy ha hw hs) fun Dn σ H ⟨env, F, en, R, ht, k, _⟩ =>
  ⟨env, F, _, R, ht, fun ds vs env1 F1 H1 s1 R1 r1 q1 => by
    split at q1
    · obtain ⟨v, w, rfl, rd, re⟩ := RepL.two r1
      exact ⟨v, w, rfl, k _ F1 _ H1 s1 ((R1.setVal hio rd).setVal hio2 re) q1⟩
    · exact q1.elim⟩
def sPar3 (i j l : Nat) (t : RA) : RS := fun en env => t env fun ds env1 => match ds with
  | [d, e, f] => en.nx (((env1.set i (.val d)).set j (.val e)).set l (.val f))
  | _ => False
theorem qs_par3 {j l : Nat} {x y z : Str} {c : Expr} {px py pz pt : Pos} {kt k2 pt2} (hc : X.calm = true) (hN : X.N.Nodup) (hi : X.N[i]? = some x) (hj : X.N[j]? = some y) (hl : X.N[l]? = some z) (hij : i ≠ j) (hil : i ≠ l) (hjl : j ≠ l) (hio : bx.io = none ∨ i ≠ 0) (hio2 : bx.io = none ∨ j ≠ 0) (hio3 : bx.io = none ∨ l ≠ 0)
    (hx : X.env.scope.names.lookup x = some .local) (hy : X.env.scope.names.lookup y = some .local) (hz : X.env.scope.names.lookup z = some .local) (ha : QA X bx [a, b, c] t)
    (hw : swappedStores [.Tuple [.Name x px, .Name y py, .Name z pz] kt pt] (.Tuple [a, b, c] k2 pt2) X.env = pure (some [x, y, z]))
    (hs : swapsWithSole [.Tuple [.Name x px, .Name y py, .Name z pz] kt pt] (.Tuple [a, b, c] k2 pt2) pos.line X.env = pure false := by rfl) :
    QS X bx (.Assign [.Tuple [.Name x px, .Name y py, .Name z pz] kt pt] (.Tuple [a, b, c] k2 pt2) pos) (sPar3 i j l t) := ps_imp (ps_par3 hc hN hi hj hl hij hil hjl hx hy hz ha hw hs) fun Dn σ H ⟨env, F, en, R, ht, k, _⟩ =>
  ⟨env, F, _, R, ht, fun ds vs env1 F1 H1 s1 R1 r1 q1 => by
    split at q1
    · obtain ⟨v, w, u, rfl, rd, re, rf⟩ := RepL.three r1
      exact ⟨v, w, u, rfl, k _ F1 _ H1 s1 (((R1.setVal hio rd).setVal hio2 re).setVal hio3 rf) q1⟩
    · exact q1.elim⟩
/-- x op= e -/
def sAug (i : Nat) (r : V2) (te : RE) : RS := fun en env => match env[i]? with
  | some (.val d) => te env fun e env1 => r d e fun z => en.nx (env1.set i (.val z))
  | _ => False
def IpQ (X : Cx) (op : Operator) (r : V2) : Prop := PIp X op (upV2 X.K r)
theorem ip_of {op : Operator} {r : V2} (h : OpR X (inplaceOp op) (upV2 X.K r)) : IpQ X op r := fun pins s σ H x y v u Q I r1 r2 q => h pins s σ H x y v u Q I r1 r2 q
def vIAdd : V2
  | .int i, .int j, Q => Q (.int (i + j))
  | _, _, _ => False
def vISub : V2
  | .int i, .int j, Q => Q (.int (i - j))
  | _, _, _ => False
theorem qip_add : IpQ X .Add vIAdd := by
  intro pins s σ H x y v u Q' I rx ry ⟨F, d, e, Q, sm, r1, r2, h, g⟩
  unfold vIAdd at h
  split at h
  · cases r1; cases r2
    exact ip_add pins s σ H _ _ v u Q' I rx ry ⟨_, _, rfl, rfl, g.i sm h⟩
  · exact h.elim
theorem qip_sub : IpQ X .Sub vISub := by
  intro pins s σ H x y v u Q' I rx ry ⟨F, d, e, Q, sm, r1, r2, h, g⟩
  unfold vISub at h
  split at h
  · cases r1; cases r2
    exact ip_sub pins s σ H _ _ v u Q' I rx ry ⟨_, _, rfl, rfl, g.i sm h⟩
  · exact h.elim
theorem qs_aug {x : Str} {op : Operator} {r : V2} {pos' : Pos} (hN : X.N.Nodup) (hi : X.N[i]? = some x) (hx : Loc X.env.scope x) (hio : bx.io = none ∨ i ≠ 0) (ho : IpQ X op r) (he : QE X bx e te) (hf : X.fn x = true ∨ X.env.scope.names.lookup x = some .local := by first | exact .inl rfl | exact .inr rfl | assumption) :
    QS X bx (.AugAssign (.Name x pos') op e pos) (sAug i r te) := ps_imp (ps_aug hN hi hx he ho hf) fun Dn σ H ⟨env, F, en, R, ht, k, _⟩ => by
  unfold sAug at ht
  split at ht
  · rename_i d hd
    obtain ⟨o, h1, v, rfl, h3⟩ := R.slots i _ hd
    exact ⟨v, h1, env, F, _, R, ht, fun e w env1 F1 H1 s1 R1 r1 q1 => ⟨F1, d, e, _, R1.sf, Rep.mono s1 _ _ h3, r1, q1, fun z u F2 H2 g r2 q2 => k _ F2 _ H2 (s1.trans g.e) ((R1.to g).setVal hio r2) q2⟩⟩
  · exact ht.elim
/-! what a slot owns: lists -/
def sApp (i : Nat) (te : RE) : RS := fun en env => (∃ xs, env[i]? = some (.own (.lst xs))) ∧ te env fun d env1 => match env1[i]? with
  | some (.own (.lst xs)) => xs.length < sizeLine ∧ en.nx (env1.set i (.own (.lst (xs ++ [d]))))
  | _ => False
theorem growB_upd {F H : Hp} {a : Addr} {o : HO} (s : Same F H) (h : F a = none) : GrowB a F H F (upd H a o) :=
  ⟨Same.refl _, same_upd2 s h, fun b q z hb => by rw [upd_ne hb]; exact z, fun b h1 h2 => h1⟩
theorem pe_append {o e : Expr} {apos cpos : Pos} {to te : TE} (ho : L2.PE X o to) (he : L2.PE X e te) (hbase : attributeBase o "append" X.env (eval o X.env) = eval o X.env := by rfl)
    (hfew : ((backTo cpos (starEach [e] X.env)).all (fun x => !x.1) && (backToKw cpos (keywordEach [] X.env)).all (fun x => x.1.isSome) && decide ([e].length + ([] : List Keyword).length + (if ([] : List Keyword).isEmpty then 0 else 1) < 30)) = true := by rfl)
    (hline : (apos.endLine == cpos.line) = true := by rfl) (hs : starEach [e] X.env = (false, eval e X.env) :: starEach [] X.env := by rfl) (hplain : (backTo cpos (starEach [] X.env)).any (·.1) = false := by rfl) :
    L2.PE X (.Call (.Attribute o "append" apos) [e] [] cpos) (tBM X.K "list" rAppend to (tCons te tNil)) :=
  pe_bm PySem.F.plainAttrs_list PySem.F.slot_list_append PySem.F.type_list_append mt_append ho (pa_cons he pa_nil hs) hbase hfew hline hs hplain
theorem qs_app {o : Expr} {apos cpos : Pos} (ho : L2.PE X o (tVar i)) (he : QE X bx e te) (hbase : attributeBase o "append" X.env (eval o X.env) = eval o X.env := by rfl)
    (hfew : ((backTo cpos (starEach [e] X.env)).all (fun x => !x.1) && (backToKw cpos (keywordEach [] X.env)).all (fun x => x.1.isSome) && decide ([e].length + ([] : List Keyword).length + (if ([] : List Keyword).isEmpty then 0 else 1) < 30)) = true := by rfl)
    (hline : (apos.endLine == cpos.line) = true := by rfl) (hs : starEach [e] X.env = (false, eval e X.env) :: starEach [] X.env := by rfl) (hplain : (backTo cpos (starEach [] X.env)).any (·.1) = false := by rfl)
    (hsw : swapsWith (.Call (.Attribute o "append" apos) [e] [] cpos) none pos.line X.env = pure false := by rfl) :
    QS X bx (.Expr (.Call (.Attribute o "append" apos) [e] [] cpos) pos) (sApp i te) := ps_imp (ps_expr (pe_append ho he hbase hfew hline hs hplain) hsw) fun Dn σ H ⟨env, F, en, R, ⟨⟨xs, hx⟩, ht⟩, k, _⟩ => by
  obtain ⟨a, ho, h1, h2, h3, ⟨vs, rfl, h4⟩⟩ := own_ix R hx
  refine ⟨.ref a, h1, .inl ⟨rfl, _, .inl (.inl h2)⟩, env, F, _, R, ht, fun d v env1 F1 H1 s1 R1 r1 q1 => ?_⟩
  split at q1
  · rename_i ys hy
    obtain ⟨a', ho', g1, g2, g3, ⟨ws, rfl, g4⟩⟩ := own_ix R1 hy
    rw [h1] at g1; cases g1
    exact ⟨a, ws, v, rfl, rfl, g2, by rw [← g4.length]; exact q1.1, k _ F1 σ _ s1 (R1.setOwn hy h1 (growB_upd R1.sf g3) upd_same (ownLst (RepL.append g4 (RepL.one r1)))) q1.2⟩
  · exact q1.elim
/-- x.pop() -/
def rPopO (i : Nat) : RE := fun env Q => match env[i]? with
  | some (.own (.lst xs)) => ∃ d, xs[xs.length - 1]? = some d ∧ Q d (env.set i (.own (.lst xs.dropLast)))
  | _ => False
theorem RepL.dropLast {K : PySem.W.Frag} {F : Hp} {xs : List D} {vs : List V} (h : RepL K F xs vs) : RepL K F xs.dropLast vs.dropLast := by
  rw [List.dropLast_eq_take, List.dropLast_eq_take, h.length]
  exact RepL.take _ h
theorem q_pop {o : Expr} {apos cpos : Pos} (ho : L2.PE X o (tVar i)) (hbase : attributeBase o "pop" X.env (eval o X.env) = eval o X.env := by rfl) (hline : (apos.endLine == cpos.line) = true := by rfl) :
    QE X bx (.Call (.Attribute o "pop" apos) [] [] cpos) (rPopO i) := pe_imp (pe_bm0 PySem.F.plainAttrs_list PySem.F.slot_list_pop PySem.F.type_list_pop mt_pop ho hbase hline) fun σ H Q' ⟨env, F, Q, R, ht, k⟩ => by
  unfold rPopO at ht
  split at ht
  · rename_i xs hx
    obtain ⟨d, hd, q⟩ := ht
    obtain ⟨a, ho, h1, h2, h3, ⟨vs, rfl, h4⟩⟩ := own_ix R hx
    obtain ⟨v, hv, rv⟩ := h4.get hd
    refine ⟨.ref a, h1, .inl ⟨rfl, _, .inl (.inl h2)⟩, a, vs, v, rfl, rfl, h2, by rw [← h4.length]; exact hv, ?_⟩
    exact k d v _ F _ (Same.refl _) (R.setOwn hx h1 (growB_upd R.sf h3) upd_same (ownLst h4.dropLast)) rv q
  · exact ht.elim
/-- x[j] = e, x[j] op= e -/
def sPut (i : Nat) (te tj : RE) : RS := fun en env => te env fun d env1 => (∃ xs, env1[i]? = some (.own (.lst xs))) ∧ tj env1 fun j env2 => match env2[i]? with
  | some (.own (.lst xs)) => (match j with
    | .int k => ∃ n, ixN xs.length k = some n ∧ en.nx (env2.set i (.own (.lst (xs.set n d))))
    | _ => False)
  | _ => False
theorem qs_put {o j : Expr} {tj : RE} {p' : Pos} (ho : L2.PE X o (tVar i)) (hj : QE X bx j tj) (he : QE X bx e te) (hs : swapsWithSole [.Subscript o j p'] e pos.line X.env = pure false := by rfl) (hw : swappedStores [.Subscript o j p'] e X.env = pure none := by rfl) (h1 : (assignEach [.Subscript o j p'] X.env).map (·.2) = [assign (.Subscript o j p') X.env] := by rfl)
    (ha : ∀ v, assign (.Subscript o j p') X.env v = (do
      let ov ← holding [v] (eval o X.env)
      let iv ← holding [v, ov] (eval j X.env)
      standAt p'
      holding [v, ov, iv] (setItem ov iv v)
      release [v, ov, iv] []) := by intro _; rfl) : QS X bx (.Assign [.Subscript o j p'] e pos) (sPut i te tj) := ps_imp (ps_asg he (pg_sub ho hj set_list ha) hs hw h1) fun Dn σ H ⟨env, F, en, R, ht, k, _⟩ =>
  ⟨env, F, _, R, ht, fun d v env1 F1 H1 s1 R1 r1 ⟨⟨xs, hx⟩, q1⟩ => by
    obtain ⟨a, ho, g1, g2, g3, ⟨vs, rfl, g4⟩⟩ := own_ix R1 hx
    refine ⟨.ref a, g1, env1, F1, _, R1, q1, fun z w env2 F2 H2 s2 R2 r2 q2 => ?_⟩
    split at q2
    · rename_i ys hy
      obtain ⟨a', ho', f1, f2, f3, ⟨ws, rfl, f4⟩⟩ := own_ix R2 hy
      rw [g1] at f1; cases f1
      split at q2
      · cases r2
        obtain ⟨n, hn, q3⟩ := q2
        exact ⟨a, ws, _, n, rfl, rfl, f2, by rw [← f4.length]; exact hn, k _ F2 σ _ (s1.trans s2) (R2.setOwn hy g1 (growB_upd R2.sf f3) upd_same (ownLst (RepL.set n f4 (Rep.mono s2 _ _ r1)))) q3⟩
      · exact q2.elim
    · exact q2.elim⟩
theorem get_list : PGet X (rIxL X.K) := by
  intro pins s σ H x y v u Q I rx ry h
  obtain ⟨p, xs, i, z, rfl, rfl, hq, he, q⟩ := h
  cases rx
  obtain ⟨t, rfl⟩ := ry
  obtain ⟨its, r, pl, hz⟩ := I.list hq
  obtain ⟨j, h1, h2, h3, h4, h5⟩ := atI_get he
  obtain ⟨w, ew, rw'⟩ := r.get h2
  have hl := r.length
  have hn := line63
  have fin : EP X pins σ Q w s := ⟨z, H, I, rw', q⟩
  by_cases h0 : 0 ≤ i
  · have hj : i.toNat = j := by
      rw [seqIndex_of h0 h5] at h1
      exact Option.some.inj h1
    exact wpAny_getItem_list pl.isList h0 (by omega) (by rw [hj]; simpa using ew) fin
  · have hj : (i + (its.toArray.size : Int)).toNat = j := by
      rw [seqIndex_neg (by omega) h4] at h1
      rw [List.size_toArray, ← hl]
      exact Option.some.inj h1
    exact wpAny_getItem_list_neg pl.isList (by omega) (by rw [List.size_toArray] <;> omega) (by omega) (by rw [hj]; simpa using ew) fin
def sAugI (i : Nat) (r : V2) (tj te : RE) : RS := fun en env => (∃ xs, env[i]? = some (.own (.lst xs))) ∧ tj env fun j env1 => match env1[i]? with
  | some (.own (.lst xs)) => (match j with
    | .int k => ∃ d, atI xs k = some d ∧ te env1 fun e env2 => r d e fun z => match env2[i]? with
      | some (.own (.lst ys)) => ∃ n, ixN ys.length k = some n ∧ en.nx (env2.set i (.own (.lst (ys.set n z))))
      | _ => False
    | _ => False)
  | _ => False
theorem qs_augI {o j : Expr} {tj : RE} {r : V2} {op : Operator} {p' : Pos} (ho : L2.PE X o (tVar i)) (hj : QE X bx j tj) (hp : IpQ X op r) (he : QE X bx e te)
    (ha : ∀ ov iv new, augStore j ov iv new = (do holding [new, ov, iv] (setItem ov iv new); release [new, ov, iv] []; pure .next) := by intros; rfl) : QS X bx (.AugAssign (.Subscript o j p') op e pos) (sAugI i r tj te) := ps_imp (ps_augS ho hj get_list he hp set_list ha) fun Dn σ H ⟨env, F, en, R, ⟨⟨xs, hx⟩, ht⟩, k, _⟩ => by
  obtain ⟨a, ho, h1, h2, h3, ⟨vs, rfl, h4⟩⟩ := own_ix R hx
  refine ⟨.ref a, h1, env, F, _, R, ht, fun z w env1 F1 H1 s1 R1 r1 q1 => ?_⟩
  split at q1
  · rename_i ys hy
    obtain ⟨a', ho', f1, f2, f3, ⟨ws, rfl, f4⟩⟩ := own_ix R1 hy
    rw [h1] at f1; cases f1
    split at q1
    · cases r1
      obtain ⟨d, hd, q2⟩ := q1
      obtain ⟨v, hv, rv⟩ := atI_rep f4 hd
      refine ⟨a, ws, _, v, rfl, rfl, .inl (.inl f2), hv, env1, F1, _, R1, q2, fun e w env2 F2 H2 s2 R2 r2 q3 => ⟨F2, d, e, _, R2.sf, Rep.mono s2 _ _ rv, r2, q3, fun z u F3 H3 g r3 q4 => ?_⟩⟩
      split at q4
      · rename_i zs hz
        have R3 := R2.to g
        obtain ⟨a', ho', e1, e2, e3, ⟨us, rfl, e4⟩⟩ := own_ix R3 hz
        rw [h1] at e1; cases e1
        obtain ⟨n, hn, q5⟩ := q4
        exact ⟨a, us, _, n, rfl, rfl, e2, by rw [← e4.length]; exact hn, k _ F3 σ _ ((s1.trans s2).trans g.e) (R3.setOwn hz h1 (growB_upd R3.sf e3) upd_same (ownLst (RepL.set n e4 r3))) q5⟩
      · exact q4.elim
    · exact q1.elim
  · exact q1.elim
end
end QL
set_option Elab.async false
set_option linter.all false
set_option maxRecDepth 100000
namespace QL
open PySem PySem.Spec PyProof.Rows L2
/-! ### what is walked -/
/-- the iterator J gives the data xs, one after another, as long as F0 stands frozen -/
structure Wk (K : PySem.W.Frag) (F0 : Hp) (J : It) (xs : List D) : Prop where
  go : ∀ (i : Nat) (F H : Hp), Same F0 F → Same F H → i < xs.length → J.go i H
  yl : ∀ (i : Nat) (F H : Hp) (v : V) (H' : Hp), Same F0 F → Same F H → i < xs.length → J.yld i H v H' → ∃ F' d, Grow F H F' H' ∧ xs[i]? = some d ∧ Rep K F' d v
  st : ∀ (i : Nat) (F H : Hp), Same F0 F → Same F H → xs.length ≤ i → J.stop i H
theorem wk_list {K : PySem.W.Frag} {F0 : Hp} {a : Addr} {vs : List V} {xs : List D} (h : SqL K F0 a vs) (r : RepL K F0 xs vs) (un : ∀ F H ys, Same F0 F → Same F H → SqL K H a ys → ys = vs) : Wk K F0 (Itl K a) xs where
  go := fun i F H s1 s2 hi => by
    rw [r.length] at hi
    exact ⟨vs, vs[i], s2.seq (s1.seq h), List.getElem?_eq_getElem hi⟩
  yl := fun i F H v H' s1 s2 hi ⟨e, y⟩ => by
    have hv := y vs (s2.seq (s1.seq h))
    obtain ⟨d, hd, rd⟩ := r.getV hv
    rw [e]
    exact ⟨F, d, Grow.refl s2, hd, Rep.mono s1 _ _ rd⟩
  st := fun i F H s1 s2 hi => ⟨vs, s2.seq (s1.seq h), by rw [← r.length]; exact hi⟩
theorem wk_tup {K : PySem.W.Frag} {F0 : Hp} {a : Addr} {vs : List V} {xs : List D} (h : SqT K F0 a vs) (r : RepL K F0 xs vs) : Wk K F0 (Itt K a) xs where
  go := fun i F H s1 s2 hi => by
    rw [r.length] at hi
    exact ⟨vs, vs[i], same_sqt s2 (same_sqt s1 h), List.getElem?_eq_getElem hi⟩
  yl := fun i F H v H' s1 s2 hi ⟨e, y⟩ => by
    have hv := y vs (same_sqt s2 (same_sqt s1 h))
    obtain ⟨d, hd, rd⟩ := r.getV hv
    rw [e]
    exact ⟨F, d, Grow.refl s2, hd, Rep.mono s1 _ _ rd⟩
  st := fun i F H s1 s2 hi => ⟨vs, same_sqt s2 (same_sqt s1 h), by rw [← r.length]; exact hi⟩
def rng (lo : Int) (n : Nat) : List D := (List.range n).map fun i => D.int (lo + (i : Nat))
theorem wk_rng {K : PySem.W.Frag} {F0 : Hp} {lo : Int} {n : Nat} : Wk K F0 (Itr lo n) (rng lo n) where
  go := fun i F H s1 s2 hi => by
    have e : (rng lo n).length = n := by simp [rng]
    rw [e] at hi; exact hi
  yl := fun i F H v H' s1 s2 hi ⟨e, y⟩ => by
    have el : (rng lo n).length = n := by simp [rng]
    rw [el] at hi
    rw [e, y]
    refine ⟨F, .int (lo + (i : Nat)), Grow.refl s2, ?_, rfl⟩
    simp [rng, hi]
  st := fun i F H s1 s2 hi => by
    have el : (rng lo n).length = n := by simp [rng]
    rw [el] at hi; exact hi
def enumD (xs : List D) : List D := (List.range xs.length).zipWith (fun (i : Nat) d => D.tup [.int i, d]) xs
theorem enumD_get {xs : List D} {i : Nat} {d : D} (h : xs[i]? = some d) : (enumD xs)[i]? = some (.tup [.int i, d]) := by
  have hi := (List.getElem?_eq_some_iff.mp h).1
  unfold enumD
  rw [List.getElem?_zipWith, h, List.getElem?_range hi]
theorem enumD_len {xs : List D} : (enumD xs).length = xs.length := by unfold enumD; simp
theorem wk_enum {K : PySem.W.Frag} {F0 : Hp} {a : Addr} {vs : List V} {xs : List D} (h : SqL K F0 a vs) (r : RepL K F0 xs vs) : Wk K F0 (Ite K a) (enumD xs) where
  go := fun i F H s1 s2 hi => by
    rw [enumD_len, r.length] at hi
    exact ⟨vs, vs[i], s2.seq (s1.seq h), List.getElem?_eq_getElem hi⟩
  yl := fun i F H v H' s1 s2 hi ⟨T, x, e1, nT, e2, y⟩ => by
    have hv := y vs (s2.seq (s1.seq h))
    obtain ⟨d, hd, rd⟩ := r.getV hv
    rw [e1, e2]
    refine ⟨_, .tup [.int i, d], Grow.laid s2 nT, enumD_get hd, T, [.int i, x], rfl, .inl (.inl upd_same), _, _, rfl, rfl, _, _, rfl, Rep.mono (s1.trans (same_upd (s2.free nT))) _ _ rd, rfl⟩
  st := fun i F H s1 s2 hi => ⟨vs, s2.seq (s1.seq h), by rw [← r.length, ← enumD_len]; exact hi⟩
def zipD (xs ys : List D) : List D := xs.zipWith (fun d e => D.tup [d, e]) ys
theorem wk_zip {K : PySem.W.Frag} {F0 : Hp} {a b : Addr} {vs ws : List V} {xs ys : List D} (h : SqL K F0 a vs) (r : RepL K F0 xs vs) (g : SqL K F0 b ws) (q : RepL K F0 ys ws) : Wk K F0 (Itz K a b) (zipD xs ys) where
  go := fun i F H s1 s2 hi => by
    have hl : i < vs.length ∧ i < ws.length := by
      unfold zipD at hi
      rw [List.length_zipWith, r.length, q.length] at hi
      omega
    exact ⟨vs, ws, vs[i], ws[i], s2.seq (s1.seq h), s2.seq (s1.seq g), List.getElem?_eq_getElem hl.1, List.getElem?_eq_getElem hl.2⟩
  yl := fun i F H v H' s1 s2 hi ⟨T, x, y, e1, nT, e2, y1, y2⟩ => by
    obtain ⟨d, hd, rd⟩ := r.getV (y1 vs (s2.seq (s1.seq h)))
    obtain ⟨e, he, re⟩ := q.getV (y2 ws (s2.seq (s1.seq g)))
    rw [e1, e2]
    have s3 := s1.trans (same_upd (o := .tup [x, y]) (s2.free nT))
    refine ⟨_, .tup [d, e], Grow.laid s2 nT, ?_, T, [x, y], rfl, .inl (.inl upd_same), _, _, rfl, Rep.mono s3 _ _ rd, _, _, rfl, Rep.mono s3 _ _ re, rfl⟩
    unfold zipD
    rw [List.getElem?_zipWith, hd, he]
  st := fun i F H s1 s2 hi => by
    refine ⟨vs, ws, s2.seq (s1.seq h), s2.seq (s1.seq g), ?_⟩
    unfold zipD at hi
    rw [List.length_zipWith, r.length, q.length] at hi
    omega
abbrev RI := List Slot → (List D → List Slot → Prop) → Prop
def upI (K : PySem.W.Frag) (bx : Bx) (t : RI) : TI := fun σ H R' => ∃ env F Q, ER K bx F env σ H ∧ t env Q ∧ ∀ xs env' F' H' J, Same F F' → ER K bx F' env' σ H' → Wk K F' J xs → Q xs env' → R' J H'
abbrev QI (X : Cx) (bx : Bx) (tg iter : Expr) (t : RI) : Prop := L2.PI X tg iter (upI X.K bx t)
def itD : D → Option (List D)
  | .lst xs => some xs
  | .tup xs => some xs
  | _ => none
def riL (te : RE) : RI := fun env Q => te env fun d env1 => match d with
  | .lst xs => Q xs env1
  | .scr ns => Q (ns.map D.int) env1
  | _ => False
def riT (te : RE) : RI := fun env Q => te env fun d env1 => match d with
  | .tup xs => Q xs env1
  | _ => False
def riR1 (t : RA) : RI := fun env Q => t env fun ds env1 => match ds with
  | [.int j] => (-(2 ^ 62) ≤ j ∧ j < 2 ^ 62) ∧ Q (rng 0 j.toNat) env1
  | _ => False
def riR2 (t : RA) : RI := fun env Q => t env fun ds env1 => match ds with
  | [.int i, .int j] => (-(2 ^ 62) ≤ i ∧ i < 2 ^ 62 ∧ -(2 ^ 62) ≤ j ∧ j < 2 ^ 62) ∧ Q (rng i (j - i).toNat) env1
  | _ => False
def riE (t : RA) : RI := fun env Q => t env fun ds env1 => match ds with
  | [.lst xs] => Q (enumD xs) env1
  | _ => False
def riZ (t : RA) : RI := fun env Q => t env fun ds env1 => match ds with
  | [.lst xs, .lst ys] => Q (zipD xs ys) env1
  | _ => False
section
variable {X : Cx} {bx : Bx} {e a b tg iter : Expr} {es : List Expr} {te : RE} {t : RA} {pos : Pos}
theorem pi_imp {w w' : TI} (h : L2.PI X tg iter w) (i : ∀ σ H Q, w' σ H Q → w σ H Q) : L2.PI X tg iter w' := ⟨fun pins s σ H R I q => h.run pins s σ H R I (i σ H R q)⟩
theorem lst_un {K : PySem.W.Frag} {H : Hp} {a : Addr} {vs ys : List V} (h : H a = some (.lst vs)) (hk : K.lookup a = none) (g : SqL K H a ys) : ys = vs := by
  rcases g with (g | ⟨o, g⟩) | ⟨o, _, _, g, _⟩
  · rw [h] at g; cases g; rfl
  · rw [h] at g; cases g
  · rw [hk] at g; cases g
theorem qi_l (h : QE X bx e te) : QI X bx tg e (riL te) := pi_imp (pi_list h) fun σ H Q' ⟨env, F, Q, R, ht, k⟩ => ⟨env, F, _, R, ht, fun d v env1 F1 H1 s1 R1 r1 q1 => by
  split at q1
  · obtain ⟨a, vs, rfl, h2, h3⟩ := r1
    exact ⟨a, rfl, ⟨vs, .inl (.inl (R1.sf _ _ h2))⟩, k _ env1 F1 H1 _ s1 R1 ⟨fun i F H s1 s2 hi => by
      rw [h3.length] at hi
      exact ⟨vs, vs[i], .inl (.inl (s2 _ _ (s1 _ _ h2))), List.getElem?_eq_getElem hi⟩, fun i F H v H' s1 s2 hi ⟨e, y⟩ => by
      have hv := y vs (.inl (.inl (s2 _ _ (s1 _ _ h2))))
      obtain ⟨d, hd, rd⟩ := h3.getV hv
      rw [e]
      exact ⟨F, d, Grow.refl s2, hd, Rep.mono s1 _ _ rd⟩, fun i F H s1 s2 hi => ⟨vs, .inl (.inl (s2 _ _ (s1 _ _ h2))), by rw [← h3.length]; exact hi⟩⟩ q1⟩
  · obtain ⟨a, rfl, h2⟩ := r1
    rename_i ns
    have h3 : RepL X.K F1 (ns.map D.int) (ns.map V.int) := RepL.of_ints
    exact ⟨a, rfl, ⟨_, R1.sf.seq h2⟩, k _ env1 F1 H1 _ s1 R1 ⟨fun i F H s1 s2 hi => by
      rw [h3.length] at hi
      exact ⟨_, _, s2.seq (s1.seq h2), List.getElem?_eq_getElem hi⟩, fun i F H v H' s1 s2 hi ⟨e, y⟩ => by
      have hv := y _ (s2.seq (s1.seq h2))
      obtain ⟨d, hd, rd⟩ := h3.getV hv
      rw [e]
      exact ⟨F, d, Grow.refl s2, hd, Rep.mono s1 _ _ rd⟩, fun i F H s1 s2 hi => ⟨_, s2.seq (s1.seq h2), by rw [← h3.length]; exact hi⟩⟩ q1⟩
  · exact q1.elim⟩
theorem qi_t (h : QE X bx e te) : QI X bx tg e (riT te) := pi_imp (pi_tup h) fun σ H Q' ⟨env, F, Q, R, ht, k⟩ => ⟨env, F, _, R, ht, fun d v env1 F1 H1 s1 R1 r1 q1 => by
  split at q1
  · obtain ⟨a, vs, rfl, h2, h3⟩ := r1
    exact ⟨a, rfl, ⟨vs, same_sqt R1.sf h2⟩, k _ env1 F1 H1 _ s1 R1 (wk_tup h2 h3) q1⟩
  · exact q1.elim⟩
theorem qi_r1 {p : Pos} (hg : Gl X "range") (hm : X.mg "range" = none) (ha : QA X bx [a] t) (hs : starEach [a] X.env = [(false, eval a X.env)] := by rfl) : QI X bx tg (.Call (.Name "range" p) [a] [] pos) (riR1 t) := pi_imp (pi_range1 hg hm ha hs) fun σ H Q' ⟨env, F, Q, R, ht, k⟩ => ⟨env, F, _, R, ht, fun ds vs env1 F1 H1 s1 R1 r1 q1 => by
  split at q1
  · obtain ⟨v, r, rfl, rfl, rfl⟩ := r1
    exact ⟨_, rfl, q1.1.1, q1.1.2, k _ env1 F1 H1 _ s1 R1 wk_rng q1.2⟩
  · exact q1.elim⟩
theorem qi_r2 {p : Pos} (hg : Gl X "range") (hm : X.mg "range" = none) (ha : QA X bx [a, b] t) (hs : starEach [a, b] X.env = [(false, eval a X.env), (false, eval b X.env)] := by rfl) (hs2 : starEach [b] X.env = [(false, eval b X.env)] := by rfl) : QI X bx tg (.Call (.Name "range" p) [a, b] [] pos) (riR2 t) := pi_imp (pi_range2 hg hm ha hs hs2) fun σ H Q' ⟨env, F, Q, R, ht, k⟩ => ⟨env, F, _, R, ht, fun ds vs env1 F1 H1 s1 R1 r1 q1 => by
  split at q1
  · obtain ⟨v, w, rfl, rfl, rfl⟩ := RepL.two r1
    exact ⟨_, _, rfl, q1.1, k _ env1 F1 H1 _ s1 R1 wk_rng q1.2⟩
  · exact q1.elim⟩
theorem qi_e {p tpos : Pos} {elts : List Expr} {kk : Nat} (hg : Gl X "enumerate") (hm : X.mg "enumerate" = none) (ha : QA X bx [e] t) (hs : starEach [e] X.env = [(false, eval e X.env)] := by rfl) : QI X bx (.Tuple elts kk tpos) (.Call (.Name "enumerate" p) [e] [] pos) (riE t) := pi_imp (pi_enum hg hm ha hs) fun σ H Q' ⟨env, F, Q, R, ht, k⟩ => ⟨env, F, _, R, ht, fun ds vs env1 F1 H1 s1 R1 r1 q1 => by
  split at q1
  · obtain ⟨v, r, rfl, ⟨a, us, rfl, h2, h3⟩, rfl⟩ := r1
    exact ⟨a, us, rfl, .inl (.inl (R1.sf _ _ h2)), k _ env1 F1 H1 _ s1 R1 (wk_enum (.inl (.inl h2)) h3) q1⟩
  · exact q1.elim⟩
theorem qi_z {p tpos : Pos} {elts : List Expr} {kk : Nat} (hg : Gl X "zip") (hm : X.mg "zip" = none) (ha : QA X bx [a, b] t) (hs : starEach [a, b] X.env = (false, eval a X.env) :: starEach [b] X.env := by rfl) (hpl : (backTo pos (starEach [b] X.env)).any (·.1) = false := by rfl) : QI X bx (.Tuple elts kk tpos) (.Call (.Name "zip" p) [a, b] [] pos) (riZ t) := pi_imp (pi_zip hg hm ha hs hpl) fun σ H Q' ⟨env, F, Q, R, ht, k⟩ => ⟨env, F, _, R, ht, fun ds vs env1 F1 H1 s1 R1 r1 q1 => by
  split at q1
  · obtain ⟨v, w, rfl, ⟨a, us, rfl, h2, h3⟩, ⟨b, ws, rfl, g2, g3⟩⟩ := RepL.two r1
    exact ⟨a, b, us, ws, rfl, .inl (.inl (R1.sf _ _ h2)), .inl (.inl (R1.sf _ _ g2)), k _ env1 F1 H1 _ s1 R1 (wk_zip (.inl (.inl h2)) h3 (.inl (.inl g2)) g3) q1⟩
  · exact q1.elim⟩

/-! ### for -/
def forR (g : RG) (tb : RS) (en : PEnds) : List D → List Slot → Prop
  | [], env => en.nx env
  | x :: xs, env => g x env fun env1 => tb { en with nx := forR g tb en xs, ct := forR g tb en xs, bk := en.nx } env1
def sFor (ti : RI) (g : RG) (tb : RS) : RS := fun en env => ti env fun xs env1 => forR g tb en xs env1
theorem qs_for {body : List Stmt} {ti : RI} {g : RG} {tb : RS} (hp : PassesOwn (model X.prog X.w) X.A X.env X.xe) (hc : X.calm = true) (hi : QI X bx tg iter ti) (hg : QG X bx anyP tg g) (hb : QSs X bx body tb)
    (hs : ∀ x, foldedSetIterable iter X.env x = pure x := by intro _; rfl) : QS X bx (.For tg iter body [] pos) (sFor ti g tb) := ps_imp (ps_for hp hc hi hg hb hs) fun Dn σ H ⟨env, F, en, R, ht, k1, k2, k3, k4⟩ =>
  ⟨env, F, _, R, ht, fun xs env1 F1 H1 J s1 R1 wk q1 => by
    refine ⟨fun i m σ' H' => m = xs.length - i ∧ i ≤ xs.length ∧ ∃ env' F', Same F1 F' ∧ ER X.K bx F' env' σ' H' ∧ forR g tb en (xs.drop i) env', ⟨xs.length, rfl, Nat.zero_le _, env1, F1, Same.refl _, R1, q1⟩, ?_⟩
    rintro i m σ' H' ⟨rfl, hi, env', F', s', R', q'⟩
    by_cases hlt : i < xs.length
    · refine .inr ⟨wk.go i F' H' s' R'.sf hlt, fun σ2 H2 => ∃ env2 F2, Same F' F2 ∧ ER X.K bx F2 env2 σ2 H2 ∧ forR g tb en (xs.drop (i + 1)) env2, fun σ2 H2 ⟨env2, F2, s2, R2, q2⟩ => ⟨xs.length - (i + 1), by omega, rfl, hlt, env2, F2, s'.trans s2, R2, q2⟩, fun x H2 hy => ?_⟩
      obtain ⟨F2, d, gr, hd, rd⟩ := wk.yl i F' H' x H2 s' R'.sf hlt hy
      have ed : xs.drop i = d :: xs.drop (i + 1) := by
        rw [List.drop_eq_getElem_cons hlt]
        congr 1
        rw [List.getElem?_eq_getElem hlt] at hd
        exact Option.some.inj hd
      rw [ed] at q'
      refine ⟨env', F2, d, _, R'.to gr, rd, q', fun env3 F3 σ3 H3 s3 R3 _ q3 => ⟨env3, F3, _, R3, q3, fun env4 F4 σ4 H4 s4 R4 q4 => ⟨env4, F4, (gr.e.trans s3).trans s4, R4, q4⟩, fun d v env4 F4 σ4 H4 s4 => k2 d v env4 F4 σ4 H4 ((((s1.trans s').trans gr.e).trans s3).trans s4),
        fun env4 F4 σ4 H4 s4 => k1 env4 F4 σ4 H4 ((((s1.trans s').trans gr.e).trans s3).trans s4), fun env4 F4 σ4 H4 s4 R4 q4 => ⟨env4, F4, (gr.e.trans s3).trans s4, R4, q4⟩⟩⟩
    · have e : i = xs.length := by omega
      subst e
      rw [List.drop_length] at q'
      exact .inl ⟨wk.st _ F' H' s' R'.sf (Nat.le_refl _), k1 env' F' σ' H' (s1.trans s') R' q'⟩⟩
/-! ### while -/
def sWhl (c : RB) (tb : RS) : RS := fun en env => ∃ W : Nat → List Slot → Prop, (∃ m, W m env) ∧ ∀ m env1, W m env1 → c env1 fun b env2 => if b = true then
  tb { en with nx := fun env3 => ∃ m', m' < m ∧ W m' env3, ct := fun env3 => ∃ m', m' < m ∧ W m' env3, bk := en.nx } env2 else en.nx env2
theorem qs_whl {c : Expr} {body : List Stmt} {tc : RB} {tb : RS} (hp : PassesOwn (model X.prog X.w) X.A X.env X.xe) (hc : QT X bx c tc) (hb : QSs X bx body tb) : QS X bx (.While c body [] pos) (sWhl tc tb) := ps_imp (ps_while hp hc hb) fun Dn σ H ⟨env, F, en, R, ⟨W, ⟨m0, w0⟩, turn⟩, k1, k2, k3, k4⟩ => by
  refine ⟨fun m σ' H' => ∃ env' F', Same F F' ∧ ER X.K bx F' env' σ' H' ∧ W m env', ⟨m0, env, F, Same.refl _, R, w0⟩, ?_⟩
  rintro m σ' H' ⟨env', F', s', R', w'⟩
  refine ⟨env', F', _, R', turn m env' w', fun b env2 F2 H2 s2 R2 q2 => ?_⟩
  cases b with
  | true =>
    rw [if_pos rfl] at q2 ⊢
    refine ⟨fun σ3 H3 => ∃ env3 F3, Same F2 F3 ∧ ER X.K bx F3 env3 σ3 H3 ∧ ∃ m', m' < m ∧ W m' env3, fun σ3 H3 ⟨env3, F3, s3, R3, m', hm, w3⟩ => ⟨m', hm, env3, F3, (s'.trans s2).trans s3, R3, w3⟩, env2, F2, _, R2, q2, fun env3 F3 σ3 H3 s3 R3 q3 => ⟨env3, F3, s3, R3, q3⟩,
      fun d v env4 F4 σ4 H4 s4 => k2 d v env4 F4 σ4 H4 ((s'.trans s2).trans s4), fun env4 F4 σ4 H4 s4 => k1 env4 F4 σ4 H4 ((s'.trans s2).trans s4), fun env3 F3 σ3 H3 s3 R3 q3 => ⟨env3, F3, s3, R3, q3⟩⟩
  | false =>
    rw [if_neg Bool.false_ne_true] at q2 ⊢
    exact k1 env2 F2 σ' H2 (s'.trans s2) R2 q2
end
end QL
set_option Elab.async false
set_option linter.all false
set_option maxRecDepth 100000
namespace QL
open PySem PySem.Spec PyProof.Rows L2
/-! ### comprehensions -/
def wipeE : List Nat → List Slot → List Slot
  | [], env => env
  | i :: is, env => (wipeE is env).set i .un
def getS : List Slot → Nat → Slot
  | [], _ => .un
  | s :: _, 0 => s
  | _ :: l, n + 1 => getS l n
def putS : List Slot → Nat → Slot → List Slot
  | [], _, _ => []
  | _ :: l, 0, t => t :: l
  | s :: l, n + 1, t => s :: putS l n t
theorem putS_eq : ∀ (l : List Slot) (i : Nat) (s : Slot), l.set i s = putS l i s
  | [], _, _ => rfl
  | _ :: _, 0, _ => rfl
  | a :: l, n + 1, s => by show a :: l.set n s = a :: putS l n s; rw [putS_eq l n s]
theorem getS_eq : ∀ (l : List Slot) (i : Nat), getS l i = match l[i]? with | some s => s | none => .un
  | [], _ => rfl
  | _ :: _, 0 => rfl
  | _ :: l, n + 1 => getS_eq l n
theorem getS_some {l : List Slot} {i : Nat} (h : i < l.length) : l[i]? = some (getS l i) := by
  rw [getS_eq, List.getElem?_eq_getElem h]
/-- the slots in is as they were -/
def backE : List Nat → List Slot → List Slot → List Slot
  | [], _, env => env
  | i :: is, old, env => putS (backE is old env) i (getS old i)
def noOwn : List Nat → List Slot → Bool
  | [], _ => true
  | i :: is, env => (match env[i]? with | some (.own _) => false | _ => true) && noOwn is env
def lcR (g : RG) (tt : RB) (te : RE) (is : List Nat) : List D → List D → List Slot → (List D → List Slot → Prop) → Prop
  | [], acc, env, Q => Q acc env
  | x :: xs, acc, env, Q => g x env fun env1 => tt env1 fun b env2 => if b = true then te env2 fun d env3 => acc.length < sizeLine ∧ lcR g tt te is xs (acc ++ [d]) (wipeE is env3) Q else lcR g tt te is xs acc (wipeE is env2) Q
def rLc (ti : RI) (g : RG) (tt : RB) (te : RE) (is : List Nat) : RE := fun env Q => ti env fun xs env1 => noOwn is env1 = true ∧ lcR g tt te is xs [] (wipeE is env1) fun acc env2 => Q (.lst acc) (backE is env1 env2)
theorem wipeE_len (is : List Nat) (env : List Slot) : (wipeE is env).length = env.length := by
  induction is with
  | nil => rfl
  | cons i is ih => unfold wipeE; rw [List.length_set, ih]
theorem wipeE_get : ∀ {is : List Nat} {env : List Slot} {j : Nat} {s : Slot}, (wipeE is env)[j]? = some s → s = .un ∨ (j ∉ is ∧ env[j]? = some s)
  | [], env, j, s, h => .inr ⟨by simp, h⟩
  | i :: is, env, j, s, h => by
    unfold wipeE at h
    rcases set_some h with ⟨_, e, _⟩ | ⟨hne, h⟩
    · exact .inl e.symm
    · rcases wipeE_get h with e | ⟨h1, h2⟩
      · exact .inl e
      · exact .inr ⟨fun m => (List.mem_cons.mp m).elim (fun z => hne z.symm) h1, h2⟩
theorem wipe_len (σ : L2.St) (is : List Nat) : (wipe σ is).length = σ.length := wipe_length σ is
section
variable {K : PySem.W.Frag} {bx : Bx} {F H : Hp} {env : List Slot} {σ : L2.St}
theorem ER.wipe {is : List Nat} (R : ER K bx F env σ H) (h0 : bx.io = none ∨ 0 ∉ is) : ER K bx F (wipeE is env) (wipe σ is) H := by
  have un : ∀ {j : Nat} {d : D}, (wipeE is env)[j]? = some (.own d) → j ∉ is ∧ env[j]? = some (.own d) := fun {j d} h => by
    rcases wipeE_get h with e | h
    · cases e
    · exact h
  refine ⟨R.sb, R.sf, by rw [wipeE_len, wipe_len]; exact R.len, fun j s hj => ?_, fun j k d e a hj hk sj sk => ?_, fun c hc => ?_, R.f0, R.fz⟩
  · rcases wipeE_get hj with e | ⟨h1, h2⟩
    · subst e
      have hl := (List.getElem?_eq_some_iff.mp hj).1
      rw [wipeE_len, R.len, ← wipe_len σ is] at hl
      exact ⟨_, List.getElem?_eq_getElem hl, trivial⟩
    · obtain ⟨o, h3, h4⟩ := R.slots j s h2
      exact ⟨o, by rw [wipe_out h1]; exact h3, h4⟩
  · obtain ⟨j1, j2⟩ := un hj
    obtain ⟨k1, k2⟩ := un hk
    rw [wipe_out j1] at sj
    rw [wipe_out k1] at sk
    exact R.sep j k d e a j2 k2 sj sk
  · obtain ⟨h1, d, h2⟩ := R.io c hc
    have n0 : 0 ∉ is := h0.elim (fun z => by rw [z] at hc; cases hc) id
    refine ⟨by rw [wipe_out n0]; exact h1, d, ?_⟩
    have : ∀ is : List Nat, 0 ∉ is → (wipeE is env)[0]? = env[0]? := by
      intro is
      induction is with
      | nil => intro _; rfl
      | cons i is ih =>
        intro hn
        unfold wipeE
        rw [List.getElem?_set_ne (fun z => hn (by rw [z]; exact List.mem_cons_self)), ih (fun z => hn (List.mem_cons_of_mem _ z))]
    rw [this is n0]; exact h2
/-- within a turn: slots forgotten again -/
theorem ER.wipe2 {is : List Nat} {σ2 : L2.St} (R : ER K bx F env σ2 H) (h0 : bx.io = none ∨ 0 ∉ is) (e : L2.wipe σ2 is = L2.wipe σ is) : ER K bx F (wipeE is env) (L2.wipe σ is) H := by
  rw [← e]
  exact R.wipe h0
/-- the object at D is held besides -/
def Bx.hold (bx : Bx) (Dd : Addr) (o : HO) : Bx := ⟨upd bx.B Dd o, bx.io, bx.F0⟩
theorem ER.hold {Dd : Addr} {o : HO} (R : ER K bx F env σ H) (hn : H Dd = none) : ER K (bx.hold Dd o) F env σ (upd H Dd o) := by
  refine ⟨same_updb R.sb, same_upd2 R.sf (R.sf.free hn), R.len, fun j s hj => ?_, R.sep, R.io, R.f0, fun a k1 k2 => ?_⟩
  rotate_left
  · by_cases e : a = Dd
    · subst e; exact R.sf.free hn
    · have k2' : upd bx.B Dd o a ≠ none := k2
      rw [upd_ne e] at k2'
      exact R.fz a k1 k2'
  obtain ⟨q, h1, h2⟩ := R.slots j s hj
  refine ⟨q, h1, ?_⟩
  cases s with
  | un => trivial
  | val d => exact h2
  | own d =>
    obtain ⟨a, ho, h3, h4, h5, h6, h7⟩ := h2
    have na : a ≠ Dd := fun z => by rw [z, hn] at h6; cases h6
    exact ⟨a, ho, h3, h4, by show upd bx.B Dd o a = none; rw [upd_ne na]; exact h5, by rw [upd_ne na]; exact h6, h7⟩
theorem ER.heldF {Dd : Addr} {o : HO} (R : ER K (bx.hold Dd o) F env σ H) (h0 : bx.F0 Dd = none) : F Dd = none := R.fz Dd h0 (by show upd bx.B Dd o Dd ≠ none; rw [upd_same]; simp)
theorem ER.rehold {Dd : Addr} {o o' : HO} (R : ER K (bx.hold Dd o) F env σ H) (h0 : bx.F0 Dd = none) : ER K (bx.hold Dd o') F env σ (upd H Dd o') := by
  have e : upd (upd bx.B Dd o) Dd o' = upd bx.B Dd o' := upd_upd
  refine ⟨fun b q z => ?_, same_upd2 R.sf (R.heldF h0), R.len, fun j s hj => ?_, R.sep, R.io, R.f0, fun a k1 k2 => R.fz a k1 fun z => k2 ?_⟩
  rotate_left 2
  · have z' : upd bx.B Dd o a = none := z
    show upd bx.B Dd o' a = none
    by_cases e : a = Dd
    · subst e; rw [upd_same] at z'; cases z'
    · rw [upd_ne e] at z' ⊢; exact z'
  · by_cases hb : b = Dd
    · subst hb; have z' : upd bx.B b o' b = some q := z; rw [upd_same] at z' ⊢; exact z'
    · have z' : upd bx.B Dd o' b = some q := z
      rw [upd_ne hb] at z' ⊢
      exact R.sb b q (by show upd bx.B Dd o b = some q; rw [upd_ne hb]; exact z')
  · obtain ⟨q, h1, h2⟩ := R.slots j s hj
    refine ⟨q, h1, ?_⟩
    cases s with
    | un => trivial
    | val d => exact h2
    | own d =>
      obtain ⟨a, ho, h3, h4, h5, h6, h7⟩ := h2
      have h5' : upd bx.B Dd o a = none := h5
      have na : a ≠ Dd := fun z => by rw [z, upd_same] at h5'; cases h5'
      rw [upd_ne na] at h5'
      exact ⟨a, ho, h3, h4, by show upd bx.B Dd o' a = none; rw [upd_ne na]; exact h5', by rw [upd_ne na]; exact h6, h7⟩
theorem ER.held {Dd : Addr} {o : HO} (R : ER K (bx.hold Dd o) F env σ H) : H Dd = some o := R.sb Dd o (by show upd bx.B Dd o Dd = some o; exact upd_same)
theorem ER.unhold {Dd : Addr} {o : HO} (R : ER K (bx.hold Dd o) F env σ H) (hb : bx.B Dd = none) : ER K bx F env σ H ∧ ∀ (i : Nat) d, env[i]? = some (.own d) → σ[i]? ≠ some (some (.ref Dd)) := by
  refine ⟨⟨fun b q z => R.sb b q (by show upd bx.B Dd o b = some q; rw [upd_ne (fun e => by rw [e, hb] at z; cases z)]; exact z), R.sf, R.len, fun j s hj => ?_, R.sep, R.io, R.f0, fun a k1 k2 => R.fz a k1 (by show upd bx.B Dd o a ≠ none; rw [upd_ne (fun e => k2 (by rw [e]; exact hb))]; exact k2)⟩, fun i d hi hs => ?_⟩
  · obtain ⟨q, h1, h2⟩ := R.slots j s hj
    refine ⟨q, h1, ?_⟩
    cases s with
    | un => trivial
    | val d => exact h2
    | own d =>
      obtain ⟨a, ho, h3, h4, h5, h6, h7⟩ := h2
      have h5' : upd bx.B Dd o a = none := h5
      have na : a ≠ Dd := fun z => by rw [z, upd_same] at h5'; cases h5'
      rw [upd_ne na] at h5'
      exact ⟨a, ho, h3, h4, h5', h6, h7⟩
  · obtain ⟨q, h1, a, ho, h3, h4, h5, h6, h7⟩ := R.slots i _ hi
    rw [hs] at h1; cases h1; cases h3
    have h5' : upd bx.B Dd o Dd = none := h5
    rw [upd_same] at h5'; cases h5'
theorem backE_len (is : List Nat) (old env : List Slot) : (backE is old env).length = env.length := by
  induction is with
  | nil => rfl
  | cons i is ih =>
    unfold backE
    rw [← putS_eq, List.length_set, ih]
theorem backE_get : ∀ {is : List Nat} {old env : List Slot} {j : Nat} {s : Slot}, old.length = env.length → (backE is old env)[j]? = some s → (j ∈ is ∧ old[j]? = some s) ∨ env[j]? = some s
  | [], _, _, _, _, _, h => .inr h
  | i :: is, old, env, j, s, hl, h => by
    unfold backE at h
    rw [← putS_eq] at h
    rcases set_some h with ⟨rfl, rfl, hi⟩ | ⟨_, h⟩
    · rw [backE_len, ← hl] at hi
      exact .inl ⟨List.mem_cons_self, getS_some hi⟩
    · rcases backE_get hl h with ⟨a, b⟩ | a
      · exact .inl ⟨List.mem_cons_of_mem _ a, b⟩
      · exact .inr a
theorem noOwn_get : ∀ {is : List Nat} {env : List Slot} {j : Nat} {d : D}, noOwn is env = true → j ∈ is → env[j]? ≠ some (.own d)
  | [], _, _, _, _, h => by simp at h
  | i :: is, env, j, d, h, hj => fun e => by
    unfold noOwn at h
    have h' := Bool.and_eq_true_iff.mp h
    rcases List.mem_cons.mp hj with rfl | hj
    · rw [e] at h'; cases h'.1
    · exact noOwn_get h'.2 hj e
/-- behind a comprehension -/
theorem ER.back {is : List Nat} {F' H' : Hp} {env' : List Slot} (R : ER K bx F env σ H) (R' : ER K bx F' env' (L2.wipe σ is) H') (sF : Same F F') (hn : noOwn is env = true) (h0 : bx.io = none ∨ 0 ∉ is) (hu : ∀ (j : Nat) (s : Slot), j ∈ is → env'[j]? = some s → s = .un) : ER K bx F' (backE is env env') σ H' := by
  have hlen : env.length = env'.length := by rw [R.len, R'.len, wipe_len]
  have own : ∀ {j : Nat} {d : D}, (backE is env env')[j]? = some (.own d) → j ∉ is ∧ env'[j]? = some (.own d) := fun {j d} h => by
    rcases backE_get hlen h with ⟨a, b⟩ | a
    · exact absurd b (noOwn_get hn a)
    · exact ⟨fun z => (by cases hu j _ z a), a⟩
  refine ⟨R'.sb, R'.sf, by rw [backE_len, R'.len, wipe_len], fun j s hj => ?_, fun j k d e a hj hk sj sk => ?_, fun c hc => ?_, R'.f0, R'.fz⟩
  · rcases backE_get hlen hj with ⟨h1, h2⟩ | h2
    · obtain ⟨o, h3, h4⟩ := R.slots j s h2
      refine ⟨o, h3, ?_⟩
      cases s with
      | un => trivial
      | val d => obtain ⟨v, h5, h6⟩ := h4; exact ⟨v, h5, Rep.mono sF _ _ h6⟩
      | own d => exact absurd h2 (noOwn_get hn h1)
    · by_cases hm : j ∈ is
      · have e := hu j s hm h2
        subst e
        have hl := (List.getElem?_eq_some_iff.mp h2).1
        rw [R'.len, wipe_len] at hl
        exact ⟨_, List.getElem?_eq_getElem hl, trivial⟩
      · obtain ⟨o, h3, h4⟩ := R'.slots j s h2
        exact ⟨o, by rw [wipe_out hm] at h3; exact h3, h4⟩
  · obtain ⟨j1, j2⟩ := own hj
    obtain ⟨k1, k2⟩ := own hk
    exact R'.sep j k d e a j2 k2 (by rw [wipe_out j1]; exact sj) (by rw [wipe_out k1]; exact sk)
  · obtain ⟨h1, _⟩ := R.io c hc
    obtain ⟨_, d, h2⟩ := R'.io c hc
    refine ⟨h1, d, ?_⟩
    have n0 : 0 ∉ is := h0.elim (fun z => by rw [z] at hc; cases hc) id
    have : ∀ is : List Nat, 0 ∉ is → (backE is env env')[0]? = env'[0]? := by
      intro is
      induction is with
      | nil => intro _; rfl
      | cons i is ih =>
        intro hn
        unfold backE
        rw [← putS_eq, List.getElem?_set_ne (fun z => hn (by rw [z]; exact List.mem_cons_self)), ih (fun z => hn (List.mem_cons_of_mem _ z))]
    rw [this is n0]; exact h2
end
theorem wipeE_un : ∀ {is : List Nat} {env : List Slot} {j : Nat} {s : Slot}, j ∈ is → (wipeE is env)[j]? = some s → s = .un := fun {is env j s} hj h => by
  rcases wipeE_get h with e | ⟨h1, _⟩
  · exact e
  · exact absurd hj h1
section
variable {X : Cx} {bx : Bx} {tg iter elt : Expr} {ifs : List Expr} {pos : Pos} {ti : RI} {g : RG} {tt : RB} {te : RE}
abbrev QTs (X : Cx) (bx : Bx) (ifs : List Expr) (t : RB) : Prop := L2.PTs X ifs (upT X.K bx t)
def rYes : RB := fun env Q => Q true env
theorem qts_nil : QTs X bx [] rYes := ⟨fun pins s σ H Q I ⟨env, F, Q', R, ht, k⟩ => pts_nil.run pins s σ H Q I (k true env F H (Same.refl _) R ht)⟩
theorem qts_one {c : Expr} {t : RB} (h : QT X bx c t) : QTs X bx [c] t := pts_one h
/-- what the block of a comprehension is proved over -/
abbrev BlkX (X : Cx) (s : Shared) (H : Hp) (scope : Scope) (C : Addr) (cl : List (Str × Addr)) (fp : List Addr) : Cx := X.blk s H scope (compEnvC scope cl C X.env) fp
/-- the rules of the block's parts: for every context of the block, and whatever is held -/
abbrev QGb (X : Cx) (bx : Bx) (P : Nat → Prop) (tg : Expr) (scope : Scope) (g : RG) : Prop := ∀ (B : Hp) (s : Shared) (H : Hp) (C : Addr) (cl : List (Str × Addr)) (fp : List Addr), QG (BlkX X s H scope C cl fp) ⟨B, bx.io, bx.F0⟩ P tg g
abbrev QTb (X : Cx) (bx : Bx) (ifs : List Expr) (scope : Scope) (t : RB) : Prop := ∀ (B : Hp) (s : Shared) (H : Hp) (C : Addr) (cl : List (Str × Addr)) (fp : List Addr), QTs (BlkX X s H scope C cl fp) ⟨B, bx.io, bx.F0⟩ ifs t
abbrev QEb (X : Cx) (bx : Bx) (e : Expr) (scope : Scope) (t : RE) : Prop := ∀ (B : Hp) (s : Shared) (H : Hp) (C : Addr) (cl : List (Str × Addr)) (fp : List Addr), QE (BlkX X s H scope C cl fp) ⟨B, bx.io, bx.F0⟩ e t
def anyG (K : PySem.W.Frag) (io : Option Addr) (F0 : Hp) (P : Nat → Prop) (g : RG) : TG := fun v σ H Q => ∃ B, upG K ⟨B, io, F0⟩ P g v σ H Q
def anyT (K : PySem.W.Frag) (io : Option Addr) (F0 : Hp) (t : RB) : TT := fun σ H Q => ∃ B, upT K ⟨B, io, F0⟩ t σ H Q
def anyE (K : PySem.W.Frag) (io : Option Addr) (F0 : Hp) (t : RE) : TE := fun σ H Q => ∃ B, up K ⟨B, io, F0⟩ t σ H Q
theorem wipe_in {σ : L2.St} {i : Nat} : ∀ {is : List Nat}, i ∈ is → i < σ.length → (L2.wipe σ is)[i]? = some none
  | [], h, _ => by simp at h
  | v :: vs, h, hl => by
    unfold L2.wipe
    by_cases e : v = i
    · subst e; rw [List.getElem?_set_self (by rw [wipe_len]; exact hl)]
    · rw [List.getElem?_set_ne e]; exact wipe_in ((List.mem_cons.mp h).resolve_left fun z => e z.symm) hl
theorem wipe_only {σ σ' : L2.St} {is : List Nat} (o : Only' (· ∈ is) σ σ') : L2.wipe σ' is = L2.wipe σ is := by
  apply List.ext_getElem?
  intro j
  by_cases hj : j ∈ is
  · by_cases hl : j < σ.length
    · rw [wipe_in hj hl, wipe_in hj (by rw [o.1]; exact hl)]
    · rw [List.getElem?_eq_none (by rw [wipe_len, o.1]; omega), List.getElem?_eq_none (by rw [wipe_len]; omega)]
  · rw [wipe_out hj, wipe_out hj, o.2 j hj]
theorem wipe_wipe {σ : L2.St} {is : List Nat} : L2.wipe (L2.wipe σ is) is = L2.wipe σ is := wipe_only ⟨wipe_len σ is, fun j hj => wipe_out hj⟩
theorem lc_up {is : List Nat} (h0 : bx.io = none ∨ 0 ∉ is) {σ : L2.St} {H : Hp} {Q' : VK}
    (h : upN X.K bx (rLc ti g tt te is) σ H Q') : tLc (upI X.K bx ti) (anyG X.K bx.io bx.F0 (· ∈ is) g) (anyT X.K bx.io bx.F0 tt) (anyE X.K bx.io bx.F0 te) is σ H Q' := by
  obtain ⟨env, F, Q, R, ht, k⟩ := h
  refine ⟨env, F, _, R, ht, fun xs env1 F1 H1 J s1 R1 wk ⟨hn, q1⟩ => ?_⟩
  intro Dd hD
  have bD : bx.B Dd = none := R1.sb.free hD
  have fD : F1 Dd = none := R1.sf.free hD
  have fD0 : bx.F0 Dd = none := R1.f0.free fD
  refine ⟨fun i m H' => m = xs.length - i ∧ i ≤ xs.length ∧ ∃ env' F' acc accV, Same F1 F' ∧ RepL X.K F' acc accV ∧ ER X.K (bx.hold Dd (.lst accV)) F' env' (L2.wipe σ is) H' ∧ (∀ (j : Nat) (s : Slot), j ∈ is → env'[j]? = some s → s = .un) ∧
    lcR g tt te is (xs.drop i) acc env' fun acc env2 => Q (.lst acc) (backE is env1 env2), ⟨xs.length, rfl, Nat.zero_le _, _, F1, [], [], Same.refl _, rfl, (R1.wipe h0).hold hD, fun j s => wipeE_un, q1⟩, ?_⟩
  rintro i m H' ⟨rfl, hi, env', F', acc, accV, s', ra, R', hu, q'⟩
  by_cases hlt : i < xs.length
  · refine .inr ⟨wk.go i F' H' s' R'.sf hlt, fun H2 => ∃ env2 F2 acc accV, Same F' F2 ∧ RepL X.K F2 acc accV ∧ ER X.K (bx.hold Dd (.lst accV)) F2 env2 (L2.wipe σ is) H2 ∧ (∀ (j : Nat) (s : Slot), j ∈ is → env2[j]? = some s → s = .un) ∧
      lcR g tt te is (xs.drop (i + 1)) acc env2 fun acc env2 => Q (.lst acc) (backE is env1 env2),
      fun H2 ⟨env2, F2, acc2, accV2, s2, ra2, R2, hu2, q2⟩ => ⟨xs.length - (i + 1), by omega, rfl, hlt, env2, F2, acc2, accV2, s'.trans s2, ra2, R2, hu2, q2⟩, fun x H2 hy => ?_⟩
    obtain ⟨F2, d, gr, hd, rd⟩ := wk.yl i F' H' x H2 s' R'.sf hlt hy
    have ed : xs.drop i = d :: xs.drop (i + 1) := by
      rw [List.drop_eq_getElem_cons hlt]
      congr 1
      rw [List.getElem?_eq_getElem hlt] at hd
      exact Option.some.inj hd
    rw [ed] at q'
    refine ⟨(bx.hold Dd (.lst accV)).B, ?_⟩
    refine ⟨env', F2, d, _, R'.to gr, rd, q', fun env4 F4 σ4 H4 s4 R4 o4 q4 => ?_⟩
    have ew' : L2.wipe σ4 is = L2.wipe σ is := (wipe_only o4).trans wipe_wipe
    refine ⟨ew'.trans wipe_wipe.symm |>.trans wipe_wipe, (bx.hold Dd (.lst accV)).B, env4, F4, _, R4, q4, fun b env5 F5 H5 s5 R5 q5 => ?_⟩
    cases b with
    | false =>
      rw [if_neg Bool.false_ne_true] at q5 ⊢
      exact ⟨_, F5, acc, accV, (gr.e.trans s4).trans s5, RepL.mono ((gr.e.trans s4).trans s5) _ _ ra, R5.wipe2 h0 ew', fun j s => wipeE_un, q5⟩
    | true =>
      rw [if_pos rfl] at q5 ⊢
      refine ⟨(bx.hold Dd (.lst accV)).B, env5, F5, _, R5, q5, fun d2 v2 env6 F6 H6 s6 R6 r6 q6 => ?_⟩
      have sA := ((gr.e.trans s4).trans s5).trans s6
      exact ⟨accV, R6.held, by rw [← ra.length]; exact q6.1, _, F6, acc ++ [d2], accV ++ [v2], sA, RepL.append (RepL.mono sA _ _ ra) (RepL.one r6), (ER.wipe2 R6 h0 ew').rehold fD0, fun j s => wipeE_un, q6.2⟩
  · have e : i = xs.length := by omega
    subst e
    rw [List.drop_length] at q'
    refine .inl ⟨wk.st _ F' H' s' R'.sf (Nat.le_refl _), ?_⟩
    obtain ⟨R2, no⟩ := R'.unhold bD
    have Rb := R1.back R2 s' hn h0 hu
    refine k (.lst acc) Dd (.lst accV) _ F' H' (s1.trans s') Rb ⟨R'.heldF fD0, bD, by rw [R'.held]; simp, fun j d hj sj => ?_⟩ R'.held (ownLst ra) q'
    rcases backE_get (by rw [R1.len, R'.len, wipe_len]) hj with ⟨a, b⟩ | a
    · exact noOwn_get hn a b
    · by_cases hm : j ∈ is
      · cases hu j _ hm a
      · exact no j d a (by rw [wipe_out hm]; exact sj)

theorem blk_g {P : Nat → Prop} {scope : Scope} {e : Expr} {g : RG} (h : QGb X bx P e scope g) (s : Shared) (H : Hp) (C : Addr) (cl : List (Str × Addr)) (fp : List Addr) : L2.PG (BlkX X s H scope C cl fp) e (anyG X.K bx.io bx.F0 P g) :=
  ⟨fun pins s' σ H' v u Q I r ⟨B, q⟩ => (h B s H C cl fp).run pins s' σ H' v u Q I r q⟩
theorem blk_t {scope : Scope} {ifs : List Expr} {t : RB} (h : QTb X bx ifs scope t) (s : Shared) (H : Hp) (C : Addr) (cl : List (Str × Addr)) (fp : List Addr) : L2.PTs (BlkX X s H scope C cl fp) ifs (anyT X.K bx.io bx.F0 t) :=
  ⟨fun pins s' σ H' Q I ⟨B, q⟩ => (h B s H C cl fp).run pins s' σ H' Q I q⟩
theorem blk_e {scope : Scope} {e : Expr} {t : RE} (h : QEb X bx e scope t) (s : Shared) (H : Hp) (C : Addr) (cl : List (Str × Addr)) (fp : List Addr) : L2.PE (BlkX X s H scope C cl fp) e (anyE X.K bx.io bx.F0 t) :=
  ⟨fun pins s' σ H' Q I ⟨B, q⟩ => (h B s H C cl fp).run pins s' σ H' Q I q⟩
theorem q_lcN {scope : Scope} {own : List (Str × Nat)} (hc : X.calm = true) (hN : X.N.Nodup) (h0 : bx.io = none ∨ 0 ∉ own.map (·.2)) (hi : QI X bx tg iter ti) (ok : BlkOk X.N X.env.scope scope own)
    (hg : QGb X bx (· ∈ own.map (·.2)) tg scope g) (ht : QTb X bx ifs scope tt) (he : QEb X bx elt scope te) (hs : ∀ x, foldedSetIterable iter X.env x = pure x := by intro _; rfl) :
    QN X bx (.ListComp elt [⟨tg, iter, ifs, 0⟩] scope pos) (rLc ti g tt te (own.map (·.2))) := pe_imp (pe_lc hc hN hi ok (blk_g hg) (blk_t ht) (blk_e he) hs) fun σ H Q' h => lc_up h0 h
def sOwnLc (i : Nat) (te : RE) : RS := sOwn i te
theorem qs_ownLc {i : Nat} {y : Str} {py : Pos} {spos : Pos} {scope : Scope} {own : List (Str × Nat)} (hc : X.calm = true) (hN : X.N.Nodup) (hy : X.N[i]? = some y) (hyl : X.env.scope.names.lookup y = some .local) (hio : bx.io = none ∨ i ≠ 0) (h0 : bx.io = none ∨ 0 ∉ own.map (·.2))
    (hsw : swapsWith (.ListComp elt [⟨tg, iter, ifs, 0⟩] scope pos) (some (.Name y py)) spos.line X.env = pure true) (hi : QI X bx tg iter ti) (ok : BlkOk X.N X.env.scope scope own)
    (hg : QGb X bx (· ∈ own.map (·.2)) tg scope g) (ht : QTb X bx ifs scope tt) (he : QEb X bx elt scope te) (hs : ∀ x, foldedSetIterable iter X.env x = pure x := by intro _; rfl) :
    QS X bx (.Assign [.Name y py] (.ListComp elt [⟨tg, iter, ifs, 0⟩] scope pos) spos) (sOwn i (rLc ti g tt te (own.map (·.2)))) := ps_imp (ps_setLc hc hN hy hyl hsw hi ok (blk_g hg) (blk_t ht) (blk_e he) hs) fun Dn σ H ⟨env, F, en, R, ht, k, _⟩ =>
  lc_up h0 ⟨env, F, _, R, ht, fun d p ho env1 F1 H1 s1 R1 l hp o q1 => k _ F1 _ H1 s1 (R1.setNew hio l hp o) q1⟩
theorem qs_setLc {i : Nat} {y : Str} {py : Pos} {spos : Pos} {scope : Scope} {own : List (Str × Nat)} (hc : X.calm = true) (hN : X.N.Nodup) (hy : X.N[i]? = some y) (hyl : X.env.scope.names.lookup y = some .local) (hio : bx.io = none ∨ i ≠ 0) (h0 : bx.io = none ∨ 0 ∉ own.map (·.2))
    (hsw : swapsWith (.ListComp elt [⟨tg, iter, ifs, 0⟩] scope pos) (some (.Name y py)) spos.line X.env = pure true) (hi : QI X bx tg iter ti) (ok : BlkOk X.N X.env.scope scope own)
    (hg : QGb X bx (· ∈ own.map (·.2)) tg scope g) (ht : QTb X bx ifs scope tt) (he : QEb X bx elt scope te) (hs : ∀ x, foldedSetIterable iter X.env x = pure x := by intro _; rfl) :
    QS X bx (.Assign [.Name y py] (.ListComp elt [⟨tg, iter, ifs, 0⟩] scope pos) spos) (sAsg (rLc ti g tt te (own.map (·.2))) (rgN i)) := ps_imp (ps_setLc hc hN hy hyl hsw hi ok (blk_g hg) (blk_t ht) (blk_e he) hs) fun Dn σ H ⟨env, F, en, R, ht, k, _⟩ =>
  lc_up h0 ⟨env, F, _, R, ht, fun d p ho env1 F1 H1 s1 R1 l hp o q1 => k _ (upd F1 p ho) _ H1 (s1.trans (same_upd l.f)) ((R1.freeze l hp).setVal hio (OwnH.rep l.f o)) q1⟩
end

/-! ### a def by its body -/
section
variable {P : Program} {w : World} {K : PySem.W.Frag} {mg : Str → Option Value} {base : Heap}
def envA (N : List Str) (ds : List D) : List Slot := ds.map .val ++ List.replicate (N.length - ds.length) .un
theorem er_start {N : List Str} {F H : Hp} {ds : List D} {vs : List V} (s : Same F H) (r : RepL K F ds vs) : ER K ⟨H, none, F⟩ F (envA N ds) (L2.start N vs) H := by
  have hl := r.length
  have old : ∀ (i : Nat) (sl : Slot), (envA N ds)[i]? = some sl → (∃ d, ds[i]? = some d ∧ sl = .val d) ∨ (ds.length ≤ i ∧ i < N.length ∧ sl = .un) := fun i sl h => by
    unfold envA at h
    by_cases hi : i < ds.length
    · rw [List.getElem?_append_left (by simpa using hi), List.getElem?_map] at h
      rw [List.getElem?_eq_getElem hi] at h ⊢
      exact .inl ⟨_, rfl, (Option.some.inj h).symm⟩
    · rw [List.getElem?_append_right (by simpa using hi), List.getElem?_replicate] at h
      split at h
      · rename_i hlt
        rw [List.length_map] at hlt
        exact .inr ⟨by omega, by omega, (Option.some.inj h).symm⟩
      · cases h
  refine ⟨Same.refl _, s, (by unfold envA L2.start; simp [hl]), fun i sl h => ?_, fun i j d e a hi _ _ _ => ?_, (fun a h => nomatch h), Same.refl _, fun a h _ => h⟩
  · rcases old i sl h with ⟨d, hd, rfl⟩ | ⟨h1, h2, rfl⟩
    · obtain ⟨v, hv, rv⟩ := r.get hd
      have hi : i < vs.length := (List.getElem?_eq_some_iff.mp hv).1
      refine ⟨some v, ?_, v, rfl, rv⟩
      unfold L2.start
      rw [List.getElem?_append_left (by simpa using hi), List.getElem?_map, hv]
      rfl
    · refine ⟨none, ?_, trivial⟩
      unfold L2.start
      rw [List.getElem?_append_right (by simp; omega), List.getElem?_replicate, if_pos (by simp; omega)]
  · rcases old i _ hi with ⟨d, _, z⟩ | ⟨_, _, z⟩
    · cases z
    · cases z
theorem ER.grown {bx : Bx} {F' H' : Hp} {env : List Slot} {σ : L2.St} (R : ER K bx F' env σ H') : Grow bx.F0 bx.B F' H' := ⟨R.f0, R.sf, R.sb, R.fz⟩
/-- a def that changes nothing of its caller's -/
theorem fnA {x qual : Str} {st : Stmt} {f : Addr} {fd : FuncData} {N ps : List Str} {k : Nat} {S : FA} (Fn : Fun K x qual st f fd) (Sc : FnScope N ps (defScope st))
    (hbody : ∀ (cdv : Value) (A : Around) (outer : List Env) (s : Shared) (H F0 : Hp) (E : XK) (EX : D → Prop), Room k (A.deeper (envOfC qual (defScope st) s.heap.objs.size f cdv)) →
      Takes (cxOf (L2.CX P w) P w K mg base N qual (defScope st) f cdv A outer s H E) (WEx K ⟨H, none, F0⟩ fun ed _ => EX ed) →
      ∃ t, QSs (cxOf (L2.CX P w) P w K mg base N qual (defScope st) f cdv A outer s H E) ⟨H, none, F0⟩ (defBody st) t ∧ ∀ ds Q, ds.length = ps.length → S ds Q EX → t { nx := fun _ => Q .non, rt := fun d _ => Q d } (envA N ds)) :
    FnOk P w K mg base (L2.CX P w) (k + 1) f fd ps (spA K ps.length S) := by
  refine Fn.okX Sc (fun vs H Q E ⟨F, ds, _, _, hn, _, r, _⟩ => by rw [← r.length]; exact hn) (fun cdv A outer s H vs Q' E' hr ⟨F, ds, Q, E, hn, sm, r, h, g, gx⟩ => ?_)
  obtain ⟨t, ht, hq⟩ := hbody cdv A outer s H F E' E hr ((takes_of rfl rfl rfl rfl : Takes (cxOf (L2.CX P w) P w K mg base N qual (defScope st) f cdv A outer s H E') (fun cls d _ H => E' cls d H)).imp fun cls d σ H' ⟨env, F', ed, R, rx, ex⟩ => gx ed cls d F' H' R.grown rx ex)
  refine ⟨_, ht, envA N ds, F, _, er_start sm r, hq ds Q hn h, fun env' F' σ' H' s' R' q => g .non .non F' H' R'.grown rfl q, fun d v env' F' σ' H' s' R' rd q => g d v F' H' R'.grown rd q, fun _ _ _ _ _ _ z => z.elim, fun _ _ _ _ _ _ z => z.elim⟩
end
end QL
set_option Elab.async false
set_option linter.all false
set_option maxRecDepth 100000
namespace QL
open PySem PySem.Spec PyProof.Rows L2
/-! ### built-in functions -/
def vLen : VL
  | [.lst xs], Q => Q (.int xs.length)
  | [.tup xs], Q => Q (.int xs.length)
  | [.scr xs], Q => Q (.int xs.length)
  | [.str x], Q => x.length ≤ sizeLine ∧ Q (.int x.length)
  | _, _ => False
def vAbs : VL
  | [.int i], Q => Q (.int (if i < 0 then -i else i))
  | _, _ => False
def vInt : VL
  | [.int i], Q => Q (.int i)
  | [.bl b], Q => Q (.int (if b then 1 else 0))
  | _, _ => False
def vBool : VL
  | [.int i], Q => Q (.bl (i != 0))
  | [.bl b], Q => Q (.bl b)
  | _, _ => False
def allInts : List D → Option (List Int)
  | [] => some []
  | .int i :: r => (allInts r).map (i :: ·)
  | _ => none
def allBls : List D → Option (List Bool)
  | [] => some []
  | .bl i :: r => (allBls r).map (i :: ·)
  | _ => none
theorem allInts_map : ∀ ns : List Int, allInts (ns.map D.int) = some ns
  | [] => rfl
  | n :: r => by simp only [List.map, allInts, allInts_map r, Option.map]
theorem allBls_map : ∀ ns : List Bool, allBls (ns.map D.bl) = some ns
  | [] => rfl
  | n :: r => by simp only [List.map, allBls, allBls_map r, Option.map]
theorem allInts_eq : ∀ {xs : List D} {ns : List Int}, allInts xs = some ns → xs = ns.map D.int
  | [], _, h => by cases h; rfl
  | .int i :: r, ns, h => by
    simp only [allInts, Option.map_eq_some_iff] at h
    obtain ⟨z, hz, rfl⟩ := h
    rw [allInts_eq hz]; rfl
  | .non :: _, _, h => nomatch h
  | .bl _ :: _, _, h => nomatch h
  | .str _ :: _, _, h => nomatch h
  | .raw _ :: _, _, h => nomatch h
  | .scr _ :: _, _, h => nomatch h
  | .tup _ :: _, _, h => nomatch h
  | .lst _ :: _, _, h => nomatch h
  | .dic _ _ :: _, _, h => nomatch h
  | .obj _ _ _ :: _, _, h => nomatch h
theorem allBls_eq : ∀ {xs : List D} {ns : List Bool}, allBls xs = some ns → xs = ns.map D.bl
  | [], _, h => by cases h; rfl
  | .bl i :: r, ns, h => by
    simp only [allBls, Option.map_eq_some_iff] at h
    obtain ⟨z, hz, rfl⟩ := h
    rw [allBls_eq hz]; rfl
  | .non :: _, _, h => nomatch h
  | .int _ :: _, _, h => nomatch h
  | .str _ :: _, _, h => nomatch h
  | .raw _ :: _, _, h => nomatch h
  | .scr _ :: _, _, h => nomatch h
  | .tup _ :: _, _, h => nomatch h
  | .lst _ :: _, _, h => nomatch h
  | .dic _ _ :: _, _, h => nomatch h
  | .obj _ _ _ :: _, _, h => nomatch h
def vSum : VL
  | [.lst xs], Q => ∃ ns, allInts xs = some ns ∧ Q (.int ns.sum)
  | _, _ => False
def vMax : VL
  | [.int i, .int j], Q => Q (.int (if j > i then j else i))
  | [.lst xs], Q => ∃ ns, allInts xs = some ns ∧ 0 < ns.length ∧ ∀ m, m ∈ ns → (∀ y, y ∈ ns → y ≤ m) → Q (.int m)
  | _, _ => False
def vMin : VL
  | [.int i, .int j], Q => Q (.int (if j < i then j else i))
  | [.lst xs], Q => ∃ ns, allInts xs = some ns ∧ 0 < ns.length ∧ ∀ m, m ∈ ns → (∀ y, y ∈ ns → m ≤ y) → Q (.int m)
  | _, _ => False
def vAll : VL
  | [.lst xs], Q => ∃ ns, allBls xs = some ns ∧ Q (.bl (ns.all id))
  | _, _ => False
def vAny : VL
  | [.lst xs], Q => ∃ ns, allBls xs = some ns ∧ Q (.bl (ns.any id))
  | _, _ => False
def vList : VL
  | [.lst xs], Q => Q (.lst xs)
  | [.tup xs], Q => Q (.lst xs)
  | _, _ => False
def vTuple : VL
  | [.lst xs], Q => Q (.tup xs)
  | [.tup xs], Q => Q (.tup xs)
  | _, _ => False
def tyN : D → Option String
  | .non => some "NoneType"
  | .bl _ => some "bool"
  | .int _ => some "int"
  | .str _ => some "str"
  | .scr _ => some "list"
  | .tup _ => some "tuple"
  | .lst _ => some "list"
  | .dic _ _ => some "dict"
  | _ => none
/-- isinstance(d, a built-in class) -/
def vIsiB : VL
  | [d, .raw (.ty n)], Q => ∃ t b, tyN d = some t ∧ kitB t n = some b ∧ Q (.bl b)
  | _, _ => False
section
variable {X : Cx}
theorem qc_len : CallR X (.builtin "len") (upVL X.K vLen) := by
  intro pins s σ H xs us Q' I r ⟨F, ds, Q, sm, rl, h, g⟩
  unfold vLen at h
  split at h
  · obtain ⟨v, _, rfl, ⟨a, vs, rfl, h2, h3⟩, rfl⟩ := rl
    exact call_len pins s σ H _ us Q' I r ⟨_, _, rfl, .inl ⟨vs, .inl (.inl (sm _ _ h2)), rfl⟩, by rw [← h3.length]; exact g.i sm h⟩
  · obtain ⟨v, _, rfl, ⟨a, vs, rfl, h2, h3⟩, rfl⟩ := rl
    exact call_len pins s σ H _ us Q' I r ⟨_, _, rfl, .inr ⟨vs, same_sqt sm h2, rfl⟩, by rw [← h3.length]; exact g.i sm h⟩
  · obtain ⟨v, _, rfl, ⟨a, rfl, h2⟩, rfl⟩ := rl
    exact call_len pins s σ H _ us Q' I r ⟨_, _, rfl, .inl ⟨_, sm.seq h2, rfl⟩, by rw [List.length_map]; exact g.i sm h⟩
  · obtain ⟨v, _, rfl, rfl, rfl⟩ := rl
    exact call_len pins s σ H _ us Q' I r ⟨_, _, rfl, ⟨h.1, rfl⟩, g.i sm h.2⟩
  · exact h.elim
theorem qc_abs : CallR X (.builtin "abs") (upVL X.K vAbs) := by
  intro pins s σ H xs us Q' I r ⟨F, ds, Q, sm, rl, h, g⟩
  unfold vAbs at h
  split at h
  · obtain ⟨v, _, rfl, rfl, rfl⟩ := rl
    exact call_abs pins s σ H _ us Q' I r ⟨_, rfl, g.i sm h⟩
  · exact h.elim
theorem qc_int : CallR X (.type "int") (upVL X.K vInt) := by
  intro pins s σ H xs us Q' I r ⟨F, ds, Q, sm, rl, h, g⟩
  unfold vInt at h
  split at h
  · obtain ⟨v, _, rfl, rfl, rfl⟩ := rl
    exact call_int1 pins s σ H _ us Q' I r (.inl ⟨_, rfl, g.i sm h⟩)
  · obtain ⟨v, _, rfl, rfl, rfl⟩ := rl
    exact call_int1 pins s σ H _ us Q' I r (.inr ⟨_, rfl, g.i sm h⟩)
  · exact h.elim
theorem qc_bool : CallR X (.type "bool") (upVL X.K vBool) := by
  intro pins s σ H xs us Q' I r ⟨F, ds, Q, sm, rl, h, g⟩
  unfold vBool at h
  split at h
  · obtain ⟨v, _, rfl, rfl, rfl⟩ := rl
    exact call_bool1 pins s σ H _ us Q' I r (.inl ⟨_, rfl, g.b sm h⟩)
  · obtain ⟨v, _, rfl, rfl, rfl⟩ := rl
    exact call_bool1 pins s σ H _ us Q' I r (.inr ⟨_, rfl, g.b sm h⟩)
  · exact h.elim
theorem qc_sum (hc : X.calm = true) : CallR X (.builtin "sum") (upVL X.K vSum) := by
  intro pins s σ H xs us Q' I r ⟨F, ds, Q, sm, rl, h, g⟩
  unfold vSum at h
  split at h
  · obtain ⟨v, _, rfl, ⟨a, vs, rfl, h2, h3⟩, rfl⟩ := rl
    obtain ⟨ns, hn, q⟩ := h
    rw [allInts_eq hn] at h3
    rw [h3.ints] at h2
    exact cr_sum hc pins s σ H _ us Q' I r ⟨a, ns, rfl, .inl (.inl (sm _ _ h2)), g.i sm q⟩
  · exact h.elim
theorem qc_max (hc : X.calm = true) : CallR X (.builtin "max") (upVL X.K vMax) := by
  intro pins s σ H xs us Q' I r ⟨F, ds, Q, sm, rl, h, g⟩
  unfold vMax at h
  split at h
  · obtain ⟨v, w, rfl, rfl, rfl⟩ := RepL.two rl
    exact call_max2 hc pins s σ H _ us Q' I r ⟨_, _, rfl, g.i sm h⟩
  · obtain ⟨v, _, rfl, ⟨a, vs, rfl, h2, h3⟩, rfl⟩ := rl
    obtain ⟨ns, hn, h0, q⟩ := h
    rw [allInts_eq hn] at h3
    rw [h3.ints] at h2
    exact cr_max hc pins s σ H _ us Q' I r ⟨a, ns, rfl, .inl (.inl (sm _ _ h2)), h0, fun m h1 h2 => g.i sm (q m h1 h2)⟩
  · exact h.elim
theorem qc_min (hc : X.calm = true) : CallR X (.builtin "min") (upVL X.K vMin) := by
  intro pins s σ H xs us Q' I r ⟨F, ds, Q, sm, rl, h, g⟩
  unfold vMin at h
  split at h
  · obtain ⟨v, w, rfl, rfl, rfl⟩ := RepL.two rl
    exact call_min2 hc pins s σ H _ us Q' I r ⟨_, _, rfl, g.i sm h⟩
  · obtain ⟨v, _, rfl, ⟨a, vs, rfl, h2, h3⟩, rfl⟩ := rl
    obtain ⟨ns, hn, h0, q⟩ := h
    rw [allInts_eq hn] at h3
    rw [h3.ints] at h2
    exact cr_min hc pins s σ H _ us Q' I r ⟨a, ns, rfl, .inl (.inl (sm _ _ h2)), h0, fun m h1 h2 => g.i sm (q m h1 h2)⟩
  · exact h.elim
theorem qc_all (hc : X.calm = true) : CallR X (.builtin "all") (upVL X.K vAll) := by
  intro pins s σ H xs us Q' I r ⟨F, ds, Q, sm, rl, h, g⟩
  unfold vAll at h
  split at h
  · obtain ⟨v, _, rfl, ⟨a, vs, rfl, h2, h3⟩, rfl⟩ := rl
    obtain ⟨ns, hn, q⟩ := h
    rw [allBls_eq hn] at h3
    rw [h3.bls] at h2
    exact cr_all hc pins s σ H _ us Q' I r ⟨a, ns, rfl, .inl (.inl (sm _ _ h2)), g.b sm q⟩
  · exact h.elim
theorem qc_any (hc : X.calm = true) : CallR X (.builtin "any") (upVL X.K vAny) := by
  intro pins s σ H xs us Q' I r ⟨F, ds, Q, sm, rl, h, g⟩
  unfold vAny at h
  split at h
  · obtain ⟨v, _, rfl, ⟨a, vs, rfl, h2, h3⟩, rfl⟩ := rl
    obtain ⟨ns, hn, q⟩ := h
    rw [allBls_eq hn] at h3
    rw [h3.bls] at h2
    exact cr_any hc pins s σ H _ us Q' I r ⟨a, ns, rfl, .inl (.inl (sm _ _ h2)), g.b sm q⟩
  · exact h.elim
theorem qc_listN : CallR X (.type "list") (upNL X.K vList) := by
  intro pins s σ H xs us Q' I r ⟨F, ds, Q, sm, rl, h, g⟩
  unfold vList at h
  split at h
  · obtain ⟨v, _, rfl, ⟨a, vs, rfl, h2, h3⟩, rfl⟩ := rl
    exact call_list_of pins s σ H _ us Q' I r ⟨a, vs, rfl, .inl (.inl (.inl (sm _ _ h2))), fun l hl => g.lst h3 h hl⟩
  · obtain ⟨v, _, rfl, ⟨a, vs, rfl, h2, h3⟩, rfl⟩ := rl
    exact call_list_of pins s σ H _ us Q' I r ⟨a, vs, rfl, .inr (same_sqt sm h2), fun l hl => g.lst h3 h hl⟩
  · exact h.elim
theorem qc_list : CallR X (.type "list") (upVL X.K vList) := callN_V qc_listN
theorem qc_tuple : CallR X (.type "tuple") (upVL X.K vTuple) := by
  intro pins s σ H xs us Q' I r ⟨F, ds, Q, sm, rl, h, g⟩
  unfold vTuple at h
  split at h
  · obtain ⟨v, _, rfl, ⟨a, vs, rfl, h2, h3⟩, rfl⟩ := rl
    exact call_tuple_of pins s σ H _ us Q' I r ⟨a, vs, rfl, .inl ⟨.inl (.inl (sm _ _ h2)), fun l hl => g.tup sm h3 h hl⟩⟩
  · obtain ⟨v, _, rfl, ⟨a, vs, rfl, h2, h3⟩, rfl⟩ := rl
    exact call_tuple_of pins s σ H _ us Q' I r ⟨a, vs, rfl, .inr ⟨same_sqt sm h2, g.flat sm (z := .tup _) ⟨a, vs, rfl, h2, h3⟩ h⟩⟩
  · exact h.elim
theorem tyx_of {K : PySem.W.Frag} {F H : Hp} (s : Same F H) : ∀ {d : D} {v : V} {n : String}, tyN d = some n → Rep K F d v → TyX K H v (.type n)
  | .non, _, _, e, r => by cases e; rw [show _ = V.non from r]; exact .base .non
  | .bl b, _, _, e, r => by cases e; rw [show _ = V.bl b from r]; exact .base (.bl b)
  | .int b, _, _, e, r => by cases e; rw [show _ = V.int b from r]; exact .base (.int b)
  | .str b, _, _, e, r => by cases e; rw [show _ = V.str b from r]; exact .base (.str b)
  | .scr ns, _, _, e, ⟨a, h1, h2⟩ => by
    cases e; rw [h1]
    rcases h2 with (h2 | ⟨o, h2⟩) | ⟨o, _, _, h2, h3, _⟩
    · exact .base (.lst (s _ _ h2))
    · exact .base (.frz (s _ _ h2))
    · exact .kList h2 h3
  | .tup xs, _, _, e, ⟨a, vs, h1, h2, h3⟩ => by
    cases e; rw [h1]
    rcases h2 with (h2 | ⟨o, h2⟩) | ⟨o, _, _, h2, h4, _⟩
    · exact .base (.tup (s _ _ h2))
    · exact .fTuple (s _ _ h2)
    · exact .kTuple h2 h4
  | .lst xs, _, _, e, ⟨a, vs, h1, h2, h3⟩ => by cases e; rw [h1]; exact .base (.lst (s _ _ h2))
  | .dic ks xs, _, _, e, ⟨a, h1, h⟩ => by
    cases e; rw [h1]
    rcases h with ⟨kvs, h2, _⟩ | ⟨kvs, h2, _⟩
    · exact .base (.dK (s _ _ h2))
    · exact .base (.dT (s _ _ h2))
  | .raw _, _, _, e, _ => nomatch e
  | .obj _ _ _, _, _, e, _ => nomatch e
theorem qc_isiB : CallR X (.builtin "isinstance") (upVL X.K vIsiB) := by
  intro pins s σ H xs us Q' I r ⟨F, ds, Q, sm, rl, h, g⟩
  unfold vIsiB at h
  split at h
  · obtain ⟨v, w, rfl, rv, rfl⟩ := RepL.two rl
    obtain ⟨t, b, ht, hb, q⟩ := h
    exact call_isi pins s σ H _ us Q' I r ⟨v, _, _, _, b, rfl, .ty _, tyx_of sm ht rv, kit_ty hb, g.b sm q⟩
  · exact h.elim
end
section
variable {X : Cx} {bx : Bx} {e : Expr}
/-- a built-in's name as a value -/
theorem q_raw {v : V} (h : L2.PE X e (tC v)) : QE X bx e (rC (.raw v)) := q_con h fun _ _ => rfl
end
section
variable {P : Program} {w : World} {K : PySem.W.Frag} {mg : Str → Option Value} {base : Heap}
/-- a def (or method) that changes the object in its first place -/
def envB (N : List Str) (d0 : D) (ds : List D) : List Slot := .own d0 :: (ds.map .val ++ List.replicate (N.length - (ds.length + 1)) .un)
def minus (H : Hp) (a : Addr) : Hp := fun b => if b = a then none else H b
theorem er_startB {N : List Str} {F H : Hp} {a : Addr} {ho : HO} {d0 : D} {ds : List D} {vs : List V} (s : Same F H) (hf : F a = none) (ha : H a = some ho) (o : OwnH K F d0 ho) (r : RepL K F ds vs) : ER K ⟨minus H a, some a, F⟩ F (envB N d0 ds) (L2.start N (.ref a :: vs)) H := by
  have hl := r.length
  have old : ∀ (i : Nat) (sl : Slot), (envB N d0 ds)[i]? = some sl → (i = 0 ∧ sl = .own d0) ∨ (∃ j d, i = j + 1 ∧ ds[j]? = some d ∧ sl = .val d) ∨ (ds.length + 1 ≤ i ∧ i < N.length ∧ sl = .un) := fun i sl h => by
    unfold envB at h
    cases i with
    | zero => exact .inl ⟨rfl, (Option.some.inj h).symm⟩
    | succ j =>
      have h : (ds.map Slot.val ++ List.replicate (N.length - (ds.length + 1)) Slot.un)[j]? = some sl := h
      by_cases hi : j < ds.length
      · rw [List.getElem?_append_left (by simpa using hi), List.getElem?_map] at h
        rw [List.getElem?_eq_getElem hi] at h
        exact .inr (.inl ⟨j, ds[j], rfl, List.getElem?_eq_getElem hi, (Option.some.inj h).symm⟩)
      · rw [List.getElem?_append_right (by simpa using hi), List.getElem?_replicate] at h
        split at h
        · rename_i hlt
          rw [List.length_map] at hlt
          exact .inr (.inr ⟨by omega, by omega, (Option.some.inj h).symm⟩)
        · cases h
  refine ⟨fun b q z => ?_, s, (by unfold envB L2.start; simp [hl]), fun i sl h => ?_, fun i j d e c hi hj _ _ => ?_, (fun c h => ?_), Same.refl _, fun b h _ => h⟩
  · have z' : (if b = a then none else H b) = some q := z
    split at z'
    · cases z'
    · exact z'
  · rcases old i sl h with ⟨rfl, rfl⟩ | ⟨j, d, rfl, hd, rfl⟩ | ⟨h1, h2, rfl⟩
    · exact ⟨some (.ref a), rfl, a, ho, rfl, hf, if_pos rfl, ha, o⟩
    · obtain ⟨v, hv, rv⟩ := r.get hd
      have hi : j < vs.length := (List.getElem?_eq_some_iff.mp hv).1
      refine ⟨some v, ?_, v, rfl, rv⟩
      unfold L2.start
      show ((vs.map some) ++ _)[j]? = _
      rw [List.getElem?_append_left (by simpa using hi), List.getElem?_map, hv]
      rfl
    · refine ⟨none, ?_, trivial⟩
      unfold L2.start
      rw [List.getElem?_append_right (by simp; omega), List.getElem?_replicate, if_pos (by simp; omega)]
  · rcases old i _ hi with ⟨z, _⟩ | ⟨_, d, _, _, z⟩ | ⟨_, _, z⟩
    · rcases old j _ hj with ⟨z2, _⟩ | ⟨_, d, _, _, z⟩ | ⟨_, _, z⟩
      · rw [z, z2]
      · cases z
      · cases z
    · cases z
    · cases z
  · cases h
    exact ⟨rfl, d0, rfl⟩
/-- what slot 0 owns -/
def own0 (env : List Slot) (P : D → Prop) : Prop := match env[(0 : Nat)]? with
  | some (.own d) => P d
  | _ => False
theorem own0_of {env : List Slot} {P : D → Prop} (h : own0 env P) : ∃ d, env[(0 : Nat)]? = some (.own d) ∧ P d := by
  unfold own0 at h
  split at h
  · rename_i d hd
    exact ⟨d, hd, h⟩
  · exact h.elim
theorem fnB {x qual : Str} {st : Stmt} {f : Addr} {fd : FuncData} {N ps : List Str} {k n : Nat} {M : FB} (Fn : Fun K x qual st f fd) (Sc : FnScope N ps (defScope st)) (hps : ps.length = n + 1)
    (hbody : ∀ (cdv : Value) (A : Around) (outer : List Env) (s : Shared) (H B F0 : Hp) (a : Addr) (E : XK) (EX : D → D → Prop), Room k (A.deeper (envOfC qual (defScope st) s.heap.objs.size f cdv)) →
      Takes (cxOf (L2.CX P w) P w K mg base N qual (defScope st) f cdv A outer s H E) (WEx K ⟨B, some a, F0⟩ fun ed env => own0 env (EX ed)) →
      ∃ t, QSs (cxOf (L2.CX P w) P w K mg base N qual (defScope st) f cdv A outer s H E) ⟨B, some a, F0⟩ (defBody st) t ∧ ∀ d0 ds Q, ds.length = n → M d0 ds Q EX →
        t { nx := fun env => own0 env (Q .non), rt := fun d env => own0 env (Q d) } (envB N d0 ds)) :
    FnOk P w K mg base (L2.CX P w) (k + 1) f fd ps (spB K n M) := by
  refine Fn.okX Sc (fun vs H Q E ⟨F, a, ho, d0, ds, ws, _, _, hn, e, _, _, _, _, r, _⟩ => by rw [e, List.length_cons, ← r.length, hn, hps]) (fun cdv A outer s H vs Q' E' hr ⟨F, a, ho, d0, ds, ws, Q, E, hn, ev, sm, hf, ha, o, r, h, g, gx⟩ => ?_)
  subst ev
  have fin : ∀ {F' H' : Hp} {env : List Slot} {σ : L2.St} {d' : D}, ER K ⟨minus H a, some a, F⟩ F' env σ H' → env[0]? = some (.own d') → ∃ ho', GrowB a F H F' H' ∧ H' a = some ho' ∧ OwnH K F' d' ho' := fun {F' H' env σ d'} R h0 => by
    obtain ⟨p, ho', h1, h2, h3, h4⟩ := own_ix R h0
    obtain ⟨k1, _⟩ := R.io a rfl
    rw [k1] at h1; cases h1
    refine ⟨ho', ⟨R.f0, R.sf, fun b q z hb => R.sb b q (by show (if b = a then none else H b) = some q; rw [if_neg hb]; exact z), fun b z1 z2 => ?_⟩, h2, h4⟩
    by_cases hb : b = a
    · rw [hb]; exact h3
    · exact R.fz b z1 (by show (if b = a then none else H b) ≠ none; rw [if_neg hb]; exact z2)
  obtain ⟨t, ht, hq⟩ := hbody cdv A outer s H (minus H a) F a E' E hr ((takes_of rfl rfl rfl rfl : Takes (cxOf (L2.CX P w) P w K mg base N qual (defScope st) f cdv A outer s H E') (fun cls d _ H => E' cls d H)).imp fun cls d σ H' ⟨env, F', ed, R, rx, ex⟩ => by
    obtain ⟨d', hd', ex⟩ := own0_of ex
    obtain ⟨ho', g1, g2, g3⟩ := fin R hd'
    exact gx ed cls d d' ho' F' H' g1 g2 g3 rx ex)
  refine ⟨_, ht, envB N d0 ds, F, _, er_startB sm hf ha o r, hq d0 ds Q hn h, fun env' F' σ' H' s' R' q => ?_, fun d v env' F' σ' H' s' R' rd q => ?_, fun _ _ _ _ _ _ z => z.elim, fun _ _ _ _ _ _ z => z.elim⟩
  · obtain ⟨d', hd', q⟩ := own0_of q
    obtain ⟨ho', g1, g2, g3⟩ := fin R' hd'
    exact g .non .non d' ho' F' H' g1 g2 g3 rfl q
  · obtain ⟨d', hd', q⟩ := own0_of q
    obtain ⟨ho', g1, g2, g3⟩ := fin R' hd'
    exact g d v d' ho' F' H' g1 g2 g3 rd q
end
end QL
namespace QL
open PySem PySem.Spec PyProof.Rows L2
theorem bt_len : bootBuiltins "len" = some (.builtin "len") := by decide +kernel
theorem bt_abs : bootBuiltins "abs" = some (.builtin "abs") := by decide +kernel
theorem bt_sum : bootBuiltins "sum" = some (.builtin "sum") := by decide +kernel
theorem bt_max : bootBuiltins "max" = some (.builtin "max") := by decide +kernel
theorem bt_min : bootBuiltins "min" = some (.builtin "min") := by decide +kernel
theorem bt_all : bootBuiltins "all" = some (.builtin "all") := by decide +kernel
theorem bt_any : bootBuiltins "any" = some (.builtin "any") := by decide +kernel
theorem bt_isinstance : bootBuiltins "isinstance" = some (.builtin "isinstance") := by decide +kernel
theorem bt_int : bootBuiltins "int" = some (.type "int") := by decide +kernel
theorem bt_bool : bootBuiltins "bool" = some (.type "bool") := by decide +kernel
theorem bt_list : bootBuiltins "list" = some (.type "list") := by decide +kernel
theorem bt_tuple : bootBuiltins "tuple" = some (.type "tuple") := by decide +kernel
theorem bt_str : bootBuiltins "str" = some (.type "str") := by decide +kernel
theorem bt_dict : bootBuiltins "dict" = some (.type "dict") := by decide +kernel
theorem qs_nev {X : Cx} {bx : Bx} {st : Stmt} : QS X bx st sNever := ps_imp ps_never fun Dn σ H ⟨env, F, en, R, ht, _⟩ => ht
end QL
set_option Elab.async false
set_option linter.all false
set_option maxRecDepth 100000
namespace QL
open PySem PySem.Spec PyProof.Rows L2
/-! ### the readings, step by step -/
def bq (d : D) (Q : Bool → Prop) : Prop := match d with
  | .bl k => Q k
  | _ => False
def valQ (s : Slot) (Q : D → Prop) : Prop := match s with
  | .val d => Q d
  | _ => False
def ownQ (s : Slot) (Q : D → Prop) : Prop := match s with
  | .own d => Q d
  | _ => False
def anyQ (s : Slot) (Q : D → Prop) (Q' : D → Prop) : Prop := match s with
  | .val d => Q d
  | .own d => Q' d
  | _ => False
def trq (d : D) (P : Bool → Prop) : Prop := match truD d with
  | some k => P k
  | none => False
section
variable {env : List Slot} {Q : D → List Slot → Prop} {QB : Bool → List Slot → Prop} {QM : List D → List Slot → Prop} {Q0 : D → Prop} {d e : D} {i j : Nat} {ta tb tc : RE} {r r' : V2} {u : V1} {vl : VL} {t : RA} {c c' : RB} {en : PEnds} {ts us : RS} {g : RG} {gs : RGs} {EX : XD} {S : FA} {M : FB} {n : Nat}
theorem e_own0 {l : List Slot} {P : D → Prop} : own0 (.own d :: l) P = P d := rfl
theorem e_c : rC d env Q = Q d env := rfl
theorem e_var : rVar i env Q = valQ (getS env i) fun d => Q d env := by
  unfold rVar; rw [getS_eq]
  cases env[i]? with
  | none => rfl
  | some s => cases s <;> rfl
theorem e_varO : rVarO i env Q = anyQ (getS env i) (fun d => Q d env) (fun d => Q d (putS env i (.val d))) := by
  unfold rVarO; rw [getS_eq]
  cases env[i]? with
  | none => rfl
  | some s => cases s <;> first | rfl | (simp only [putS_eq]; rfl)
theorem e_valQ {P : D → Prop} : valQ (.val d) P = P d := rfl
theorem e_ownQ {P : D → Prop} : ownQ (.own d) P = P d := rfl
theorem e_anyV {P P' : D → Prop} : anyQ (.val d) P P' = P d := rfl
theorem e_anyO {P P' : D → Prop} : anyQ (.own d) P P' = P' d := rfl
theorem e_get0 {s : Slot} {l : List Slot} : getS (s :: l) 0 = s := rfl
theorem e_getS {s : Slot} {l : List Slot} : getS (s :: l) (n + 1) = getS l n := rfl
theorem e_put0 {s s' : Slot} {l : List Slot} : putS (s :: l) 0 s' = s' :: l := rfl
theorem e_putS {s s' : Slot} {l : List Slot} : putS (s :: l) (n + 1) s' = s :: putS l n s' := rfl
def notOwn : Slot → Bool
  | .own _ => false
  | _ => true
theorem e_noN {env : List Slot} : noOwn [] env = true := rfl
theorem e_noC {is : List Nat} {env : List Slot} : noOwn (i :: is) env = (notOwn (getS env i) && noOwn is env) := by
  show ((match env[i]? with | some (.own _) => false | _ => true) && noOwn is env) = _
  rw [getS_eq]
  cases env[i]? with
  | none => rfl
  | some s => cases s <;> rfl
theorem e_noU : notOwn .un = true := rfl
theorem e_noV : notOwn (.val d) = true := rfl
theorem e_wipN {env : List Slot} : wipeE [] env = env := rfl
theorem e_wipC {is : List Nat} {env : List Slot} : wipeE (i :: is) env = putS (wipeE is env) i .un := by show (wipeE is env).set i .un = _; rw [putS_eq]
theorem e_bakN {old env : List Slot} : backE [] old env = env := rfl
theorem e_bakC {is : List Nat} {old env : List Slot} : backE (i :: is) old env = putS (backE is old env) i (getS old i) := rfl
theorem e_ownN {α β : Type} {f : α → β} : List.map f [] = [] := rfl
theorem e_op : rOp r ta tb env Q = ta env fun d env1 => tb env1 fun e env2 => r d e fun z => Q z env2 := rfl
theorem e_un : rUn u ta env Q = ta env fun d env1 => u d fun z => Q z env1 := rfl
theorem e_tst : rTst ta env QB = ta env fun d env1 => bq d fun k => QB k env1 := rfl
theorem e_bq {k : Bool} {P : Bool → Prop} : bq (.bl k) P = P k := rfl
theorem e_tru : rTru ta env QB = ta env fun d env1 => trq d fun k => QB k env1 := rfl
theorem e_notT : rNotT c env QB = c env fun b env1 => QB (!b) env1 := rfl
theorem e_andT : rAndT c c' env QB = c env fun b env1 => if b = true then c' env1 QB else QB false env1 := rfl
theorem e_orT : rOrT c c' env QB = c env fun b env1 => if b = true then QB true env1 else c' env1 QB := rfl
theorem e_and : rAnd ta tb env Q = ta env fun d env1 => trq d fun k => (if k = true then tb env1 Q else Q d env1) := rfl
theorem e_or : rOr ta tb env Q = ta env fun d env1 => trq d fun k => (if k = true then Q d env1 else tb env1 Q) := rfl
theorem e_not : rNot ta env Q = ta env fun d env1 => trq d fun k => Q (.bl (!k)) env1 := rfl
theorem e_tqB {k : Bool} {P : Bool → Prop} : trq (.bl k) P = P k := rfl
theorem e_tqI {k : Int} {P : Bool → Prop} : trq (.int k) P = P (k != 0) := rfl
theorem e_tqN {P : Bool → Prop} : trq .non P = P false := rfl
theorem e_tqL {xs : List D} {P : Bool → Prop} : trq (.lst xs) P = P (!xs.isEmpty) := rfl
theorem e_tqT {xs : List D} {P : Bool → Prop} : trq (.tup xs) P = P (!xs.isEmpty) := rfl
theorem e_if : rIf c ta tb env Q = c env fun b env1 => if b = true then ta env1 Q else tb env1 Q := rfl
theorem e_chain : rChain r r' ta tb tc env Q = ta env fun d env1 => tb env1 fun e env2 => r d e fun z => bq z fun k => if k = true then tc env2 fun w env3 => r' e w fun z => Q z env3 else Q (.bl false) env2 := by
  unfold rChain bq; rfl
theorem e_nil : rNil env QM = QM [] env := rfl
theorem e_cons : rCons ta t env QM = ta env fun d env1 => t env1 fun ds env2 => QM (d :: ds) env2 := rfl
theorem e_tup : rTup t env Q = t env fun ds env1 => ds.length ≤ sizeLine ∧ Q (.tup ds) env1 := rfl
theorem e_lst : rLst t env Q = t env fun ds env1 => ds.length ≤ sizeLine ∧ Q (.lst ds) env1 := rfl
theorem e_ixO : rIxO i tb env Q = ownQ (getS env i) fun _ => tb env fun j env1 => ownQ (getS env1 i) fun d => vIx d j fun z => Q z env1 := by
  unfold rIxO; rw [getS_eq]
  cases h : env[i]? with
  | none =>
    show _ = False
    exact propext ⟨fun ⟨⟨d, z⟩, _⟩ => (by cases z), fun z => z.elim⟩
  | some s =>
    cases s with
    | un => exact propext ⟨fun ⟨⟨d, z⟩, _⟩ => (by cases z), fun z => z.elim⟩
    | val d => exact propext ⟨fun ⟨⟨d, z⟩, _⟩ => (by cases z), fun z => z.elim⟩
    | own d =>
      have e : (fun (j : D) (env1 : List Slot) => match env1[i]? with | some (.own d) => vIx d j fun z => Q z env1 | _ => False) = fun j env1 => ownQ (getS env1 i) fun d => vIx d j fun z => Q z env1 := by
        funext j env1
        rw [getS_eq]
        cases env1[i]? with
        | none => rfl
        | some s => cases s <;> rfl
      exact propext ⟨fun ⟨_, z⟩ => by rw [← e]; exact z, fun z => ⟨⟨d, rfl⟩, by rw [← e] at z; exact z⟩⟩
theorem e_call : rCall S n EX t env Q = t env fun ds env1 => ds.length = n ∧ S ds (fun d => Q d env1) fun ed => EX ed env1 := rfl
theorem e_callM : rCallM i M n EX t env Q = ownQ (getS env i) fun _ => t env fun ds env1 => ownQ (getS env1 i) fun d0 => ds.length = n ∧ M d0 ds (fun d d' => Q d (putS env1 i (.own d'))) fun ed d' => EX ed (putS env1 i (.own d')) := by
  unfold rCallM; rw [getS_eq]
  have e : (fun (ds : List D) (env1 : List Slot) => match env1[i]? with | some (.own d0) => ds.length = n ∧ M d0 ds (fun d d' => Q d (env1.set i (.own d'))) (fun ed d' => EX ed (env1.set i (.own d'))) | _ => False) = fun ds env1 => ownQ (getS env1 i) fun d0 => ds.length = n ∧ M d0 ds (fun d d' => Q d (putS env1 i (.own d'))) fun ed d' => EX ed (putS env1 i (.own d')) := by
    funext ds env1
    rw [getS_eq]
    cases env1[i]? with
    | none => rfl
    | some s => cases s <;> first | rfl | (simp only [putS_eq]; rfl)
  cases h : env[i]? with
  | none => exact propext ⟨fun ⟨⟨d, z⟩, _⟩ => (by cases z), fun z => z.elim⟩
  | some s =>
    cases s with
    | un => exact propext ⟨fun ⟨⟨d, z⟩, _⟩ => (by cases z), fun z => z.elim⟩
    | val d => exact propext ⟨fun ⟨⟨d, z⟩, _⟩ => (by cases z), fun z => z.elim⟩
    | own d => exact propext ⟨fun ⟨_, z⟩ => by rw [← e]; exact z, fun z => ⟨⟨d, rfl⟩, by rw [← e] at z; exact z⟩⟩
theorem e_cb : rCB vl t env Q = t env fun ds env1 => vl ds fun z => Q z env1 := rfl
theorem e_snil : sNil en env = en.nx env := rfl
theorem e_seq : sSeq ts us en env = ts { en with nx := fun env' => us en env' } env := rfl
theorem e_asg : sAsg ta g en env = ta env fun d env1 => g d env1 en.nx := rfl
theorem e_own : sOwn i ta en env = ta env fun d env1 => en.nx (putS env1 i (.own d)) := by unfold sOwn; simp only [putS_eq]
theorem e_drop : sDrop ta en env = ta env fun _ env1 => en.nx env1 := rfl
theorem e_ret : sRet ta en env = ta env en.rt := rfl
theorem e_retN : sRetN en env = en.rt .non env := rfl
theorem e_sif : sIf c ts us en env = c env fun b env1 => if b = true then ts en env1 else us en env1 := rfl
theorem e_brk : sBrk en env = en.bk env := rfl
theorem e_cnt : sCnt en env = en.ct env := rfl
theorem e_nev : sNever en env = False := rfl
theorem e_gn {P : List Slot → Prop} : rgN i d env P = P (putS env i (.val d)) := by unfold rgN; rw [putS_eq]
theorem e_gnil {P : List Slot → Prop} : rgNil [] env P = P env := by unfold rgNil; exact propext ⟨fun h => h.2, fun h => ⟨rfl, h⟩⟩
theorem e_gcons {P : List Slot → Prop} {ds : List D} : rgCons g gs (d :: ds) env P = g d env fun env1 => gs ds env1 P := rfl
theorem e_gt {P : List Slot → Prop} {xs : List D} : rgT n gs (.tup xs) env P = (xs.length = n ∧ gs xs env P) := rfl
theorem e_par : sPar i j t en env = t env fun ds env1 => match ds with | [d, e] => en.nx (putS (putS env1 i (.val d)) j (.val e)) | _ => False := by unfold sPar; simp only [putS_eq]; try rfl
theorem e_par3 {k : Nat} : sPar3 i j k t en env = t env fun ds env1 => match ds with | [d, e, f] => en.nx (putS (putS (putS env1 i (.val d)) j (.val e)) k (.val f)) | _ => False := by unfold sPar3; simp only [putS_eq]; try rfl
theorem e_aug : sAug i r ta en env = valQ (getS env i) fun d => ta env fun e env1 => r d e fun z => en.nx (putS env1 i (.val z)) := by
  unfold sAug; rw [getS_eq]
  cases env[i]? with
  | none => rfl
  | some s => cases s <;> first | rfl | (simp only [putS_eq]; rfl)
def lstQ (d : D) (Q : List D → Prop) : Prop := match d with
  | .lst xs => Q xs
  | _ => False
theorem e_lstQ {xs : List D} {P : List D → Prop} : lstQ (.lst xs) P = P xs := rfl
theorem e_app : sApp i ta en env = ownQ (getS env i) fun d => lstQ d fun _ => ta env fun d env1 => ownQ (getS env1 i) fun e => lstQ e fun xs => xs.length < sizeLine ∧ en.nx (putS env1 i (.own (.lst (xs ++ [d])))) := by
  unfold sApp; rw [getS_eq]
  have e : (fun (d : D) (env1 : List Slot) => match env1[i]? with | some (.own (.lst xs)) => xs.length < sizeLine ∧ en.nx (env1.set i (.own (.lst (xs ++ [d])))) | _ => False) = fun d env1 => ownQ (getS env1 i) fun e => lstQ e fun xs => xs.length < sizeLine ∧ en.nx (putS env1 i (.own (.lst (xs ++ [d])))) := by
    funext d env1
    rw [getS_eq]
    cases env1[i]? with
    | none => rfl
    | some s =>
      cases s with
      | un => rfl
      | val _ => rfl
      | own z => cases z <;> first | rfl | (simp only [putS_eq]; rfl)
  cases h : env[i]? with
  | none => exact propext ⟨fun ⟨⟨d, z⟩, _⟩ => (by cases z), fun z => z.elim⟩
  | some s =>
    cases s with
    | un => exact propext ⟨fun ⟨⟨d, z⟩, _⟩ => (by cases z), fun z => z.elim⟩
    | val d => exact propext ⟨fun ⟨⟨d, z⟩, _⟩ => (by cases z), fun z => z.elim⟩
    | own d =>
      cases d with
      | lst xs => exact propext ⟨fun ⟨_, z⟩ => by rw [← e]; exact z, fun z => ⟨⟨xs, rfl⟩, by rw [← e] at z; exact z⟩⟩
      | _ => exact propext ⟨fun ⟨⟨d, z⟩, _⟩ => (by cases z), fun z => z.elim⟩
def intQ (d : D) (Q : Int → Prop) : Prop := match d with
  | .int i => Q i
  | _ => False
theorem e_intQ {k : Int} {P : Int → Prop} : intQ (.int k) P = P k := rfl
theorem e_augI {r : V2} {tj te : RE} : sAugI i r tj te en env = ownQ (getS env i) fun d => lstQ d fun _ => tj env fun j env1 => ownQ (getS env1 i) fun e => lstQ e fun xs => intQ j fun k => ∃ d, atI xs k = some d ∧ te env1 fun e env2 => r d e fun z => ownQ (getS env2 i) fun f => lstQ f fun ys => ∃ n, ixN ys.length k = some n ∧ en.nx (putS env2 i (.own (.lst (ys.set n z)))) := by
  unfold sAugI; rw [getS_eq]
  have e : (fun (j : D) (env1 : List Slot) => match env1[i]? with
  | some (.own (.lst xs)) => (match j with
    | .int k => ∃ d, atI xs k = some d ∧ te env1 fun e env2 => r d e fun z => match env2[i]? with
      | some (.own (.lst ys)) => ∃ n, ixN ys.length k = some n ∧ en.nx (env2.set i (.own (.lst (ys.set n z))))
      | _ => False
    | _ => False)
  | _ => False) = fun j env1 => ownQ (getS env1 i) fun e => lstQ e fun xs => intQ j fun k => ∃ d, atI xs k = some d ∧ te env1 fun e env2 => r d e fun z => ownQ (getS env2 i) fun f => lstQ f fun ys => ∃ n, ixN ys.length k = some n ∧ en.nx (putS env2 i (.own (.lst (ys.set n z)))) := by
    funext j env1
    rw [getS_eq]
    cases env1[i]? with
    | none => rfl
    | some s =>
      cases s with
      | un => rfl
      | val _ => rfl
      | own z =>
        cases z with
        | lst xs =>
          cases j with
          | int k =>
            show (∃ d, atI xs k = some d ∧ te env1 fun e env2 => r d e fun z => match env2[i]? with
      | some (.own (.lst ys)) => ∃ n, ixN ys.length k = some n ∧ en.nx (env2.set i (.own (.lst (ys.set n z))))
      | _ => False) = ∃ d, atI xs k = some d ∧ te env1 fun e env2 => r d e fun z => ownQ (getS env2 i) fun f => lstQ f fun ys => ∃ n, ixN ys.length k = some n ∧ en.nx (putS env2 i (.own (.lst (ys.set n z))))
            congr 1; funext d; congr 1; congr 1; funext e env2; congr 1; funext z
            rw [getS_eq]
            cases env2[i]? with
            | none => rfl
            | some s =>
              cases s with
              | un => rfl
              | val _ => rfl
              | own z => cases z <;> first | rfl | (simp only [putS_eq]; rfl)
          | _ => rfl
        | _ => rfl
  cases h : env[i]? with
  | none => exact propext ⟨fun ⟨⟨d, z⟩, _⟩ => (by cases z), fun z => z.elim⟩
  | some s =>
    cases s with
    | un => exact propext ⟨fun ⟨⟨d, z⟩, _⟩ => (by cases z), fun z => z.elim⟩
    | val d => exact propext ⟨fun ⟨⟨d, z⟩, _⟩ => (by cases z), fun z => z.elim⟩
    | own d =>
      cases d with
      | lst xs => exact propext ⟨fun ⟨_, z⟩ => by rw [← e]; exact z, fun z => ⟨⟨xs, rfl⟩, by rw [← e] at z; exact z⟩⟩
      | _ => exact propext ⟨fun ⟨⟨d, z⟩, _⟩ => (by cases z), fun z => z.elim⟩
/-! loops -/
theorem e_for {ti : RI} {tb : RS} : sFor ti g tb en env = ti env fun xs env1 => forR g tb en xs env1 := rfl
theorem e_forN {tb : RS} : forR g tb en [] env = en.nx env := rfl
theorem e_forC {tb : RS} {xs : List D} : forR g tb en (d :: xs) env = g d env fun env1 => tb { en with nx := forR g tb en xs, ct := forR g tb en xs, bk := en.nx } env1 := rfl
theorem e_lc {ti : RI} {tt : RB} {is : List Nat} : rLc ti g tt ta is env Q = ti env fun xs env1 => noOwn is env1 = true ∧ lcR g tt ta is xs [] (wipeE is env1) fun acc env2 => Q (.lst acc) (backE is env1 env2) := rfl
theorem e_riL {P : List D → List Slot → Prop} : riL ta env P = ta env fun d env1 => match d with | .lst xs => P xs env1 | .scr ns => P (ns.map D.int) env1 | _ => False := rfl
theorem e_riT {P : List D → List Slot → Prop} : riT ta env P = ta env fun d env1 => match d with | .tup xs => P xs env1 | _ => False := rfl
theorem e_riR1 {P : List D → List Slot → Prop} : riR1 t env P = t env fun ds env1 => match ds with | [.int j] => (-(2 ^ 62) ≤ j ∧ j < 2 ^ 62) ∧ P (rng 0 j.toNat) env1 | _ => False := rfl
theorem e_riR2 {P : List D → List Slot → Prop} : riR2 t env P = t env fun ds env1 => match ds with | [.int i, .int j] => (-(2 ^ 62) ≤ i ∧ i < 2 ^ 62 ∧ -(2 ^ 62) ≤ j ∧ j < 2 ^ 62) ∧ P (rng i (j - i).toNat) env1 | _ => False := rfl
theorem e_riE {P : List D → List Slot → Prop} : riE t env P = t env fun ds env1 => match ds with | [.lst xs] => P (enumD xs) env1 | _ => False := rfl
theorem e_riZ {P : List D → List Slot → Prop} : riZ t env P = t env fun ds env1 => match ds with | [.lst xs, .lst ys] => P (zipD xs ys) env1 | _ => False := rfl
theorem e_yes : rYes env QB = QB true env := rfl
/-! operators -/
variable {a b : Int} {xs ys : List D} {P : D → Prop}
theorem o_add : vAdd (.int a) (.int b) P = P (.int (a + b)) := rfl
theorem o_addL : vAdd (.lst xs) (.lst ys) P = (xs.length + ys.length ≤ sizeLine ∧ P (.lst (xs ++ ys))) := rfl
theorem o_addT : vAdd (.tup xs) (.tup ys) P = ((xs ≠ [] ∧ xs.length + ys.length ≤ sizeLine) ∧ P (.tup (xs ++ ys))) := rfl
theorem o_addLL : vAddL (.lst xs) (.lst ys) P = (xs.length + ys.length ≤ sizeLine ∧ P (.lst (xs ++ ys))) := rfl
theorem o_sub : vSub (.int a) (.int b) P = P (.int (a - b)) := rfl
theorem o_mul : vMul (.int a) (.int b) P = (MOk a b ∧ P (.int (a * b))) := rfl
theorem o_div : vDiv (.int a) (.int b) P = (DOk b ∧ P (.int (a / b))) := rfl
theorem o_mod : vMod (.int a) (.int b) P = (0 < b ∧ P (.int (a % b))) := rfl
theorem o_pow : vPow (.int a) (.int b) P = ((0 ≤ b ∧ b ≤ 1000000 ∧ a.natAbs < 2 ^ 64) ∧ P (.int (a ^ b.toNat))) := rfl
theorem o_shl : vShl (.int a) (.int b) P = ((0 ≤ b ∧ b ≤ 1000000 ∧ a.natAbs < 2 ^ 64) ∧ P (.int (a * 2 ^ b.toNat))) := rfl
theorem o_shr : vShr (.int a) (.int b) P = (0 ≤ b ∧ P (.int (a / 2 ^ b.toNat))) := rfl
theorem o_neg : vNeg (.int a) P = P (.int (-a)) := rfl
theorem o_lt : vLt (.int a) (.int b) P = P (.bl (decide (a < b))) := rfl
theorem o_le : vLe (.int a) (.int b) P = P (.bl (decide (a ≤ b))) := rfl
theorem o_gt : vGt (.int a) (.int b) P = P (.bl (decide (b < a))) := rfl
theorem o_ge : vGe (.int a) (.int b) P = P (.bl (decide (b ≤ a))) := rfl
theorem o_eq : vEq (.int a) (.int b) P = P (.bl (decide (a = b))) := rfl
theorem o_ne : vNe (.int a) (.int b) P = P (.bl (!decide (a = b))) := rfl
theorem o_iadd : vIAdd (.int a) (.int b) P = P (.int (a + b)) := rfl
theorem o_isub : vISub (.int a) (.int b) P = P (.int (a - b)) := rfl
theorem o_ixL : vIx (.lst xs) (.int a) P = ∃ d, atI xs a = some d ∧ P d := rfl
theorem o_ixT : vIx (.tup xs) (.int a) P = ∃ d, atI xs a = some d ∧ P d := rfl
theorem o_ixS {ns : List Int} : vIx (.scr ns) (.int a) P = ∃ n, atI ns a = some n ∧ P (.int n) := rfl
theorem o_lenL : vLen [.lst xs] P = P (.int xs.length) := rfl
theorem o_lenT : vLen [.tup xs] P = P (.int xs.length) := rfl
theorem o_lenS {ns : List Int} : vLen [.scr ns] P = P (.int ns.length) := rfl
theorem o_abs : vAbs [.int a] P = P (.int (if a < 0 then -a else a)) := rfl
theorem o_int : QL.vInt [.int a] P = P (.int a) := rfl
theorem o_max : vMax [.int a, .int b] P = P (.int (if b > a then b else a)) := rfl
theorem o_min : vMin [.int a, .int b] P = P (.int (if b < a then b else a)) := rfl
theorem o_sum : vSum [.lst xs] P = ∃ ns, allInts xs = some ns ∧ P (.int ns.sum) := rfl
theorem shaped_ints (ns : List Int) : SeqAt.shaped (.list (ns.map PyData.int)) = true := by
  unfold SeqAt.shaped
  have h1 : ∀ ns : List Int, PyData.canLayAll0 (ns.map PyData.int) = true := fun ns => by
    induction ns with
    | nil => rfl
    | cons a r ih => simp only [List.map, PyData.canLayAll0, PyData.canLay0, ih, Bool.and_self]
  have h2 : ∀ ns : List Int, PyData.depthAll (ns.map PyData.int) = 0 := fun ns => by
    induction ns with
    | nil => rfl
    | cons a r ih => simp only [List.map, PyData.depthAll, PyData.depth, ih, Nat.max_self]
  rw [Bool.and_eq_true]
  exact ⟨by rw [PyData.canLay0]; exact h1 ns, by rw [PyData.depth, h2]; rfl⟩
theorem o_neS {ns : List Int} : vNe (.scr ns) (.lst []) P = P (.bl (!ns.isEmpty)) := by
  show (okP (.scr ns) = true ∧ okP (.lst []) = true ∧ SeqAt.shaped (.list (ns.map PyData.int)) = true ∧ SeqAt.shaped (.list []) = true ∧ P (.bl (!PyData.eqv (.list (ns.map PyData.int)) (.list [])))) = _
  have e : PyData.eqv (.list (ns.map PyData.int)) (.list []) = ns.isEmpty := by cases ns <;> rfl
  rw [e]
  exact propext ⟨fun h => h.2.2.2.2, fun h => ⟨rfl, rfl, shaped_ints ns, shaped_ints [], h⟩⟩
end
section
variable {g : RG} {tb : RS} {en : PEnds} {xs xs' acc acc' : List D} {env env' : List Slot} {c : RB} {tt : RB} {te : RE} {is : List Nat} {Q : List D → List Slot → Prop}
theorem forR_congr (h : xs = xs') (h2 : env = env') : forR g tb en xs env = forR g tb en xs' env' := by rw [h, h2]
theorem lcR_congr (h : xs = xs') (h2 : env = env') : lcR g tt te is xs acc env Q = lcR g tt te is xs' acc env' Q := by rw [h, h2]
theorem sWhl_congr (h2 : env = env') : sWhl c tb en env = sWhl c tb en env' := by rw [h2]
end
/-! a cut: what stands between is told -/
def rCut (t : RE) : RE := fun env Q => ∃ R : D → List Slot → Prop, t env R ∧ ∀ d env', R d env' → Q d env'
def sCut (t : RS) : RS := fun en env => ∃ N : List Slot → Prop, t { en with nx := N } env ∧ ∀ env', N env' → en.nx env'
theorem q_cut {X : Cx} {bx : Bx} {e : Expr} {t : RE} (h : QE X bx e t) : QE X bx e (rCut t) := pe_imp h fun σ H Q' ⟨env, F, Q, R, ⟨R0, ht, i⟩, k⟩ => ⟨env, F, R0, R, ht, fun d v env' F' H' s R' r q => k d v env' F' H' s R' r (i d env' q)⟩
theorem qs_cut {X : Cx} {bx : Bx} {st : Stmt} {t : RS} (h : QS X bx st t) : QS X bx st (sCut t) := ps_imp h fun Dn σ H ⟨env, F, en, R, ⟨N, ht, i⟩, k1, k2, k3, k4⟩ => ⟨env, F, _, R, ht, fun env' F' σ' H' s R' q => k1 env' F' σ' H' s R' (i env' q), k2, k3, k4⟩
theorem rCut_congr {t : RE} {env env' : List Slot} {Q : D → List Slot → Prop} (h : env = env') : rCut t env Q = rCut t env' Q := by rw [h]
theorem sCut_congr {t : RS} {env env' : List Slot} {en : PEnds} (h : env = env') : sCut t en env = sCut t en env' := by rw [h]
/-! rules for loops -/
/-- a for by what holds behind each turn -/
theorem forR_inv {g : RG} {tb : RS} {en : PEnds} {xs : List D} {env : List Slot} (I : Nat → List Slot → Prop) (h0 : I 0 env)
    (hs : ∀ (i : Nat) (d : D) (env : List Slot) (N : List Slot → Prop), xs[i]? = some d → I i env → (∀ env', I (i + 1) env' → N env') → g d env fun env1 => tb { en with nx := N, ct := N, bk := en.nx } env1) (he : ∀ env, I xs.length env → en.nx env) : forR g tb en xs env := by
  have main : ∀ (n i : Nat) (env : List Slot), n = xs.length - i → i ≤ xs.length → I i env → forR g tb en (xs.drop i) env := by
    intro n
    induction n with
    | zero =>
      intro i env hn hi h
      have e : i = xs.length := by omega
      subst e
      rw [List.drop_length]
      exact he env h
    | succ n ih =>
      intro i env hn hi h
      have hlt : i < xs.length := by omega
      rw [List.drop_eq_getElem_cons hlt]
      exact hs i _ env _ (List.getElem?_eq_getElem hlt) h fun e' q' => ih (i + 1) e' (by omega) hlt q'
  exact main _ 0 env rfl (Nat.zero_le _) h0
theorem rng_len {lo : Int} {n : Nat} : (rng lo n).length = n := by simp [rng]
theorem rng_get {lo : Int} {n i : Nat} {d : D} (h : (rng lo n)[i]? = some d) : i < n ∧ d = .int (lo + (i : Nat)) := by
  have hi := (List.getElem?_eq_some_iff.mp h).1
  rw [rng_len] at hi
  simp [rng, hi] at h
  exact ⟨hi, h.symm⟩
/-- .. over a range -/
theorem forR_rng {g : RG} {tb : RS} {en : PEnds} {lo : Int} {n : Nat} {env : List Slot} (I : Nat → List Slot → Prop) (h0 : I 0 env)
    (hs : ∀ (i : Nat) (env : List Slot) (N : List Slot → Prop), i < n → I i env → (∀ env', I (i + 1) env' → N env') → g (.int (lo + (i : Nat))) env fun env1 => tb { en with nx := N, ct := N, bk := en.nx } env1) (he : ∀ env, I n env → en.nx env) : forR g tb en (rng lo n) env :=
  forR_inv I h0 (fun i d env N hd hI hN => by
    obtain ⟨hi, rfl⟩ := rng_get hd
    exact hs i env N hi hI hN) (fun env h => he env (by rw [rng_len] at h; exact h))
/-- .. that only leads on -/
theorem forR_nil {g : RG} {tb : RS} {en : PEnds} {env : List Slot} (h : en.nx env) : forR g tb en [] env := h
/-- a comprehension by what holds behind each turn -/
theorem lcR_inv {g : RG} {tt : RB} {te : RE} {is : List Nat} {xs acc0 : List D} {env : List Slot} {Q : List D → List Slot → Prop} (I : Nat → List D → List Slot → Prop) (h0 : I 0 acc0 env)
    (hs : ∀ (i : Nat) (d : D) (acc : List D) (env : List Slot) (N : List D → List Slot → Prop), xs[i]? = some d → I i acc env → (∀ acc' env', I (i + 1) acc' env' → N acc' env') →
      g d env fun env1 => tt env1 fun b env2 => if b = true then te env2 fun d env3 => acc.length < sizeLine ∧ N (acc ++ [d]) (wipeE is env3) else N acc (wipeE is env2)) (he : ∀ acc env, I xs.length acc env → Q acc env) : lcR g tt te is xs acc0 env Q := by
  have main : ∀ (n i : Nat) (acc : List D) (env : List Slot), n = xs.length - i → i ≤ xs.length → I i acc env → lcR g tt te is (xs.drop i) acc env Q := by
    intro n
    induction n with
    | zero =>
      intro i acc env hn hi h
      have e : i = xs.length := by omega
      subst e
      rw [List.drop_length]
      exact he acc env h
    | succ n ih =>
      intro i acc env hn hi h
      have hlt : i < xs.length := by omega
      rw [List.drop_eq_getElem_cons hlt]
      exact hs i _ acc env (fun acc env => lcR g tt te is (xs.drop (i + 1)) acc env Q) (List.getElem?_eq_getElem hlt) h fun acc' e' q' => ih (i + 1) acc' e' (by omega) hlt q'
  exact main _ 0 acc0 env rfl (Nat.zero_le _) h0
/-- .. that gives f of each item, and leaves all else -/
theorem lcR_map {g : RG} {te : RE} {is : List Nat} {xs : List D} {env : List Slot} {Q : List D → List Slot → Prop} (f : D → D) (hl : xs.length ≤ sizeLine)
    (hs : ∀ (d : D) (N : D → List Slot → Prop), d ∈ xs → (∀ env', wipeE is env' = env → N (f d) env') → g d env fun env1 => te env1 N) (he : Q (xs.map f) env) : lcR g rYes te is xs [] env Q := by
  refine lcR_inv (fun i acc e => acc = (xs.take i).map f ∧ e = env) ⟨by simp, rfl⟩ ?_ ?_
  · rintro i d acc e N hd ⟨rfl, rfl⟩ hN
    have hi := (List.getElem?_eq_some_iff.mp hd).1
    have z := hs d (fun z env3 => ((xs.take i).map f).length < sizeLine ∧ N ((xs.take i).map f ++ [z]) (wipeE is env3)) (List.mem_of_getElem? hd) (fun env' he => ⟨by rw [List.length_map, List.length_take]; omega, by
      rw [he]
      refine hN _ _ ⟨?_, rfl⟩
      rw [List.take_add_one, hd, List.map_append]
      rfl⟩)
    exact z
  · rintro acc e ⟨rfl, rfl⟩
    rw [List.take_length]
    exact he
theorem atI_get_nat {α : Type} {xs : List α} {i : Int} (h0 : 0 ≤ i) (h : i < xs.length) : ∃ d, atI xs i = some d ∧ d ∈ xs := by
  have hn : i.toNat < xs.length := by omega
  refine ⟨xs[i.toNat], ?_, List.getElem_mem _⟩
  have e : i = ((i.toNat : Nat) : Int) := by omega
  conv => lhs; rw [e]
  exact atI_nat (List.getElem?_eq_getElem hn)
/-! sizes -/
/-- below 2 ^ n -/
class Bd (i : Int) (n : outParam Nat) : Prop where
  h : i.natAbs < 2 ^ n
theorem MOk.of {i j : Int} {a b : Nat} (h1 : i.natAbs < 2 ^ a) (h2 : j.natAbs < 2 ^ b) (h : a + b ≤ 999990) : MOk i j :=
  .inl (wide_mul (a := a + 1) (b := b + 1) (Nat.lt_of_lt_of_le h1 (Nat.pow_le_pow_right (by decide) (by omega))) (Nat.lt_of_lt_of_le h2 (Nat.pow_le_pow_right (by decide) (by omega))) (by omega) (by omega) (by omega))
theorem MOk.l {i j : Int} (h : -(2 ^ 64) < i) (h2 : i < 2 ^ 64) : MOk i j := .inr (.inl ⟨h, h2⟩)
theorem MOk.r {i j : Int} (h : -(2 ^ 64) < j) (h2 : j < 2 ^ 64) : MOk i j := .inr (.inr ⟨h, h2⟩)
theorem DOk.of {j : Int} {b : Nat} (h : 0 < j) (h2 : j.natAbs < 2 ^ b) (h3 : b ≤ 8990) : DOk j := ⟨h, by
  have := wide_div (i := 0) (b := b + 1) h (Nat.lt_of_lt_of_le h2 (Nat.pow_le_pow_right (by decide) (by omega))) (by omega) (by omega)
  exact this.2⟩
theorem DOk.small {j : Int} (h : 0 < j) (h2 : j < 18446744073709551616) : DOk j := DOk.of (b := 64) h (by
  have : (2 : Nat) ^ 64 = 18446744073709551616 := by decide
  omega) (by decide)
theorem bd_mul {i j : Int} {a b : Nat} (h1 : i.natAbs < 2 ^ a) (h2 : j.natAbs < 2 ^ b) : (i * j).natAbs < 2 ^ (a + b) := wide_lt h1 h2
theorem bd_add {i j : Int} {a b : Nat} (h1 : i.natAbs < 2 ^ a) (h2 : j.natAbs < 2 ^ b) : (i + j).natAbs < 2 ^ (max a b + 1) := by
  have e1 : (2 : Nat) ^ a ≤ 2 ^ max a b := Nat.pow_le_pow_right (by decide) (Nat.le_max_left _ _)
  have e2 : (2 : Nat) ^ b ≤ 2 ^ max a b := Nat.pow_le_pow_right (by decide) (Nat.le_max_right _ _)
  have e3 : (2 : Nat) ^ (max a b + 1) = 2 ^ max a b + 2 ^ max a b := by rw [Nat.pow_succ]; omega
  omega
theorem bd_sub {i j : Int} {a b : Nat} (h1 : i.natAbs < 2 ^ a) (h2 : j.natAbs < 2 ^ b) : (i - j).natAbs < 2 ^ (max a b + 1) := by
  have e1 : (2 : Nat) ^ a ≤ 2 ^ max a b := Nat.pow_le_pow_right (by decide) (Nat.le_max_left _ _)
  have e2 : (2 : Nat) ^ b ≤ 2 ^ max a b := Nat.pow_le_pow_right (by decide) (Nat.le_max_right _ _)
  have e3 : (2 : Nat) ^ (max a b + 1) = 2 ^ max a b + 2 ^ max a b := by rw [Nat.pow_succ]; omega
  omega
theorem bd_neg {i : Int} {a : Nat} (h1 : i.natAbs < 2 ^ a) : (-i).natAbs < 2 ^ a := by rw [Int.natAbs_neg]; exact h1
theorem bd_mono {i : Int} {a b : Nat} (h1 : i.natAbs < 2 ^ a) (h : a ≤ b) : i.natAbs < 2 ^ b := Nat.lt_of_lt_of_le h1 (Nat.pow_le_pow_right (by decide) h)
theorem bd_le {i j : Int} {a : Nat} (h0 : 0 ≤ i) (h : i ≤ j) (h1 : j.natAbs < 2 ^ a) : i.natAbs < 2 ^ a := by omega
theorem bd_div {i j : Int} {a : Nat} (h0 : 0 < j) (h1 : i.natAbs < 2 ^ a) : (i / j).natAbs < 2 ^ (a + 1) := by
  have h2 : (i / j).natAbs ≤ i.natAbs + 1 := by
    by_cases h : 0 ≤ i
    · have := Int.ediv_nonneg h (Int.le_of_lt h0)
      have := Int.ediv_le_self j h
      omega
    · have k1 : i / j < 0 := Int.ediv_neg_of_neg_of_pos (by omega) h0
      have k2 : i ≤ i / j := by
        have e := Int.mul_ediv_add_emod i j
        have e2 := Int.emod_nonneg i (show j ≠ 0 by omega)
        have e3 := Int.emod_lt_of_pos i h0
        by_cases hc : i ≤ i / j
        · exact hc
        · have h5 : j * (i / j + 1) ≤ 1 * (i / j + 1) := Int.mul_le_mul_of_nonpos_right (by omega) (by omega)
          rw [Int.mul_add] at h5
          omega
      omega
  have e3 : (2 : Nat) ^ (a + 1) = 2 ^ a + 2 ^ a := by rw [Nat.pow_succ]; omega
  omega
theorem bd_mod {i j : Int} {a : Nat} (h0 : 0 < j) (h1 : j.natAbs < 2 ^ a) : (i % j).natAbs < 2 ^ a := by
  have e2 := Int.emod_nonneg i (show j ≠ 0 by omega)
  have e3 := Int.emod_lt_of_pos i h0
  omega
end QL
set_option Elab.async false
set_option linter.all false
set_option maxRecDepth 100000
namespace QL
open PySem PySem.Spec PyProof.Rows L2
/-! ### order of tuples of ints -/
def lxE (ns ms : List Int) (j : Nat) : Bool := decide (ns.getD j 0 = ms.getD j 0)
def lexG (r : Int → Int → Bool) (z : Nat → Nat → Bool) (ns ms : List Int) : Bool :=
  Ob.lexAt (lxE ns ms) (fun j => r (ns.getD j 0) (ms.getD j 0)) (z ns.length ms.length) 0 (min ns.length ms.length)
def vOrdT (r : Int → Int → Bool) (z : Nat → Nat → Bool) : V2
  | .int i, .int j, Q => Q (.bl (r i j))
  | .tup xs, .tup ys, Q => ∃ ns ms, allInts xs = some ns ∧ allInts ys = some ms ∧ Q (.bl (lexG r z ns ms))
  | _, _, _ => False
theorem repInts {K : PySem.W.Frag} {F : Hp} : ∀ {ns : List Int} {vs : List V}, RepL K F (ns.map D.int) vs → vs = ns.map V.int
  | [], _, h => h
  | n :: ns, _, ⟨v, r, h1, h2, h3⟩ => by rw [h1, show v = V.int n from h2, repInts h3]; rfl
section
variable {X : Cx}
def CmpT (X : Cx) (op : CmpOp) (r : Int → Int → Bool) (z : Nat → Nat → Bool) : Prop := ∀ {A : Around} {s : Shared} {l b : Addr} {items items2 : Array Value} {e r' : Nat → Bool}, IsTup s.heap l items → IsTup s.heap b items2 → A.units < cLine →
    (∀ j (h1 : j < items.size) (h2 : j < items2.size), SeqAt.EqAt A.in1 s items[j] items2[j] (e j)) →
    (∀ j (h1 : j < items.size) (h2 : j < items2.size), e j = false → Ob.RcOp op A.in1 s items[j] items2[j] (r' j)) →
    Ob.RcOp op A s (.ref l) (.ref b) (Ob.lexAt e r' (z items.size items2.size) 0 (min items.size items2.size))
theorem qo_ordT {op : CmpOp} {r : Int → Int → Bool} {z : Nat → Nat → Bool} (hc : CmpT X op r z) (hi : ∀ (A : Around) (s : Shared) (a b : Int) (t u : Tok), Ob.RcOp op A s (.int a t) (.int b u) (r a b))
    (h0 : OpR X (compareOp op) fun x y H Q => ∃ i j, x = .int i ∧ y = .int j ∧ Q (.bl (r i j)) H)
    (hcmp : ∀ l b, compareOp op (.ref l) (.ref b) = richCompare op (.ref l) (.ref b)) (hu : X.A.units < cLine) : OpR X (compareOp op) (upV2 X.K (vOrdT r z)) := by
  intro pins s σ H x y v u Q' I rx ry ⟨F, d, e, Q, sm, r1, r2, h, g⟩
  unfold vOrdT at h
  split at h
  · cases r1; cases r2
    exact h0 pins s σ H _ _ v u Q' I rx ry ⟨_, _, rfl, rfl, g.b sm h⟩
  · obtain ⟨ns, ms, e1, e2, q⟩ := h
    obtain ⟨a, vs, rfl, h2, h3⟩ := r1
    obtain ⟨b, ws, rfl, k2, k3⟩ := r2
    rw [allInts_eq e1] at h3
    rw [allInts_eq e2] at k3
    have z1 := repInts h3
    have z2 := repInts k3
    subst z1 z2
    cases rx
    cases ry
    obtain ⟨its, r1, p1, _⟩ := I.tuple (same_sqt sm h2)
    obtain ⟨its2, r2, p2, _⟩ := I.tuple (same_sqt sm k2)
    have i1 : IntsAre its ns := Vals.ints r1
    have i2 : IntsAre its2 ms := Vals.ints r2
    have s1 : its.toArray.size = ns.length := by rw [List.size_toArray]; exact i1.length
    have s2 : its2.toArray.size = ms.length := by rw [List.size_toArray]; exact i2.length
    have at1 : ∀ j (h1 : j < its.toArray.size), ∃ t, its.toArray[j] = .int (ns.getD j 0) t := fun j h1 => PyProof.Rows.IntsAre.int_at i1 _ _ (by simp at h1; simp [h1])
    have at2 : ∀ j (h1 : j < its2.toArray.size), ∃ t, its2.toArray[j] = .int (ms.getD j 0) t := fun j h1 => PyProof.Rows.IntsAre.int_at i2 _ _ (by simp at h1; simp [h1])
    have R := hc (A := X.A) (s := s) (e := lxE ns ms) (r' := fun j => r (ns.getD j 0) (ms.getD j 0)) p1 p2 hu (fun j h1 h2 => by
      obtain ⟨t, et⟩ := at1 j h1
      obtain ⟨t', et'⟩ := at2 j h2
      rw [et, et']
      have z : (ns.getD j 0 == ms.getD j 0) = lxE ns ms j := by
        unfold lxE
        by_cases q : ns.getD j 0 = ms.getD j 0
        · rw [decide_eq_true q]; exact beq_iff_eq.mpr q
        · rw [decide_eq_false q]; exact beq_eq_false_iff_ne.mpr q
      rw [← z]
      exact SeqAt.EqAt.int_int _ _ _ _) (fun j h1 h2 _ => by
      obtain ⟨t, et⟩ := at1 j h1
      obtain ⟨t', et'⟩ := at2 j h2
      rw [et, et']
      exact hi _ _ _ _ _ _)
    rw [s1, s2] at R
    have zz : wpAny (model X.prog X.w) X.A (richCompare op (.ref a) (.ref b)) (EP X pins σ Q') X.xe s := R X.prog X.w X.xe (EP X pins σ Q') ⟨.bl _, H, I, rfl, g.b sm q⟩
    rw [hcmp]
    exact zz
  · exact h.elim
def vGtT : V2 := vOrdT (fun a b => decide (b < a)) (fun n m => decide (n > m))
theorem qo_gtT (hu : X.A.units < cLine) : OpR X (compareOp .Gt) (upV2 X.K vGtT) := qo_ordT Ob.RcOp.tuples_gt (fun _ _ => Ob.RcOp.gt_int) op_gt (fun _ _ => rfl) hu
def vGeT : V2 := vOrdT (fun a b => decide (b ≤ a)) (fun n m => decide (n ≥ m))
theorem qo_geT (hu : X.A.units < cLine) : OpR X (compareOp .GtE) (upV2 X.K vGeT) := qo_ordT Ob.RcOp.tuples_ge (fun _ _ => Ob.RcOp.ge_int) op_ge (fun _ _ => rfl) hu
def vLtT : V2 := vOrdT (fun a b => decide (a < b)) (fun n m => decide (n < m))
theorem qo_ltT (hu : X.A.units < cLine) : OpR X (compareOp .Lt) (upV2 X.K vLtT) := qo_ordT Ob.RcOp.tuples_lt (fun _ _ => Ob.RcOp.lt_int) op_lt (fun _ _ => rfl) hu
def vLeT : V2 := vOrdT (fun a b => decide (a ≤ b)) (fun n m => decide (n ≤ m))
theorem qo_leT (hu : X.A.units < cLine) : OpR X (compareOp .LtE) (upV2 X.K vLeT) := qo_ordT Ob.RcOp.tuples_le (fun _ _ => Ob.RcOp.le_int) op_le (fun _ _ => rfl) hu
end
theorem o_ord2 {r : Int → Int → Bool} {z : Nat → Nat → Bool} {a b c d : Int} {P : D → Prop} : vOrdT r z (.tup [.int a, .int b]) (.tup [.int c, .int d]) P = P (.bl (if a = c then (if b = d then z 2 2 else r b d) else r a c)) := by
  have e : lexG r z [a, b] [c, d] = (if a = c then (if b = d then z 2 2 else r b d) else r a c) := by
    unfold lexG lxE
    show Ob.lexAt _ _ _ 0 2 = _
    rw [Ob.lexAt_succ, Ob.lexAt_succ, Ob.lexAt_zero]
    simp
  unfold vOrdT
  exact propext ⟨fun ⟨ns, ms, h1, h2, q⟩ => by
    cases h1; cases h2
    rw [← e]; exact q, fun q => ⟨_, _, rfl, rfl, by rw [e]; exact q⟩⟩

theorem q_gi {X : Cx} {bx : Bx} {x : Str} {i : Int} {pos : Pos} (hg : Gl X x) (hm : ∃ t, X.mg x = some (.int i t)) (hd : (x == ("__debug__" : Str)) = false := by decide) : QE X bx (.Name x pos) (rC (.int i)) := by
  obtain ⟨t, h⟩ := hm
  exact q_con (pe_glob (v := .int i) hg h ⟨t, rfl⟩ hd) fun _ _ => rfl
theorem o_gtT {a b c d : Int} {P : D → Prop} : vGtT (.tup [.int a, .int b]) (.tup [.int c, .int d]) P = P (.bl (if a = c then (if b = d then false else decide (d < b)) else decide (c < a))) := by unfold vGtT; rw [o_ord2]; rfl
theorem o_geT {a b c d : Int} {P : D → Prop} : vGeT (.tup [.int a, .int b]) (.tup [.int c, .int d]) P = P (.bl (if a = c then (if b = d then true else decide (d ≤ b)) else decide (c ≤ a))) := by unfold vGeT; rw [o_ord2]; rfl
theorem o_ltT {a b c d : Int} {P : D → Prop} : vLtT (.tup [.int a, .int b]) (.tup [.int c, .int d]) P = P (.bl (if a = c then (if b = d then false else decide (b < d)) else decide (a < c))) := by unfold vLtT; rw [o_ord2]; rfl
theorem o_leT {a b c d : Int} {P : D → Prop} : vLeT (.tup [.int a, .int b]) (.tup [.int c, .int d]) P = P (.bl (if a = c then (if b = d then true else decide (b ≤ d)) else decide (a ≤ c))) := by unfold vLeT; rw [o_ord2]; rfl
/-! ### == of ints in tuples and lists -/
theorem eqv_ints : ∀ ns ms : List Int, PyData.eqvAll (ns.map PyData.int) (ms.map PyData.int) = decide (ns = ms)
  | [], [] => rfl
  | [], _ :: _ => by simp [PyData.eqvAll]
  | _ :: _, [] => by simp [PyData.eqvAll]
  | n :: ns, m :: ms => by
    rw [List.map_cons, List.map_cons, PyData.eqvAll, eqv_ints ns ms]
    have e : PyData.eqv (.int n) (.int m) = decide (n = m) := by
      unfold PyData.eqv
      by_cases h : n = m
      · subst h; simp
      · simp [h]
    rw [e, ← Bool.decide_and]
    simp
theorem toPs_ints : ∀ ns : List Int, toPs (ns.map D.int) = ns.map PyData.int
  | [] => rfl
  | n :: ns => by rw [List.map_cons, toPs, toPs_ints ns]; rfl
theorem okPs_ints : ∀ ns : List Int, okPs (ns.map D.int) = true
  | [] => rfl
  | n :: ns => by rw [List.map_cons, okPs, okPs_ints ns]; rfl
theorem shapedT_ints (ns : List Int) : SeqAt.shaped (.tuple (ns.map PyData.int)) = true := by
  have h := shaped_ints ns
  unfold SeqAt.shaped at h ⊢
  rw [Bool.and_eq_true] at h ⊢
  exact ⟨by rw [PyData.canLay0]; have h1 := h.1; rw [PyData.canLay0] at h1; exact h1, by rw [PyData.depth]; have h1 := h.2; rw [PyData.depth] at h1; exact h1⟩
theorem o_eqTn {ns ms : List Int} {P : D → Prop} : vEq (.tup (ns.map D.int)) (.tup (ms.map D.int)) P = P (.bl (decide (ns = ms))) := by
  show (okPs _ = true ∧ okPs _ = true ∧ SeqAt.shaped (.tuple (toPs _)) = true ∧ SeqAt.shaped (.tuple (toPs _)) = true ∧ P (.bl (PyData.eqv (.tuple (toPs _)) (.tuple (toPs _))))) = _
  rw [toPs_ints, toPs_ints, PyData.eqv, eqv_ints]
  exact propext ⟨fun h => h.2.2.2.2, fun h => ⟨okPs_ints _, okPs_ints _, shapedT_ints _, shapedT_ints _, h⟩⟩
theorem o_eqT2 {a b c d : Int} {P : D → Prop} : vEq (.tup [.int a, .int b]) (.tup [.int c, .int d]) P = P (.bl (decide ([a, b] = [c, d]))) := o_eqTn (ns := [a, b]) (ms := [c, d])
theorem o_eqT3 {a b c d a' b' : Int} {P : D → Prop} : vEq (.tup [.int a, .int b, .int c]) (.tup [.int d, .int a', .int b']) P = P (.bl (decide ([a, b, c] = [d, a', b']))) := o_eqTn (ns := [a, b, c]) (ms := [d, a', b'])
theorem o_eqLn {ns ms : List Int} {P : D → Prop} : vEq (.lst (ns.map D.int)) (.lst (ms.map D.int)) P = P (.bl (decide (ns = ms))) := by
  show (okPs _ = true ∧ okPs _ = true ∧ SeqAt.shaped (.list (toPs _)) = true ∧ SeqAt.shaped (.list (toPs _)) = true ∧ P (.bl (PyData.eqv (.list (toPs _)) (.list (toPs _))))) = _
  rw [toPs_ints, toPs_ints, PyData.eqv, eqv_ints]
  exact propext ⟨fun h => h.2.2.2.2, fun h => ⟨okPs_ints _, okPs_ints _, shaped_ints _, shaped_ints _, h⟩⟩
theorem o_neTn {ns ms : List Int} {P : D → Prop} : vNe (.tup (ns.map D.int)) (.tup (ms.map D.int)) P = P (.bl (!decide (ns = ms))) := by
  show (okPs _ = true ∧ okPs _ = true ∧ SeqAt.shaped (.tuple (toPs _)) = true ∧ SeqAt.shaped (.tuple (toPs _)) = true ∧ P (.bl (!PyData.eqv (.tuple (toPs _)) (.tuple (toPs _))))) = _
  rw [toPs_ints, toPs_ints, PyData.eqv, eqv_ints]
  exact propext ⟨fun h => h.2.2.2.2, fun h => ⟨okPs_ints _, okPs_ints _, shapedT_ints _, shapedT_ints _, h⟩⟩
theorem o_neT2 {a b c d : Int} {P : D → Prop} : vNe (.tup [.int a, .int b]) (.tup [.int c, .int d]) P = P (.bl (!decide ([a, b] = [c, d]))) := o_neTn (ns := [a, b]) (ms := [c, d])
theorem o_neT3 {a b c d a' b' : Int} {P : D → Prop} : vNe (.tup [.int a, .int b, .int c]) (.tup [.int d, .int a', .int b']) P = P (.bl (!decide ([a, b, c] = [d, a', b']))) := o_neTn (ns := [a, b, c]) (ms := [d, a', b'])
theorem o_neLn {ns ms : List Int} {P : D → Prop} : vNe (.lst (ns.map D.int)) (.lst (ms.map D.int)) P = P (.bl (!decide (ns = ms))) := by
  show (okPs _ = true ∧ okPs _ = true ∧ SeqAt.shaped (.list (toPs _)) = true ∧ SeqAt.shaped (.list (toPs _)) = true ∧ P (.bl (!PyData.eqv (.list (toPs _)) (.list (toPs _))))) = _
  rw [toPs_ints, toPs_ints, PyData.eqv, eqv_ints]
  exact propext ⟨fun h => h.2.2.2.2, fun h => ⟨okPs_ints _, okPs_ints _, shaped_ints _, shaped_ints _, h⟩⟩
end QL
set_option Elab.async false
set_option linter.all false
set_option maxRecDepth 100000
namespace QL
open PySem PySem.Spec PyProof.Rows L2
/-! ### own classes: calls whose exceptions see the slots -/
section
variable {X : Cx} {T : CXT} {k : Nat} {g C : Addr} {fn : FuncData} {qs : List Str} {sp : Sp} {Ex : L2.St → XK} {x m : Str} {p1 p2 p3 : Pos} {e o : Expr} {es : List Expr} {ta : TE} {tt : TA}
def tMakeE (C : Addr) (sp : Sp) (Ex : L2.St → XK) (tt : TA) : TE := fun σ H Q => tt σ H fun vs H1 => ∀ y dy, H1 y = none → H1 dy = none → dy ≠ y →
  sp (.ref y :: vs) (upd (upd H1 dy (.own y)) y (.ins C dy [])) (fun v H2 => v = .non ∧ Q (.ref y) H2) (Ex σ)
theorem go_make {pins : List (Addr × Obj)} {σ : L2.St} {H : Hp} {s : Shared} {Q : VK} {us : List Value} {vs : List V} (mk : Mk X.K C g) (ok : FnOk X.prog X.w X.K X.mg X.base T k g fn qs sp) (rm : Room (k + 1) X.A) (bd : Binds X.K fn qs [])
    (ex : PassesAt T X σ (Ex σ)) (J : Inv X pins σ H s) (rv : Vals vs us)
    (q : ∀ y dy, H y = none → H dy = none → dy ≠ y → sp (.ref y :: vs) (upd (upd H dy (.own y)) y (.ins C dy [])) (fun v H2 => v = .non ∧ Q (.ref y) H2) (Ex σ)) :
    wpAny (model X.prog X.w) X.A (call (.ref C) us) (EP X pins σ Q) X.xe s := by
  have q0 := q (s.heap.objs.size + 1) s.heap.objs.size (J.hok.fresh (Nat.le_succ _)) (J.hok.fresh (Nat.le_refl _)) (Nat.ne_of_lt (Nat.lt_succ_self _))
  have J2 := Inv.made (C := C) J
  have rv2 : Vals (V.ref (s.heap.objs.size + 1) :: vs) (Value.ref (s.heap.objs.size + 1) :: us) := .cons rfl rv
  have ln : (Value.ref (s.heap.objs.size + 1) :: us).length = qs.length := by
    have z := rv2.length
    rw [ok.len _ _ _ _ q0] at z
    exact z.symm
  have bd2 := bd _ (Value.ref (s.heap.objs.size + 1) :: us) J2.kIn (by rw [List.append_nil]; exact ln)
  rw [List.append_nil] at bd2
  have run := ok.run _ X.stack _ _ ⟨Value.ref (s.heap.objs.size + 1) :: us, []⟩ (Value.ref (s.heap.objs.size + 1) :: us) _ _ (Ex σ) (rm.make C us []) (J2.env0.make C us []) bd2 rv2 q0
  refine wpAny_call (make_map (f := g) J.kIn mk.makes mk.init (beq_iff_eq.mp mk.fn) (codeAny_mono run fun r s2 w => ?_))
  rcases r with er | fl
  · exact ex pins _ _ er s2 J2 w
  · cases fl with
    | ret u =>
      obtain ⟨v, H2, J3, r3, rfl, q3⟩ := J2.after w
      exact ⟨r3, ⟨V.ref (s.heap.objs.size + 1), H2, J3, rfl, q3⟩⟩
    | next => exact w.elim
    | brk => exact w.elim
    | cont => exact w.elim
theorem pe_makeE (mk : Mk X.K C g) (ok : FnOk X.prog X.w X.K X.mg X.base T k g fn qs sp) (rm : Room (k + 1) X.A) (gl : Gl X x) (at_ : X.mg x = some (.ref C)) (bd : Binds X.K fn qs []) (ex : ∀ σ, PassesAt T X σ (Ex σ))
    (ag : PA X (e :: es) tt) (db : (x == ("__debug__" : Str)) = false := by decide) (s1 : starEach (e :: es) X.env = (false, eval e X.env) :: starEach es X.env := by rfl) (s2 : (backTo p2 (starEach es X.env)).any (·.1) = false := by rfl) :
    PE X (.Call (.Name x p1) (e :: es) [] p2) (tMakeE C sp Ex tt) :=
  ⟨fun pins s σ H Q J q => wpAny_Call_Name_kw (ld_glob J gl at_ (PySem.W.callWith_K (h₀ := X.base) J.ok.mod.kin mk.kp (thn (ag.run p2 pins s σ H _ J q) fun us s1 ⟨vs, H1, J1, r, w⟩ => ⟨J1.kIn, go_make mk ok rm bd (ex σ) J1 r w⟩) s1 s2) db)⟩
def tMethE (C : Addr) (m : Str) (sp : Sp) (Ex : L2.St → XK) (ta : TE) (tt : TA) : TE := fun σ H Q => ta σ H fun y H1 => ∃ a dx fs, y = .ref a ∧ H1 a = some (.ins C dx fs) ∧ fs.lookup m = none ∧ tt σ H1 fun vs H2 => sp (y :: vs) H2 Q (Ex σ)
theorem pe_methE {pl : Sem Bool} (ob : PE X o ta) (c : Cls X.K C) (me : Meth X.K C m g) (ok : FnOk X.prog X.w X.K X.mg X.base T k g fn qs sp) (rm : Room k X.A) (bd : Binds X.K fn qs []) (ex : ∀ σ, PassesAt T X σ (Ex σ)) (ag : PA X (e :: es) tt)
    (s1 : starEach (e :: es) X.env = (false, eval e X.env) :: starEach es X.env := by rfl) (s2 : (backTo p2 (starEach es X.env)).any (·.1) = false := by rfl)
    (tx : eval (.Call (.Attribute o m p3) (e :: es) [] p2) X.env = (do
      let w ← eval o X.env
      standAt p3.atName
      let (h, first) ← holding [w] (getMethod w m pl)
      callWith p2 h first (backTo p2 (starEach (e :: es) X.env)) (backToKw p2 (keywordEach [] X.env))) := by rfl) :
    PE X (.Call (.Attribute o m p3) (e :: es) [] p2) (tMethE C m sp Ex ta tt) := by
  refine ⟨fun pins s σ H Q J q => PySem.W.methodCall_KW (pl := pl) (thn (ob.run pins s σ H _ J q) fun u s3 ⟨y, H1, J1, ry, a, dx, fs, ey, ea, l, w⟩ => ?_) tx⟩
  subst ey
  cases (show u = Value.ref a from ry)
  refine getmeth_ok J1 ea c me l (PySem.W.callWith_K (first := [.ref a]) (h₀ := X.base) J.ok.mod.kin me.kp (thn (ag.run p2 pins s3 σ H1 _ J1 w) fun us s4 ⟨vs, H2, J2, r, w2⟩ => ⟨J2.kIn, ?_⟩) s1 s2)
  exact run_fnS (us := .ref a :: us) (vs := .ref a :: vs) ok rm bd (ex σ) J2 (.cons rfl r) w2
theorem pe_methE0 {pl : Sem Bool} (ob : PE X o ta) (c : Cls X.K C) (me : Meth X.K C m g) (ok : FnOk X.prog X.w X.K X.mg X.base T k g fn qs sp) (rm : Room k X.A) (bd : Binds X.K fn qs []) (ex : ∀ σ, PassesAt T X σ (Ex σ))
    (tx : eval (.Call (.Attribute o m p3) [] [] p2) X.env = (do
      let w ← eval o X.env
      standAt p3.atName
      let (h, first) ← holding [w] (getMethod w m pl)
      callWith p2 h first (backTo p2 (starEach [] X.env)) (backToKw p2 (keywordEach [] X.env))) := by rfl) :
    PE X (.Call (.Attribute o m p3) [] [] p2) (tMethE C m sp Ex ta tNil) := by
  refine ⟨fun pins s σ H Q J q => PySem.W.methodCall_KW (pl := pl) (thn (ob.run pins s σ H _ J q) fun u s3 ⟨y, H1, J1, ry, a, dx, fs, ey, ea, l, w⟩ => ?_) tx⟩
  subst ey
  cases (show u = Value.ref a from ry)
  refine getmeth_ok J1 ea c me l (PySem.W.callWith_K0 (first := [.ref a]) J1.kIn me.kp ?_)
  exact run_fnS (us := [.ref a]) (vs := [.ref a]) ok rm bd (ex σ) J1 (.cons rfl .nil) w
end

/-! ### attributes -/
def fldD (f : Str) : List Str → List D → Option D
  | n :: ns, x :: xs => if f = n then some x else fldD f ns xs
  | _, _ => none
def putN (f : Str) : List Str → List Str
  | [] => [f]
  | n :: ns => if n = f then n :: ns else n :: putN f ns
def putX (f : Str) (z : D) : List Str → List D → List D
  | n :: ns, x :: xs => if n = f then z :: xs else x :: putX f z ns xs
  | _, _ => [z]
section
variable {K : PySem.W.Frag} {F : Hp} {f : Str}
theorem lk_cons {n : Str} {v : V} {r : List (Str × V)} : List.lookup f ((n, v) :: r) = if f = n then some v else List.lookup f r := by
  by_cases h : f = n
  · subst h; rw [if_pos rfl]; simp [List.lookup]
  · rw [if_neg h]
    have : (f == n) = false := by simpa using h
    simp [List.lookup, this]
theorem fld_rep {z : D} : ∀ {fs : List (Str × V)} {xs : List D}, RepL K F xs (fs.map (·.2)) → fldD f (fs.map (·.1)) xs = some z → ∃ v, List.lookup f fs = some v ∧ Rep K F z v
  | [], [], _, h => nomatch h
  | [], _ :: _, r, _ => by obtain ⟨_, _, h, _⟩ := r; cases h
  | (n, v) :: fs, [], _, h => nomatch h
  | (n, v) :: fs, x :: xs, ⟨v', r, h1, h2, h3⟩, h => by
    rw [List.map_cons] at h1
    cases h1
    have h' : (if f = n then some x else fldD f (fs.map (·.1)) xs) = some z := h
    rw [lk_cons]
    by_cases e : f = n
    · rw [if_pos e] at h' ⊢
      cases h'
      exact ⟨v, rfl, h2⟩
    · rw [if_neg e] at h' ⊢
      exact fld_rep h3 h'
theorem fld_none : ∀ {fs : List (Str × V)} {xs : List D}, RepL K F xs (fs.map (·.2)) → fldD f (fs.map (·.1)) xs = none → List.lookup f fs = none
  | [], _, _, _ => rfl
  | (n, v) :: fs, [], r, _ => by cases (show _ = [] from r)
  | (n, v) :: fs, x :: xs, ⟨v', r, h1, h2, h3⟩, h => by
    rw [List.map_cons] at h1
    cases h1
    have h' : (if f = n then some x else fldD f (fs.map (·.1)) xs) = none := h
    rw [lk_cons]
    by_cases e : f = n
    · rw [if_pos e] at h'; cases h'
    · rw [if_neg e] at h' ⊢
      exact fld_none h3 h'
theorem put_n {z : V} : ∀ {fs : List (Str × V)}, (putF f z fs).map (·.1) = putN f (fs.map (·.1))
  | [] => rfl
  | (n, v) :: fs => by
    show List.map _ (if n = f then (n, z) :: fs else (n, v) :: putF f z fs) = if n = f then n :: fs.map (·.1) else n :: putN f (fs.map (·.1))
    by_cases e : n = f
    · rw [if_pos e, if_pos e]; rfl
    · rw [if_neg e, if_neg e, List.map_cons, put_n]
theorem put_x {z : D} {w : V} (r : Rep K F z w) : ∀ {fs : List (Str × V)} {xs : List D}, RepL K F xs (fs.map (·.2)) → RepL K F (putX f z (fs.map (·.1)) xs) ((putF f w fs).map (·.2))
  | [], [], _ => RepL.one r
  | [], _ :: _, h => by obtain ⟨_, _, z, _⟩ := h; cases z
  | (n, v) :: fs, [], h => by cases (show _ = [] from h)
  | (n, v) :: fs, x :: xs, ⟨v', q, h1, h2, h3⟩ => by
    rw [List.map_cons] at h1
    cases h1
    show RepL K F (if n = f then z :: xs else x :: putX f z (fs.map (·.1)) xs) (List.map _ (if n = f then (n, w) :: fs else (n, v) :: putF f w fs))
    by_cases e : n = f
    · rw [if_pos e, if_pos e]; exact ⟨w, _, rfl, r, h3⟩
    · rw [if_neg e, if_neg e]; exact ⟨v, _, rfl, h2, put_x r h3⟩
end
def fldQ (S : Addr → Prop) (f : Str) (d : D) (Q : D → Prop) : Prop := match d with
  | .obj C ns xs => S C ∧ ∃ z, fldD f ns xs = some z ∧ Q z
  | _ => False
abbrev HasF (K : PySem.W.Frag) (S : Addr → Prop) (f : Str) : Prop := ∀ C, S C → Cls K C ∧ NoAttr K C f
section
variable {X : Cx} {bx : Bx} {e o : Expr} {es : List Expr} {te ta : RE} {t : RA} {p1 p2 p3 : Pos} {i : Nat} {f m : Str} {S : Addr → Prop}
def rFld (S : Addr → Prop) (f : Str) (ta : RE) : RE := fun env Q => ta env fun d env1 => fldQ S f d fun z => Q z env1
theorem q_fld (hS : HasF X.K S f) (h : QE X bx e ta) (hb : attributeBase e f X.env (eval e X.env) = eval e X.env := by rfl) : QE X bx (.Attribute e f p1) (rFld S f ta) := pe_imp (pe_fld h hb) fun σ H Q' ⟨env, F, Q, R, ht, k⟩ =>
  ⟨env, F, _, R, ht, fun d v env1 F1 H1 s1 R1 r1 q1 => by
    unfold fldQ at q1
    split at q1
    · obtain ⟨hC, z, hz, q⟩ := q1
      obtain ⟨a, dx, fs, rfl, h2, h3, h4⟩ := r1
      subst h3
      obtain ⟨w, hw, rw⟩ := fld_rep h4 hz
      exact ⟨a, _, dx, fs, w, rfl, R1.sf _ _ h2, (hS _ hC).1, (hS _ hC).2, hw, k z w env1 F1 H1 s1 R1 rw q⟩
    · exact q1.elim⟩
/-- of a name that may own its object -/
def rFldO (S : Addr → Prop) (f : Str) (i : Nat) : RE := fun env Q => match env[i]? with
  | some (.val d) => fldQ S f d fun z => Q z env
  | some (.own d) => fldQ S f d fun z => Q z env
  | _ => False
theorem q_fldO (hS : HasF X.K S f) (h : L2.PE X e (tVar i)) (hb : attributeBase e f X.env (eval e X.env) = eval e X.env := by rfl) : QE X bx (.Attribute e f p1) (rFldO S f i) := pe_imp (pe_fld h hb) fun σ H Q' ⟨env, F, Q, R, ht, k⟩ => by
  unfold rFldO at ht
  split at ht
  · rename_i d hd
    obtain ⟨so, h1, v, h2, h3⟩ := R.slots i _ hd
    unfold fldQ at ht
    split at ht
    · obtain ⟨hC, z, hz, q⟩ := ht
      obtain ⟨a, dx, fs, rfl, g2, g3, g4⟩ := h3
      subst g3
      obtain ⟨w, hw, rw⟩ := fld_rep g4 hz
      exact ⟨_, by rw [h1, h2], a, _, dx, fs, w, rfl, R.sf _ _ g2, (hS _ hC).1, (hS _ hC).2, hw, k z w env F H (Same.refl _) R rw q⟩
    · exact ht.elim
  · rename_i d hd
    obtain ⟨a, ho, h1, h2, h3, h4⟩ := own_ix R hd
    unfold fldQ at ht
    split at ht
    · obtain ⟨hC, z, hz, q⟩ := ht
      obtain ⟨dx, fs, rfl, g3, g4⟩ := h4
      subst g3
      obtain ⟨w, hw, rw⟩ := fld_rep g4 hz
      exact ⟨_, h1, a, _, dx, fs, w, rfl, h2, (hS _ hC).1, (hS _ hC).2, hw, k z w env F H (Same.refl _) R rw q⟩
    · exact ht.elim
  · exact ht.elim
/-- x.f = e, x owns its object -/
def sFldS (S : Addr → Prop) (f : Str) (i : Nat) (tv : RE) : RS := fun en env => tv env fun z env1 => match env1[i]? with
  | some (.own (.obj C ns xs)) => S C ∧ ns.length < 1000 ∧ en.nx (env1.set i (.own (.obj C (putN f ns) (putX f z ns xs))))
  | _ => False
theorem qs_fld (hS : HasF X.K S f) (h : L2.PE X o (tVar i)) (hv : QE X bx e te) (hs : swapsWith e (some (.Attribute o f p1)) p2.line X.env = pure false := by rfl) : QS X bx (.Assign [.Attribute o f p1] e p2) (sFldS S f i te) := ps_imp (ps_fld h hv hs) fun Dn σ H ⟨env, F, en, R, ht, k1, k2, k3, k4⟩ =>
  ⟨env, F, _, R, ht, fun z w env1 F1 H1 s1 R1 r1 q1 => by
    split at q1
    · rename_i C ns xs hd
      obtain ⟨a, ho, h1, h2, h3, h4⟩ := own_ix R1 hd
      obtain ⟨dx, fs, rfl, g3, g4⟩ := h4
      subst g3
      obtain ⟨hC, hl, q⟩ := q1
      refine ⟨_, h1, a, _, dx, fs, rfl, h2, (hS _ hC).1, (hS _ hC).2, by rw [List.length_map] at hl; exact hl, k1 (env1.set i (.own (.obj C (putN f (fs.map (·.1))) (putX f z (fs.map (·.1)) xs)))) F1 σ _ s1 ?_ q⟩
      refine R1.setOwn hd h1 (ho' := .ins C dx (putF f w fs)) ⟨Same.refl _, same_upd2 R1.sf h3, fun b q' e' hb => by rw [upd_ne hb]; exact e', fun b e' _ => e'⟩ upd_same ⟨dx, _, rfl, put_n, put_x r1 g4⟩
    · exact q1.elim⟩
end
end QL
set_option Elab.async false
set_option linter.all false
set_option maxRecDepth 100000
namespace QL
open PySem PySem.Spec PyProof.Rows L2
section
variable {K : PySem.W.Frag} {bx : Bx} {F F' H H' : Hp} {env : List Slot} {σ : L2.St}
/-- what is nobody's has changed -/
theorem ER.growB {a : Addr} (R : ER K bx F env σ H) (l : Lone bx F env σ H a) (g : GrowB a F H F' H') : ER K bx F' env σ H' where
  sb := fun b q z => g.sh b q (R.sb b q z) (fun e => by rw [e, l.b] at z; cases z)
  sf := g.sf
  len := R.len
  slots := fun j s hj => by
    obtain ⟨q, k1, k2⟩ := R.slots j s hj
    refine ⟨q, k1, ?_⟩
    cases s with
    | un => trivial
    | val d => obtain ⟨v, k3, k4⟩ := k2; exact ⟨v, k3, Rep.mono g.e _ _ k4⟩
    | own d =>
      obtain ⟨c, hc, k3, k4, k5, k6, k7⟩ := k2
      exact ⟨c, hc, k3, g.hn c k4 (by rw [k6]; simp), k5, g.sh c hc k6 (fun z => l.o j d hj (by rw [k1, k3, z])), OwnH.mono g.e k7⟩
  sep := R.sep
  io := R.io
  f0 := R.f0.trans g.e
  fz := fun c h1 h2 => g.hn c (R.fz c h1 h2) (R.bh h2)
theorem Lone.growB {a : Addr} {ho : HO} (l : Lone bx F env σ H a) (g : GrowB a F H F' H') (h : H' a = some ho) : Lone bx F' env σ H' a := ⟨g.hn a l.f l.h, l.b, by rw [h]; simp, l.o⟩
end
section
variable {X : Cx} {bx : Bx} {e o : Expr} {es : List Expr} {te ta : RE} {t : RA} {p1 p2 p3 : Pos} {i k n : Nat} {f m x : Str} {C g : Addr} {fn : FuncData} {qs : List Str} {EX : XD}
/-! ### an object made -/
def rMake (C : Addr) (M : FB) (n : Nat) (EX : XD) (t : RA) : RE := fun env Q => t env fun ds env1 => ds.length = n ∧ M (.obj C [] []) ds (fun d d' => d = .non ∧ Q d' env1) fun ed _ => EX ed env1
theorem q_makeN {M : FB} (mk : Mk X.K C g) (ok : FnOk X.prog X.w X.K X.mg X.base (L2.CX X.prog X.w) k g fn qs (spB X.K n M)) (rm : Room (k + 1) X.A) (gl : Gl X x) (at_ : X.mg x = some (.ref C)) (bd : Binds X.K fn qs []) (tk : TkE X bx EX)
    (ag : QA X bx (e :: es) t) (db : (x == ("__debug__" : Str)) = false := by decide) (s1 : starEach (e :: es) X.env = (false, eval e X.env) :: starEach es X.env := by rfl) (s2 : (backTo p2 (starEach es X.env)).any (·.1) = false := by rfl) :
    QN X bx (.Call (.Name x p1) (e :: es) [] p2) (rMake C M n EX t) := pe_imp (pe_makeE mk ok rm gl at_ bd tk ag db s1 s2) fun σ H Q' ⟨env, F, Q, R, ht, kk⟩ =>
  ⟨env, F, _, R, ht, fun ds vs env1 F1 H1 s1 R1 r1 q1 y dy hy hd ne => by
    have R2 := R1.laid0 (o := .own y) hd
    have hy2 : (upd H1 dy (.own y)) y = none := by rw [upd_ne (fun z => ne z.symm)]; exact hy
    have l := R2.lone (o := .ins C dy []) hy2
    have R3 := R2.laid0 (o := .ins C dy []) hy2
    refine ⟨F1, y, _, .obj C [] [], ds, vs, _, _, q1.1, rfl, R3.sf, l.f, upd_same, ⟨dy, [], rfl, rfl, rfl⟩, r1, q1.2, ?_, ?_⟩
    · rintro z u d' ho' F2 H2 g ha ow r2 ⟨rfl, q2⟩
      exact ⟨r2, kk d' y ho' env1 F2 H2 (s1.trans g.e) (R3.growB l g) (l.growB g ha) ha ow q2⟩
    · intro ed cls dx d' ho' F2 H2 g ha ow rx ex
      exact ⟨env1, F2, ed, R3.growB l g, rx, ex⟩⟩
/-! ### a method that leaves its object -/
def objQ (C : Addr) (m : Str) (d : D) (Q : Prop) : Prop := match d with
  | .obj C' ns xs => C' = C ∧ fldD m ns xs = none ∧ Q
  | _ => False
def rMeth (C : Addr) (m : Str) (S : FA) (n : Nat) (EX : XD) (ta : RE) (t : RA) : RE := fun env Q => ta env fun d env1 => objQ C m d (t env1 fun ds env2 => ds.length = n ∧ S (d :: ds) (fun z => Q z env2) fun ed => EX ed env2)
theorem meth_up {S : FA} {σ : L2.St} {H : Hp} {Q' : VK} (h : up X.K bx (rMeth C m S n EX ta t) σ H Q') : tMethE C m (spA X.K (n + 1) S) (fun σ cls dx H => WEx X.K bx EX cls dx σ H) (up X.K bx ta) (upA X.K bx t) σ H Q' := by
  obtain ⟨env, F, Q, R, ht, kk⟩ := h
  refine ⟨env, F, _, R, ht, fun d v env1 F1 H1 s1 R1 r1 q1 => ?_⟩
  unfold objQ at q1
  split at q1
  · rename_i C' ns xs
    obtain ⟨rfl, hm, q⟩ := q1
    have r1' := r1
    obtain ⟨a, dx, fs, rfl, h2, h3, h4⟩ := r1
    subst h3
    exact ⟨a, dx, fs, rfl, R1.sf _ _ h2, fld_none h4 hm, env1, F1, _, R1, q, fun ds vs env2 F2 H2 s2 R2 r2 q2 => ⟨F2, _ :: ds, _, _, by rw [List.length_cons, q2.1], R2.sf, ⟨.ref a, vs, rfl, Rep.mono s2 _ _ r1', r2⟩, q2.2,
      fun z u F3 H3 g r3 q3 => kk z u env2 F3 H3 (s1.trans (s2.trans g.e)) (R2.to g) r3 q3, fun ed cls dx F3 H3 g rx ex => ⟨env2, F3, ed, R2.to g, rx, ex⟩⟩⟩
  · exact q1.elim
theorem q_meth {S : FA} (c : Cls X.K C) (me : Meth X.K C m g) (ok : FnOk X.prog X.w X.K X.mg X.base (L2.CX X.prog X.w) k g fn qs (spA X.K (n + 1) S)) (rm : Room k X.A) (bd : Binds X.K fn qs []) (tk : TkE X bx EX) (ob : QE X bx o ta) (ag : QA X bx (e :: es) t)
    (s1 : starEach (e :: es) X.env = (false, eval e X.env) :: starEach es X.env := by rfl) (s2 : (backTo p2 (starEach es X.env)).any (·.1) = false := by rfl) {pl : Sem Bool}
    (tx : eval (.Call (.Attribute o m p3) (e :: es) [] p2) X.env = (do
      let w ← eval o X.env
      standAt p3.atName
      let (h, first) ← holding [w] (getMethod w m pl)
      callWith p2 h first (backTo p2 (starEach (e :: es) X.env)) (backToKw p2 (keywordEach [] X.env))) := by rfl) :
    QE X bx (.Call (.Attribute o m p3) (e :: es) [] p2) (rMeth C m S n EX ta t) := pe_imp (pe_methE ob c me ok rm bd tk ag s1 s2 tx) fun σ H Q' h => meth_up h
theorem q_meth0 {S : FA} (c : Cls X.K C) (me : Meth X.K C m g) (ok : FnOk X.prog X.w X.K X.mg X.base (L2.CX X.prog X.w) k g fn qs (spA X.K 1 S)) (rm : Room k X.A) (bd : Binds X.K fn qs []) (tk : TkE X bx EX) (ob : QE X bx o ta) {pl : Sem Bool}
    (tx : eval (.Call (.Attribute o m p3) [] [] p2) X.env = (do
      let w ← eval o X.env
      standAt p3.atName
      let (h, first) ← holding [w] (getMethod w m pl)
      callWith p2 h first (backTo p2 (starEach [] X.env)) (backToKw p2 (keywordEach [] X.env))) := by rfl) :
    QE X bx (.Call (.Attribute o m p3) [] [] p2) (rMeth C m S 0 EX ta rNil) := pe_imp (pe_methE0 ob c me ok rm bd tk tx) fun σ H Q' h => by
  obtain ⟨env, F, Q, R, ht, kk⟩ := meth_up h
  refine ⟨env, F, Q, R, ht, fun d v env1 F1 H1 s1 R1 r1 q1 => ?_⟩
  obtain ⟨a, dx, fs, e1, e2, e3, env2, F2, Q2, R2, ht2, kk2⟩ := kk d v env1 F1 H1 s1 R1 r1 q1
  exact ⟨a, dx, fs, e1, e2, e3, kk2 [] [] env2 F2 H1 (Same.refl _) R2 rfl ht2⟩
/-! ### isinstance with an own class -/
structure IsC (K : PySem.W.Frag) (C : Addr) : Prop where
  cl : Cls K C
  ha : PySem.W.findIn K (.ref C) "__class__" = some (some (.builtin "object.__class__"))
  hn : PySem.W.specialIn K (.builtin "object.__class__") "__get__" = some (some (.builtin "getset_descriptor.__get__"))
  tk : PySem.W.takesIn K (.builtin "object.__class__") = some true
  mr : PySem.W.mroIn K C (.type "object") = some true
def TyD (K : PySem.W.Frag) : D → Value → Prop
  | .obj C _ _, t => t = .ref C ∧ IsC K C
  | d, t => ∃ n, tyN d = some n ∧ t = .type n
theorem tyd_of {K : PySem.W.Frag} {F H : Hp} (s : Same F H) {d : D} {v : V} {t : Value} (h : TyD K d t) (r : Rep K F d v) : TyX K H v t := by
  unfold TyD at h
  split at h
  · obtain ⟨rfl, c⟩ := h
    obtain ⟨a, dx, fs, rfl, h2, _⟩ := r
    exact .base (.ins (s _ _ h2) c.cl c.ha c.hn c.tk c.mr)
  · obtain ⟨n, hn, rfl⟩ := h
    exact tyx_of s hn r
def vIsiC (K : PySem.W.Frag) : VL
  | [d, .raw (.ref C)], Q => ∃ t b, TyD K d t ∧ PySem.W.kitOne K t (.ref C) = some b ∧ Q (.bl b)
  | [d, .raw (.ty n)], Q => ∃ t b, TyD K d t ∧ PySem.W.kitOne K t (.type n) = some b ∧ Q (.bl b)
  | _, _ => False
theorem qc_isiC : CallR X (.builtin "isinstance") (upVL X.K (vIsiC X.K)) := by
  intro pins s σ H xs us Q' I r ⟨F, ds, Q, sm, rl, h, g⟩
  unfold vIsiC at h
  split at h
  · obtain ⟨v, w, rfl, rv, rfl⟩ := RepL.two rl
    obtain ⟨t, b, ht, hb, q⟩ := h
    exact call_isi pins s σ H _ us Q' I r ⟨v, _, t, _, b, rfl, .own _, tyd_of sm ht rv, hb, g.b sm q⟩
  · obtain ⟨v, w, rfl, rv, rfl⟩ := RepL.two rl
    obtain ⟨t, b, ht, hb, q⟩ := h
    exact call_isi pins s σ H _ us Q' I r ⟨v, _, t, _, b, rfl, .ty _, tyd_of sm ht rv, hb, g.b sm q⟩
  · exact h.elim
/-- the name of an own class as a value -/
theorem q_cls {p : Pos} (hg : Gl X x) (hm : X.mg x = some (.ref C)) (hd : (x == ("__debug__" : Str)) = false := by decide) : QE X bx (.Name x p) (rC (.raw (.ref C))) := q_raw (pe_glob (v := .ref C) hg hm rfl hd)
end
/-! ### the readings, step by step -/
section
variable {env : List Slot} {Q : D → List Slot → Prop} {C C' : Addr} {ns : List Str} {xs : List D} {S : Addr → Prop} {f m : Str} {ta tv : RE} {t : RA} {n i : Nat} {EX : XD} {M : FB} {SA : FA} {P : D → Prop} {en : PEnds} {K : PySem.W.Frag}
theorem e_fld : rFld S f ta env Q = ta env fun d env1 => fldQ S f d fun z => Q z env1 := rfl
theorem e_fldO : rFldO S f i env Q = anyQ (getS env i) (fun d => fldQ S f d fun z => Q z env) (fun d => fldQ S f d fun z => Q z env) := by
  unfold rFldO anyQ; rw [getS_eq]
  cases env[i]? with
  | none => rfl
  | some s => cases s <;> rfl
theorem e_fldQ : fldQ S f (.obj C ns xs) P = (S C ∧ ∃ z, fldD f ns xs = some z ∧ P z) := rfl
def objOQ (d : D) (Q : Addr → List Str → List D → Prop) : Prop := match d with
  | .obj C ns xs => Q C ns xs
  | _ => False
theorem e_objO {R : Addr → List Str → List D → Prop} : objOQ (.obj C ns xs) R = R C ns xs := rfl
theorem e_fldS : sFldS S f i tv en env = tv env fun z env1 => ownQ (getS env1 i) fun d => objOQ d fun C ns xs => S C ∧ ns.length < 1000 ∧ en.nx (putS env1 i (.own (.obj C (putN f ns) (putX f z ns xs)))) := by
  unfold sFldS
  congr 1; funext z env1
  rw [getS_eq]
  cases env1[i]? with
  | none => rfl
  | some s =>
    cases s with
    | un => rfl
    | val _ => rfl
    | own d => cases d <;> first | rfl | (simp only [putS_eq]; rfl)
theorem e_make : rMake C M n EX t env Q = t env fun ds env1 => ds.length = n ∧ M (.obj C [] []) ds (fun d d' => d = .non ∧ Q d' env1) fun ed _ => EX ed env1 := rfl
theorem e_meth : rMeth C m SA n EX ta t env Q = ta env fun d env1 => objQ C m d (t env1 fun ds env2 => ds.length = n ∧ SA (d :: ds) (fun z => Q z env2) fun ed => EX ed env2) := rfl
theorem e_objQ {R : Prop} : objQ C m (.obj C' ns xs) R = (C' = C ∧ fldD m ns xs = none ∧ R) := rfl
theorem o_isiO : vIsiC K [.obj C' ns xs, .raw (.ref C)] P = (IsC K C' ∧ ∃ b, PySem.W.kitOne K (.ref C') (.ref C) = some b ∧ P (.bl b)) := propext
  ⟨fun ⟨t, b, ⟨h1, h2⟩, h3, h4⟩ => ⟨h2, b, by rw [← h1]; exact h3, h4⟩, fun ⟨h2, b, h3, h4⟩ => ⟨_, b, ⟨rfl, h2⟩, h3, h4⟩⟩
end
end QL
set_option Elab.async false
set_option linter.all false
set_option maxRecDepth 100000
/-! enumerate over a tuple -/
namespace QT
open PySem
open Sem (wp)
open AutoSeq1 (wpAny_loadPart')
theorem new_enumT (q : Addr) (its : Array Value) (m : Nat) (dc : Option Addr) (st0 : Array (Option Value)) :
    Meets (Builtin.«enumerate.__new__» ⟨[.type "enumerate", .ref q], []⟩) (fun _ R s => s.heap.get? q = some { cls := .type "tuple", dict := dc, data := .seq its m, slots := st0 } ∧
      R (.ok (.ret (.ref (s.heap.push { cls := .type "tuple_iterator", data := .fields #[.ref q, .int 0 0] }).objs.size)))
        { s with heap := (s.heap.push { cls := .type "tuple_iterator", data := .fields #[.ref q, .int 0 0] }).push { cls := .type "enumerate", data := .fields #[.none, .bool false, .ref s.heap.objs.size, rawInt 0, .none, .none] } }) :=
  .of_wp fun prog w A R s z => by
    obtain ⟨hh, g, d, tk, os⟩ := s; obtain ⟨hq, z⟩ := z
    have hsub := sub_enumerate
    have hT : Heap.IsTuple (Shared.heap ⟨hh, g, d, tk, os⟩) q its := ⟨_, hq, rfl, m, rfl⟩
    wp_walk using wpAny_loadPart' hq
    refine wpAny_stack_any fun stk => wpAny_pure ?_
    split
    · rename_i cc _ _ _ _ _
      cases (cc == Value.type "enumerate")
      · wp_walk using wpAny_loadPart' hq, wpAny_pyIter_tuple hT
        exact ⟨_, rfl, z⟩
      · wp_walk using wpAny_loadPart' hq, wpAny_pyIter_tuple hT
        exact ⟨_, rfl, z⟩
    · wp_walk using wpAny_loadPart' hq, wpAny_pyIter_tuple hT
      exact ⟨_, rfl, z⟩
section
variable {prog : Program} {w : World} {A : Around} {E : Value → Shared → Prop} {s : Shared}
theorem call_enumT {q : Addr} {its : Array Value} {Q : Value → Shared → Prop} (hT : s.heap.IsTuple q its)
    (z : ∀ h2, IsEnum h2 (s.heap.objs.size + 1) s.heap.objs.size 0 .none → h2.IsTupleIter s.heap.objs.size q 0 →
      (∀ b o, s.heap.get? b = some o → h2.get? b = some o) → Q (.ref (s.heap.objs.size + 1)) { s with heap := h2 }) :
    wpAny (model prog w) A (call (.type "enumerate") [.ref q]) Q E s := by
  obtain ⟨⟨c0, dc, dt, st0⟩, hq, hc, m, hd⟩ := hT
  cases (show c0 = .type "tuple" from hc)
  cases (show dt = .seq its m from hd)
  refine callType_new F.called_enumerate (by decide) (F.typeCall_enumerate_1 _) (F.newCall_enumerate_1 _) (fun ob => F.args_object_init_2 ob _) F.entry_enumerate_new (new_enumT q its m dc st0) ⟨hq, ?_⟩
  have sz : (s.heap.push { cls := .type "tuple_iterator", data := .fields #[.ref q, .int 0 0] }).objs.size = s.heap.objs.size + 1 := Heap.size_push ..
  show _ ∧ _
  rw [sz]
  have en := Heap.get?_push_size (s.heap.push { cls := .type "tuple_iterator", data := .fields #[.ref q, .int 0 0] }) (o := { cls := .type "enumerate", data := .fields #[.none, .bool false, .ref s.heap.objs.size, rawInt 0, .none, .none] }) rfl
  rw [sz] at en
  exact ⟨⟨_, en, rfl⟩, z _ en ⟨_, Heap.get?_push_of_some _ (Heap.get?_push_size _ rfl), rfl, rfl⟩ fun b o x => Heap.get?_push_of_some _ (Heap.get?_push_of_some _ x)⟩
/-- the tuple's iterator has nothing more -/
theorem drawn {it t : Addr} {i : Nat} {its : Array Value} (hh : A.handled = none) (hx : its[i]? = none) : Draws prog w A it [it, t] 0 (fun _ _ => False) (fun _ h => h.IsTupleIter it t i ∧ h.IsTuple t its) where
  live := fun _ _ st => let ⟨o, ho, _⟩ := st.1; ⟨o, ho⟩
  frame := fun _ _ _ st k => ⟨st.1.at fun o e => k it (by simp) o e, st.2.at fun o e => k t (by simp) o e⟩
  item := fun i s Q E hi _ _ => absurd hi (Nat.not_lt_zero _)
  done := fun s Q E st hE => wpAny_nextOf_tuple_end hh st.1 st.2 hx hE
end
end QT
namespace QL
open PySem PySem.Spec PyProof.Rows L2
def IteT (K : PySem.W.Frag) (a : Addr) : It :=
  ⟨fun i H => ∃ (xs : List V) (x : V), SqT K H a xs ∧ xs[i]? = some x, fun i H v H' => ∃ T x, v = .ref T ∧ H T = none ∧ H' = upd H T (.tup [.int (i : Nat), x]) ∧ ∀ xs, SqT K H a xs → xs[i]? = some x, fun i H => ∃ xs : List V, SqT K H a xs ∧ xs.length ≤ i⟩
theorem turn_eT {P : Program} {w : World} {K : PySem.W.Frag} {elts : List Expr} {kk : Nat} {tpos : Pos} {a e it : Addr} (ne : e ≠ a) (ne2 : a ≠ it) :
    Turn P w K (.Tuple elts kk tpos) (IteT K a) [e, it] e (fun i h => (∃ old, IsEnum h e it ((i : Nat) : Int) old) ∧ h.IsTupleIter it a i ∧ e ≠ it) where
  mem := by simp
  obj := fun i h st b hb => by
    obtain ⟨⟨old, he⟩, ⟨o, ho, hc, hd⟩, _⟩ := st
    have e' : b = e ∨ b = it := by simpa using hb
    rcases e' with z | z
    · rw [z]; exact ⟨_, he, fun v q => nomatch q⟩
    · rw [z]; exact ⟨o, ho, fun v q => by rw [hd] at q; cases q⟩
  keep := fun i h h' st k => let ⟨⟨old, he⟩, hi, hne⟩ := st; ⟨⟨old, k e (by simp) _ he⟩, hi.at fun o q => k it (by simp) o q, hne⟩
  item := by
    intro X hP hw hK hc i pins s σ H E J hf st hg
    subst hP hw hK
    obtain ⟨⟨old, he⟩, hit, hne⟩ := st
    obtain ⟨xs, x, hq, hx⟩ := hg
    obtain ⟨its, rv, p, _⟩ := J.tuple hq
    obtain ⟨u, hu, ru⟩ := rv.get hx
    have l1 : e < s.heap.objs.size := Heap.lt_size he
    have l2 : it < s.heap.objs.size := by obtain ⟨_, q, _⟩ := hit; exact Heap.lt_size q
    have hd0 : X.A.in1.handled = none := J.ok.hd hc
    have lt : i < its.toArray.size := by
      rw [List.size_toArray]
      exact (List.getElem?_eq_some_iff.mp hu).1
    refine wpAny_pyNext_enum_itemD (Draws.tuple hd0 it a ne2 its.toArray) he ⟨hit, p⟩ lt hne (by simp [hne, ne]) fun y h2 tk hy ho st2 hT hsz k => ?_
    have ey : y = u := by
      have : its.toArray[i]? = some u := by simpa using hu
      rw [show its.toArray[i]? = some y from hy] at this
      exact Option.some.inj this
    subst ey
    refine ⟨_, rfl, wpAny_letOwnedTupleGo_enum (s := { s with heap := h2, toks := tk + 1 }) ho fun h3 he3 sb => ?_⟩
    have hT2 : h3.get? s.heap.objs.size = some { cls := .type "tuple", data := .seq #[.int i tk, y] } := (sb.2 _ (Nat.ne_of_gt l1)).trans hT
    have new : ObjOk X.prog X.w (upd H s.heap.objs.size (.tup [.int (i : Nat), x])) h3 s.heap.objs.size (.tup [.int (i : Nat), x]) :=
      ⟨by show 2 ≤ sizeLine; decide, [.int i tk, y], .cons ⟨_, rfl⟩ (.cons ru .nil), ⟨_, hT2, rfl, _, rfl⟩⟩
    have J1 : Inv X pins σ (upd H s.heap.objs.size (.tup [.int (i : Nat), x])) { s with heap := h3, toks := tk + 1 } :=
      J.turnedNew (ch := [e, it]) (fun b ob hb q => (sb.2 b (fun z => hb (by simp [z]))).trans (k b ob (fun z => hb (by simp [z])) (fun z => hb (by simp [z])) q)) hf (Nat.le_refl _) new
    refine ⟨.ref s.heap.objs.size, _, J1, rfl, ⟨_, x, rfl, J.hok.fresh (Nat.le_refl _), rfl, fun ys hy => by rw [J.tuple_inj hy hq]; exact hx⟩, ⟨⟨y, ?_⟩, st2.1.at fun o q => (sb.2 it (Ne.symm hne)).trans q, hne⟩, fun b hb => ?_⟩
    · rw [show ((i + 1 : Nat) : Int) = (i : Int) + 1 by omega]; exact he3
    · have lb : b < s.heap.objs.size := by
        have e' : b = e ∨ b = it := by simpa using hb
        rcases e' with z | z
        · rw [z]; exact l1
        · rw [z]; exact l2
      rw [upd_ne (Nat.ne_of_lt lb)]
      exact (hf b hb).1
  done := by
    intro X hP hw hK hc i pins s σ H E J hf st hg
    subst hP hw hK
    obtain ⟨⟨old, he⟩, hit, hne⟩ := st
    obtain ⟨xs, hq, hx⟩ := hg
    obtain ⟨its, rv, p, _⟩ := J.tuple hq
    obtain ⟨f0, f1, f2, f3, f4, f5⟩ := hf it (by simp)
    have hl := rv.length
    have hd0 : X.A.in1.handled = none := J.ok.hd hc
    exact wpAny_pyNext_enum_endD (QT.drawn (its := its.toArray) hd0 (by simp; omega)) he ⟨hit, p⟩ fun h' eb => ⟨rfl, J.turned (t' := s.toks) (fun b o hb q => eb b o hb q) f0 f1 f3 f4 f5⟩
  self := fun A i s Q E st h => let ⟨⟨_, he⟩, _⟩ := st; wpAny_pyIter_enum he h
def iEnT (K : PySem.W.Frag) (ta : TA) : TI := fun σ H R => ta σ H fun vs H1 => ∃ a xs, vs = [.ref a] ∧ ((SqL K H1 a xs ∧ R (Ite K a) H1) ∨ (SqT K H1 a xs ∧ R (IteT K a) H1))
theorem pi_enT {X : Cx} {e : Expr} {ta : TA} {p1 p2 p3 : Pos} {es : List Expr} {kk : Nat} (hg : Gl X "enumerate") (hm : X.mg "enumerate" = none) (ha : PA X [e] ta) (hs : starEach [e] X.env = [(false, eval e X.env)] := by rfl) :
    PI X (.Tuple es kk p3) (.Call (.Name "enumerate" p1) [e] [] p2) (iEnT X.K ta) := by
  refine ⟨fun pins s σ H R J z => Call_ (ld_blt J hg hm boot_enumerate (PyProof.Rows.callWith_type1 (thn (ha.run p2 pins s σ H _ J z) fun us s1 ⟨vs, H1, J1, r1, q1⟩ => ?_) hs rfl))⟩
  obtain ⟨a, xs, ex, q⟩ := q1
  subst ex
  cases r1 with
  | cons r rr =>
    cases rr
    cases r
    have fresh : ∀ b, b ∈ [s1.heap.objs.size + 1, s1.heap.objs.size] → FpOk X pins H1 b := fun b hb => by
      have e' : b = s1.heap.objs.size + 1 ∨ b = s1.heap.objs.size := by simpa using hb
      have le : s1.heap.objs.size ≤ b := by omega
      exact J1.fpOk le (J1.hok.fresh le)
    rcases q with ⟨hq, q⟩ | ⟨hq, q⟩
    · obtain ⟨its, rv, p, _⟩ := J1.list hq
      refine call_enumerate_list p.isList fun h2 he hit hsz k => wpAny_pyIter_enum he ?_
      exact ⟨s1.heap.objs.size + 1, [s1.heap.objs.size + 1, s1.heap.objs.size], _, _, H1, rfl, J1.kept (t' := s1.toks) k, turn_enum a (s1.heap.objs.size + 1) s1.heap.objs.size, ⟨⟨.none, he⟩, hit, Nat.succ_ne_self _⟩, fresh, q⟩
    · obtain ⟨its, rv, p, _⟩ := J1.tuple hq
      have la : a < s1.heap.objs.size := by obtain ⟨o, ho, _⟩ := id p; exact Heap.lt_size ho
      refine QT.call_enumT p fun h2 he hit k => wpAny_pyIter_enum he ?_
      exact ⟨s1.heap.objs.size + 1, [s1.heap.objs.size + 1, s1.heap.objs.size], _, _, H1, rfl, J1.kept (t' := s1.toks) k, turn_eT (a := a) (e := s1.heap.objs.size + 1) (it := s1.heap.objs.size) (Nat.ne_of_gt (Nat.lt_succ_of_lt la)) (Nat.ne_of_lt la), ⟨⟨.none, he⟩, hit, Nat.succ_ne_self _⟩, fresh, q⟩
theorem wk_enT {K : PySem.W.Frag} {F0 : Hp} {a : Addr} {vs : List V} {xs : List D} (h : SqT K F0 a vs) (r : RepL K F0 xs vs) : Wk K F0 (IteT K a) (enumD xs) where
  go := fun i F H s1 s2 hi => by
    rw [enumD_len, r.length] at hi
    exact ⟨vs, vs[i], same_sqt s2 (same_sqt s1 h), List.getElem?_eq_getElem hi⟩
  yl := fun i F H v H' s1 s2 hi ⟨T, x, e1, nT, e2, y⟩ => by
    obtain ⟨d, hd, rd⟩ := r.getV (y vs (same_sqt s2 (same_sqt s1 h)))
    rw [e1, e2]
    refine ⟨_, .tup [.int i, d], Grow.laid s2 nT, enumD_get hd, T, [.int i, x], rfl, .inl (.inl upd_same), _, _, rfl, rfl, _, _, rfl, Rep.mono (s1.trans (same_upd (s2.free nT))) _ _ rd, rfl⟩
  st := fun i F H s1 s2 hi => ⟨vs, same_sqt s2 (same_sqt s1 h), by rw [← r.length, ← enumD_len]; exact hi⟩
theorem wk_zipT {K : PySem.W.Frag} {F0 : Hp} {a b : Addr} {vs ws : List V} {xs ys : List D} (h : SqT K F0 a vs) (r : RepL K F0 xs vs) (g : SqT K F0 b ws) (q : RepL K F0 ys ws) : Wk K F0 (RZ.ItzT K a b) (zipD xs ys) where
  go := fun i F H s1 s2 hi => by
    have hl : i < vs.length ∧ i < ws.length := by
      unfold zipD at hi
      rw [List.length_zipWith, r.length, q.length] at hi
      omega
    exact ⟨vs, ws, vs[i], ws[i], same_sqt s2 (same_sqt s1 h), same_sqt s2 (same_sqt s1 g), List.getElem?_eq_getElem hl.1, List.getElem?_eq_getElem hl.2⟩
  yl := fun i F H v H' s1 s2 hi ⟨T, x, y, e1, nT, e2, y1, y2⟩ => by
    obtain ⟨d, hd, rd⟩ := r.getV (y1 vs (same_sqt s2 (same_sqt s1 h)))
    obtain ⟨e, he, re⟩ := q.getV (y2 ws (same_sqt s2 (same_sqt s1 g)))
    rw [e1, e2]
    have s3 := s1.trans (same_upd (o := .tup [x, y]) (s2.free nT))
    refine ⟨_, .tup [d, e], Grow.laid s2 nT, ?_, T, [x, y], rfl, .inl (.inl upd_same), _, _, rfl, Rep.mono s3 _ _ rd, _, _, rfl, Rep.mono s3 _ _ re, rfl⟩
    unfold zipD
    rw [List.getElem?_zipWith, hd, he]
  st := fun i F H s1 s2 hi => by
    refine ⟨vs, ws, same_sqt s2 (same_sqt s1 h), same_sqt s2 (same_sqt s1 g), ?_⟩
    unfold zipD at hi
    rw [List.length_zipWith, r.length, q.length] at hi
    omega
/-- lo, lo + c, .. -/
def rngC (lo c : Int) (n : Nat) : List D := (List.range n).map fun i => D.int (lo + (i : Nat) * c)
theorem wk_rngC {K : PySem.W.Frag} {F0 : Hp} {lo c : Int} {n : Nat} : Wk K F0 (Itc lo c n) (rngC lo c n) where
  go := fun i F H s1 s2 hi => by
    have e : (rngC lo c n).length = n := by simp [rngC]
    rw [e] at hi; exact hi
  yl := fun i F H v H' s1 s2 hi ⟨e, y⟩ => by
    have el : (rngC lo c n).length = n := by simp [rngC]
    rw [el] at hi
    rw [e, y]
    refine ⟨F, .int (lo + (i : Nat) * c), Grow.refl s2, ?_, rfl⟩
    simp [rngC, hi]
  st := fun i F H s1 s2 hi => by
    have el : (rngC lo c n).length = n := by simp [rngC]
    rw [el] at hi; exact hi
theorem rngC_len {lo c : Int} {n : Nat} : (rngC lo c n).length = n := by simp [rngC]
theorem rngC_get {lo c : Int} {n i : Nat} {d : D} (h : (rngC lo c n)[i]? = some d) : i < n ∧ d = .int (lo + (i : Nat) * c) := by
  have hi := (List.getElem?_eq_some_iff.mp h).1
  rw [rngC_len] at hi
  simp [rngC, hi] at h
  exact ⟨hi, h.symm⟩
def riEA (t : RA) : RI := fun env Q => t env fun ds env1 => match ds with
  | [.lst xs] => Q (enumD xs) env1
  | [.tup xs] => Q (enumD xs) env1
  | _ => False
def riZA (t : RA) : RI := fun env Q => t env fun ds env1 => match ds with
  | [.lst xs, .lst ys] => Q (zipD xs ys) env1
  | [.tup xs, .tup ys] => Q (zipD xs ys) env1
  | _ => False
def riR3 (t : RA) : RI := fun env Q => t env fun ds env1 => match ds with
  | [.int i, .int j, .int c] => ∃ n, RgC i j c n ∧ Q (rngC i c n) env1
  | _ => False
section
variable {X : Cx} {bx : Bx} {e a b c : Expr} {es : List Expr} {t : RA} {p1 p2 p3 : Pos} {kk : Nat} {tg : Expr}
theorem qi_eA (hg : Gl X "enumerate") (hm : X.mg "enumerate" = none) (ha : QA X bx [e] t) (hs : starEach [e] X.env = [(false, eval e X.env)] := by rfl) : QI X bx (.Tuple es kk p3) (.Call (.Name "enumerate" p1) [e] [] p2) (riEA t) := pi_imp (pi_enT hg hm ha hs) fun σ H Q' ⟨env, F, Q, R, ht, k⟩ => ⟨env, F, _, R, ht, fun ds vs env1 F1 H1 s1 R1 r1 q1 => by
  split at q1
  · obtain ⟨v, r, rfl, ⟨a, us, rfl, h2, h3⟩, rfl⟩ := r1
    exact ⟨a, us, rfl, .inl ⟨.inl (.inl (R1.sf _ _ h2)), k _ env1 F1 H1 _ s1 R1 (wk_enum (.inl (.inl h2)) h3) q1⟩⟩
  · obtain ⟨v, r, rfl, ⟨a, us, rfl, h2, h3⟩, rfl⟩ := r1
    exact ⟨a, us, rfl, .inr ⟨same_sqt R1.sf h2, k _ env1 F1 H1 _ s1 R1 (wk_enT h2 h3) q1⟩⟩
  · exact q1.elim⟩
theorem qi_zA (hg : Gl X "zip") (hm : X.mg "zip" = none) (ha : QA X bx [a, b] t) (hs : starEach [a, b] X.env = (false, eval a X.env) :: starEach [b] X.env := by rfl) (hpl : (backTo p2 (starEach [b] X.env)).any (·.1) = false := by rfl) : QI X bx (.Tuple es kk p3) (.Call (.Name "zip" p1) [a, b] [] p2) (riZA t) := pi_imp (RZ.pi_zipA hg hm ha hs hpl) fun σ H Q' ⟨env, F, Q, R, ht, k⟩ => ⟨env, F, _, R, ht, fun ds vs env1 F1 H1 s1 R1 r1 q1 => by
  split at q1
  · obtain ⟨v, w, rfl, ⟨a, us, rfl, h2, h3⟩, ⟨b, ws, rfl, g2, g3⟩⟩ := RepL.two r1
    exact ⟨a, b, us, ws, rfl, .inl ⟨.inl (.inl (R1.sf _ _ h2)), .inl (.inl (R1.sf _ _ g2)), k _ env1 F1 H1 _ s1 R1 (wk_zip (.inl (.inl h2)) h3 (.inl (.inl g2)) g3) q1⟩⟩
  · obtain ⟨v, w, rfl, ⟨a, us, rfl, h2, h3⟩, ⟨b, ws, rfl, g2, g3⟩⟩ := RepL.two r1
    exact ⟨a, b, us, ws, rfl, .inr ⟨same_sqt R1.sf h2, same_sqt R1.sf g2, k _ env1 F1 H1 _ s1 R1 (wk_zipT h2 h3 g2 g3) q1⟩⟩
  · exact q1.elim⟩
theorem qi_r3 (hg : Gl X "range") (hm : X.mg "range" = none) (ha : QA X bx [a, b, c] t) (hs : starEach [a, b, c] X.env = (false, eval a X.env) :: starEach [b, c] X.env := by rfl) (hpl : (backTo p2 (starEach [b, c] X.env)).any (·.1) = false := by rfl) :
    QI X bx tg (.Call (.Name "range" p1) [a, b, c] [] p2) (riR3 t) := pi_imp (pi_range3 hg hm ha hs hpl) fun σ H Q' ⟨env, F, Q, R, ht, k⟩ => ⟨env, F, _, R, ht, fun ds vs env1 F1 H1 s1 R1 r1 q1 => by
  split at q1
  · obtain ⟨n, hr, q⟩ := q1
    obtain ⟨v, r, rfl, rfl, r2⟩ := r1
    obtain ⟨w, u, rfl, rfl, rfl⟩ := RepL.two r2
    exact ⟨_, _, _, n, rfl, hr, k _ env1 F1 H1 _ s1 R1 wk_rngC q⟩
  · exact q1.elim⟩
end
section
variable {env : List Slot} {t : RA} {P : List D → List Slot → Prop}
theorem e_riEA : riEA t env P = t env fun ds env1 => match ds with | [.lst xs] => P (enumD xs) env1 | [.tup xs] => P (enumD xs) env1 | _ => False := rfl
theorem e_riZA : riZA t env P = t env fun ds env1 => match ds with | [.lst xs, .lst ys] => P (zipD xs ys) env1 | [.tup xs, .tup ys] => P (zipD xs ys) env1 | _ => False := rfl
theorem e_riR3 : riR3 t env P = t env fun ds env1 => match ds with | [.int i, .int j, .int c] => ∃ n, RgC i j c n ∧ P (rngC i c n) env1 | _ => False := rfl
end
end QL
set_option Elab.async false
set_option linter.all false
set_option maxRecDepth 100000
namespace QL
open PySem PySem.Spec PyProof.Rows L2
/-! ### slices -/
abbrev RO := List Slot → (Option Int → List Slot → Prop) → Prop
def upO (K : PySem.W.Frag) (bx : Bx) (t : RO) : TO := fun σ H Q' => ∃ env F Q, ER K bx F env σ H ∧ t env Q ∧ ∀ o env' F' H', Same F F' → ER K bx F' env' σ H' → Q o env' → Q' o H'
def roN : RO := fun env Q => Q none env
def roS (te : RE) : RO := fun env Q => te env fun d env1 => match d with
  | .int i => Q (some i) env1
  | _ => False
def cutD (xs : List D) (lo hi : Option Int) : List D := (xs.drop (HT.sIx xs.length 0 lo)).take (HT.sIx xs.length xs.length hi - HT.sIx xs.length 0 lo)
def vSli (d : D) (lo hi : Option Int) (Q : D → Prop) : Prop := match d with
  | .lst xs => Q (.lst (cutD xs lo hi))
  | .tup xs => Q (.tup (cutD xs lo hi))
  | _ => False
def rSli (ta : RE) (tl th : RO) : RE := fun env Q => ta env fun d env1 => tl env1 fun lo env2 => th env2 fun hi env3 => vSli d lo hi fun z => Q z env3
section
variable {X : Cx} {bx : Bx} {e a b : Expr} {es : List Expr} {te ta tb : RE} {t : RA} {lo hi : Option Expr} {tl th : RO} {p1 p2 p3 pos : Pos} {i : Nat}
theorem po_imp {t t' : TO} (h : L2.PO X lo t) (i : ∀ σ H Q, t' σ H Q → t σ H Q) : L2.PO X lo t' := ⟨fun pins s σ H Q I q => h.run pins s σ H Q I (i σ H Q q)⟩
theorem qo_none : L2.PO X none (upO X.K bx roN) := po_imp po_none fun σ H Q' ⟨env, F, Q, R, ht, k⟩ => k none env F H (Same.refl _) R ht
theorem qo_some (h : QE X bx e te) : L2.PO X (some e) (upO X.K bx (roS te)) := po_imp (po_some h) fun σ H Q' ⟨env, F, Q, R, ht, k⟩ =>
  ⟨env, F, _, R, ht, fun d v env1 F1 H1 s1 R1 r1 q1 => by
    split at q1
    · cases r1
      exact ⟨_, rfl, k _ env1 F1 H1 s1 R1 q1⟩
    · exact q1.elim⟩
theorem RepL.cut {K : PySem.W.Frag} {F : Hp} {xs : List D} {vs : List V} (r : RepL K F xs vs) (lo hi : Option Int) : RepL K F (cutD xs lo hi) (cutV vs lo hi) := by
  unfold cutD cutV
  rw [r.length]
  exact RepL.take _ (RepL.drop _ r)
theorem q_slice (ha : QE X bx a ta) (hl : L2.PO X lo (upO X.K bx tl)) (hh : L2.PO X hi (upO X.K bx th)) : QE X bx (.Subscript a (.Slice lo hi none p2) pos) (rSli ta tl th) := pe_imp (pe_slice (SlR.or sl_list sl_tupA) ha hl hh) fun σ H Q' ⟨env, F, Q, R, ht, k⟩ =>
  ⟨env, F, _, R, ht, fun d v env1 F1 H1 s1 R1 r1 q1 => ⟨env1, F1, _, R1, q1, fun l env2 F2 H2 s2 R2 q2 => ⟨env2, F2, _, R2, q2, fun u env3 F3 H3 s3 R3 q3 => by
    have r3 := Rep.mono (s2.trans s3) _ _ r1
    have s13 := s1.trans (s2.trans s3)
    unfold vSli at q3
    split at q3
    · obtain ⟨x, vs, rfl, h2, h3⟩ := r3
      exact .inl ⟨x, vs, rfl, .inl (.inl (R3.sf _ _ h2)), fun p hp => k (.lst _) (.ref p) env3 (upd F3 p (.lst (cutV vs l u))) _ (s13.trans (same_upd (R3.sf.free hp))) (R3.laid hp) ⟨p, _, rfl, upd_same, RepL.mono (same_upd (R3.sf.free hp)) _ _ (h3.cut l u)⟩ q3⟩
    · obtain ⟨x, vs, rfl, h2, h3⟩ := r3
      refine .inr ⟨x, vs, rfl, same_sqt R3.sf h2, fun hw => ?_, fun _ p hp => k (.tup _) (.ref p) env3 (upd F3 p (.tup (cutV vs l u))) _ (s13.trans (same_upd (R3.sf.free hp))) (R3.laid hp) ⟨p, _, rfl, .inl (.inl upd_same), RepL.mono (same_upd (R3.sf.free hp)) _ _ (h3.cut l u)⟩ q3⟩
      have hc : ∀ ys : List D, ys.length = vs.length → cutD ys l u = ys := fun ys hy => by
        unfold cutD
        rw [hy, hw.1, hw.2, List.drop_zero, Nat.sub_zero, ← hy, List.take_length]
      rw [hc _ h3.length] at q3
      exact k (.tup _) (.ref x) env3 F3 H3 s13 R3 ⟨x, vs, rfl, h2, h3⟩ q3
    · exact q3.elim⟩⟩⟩
/-! ### an item of a name that may own its list -/
def rIxA (i : Nat) (tb : RE) : RE := fun env Q => match env[i]? with
  | some (.val d) => tb env fun j env1 => vIx d j fun z => Q z env1
  | some (.own _) => tb env fun j env1 => match env1[i]? with
    | some (.own d) => vIx d j fun z => Q z env1
    | _ => False
  | _ => False
theorem q_ixA (h : L2.PE X a (tVar i)) (hb : QE X bx b tb) (hs : PlainIx b := by exact fun _ _ => rfl) : QE X bx (.Subscript a b pos) (rIxA i tb) := by
  refine ⟨fun pins s σ H Q' I q => ?_⟩
  obtain ⟨env, F, Q, R, ht, k⟩ := q
  unfold rIxA at ht
  split at ht
  · rename_i d hd
    exact (q_ix (bx := bx) (q_var h) hb hs).run pins s σ H Q' I ⟨env, F, Q, R, by
      show rVar i env _
      unfold rVar
      rw [hd]
      exact ht, k⟩
  · rename_i d hd
    exact (q_ixO (bx := bx) h hb hs).run pins s σ H Q' I ⟨env, F, Q, R, ⟨⟨d, hd⟩, ht⟩, k⟩
  · exact ht.elim
/-! ### in, not in: ints -/
def vInI (neg : Bool) : V2
  | .int i, .tup xs, Q => ∃ ns, allInts xs = some ns ∧ Q (.bl (if neg then !decide (i ∈ ns) else decide (i ∈ ns)))
  | .int i, .lst xs, Q => ∃ ns, allInts xs = some ns ∧ Q (.bl (if neg then !decide (i ∈ ns) else decide (i ∈ ns)))
  | _, _, _ => False
theorem inV_ints {i : Int} : ∀ ns : List Int, inV (.int i) (ns.map V.int) = decide (i ∈ ns)
  | [] => rfl
  | n :: ns => by
    have ih := inV_ints (i := i) ns
    unfold inV at ih ⊢
    rw [List.map_cons, List.any_cons, ih]
    show ((n == i) || decide (i ∈ ns)) = _
    by_cases h : n = i
    · subst h; simp
    · have : ¬ i = n := fun z => h z.symm
      simp [h, this]
theorem flat_ints : ∀ ns : List Int, (ns.map V.int).all flatV = true
  | [] => rfl
  | n :: ns => by rw [List.map_cons, List.all_cons, flat_ints ns]; rfl
theorem qo_inI : OpR X (compareOp .In) (upV2 X.K (vInI false)) := by
  intro pins s σ H x y v u Q' I rx ry ⟨F, d, e, Q, sm, r1, r2, h, g⟩
  unfold vInI at h
  split at h
  · cases r1
    obtain ⟨a, vs, rfl, h2, h3⟩ := r2
    obtain ⟨ns, e1, q⟩ := h
    rw [allInts_eq e1] at h3
    cases repInts h3
    exact op_in_seq pins s σ H _ _ v u Q' I rx ry ⟨a, _, rfl, .inr (same_sqt sm h2), rfl, flat_ints ns, by rw [inV_ints]; exact g.b sm q⟩
  · cases r1
    obtain ⟨a, vs, rfl, h2, h3⟩ := r2
    obtain ⟨ns, e1, q⟩ := h
    rw [allInts_eq e1] at h3
    cases repInts h3
    exact op_in_seq pins s σ H _ _ v u Q' I rx ry ⟨a, _, rfl, .inl (.inl (.inl (sm _ _ h2))), rfl, flat_ints ns, by rw [inV_ints]; exact g.b sm q⟩
  · exact h.elim
theorem qo_ninI : OpR X (compareOp .NotIn) (upV2 X.K (vInI true)) := by
  intro pins s σ H x y v u Q' I rx ry ⟨F, d, e, Q, sm, r1, r2, h, g⟩
  unfold vInI at h
  split at h
  · cases r1
    obtain ⟨a, vs, rfl, h2, h3⟩ := r2
    obtain ⟨ns, e1, q⟩ := h
    rw [allInts_eq e1] at h3
    cases repInts h3
    exact op_notIn_seq pins s σ H _ _ v u Q' I rx ry ⟨a, _, rfl, .inr (same_sqt sm h2), rfl, flat_ints ns, by rw [inV_ints]; exact g.b sm q⟩
  · cases r1
    obtain ⟨a, vs, rfl, h2, h3⟩ := r2
    obtain ⟨ns, e1, q⟩ := h
    rw [allInts_eq e1] at h3
    cases repInts h3
    exact op_notIn_seq pins s σ H _ _ v u Q' I rx ry ⟨a, _, rfl, .inl (.inl (.inl (sm _ _ h2))), rfl, flat_ints ns, by rw [inV_ints]; exact g.b sm q⟩
  · exact h.elim
/-! ### isinstance(x, (A, B)) -/
def clsVal : D → Option Value
  | .raw (.ty n) => some (.type n)
  | .raw (.ref C) => some (.ref C)
  | _ => none
def clsVals : List D → Option (List Value)
  | [] => some []
  | d :: ds => match clsVal d, clsVals ds with
    | some v, some vs => some (v :: vs)
    | _, _ => none
theorem cls_one {K : PySem.W.Frag} {F : Hp} : ∀ {d : D} {v : V} {u : Value}, clsVal d = some u → Rep K F d v → ClsV v u
  | .raw (.ty n), _, _, e, r => by cases e; rw [show _ = V.ty n from r]; exact .ty n
  | .raw (.ref C), _, _, e, r => by cases e; rw [show _ = V.ref C from r]; exact .own C
theorem cls_all {K : PySem.W.Frag} {F : Hp} : ∀ {ds : List D} {vs : List V} {us : List Value}, clsVals ds = some us → RepL K F ds vs → Paired ClsV vs us
  | [], _, _, e, r => by cases e; rw [show _ = [] from r]; exact .nil
  | d :: ds, _, us, e, ⟨v, r, h1, h2, h3⟩ => by
    unfold clsVals at e
    split at e
    · rename_i v1 vs1 e1 e2
      cases e
      rw [h1]
      exact .cons (cls_one e1 h2) (cls_all e2 h3)
    · cases e
def rIsiT (K : PySem.W.Frag) (ta : RE) (t : RA) : RE := fun env Q => ta env fun d env1 => t env1 fun cs env2 => cs.length ≤ sizeLine ∧ ∃ tv us b, TyD K d tv ∧ clsVals cs = some us ∧ PySem.W.kitAny K tv us = some b ∧ Q (.bl b) env2
theorem q_isiT {x1} (hg : Gl X "isinstance") (hm : X.mg "isinstance" = none) (hv : bootBuiltins "isinstance" = some (.builtin "isinstance")) (ha : QE X bx e ta) (ht : QA X bx es t)
    (hn : ("isinstance" : Str) ≠ "__name__" := by decide) (hdb : (("isinstance" : Str) == ("__debug__" : Str)) = false := by decide)
    (s1 : starEach [.Tuple es x1 p3] X.env = (false, eval (.Tuple es x1 p3) X.env) :: starEach [] X.env := by rfl)
    (he : starEach [e, .Tuple es x1 p3] X.env = (false, eval e X.env) :: starEach [.Tuple es x1 p3] X.env := by rfl) (hpl : (backTo p2 (starEach [.Tuple es x1 p3] X.env)).any (·.1) = false := by rfl) :
    QE X bx (.Call (.Name "isinstance" p1) [e, .Tuple es x1 p3] [] p2) (rIsiT X.K ta t) := pe_imp (pe_callB call_isiT hg hm hv (pa_cons ha (pa_cons (pe_tup ht) pa_nil s1) he) hn hdb he hpl) fun σ H Q' ⟨env, F, Q, R, hq, k⟩ =>
  ⟨env, F, _, R, hq, fun d v env1 F1 H1 s1 R1 r1 q1 => ⟨env1, F1, _, R1, q1, fun cs vs env2 F2 H2 s2 R2 r2 ⟨hl, tv, us, b, h1, h2, h3, q2⟩ => ⟨by rw [← r2.length]; exact hl, fun p hp =>
    ⟨v, p, vs, tv, us, b, rfl, upd_same, cls_all h2 r2, tyd_of (s2.trans (R2.sf.trans (same_upd hp))) h1 r1, h3, k (.bl b) _ env2 F2 _ (s1.trans s2) (R2.laid0 hp) rfl q2⟩⟩⟩⟩
end
/-! ### the readings, step by step -/
section
variable {env : List Slot} {Q : D → List Slot → Prop} {P : D → Prop} {xs : List D} {ta tb te : RE} {tl th : RO} {QO : Option Int → List Slot → Prop} {lo hi : Option Int} {i : Nat} {K : PySem.W.Frag} {t : RA} {a : Int} {neg : Bool}
theorem e_sli : rSli ta tl th env Q = ta env fun d env1 => tl env1 fun lo env2 => th env2 fun hi env3 => vSli d lo hi fun z => Q z env3 := rfl
theorem e_roN : roN env QO = QO none env := rfl
theorem e_roS : roS te env QO = te env fun d env1 => intQ d fun i => QO (some i) env1 := rfl
theorem o_sliL : vSli (.lst xs) lo hi P = P (.lst (cutD xs lo hi)) := rfl
theorem o_sliT : vSli (.tup xs) lo hi P = P (.tup (cutD xs lo hi)) := rfl
theorem e_ixA : rIxA i tb env Q = anyQ (getS env i) (fun d => tb env fun j env1 => vIx d j fun z => Q z env1) (fun _ => tb env fun j env1 => ownQ (getS env1 i) fun d => vIx d j fun z => Q z env1) := by
  unfold rIxA anyQ; rw [getS_eq]
  cases env[i]? with
  | none => rfl
  | some s =>
    cases s with
    | un => rfl
    | val d => rfl
    | own d =>
      show tb env _ = tb env _
      congr 1; funext j env1
      rw [getS_eq]
      cases env1[i]? with
      | none => rfl
      | some s => cases s <;> rfl
theorem o_inIT : vInI neg (.int a) (.tup xs) P = ∃ ns, allInts xs = some ns ∧ P (.bl (if neg then !decide (a ∈ ns) else decide (a ∈ ns))) := rfl
theorem o_inIL : vInI neg (.int a) (.lst xs) P = ∃ ns, allInts xs = some ns ∧ P (.bl (if neg then !decide (a ∈ ns) else decide (a ∈ ns))) := rfl
theorem e_isiT : rIsiT K ta t env Q = ta env fun d env1 => t env1 fun cs env2 => cs.length ≤ sizeLine ∧ ∃ tv us b, TyD K d tv ∧ clsVals cs = some us ∧ PySem.W.kitAny K tv us = some b ∧ Q (.bl b) env2 := rfl
end
theorem fld_hit {f : Str} {ns : List Str} {x : D} {xs : List D} : fldD f (f :: ns) (x :: xs) = some x := if_pos rfl
theorem fld_miss {f n : Str} {ns : List Str} {x : D} {xs : List D} (h : ¬ f = n) : fldD f (n :: ns) (x :: xs) = fldD f ns xs := if_neg h
theorem px_miss {f n : Str} {ns : List Str} {x z : D} {xs : List D} (h : ¬ n = f) : putX f z (n :: ns) (x :: xs) = x :: putX f z ns xs := if_neg h
theorem px_hit {f : Str} {ns : List Str} {x z : D} {xs : List D} : putX f z (f :: ns) (x :: xs) = z :: xs := if_pos rfl
theorem fldQ_hit {S : Addr → Prop} {f : Str} {C : Addr} {ns : List Str} {xs : List D} {z : D} {P : D → Prop} (h : S C) (e : fldD f ns xs = some z) : fldQ S f (.obj C ns xs) P = P z := propext
  ⟨fun ⟨_, y, hy, q⟩ => by rw [e] at hy; cases hy; exact q, fun q => ⟨h, z, e, q⟩⟩
theorem objQ_hit {C : Addr} {m : Str} {ns : List Str} {xs : List D} {R : Prop} (e : fldD m ns xs = none) : objQ C m (.obj C ns xs) R = R := propext ⟨fun h => h.2.2, fun q => ⟨rfl, e, q⟩⟩
end QL
set_option Elab.async false
set_option linter.all false
set_option maxRecDepth 100000
namespace QL
open PySem PySem.Spec PyProof.Rows L2
section
variable {x y z w : D} {xs : List D} {P : D → Prop} {a : Addr} {ns : List Str}
theorem e_ix0 : (∃ d, atI (x :: xs) 0 = some d ∧ P d) = P x := propext ⟨fun ⟨d, h, q⟩ => by
    have e : atI (x :: xs) ((0 : Nat) : Int) = some x := atI_nat (j := 0) rfl
    rw [show (0 : Int) = ((0 : Nat) : Int) from rfl, e] at h
    cases h; exact q, fun q => ⟨x, atI_nat (j := 0) rfl, q⟩⟩
theorem e_ix1 : (∃ d, atI (x :: y :: xs) 1 = some d ∧ P d) = P y := propext ⟨fun ⟨d, h, q⟩ => by
    have e : atI (x :: y :: xs) ((1 : Nat) : Int) = some y := atI_nat (j := 1) rfl
    rw [show (1 : Int) = ((1 : Nat) : Int) from rfl, e] at h
    cases h; exact q, fun q => ⟨y, atI_nat (j := 1) rfl, q⟩⟩
theorem e_ix2 : (∃ d, atI (x :: y :: z :: xs) 2 = some d ∧ P d) = P z := propext ⟨fun ⟨d, h, q⟩ => by
    have e : atI (x :: y :: z :: xs) ((2 : Nat) : Int) = some z := atI_nat (j := 2) rfl
    rw [show (2 : Int) = ((2 : Nat) : Int) from rfl, e] at h
    cases h; exact q, fun q => ⟨z, atI_nat (j := 2) rfl, q⟩⟩
theorem o_maxL : vMax [.lst xs] P = ∃ ns, allInts xs = some ns ∧ 0 < ns.length ∧ ∀ m, m ∈ ns → (∀ y, y ∈ ns → y ≤ m) → P (.int m) := rfl
theorem o_minL : vMin [.lst xs] P = ∃ ns, allInts xs = some ns ∧ 0 < ns.length ∧ ∀ m, m ∈ ns → (∀ y, y ∈ ns → m ≤ y) → P (.int m) := rfl
theorem o_tupL : vTuple [.lst xs] P = P (.tup xs) := rfl
theorem o_tupT : vTuple [.tup xs] P = P (.tup xs) := rfl
theorem o_listL : vList [.lst xs] P = P (.lst xs) := rfl
theorem o_listT : vList [.tup xs] P = P (.lst xs) := rfl
theorem o_intB {b : Bool} : QL.vInt [.bl b] P = P (.int (if b then 1 else 0)) := rfl
theorem o_allL : vAll [.lst xs] P = ∃ ns, allBls xs = some ns ∧ P (.bl (ns.all id)) := rfl
theorem o_anyL : vAny [.lst xs] P = ∃ ns, allBls xs = some ns ∧ P (.bl (ns.any id)) := rfl
theorem o_isN : vIsN (.obj a ns xs) .non P = P (.bl false) := rfl
theorem o_isNI {i : Int} : vIsN (.int i) .non P = P (.bl false) := rfl
theorem o_isNN : vIsN .non .non P = P (.bl true) := rfl
theorem o_isNT : vIsN (.tup xs) .non P = P (.bl false) := rfl
theorem o_isNL : vIsN (.lst xs) .non P = P (.bl false) := rfl
theorem o_ntN : vNotN (.obj a ns xs) .non P = P (.bl true) := rfl
theorem o_ntNI {i : Int} : vNotN (.int i) .non P = P (.bl true) := rfl
theorem o_ntNN : vNotN .non .non P = P (.bl false) := rfl
theorem o_ntNT : vNotN (.tup xs) .non P = P (.bl true) := rfl
theorem o_ntNL : vNotN (.lst xs) .non P = P (.bl true) := rfl
end
theorem enumD_inv {xs : List D} {i : Nat} {d : D} (h : (enumD xs)[i]? = some d) : ∃ e, xs[i]? = some e ∧ d = .tup [.int i, e] := by
  have hi := (List.getElem?_eq_some_iff.mp h).1
  rw [enumD_len] at hi
  have e := enumD_get (List.getElem?_eq_getElem hi)
  rw [h] at e
  exact ⟨_, List.getElem?_eq_getElem hi, Option.some.inj e⟩
theorem ints_get {ns : List Int} {i : Nat} {d : D} (h : (ns.map D.int)[i]? = some d) : i < ns.length ∧ d = .int (ns.getD i 0) := by
  have hi := (List.getElem?_eq_some_iff.mp h).1
  rw [List.length_map] at hi
  rw [List.getElem?_map, List.getElem?_eq_getElem hi] at h
  refine ⟨hi, ?_⟩
  rw [List.getD_eq_getElem?_getD, List.getElem?_eq_getElem hi]
  exact (Option.some.inj h).symm
theorem e_stP {i : Nat} {te tj : RE} {en : PEnds} {env : List Slot} : sPut i te tj en env = te env fun d env1 => ownQ (getS env1 i) fun o => lstQ o fun _ => tj env1 fun j env2 => ownQ (getS env2 i) fun e => lstQ e fun xs => intQ j fun k => ∃ n, ixN xs.length k = some n ∧ en.nx (putS env2 i (.own (.lst (xs.set n d)))) := by
  unfold sPut
  congr 1; funext d env1
  rw [getS_eq]
  cases h : env1[i]? with
  | none => exact propext ⟨fun ⟨⟨d, z⟩, _⟩ => (by cases z), fun z => z.elim⟩
  | some s =>
    cases s with
    | un => exact propext ⟨fun ⟨⟨d, z⟩, _⟩ => (by cases z), fun z => z.elim⟩
    | val d => exact propext ⟨fun ⟨⟨d, z⟩, _⟩ => (by cases z), fun z => z.elim⟩
    | own o =>
      cases o with
      | lst ys =>
        have e : (fun (j : D) (env2 : List Slot) => match env2[i]? with
          | some (.own (.lst xs)) => (match j with
            | .int k => ∃ n, ixN xs.length k = some n ∧ en.nx (env2.set i (.own (.lst (xs.set n d))))
            | _ => False)
          | _ => False) = fun j env2 => ownQ (getS env2 i) fun e => lstQ e fun xs => intQ j fun k => ∃ n, ixN xs.length k = some n ∧ en.nx (putS env2 i (.own (.lst (xs.set n d)))) := by
          funext j env2
          rw [getS_eq]
          cases env2[i]? with
          | none => rfl
          | some s =>
            cases s with
            | un => rfl
            | val _ => rfl
            | own z =>
              cases z with
              | lst xs => cases j <;> first | rfl | (simp only [putS_eq]; rfl)
              | _ => rfl
        exact propext ⟨fun ⟨_, z⟩ => by rw [← e]; exact z, fun z => ⟨⟨ys, rfl⟩, by rw [← e] at z; exact z⟩⟩
      | _ => exact propext ⟨fun ⟨⟨d, z⟩, _⟩ => (by cases z), fun z => z.elim⟩
/-- range(i, j, c) for small c above 0 -/
theorem rgC_up {i j c : Int} (h0 : -(2 ^ 40) ≤ i) (h1 : i < 2 ^ 40) (h2 : -(2 ^ 40) ≤ j) (h3 : j < 2 ^ 40) (c0 : 0 < c) (c1 : c < 2 ^ 20) : ∃ n, RgC i j c n ∧ ∀ k : Nat, k < n → i + k * c < j := by
  have hs : Builtin.Range.rangeSize i j c = if i < j then (j - i - 1) / c + 1 else 0 := by
    unfold Builtin.Range.rangeSize
    rw [if_pos c0]
  have hb : 0 ≤ Builtin.Range.rangeSize i j c ∧ Builtin.Range.rangeSize i j c ≤ 2 ^ 41 := by
    rw [hs]
    split
    · have e1 := Int.ediv_nonneg (a := j - i - 1) (b := c) (by omega) (by omega)
      have e2 := Int.ediv_le_self c (show (0 : Int) ≤ j - i - 1 by omega)
      omega
    · omega
  refine ⟨(Builtin.Range.rangeSize i j c).toNat, ⟨by omega, by omega, ?_, by omega⟩, fun k hk => ?_⟩
  · unfold Builtin.Range.small
    simp only [Builtin.Range.rangeFitsLong, Bool.and_eq_true, Bool.or_eq_true, decide_eq_true_eq, beq_iff_eq]
    refine ⟨⟨⟨⟨by omega, by omega⟩, by omega⟩, by omega⟩, .inr ?_⟩
    rw [if_pos c0]
    simp only [Bool.and_eq_true, decide_eq_true_eq]
    omega
  · rw [hs] at hk hb
    split at hk
    · have hk2 : (k : Int) ≤ (j - i - 1) / c := by omega
      have := (Int.le_ediv_iff_mul_le c0).mp hk2
      omega
    · omega
end QL
set_option Elab.async false
set_option linter.all false
/-! the plain law of stairs -/
namespace W50
theorem ftrans {x y b c o d : Int} (hc : 0 < c) (hy : 0 < y) (hd : 0 < d) (h1 : x * c ≤ b * y) (h2 : b * d ≤ o * c) : x * d ≤ o * y := by
  have a1 : x * c * d ≤ b * y * d := Int.mul_le_mul_of_nonneg_right h1 (Int.le_of_lt hd)
  have a2 : b * d * y ≤ o * c * y := Int.mul_le_mul_of_nonneg_right h2 (Int.le_of_lt hy)
  have e1 : x * c * d = x * d * c := by ac_rfl
  have e2 : b * y * d = b * d * y := by ac_rfl
  have e3 : o * c * y = o * y * c := by ac_rfl
  exact Int.le_of_mul_le_mul_right (show x * d * c ≤ o * y * c by omega) hc
section
variable (r : Int → Int) (n : Int)
/-- low and high are the tightest of the pairs in C -/
structure Cov (C : Int → Int → Prop) (i j k l : Int) : Prop where
  a0 : 0 ≤ i
  a1 : i < j
  a2 : j < n
  b0 : 0 ≤ k
  b1 : k < l
  b2 : l < n
  lo : ∀ p q, p < q → C p q → (r q - r p - 1) * (j - i) ≤ (r j - r i - 1) * (q - p)
  hi : ∀ p q, p < q → C p q → (r l - r k + 1) * (q - p) ≤ (r q - r p + 1) * (l - k)
end
variable {r : Int → Int} {n : Int} {C C' : Int → Int → Prop} {i j k l p0 q0 : Int}
theorem Cov.mono (h : Cov r n C i j k l) (m : ∀ p q, p < q → C' p q → C p q) : Cov r n C' i j k l := ⟨h.a0, h.a1, h.a2, h.b0, h.b1, h.b2, fun p q hp hc => h.lo p q hp (m p q hp hc), fun p q hp hc => h.hi p q hp (m p q hp hc)⟩
/-- one pair more: low -/
theorem Cov.low (h : Cov r n C i j k l) (h0 : 0 ≤ p0) (h1 : p0 < q0) (h2 : q0 < n) (g : (r j - r i - 1) * (q0 - p0) ≤ (r q0 - r p0 - 1) * (j - i)) : Cov r n C p0 q0 k l :=
  ⟨h0, h1, h2, h.b0, h.b1, h.b2, fun p q hp hc => ftrans (by have := h.a1; omega) (by omega) (by omega) (h.lo p q hp hc) g, h.hi⟩
theorem Cov.high (h : Cov r n C i j k l) (h0 : 0 ≤ p0) (h1 : p0 < q0) (h2 : q0 < n) (g : (r q0 - r p0 + 1) * (l - k) ≤ (r l - r k + 1) * (q0 - p0)) : Cov r n C i j p0 q0 :=
  ⟨h.a0, h.a1, h.a2, h0, h1, h2, h.lo, fun p q hp hc => by
    have b := h.b1
    have t := ftrans (x := r q0 - r p0 + 1) (y := q0 - p0) (b := r l - r k + 1) (c := l - k) (o := r q - r p + 1) (d := q - p) (by omega) (by omega) (by omega) g (h.hi p q hp hc)
    exact t⟩
theorem Cov.ext (h : Cov r n C i j k l) (m : ∀ p q, p < q → C' p q → C p q ∨ (p = p0 ∧ q = q0)) (g1 : (r q0 - r p0 - 1) * (j - i) ≤ (r j - r i - 1) * (q0 - p0)) (g2 : (r l - r k + 1) * (q0 - p0) ≤ (r q0 - r p0 + 1) * (l - k)) : Cov r n C' i j k l :=
  ⟨h.a0, h.a1, h.a2, h.b0, h.b1, h.b2, fun p q hp hc => (m p q hp hc).elim (fun z => h.lo p q hp z) (fun z => by rw [z.1, z.2]; exact g1), fun p q hp hc => (m p q hp hc).elim (fun z => h.hi p q hp z) (fun z => by rw [z.1, z.2]; exact g2)⟩
/-- what fits: a / m lies strictly between all slopes -/
def Fit (r : Int → Int) (n a m : Int) : Prop := ∀ p q, 0 ≤ p → p < q → q < n → (r q - r p - 1) * m < a * (q - p) ∧ a * (q - p) < (r q - r p + 1) * m
theorem ftr1 {x y b c a m : Int} (hc : 0 < c) (hy : 0 < y) (hm : 0 < m) (h1 : x * c ≤ b * y) (h2 : b * m < a * c) : x * m < a * y := by
  have a1 : x * c * m ≤ b * y * m := Int.mul_le_mul_of_nonneg_right h1 (Int.le_of_lt hm)
  have a2 : b * m * y < a * c * y := Int.mul_lt_mul_of_pos_right h2 hy
  have e1 : x * c * m = x * m * c := by ac_rfl
  have e2 : b * y * m = b * m * y := by ac_rfl
  have e3 : a * c * y = a * y * c := by ac_rfl
  exact Int.lt_of_mul_lt_mul_right (show x * m * c < a * y * c by omega) (Int.le_of_lt hc)
theorem ftr2 {x y b c a m : Int} (hc : 0 < c) (hy : 0 < y) (hm : 0 < m) (h1 : b * y ≤ x * c) (h2 : a * c < b * m) : a * y < x * m := by
  have a1 : b * y * m ≤ x * c * m := Int.mul_le_mul_of_nonneg_right h1 (Int.le_of_lt hm)
  have a2 : a * c * y < b * m * y := Int.mul_lt_mul_of_pos_right h2 hy
  have e1 : x * c * m = x * m * c := by ac_rfl
  have e2 : b * y * m = b * m * y := by ac_rfl
  have e3 : a * c * y = a * y * c := by ac_rfl
  exact Int.lt_of_mul_lt_mul_right (show a * y * c < x * m * c by omega) (Int.le_of_lt hc)
theorem Cov.fit {a m : Int} (h : Cov r n (fun p q => 0 ≤ p ∧ q < n) i j k l) (hm : 0 < m) : Fit r n a m ↔ ((r j - r i - 1) * m < a * (j - i) ∧ a * (l - k) < (r l - r k + 1) * m) := by
  have h1 := h.a1
  have h2 := h.b1
  constructor
  · intro f
    exact ⟨(f i j h.a0 h.a1 h.a2).1, (f k l h.b0 h.b1 h.b2).2⟩
  · rintro ⟨g1, g2⟩ p q hp hq hn
    exact ⟨ftr1 (by omega) (by omega) hm (h.lo p q hq ⟨hp, hn⟩) g1, ftr2 (by omega) (by omega) hm (h.hi p q hq ⟨hp, hn⟩) g2⟩
/-- the least a above a0 m / a1 -/
theorem least_gt {a0 a1 m a : Int} (h : 0 < a1) : a0 * m < a * a1 ↔ a0 * m / a1 + 1 ≤ a := by
  constructor
  · intro g
    have := Int.ediv_lt_of_lt_mul h g
    omega
  · intro g
    have := Int.lt_ediv_add_one_mul_self (a0 * m) h
    have := Int.mul_le_mul_of_nonneg_right g (Int.le_of_lt h)
    omega
theorem mid {a0 a1 b0 b1 m : Int} (h1 : 0 < a1) (h2 : 0 < b1) (hm : 0 < m) (h : ∃ a, a0 * m < a * a1 ∧ a * b1 < b0 * m) : a0 * b1 < b0 * a1 := by
  obtain ⟨a, g1, g2⟩ := h
  have e1 := Int.mul_lt_mul_of_pos_right g1 h2
  have e2 := Int.mul_lt_mul_of_pos_right g2 h1
  have e3 : a0 * m * b1 = a0 * b1 * m := by ac_rfl
  have e4 : b0 * m * a1 = b0 * a1 * m := by ac_rfl
  have e5 : a * a1 * b1 = a * b1 * a1 := by ac_rfl
  exact Int.lt_of_mul_lt_mul_right (show a0 * b1 * m < b0 * a1 * m by omega) (Int.le_of_lt hm)
theorem mid2 {a0 a1 b0 b1 : Int} (h1 : 0 < a1) (h2 : 0 < b1) (h : a0 * b1 < b0 * a1) : (a0 * (2 * a1 * b1) / a1 + 1) * b1 < b0 * (2 * a1 * b1) := by
  have e : a0 * (2 * a1 * b1) = (2 * (a0 * b1)) * a1 := by ac_rfl
  rw [e, Int.mul_ediv_cancel _ (by omega)]
  have e2 : b0 * (2 * a1 * b1) = (2 * (b0 * a1)) * b1 := by ac_rfl
  rw [e2]
  exact Int.mul_lt_mul_of_pos_right (by omega) h2
/-- the line told has the numbers -/
theorem Fit.at {a m b : Int} (hm : 0 < m) (f : Fit r n a m) (hb : ∃ x, 0 ≤ x ∧ x < n ∧ b = r x * m - a * x) (hmax : ∀ x, 0 ≤ x → x < n → r x * m - a * x ≤ b) {x : Int} (h0 : 0 ≤ x) (hn : x < n) : (a * x + b) / m = r x := by
  obtain ⟨y, y0, yn, rfl⟩ := hb
  have h1 := hmax x h0 hn
  have h2 : a * x + (r y * m - a * y) < (r x + 1) * m := by
    rcases Int.lt_trichotomy x y with g | g | g
    · have := (f x y h0 g yn).1
      rw [Int.mul_sub] at this
      rw [Int.sub_mul, Int.sub_mul, Int.one_mul] at this
      rw [Int.add_mul, Int.one_mul]
      omega
    · subst g
      rw [Int.add_mul, Int.one_mul]
      omega
    · have := (f y x y0 g hn).2
      rw [Int.mul_sub] at this
      rw [Int.add_mul, Int.sub_mul, Int.one_mul] at this
      rw [Int.add_mul, Int.one_mul]
      omega
  apply Int.le_antisymm
  · exact Int.le_of_lt_add_one (Int.ediv_lt_of_lt_mul hm h2)
  · exact (Int.le_ediv_iff_mul_le hm).mpr (by omega)
/-- numbers raised by s x fit with s m more -/
theorem Fit.raise {r2 : Int → Int} {s a m : Int} (hr : ∀ x, 0 ≤ x → x < n → r x = r2 x + s * x) : Fit r n a m ↔ Fit r2 n (a - s * m) m := by
  have key : ∀ p q, 0 ≤ p → p < q → q < n → r q - r p = r2 q - r2 p + s * (q - p) := fun p q h0 h1 h2 => by
    rw [hr q (by omega) h2, hr p h0 (by omega), Int.mul_sub]
    omega
  have e : ∀ p q c : Int, 0 ≤ p → p < q → q < n → (r q - r p + c) * m = (r2 q - r2 p + c) * m + s * m * (q - p) := fun p q c h0 h1 h2 => by
    rw [key p q h0 h1 h2, show r2 q - r2 p + s * (q - p) + c = (r2 q - r2 p + c) + s * (q - p) by omega, Int.add_mul]
    congr 1
    ac_rfl
  constructor
  · intro f p q h0 h1 h2
    obtain ⟨g1, g2⟩ := f p q h0 h1 h2
    rw [show r q - r p - 1 = r q - r p + -1 by omega, e p q (-1) h0 h1 h2] at g1
    rw [e p q 1 h0 h1 h2] at g2
    rw [Int.sub_mul a, show r2 q - r2 p - 1 = r2 q - r2 p + -1 by omega]
    omega
  · intro f p q h0 h1 h2
    obtain ⟨g1, g2⟩ := f p q h0 h1 h2
    rw [Int.sub_mul a, show r2 q - r2 p - 1 = r2 q - r2 p + -1 by omega] at g1
    rw [Int.sub_mul a] at g2
    rw [show r q - r p - 1 = r q - r p + -1 by omega, e p q (-1) h0 h1 h2, e p q 1 h0 h1 h2]
    omega
theorem spread_ok {a m b : Int} (hm : 1 ≤ m) (hn : 2 ≤ n) (r0 : r 0 = 0) (inc : ∀ p q, 0 ≤ p → p < q → q < n → r q - r p ≤ q - p) (top : 1 ≤ r (n - 1)) (f : Fit r n a m) (least : ∀ a', a' < a → ¬ Fit r n a' m)
    (hb : ∃ x, 0 ≤ x ∧ x < n ∧ b = r x * m - a * x) (hmax : ∀ x, 0 ≤ x → x < n → r x * m - a * x ≤ b) : 1 ≤ a ∧ a ≤ m ∧ 0 ≤ b ∧ b < m := by
  have b0 := hmax 0 (Int.le_refl _) (by omega)
  rw [r0, Int.zero_mul, Int.mul_zero] at b0
  have at0 := f.at (by omega) hb hmax (Int.le_refl 0) (by omega)
  rw [Int.mul_zero, Int.zero_add, r0] at at0
  have b1 := Int.lt_ediv_add_one_mul_self b (show 0 < m by omega)
  rw [at0] at b1
  refine ⟨?_, ?_, by omega, by omega⟩
  · have g := (f 0 (n - 1) (Int.le_refl _) (by omega) (by omega)).1
    have z : 0 ≤ (r (n - 1) - r 0 - 1) * m := Int.mul_nonneg (by omega) (by omega)
    by_cases ha : 1 ≤ a
    · exact ha
    · have := Int.mul_le_mul_of_nonneg_right (show a ≤ 0 by omega) (show 0 ≤ n - 1 - 0 by omega)
      omega
  · by_cases ha : a ≤ m
    · exact ha
    · exfalso
      refine least (a - 1) (by omega) fun p q h0 h1 h2 => ?_
      have g := (f p q h0 h1 h2).2
      have i1 := Int.mul_le_mul_of_nonneg_right (show r q - r p - 1 ≤ q - p - 1 by have := inc p q h0 h1 h2; omega) (show 0 ≤ m by omega)
      have i2 := Int.mul_le_mul_of_nonneg_right (show m ≤ a - 1 by omega) (show 0 ≤ q - p by omega)
      have e1 : (q - p - 1) * m = m * (q - p) - m := by rw [Int.sub_mul, Int.one_mul, Int.mul_comm]
      have e2 : (a - 1) * (q - p) = a * (q - p) - (q - p) := by rw [Int.sub_mul, Int.one_mul]
      constructor
      · omega
      · omega
/-- what is least -/
theorem Fit.same {r2 : Int → Int} {s a m a2 m2 : Int} (hr : ∀ x, 0 ≤ x → x < n → r x = r2 x + s * x) (hm : 1 ≤ m) (hm2 : 1 ≤ m2) (f : Fit r n a m) (l1 : ∀ a' m', 0 < m' → m' < m → ¬ Fit r n a' m') (l2 : ∀ a', a' < a → ¬ Fit r n a' m)
    (f2 : Fit r2 n a2 m2) (k1 : ∀ a' m', 0 < m' → m' < m2 → ¬ Fit r2 n a' m') (k2 : ∀ a', a' < a2 → ¬ Fit r2 n a' m2) : m = m2 ∧ a = a2 + s * m2 := by
  have g1 := (Fit.raise hr).mp f
  have g2 : Fit r n (a2 + s * m2) m2 := (Fit.raise (s := s) hr).mpr (by rw [show a2 + s * m2 - s * m2 = a2 by omega]; exact f2)
  have e : m = m2 := by
    rcases Int.lt_trichotomy m m2 with z | z | z
    · exact absurd g1 (k1 _ _ (by omega) z)
    · exact z
    · exact absurd g2 (l1 _ _ (by omega) z)
  subst e
  refine ⟨rfl, ?_⟩
  rcases Int.lt_trichotomy a (a2 + s * m) with z | z | z
  · exact absurd g1 (k2 _ (by omega))
  · exact z
  · exact absurd g2 (l2 _ z)
/-! prefix sums -/
def pre (ns : List Int) (k : Nat) : Int := (ns.take k).sum
def ps (ns : List Int) (L : Nat) : List Int := (List.range (L + 1)).map (pre ns)
theorem ps_len {ns : List Int} {L : Nat} : (ps ns L).length = L + 1 := by simp [ps]
theorem ps_get {ns : List Int} {L i : Nat} (h : i ≤ L) : (ps ns L)[i]? = some (pre ns i) := by
  unfold ps
  rw [List.getElem?_map, List.getElem?_range (by omega)]
  rfl
theorem pre_succ {ns : List Int} {k : Nat} (h : k < ns.length) : pre ns (k + 1) = pre ns k + ns.getD k 0 := by
  unfold pre
  have e : ns.take (k + 1) = ns.take k ++ [ns.getD k 0] := by
    rw [List.take_add_one, List.getElem?_eq_getElem h, List.getD_eq_getElem?_getD, List.getElem?_eq_getElem h]
    rfl
  rw [e, List.sum_append]
  simp only [List.sum_cons, List.sum_nil, Int.add_zero]
theorem pre_zero {ns : List Int} : pre ns 0 = 0 := rfl
theorem ps_zero {ns : List Int} : ps ns 0 = [0] := rfl
theorem ps_succ {ns : List Int} {L : Nat} (h : L < ns.length) : ps ns L ++ [pre ns L + ns.getD L 0] = ps ns (L + 1) := by
  rw [← pre_succ h]
  unfold ps
  rw [List.range_succ (n := L + 1), List.map_append]
  rfl
theorem pre_bounds {ns : List Int} {lo hi : Int} (h : ∀ n ∈ ns, lo ≤ n ∧ n ≤ hi) : ∀ {p q : Nat}, p ≤ q → q ≤ ns.length → lo * (q - p) ≤ pre ns q - pre ns p ∧ pre ns q - pre ns p ≤ hi * (q - p) := by
  intro p q hp hq
  induction q with
  | zero =>
    have : p = 0 := by omega
    subst this
    simp
  | succ q ih =>
    by_cases e : p = q + 1
    · subst e; simp
    · have i := ih (by omega) (by omega)
      rw [pre_succ (by omega)]
      have hm : ns.getD q 0 ∈ ns := by
        rw [List.getD_eq_getElem?_getD, List.getElem?_eq_getElem (by omega)]
        exact List.getElem_mem _
      have g := h _ hm
      have e1 : lo * (((q + 1 : Nat) : Int) - p) = lo * ((q : Int) - p) + lo := by rw [show ((q + 1 : Nat) : Int) - p = ((q : Int) - p) + 1 by omega, Int.mul_add, Int.mul_one]
      have e2 : hi * (((q + 1 : Nat) : Int) - p) = hi * ((q : Int) - p) + hi := by rw [show ((q + 1 : Nat) : Int) - p = ((q : Int) - p) + 1 by omega, Int.mul_add, Int.mul_one]
      omega
theorem pre_shift {ns : List Int} {s : Int} : ∀ {k : Nat}, k ≤ ns.length → pre ns k = pre (ns.map (· - s)) k + s * k := by
  intro k hk
  induction k with
  | zero => rw [pre_zero, pre_zero]; simp
  | succ k ih =>
    have h1 : k < ns.length := by omega
    rw [pre_succ h1, pre_succ (by rw [List.length_map]; exact h1), ih (by omega)]
    have e : (ns.map (· - s)).getD k 0 = ns.getD k 0 - s := by
      rw [List.getD_eq_getElem?_getD, List.getD_eq_getElem?_getD, List.getElem?_map, List.getElem?_eq_getElem h1]
      rfl
    rw [e, show ((k + 1 : Nat) : Int) = (k : Int) + 1 by omega, Int.mul_add, Int.mul_one]
    omega
theorem fit_one {s : Int} (hr : ∀ x, 0 ≤ x → x < n → r x = s * x) : Fit r n s 1 := fun p q h0 h1 h2 => by
  rw [hr q (by omega) h2, hr p h0 (by omega), Int.mul_sub]
  omega
theorem max_eq {r2 : Int → Int} {s a2 m b b2 : Int} (hr : ∀ x, 0 ≤ x → x < n → r x = r2 x + s * x) (hb : ∃ x, 0 ≤ x ∧ x < n ∧ b = r x * m - (a2 + s * m) * x) (hmax : ∀ x, 0 ≤ x → x < n → r x * m - (a2 + s * m) * x ≤ b)
    (hb2 : ∃ x, 0 ≤ x ∧ x < n ∧ b2 = r2 x * m - a2 * x) (hmax2 : ∀ x, 0 ≤ x → x < n → r2 x * m - a2 * x ≤ b2) : b = b2 := by
  have e : ∀ x, 0 ≤ x → x < n → r x * m - (a2 + s * m) * x = r2 x * m - a2 * x := fun x h0 h1 => by
    rw [hr x h0 h1, Int.add_mul, Int.add_mul, show s * x * m = s * m * x by ac_rfl]
    omega
  obtain ⟨x, h0, h1, rfl⟩ := hb
  obtain ⟨y, g0, g1, rfl⟩ := hb2
  have a1 := hmax y g0 g1
  have a2' := hmax2 x h0 h1
  rw [e x h0 h1] at a1 ⊢
  rw [e y g0 g1] at a1
  omega
/-! how many are at most day -/
def cnt (f : Nat → Int) (day : Int) (n : Nat) : Nat := ((List.range n).filter fun i => decide (f (i + 1) ≤ day)).length
theorem cnt_succ {f : Nat → Int} {day : Int} {n : Nat} : cnt f day (n + 1) = cnt f day n + (if f (n + 1) ≤ day then 1 else 0) := by
  unfold cnt
  rw [List.range_succ, List.filter_append, List.length_append]
  congr 1
  by_cases h : f (n + 1) ≤ day
  · simp [h]
  · simp [h]
theorem cnt_at {f : Nat → Int} {day : Int} (h0 : f 0 ≤ day) : ∀ n : Nat, (∀ i, i < n → f i < f (i + 1)) → cnt f day n ≤ n ∧ f (cnt f day n) ≤ day ∧ (cnt f day n < n → day < f (cnt f day n + 1))
  | 0, _ => ⟨Nat.le_refl _, h0, fun h => absurd h (Nat.not_lt_zero _)⟩
  | n + 1, inc => by
    obtain ⟨i1, i2, i3⟩ := cnt_at h0 n fun i hi => inc i (by omega)
    rw [cnt_succ]
    have mono : ∀ a b : Nat, a ≤ b → b ≤ n + 1 → f a ≤ f b := fun a b hab => by
      induction b with
      | zero => intro _; have : a = 0 := by omega
                subst this; exact Int.le_refl _
      | succ b ih =>
        intro hb
        by_cases e : a = b + 1
        · subst e; exact Int.le_refl _
        · have := ih (by omega) (by omega)
          have := inc b (by omega)
          omega
    by_cases h : f (n + 1) ≤ day
    · rw [if_pos h]
      have e : cnt f day n = n := by
        by_cases hc : cnt f day n < n
        · have a1 := i3 hc
          have a2 := mono (cnt f day n + 1) (n + 1) (by omega) (by omega)
          omega
        · omega
      rw [e]
      exact ⟨Nat.le_refl _, h, fun z => absurd z (Nat.lt_irrefl _)⟩
    · rw [if_neg h, Nat.add_zero]
      refine ⟨by omega, i2, fun z => ?_⟩
      by_cases hc : cnt f day n < n
      · exact i3 hc
      · have e : cnt f day n = n := by omega
        rw [e]
        omega
end W50
set_option Elab.async false
set_option linter.all false
set_option maxRecDepth 100000
set_option maxHeartbeats 4000000
set_option exponentiation.threshold 300
namespace LawW
open PySem PySem.Spec PyProof.Rows L2 QL
def topS (i : Nat) : Stmt := PySem.Challenge.pw_pointorstrip_k50_calendar_rows.main.body.getD i (.Pass ⟨0, 0, 0, 0⟩)
abbrev s_is_number : Stmt := topS 6
theorem sc_is_number : FnScope ["value"] ["value"] (defScope s_is_number) := ⟨rfl, rfl, rfl, by decide +kernel, rfl, by decide +kernel, by decide +kernel⟩
abbrev s_Line___init__ : Stmt := inClass (topS 8) 0
theorem sc_Line___init__ : FnScope ["self", "a", "b", "m", "value"] ["self", "a", "b", "m"] (defScope s_Line___init__) := ⟨rfl, rfl, rfl, by decide +kernel, rfl, by decide +kernel, by decide +kernel⟩
abbrev s_Line_at : Stmt := inClass (topS 8) 3
theorem sc_Line_at : FnScope ["self", "x"] ["self", "x"] (defScope s_Line_at) := ⟨rfl, rfl, rfl, by decide +kernel, rfl, by decide +kernel, by decide +kernel⟩
abbrev s_checked_row : Stmt := topS 11
theorem sc_checked_row : FnScope ["row", "value"] ["row"] (defScope s_checked_row) := ⟨rfl, rfl, rfl, by decide +kernel, rfl, by decide +kernel, by decide +kernel⟩
abbrev s_slope_above : Stmt := topS 12
theorem sc_slope_above : FnScope ["row", "pair", "first", "last"] ["row", "pair"] (defScope s_slope_above) := ⟨rfl, rfl, rfl, by decide +kernel, rfl, by decide +kernel, by decide +kernel⟩
abbrev s_slope_below : Stmt := topS 13
theorem sc_slope_below : FnScope ["row", "pair", "first", "last"] ["row", "pair"] (defScope s_slope_below) := ⟨rfl, rfl, rfl, by decide +kernel, rfl, by decide +kernel, by decide +kernel⟩
abbrev s_tightest : Stmt := topS 14
theorem sc_tightest : FnScope ["row", "low", "high", "last", "first", "one", "best"] ["row"] (defScope s_tightest) := ⟨rfl, rfl, rfl, by decide +kernel, rfl, by decide +kernel, by decide +kernel⟩
abbrev s_least_between : Stmt := topS 15
theorem sc_least_between : FnScope ["above", "below", "m", "number"] ["above", "below", "m"] (defScope s_least_between) := ⟨rfl, rfl, rfl, by decide +kernel, rfl, by decide +kernel, by decide +kernel⟩
abbrev s_Stairs___init__ : Stmt := inClass (topS 16) 0
theorem sc_Stairs___init__ : FnScope ["self", "line", "low", "high"] ["self", "line", "low", "high"] (defScope s_Stairs___init__) := ⟨rfl, rfl, rfl, by decide +kernel, rfl, by decide +kernel, by decide +kernel⟩
abbrev s_Crooked___init__ : Stmt := inClass (topS 17) 0
theorem sc_Crooked___init__ : FnScope ["self", "low", "high"] ["self", "low", "high"] (defScope s_Crooked___init__) := ⟨rfl, rfl, rfl, by decide +kernel, rfl, by decide +kernel, by decide +kernel⟩
abbrev s_least_offset : Stmt := topS 18
theorem sc_least_offset : FnScope ["row", "a", "m", "x", "number"] ["row", "a", "m"] (defScope s_least_offset) := ⟨rfl, rfl, rfl, by decide +kernel, rfl, by decide +kernel, by decide +kernel⟩
abbrev s_stairs : Stmt := topS 19
theorem sc_stairs : FnScope ["row", "low", "high", "above", "below", "m", "a"] ["row"] (defScope s_stairs) := ⟨rfl, rfl, rfl, by decide +kernel, rfl, by decide +kernel, by decide +kernel⟩
abbrev s_Spread___init__ : Stmt := inClass (topS 21) 0
theorem sc_Spread___init__ : FnScope ["self", "ticks", "slots", "ahead", "value"] ["self", "ticks", "slots", "ahead"] (defScope s_Spread___init__) := ⟨rfl, rfl, rfl, by decide +kernel, rfl, by decide +kernel, by decide +kernel⟩
abbrev s_Spread_line : Stmt := inClass (topS 21) 2
theorem sc_Spread_line : FnScope ["self"] ["self"] (defScope s_Spread_line) := ⟨rfl, rfl, rfl, by decide +kernel, rfl, by decide +kernel, by decide +kernel⟩
abbrev s_Spread_has : Stmt := inClass (topS 21) 4
theorem sc_Spread_has : FnScope ["self", "slot"] ["self", "slot"] (defScope s_Spread_has) := ⟨rfl, rfl, rfl, by decide +kernel, rfl, by decide +kernel, by decide +kernel⟩
abbrev s_spread_of : Stmt := topS 22
theorem sc_spread_of : FnScope ["row", "sums", "one", "told"] ["row"] (defScope s_spread_of) := ⟨rfl, rfl, rfl, by decide +kernel, rfl, by decide +kernel, by decide +kernel⟩
abbrev s__law_number : Stmt := topS 24
theorem sc__law_number : FnScope ["script", "index", "cell", "turn", "rest", "step", "blend"] ["script", "index"] (defScope s__law_number) := ⟨rfl, rfl, rfl, by decide +kernel, rfl, by decide +kernel, by decide +kernel⟩
abbrev s__law_take : Stmt := topS 25
theorem sc__law_take : FnScope ["draw", "many"] ["draw", "many"] (defScope s__law_take) := ⟨rfl, rfl, rfl, by decide +kernel, rfl, by decide +kernel, by decide +kernel⟩
abbrev s_law : Stmt := topS 26
theorem sc_law : FnScope ["script", "draw", "short", "many", "slots", "some", "lengths", "slot", "at", "sums", "length", "told", "spread", "line", "x", "day", "found", "one"] ["script"] (defScope s_law) := ⟨rfl, rfl, rfl, by decide +kernel, rfl, by decide +kernel, by decide +kernel⟩
structure Ad where
  c_Line : Addr
  c_Stairs : Addr
  c_Crooked : Addr
  c_Spread : Addr
  f_is_number : Addr
  d_is_number : FuncData
  f_Line___init__ : Addr
  d_Line___init__ : FuncData
  f_Line_at : Addr
  d_Line_at : FuncData
  f_checked_row : Addr
  d_checked_row : FuncData
  f_slope_above : Addr
  d_slope_above : FuncData
  f_slope_below : Addr
  d_slope_below : FuncData
  f_tightest : Addr
  d_tightest : FuncData
  f_least_between : Addr
  d_least_between : FuncData
  f_Stairs___init__ : Addr
  d_Stairs___init__ : FuncData
  f_Crooked___init__ : Addr
  d_Crooked___init__ : FuncData
  f_least_offset : Addr
  d_least_offset : FuncData
  f_stairs : Addr
  d_stairs : FuncData
  f_Spread___init__ : Addr
  d_Spread___init__ : FuncData
  f_Spread_line : Addr
  d_Spread_line : FuncData
  f_Spread_has : Addr
  d_Spread_has : FuncData
  f_spread_of : Addr
  d_spread_of : FuncData
  f__law_number : Addr
  d__law_number : FuncData
  f__law_take : Addr
  d__law_take : FuncData
  f_law : Addr
  d_law : FuncData
abbrev oLine (ad : Ad) (x0 x1 x2 : D) : D := .obj ad.c_Line ["a", "b", "m"] [x0, x1, x2]
abbrev oStairs (ad : Ad) (x0 x1 x2 : D) : D := .obj ad.c_Stairs ["line", "low", "high"] [x0, x1, x2]
abbrev oCrooked (ad : Ad) (x0 x1 : D) : D := .obj ad.c_Crooked ["low", "high"] [x0, x1]
abbrev oSpread (ad : Ad) (x0 x1 x2 : D) : D := .obj ad.c_Spread ["ticks", "slots", "ahead"] [x0, x1, x2]
def At_a (ad : Ad) (C : Addr) : Prop := C = ad.c_Line
theorem at_Line_a {ad : Ad} : At_a ad ad.c_Line = True := eq_true (rfl)
theorem fq_Line_a {ad : Ad} {x0 x1 x2 : D} {P : D → Prop} : fldQ (At_a ad) "a" (oLine ad x0 x1 x2) P = P x0 := fldQ_hit (rfl) (fld_hit)
def At_ahead (ad : Ad) (C : Addr) : Prop := C = ad.c_Spread
theorem at_Spread_ahead {ad : Ad} : At_ahead ad ad.c_Spread = True := eq_true (rfl)
theorem fq_Spread_ahead {ad : Ad} {x0 x1 x2 : D} {P : D → Prop} : fldQ (At_ahead ad) "ahead" (oSpread ad x0 x1 x2) P = P x2 := fldQ_hit (rfl) ((fld_miss (by decide +kernel)).trans ((fld_miss (by decide +kernel)).trans (fld_hit)))
def At_b (ad : Ad) (C : Addr) : Prop := C = ad.c_Line
theorem at_Line_b {ad : Ad} : At_b ad ad.c_Line = True := eq_true (rfl)
theorem fq_Line_b {ad : Ad} {x0 x1 x2 : D} {P : D → Prop} : fldQ (At_b ad) "b" (oLine ad x0 x1 x2) P = P x1 := fldQ_hit (rfl) ((fld_miss (by decide +kernel)).trans (fld_hit))
def At_high (ad : Ad) (C : Addr) : Prop := C = ad.c_Stairs ∨ C = ad.c_Crooked
theorem at_Stairs_high {ad : Ad} : At_high ad ad.c_Stairs = True := eq_true (.inl rfl)
theorem fq_Stairs_high {ad : Ad} {x0 x1 x2 : D} {P : D → Prop} : fldQ (At_high ad) "high" (oStairs ad x0 x1 x2) P = P x2 := fldQ_hit (.inl rfl) ((fld_miss (by decide +kernel)).trans ((fld_miss (by decide +kernel)).trans (fld_hit)))
theorem at_Crooked_high {ad : Ad} : At_high ad ad.c_Crooked = True := eq_true (.inr (rfl))
theorem fq_Crooked_high {ad : Ad} {x0 x1 : D} {P : D → Prop} : fldQ (At_high ad) "high" (oCrooked ad x0 x1) P = P x1 := fldQ_hit (.inr (rfl)) ((fld_miss (by decide +kernel)).trans (fld_hit))
def At_line (ad : Ad) (C : Addr) : Prop := C = ad.c_Stairs
theorem at_Stairs_line {ad : Ad} : At_line ad ad.c_Stairs = True := eq_true (rfl)
theorem fq_Stairs_line {ad : Ad} {x0 x1 x2 : D} {P : D → Prop} : fldQ (At_line ad) "line" (oStairs ad x0 x1 x2) P = P x0 := fldQ_hit (rfl) (fld_hit)
def At_low (ad : Ad) (C : Addr) : Prop := C = ad.c_Stairs ∨ C = ad.c_Crooked
theorem at_Stairs_low {ad : Ad} : At_low ad ad.c_Stairs = True := eq_true (.inl rfl)
theorem fq_Stairs_low {ad : Ad} {x0 x1 x2 : D} {P : D → Prop} : fldQ (At_low ad) "low" (oStairs ad x0 x1 x2) P = P x1 := fldQ_hit (.inl rfl) ((fld_miss (by decide +kernel)).trans (fld_hit))
theorem at_Crooked_low {ad : Ad} : At_low ad ad.c_Crooked = True := eq_true (.inr (rfl))
theorem fq_Crooked_low {ad : Ad} {x0 x1 : D} {P : D → Prop} : fldQ (At_low ad) "low" (oCrooked ad x0 x1) P = P x0 := fldQ_hit (.inr (rfl)) (fld_hit)
def At_m (ad : Ad) (C : Addr) : Prop := C = ad.c_Line
theorem at_Line_m {ad : Ad} : At_m ad ad.c_Line = True := eq_true (rfl)
theorem fq_Line_m {ad : Ad} {x0 x1 x2 : D} {P : D → Prop} : fldQ (At_m ad) "m" (oLine ad x0 x1 x2) P = P x2 := fldQ_hit (rfl) ((fld_miss (by decide +kernel)).trans ((fld_miss (by decide +kernel)).trans (fld_hit)))
def At_slots (ad : Ad) (C : Addr) : Prop := C = ad.c_Spread
theorem at_Spread_slots {ad : Ad} : At_slots ad ad.c_Spread = True := eq_true (rfl)
theorem fq_Spread_slots {ad : Ad} {x0 x1 x2 : D} {P : D → Prop} : fldQ (At_slots ad) "slots" (oSpread ad x0 x1 x2) P = P x1 := fldQ_hit (rfl) ((fld_miss (by decide +kernel)).trans (fld_hit))
def At_ticks (ad : Ad) (C : Addr) : Prop := C = ad.c_Spread
theorem at_Spread_ticks {ad : Ad} : At_ticks ad ad.c_Spread = True := eq_true (rfl)
theorem fq_Spread_ticks {ad : Ad} {x0 x1 x2 : D} {P : D → Prop} : fldQ (At_ticks ad) "ticks" (oSpread ad x0 x1 x2) P = P x0 := fldQ_hit (rfl) (fld_hit)
theorem pn_Line_a : putN "a" ([] : List Str) = (["a"] : List Str) := by decide +kernel
theorem px_Line_a { z : D} : putX "a" z ([] : List Str) [] = [z] := by
  rfl
theorem pn_Line_b : putN "b" (["a"] : List Str) = (["a", "b"] : List Str) := by decide +kernel
theorem px_Line_b {x0 z : D} : putX "b" z (["a"] : List Str) [x0] = [x0, z] := by
  rw [px_miss (by decide +kernel)]
  rfl
theorem pn_Line_m : putN "m" (["a", "b"] : List Str) = (["a", "b", "m"] : List Str) := by decide +kernel
theorem px_Line_m {x0 x1 z : D} : putX "m" z (["a", "b"] : List Str) [x0, x1] = [x0, x1, z] := by
  rw [px_miss (by decide +kernel), px_miss (by decide +kernel)]
  rfl
theorem pn_Stairs_line : putN "line" ([] : List Str) = (["line"] : List Str) := by decide +kernel
theorem px_Stairs_line { z : D} : putX "line" z ([] : List Str) [] = [z] := by
  rfl
theorem pn_Stairs_low : putN "low" (["line"] : List Str) = (["line", "low"] : List Str) := by decide +kernel
theorem px_Stairs_low {x0 z : D} : putX "low" z (["line"] : List Str) [x0] = [x0, z] := by
  rw [px_miss (by decide +kernel)]
  rfl
theorem pn_Stairs_high : putN "high" (["line", "low"] : List Str) = (["line", "low", "high"] : List Str) := by decide +kernel
theorem px_Stairs_high {x0 x1 z : D} : putX "high" z (["line", "low"] : List Str) [x0, x1] = [x0, x1, z] := by
  rw [px_miss (by decide +kernel), px_miss (by decide +kernel)]
  rfl
theorem pn_Crooked_low : putN "low" ([] : List Str) = (["low"] : List Str) := by decide +kernel
theorem px_Crooked_low { z : D} : putX "low" z ([] : List Str) [] = [z] := by
  rfl
theorem pn_Crooked_high : putN "high" (["low"] : List Str) = (["low", "high"] : List Str) := by decide +kernel
theorem px_Crooked_high {x0 z : D} : putX "high" z (["low"] : List Str) [x0] = [x0, z] := by
  rw [px_miss (by decide +kernel)]
  rfl
theorem pn_Spread_ticks : putN "ticks" ([] : List Str) = (["ticks"] : List Str) := by decide +kernel
theorem px_Spread_ticks { z : D} : putX "ticks" z ([] : List Str) [] = [z] := by
  rfl
theorem pn_Spread_slots : putN "slots" (["ticks"] : List Str) = (["ticks", "slots"] : List Str) := by decide +kernel
theorem px_Spread_slots {x0 z : D} : putX "slots" z (["ticks"] : List Str) [x0] = [x0, z] := by
  rw [px_miss (by decide +kernel)]
  rfl
theorem pn_Spread_ahead : putN "ahead" (["ticks", "slots"] : List Str) = (["ticks", "slots", "ahead"] : List Str) := by decide +kernel
theorem px_Spread_ahead {x0 x1 z : D} : putX "ahead" z (["ticks", "slots"] : List Str) [x0, x1] = [x0, x1, z] := by
  rw [px_miss (by decide +kernel), px_miss (by decide +kernel)]
  rfl
theorem oq_Line_at {ad : Ad} {x0 x1 x2 : D} {R : Prop} : objQ ad.c_Line "at" (oLine ad x0 x1 x2) R = R := objQ_hit ((fld_miss (by decide +kernel)).trans ((fld_miss (by decide +kernel)).trans ((fld_miss (by decide +kernel)).trans (rfl))))
theorem oq_Spread_line {ad : Ad} {x0 x1 x2 : D} {R : Prop} : objQ ad.c_Spread "line" (oSpread ad x0 x1 x2) R = R := objQ_hit ((fld_miss (by decide +kernel)).trans ((fld_miss (by decide +kernel)).trans ((fld_miss (by decide +kernel)).trans (rfl))))
theorem oq_Spread_has {ad : Ad} {x0 x1 x2 : D} {R : Prop} : objQ ad.c_Spread "has" (oSpread ad x0 x1 x2) R = R := objQ_hit ((fld_miss (by decide +kernel)).trans ((fld_miss (by decide +kernel)).trans ((fld_miss (by decide +kernel)).trans (rfl))))
structure Tx (K : PySem.W.Frag) (mg : Str → Option Value) (ad : Ad) : Prop where
  n_bool : mg "bool" = none
  n_enumerate : mg "enumerate" = none
  n_int : mg "int" = none
  n_isinstance : mg "isinstance" = none
  n_len : mg "len" = none
  n_list : mg "list" = none
  n_max : mg "max" = none
  n_range : mg "range" = none
  n_sum : mg "sum" = none
  n_tuple : mg "tuple" = none
  g_MOST_STAIRS : ∃ t, mg "MOST_STAIRS" = some (.int 200 t)
  g_Line : mg "Line" = some (.ref ad.c_Line)
  cl_Line : Cls K ad.c_Line
  na_Line_a : NoAttr K ad.c_Line "a"
  na_Line_b : NoAttr K ad.c_Line "b"
  na_Line_m : NoAttr K ad.c_Line "m"
  mk_Line : Mk K ad.c_Line ad.f_Line___init__
  isc_Line : IsC K ad.c_Line
  i_Line_Stairs : PySem.W.kitOne K (.ref ad.c_Line) (.ref ad.c_Stairs) = some false
  g_Stairs : mg "Stairs" = some (.ref ad.c_Stairs)
  cl_Stairs : Cls K ad.c_Stairs
  na_Stairs_line : NoAttr K ad.c_Stairs "line"
  na_Stairs_low : NoAttr K ad.c_Stairs "low"
  na_Stairs_high : NoAttr K ad.c_Stairs "high"
  mk_Stairs : Mk K ad.c_Stairs ad.f_Stairs___init__
  isc_Stairs : IsC K ad.c_Stairs
  i_Stairs_Stairs : PySem.W.kitOne K (.ref ad.c_Stairs) (.ref ad.c_Stairs) = some true
  g_Crooked : mg "Crooked" = some (.ref ad.c_Crooked)
  cl_Crooked : Cls K ad.c_Crooked
  na_Crooked_low : NoAttr K ad.c_Crooked "low"
  na_Crooked_high : NoAttr K ad.c_Crooked "high"
  mk_Crooked : Mk K ad.c_Crooked ad.f_Crooked___init__
  isc_Crooked : IsC K ad.c_Crooked
  i_Crooked_Stairs : PySem.W.kitOne K (.ref ad.c_Crooked) (.ref ad.c_Stairs) = some false
  g_Spread : mg "Spread" = some (.ref ad.c_Spread)
  cl_Spread : Cls K ad.c_Spread
  na_Spread_ticks : NoAttr K ad.c_Spread "ticks"
  na_Spread_slots : NoAttr K ad.c_Spread "slots"
  na_Spread_ahead : NoAttr K ad.c_Spread "ahead"
  mk_Spread : Mk K ad.c_Spread ad.f_Spread___init__
  isc_Spread : IsC K ad.c_Spread
  i_Spread_Stairs : PySem.W.kitOne K (.ref ad.c_Spread) (.ref ad.c_Stairs) = some false
  i_NoneType_Stairs : PySem.W.kitOne K (.type "NoneType") (.ref ad.c_Stairs) = some false
  me_Line_at : Meth K ad.c_Line "at" ad.f_Line_at
  me_Spread_line : Meth K ad.c_Spread "line" ad.f_Spread_line
  me_Spread_has : Meth K ad.c_Spread "has" ad.f_Spread_has
  F_is_number : Fun K "is_number" "is_number" s_is_number ad.f_is_number ad.d_is_number
  b_is_number : Binds K ad.d_is_number ["value"] []
  k_is_number : PySem.W.keepIn K (.ref ad.f_is_number) = true
  g_is_number : mg "is_number" = some (.ref ad.f_is_number)
  F_Line___init__ : Fun K "__init__" "Line.__init__" s_Line___init__ ad.f_Line___init__ ad.d_Line___init__
  b_Line___init__ : Binds K ad.d_Line___init__ ["self", "a", "b", "m"] []
  k_Line___init__ : PySem.W.keepIn K (.ref ad.f_Line___init__) = true
  F_Line_at : Fun K "at" "Line.at" s_Line_at ad.f_Line_at ad.d_Line_at
  b_Line_at : Binds K ad.d_Line_at ["self", "x"] []
  k_Line_at : PySem.W.keepIn K (.ref ad.f_Line_at) = true
  F_checked_row : Fun K "checked_row" "checked_row" s_checked_row ad.f_checked_row ad.d_checked_row
  b_checked_row : Binds K ad.d_checked_row ["row"] []
  k_checked_row : PySem.W.keepIn K (.ref ad.f_checked_row) = true
  g_checked_row : mg "checked_row" = some (.ref ad.f_checked_row)
  F_slope_above : Fun K "slope_above" "slope_above" s_slope_above ad.f_slope_above ad.d_slope_above
  b_slope_above : Binds K ad.d_slope_above ["row", "pair"] []
  k_slope_above : PySem.W.keepIn K (.ref ad.f_slope_above) = true
  g_slope_above : mg "slope_above" = some (.ref ad.f_slope_above)
  F_slope_below : Fun K "slope_below" "slope_below" s_slope_below ad.f_slope_below ad.d_slope_below
  b_slope_below : Binds K ad.d_slope_below ["row", "pair"] []
  k_slope_below : PySem.W.keepIn K (.ref ad.f_slope_below) = true
  g_slope_below : mg "slope_below" = some (.ref ad.f_slope_below)
  F_tightest : Fun K "tightest" "tightest" s_tightest ad.f_tightest ad.d_tightest
  b_tightest : Binds K ad.d_tightest ["row"] []
  k_tightest : PySem.W.keepIn K (.ref ad.f_tightest) = true
  g_tightest : mg "tightest" = some (.ref ad.f_tightest)
  F_least_between : Fun K "least_between" "least_between" s_least_between ad.f_least_between ad.d_least_between
  b_least_between : Binds K ad.d_least_between ["above", "below", "m"] []
  k_least_between : PySem.W.keepIn K (.ref ad.f_least_between) = true
  g_least_between : mg "least_between" = some (.ref ad.f_least_between)
  F_Stairs___init__ : Fun K "__init__" "Stairs.__init__" s_Stairs___init__ ad.f_Stairs___init__ ad.d_Stairs___init__
  b_Stairs___init__ : Binds K ad.d_Stairs___init__ ["self", "line", "low", "high"] []
  k_Stairs___init__ : PySem.W.keepIn K (.ref ad.f_Stairs___init__) = true
  F_Crooked___init__ : Fun K "__init__" "Crooked.__init__" s_Crooked___init__ ad.f_Crooked___init__ ad.d_Crooked___init__
  b_Crooked___init__ : Binds K ad.d_Crooked___init__ ["self", "low", "high"] []
  k_Crooked___init__ : PySem.W.keepIn K (.ref ad.f_Crooked___init__) = true
  F_least_offset : Fun K "least_offset" "least_offset" s_least_offset ad.f_least_offset ad.d_least_offset
  b_least_offset : Binds K ad.d_least_offset ["row", "a", "m"] []
  k_least_offset : PySem.W.keepIn K (.ref ad.f_least_offset) = true
  g_least_offset : mg "least_offset" = some (.ref ad.f_least_offset)
  F_stairs : Fun K "stairs" "stairs" s_stairs ad.f_stairs ad.d_stairs
  b_stairs : Binds K ad.d_stairs ["row"] []
  k_stairs : PySem.W.keepIn K (.ref ad.f_stairs) = true
  g_stairs : mg "stairs" = some (.ref ad.f_stairs)
  F_Spread___init__ : Fun K "__init__" "Spread.__init__" s_Spread___init__ ad.f_Spread___init__ ad.d_Spread___init__
  b_Spread___init__ : Binds K ad.d_Spread___init__ ["self", "ticks", "slots", "ahead"] []
  k_Spread___init__ : PySem.W.keepIn K (.ref ad.f_Spread___init__) = true
  F_Spread_line : Fun K "line" "Spread.line" s_Spread_line ad.f_Spread_line ad.d_Spread_line
  b_Spread_line : Binds K ad.d_Spread_line ["self"] []
  k_Spread_line : PySem.W.keepIn K (.ref ad.f_Spread_line) = true
  F_Spread_has : Fun K "has" "Spread.has" s_Spread_has ad.f_Spread_has ad.d_Spread_has
  b_Spread_has : Binds K ad.d_Spread_has ["self", "slot"] []
  k_Spread_has : PySem.W.keepIn K (.ref ad.f_Spread_has) = true
  F_spread_of : Fun K "spread_of" "spread_of" s_spread_of ad.f_spread_of ad.d_spread_of
  b_spread_of : Binds K ad.d_spread_of ["row"] []
  k_spread_of : PySem.W.keepIn K (.ref ad.f_spread_of) = true
  g_spread_of : mg "spread_of" = some (.ref ad.f_spread_of)
  F__law_number : Fun K "_law_number" "_law_number" s__law_number ad.f__law_number ad.d__law_number
  b__law_number : Binds K ad.d__law_number ["script", "index"] []
  k__law_number : PySem.W.keepIn K (.ref ad.f__law_number) = true
  g__law_number : mg "_law_number" = some (.ref ad.f__law_number)
  F__law_take : Fun K "_law_take" "_law_take" s__law_take ad.f__law_take ad.d__law_take
  b__law_take : Binds K ad.d__law_take ["draw", "many"] []
  k__law_take : PySem.W.keepIn K (.ref ad.f__law_take) = true
  g__law_take : mg "_law_take" = some (.ref ad.f__law_take)
  F_law : Fun K "law" "law" s_law ad.f_law ad.d_law
  b_law : Binds K ad.d_law ["script"] []
  k_law : PySem.W.keepIn K (.ref ad.f_law) = true
  g_law : mg "law" = some (.ref ad.f_law)
variable {P : Program} {w : World} {K : PySem.W.Frag} {mg : Str → Option Value} {base : Heap} {ad : Ad}
theorem hf_a (T : Tx K mg ad) : HasF K (At_a ad) "a" := fun C h => by
  rcases h with rfl
  · exact ⟨T.cl_Line, T.na_Line_a⟩
theorem hf_ahead (T : Tx K mg ad) : HasF K (At_ahead ad) "ahead" := fun C h => by
  rcases h with rfl
  · exact ⟨T.cl_Spread, T.na_Spread_ahead⟩
theorem hf_b (T : Tx K mg ad) : HasF K (At_b ad) "b" := fun C h => by
  rcases h with rfl
  · exact ⟨T.cl_Line, T.na_Line_b⟩
theorem hf_high (T : Tx K mg ad) : HasF K (At_high ad) "high" := fun C h => by
  rcases h with rfl | rfl
  · exact ⟨T.cl_Stairs, T.na_Stairs_high⟩
  · exact ⟨T.cl_Crooked, T.na_Crooked_high⟩
theorem hf_line (T : Tx K mg ad) : HasF K (At_line ad) "line" := fun C h => by
  rcases h with rfl
  · exact ⟨T.cl_Stairs, T.na_Stairs_line⟩
theorem hf_low (T : Tx K mg ad) : HasF K (At_low ad) "low" := fun C h => by
  rcases h with rfl | rfl
  · exact ⟨T.cl_Stairs, T.na_Stairs_low⟩
  · exact ⟨T.cl_Crooked, T.na_Crooked_low⟩
theorem hf_m (T : Tx K mg ad) : HasF K (At_m ad) "m" := fun C h => by
  rcases h with rfl
  · exact ⟨T.cl_Line, T.na_Line_m⟩
theorem hf_slots (T : Tx K mg ad) : HasF K (At_slots ad) "slots" := fun C h => by
  rcases h with rfl
  · exact ⟨T.cl_Spread, T.na_Spread_slots⟩
theorem hf_ticks (T : Tx K mg ad) : HasF K (At_ticks ad) "ticks" := fun C h => by
  rcases h with rfl
  · exact ⟨T.cl_Spread, T.na_Spread_ticks⟩
def Drw (d : D) : Prop := ∃ (ns : List Int) (k : Int), ns.length ≤ 63 ∧ d = .lst [.scr ns, .int k]
def S_number : FA := fun ds Q _ => match ds with
  | [.scr ns, .int _] => ns.length ≤ 63 ∧ ∀ r, Q (.int r)
  | _ => False
def M_take : FB := fun d0 ds Q _ => match ds with
  | [.int many] => Drw d0 ∧ 0 < many ∧ ∀ r d', 0 ≤ r → r < many → Drw d' → Q (.int r) d'
  | _ => False
def M_pick : FB := fun d0 ds Q _ => match ds with
  | [.lst xs] => Drw d0 ∧ (0 < xs.length ∧ xs.length ≤ 1000) ∧ ∀ r d', r ∈ xs → Drw d' → Q r d'
  | _ => False
def M_long : FB := fun d0 ds Q _ => match ds with
  | [.int f] => Drw d0 ∧ (0 ≤ f ∧ f ≤ 1000) ∧ ∀ r d', r.natAbs < 10 ^ f.toNat → Drw d' → Q (.int r) d'
  | _ => False
def S_law : FA := fun ds Q _ => ∃ ns, ds = [.scr ns] ∧ ns.length ≤ 63 ∧ Q (.bl true)
def S_num : FA := fun ds Q _ => match ds with
  | [d] => ∃ i, d = .int i ∧ Q (.bl true)
  | _ => False
def Sm (n : Nat) (i : Int) : Prop := i.natAbs < 2 ^ n
theorem u_num {d : D} {Q E : D → Prop} : S_num [d] Q E = (∃ i, d = .int i ∧ Q (.bl true)) := rfl
theorem u_number {ns : List Int} {i : Int} {Q E : D → Prop} : S_number [.scr ns, .int i] Q E = (ns.length ≤ 63 ∧ ∀ r, Q (.int r)) := rfl
theorem u_take {d0 : D} {i : Int} {Q E : D → D → Prop} : M_take d0 [.int i] Q E = (Drw d0 ∧ 0 < i ∧ ∀ r d', 0 ≤ r → r < i → Drw d' → Q (.int r) d') := rfl
theorem u_pick {d0 : D} {xs : List D} {Q E : D → D → Prop} : M_pick d0 [.lst xs] Q E = (Drw d0 ∧ (0 < xs.length ∧ xs.length ≤ 1000) ∧ ∀ r d', r ∈ xs → Drw d' → Q r d') := rfl
theorem u_long {d0 : D} {f : Int} {Q E : D → D → Prop} : M_long d0 [.int f] Q E = (Drw d0 ∧ (0 ≤ f ∧ f ≤ 1000) ∧ ∀ r d', r.natAbs < 10 ^ f.toNat → Drw d' → Q (.int r) d') := rfl
theorem u_numI {i : Int} {Q E : D → Prop} : S_num [.int i] Q E = Q (.bl true) := propext ⟨fun ⟨_, _, q⟩ => q, fun q => ⟨_, rfl, q⟩⟩
theorem if_nt {a b : Prop} : (if (!true) = true then a else b) = b := if_neg (by decide)
theorem if_nf {a b : Prop} : (if (!false) = true then a else b) = a := if_pos (by decide)
theorem if_tt {a b : Prop} : (if true = true then a else b) = a := if_pos rfl
theorem if_ff {a b : Prop} : (if false = true then a else b) = b := if_neg (by decide)
local macro_rules | `(tactic| walk_at "q") => `(tactic| (try simp -implicitDefEqProofs only [↓QL.e_own0, ↓QL.e_c, ↓QL.e_var, ↓QL.e_varO, ↓QL.e_valQ, ↓QL.e_ownQ, ↓QL.e_anyV, ↓QL.e_anyO, ↓QL.e_get0, ↓QL.e_getS, ↓QL.e_put0, ↓QL.e_putS, ↓QL.e_noN, ↓QL.e_noC, ↓QL.e_noU, ↓QL.e_noV, ↓QL.e_wipN, ↓QL.e_wipC, ↓QL.e_bakN, ↓QL.e_bakC, ↓QL.e_ownN, ↓QL.e_op, ↓QL.e_un, ↓QL.e_tst, ↓QL.e_bq, ↓QL.e_tru, ↓QL.e_notT, ↓QL.e_andT, ↓QL.e_orT, ↓QL.e_and, ↓QL.e_or, ↓QL.e_not, ↓QL.e_tqB, ↓QL.e_tqI, ↓QL.e_tqN, ↓QL.e_tqL, ↓QL.e_tqT, ↓QL.e_if, ↓QL.e_chain, ↓QL.e_nil, ↓QL.e_cons, ↓QL.e_tup, ↓QL.e_lst, ↓QL.e_ixO, ↓QL.e_call, ↓QL.e_callM, ↓QL.e_cb, ↓QL.e_snil, ↓QL.e_seq, ↓QL.e_asg, ↓QL.e_own, ↓QL.e_drop, ↓QL.e_ret, ↓QL.e_retN, ↓QL.e_sif, ↓QL.e_brk, ↓QL.e_cnt, ↓QL.e_nev, ↓QL.e_gn, ↓QL.e_gnil, ↓QL.e_gcons, ↓QL.e_gt, ↓QL.e_par, ↓QL.e_par3, ↓QL.e_aug, ↓QL.e_lstQ, ↓QL.e_app, ↓QL.e_intQ, ↓QL.e_augI, ↓QL.e_for, ↓QL.e_forN, ↓QL.e_forC, ↓QL.e_lc, ↓QL.e_riL, ↓QL.e_riT, ↓QL.e_riR1, ↓QL.e_riR2, ↓QL.e_riE, ↓QL.e_riZ, ↓QL.e_yes, ↓QL.o_add, ↓QL.o_addL, ↓QL.o_addT, ↓QL.o_addLL, ↓QL.o_sub, ↓QL.o_mul, ↓QL.o_div, ↓QL.o_mod, ↓QL.o_pow, ↓QL.o_shl, ↓QL.o_shr, ↓QL.o_neg, ↓QL.o_lt, ↓QL.o_le, ↓QL.o_gt, ↓QL.o_ge, ↓QL.o_eq, ↓QL.o_ne, ↓QL.o_iadd, ↓QL.o_isub, ↓QL.o_ixL, ↓QL.o_ixT, ↓QL.o_ixS, ↓QL.o_lenL, ↓QL.o_lenT, ↓QL.o_lenS, ↓QL.o_abs, ↓QL.o_int, ↓QL.o_max, ↓QL.o_min, ↓QL.o_sum, ↓QL.o_neS, ↓QL.o_ord2, ↓QL.o_gtT, ↓QL.o_geT, ↓QL.o_ltT, ↓QL.o_leT, ↓QL.o_eqTn, ↓QL.o_eqT2, ↓QL.o_eqT3, ↓QL.o_eqLn, ↓QL.o_neTn, ↓QL.o_neT2, ↓QL.o_neT3, ↓QL.o_neLn, ↓QL.e_fld, ↓QL.e_fldO, ↓QL.e_fldQ, ↓QL.e_objO, ↓QL.e_fldS, ↓QL.e_make, ↓QL.e_meth, ↓QL.e_objQ, ↓QL.o_isiO, ↓QL.e_riEA, ↓QL.e_riZA, ↓QL.e_riR3, ↓QL.e_sli, ↓QL.e_roN, ↓QL.e_roS, ↓QL.o_sliL, ↓QL.o_sliT, ↓QL.e_ixA, ↓QL.o_inIT, ↓QL.o_inIL, ↓QL.e_isiT, ↓QL.e_ix0, ↓QL.e_ix1, ↓QL.e_ix2, ↓QL.o_maxL, ↓QL.o_minL, ↓QL.o_tupL, ↓QL.o_tupT, ↓QL.o_listL, ↓QL.o_listT, ↓QL.o_intB, ↓QL.o_allL, ↓QL.o_anyL, ↓QL.o_isN, ↓QL.o_isNI, ↓QL.o_isNN, ↓QL.o_isNT, ↓QL.o_isNL, ↓QL.o_ntN, ↓QL.o_ntNI, ↓QL.o_ntNN, ↓QL.o_ntNT, ↓QL.o_ntNL, ↓QL.e_stP, ↓u_num, ↓u_number, ↓u_take, ↓u_pick, ↓u_long, List.map_cons, List.map_nil, Bool.and_true, Bool.and_self, List.length_cons, List.length_nil]))
theorem ok_is_number (T : Tx K mg ad) : FnOk P w K mg base (L2.CX P w) 1 ad.f_is_number ad.d_is_number ["value"] (spA K 1 (S_num)) := by
  refine fnA (k := 0) T.F_is_number sc_is_number fun cdv A outer s H F0 E EX hr tk => ⟨_, (qs_one (qs_ret (q_and (q_callB qc_isiB (by rfl) T.n_isinstance bt_isinstance (qa_cons (q_var (pv 0)) (qa_cons (q_raw (pe_bltn (v := .ty "int") (by rfl) T.n_int bt_int rfl)) qa_nil))) (q_one (q_not (q_callB qc_isiB (by rfl) T.n_isinstance bt_isinstance (qa_cons (q_var (pv 0)) (qa_cons (q_raw (pe_bltn (v := .ty "bool") (by rfl) T.n_bool bt_bool rfl)) qa_nil)))))))), fun ds Q hn h => ?_⟩
  unfold S_num at h
  split at h
  rotate_left
  · exact h.elim
  obtain ⟨i, rfl, q⟩ := h
  show sRet _ _ [.val (.int i)]
  walk_at "q"
  refine ⟨_, _, rfl, (by decide +kernel : kitB "int" "int" = some true), ?_⟩
  walk_at "q"
  rw [if_pos trivial]
  exact ⟨_, _, rfl, (by decide +kernel : kitB "int" "bool" = some false), q⟩
theorem ok__law_number (T : Tx K mg ad) : FnOk P w K mg base (L2.CX P w) 1 ad.f__law_number ad.d__law_number ["script", "index"] (spA K 2 (S_number)) := by
  refine fnA (k := 0) T.F__law_number sc__law_number fun cdv A outer s H F0 E EX hr tk => ⟨_, (qs_cons (qs_asg (q_cut (q_if (qt_cmp (qo_ne hr.units) (q_var (pv 0)) (q_lst qa_nil)) (q_tup (qa_cons (q_ix (q_var (pv 0)) (q_op qo_mod (q_var (pv 1)) (q_callB qc_len (by rfl) T.n_len bt_len (qa_cons (q_var (pv 0)) qa_nil)))) (qa_cons (q_op qo_div (q_var (pv 1)) (q_callB qc_len (by rfl) T.n_len bt_len (qa_cons (q_var (pv 0)) qa_nil))) qa_nil))) (q_tup (qa_cons q_int (qa_cons q_int qa_nil))))) (qg_t (n := 2) rfl (qgs_cons (qg_n (pg_name (i := 2) sc__law_number.nd rfl (.inl rfl)) (.inl rfl)) (qgs_cons (qg_n (pg_name (i := 3) sc__law_number.nd rfl (.inl rfl)) (.inl rfl)) qgs_nil))))
      (qs_cons (qs_set (i := 4) sc__law_number.nd rfl (.inl rfl) (.inl rfl) (q_cut (q_if (qt_cmp qo_lt (q_var (pv 3)) q_int) (q_op qo_sub (q_var (pv 2)) (q_op qo_pow q_int q_int)) q_int)))
      (qs_cons (qs_for PassesOwn.leaving rfl (qi_r1 (by rfl) T.n_range (qa_cons (q_op qo_mod (q_callTy qc_int (by rfl) T.n_int bt_int (qa_cons (q_var (pv 3)) qa_nil)) q_int) qa_nil)) (qg_n (pg_name (i := 5) sc__law_number.nd rfl (.inl rfl)) (.inl rfl)) (qs_one (qs_set (i := 4) sc__law_number.nd rfl (.inl rfl) (.inl rfl) (q_op qo_div (q_var (pv 4)) q_int))))
      (qs_cons (qs_if (qt_cmp qo_gt (q_var (pv 4)) q_int) (qs_one (qs_ret (q_op qo_mod (q_callTy qc_int (by rfl) T.n_int bt_int (qa_cons (q_var (pv 4)) qa_nil)) q_int))) qs_nil)
      (qs_cons (qs_set (i := 6) sc__law_number.nd rfl (.inl rfl) (.inl rfl) (q_op qo_mod (q_op qo_add (q_op qo_mul (q_callTy qc_int (by rfl) T.n_int bt_int (qa_cons (q_op qo_add (q_var (pv 2)) (q_op qo_mul q_int (q_var (pv 1)))) qa_nil)) q_int) (q_op qo_mul q_int (q_callB qc_len (by rfl) T.n_len bt_len (qa_cons (q_var (pv 0)) qa_nil)))) q_int))
      (qs_cons (qs_set (i := 6) sc__law_number.nd rfl (.inl rfl) (.inl rfl) (q_op qo_mod (q_op qo_add (q_op qo_mul (q_var (pv 6)) (q_var (pv 6))) (q_op qo_mul q_int (q_var (pv 1)))) q_int))
      (qs_one (qs_ret (q_callTy qc_int (by rfl) T.n_int bt_int (qa_cons (q_op qo_mod (q_op qo_add (q_op qo_mul (q_var (pv 6)) q_int) (q_op qo_div (q_var (pv 6)) q_int)) q_int) qa_nil)))))))))), fun ds Q hn h => ?_⟩
  unfold S_number at h
  split at h
  rotate_left
  · exact h.elim
  rename_i ns i
  obtain ⟨hl, q⟩ := h
  show sSeq _ _ _ [.val (.scr ns), .val (.int i), .un, .un, .un, .un, .un]
  walk_at "q"
  refine ⟨fun d env' => env' = [.val (.scr ns), .val (.int i), .un, .un, .un, .un, .un] ∧ ∃ c t, d = .tup [.int c, .int t], ?_, ?_⟩
  · walk_at "q"
    refine ⟨Nat.zero_le _, ?_⟩
    split
    · rename_i h0
      have hp : 0 < ns.length := by
        cases ns with
        | nil => simp at h0
        | cons _ _ => exact Nat.succ_pos _
      have hm := Int.emod_nonneg i (show (ns.length : Int) ≠ 0 by omega)
      have hm2 := Int.emod_lt_of_pos i (show 0 < (ns.length : Int) by omega)
      obtain ⟨n, hn, _⟩ := atI_get_nat hm hm2
      exact ⟨by omega, n, hn, DOk.small (by omega) (by omega), (by decide), trivial, _, _, rfl⟩
    · exact ⟨(by decide), trivial, _, _, rfl⟩
  rintro d env' ⟨rfl, c, t, rfl⟩
  walk_at "q"
  refine ⟨trivial, ?_⟩
  refine ⟨fun d env' => env' = [.val (.scr ns), .val (.int i), .val (.int c), .val (.int t), .un, .un, .un] ∧ ∃ r, d = .int r, ?_, ?_⟩
  · walk_at "q"
    split
    · exact ⟨by decide, trivial, _, rfl⟩
    · exact ⟨trivial, _, rfl⟩
  rintro d env' ⟨rfl, r, rfl⟩
  walk_at "q"
  have hm := Int.emod_nonneg t (show (60 : Int) ≠ 0 by decide)
  have hm2 := Int.emod_lt_of_pos t (show (0 : Int) < 60 by decide)
  refine ⟨by decide, ⟨by omega, by omega⟩, ?_⟩
  refine forR_rng (fun _ env => ∃ r s, env = [.val (.scr ns), .val (.int i), .val (.int c), .val (.int t), .val (.int r), s, .un]) ⟨r, .un, rfl⟩ ?_ ?_
  · rintro k env N hk ⟨r, s, rfl⟩ hN
    walk_at "q"
    exact ⟨DOk.small (by decide) (by decide), hN _ ⟨_, _, rfl⟩⟩
  · rintro env ⟨r, s, rfl⟩
    walk_at "q"
    split
    · exact ⟨by decide, q _⟩
    · have hb := Int.emod_nonneg ((c + 977 * i) * 48271 + 31 * (ns.length : Int)) (show (2147483647 : Int) ≠ 0 by decide)
      have hb2 := Int.emod_lt_of_pos ((c + 977 * i) * 48271 + 31 * (ns.length : Int)) (show (0 : Int) < 2147483647 by decide)
      exact ⟨.l (by decide) (by decide), .r (by decide) (by decide), .l (by decide) (by decide), by decide, .l (by omega) (by omega), .l (by decide) (by decide), by decide, .r (by decide) (by decide), DOk.small (by decide) (by decide), by decide, q _⟩
theorem ok__law_take (T : Tx K mg ad) : FnOk P w K mg base (L2.CX P w) 2 ad.f__law_take ad.d__law_take ["draw", "many"] (spB K 1 (M_take)) := by
  have G__law_number := ok__law_number (P := P) (w := w) (base := base) T
  refine fnB (k := 1) T.F__law_take sc__law_take rfl fun cdv A outer s H B F0 a E EX hr tk => ⟨_, (qs_cons (qs_augI (pv 0) q_int qip_add q_int)
      (qs_one (qs_ret (q_op qo_mod (q_callTy qc_int (by rfl) T.n_int bt_int (qa_cons (q_call G__law_number (hr.mono (by decide)) (by rfl) T.g__law_number T.k__law_number T.b__law_number tkE0 (qa_cons (q_ixO (pv 0) q_int) (qa_cons (q_callTy qc_int (by rfl) T.n_int bt_int (qa_cons (q_ixO (pv 0) q_int) qa_nil)) qa_nil))) qa_nil)) (q_var (pv 1)))))), fun d0 ds Q hn h => ?_⟩
  unfold M_take at h
  split at h
  rotate_left
  · exact h.elim
  rename_i many
  show sSeq _ _ _ [.own d0, .val (.int many)]
  obtain ⟨⟨ns, k, hns, rfl⟩, hm, q⟩ := h
  walk_at "q"
  first | (refine ⟨.int k, rfl, ?_⟩; walk_at "q") | skip
  refine ⟨1, rfl, .scr ns, rfl, .int (k + 1), rfl, ?_⟩
  walk_at "q"
  refine ⟨trivial, hns, fun r => ?_⟩
  walk_at "q"
  exact ⟨hm, q _ _ (Int.emod_nonneg _ (by omega)) (Int.emod_lt_of_pos _ hm) ⟨ns, k + 1, hns, rfl⟩⟩
def M_Line (ad : Ad) : FB := fun d0 ds Q _ => match ds with
  | [.int a, .int b, .int m] => d0 = .obj ad.c_Line [] [] ∧ 1 ≤ m ∧ Q .non (oLine ad (.int a) (.int b) (.int m))
  | _ => False
def S_at (ad : Ad) : FA := fun ds Q _ => match ds with
  | [d, .int x] => ∃ a b m, d = oLine ad (.int a) (.int b) (.int m) ∧ (MOk a x ∧ DOk m) ∧ Q (.int ((a * x + b) / m))
  | _ => False
/-- the k-th number -/
def nth (ns : List Int) (i : Int) : Int := ns.getD i.toNat 0
def In (ns : List Int) (i : Int) : Prop := 0 ≤ i ∧ i < ns.length
def S_checked : FA := fun ds Q _ => match ds with
  | [.lst xs] => ∃ ns, allInts xs = some ns ∧ (2 ≤ ns.length ∧ ns.length ≤ 200) ∧ Q (.tup (ns.map D.int))
  | _ => False
def S_slA : FA := fun ds Q _ => match ds with
  | [.tup xs, .tup [.int i, .int j]] => ∃ ns, allInts xs = some ns ∧ (In ns i ∧ In ns j) ∧ Q (.tup [.int (nth ns j - nth ns i - 1), .int (j - i)])
  | _ => False
def S_slB : FA := fun ds Q _ => match ds with
  | [.tup xs, .tup [.int i, .int j]] => ∃ ns, allInts xs = some ns ∧ (In ns i ∧ In ns j) ∧ Q (.tup [.int (nth ns j - nth ns i + 1), .int (j - i)])
  | _ => False
def S_between : FA := fun ds Q _ => match ds with
  | [.tup [.int a0, .int a1], .tup [.int b0, .int b1], .int m] => (0 < a1 ∧ 0 < b1 ∧ 0 < m ∧ Sm 90 a0 ∧ Sm 90 a1 ∧ Sm 90 b0 ∧ Sm 90 b1 ∧ Sm 90 m) ∧ Q (if (a0 * m / a1 + 1) * b1 < b0 * m then .int (a0 * m / a1 + 1) else .non)
  | _ => False
def M_Stairs (ad : Ad) : FB := fun d0 ds Q _ => match ds with
  | [l, a, b] => d0 = .obj ad.c_Stairs [] [] ∧ Q .non (oStairs ad l a b)
  | _ => False
def M_Crooked (ad : Ad) : FB := fun d0 ds Q _ => match ds with
  | [a, b] => d0 = .obj ad.c_Crooked [] [] ∧ Q .non (oCrooked ad a b)
  | _ => False
def M_Spread (ad : Ad) : FB := fun d0 ds Q _ => match ds with
  | [.int t, .int s, .int h] => d0 = .obj ad.c_Spread [] [] ∧ (1 ≤ t ∧ t ≤ s ∧ 0 ≤ h ∧ h < s) ∧ Q .non (oSpread ad (.int t) (.int s) (.int h))
  | _ => False
def S_offset : FA := fun ds Q _ => match ds with
  | [.tup xs, .int a, .int m] => ∃ ns, allInts xs = some ns ∧ (0 < ns.length ∧ ns.length ≤ 200 ∧ Sm 90 a ∧ Sm 90 m ∧ ∀ n ∈ ns, Sm 90 n) ∧ ∀ b, (∃ i : Nat, i < ns.length ∧ b = ns.getD i 0 * m - a * i) → (∀ i : Nat, i < ns.length → ns.getD i 0 * m - a * i ≤ b) → Q (.int b)
  | _ => False
def S_tight : FA := fun ds Q _ => match ds with
  | [.tup xs] => ∃ ns, allInts xs = some ns ∧ (2 ≤ ns.length ∧ ns.length ≤ 200 ∧ ∀ n ∈ ns, Sm 50 n) ∧ ∀ i j k l, W50.Cov (nth ns) ns.length (fun p q => 0 ≤ p ∧ q < ns.length) i j k l → Q (.tup [.tup [.int i, .int j], .tup [.int k, .int l]])
  | _ => False
def Told (ad : Ad) (ns : List Int) (d : D) : Prop := (∃ p q, d = oCrooked ad p q ∧ ∀ a m, 0 < m → ¬ W50.Fit (nth ns) ns.length a m) ∨
  (∃ a b m p q, d = oStairs ad (oLine ad (.int a) (.int b) (.int m)) p q ∧ (1 ≤ m ∧ m ≤ 80000) ∧ W50.Fit (nth ns) ns.length a m ∧ (∀ a' m', 0 < m' → m' < m → ¬ W50.Fit (nth ns) ns.length a' m') ∧ (∀ a', a' < a → ¬ W50.Fit (nth ns) ns.length a' m) ∧
    (∃ x : Int, 0 ≤ x ∧ x < ns.length ∧ b = nth ns x * m - a * x) ∧ ∀ x : Int, 0 ≤ x → x < ns.length → nth ns x * m - a * x ≤ b)
def S_stairs (ad : Ad) : FA := fun ds Q _ => match ds with
  | [.lst xs] => ∃ ns, allInts xs = some ns ∧ (2 ≤ ns.length ∧ ns.length ≤ 200 ∧ ∀ n ∈ ns, Sm 50 n) ∧ ∀ d, Told ad ns d → Q d
  | _ => False
def S_sline (ad : Ad) : FA := fun ds Q _ => match ds with
  | [d] => ∃ t s h, d = oSpread ad (.int t) (.int s) (.int h) ∧ 1 ≤ s ∧ Q (oLine ad (.int t) (.int h) (.int s))
  | _ => False
def S_has (ad : Ad) : FA := fun ds Q _ => match ds with
  | [d, .int x] => ∃ t s h, d = oSpread ad (.int t) (.int s) (.int h) ∧ (1 ≤ s ∧ s ≤ 1000 ∧ 0 ≤ x ∧ x ≤ 1000) ∧ Q (.bl (decide ((t * x + h) / s < (t * (x + 1) + h) / s)))
  | _ => False
def SpOf (ad : Ad) (ns : List Int) (d : D) : Prop := (W50.pre ns ns.length = 0 ∧ d = oSpread ad (.int 1) (.int (ns.length + 1)) (.int 0)) ∨
  (W50.pre ns ns.length ≠ 0 ∧ ∃ told, Told ad (W50.ps ns ns.length) told ∧ ((∃ p q, told = oCrooked ad p q ∧ d = .non) ∨ ∃ a b m p q, told = oStairs ad (oLine ad (.int a) (.int b) (.int m)) p q ∧ d = oSpread ad (.int a) (.int m) (.int b)))
def S_spof (ad : Ad) : FA := fun ds Q _ => match ds with
  | [.lst xs] => ∃ ns, allInts xs = some ns ∧ (1 ≤ ns.length ∧ ns.length ≤ 199 ∧ ∀ n ∈ ns, 0 ≤ n ∧ n ≤ 1) ∧ ∀ d, SpOf ad ns d → Q d
  | _ => False
def S_any : FA := fun _ _ _ => True
def M_any : FB := fun _ _ _ _ => True
theorem u_checked {xs : List D} {Q E : D → Prop} : S_checked [.lst xs] Q E = (∃ ns, allInts xs = some ns ∧ (2 ≤ ns.length ∧ ns.length ≤ 200) ∧ Q (.tup (ns.map D.int))) := rfl
theorem u_slA {ns : List Int} {i j : Int} {Q E : D → Prop} : S_slA [.tup (ns.map D.int), .tup [.int i, .int j]] Q E = ((In ns i ∧ In ns j) ∧ Q (.tup [.int (nth ns j - nth ns i - 1), .int (j - i)])) := propext
  ⟨fun ⟨ns', e, q⟩ => by rw [allInts_map] at e; cases e; exact q, fun q => ⟨ns, allInts_map ns, q⟩⟩
theorem u_slB {ns : List Int} {i j : Int} {Q E : D → Prop} : S_slB [.tup (ns.map D.int), .tup [.int i, .int j]] Q E = ((In ns i ∧ In ns j) ∧ Q (.tup [.int (nth ns j - nth ns i + 1), .int (j - i)])) := propext
  ⟨fun ⟨ns', e, q⟩ => by rw [allInts_map] at e; cases e; exact q, fun q => ⟨ns, allInts_map ns, q⟩⟩
theorem u_between {a0 a1 b0 b1 m : Int} {Q E : D → Prop} : S_between [.tup [.int a0, .int a1], .tup [.int b0, .int b1], .int m] Q E = ((0 < a1 ∧ 0 < b1 ∧ 0 < m ∧ Sm 90 a0 ∧ Sm 90 a1 ∧ Sm 90 b0 ∧ Sm 90 b1 ∧ Sm 90 m) ∧ Q (if (a0 * m / a1 + 1) * b1 < b0 * m then .int (a0 * m / a1 + 1) else .non)) := rfl
theorem u_Stairs {ad : Ad} {l a b : D} {Q E : D → D → Prop} : M_Stairs ad (.obj ad.c_Stairs [] []) [l, a, b] Q E = Q .non (oStairs ad l a b) := propext ⟨fun h => h.2, fun h => ⟨rfl, h⟩⟩
theorem u_Crooked {ad : Ad} {a b : D} {Q E : D → D → Prop} : M_Crooked ad (.obj ad.c_Crooked [] []) [a, b] Q E = Q .non (oCrooked ad a b) := propext ⟨fun h => h.2, fun h => ⟨rfl, h⟩⟩
theorem u_Spread {ad : Ad} {t s h : Int} {Q E : D → D → Prop} : M_Spread ad (.obj ad.c_Spread [] []) [.int t, .int s, .int h] Q E = ((1 ≤ t ∧ t ≤ s ∧ 0 ≤ h ∧ h < s) ∧ Q .non (oSpread ad (.int t) (.int s) (.int h))) := propext ⟨fun h => h.2, fun h => ⟨rfl, h⟩⟩
theorem u_offset {ns : List Int} {a m : Int} {Q E : D → Prop} : S_offset [.tup (ns.map D.int), .int a, .int m] Q E = ((0 < ns.length ∧ ns.length ≤ 200 ∧ Sm 90 a ∧ Sm 90 m ∧ ∀ n ∈ ns, Sm 90 n) ∧ ∀ b, (∃ i : Nat, i < ns.length ∧ b = ns.getD i 0 * m - a * i) → (∀ i : Nat, i < ns.length → ns.getD i 0 * m - a * i ≤ b) → Q (.int b)) := propext
  ⟨fun ⟨ns', e, q⟩ => by rw [allInts_map] at e; cases e; exact q, fun q => ⟨ns, allInts_map ns, q⟩⟩
theorem u_tight {ns : List Int} {Q E : D → Prop} : S_tight [.tup (ns.map D.int)] Q E = ((2 ≤ ns.length ∧ ns.length ≤ 200 ∧ ∀ n ∈ ns, Sm 50 n) ∧ ∀ i j k l, W50.Cov (nth ns) ns.length (fun p q => 0 ≤ p ∧ q < ns.length) i j k l → Q (.tup [.tup [.int i, .int j], .tup [.int k, .int l]])) := propext
  ⟨fun ⟨ns', e, q⟩ => by rw [allInts_map] at e; cases e; exact q, fun q => ⟨ns, allInts_map ns, q⟩⟩
theorem u_stairs {ad : Ad} {ns : List Int} {Q E : D → Prop} : S_stairs ad [.lst (ns.map D.int)] Q E = ((2 ≤ ns.length ∧ ns.length ≤ 200 ∧ ∀ n ∈ ns, Sm 50 n) ∧ ∀ d, Told ad ns d → Q d) := propext
  ⟨fun ⟨ns', e, q⟩ => by rw [allInts_map] at e; cases e; exact q, fun q => ⟨ns, allInts_map ns, q⟩⟩
theorem isN_ite {c : Prop} [Decidable c] {x : Int} {P : D → Prop} : vIsN (if c then .int x else .non) .non P = P (.bl (!decide c)) := by
  by_cases h : c
  · rw [if_pos h, decide_eq_true h]; rfl
  · rw [if_neg h, decide_eq_false h]; rfl
theorem u_sline {ad : Ad} {t s h : Int} {Q E : D → Prop} : S_sline ad [oSpread ad (.int t) (.int s) (.int h)] Q E = (1 ≤ s ∧ Q (oLine ad (.int t) (.int h) (.int s))) := propext
  ⟨fun ⟨a', b', m', h, q⟩ => by cases h; exact q, fun q => ⟨_, _, _, rfl, q⟩⟩
theorem u_has {ad : Ad} {t s h x : Int} {Q E : D → Prop} : S_has ad [oSpread ad (.int t) (.int s) (.int h), .int x] Q E = ((1 ≤ s ∧ s ≤ 1000 ∧ 0 ≤ x ∧ x ≤ 1000) ∧ Q (.bl (decide ((t * x + h) / s < (t * (x + 1) + h) / s)))) := propext
  ⟨fun ⟨a', b', m', h, q⟩ => by cases h; exact q, fun q => ⟨_, _, _, rfl, q⟩⟩
theorem u_spof {ad : Ad} {ns : List Int} {Q E : D → Prop} : S_spof ad [.lst (ns.map D.int)] Q E = ((1 ≤ ns.length ∧ ns.length ≤ 199 ∧ ∀ n ∈ ns, 0 ≤ n ∧ n ≤ 1) ∧ ∀ d, SpOf ad ns d → Q d) := propext
  ⟨fun ⟨ns', e, q⟩ => by rw [allInts_map] at e; cases e; exact q, fun q => ⟨ns, allInts_map ns, q⟩⟩
theorem ps_last {ns : List Int} {L : Nat} : atI ((W50.ps ns L).map D.int) (-1) = some (.int (W50.pre ns L)) := by
  unfold atI
  have e : ixN ((W50.ps ns L).map D.int).length (-1) = some L := by
    unfold ixN
    rw [List.length_map, W50.ps_len]
    simp
    omega
  rw [e]
  show ((W50.ps ns L).map D.int)[L]? = _
  rw [List.getElem?_map, W50.ps_get (Nat.le_refl _)]
  rfl
theorem nth_ps {ns : List Int} {L : Nat} {i : Int} (h0 : 0 ≤ i) (h : i ≤ L) : nth (W50.ps ns L) i = W50.pre ns i.toNat := by
  unfold nth
  rw [List.getD_eq_getElem?_getD, W50.ps_get (by omega)]
  rfl
theorem ps_mem {ns : List Int} {L : Nat} {n : Int} (h : n ∈ W50.ps ns L) : ∃ i, i ≤ L ∧ n = W50.pre ns i := by
  unfold W50.ps at h
  obtain ⟨i, hi, rfl⟩ := List.mem_map.mp h
  exact ⟨i, by have := List.mem_range.mp hi; omega, rfl⟩
theorem ps_sm {ns : List Int} {lo hi : Int} (h : ∀ n ∈ ns, lo ≤ n ∧ n ≤ hi) (h0 : 0 ≤ lo) (h1 : hi ≤ 1000) (h2 : ns.length ≤ 1000) : ∀ n ∈ W50.ps ns ns.length, Sm 50 n := fun n hn => by
  obtain ⟨i, hi', rfl⟩ := ps_mem hn
  have b := W50.pre_bounds h (Nat.zero_le i) hi'
  rw [W50.pre_zero] at b
  have b1 : 0 ≤ lo * ((i : Int) - ((0 : Nat) : Int)) := Int.mul_nonneg h0 (by omega)
  have b2 : hi * ((i : Int) - ((0 : Nat) : Int)) ≤ 1000 * ((i : Int) - ((0 : Nat) : Int)) := Int.mul_le_mul_of_nonneg_right h1 (by omega)
  have e : (2 : Nat) ^ 50 = 1125899906842624 := by decide
  unfold Sm
  omega
theorem o_neB {i j : Bool} {P : D → Prop} : vNe (.bl i) (.bl j) P = P (.bl (!decide (i = j))) := rfl
theorem no_mix {ad : Ad} {x y z p q : D} {P : Prop} (e : oCrooked ad p q = oStairs ad x y z) : P := absurd (congrArg (fun d => match d with | D.obj _ _ xs => xs.length | _ => 0) e) (show ¬ ((2 : Nat) = 3) by decide)
/-- all lengths are short or one more -/
def Lens (s : Int) (k : Nat) (L : List Int) : Prop := L.length = k ∧ ∀ n ∈ L, s ≤ n ∧ n ≤ s + 1
theorem cut_ps {ns : List Int} {n : Nat} : QL.cutD ((W50.ps ns n).map D.int) (some 1) none = (List.range n).map fun i => D.int (W50.pre ns (i + 1)) := by
  unfold QL.cutD
  have e1 : HT.sIx ((W50.ps ns n).map D.int).length 0 (some 1) = 1 := by
    rw [show (1 : Int) = ((1 : Nat) : Int) from rfl, HT.sIx_nat, List.length_map, W50.ps_len]
    omega
  have e2 : ((W50.ps ns n).map D.int).drop 1 = (List.range n).map fun i => D.int (W50.pre ns (i + 1)) := by
    unfold W50.ps
    rw [List.range_succ_eq_map, List.map_cons, List.map_cons, List.drop_succ_cons, List.drop_zero, List.map_map, List.map_map]
    rfl
  rw [e1, e2, HT.sIx_none, List.length_map, W50.ps_len, show n + 1 - 1 = n by omega]
  exact List.take_of_length_le (by simp)
theorem nth_sm {ns : List Int} {b : Nat} (h : ∀ n ∈ ns, Sm b n) {i : Int} (hi : In ns i) : Sm b (nth ns i) := by
  have hn : i.toNat < ns.length := by have := hi.1; have := hi.2; omega
  unfold nth
  rw [List.getD_eq_getElem?_getD, List.getElem?_eq_getElem hn]
  exact h _ (List.getElem_mem hn)
theorem nth_at {ns : List Int} {i : Int} (h : In ns i) : atI (ns.map D.int) i = some (.int (nth ns i)) := by
  obtain ⟨h1, h2⟩ := h
  have hn : i.toNat < ns.length := by omega
  have e : i = ((i.toNat : Nat) : Int) := by omega
  unfold nth
  conv => lhs; rw [e]
  refine atI_nat ?_
  rw [List.getElem?_map, List.getElem?_eq_getElem hn, List.getD_eq_getElem?_getD, List.getElem?_eq_getElem hn]
  rfl
theorem u_Line {ad : Ad} {a b m : Int} {Q E : D → D → Prop} : M_Line ad (.obj ad.c_Line [] []) [.int a, .int b, .int m] Q E = (1 ≤ m ∧ Q .non (oLine ad (.int a) (.int b) (.int m))) := propext ⟨fun h => h.2, fun h => ⟨rfl, h⟩⟩
theorem u_at {ad : Ad} {a b m x : Int} {Q E : D → Prop} : S_at ad [oLine ad (.int a) (.int b) (.int m), .int x] Q E = ((MOk a x ∧ DOk m) ∧ Q (.int ((a * x + b) / m))) := propext
  ⟨fun ⟨a', b', m', h, q⟩ => by cases h; exact q, fun q => ⟨_, _, _, rfl, q⟩⟩
local macro_rules | `(tactic| walk_at "q") => `(tactic| (try simp -implicitDefEqProofs only [↓QL.e_own0, ↓QL.e_c, ↓QL.e_var, ↓QL.e_varO, ↓QL.e_valQ, ↓QL.e_ownQ, ↓QL.e_anyV, ↓QL.e_anyO, ↓QL.e_get0, ↓QL.e_getS, ↓QL.e_put0, ↓QL.e_putS, ↓QL.e_noN, ↓QL.e_noC, ↓QL.e_noU, ↓QL.e_noV, ↓QL.e_wipN, ↓QL.e_wipC, ↓QL.e_bakN, ↓QL.e_bakC, ↓QL.e_ownN, ↓QL.e_op, ↓QL.e_un, ↓QL.e_tst, ↓QL.e_bq, ↓QL.e_tru, ↓QL.e_notT, ↓QL.e_andT, ↓QL.e_orT, ↓QL.e_and, ↓QL.e_or, ↓QL.e_not, ↓QL.e_tqB, ↓QL.e_tqI, ↓QL.e_tqN, ↓QL.e_tqL, ↓QL.e_tqT, ↓QL.e_if, ↓QL.e_chain, ↓QL.e_nil, ↓QL.e_cons, ↓QL.e_tup, ↓QL.e_lst, ↓QL.e_ixO, ↓QL.e_call, ↓QL.e_callM, ↓QL.e_cb, ↓QL.e_snil, ↓QL.e_seq, ↓QL.e_asg, ↓QL.e_own, ↓QL.e_drop, ↓QL.e_ret, ↓QL.e_retN, ↓QL.e_sif, ↓QL.e_brk, ↓QL.e_cnt, ↓QL.e_nev, ↓QL.e_gn, ↓QL.e_gnil, ↓QL.e_gcons, ↓QL.e_gt, ↓QL.e_par, ↓QL.e_par3, ↓QL.e_aug, ↓QL.e_lstQ, ↓QL.e_app, ↓QL.e_intQ, ↓QL.e_augI, ↓QL.e_for, ↓QL.e_forN, ↓QL.e_forC, ↓QL.e_lc, ↓QL.e_riL, ↓QL.e_riT, ↓QL.e_riR1, ↓QL.e_riR2, ↓QL.e_riE, ↓QL.e_riZ, ↓QL.e_yes, ↓QL.o_add, ↓QL.o_addL, ↓QL.o_addT, ↓QL.o_addLL, ↓QL.o_sub, ↓QL.o_mul, ↓QL.o_div, ↓QL.o_mod, ↓QL.o_pow, ↓QL.o_shl, ↓QL.o_shr, ↓QL.o_neg, ↓QL.o_lt, ↓QL.o_le, ↓QL.o_gt, ↓QL.o_ge, ↓QL.o_eq, ↓QL.o_ne, ↓QL.o_iadd, ↓QL.o_isub, ↓QL.o_ixL, ↓QL.o_ixT, ↓QL.o_ixS, ↓QL.o_lenL, ↓QL.o_lenT, ↓QL.o_lenS, ↓QL.o_abs, ↓QL.o_int, ↓QL.o_max, ↓QL.o_min, ↓QL.o_sum, ↓QL.o_neS, ↓QL.o_ord2, ↓QL.o_gtT, ↓QL.o_geT, ↓QL.o_ltT, ↓QL.o_leT, ↓QL.o_eqTn, ↓QL.o_eqT2, ↓QL.o_eqT3, ↓QL.o_eqLn, ↓QL.o_neTn, ↓QL.o_neT2, ↓QL.o_neT3, ↓QL.o_neLn, ↓QL.e_fld, ↓QL.e_fldO, ↓QL.e_objO, ↓QL.e_fldS, ↓QL.e_make, ↓QL.e_meth, ↓QL.o_isiO, ↓QL.e_riEA, ↓QL.e_riZA, ↓QL.e_riR3, ↓QL.e_sli, ↓QL.e_roN, ↓QL.e_roS, ↓QL.o_sliL, ↓QL.o_sliT, ↓QL.e_ixA, ↓QL.o_inIT, ↓QL.o_inIL, ↓QL.e_isiT, ↓QL.e_ix0, ↓QL.e_ix1, ↓QL.e_ix2, ↓QL.o_maxL, ↓QL.o_minL, ↓QL.o_tupL, ↓QL.o_tupT, ↓QL.o_listL, ↓QL.o_listT, ↓QL.o_intB, ↓QL.o_allL, ↓QL.o_anyL, ↓QL.o_isN, ↓QL.o_isNI, ↓QL.o_isNN, ↓QL.o_isNT, ↓QL.o_isNL, ↓QL.o_ntN, ↓QL.o_ntNI, ↓QL.o_ntNN, ↓QL.o_ntNT, ↓QL.o_ntNL, ↓QL.e_stP, ↓at_Line_a, ↓fq_Line_a, ↓at_Spread_ahead, ↓fq_Spread_ahead, ↓at_Line_b, ↓fq_Line_b, ↓at_Stairs_high, ↓fq_Stairs_high, ↓at_Crooked_high, ↓fq_Crooked_high, ↓at_Stairs_line, ↓fq_Stairs_line, ↓at_Stairs_low, ↓fq_Stairs_low, ↓at_Crooked_low, ↓fq_Crooked_low, ↓at_Line_m, ↓fq_Line_m, ↓at_Spread_slots, ↓fq_Spread_slots, ↓at_Spread_ticks, ↓fq_Spread_ticks, ↓pn_Line_a, ↓px_Line_a, ↓pn_Line_b, ↓px_Line_b, ↓pn_Line_m, ↓px_Line_m, ↓pn_Stairs_line, ↓px_Stairs_line, ↓pn_Stairs_low, ↓px_Stairs_low, ↓pn_Stairs_high, ↓px_Stairs_high, ↓pn_Crooked_low, ↓px_Crooked_low, ↓pn_Crooked_high, ↓px_Crooked_high, ↓pn_Spread_ticks, ↓px_Spread_ticks, ↓pn_Spread_slots, ↓px_Spread_slots, ↓pn_Spread_ahead, ↓px_Spread_ahead, ↓oq_Line_at, ↓oq_Spread_line, ↓oq_Spread_has, List.length_map, ↓u_numI, ↓u_number, ↓u_take, ↓u_pick, ↓u_long, ↓u_Line, ↓u_at, ↓u_slA, ↓u_slB, ↓u_between, ↓u_Stairs, ↓u_Crooked, ↓u_Spread, ↓u_offset, ↓u_tight, ↓o_neB, ↓o_neLn, ↓o_neT3, ↓u_sline, ↓u_has, ↓u_spof, ↓u_stairs, ↓isN_ite, ↓u_checked, Int.zero_add, ↓if_nt, ↓if_nf, ↓if_tt, ↓if_ff, true_and, List.map_cons, List.map_nil, Bool.and_true, Bool.and_self, List.length_cons, List.length_nil]))
theorem ok_Line___init__ (T : Tx K mg ad) : FnOk P w K mg base (L2.CX P w) 3 ad.f_Line___init__ ad.d_Line___init__ ["self", "a", "b", "m"] (spB K 3 (M_Line ad)) := by
  have G_is_number := ok_is_number (P := P) (w := w) (base := base) T
  refine fnB (k := 2) T.F_Line___init__ sc_Line___init__ rfl fun cdv A outer s H B F0 a E EX hr tk => ⟨_, (qs_cons (qs_for PassesOwn.leaving rfl (qi_t (q_tup (qa_cons (q_var (pv 1)) (qa_cons (q_var (pv 2)) (qa_cons (q_var (pv 3)) qa_nil))))) (qg_n (pg_name (i := 4) sc_Line___init__.nd rfl (.inl rfl)) (.inr (by decide))) (qs_one (qs_if (qt_not (qt_tru (q_call G_is_number (hr.mono (by decide)) (by rfl) T.g_is_number T.k_is_number T.b_is_number tkE0 (qa_cons (q_var (pv 4)) qa_nil)))) (qs_one qs_nev) qs_nil)))
      (qs_cons (qs_if (qt_cmp qo_lt (q_var (pv 3)) q_int) (qs_one qs_nev) qs_nil)
      (qs_cons (qs_fld (hf_a T) (pv 0) (q_var (pv 1)))
      (qs_cons (qs_fld (hf_b T) (pv 0) (q_var (pv 2)))
      (qs_one (qs_fld (hf_m T) (pv 0) (q_var (pv 3)))))))), fun d0 ds Q hn h => ?_⟩
  unfold M_Line at h
  split at h
  rotate_left
  · exact h.elim
  rename_i a b m
  obtain ⟨rfl, hm, q⟩ := h
  show sSeq _ _ _ [.own _, .val (.int a), .val (.int b), .val (.int m), .un]
  walk_at "q"
  refine ⟨by decide, ?_⟩
  rw [if_neg (by rw [decide_eq_true_eq]; omega)]
  exact ⟨by decide, by decide, by decide, q⟩
theorem ok_Line_at (T : Tx K mg ad) : FnOk P w K mg base (L2.CX P w) 1 ad.f_Line_at ad.d_Line_at ["self", "x"] (spA K 2 (S_at ad)) := by
  refine fnA (k := 0) T.F_Line_at sc_Line_at fun cdv A outer s H F0 E EX hr tk => ⟨_, (qs_one (qs_ret (q_op qo_div (q_op qo_add (q_op qo_mul (q_fld (hf_a T) (q_var (pv 0))) (q_var (pv 1))) (q_fld (hf_b T) (q_var (pv 0)))) (q_fld (hf_m T) (q_var (pv 0)))))), fun ds Q hn h => ?_⟩
  unfold S_at at h
  split at h
  rotate_left
  · exact h.elim
  rename_i d x
  obtain ⟨a, b, m, rfl, ⟨h1, h2⟩, q⟩ := h
  show sRet _ _ [.val (oLine ad (.int a) (.int b) (.int m)), .val (.int x)]
  walk_at "q"
  exact ⟨h1, h2, q⟩
theorem ok_checked_row (T : Tx K mg ad) : FnOk P w K mg base (L2.CX P w) 3 ad.f_checked_row ad.d_checked_row ["row"] (spA K 1 (S_checked)) := by
  have G_is_number := ok_is_number (P := P) (w := w) (base := base) T
  refine fnA (k := 2) T.F_checked_row sc_checked_row fun cdv A outer s H F0 E EX hr tk => ⟨_, (qs_cons (qs_if (qt_not (qt_tru (q_isiT (by rfl) T.n_isinstance bt_isinstance (q_var (pv 0)) (qa_cons (q_raw (pe_bltn (v := .ty "list") (by rfl) T.n_list bt_list rfl)) (qa_cons (q_raw (pe_bltn (v := .ty "tuple") (by rfl) T.n_tuple bt_tuple rfl)) qa_nil))))) (qs_one qs_nev) qs_nil)
      (qs_cons (qs_for PassesOwn.leaving rfl (qi_l (q_var (pv 0))) (qg_n (pg_name (i := 1) sc_checked_row.nd rfl (.inl rfl)) (.inl rfl)) (qs_one (qs_if (qt_not (qt_tru (q_call G_is_number (hr.mono (by decide)) (by rfl) T.g_is_number T.k_is_number T.b_is_number tkE0 (qa_cons (q_var (pv 1)) qa_nil)))) (qs_one qs_nev) qs_nil)))
      (qs_cons (qs_if (qt_not (qt_chain qo_le qo_le q_int (q_callB qc_len (by rfl) T.n_len bt_len (qa_cons (q_var (pv 0)) qa_nil)) (q_gi (by rfl) T.g_MOST_STAIRS))) (qs_one qs_nev) qs_nil)
      (qs_one (qs_ret (q_callTy qc_tuple (by rfl) T.n_tuple bt_tuple (qa_cons (q_var (pv 0)) qa_nil))))))), fun ds Q hn h => ?_⟩
  unfold S_checked at h
  split at h
  rotate_left
  · exact h.elim
  rename_i xs
  obtain ⟨ns, e, ⟨h1, h2⟩, q⟩ := h
  cases allInts_eq e
  show sSeq _ _ _ [.val (.lst _), .un]
  walk_at "q"
  refine ⟨by decide, .type "list", [.type "list", .type "tuple"], true, ⟨"list", rfl, rfl⟩, rfl, rfl, ?_⟩
  rw [if_neg (by decide)]
  refine forR_inv (fun _ env => ∃ s, env = [.val (.lst (ns.map D.int)), s]) ⟨_, rfl⟩ ?_ ?_
  · rintro i d env N hd ⟨s, rfl⟩ hN
    obtain ⟨_, rfl⟩ := ints_get hd
    walk_at "q"
    exact hN _ ⟨_, rfl⟩
  · rintro env ⟨s, rfl⟩
    walk_at "q"
    rw [if_pos (by rw [decide_eq_true_eq]; omega), if_neg (by rw [decide_eq_true (show (ns.length : Int) ≤ 200 by omega)]; decide)]
    exact q
theorem ok_slope_above (T : Tx K mg ad) : FnOk P w K mg base (L2.CX P w) 1 ad.f_slope_above ad.d_slope_above ["row", "pair"] (spA K 2 (S_slA)) := by
  refine fnA (k := 0) T.F_slope_above sc_slope_above fun cdv A outer s H F0 E EX hr tk => ⟨_, (qs_cons (qs_asg (q_var (pv 1)) (qg_t (n := 2) rfl (qgs_cons (qg_n (pg_name (i := 2) sc_slope_above.nd rfl (.inl rfl)) (.inl rfl)) (qgs_cons (qg_n (pg_name (i := 3) sc_slope_above.nd rfl (.inl rfl)) (.inl rfl)) qgs_nil))))
      (qs_one (qs_ret (q_tup (qa_cons (q_op qo_sub (q_op qo_sub (q_ix (q_var (pv 0)) (q_var (pv 3))) (q_ix (q_var (pv 0)) (q_var (pv 2)))) q_int) (qa_cons (q_op qo_sub (q_var (pv 3)) (q_var (pv 2))) qa_nil)))))), fun ds Q hn h => ?_⟩
  unfold S_slA at h
  split at h
  rotate_left
  · exact h.elim
  rename_i xs i j
  obtain ⟨ns, e, ⟨h1, h2⟩, q⟩ := h
  cases allInts_eq e
  show sSeq _ _ _ [.val (.tup _), .val (.tup _), .un, .un]
  walk_at "q"
  exact ⟨_, nth_at h2, _, nth_at h1, by walk_at "q"; exact ⟨by decide, q⟩⟩
theorem ok_slope_below (T : Tx K mg ad) : FnOk P w K mg base (L2.CX P w) 1 ad.f_slope_below ad.d_slope_below ["row", "pair"] (spA K 2 (S_slB)) := by
  refine fnA (k := 0) T.F_slope_below sc_slope_below fun cdv A outer s H F0 E EX hr tk => ⟨_, (qs_cons (qs_asg (q_var (pv 1)) (qg_t (n := 2) rfl (qgs_cons (qg_n (pg_name (i := 2) sc_slope_below.nd rfl (.inl rfl)) (.inl rfl)) (qgs_cons (qg_n (pg_name (i := 3) sc_slope_below.nd rfl (.inl rfl)) (.inl rfl)) qgs_nil))))
      (qs_one (qs_ret (q_tup (qa_cons (q_op qo_add (q_op qo_sub (q_ix (q_var (pv 0)) (q_var (pv 3))) (q_ix (q_var (pv 0)) (q_var (pv 2)))) q_int) (qa_cons (q_op qo_sub (q_var (pv 3)) (q_var (pv 2))) qa_nil)))))), fun ds Q hn h => ?_⟩
  unfold S_slB at h
  split at h
  rotate_left
  · exact h.elim
  rename_i xs i j
  obtain ⟨ns, e, ⟨h1, h2⟩, q⟩ := h
  cases allInts_eq e
  show sSeq _ _ _ [.val (.tup _), .val (.tup _), .un, .un]
  walk_at "q"
  exact ⟨_, nth_at h2, _, nth_at h1, by walk_at "q"; exact ⟨by decide, q⟩⟩
theorem ok_tightest (T : Tx K mg ad) : FnOk P w K mg base (L2.CX P w) 2 ad.f_tightest ad.d_tightest ["row"] (spA K 1 (S_tight)) := by
  have G_slope_above := ok_slope_above (P := P) (w := w) (base := base) T
  have G_slope_below := ok_slope_below (P := P) (w := w) (base := base) T
  refine fnA (k := 1) T.F_tightest sc_tightest fun cdv A outer s H F0 E EX hr tk => ⟨_, (qs_cons (qs_asg (q_tup (qa_cons (q_tup (qa_cons q_int (qa_cons q_int qa_nil))) (qa_cons (q_tup (qa_cons q_int (qa_cons q_int qa_nil))) qa_nil))) (qg_t (n := 2) rfl (qgs_cons (qg_n (pg_name (i := 1) sc_tightest.nd rfl (.inl rfl)) (.inl rfl)) (qgs_cons (qg_n (pg_name (i := 2) sc_tightest.nd rfl (.inl rfl)) (.inl rfl)) qgs_nil))))
      (qs_cons (qs_for PassesOwn.leaving rfl (qi_r1 (by rfl) T.n_range (qa_cons (q_callB qc_len (by rfl) T.n_len bt_len (qa_cons (q_var (pv 0)) qa_nil)) qa_nil)) (qg_n (pg_name (i := 3) sc_tightest.nd rfl (.inl rfl)) (.inl rfl)) (qs_one (qs_for PassesOwn.leaving rfl (qi_r1 (by rfl) T.n_range (qa_cons (q_var (pv 3)) qa_nil)) (qg_n (pg_name (i := 4) sc_tightest.nd rfl (.inl rfl)) (.inl rfl)) (qs_cons (qs_par (i := 5) (j := 6) rfl sc_tightest.nd rfl rfl (by decide) (.inl rfl) (.inl rfl) rfl rfl (qa_cons (q_call G_slope_above (hr.mono (by decide)) (by rfl) T.g_slope_above T.k_slope_above T.b_slope_above tkE0 (qa_cons (q_var (pv 0)) (qa_cons (q_tup (qa_cons (q_var (pv 4)) (qa_cons (q_var (pv 3)) qa_nil))) qa_nil))) (qa_cons (q_call G_slope_above (hr.mono (by decide)) (by rfl) T.g_slope_above T.k_slope_above T.b_slope_above tkE0 (qa_cons (q_var (pv 0)) (qa_cons (q_var (pv 1)) qa_nil))) qa_nil)) (by rfl))
      (qs_cons (qs_if (qt_cmp qo_gt (q_op qo_mul (q_ix (q_var (pv 5)) q_int) (q_ix (q_var (pv 6)) q_int)) (q_op qo_mul (q_ix (q_var (pv 6)) q_int) (q_ix (q_var (pv 5)) q_int))) (qs_one (qs_set (i := 1) sc_tightest.nd rfl (.inl rfl) (.inl rfl) (q_tup (qa_cons (q_var (pv 4)) (qa_cons (q_var (pv 3)) qa_nil))))) qs_nil)
      (qs_cons (qs_par (i := 5) (j := 6) rfl sc_tightest.nd rfl rfl (by decide) (.inl rfl) (.inl rfl) rfl rfl (qa_cons (q_call G_slope_below (hr.mono (by decide)) (by rfl) T.g_slope_below T.k_slope_below T.b_slope_below tkE0 (qa_cons (q_var (pv 0)) (qa_cons (q_tup (qa_cons (q_var (pv 4)) (qa_cons (q_var (pv 3)) qa_nil))) qa_nil))) (qa_cons (q_call G_slope_below (hr.mono (by decide)) (by rfl) T.g_slope_below T.k_slope_below T.b_slope_below tkE0 (qa_cons (q_var (pv 0)) (qa_cons (q_var (pv 2)) qa_nil))) qa_nil)) (by rfl))
      (qs_one (qs_if (qt_cmp qo_lt (q_op qo_mul (q_ix (q_var (pv 5)) q_int) (q_ix (q_var (pv 6)) q_int)) (q_op qo_mul (q_ix (q_var (pv 6)) q_int) (q_ix (q_var (pv 5)) q_int))) (qs_one (qs_set (i := 2) sc_tightest.nd rfl (.inl rfl) (.inl rfl) (q_tup (qa_cons (q_var (pv 4)) (qa_cons (q_var (pv 3)) qa_nil))))) qs_nil))))))))
      (qs_one (qs_ret (q_tup (qa_cons (q_var (pv 1)) (qa_cons (q_var (pv 2)) qa_nil))))))), fun ds Q hn h => ?_⟩
  unfold S_tight at h
  split at h
  rotate_left
  · exact h.elim
  rename_i xs
  obtain ⟨ns, e, ⟨h1, h2, h3⟩, q⟩ := h
  cases allInts_eq e
  show sSeq _ _ _ [.val (.tup _), .un, .un, .un, .un, .un, .un]
  walk_at "q"
  refine ⟨by decide, by decide, by decide, ⟨by omega, by omega⟩, ?_⟩
  have cov0 : W50.Cov (nth ns) ns.length (fun p q => 0 ≤ p ∧ q < ((0 : Nat) : Int)) 0 1 0 1 := ⟨by decide, by decide, by omega, by decide, by decide, by omega, fun p q hp hc => by omega, fun p q hp hc => by omega⟩
  refine forR_rng (fun L env => ∃ i j k l s1 s2 s3 s4, env = [.val (.tup (ns.map D.int)), .val (.tup [.int i, .int j]), .val (.tup [.int k, .int l]), s1, s2, s3, s4] ∧ W50.Cov (nth ns) ns.length (fun p q => 0 ≤ p ∧ q < (L : Int)) i j k l) ⟨0, 1, 0, 1, _, _, _, _, rfl, cov0⟩ ?_ ?_
  · rintro L env N hL ⟨i, j, k, l, s1, s2, s3, s4, rfl, cov⟩ hN
    walk_at "q"
    refine ⟨⟨by omega, by omega⟩, ?_⟩
    refine forR_rng (fun F env => ∃ i j k l s2 s3 s4, env = [.val (.tup (ns.map D.int)), .val (.tup [.int i, .int j]), .val (.tup [.int k, .int l]), .val (.int (L : Int)), s2, s3, s4] ∧ W50.Cov (nth ns) ns.length (fun p q => 0 ≤ p ∧ (q < (L : Int) ∨ q = L ∧ p < (F : Int))) i j k l) ⟨i, j, k, l, _, _, _, rfl, cov.mono fun p q _ hc => ⟨hc.1, by omega⟩⟩ ?_ ?_
    · rintro F env N2 hF ⟨i, j, k, l, s2, s3, s4, rfl, cov⟩ hN2
      walk_at "q"
      have hF' : F < L := by omega
      have hL' : L < ns.length := by omega
      have inF : In ns F := ⟨by omega, by omega⟩
      have inL : In ns L := ⟨by omega, by omega⟩
      have c1 := cov.a0
      have c2 := cov.a1
      have c3 := cov.a2
      have c4 := cov.b0
      have c5 := cov.b1
      have c6 := cov.b2
      have M : ∀ x y : Int, 0 ≤ y → y < 1000 → MOk x y := fun x y g1 g2 => .r (by omega) (by omega)
      have m : ∀ p q : Int, p < q → (0 ≤ p ∧ (q < (L : Int) ∨ q = L ∧ p < ((F + 1 : Nat) : Int))) → (0 ≤ p ∧ (q < (L : Int) ∨ q = L ∧ p < (F : Int))) ∨ (p = (F : Int) ∧ q = (L : Int)) := fun p q hp hc => by omega
      refine ⟨by decide, ⟨inF, inL⟩, ⟨⟨by omega, by omega⟩, ⟨by omega, by omega⟩⟩, M _ _ (by omega) (by omega), M _ _ (by omega) (by omega), ?_⟩
      split
      · rename_i g1
        rw [decide_eq_true_eq] at g1
        have cov1 := cov.low (p0 := F) (q0 := L) (by omega) (by omega) (by omega) (Int.le_of_lt g1)
        refine ⟨by decide, by decide, ⟨inF, inL⟩, ⟨⟨by omega, by omega⟩, ⟨by omega, by omega⟩⟩, M _ _ (by omega) (by omega), M _ _ (by omega) (by omega), ?_⟩
        split
        · rename_i g2
          rw [decide_eq_true_eq] at g2
          have cov2 := cov1.high (p0 := F) (q0 := L) (by omega) (by omega) (by omega) (Int.le_of_lt g2)
          exact ⟨by decide, hN2 _ ⟨_, _, _, _, _, _, _, rfl, cov2.ext m (Int.le_refl _) (Int.le_refl _)⟩⟩
        · rename_i g2
          rw [decide_eq_true_eq] at g2
          exact hN2 _ ⟨_, _, _, _, _, _, _, rfl, cov1.ext m (Int.le_refl _) (Int.not_lt.mp g2)⟩
      · rename_i g1
        rw [decide_eq_true_eq] at g1
        refine ⟨by decide, ⟨inF, inL⟩, ⟨⟨by omega, by omega⟩, ⟨by omega, by omega⟩⟩, M _ _ (by omega) (by omega), M _ _ (by omega) (by omega), ?_⟩
        split
        · rename_i g2
          rw [decide_eq_true_eq] at g2
          have cov2 := cov.high (p0 := F) (q0 := L) (by omega) (by omega) (by omega) (Int.le_of_lt g2)
          exact ⟨by decide, hN2 _ ⟨_, _, _, _, _, _, _, rfl, cov2.ext m (Int.not_lt.mp g1) (Int.le_refl _)⟩⟩
        · rename_i g2
          rw [decide_eq_true_eq] at g2
          exact hN2 _ ⟨_, _, _, _, _, _, _, rfl, cov.ext m (Int.not_lt.mp g1) (Int.not_lt.mp g2)⟩
    · rintro env ⟨i, j, k, l, s2, s3, s4, rfl, cov⟩
      refine hN _ ⟨i, j, k, l, _, _, _, _, rfl, cov.mono fun p q hp hc => ⟨hc.1, by omega⟩⟩
  · rintro env ⟨i, j, k, l, s1, s2, s3, s4, rfl, cov⟩
    walk_at "q"
    exact ⟨by decide, q i j k l (cov.mono fun p q hp hc => ⟨hc.1, by omega⟩)⟩
theorem ok_least_between (T : Tx K mg ad) : FnOk P w K mg base (L2.CX P w) 1 ad.f_least_between ad.d_least_between ["above", "below", "m"] (spA K 3 (S_between)) := by
  refine fnA (k := 0) T.F_least_between sc_least_between fun cdv A outer s H F0 E EX hr tk => ⟨_, (qs_cons (qs_set (i := 3) sc_least_between.nd rfl (.inl rfl) (.inl rfl) (q_op qo_add (q_op qo_div (q_op qo_mul (q_ix (q_var (pv 0)) q_int) (q_var (pv 2))) (q_ix (q_var (pv 0)) q_int)) q_int))
      (qs_one (qs_ret (q_if (qt_cmp qo_lt (q_op qo_mul (q_var (pv 3)) (q_ix (q_var (pv 1)) q_int)) (q_op qo_mul (q_ix (q_var (pv 1)) q_int) (q_var (pv 2)))) (q_var (pv 3)) q_non)))), fun ds Q hn h => ?_⟩
  unfold S_between at h
  split at h
  rotate_left
  · exact h.elim
  rename_i a0 a1 b0 b1 m
  obtain ⟨⟨h1, h2, h3, s1, s2, s3, s4, s5⟩, q⟩ := h
  show sSeq _ _ _ [.val (.tup [.int a0, .int a1]), .val (.tup [.int b0, .int b1]), .val (.int m), .un]
  walk_at "q"
  refine ⟨MOk.of s1 s5 (by decide), DOk.of h1 s2 (by decide), MOk.of (bd_add (bd_div h1 (bd_mul s1 s5)) (show Sm 1 1 by unfold Sm; decide)) s4 (by decide), MOk.of s3 s5 (by decide), ?_⟩
  by_cases hc : (a0 * m / a1 + 1) * b1 < b0 * m
  · rw [if_pos hc] at q
    rw [if_pos (by rw [decide_eq_true_eq]; exact hc)]
    exact q
  · rw [if_neg hc] at q
    rw [if_neg (by rw [decide_eq_true_eq]; exact hc)]
    exact q
theorem ok_Stairs___init__ (T : Tx K mg ad) : FnOk P w K mg base (L2.CX P w) 1 ad.f_Stairs___init__ ad.d_Stairs___init__ ["self", "line", "low", "high"] (spB K 3 (M_Stairs ad)) := by
  refine fnB (k := 0) T.F_Stairs___init__ sc_Stairs___init__ rfl fun cdv A outer s H B F0 a E EX hr tk => ⟨_, (qs_cons (qs_fld (hf_line T) (pv 0) (q_var (pv 1)))
      (qs_cons (qs_fld (hf_low T) (pv 0) (q_var (pv 2)))
      (qs_one (qs_fld (hf_high T) (pv 0) (q_var (pv 3)))))), fun d0 ds Q hn h => ?_⟩
  unfold M_Stairs at h
  split at h
  rotate_left
  · exact h.elim
  rename_i l a b
  obtain ⟨rfl, q⟩ := h
  show sSeq _ _ _ [.own _, .val l, .val a, .val b]
  walk_at "q"
  exact ⟨by decide, by decide, by decide, q⟩
theorem ok_Crooked___init__ (T : Tx K mg ad) : FnOk P w K mg base (L2.CX P w) 1 ad.f_Crooked___init__ ad.d_Crooked___init__ ["self", "low", "high"] (spB K 2 (M_Crooked ad)) := by
  refine fnB (k := 0) T.F_Crooked___init__ sc_Crooked___init__ rfl fun cdv A outer s H B F0 a E EX hr tk => ⟨_, (qs_cons (qs_fld (hf_low T) (pv 0) (q_var (pv 1)))
      (qs_one (qs_fld (hf_high T) (pv 0) (q_var (pv 2))))), fun d0 ds Q hn h => ?_⟩
  unfold M_Crooked at h
  split at h
  rotate_left
  · exact h.elim
  rename_i a b
  obtain ⟨rfl, q⟩ := h
  show sSeq _ _ _ [.own _, .val a, .val b]
  walk_at "q"
  exact ⟨by decide, by decide, q⟩
theorem ok_least_offset (T : Tx K mg ad) : FnOk P w K mg base (L2.CX P w) 1 ad.f_least_offset ad.d_least_offset ["row", "a", "m"] (spA K 3 (S_offset)) := by
  refine fnA (k := 0) T.F_least_offset sc_least_offset fun cdv A outer s H F0 E EX hr tk => ⟨_, (qs_one (qs_ret (q_callB (qc_max rfl) (by rfl) T.n_max bt_max (qa_cons (q_lcN (own := [("x", 3), ("number", 4)]) rfl sc_least_offset.nd (.inl rfl) (qi_eA (by rfl) T.n_enumerate (qa_cons (q_var (pv 0)) qa_nil)) (blkOk_by (by kernel_rfl)) (fun _ _ _ _ _ _ => (qg_t (n := 2) rfl (qgs_cons (qg_n (pg_name (i := 3) sc_least_offset.nd rfl (.inl rfl)) (.inl rfl)) (qgs_cons (qg_n (pg_name (i := 4) sc_least_offset.nd rfl (.inl rfl)) (.inl rfl)) qgs_nil)))) (fun _ _ _ _ _ _ => qts_nil) (fun _ _ _ _ _ _ => (q_op qo_sub (q_op qo_mul (q_var (pv 4)) (q_var (pv 2))) (q_op qo_mul (q_var (pv 1)) (q_var (pv 3)))))).qe qa_nil)))), fun ds Q hn h => ?_⟩
  unfold S_offset at h
  split at h
  rotate_left
  · exact h.elim
  rename_i xs a m
  obtain ⟨ns, e, ⟨h1, h2, s1, s2, s3⟩, q⟩ := h
  cases allInts_eq e
  show sRet _ _ [.val (.tup _), .val (.int a), .val (.int m), .un, .un]
  walk_at "q"
  have e2 : ∀ L : List Int, (∀ i : Nat, i < ns.length → L[i]? = some (ns.getD i 0 * m - a * i)) → L.length = ns.length → (enumD (ns.map D.int)).map (fun d => match d with | .tup [.int x, .int n] => D.int (n * m - a * x) | _ => .non) = L.map D.int := fun L h3 h4 => by
    refine List.ext_getElem? fun i => ?_
    rw [List.getElem?_map, List.getElem?_map]
    by_cases hi : i < ns.length
    · rw [h3 i hi, enumD_get (d := .int (ns.getD i 0)) (by rw [List.getElem?_map, List.getElem?_eq_getElem hi, List.getD_eq_getElem?_getD, List.getElem?_eq_getElem hi]; rfl)]
      rfl
    · rw [List.getElem?_eq_none (by rw [enumD_len, List.length_map]; omega), List.getElem?_eq_none (by omega)]
      rfl
  have hb : ∀ i : Nat, i < ns.length → Sm 90 (ns.getD i 0) := fun i hi => by
    rw [List.getD_eq_getElem?_getD, List.getElem?_eq_getElem hi]
    exact s3 _ (List.getElem_mem hi)
  refine lcR_map (fun d => match d with | .tup [.int x, .int n] => D.int (n * m - a * x) | _ => .non) (by rw [enumD_len, List.length_map]; exact Nat.le_trans h2 (by decide)) ?_ ?_
  · intro d N hd hN
    obtain ⟨i, hi⟩ := List.getElem?_of_mem hd
    obtain ⟨e, he, rfl⟩ := enumD_inv hi
    obtain ⟨hi2, rfl⟩ := ints_get he
    walk_at "q"
    refine ⟨MOk.of (hb i hi2) s2 (by decide), .r (by omega) (by omega), hN _ ?_⟩
    walk_at "q"
  · have e3 := e2 ((List.range ns.length).map fun i : Nat => ns.getD i 0 * m - a * i) (fun i hi => by rw [List.getElem?_map, List.getElem?_range hi]; rfl) (by simp)
    rw [e3]
    refine ⟨_, allInts_map _, by simpa using h1, fun b hb1 hb2 => q b ?_ fun i hi => hb2 _ (List.mem_map.mpr ⟨i, List.mem_range.mpr hi, rfl⟩)⟩
    obtain ⟨i, hi, rfl⟩ := List.mem_map.mp hb1
    exact ⟨i, List.mem_range.mp hi, rfl⟩
theorem ok_stairs (T : Tx K mg ad) : FnOk P w K mg base (L2.CX P w) 5 ad.f_stairs ad.d_stairs ["row"] (spA K 1 (S_stairs ad)) := by
  have G_Crooked___init__ := ok_Crooked___init__ (P := P) (w := w) (base := base) T
  have G_Line___init__ := ok_Line___init__ (P := P) (w := w) (base := base) T
  have G_Stairs___init__ := ok_Stairs___init__ (P := P) (w := w) (base := base) T
  have G_checked_row := ok_checked_row (P := P) (w := w) (base := base) T
  have G_least_between := ok_least_between (P := P) (w := w) (base := base) T
  have G_least_offset := ok_least_offset (P := P) (w := w) (base := base) T
  have G_slope_above := ok_slope_above (P := P) (w := w) (base := base) T
  have G_slope_below := ok_slope_below (P := P) (w := w) (base := base) T
  have G_tightest := ok_tightest (P := P) (w := w) (base := base) T
  refine fnA (k := 4) T.F_stairs sc_stairs fun cdv A outer s H F0 E EX hr tk => ⟨_, (qs_cons (qs_set (i := 0) sc_stairs.nd rfl (.inl rfl) (.inl rfl) (q_call G_checked_row (hr.mono (by decide)) (by rfl) T.g_checked_row T.k_checked_row T.b_checked_row tkE0 (qa_cons (q_var (pv 0)) qa_nil)))
      (qs_cons (qs_asg (q_call G_tightest (hr.mono (by decide)) (by rfl) T.g_tightest T.k_tightest T.b_tightest tkE0 (qa_cons (q_var (pv 0)) qa_nil)) (qg_t (n := 2) rfl (qgs_cons (qg_n (pg_name (i := 1) sc_stairs.nd rfl (.inl rfl)) (.inl rfl)) (qgs_cons (qg_n (pg_name (i := 2) sc_stairs.nd rfl (.inl rfl)) (.inl rfl)) qgs_nil))))
      (qs_cons (qs_par (i := 3) (j := 4) rfl sc_stairs.nd rfl rfl (by decide) (.inl rfl) (.inl rfl) rfl rfl (qa_cons (q_call G_slope_above (hr.mono (by decide)) (by rfl) T.g_slope_above T.k_slope_above T.b_slope_above tkE0 (qa_cons (q_var (pv 0)) (qa_cons (q_var (pv 1)) qa_nil))) (qa_cons (q_call G_slope_below (hr.mono (by decide)) (by rfl) T.g_slope_below T.k_slope_below T.b_slope_below tkE0 (qa_cons (q_var (pv 0)) (qa_cons (q_var (pv 2)) qa_nil))) qa_nil)) (by rfl))
      (qs_cons (qs_if (qt_cmp qo_ge (q_op qo_mul (q_ix (q_var (pv 3)) q_int) (q_ix (q_var (pv 4)) q_int)) (q_op qo_mul (q_ix (q_var (pv 4)) q_int) (q_ix (q_var (pv 3)) q_int))) (qs_one (qs_ret (q_makeN T.mk_Crooked G_Crooked___init__ (hr.mono (by decide)) (by rfl) T.g_Crooked T.b_Crooked___init__ tkE0 (qa_cons (q_var (pv 1)) (qa_cons (q_var (pv 2)) qa_nil))).qe)) qs_nil)
      (qs_cons (qs_set (i := 5) sc_stairs.nd rfl (.inl rfl) (.inl rfl) q_int)
      (qs_cons (qs_whl PassesOwn.leaving (qt_cmp qo_isN (q_call G_least_between (hr.mono (by decide)) (by rfl) T.g_least_between T.k_least_between T.b_least_between tkE0 (qa_cons (q_var (pv 3)) (qa_cons (q_var (pv 4)) (qa_cons (q_var (pv 5)) qa_nil)))) q_non) (qs_one (qs_aug (i := 5) sc_stairs.nd rfl (.inl rfl) (.inl rfl) qip_add q_int)))
      (qs_cons (qs_set (i := 6) sc_stairs.nd rfl (.inl rfl) (.inl rfl) (q_call G_least_between (hr.mono (by decide)) (by rfl) T.g_least_between T.k_least_between T.b_least_between tkE0 (qa_cons (q_var (pv 3)) (qa_cons (q_var (pv 4)) (qa_cons (q_var (pv 5)) qa_nil)))))
      (qs_one (qs_ret (q_makeN T.mk_Stairs G_Stairs___init__ (hr.mono (by decide)) (by rfl) T.g_Stairs T.b_Stairs___init__ tkE0 (qa_cons (q_makeN T.mk_Line G_Line___init__ (hr.mono (by decide)) (by rfl) T.g_Line T.b_Line___init__ tkE0 (qa_cons (q_var (pv 6)) (qa_cons (q_call G_least_offset (hr.mono (by decide)) (by rfl) T.g_least_offset T.k_least_offset T.b_least_offset tkE0 (qa_cons (q_var (pv 0)) (qa_cons (q_var (pv 6)) (qa_cons (q_var (pv 5)) qa_nil)))) (qa_cons (q_var (pv 5)) qa_nil)))).qe (qa_cons (q_var (pv 1)) (qa_cons (q_var (pv 2)) qa_nil)))).qe))))))))), fun ds Q hn h => ?_⟩
  unfold S_stairs at h
  split at h
  rotate_left
  · exact h.elim
  rename_i xs
  obtain ⟨ns, e, ⟨h1, h2, h3⟩, q⟩ := h
  cases allInts_eq e
  show sSeq _ _ _ [.val (.lst _), .un, .un, .un, .un, .un, .un]
  walk_at "q"
  refine ⟨ns, allInts_map ns, ⟨h1, h2⟩, ?_⟩
  walk_at "q"
  refine ⟨⟨h1, h2, h3⟩, fun i j k l cov => ?_⟩
  have c1 := cov.a0
  have c2 := cov.a1
  have c3 := cov.a2
  have c4 := cov.b0
  have c5 := cov.b1
  have c6 := cov.b2
  have ini : In ns i := ⟨by omega, by omega⟩
  have inj : In ns j := ⟨by omega, by omega⟩
  have ink : In ns k := ⟨by omega, by omega⟩
  have inl : In ns l := ⟨by omega, by omega⟩
  have fit := fun a m hm => cov.fit (a := a) (m := m) hm
  have sA : Sm 60 (nth ns j - nth ns i - 1) := bd_mono (bd_sub (bd_sub (nth_sm h3 inj) (nth_sm h3 ini)) (show Sm 1 1 by unfold Sm; decide)) (by decide)
  have sB : Sm 60 (nth ns l - nth ns k + 1) := bd_mono (bd_add (bd_sub (nth_sm h3 inl) (nth_sm h3 ink)) (show Sm 1 1 by unfold Sm; decide)) (by decide)
  generalize hA0 : nth ns j - nth ns i - 1 = A0 at *
  generalize hB0 : nth ns l - nth ns k + 1 = B0 at *
  have hA1 : 0 < j - i ∧ j - i < 200 := by omega
  have hB1 : 0 < l - k ∧ l - k < 200 := by omega
  have small : ∀ x : Int, 0 ≤ x → x ≤ 100000 → Sm 17 x := fun x g1 g2 => by
    have : (2 : Nat) ^ 17 = 131072 := by decide
    unfold Sm
    omega
  have hAB0 : 0 < (j - i) * (l - k) := Int.mul_pos hA1.1 hB1.1
  have hAB : (j - i) * (l - k) ≤ 199 * 199 := Int.mul_le_mul (by omega) (by omega) (by omega) (by decide)
  have hT : 2 * (j - i) * (l - k) = 2 * ((j - i) * (l - k)) := Int.mul_assoc ..
  walk_at "q"
  refine ⟨⟨ini, inj⟩, ⟨ink, inl⟩, .r (by omega) (by omega), .r (by omega) (by omega), ?_⟩
  split
  · rename_i g
    rw [decide_eq_true_eq] at g
    refine q _ (.inl ⟨_, _, rfl, fun a m hm f => ?_⟩)
    have := W50.mid hA1.1 hB1.1 hm ⟨a, (fit a m hm).mp f⟩
    omega
  · rename_i g
    rw [decide_eq_true_eq] at g
    have g' : A0 * (l - k) < B0 * (j - i) := by omega
    have last := W50.mid2 hA1.1 hB1.1 g'
    refine ⟨fun kk env => ∃ m : Int, env = [.val (.tup (ns.map D.int)), .val (.tup [.int i, .int j]), .val (.tup [.int k, .int l]), .val (.tup [.int A0, .int (j - i)]), .val (.tup [.int B0, .int (l - k)]), .val (.int m), .un] ∧ kk = (2 * (j - i) * (l - k) - m).toNat ∧ 1 ≤ m ∧ m ≤ 2 * (j - i) * (l - k) ∧ (∀ m', 0 < m' → m' < m → ¬ ((A0 * m' / (j - i) + 1) * (l - k) < B0 * m')), ⟨_, 1, rfl, rfl, by omega, by omega, fun m' z1 z2 => by omega⟩, ?_⟩
    rintro kk env ⟨m, rfl, rfl, hm1, hm2, hm3⟩
    walk_at "q"
    have sm : Sm 17 m := small m (by omega) (by omega)
    have bt : 0 < j - i ∧ 0 < l - k ∧ 0 < m ∧ Sm 90 A0 ∧ Sm 90 (j - i) ∧ Sm 90 B0 ∧ Sm 90 (l - k) ∧ Sm 90 m := ⟨hA1.1, hB1.1, by omega, bd_mono sA (by decide), bd_mono (small _ (by omega) (by omega)) (by decide), bd_mono sB (by decide), bd_mono (small _ (by omega) (by omega)) (by decide), bd_mono sm (by decide)⟩
    refine ⟨bt, ?_⟩
    by_cases hc : (A0 * m / (j - i) + 1) * (l - k) < B0 * m
    · rw [decide_eq_true hc, if_neg (by decide), if_pos hc]
      refine ⟨bt, ?_⟩
      walk_at "q"
      have sa : Sm 80 (A0 * m / (j - i) + 1) := bd_mono (bd_add (bd_div hA1.1 (bd_mul sA sm)) (show Sm 1 1 by unfold Sm; decide)) (by decide)
      have lg := fun a' => W50.least_gt (a0 := A0) (m := m) (a := a') hA1.1
      generalize hae : A0 * m / (j - i) + 1 = a at *
      refine ⟨⟨by omega, h2, bd_mono sa (by decide), bd_mono sm (by decide), fun n hn => bd_mono (h3 n hn) (by decide)⟩, fun b hb1 hb2 => ⟨hm1, ?_⟩⟩
      refine q _ (.inr ⟨a, b, m, _, _, rfl, ⟨hm1, by omega⟩, (fit a m (by omega)).mpr ⟨(lg a).mpr (Int.le_refl _), hc⟩, fun a' m' z1 z2 f => ?_, fun a' z f => ?_, ?_, ?_⟩)
      · obtain ⟨f1, f2⟩ := (fit a' m' z1).mp f
        refine hm3 m' z1 z2 ?_
        have := (W50.least_gt (a0 := A0) (m := m') (a := a') hA1.1).mp f1
        have := Int.mul_le_mul_of_nonneg_right this (Int.le_of_lt hB1.1)
        omega
      · have := (lg a').mp ((fit a' m (by omega)).mp f).1
        omega
      · obtain ⟨x, hx, rfl⟩ := hb1
        exact ⟨x, by omega, by omega, rfl⟩
      · intro x hx1 hx2
        have := hb2 x.toNat (by omega)
        rw [show ((x.toNat : Nat) : Int) = x by omega] at this
        exact this
    · rw [decide_eq_false hc, if_pos (by decide)]
      have hne : m ≠ 2 * (j - i) * (l - k) := fun z => hc (by rw [z]; exact last)
      refine ⟨_, ?_, m + 1, rfl, rfl, by omega, by omega, fun m' z1 z2 => ?_⟩
      · omega
      · by_cases he : m' = m
        · rw [he]; exact hc
        · exact hm3 m' z1 (by omega)
theorem ok_Spread___init__ (T : Tx K mg ad) : FnOk P w K mg base (L2.CX P w) 3 ad.f_Spread___init__ ad.d_Spread___init__ ["self", "ticks", "slots", "ahead"] (spB K 3 (M_Spread ad)) := by
  have G_is_number := ok_is_number (P := P) (w := w) (base := base) T
  refine fnB (k := 2) T.F_Spread___init__ sc_Spread___init__ rfl fun cdv A outer s H B F0 a E EX hr tk => ⟨_, (qs_cons (qs_for PassesOwn.leaving rfl (qi_t (q_tup (qa_cons (q_var (pv 1)) (qa_cons (q_var (pv 2)) (qa_cons (q_var (pv 3)) qa_nil))))) (qg_n (pg_name (i := 4) sc_Spread___init__.nd rfl (.inl rfl)) (.inr (by decide))) (qs_one (qs_if (qt_not (qt_tru (q_call G_is_number (hr.mono (by decide)) (by rfl) T.g_is_number T.k_is_number T.b_is_number tkE0 (qa_cons (q_var (pv 4)) qa_nil)))) (qs_one qs_nev) qs_nil)))
      (qs_cons (qs_if (qt_not (qt_chain qo_le qo_le q_int (q_var (pv 1)) (q_var (pv 2)))) (qs_one qs_nev) qs_nil)
      (qs_cons (qs_if (qt_not (qt_chain qo_le qo_lt q_int (q_var (pv 3)) (q_var (pv 2)))) (qs_one qs_nev) qs_nil)
      (qs_cons (qs_fld (hf_ticks T) (pv 0) (q_var (pv 1)))
      (qs_cons (qs_fld (hf_slots T) (pv 0) (q_var (pv 2)))
      (qs_one (qs_fld (hf_ahead T) (pv 0) (q_var (pv 3))))))))), fun d0 ds Q hn h => ?_⟩
  unfold M_Spread at h
  split at h
  rotate_left
  · exact h.elim
  rename_i t s1 h1
  obtain ⟨rfl, ⟨k1, k2, k3, k4⟩, q⟩ := h
  show sSeq _ _ _ [.own _, .val (.int t), .val (.int s1), .val (.int h1), .un]
  walk_at "q"
  refine ⟨by decide, ?_⟩
  rw [if_pos (by rw [decide_eq_true_eq]; exact k1), if_neg (by rw [decide_eq_true k2]; decide), if_pos (by rw [decide_eq_true_eq]; exact k3), if_neg (by rw [decide_eq_true k4]; decide)]
  exact ⟨by decide, by decide, by decide, q⟩
theorem ok_Spread_line (T : Tx K mg ad) : FnOk P w K mg base (L2.CX P w) 5 ad.f_Spread_line ad.d_Spread_line ["self"] (spA K 1 (S_sline ad)) := by
  have G_Line___init__ := ok_Line___init__ (P := P) (w := w) (base := base) T
  refine fnA (k := 4) T.F_Spread_line sc_Spread_line fun cdv A outer s H F0 E EX hr tk => ⟨_, (qs_one (qs_ret (q_makeN T.mk_Line G_Line___init__ (hr.mono (by decide)) (by rfl) T.g_Line T.b_Line___init__ tkE0 (qa_cons (q_fld (hf_ticks T) (q_var (pv 0))) (qa_cons (q_fld (hf_ahead T) (q_var (pv 0))) (qa_cons (q_fld (hf_slots T) (q_var (pv 0))) qa_nil)))).qe)), fun ds Q hn h => ?_⟩
  unfold S_sline at h
  split at h
  rotate_left
  · exact h.elim
  rename_i d
  obtain ⟨t, s1, h1, rfl, hs, q⟩ := h
  show sRet _ _ [.val _]
  walk_at "q"
  exact ⟨hs, q⟩
theorem ok_Spread_has (T : Tx K mg ad) : FnOk P w K mg base (L2.CX P w) 6 ad.f_Spread_has ad.d_Spread_has ["self", "slot"] (spA K 2 (S_has ad)) := by
  have G_Line_at := ok_Line_at (P := P) (w := w) (base := base) T
  have G_Spread_line := ok_Spread_line (P := P) (w := w) (base := base) T
  refine fnA (k := 5) T.F_Spread_has sc_Spread_has fun cdv A outer s H F0 E EX hr tk => ⟨_, (qs_one (qs_ret (q_cmp qo_gt (q_meth T.cl_Line T.me_Line_at G_Line_at (hr.mono (by decide)) T.b_Line_at tkE0 (q_meth0 T.cl_Spread T.me_Spread_line G_Spread_line (hr.mono (by decide)) T.b_Spread_line tkE0 (q_var (pv 0))) (qa_cons (q_op qo_add (q_var (pv 1)) q_int) qa_nil)) (q_meth T.cl_Line T.me_Line_at G_Line_at (hr.mono (by decide)) T.b_Line_at tkE0 (q_meth0 T.cl_Spread T.me_Spread_line G_Spread_line (hr.mono (by decide)) T.b_Spread_line tkE0 (q_var (pv 0))) (qa_cons (q_var (pv 1)) qa_nil))))), fun ds Q hn h => ?_⟩
  unfold S_has at h
  split at h
  rotate_left
  · exact h.elim
  rename_i d x
  obtain ⟨t, s1, h1, rfl, ⟨k1, k2, k3, k4⟩, q⟩ := h
  show sRet _ _ [.val _, .val _]
  walk_at "q"
  exact ⟨k1, ⟨.r (by omega) (by omega), DOk.small (by omega) (by omega)⟩, k1, ⟨.r (by omega) (by omega), DOk.small (by omega) (by omega)⟩, q⟩
theorem ok_spread_of (T : Tx K mg ad) : FnOk P w K mg base (L2.CX P w) 6 ad.f_spread_of ad.d_spread_of ["row"] (spA K 1 (S_spof ad)) := by
  have G_Spread___init__ := ok_Spread___init__ (P := P) (w := w) (base := base) T
  have G_is_number := ok_is_number (P := P) (w := w) (base := base) T
  have G_stairs := ok_stairs (P := P) (w := w) (base := base) T
  refine fnA (k := 5) T.F_spread_of sc_spread_of fun cdv A outer s H F0 E EX hr tk => ⟨_, (qs_cons (qs_own (i := 1) sc_spread_of.nd rfl (.inl rfl) (.inl rfl) (q_lstN (qa_cons q_int qa_nil)))
      (qs_cons (qs_for PassesOwn.leaving rfl (qi_l (q_var (pv 0))) (qg_n (pg_name (i := 2) sc_spread_of.nd rfl (.inl rfl)) (.inl rfl)) (qs_cons (qs_if (qt_w (qw_or (qt_not (qt_tru (q_call G_is_number (hr.mono (by decide)) (by rfl) T.g_is_number T.k_is_number T.b_is_number tkE0 (qa_cons (q_var (pv 2)) qa_nil)))) (qw_or1 (qt_cmp qo_ninI (q_var (pv 2)) (q_tup (qa_cons q_int (qa_cons q_int qa_nil))))))) (qs_one qs_nev) qs_nil)
      (qs_one (qs_app (pv 1) (q_op qo_add (q_ixO (pv 1) (q_un qo_neg q_int)) (q_var (pv 2)))))))
      (qs_cons (qs_if (qt_cmp (qo_eq hr.units) (q_ixO (pv 1) (q_un qo_neg q_int)) q_int) (qs_one (qs_ret (q_makeN T.mk_Spread G_Spread___init__ (hr.mono (by decide)) (by rfl) T.g_Spread T.b_Spread___init__ tkE0 (qa_cons q_int (qa_cons (q_callB qc_len (by rfl) T.n_len bt_len (qa_cons (q_varO (pv 1) (.inl rfl)) qa_nil)) (qa_cons q_int qa_nil)))).qe)) qs_nil)
      (qs_cons (qs_set (i := 3) sc_spread_of.nd rfl (.inl rfl) (.inl rfl) (q_call G_stairs (hr.mono (by decide)) (by rfl) T.g_stairs T.k_stairs T.b_stairs tkE0 (qa_cons (q_varO (pv 1) (.inl rfl)) qa_nil)))
      (qs_cons (qs_if (qt_not (qt_tru (q_callB qc_isiC (by rfl) T.n_isinstance bt_isinstance (qa_cons (q_var (pv 3)) (qa_cons (q_cls (by rfl) T.g_Stairs) qa_nil))))) (qs_one (qs_ret q_non)) qs_nil)
      (qs_one (qs_ret (q_makeN T.mk_Spread G_Spread___init__ (hr.mono (by decide)) (by rfl) T.g_Spread T.b_Spread___init__ tkE0 (qa_cons (q_fld (hf_a T) (q_fld (hf_line T) (q_var (pv 3)))) (qa_cons (q_fld (hf_m T) (q_fld (hf_line T) (q_var (pv 3)))) (qa_cons (q_fld (hf_b T) (q_fld (hf_line T) (q_var (pv 3)))) qa_nil)))).qe))))))), fun ds Q hn h => ?_⟩
  unfold S_spof at h
  split at h
  rotate_left
  · exact h.elim
  rename_i xs
  obtain ⟨ns, e, ⟨h1, h2, h3⟩, q⟩ := h
  cases allInts_eq e
  show sSeq _ _ _ [.val (.lst _), .un, .un, .un]
  walk_at "q"
  refine ⟨by decide, ?_⟩
  refine forR_inv (fun L env => ∃ s2, env = [.val (.lst (ns.map D.int)), .own (.lst ((W50.ps ns L).map D.int)), s2, .un]) ⟨_, rfl⟩ ?_ ?_
  · rintro L d env N hd ⟨s2, rfl⟩ hN
    obtain ⟨hL, rfl⟩ := ints_get hd
    have hm : ns.getD L 0 ∈ ns := by
      rw [List.getD_eq_getElem?_getD, List.getElem?_eq_getElem hL]
      exact List.getElem_mem _
    have h01 := h3 _ hm
    walk_at "q"
    refine ⟨by decide, [0, 1], rfl, ?_⟩
    rw [if_pos trivial, if_neg (by rw [decide_eq_true (show ns.getD L 0 ∈ [0, 1] by simp only [List.mem_cons, List.not_mem_nil, or_false]; omega)]; decide)]
    refine ⟨_, ps_last, ?_⟩
    walk_at "q"
    have e1 : (W50.ps ns L).map D.int ++ [D.int (W50.pre ns L + ns.getD L 0)] = (W50.ps ns (L + 1)).map D.int := by
      rw [← W50.ps_succ hL, List.map_append]
      rfl
    rw [e1]
    exact ⟨by rw [W50.ps_len]; exact Nat.lt_of_lt_of_le (show L + 1 < 1000 by omega) (by decide), hN _ ⟨_, rfl⟩⟩
  · rintro env ⟨s2, rfl⟩
    walk_at "q"
    refine ⟨_, ps_last, ?_⟩
    walk_at "q"
    have el : ((W50.ps ns ns.length).length : Int) = (ns.length : Int) + 1 := by rw [W50.ps_len]; omega
    split
    · rename_i g
      rw [decide_eq_true_eq] at g
      rw [el]
      exact ⟨⟨by decide, by omega, by decide, by omega⟩, q _ (.inl ⟨g, rfl⟩)⟩
    · rename_i g
      rw [decide_eq_true_eq] at g
      refine ⟨⟨by rw [W50.ps_len]; omega, by rw [W50.ps_len]; omega, ps_sm h3 (by decide) (by decide) (by omega)⟩, fun d hd => ?_⟩
      have hd' := hd
      rcases hd with ⟨p, r, rfl, _⟩ | ⟨a, b, m, p, r, rfl, ⟨hm, _⟩, fit, l1, l2, hb, hmax⟩
      · walk_at "q"
        refine ⟨T.isc_Crooked, false, T.i_Crooked_Stairs, ?_⟩
        walk_at "q"
        exact q _ (.inr ⟨g, _, hd', .inl ⟨_, _, rfl, rfl⟩⟩)
      · walk_at "q"
        refine ⟨T.isc_Stairs, true, T.i_Stairs_Stairs, ?_⟩
        walk_at "q"
        rw [el] at fit l2 hb hmax
        have ok := W50.spread_ok hm (by omega) (by rw [nth_ps (by omega) (by omega)]; rfl) (fun p q z1 z2 z3 => by
          rw [nth_ps (by omega) (by omega), nth_ps (by omega) (by omega)]
          have := (W50.pre_bounds h3 (p := p.toNat) (q := q.toNat) (by omega) (by omega)).2
          omega) (by
          rw [nth_ps (by omega) (by omega), show ((ns.length : Int) + 1 - 1).toNat = ns.length by omega]
          have := (W50.pre_bounds h3 (Nat.zero_le ns.length) (Nat.le_refl _)).1
          rw [W50.pre_zero] at this
          omega) fit l2 hb hmax
        exact ⟨ok, q _ (.inr ⟨g, _, hd', .inr ⟨a, b, m, p, r, rfl, rfl⟩⟩)⟩
theorem ok_law (T : Tx K mg ad) : FnOk P w K mg base (L2.CX P w) 7 ad.f_law ad.d_law ["script"] (spA K 1 (S_law)) := by
  have G_Line___init__ := ok_Line___init__ (P := P) (w := w) (base := base) T
  have G_Line_at := ok_Line_at (P := P) (w := w) (base := base) T
  have G_Spread___init__ := ok_Spread___init__ (P := P) (w := w) (base := base) T
  have G_Spread_has := ok_Spread_has (P := P) (w := w) (base := base) T
  have G__law_take := ok__law_take (P := P) (w := w) (base := base) T
  have G_spread_of := ok_spread_of (P := P) (w := w) (base := base) T
  have G_stairs := ok_stairs (P := P) (w := w) (base := base) T
  refine fnA (k := 6) T.F_law sc_law fun cdv A outer s H F0 E EX hr tk => ⟨_, (qs_cons (qs_own (i := 1) sc_law.nd rfl (.inl rfl) (.inl rfl) (q_lstN (qa_cons (q_var (pv 0)) (qa_cons q_int qa_nil))))
      (qs_cons (qs_asg (q_tup (qa_cons (q_op qo_add q_int (q_callM G__law_take (hr.mono (by decide)) (by rfl) T.g__law_take T.k__law_take T.b__law_take tkE0 (pv 1) (qa_cons q_int qa_nil))) (qa_cons (q_op qo_add q_int (q_callM G__law_take (hr.mono (by decide)) (by rfl) T.g__law_take T.k__law_take T.b__law_take tkE0 (pv 1) (qa_cons q_int qa_nil))) qa_nil))) (qg_t (n := 2) rfl (qgs_cons (qg_n (pg_name (i := 2) sc_law.nd rfl (.inr rfl)) (.inl rfl)) (qgs_cons (qg_n (pg_name (i := 3) sc_law.nd rfl (.inl rfl)) (.inl rfl)) qgs_nil))))
      (qs_cons (qs_set (i := 4) sc_law.nd rfl (.inl rfl) (.inl rfl) (q_op qo_add q_int (q_callM G__law_take (hr.mono (by decide)) (by rfl) T.g__law_take T.k__law_take T.b__law_take tkE0 (pv 1) (qa_cons q_int qa_nil))))
      (qs_cons (qs_set (i := 5) sc_law.nd rfl (.inr rfl) (.inl rfl) (q_makeN T.mk_Spread G_Spread___init__ (hr.mono (by decide)) (by rfl) T.g_Spread T.b_Spread___init__ tkE0 (qa_cons (q_op qo_add q_int (q_callM G__law_take (hr.mono (by decide)) (by rfl) T.g__law_take T.k__law_take T.b__law_take tkE0 (pv 1) (qa_cons (q_var (pv 4)) qa_nil))) (qa_cons (q_var (pv 4)) (qa_cons (q_callM G__law_take (hr.mono (by decide)) (by rfl) T.g__law_take T.k__law_take T.b__law_take tkE0 (pv 1) (qa_cons (q_var (pv 4)) qa_nil)) qa_nil)))).qe)
      (qs_cons (qs_ownLc (i := 6) (own := [("slot", 7)]) rfl sc_law.nd rfl rfl (.inl rfl) (.inl rfl) (sw_true rfl rfl rfl (by decide +kernel)) (qi_r1 (by rfl) T.n_range (qa_cons (q_var (pv 3)) qa_nil)) (blkOk_by (by kernel_rfl)) (fun _ _ _ _ _ _ => (qg_n (pg_name (i := 7) sc_law.nd rfl (.inl rfl)) (.inl rfl))) (fun _ _ _ _ _ _ => qts_nil) (fun _ _ _ _ _ _ => (q_op qo_add (q_var (pv 2)) (q_callTy qc_int (by rfl) T.n_int bt_int (qa_cons (q_meth T.cl_Spread T.me_Spread_has G_Spread_has (hr.mono (by decide)) T.b_Spread_has tkE0 (q_var (pv 5)) (qa_cons (q_var (pv 7)) qa_nil)) qa_nil)))))
      (qs_cons (qs_cut (qs_if (qt_cmp (qo_eq hr.units) (q_callM G__law_take (hr.mono (by decide)) (by rfl) T.g__law_take T.k__law_take T.b__law_take tkE0 (pv 1) (qa_cons q_int qa_nil)) q_int) (qs_cons (qs_set (i := 8) sc_law.nd rfl (.inl rfl) (.inl rfl) (q_callM G__law_take (hr.mono (by decide)) (by rfl) T.g__law_take T.k__law_take T.b__law_take tkE0 (pv 1) (qa_cons (q_var (pv 3)) qa_nil)))
      (qs_one (qs_put (pv 6) (q_var (pv 8)) (q_op qo_sub (q_op qo_add (q_op qo_mul q_int (q_var (pv 2))) q_int) (q_ixA (pv 6) (q_var (pv 8))))))) qs_nil))
      (qs_cons (qs_own (i := 9) sc_law.nd rfl (.inl rfl) (.inl rfl) (q_lstN (qa_cons q_int qa_nil)))
      (qs_cons (qs_for PassesOwn.leaving rfl (qi_l (q_varO (pv 6) (.inl rfl))) (qg_n (pg_name (i := 10) sc_law.nd rfl (.inl rfl)) (.inl rfl)) (qs_one (qs_app (pv 9) (q_op qo_add (q_ixA (pv 9) (q_un qo_neg q_int)) (q_var (pv 10))))))
      (qs_cons (qs_par (i := 11) (j := 12) rfl sc_law.nd rfl rfl (by decide) (.inl rfl) (.inl rfl) rfl rfl (qa_cons (q_call G_stairs (hr.mono (by decide)) (by rfl) T.g_stairs T.k_stairs T.b_stairs tkE0 (qa_cons (q_varO (pv 9) (.inl rfl)) qa_nil)) (qa_cons (q_call G_spread_of (hr.mono (by decide)) (by rfl) T.g_spread_of T.k_spread_of T.b_spread_of tkE0 (qa_cons (q_lcN (own := [("length", 10)]) rfl sc_law.nd (.inl rfl) (qi_l (q_varO (pv 6) (.inl rfl))) (blkOk_by (by kernel_rfl)) (fun _ _ _ _ _ _ => (qg_n (pg_name (i := 10) sc_law.nd rfl (.inl rfl)) (.inl rfl))) (fun _ _ _ _ _ _ => qts_nil) (fun _ _ _ _ _ _ => (q_op qo_sub (q_var (pv 10)) (q_var (pv 2))))).qe qa_nil)) qa_nil)) (by rfl))
      (qs_cons (qs_if (qt_cmp (qo_ne hr.units) (q_callB qc_isiC (by rfl) T.n_isinstance bt_isinstance (qa_cons (q_var (pv 11)) (qa_cons (q_cls (by rfl) T.g_Stairs) qa_nil))) (q_cmp qo_notN (q_var (pv 12)) q_non)) (qs_one (qs_ret q_bl)) qs_nil)
      (qs_cons (qs_if (qt_cmp qo_isN (q_var (pv 12)) q_non) (qs_one (qs_ret q_bl)) qs_nil)
      (qs_cons (qs_set (i := 13) sc_law.nd rfl (.inr rfl) (.inl rfl) (q_makeN T.mk_Line G_Line___init__ (hr.mono (by decide)) (by rfl) T.g_Line T.b_Line___init__ tkE0 (qa_cons (q_op qo_add (q_fld (hf_ticks T) (q_var (pv 12))) (q_op qo_mul (q_var (pv 2)) (q_fld (hf_slots T) (q_var (pv 12))))) (qa_cons (q_fld (hf_ahead T) (q_var (pv 12))) (qa_cons (q_fld (hf_slots T) (q_var (pv 12))) qa_nil)))).qe)
      (qs_cons (qs_if (qt_w (qw_or (qt_cmp (qo_ne hr.units) (q_lcN (own := [("x", 14)]) rfl sc_law.nd (.inl rfl) (qi_r1 (by rfl) T.n_range (qa_cons (q_op qo_add (q_var (pv 3)) q_int) qa_nil)) (blkOk_by (by kernel_rfl)) (fun _ _ _ _ _ _ => (qg_n (pg_name (i := 14) sc_law.nd rfl (.inl rfl)) (.inl rfl))) (fun _ _ _ _ _ _ => qts_nil) (fun _ _ _ _ _ _ => (q_meth T.cl_Line T.me_Line_at G_Line_at (hr.mono (by decide)) T.b_Line_at tkE0 (q_var (pv 13)) (qa_cons (q_var (pv 14)) qa_nil)))).qe (q_varO (pv 9) (.inl rfl))) (qw_or1 (qt_cmp qo_gt (q_fld (hf_m T) (q_fld (hf_line T) (q_var (pv 11)))) (q_fld (hf_slots T) (q_var (pv 12))))))) (qs_one (qs_ret q_bl)) qs_nil)
      (qs_cons (qs_cut (qs_if (qt_w (qw_and (qt_cmp qo_gt (q_callB (qc_sum rfl) (by rfl) T.n_sum bt_sum (qa_cons (q_varO (pv 6) (.inl rfl)) qa_nil)) (q_op qo_mul (q_var (pv 2)) (q_var (pv 3)))) (qw_and1 (qt_cmp (qo_ne hr.units) (q_tup (qa_cons (q_fld (hf_m T) (q_fld (hf_line T) (q_var (pv 11)))) (qa_cons (q_fld (hf_a T) (q_fld (hf_line T) (q_var (pv 11)))) (qa_cons (q_fld (hf_b T) (q_fld (hf_line T) (q_var (pv 11)))) qa_nil)))) (q_tup (qa_cons (q_fld (hf_m T) (q_var (pv 13))) (qa_cons (q_fld (hf_a T) (q_var (pv 13))) (qa_cons (q_fld (hf_b T) (q_var (pv 13))) qa_nil)))))))) (qs_one (qs_ret q_bl)) qs_nil))
      (qs_cons (qs_for PassesOwn.leaving rfl (qi_r3 (by rfl) T.n_range (qa_cons q_int (qa_cons (q_ixA (pv 9) (q_un qo_neg q_int)) (qa_cons q_int qa_nil)))) (qg_n (pg_name (i := 15) sc_law.nd rfl (.inr rfl)) (.inl rfl)) (qs_cons (qs_set (i := 16) sc_law.nd rfl (.inl rfl) (.inl rfl) (q_callB qc_len (by rfl) T.n_len bt_len (qa_cons (q_lcN (own := [("one", 17)]) rfl sc_law.nd (.inl rfl) (qi_l (q_slice (q_varO (pv 9) (.inl rfl)) (qo_some q_int) qo_none)) (blkOk_by (by kernel_rfl)) (fun _ _ _ _ _ _ => (qg_n (pg_name (i := 17) sc_law.nd rfl (.inl rfl)) (.inl rfl))) (fun _ _ _ _ _ _ => (qts_one (qt_cmp qo_le (q_var (pv 17)) (q_var (pv 15))))) (fun _ _ _ _ _ _ => (q_var (pv 17)))).qe qa_nil)))
      (qs_one (qs_if (qt_w (qw_or (qt_cmp qo_gt (q_meth T.cl_Line T.me_Line_at G_Line_at (hr.mono (by decide)) T.b_Line_at tkE0 (q_var (pv 13)) (qa_cons (q_var (pv 16)) qa_nil)) (q_var (pv 15))) (qw_or1 (qt_cmp qo_le (q_meth T.cl_Line T.me_Line_at G_Line_at (hr.mono (by decide)) T.b_Line_at tkE0 (q_var (pv 13)) (qa_cons (q_op qo_add (q_var (pv 16)) q_int) qa_nil)) (q_var (pv 15)))))) (qs_one (qs_ret q_bl)) qs_nil))))
      (qs_one (qs_ret q_bl))))))))))))))))), fun ds Q hn h => ?_⟩
  obtain ⟨ns, rfl, hl, q⟩ := h
  show sSeq _ _ _ [.val (.scr ns), .un, .un, .un, .un, .un, .un, .un, .un, .un, .un, .un, .un, .un, .un, .un, .un, .un]
  walk_at "q"
  refine ⟨by decide, ⟨ns, 0, hl, rfl⟩, by decide, fun r0 d0 z1 z2 hD0 => ⟨hD0, by decide, fun r1 d1 z3 z4 hD1 => ⟨by decide, hD1, by decide, fun r2 d2 z5 z6 hD2 => ⟨hD2, by omega, fun r3 d3 z7 z8 hD3 => ⟨hD3, by omega, fun r4 d4 z9 z10 hD4 => ⟨⟨by omega, by omega, by omega, by omega⟩, ⟨by omega, by omega⟩, ?_⟩⟩⟩⟩⟩⟩
  generalize hs : 28 + r0 = s
  generalize hm : 2 + r1 = many
  generalize ht : 1 + r3 = tk
  generalize hsl : 1 + r2 = sl
  have hs1 : 28 ≤ s ∧ s ≤ 31 := by omega
  have hm1 : 2 ≤ many ∧ many ≤ 31 := by omega
  have hsl1 : 1 ≤ sl ∧ sl ≤ 60 := by omega
  clear hs hm ht hsl z1 z2 z3 z4 z5 z6 z7 z8 z9 z10
  refine lcR_inv (fun i acc env => ∃ L, Lens s i L ∧ acc = L.map D.int ∧ env = [.val (.scr ns), .own d4, .val (.int s), .val (.int many), .val (.int sl), .val (oSpread ad (.int tk) (.int sl) (.int r4)), .un, .un, .un, .un, .un, .un, .un, .un, .un, .un, .un, .un]) ⟨[], ⟨rfl, fun n hn => by cases hn⟩, rfl, rfl⟩ ?_ ?_
  · rintro i d acc env N hd ⟨L, hL, rfl, rfl⟩ hN
    obtain ⟨hi, rfl⟩ := rng_get hd
    walk_at "q"
    refine ⟨⟨by omega, by omega, by omega, by omega⟩, ?_⟩
    refine ⟨by rw [hL.1]; exact Nat.lt_of_lt_of_le (show i < 1000 by omega) (by decide), hN _ _ ⟨L ++ [s + if decide ((tk * (i : Int) + r4) / sl < (tk * ((i : Int) + 1) + r4) / sl) = true then 1 else 0], ⟨by rw [List.length_append, hL.1]; rfl, fun n hn => ?_⟩, by rw [List.map_append]; rfl, rfl⟩⟩
    rcases List.mem_append.mp hn with h | h
    · exact hL.2 n h
    · rw [List.mem_singleton.mp h]
      split <;> omega
  rintro acc env ⟨L, hL, rfl, rfl⟩
  rw [rng_len] at hL
  walk_at "q"
  refine ⟨fun env => ∃ d' s8 L', Drw d' ∧ Lens s many.toNat L' ∧ env = [.val (.scr ns), .own d', .val (.int s), .val (.int many), .val (.int sl), .val (oSpread ad (.int tk) (.int sl) (.int r4)), .own (.lst (L'.map D.int)), .un, s8, .un, .un, .un, .un, .un, .un, .un, .un, .un], ?_, ?_⟩
  · walk_at "q"
    refine ⟨hD4, by decide, fun r5 d5 z1 z2 hD5 => ?_⟩
    split
    · refine ⟨hD5, by omega, fun at_ d6 z3 z4 hD6 => ?_⟩
      have inA : In L at_ := ⟨z3, by rw [hL.1]; omega⟩
      have hb := hL.2 (nth L at_) (by
        unfold nth
        rw [List.getD_eq_getElem?_getD, List.getElem?_eq_getElem (show at_.toNat < L.length by have := inA.2; omega)]
        exact List.getElem_mem _)
      walk_at "q"
      refine ⟨.l (by decide) (by decide), _, nth_at inA, ?_⟩
      walk_at "q"
      refine ⟨at_.toNat, ?_, d6, _, L.set at_.toNat (2 * s + 1 - nth L at_), hD6, ⟨by rw [List.length_set]; exact hL.1, fun n hn => ?_⟩, by rw [List.map_set]⟩
      · unfold ixN
        rw [if_pos inA.1, if_pos inA.2]
      · rcases List.mem_or_eq_of_mem_set hn with h | h
        · exact hL.2 n h
        · rw [h]; omega
    · exact ⟨_, _, L, hD5, hL, rfl⟩
  rintro env ⟨d5, s8, L2, hD5, hL2, rfl⟩
  clear hL hD4
  walk_at "q"
  refine ⟨by decide, ?_⟩
  refine forR_inv (fun K env => ∃ s10, notOwn s10 = true ∧ env = [.val (.scr ns), .own d5, .val (.int s), .val (.int many), .val (.int sl), .val (oSpread ad (.int tk) (.int sl) (.int r4)), .val (.lst (L2.map D.int)), .un, s8, .own (.lst ((W50.ps L2 K).map D.int)), s10, .un, .un, .un, .un, .un, .un, .un]) ⟨_, rfl, rfl⟩ ?_ ?_
  · rintro K0 d env N hd ⟨s10, _, rfl⟩ hN
    obtain ⟨hK, rfl⟩ := ints_get hd
    walk_at "q"
    refine ⟨_, ps_last, ?_⟩
    walk_at "q"
    have e1 : (W50.ps L2 K0).map D.int ++ [D.int (W50.pre L2 K0 + L2.getD K0 0)] = (W50.ps L2 (K0 + 1)).map D.int := by
      rw [← W50.ps_succ hK, List.map_append]
      rfl
    rw [e1]
    exact ⟨by rw [W50.ps_len]; exact Nat.lt_of_lt_of_le (show K0 + 1 < 1000 by have := hL2.1; omega) (by decide), hN _ ⟨_, rfl, rfl⟩⟩
  rintro env ⟨s10, hs10, rfl⟩
  walk_at "q"
  have hn2 : L2.length = many.toNat := hL2.1
  refine ⟨⟨by rw [W50.ps_len]; omega, by rw [W50.ps_len]; omega, ps_sm hL2.2 (by omega) (by omega) (by omega)⟩, fun told hT => ⟨hs10, ?_⟩⟩
  refine lcR_map (fun d => match d with | .int n => .int (n - s) | _ => .non) (by rw [List.length_map]; exact Nat.le_trans (show L2.length ≤ 1000 by omega) (by decide)) ?_ ?_
  · intro d N hd hN
    obtain ⟨i, hi⟩ := List.getElem?_of_mem hd
    obtain ⟨hi2, rfl⟩ := ints_get hi
    walk_at "q"
    refine hN _ ?_
    walk_at "q"
  have e3 : (L2.map D.int).map (fun d => match d with | .int n => D.int (n - s) | _ => .non) = (L2.map (· - s)).map D.int := by
    rw [List.map_map, List.map_map]
    rfl
  rw [e3]
  walk_at "q"
  refine ⟨⟨by omega, by omega, fun n hn => ?_⟩, fun sp hSp => ?_⟩
  · obtain ⟨z, hz, rfl⟩ := List.mem_map.mp hn
    have := hL2.2 z hz
    show 0 ≤ z - s ∧ z - s ≤ 1
    omega
  have hr : ∀ x : Int, 0 ≤ x → x < ((W50.ps L2 L2.length).length : Int) → nth (W50.ps L2 L2.length) x = nth (W50.ps (L2.map (· - s)) (L2.map (· - s)).length) x + s * x := fun x g0 g1 => by
    rw [W50.ps_len] at g1
    rw [nth_ps g0 (by omega), nth_ps g0 (by rw [List.length_map]; omega), W50.pre_shift (s := s) (by omega), show ((x.toNat : Nat) : Int) = x by omega]
  rcases hSp with ⟨h0, rfl⟩ | ⟨h0, told2, hT2, ⟨p2, q2, rfl, rfl⟩ | ⟨a2, b2, m2, p2, q2, rfl, rfl⟩⟩
  · have h01 : ∀ n ∈ L2.map (· - s), 0 ≤ n ∧ n ≤ 1 := fun n hn => by
      obtain ⟨z, hz, rfl⟩ := List.mem_map.mp hn
      have := hL2.2 z hz
      show 0 ≤ z - s ∧ z - s ≤ 1
      omega
    rw [List.length_map] at h0
    have pz : ∀ k : Nat, k ≤ L2.length → W50.pre L2 k = s * k := fun k hk => by
      have g1 := (W50.pre_bounds h01 (Nat.zero_le k) (by rw [List.length_map]; exact hk)).1
      have g2 := (W50.pre_bounds h01 hk (by rw [List.length_map]; exact Nat.le_refl _)).1
      rw [W50.pre_zero] at g1
      rw [W50.pre_shift (s := s) hk]
      omega
    have hr1 : ∀ x : Int, 0 ≤ x → x < ((W50.ps L2 L2.length).length : Int) → nth (W50.ps L2 L2.length) x = s * x := fun x g0 g1 => by
      rw [W50.ps_len] at g1
      rw [nth_ps g0 (by omega), pz _ (by omega), show ((x.toNat : Nat) : Int) = x by omega]
    have esum : L2.sum = s * many := by
      have := pz L2.length (Nat.le_refl _)
      unfold W50.pre at this
      rw [List.take_length] at this
      rw [this, show ((L2.length : Nat) : Int) = many by omega]
    rcases hT with ⟨p, r, rfl, no⟩ | ⟨a, b, m, p, r, rfl, ⟨z1, z2⟩, fit, l1, l2, hb, hmax⟩
    · exact absurd (W50.fit_one hr1) (no s 1 (by decide))
    have m1 : m = 1 := by
      by_cases e : m = 1
      · exact e
      · exact absurd (W50.fit_one hr1) (l1 s 1 (by decide) (by omega))
    walk_at "q"
    refine ⟨T.isc_Stairs, true, T.i_Stairs_Stairs, ?_⟩
    walk_at "q"
    rw [if_neg (by decide)]
    refine ⟨.l (by omega) (by omega), by omega, ⟨by omega, by omega⟩, ?_⟩
    have line : ∀ x : Int, 0 ≤ x → x ≤ many → ((1 + s * ((L2.length : Int) + 1)) * x + 0) / ((L2.length : Int) + 1) = W50.pre L2 x.toNat := fun x g0 g1 => by
      rw [show (1 + s * ((L2.length : Int) + 1)) * x + 0 = x + (s * x) * ((L2.length : Int) + 1) by
        rw [Int.add_zero, Int.add_mul, Int.one_mul]
        congr 1
        ac_rfl, Int.add_mul_ediv_right _ _ (by omega), Int.ediv_eq_zero_of_lt g0 (by omega), Int.zero_add, pz _ (by omega), show ((x.toNat : Nat) : Int) = x by omega]
    have hM1 : 1 ≤ (L2.length : Int) + 1 := by omega
    have hM2 : (L2.length : Int) + 1 ≤ 80000 := by omega
    generalize 1 + s * ((L2.length : Int) + 1) = A at line ⊢
    generalize hMM : (L2.length : Int) + 1 = M at line hM1 hM2 ⊢
    refine lcR_map (fun d => match d with | .int x => .int (W50.pre L2 x.toNat) | _ => .non) (by rw [rng_len]; exact Nat.le_trans (show (many + 1).toNat ≤ 1000 by omega) (by decide)) ?_ ?_
    · intro d N hd hN
      obtain ⟨i, hi⟩ := List.getElem?_of_mem hd
      obtain ⟨hi2, rfl⟩ := rng_get hi
      simp only [Int.zero_add] at hN
      walk_at "q"
      rw [line i (by omega) (by omega)]
      refine ⟨⟨.r (by omega) (by omega), DOk.small (by omega) (by omega)⟩, hN _ ?_⟩
      walk_at "q"
    rw [show (rng 0 (many + 1).toNat).map (fun d => match d with | .int x => D.int (W50.pre L2 x.toNat) | _ => .non) = (W50.ps L2 L2.length).map D.int by
      unfold rng W50.ps
      rw [show (many + 1).toNat = L2.length + 1 by omega, List.map_map, List.map_map]
      refine List.map_congr_left fun i _ => ?_
      show D.int (W50.pre L2 (0 + (i : Int)).toNat) = D.int (W50.pre L2 i)
      rw [show (0 + (i : Int)).toNat = i by omega]]
    walk_at "q"
    rw [if_neg (by decide), if_neg (by rw [decide_eq_true_eq]; omega)]
    refine ⟨fun env => ∃ A B M t sp s14, env = [.val (.scr ns), .own d5, .val (.int s), .val (.int many), .val (.int sl), .val (oSpread ad (.int tk) (.int sl) (.int r4)), .val (.lst (L2.map D.int)), .un, s8, .val (.lst ((W50.ps L2 L2.length).map D.int)), s10, .val t, .val sp, .val (oLine ad (.int A) (.int B) (.int M)), s14, .un, .un, .un] ∧ (1 ≤ M ∧ M ≤ 80000) ∧ ∀ x : Int, 0 ≤ x → x ≤ many → (A * x + B) / M = W50.pre L2 x.toNat, ?_, ?_⟩
    · walk_at "q"
      refine ⟨L2, allInts_map L2, .l (by omega) (by omega), ?_⟩
      rw [if_neg (by rw [decide_eq_true_eq, esum]; omega)]
      exact ⟨A, 0, M, _, _, _, rfl, ⟨hM1, hM2⟩, line⟩
    · rintro env ⟨A, B, M, t, sp, s14, rfl, ⟨m1, m2⟩, line⟩
      walk_at "q"
      have bd := fun p q h1 h2 => W50.pre_bounds hL2.2 (p := p) (q := q) h1 h2
      have tot := bd 0 L2.length (Nat.zero_le _) (Nat.le_refl _)
      have tot2 : (s + 1) * ((L2.length : Int) - ((0 : Nat) : Int)) ≤ 32 * 31 := Int.mul_le_mul (by omega) (by omega) (by omega) (by decide)
      rw [W50.pre_zero] at tot
      have tot0 : 0 ≤ s * ((L2.length : Int) - ((0 : Nat) : Int)) := Int.mul_nonneg (by omega) (by omega)
      obtain ⟨n, hn, hk⟩ := rgC_up (i := 0) (j := W50.pre L2 L2.length) (c := 7) (by decide) (by decide) (by omega) (by omega) (by decide) (by decide)
      refine ⟨_, ps_last, ?_⟩
      refine ⟨n, hn, ?_⟩
      refine forR_inv (fun _ env => ∃ s15 s16, env = [.val (.scr ns), .own d5, .val (.int s), .val (.int many), .val (.int sl), .val (oSpread ad (.int tk) (.int sl) (.int r4)), .val (.lst (L2.map D.int)), .un, s8, .val (.lst ((W50.ps L2 L2.length).map D.int)), s10, .val t, .val sp, .val (oLine ad (.int A) (.int B) (.int M)), s14, s15, s16, .un]) ⟨_, _, rfl⟩ ?_ ?_
      · rintro i d env N hd ⟨s15, s16, rfl⟩ hN
        obtain ⟨hi, rfl⟩ := rngC_get hd
        have hday := hk i hi
        have hday0 : 0 ≤ 0 + (i : Int) * 7 := by omega
        generalize 0 + (i : Int) * 7 = day at hday hday0 ⊢
        walk_at "q"
        rw [cut_ps]
        obtain ⟨c1, c2, c3⟩ := W50.cnt_at (f := W50.pre L2) (day := day) hday0 L2.length (fun k hk => by
          have := (bd k (k + 1) (by omega) (by omega)).1
          rw [show (((k + 1 : Nat) : Int) - (k : Int)) = 1 by omega, Int.mul_one] at this
          omega)
        refine lcR_inv (fun k acc env => acc = ((List.range k).filter fun j => decide (W50.pre L2 (j + 1) ≤ day)).map (fun j => D.int (W50.pre L2 (j + 1))) ∧ env = [.val (.scr ns), .own d5, .val (.int s), .val (.int many), .val (.int sl), .val (oSpread ad (.int tk) (.int sl) (.int r4)), .val (.lst (L2.map D.int)), .un, s8, .val (.lst ((W50.ps L2 L2.length).map D.int)), s10, .val t, .val sp, .val (oLine ad (.int A) (.int B) (.int M)), s14, .val (.int day), s16, .un]) ⟨rfl, rfl⟩ ?_ ?_
        · rintro k d acc env N2 hd2 ⟨rfl, rfl⟩ hN2
          have hk2 := (List.getElem?_eq_some_iff.mp hd2).1
          rw [List.length_map, List.length_range] at hk2
          rw [List.getElem?_map, List.getElem?_range hk2] at hd2
          cases hd2
          walk_at "q"
          have e5 : ((List.range (k + 1)).filter fun j => decide (W50.pre L2 (j + 1) ≤ day)) = ((List.range k).filter fun j => decide (W50.pre L2 (j + 1) ≤ day)) ++ (if W50.pre L2 (k + 1) ≤ day then [k] else []) := by
            rw [List.range_succ, List.filter_append]
            congr 1
            by_cases h : W50.pre L2 (k + 1) ≤ day <;> simp [h]
          rw [e5] at hN2
          split
          · rename_i g
            rw [decide_eq_true_eq] at g
            rw [if_pos g, List.map_append] at hN2
            have hl2 := List.length_filter_le (fun j => decide (W50.pre L2 (j + 1) ≤ day)) (List.range k)
            rw [List.length_range] at hl2
            exact ⟨Nat.lt_of_lt_of_le (show _ < 1000 by omega) (by decide), hN2 _ _ ⟨rfl, rfl⟩⟩
          · rename_i g
            rw [decide_eq_true_eq] at g
            rw [if_neg g, List.append_nil] at hN2
            exact hN2 _ _ ⟨rfl, rfl⟩
        · rintro acc env ⟨rfl, rfl⟩
          walk_at "q"
          simp only [List.length_range]
          generalize hc : (List.filter (fun j => decide (W50.pre L2 (j + 1) ≤ day)) (List.range L2.length)).length = c
          rw [show W50.cnt (W50.pre L2) day L2.length = c from hc] at c1 c2 c3
          have hlt : c < L2.length := by
            by_cases e : c = L2.length
            · rw [e] at c2; omega
            · omega
          have l1 := line c (by omega) (by omega)
          have l2 := line ((c : Int) + 1) (by omega) (by omega)
          rw [show ((c : Int)).toNat = c by omega] at l1
          rw [show ((c : Int) + 1).toNat = c + 1 by omega] at l2
          rw [l1, l2]
          refine ⟨⟨.r (by omega) (by omega), DOk.small (by omega) (by omega)⟩, ?_⟩
          rw [if_neg (by rw [decide_eq_true_eq]; omega)]
          refine ⟨⟨.r (by omega) (by omega), DOk.small (by omega) (by omega)⟩, ?_⟩
          rw [if_neg (by rw [decide_eq_true_eq]; have := c3 hlt; omega)]
          exact hN _ ⟨_, _, rfl⟩
      · rintro env ⟨s15, s16, rfl⟩
        exact q
  · have ht : ∃ p q, told = oCrooked ad p q := by
      rcases hT with ⟨p, q, e, _⟩ | ⟨a, b, m, p, q, _, ⟨z1, _⟩, fit, _⟩
      · exact ⟨p, q, e⟩
      · exfalso
        rcases hT2 with ⟨_, _, _, no⟩ | ⟨_, _, _, _, _, e, _⟩
        · refine no (a - s * m) m (by omega) ?_
          rw [W50.ps_len, List.length_map, ← W50.ps_len (ns := L2) (L := L2.length)]
          have := (W50.Fit.raise hr).mp fit
          rw [List.length_map] at this
          exact this
        · exact no_mix e
    obtain ⟨p, r, rfl⟩ := ht
    walk_at "q"
    refine ⟨T.isc_Crooked, false, T.i_Crooked_Stairs, ?_⟩
    walk_at "q"
    rw [if_neg (by decide)]
    exact q
  · rcases hT2 with ⟨_, _, e, _⟩ | ⟨a3, b3, m3, p3, q3, e, ⟨k1, k2⟩, fit2, j1, j2, hb2, hmax2⟩
    · exact no_mix e.symm
    · cases e
      rw [show ((W50.ps (L2.map (· - s)) (L2.map (· - s)).length).length : Int) = ((W50.ps L2 L2.length).length : Int) by rw [W50.ps_len, W50.ps_len, List.length_map]] at fit2 j1 j2 hb2 hmax2
      rcases hT with ⟨p, r, rfl, no⟩ | ⟨a, b, m, p, r, rfl, ⟨z1, z2⟩, fit, l1, l2, hb, hmax⟩
      · exfalso
        refine no (a2 + s * m2) m2 (by omega) ((W50.Fit.raise hr).mpr ?_)
        rw [show a2 + s * m2 - s * m2 = a2 by omega]
        exact fit2
      · obtain ⟨rfl, rfl⟩ := W50.Fit.same hr z1 k1 fit l1 l2 fit2 j1 j2
        have eb := W50.max_eq hr hb hmax hb2 hmax2
        subst eb
        walk_at "q"
        refine ⟨T.isc_Stairs, true, T.i_Stairs_Stairs, ?_⟩
        walk_at "q"
        rw [if_neg (by decide)]
        have hN1 : ((W50.ps L2 L2.length).length : Int) = many + 1 := by rw [W50.ps_len]; omega
        have line : ∀ x : Int, 0 ≤ x → x ≤ many → ((a2 + s * m) * x + b) / m = W50.pre L2 x.toNat := fun x g0 g1 => by
          rw [fit.at (by omega) hb hmax g0 (by omega), nth_ps g0 (by omega)]
        refine ⟨.l (by omega) (by omega), z1, ⟨by omega, by omega⟩, ?_⟩
        generalize a2 + s * m = A at line ⊢
        refine lcR_map (fun d => match d with | .int x => .int (W50.pre L2 x.toNat) | _ => .non) (by rw [rng_len]; exact Nat.le_trans (show (many + 1).toNat ≤ 1000 by omega) (by decide)) ?_ ?_
        · intro d N hd hN
          obtain ⟨i, hi⟩ := List.getElem?_of_mem hd
          obtain ⟨hi2, rfl⟩ := rng_get hi
          simp only [Int.zero_add] at hN
          walk_at "q"
          rw [line i (by omega) (by omega)]
          refine ⟨⟨.r (by omega) (by omega), DOk.small (by omega) (by omega)⟩, hN _ ?_⟩
          walk_at "q"
        rw [show (rng 0 (many + 1).toNat).map (fun d => match d with | .int x => D.int (W50.pre L2 x.toNat) | _ => .non) = (W50.ps L2 L2.length).map D.int by
          unfold rng W50.ps
          rw [show (many + 1).toNat = L2.length + 1 by omega, List.map_map, List.map_map]
          refine List.map_congr_left fun i _ => ?_
          show D.int (W50.pre L2 (0 + (i : Int)).toNat) = D.int (W50.pre L2 i)
          rw [show (0 + (i : Int)).toNat = i by omega]]
        walk_at "q"
        rw [if_neg (by decide), if_neg (by rw [decide_eq_true_eq]; omega)]
        refine ⟨fun env => ∃ A B M t sp s14, env = [.val (.scr ns), .own d5, .val (.int s), .val (.int many), .val (.int sl), .val (oSpread ad (.int tk) (.int sl) (.int r4)), .val (.lst (L2.map D.int)), .un, s8, .val (.lst ((W50.ps L2 L2.length).map D.int)), s10, .val t, .val sp, .val (oLine ad (.int A) (.int B) (.int M)), s14, .un, .un, .un] ∧ (1 ≤ M ∧ M ≤ 80000) ∧ ∀ x : Int, 0 ≤ x → x ≤ many → (A * x + B) / M = W50.pre L2 x.toNat, ?_, ?_⟩
        · walk_at "q"
          refine ⟨L2, allInts_map L2, .l (by omega) (by omega), ?_⟩
          split
          · refine ⟨by decide, by decide, ?_⟩
            rw [if_neg (by decide)]
            exact ⟨A, b, m, _, _, _, rfl, ⟨z1, z2⟩, line⟩
          · exact ⟨A, b, m, _, _, _, rfl, ⟨z1, z2⟩, line⟩
        · rintro env ⟨A, B, M, t, sp, s14, rfl, ⟨m1, m2⟩, line⟩
          walk_at "q"
          have bd := fun p q h1 h2 => W50.pre_bounds hL2.2 (p := p) (q := q) h1 h2
          have tot := bd 0 L2.length (Nat.zero_le _) (Nat.le_refl _)
          have tot2 : (s + 1) * ((L2.length : Int) - ((0 : Nat) : Int)) ≤ 32 * 31 := Int.mul_le_mul (by omega) (by omega) (by omega) (by decide)
          rw [W50.pre_zero] at tot
          have tot0 : 0 ≤ s * ((L2.length : Int) - ((0 : Nat) : Int)) := Int.mul_nonneg (by omega) (by omega)
          obtain ⟨n, hn, hk⟩ := rgC_up (i := 0) (j := W50.pre L2 L2.length) (c := 7) (by decide) (by decide) (by omega) (by omega) (by decide) (by decide)
          refine ⟨_, ps_last, ?_⟩
          refine ⟨n, hn, ?_⟩
          refine forR_inv (fun _ env => ∃ s15 s16, env = [.val (.scr ns), .own d5, .val (.int s), .val (.int many), .val (.int sl), .val (oSpread ad (.int tk) (.int sl) (.int r4)), .val (.lst (L2.map D.int)), .un, s8, .val (.lst ((W50.ps L2 L2.length).map D.int)), s10, .val t, .val sp, .val (oLine ad (.int A) (.int B) (.int M)), s14, s15, s16, .un]) ⟨_, _, rfl⟩ ?_ ?_
          · rintro i d env N hd ⟨s15, s16, rfl⟩ hN
            obtain ⟨hi, rfl⟩ := rngC_get hd
            have hday := hk i hi
            have hday0 : 0 ≤ 0 + (i : Int) * 7 := by omega
            generalize 0 + (i : Int) * 7 = day at hday hday0 ⊢
            walk_at "q"
            rw [cut_ps]
            obtain ⟨c1, c2, c3⟩ := W50.cnt_at (f := W50.pre L2) (day := day) hday0 L2.length (fun k hk => by
              have := (bd k (k + 1) (by omega) (by omega)).1
              rw [show (((k + 1 : Nat) : Int) - (k : Int)) = 1 by omega, Int.mul_one] at this
              omega)
            refine lcR_inv (fun k acc env => acc = ((List.range k).filter fun j => decide (W50.pre L2 (j + 1) ≤ day)).map (fun j => D.int (W50.pre L2 (j + 1))) ∧ env = [.val (.scr ns), .own d5, .val (.int s), .val (.int many), .val (.int sl), .val (oSpread ad (.int tk) (.int sl) (.int r4)), .val (.lst (L2.map D.int)), .un, s8, .val (.lst ((W50.ps L2 L2.length).map D.int)), s10, .val t, .val sp, .val (oLine ad (.int A) (.int B) (.int M)), s14, .val (.int day), s16, .un]) ⟨rfl, rfl⟩ ?_ ?_
            · rintro k d acc env N2 hd2 ⟨rfl, rfl⟩ hN2
              have hk2 := (List.getElem?_eq_some_iff.mp hd2).1
              rw [List.length_map, List.length_range] at hk2
              rw [List.getElem?_map, List.getElem?_range hk2] at hd2
              cases hd2
              walk_at "q"
              have e5 : ((List.range (k + 1)).filter fun j => decide (W50.pre L2 (j + 1) ≤ day)) = ((List.range k).filter fun j => decide (W50.pre L2 (j + 1) ≤ day)) ++ (if W50.pre L2 (k + 1) ≤ day then [k] else []) := by
                rw [List.range_succ, List.filter_append]
                congr 1
                by_cases h : W50.pre L2 (k + 1) ≤ day <;> simp [h]
              rw [e5] at hN2
              split
              · rename_i g
                rw [decide_eq_true_eq] at g
                rw [if_pos g, List.map_append] at hN2
                have hl2 := List.length_filter_le (fun j => decide (W50.pre L2 (j + 1) ≤ day)) (List.range k)
                rw [List.length_range] at hl2
                exact ⟨Nat.lt_of_lt_of_le (show _ < 1000 by omega) (by decide), hN2 _ _ ⟨rfl, rfl⟩⟩
              · rename_i g
                rw [decide_eq_true_eq] at g
                rw [if_neg g, List.append_nil] at hN2
                exact hN2 _ _ ⟨rfl, rfl⟩
            · rintro acc env ⟨rfl, rfl⟩
              walk_at "q"
              simp only [List.length_range]
              generalize hc : (List.filter (fun j => decide (W50.pre L2 (j + 1) ≤ day)) (List.range L2.length)).length = c
              rw [show W50.cnt (W50.pre L2) day L2.length = c from hc] at c1 c2 c3
              have hlt : c < L2.length := by
                by_cases e : c = L2.length
                · rw [e] at c2; omega
                · omega
              have l1 := line c (by omega) (by omega)
              have l2 := line ((c : Int) + 1) (by omega) (by omega)
              rw [show ((c : Int)).toNat = c by omega] at l1
              rw [show ((c : Int) + 1).toNat = c + 1 by omega] at l2
              rw [l1, l2]
              refine ⟨⟨.r (by omega) (by omega), DOk.small (by omega) (by omega)⟩, ?_⟩
              rw [if_neg (by rw [decide_eq_true_eq]; omega)]
              refine ⟨⟨.r (by omega) (by omega), DOk.small (by omega) (by omega)⟩, ?_⟩
              rw [if_neg (by rw [decide_eq_true_eq]; have := c3 hlt; omega)]
              exact hN _ ⟨_, _, rfl⟩
          · rintro env ⟨s15, s16, rfl⟩
            exact q
theorem all_mk {l : PySem.W.OpenLaw} {w : World} {K : PySem.W.Frag} {h : Heap} {mg : Str → Option Value} {fa : Addr} (X : K.In h) (G : h.Ns mainGlobals mg) (hfa : mg "law" = some (.ref fa))
    {od_is_number an_is_number : Option Addr} {sl_is_number : Array (Option Value)} {oc_is_number kV_is_number dc_is_number pm_is_number cd_is_number ct_is_number : Value} {f_is_number : Addr}
    {od_Line___init__ an_Line___init__ : Option Addr} {sl_Line___init__ : Array (Option Value)} {oc_Line___init__ kV_Line___init__ dc_Line___init__ pm_Line___init__ cd_Line___init__ ct_Line___init__ : Value} {f_Line___init__ : Addr}
    {od_Line_at an_Line_at : Option Addr} {sl_Line_at : Array (Option Value)} {oc_Line_at kV_Line_at dc_Line_at pm_Line_at cd_Line_at ct_Line_at : Value} {f_Line_at : Addr}
    {od_checked_row an_checked_row : Option Addr} {sl_checked_row : Array (Option Value)} {oc_checked_row kV_checked_row dc_checked_row pm_checked_row cd_checked_row ct_checked_row : Value} {f_checked_row : Addr}
    {od_slope_above an_slope_above : Option Addr} {sl_slope_above : Array (Option Value)} {oc_slope_above kV_slope_above dc_slope_above pm_slope_above cd_slope_above ct_slope_above : Value} {f_slope_above : Addr}
    {od_slope_below an_slope_below : Option Addr} {sl_slope_below : Array (Option Value)} {oc_slope_below kV_slope_below dc_slope_below pm_slope_below cd_slope_below ct_slope_below : Value} {f_slope_below : Addr}
    {od_tightest an_tightest : Option Addr} {sl_tightest : Array (Option Value)} {oc_tightest kV_tightest dc_tightest pm_tightest cd_tightest ct_tightest : Value} {f_tightest : Addr}
    {od_least_between an_least_between : Option Addr} {sl_least_between : Array (Option Value)} {oc_least_between kV_least_between dc_least_between pm_least_between cd_least_between ct_least_between : Value} {f_least_between : Addr}
    {od_Stairs___init__ an_Stairs___init__ : Option Addr} {sl_Stairs___init__ : Array (Option Value)} {oc_Stairs___init__ kV_Stairs___init__ dc_Stairs___init__ pm_Stairs___init__ cd_Stairs___init__ ct_Stairs___init__ : Value} {f_Stairs___init__ : Addr}
    {od_Crooked___init__ an_Crooked___init__ : Option Addr} {sl_Crooked___init__ : Array (Option Value)} {oc_Crooked___init__ kV_Crooked___init__ dc_Crooked___init__ pm_Crooked___init__ cd_Crooked___init__ ct_Crooked___init__ : Value} {f_Crooked___init__ : Addr}
    {od_least_offset an_least_offset : Option Addr} {sl_least_offset : Array (Option Value)} {oc_least_offset kV_least_offset dc_least_offset pm_least_offset cd_least_offset ct_least_offset : Value} {f_least_offset : Addr}
    {od_stairs an_stairs : Option Addr} {sl_stairs : Array (Option Value)} {oc_stairs kV_stairs dc_stairs pm_stairs cd_stairs ct_stairs : Value} {f_stairs : Addr}
    {od_Spread___init__ an_Spread___init__ : Option Addr} {sl_Spread___init__ : Array (Option Value)} {oc_Spread___init__ kV_Spread___init__ dc_Spread___init__ pm_Spread___init__ cd_Spread___init__ ct_Spread___init__ : Value} {f_Spread___init__ : Addr}
    {od_Spread_line an_Spread_line : Option Addr} {sl_Spread_line : Array (Option Value)} {oc_Spread_line kV_Spread_line dc_Spread_line pm_Spread_line cd_Spread_line ct_Spread_line : Value} {f_Spread_line : Addr}
    {od_Spread_has an_Spread_has : Option Addr} {sl_Spread_has : Array (Option Value)} {oc_Spread_has kV_Spread_has dc_Spread_has pm_Spread_has cd_Spread_has ct_Spread_has : Value} {f_Spread_has : Addr}
    {od_spread_of an_spread_of : Option Addr} {sl_spread_of : Array (Option Value)} {oc_spread_of kV_spread_of dc_spread_of pm_spread_of cd_spread_of ct_spread_of : Value} {f_spread_of : Addr}
    {od__law_number an__law_number : Option Addr} {sl__law_number : Array (Option Value)} {oc__law_number kV__law_number dc__law_number pm__law_number cd__law_number ct__law_number : Value} {f__law_number : Addr}
    {od__law_take an__law_take : Option Addr} {sl__law_take : Array (Option Value)} {oc__law_take kV__law_take dc__law_take pm__law_take cd__law_take ct__law_take : Value} {f__law_take : Addr}
    {od_law an_law : Option Addr} {sl_law : Array (Option Value)} {oc_law kV_law dc_law pm_law cd_law ct_law : Value} {f_law : Addr}
    (a_is_number : PySem.W.nsIn K mainGlobals "is_number" = some (some (.ref f_is_number)))
    (l_is_number : K.lookup f_is_number = some ⟨oc_is_number, od_is_number, .func (PySem.W.fnOf "is_number" "is_number" (defArgs s_is_number) (defBody s_is_number) (defScope s_is_number) .none kV_is_number dc_is_number pm_is_number an_is_number cd_is_number ct_is_number), sl_is_number⟩)
    (c_is_number : PySem.W.codeIn K cd_is_number "is_number" = true) (k_is_number : PySem.W.keepIn K (.ref f_is_number) = true)
    (l_Line___init__ : K.lookup f_Line___init__ = some ⟨oc_Line___init__, od_Line___init__, .func (PySem.W.fnOf "__init__" "Line.__init__" (defArgs s_Line___init__) (defBody s_Line___init__) (defScope s_Line___init__) .none kV_Line___init__ dc_Line___init__ pm_Line___init__ an_Line___init__ cd_Line___init__ ct_Line___init__), sl_Line___init__⟩)
    (c_Line___init__ : PySem.W.codeIn K cd_Line___init__ "Line.__init__" = true) (k_Line___init__ : PySem.W.keepIn K (.ref f_Line___init__) = true)
    (l_Line_at : K.lookup f_Line_at = some ⟨oc_Line_at, od_Line_at, .func (PySem.W.fnOf "at" "Line.at" (defArgs s_Line_at) (defBody s_Line_at) (defScope s_Line_at) .none kV_Line_at dc_Line_at pm_Line_at an_Line_at cd_Line_at ct_Line_at), sl_Line_at⟩)
    (c_Line_at : PySem.W.codeIn K cd_Line_at "Line.at" = true) (k_Line_at : PySem.W.keepIn K (.ref f_Line_at) = true)
    (a_checked_row : PySem.W.nsIn K mainGlobals "checked_row" = some (some (.ref f_checked_row)))
    (l_checked_row : K.lookup f_checked_row = some ⟨oc_checked_row, od_checked_row, .func (PySem.W.fnOf "checked_row" "checked_row" (defArgs s_checked_row) (defBody s_checked_row) (defScope s_checked_row) .none kV_checked_row dc_checked_row pm_checked_row an_checked_row cd_checked_row ct_checked_row), sl_checked_row⟩)
    (c_checked_row : PySem.W.codeIn K cd_checked_row "checked_row" = true) (k_checked_row : PySem.W.keepIn K (.ref f_checked_row) = true)
    (a_slope_above : PySem.W.nsIn K mainGlobals "slope_above" = some (some (.ref f_slope_above)))
    (l_slope_above : K.lookup f_slope_above = some ⟨oc_slope_above, od_slope_above, .func (PySem.W.fnOf "slope_above" "slope_above" (defArgs s_slope_above) (defBody s_slope_above) (defScope s_slope_above) .none kV_slope_above dc_slope_above pm_slope_above an_slope_above cd_slope_above ct_slope_above), sl_slope_above⟩)
    (c_slope_above : PySem.W.codeIn K cd_slope_above "slope_above" = true) (k_slope_above : PySem.W.keepIn K (.ref f_slope_above) = true)
    (a_slope_below : PySem.W.nsIn K mainGlobals "slope_below" = some (some (.ref f_slope_below)))
    (l_slope_below : K.lookup f_slope_below = some ⟨oc_slope_below, od_slope_below, .func (PySem.W.fnOf "slope_below" "slope_below" (defArgs s_slope_below) (defBody s_slope_below) (defScope s_slope_below) .none kV_slope_below dc_slope_below pm_slope_below an_slope_below cd_slope_below ct_slope_below), sl_slope_below⟩)
    (c_slope_below : PySem.W.codeIn K cd_slope_below "slope_below" = true) (k_slope_below : PySem.W.keepIn K (.ref f_slope_below) = true)
    (a_tightest : PySem.W.nsIn K mainGlobals "tightest" = some (some (.ref f_tightest)))
    (l_tightest : K.lookup f_tightest = some ⟨oc_tightest, od_tightest, .func (PySem.W.fnOf "tightest" "tightest" (defArgs s_tightest) (defBody s_tightest) (defScope s_tightest) .none kV_tightest dc_tightest pm_tightest an_tightest cd_tightest ct_tightest), sl_tightest⟩)
    (c_tightest : PySem.W.codeIn K cd_tightest "tightest" = true) (k_tightest : PySem.W.keepIn K (.ref f_tightest) = true)
    (a_least_between : PySem.W.nsIn K mainGlobals "least_between" = some (some (.ref f_least_between)))
    (l_least_between : K.lookup f_least_between = some ⟨oc_least_between, od_least_between, .func (PySem.W.fnOf "least_between" "least_between" (defArgs s_least_between) (defBody s_least_between) (defScope s_least_between) .none kV_least_between dc_least_between pm_least_between an_least_between cd_least_between ct_least_between), sl_least_between⟩)
    (c_least_between : PySem.W.codeIn K cd_least_between "least_between" = true) (k_least_between : PySem.W.keepIn K (.ref f_least_between) = true)
    (l_Stairs___init__ : K.lookup f_Stairs___init__ = some ⟨oc_Stairs___init__, od_Stairs___init__, .func (PySem.W.fnOf "__init__" "Stairs.__init__" (defArgs s_Stairs___init__) (defBody s_Stairs___init__) (defScope s_Stairs___init__) .none kV_Stairs___init__ dc_Stairs___init__ pm_Stairs___init__ an_Stairs___init__ cd_Stairs___init__ ct_Stairs___init__), sl_Stairs___init__⟩)
    (c_Stairs___init__ : PySem.W.codeIn K cd_Stairs___init__ "Stairs.__init__" = true) (k_Stairs___init__ : PySem.W.keepIn K (.ref f_Stairs___init__) = true)
    (l_Crooked___init__ : K.lookup f_Crooked___init__ = some ⟨oc_Crooked___init__, od_Crooked___init__, .func (PySem.W.fnOf "__init__" "Crooked.__init__" (defArgs s_Crooked___init__) (defBody s_Crooked___init__) (defScope s_Crooked___init__) .none kV_Crooked___init__ dc_Crooked___init__ pm_Crooked___init__ an_Crooked___init__ cd_Crooked___init__ ct_Crooked___init__), sl_Crooked___init__⟩)
    (c_Crooked___init__ : PySem.W.codeIn K cd_Crooked___init__ "Crooked.__init__" = true) (k_Crooked___init__ : PySem.W.keepIn K (.ref f_Crooked___init__) = true)
    (a_least_offset : PySem.W.nsIn K mainGlobals "least_offset" = some (some (.ref f_least_offset)))
    (l_least_offset : K.lookup f_least_offset = some ⟨oc_least_offset, od_least_offset, .func (PySem.W.fnOf "least_offset" "least_offset" (defArgs s_least_offset) (defBody s_least_offset) (defScope s_least_offset) .none kV_least_offset dc_least_offset pm_least_offset an_least_offset cd_least_offset ct_least_offset), sl_least_offset⟩)
    (c_least_offset : PySem.W.codeIn K cd_least_offset "least_offset" = true) (k_least_offset : PySem.W.keepIn K (.ref f_least_offset) = true)
    (a_stairs : PySem.W.nsIn K mainGlobals "stairs" = some (some (.ref f_stairs)))
    (l_stairs : K.lookup f_stairs = some ⟨oc_stairs, od_stairs, .func (PySem.W.fnOf "stairs" "stairs" (defArgs s_stairs) (defBody s_stairs) (defScope s_stairs) .none kV_stairs dc_stairs pm_stairs an_stairs cd_stairs ct_stairs), sl_stairs⟩)
    (c_stairs : PySem.W.codeIn K cd_stairs "stairs" = true) (k_stairs : PySem.W.keepIn K (.ref f_stairs) = true)
    (l_Spread___init__ : K.lookup f_Spread___init__ = some ⟨oc_Spread___init__, od_Spread___init__, .func (PySem.W.fnOf "__init__" "Spread.__init__" (defArgs s_Spread___init__) (defBody s_Spread___init__) (defScope s_Spread___init__) .none kV_Spread___init__ dc_Spread___init__ pm_Spread___init__ an_Spread___init__ cd_Spread___init__ ct_Spread___init__), sl_Spread___init__⟩)
    (c_Spread___init__ : PySem.W.codeIn K cd_Spread___init__ "Spread.__init__" = true) (k_Spread___init__ : PySem.W.keepIn K (.ref f_Spread___init__) = true)
    (l_Spread_line : K.lookup f_Spread_line = some ⟨oc_Spread_line, od_Spread_line, .func (PySem.W.fnOf "line" "Spread.line" (defArgs s_Spread_line) (defBody s_Spread_line) (defScope s_Spread_line) .none kV_Spread_line dc_Spread_line pm_Spread_line an_Spread_line cd_Spread_line ct_Spread_line), sl_Spread_line⟩)
    (c_Spread_line : PySem.W.codeIn K cd_Spread_line "Spread.line" = true) (k_Spread_line : PySem.W.keepIn K (.ref f_Spread_line) = true)
    (l_Spread_has : K.lookup f_Spread_has = some ⟨oc_Spread_has, od_Spread_has, .func (PySem.W.fnOf "has" "Spread.has" (defArgs s_Spread_has) (defBody s_Spread_has) (defScope s_Spread_has) .none kV_Spread_has dc_Spread_has pm_Spread_has an_Spread_has cd_Spread_has ct_Spread_has), sl_Spread_has⟩)
    (c_Spread_has : PySem.W.codeIn K cd_Spread_has "Spread.has" = true) (k_Spread_has : PySem.W.keepIn K (.ref f_Spread_has) = true)
    (a_spread_of : PySem.W.nsIn K mainGlobals "spread_of" = some (some (.ref f_spread_of)))
    (l_spread_of : K.lookup f_spread_of = some ⟨oc_spread_of, od_spread_of, .func (PySem.W.fnOf "spread_of" "spread_of" (defArgs s_spread_of) (defBody s_spread_of) (defScope s_spread_of) .none kV_spread_of dc_spread_of pm_spread_of an_spread_of cd_spread_of ct_spread_of), sl_spread_of⟩)
    (c_spread_of : PySem.W.codeIn K cd_spread_of "spread_of" = true) (k_spread_of : PySem.W.keepIn K (.ref f_spread_of) = true)
    (a__law_number : PySem.W.nsIn K mainGlobals "_law_number" = some (some (.ref f__law_number)))
    (l__law_number : K.lookup f__law_number = some ⟨oc__law_number, od__law_number, .func (PySem.W.fnOf "_law_number" "_law_number" (defArgs s__law_number) (defBody s__law_number) (defScope s__law_number) .none kV__law_number dc__law_number pm__law_number an__law_number cd__law_number ct__law_number), sl__law_number⟩)
    (c__law_number : PySem.W.codeIn K cd__law_number "_law_number" = true) (k__law_number : PySem.W.keepIn K (.ref f__law_number) = true)
    (a__law_take : PySem.W.nsIn K mainGlobals "_law_take" = some (some (.ref f__law_take)))
    (l__law_take : K.lookup f__law_take = some ⟨oc__law_take, od__law_take, .func (PySem.W.fnOf "_law_take" "_law_take" (defArgs s__law_take) (defBody s__law_take) (defScope s__law_take) .none kV__law_take dc__law_take pm__law_take an__law_take cd__law_take ct__law_take), sl__law_take⟩)
    (c__law_take : PySem.W.codeIn K cd__law_take "_law_take" = true) (k__law_take : PySem.W.keepIn K (.ref f__law_take) = true)
    (a_law : PySem.W.nsIn K mainGlobals "law" = some (some (.ref f_law)))
    (l_law : K.lookup f_law = some ⟨oc_law, od_law, .func (PySem.W.fnOf "law" "law" (defArgs s_law) (defBody s_law) (defScope s_law) .none kV_law dc_law pm_law an_law cd_law ct_law), sl_law⟩)
    (c_law : PySem.W.codeIn K cd_law "law" = true) (k_law : PySem.W.keepIn K (.ref f_law) = true)
    {c_Line : Addr} (g_Line : PySem.W.nsIn K mainGlobals "Line" = some (some (.ref c_Line)))
    (pg_Line : PySem.W.plainGet K c_Line Str.empty = true) (hd_Line : PySem.W.hasDictIn K c_Line = true) (po_Line : PySem.W.plainOver K c_Line = true) (sa_Line : PySem.W.findIn K (.ref c_Line) "__setattr__" = some (some (.builtin "object.__setattr__"))) (mk_Line : PySem.W.makesIn K c_Line = true) (kc_Line : PySem.W.keepIn K (.ref c_Line) = true)
    (na_Line_a : PySem.W.findIn K (.ref c_Line) "a" = some none)
    (na_Line_b : PySem.W.findIn K (.ref c_Line) "b" = some none)
    (na_Line_m : PySem.W.findIn K (.ref c_Line) "m" = some none)
    (ha_Line : PySem.W.findIn K (.ref c_Line) "__class__" = some (some (.builtin "object.__class__"))) (mr_Line : PySem.W.mroIn K c_Line (.type "object") = some true)
    {c_Stairs : Addr} (g_Stairs : PySem.W.nsIn K mainGlobals "Stairs" = some (some (.ref c_Stairs)))
    (pg_Stairs : PySem.W.plainGet K c_Stairs Str.empty = true) (hd_Stairs : PySem.W.hasDictIn K c_Stairs = true) (po_Stairs : PySem.W.plainOver K c_Stairs = true) (sa_Stairs : PySem.W.findIn K (.ref c_Stairs) "__setattr__" = some (some (.builtin "object.__setattr__"))) (mk_Stairs : PySem.W.makesIn K c_Stairs = true) (kc_Stairs : PySem.W.keepIn K (.ref c_Stairs) = true)
    (na_Stairs_line : PySem.W.findIn K (.ref c_Stairs) "line" = some none)
    (na_Stairs_low : PySem.W.findIn K (.ref c_Stairs) "low" = some none)
    (na_Stairs_high : PySem.W.findIn K (.ref c_Stairs) "high" = some none)
    (ha_Stairs : PySem.W.findIn K (.ref c_Stairs) "__class__" = some (some (.builtin "object.__class__"))) (mr_Stairs : PySem.W.mroIn K c_Stairs (.type "object") = some true)
    {c_Crooked : Addr} (g_Crooked : PySem.W.nsIn K mainGlobals "Crooked" = some (some (.ref c_Crooked)))
    (pg_Crooked : PySem.W.plainGet K c_Crooked Str.empty = true) (hd_Crooked : PySem.W.hasDictIn K c_Crooked = true) (po_Crooked : PySem.W.plainOver K c_Crooked = true) (sa_Crooked : PySem.W.findIn K (.ref c_Crooked) "__setattr__" = some (some (.builtin "object.__setattr__"))) (mk_Crooked : PySem.W.makesIn K c_Crooked = true) (kc_Crooked : PySem.W.keepIn K (.ref c_Crooked) = true)
    (na_Crooked_low : PySem.W.findIn K (.ref c_Crooked) "low" = some none)
    (na_Crooked_high : PySem.W.findIn K (.ref c_Crooked) "high" = some none)
    (ha_Crooked : PySem.W.findIn K (.ref c_Crooked) "__class__" = some (some (.builtin "object.__class__"))) (mr_Crooked : PySem.W.mroIn K c_Crooked (.type "object") = some true)
    {c_Spread : Addr} (g_Spread : PySem.W.nsIn K mainGlobals "Spread" = some (some (.ref c_Spread)))
    (pg_Spread : PySem.W.plainGet K c_Spread Str.empty = true) (hd_Spread : PySem.W.hasDictIn K c_Spread = true) (po_Spread : PySem.W.plainOver K c_Spread = true) (sa_Spread : PySem.W.findIn K (.ref c_Spread) "__setattr__" = some (some (.builtin "object.__setattr__"))) (mk_Spread : PySem.W.makesIn K c_Spread = true) (kc_Spread : PySem.W.keepIn K (.ref c_Spread) = true)
    (na_Spread_ticks : PySem.W.findIn K (.ref c_Spread) "ticks" = some none)
    (na_Spread_slots : PySem.W.findIn K (.ref c_Spread) "slots" = some none)
    (na_Spread_ahead : PySem.W.findIn K (.ref c_Spread) "ahead" = some none)
    (ha_Spread : PySem.W.findIn K (.ref c_Spread) "__class__" = some (some (.builtin "object.__class__"))) (mr_Spread : PySem.W.mroIn K c_Spread (.type "object") = some true)
    (hn_ : PySem.W.specialIn K (.builtin "object.__class__") "__get__" = some (some (.builtin "getset_descriptor.__get__"))) (htk_ : PySem.W.takesIn K (.builtin "object.__class__") = some true)
    (i_Line_Stairs : PySem.W.kitOne K (.ref c_Line) (.ref c_Stairs) = some false)
    (i_Stairs_Stairs : PySem.W.kitOne K (.ref c_Stairs) (.ref c_Stairs) = some true)
    (i_Crooked_Stairs : PySem.W.kitOne K (.ref c_Crooked) (.ref c_Stairs) = some false)
    (i_Spread_Stairs : PySem.W.kitOne K (.ref c_Spread) (.ref c_Stairs) = some false)
    (i_NoneType_Stairs : PySem.W.kitOne K (.type "NoneType") (.ref c_Stairs) = some false)
    (m_Line___init__ : PySem.W.findIn K (.ref c_Line) "__init__" = some (some (.ref f_Line___init__))) (fn_Line___init__ : PySem.W.isFn K (.ref f_Line___init__) = true)
    (m_Line_at : PySem.W.findIn K (.ref c_Line) "at" = some (some (.ref f_Line_at))) (fn_Line_at : PySem.W.isFn K (.ref f_Line_at) = true)
    (m_Stairs___init__ : PySem.W.findIn K (.ref c_Stairs) "__init__" = some (some (.ref f_Stairs___init__))) (fn_Stairs___init__ : PySem.W.isFn K (.ref f_Stairs___init__) = true)
    (m_Crooked___init__ : PySem.W.findIn K (.ref c_Crooked) "__init__" = some (some (.ref f_Crooked___init__))) (fn_Crooked___init__ : PySem.W.isFn K (.ref f_Crooked___init__) = true)
    (m_Spread___init__ : PySem.W.findIn K (.ref c_Spread) "__init__" = some (some (.ref f_Spread___init__))) (fn_Spread___init__ : PySem.W.isFn K (.ref f_Spread___init__) = true)
    (m_Spread_line : PySem.W.findIn K (.ref c_Spread) "line" = some (some (.ref f_Spread_line))) (fn_Spread_line : PySem.W.isFn K (.ref f_Spread_line) = true)
    (m_Spread_has : PySem.W.findIn K (.ref c_Spread) "has" = some (some (.ref f_Spread_has))) (fn_Spread_has : PySem.W.isFn K (.ref f_Spread_has) = true)
    (n_bool : PySem.W.nsIn K mainGlobals "bool" = some none)
    (n_enumerate : PySem.W.nsIn K mainGlobals "enumerate" = some none)
    (n_int : PySem.W.nsIn K mainGlobals "int" = some none)
    (n_isinstance : PySem.W.nsIn K mainGlobals "isinstance" = some none)
    (n_len : PySem.W.nsIn K mainGlobals "len" = some none)
    (n_list : PySem.W.nsIn K mainGlobals "list" = some none)
    (n_max : PySem.W.nsIn K mainGlobals "max" = some none)
    (n_range : PySem.W.nsIn K mainGlobals "range" = some none)
    (n_sum : PySem.W.nsIn K mainGlobals "sum" = some none)
    (n_tuple : PySem.W.nsIn K mainGlobals "tuple" = some none)
    {tk_MOST_STAIRS : Tok} (a_MOST_STAIRS : PySem.W.nsIn K mainGlobals "MOST_STAIRS" = some (some (.int 200 tk_MOST_STAIRS)))
    : ∃ fd : FuncData, (∀ (s : Shared) (v : Value), BindsTo s fd ⟨[v], []⟩ [("script", v)]) ∧ ∀ base : Heap, K.In base → base.Ns mainGlobals mg → FnOk l.prog w K mg base (L2.CX l.prog w) 7 fa fd ["script"] (spA K 1 S_law) := by
  have e := hfa.symm.trans (PySem.W.mg_of X G a_law)
  cases e
  let ad : Ad := { c_Line := c_Line, c_Stairs := c_Stairs, c_Crooked := c_Crooked, c_Spread := c_Spread, f_is_number := f_is_number, d_is_number := PySem.W.fnOf "is_number" "is_number" (defArgs s_is_number) (defBody s_is_number) (defScope s_is_number) .none kV_is_number dc_is_number pm_is_number an_is_number cd_is_number ct_is_number, f_Line___init__ := f_Line___init__, d_Line___init__ := PySem.W.fnOf "__init__" "Line.__init__" (defArgs s_Line___init__) (defBody s_Line___init__) (defScope s_Line___init__) .none kV_Line___init__ dc_Line___init__ pm_Line___init__ an_Line___init__ cd_Line___init__ ct_Line___init__, f_Line_at := f_Line_at, d_Line_at := PySem.W.fnOf "at" "Line.at" (defArgs s_Line_at) (defBody s_Line_at) (defScope s_Line_at) .none kV_Line_at dc_Line_at pm_Line_at an_Line_at cd_Line_at ct_Line_at, f_checked_row := f_checked_row, d_checked_row := PySem.W.fnOf "checked_row" "checked_row" (defArgs s_checked_row) (defBody s_checked_row) (defScope s_checked_row) .none kV_checked_row dc_checked_row pm_checked_row an_checked_row cd_checked_row ct_checked_row, f_slope_above := f_slope_above, d_slope_above := PySem.W.fnOf "slope_above" "slope_above" (defArgs s_slope_above) (defBody s_slope_above) (defScope s_slope_above) .none kV_slope_above dc_slope_above pm_slope_above an_slope_above cd_slope_above ct_slope_above, f_slope_below := f_slope_below, d_slope_below := PySem.W.fnOf "slope_below" "slope_below" (defArgs s_slope_below) (defBody s_slope_below) (defScope s_slope_below) .none kV_slope_below dc_slope_below pm_slope_below an_slope_below cd_slope_below ct_slope_below, f_tightest := f_tightest, d_tightest := PySem.W.fnOf "tightest" "tightest" (defArgs s_tightest) (defBody s_tightest) (defScope s_tightest) .none kV_tightest dc_tightest pm_tightest an_tightest cd_tightest ct_tightest, f_least_between := f_least_between, d_least_between := PySem.W.fnOf "least_between" "least_between" (defArgs s_least_between) (defBody s_least_between) (defScope s_least_between) .none kV_least_between dc_least_between pm_least_between an_least_between cd_least_between ct_least_between, f_Stairs___init__ := f_Stairs___init__, d_Stairs___init__ := PySem.W.fnOf "__init__" "Stairs.__init__" (defArgs s_Stairs___init__) (defBody s_Stairs___init__) (defScope s_Stairs___init__) .none kV_Stairs___init__ dc_Stairs___init__ pm_Stairs___init__ an_Stairs___init__ cd_Stairs___init__ ct_Stairs___init__, f_Crooked___init__ := f_Crooked___init__, d_Crooked___init__ := PySem.W.fnOf "__init__" "Crooked.__init__" (defArgs s_Crooked___init__) (defBody s_Crooked___init__) (defScope s_Crooked___init__) .none kV_Crooked___init__ dc_Crooked___init__ pm_Crooked___init__ an_Crooked___init__ cd_Crooked___init__ ct_Crooked___init__, f_least_offset := f_least_offset, d_least_offset := PySem.W.fnOf "least_offset" "least_offset" (defArgs s_least_offset) (defBody s_least_offset) (defScope s_least_offset) .none kV_least_offset dc_least_offset pm_least_offset an_least_offset cd_least_offset ct_least_offset, f_stairs := f_stairs, d_stairs := PySem.W.fnOf "stairs" "stairs" (defArgs s_stairs) (defBody s_stairs) (defScope s_stairs) .none kV_stairs dc_stairs pm_stairs an_stairs cd_stairs ct_stairs, f_Spread___init__ := f_Spread___init__, d_Spread___init__ := PySem.W.fnOf "__init__" "Spread.__init__" (defArgs s_Spread___init__) (defBody s_Spread___init__) (defScope s_Spread___init__) .none kV_Spread___init__ dc_Spread___init__ pm_Spread___init__ an_Spread___init__ cd_Spread___init__ ct_Spread___init__, f_Spread_line := f_Spread_line, d_Spread_line := PySem.W.fnOf "line" "Spread.line" (defArgs s_Spread_line) (defBody s_Spread_line) (defScope s_Spread_line) .none kV_Spread_line dc_Spread_line pm_Spread_line an_Spread_line cd_Spread_line ct_Spread_line, f_Spread_has := f_Spread_has, d_Spread_has := PySem.W.fnOf "has" "Spread.has" (defArgs s_Spread_has) (defBody s_Spread_has) (defScope s_Spread_has) .none kV_Spread_has dc_Spread_has pm_Spread_has an_Spread_has cd_Spread_has ct_Spread_has, f_spread_of := f_spread_of, d_spread_of := PySem.W.fnOf "spread_of" "spread_of" (defArgs s_spread_of) (defBody s_spread_of) (defScope s_spread_of) .none kV_spread_of dc_spread_of pm_spread_of an_spread_of cd_spread_of ct_spread_of, f__law_number := f__law_number, d__law_number := PySem.W.fnOf "_law_number" "_law_number" (defArgs s__law_number) (defBody s__law_number) (defScope s__law_number) .none kV__law_number dc__law_number pm__law_number an__law_number cd__law_number ct__law_number, f__law_take := f__law_take, d__law_take := PySem.W.fnOf "_law_take" "_law_take" (defArgs s__law_take) (defBody s__law_take) (defScope s__law_take) .none kV__law_take dc__law_take pm__law_take an__law_take cd__law_take ct__law_take, f_law := fa, d_law := PySem.W.fnOf "law" "law" (defArgs s_law) (defBody s_law) (defScope s_law) .none kV_law dc_law pm_law an_law cd_law ct_law }
  have F_is_number := fun_mk (st := s_is_number) l_is_number c_is_number k_is_number
  have b_is_number := F_is_number.binds (ps := ["value"]) fun _ _ _ _ _ _ us hl => match us, hl with | [_], _ => rfl
  have F_Line___init__ := fun_mk (st := s_Line___init__) l_Line___init__ c_Line___init__ k_Line___init__
  have b_Line___init__ := F_Line___init__.binds (ps := ["self", "a", "b", "m"]) fun _ _ _ _ _ _ us hl => match us, hl with | [_, _, _, _], _ => rfl
  have F_Line_at := fun_mk (st := s_Line_at) l_Line_at c_Line_at k_Line_at
  have b_Line_at := F_Line_at.binds (ps := ["self", "x"]) fun _ _ _ _ _ _ us hl => match us, hl with | [_, _], _ => rfl
  have F_checked_row := fun_mk (st := s_checked_row) l_checked_row c_checked_row k_checked_row
  have b_checked_row := F_checked_row.binds (ps := ["row"]) fun _ _ _ _ _ _ us hl => match us, hl with | [_], _ => rfl
  have F_slope_above := fun_mk (st := s_slope_above) l_slope_above c_slope_above k_slope_above
  have b_slope_above := F_slope_above.binds (ps := ["row", "pair"]) fun _ _ _ _ _ _ us hl => match us, hl with | [_, _], _ => rfl
  have F_slope_below := fun_mk (st := s_slope_below) l_slope_below c_slope_below k_slope_below
  have b_slope_below := F_slope_below.binds (ps := ["row", "pair"]) fun _ _ _ _ _ _ us hl => match us, hl with | [_, _], _ => rfl
  have F_tightest := fun_mk (st := s_tightest) l_tightest c_tightest k_tightest
  have b_tightest := F_tightest.binds (ps := ["row"]) fun _ _ _ _ _ _ us hl => match us, hl with | [_], _ => rfl
  have F_least_between := fun_mk (st := s_least_between) l_least_between c_least_between k_least_between
  have b_least_between := F_least_between.binds (ps := ["above", "below", "m"]) fun _ _ _ _ _ _ us hl => match us, hl with | [_, _, _], _ => rfl
  have F_Stairs___init__ := fun_mk (st := s_Stairs___init__) l_Stairs___init__ c_Stairs___init__ k_Stairs___init__
  have b_Stairs___init__ := F_Stairs___init__.binds (ps := ["self", "line", "low", "high"]) fun _ _ _ _ _ _ us hl => match us, hl with | [_, _, _, _], _ => rfl
  have F_Crooked___init__ := fun_mk (st := s_Crooked___init__) l_Crooked___init__ c_Crooked___init__ k_Crooked___init__
  have b_Crooked___init__ := F_Crooked___init__.binds (ps := ["self", "low", "high"]) fun _ _ _ _ _ _ us hl => match us, hl with | [_, _, _], _ => rfl
  have F_least_offset := fun_mk (st := s_least_offset) l_least_offset c_least_offset k_least_offset
  have b_least_offset := F_least_offset.binds (ps := ["row", "a", "m"]) fun _ _ _ _ _ _ us hl => match us, hl with | [_, _, _], _ => rfl
  have F_stairs := fun_mk (st := s_stairs) l_stairs c_stairs k_stairs
  have b_stairs := F_stairs.binds (ps := ["row"]) fun _ _ _ _ _ _ us hl => match us, hl with | [_], _ => rfl
  have F_Spread___init__ := fun_mk (st := s_Spread___init__) l_Spread___init__ c_Spread___init__ k_Spread___init__
  have b_Spread___init__ := F_Spread___init__.binds (ps := ["self", "ticks", "slots", "ahead"]) fun _ _ _ _ _ _ us hl => match us, hl with | [_, _, _, _], _ => rfl
  have F_Spread_line := fun_mk (st := s_Spread_line) l_Spread_line c_Spread_line k_Spread_line
  have b_Spread_line := F_Spread_line.binds (ps := ["self"]) fun _ _ _ _ _ _ us hl => match us, hl with | [_], _ => rfl
  have F_Spread_has := fun_mk (st := s_Spread_has) l_Spread_has c_Spread_has k_Spread_has
  have b_Spread_has := F_Spread_has.binds (ps := ["self", "slot"]) fun _ _ _ _ _ _ us hl => match us, hl with | [_, _], _ => rfl
  have F_spread_of := fun_mk (st := s_spread_of) l_spread_of c_spread_of k_spread_of
  have b_spread_of := F_spread_of.binds (ps := ["row"]) fun _ _ _ _ _ _ us hl => match us, hl with | [_], _ => rfl
  have F__law_number := fun_mk (st := s__law_number) l__law_number c__law_number k__law_number
  have b__law_number := F__law_number.binds (ps := ["script", "index"]) fun _ _ _ _ _ _ us hl => match us, hl with | [_, _], _ => rfl
  have F__law_take := fun_mk (st := s__law_take) l__law_take c__law_take k__law_take
  have b__law_take := F__law_take.binds (ps := ["draw", "many"]) fun _ _ _ _ _ _ us hl => match us, hl with | [_, _], _ => rfl
  have F_law := fun_mk (st := s_law) l_law c_law k_law
  have b_law := F_law.binds (ps := ["script"]) fun _ _ _ _ _ _ us hl => match us, hl with | [_], _ => rfl
  have T : Tx K mg ad := { n_bool := PySem.W.mg_none_of X G n_bool, n_enumerate := PySem.W.mg_none_of X G n_enumerate, n_int := PySem.W.mg_none_of X G n_int, n_isinstance := PySem.W.mg_none_of X G n_isinstance, n_len := PySem.W.mg_none_of X G n_len, n_list := PySem.W.mg_none_of X G n_list, n_max := PySem.W.mg_none_of X G n_max, n_range := PySem.W.mg_none_of X G n_range, n_sum := PySem.W.mg_none_of X G n_sum, n_tuple := PySem.W.mg_none_of X G n_tuple, g_Line := PySem.W.mg_of X G g_Line, cl_Line := ⟨pg_Line, hd_Line, po_Line, sa_Line⟩, mk_Line := ⟨mk_Line, m_Line___init__, fn_Line___init__, kc_Line⟩, na_Line_a := na_Line_a, na_Line_b := na_Line_b, na_Line_m := na_Line_m, isc_Line := ⟨⟨pg_Line, hd_Line, po_Line, sa_Line⟩, ha_Line, hn_, htk_, mr_Line⟩, i_Line_Stairs := i_Line_Stairs, g_Stairs := PySem.W.mg_of X G g_Stairs, cl_Stairs := ⟨pg_Stairs, hd_Stairs, po_Stairs, sa_Stairs⟩, mk_Stairs := ⟨mk_Stairs, m_Stairs___init__, fn_Stairs___init__, kc_Stairs⟩, na_Stairs_line := na_Stairs_line, na_Stairs_low := na_Stairs_low, na_Stairs_high := na_Stairs_high, isc_Stairs := ⟨⟨pg_Stairs, hd_Stairs, po_Stairs, sa_Stairs⟩, ha_Stairs, hn_, htk_, mr_Stairs⟩, i_Stairs_Stairs := i_Stairs_Stairs, g_Crooked := PySem.W.mg_of X G g_Crooked, cl_Crooked := ⟨pg_Crooked, hd_Crooked, po_Crooked, sa_Crooked⟩, mk_Crooked := ⟨mk_Crooked, m_Crooked___init__, fn_Crooked___init__, kc_Crooked⟩, na_Crooked_low := na_Crooked_low, na_Crooked_high := na_Crooked_high, isc_Crooked := ⟨⟨pg_Crooked, hd_Crooked, po_Crooked, sa_Crooked⟩, ha_Crooked, hn_, htk_, mr_Crooked⟩, i_Crooked_Stairs := i_Crooked_Stairs, g_Spread := PySem.W.mg_of X G g_Spread, cl_Spread := ⟨pg_Spread, hd_Spread, po_Spread, sa_Spread⟩, mk_Spread := ⟨mk_Spread, m_Spread___init__, fn_Spread___init__, kc_Spread⟩, na_Spread_ticks := na_Spread_ticks, na_Spread_slots := na_Spread_slots, na_Spread_ahead := na_Spread_ahead, isc_Spread := ⟨⟨pg_Spread, hd_Spread, po_Spread, sa_Spread⟩, ha_Spread, hn_, htk_, mr_Spread⟩, i_Spread_Stairs := i_Spread_Stairs, i_NoneType_Stairs := i_NoneType_Stairs, me_Line_at := ⟨m_Line_at, fn_Line_at, k_Line_at⟩, me_Spread_line := ⟨m_Spread_line, fn_Spread_line, k_Spread_line⟩, me_Spread_has := ⟨m_Spread_has, fn_Spread_has, k_Spread_has⟩, g_MOST_STAIRS := ⟨_, PySem.W.mg_of X G a_MOST_STAIRS⟩, F_is_number := F_is_number, b_is_number := b_is_number, k_is_number := k_is_number, g_is_number := PySem.W.mg_of X G a_is_number, F_Line___init__ := F_Line___init__, b_Line___init__ := b_Line___init__, k_Line___init__ := k_Line___init__, F_Line_at := F_Line_at, b_Line_at := b_Line_at, k_Line_at := k_Line_at, F_checked_row := F_checked_row, b_checked_row := b_checked_row, k_checked_row := k_checked_row, g_checked_row := PySem.W.mg_of X G a_checked_row, F_slope_above := F_slope_above, b_slope_above := b_slope_above, k_slope_above := k_slope_above, g_slope_above := PySem.W.mg_of X G a_slope_above, F_slope_below := F_slope_below, b_slope_below := b_slope_below, k_slope_below := k_slope_below, g_slope_below := PySem.W.mg_of X G a_slope_below, F_tightest := F_tightest, b_tightest := b_tightest, k_tightest := k_tightest, g_tightest := PySem.W.mg_of X G a_tightest, F_least_between := F_least_between, b_least_between := b_least_between, k_least_between := k_least_between, g_least_between := PySem.W.mg_of X G a_least_between, F_Stairs___init__ := F_Stairs___init__, b_Stairs___init__ := b_Stairs___init__, k_Stairs___init__ := k_Stairs___init__, F_Crooked___init__ := F_Crooked___init__, b_Crooked___init__ := b_Crooked___init__, k_Crooked___init__ := k_Crooked___init__, F_least_offset := F_least_offset, b_least_offset := b_least_offset, k_least_offset := k_least_offset, g_least_offset := PySem.W.mg_of X G a_least_offset, F_stairs := F_stairs, b_stairs := b_stairs, k_stairs := k_stairs, g_stairs := PySem.W.mg_of X G a_stairs, F_Spread___init__ := F_Spread___init__, b_Spread___init__ := b_Spread___init__, k_Spread___init__ := k_Spread___init__, F_Spread_line := F_Spread_line, b_Spread_line := b_Spread_line, k_Spread_line := k_Spread_line, F_Spread_has := F_Spread_has, b_Spread_has := b_Spread_has, k_Spread_has := k_Spread_has, F_spread_of := F_spread_of, b_spread_of := b_spread_of, k_spread_of := k_spread_of, g_spread_of := PySem.W.mg_of X G a_spread_of, F__law_number := F__law_number, b__law_number := b__law_number, k__law_number := k__law_number, g__law_number := PySem.W.mg_of X G a__law_number, F__law_take := F__law_take, b__law_take := b__law_take, k__law_take := k__law_take, g__law_take := PySem.W.mg_of X G a__law_take, F_law := F_law, b_law := b_law, k_law := k_law, g_law := PySem.W.mg_of X G a_law }
  exact ⟨ad.d_law, fun s v => .of_eq rfl, fun base _ _ => ok_law T⟩
theorem walk {l : PySem.W.OpenLaw} {q : Program} {loose : List Str} {XP : (Str → Option Value) → Heap → Prop} {YP : World → Heap → Prop} {d : DefRec} {K : Params → PySem.W.Frag} (hn : l.most = some 63) (hdf : d.params.defaults = [])
    (hY : ∀ (w : World) (h : Heap), YP w h → (K w.params).In h)
    (F : ∀ (w : World) (mg : Str → Option Value) (fa : Addr) (h : Heap), (K w.params).In h → h.Ns mainGlobals mg → mg d.name = some (.ref fa) →
      ∃ fd : FuncData, (∀ (s : Shared) (u : Value), BindsTo s fd ⟨[u], []⟩ [("script", u)]) ∧ ∀ base : Heap, (K w.params).In base → base.Ns mainGlobals mg → FnOk l.prog w (K w.params) mg base (L2.CX l.prog w) 7 fa fd ["script"] (spA (K w.params) 1 S_law)) :
    PySem.W.WalkO q loose XP YP l.row.toRowW d [] (fun f vs => PySem.call f vs) :=
  L2.walk_of (n := 63) (k := 7) (x := "script") (CX := fun w => L2.CX l.prog w) (sp := fun w => spA (K w.params) 1 S_law) hn (by decide) hdf ⟨rfl, by decide, by decide⟩ hY F
    (fun w H a ns hl _ hS => ⟨H, [.scr ns], _, fun _ => False, rfl, Same.refl _, ⟨_, _, rfl, ⟨a, rfl, hS⟩, rfl⟩, ⟨ns, rfl, hl, rfl⟩, fun z u F' H' g r q => by
      have q' : D.bl true = z := q
      subst q'; exact r, fun _ _ _ _ _ _ _ z => z.elim⟩) fun _ _ _ _ _ z => by
      obtain ⟨_, _, _, _, _, _, _, _, _, _, _, _, z⟩ := z
      exact z.elim
end LawW
open PySem PySem.W PyProof.Rows
set_option maxRecDepth 100000 in
set_option maxHeartbeats 0 in
theorem PySem.Challenge.cw_pointorstrip_k50_calendar_rows_holds : PySem.Challenge.rw_pointorstrip_k50_calendar_rows.Holds := by
  w_on; o_law; k_head; (case hw => w_witness2)
  k_fill
  refine LawW.walk (l := PySem.Challenge.rw_pointorstrip_k50_calendar_rows) rfl rfl (fun w h Y => PySem.W.kIn_of Y) ?F
  case F =>
    intro w mg fa h KX G hmg
    refine' LawW.all_mk KX G hmg ?a_is_number ?l_is_number ?c_is_number ?k_is_number ?l_Line___init__ ?c_Line___init__ ?k_Line___init__ ?l_Line_at ?c_Line_at ?k_Line_at ?a_checked_row ?l_checked_row ?c_checked_row ?k_checked_row ?a_slope_above ?l_slope_above ?c_slope_above ?k_slope_above ?a_slope_below ?l_slope_below ?c_slope_below ?k_slope_below ?a_tightest ?l_tightest ?c_tightest ?k_tightest ?a_least_between ?l_least_between ?c_least_between ?k_least_between ?l_Stairs___init__ ?c_Stairs___init__ ?k_Stairs___init__ ?l_Crooked___init__ ?c_Crooked___init__ ?k_Crooked___init__ ?a_least_offset ?l_least_offset ?c_least_offset ?k_least_offset ?a_stairs ?l_stairs ?c_stairs ?k_stairs ?l_Spread___init__ ?c_Spread___init__ ?k_Spread___init__ ?l_Spread_line ?c_Spread_line ?k_Spread_line ?l_Spread_has ?c_Spread_has ?k_Spread_has ?a_spread_of ?l_spread_of ?c_spread_of ?k_spread_of ?a__law_number ?l__law_number ?c__law_number ?k__law_number ?a__law_take ?l__law_take ?c__law_take ?k__law_take ?a_law ?l_law ?c_law ?k_law ?g_Line ?pg_Line ?hd_Line ?po_Line ?sa_Line ?mk_Line ?kc_Line ?na_Line_a ?na_Line_b ?na_Line_m ?ha_Line ?mr_Line ?g_Stairs ?pg_Stairs ?hd_Stairs ?po_Stairs ?sa_Stairs ?mk_Stairs ?kc_Stairs ?na_Stairs_line ?na_Stairs_low ?na_Stairs_high ?ha_Stairs ?mr_Stairs ?g_Crooked ?pg_Crooked ?hd_Crooked ?po_Crooked ?sa_Crooked ?mk_Crooked ?kc_Crooked ?na_Crooked_low ?na_Crooked_high ?ha_Crooked ?mr_Crooked ?g_Spread ?pg_Spread ?hd_Spread ?po_Spread ?sa_Spread ?mk_Spread ?kc_Spread ?na_Spread_ticks ?na_Spread_slots ?na_Spread_ahead ?ha_Spread ?mr_Spread ?hn_ ?htk_ ?i_Line_Stairs ?i_Stairs_Stairs ?i_Crooked_Stairs ?i_Spread_Stairs ?i_NoneType_Stairs ?m_Line___init__ ?fn_Line___init__ ?m_Line_at ?fn_Line_at ?m_Stairs___init__ ?fn_Stairs___init__ ?m_Crooked___init__ ?fn_Crooked___init__ ?m_Spread___init__ ?fn_Spread___init__ ?m_Spread_line ?fn_Spread_line ?m_Spread_has ?fn_Spread_has ?n_bool ?n_enumerate ?n_int ?n_isinstance ?n_len ?n_list ?n_max ?n_range ?n_sum ?n_tuple ?a_MOST_STAIRS
    (case a_is_number => k_is)
    (case a_checked_row => k_is)
    (case a_slope_above => k_is)
    (case a_slope_below => k_is)
    (case a_tightest => k_is)
    (case a_least_between => k_is)
    (case a_least_offset => k_is)
    (case a_stairs => k_is)
    (case a_spread_of => k_is)
    (case a__law_number => k_is)
    (case a__law_take => k_is)
    (case a_law => k_is)
    (case g_Line => k_is)
    (case g_Stairs => k_is)
    (case g_Crooked => k_is)
    (case g_Spread => k_is)
    (case a_MOST_STAIRS => k_is)
    (case m_Line___init__ => k_is)
    (case m_Line_at => k_is)
    (case m_Stairs___init__ => k_is)
    (case m_Crooked___init__ => k_is)
    (case m_Spread___init__ => k_is)
    (case m_Spread_line => k_is)
    (case m_Spread_has => k_is)
    (case l_is_number => k_is)
    (case c_is_number => k_is)
    (case k_is_number => k_is)
    (case l_Line___init__ => k_is)
    (case c_Line___init__ => k_is)
    (case k_Line___init__ => k_is)
    (case l_Line_at => k_is)
    (case c_Line_at => k_is)
    (case k_Line_at => k_is)
    (case l_checked_row => k_is)
    (case c_checked_row => k_is)
    (case k_checked_row => k_is)
    (case l_slope_above => k_is)
    (case c_slope_above => k_is)
    (case k_slope_above => k_is)
    (case l_slope_below => k_is)
    (case c_slope_below => k_is)
    (case k_slope_below => k_is)
    (case l_tightest => k_is)
    (case c_tightest => k_is)
    (case k_tightest => k_is)
    (case l_least_between => k_is)
    (case c_least_between => k_is)
    (case k_least_between => k_is)
    (case l_Stairs___init__ => k_is)
    (case c_Stairs___init__ => k_is)
    (case k_Stairs___init__ => k_is)
    (case l_Crooked___init__ => k_is)
    (case c_Crooked___init__ => k_is)
    (case k_Crooked___init__ => k_is)
    (case l_least_offset => k_is)
    (case c_least_offset => k_is)
    (case k_least_offset => k_is)
    (case l_stairs => k_is)
    (case c_stairs => k_is)
    (case k_stairs => k_is)
    (case l_Spread___init__ => k_is)
    (case c_Spread___init__ => k_is)
    (case k_Spread___init__ => k_is)
    (case l_Spread_line => k_is)
    (case c_Spread_line => k_is)
    (case k_Spread_line => k_is)
    (case l_Spread_has => k_is)
    (case c_Spread_has => k_is)
    (case k_Spread_has => k_is)
    (case l_spread_of => k_is)
    (case c_spread_of => k_is)
    (case k_spread_of => k_is)
    (case l__law_number => k_is)
    (case c__law_number => k_is)
    (case k__law_number => k_is)
    (case l__law_take => k_is)
    (case c__law_take => k_is)
    (case k__law_take => k_is)
    (case l_law => k_is)
    (case c_law => k_is)
    (case k_law => k_is)
    (case pg_Line => k_is)
    (case hd_Line => k_is)
    (case po_Line => k_is)
    (case sa_Line => k_is)
    (case mk_Line => k_is)
    (case kc_Line => k_is)
    (case na_Line_a => k_is)
    (case na_Line_b => k_is)
    (case na_Line_m => k_is)
    (case ha_Line => k_is)
    (case mr_Line => k_is)
    (case pg_Stairs => k_is)
    (case hd_Stairs => k_is)
    (case po_Stairs => k_is)
    (case sa_Stairs => k_is)
    (case mk_Stairs => k_is)
    (case kc_Stairs => k_is)
    (case na_Stairs_line => k_is)
    (case na_Stairs_low => k_is)
    (case na_Stairs_high => k_is)
    (case ha_Stairs => k_is)
    (case mr_Stairs => k_is)
    (case pg_Crooked => k_is)
    (case hd_Crooked => k_is)
    (case po_Crooked => k_is)
    (case sa_Crooked => k_is)
    (case mk_Crooked => k_is)
    (case kc_Crooked => k_is)
    (case na_Crooked_low => k_is)
    (case na_Crooked_high => k_is)
    (case ha_Crooked => k_is)
    (case mr_Crooked => k_is)
    (case pg_Spread => k_is)
    (case hd_Spread => k_is)
    (case po_Spread => k_is)
    (case sa_Spread => k_is)
    (case mk_Spread => k_is)
    (case kc_Spread => k_is)
    (case na_Spread_ticks => k_is)
    (case na_Spread_slots => k_is)
    (case na_Spread_ahead => k_is)
    (case ha_Spread => k_is)
    (case mr_Spread => k_is)
    (case hn_ => k_is)
    (case htk_ => k_is)
    (case i_Line_Stairs => kit_is)
    (case i_Stairs_Stairs => kit_is)
    (case i_Crooked_Stairs => kit_is)
    (case i_Spread_Stairs => kit_is)
    (case i_NoneType_Stairs => kit_is)
    (case fn_Line___init__ => k_is)
    (case fn_Line_at => k_is)
    (case fn_Stairs___init__ => k_is)
    (case fn_Crooked___init__ => k_is)
    (case fn_Spread___init__ => k_is)
    (case fn_Spread_line => k_is)
    (case fn_Spread_has => k_is)
    (case n_bool => k_is)
    (case n_enumerate => k_is)
    (case n_int => k_is)
    (case n_isinstance => k_is)
    (case n_len => k_is)
    (case n_list => k_is)
    (case n_max => k_is)
    (case n_range => k_is)
    (case n_sum => k_is)
    (case n_tuple => k_is)
