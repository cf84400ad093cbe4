import PyProof.Rows.All
import Wide.All
import OpenK.AllK
import Wide.FinOn
import HandS.ForMost
import HandS.Zip
import HandS.TupAny
import HandS.TupMul
import HandS.Star
import HandS.Wide
import HandS.WideBits
import HandS.IsInst
import HandS.Deep
import HandS.Exc
import HandS.Walk
import HandS.Style
import HandS.RaiseMore
import HandS.Flow
import HandS.Conv
import KE.GoesEnum
import KE.GoesMore
import KE.KDictZip
import HandS.Comp
import HandS.TryOnly
import PySem.Challenge.RW_middlewalls_k01_whole_points_and_middles
set_option Elab.async false
set_option maxRecDepth 100000
set_option linter.unusedVariables false
/-! Layer M, part A: trees, cells, how they lie in the abstract heap, lifted readings. -/
namespace M
open PySem PySem.Spec PyProof.Rows L2

abbrev St := L2.St
/-- a value as a tree; a list, a dict, an object is told by its address -/
inductive T where
  | non | bl (b : Bool) | int (i : Int) | str (s : Str) | tup (xs : List T) | ref (a : Addr) | ty (n : String) | scr (ns : List Int)
instance : Inhabited T := ⟨.non⟩
/-- what stands at an address -/
inductive Cell where
  | lst (xs : List T) | frz (xs : List T)
abbrev Store := Addr → Option Cell
def upS (S : Store) (p : Addr) (c : Cell) : Store := fun b => if b = p then some c else S b
theorem upS_same {S : Store} {p : Addr} {c : Cell} : upS S p c p = some c := by unfold upS; rw [if_pos rfl]
theorem upS_ne {S : Store} {p b : Addr} {c : Cell} (h : b ≠ p) : upS S p c b = S b := by unfold upS; rw [if_neg h]
/-- nothing that stood is changed -/
def Le (S S' : Store) : Prop := ∀ a c, S a = some c → S' a = some c
theorem Le.refl (S : Store) : Le S S := fun _ _ h => h
theorem Le.trans {S S1 S2 : Store} (h : Le S S1) (k : Le S1 S2) : Le S S2 := fun a c e => k a c (h a c e)
theorem Le.new {S : Store} {p : Addr} {c : Cell} (h : S p = none) : Le S (upS S p c) := fun a d e => by
  have : a ≠ p := fun z => by rw [z, h] at e; cases e
  rw [upS_ne this]; exact e

abbrev Env' := List (Option T)
abbrev KT := T → Store → Prop
abbrev ME := Env' → Store → KT → Prop
abbrev MT := Env' → Store → (Bool → Store → Prop) → Prop
abbrev MA := Env' → Store → (List T → Store → Prop) → Prop
structure MEnds where
  nx : Env' → Store → Prop
  rt : KT
  bk : Env' → Store → Prop := fun _ _ => False
  ct : Env' → Store → Prop := fun _ _ => False
abbrev MS := MEnds → Env' → Store → Prop
/-- an exception: its class, what it keeps -/
structure XT where
  cls : Str
  kept : Option (Str × T)
abbrev Wish := XT → Env' → Store → Prop

/-- a list that nobody writes: the script -/
def SqF (K : PySem.W.Frag) (H : Hp) (a : Addr) (xs : List V) : Prop :=
  (∃ o, H a = some (.frz o (.lst xs))) ∨ ∃ (o : Obj) (its : Array Value) (n : Nat), K.lookup a = some o ∧ o.cls = .type "list" ∧ o.dict = none ∧ o.data = .seq its n ∧ its.size ≤ sizeLine ∧ Vals xs its.toList
theorem SqF.sqL {K : PySem.W.Frag} {H : Hp} {a : Addr} {xs : List V} (h : SqF K H a xs) : SqL K H a xs := by
  rcases h with ⟨o, h⟩ | h
  · exact .inl (.inr ⟨o, h⟩)
  · exact .inr h
section
variable (K : PySem.W.Frag)
mutual
def Rep (H : Hp) : V → T → Prop
  | v, .non => v = .non
  | v, .bl b => v = .bl b
  | v, .int i => v = .int i
  | v, .str s => v = .str s
  | v, .ref a => v = .ref a
  | v, .ty n => v = .ty n
  | v, .scr ns => ∃ a, v = .ref a ∧ SqF K H a (ns.map V.int)
  | v, .tup ts => ∃ a xs, v = .ref a ∧ SqT K H a xs ∧ RepAll H xs ts
def RepAll (H : Hp) : List V → List T → Prop
  | [], [] => True
  | x :: xs, t :: ts => Rep H x t ∧ RepAll H xs ts
  | _, _ => False
end
/-- tuples, locked things and dicts of exceptions stay -/
def Kept (H H' : Hp) : Prop :=
  (∀ b xs, H b = some (.tup xs) → H' b = some (.tup xs)) ∧ (∀ b o u, H b = some (.frz o u) → H' b = some (.frz o u)) ∧ (∀ b fs, H b = some (.xd fs) → H' b = some (.xd fs))
theorem Kept.refl (H : Hp) : Kept H H := ⟨fun _ _ h => h, fun _ _ _ h => h, fun _ _ h => h⟩
theorem Kept.trans {H H1 H2 : Hp} (a : Kept H H1) (b : Kept H1 H2) : Kept H H2 :=
  ⟨fun c xs h => b.1 c xs (a.1 c xs h), fun c o u h => b.2.1 c o u (a.2.1 c o u h), fun c fs h => b.2.2 c fs (a.2.2 c fs h)⟩
theorem Kept.new {H : Hp} {p : Addr} {o : HO} (h : H p = none) : Kept H (upd H p o) :=
  ⟨fun b _ e => by rw [upd_ne (ne_of_none e h)]; exact e, fun b _ _ e => by rw [upd_ne (ne_of_none e h)]; exact e, fun b _ e => by rw [upd_ne (ne_of_none e h)]; exact e⟩
/-- a list that is written -/
theorem Kept.lst {H : Hp} {p : Addr} {o : HO} {xs : List V} (h : H p = some (.lst xs)) : Kept H (upd H p o) := by
  refine ⟨fun b _ e => ?_, fun b _ _ e => ?_, fun b _ e => ?_⟩
  all_goals
    have : b ≠ p := fun z => by rw [z, h] at e; cases e
    rw [upd_ne this]; exact e
theorem sqT_keep {H H' : Hp} (k : Kept H H') {a : Addr} {xs : List V} (h : SqT K H a xs) : SqT K H' a xs := by
  rcases h with (h | ⟨o, h⟩) | h
  · exact .inl (.inl (k.1 _ _ h))
  · exact .inl (.inr ⟨o, k.2.1 _ _ _ h⟩)
  · exact .inr h
theorem sqF_keep {H H' : Hp} (k : Kept H H') {a : Addr} {xs : List V} (h : SqF K H a xs) : SqF K H' a xs := by
  rcases h with ⟨o, h⟩ | h
  · exact .inl ⟨o, k.2.1 _ _ _ h⟩
  · exact .inr h
mutual
theorem Rep.keep {H H' : Hp} (k : Kept H H') : ∀ (t : T) (v : V), Rep K H v t → Rep K H' v t
  | .non, _, h => by simpa only [Rep] using h
  | .bl _, _, h => by simpa only [Rep] using h
  | .int _, _, h => by simpa only [Rep] using h
  | .str _, _, h => by simpa only [Rep] using h
  | .ref _, _, h => by simpa only [Rep] using h
  | .ty _, _, h => by simpa only [Rep] using h
  | .scr _, _, h => by
    simp only [Rep] at h ⊢
    obtain ⟨a, e, hs⟩ := h
    exact ⟨a, e, sqF_keep K k hs⟩
  | .tup ts, _, h => by
    simp only [Rep] at h ⊢
    obtain ⟨a, xs, e, hs, hr⟩ := h
    exact ⟨a, xs, e, sqT_keep K k hs, RepAll.keep k ts xs hr⟩
theorem RepAll.keep {H H' : Hp} (k : Kept H H') : ∀ (ts : List T) (vs : List V), RepAll K H vs ts → RepAll K H' vs ts
  | [], [], _ => by simp only [RepAll]
  | [], _ :: _, h => by simp only [RepAll] at h
  | _ :: _, [], h => by simp only [RepAll] at h
  | t :: ts, v :: vs, h => by
    simp only [RepAll] at h ⊢
    exact ⟨Rep.keep k t v h.1, RepAll.keep k ts vs h.2⟩
end
variable {K}
theorem Rep.mono {H H' : Hp} (k : Kept H H') {v : V} {t : T} (h : Rep K H v t) : Rep K H' v t := Rep.keep K k t v h
theorem RepAll.mono {H H' : Hp} (k : Kept H H') {v : List V} {t : List T} (h : RepAll K H v t) : RepAll K H' v t := RepAll.keep K k t v h
theorem RepAll.nil {H : Hp} : RepAll K H [] [] := by simp only [RepAll]
theorem RepAll.cons {H : Hp} {v : V} {vs : List V} {t : T} {ts : List T} (h : Rep K H v t) (r : RepAll K H vs ts) : RepAll K H (v :: vs) (t :: ts) := by simp only [RepAll]; exact ⟨h, r⟩
theorem RepAll.len {H : Hp} : ∀ {vs : List V} {ts : List T}, RepAll K H vs ts → vs.length = ts.length
  | [], [], _ => rfl
  | [], _ :: _, h => by simp only [RepAll] at h
  | _ :: _, [], h => by simp only [RepAll] at h
  | _ :: vs, _ :: ts, h => by simp only [RepAll] at h; simp [RepAll.len h.2]
theorem RepAll.nil_inv {H : Hp} {vs : List V} (h : RepAll K H vs []) : vs = [] := by
  cases vs with
  | nil => rfl
  | cons => simp only [RepAll] at h
theorem RepAll.cons_inv {H : Hp} {vs : List V} {t : T} {ts : List T} (h : RepAll K H vs (t :: ts)) : ∃ v r, vs = v :: r ∧ Rep K H v t ∧ RepAll K H r ts := by
  cases vs with
  | nil => simp only [RepAll] at h
  | cons v r => simp only [RepAll] at h; exact ⟨v, r, rfl, h.1, h.2⟩
theorem RepAll.append {H : Hp} : ∀ {vs ws : List V} {ts us : List T}, RepAll K H vs ts → RepAll K H ws us → RepAll K H (vs ++ ws) (ts ++ us)
  | [], _, [], _, _, h => h
  | [], _, _ :: _, _, h, _ => by simp only [RepAll] at h
  | _ :: _, _, [], _, h, _ => by simp only [RepAll] at h
  | v :: vs, ws, t :: ts, us, h, k => by
    simp only [RepAll] at h
    exact RepAll.cons h.1 (RepAll.append h.2 k)
theorem RepAll.get {H : Hp} : ∀ {vs : List V} {ts : List T} {i : Nat} {t : T}, RepAll K H vs ts → ts[i]? = some t → ∃ v, vs[i]? = some v ∧ Rep K H v t
  | _, [], _, _, _, e => by simp at e
  | [], _ :: _, _, _, h, _ => by simp only [RepAll] at h
  | v :: vs, u :: ts, 0, t, h, e => by
    simp only [RepAll] at h
    simp at e; subst e
    exact ⟨v, rfl, h.1⟩
  | v :: vs, u :: ts, i + 1, t, h, e => by
    simp only [RepAll] at h
    obtain ⟨w, e1, e2⟩ := RepAll.get (i := i) (t := t) h.2 (by simpa using e)
    exact ⟨w, by simpa using e1, e2⟩
theorem RepAll.get' {H : Hp} {vs : List V} {ts : List T} {i : Nat} {v : V} (h : RepAll K H vs ts) (e : vs[i]? = some v) : ∃ t, ts[i]? = some t ∧ Rep K H v t := by
  have hl := h.len
  have hi : i < ts.length := by rw [← hl]; exact (List.getElem?_eq_some_iff.mp e).1
  obtain ⟨w, e1, r⟩ := h.get (i := i) (t := ts[i]) (by simp [hi])
  rw [e] at e1; cases e1
  exact ⟨ts[i], by simp [hi], r⟩
theorem RepAll.take {H : Hp} : ∀ {vs : List V} {ts : List T} (n : Nat), RepAll K H vs ts → RepAll K H (vs.take n) (ts.take n)
  | [], [], n, _ => by simp; exact RepAll.nil
  | [], _ :: _, _, h => by simp only [RepAll] at h
  | _ :: _, [], _, h => by simp only [RepAll] at h
  | _ :: _, _ :: _, 0, _ => RepAll.nil
  | v :: vs, t :: ts, n + 1, h => by
    simp only [RepAll] at h
    exact RepAll.cons h.1 (RepAll.take n h.2)
theorem RepAll.drop {H : Hp} : ∀ {vs : List V} {ts : List T} (n : Nat), RepAll K H vs ts → RepAll K H (vs.drop n) (ts.drop n)
  | [], [], n, _ => by simp; exact RepAll.nil
  | [], _ :: _, _, h => by simp only [RepAll] at h
  | _ :: _, [], _, h => by simp only [RepAll] at h
  | _ :: _, _ :: _, 0, h => h
  | v :: vs, t :: ts, n + 1, h => by
    simp only [RepAll] at h
    exact RepAll.drop n h.2
theorem RepAll.set {H : Hp} {v : V} {t : T} (r : Rep K H v t) : ∀ {vs : List V} {ts : List T} (n : Nat), RepAll K H vs ts → RepAll K H (vs.set n v) (ts.set n t)
  | [], [], n, _ => RepAll.nil
  | [], _ :: _, _, h => by simp only [RepAll] at h
  | _ :: _, [], _, h => by simp only [RepAll] at h
  | _ :: _, _ :: _, 0, h => by simp only [RepAll] at h; exact RepAll.cons r h.2
  | _ :: vs, _ :: ts, n + 1, h => by
    simp only [RepAll] at h
    exact RepAll.cons h.1 (RepAll.set r n h.2)
theorem RepAll.flat {H : Hp} {vs : List V} {ts : List T} (h : RepAll K H vs ts) : ∀ k : Nat, RepAll K H (List.replicate k vs).flatten (List.replicate k ts).flatten
  | 0 => RepAll.nil
  | k + 1 => by rw [List.replicate_succ, List.replicate_succ, List.flatten_cons, List.flatten_cons]; exact h.append (RepAll.flat h k)
theorem RepAll.ints_of {H : Hp} : ∀ {vs : List V} {ns : List Int}, RepAll K H vs (ns.map T.int) → vs = ns.map V.int
  | [], [], _ => rfl
  | [], _ :: _, h => by simp only [List.map_cons, RepAll] at h
  | _ :: _, [], h => by simp only [List.map_nil, RepAll] at h
  | v :: vs, n :: ns, h => by
    simp only [List.map_cons, RepAll, Rep] at h
    rw [h.1, RepAll.ints_of h.2]; rfl
theorem RepAll.of_ints {H : Hp} : ∀ (ns : List Int), RepAll K H (ns.map V.int) (ns.map T.int)
  | [] => RepAll.nil
  | n :: ns => RepAll.cons (by simp only [Rep]) (RepAll.of_ints ns)
theorem RepAll.bls_of {H : Hp} : ∀ {vs : List V} {ns : List Bool}, RepAll K H vs (ns.map T.bl) → vs = ns.map V.bl
  | [], [], _ => rfl
  | [], _ :: _, h => by simp only [List.map_cons, RepAll] at h
  | _ :: _, [], h => by simp only [List.map_nil, RepAll] at h
  | v :: vs, n :: ns, h => by
    simp only [List.map_cons, RepAll, Rep] at h
    rw [h.1, RepAll.bls_of h.2]; rfl

def CellOk (K : PySem.W.Frag) (H : Hp) (a : Addr) : Cell → Prop
  | .lst ts => ∃ xs, H a = some (.lst xs) ∧ RepAll K H xs ts
  | .frz ts => ∃ o xs, H a = some (.frz o (.lst xs)) ∧ RepAll K H xs ts
def RelS (K : PySem.W.Frag) (H : Hp) (S : Store) : Prop := ∀ a c, S a = some c → CellOk K H a c
def RelE (K : PySem.W.Frag) (H : Hp) (σ : St) (τ : Env') : Prop := τ.length = σ.length ∧ ∀ (i : Nat) (t : T), τ[i]? = some (some t) → ∃ v : V, σ[i]? = some (some v) ∧ Rep K H v t
theorem RelE.mono {H H' : Hp} (k : Kept H H') {σ : St} {τ : Env'} (h : RelE K H σ τ) : RelE K H' σ τ :=
  ⟨h.1, fun i t e => let ⟨v, e1, r⟩ := h.2 i t e; ⟨v, e1, r.mono k⟩⟩
theorem RelE.set {H : Hp} {σ : St} {τ : Env'} {v : V} {t : T} (h : RelE K H σ τ) (r : Rep K H v t) (i : Nat) : RelE K H (σ.set i (some v)) (τ.set i (some t)) := by
  refine ⟨by simp [h.1], fun j u e => ?_⟩
  by_cases hj : i = j
  · subst hj
    have hi : i < τ.length := by
      have := (List.getElem?_eq_some_iff.mp e).1
      simpa using this
    rw [List.getElem?_set_self hi] at e
    cases e
    exact ⟨v, List.getElem?_set_self (by rw [← h.1]; exact hi), r⟩
  · rw [List.getElem?_set_ne hj] at e
    obtain ⟨w, e1, r1⟩ := h.2 j u e
    exact ⟨w, by rw [List.getElem?_set_ne hj]; exact e1, r1⟩
def wipeT (τ : Env') : List Nat → Env'
  | [] => τ
  | v :: vs => (wipeT τ vs).set v none
theorem RelE.wipe {H : Hp} {σ : St} {τ : Env'} (h : RelE K H σ τ) : ∀ vs : List Nat, RelE K H (wipe σ vs) (wipeT τ vs)
  | [] => h
  | v :: vs => by
    have ih := RelE.wipe h vs
    refine ⟨by rw [L2.wipe_length]; unfold wipeT; rw [List.length_set, ih.1, L2.wipe_length], fun j u e => ?_⟩
    unfold wipeT at e
    unfold L2.wipe
    by_cases hj : v = j
    · subst hj
      by_cases hv : v < (wipeT τ vs).length
      · rw [List.getElem?_set_self hv] at e; cases e
      · rw [List.getElem?_eq_none (by simpa using hv)] at e; cases e
    · rw [List.getElem?_set_ne hj] at e
      obtain ⟨w, e1, r1⟩ := ih.2 j u e
      exact ⟨w, by rw [List.getElem?_set_ne hj]; exact e1, r1⟩
/-- the abstract heap changes at what is new, or at nothing that is told -/
theorem CellOk.mono {H H' : Hp} (k : Kept H H') {a : Addr} {c : Cell} (h : CellOk K H a c) (e : ∀ xs, H a = some (.lst xs) → H' a = some (.lst xs)) : CellOk K H' a c := by
  cases c with
  | lst ts => obtain ⟨xs, e1, r⟩ := h; exact ⟨xs, e xs e1, r.mono k⟩
  | frz ts => obtain ⟨o, xs, e1, r⟩ := h; exact ⟨o, xs, k.2.1 _ _ _ e1, r.mono k⟩
theorem CellOk.some {H : Hp} {a : Addr} {c : Cell} (h : CellOk K H a c) : ∃ o, H a = Option.some o := by
  cases c with
  | lst ts => obtain ⟨xs, e1, _⟩ := h; exact ⟨_, e1⟩
  | frz ts => obtain ⟨o, xs, e1, _⟩ := h; exact ⟨_, e1⟩
theorem RelS.free {H : Hp} {S : Store} (h : RelS K H S) {p : Addr} (hp : H p = none) : S p = none := by
  cases e : S p with
  | none => rfl
  | some c => obtain ⟨o, q⟩ := (h p c e).some; rw [hp] at q; cases q
/-- a new thing that is no cell -/
theorem RelS.new {H : Hp} {S : Store} (h : RelS K H S) {p : Addr} {o : HO} (hp : H p = none) : RelS K (upd H p o) S := fun a c e =>
  (h a c e).mono (Kept.new hp) fun xs q => by rw [upd_ne (ne_of_none q hp)]; exact q
/-- a new list -/
theorem RelS.newL {H : Hp} {S : Store} (h : RelS K H S) {p : Addr} {xs : List V} {ts : List T} (hp : H p = none) (r : RepAll K H xs ts) : RelS K (upd H p (.lst xs)) (upS S p (.lst ts)) := fun a c e => by
  by_cases ha : a = p
  · subst ha; rw [upS_same] at e; cases e
    exact ⟨xs, upd_same, r.mono (Kept.new hp)⟩
  · rw [upS_ne ha] at e
    exact RelS.new h hp a c e
/-- a list is written -/
theorem RelS.setL {H : Hp} {S : Store} (h : RelS K H S) {p : Addr} {xs ys : List V} {ts : List T} (hp : H p = some (.lst xs)) (r : RepAll K H ys ts) : RelS K (upd H p (.lst ys)) (upS S p (.lst ts)) := fun a c e => by
  by_cases ha : a = p
  · subst ha; rw [upS_same] at e; cases e
    exact ⟨ys, upd_same, r.mono (Kept.lst hp)⟩
  · rw [upS_ne ha] at e
    exact (h a c e).mono (Kept.lst hp) fun zs q => by rw [upd_ne ha]; exact q
theorem RelS.less {H : Hp} {S S' : Store} (h : RelS K H S) (l : Le S' S) : RelS K H S' := fun a c e => h a c (l a c e)

/-- what stands behind an expression, for the caller -/
def Fin (K : PySem.W.Frag) (H : Hp) (q : KT) (Q : VK) : Prop := ∀ v H' r S', Kept H H' → RelS K H' S' → Rep K H' v r → q r S' → Q v H'
theorem Fin.mono {H H1 : Hp} {q : KT} {Q : VK} (f : Fin K H q Q) (k : Kept H H1) : Fin K H1 q Q := fun v H' r S' k' => f v H' r S' (k.trans k')
/-- the state's relation -/
structure Rel (K : PySem.W.Frag) (H0 H : Hp) (σ : St) (τ : Env') (S : Store) : Prop where
  kept : Kept H0 H
  env : RelE K H σ τ
  st : RelS K H S
theorem Rel.next {H0 H H1 : Hp} {σ : St} {τ : Env'} {S S1 : Store} (R : Rel K H0 H σ τ S) (k : Kept H H1) (s : RelS K H1 S1) : Rel K H0 H1 σ τ S1 := ⟨R.kept.trans k, R.env.mono k, s⟩
def lift (K : PySem.W.Frag) (H0 : Hp) (t : ME) : TE := fun σ H Q => ∃ τ S q, Rel K H0 H σ τ S ∧ t τ S q ∧ Fin K H q Q
def FinT (K : PySem.W.Frag) (H : Hp) (q : Bool → Store → Prop) (Q : Bool → Hp → Prop) : Prop := ∀ b H' S', Kept H H' → RelS K H' S' → q b S' → Q b H'
def liftT (K : PySem.W.Frag) (H0 : Hp) (t : MT) : TT := fun σ H Q => ∃ τ S q, Rel K H0 H σ τ S ∧ t τ S q ∧ FinT K H q Q
def FinA (K : PySem.W.Frag) (H : Hp) (q : List T → Store → Prop) (Q : List V → Hp → Prop) : Prop := ∀ vs H' ts S', Kept H H' → RelS K H' S' → RepAll K H' vs ts → q ts S' → Q vs H'
def liftA (K : PySem.W.Frag) (H0 : Hp) (t : MA) : TA := fun σ H Q => ∃ τ S q, Rel K H0 H σ τ S ∧ t τ S q ∧ FinA K H q Q
structure EndsR (K : PySem.W.Frag) (H : Hp) (D' : MEnds) (D : Ends) : Prop where
  nx : ∀ σ' H' τ' S', Kept H H' → RelE K H' σ' τ' → RelS K H' S' → D'.nx τ' S' → D.nx σ' H'
  rt : Fin K H D'.rt D.rt
  bk : ∀ σ' H' τ' S', Kept H H' → RelE K H' σ' τ' → RelS K H' S' → D'.bk τ' S' → D.bk σ' H'
  ct : ∀ σ' H' τ' S', Kept H H' → RelE K H' σ' τ' → RelS K H' S' → D'.ct τ' S' → D.ct σ' H'
theorem EndsR.mono {H H1 : Hp} {D' : MEnds} {D : Ends} (d : EndsR K H D' D) (k : Kept H H1) : EndsR K H1 D' D :=
  ⟨fun a b c d' k' => d.nx a b c d' (k.trans k'), d.rt.mono k, fun a b c d' k' => d.bk a b c d' (k.trans k'), fun a b c d' k' => d.ct a b c d' (k.trans k')⟩
def liftS (K : PySem.W.Frag) (H0 : Hp) (t : MS) : TS := fun D σ H => ∃ τ S D', Rel K H0 H σ τ S ∧ t D' τ S ∧ EndsR K H D' D
/-- an exception as it lies -/
def RepX (K : PySem.W.Frag) (H : Hp) (cls : Value) (d : Option Addr) (x : XT) : Prop :=
  PySem.W.nsIn K mainGlobals x.cls = some (some cls) ∧ ∀ f t, x.kept = some (f, t) → ∃ dd v, d = some dd ∧ H dd = some (.xd [(f, v)]) ∧ Rep K H v t
def liftW (K : PySem.W.Frag) (H0 : Hp) (W : Wish) : WX := fun cls d σ H => ∃ x τ S, Rel K H0 H σ τ S ∧ RepX K H cls d x ∧ W x τ S
end

/-! ### judgements by weaker readings -/
theorem pe_imp {X : Cx} {e : Expr} {t t' : TE} (h : PE X e t) (k : ∀ σ H Q, t' σ H Q → t σ H Q) : PE X e t' := ⟨fun pins s σ H Q I hw => h.run pins s σ H Q I (k σ H Q hw)⟩
theorem pt_imp {X : Cx} {e : Expr} {t t' : TT} (h : PT X e t) (k : ∀ σ H Q, t' σ H Q → t σ H Q) : PT X e t' := ⟨fun pins s σ H Q I hw => h.run pins s σ H Q I (k σ H Q hw)⟩
theorem pa_imp {X : Cx} {e : List Expr} {t t' : TA} (h : PA X e t) (k : ∀ σ H Q, t' σ H Q → t σ H Q) : PA X e t' := ⟨fun p pins s σ H Q I hw => h.run p pins s σ H Q I (k σ H Q hw)⟩
theorem ps_imp {X : Cx} {e : Stmt} {t t' : TS} (h : PS X e t) (k : ∀ D σ H, t' D σ H → t D σ H) : PS X e t' := ⟨fun pins s σ H D I hw => h.run pins s σ H D I (k D σ H hw)⟩
theorem pss_imp {X : Cx} {e : List Stmt} {t t' : TS} (h : PSs X e t) (k : ∀ D σ H, t' D σ H → t D σ H) : PSs X e t' := ⟨fun pins s σ H D I hw => h.run pins s σ H D I (k D σ H hw)⟩
theorem op_imp {X : Cx} {f : Value → Value → Sem Value} {r r' : R2} (h : OpR X f r) (k : ∀ x y H Q, r' x y H Q → r x y H Q) : OpR X f r' :=
  fun pins s σ H x y v u Q I rx ry q => h pins s σ H x y v u Q I rx ry (k x y H Q q)
end M
set_option Elab.async false
set_option maxRecDepth 100000
set_option linter.unusedVariables false
set_option maxHeartbeats 1000000
/-! Layer M, part B: operators and comparisons on trees. -/
namespace M
open PySem PySem.Spec PyProof.Rows L2

/-! ### data of a tree, lists looked up in the store -/
def mapO {α β : Type} (f : α → Option β) : List α → Option (List β)
  | [] => some []
  | x :: xs => match f x with
    | none => none
    | some y => match mapO f xs with
      | none => none
      | some ys => some (y :: ys)
def dOf (S : Store) : Nat → T → Option PyData
  | 0, _ => none
  | n + 1, t => match t with
    | .non => some .none
    | .bl b => some (.bool b)
    | .int i => some (.int i)
    | .str s => if s.cps.all (· < 0x110000) then some (.str s) else none
    | .tup xs => (mapO (dOf S n) xs).map .tuple
    | .ref a => match S a with
      | some (.lst xs) => (mapO (dOf S n) xs).map .list
      | some (.frz xs) => (mapO (dOf S n) xs).map .list
      | none => none
    | .ty _ => none
    | .scr _ => none
section
variable {K : PySem.W.Frag} {H : Hp} {S : Store}
theorem dAll_ok {n : Nat} (ih : ∀ (t : T) (v : V) (d : PyData), dOf S n t = some d → Rep K H v t → Dp K H v d ∧ d.canLay0 = true ∧ d.depth ≤ n) :
    ∀ (ts : List T) (vs : List V) (ds : List PyData), mapO (dOf S n) ts = some ds → RepAll K H vs ts → DpAll K H vs ds ∧ PyData.canLayAll0 ds = true ∧ PyData.depthAll ds ≤ n
  | [], vs, ds, e, r => by
    obtain rfl := r.nil_inv
    simp only [mapO, Option.some.injEq] at e
    subst e
    exact ⟨.nil, by simp [PyData.canLayAll0], by simp [PyData.depthAll]⟩
  | t :: ts, vs, ds, e, r => by
    obtain ⟨v, vs, rfl, r1, r2⟩ := r.cons_inv
    simp only [mapO] at e
    split at e
    · cases e
    · rename_i d hd
      split at e
      · cases e
      · rename_i ds' hds
        simp only [Option.some.injEq] at e
        subst e
        obtain ⟨a1, a2, a3⟩ := ih t v d hd r1
        obtain ⟨b1, b2, b3⟩ := dAll_ok ih ts vs ds' hds r2
        refine ⟨.cons a1 b1, by simp [PyData.canLayAll0, a2, b2], ?_⟩
        simp only [PyData.depthAll]
        omega
theorem dOf_ok (R : RelS K H S) : ∀ (n : Nat) (t : T) (v : V) (d : PyData), dOf S n t = some d → Rep K H v t → Dp K H v d ∧ d.canLay0 = true ∧ d.depth ≤ n
  | 0, _, _, _, e, _ => by simp [dOf] at e
  | n + 1, t, v, d, e, r => by
    have lay : ∀ {a : Addr} {xs : List T} {ws : List V} {d : PyData}, SqL K H a ws → RepAll K H ws xs → (mapO (dOf S n) xs).map PyData.list = some d → Dp K H (.ref a) d ∧ d.canLay0 = true ∧ d.depth ≤ n + 1 := by
      intro a xs ws d hs hr e
      cases hm : mapO (dOf S n) xs with
      | none => rw [hm] at e; cases e
      | some ds =>
        rw [hm] at e; cases e
        obtain ⟨h1, h2, h3⟩ := dAll_ok (fun t v d => dOf_ok R n t v d) xs ws ds hm hr
        exact ⟨.lst hs h1, by simpa [PyData.canLay0] using h2, by simp only [PyData.depth]; omega⟩
    cases t with
    | non => simp only [dOf, Option.some.injEq] at e; subst e; simp only [Rep] at r; subst r; exact ⟨.non, by simp [PyData.canLay0], by simp [PyData.depth]⟩
    | bl b => simp only [dOf, Option.some.injEq] at e; subst e; simp only [Rep] at r; subst r; exact ⟨.bl b, by simp [PyData.canLay0], by simp [PyData.depth]⟩
    | int b => simp only [dOf, Option.some.injEq] at e; subst e; simp only [Rep] at r; subst r; exact ⟨.int b, by simp [PyData.canLay0], by simp [PyData.depth]⟩
    | str b =>
      simp only [dOf] at e
      split at e
      · rename_i hb
        simp only [Option.some.injEq] at e
        subst e; simp only [Rep] at r; subst r
        exact ⟨.str b, by simp only [PyData.canLay0, PyData.strOk]; exact hb, by simp [PyData.depth]⟩
      · cases e
    | ty b => simp [dOf] at e
    | scr b => simp [dOf] at e
    | tup xs =>
      simp only [dOf] at e
      simp only [Rep] at r
      obtain ⟨a, ws, rfl, hs, hr⟩ := r
      cases hm : mapO (dOf S n) xs with
      | none => rw [hm] at e; cases e
      | some ds =>
        rw [hm] at e; cases e
        obtain ⟨h1, h2, h3⟩ := dAll_ok (fun t v d => dOf_ok R n t v d) xs ws ds hm hr
        exact ⟨.tup hs h1, by simpa [PyData.canLay0] using h2, by simp only [PyData.depth]; omega⟩
    | ref a =>
      simp only [Rep] at r
      subst r
      simp only [dOf] at e
      split at e
      · rename_i xs hS
        obtain ⟨ws, h1, h2⟩ := R a _ hS
        exact lay (.of h1) h2 e
      · rename_i xs hS
        obtain ⟨o, ws, h1, h2⟩ := R a _ hS
        exact lay (.inl (.inr ⟨o, h1⟩)) h2 e
      · cases e
theorem dOf_shaped (R : RelS K H S) {t : T} {v : V} {d : PyData} (e : dOf S 64 t = some d) (r : Rep K H v t) : Dp K H v d ∧ SeqAt.shaped d = true := by
  obtain ⟨h1, h2, h3⟩ := dOf_ok R 64 t v d e r
  exact ⟨h1, by unfold SeqAt.shaped; rw [h2, decide_eq_true h3]; rfl⟩
end

/-! ### binary operators -/
abbrev B2 := T → T → Store → KT → Prop
def addR : B2 := fun x y S q => match x, y with
  | .int i, .int j => q (.int (i + j)) S
  | .str a, .str b => a.length + b.length ≤ 16000000 ∧ q (.str (a ++ b)) S
  | .tup a, .tup b => a.length + b.length ≤ 16000000 ∧ q (.tup (a ++ b)) S
  | .ref a, .ref b => match S a, S b with
    | some (.lst xs), some (.lst ys) => xs.length + ys.length ≤ 16000000 ∧ ∀ p, S p = none → q (.ref p) (upS S p (.lst (xs ++ ys)))
    | _, _ => False
  | _, _ => False
def subR : B2 := fun x y S q => match x, y with
  | .int i, .int j => q (.int (i - j)) S
  | _, _ => False
def mulR : B2 := fun x y S q => match x, y with
  | .int i, .int j => (CMul i j ∨ CMulW i j) ∧ q (.int (i * j)) S
  | .tup xs, .int k => (xs ≠ [] ∧ 2 ≤ k ∧ k ≤ 1000 ∧ xs.length ≤ 1000) ∧ q (.tup (List.replicate k.toNat xs).flatten) S
  | .ref a, .int k => match S a with
    | some (.lst xs) => (0 ≤ k ∧ k < 1000000 ∧ xs.length * k.toNat ≤ 16000000) ∧ ∀ p, S p = none → q (.ref p) (upS S p (.lst (List.replicate k.toNat xs).flatten))
    | _ => False
  | _, _ => False
def fdivR : B2 := fun x y S q => match x, y with
  | .int i, .int j => (0 < j ∧ (j < 1073741824 ∨ j.natAbs.log2 < 9000)) ∧ q (.int (i / j)) S
  | _, _ => False
def modR : B2 := fun x y S q => match x, y with
  | .int i, .int j => 0 < j ∧ q (.int (i % j)) S
  | _, _ => False
def powR : B2 := fun x y S q => match x, y with
  | .int i, .int j => CPow i j ∧ q (.int (i ^ j.toNat)) S
  | _, _ => False
def shlR : B2 := fun x y S q => match x, y with
  | .int i, .int j => CPow i j ∧ q (.int (i * 2 ^ j.toNat)) S
  | _, _ => False
def shrR : B2 := fun x y S q => match x, y with
  | .int i, .int j => 0 ≤ j ∧ q (.int (i / 2 ^ j.toNat)) S
  | _, _ => False
def andR : B2 := fun x y S q => match x, y with
  | .int i, .int j => q (.int (Builtin.bitAnd i j)) S
  | _, _ => False
def orR : B2 := fun x y S q => match x, y with
  | .int i, .int j => q (.int (Builtin.bitOr i j)) S
  | _, _ => False
def xorR : B2 := fun x y S q => match x, y with
  | .int i, .int j => q (.int (Builtin.bitXor i j)) S
  | _, _ => False
def noR : B2 := fun _ _ _ _ => False
def binR : Operator → B2
  | .Add => addR | .Sub => subR | .Mult => mulR | .FloorDiv => fdivR | .Mod => modR | .Pow => powR
  | .LShift => shlR | .RShift => shrR | .BitAnd => andR | .BitOr => orR | .BitXor => xorR | _ => noR

/-- a two-place reading on trees, as one on values -/
def liftR (K : PySem.W.Frag) (r : B2) : R2 := fun x y H Q => ∃ t u S q, Rep K H x t ∧ Rep K H y u ∧ RelS K H S ∧ r t u S q ∧ Fin K H q Q

theorem Fin.here {K : PySem.W.Frag} {H : Hp} {q : KT} {Q : VK} (f : Fin K H q Q) {v : V} {t : T} {S : Store} (s : RelS K H S) (r : Rep K H v t) (h : q t S) : Q v H := f v H t S (Kept.refl H) s r h
theorem Fin.newT {K : PySem.W.Frag} {H : Hp} {q : KT} {Q : VK} (f : Fin K H q Q) {xs : List V} {ts : List T} {S : Store} (s : RelS K H S) (r : RepAll K H xs ts) (h : q (.tup ts) S) {p : Addr} (hp : H p = none) : Q (.ref p) (upd H p (.tup xs)) :=
  f (.ref p) _ (.tup ts) S (Kept.new hp) (s.new hp) (by simp only [Rep]; exact ⟨p, xs, rfl, .of upd_same, r.mono (Kept.new hp)⟩) h
theorem Fin.newL {K : PySem.W.Frag} {H : Hp} {q : KT} {Q : VK} (f : Fin K H q Q) {xs : List V} {ts : List T} {S : Store} (s : RelS K H S) (r : RepAll K H xs ts) (h : ∀ p, S p = none → q (.ref p) (upS S p (.lst ts))) {p : Addr} (hp : H p = none) : Q (.ref p) (upd H p (.lst xs)) :=
  f (.ref p) _ (.ref p) _ (Kept.new hp) (s.newL hp r) (by simp only [Rep]) (h p (s.free hp))
theorem len16 {n : Nat} (h : n ≤ 16000000) : n ≤ sizeLine := by rw [sizeLine_eq]; omega

section
variable {X : Cx}
theorem opm_int {f : Value → Value → Sem Value} {r : R2} (o : OpR X f r) {i j : Int} {c : Int} {pins : List (Addr × Obj)} {s : Shared} {σ : St} {H : Hp} {x y : V} {v u : Value} {Q : VK} {q : KT} {S : Store}
    (I : Inv X pins σ H s) (rx : RelV x v) (ry : RelV y u) (hx : Rep X.K H x (.int i)) (hy : Rep X.K H y (.int j)) (R : RelS X.K H S) (fi : Fin X.K H q Q) (h : q (.int c) S)
    (k : Q (.int c) H → r (.int i) (.int j) H Q) : wpAny (model X.prog X.w) X.A (f v u) (EP X pins σ Q) X.xe s := by
  simp only [Rep] at hx hy
  subst hx hy
  exact o pins s σ H _ _ v u Q I rx ry (k (fi.here R (by simp only [Rep]) h))
theorem opm_add : OpR X (binaryOp .Add) (liftR X.K addR) := by
  intro pins s σ H x y v u Q I rx ry ⟨t, t', S, q, hx, hy, R, h, fi⟩
  cases t <;> cases t' <;> first
    | exact False.elim h
    | skip
  · exact opm_int op_add I rx ry hx hy R fi h fun z => ⟨_, _, rfl, rfl, z⟩
  · simp only [Rep] at hx hy
    subst hx hy
    exact op_add_str pins s σ H _ _ v u Q I rx ry ⟨_, _, rfl, rfl, len16 h.1, fi.here R (by simp only [Rep]) h.2⟩
  · rename_i ts us
    simp only [Rep] at hx hy
    obtain ⟨a, xs, rfl, sa, ra⟩ := hx
    obtain ⟨b, ys, rfl, sb, rb⟩ := hy
    have h : ts.length + us.length ≤ 16000000 ∧ q (.tup (ts ++ us)) S := h
    refine op_catA pins s σ H _ _ v u Q I rx ry ⟨a, b, xs, ys, rfl, rfl, sa, sb, by rw [ra.len, rb.len]; exact len16 h.1, fun e => ?_, fun _ e => ?_, fun _ _ p hp => ?_⟩
    · subst e
      have e : ts = [] := List.length_eq_zero_iff.mp ra.len.symm
      subst e
      exact fi.here R (by simp only [Rep]; exact ⟨b, ys, rfl, sb, rb⟩) h.2
    · subst e
      have e : us = [] := List.length_eq_zero_iff.mp rb.len.symm
      subst e
      have h2 := h.2
      rw [List.append_nil] at h2
      exact fi.here R (by simp only [Rep]; exact ⟨a, xs, rfl, sa, ra⟩) h2
    · exact fi.newT R (ra.append rb) h.2 hp
  · rename_i a b
    simp only [Rep] at hx hy
    subst hx hy
    simp only [addR] at h
    split at h
    · rename_i xs ys ea eb
      obtain ⟨vs, ha, ra⟩ := R a _ ea
      obtain ⟨ws, hb, rb⟩ := R b _ eb
      exact op_cat pins s σ H _ _ v u Q I rx ry ⟨a, b, vs, ws, rfl, rfl, ha, hb, by rw [ra.len, rb.len]; exact len16 h.1, fun p hp => fi.newL R (ra.append rb) h.2 hp⟩
    · exact h.elim
theorem opm_sub : OpR X (binaryOp .Sub) (liftR X.K subR) := by
  intro pins s σ H x y v u Q I rx ry ⟨t, t', S, q, hx, hy, R, h, fi⟩
  cases t <;> cases t' <;> first
    | exact False.elim h
    | exact opm_int op_sub I rx ry hx hy R fi h fun z => ⟨_, _, rfl, rfl, z⟩
theorem opm_mul : OpR X (binaryOp .Mult) (liftR X.K mulR) := by
  intro pins s σ H x y v u Q I rx ry ⟨t, t', S, q, hx, hy, R, h, fi⟩
  cases t <;> cases t' <;> first
    | exact False.elim h
    | skip
  · obtain ⟨c | c, h⟩ := h
    · exact opm_int op_mul I rx ry hx hy R fi h fun z => ⟨_, _, rfl, rfl, c, z⟩
    · exact opm_int op_mulW I rx ry hx hy R fi h fun z => ⟨_, _, rfl, rfl, c, z⟩
  · rename_i ts k
    simp only [Rep] at hx hy
    obtain ⟨a, xs, rfl, sa, ra⟩ := hx
    subst hy
    obtain ⟨⟨h1, h2, h3, h4⟩, h⟩ := h
    refine op_repT pins s σ H _ _ v u Q I rx ry ⟨a, k, xs, rfl, rfl, sa, fun e => h1 (List.length_eq_zero_iff.mp (by rw [← ra.len, e]; rfl)), h2, h3, by rw [ra.len]; exact h4, fun p hp => ?_⟩
    exact fi.newT R (ra.flat _) h hp
  · rename_i a k
    simp only [Rep] at hx hy
    subst hx hy
    simp only [mulR] at h
    split at h
    · rename_i xs ea
      obtain ⟨vs, ha, ra⟩ := R a _ ea
      obtain ⟨⟨h1, h2, h3⟩, h⟩ := h
      exact op_rep pins s σ H _ _ v u Q I rx ry ⟨a, k, vs, rfl, rfl, ha, by omega, by omega, by rw [ra.len]; exact len16 h3, fun p hp => fi.newL R (ra.flat _) h hp⟩
    · exact h.elim
theorem opm_fdiv : OpR X (binaryOp .FloorDiv) (liftR X.K fdivR) := by
  intro pins s σ H x y v u Q I rx ry ⟨t, t', S, q, hx, hy, R, h, fi⟩
  cases t <;> cases t' <;> first
    | exact False.elim h
    | skip
  obtain ⟨⟨h0, h1 | h1⟩, h⟩ := h
  · exact opm_int op_fdiv I rx ry hx hy R fi h fun z => ⟨_, _, rfl, rfl, ⟨h0, h1⟩, z⟩
  · exact opm_int op_fdivW I rx ry hx hy R fi h fun z => ⟨_, _, rfl, rfl, ⟨h0, h1⟩, z⟩
theorem opm_mod : OpR X (binaryOp .Mod) (liftR X.K modR) := by
  intro pins s σ H x y v u Q I rx ry ⟨t, t', S, q, hx, hy, R, h, fi⟩
  cases t <;> cases t' <;> first
    | exact False.elim h
    | exact opm_int op_mod I rx ry hx hy R fi h.2 fun z => ⟨_, _, rfl, rfl, h.1, z⟩
theorem opm_pow : OpR X (binaryOp .Pow) (liftR X.K powR) := by
  intro pins s σ H x y v u Q I rx ry ⟨t, t', S, q, hx, hy, R, h, fi⟩
  cases t <;> cases t' <;> first
    | exact False.elim h
    | exact opm_int op_pow I rx ry hx hy R fi h.2 fun z => ⟨_, _, rfl, rfl, h.1, z⟩
theorem opm_shl : OpR X (binaryOp .LShift) (liftR X.K shlR) := by
  intro pins s σ H x y v u Q I rx ry ⟨t, t', S, q, hx, hy, R, h, fi⟩
  cases t <;> cases t' <;> first
    | exact False.elim h
    | exact opm_int op_shl I rx ry hx hy R fi h.2 fun z => ⟨_, _, rfl, rfl, h.1, z⟩
theorem opm_shr : OpR X (binaryOp .RShift) (liftR X.K shrR) := by
  intro pins s σ H x y v u Q I rx ry ⟨t, t', S, q, hx, hy, R, h, fi⟩
  cases t <;> cases t' <;> first
    | exact False.elim h
    | exact opm_int op_shr I rx ry hx hy R fi h.2 fun z => ⟨_, _, rfl, rfl, h.1, z⟩
theorem opm_and : OpR X (binaryOp .BitAnd) (liftR X.K andR) := by
  intro pins s σ H x y v u Q I rx ry ⟨t, t', S, q, hx, hy, R, h, fi⟩
  cases t <;> cases t' <;> first
    | exact False.elim h
    | exact opm_int op_and I rx ry hx hy R fi h fun z => ⟨_, _, rfl, rfl, z⟩
theorem opm_or : OpR X (binaryOp .BitOr) (liftR X.K orR) := by
  intro pins s σ H x y v u Q I rx ry ⟨t, t', S, q, hx, hy, R, h, fi⟩
  cases t <;> cases t' <;> first
    | exact False.elim h
    | exact opm_int op_or I rx ry hx hy R fi h fun z => ⟨_, _, rfl, rfl, z⟩
theorem opm_xor : OpR X (binaryOp .BitXor) (liftR X.K xorR) := by
  intro pins s σ H x y v u Q I rx ry ⟨t, t', S, q, hx, hy, R, h, fi⟩
  cases t <;> cases t' <;> first
    | exact False.elim h
    | exact opm_int op_xor I rx ry hx hy R fi h fun z => ⟨_, _, rfl, rfl, z⟩
theorem opm_bin (op : Operator) : OpR X (binaryOp op) (liftR X.K (binR op)) := by
  cases op with
  | Add => exact opm_add
  | Sub => exact opm_sub
  | Mult => exact opm_mul
  | FloorDiv => exact opm_fdiv
  | Mod => exact opm_mod
  | Pow => exact opm_pow
  | LShift => exact opm_shl
  | RShift => exact opm_shr
  | BitAnd => exact opm_and
  | BitOr => exact opm_or
  | BitXor => exact opm_xor
  | _ => exact fun pins s σ H x y v u Q I rx ry ⟨t, t', S, q, hx, hy, R, h, fi⟩ => False.elim h
end

/-! ### comparisons -/
/-- == of plain things -/
def eqS : T → T → Option Bool
  | .non, .non => some true
  | .int i, .int j => some (decide (i = j))
  | .bl i, .bl j => some (decide (i = j))
  | .str i, .str j => some (decide (i = j))
  | .non, .int _ => some false | .int _, .non => some false | .non, .bl _ => some false | .bl _, .non => some false | .non, .str _ => some false | .str _, .non => some false
  | .int _, .str _ => some false | .str _, .int _ => some false | .bl _, .str _ => some false | .str _, .bl _ => some false
  | _, _ => none
def eqR : B2 := fun x y S q => match eqS x y with
  | some b => q (.bl b) S
  | none => match dOf S 64 x, dOf S 64 y with
    | some d, some e => q (.bl (PyData.eqv d e)) S
    | _, _ => False
def neR : B2 := fun x y S q => match eqS x y with
  | some b => q (.bl (!b)) S
  | none => match dOf S 64 x, dOf S 64 y with
    | some d, some e => q (.bl (!PyData.eqv d e)) S
    | _, _ => False
def ltR : B2 := fun x y S q => match x, y with
  | .int i, .int j => q (.bl (decide (i < j))) S
  | _, _ => False
def leR : B2 := fun x y S q => match x, y with
  | .int i, .int j => q (.bl (decide (i ≤ j))) S
  | _, _ => False
def gtR : B2 := fun x y S q => match x, y with
  | .int i, .int j => q (.bl (decide (j < i))) S
  | _, _ => False
def geR : B2 := fun x y S q => match x, y with
  | .int i, .int j => q (.bl (decide (j ≤ i))) S
  | _, _ => False
def isNonT : T → Bool
  | .non => true
  | _ => false
def isR : B2 := fun x y S q => match x, y with
  | .bl a, .bl b => q (.bl (decide (a = b))) S
  | x, .non => q (.bl (isNonT x)) S
  | _, _ => False
def isnR : B2 := fun x y S q => match x, y with
  | .bl a, .bl b => q (.bl (!decide (a = b))) S
  | x, .non => q (.bl (!isNonT x)) S
  | _, _ => False
/-- the data of a list or a tuple's items, for in -/
def itemsD (S : Store) (y : T) : Option (List PyData) := match y with
  | .ref a => match S a with
    | some (.lst xs) => mapO (dOf S 63) xs
    | some (.frz xs) => mapO (dOf S 63) xs
    | none => none
  | _ => none
def flatT : T → Bool
  | .non => true | .bl _ => true | .int _ => true | .str _ => true | _ => false
def eqF : T → T → Bool
  | .non, .non => true
  | .bl a, .bl b => a == b
  | .bl a, .int b => (if a then 1 else 0) == b
  | .int a, .bl b => a == (if b then 1 else 0)
  | .int a, .int b => a == b
  | .str a, .str b => a == b
  | _, _ => false
def inR (neg : Bool) : B2 := fun x y S q => match y with
  | .tup ys => (flatT x = true ∧ ys.all flatT = true) ∧ q (.bl (if neg then !(ys.any fun z => eqF z x) else ys.any fun z => eqF z x)) S
  | .ref _ => match dOf S 64 x, itemsD S y with
    | some d, some ds => q (.bl (if neg then !(ds.any fun z => PyData.eqv z d) else ds.any fun z => PyData.eqv z d)) S
    | _, _ => False
  | _ => False
def cmpR : CmpOp → B2
  | .Eq => eqR | .NotEq => neR | .Lt => ltR | .LtE => leR | .Gt => gtR | .GtE => geR | .Is => isR | .IsNot => isnR | .In => inR false | .NotIn => inR true

section
variable {X : Cx}
theorem eqS_ok {K : PySem.W.Frag} {H : Hp} {x y : V} {t u : T} {b : Bool} (hx : Rep K H x t) (hy : Rep K H y u) (e : eqS t u = some b) : scal x y = true ∧ decide (x = y) = b := by
  cases t <;> cases u <;> simp only [eqS, Option.some.injEq, reduceCtorEq] at e <;> simp only [Rep] at hx hy <;> subst hx hy <;> subst e <;> simp [scal]
theorem opm_eq (hu : X.A.units + 70 < cLine) : OpR X (compareOp .Eq) (liftR X.K eqR) := by
  intro pins s σ H x y v u Q I rx ry ⟨t, t', S, q, hx, hy, R, h, fi⟩
  simp only [eqR] at h
  split at h
  · rename_i b e
    obtain ⟨h1, h2⟩ := eqS_ok hx hy e
    exact op_eq pins s σ H _ _ v u Q I rx ry ⟨h1, by rw [h2]; exact fi.here R (by simp only [Rep]) h⟩
  · split at h
    · rename_i d d' e1 e2
      obtain ⟨a1, a2⟩ := dOf_shaped R e1 hx
      obtain ⟨b1, b2⟩ := dOf_shaped R e2 hy
      exact op_eqD (by omega) pins s σ H _ _ v u Q I rx ry ⟨d, d', a1, b1, a2, b2, fi.here R (by simp only [Rep]) h⟩
    · exact h.elim
theorem opm_ne (hu : X.A.units + 70 < cLine) : OpR X (compareOp .NotEq) (liftR X.K neR) := by
  intro pins s σ H x y v u Q I rx ry ⟨t, t', S, q, hx, hy, R, h, fi⟩
  simp only [neR] at h
  split at h
  · rename_i b e
    obtain ⟨h1, h2⟩ := eqS_ok hx hy e
    exact op_ne pins s σ H _ _ v u Q I rx ry ⟨h1, by rw [h2]; exact fi.here R (by simp only [Rep]) h⟩
  · split at h
    · rename_i d d' e1 e2
      obtain ⟨a1, a2⟩ := dOf_shaped R e1 hx
      obtain ⟨b1, b2⟩ := dOf_shaped R e2 hy
      exact op_neD (by omega) pins s σ H _ _ v u Q I rx ry ⟨d, d', a1, b1, a2, b2, fi.here R (by simp only [Rep]) h⟩
    · exact h.elim
theorem opm_intB {f : Value → Value → Sem Value} {r : R2} (o : OpR X f r) {i j : Int} {c : Bool} {pins : List (Addr × Obj)} {s : Shared} {σ : St} {H : Hp} {x y : V} {v u : Value} {Q : VK} {q : KT} {S : Store}
    (I : Inv X pins σ H s) (rx : RelV x v) (ry : RelV y u) (hx : Rep X.K H x (.int i)) (hy : Rep X.K H y (.int j)) (R : RelS X.K H S) (fi : Fin X.K H q Q) (h : q (.bl c) S)
    (k : Q (.bl c) H → r (.int i) (.int j) H Q) : wpAny (model X.prog X.w) X.A (f v u) (EP X pins σ Q) X.xe s := by
  simp only [Rep] at hx hy
  subst hx hy
  exact o pins s σ H _ _ v u Q I rx ry (k (fi.here R (by simp only [Rep]) h))
theorem opm_lt : OpR X (compareOp .Lt) (liftR X.K ltR) := by
  intro pins s σ H x y v u Q I rx ry ⟨t, t', S, q, hx, hy, R, h, fi⟩
  cases t <;> cases t' <;> first
    | exact False.elim h
    | exact opm_intB op_lt I rx ry hx hy R fi h fun z => ⟨_, _, rfl, rfl, z⟩
theorem opm_le : OpR X (compareOp .LtE) (liftR X.K leR) := by
  intro pins s σ H x y v u Q I rx ry ⟨t, t', S, q, hx, hy, R, h, fi⟩
  cases t <;> cases t' <;> first
    | exact False.elim h
    | exact opm_intB op_le I rx ry hx hy R fi h fun z => ⟨_, _, rfl, rfl, z⟩
theorem opm_gt : OpR X (compareOp .Gt) (liftR X.K gtR) := by
  intro pins s σ H x y v u Q I rx ry ⟨t, t', S, q, hx, hy, R, h, fi⟩
  cases t <;> cases t' <;> first
    | exact False.elim h
    | exact opm_intB op_gt I rx ry hx hy R fi h fun z => ⟨_, _, rfl, rfl, z⟩
theorem opm_ge : OpR X (compareOp .GtE) (liftR X.K geR) := by
  intro pins s σ H x y v u Q I rx ry ⟨t, t', S, q, hx, hy, R, h, fi⟩
  cases t <;> cases t' <;> first
    | exact False.elim h
    | exact opm_intB op_ge I rx ry hx hy R fi h fun z => ⟨_, _, rfl, rfl, z⟩
theorem isNon_ok {K : PySem.W.Frag} {H : Hp} {x : V} {t : T} (hx : Rep K H x t) : decide (x = .non) = isNonT t := by
  cases t <;> simp only [Rep] at hx
  case tup => obtain ⟨a, xs, rfl, _⟩ := hx; simp [isNonT]
  case scr => obtain ⟨a, rfl, _⟩ := hx; simp [isNonT]
  all_goals subst hx; simp [isNonT]
theorem opm_is : OpR X (compareOp .Is) (liftR X.K isR) := by
  intro pins s σ H x y v u Q I rx ry ⟨t, t', S, q, hx, hy, R, h, fi⟩
  cases t' with
  | non =>
    have h : q (.bl (isNonT t)) S := by cases t <;> exact h
    have hy' := hy
    simp only [Rep] at hy'
    subst hy'
    exact op_isN pins s σ H _ _ v u Q I rx ry ⟨rfl, by rw [isNon_ok hx]; exact fi.here R (by simp only [Rep]) h⟩
  | bl b =>
    cases t with
    | bl a =>
      simp only [Rep] at hx hy
      subst hx hy
      exact op_isBl pins s σ H _ _ v u Q I rx ry ⟨a, b, rfl, rfl, fi.here R (by simp only [Rep]) h⟩
    | _ => exact False.elim h
  | _ => cases t <;> exact False.elim h
theorem opm_isn : OpR X (compareOp .IsNot) (liftR X.K isnR) := by
  intro pins s σ H x y v u Q I rx ry ⟨t, t', S, q, hx, hy, R, h, fi⟩
  cases t' with
  | non =>
    have h : q (.bl (!isNonT t)) S := by cases t <;> exact h
    have hy' := hy
    simp only [Rep] at hy'
    subst hy'
    exact op_notN pins s σ H _ _ v u Q I rx ry ⟨rfl, by rw [isNon_ok hx]; exact fi.here R (by simp only [Rep]) h⟩
  | bl b =>
    cases t with
    | bl a =>
      simp only [Rep] at hx hy
      subst hx hy
      exact op_notBl pins s σ H _ _ v u Q I rx ry ⟨a, b, rfl, rfl, fi.here R (by simp only [Rep]) h⟩
    | _ => exact False.elim h
  | _ => cases t <;> exact False.elim h
theorem flat_ok {K : PySem.W.Frag} {H : Hp} {x : V} {t : T} (hx : Rep K H x t) (f : flatT t = true) : flatV x = true := by
  cases t <;> simp only [flatT, reduceCtorEq] at f <;> simp only [Rep] at hx <;> subst hx <;> rfl
theorem eqF_ok {K : PySem.W.Frag} {H : Hp} {x y : V} {t u : T} (hx : Rep K H x t) (hy : Rep K H y u) (ft : flatT t = true) (fu : flatT u = true) : eqV x y = eqF t u := by
  cases t <;> simp only [flatT, reduceCtorEq] at ft <;> cases u <;> simp only [flatT, reduceCtorEq] at fu <;> simp only [Rep] at hx hy <;> subst hx hy <;> rfl
theorem flatAll_ok {K : PySem.W.Frag} {H : Hp} {x : V} {t : T} (hx : Rep K H x t) (ft : flatT t = true) : ∀ {vs : List V} {ts : List T}, RepAll K H vs ts → ts.all flatT = true → vs.all flatV = true ∧ (vs.any fun z => eqV z x) = ts.any fun z => eqF z t
  | [], [], _, _ => ⟨rfl, rfl⟩
  | [], _ :: _, h, _ => by simp only [RepAll] at h
  | _ :: _, [], h, _ => by simp only [RepAll] at h
  | v :: vs, u :: ts, h, f => by
    simp only [RepAll] at h
    simp only [List.all_cons, Bool.and_eq_true] at f
    obtain ⟨h1, h2⟩ := flatAll_ok hx ft h.2 f.2
    exact ⟨by simp only [List.all_cons, Bool.and_eq_true]; exact ⟨flat_ok h.1 f.1, h1⟩, by simp only [List.any_cons]; rw [eqF_ok h.1 hx f.1 ft, h2]⟩
theorem opm_in (hu : X.A.units + 70 < cLine) (neg : Bool) : OpR X (compareOp (if neg then .NotIn else .In)) (liftR X.K (inR neg)) := by
  intro pins s σ H x y v u Q I rx ry ⟨t, t', S, q, hx, hy, R, h, fi⟩
  cases t' with
  | tup ys =>
    obtain ⟨⟨h1, h2⟩, h⟩ : (flatT t = true ∧ ys.all flatT = true) ∧ q (.bl (if neg then !(ys.any fun z => eqF z t) else ys.any fun z => eqF z t)) S := h
    have hy' := hy
    simp only [Rep] at hy'
    obtain ⟨a, xs, rfl, sa, ra⟩ := hy'
    obtain ⟨f1, f2⟩ := flatAll_ok hx h1 ra h2
    have f3 : inV x xs = ys.any fun z => eqF z t := f2
    cases neg with
    | false => exact op_in_seq pins s σ H _ _ v u Q I rx ry ⟨a, xs, rfl, .inr sa, flat_ok hx h1, f1, by rw [f3]; exact fi.here R (by simp only [Rep]) h⟩
    | true => exact op_notIn_seq pins s σ H _ _ v u Q I rx ry ⟨a, xs, rfl, .inr sa, flat_ok hx h1, f1, by rw [f3]; exact fi.here R (by simp only [Rep]) h⟩
  | ref a =>
    simp only [inR] at h
    split at h
    · rename_i d ds e1 e2
      obtain ⟨a1, a2⟩ := dOf_shaped R e1 hx
      have hy' := hy
      simp only [Rep] at hy'
      subst hy'
      have key : ∀ {ts : List T} {ws : List V}, SqL X.K H a ws → RepAll X.K H ws ts → mapO (dOf S 63) ts = some ds → Dp X.K H (.ref a) (.list ds) ∧ SeqAt.shaped (.list ds) = true := fun {ts ws} hs hr e => by
        obtain ⟨b1, b2, b3⟩ := dAll_ok (fun t v d => dOf_ok R 63 t v d) ts ws ds e hr
        refine ⟨.lst hs b1, ?_⟩
        unfold SeqAt.shaped
        simp only [PyData.canLay0, PyData.depth, b2, Bool.true_and]
        exact decide_eq_true (Nat.succ_le_succ b3)
      have both : Dp X.K H (.ref a) (.list ds) ∧ SeqAt.shaped (.list ds) = true := by
        simp only [itemsD] at e2
        split at e2
        · rename_i ts hS
          obtain ⟨ws, g1, g2⟩ := R a _ hS
          exact key (.of g1) g2 e2
        · rename_i ts hS
          obtain ⟨o, ws, g1, g2⟩ := R a _ hS
          exact key (.inl (.inr ⟨o, g1⟩)) g2 e2
        · cases e2
      cases neg with
      | false =>
        have h' : q (.bl (ds.any fun z => PyData.eqv z d)) S := h
        exact op_inD (by omega) pins s σ H _ _ v u Q I rx ry ⟨d, ds, a1, both.1, a2, both.2, fi.here R (by simp only [Rep]) h'⟩
      | true =>
        have h' : q (.bl (!ds.any fun z => PyData.eqv z d)) S := h
        exact op_notInD (by omega) pins s σ H _ _ v u Q I rx ry ⟨d, ds, a1, both.1, a2, both.2, fi.here R (by simp only [Rep]) h'⟩
    · exact h.elim
  | _ => exact False.elim h
theorem opm_cmp (hu : X.A.units + 70 < cLine) (op : CmpOp) : OpR X (compareOp op) (liftR X.K (cmpR op)) := by
  cases op with
  | Eq => exact opm_eq hu
  | NotEq => exact opm_ne hu
  | Lt => exact opm_lt
  | LtE => exact opm_le
  | Gt => exact opm_gt
  | GtE => exact opm_ge
  | Is => exact opm_is
  | IsNot => exact opm_isn
  | In => exact opm_in hu false
  | NotIn => exact opm_in hu true
end
end M
set_option Elab.async false
set_option maxRecDepth 100000
set_option linter.unusedVariables false
set_option maxHeartbeats 1000000
/-! Layer M, part C: expressions. -/
namespace M
open PySem PySem.Spec PyProof.Rows L2

/-! ### readings -/
def eNo : ME := fun _ _ _ => False
def mNo : MT := fun _ _ _ => False
def eC (t : T) : ME := fun _ S q => q t S
def eVar (i : Nat) : ME := fun τ S q => match τ[i]? with
  | some (some t) => q t S
  | _ => False
def eOp (r : B2) (a b : ME) : ME := fun τ S q => a τ S fun x S1 => b τ S1 fun y S2 => r x y S2 q
def truT (S : Store) : T → Option Bool
  | .non => some false
  | .bl b => some b
  | .int i => some (i != 0)
  | .str y => if y.length ≤ 16000000 then some ((y.length : Int) != 0) else none
  | .tup xs => some (!xs.isEmpty)
  | .ref a => match S a with
    | some (.lst xs) => some (!xs.isEmpty)
    | some (.frz xs) => some (!xs.isEmpty)
    | none => none
  | .ty _ => none
  | .scr ns => some (!ns.isEmpty)
def mTru (a : ME) : MT := fun τ S q => a τ S fun x S1 => match truT S1 x with
  | some b => q b S1
  | none => False
/-- a value that is a bool, as a test -/
def mVal (a : ME) : MT := fun τ S q => a τ S fun x S1 => match x with
  | .bl b => q b S1
  | _ => False
def eAnd : List ME → ME
  | [] => eNo
  | [a] => a
  | a :: r => fun τ S q => a τ S fun x S1 => match truT S1 x with
    | some true => eAnd r τ S1 q
    | some false => q x S1
    | none => False
def eOr : List ME → ME
  | [] => eNo
  | [a] => a
  | a :: r => fun τ S q => a τ S fun x S1 => match truT S1 x with
    | some true => q x S1
    | some false => eOr r τ S1 q
    | none => False
def mAnd : List MT → MT
  | [] => mNo
  | [a] => a
  | a :: r => fun τ S q => a τ S fun b S1 => if b = true then mAnd r τ S1 q else q false S1
def mOr : List MT → MT
  | [] => mNo
  | [a] => a
  | a :: r => fun τ S q => a τ S fun b S1 => if b = true then q true S1 else mOr r τ S1 q
def mNot (a : MT) : MT := fun τ S q => a τ S fun b S1 => q (!b) S1
def eNot (a : ME) : ME := fun τ S q => a τ S fun x S1 => match truT S1 x with
  | some b => q (.bl (!b)) S1
  | none => False
def eIf (t : MT) (a b : ME) : ME := fun τ S q => t τ S fun c S1 => if c = true then a τ S1 q else b τ S1 q
def eChain (r r' : B2) (a b c : ME) : ME := fun τ S q => a τ S fun x S1 => b τ S1 fun y S2 => r x y S2 fun z S3 => match z with
  | .bl k => if k = true then c τ S3 fun w S4 => r' y w S4 q else q (.bl false) S3
  | _ => False
def aNil : MA := fun _ S q => q [] S
def aCons (a : ME) (r : MA) : MA := fun τ S q => a τ S fun x S1 => r τ S1 fun xs S2 => q (x :: xs) S2
def seqOf (S : Store) : T → Option (List T)
  | .tup xs => some xs
  | .scr ns => some (ns.map T.int)
  | .ref a => match S a with
    | some (.lst xs) => some xs
    | some (.frz xs) => some xs
    | none => none
  | _ => none
def aStar (a : ME) (r : MA) : MA := fun τ S q => a τ S fun x S1 => match seqOf S1 x with
  | some xs => r τ S1 fun ys S2 => q (xs ++ ys) S2
  | none => False
def eTup (a : MA) : ME := fun τ S q => a τ S fun xs S1 => xs.length ≤ 16000000 ∧ q (.tup xs) S1
def eLst (a : MA) : ME := fun τ S q => a τ S fun xs S1 => xs.length ≤ 16000000 ∧ ∀ p, S1 p = none → q (.ref p) (upS S1 p (.lst xs))
def ixR : B2 := fun x y S q => match seqOf S x, y with
  | some xs, .int i => match atI xs i with
    | some t => q t S
    | none => False
  | _, _ => False
def cutT (xs : List T) (lo hi : Option Int) : List T := (xs.drop (HT.sIx xs.length 0 lo)).take (HT.sIx xs.length xs.length hi - HT.sIx xs.length 0 lo)
def oNo : Env' → Store → (Option Int → Store → Prop) → Prop := fun _ S q => q none S
def oSome (a : ME) : Env' → Store → (Option Int → Store → Prop) → Prop := fun τ S q => a τ S fun x S1 => match x with
  | .int i => q (some i) S1
  | _ => False
def cutR (x : T) (lo hi : Option Int) (S : Store) (q : KT) : Prop := match x with
  | .tup xs => q (.tup (cutT xs lo hi)) S
  | .ref a => match S a with
    | some (.lst xs) => ∀ p, S p = none → q (.ref p) (upS S p (.lst (cutT xs lo hi)))
    | some (.frz xs) => ∀ p, S p = none → q (.ref p) (upS S p (.lst (cutT xs lo hi)))
    | none => False
  | _ => False
def eCut (a : ME) (l h : Env' → Store → (Option Int → Store → Prop) → Prop) : ME := fun τ S q => a τ S fun x S1 => l τ S1 fun lo S2 => h τ S2 fun hi S3 => cutR x lo hi S3 q
def eRev (a : ME) : ME := fun τ S q => a τ S fun x S1 => match x with
  | .ref a => match S1 a with
    | some (.lst xs) => ∀ p, S1 p = none → q (.ref p) (upS S1 p (.lst xs.reverse))
    | some (.frz xs) => ∀ p, S1 p = none → q (.ref p) (upS S1 p (.lst xs.reverse))
    | none => False
  | _ => False
def negR (x : T) (S : Store) (q : KT) : Prop := match x with
  | .int i => q (.int (-i)) S
  | _ => False
def invR (x : T) (S : Store) (q : KT) : Prop := match x with
  | .int i => q (.int (Builtin.bitNot i)) S
  | _ => False
def eUn (r : T → Store → KT → Prop) (a : ME) : ME := fun τ S q => a τ S fun x S1 => r x S1 q

/-! ### their lifts -/
section
variable {X : Cx} {H0 : Hp} {a b c : Expr} {ta tb tc : ME} {pos : Pos}
theorem je_no {e : Expr} : PE X e (lift X.K H0 eNo) := ⟨fun _ _ _ _ _ _ ⟨_, _, _, _, h, _⟩ => False.elim h⟩
theorem jt_no {e : Expr} : PT X e (liftT X.K H0 mNo) := ⟨fun _ _ _ _ _ _ ⟨_, _, _, _, h, _⟩ => False.elim h⟩
theorem ja_no {e : List Expr} : PA X e (liftA X.K H0 fun _ _ _ => False) := ⟨fun _ _ _ _ _ _ _ ⟨_, _, _, _, h, _⟩ => False.elim h⟩
theorem je_c {v : V} {t : T} (h : PE X a (tC v)) (r : ∀ H, Rep X.K H v t) : PE X a (lift X.K H0 (eC t)) :=
  pe_imp h fun σ H Q ⟨τ, S, q, R, h, f⟩ => f.here R.st (r H) h
theorem je_int {i j} : PE X (.Constant (.int i) j pos) (lift X.K H0 (eC (.int i))) := je_c pe_int fun _ => by simp only [Rep]
theorem je_bl {i j} : PE X (.Constant (.bool i) j pos) (lift X.K H0 (eC (.bl i))) := je_c pe_bl fun _ => by simp only [Rep]
theorem je_non {j} : PE X (.Constant .none j pos) (lift X.K H0 (eC .non)) := je_c pe_non fun _ => by simp only [Rep]
theorem je_str {i j} : PE X (.Constant (.str i) j pos) (lift X.K H0 (eC (.str i))) := je_c pe_str fun _ => by simp only [Rep]
theorem je_var {i : Nat} {x : Str} (hN : X.N[i]? = some x) (hv : Vis X.env.scope x) (hd : (x == ("__debug__" : Str)) = false) (hcd : (x == ("__classdict__" : Str)) = false) : PE X (.Name x pos) (lift X.K H0 (eVar i)) :=
  pe_imp (pe_var hN hv hd hcd) fun σ H Q ⟨τ, S, q, R, h, f⟩ => by
    simp only [eVar] at h
    split at h
    · rename_i t e
      obtain ⟨v, e1, r⟩ := R.env.2 i t e
      exact ⟨v, e1, f.here R.st r h⟩
    · exact h.elim
/-- two values, one behind the other -/
theorem two_lift {r : B2} {rr : R2} {σ : St} {H : Hp} {Q : VK} (h : lift X.K H0 (eOp r ta tb) σ H Q) (k : ∀ x y H Q, liftR X.K r x y H Q → rr x y H Q) : tOp rr (lift X.K H0 ta) (lift X.K H0 tb) σ H Q := by
  obtain ⟨τ, S, q, R, h, f⟩ := h
  exact ⟨τ, S, _, R, h, fun v H1 t S1 k1 s1 r1 q1 => ⟨τ, S1, _, R.next k1 s1, q1, fun w H2 u S2 k2 s2 r2 q2 => k _ _ _ _ ⟨t, u, S2, q, r1.mono k2, r2, s2, q2, f.mono (k1.trans k2)⟩⟩⟩
theorem je_bin {op : Operator} (ha : PE X a (lift X.K H0 ta)) (hb : PE X b (lift X.K H0 tb)) : PE X (.BinOp a op b pos) (lift X.K H0 (eOp (binR op) ta tb)) :=
  pe_imp (pe_op (opm_bin op) ha hb) fun σ H Q h => two_lift h fun _ _ _ _ z => z
theorem je_cmp {op : CmpOp} (hu : X.A.units + 70 < cLine) (ha : PE X a (lift X.K H0 ta)) (hb : PE X b (lift X.K H0 tb)) (hm : behindInMarks op b = false) : PE X (.Compare a [op] [b] pos) (lift X.K H0 (eOp (cmpR op) ta tb)) :=
  pe_imp (pe_cmpR (opm_cmp hu op) ha hb hm) fun σ H Q h => two_lift h fun _ _ _ _ z => z
theorem jt_val_of {e : Expr} {t : TE} {te : ME} (h : PT X e (tTest t)) (k : ∀ σ H Q, lift X.K H0 te σ H Q → t σ H Q) : PT X e (liftT X.K H0 (mVal te)) :=
  pt_imp h fun σ H Q ⟨τ, S, q, R, h, f⟩ => k σ H _ ⟨τ, S, _, R, h, fun v H1 r S1 k1 s1 r1 q1 => by
    cases r <;> first
      | exact False.elim q1
      | skip
    simp only [Rep] at r1
    subst r1
    exact ⟨_, rfl, f _ H1 S1 k1 s1 q1⟩⟩
theorem jt_cmp {op : CmpOp} (hu : X.A.units + 70 < cLine) (ha : PE X a (lift X.K H0 ta)) (hb : PE X b (lift X.K H0 tb)) (hm : behindInMarks op b = false) : PT X (.Compare a [op] [b] pos) (liftT X.K H0 (mVal (eOp (cmpR op) ta tb))) :=
  jt_val_of (pt_cmpR (opm_cmp hu op) ha hb hm) fun σ H Q h => two_lift h fun _ _ _ _ z => z
theorem chain_lift {r r' : B2} {rr rr' : R2} {σ : St} {H : Hp} {Q : VK} (h : lift X.K H0 (eChain r r' ta tb tc) σ H Q) (k : ∀ x y H Q, liftR X.K r x y H Q → rr x y H Q) (k' : ∀ x y H Q, liftR X.K r' x y H Q → rr' x y H Q) :
    tChain rr rr' (lift X.K H0 ta) (lift X.K H0 tb) (lift X.K H0 tc) σ H Q := by
  obtain ⟨τ, S, q, R, h, f⟩ := h
  refine ⟨τ, S, _, R, h, fun v H1 t S1 k1 s1 r1 q1 => ⟨τ, S1, _, R.next k1 s1, q1, fun w H2 u S2 k2 s2 r2 q2 => k _ _ _ _ ⟨t, u, S2, _, r1.mono k2, r2, s2, q2, fun z H3 z' S3 k3 s3 r3 q3 => ?_⟩⟩⟩
  cases z' <;> first
    | exact False.elim q3
    | skip
  rename_i kk
  simp only [Rep] at r3
  subst r3
  refine ⟨kk, rfl, ?_⟩
  cases kk with
  | false => exact f _ H3 _ S3 ((k1.trans k2).trans k3) s3 (by simp only [Rep]) q3
  | true => exact ⟨τ, S3, _, R.next ((k1.trans k2).trans k3) s3, q3, fun w' H4 u' S4 k4 s4 r4 q4 => k' _ _ _ _ ⟨u, u', S4, q, r2.mono (k3.trans k4), r4, s4, q4, f.mono (((k1.trans k2).trans k3).trans k4)⟩⟩
theorem je_chain {op op' : CmpOp} (hu : X.A.units + 70 < cLine) (ha : PE X a (lift X.K H0 ta)) (hb : PE X b (lift X.K H0 tb)) (hc : PE X c (lift X.K H0 tc)) (hm : lastMarks [op, op'] [b, c] = false) :
    PE X (.Compare a [op, op'] [b, c] pos) (lift X.K H0 (eChain (cmpR op) (cmpR op') ta tb tc)) :=
  pe_imp (pe_chain (opm_cmp hu op) (opm_cmp hu op') ha hb hc hm) fun σ H Q h => chain_lift h (fun _ _ _ _ z => z) fun _ _ _ _ z => z
theorem jt_chain {op op' : CmpOp} (hu : X.A.units + 70 < cLine) (ha : PE X a (lift X.K H0 ta)) (hb : PE X b (lift X.K H0 tb)) (hc : PE X c (lift X.K H0 tc)) (hm : lastMarks [op, op'] [b, c] = false) :
    PT X (.Compare a [op, op'] [b, c] pos) (liftT X.K H0 (mVal (eChain (cmpR op) (cmpR op') ta tb tc))) :=
  jt_val_of (pt_chain (opm_cmp hu op) (opm_cmp hu op') ha hb hc hm) fun σ H Q h => chain_lift h (fun _ _ _ _ z => z) fun _ _ _ _ z => z

theorem isEmpty_rep {K : PySem.W.Frag} {H : Hp} {xs : List V} {ts : List T} (r : RepAll K H xs ts) : xs.isEmpty = ts.isEmpty := by
  have := r.len
  cases xs <;> cases ts <;> simp at this ⊢
theorem tru_of {K : PySem.W.Frag} {H : Hp} {S : Store} {x : V} {t : T} {b : Bool} (R : RelS K H S) (r : Rep K H x t) (e : truT S t = some b) : TruV K x H b := by
  cases t with
  | non => simp only [Rep] at r; subst r; simp only [truT, Option.some.injEq] at e; exact e.symm
  | bl => simp only [Rep] at r; subst r; simp only [truT, Option.some.injEq] at e; exact e.symm
  | int => simp only [Rep] at r; subst r; simp only [truT, Option.some.injEq] at e; exact e.symm
  | str y =>
    simp only [Rep] at r; subst r
    simp only [truT] at e
    split at e
    · rename_i hy
      simp only [Option.some.injEq] at e
      exact ⟨len16 hy, e.symm⟩
    · cases e
  | ty => simp [truT] at e
  | scr ns =>
    simp only [Rep] at r
    obtain ⟨a, rfl, ra⟩ := r
    simp only [truT, Option.some.injEq] at e
    exact .inl ⟨ns.map V.int, ra.sqL, by rw [← e]; cases ns <;> rfl⟩
  | tup xs =>
    simp only [Rep] at r
    obtain ⟨a, ws, rfl, sa, ra⟩ := r
    simp only [truT, Option.some.injEq] at e
    exact .inr (.inl ⟨ws, sa, by rw [← e, isEmpty_rep ra]⟩)
  | ref a =>
    simp only [Rep] at r; subst r
    simp only [truT] at e
    split at e
    · rename_i xs hS
      obtain ⟨ws, h1, h2⟩ := R a _ hS
      simp only [Option.some.injEq] at e
      exact .inl ⟨ws, .of h1, by rw [← e, isEmpty_rep h2]⟩
    · rename_i xs hS
      obtain ⟨o, ws, h1, h2⟩ := R a _ hS
      simp only [Option.some.injEq] at e
      exact .inl ⟨ws, .inl (.inr ⟨o, h1⟩), by rw [← e, isEmpty_rep h2]⟩
    · cases e
theorem jt_tru (ha : PE X a (lift X.K H0 ta)) (he : ∀ whole, isTrue a X.env whole = (do let v ← whole; standAt a.pos; holding [v] (truthy v))) : PT X a (liftT X.K H0 (mTru ta)) :=
  pt_imp (pt_truth ha he) fun σ H Q ⟨τ, S, q, R, h, f⟩ => ⟨τ, S, _, R, h, fun v H1 t S1 k1 s1 r1 q1 => by
    split at q1
    · rename_i b e
      exact ⟨b, tru_of s1 r1 e, f _ H1 S1 k1 s1 q1⟩
    · exact q1.elim⟩
theorem je_not (ha : PE X a (lift X.K H0 ta)) : PE X (.UnaryOp .Not a pos) (lift X.K H0 (eNot ta)) :=
  pe_imp (pe_notT ha) fun σ H Q ⟨τ, S, q, R, h, f⟩ => ⟨τ, S, _, R, h, fun v H1 t S1 k1 s1 r1 q1 => by
    split at q1
    · rename_i b e
      exact ⟨b, tru_of s1 r1 e, f _ H1 _ S1 k1 s1 (by simp only [Rep]) q1⟩
    · exact q1.elim⟩
theorem jt_not {m : MT} (ha : PT X a (liftT X.K H0 m)) : PT X (.UnaryOp .Not a pos) (liftT X.K H0 (mNot m)) :=
  pt_imp (pt_not ha) fun σ H Q ⟨τ, S, q, R, h, f⟩ => ⟨τ, S, _, R, h, fun b H1 S1 k1 s1 q1 => f _ H1 S1 k1 s1 q1⟩
theorem je_ifx {m : MT} (hc : PT X c (liftT X.K H0 m)) (ha : PE X a (lift X.K H0 ta)) (hb : PE X b (lift X.K H0 tb)) : PE X (.IfExp c a b pos) (lift X.K H0 (eIf m ta tb)) :=
  pe_imp (pe_ifExp hc ha hb) fun σ H Q ⟨τ, S, q, R, h, f⟩ => ⟨τ, S, _, R, h, fun k H1 S1 k1 s1 q1 => by
    cases k with
    | true => exact ⟨τ, S1, q, R.next k1 s1, q1, f.mono k1⟩
    | false => exact ⟨τ, S1, q, R.next k1 s1, q1, f.mono k1⟩⟩

/-- and, or, as values -/
theorem je_and {re : Expr → ME} : ∀ {es : List Expr}, (∀ e ∈ es, PE X e (lift X.K H0 (re e))) → PE X (.BoolOp .And es pos) (lift X.K H0 (eAnd (es.map re)))
  | [], _ => je_no
  | [a], h => pe_one (h a (by simp))
  | a :: b :: r, h => by
    have ih : PE X (.BoolOp .And (b :: r) pos) (lift X.K H0 (eAnd ((b :: r).map re))) := je_and fun e he => h e (List.mem_cons_of_mem _ he)
    refine pe_imp (pe_andT (h a (by simp)) ih) fun σ H Q ⟨τ, S, q, R, hh, f⟩ => ⟨τ, S, _, R, hh, fun v H1 t S1 k1 s1 r1 q1 => ?_⟩
    split at q1
    · rename_i e
      exact ⟨true, tru_of s1 r1 e, ⟨τ, S1, q, R.next k1 s1, q1, f.mono k1⟩⟩
    · rename_i e
      exact ⟨false, tru_of s1 r1 e, f _ H1 _ S1 k1 s1 r1 q1⟩
    · exact q1.elim
theorem je_or {re : Expr → ME} : ∀ {es : List Expr}, (∀ e ∈ es, PE X e (lift X.K H0 (re e))) → PE X (.BoolOp .Or es pos) (lift X.K H0 (eOr (es.map re)))
  | [], _ => je_no
  | [a], h => pe_one (h a (by simp))
  | a :: b :: r, h => by
    have ih : PE X (.BoolOp .Or (b :: r) pos) (lift X.K H0 (eOr ((b :: r).map re))) := je_or fun e he => h e (List.mem_cons_of_mem _ he)
    refine pe_imp (pe_orT (h a (by simp)) ih) fun σ H Q ⟨τ, S, q, R, hh, f⟩ => ⟨τ, S, _, R, hh, fun v H1 t S1 k1 s1 r1 q1 => ?_⟩
    split at q1
    · rename_i e
      exact ⟨true, tru_of s1 r1 e, f _ H1 _ S1 k1 s1 r1 q1⟩
    · rename_i e
      exact ⟨false, tru_of s1 r1 e, ⟨τ, S1, q, R.next k1 s1, q1, f.mono k1⟩⟩
    · exact q1.elim
/-- .. as tests -/
theorem jt_and {rt : Expr → MT} : ∀ {es : List Expr}, (∀ e ∈ es, PT X e (liftT X.K H0 (rt e))) → PW X (.BoolOp .And es pos) (liftT X.K H0 (mAnd (es.map rt)))
  | [], _ => ⟨fun _ _ _ _ _ _ _ ⟨_, _, _, _, h, _⟩ => False.elim h⟩
  | [a], h => pw_and1 (h a (by simp))
  | a :: b :: r, h => by
    have ih : PW X (.BoolOp .And (b :: r) pos) (liftT X.K H0 (mAnd ((b :: r).map rt))) := jt_and fun e he => h e (List.mem_cons_of_mem _ he)
    have w := pw_and (h a (by simp)) ih
    refine ⟨fun wh pins s σ H Q I ⟨τ, S, q, R, hh, f⟩ => w.run wh pins s σ H Q I ⟨τ, S, _, R, hh, fun k H1 S1 k1 s1 q1 => ?_⟩⟩
    cases k with
    | true => exact ⟨τ, S1, q, R.next k1 s1, q1, fun b' H' S' k' => f b' H' S' (k1.trans k')⟩
    | false => exact f _ H1 S1 k1 s1 q1
theorem jt_or {rt : Expr → MT} : ∀ {es : List Expr}, (∀ e ∈ es, PT X e (liftT X.K H0 (rt e))) → PW X (.BoolOp .Or es pos) (liftT X.K H0 (mOr (es.map rt)))
  | [], _ => ⟨fun _ _ _ _ _ _ _ ⟨_, _, _, _, h, _⟩ => False.elim h⟩
  | [a], h => pw_or1 (h a (by simp))
  | a :: b :: r, h => by
    have ih : PW X (.BoolOp .Or (b :: r) pos) (liftT X.K H0 (mOr ((b :: r).map rt))) := jt_or fun e he => h e (List.mem_cons_of_mem _ he)
    have w := pw_or (h a (by simp)) ih
    refine ⟨fun wh pins s σ H Q I ⟨τ, S, q, R, hh, f⟩ => w.run wh pins s σ H Q I ⟨τ, S, _, R, hh, fun k H1 S1 k1 s1 q1 => ?_⟩⟩
    cases k with
    | true => exact f _ H1 S1 k1 s1 q1
    | false => exact ⟨τ, S1, q, R.next k1 s1, q1, fun b' H' S' k' => f b' H' S' (k1.trans k')⟩

/-! ### arguments, displays -/
variable {e : Expr} {es : List Expr} {te : ME} {tr : MA}
theorem ja_nil : PA X [] (liftA X.K H0 aNil) := pa_imp pa_nil fun σ H Q ⟨τ, S, q, R, h, f⟩ => f _ H _ S (Kept.refl H) R.st RepAll.nil h
theorem ja_cons (ha : PE X e (lift X.K H0 te)) (hr : PA X es (liftA X.K H0 tr)) (hs : starEach (e :: es) X.env = (false, eval e X.env) :: starEach es X.env) : PA X (e :: es) (liftA X.K H0 (aCons te tr)) :=
  pa_imp (pa_cons ha hr hs) fun σ H Q ⟨τ, S, q, R, h, f⟩ => ⟨τ, S, _, R, h, fun v H1 t S1 k1 s1 r1 q1 => ⟨τ, S1, _, R.next k1 s1, q1, fun vs H2 ts S2 k2 s2 r2 q2 => f _ H2 _ S2 (k1.trans k2) s2 (.cons (r1.mono k2) r2) q2⟩⟩
theorem seqOf_ok {K : PySem.W.Frag} {H : Hp} {S : Store} {x : V} {t : T} {ts : List T} (R : RelS K H S) (r : Rep K H x t) (e : seqOf S t = some ts) : ∃ p xs, x = V.ref p ∧ (SqT K H p xs ∨ SqL K H p xs) ∧ RepAll K H xs ts := by
  cases t with
  | scr ns =>
    simp only [Rep] at r
    obtain ⟨a, rfl, ra⟩ := r
    simp only [seqOf, Option.some.injEq] at e
    subst e
    exact ⟨a, _, rfl, .inr ra.sqL, RepAll.of_ints ns⟩
  | tup xs =>
    simp only [Rep] at r
    obtain ⟨a, ws, rfl, sa, ra⟩ := r
    simp only [seqOf, Option.some.injEq] at e
    subst e
    exact ⟨a, ws, rfl, .inl sa, ra⟩
  | ref a =>
    simp only [Rep] at r; subst r
    simp only [seqOf] at e
    split at e
    · rename_i xs hS
      obtain ⟨ws, h1, h2⟩ := R a _ hS
      simp only [Option.some.injEq] at e
      subst e
      exact ⟨a, ws, rfl, .inr (.of h1), h2⟩
    · rename_i xs hS
      obtain ⟨o, ws, h1, h2⟩ := R a _ hS
      simp only [Option.some.injEq] at e
      subst e
      exact ⟨a, ws, rfl, .inr (.inl (.inr ⟨o, h1⟩)), h2⟩
    · cases e
  | _ => simp [seqOf] at e
theorem ja_star {p : Pos} (ha : PE X e (lift X.K H0 te)) (hr : PA X es (liftA X.K H0 tr)) : PA X (.Starred e p :: es) (liftA X.K H0 (aStar te tr)) :=
  pa_imp (StX.pa_star ha hr) fun σ H Q ⟨τ, S, q, R, h, f⟩ => ⟨τ, S, _, R, h, fun v H1 t S1 k1 s1 r1 q1 => by
    split at q1
    · rename_i xs ex
      obtain ⟨pp, ws, rfl, hs, ra⟩ := seqOf_ok s1 r1 ex
      exact ⟨pp, ws, rfl, hs, τ, S1, _, R.next k1 s1, q1, fun vs H2 ts S2 k2 s2 r2 q2 => f _ H2 _ S2 (k1.trans k2) s2 ((ra.mono k2).append r2) q2⟩
    · exact q1.elim⟩
theorem je_tup {k : Nat} (h : PA X es (liftA X.K H0 tr)) : PE X (.Tuple es k pos) (lift X.K H0 (eTup tr)) :=
  pe_imp (pe_tup h) fun σ H Q ⟨τ, S, q, R, h, f⟩ => ⟨τ, S, _, R, h, fun vs H1 ts S1 k1 s1 r1 q1 => ⟨by rw [r1.len]; exact len16 q1.1, fun p hp => (f.mono k1).newT s1 r1 q1.2 hp⟩⟩
theorem je_lst (h : PA X es (liftA X.K H0 tr)) : PE X (.List es pos) (lift X.K H0 (eLst tr)) :=
  pe_imp (pe_lst h) fun σ H Q ⟨τ, S, q, R, h, f⟩ => ⟨τ, S, _, R, h, fun vs H1 ts S1 k1 s1 r1 q1 => ⟨by rw [r1.len]; exact len16 q1.1, fun p hp => (f.mono k1).newL s1 r1 q1.2 hp⟩⟩

/-! ### subscripts -/
theorem atI_rep {K : PySem.W.Frag} {H : Hp} {xs : List V} {ts : List T} {i : Int} {t : T} (r : RepAll K H xs ts) (e : atI ts i = some t) : ∃ v, atI xs i = some v ∧ Rep K H v t := by
  unfold atI at e ⊢
  rw [r.len]
  cases h : ixN ts.length i with
  | none => rw [h] at e; cases e
  | some j => rw [h] at e; exact r.get e
theorem ixm : IxR X (liftR X.K ixR) := by
  intro value slice pins s σ H x y v u Q I rx ry ⟨t, t', S, q, hx, hy, R, h, fi⟩ hs
  simp only [ixR] at h
  split at h
  · rename_i xs i ex
    split at h
    · rename_i t1 e1
      obtain ⟨p, ws, rfl, hq, ra⟩ := seqOf_ok R hx ex
      obtain ⟨w', e2, rw'⟩ := atI_rep ra e1
      simp only [Rep] at hy
      subst hy
      rcases hq with hq | hq
      · exact ix_tup value slice pins s σ H _ _ v u Q I rx ry ⟨p, ws, i, w', rfl, rfl, hq, e2, fi.here R rw' h⟩ hs
      · exact ix_list value slice pins s σ H _ _ v u Q I rx ry ⟨p, ws, i, w', rfl, rfl, hq, e2, fi.here R rw' h⟩ hs
    · exact h.elim
  · exact h.elim
theorem je_ix (ha : PE X a (lift X.K H0 ta)) (hb : PE X b (lift X.K H0 tb)) (hs : PlainIx b) : PE X (.Subscript a b pos) (lift X.K H0 (eOp ixR ta tb)) :=
  pe_imp (pe_ix ixm ha hb hs) fun σ H Q h => two_lift h fun _ _ _ _ z => z
def liftO (K : PySem.W.Frag) (H0 : Hp) (t : Env' → Store → (Option Int → Store → Prop) → Prop) : TO := fun σ H Q => ∃ τ S q, Rel K H0 H σ τ S ∧ t τ S q ∧ ∀ o H' S', Kept H H' → RelS K H' S' → q o S' → Q o H'
theorem jo_none : PO X none (liftO X.K H0 oNo) := ⟨fun pins s σ H Q I ⟨τ, S, q, R, h, f⟩ => po_none.run pins s σ H Q I (f _ H S (Kept.refl H) R.st h)⟩
theorem jo_some (ha : PE X a (lift X.K H0 ta)) : PO X (some a) (liftO X.K H0 (oSome ta)) := ⟨fun pins s σ H Q I ⟨τ, S, q, R, h, f⟩ => (po_some ha).run pins s σ H Q I ⟨τ, S, _, R, h, fun v H1 t S1 k1 s1 r1 q1 => by
  cases t <;> first
    | exact False.elim q1
    | skip
  simp only [Rep] at r1
  subst r1
  exact ⟨_, rfl, f _ H1 S1 k1 s1 q1⟩⟩⟩
theorem cut_rep {K : PySem.W.Frag} {H : Hp} {xs : List V} {ts : List T} (r : RepAll K H xs ts) (lo hi : Option Int) : RepAll K H (cutV xs lo hi) (cutT ts lo hi) := by
  unfold cutV cutT
  rw [r.len]
  exact (r.drop _).take _
theorem cut_whole {ts : List T} {lo hi : Option Int} (h : HT.sIx ts.length 0 lo = 0 ∧ HT.sIx ts.length ts.length hi = ts.length) : cutT ts lo hi = ts := by
  unfold cutT
  rw [h.1, h.2]
  simp
def rCutM (K : PySem.W.Frag) : V → Option Int → Option Int → Hp → VK → Prop := fun x lo hi H Q => ∃ t S q, Rep K H x t ∧ RelS K H S ∧ cutR t lo hi S q ∧ Fin K H q Q
theorem slm : SlR X (rCutM X.K) := by
  intro pins s σ H x v vl vu lo hi sl Q I rx hs pl pu ⟨t, S, q, hx, R, h, fi⟩
  cases t with
  | tup ts =>
    simp only [Rep] at hx
    obtain ⟨a, ws, rfl, sa, ra⟩ := hx
    have h : q (.tup (cutT ts lo hi)) S := h
    refine sl_tupA pins s σ H _ v vl vu lo hi sl Q I rx hs pl pu ⟨a, ws, rfl, sa, fun e => ?_, fun e p hp => ?_⟩
    · rw [ra.len] at e
      rw [cut_whole e] at h
      exact fi.here R (by simp only [Rep]; exact ⟨a, ws, rfl, sa, ra⟩) h
    · exact fi.newT R (cut_rep ra lo hi) h hp
  | ref a =>
    simp only [Rep] at hx
    subst hx
    simp only [cutR] at h
    split at h
    · rename_i xs hS
      obtain ⟨ws, h1, h2⟩ := R a _ hS
      exact sl_list pins s σ H _ v vl vu lo hi sl Q I rx hs pl pu ⟨a, ws, rfl, .of h1, fun p hp => fi.newL R (cut_rep h2 lo hi) h hp⟩
    · rename_i xs hS
      obtain ⟨o, ws, h1, h2⟩ := R a _ hS
      exact sl_list pins s σ H _ v vl vu lo hi sl Q I rx hs pl pu ⟨a, ws, rfl, .inl (.inr ⟨o, h1⟩), fun p hp => fi.newL R (cut_rep h2 lo hi) h hp⟩
    · exact h.elim
  | _ => exact False.elim h
theorem je_cut {lo hi : Option Expr} {tl th : Env' → Store → (Option Int → Store → Prop) → Prop} {p2 : Pos} (ha : PE X a (lift X.K H0 ta)) (hl : PO X lo (liftO X.K H0 tl)) (hh : PO X hi (liftO X.K H0 th)) :
    PE X (.Subscript a (.Slice lo hi none p2) pos) (lift X.K H0 (eCut ta tl th)) :=
  pe_imp (pe_slice slm ha hl hh) fun σ H Q ⟨τ, S, q, R, h, f⟩ => ⟨τ, S, _, R, h, fun v H1 t S1 k1 s1 r1 q1 => ⟨τ, S1, _, R.next k1 s1, q1, fun l H2 S2 k2 s2 q2 => ⟨τ, S2, _, R.next (k1.trans k2) s2, q2, fun u H3 S3 k3 s3 q3 =>
    ⟨t, S3, q, r1.mono (k2.trans k3), s3, q3, f.mono ((k1.trans k2).trans k3)⟩⟩⟩⟩
theorem rev_rep {K : PySem.W.Frag} {H : Hp} : ∀ {xs : List V} {ts : List T}, RepAll K H xs ts → RepAll K H xs.reverse ts.reverse
  | [], [], _ => RepAll.nil
  | [], _ :: _, h => by simp only [RepAll] at h
  | _ :: _, [], h => by simp only [RepAll] at h
  | x :: xs, t :: ts, h => by
    simp only [RepAll] at h
    rw [List.reverse_cons, List.reverse_cons]
    exact (rev_rep h.2).append (.cons h.1 .nil)
theorem je_rev {k : Nat} {p1 p2 p3 : Pos} (ha : PE X a (lift X.K H0 ta)) : PE X (.Subscript a (.Slice none none (some (.UnaryOp .USub (.Constant (.int 1) k p1) p2)) p3) pos) (lift X.K H0 (eRev ta)) :=
  pe_imp (pe_revL ha) fun σ H Q ⟨τ, S, q, R, h, f⟩ => ⟨τ, S, _, R, h, fun v H1 t S1 k1 s1 r1 q1 => by
    cases t <;> first
      | exact False.elim q1
      | skip
    rename_i ad
    simp only [Rep] at r1
    subst r1
    simp only at q1
    split at q1
    · rename_i xs hS
      obtain ⟨ws, h1, h2⟩ := s1 _ _ hS
      exact ⟨_, ws, rfl, .of h1, fun p hp => (f.mono k1).newL s1 (rev_rep h2) q1 hp⟩
    · rename_i xs hS
      obtain ⟨o, ws, h1, h2⟩ := s1 _ _ hS
      exact ⟨_, ws, rfl, .inl (.inr ⟨o, h1⟩), fun p hp => (f.mono k1).newL s1 (rev_rep h2) q1 hp⟩
    · exact q1.elim⟩
theorem je_neg (ha : PE X a (lift X.K H0 ta)) : PE X (.UnaryOp .USub a pos) (lift X.K H0 (eUn negR ta)) :=
  pe_imp (pe_un un_neg ha) fun σ H Q ⟨τ, S, q, R, h, f⟩ => ⟨τ, S, _, R, h, fun v H1 t S1 k1 s1 r1 q1 => by
    cases t <;> first
      | exact False.elim q1
      | skip
    simp only [Rep] at r1
    exact ⟨_, r1, f _ H1 _ S1 k1 s1 (by simp only [Rep]) q1⟩⟩
theorem je_inv (ha : PE X a (lift X.K H0 ta)) : PE X (.UnaryOp .Invert a pos) (lift X.K H0 (eUn invR ta)) :=
  pe_imp (pe_un un_inv ha) fun σ H Q ⟨τ, S, q, R, h, f⟩ => ⟨τ, S, _, R, h, fun v H1 t S1 k1 s1 r1 q1 => by
    cases t <;> first
      | exact False.elim q1
      | skip
    simp only [Rep] at r1
    exact ⟨_, r1, f _ H1 _ S1 k1 s1 (by simp only [Rep]) q1⟩⟩
end
end M
set_option Elab.async false
set_option maxRecDepth 100000
set_option linter.unusedVariables false
set_option maxHeartbeats 1000000
/-! Layer M, part D: calls of built-ins. -/
namespace M
open PySem PySem.Spec PyProof.Rows L2

inductive Bi where
  | len | all | any | isi | abs | max | min | sum | repr | tup | lst | int | bool
  deriving DecidableEq
def boolsOf : List T → Option (List Bool)
  | [] => some []
  | .bl b :: r => (boolsOf r).map (b :: ·)
  | _ :: _ => none
def intsOf : List T → Option (List Int)
  | [] => some []
  | .int i :: r => (intsOf r).map (i :: ·)
  | _ :: _ => none
theorem boolsOf_map (bs : List Bool) : boolsOf (bs.map T.bl) = some bs := by
  induction bs with
  | nil => rfl
  | cons b r ih => simp [boolsOf, ih]
theorem intsOf_map (bs : List Int) : intsOf (bs.map T.int) = some bs := by
  induction bs with
  | nil => rfl
  | cons b r ih => simp [intsOf, ih]
theorem boolsOf_eq : ∀ {ts : List T} {bs : List Bool}, boolsOf ts = some bs → ts = bs.map T.bl
  | [], bs, e => by simp only [boolsOf, Option.some.injEq] at e; subst e; rfl
  | .bl b :: r, bs, e => by
    simp only [boolsOf] at e
    cases h : boolsOf r with
    | none => rw [h] at e; cases e
    | some cs => rw [h] at e; cases e; rw [boolsOf_eq h]; rfl
  | .non :: _, _, e => by simp [boolsOf] at e
  | .int _ :: _, _, e => by simp [boolsOf] at e
  | .str _ :: _, _, e => by simp [boolsOf] at e
  | .tup _ :: _, _, e => by simp [boolsOf] at e
  | .ref _ :: _, _, e => by simp [boolsOf] at e
  | .ty _ :: _, _, e => by simp [boolsOf] at e
  | .scr _ :: _, _, e => by simp [boolsOf] at e
theorem intsOf_eq : ∀ {ts : List T} {bs : List Int}, intsOf ts = some bs → ts = bs.map T.int
  | [], bs, e => by simp only [intsOf, Option.some.injEq] at e; subst e; rfl
  | .int b :: r, bs, e => by
    simp only [intsOf] at e
    cases h : intsOf r with
    | none => rw [h] at e; cases e
    | some cs => rw [h] at e; cases e; rw [intsOf_eq h]; rfl
  | .non :: _, _, e => by simp [intsOf] at e
  | .bl _ :: _, _, e => by simp [intsOf] at e
  | .str _ :: _, _, e => by simp [intsOf] at e
  | .tup _ :: _, _, e => by simp [intsOf] at e
  | .ref _ :: _, _, e => by simp [intsOf] at e
  | .ty _ :: _, _, e => by simp [intsOf] at e
  | .scr _ :: _, _, e => by simp [intsOf] at e
/-- the name of a value's type -/
def tyName (S : Store) : T → Option String
  | .non => some "NoneType" | .bl _ => some "bool" | .int _ => some "int" | .str _ => some "str" | .tup _ => some "tuple"
  | .ref a => match S a with
    | some (.lst _) => some "list"
    | some (.frz _) => some "list"
    | none => none
  | .ty _ => none
  | .scr _ => none
def tyNames : List String := ["NoneType", "bool", "int", "str", "tuple", "list", "dict"]
def isaR (a n : String) : Option Bool := if a ∈ tyNames ∧ n ∈ tyNames then some (a == n || (a == "bool" && n == "int")) else none
abbrev C2 := List T → Store → KT → Prop
def lenR : C2 := fun xs S q => match xs with
  | [.str y] => y.length ≤ 16000000 ∧ q (.int y.length) S
  | [x] => match seqOf S x with
    | some ys => q (.int ys.length) S
    | none => False
  | _ => False
def lstOf (S : Store) : T → Option (List T)
  | .ref a => match S a with
    | some (.lst xs) => some xs
    | some (.frz xs) => some xs
    | none => none
  | _ => none
def allR : C2 := fun xs S q => match xs with
  | [x] => match (lstOf S x).bind boolsOf with
    | some bs => q (.bl (bs.all id)) S
    | none => False
  | _ => False
def anyR : C2 := fun xs S q => match xs with
  | [x] => match (lstOf S x).bind boolsOf with
    | some bs => q (.bl (bs.any id)) S
    | none => False
  | _ => False
def isiR : C2 := fun xs S q => match xs with
  | [x, .ty n] => match (tyName S x).bind fun a => isaR a n with
    | some b => q (.bl b) S
    | none => False
  | _ => False
def absR : C2 := fun xs S q => match xs with
  | [.int i] => q (.int (if i < 0 then -i else i)) S
  | _ => False
def maxR : C2 := fun xs S q => match xs with
  | [.int i, .int j] => q (.int (if j > i then j else i)) S
  | [x] => match (lstOf S x).bind intsOf with
    | some ns => 0 < ns.length ∧ ∀ m, m ∈ ns → (∀ y, y ∈ ns → y ≤ m) → q (.int m) S
    | none => False
  | _ => False
def minR : C2 := fun xs S q => match xs with
  | [.int i, .int j] => q (.int (if j < i then j else i)) S
  | [x] => match (lstOf S x).bind intsOf with
    | some ns => 0 < ns.length ∧ ∀ m, m ∈ ns → (∀ y, y ∈ ns → m ≤ y) → q (.int m) S
    | none => False
  | _ => False
def sumR : C2 := fun xs S q => match xs with
  | [x] => match (lstOf S x).bind intsOf with
    | some ns => q (.int ns.sum) S
    | none => False
  | _ => False
def reprR : C2 := fun xs S q => match xs with
  | [x] => match dOf S 64 x with
    | some d => (d.showable = true ∧ d.shown.length ≤ 16000000) ∧ q (.str d.shown) S
    | none => False
  | _ => False
def tupR : C2 := fun xs S q => match xs with
  | [x] => match seqOf S x with
    | some ys => q (.tup ys) S
    | none => False
  | _ => False
def lsR : C2 := fun xs S q => match xs with
  | [x] => match seqOf S x with
    | some ys => ∀ p, S p = none → q (.ref p) (upS S p (.lst ys))
    | none => False
  | _ => False
def intR : C2 := fun xs S q => match xs with
  | [.int i] => q (.int i) S
  | [.bl k] => q (.int (if k then 1 else 0)) S
  | _ => False
def booR : C2 := fun xs S q => match xs with
  | [.int i] => q (.bl (i != 0)) S
  | [.bl k] => q (.bl k) S
  | _ => False
def biR : Bi → C2
  | .len => lenR | .all => allR | .any => anyR | .isi => isiR | .abs => absR | .max => maxR | .min => minR | .sum => sumR | .repr => reprR | .tup => tupR | .lst => lsR | .int => intR | .bool => booR
def biV : Bi → Value
  | .len => .builtin "len" | .all => .builtin "all" | .any => .builtin "any" | .isi => .builtin "isinstance" | .abs => .builtin "abs" | .max => .builtin "max" | .min => .builtin "min" | .sum => .builtin "sum"
  | .repr => .builtin "repr" | .tup => .type "tuple" | .lst => .type "list" | .int => .type "int" | .bool => .type "bool"
def biN : Bi → Str
  | .len => "len" | .all => "all" | .any => "any" | .isi => "isinstance" | .abs => "abs" | .max => "max" | .min => "min" | .sum => "sum" | .repr => "repr" | .tup => "tuple" | .lst => "list" | .int => "int" | .bool => "bool"
def biAll : List Bi := [.len, .all, .any, .isi, .abs, .max, .min, .sum, .repr, .tup, .lst, .int, .bool]
def biOf (x : Str) : Option Bi := biAll.find? fun b => decide (biN b = x)
theorem biOf_ok {x : Str} {b : Bi} (h : biOf x = some b) : x = biN b := by
  have := List.find?_some (p := fun b => decide (biN b = x)) h
  exact (of_decide_eq_true this).symm
theorem bi_boot (b : Bi) : bootBuiltins (biN b) = some (biV b) := by cases b <;> decide +kernel
theorem bi_nn (b : Bi) : biN b ≠ "__name__" := by cases b <;> decide +kernel
theorem bi_nd (b : Bi) : (biN b == ("__debug__" : Str)) = false := by cases b <;> decide +kernel

def liftC (K : PySem.W.Frag) (r : C2) : List V → Hp → VK → Prop := fun vs H Q => ∃ ts S q, RepAll K H vs ts ∧ RelS K H S ∧ r ts S q ∧ M.Fin K H q Q
section
variable {X : Cx}
theorem one_inv {K : PySem.W.Frag} {H : Hp} {vs : List V} {t : T} (h : RepAll K H vs [t]) : ∃ v, vs = [v] ∧ Rep K H v t := by
  obtain ⟨v, r, rfl, h1, h2⟩ := h.cons_inv
  obtain rfl := h2.nil_inv
  exact ⟨v, rfl, h1⟩
theorem two_inv {K : PySem.W.Frag} {H : Hp} {vs : List V} {t u : T} (h : RepAll K H vs [t, u]) : ∃ v w, vs = [v, w] ∧ Rep K H v t ∧ Rep K H w u := by
  obtain ⟨v, r, rfl, h1, h2⟩ := h.cons_inv
  obtain ⟨w, rfl, h3⟩ := one_inv h2
  exact ⟨v, w, rfl, h1, h3⟩
theorem lstOf_ok {K : PySem.W.Frag} {H : Hp} {S : Store} {x : V} {t : T} {ts : List T} (R : RelS K H S) (r : Rep K H x t) (e : lstOf S t = some ts) : ∃ p xs, x = V.ref p ∧ SqL K H p xs ∧ RepAll K H xs ts := by
  cases t <;> first
    | (simp [lstOf] at e; done)
    | skip
  simp only [Rep] at r; subst r
  simp only [lstOf] at e
  split at e
  · rename_i xs hS
    obtain ⟨ws, h1, h2⟩ := R _ _ hS
    simp only [Option.some.injEq] at e
    subst e
    exact ⟨_, ws, rfl, .of h1, h2⟩
  · rename_i xs hS
    obtain ⟨o, ws, h1, h2⟩ := R _ _ hS
    simp only [Option.some.injEq] at e
    subst e
    exact ⟨_, ws, rfl, .inl (.inr ⟨o, h1⟩), h2⟩
  · cases e
theorem lst_ints {K : PySem.W.Frag} {H : Hp} {S : Store} {x : V} {t : T} {ns : List Int} (R : RelS K H S) (r : Rep K H x t) (e : (lstOf S t).bind intsOf = some ns) : ∃ p, x = V.ref p ∧ SqL K H p (ns.map V.int) := by
  cases h : lstOf S t with
  | none => rw [h] at e; cases e
  | some ts =>
    rw [h] at e
    obtain ⟨p, xs, rfl, hs, hr⟩ := lstOf_ok R r h
    have e2 := intsOf_eq e
    subst e2
    have e3 := hr.ints_of
    subst e3
    exact ⟨p, rfl, hs⟩
theorem lst_bools {K : PySem.W.Frag} {H : Hp} {S : Store} {x : V} {t : T} {ns : List Bool} (R : RelS K H S) (r : Rep K H x t) (e : (lstOf S t).bind boolsOf = some ns) : ∃ p, x = V.ref p ∧ SqL K H p (ns.map V.bl) := by
  cases h : lstOf S t with
  | none => rw [h] at e; cases e
  | some ts =>
    rw [h] at e
    obtain ⟨p, xs, rfl, hs, hr⟩ := lstOf_ok R r h
    have e2 := boolsOf_eq e
    subst e2
    have e3 := hr.bls_of
    subst e3
    exact ⟨p, rfl, hs⟩
theorem cm_len : CallR X (.builtin "len") (liftC X.K lenR) := by
  intro pins s σ H vs us Q I r ⟨ts, S, q, hr, R, h, f⟩
  cases ts with
  | nil => exact False.elim h
  | cons t ts =>
    cases ts with
    | cons => cases t <;> exact False.elim h
    | nil =>
      obtain ⟨v, rfl, hv⟩ := one_inv hr
      have go : (∃ ys, seqOf S t = some ys ∧ q (.int ys.length) S) → wpAny (model X.prog X.w) X.A (call (.builtin "len") us) (EP X pins σ Q) X.xe s := fun ⟨ys, e, h⟩ => by
        obtain ⟨p, xs, rfl, hs, ha⟩ := seqOf_ok R hv e
        exact call_len_seq pins s σ H _ us Q I r ⟨p, xs, rfl, hs.symm, f.here R (by rw [ha.len]; simp only [Rep]) h⟩
      cases t with
      | str y =>
        obtain ⟨h1, h2⟩ := h
        simp only [Rep] at hv
        subst hv
        exact call_len_str pins s σ H _ us Q I r ⟨y, rfl, len16 h1, f.here R (by simp only [Rep]) h2⟩
      | tup xs => exact go ⟨xs, rfl, h⟩
      | scr xs => exact go ⟨_, rfl, h⟩
      | ref a =>
        simp only [lenR] at h
        split at h
        · rename_i ys e
          exact go ⟨ys, e, h⟩
        · exact h.elim
      | _ => exact False.elim h
theorem cm_all (hc : X.calm = true) : CallR X (.builtin "all") (liftC X.K allR) := by
  intro pins s σ H vs us Q I r ⟨ts, S, q, hr, R, h, f⟩
  simp only [allR] at h
  split at h
  · obtain ⟨v, rfl, hv⟩ := one_inv hr
    split at h
    · rename_i bs e
      obtain ⟨p, rfl, hs⟩ := lst_bools R hv e
      exact cr_all hc pins s σ H _ us Q I r ⟨p, bs, rfl, hs, f.here R (by simp only [Rep]) h⟩
    · exact h.elim
  · exact h.elim
theorem cm_any (hc : X.calm = true) : CallR X (.builtin "any") (liftC X.K anyR) := by
  intro pins s σ H vs us Q I r ⟨ts, S, q, hr, R, h, f⟩
  simp only [anyR] at h
  split at h
  · obtain ⟨v, rfl, hv⟩ := one_inv hr
    split at h
    · rename_i bs e
      obtain ⟨p, rfl, hs⟩ := lst_bools R hv e
      exact cr_any hc pins s σ H _ us Q I r ⟨p, bs, rfl, hs, f.here R (by simp only [Rep]) h⟩
    · exact h.elim
  · exact h.elim
theorem isa_kit {K : PySem.W.Frag} {a n : String} {b : Bool} (h : isaR a n = some b) : PySem.W.kitOne K (.type a) (.type n) = some b := by
  have all : (tyNames.all fun a => tyNames.all fun n => decide (kitB a n = some (a == n || (a == "bool" && n == "int")))) = true := by decide +kernel
  unfold isaR at h
  split at h
  · rename_i hm
    simp only [Option.some.injEq] at h
    subst h
    rw [List.all_eq_true] at all
    have h1 := all a hm.1
    rw [List.all_eq_true] at h1
    exact kit_ty (of_decide_eq_true (h1 n hm.2))
  · cases h
theorem tyX_of {K : PySem.W.Frag} {H : Hp} {S : Store} {x : V} {t : T} {a : String} (R : RelS K H S) (r : Rep K H x t) (e : tyName S t = some a) : TyX K H x (.type a) := by
  cases t with
  | non => simp only [Rep] at r; subst r; simp only [tyName, Option.some.injEq] at e; subst e; exact .base .non
  | bl b => simp only [Rep] at r; subst r; simp only [tyName, Option.some.injEq] at e; subst e; exact .base (.bl b)
  | int b => simp only [Rep] at r; subst r; simp only [tyName, Option.some.injEq] at e; subst e; exact .base (.int b)
  | str b => simp only [Rep] at r; subst r; simp only [tyName, Option.some.injEq] at e; subst e; exact .base (.str b)
  | ty b => simp [tyName] at e
  | scr b => simp [tyName] at e
  | tup xs =>
    simp only [Rep] at r
    obtain ⟨p, ws, rfl, sa, ra⟩ := r
    simp only [tyName, Option.some.injEq] at e; subst e
    rcases sa with (h | ⟨o, h⟩) | ⟨o, its, n, h1, h2, h3, _⟩
    · exact .base (.tup h)
    · exact .fTuple h
    · exact .kTuple h1 h2
  | ref p =>
    simp only [Rep] at r; subst r
    simp only [tyName] at e
    split at e
    · rename_i xs hS
      obtain ⟨ws, h1, h2⟩ := R _ _ hS
      simp only [Option.some.injEq] at e; subst e
      exact .base (.lst h1)
    · rename_i xs hS
      obtain ⟨o, ws, h1, h2⟩ := R _ _ hS
      simp only [Option.some.injEq] at e; subst e
      exact .base (.frz h1)
    · cases e
theorem cm_isi : CallR X (.builtin "isinstance") (liftC X.K isiR) := by
  intro pins s σ H vs us Q I r ⟨ts, S, q, hr, R, h, f⟩
  simp only [isiR] at h
  split at h
  · rename_i x n
    obtain ⟨v, w, rfl, hv, hw⟩ := two_inv hr
    split at h
    · rename_i b e
      cases e1 : tyName S x with
      | none => rw [e1] at e; cases e
      | some a =>
        rw [e1] at e
        simp only [Rep] at hw
        subst hw
        exact call_isi pins s σ H _ us Q I r ⟨v, .ty n, .type a, .type n, b, rfl, .ty n, tyX_of R hv e1, isa_kit e, f.here R (by simp only [Rep]) h⟩
    · exact h.elim
  · exact h.elim
theorem cm_abs : CallR X (.builtin "abs") (liftC X.K absR) := by
  intro pins s σ H vs us Q I r ⟨ts, S, q, hr, R, h, f⟩
  simp only [absR] at h
  split at h
  · obtain ⟨v, rfl, hv⟩ := one_inv hr
    simp only [Rep] at hv
    subst hv
    exact call_abs pins s σ H _ us Q I r ⟨_, rfl, f.here R (by simp only [Rep]) h⟩
  · exact h.elim
theorem cm_max (hc : X.calm = true) : CallR X (.builtin "max") (liftC X.K maxR) := by
  intro pins s σ H vs us Q I r ⟨ts, S, q, hr, R, h, f⟩
  simp only [maxR] at h
  split at h
  · obtain ⟨v, w, rfl, hv, hw⟩ := two_inv hr
    simp only [Rep] at hv hw
    subst hv hw
    exact call_max2 hc pins s σ H _ us Q I r ⟨_, _, rfl, f.here R (by simp only [Rep]) h⟩
  · obtain ⟨v, rfl, hv⟩ := one_inv hr
    split at h
    · rename_i ns e
      obtain ⟨p, rfl, hs⟩ := lst_ints R hv e
      exact cr_max hc pins s σ H _ us Q I r ⟨p, ns, rfl, hs, h.1, fun m h1 h2 => f.here R (by simp only [Rep]) (h.2 m h1 h2)⟩
    · exact h.elim
  · exact h.elim
theorem cm_min (hc : X.calm = true) : CallR X (.builtin "min") (liftC X.K minR) := by
  intro pins s σ H vs us Q I r ⟨ts, S, q, hr, R, h, f⟩
  simp only [minR] at h
  split at h
  · obtain ⟨v, w, rfl, hv, hw⟩ := two_inv hr
    simp only [Rep] at hv hw
    subst hv hw
    exact call_min2 hc pins s σ H _ us Q I r ⟨_, _, rfl, f.here R (by simp only [Rep]) h⟩
  · obtain ⟨v, rfl, hv⟩ := one_inv hr
    split at h
    · rename_i ns e
      obtain ⟨p, rfl, hs⟩ := lst_ints R hv e
      exact cr_min hc pins s σ H _ us Q I r ⟨p, ns, rfl, hs, h.1, fun m h1 h2 => f.here R (by simp only [Rep]) (h.2 m h1 h2)⟩
    · exact h.elim
  · exact h.elim
theorem cm_sum (hc : X.calm = true) : CallR X (.builtin "sum") (liftC X.K sumR) := by
  intro pins s σ H vs us Q I r ⟨ts, S, q, hr, R, h, f⟩
  simp only [sumR] at h
  split at h
  · obtain ⟨v, rfl, hv⟩ := one_inv hr
    split at h
    · rename_i bs e
      obtain ⟨p, rfl, hs⟩ := lst_ints R hv e
      exact cr_sum hc pins s σ H _ us Q I r ⟨p, bs, rfl, hs, f.here R (by simp only [Rep]) h⟩
    · exact h.elim
  · exact h.elim
theorem cm_repr (hg : X.A.guards = some []) (hu : X.A.units + 70 < cLine) : CallR X (.builtin "repr") (liftC X.K reprR) := by
  intro pins s σ H vs us Q I r ⟨ts, S, q, hr, R, h, f⟩
  simp only [reprR] at h
  split at h
  · rename_i x
    obtain ⟨v, rfl, hv⟩ := one_inv hr
    split at h
    · rename_i d e
      obtain ⟨⟨h1, h2⟩, h3⟩ := h
      obtain ⟨a1, a2, a3⟩ := dOf_ok R 64 x v d e hv
      obtain ⟨u, rfl, ru⟩ := vals1 r
      have hd : d.hasDict = false := PyData.hasDict_of_canLay d a2
      have fin : Q (.str d.shown) H := f.here R (by simp only [Rep]) h3
      cases a1 with
      | non => cases ru; exact PySem.P.repr_of_none ⟨.str _, H, I.tok _, ⟨_, rfl⟩, by simpa only [PyData.shown] using fin⟩
      | bl b => cases ru; exact PySem.P.repr_of_bool ⟨.str _, H, I.tok _, ⟨_, rfl⟩, by simpa only [PyData.shown] using fin⟩
      | int i =>
        obtain ⟨t, rfl⟩ := ru
        exact PySem.P.repr_of_int (by simpa only [PyData.showable, decide_eq_true_eq] using h1) ⟨.str _, H, I.tok _, ⟨_, rfl⟩, by simpa only [PyData.shown] using fin⟩
      | str i =>
        obtain ⟨t, rfl⟩ := ru
        exact PySem.P.repr_of_str ⟨.str _, H, I.tok _, ⟨_, rfl⟩, by simpa only [PyData.shown] using fin⟩ (by simpa only [PyData.shown] using len16 h2)
      | lst hs ha =>
        cases ru
        obtain ⟨as, rd⟩ := Dp.reads I _ _ _ (.lst hs ha) rfl
        exact repr_of_reads' rd h1 (PyData.noDict_hsm hd) hg (by omega) (fun _ _ e => e) (fun h' u tk hk => ⟨.str _, H, I.kept hk, ⟨_, rfl⟩, fin⟩) (len16 h2)
      | tup hs ha =>
        cases ru
        obtain ⟨as, rd⟩ := Dp.reads I _ _ _ (.tup hs ha) rfl
        exact repr_of_reads' rd h1 (PyData.noDict_hsm hd) hg (by omega) (fun _ _ e => e) (fun h' u tk hk => ⟨.str _, H, I.kept hk, ⟨_, rfl⟩, fin⟩) (len16 h2)
    · exact h.elim
  · exact h.elim
theorem cm_tup : CallR X (.type "tuple") (liftC X.K tupR) := by
  intro pins s σ H vs us Q I r ⟨ts, S, q, hr, R, h, f⟩
  simp only [tupR] at h
  split at h
  · obtain ⟨v, rfl, hv⟩ := one_inv hr
    split at h
    · rename_i ys e
      obtain ⟨p, xs, rfl, hs | hs, ha⟩ := seqOf_ok R hv e
      · exact call_tuple_of pins s σ H _ us Q I r ⟨p, xs, rfl, .inr ⟨hs, f.here R (by simp only [Rep]; exact ⟨p, xs, rfl, hs, ha⟩) h⟩⟩
      · exact call_tuple_of pins s σ H _ us Q I r ⟨p, xs, rfl, .inl ⟨hs, fun l hl => f.newT R ha h hl⟩⟩
    · exact h.elim
  · exact h.elim
theorem cm_lst : CallR X (.type "list") (liftC X.K lsR) := by
  intro pins s σ H vs us Q I r ⟨ts, S, q, hr, R, h, f⟩
  simp only [lsR] at h
  split at h
  · obtain ⟨v, rfl, hv⟩ := one_inv hr
    split at h
    · rename_i ys e
      obtain ⟨p, xs, rfl, hs, ha⟩ := seqOf_ok R hv e
      exact call_list_of pins s σ H _ us Q I r ⟨p, xs, rfl, hs.symm, fun l hl => f.newL R ha h hl⟩
    · exact h.elim
  · exact h.elim
theorem cm_int : CallR X (.type "int") (liftC X.K intR) := by
  intro pins s σ H vs us Q I r ⟨ts, S, q, hr, R, h, f⟩
  simp only [intR] at h
  split at h
  · obtain ⟨v, rfl, hv⟩ := one_inv hr
    simp only [Rep] at hv
    subst hv
    exact call_int1 pins s σ H _ us Q I r (.inl ⟨_, rfl, f.here R (by simp only [Rep]) h⟩)
  · obtain ⟨v, rfl, hv⟩ := one_inv hr
    simp only [Rep] at hv
    subst hv
    exact call_int1 pins s σ H _ us Q I r (.inr ⟨_, rfl, f.here R (by simp only [Rep]) h⟩)
  · exact h.elim
theorem cm_bool : CallR X (.type "bool") (liftC X.K booR) := by
  intro pins s σ H vs us Q I r ⟨ts, S, q, hr, R, h, f⟩
  simp only [booR] at h
  split at h
  · obtain ⟨v, rfl, hv⟩ := one_inv hr
    simp only [Rep] at hv
    subst hv
    exact call_bool1 pins s σ H _ us Q I r (.inl ⟨_, rfl, f.here R (by simp only [Rep]) h⟩)
  · obtain ⟨v, rfl, hv⟩ := one_inv hr
    simp only [Rep] at hv
    subst hv
    exact call_bool1 pins s σ H _ us Q I r (.inr ⟨_, rfl, f.here R (by simp only [Rep]) h⟩)
  · exact h.elim
theorem cm_bi (hc : X.calm = true) (hg : X.A.guards = some []) (hu : X.A.units + 70 < cLine) (b : Bi) : CallR X (biV b) (liftC X.K (biR b)) := by
  cases b
  · exact cm_len
  · exact cm_all hc
  · exact cm_any hc
  · exact cm_isi
  · exact cm_abs
  · exact cm_max hc
  · exact cm_min hc
  · exact cm_sum hc
  · exact cm_repr hg hu
  · exact cm_tup
  · exact cm_lst
  · exact cm_int
  · exact cm_bool
end
/-- a call of a built-in: its arguments, its reading -/
def eBi (b : Bi) (a : MA) : ME := fun τ S q => a τ S fun xs S1 => biR b xs S1 q
theorem noStar_any {env : PySem.Env} {pos : Pos} : ∀ {es : List Expr}, (∀ e ∈ es, (match e with | .Starred _ _ => true | _ => false) = false) → (backTo pos (starEach es env)).any (·.1) = false
  | [], _ => rfl
  | e :: es, h => by
    have h1 := h e (by simp)
    have ih := noStar_any (env := env) (pos := pos) fun e he => h e (List.mem_cons_of_mem _ he)
    have e1 : starEach (e :: es) env = (false, eval e env) :: starEach es env := by
      cases e <;> first
        | rfl
        | simp at h1
    rw [e1]
    show (false || (backTo pos (starEach es env)).any (·.1)) = false
    rw [ih]; rfl
def isStar : Expr → Bool
  | .Starred _ _ => true
  | _ => false
theorem star_cons {e : Expr} {es : List Expr} {env : PySem.Env} (h : isStar e = false) : starEach (e :: es) env = (false, eval e env) :: starEach es env := by
  cases e <;> first
    | rfl
    | simp [isStar] at h
section
variable {X : Cx} {H0 : Hp} {e : Expr} {es : List Expr} {ta : MA} {p pos : Pos}
theorem je_bi (hc : X.calm = true) (hg : X.A.guards = some []) (hu : X.A.units + 70 < cLine) (b : Bi) (gl : Gl X (biN b)) (hm : X.mg (biN b) = none) (ha : PA X (e :: es) (liftA X.K H0 ta)) (h1 : isStar e = false) (h2 : ∀ e ∈ es, isStar e = false) :
    PE X (.Call (.Name (biN b) p) (e :: es) [] pos) (lift X.K H0 (eBi b ta)) := by
  have cr := cm_bi (X := X) hc hg hu b
  have fin : ∀ σ H Q, lift X.K H0 (eBi b ta) σ H Q → tCB (liftC X.K (biR b)) (liftA X.K H0 ta) σ H Q := fun σ H Q ⟨τ, S, q, R, h, f⟩ => ⟨τ, S, _, R, h, fun vs H1 ts S1 k1 s1 r1 q1 => ⟨ts, S1, q, r1, s1, q1, f.mono k1⟩⟩
  have st := star_cons (es := es) (env := X.env) h1
  have pl : (backTo pos (starEach es X.env)).any (·.1) = false := noStar_any fun e he => by
    have := h2 e he
    cases e <;> first
      | rfl
      | simp [isStar] at this
  have bo := bi_boot b
  have nn := bi_nn b
  have nd := bi_nd b
  generalize hV : biV b = V0 at cr bo
  cases b <;> simp only [biV] at hV <;> subst hV <;> first
    | exact pe_imp (pe_callB cr gl hm bo ha nn nd st pl) fin
    | exact pe_imp (pe_callTy cr gl hm bo ha nn nd st pl) fin
end
end M
set_option Elab.async false
set_option maxRecDepth 100000
set_option linter.unusedVariables false
set_option maxHeartbeats 1000000
/-! Layer M, part Z: zip while its tuple is held, enumerate over anything, enumerate over zip: at the library's level. -/
namespace PySem
open Sem (wp)
open Builtin
section
variable {prog : Program} {w : World} {A : Around} {E : Value → Shared → Prop} {s : Shared} {z TI TO i1 i2 : Addr} {fp1 fp2 : List Addr} {n1 n2 i : Nat} {P1 P2 : Nat → Value → Prop} {St1 St2 : Nat → Heap → Prop}
/-- a zip that is fresh, or whose last tuple stands -/
def ZipOn (h : Heap) (z TI TO : Addr) : Prop := (IsZip h z TI TO .none ∧ ∃ a1 a2, IsTupOf2 h TO a1 a2) ∨ ∃ T f oT, IsZipHeld h z TI TO T f ∧ h.get? T = some oT ∧ T ≠ z ∧ T ≠ i1 ∧ T ≠ i2
/-- the next pair of a zip whose tuple is held -/
theorem mz_held {T : Addr} {f : Bool} {oT : Obj} {Q : Value → Shared → Prop} (S : ZipSep2 z TI TO i1 i2 fp1 fp2) (D1 : Draws prog w A i1 fp1 n1 P1 St1) (D2 : Draws prog w A i2 fp2 n2 P2 St2)
    (hz : IsZipHeld s.heap z TI TO T f) (hT : s.heap.get? T = some oT) (hTI : IsTupOf2 s.heap TI (.ref i1) (.ref i2)) (st1 : St1 i s.heap) (st2 : St2 i s.heap) (hlt1 : i < n1) (hlt2 : i < n2)
    (hQ : ∀ x1 x2 h' tk, P1 i x1 → P2 i x2 → IsZipHeld h' z TI TO T true → St1 (i + 1) h' → St2 (i + 1) h' → IsTupOf2 h' s.heap.objs.size x1 x2 → h'.objs.size = s.heap.objs.size + 1 →
      (∀ c o, c ≠ z → c ≠ i1 → c ≠ i2 → s.heap.get? c = some o → h'.get? c = some o) → Q (.ref s.heap.objs.size) { s with heap := h', toks := tk }) :
    wpAny (model prog w) A (Builtin.«zip.__next__» ⟨[.ref z], []⟩) (fun fin s' => ∃ v, fin = .done (.ret v) ∧ Q v s') E s := by
  obtain ⟨hp, g, d, tk0, os⟩ := s
  show wpAny _ _ (field (.ref z) 2 >>= _) _ _ _
  refine wpAny_bind (wpAny_field hz rfl (x := .bool false) rfl ?_)
  show wpAny _ _ (field (.ref z) 3 >>= _) _ _ _
  refine wpAny_bind (wpAny_field hz rfl (x := .ref TI) rfl ?_)
  refine wpAny_bind (wpAny_seqItems hTI rfl ?_)
  show wpAny _ _ (Builtin.SmallTypes.ownedTupleIsFree (.ref z) >>= _) _ _ _
  refine wpAny_bind (wpAny_tupleHeld_zip hz hT fun k1 hz1 hs1 => ?_)
  replace hs1 : Heap.SameBut z hp k1 := hs1
  simp only [Bool.false_eq_true, if_false]
  refine wpAny_bind ?_
  rw [← Array.forIn_toList]
  simp only [List.forIn_cons, List.forIn_nil]
  refine wpAny_bind (wpAny_bind (wpAny_holding ?_))
  show wpAny _ _ (Builtin.SmallTypes.nextOf (.ref i1) >>= _) _ _ ⟨k1, g, d, tk0, os⟩
  refine wpAny_bind (D1.item i _ _ _ hlt1 (D1.over st1 hs1 S.zf1) fun x1 k2 tk1 hx1 sn1 hs2 => wpAny_pure ?_)
  replace hs2 : Heap.SameBut i1 k1 k2 := hs2
  refine wpAny_pure ?_
  refine wpAny_bind (wpAny_bind (wpAny_holding ?_))
  show wpAny _ _ (Builtin.SmallTypes.nextOf (.ref i2) >>= _) _ _ ⟨k2, g, d, tk1, os⟩
  refine wpAny_bind (D2.item i _ _ _ hlt2 (D2.over (D2.over st2 hs1 S.zf2) hs2 S.sep1_2) fun x2 k3 tk2 hx2 sn2 hs3 => wpAny_pure ?_)
  replace hs3 : Heap.SameBut i2 k2 k3 := hs3
  refine wpAny_pure (wpAny_pure ?_)
  show wpAny _ _ (newTuple [x1, x2] >>= _) _ _ _
  refine wpAny_bind (wpAny_newTuple ?_)
  have hsz : k3.objs.size = hp.objs.size := by rw [hs3.1, hs2.1, hs1.1]
  have hz3 : IsZipHeld k3 z TI TO T true := hs3.extBut _ _ S.zi2 (hs2.extBut _ _ S.zi1 hz1)
  have hk : ∀ c o, c ≠ z → c ≠ i1 → c ≠ i2 → hp.get? c = some o → k3.get? c = some o := fun c o c1 c2 c3 e => hs3.extBut _ _ c3 (hs2.extBut _ _ c2 (hs1.extBut _ _ c1 e))
  have j1 : St1 (i + 1) k3 := D1.over sn1 hs3 S.sep2_1
  refine wpAny_pure ⟨_, rfl, ?_⟩
  show Q (.ref k3.objs.size) _
  have hpp : IsTupOf2 (k3.push { cls := .type "tuple", data := .seq #[x1, x2] }) k3.objs.size x1 x2 := Heap.get?_push_size _ rfl
  have hz4 : (k3.push { cls := .type "tuple", data := .seq #[x1, x2] }).objs.size = k3.objs.size + 1 := Heap.size_push ..
  rw [hsz] at hpp hz4 ⊢
  exact hQ x1 x2 _ tk2 hx1 hx2 (Heap.get?_push_of_some _ hz3) (D1.frame _ _ _ j1 fun b _ o e => Heap.get?_push_of_some _ e) (D2.frame _ _ _ sn2 fun b _ o e => Heap.get?_push_of_some _ e) hpp hz4 fun c o c1 c2 c3 e => Heap.get?_push_of_some _ (hk c o c1 c2 c3 e)
theorem mz_held_end {T : Addr} {f : Bool} {oT : Obj} {Q : Fin → Shared → Prop} (S : ZipSep2 z TI TO i1 i2 fp1 fp2) (D1 : Draws prog w A i1 fp1 n1 P1 St1) (D2 : Draws prog w A i2 fp2 n2 P2 St2)
    (hz : IsZipHeld s.heap z TI TO T f) (hT : s.heap.get? T = some oT) (hTI : IsTupOf2 s.heap TI (.ref i1) (.ref i2)) (st1 : St1 i s.heap) (st2 : St2 i s.heap) (hle1 : i ≤ n1) (hle2 : i ≤ n2) (hend : i = n1 ∨ i = n2)
    (hE : ∀ h' tk e, (∀ c o, c ≠ z → c ≠ i1 → c ≠ i2 → s.heap.get? c = some o → h'.get? c = some o) → (∃ o, h'.get? e = some o ∧ o.cls = .type "StopIteration") → E (.ref e) { s with heap := h', toks := tk }) :
    wpAny (model prog w) A (Builtin.«zip.__next__» ⟨[.ref z], []⟩) Q E s := by
  obtain ⟨hp, g, d, tk0, os⟩ := s
  show wpAny _ _ (field (.ref z) 2 >>= _) _ _ _
  refine wpAny_bind (wpAny_field hz rfl (x := .bool false) rfl ?_)
  show wpAny _ _ (field (.ref z) 3 >>= _) _ _ _
  refine wpAny_bind (wpAny_field hz rfl (x := .ref TI) rfl ?_)
  refine wpAny_bind (wpAny_seqItems hTI rfl ?_)
  show wpAny _ _ (Builtin.SmallTypes.ownedTupleIsFree (.ref z) >>= _) _ _ _
  refine wpAny_bind (wpAny_tupleHeld_zip hz hT fun k1 hz1 hs1 => ?_)
  replace hs1 : Heap.SameBut z hp k1 := hs1
  simp only [Bool.false_eq_true, if_false]
  refine wpAny_bind ?_
  rw [← Array.forIn_toList]
  simp only [List.forIn_cons, List.forIn_nil]
  refine wpAny_bind (wpAny_bind (wpAny_holding ?_))
  show wpAny _ _ (Builtin.SmallTypes.nextOf (.ref i1) >>= _) _ _ ⟨k1, g, d, tk0, os⟩
  by_cases hlt1 : i < n1
  · refine wpAny_bind (D1.item i _ _ _ hlt1 (D1.over st1 hs1 S.zf1) fun x1 k2 tk1 hx1 sn1 hs2 => wpAny_pure ?_)
    replace hs2 : Heap.SameBut i1 k1 k2 := hs2
    refine wpAny_pure ?_
    have hi2 : i = n2 := by omega
    refine wpAny_bind (wpAny_bind (wpAny_holding ?_))
    show wpAny _ _ (Builtin.SmallTypes.nextOf (.ref i2) >>= _) _ _ ⟨k2, g, d, tk1, os⟩
    refine wpAny_bind (D2.done ⟨k2, g, d, tk1, os⟩ _ _ (by rw [← hi2]; exact D2.over (D2.over st2 hs1 S.zf2) hs2 S.sep1_2) fun q e hq he => ?_)
    exact hE q tk1 e (fun c o c1 c2 c3 x => hq _ _ c3 (hs2.extBut _ _ c2 (hs1.extBut _ _ c1 x))) he
  · have hi1 : i = n1 := by omega
    refine wpAny_bind (D1.done ⟨k1, g, d, tk0, os⟩ _ _ (by rw [← hi1]; exact D1.over st1 hs1 S.zf1) fun q e hq he => ?_)
    exact hE q tk0 e (fun c o c1 c2 _ x => hq _ _ c2 (hs1.extBut _ _ c1 x)) he

/-- the state of a zip that enumerate walks -/
def ZSt (z TI TO i1 i2 : Addr) (h : Heap) : Prop := IsTupOf2 h TI (.ref i1) (.ref i2) ∧ (∃ a1 a2, IsTupOf2 h TO a1 a2) ∧ (IsZip h z TI TO .none ∨ ∃ T f, IsZipHeld h z TI TO T f)
/-- next of it: the last tuple that was given out stands (al) -/
theorem mz_next {Q : Value → Shared → Prop} (S : ZipSep2 z TI TO i1 i2 fp1 fp2) (D1 : Draws prog w A.in1 i1 fp1 n1 P1 St1) (D2 : Draws prog w A.in1 i2 fp2 n2 P2 St2)
    (hz : ZSt z TI TO i1 i2 s.heap) (al : ∀ T f, IsZipHeld s.heap z TI TO T f → ∃ oT, s.heap.get? T = some oT) (st1 : St1 i s.heap) (st2 : St2 i s.heap) (hlt1 : i < n1) (hlt2 : i < n2)
    (hQ : ∀ x1 x2 h' tk T f, P1 i x1 → P2 i x2 → IsZipHeld h' z TI TO T f → (T = s.heap.objs.size ∨ ∃ f', IsZipHeld s.heap z TI TO T f') → IsTupOf2 h' TI (.ref i1) (.ref i2) → (∃ a1 a2, IsTupOf2 h' TO a1 a2) → St1 (i + 1) h' → St2 (i + 1) h' → IsTupOf2 h' s.heap.objs.size x1 x2 → h'.objs.size = s.heap.objs.size + 1 →
      (∀ c o, c ≠ z → c ≠ TO → c ≠ i1 → c ≠ i2 → s.heap.get? c = some o → h'.get? c = some o) → Q (.ref s.heap.objs.size) { s with heap := h', toks := tk }) :
    wpAny (model prog w) A (Builtin.SmallTypes.nextOf (.ref z)) Q E s := by
  obtain ⟨hTI, ⟨a1, a2, hTO⟩, hz⟩ := hz
  have ty : s.TypeIs (.ref z) "zip" := by
    rcases hz with hz | ⟨T, f, hz⟩
    · exact ⟨_, hz, rfl⟩
    · exact ⟨_, hz, rfl⟩
  unfold Builtin.SmallTypes.nextOf
  refine wpAny_bind (wpAny_callSpecial?_slot (name := Str.ofString "__next__") ty F.slot_zip_next (wpAny_call_entry F.slot_zip_next ty F.entry_zip_next ?_ (F.args_zip_next_1 _)))
  rcases hz with hz | ⟨T, f, hz⟩
  · exact zipD2_next_item S D1 D2 hz hTI hTO st1 st2 hlt1 hlt2 fun x1 x2 h' tk y1 y2 b1 b2 d1 d2 b5 b6 hk => wpAny_pure (hQ x1 x2 h' tk s.heap.objs.size false y1 y2 b1 (.inl rfl) (hk _ _ S.TIz S.TITO S.TIi1 S.TIi2 hTI) ⟨_, _, b2⟩ d1 d2 b5 b6 hk)
  · obtain ⟨oT, hT⟩ := al T f hz
    exact mz_held S D1 D2 hz hT hTI st1 st2 hlt1 hlt2 fun x1 x2 h' tk y1 y2 b1 d1 d2 b5 b6 hk => wpAny_pure (hQ x1 x2 h' tk T true y1 y2 b1 (.inr ⟨f, hz⟩) (hk _ _ S.TIz S.TIi1 S.TIi2 hTI) ⟨_, _, hk _ _ S.TOz S.Ti1 S.Ti2 hTO⟩ d1 d2 b5 b6 fun c o c1 _ c3 c4 e => hk c o c1 c3 c4 e)
theorem mz_next_end {Q : Value → Shared → Prop} (S : ZipSep2 z TI TO i1 i2 fp1 fp2) (D1 : Draws prog w A.in1 i1 fp1 n1 P1 St1) (D2 : Draws prog w A.in1 i2 fp2 n2 P2 St2)
    (hz : ZSt z TI TO i1 i2 s.heap) (al : ∀ T f, IsZipHeld s.heap z TI TO T f → ∃ oT, s.heap.get? T = some oT) (st1 : St1 i s.heap) (st2 : St2 i s.heap) (hle1 : i ≤ n1) (hle2 : i ≤ n2) (hend : i = n1 ∨ i = n2)
    (hE : ∀ h' tk e, (∀ c o, c ≠ z → c ≠ TO → c ≠ i1 → c ≠ i2 → s.heap.get? c = some o → h'.get? c = some o) → (∃ o, h'.get? e = some o ∧ o.cls = .type "StopIteration") → E (.ref e) { s with heap := h', toks := tk }) :
    wpAny (model prog w) A (Builtin.SmallTypes.nextOf (.ref z)) Q E s := by
  obtain ⟨hTI, ⟨a1, a2, hTO⟩, hz⟩ := hz
  have ty : s.TypeIs (.ref z) "zip" := by
    rcases hz with hz | ⟨T, f, hz⟩
    · exact ⟨_, hz, rfl⟩
    · exact ⟨_, hz, rfl⟩
  unfold Builtin.SmallTypes.nextOf
  refine wpAny_bind (wpAny_callSpecial?_slot (name := Str.ofString "__next__") ty F.slot_zip_next (wpAny_call_entry F.slot_zip_next ty F.entry_zip_next ?_ (F.args_zip_next_1 _)))
  rcases hz with hz | ⟨T, f, hz⟩
  · exact zipD2_next_end S D1 D2 hz hTI hTO st1 st2 hle1 hle2 hend fun h' tk e hk he => hE h' tk e hk he
  · obtain ⟨oT, hT⟩ := al T f hz
    exact mz_held_end S D1 D2 hz hT hTI st1 st2 hle1 hle2 hend fun h' tk e hk he => hE h' tk e (fun c o c1 _ c3 c4 x => hk c o c1 c3 c4 x) he

/-- enumerate's next over an iterator that hands x back and changes only cells at wr (e is none of them) -/
theorem me_next {e it : Addr} {c : Int} {old : Value} {Q : Value → Shared → Prop} (he : IsEnum s.heap e it c old) (G : Value → Heap → Prop)
    (hn : ∀ (Q' : Value → Shared → Prop) (E' : Value → Shared → Prop), (∀ x h' tk, G x h' → IsEnum h' e it c old → s.heap.objs.size ≤ h'.objs.size → Q' x { s with heap := h', toks := tk }) → wpAny (model prog w) A (Builtin.SmallTypes.nextOf (.ref it)) Q' E' s)
    (hQ : ∀ x h1 h' tk T, G x h1 → IsEnumOut h' e it (c + 1) x T → h1.objs.size ≤ T → s.heap.objs.size ≤ T → h'.get? T = some { cls := .type "tuple", data := .seq #[.int c tk, x] } →
      (∀ b o, b ≠ e → h1.get? b = some o → h'.get? b = some o) → Q (.ref T) { s with heap := h', toks := tk + 1 }) :
    wpAny (model prog w) A (Builtin.«enumerate.__next__» ⟨[.ref e], []⟩) (fun fin s' => ∃ v, fin = .done (.ret v) ∧ Q v s') E s := by
  obtain ⟨hp, g, d, tk0, os⟩ := s
  show wpAny _ _ (field (.ref e) 2 >>= _) _ _ _
  refine wpAny_bind (wpAny_field he rfl (x := .ref it) rfl ?_)
  refine wpAny_bind (hn _ _ fun x h1 tk hG he1 hs1 => ?_)
  replace hs1 : hp.objs.size ≤ h1.objs.size := hs1
  show wpAny _ _ (field (.ref e) 3 >>= _) _ _ ⟨h1, g, d, tk, os⟩
  refine wpAny_bind (wpAny_field he1 rfl (x := rawInt c) rfl ?_)
  show wpAny _ _ (field (.ref e) 4 >>= _) _ _ ⟨h1, g, d, tk, os⟩
  refine wpAny_bind (wpAny_field he1 rfl (x := .none) rfl ?_)
  show wpAny _ _ (mkInt c >>= _) _ _ ⟨h1, g, d, tk, os⟩
  refine wpAny_bind (wpAny_mkInt ?_)
  show wpAny _ _ (setField (.ref e) 3 (rawInt (c + 1)) >>= _) _ _ ⟨h1, g, d, tk + 1, os⟩
  refine wpAny_bind (wpAny_setField_rec he1 (by simp) fun h2 he2 hs2 => ?_)
  replace hs2 : Heap.SameBut e h1 h2 := hs2
  replace he2 : IsEnum h2 e it (c + 1) old := he2
  show wpAny _ _ (setField (.ref e) 4 .none >>= _) _ _ ⟨h2, g, d, tk + 1, os⟩
  refine wpAny_bind (wpAny_setField_rec he2 (by simp) fun h3 he3 hs3 => ?_)
  replace hs3 : Heap.SameBut e h2 h3 := hs3
  replace he3 : IsEnum h3 e it (c + 1) old := he3
  show wpAny _ _ (newTuple [.int c tk, x] >>= _) _ _ ⟨h3, g, d, tk + 1, os⟩
  refine wpAny_bind (wpAny_newTuple ?_)
  have he4 : IsEnum (h3.push { cls := .type "tuple", data := .seq #[.int c tk, x] }) e it (c + 1) old := Heap.get?_push_of_some _ he3
  generalize hh4 : h3.push { cls := .type "tuple", data := .seq #[.int c tk, x] } = h4 at he4
  have hsz : h3.objs.size = h1.objs.size := by rw [hs3.1, hs2.1]
  have hel : e < h3.objs.size := Heap.lt_size he3
  have ht4 : h4.get? h3.objs.size = some { cls := .type "tuple", data := .seq #[.int c tk, x] } := by rw [← hh4]; exact Heap.get?_push_size _ rfl
  have hk4 : ∀ b o, b ≠ e → h1.get? b = some o → h4.get? b = some o := fun b o hbe hb => by
    rw [← hh4]; exact Heap.get?_push_of_some _ (hs3.extBut b o hbe (hs2.extBut b o hbe hb))
  show wpAny _ _ (Builtin.SmallTypes.ownedTupleIsFree (.ref e) >>= _) _ _ ⟨h4, g, d, tk + 1, os⟩
  generalize hT : h3.objs.size = T at ht4 hel hsz
  clear hh4 he3 hs3 he2 hs2 he1 hT h3 h2
  refine wpAny_bind ?_
  · unfold Builtin.SmallTypes.ownedTupleIsFree
    refine wpAny_bind (wpAny_field he4 rfl (x := .none) rfl (wpAny_pure ?_))
    simp only [if_true]
    refine wpAny_bind (wpAny_rule ?_)
    refine wpAny_bind (wpAny_field he4 rfl (x := old) rfl ?_)
    refine wpAny_bind (wpAny_setField_rec he4 (by simp) fun h5 he5 hs5 => ?_)
    replace hs5 : Heap.SameBut e h4 h5 := hs5
    replace he5 : IsEnum h5 e it (c + 1) x := he5
    show wpAny _ _ (Builtin.SmallTypes.ownedTupleHandOut (.ref e) (.ref T) >>= _) _ _ ⟨h5, g, d, tk + 1, os⟩
    refine wpAny_bind ?_
    · unfold Builtin.SmallTypes.ownedTupleHandOut
      refine wpAny_bind (wpAny_setField_rec he5 (by simp) fun h6 he6 hs6 => ?_)
      replace hs6 : Heap.SameBut e h5 h6 := hs6
      replace he6 : IsEnumOut h6 e it (c + 1) x T := he6
      refine wpAny_setField_rec he6 (by simp) fun h7 he7 hs7 => ?_
      replace hs7 : Heap.SameBut e h6 h7 := hs7
      replace he7 : IsEnumOut h7 e it (c + 1) x T := he7
      have up : ∀ b o, b ≠ e → h4.get? b = some o → h7.get? b = some o := fun b o hbe y => hs7.extBut b o hbe (hs6.extBut b o hbe (hs5.extBut b o hbe y))
      have hle : h1.objs.size ≤ T := Nat.le_of_eq hsz.symm
      refine wpAny_bind (wpAny_letGo (wpAny_pure ⟨_, rfl, hQ x h1 h7 tk T hG he7 hle (Nat.le_trans hs1 hle) (up _ _ (Nat.ne_of_gt hel) ht4) fun b o hbe y => up b o hbe (hk4 b o hbe y)⟩))
theorem me_pyNext {e it : Addr} {c : Int} {old : Value} {Q : Option Value → Shared → Prop} (he : IsEnum s.heap e it c old) (G : Value → Heap → Prop)
    (hn : ∀ (Q' : Value → Shared → Prop) (E' : Value → Shared → Prop), (∀ x h' tk, G x h' → IsEnum h' e it c old → s.heap.objs.size ≤ h'.objs.size → Q' x { s with heap := h', toks := tk }) → wpAny (model prog w) A.in1 (Builtin.SmallTypes.nextOf (.ref it)) Q' E' s)
    (hQ : ∀ x h1 h' tk T, G x h1 → IsEnumOut h' e it (c + 1) x T → h1.objs.size ≤ T → s.heap.objs.size ≤ T → h'.get? T = some { cls := .type "tuple", data := .seq #[.int c tk, x] } →
      (∀ b o, b ≠ e → h1.get? b = some o → h'.get? b = some o) → Q (some (.ref T)) { s with heap := h', toks := tk + 1 }) :
    wpAny (model prog w) A (pyNext (.ref e)) Q E s := by
  have hT : s.TypeIs (.ref e) "enumerate" := ⟨_, he, rfl⟩
  unfold pyNext
  exact wpAny_bind (wpAny_attempt (wpAny_callSpecial?_slot (name := Str.ofString "__next__") hT F.slot_enumerate_next
    (wpAny_call_entry F.slot_enumerate_next hT F.entry_enumerate_next
      (me_next he G hn fun x h1 h' tk T a b c d k q => wpAny_pure (hQ x h1 h' tk T a b c d k q)) (F.args_enumerate_next_1 _))))
theorem me_pyNext_end {e it : Addr} {c : Int} {old : Value} {Q : Option Value → Shared → Prop} (he : IsEnum s.heap e it c old)
    (hn : ∀ (Q' : Value → Shared → Prop) (E' : Value → Shared → Prop), (∀ h' tk x, Q none { s with heap := h', toks := tk } ∨ True → (∃ o, h'.get? x = some o ∧ o.cls = .type "StopIteration") → (Q none { s with heap := h', toks := tk }) → E' (.ref x) { s with heap := h', toks := tk }) → wpAny (model prog w) A.in1 (Builtin.SmallTypes.nextOf (.ref it)) Q' E' s) :
    wpAny (model prog w) A (pyNext (.ref e)) Q E s := by
  have hT : s.TypeIs (.ref e) "enumerate" := ⟨_, he, rfl⟩
  unfold pyNext
  refine wpAny_bind (wpAny_attempt (wpAny_callSpecial?_slot (name := Str.ofString "__next__") hT F.slot_enumerate_next
    (wpAny_call_entry F.slot_enumerate_next hT F.entry_enumerate_next ?_ (F.args_enumerate_next_1 _))))
  show wpAny _ _ (field (.ref e) 2 >>= _) _ _ _
  refine wpAny_bind (wpAny_field he rfl (x := .ref it) rfl ?_)
  refine wpAny_bind (hn _ _ fun h' tk x _ hx hq => ?_)
  obtain ⟨o, ho, hc⟩ := hx
  refine wpAny_bind (wpAny_isInstance (T := "StopIteration") (b := true) ⟨o, ho, hc⟩ isSubtype_stop ?_)
  exact wpAny_pure hq

set_option maxHeartbeats 2000000 in
/-- enumerate(v), v an iterator that stands at it, or one that iter(v) lays there -/
theorem me_new {v : Value} {it : Addr} (Hc : Heap → Prop) (more : Heap → Heap)
    (iter : ∀ (prog : Program) (w : World) (A : Around) (E : Value → Shared → Prop) (s : Shared) (Q : Value → Shared → Prop), Hc s.heap → Q (.ref it) { s with heap := more s.heap } → wpAny (model prog w) A (pyIter v) Q E s) :
    Meets (Builtin.«enumerate.__new__» ⟨[.type "enumerate", v], []⟩) (fun _ R s => Hc s.heap ∧
      R (.ok (.ret (.ref (more s.heap).objs.size))) { s with heap := (more s.heap).push { cls := .type "enumerate", data := .fields #[.none, .bool false, .ref it, rawInt 0, .none, .none] } }) :=
  .of_wp fun prog w A R s h => by
    obtain ⟨hp, g, d, tk, os⟩ := s; obtain ⟨h1, h⟩ := h
    have hsub := sub_enumerate
    have q1 : ∀ {A' : Around} {E : Value → Shared → Prop} {Q : Value → Shared → Prop}, Q (.ref it) ⟨more hp, g, d, tk, os⟩ → wpAny (model prog w) A' (pyIter v) Q E ⟨hp, g, d, tk, os⟩ :=
      fun q => iter prog w _ _ ⟨hp, g, d, tk, os⟩ _ h1 q
    wp_walk
    refine wpAny_stack_any fun st => wpAny_pure ?_
    split
    · rename_i c _ _ _ _ _
      cases (c == Value.type "enumerate")
      · wp_walk using q1
        exact ⟨_, rfl, h⟩
      · wp_walk using q1
        exact ⟨_, rfl, h⟩
    · wp_walk using q1
      exact ⟨_, rfl, h⟩
theorem me_call {v : Value} {it : Addr} (Hc : Heap → Prop) (more : Heap → Heap) {Q : Value → Shared → Prop}
    (iter : ∀ (prog : Program) (w : World) (A : Around) (E : Value → Shared → Prop) (s : Shared) (Q : Value → Shared → Prop), Hc s.heap → Q (.ref it) { s with heap := more s.heap } → wpAny (model prog w) A (pyIter v) Q E s)
    (h1 : Hc s.heap) (h : IsEnum ((more s.heap).push { cls := .type "enumerate", data := .fields #[.none, .bool false, .ref it, rawInt 0, .none, .none] }) (more s.heap).objs.size it 0 .none →
      Q (.ref (more s.heap).objs.size) { s with heap := (more s.heap).push { cls := .type "enumerate", data := .fields #[.none, .bool false, .ref it, rawInt 0, .none, .none] } }) :
    wpAny (model prog w) A (call (.type "enumerate") [v]) Q E s := by
  refine callType_new F.called_enumerate (by decide) (F.typeCall_enumerate_1 _) (F.newCall_enumerate_1 _) (fun obj => F.args_object_init_2 obj _) F.entry_enumerate_new (me_new Hc more iter) ⟨h1, ?_⟩
  have he : IsEnum ((more s.heap).push { cls := .type "enumerate", data := .fields #[.none, .bool false, .ref it, rawInt 0, .none, .none] }) (more s.heap).objs.size it 0 .none := Heap.get?_push_size (more s.heap) (o := { cls := .type "enumerate", data := .fields #[.none, .bool false, .ref it, rawInt 0, .none, .none] }) rfl
  exact ⟨⟨_, he, rfl⟩, h he⟩
end
end PySem
set_option Elab.async false
set_option maxRecDepth 100000
set_option linter.unusedVariables false
set_option maxHeartbeats 1000000
/-! Layer M, part E: what a loop walks, by a state of the heap and of the abstract heap; for, [..] over it. -/
namespace M
open PySem PySem.Spec PyProof.Rows L2

structure TurnM (P : Program) (w : World) (K : PySem.W.Frag) (tg : Expr) (J : It) (fp : List Addr) (it : Addr) (tn : Nat → Heap → Hp → Prop) : Prop where
  mem : it ∈ fp
  obj : ∀ i h H, tn i h H → ∀ b ∈ fp, ∃ o, h.get? b = some o ∧ ∀ v, o.data ≠ .cell v
  keep : ∀ i h h' H H', tn i h H → (∀ b ∈ fp, ∀ o, h.get? b = some o → h'.get? b = some o) → Kept H H' → tn i h' H'
  item : ∀ (X : Cx), X.prog = P → X.w = w → X.K = K → X.calm = true → ∀ (i : Nat) (pins : List (Addr × Obj)) (s : Shared) (σ : St) (H : Hp) (E : Value → Shared → Prop), Inv X pins σ H s → (∀ b ∈ fp, FpOk X pins H b) → tn i s.heap H → J.go i H →
    wpAny (model P w) X.A (pyNext (.ref it)) (fun r s1 => ∃ u, r = some u ∧
      wpAny (model P w) X.A (letOwnedTupleGo tg (.ref it) u) (fun _ s2 => ∃ x H', Inv X pins σ H' s2 ∧ RelV x u ∧ J.yld i H x H' ∧ tn (i + 1) s2.heap H' ∧ ∀ b ∈ fp, H' b = none) E s1) E s
  done : ∀ (X : Cx), X.prog = P → X.w = w → X.K = K → X.calm = true → ∀ (i : Nat) (pins : List (Addr × Obj)) (s : Shared) (σ : St) (H : Hp) (E : Value → Shared → Prop), Inv X pins σ H s → (∀ b ∈ fp, FpOk X pins H b) → tn i s.heap H → J.stop i H →
    wpAny (model P w) X.A (pyNext (.ref it)) (fun r s1 => r = none ∧ Inv X pins σ H s1) E s
  self : ∀ (A : Around) (i : Nat) (s : Shared) (H : Hp) (Q : Value → Shared → Prop) (E : Value → Shared → Prop), tn i s.heap H → Q (.ref it) s → wpAny (model P w) A (pyIter (.ref it)) Q E s
theorem TurnM.of {P : Program} {w : World} {K : PySem.W.Frag} {tg : Expr} {J : It} {fp : List Addr} {it : Addr} {tn : Nat → Heap → Prop} (T : Turn P w K tg J fp it tn) : TurnM P w K tg J fp it (fun i h _ => tn i h) where
  mem := T.mem
  obj := fun i h _ st => T.obj i h st
  keep := fun i h h' _ _ st k _ => T.keep i h h' st k
  item := T.item
  done := T.done
  self := fun A i s _ Q E st h => T.self A i s Q E st h
def PIEM (X : Cx) (pins : List (Addr × Obj)) (σ : St) (tg : Expr) (R : It → Hp → Prop) (itv : Value) (s2 : Shared) : Prop :=
  ∃ (it : Addr) (fp : List Addr) (tn : Nat → Heap → Hp → Prop) (J : It) (H' : Hp), itv = .ref it ∧ Inv X pins σ H' s2 ∧ TurnM X.prog X.w X.K tg J fp it tn ∧ tn 0 s2.heap H' ∧ (∀ b ∈ fp, FpOk X pins H' b) ∧ R J H'
structure PIM (X : Cx) (tg iter : Expr) (wi : TI) : Prop where
  run : ∀ (pins : List (Addr × Obj)) (s : Shared) (σ : St) (H : Hp) (R : It → Hp → Prop), Inv X pins σ H s → wi σ H R →
    wpAny (model X.prog X.w) X.A (eval iter X.env) (fun v s1 => wpAny (model X.prog X.w) X.A (pyIter v) (PIEM X pins σ tg R) X.xe s1) X.xe s
theorem PIM.of {X : Cx} {tg iter : Expr} {wi : TI} (h : PI X tg iter wi) : PIM X tg iter wi := ⟨fun pins s σ H R I hw =>
  thn (h.run pins s σ H R I hw) fun v s1 h1 => thn h1 fun itv s2 ⟨it, fp, tn, J, H', e, I2, T, st, f, r⟩ => ⟨it, fp, _, J, H', e, I2, .of T, st, f, r⟩⟩
theorem pim_imp {X : Cx} {tg iter : Expr} {wi wi' : TI} (h : PIM X tg iter wi) (k : ∀ σ H R, wi' σ H R → wi σ H R) : PIM X tg iter wi' := ⟨fun pins s σ H R I hw => h.run pins s σ H R I (k σ H R hw)⟩

section
variable {X : Cx}
/-- as tFor; what the body reaches keeps what is kept -/
def tForM (wi : TI) (g : TG) (tb : TS) : TS := fun D σ H => wi σ H fun J H1 => ∃ W : Nat → Nat → St → Hp → Prop, (∃ m, W 0 m σ H1) ∧ ∀ i m σ H, W i m σ H →
  (J.stop i H ∧ D.nx σ H) ∨ (J.go i H ∧ ∃ N : Hp → St → Hp → Prop, (∀ H5 σ' H', N H5 σ' H' → Kept H5 H' ∧ ∃ m', m' < m ∧ W (i + 1) m' σ' H') ∧ ∀ x H', J.yld i H x H' → g x σ H' fun σ2 H2 => tb { D with nx := N H', ct := N H', bk := D.nx } σ2 H2)
theorem ps_forM {tg iter : Expr} {body : List Stmt} {wi : TI} {g : TG} {tb : TS} {pos : Pos} (hp : PassesOwn (model X.prog X.w) X.A X.env X.xe) (hc : X.calm = true) (hi : PIM X tg iter wi) (hg : PG X tg g) (hb : PSs X body tb)
    (hs : ∀ x, foldedSetIterable iter X.env x = pure x := by intro _; rfl) : PS X (.For tg iter body [] pos) (tForM wi g tb) := by
  refine ⟨fun pins s σ H D I h => ?_⟩
  refine wpAny_For (thn (hi.run pins s σ H _ I h) fun v s1 h1 => thn h1 fun itv s2 h2 => ?_) hs
  obtain ⟨it, fp, tn, J, H2, e, I2, T, st2, f2, W, ⟨m0, w0⟩, turn⟩ := h2
  subst e
  have stat : ∀ {H' : Hp}, (∀ b ∈ fp, H' b = none) → ∀ b ∈ fp, FpOk X pins H' b := fun hn b hb => ⟨hn b hb, (f2 b hb).2⟩
  refine codeAny_forLoop_any (fun n s' => ∃ i σ' H', Inv X pins σ' H' s' ∧ tn i s'.heap H' ∧ (∀ b ∈ fp, H' b = none) ∧ W i n σ' H') ?_ m0 ⟨0, σ, H2, I2, st2, fun b hb => (f2 b hb).1, w0⟩
  rintro n s3 ⟨i, σ3, H3, I3, st3, fr3, w3⟩
  rcases turn i n σ3 H3 w3 with ⟨stop, qn⟩ | ⟨go, N, hN, step⟩
  · refine wpAny_passesOwn hp (thn (T.done X rfl rfl rfl hc i pins s3 σ3 H3 X.xe I3 (stat fr3) st3 stop) fun r s4 ⟨hr, I4⟩ => ?_)
    subst hr
    exact wpAny_execs_nil ⟨σ3, H3, I4, qn⟩
  · refine wpAny_passesOwn hp (thn (T.item X rfl rfl rfl hc i pins s3 σ3 H3 X.xe I3 (stat fr3) st3 go) fun r s4 ⟨u, hr, h4⟩ => ?_)
    subst hr
    refine wpAny_passesOwn hp (thn h4 fun _ s5 ⟨x, H5, I5, r5, y5, st5, fr5⟩ => ?_)
    have I5' := I5.pinned (stat fr5) (T.obj _ _ _ st5)
    refine wpAny_passesOwn hp (thn (hg.run _ s5 σ3 H5 x u _ I5' r5 (step x H5 y5)) fun _ s6 ⟨σ6, H6, I6, q6⟩ => ?_)
    refine wpAny_passesOwn hp (thn (hb.run _ s6 σ6 H6 _ I6 q6) fun f s7 q7 => ?_)
    have again : ∀ {σ7 : St} {H7 : Hp}, Inv X (pins ++ pinsAt fp s5.heap) σ7 H7 s7 → N H5 σ7 H7 → ∃ m, m < n ∧ ∃ i σ' H', Inv X pins σ' H' s7 ∧ tn i s7.heap H' ∧ (∀ b ∈ fp, H' b = none) ∧ W i m σ' H' := fun {σ7 H7} I7 n7 => by
      obtain ⟨k7, m', hm, w7⟩ := hN H5 σ7 H7 n7
      refine ⟨m', hm, i + 1, σ7, H7, I7.unpinned, T.keep _ _ _ _ _ st5 (fun b hb o e => (I7.pin (b, o) (List.mem_append_right _ (List.mem_append_right _ (mem_pinsAt hb e)))).1) k7, fun b hb => ?_, w7⟩
      obtain ⟨o, e, d⟩ := T.obj _ _ _ st5 b hb
      exact (I7.pin (b, o) (List.mem_append_right _ (List.mem_append_right _ (mem_pinsAt hb e)))).2.1
    cases f with
    | next => obtain ⟨σ7, H7, I7, n7⟩ := q7; exact again I7 n7
    | cont => obtain ⟨σ7, H7, I7, n7⟩ := q7; exact again I7 n7
    | brk => obtain ⟨σ7, H7, I7, q7⟩ := q7; exact ⟨σ7, H7, I7.unpinned, q7⟩
    | ret v => obtain ⟨y, σ7, H7, I7, r7, q7⟩ := q7; exact ⟨y, σ7, H7, I7.unpinned, r7, q7⟩

def tLcM (wi : TI) (g : TG) (tt : TT) (te : TE) (vs : List Nat) : TE := fun σ H Q => wi σ H fun J H1 => ∀ D, H1 D = none → ∃ W : Nat → Nat → Hp → Prop, (∃ m, W 0 m (upd H1 D (.lst []))) ∧ ∀ i m H, W i m H →
  (J.stop i H ∧ Q (.ref D) H) ∨ (J.go i H ∧ ∃ Nx : Hp → Hp → Prop, (∀ H5 H', Nx H5 H' → Kept H5 H' ∧ ∃ m', m' < m ∧ W (i + 1) m' H') ∧ ∀ x H', J.yld i H x H' → g x (wipe σ vs) H' fun σ2 H2 => wipe σ2 vs = wipe σ vs ∧ tt σ2 H2 fun b H3 =>
    if b = true then te σ2 H3 fun y H4 => ∃ acc, H4 D = some (.lst acc) ∧ acc.length < sizeLine ∧ Nx H' (upd H4 D (.lst (acc ++ [y]))) else Nx H' H3)
theorem lcM_core {pins : List (Addr × Obj)} {s : Shared} {σ : St} {H : Hp} {Q : VK} {elt tg iter : Expr} {ifs : List Expr} {scope : Scope} {own : List (Str × Nat)} {pos pos' : Pos} {wi : TI} {g : TG} {tt : TT} {te : TE} {use : Option (Value → Sem Unit)} {Qf : Value → Shared → Prop}
    (hc : X.calm = true) (hN : X.N.Nodup) (I : Inv X pins σ H s) (hi : PIM X tg iter wi) (ok : BlkOk X.N X.env.scope scope own)
    (hg : ∀ (s : Shared) (H : Hp) (C : Addr) (cl : List (Str × Addr)) (fp : List Addr), PG (X.blk s H scope (compEnvC scope cl C X.env) fp) tg g) (ht : ∀ (s : Shared) (H : Hp) (C : Addr) (cl : List (Str × Addr)) (fp : List Addr), PTs (X.blk s H scope (compEnvC scope cl C X.env) fp) ifs tt)
    (he : ∀ (s : Shared) (H : Hp) (C : Addr) (cl : List (Str × Addr)) (fp : List Addr), PE (X.blk s H scope (compEnvC scope cl C X.env) fp) elt te) (hs : ∀ x, foldedSetIterable iter X.env x = pure x)
    (h : tLcM wi g tt te (own.map (·.2)) σ H Q)
    (hRR : ∀ D C s' m H', Inv X pins σ H' s' → Q (.ref D) H' → s'.heap.Ns C m → FpOk X pins H' C → compPost (model X.prog X.w) X.A X.xe use Qf (.ref D) C (.ok .next) s') :
    wpAny (model X.prog X.w) X.A (comprehension (.ListComp elt [⟨tg, iter, ifs, 0⟩] scope pos) scope X.env pos' (newList []) false (eval iter X.env) use) Qf X.xe s := by
  have hfree : ∀ y ∈ scope.names, y.2 = .free → ∃ c, X.env.cells.lookup y.1 = some c := fun y hy e => by
    rcases ok.free y hy e with k | k
    · exact I.ok.has _ (.inl k)
    · exact I.ok.has _ (.inr k)
  refine wpAny_comprehension_free (use := use) rfl hs (closure_ok hfree) ok.kind (fun y hy e => by rw [ok.uniq y hy, e])
    (thn (hi.run pins s σ H _ I h) fun xv s1 hx => thn hx fun itv s2 h2 => ?_)
  obtain ⟨it, fp, tn, J, H2, e, I2, T, st2, f2, q⟩ := h2
  subst e
  refine wpAny_newObj_type (newEnv_comp ?_) (by show 0 ≤ sizeLine; decide)
  generalize hD : s2.heap.objs.size = D
  have hDn : H2 D = none := I2.hok.fresh (Nat.le_of_eq hD)
  obtain ⟨W, ⟨m0, w0⟩, turn⟩ := q D hDn
  generalize hs3 : ({ s2 with heap := s2.heap.push { cls := .type "list", data := .seq ([] : List Value).toArray } } : Shared) = s3
  have I3 : Inv X pins σ (upd H2 D (.lst [])) s3 := by
    rw [← hs3]
    refine I2.laid (t' := s2.toks) (fun b o e => Heap.get?_push_of_some _ e) (Nat.le_of_eq hD) ⟨Nat.zero_le _, [], 0, .nil, ?_⟩
    rw [← hD]
    exact Heap.get?_push_size _ rfl
  have h3 : s3.heap = s2.heap.push { cls := .type "list", data := .seq ([] : List Value).toArray } := by rw [← hs3]
  have sz : ∀ b ∈ fp, b < s2.heap.objs.size := fun b hb => by
    obtain ⟨o, e, _⟩ := T.obj _ _ _ st2 b hb
    exact Heap.lt_size e
  have f3 : ∀ b ∈ fp, FpOk X pins (upd H2 D (.lst [])) b ∧ b < s3.heap.objs.size := fun b hb => by
    have hlt := sz b hb
    refine ⟨⟨?_, (f2 b hb).2⟩, by rw [h3, Heap.size_push]; exact Nat.lt_succ_of_lt hlt⟩
    rw [upd_ne (by rw [← hD]; exact Nat.ne_of_lt hlt)]
    exact (f2 b hb).1
  have st3 : tn 0 s3.heap (upd H2 D (.lst [])) := T.keep _ _ _ _ _ st2 (fun b _ o e => by rw [h3]; exact Heap.get?_push_of_some _ e) (Kept.new hDn)
  have I4 := block_start I3 ok hN f3
  have pg := hg s3 (upd H2 D (.lst [])) s3.heap.objs.size (cellsFrom (s3.heap.objs.size + 1) scope.names (cloFrom X.env.cells scope.names [])) fp
  have pt := ht s3 (upd H2 D (.lst [])) s3.heap.objs.size (cellsFrom (s3.heap.objs.size + 1) scope.names (cloFrom X.env.cells scope.names [])) fp
  have pe := he s3 (upd H2 D (.lst [])) s3.heap.objs.size (cellsFrom (s3.heap.objs.size + 1) scope.names (cloFrom X.env.cells scope.names [])) fp
  show codeAny _ _ (.compStart (.ListComp elt [⟨tg, iter, ifs, 0⟩] scope pos) 0 (.ref it) (.ref D) (compEnvC scope (cellsFrom (s3.heap.objs.size + 1) scope.names (cloFrom X.env.cells scope.names [])) s3.heap.objs.size X.env)) (compPost (model X.prog X.w) X.A X.xe use Qf (.ref D) s3.heap.objs.size) { s3 with heap := pushCells (s3.heap.push { cls := .type "dict", data := .dict #[] }) scope.names }
  have nfp : ∀ b ∈ fp, (upd H2 D (.lst [])) b = none := fun b hb => (f3 b hb).1.1
  generalize hce : compEnvC scope (cellsFrom (s3.heap.objs.size + 1) scope.names (cloFrom X.env.cells scope.names [])) s3.heap.objs.size X.env = ce at I4 pg pt pe ⊢
  have cL : ce.locals = s3.heap.objs.size := by subst hce; rfl
  generalize hH3 : upd H2 D (.lst []) = H3 at I3 I4 pg pt pe w0 nfp f3 st3
  generalize hs4 : ({ s3 with heap := pushCells (s3.heap.push { cls := .type "dict", data := .dict #[] }) scope.names } : Shared) = s4 at I4 ⊢
  have st4 : tn 0 s4.heap H3 := T.keep _ _ _ _ _ st3 (fun b _ o e => by rw [← hs4]; exact pushCells_keeps _ _ _ _ (Heap.get?_push_of_some _ e)) (Kept.refl _)
  have stat : ∀ {σ' : St} {H' : Hp} {s' : Shared}, Inv (X.blk s3 H3 scope ce fp) [] σ' H' s' → (∀ b ∈ fp, H' b = none) → ∀ b ∈ fp, FpOk (X.blk s3 H3 scope ce fp) [] H' b := fun {σ' H' s'} I' hn b hb =>
    ⟨hn b hb, (I'.ok.exf b hb).1, I'.ok.exfs b hb, .inl hb, fun x c e => (I'.ok.exf b hb).2 x c e, fun p hp => absurd (show p ∈ ([] : List (Addr × Obj)) ++ [] from hp) (by simp)⟩
  have loop : codeAny (model X.prog X.w) X.A (.compLoop (.ListComp elt [⟨tg, iter, ifs, 0⟩] scope pos) 0 (.ref it) (.ref D) ce) (compPost (model X.prog X.w) X.A X.xe use Qf (.ref D) s3.heap.objs.size) s4 := by
    refine compLoop_any (fun n s' => ∃ i H', Inv (X.blk s3 H3 scope ce fp) [] (wipe σ (own.map (·.2))) H' s' ∧ tn i s'.heap H' ∧ (∀ b ∈ fp, H' b = none) ∧ W i n H') ?_ m0 ⟨0, H3, I4, st4, nfp, w0⟩
    rintro n s5 ⟨i, H5, I5, st5, n5, w5⟩
    rcases turn i n H5 w5 with ⟨stop, qq⟩ | ⟨go, Nx, hNx, step⟩
    · have td := T.done (X.blk s3 H3 scope ce fp) rfl rfl rfl hc i [] s5 _ H5 (fun _ _ => False) I5 (stat I5 n5) st5 stop
      refine thnF td fun r s6 ⟨hr, I6⟩ => ?_
      subst hr
      have I7 : Inv X pins σ H5 s6 := I3.call' (ch := fp) I6.os I6.base I6.hok I6.bare fun b hb => ⟨(f3 b hb).1.2.2.2.1, (f3 b hb).1.2.1, (f3 b hb).1.2.2.2.2.1, (f3 b hb).1.2.2.2.2.2⟩
      have nC : H5 s3.heap.objs.size = none := by
        have z : H5 ce.locals = none := I6.free
        rw [cL] at z
        exact z
      obtain ⟨m, hn, _⟩ := I6.loc
      have hn : s6.heap.Ns ce.locals m := hn
      rw [cL] at hn
      exact hRR D s3.heap.objs.size s6 m H5 I7 qq hn (I3.fpOk (Nat.le_refl _) nC)
    · have ti := T.item (X.blk s3 H3 scope ce fp) rfl rfl rfl hc i [] s5 _ H5 (fun _ _ => False) I5 (stat I5 n5) st5 go
      refine thnF ti fun r s6 ⟨u, hr, h6⟩ => ?_
      subst hr
      refine thnF h6 fun _ s7 ⟨x, H7, I7, r7, y7, st7, n7⟩ => ?_
      have I7' := I7.pinned (stat I7 n7) (T.obj _ _ _ st7)
      refine thnF (pg.run _ s7 _ H7 x u _ I7' r7 (step x H7 y7)) fun _ s8 ⟨σ8, H8, I8, hw8, q8⟩ => ?_
      refine thnF (pt.run _ s8 σ8 H8 _ I8 q8) fun b s9 ⟨H9, I9, q9⟩ => ?_
      have fin : ∀ {s' : Shared} {H' : Hp}, Inv (X.blk s3 H3 scope ce fp) ([] ++ pinsAt fp s7.heap) σ8 H' s' → Nx H7 H' → ∃ m, m < n ∧ ∃ i H', Inv (X.blk s3 H3 scope ce fp) [] (wipe σ (own.map (·.2))) H' s' ∧ tn i s'.heap H' ∧ (∀ b ∈ fp, H' b = none) ∧ W i m H' := fun {s' H'} I' nx => by
        obtain ⟨kk, m', hm, w'⟩ := hNx H7 H' nx
        have pin' : ∀ b ∈ fp, ∀ o, s7.heap.get? b = some o → s'.heap.get? b = some o ∧ H' b = none := fun b hb o e =>
          let z := I'.pin (b, o) (List.mem_append_right _ (List.mem_append_right _ (mem_pinsAt hb e)))
          ⟨z.1, z.2.1⟩
        have hl : (wipe σ (own.map (·.2))).length = σ8.length := by rw [← hw8, wipe_length]
        refine ⟨m', hm, i + 1, H', (I'.unpinned (pins := [])).weak hl (fun j v e => ?_), T.keep _ _ _ _ _ st7 (fun b hb o e => (pin' b hb o e).1) kk, fun b hb => ?_, w'⟩
        · rw [← hw8] at e
          exact (wipe_some e).1
        · obtain ⟨o, e, _⟩ := T.obj _ _ _ st7 b hb
          exact (pin' b hb o e).2
      cases b with
      | false =>
        simp only [Bool.false_eq_true, if_false] at q9 ⊢
        exact fin I9 q9
      | true =>
        simp only [if_true] at q9 ⊢
        refine thnF (pe.run _ s9 σ8 H9 _ I9 q9) fun z s10 ⟨yv, H10, I10, r10, acc, hD10, hz10, nx⟩ => ?_
        exact app_ok (X := X.blk s3 H3 scope ce fp) I10 hD10 hz10 r10 fun s11 I11 => fin I11 nx
  exact codeAny_compStart_list loop (T.self X.A 0 _ _ _ _ st4 loop)
theorem pe_lcM {elt tg iter : Expr} {ifs : List Expr} {scope : Scope} {own : List (Str × Nat)} {pos : Pos} {wi : TI} {g : TG} {tt : TT} {te : TE} (hc : X.calm = true) (hN : X.N.Nodup) (hi : PIM X tg iter wi) (ok : BlkOk X.N X.env.scope scope own)
    (hg : ∀ (s : Shared) (H : Hp) (C : Addr) (cl : List (Str × Addr)) (fp : List Addr), PG (X.blk s H scope (compEnvC scope cl C X.env) fp) tg g) (ht : ∀ (s : Shared) (H : Hp) (C : Addr) (cl : List (Str × Addr)) (fp : List Addr), PTs (X.blk s H scope (compEnvC scope cl C X.env) fp) ifs tt)
    (he : ∀ (s : Shared) (H : Hp) (C : Addr) (cl : List (Str × Addr)) (fp : List Addr), PE (X.blk s H scope (compEnvC scope cl C X.env) fp) elt te) (hs : ∀ x, foldedSetIterable iter X.env x = pure x := by intro _; rfl) :
    PE X (.ListComp elt [⟨tg, iter, ifs, 0⟩] scope pos) (tLcM wi g tt te (own.map (·.2))) := by
  refine ⟨fun pins s σ H Q I h => ?_⟩
  rw [eval_ListComp]
  refine lcM_core hc hN I hi ok hg ht he hs h fun D C s' m H' I' q hn f => ⟨m, hn, fun h'' sb => ?_⟩
  obtain ⟨f0, f1, f2, f3, f4, f5⟩ := f
  exact ⟨.ref D, H', I'.turned (t' := s'.toks) (fun b o hb e => (sb.2 b hb).trans e) f0 f1 f3 f4 f5, rfl, q⟩
theorem ps_setLcM {i : Nat} {y : Str} {py : Pos} {elt tg iter : Expr} {ifs : List Expr} {scope : Scope} {own : List (Str × Nat)} {pos spos : Pos} {wi : TI} {g : TG} {tt : TT} {te : TE} (hc : X.calm = true) (hN : X.N.Nodup) (hy : X.N[i]? = some y) (hyl : X.env.scope.names.lookup y = some .local)
    (hsw : swapsWith (.ListComp elt [⟨tg, iter, ifs, 0⟩] scope pos) (some (.Name y py)) spos.line X.env = pure true) (hi : PIM X tg iter wi) (ok : BlkOk X.N X.env.scope scope own)
    (hg : ∀ (s : Shared) (H : Hp) (C : Addr) (cl : List (Str × Addr)) (fp : List Addr), PG (X.blk s H scope (compEnvC scope cl C X.env) fp) tg g) (ht : ∀ (s : Shared) (H : Hp) (C : Addr) (cl : List (Str × Addr)) (fp : List Addr), PTs (X.blk s H scope (compEnvC scope cl C X.env) fp) ifs tt)
    (he : ∀ (s : Shared) (H : Hp) (C : Addr) (cl : List (Str × Addr)) (fp : List Addr), PE (X.blk s H scope (compEnvC scope cl C X.env) fp) elt te) (hs : ∀ x, foldedSetIterable iter X.env x = pure x := by intro _; rfl) :
    PS X (.Assign [.Name y py] (.ListComp elt [⟨tg, iter, ifs, 0⟩] scope pos) spos) (tAsg (tLcM wi g tt te (own.map (·.2))) (gName i)) := by
  refine ⟨fun pins s σ H D I h => ?_⟩
  rw [exec_Assign_Name_used _ _ _ _ hsw]
  refine wpAny_bind (wpAny_standAt (wpAny_bind ?_))
  show wpAny _ X.A (do let _ ← comprehension (.ListComp elt [⟨tg, iter, ifs, 0⟩] scope pos) scope X.env (firstIterPos [⟨tg, iter, ifs, 0⟩] pos) (newList []) false (eval iter X.env) (some (assign (.Name y py) X.env))) _ _ s
  have h : tLcM wi g tt te (own.map (·.2)) σ H (fun x H1 => gName i x σ H1 D.nx) := h
  refine wpAny_bind (thn (lcM_core (Qf := fun _ s' => SP X pins D .next s') hc hN I hi ok hg ht he hs h fun L C s' m H' I' q hn f => ?_) fun _ s' hq => wpAny_pure (wpAny_pure hq))
  show wpAny _ _ (assign (.Name y py) X.env (.ref L)) _ _ _
  refine wpAny_assign_Name (store_ok2 (v := V.ref L) I' hN hy (.inl hyl) rfl (fun s2 I2 ⟨a, sb, ha⟩ => ?_) (.inr hyl))
  obtain ⟨f0, f1, f2, f3, f4, f5⟩ := f
  have haC : C ≠ a := by
    rcases ha with z | z
    · rw [z]; exact f1
    · exact fun e => f4 y a z e.symm
  refine ⟨m, hn.sameBut sb haC, fun h3 sb3 => ?_⟩
  exact ⟨_, H', I2.turned (t' := s2.toks) (fun b o hb e => (sb3.2 b hb).trans e) f0 f1 f3 f4 f5, q⟩
end
end M
set_option Elab.async false
set_option maxRecDepth 100000
set_option linter.unusedVariables false
set_option maxHeartbeats 1000000
/-! Layer M, part F: lists and tuples as sources; zip of two and three, enumerate, enumerate of zip. -/
namespace M
open PySem PySem.Spec PyProof.Rows L2

inductive Src where
  | l (a : Addr) | t (a : Addr)
namespace Src
def ad : Src → Addr
  | .l a => a
  | .t a => a
def on (K : PySem.W.Frag) (H : Hp) (xs : List V) : Src → Prop
  | .l a => SqL K H a xs
  | .t a => SqT K H a xs
def tn (h : Heap) (it : Addr) (i : Nat) : Src → Prop
  | .l a => h.IsListIter it a i
  | .t a => h.IsTupleIter it a i
def is (h : Heap) (its : Array Value) : Src → Prop
  | .l a => h.IsList a its
  | .t a => h.IsTuple a its
def ob : Src → Obj
  | .l a => { cls := .type "list_iterator", data := .fields #[.ref a, .int 0 0] }
  | .t a => { cls := .type "tuple_iterator", data := .fields #[.ref a, .int 0 0] }
end Src
theorem src_draws {prog : Program} {w : World} {A : Around} (hh : A.handled = none) (s : Src) (it : Addr) (hne : s.ad ≠ it) (items : Array Value) :
    Draws prog w A it [it, s.ad] items.size (fun i v => items[i]? = some v) (fun i h => s.tn h it i ∧ s.is h items) := by
  cases s with
  | l a => exact Draws.list hh it a hne items
  | t a => exact Draws.tuple hh it a hne items
theorem src_begins (s : Src) (items : Array Value) : Begins (.ref s.ad) s.ob fun h => s.is h items := by
  cases s with
  | l a => exact begins_list a items
  | t a => exact begins_tuple a items
theorem src_of {X : Cx} {pins : List (Addr × Obj)} {σ : St} {H : Hp} {s : Shared} {c : Src} {xs : List V} (I : Inv X pins σ H s) (h : c.on X.K H xs) : ∃ its : List Value, Vals xs its ∧ c.is s.heap its.toArray ∧ c.ad < s.heap.objs.size := by
  cases c with
  | l a =>
    obtain ⟨its, rv, p, _⟩ := I.list h
    exact ⟨its, rv, p.isList, p.lt⟩
  | t a =>
    obtain ⟨its, rv, p, _⟩ := I.tuple h
    obtain ⟨o, ho, _⟩ := id p
    exact ⟨its, rv, show s.heap.IsTuple a its.toArray from p, Heap.lt_size ho⟩
theorem src_inj {X : Cx} {pins : List (Addr × Obj)} {σ : St} {H : Hp} {s : Shared} {c : Src} {xs ys : List V} (I : Inv X pins σ H s) (h : c.on X.K H xs) (h' : c.on X.K H ys) : xs = ys := by
  cases c with
  | l a => exact I.list_inj h h'
  | t a => exact I.tuple_inj h h'
theorem src_obj {c : Src} {h : Heap} {it : Addr} {i : Nat} (st : c.tn h it i) : ∃ o, h.get? it = some o ∧ ∀ v, o.data ≠ .cell v := by
  cases c with
  | l a => obtain ⟨o, e, _, d⟩ := st; exact ⟨o, e, fun v q => by rw [d] at q; cases q⟩
  | t a => obtain ⟨o, e, _, d⟩ := st; exact ⟨o, e, fun v q => by rw [d] at q; cases q⟩
theorem src_at {c : Src} {h h' : Heap} {it : Addr} {i : Nat} (st : c.tn h it i) (k : ∀ o, h.get? it = some o → h'.get? it = some o) : c.tn h' it i := by
  cases c with
  | l a => exact Heap.IsListIter.at st k
  | t a => exact Heap.IsTupleIter.at st k
theorem src_ob {c : Src} {h : Heap} {it : Addr} (e : h.get? it = some c.ob) : c.tn h it 0 := by
  cases c with
  | l a => exact ⟨_, e, rfl, rfl⟩
  | t a => exact ⟨_, e, rfl, rfl⟩
theorem src_get {xs : List V} {its : List Value} (r : Vals xs its) {i : Nat} {u : Value} (e : its.toArray[i]? = some u) : ∃ x, xs[i]? = some x ∧ RelV x u := by
  have hi : i < its.length := by
    have := (Array.getElem?_eq_some_iff.mp e).1
    simpa using this
  have hl := r.length
  have hx : xs[i]? = some xs[i] := List.getElem?_eq_getElem (by omega)
  obtain ⟨u', hu, ru⟩ := r.get hx
  have e' : its[i]? = some u := by simpa using e
  rw [e'] at hu; cases hu
  exact ⟨_, hx, ru⟩

/-! ### zip of two -/
def Itz2 (K : PySem.W.Frag) (a b : Src) : It :=
  ⟨fun i H => ∃ (xs ys : List V) (x y : V), a.on K H xs ∧ b.on K H ys ∧ xs[i]? = some x ∧ ys[i]? = some y,
    fun i H v H' => ∃ T x y, v = .ref T ∧ H T = none ∧ H' = upd H T (.tup [x, y]) ∧ (∀ xs, a.on K H xs → xs[i]? = some x) ∧ ∀ ys, b.on K H ys → ys[i]? = some y,
    fun i H => ∃ xs ys : List V, a.on K H xs ∧ b.on K H ys ∧ (xs.length = i ∧ i ≤ ys.length ∨ ys.length = i ∧ i ≤ xs.length)⟩
theorem turn_z2 {P : Program} {w : World} {K : PySem.W.Frag} {elts : List Expr} {kk : Nat} {tpos : Pos} {a b : Src} {z TI TO i1 i2 : Addr} (S : ZipSep2 z TI TO i1 i2 [i1, a.ad] [i2, b.ad]) (n1 : a.ad ≠ i1) (n2 : b.ad ≠ i2) :
    Turn P w K (.Tuple elts kk tpos) (Itz2 K a b) [z, TI, TO, i1, i2] z (fun i h => IsZip h z TI TO .none ∧ IsTupOf2 h TI (.ref i1) (.ref i2) ∧ (∃ x y, IsTupOf2 h TO x y) ∧ a.tn h i1 i ∧ b.tn h i2 i) where
  mem := by simp
  obj := fun i h st c hc => by
    obtain ⟨hz, hTI, ⟨x, y, hTO⟩, h1, h2⟩ := st
    have e' : c = z ∨ c = TI ∨ c = TO ∨ c = i1 ∨ c = i2 := by simpa using hc
    rcases e' with q | q | q | q | q
    · rw [q]; exact ⟨_, hz, fun v q => nomatch q⟩
    · rw [q]; exact ⟨_, hTI, fun v q => nomatch q⟩
    · rw [q]; exact ⟨_, hTO, fun v q => nomatch q⟩
    · rw [q]; exact src_obj h1
    · rw [q]; exact src_obj h2
  keep := fun i h h' st k => by
    obtain ⟨hz, hTI, ⟨x, y, hTO⟩, h1, h2⟩ := st
    exact ⟨k z (by simp) _ hz, k TI (by simp) _ hTI, ⟨x, y, k TO (by simp) _ hTO⟩, src_at h1 fun o q => k i1 (by simp) o q, src_at h2 fun o q => k i2 (by simp) o q⟩
  item := by
    intro X hP hw hK hc i pins s σ H E I hf st hg
    subst hP hw hK
    obtain ⟨hz, hTI, ⟨x0, y0, hTO⟩, h1, h2⟩ := st
    obtain ⟨xs, ys, x, y, hqx, hqy, hx, hy⟩ := hg
    obtain ⟨its, rv, p, _⟩ := src_of I hqx
    obtain ⟨its2, rv2, p2, _⟩ := src_of I hqy
    have hh : X.A.in1.handled = none := I.ok.hd hc
    have hzl : z < s.heap.objs.size := Heap.lt_size hz
    have l1 : i < its.toArray.size := by have := (List.getElem?_eq_some_iff.mp hx).1; have := rv.length; simp; omega
    have l2 : i < its2.toArray.size := by have := (List.getElem?_eq_some_iff.mp hy).1; have := rv2.length; simp; omega
    refine wpAny_pyNext_zipD2_item S (src_draws hh a i1 n1 its.toArray) (src_draws hh b i2 n2 its2.toArray) hz hTI hTO ⟨h1, p⟩ ⟨h2, p2⟩ l1 l2 fun u u2 h' tk hu hu2 z' TO' d1 d2 hT hsz hk => ?_
    refine ⟨_, rfl, wpAny_letOwnedTupleGo_zip (s := { s with heap := h', toks := tk }) z' fun h'' z'' sb => ?_⟩
    obtain ⟨x', hx', ru⟩ := src_get rv hu
    obtain ⟨y', hy', ru2⟩ := src_get rv2 hu2
    rw [hx] at hx'; cases hx'
    rw [hy] at hy'; cases hy'
    have hT2 : h''.get? s.heap.objs.size = some { cls := .type "tuple", data := .seq #[u, u2] } := (sb.2 _ (Nat.ne_of_gt hzl)).trans hT
    have new : ObjOk X.prog X.w (upd H s.heap.objs.size (.tup [x, y])) h'' s.heap.objs.size (.tup [x, y]) :=
      ⟨by show 2 ≤ sizeLine; decide, [u, u2], .cons ru (.cons ru2 .nil), ⟨_, hT2, rfl, _, rfl⟩⟩
    have I1 : Inv X pins σ (upd H s.heap.objs.size (.tup [x, y])) { s with heap := h'', toks := tk } :=
      I.turnedNew (t' := tk) (ch := [z, TI, TO, i1, i2]) (fun c o hb q => (sb.2 c (fun q' => hb (by simp [q']))).trans (hk c o (fun q' => hb (by simp [q'])) (fun q' => hb (by simp [q'])) (fun q' => hb (by simp [q'])) (fun q' => hb (by simp [q'])) q)) hf (Nat.le_refl _) new
    refine ⟨.ref s.heap.objs.size, _, I1, rfl, ⟨_, x, y, rfl, I.hok.fresh (Nat.le_refl _), rfl, fun l hl => by rw [src_inj I hl hqx]; exact hx, fun l hl => by rw [src_inj I hl hqy]; exact hy⟩, ⟨z'', ?_, ⟨u, u2, ?_⟩, ?_, ?_⟩, fun c hcm => ?_⟩
    · exact (sb.2 _ S.TIz).trans (hk _ _ S.TIz S.TITO S.TIi1 S.TIi2 hTI)
    · exact (sb.2 _ S.TOz).trans TO'
    · exact src_at d1.1 fun o q => (sb.2 _ S.zi1.symm).trans q
    · exact src_at d2.1 fun o q => (sb.2 _ S.zi2.symm).trans q
    · have hlt : c < s.heap.objs.size := by
        have e' : c = z ∨ c = TI ∨ c = TO ∨ c = i1 ∨ c = i2 := by simpa using hcm
        rcases e' with q | q | q | q | q
        · rw [q]; exact hzl
        · rw [q]; exact Heap.lt_size hTI
        · rw [q]; exact Heap.lt_size hTO
        · rw [q]; obtain ⟨_, e1, _⟩ := src_obj h1; exact Heap.lt_size e1
        · rw [q]; obtain ⟨_, e2, _⟩ := src_obj h2; exact Heap.lt_size e2
      rw [upd_ne (Nat.ne_of_lt hlt)]
      exact (hf c hcm).1
  done := by
    intro X hP hw hK hc i pins s σ H E I hf st hg
    subst hP hw hK
    obtain ⟨hz, hTI, ⟨x0, y0, hTO⟩, h1, h2⟩ := st
    obtain ⟨xs, ys, hqx, hqy, hend⟩ := hg
    obtain ⟨its, rv, p, _⟩ := src_of I hqx
    obtain ⟨its2, rv2, p2, _⟩ := src_of I hqy
    have hh : X.A.in1.handled = none := I.ok.hd hc
    have l1 := rv.length
    have l2 := rv2.length
    refine wpAny_pyNext_zipD2_end S (src_draws hh a i1 n1 its.toArray) (src_draws hh b i2 n2 its2.toArray) hz hTI hTO ⟨h1, p⟩ ⟨h2, p2⟩ (by simp; omega) (by simp; omega) (by simp; omega) fun h' tk hk => ⟨rfl, I.turnedL (t' := tk) (ch := [z, TI, TO, i1, i2]) (fun c o hb q =>
      hk c o (fun q' => hb (by simp [q'])) (fun q' => hb (by simp [q'])) (fun q' => hb (by simp [q'])) (fun q' => hb (by simp [q'])) q) hf⟩
  self := fun A i s Q E st h => wpAny_pyIter_zip st.1 h

/-! ### zip of three -/
def Itz3 (K : PySem.W.Frag) (a b c : Src) : It :=
  ⟨fun i H => ∃ (xs ys zs : List V) (x y z : V), a.on K H xs ∧ b.on K H ys ∧ c.on K H zs ∧ xs[i]? = some x ∧ ys[i]? = some y ∧ zs[i]? = some z,
    fun i H v H' => ∃ T x y z, v = .ref T ∧ H T = none ∧ H' = upd H T (.tup [x, y, z]) ∧ (∀ xs, a.on K H xs → xs[i]? = some x) ∧ (∀ ys, b.on K H ys → ys[i]? = some y) ∧ ∀ zs, c.on K H zs → zs[i]? = some z,
    fun i H => ∃ xs ys zs : List V, a.on K H xs ∧ b.on K H ys ∧ c.on K H zs ∧ (i ≤ xs.length ∧ i ≤ ys.length ∧ i ≤ zs.length) ∧ (xs.length = i ∨ ys.length = i ∨ zs.length = i)⟩
theorem turn_z3 {P : Program} {w : World} {K : PySem.W.Frag} {elts : List Expr} {kk : Nat} {tpos : Pos} {a b c : Src} {z TI TO i1 i2 i3 : Addr} (S : ZipSep3 z TI TO i1 i2 i3 [i1, a.ad] [i2, b.ad] [i3, c.ad]) (n1 : a.ad ≠ i1) (n2 : b.ad ≠ i2) (n3 : c.ad ≠ i3) :
    Turn P w K (.Tuple elts kk tpos) (Itz3 K a b c) [z, TI, TO, i1, i2, i3] z (fun i h => IsZip h z TI TO .none ∧ IsTupOf3 h TI (.ref i1) (.ref i2) (.ref i3) ∧ (∃ x y u, IsTupOf3 h TO x y u) ∧ a.tn h i1 i ∧ b.tn h i2 i ∧ c.tn h i3 i) where
  mem := by simp
  obj := fun i h st d hc => by
    obtain ⟨hz, hTI, ⟨x, y, u, hTO⟩, h1, h2, h3⟩ := st
    have e' : d = z ∨ d = TI ∨ d = TO ∨ d = i1 ∨ d = i2 ∨ d = i3 := by simpa using hc
    rcases e' with q | q | q | q | q | q
    · rw [q]; exact ⟨_, hz, fun v q => nomatch q⟩
    · rw [q]; exact ⟨_, hTI, fun v q => nomatch q⟩
    · rw [q]; exact ⟨_, hTO, fun v q => nomatch q⟩
    · rw [q]; exact src_obj h1
    · rw [q]; exact src_obj h2
    · rw [q]; exact src_obj h3
  keep := fun i h h' st k => by
    obtain ⟨hz, hTI, ⟨x, y, u, hTO⟩, h1, h2, h3⟩ := st
    exact ⟨k z (by simp) _ hz, k TI (by simp) _ hTI, ⟨x, y, u, k TO (by simp) _ hTO⟩, src_at h1 fun o q => k i1 (by simp) o q, src_at h2 fun o q => k i2 (by simp) o q, src_at h3 fun o q => k i3 (by simp) o q⟩
  item := by
    intro X hP hw hK hc i pins s σ H E I hf st hg
    subst hP hw hK
    obtain ⟨hz, hTI, ⟨x0, y0, u0, hTO⟩, h1, h2, h3⟩ := st
    obtain ⟨xs, ys, zs, x, y, zz, hqx, hqy, hqz, hx, hy, hzz⟩ := hg
    obtain ⟨its, rv, p, _⟩ := src_of I hqx
    obtain ⟨its2, rv2, p2, _⟩ := src_of I hqy
    obtain ⟨its3, rv3, p3, _⟩ := src_of I hqz
    have hh : X.A.in1.handled = none := I.ok.hd hc
    have hzl : z < s.heap.objs.size := Heap.lt_size hz
    have l1 : i < its.toArray.size := by have := (List.getElem?_eq_some_iff.mp hx).1; have := rv.length; simp; omega
    have l2 : i < its2.toArray.size := by have := (List.getElem?_eq_some_iff.mp hy).1; have := rv2.length; simp; omega
    have l3 : i < its3.toArray.size := by have := (List.getElem?_eq_some_iff.mp hzz).1; have := rv3.length; simp; omega
    refine wpAny_pyNext_zipD3_item S (src_draws hh a i1 n1 its.toArray) (src_draws hh b i2 n2 its2.toArray) (src_draws hh c i3 n3 its3.toArray) hz hTI hTO ⟨h1, p⟩ ⟨h2, p2⟩ ⟨h3, p3⟩ l1 l2 l3 fun u u2 u3 h' tk hu hu2 hu3 z' TO' d1 d2 d3 hT hsz hk => ?_
    refine ⟨_, rfl, wpAny_letOwnedTupleGo_zip (s := { s with heap := h', toks := tk }) z' fun h'' z'' sb => ?_⟩
    obtain ⟨x', hx', ru⟩ := src_get rv hu
    obtain ⟨y', hy', ru2⟩ := src_get rv2 hu2
    obtain ⟨w', hw', ru3⟩ := src_get rv3 hu3
    rw [hx] at hx'; cases hx'
    rw [hy] at hy'; cases hy'
    rw [hzz] at hw'; cases hw'
    have hT2 : h''.get? s.heap.objs.size = some { cls := .type "tuple", data := .seq #[u, u2, u3] } := (sb.2 _ (Nat.ne_of_gt hzl)).trans hT
    have new : ObjOk X.prog X.w (upd H s.heap.objs.size (.tup [x, y, zz])) h'' s.heap.objs.size (.tup [x, y, zz]) :=
      ⟨by show 3 ≤ sizeLine; decide, [u, u2, u3], .cons ru (.cons ru2 (.cons ru3 .nil)), ⟨_, hT2, rfl, _, rfl⟩⟩
    have I1 : Inv X pins σ (upd H s.heap.objs.size (.tup [x, y, zz])) { s with heap := h'', toks := tk } :=
      I.turnedNew (t' := tk) (ch := [z, TI, TO, i1, i2, i3]) (fun c o hb q => (sb.2 c (fun q' => hb (by simp [q']))).trans (hk c o (fun q' => hb (by simp [q'])) (fun q' => hb (by simp [q'])) (fun q' => hb (by simp [q'])) (fun q' => hb (by simp [q'])) (fun q' => hb (by simp [q'])) q)) hf (Nat.le_refl _) new
    refine ⟨.ref s.heap.objs.size, _, I1, rfl, ⟨_, x, y, zz, rfl, I.hok.fresh (Nat.le_refl _), rfl, fun l hl => by rw [src_inj I hl hqx]; exact hx, fun l hl => by rw [src_inj I hl hqy]; exact hy, fun l hl => by rw [src_inj I hl hqz]; exact hzz⟩, ⟨z'', ?_, ⟨u, u2, u3, ?_⟩, ?_, ?_, ?_⟩, fun c hcm => ?_⟩
    · exact (sb.2 _ S.TIz).trans (hk _ _ S.TIz S.TITO S.TIi1 S.TIi2 S.TIi3 hTI)
    · exact (sb.2 _ S.TOz).trans TO'
    · exact src_at d1.1 fun o q => (sb.2 _ S.zi1.symm).trans q
    · exact src_at d2.1 fun o q => (sb.2 _ S.zi2.symm).trans q
    · exact src_at d3.1 fun o q => (sb.2 _ S.zi3.symm).trans q
    · have hlt : c < s.heap.objs.size := by
        have e' : c = z ∨ c = TI ∨ c = TO ∨ c = i1 ∨ c = i2 ∨ c = i3 := by simpa using hcm
        rcases e' with q | q | q | q | q | q
        · rw [q]; exact hzl
        · rw [q]; exact Heap.lt_size hTI
        · rw [q]; exact Heap.lt_size hTO
        · rw [q]; obtain ⟨_, e1, _⟩ := src_obj h1; exact Heap.lt_size e1
        · rw [q]; obtain ⟨_, e2, _⟩ := src_obj h2; exact Heap.lt_size e2
        · rw [q]; obtain ⟨_, e2, _⟩ := src_obj h3; exact Heap.lt_size e2
      rw [upd_ne (Nat.ne_of_lt hlt)]
      exact (hf c hcm).1
  done := by
    intro X hP hw hK hc i pins s σ H E I hf st hg
    subst hP hw hK
    obtain ⟨hz, hTI, ⟨x0, y0, u0, hTO⟩, h1, h2, h3⟩ := st
    obtain ⟨xs, ys, zs, hqx, hqy, hqz, ⟨e1, e2, e3⟩, hend⟩ := hg
    obtain ⟨its, rv, p, _⟩ := src_of I hqx
    obtain ⟨its2, rv2, p2, _⟩ := src_of I hqy
    obtain ⟨its3, rv3, p3, _⟩ := src_of I hqz
    have hh : X.A.in1.handled = none := I.ok.hd hc
    have l1 := rv.length
    have l2 := rv2.length
    have l3 := rv3.length
    refine wpAny_pyNext_zipD3_end S (src_draws hh a i1 n1 its.toArray) (src_draws hh b i2 n2 its2.toArray) (src_draws hh c i3 n3 its3.toArray) hz hTI hTO ⟨h1, p⟩ ⟨h2, p2⟩ ⟨h3, p3⟩ (by simp; omega) (by simp; omega) (by simp; omega) (by simp; omega) fun h' tk hk => ⟨rfl, I.turnedL (t' := tk) (ch := [z, TI, TO, i1, i2, i3]) (fun c o hb q =>
      hk c o (fun q' => hb (by simp [q'])) (fun q' => hb (by simp [q'])) (fun q' => hb (by simp [q'])) (fun q' => hb (by simp [q'])) (fun q' => hb (by simp [q'])) q) hf⟩
  self := fun A i s Q E st h => wpAny_pyIter_zip st.1 h

/-! ### enumerate -/
def Iten (K : PySem.W.Frag) (a : Src) : It :=
  ⟨fun i H => ∃ (xs : List V) (x : V), a.on K H xs ∧ xs[i]? = some x, fun i H v H' => ∃ T x, v = .ref T ∧ H T = none ∧ H' = upd H T (.tup [.int (i : Nat), x]) ∧ ∀ xs, a.on K H xs → xs[i]? = some x, fun i H => ∃ xs : List V, a.on K H xs ∧ xs.length = i⟩
theorem turn_en {P : Program} {w : World} {K : PySem.W.Frag} {elts : List Expr} {kk : Nat} {tpos : Pos} (a : Src) (e it : Addr) (n1 : a.ad ≠ it) (n2 : a.ad ≠ e) :
    Turn P w K (.Tuple elts kk tpos) (Iten K a) [e, it] e (fun i h => (∃ old, IsEnum h e it ((i : Nat) : Int) old) ∧ a.tn h it i ∧ e ≠ it) where
  mem := by simp
  obj := fun i h st b hb => by
    obtain ⟨⟨old, he⟩, hit, _⟩ := st
    have e' : b = e ∨ b = it := by simpa using hb
    rcases e' with z | z
    · rw [z]; exact ⟨_, he, fun v q => nomatch q⟩
    · rw [z]; exact src_obj hit
  keep := fun i h h' st k => let ⟨⟨old, he⟩, hi, hne⟩ := st; ⟨⟨old, k e (by simp) _ he⟩, src_at hi fun o q => k it (by simp) o q, hne⟩
  item := by
    intro X hP hw hK hc i pins s σ H E I hf st hg
    subst hP hw hK
    obtain ⟨⟨old, he⟩, hit, hne⟩ := st
    obtain ⟨xs, x, hq, hx⟩ := hg
    obtain ⟨its, rv, p, _⟩ := src_of I hq
    have hh : X.A.in1.in1.handled = none := I.ok.hd hc
    have D := src_draws (prog := X.prog) (w := X.w) (A := X.A.in1) (I.ok.hd hc) a it n1 its.toArray
    have l1 : i < its.toArray.size := by have := (List.getElem?_eq_some_iff.mp hx).1; have := rv.length; simp; omega
    have hel : e < s.heap.objs.size := Heap.lt_size he
    have hil : it < s.heap.objs.size := by obtain ⟨_, q, _⟩ := src_obj hit; exact Heap.lt_size q
    refine me_pyNext he (fun u h' => its.toArray[i]? = some u ∧ a.tn h' it (i + 1) ∧ Heap.SameBut it s.heap h') (fun Q' E' hQ => ?_) fun u h1 h' tk T hu ho hle hle' hT hk => ?_
    · refine D.item i s _ _ l1 ⟨hit, p⟩ fun u h' tk hu hst hs => hQ u h' tk ⟨hu, hst.1, hs⟩ ((hs.2 e hne).trans he) (Nat.le_of_eq hs.1.symm)
    obtain ⟨hu, hst, hs⟩ := hu
    refine ⟨_, rfl, wpAny_letOwnedTupleGo_enum (s := { s with heap := h', toks := tk + 1 }) ho fun h'' he' sb => ?_⟩
    obtain ⟨x', hx', ru⟩ := src_get rv hu
    rw [hx] at hx'; cases hx'
    have nTe : T ≠ e := Nat.ne_of_gt (Nat.lt_of_lt_of_le hel hle')
    have hT2 : h''.get? T = some { cls := .type "tuple", data := .seq #[.int i tk, u] } := (sb.2 _ nTe).trans hT
    have new : ObjOk X.prog X.w (upd H T (.tup [.int (i : Nat), x])) h'' T (.tup [.int (i : Nat), x]) :=
      ⟨by show 2 ≤ sizeLine; decide, [.int i tk, u], .cons ⟨_, rfl⟩ (.cons ru .nil), ⟨_, hT2, rfl, _, rfl⟩⟩
    have I1 : Inv X pins σ (upd H T (.tup [.int (i : Nat), x])) { s with heap := h'', toks := tk + 1 } :=
      I.turnedNew (ch := [e, it]) (fun b ob hb q => (sb.2 b (fun z => hb (by simp [z]))).trans (hk b ob (fun z => hb (by simp [z])) (hs.extBut b ob (fun z => hb (by simp [z])) q))) hf hle' new
    refine ⟨.ref T, _, I1, rfl, ⟨_, x, rfl, I.hok.fresh hle', rfl, fun ys hy => by rw [src_inj I hy hq]; exact hx⟩, ⟨⟨u, ?_⟩, src_at hst fun o q => (sb.2 it (Ne.symm hne)).trans (hk it o (Ne.symm hne) q), hne⟩, fun b hb => ?_⟩
    · have e1 : ((i + 1 : Nat) : Int) = (i : Int) + 1 := by omega
      rw [e1]; exact he'
    · have hb' : b < s.heap.objs.size := by
        have e' : b = e ∨ b = it := by simpa using hb
        rcases e' with z | z
        · rw [z]; exact hel
        · rw [z]; exact hil
      rw [upd_ne (Nat.ne_of_lt (Nat.lt_of_lt_of_le hb' hle'))]
      exact (hf b hb).1
  done := by
    intro X hP hw hK hc i pins s σ H E I hf st hg
    subst hP hw hK
    obtain ⟨⟨old, he⟩, hit, hne⟩ := st
    obtain ⟨xs, hq, hx⟩ := hg
    obtain ⟨its, rv, p, _⟩ := src_of I hq
    have D := src_draws (prog := X.prog) (w := X.w) (A := X.A.in1) (I.ok.hd hc) a it n1 its.toArray
    have l1 := rv.length
    have hi : i = its.toArray.size := by simp; omega
    refine me_pyNext_end he fun Q' E' hE => ?_
    refine D.done s _ _ (by rw [← hi]; exact ⟨hit, p⟩) fun h' x hs hx => ?_
    exact hE h' s.toks x (.inr trivial) hx ⟨rfl, I.turnedL (t' := s.toks) (ch := [e, it]) (fun b o hb q => hs b o (fun z => hb (by simp [z])) q) hf⟩
  self := fun A i s Q E st h => let ⟨⟨_, he⟩, _⟩ := st; wpAny_pyIter_enum he h

/-! ### enumerate of zip -/
def Itez (K : PySem.W.Frag) (a b : Src) : It :=
  ⟨(Itz2 K a b).go, fun i H v H' => ∃ N T x y, v = .ref T ∧ H N = none ∧ T ≠ N ∧ H T = none ∧ H' = upd (upd H N (.tup [x, y])) T (.tup [.int (i : Nat), .ref N]) ∧ (∀ xs, a.on K H xs → xs[i]? = some x) ∧ ∀ ys, b.on K H ys → ys[i]? = some y, (Itz2 K a b).stop⟩
theorem turn_ez {P : Program} {w : World} {K : PySem.W.Frag} {elts : List Expr} {kk : Nat} {tpos : Pos} {a b : Src} {e z TI TO i1 i2 : Addr} (S : ZipSep2 z TI TO i1 i2 [i1, a.ad] [i2, b.ad]) (n1 : a.ad ≠ i1) (n2 : b.ad ≠ i2) (ne : e ≠ z ∧ e ≠ TI ∧ e ≠ TO ∧ e ≠ i1 ∧ e ≠ i2) :
    TurnM P w K (.Tuple elts kk tpos) (Itez K a b) [e, z, TI, TO, i1, i2] e (fun i h H => (∃ old, IsEnum h e z ((i : Nat) : Int) old) ∧ ZSt z TI TO i1 i2 h ∧ (∀ T f, IsZipHeld h z TI TO T f → ∃ xs, H T = some (.tup xs)) ∧ a.tn h i1 i ∧ b.tn h i2 i) where
  mem := by simp
  obj := fun i h H st c hc => by
    obtain ⟨⟨old, he⟩, ⟨hTI, ⟨x, y, hTO⟩, hz⟩, al, h1, h2⟩ := st
    have e' : c = e ∨ c = z ∨ c = TI ∨ c = TO ∨ c = i1 ∨ c = i2 := by simpa using hc
    rcases e' with q | q | q | q | q | q
    · rw [q]; exact ⟨_, he, fun v q => nomatch q⟩
    · rw [q]
      rcases hz with hz | ⟨T, f, hz⟩
      · exact ⟨_, hz, fun v q => nomatch q⟩
      · exact ⟨_, hz, fun v q => nomatch q⟩
    · rw [q]; exact ⟨_, hTI, fun v q => nomatch q⟩
    · rw [q]; exact ⟨_, hTO, fun v q => nomatch q⟩
    · rw [q]; exact src_obj h1
    · rw [q]; exact src_obj h2
  keep := fun i h h' H H' st k kk => by
    obtain ⟨⟨old, he⟩, ⟨hTI, ⟨x, y, hTO⟩, hz⟩, al, h1, h2⟩ := st
    refine ⟨⟨old, k e (by simp) _ he⟩, ⟨k TI (by simp) _ hTI, ⟨x, y, k TO (by simp) _ hTO⟩, ?_⟩, fun T f hh => ?_, src_at h1 fun o q => k i1 (by simp) o q, src_at h2 fun o q => k i2 (by simp) o q⟩
    · rcases hz with hz | ⟨T, f, hz⟩
      · exact .inl (k z (by simp) _ hz)
      · exact .inr ⟨T, f, k z (by simp) _ hz⟩
    · rcases hz with hz | ⟨T', f', hz⟩
      · have q := k z (by simp) _ hz
        have hh2 := q.symm.trans hh
        simp [rawInt] at hh2
      · have q := k z (by simp) _ hz
        have e1 : IsZipHeld h z TI TO T f := hz.trans (q.symm.trans hh)
        obtain ⟨xs, hx⟩ := al T f e1
        exact ⟨xs, kk.1 _ _ hx⟩
  item := by
    intro X hP hw hK hc i pins s σ H E I hf st hg
    subst hP hw hK
    obtain ⟨⟨old, he⟩, hzs, al, h1, h2⟩ := st
    obtain ⟨xs, ys, x, y, hqx, hqy, hx, hy⟩ := hg
    obtain ⟨its, rv, p, _⟩ := src_of I hqx
    obtain ⟨its2, rv2, p2, _⟩ := src_of I hqy
    have hh : X.A.in1.in1.handled = none := I.ok.hd hc
    have hel : e < s.heap.objs.size := Heap.lt_size he
    have l1 : i < its.toArray.size := by have := (List.getElem?_eq_some_iff.mp hx).1; have := rv.length; simp; omega
    have l2 : i < its2.toArray.size := by have := (List.getElem?_eq_some_iff.mp hy).1; have := rv2.length; simp; omega
    have alv : ∀ T f, IsZipHeld s.heap z TI TO T f → ∃ oT, s.heap.get? T = some oT := fun T f q => by
      obtain ⟨ws, hw⟩ := al T f q
      obtain ⟨_, _, _, hp⟩ := I.hok T _ hw
      obtain ⟨o, ho, _⟩ := hp
      exact ⟨o, ho⟩
    have G1 : ∀ (Q' : Value → Shared → Prop) (E' : Value → Shared → Prop), (∀ (x : Value) h' tk, (x = .ref s.heap.objs.size ∧ ∃ u u2 T f, its.toArray[i]? = some u ∧ its2.toArray[i]? = some u2 ∧ IsZipHeld h' z TI TO T f ∧ (T = s.heap.objs.size ∨ ∃ f', IsZipHeld s.heap z TI TO T f') ∧
        IsTupOf2 h' TI (.ref i1) (.ref i2) ∧ (∃ a1 a2, IsTupOf2 h' TO a1 a2) ∧ a.tn h' i1 (i + 1) ∧ b.tn h' i2 (i + 1) ∧ IsTupOf2 h' s.heap.objs.size u u2 ∧ h'.objs.size = s.heap.objs.size + 1 ∧
        (∀ c o, c ≠ z → c ≠ TO → c ≠ i1 → c ≠ i2 → s.heap.get? c = some o → h'.get? c = some o)) → IsEnum h' e z i old → s.heap.objs.size ≤ h'.objs.size → Q' x { s with heap := h', toks := tk }) → wpAny (model X.prog X.w) X.A.in1 (Builtin.SmallTypes.nextOf (.ref z)) Q' E' s := fun Q' E' hQ =>
      mz_next S (src_draws hh a i1 n1 its.toArray) (src_draws hh b i2 n2 its2.toArray) hzs alv ⟨h1, p⟩ ⟨h2, p2⟩ l1 l2 fun u u2 h' tk T f hu hu2 hz' hT' hTI' hTO' d1 d2 hN hsz hk =>
        hQ _ h' tk ⟨rfl, u, u2, T, f, hu, hu2, hz', hT', hTI', hTO', d1.1, d2.1, hN, hsz, hk⟩ (hk e _ ne.1 ne.2.2.1 ne.2.2.2.1 ne.2.2.2.2 he) (by omega)
    refine me_pyNext he _ G1 fun v hA h' tk T2 hG ho hle hle' hT hk => ?_
    obtain ⟨rfl, u, u2, T, f, hu, hu2, hz', hT', hTI', hTO', d1, d2, hN, hsz, hkA⟩ := hG
    refine ⟨_, rfl, wpAny_letOwnedTupleGo_enum (s := { s with heap := h', toks := tk + 1 }) ho fun h'' he' sb => ?_⟩
    obtain ⟨x', hx', ru⟩ := src_get rv hu
    obtain ⟨y', hy', ru2⟩ := src_get rv2 hu2
    rw [hx] at hx'; cases hx'
    rw [hy] at hy'; cases hy'
    generalize hNN : s.heap.objs.size = N at hN hsz hT' hle' hel hT
    have hHN : H N = none := I.hok.fresh (Nat.le_of_eq hNN)
    have lt : ∀ c ∈ [e, z, TI, TO, i1, i2], c < N := fun c hcm => by
      obtain ⟨hTI, ⟨x0, y0, hTO⟩, hz⟩ := hzs
      have e' : c = e ∨ c = z ∨ c = TI ∨ c = TO ∨ c = i1 ∨ c = i2 := by simpa using hcm
      rw [← hNN]
      rcases e' with q | q | q | q | q | q
      · rw [q]; exact Heap.lt_size he
      · rw [q]
        rcases hz with hz | ⟨T, f, hz⟩
        · exact Heap.lt_size hz
        · exact Heap.lt_size hz
      · rw [q]; exact Heap.lt_size hTI
      · rw [q]; exact Heap.lt_size hTO
      · rw [q]; obtain ⟨_, e1, _⟩ := src_obj h1; exact Heap.lt_size e1
      · rw [q]; obtain ⟨_, e2, _⟩ := src_obj h2; exact Heap.lt_size e2
    have I0 : Inv X pins σ (upd H N (.tup [x, y])) { s with heap := hA, toks := tk } := by
      refine I.turnedNew (t' := tk) (ch := [z, TI, TO, i1, i2]) (fun c o hb q => hkA c o (fun q' => hb (by simp [q'])) (fun q' => hb (by simp [q'])) (fun q' => hb (by simp [q'])) (fun q' => hb (by simp [q'])) q) (fun b hb => hf b (List.mem_cons_of_mem _ hb)) (Nat.le_of_eq hNN) ⟨by show 2 ≤ sizeLine; decide, [u, u2], .cons ru (.cons ru2 .nil), ⟨_, hN, rfl, _, rfl⟩⟩
    have nTe : T2 ≠ e := Nat.ne_of_gt (Nat.lt_of_lt_of_le hel hle')
    have nTN : T2 ≠ N := fun q => by rw [q] at hle; omega
    have hT2 : h''.get? T2 = some { cls := .type "tuple", data := .seq #[.int i tk, .ref N] } := (sb.2 _ nTe).trans hT
    have upz : ∀ c o, c ≠ e → hA.get? c = some o → h''.get? c = some o := fun c o q q2 => (sb.2 c q).trans (hk c o q q2)
    have hfe : FpOk X pins (upd H N (.tup [x, y])) e := ⟨by rw [upd_ne (Nat.ne_of_lt hel)]; exact (hf e (by simp)).1, (hf e (by simp)).2⟩
    have I1 : Inv X pins σ (upd (upd H N (.tup [x, y])) T2 (.tup [.int (i : Nat), .ref N])) { s with heap := h'', toks := tk + 1 } := by
      refine I0.turnedNew (t' := tk + 1) (ch := [e]) (fun c o hb q => upz c o (fun q' => hb (by simp [q'])) q) (fun b hb => ?_) hle ⟨by show 2 ≤ sizeLine; decide, [.int i tk, .ref N], .cons ⟨_, rfl⟩ (.cons rfl .nil), ⟨_, hT2, rfl, _, rfl⟩⟩
      have q : b = e := by simpa using hb
      rw [q]; exact hfe
    have hTN : T2 ≥ N := hle'
    refine ⟨.ref T2, _, I1, rfl, ⟨N, T2, x, y, rfl, hHN, nTN, I.hok.fresh (by rw [hNN]; exact hle'), rfl, fun l hl => by rw [src_inj I hl hqx]; exact hx, fun l hl => by rw [src_inj I hl hqy]; exact hy⟩, ⟨⟨.ref N, ?_⟩, ⟨upz _ _ ne.2.1.symm hTI', ?_, .inr ⟨T, f, upz _ _ ne.1.symm hz'⟩⟩, fun T3 f3 q => ?_, src_at d1 fun o q => upz _ _ ne.2.2.2.1.symm q, src_at d2 fun o q => upz _ _ ne.2.2.2.2.symm q⟩, fun c hcm => ?_⟩
    · have e1 : ((i + 1 : Nat) : Int) = (i : Int) + 1 := by omega
      rw [e1, ← hNN]; exact he'
    · obtain ⟨a1, a2, q⟩ := hTO'
      exact ⟨a1, a2, upz _ _ ne.2.2.1.symm q⟩
    · have q2 := upz _ _ ne.1.symm hz'
      have q1 := q2.symm.trans q
      have e3 : T = T3 := by
        simp only [rawInt, Option.some.injEq, Obj.mk.injEq, true_and, and_true, Data.fields.injEq, Array.mk.injEq, List.cons.injEq, Value.int.injEq] at q1
        exact Int.ofNat.inj q1.1
      subst e3
      rcases hT' with rfl | ⟨f', hT'⟩
      · exact ⟨_, by rw [upd_ne nTN.symm, upd_same]⟩
      · obtain ⟨ws, hw⟩ := al T f' hT'
        refine ⟨ws, ?_⟩
        rw [upd_ne, upd_ne (ne_of_none hw hHN)]
        · exact hw
        · exact ne_of_none hw (I.hok.fresh (by rw [hNN]; exact hle'))
    · have := lt c hcm
      rw [upd_ne (Nat.ne_of_lt (Nat.lt_of_lt_of_le this hle')), upd_ne (Nat.ne_of_lt this)]
      exact (hf c hcm).1
  done := by
    intro X hP hw hK hc i pins s σ H E I hf st hg
    subst hP hw hK
    obtain ⟨⟨old, he⟩, hzs, al, h1, h2⟩ := st
    obtain ⟨xs, ys, hqx, hqy, hend⟩ := hg
    obtain ⟨its, rv, p, _⟩ := src_of I hqx
    obtain ⟨its2, rv2, p2, _⟩ := src_of I hqy
    have hh : X.A.in1.in1.handled = none := I.ok.hd hc
    have l1 := rv.length
    have l2 := rv2.length
    have alv : ∀ T f, IsZipHeld s.heap z TI TO T f → ∃ oT, s.heap.get? T = some oT := fun T f q => by
      obtain ⟨ws, hw⟩ := al T f q
      obtain ⟨_, _, _, hp⟩ := I.hok T _ hw
      obtain ⟨o, ho, _⟩ := hp
      exact ⟨o, ho⟩
    refine me_pyNext_end he fun Q' E' hE => ?_
    refine mz_next_end S (src_draws hh a i1 n1 its.toArray) (src_draws hh b i2 n2 its2.toArray) hzs alv ⟨h1, p⟩ ⟨h2, p2⟩ (by simp; omega) (by simp; omega) (by simp; omega) fun h' tk x hk hx => ?_
    exact hE h' tk x (.inr trivial) hx ⟨rfl, I.turnedL (t' := tk) (ch := [e, z, TI, TO, i1, i2]) (fun c o hb q => hk c o (fun q' => hb (by simp [q'])) (fun q' => hb (by simp [q'])) (fun q' => hb (by simp [q'])) (fun q' => hb (by simp [q'])) q) hf⟩
  self := fun A i s H Q E st h => let ⟨⟨_, he⟩, _⟩ := st; wpAny_pyIter_enum he h
end M
set_option Elab.async false
set_option maxRecDepth 100000
set_option linter.unusedVariables false
set_option maxHeartbeats 1000000
/-! Layer M, part G: what is walked, as trees; the forms of a loop's head. -/
namespace M
open PySem PySem.Spec PyProof.Rows L2

/-- at turn i, in the store: what comes (none: the end); none outside: not told -/
abbrev ItT := Nat → Store → Option (Option T)
abbrev MI := Env' → Store → (ItT → Store → Prop) → Prop
structure Sim (K : PySem.W.Frag) (H0 : Hp) (J : It) (j : ItT) : Prop where
  stop : ∀ i H S, Kept H0 H → RelS K H S → j i S = some none → J.stop i H
  go : ∀ i H S t, Kept H0 H → RelS K H S → j i S = some (some t) → J.go i H
  yld : ∀ i H S t v H', Kept H0 H → RelS K H S → j i S = some (some t) → J.yld i H v H' → Kept H H' ∧ RelS K H' S ∧ Rep K H' v t
def liftI (K : PySem.W.Frag) (H0 : Hp) (mi : MI) : TI := fun σ H R => ∃ τ S q, Rel K H0 H σ τ S ∧ mi τ S q ∧ ∀ J H' j S', Kept H H' → RelS K H' S' → Sim K H' J j → q j S' → R J H'
def jSeq (t : T) : ItT := fun i S => (seqOf S t).map fun xs => xs[i]?
def jRng (lo : Int) (n : Nat) : ItT := fun i _ => some (if i < n then some (.int (lo + i)) else none)
def two : Option T → Option T → Option T
  | some x, some y => some (.tup [x, y])
  | _, _ => none
def three : Option T → Option T → Option T → Option T
  | some x, some y, some z => some (.tup [x, y, z])
  | _, _, _ => none
def jZ2 (t u : T) : ItT := fun i S => match seqOf S t, seqOf S u with
  | some xs, some ys => if i ≤ xs.length ∧ i ≤ ys.length then some (two xs[i]? ys[i]?) else none
  | _, _ => none
def jZ3 (t u v : T) : ItT := fun i S => match seqOf S t, seqOf S u, seqOf S v with
  | some xs, some ys, some zs => if i ≤ xs.length ∧ i ≤ ys.length ∧ i ≤ zs.length then some (three xs[i]? ys[i]? zs[i]?) else none
  | _, _, _ => none
def jEn (t : T) : ItT := fun i S => match seqOf S t with
  | some xs => if i ≤ xs.length then some (xs[i]?.map fun x => .tup [.int (i : Nat), x]) else none
  | _ => none
def jEz (t u : T) : ItT := fun i S => (jZ2 t u i S).map fun o => o.map fun x => .tup [.int (i : Nat), x]
def iSeq (e : ME) : MI := fun τ S q => e τ S fun t S1 => match seqOf S1 t with
  | some _ => q (jSeq t) S1
  | none => False
def iRg1 (a : MA) : MI := fun τ S q => a τ S fun ts S1 => match ts with
  | [.int j] => (-(2 ^ 62) ≤ j ∧ j < 2 ^ 62) ∧ q (jRng 0 j.toNat) S1
  | _ => False
def iRg2 (a : MA) : MI := fun τ S q => a τ S fun ts S1 => match ts with
  | [.int i, .int j] => (-(2 ^ 62) ≤ i ∧ i < 2 ^ 62 ∧ -(2 ^ 62) ≤ j ∧ j < 2 ^ 62) ∧ q (jRng i (j - i).toNat) S1
  | _ => False
def iZ2 (a : MA) : MI := fun τ S q => a τ S fun ts S1 => match ts with
  | [t, u] => match seqOf S1 t, seqOf S1 u with
    | some _, some _ => q (jZ2 t u) S1
    | _, _ => False
  | _ => False
def iZ3 (a : MA) : MI := fun τ S q => a τ S fun ts S1 => match ts with
  | [t, u, v] => match seqOf S1 t, seqOf S1 u, seqOf S1 v with
    | some _, some _, some _ => q (jZ3 t u v) S1
    | _, _, _ => False
  | _ => False
def iEn (a : MA) : MI := fun τ S q => a τ S fun ts S1 => match ts with
  | [t] => match seqOf S1 t with
    | some _ => q (jEn t) S1
    | _ => False
  | _ => False
def iEz (a : MA) : MI := fun τ S q => a τ S fun ts S1 => match ts with
  | [t, u] => match seqOf S1 t, seqOf S1 u with
    | some _, some _ => q (jEz t u) S1
    | _, _ => False
  | _ => False

section
variable {K : PySem.W.Frag}
/-- a sequence's tree, its cells -/
theorem src_ok {H : Hp} {S : Store} {x : V} {t : T} {ts : List T} (R : RelS K H S) (r : Rep K H x t) (e : seqOf S t = some ts) : ∃ c : Src, x = .ref c.ad ∧ ∀ H1 S1 us, Kept H H1 → RelS K H1 S1 → seqOf S1 t = some us → ∃ xs, c.on K H1 xs ∧ RepAll K H1 xs us := by
  cases t with
  | scr ns =>
    simp only [Rep] at r
    obtain ⟨a, rfl, ra⟩ := r
    refine ⟨.l a, rfl, fun H1 S1 us k R1 e1 => ?_⟩
    simp only [seqOf, Option.some.injEq] at e1
    subst e1
    exact ⟨_, (sqF_keep K k ra).sqL, RepAll.of_ints ns⟩
  | tup zs =>
    simp only [Rep] at r
    obtain ⟨a, ws, rfl, sa, ra⟩ := r
    refine ⟨.t a, rfl, fun H1 S1 us k R1 e1 => ?_⟩
    simp only [seqOf, Option.some.injEq] at e1
    subst e1
    exact ⟨ws, sqT_keep K k sa, ra.mono k⟩
  | ref a =>
    simp only [Rep] at r; subst r
    refine ⟨.l a, rfl, fun H1 S1 us k R1 e1 => ?_⟩
    simp only [seqOf] at e1
    split at e1
    · rename_i xs hS
      obtain ⟨ws, h1, h2⟩ := R1 a _ hS
      simp only [Option.some.injEq] at e1
      subst e1
      exact ⟨ws, .of h1, h2⟩
    · rename_i xs hS
      obtain ⟨o, ws, h1, h2⟩ := R1 a _ hS
      simp only [Option.some.injEq] at e1
      subst e1
      exact ⟨ws, .inl (.inr ⟨o, h1⟩), h2⟩
    · cases e1
  | _ => simp [seqOf] at e
theorem rep_at {H : Hp} {xs : List V} {ts : List T} {i : Nat} {x : V} {t : T} (r : RepAll K H xs ts) (e : xs[i]? = some x) (e' : ts[i]? = some t) : Rep K H x t := by
  obtain ⟨t', e1, r1⟩ := r.get' e
  rw [e'] at e1; cases e1
  exact r1
theorem two_some {a b : Option T} {t : T} (h : two a b = some t) : ∃ x y, a = some x ∧ b = some y ∧ t = .tup [x, y] := by
  unfold two at h
  split at h
  · cases h; exact ⟨_, _, rfl, rfl, rfl⟩
  · cases h
theorem two_none {a b : Option T} (h : two a b = none) : a = none ∨ b = none := by
  cases a <;> cases b <;> simp [two] at h ⊢
theorem three_some {a b c : Option T} {t : T} (h : three a b c = some t) : ∃ x y z, a = some x ∧ b = some y ∧ c = some z ∧ t = .tup [x, y, z] := by
  unfold three at h
  split at h
  · cases h; exact ⟨_, _, _, rfl, rfl, rfl, rfl⟩
  · cases h
theorem three_none {a b c : Option T} (h : three a b c = none) : a = none ∨ b = none ∨ c = none := by
  cases a <;> cases b <;> cases c <;> simp [three] at h ⊢
theorem sim_rng {H0 : Hp} {lo : Int} {n : Nat} : Sim K H0 (Itr lo n) (jRng lo n) where
  stop := fun i H S _ _ e => by
    simp only [jRng, Option.some.injEq, ite_eq_right_iff, reduceCtorEq, imp_false] at e
    show n ≤ i
    omega
  go := fun i H S t _ _ e => by
    simp only [jRng, Option.some.injEq, Option.ite_none_right_eq_some] at e
    exact e.1
  yld := fun i H S t v H' _ R e y => by
    simp only [jRng, Option.some.injEq, Option.ite_none_right_eq_some] at e
    obtain ⟨rfl, rfl⟩ := y
    exact ⟨Kept.refl _, R, by rw [← e.2]; simp only [Rep]⟩
def Its1 (K : PySem.W.Frag) : Src → It
  | .l a => Itl K a
  | .t a => Itt K a
theorem sim_seq {H0 : Hp} {t : T} {c : Src} (hc : ∀ H1 S1 us, Kept H0 H1 → RelS K H1 S1 → seqOf S1 t = some us → ∃ xs, c.on K H1 xs ∧ RepAll K H1 xs us) : Sim K H0 (Its1 K c) (jSeq t) where
  stop := fun i H S k R e => by
    simp only [jSeq, Option.map_eq_some_iff] at e
    obtain ⟨us, e1, e2⟩ := e
    obtain ⟨xs, h1, h2⟩ := hc H S us k R e1
    have hl := h2.len
    have : us.length ≤ i := List.getElem?_eq_none_iff.mp e2
    cases c with
    | l a => exact ⟨xs, h1, by omega⟩
    | t a => exact ⟨xs, h1, by omega⟩
  go := fun i H S t' k R e => by
    simp only [jSeq, Option.map_eq_some_iff] at e
    obtain ⟨us, e1, e2⟩ := e
    obtain ⟨xs, h1, h2⟩ := hc H S us k R e1
    obtain ⟨v, e3, _⟩ := h2.get e2
    cases c with
    | l a => exact ⟨xs, v, h1, e3⟩
    | t a => exact ⟨xs, v, h1, e3⟩
  yld := fun i H S t' v H' k R e y => by
    simp only [jSeq, Option.map_eq_some_iff] at e
    obtain ⟨us, e1, e2⟩ := e
    obtain ⟨xs, h1, h2⟩ := hc H S us k R e1
    cases c with
    | l a =>
      obtain ⟨rfl, y⟩ := y
      exact ⟨Kept.refl _, R, rep_at h2 (y xs h1) e2⟩
    | t a =>
      obtain ⟨rfl, y⟩ := y
      exact ⟨Kept.refl _, R, rep_at h2 (y xs h1) e2⟩
theorem jZ2_ok {t u : T} {i : Nat} {S : Store} {o : Option T} (e : jZ2 t u i S = some o) : ∃ xs ys, seqOf S t = some xs ∧ seqOf S u = some ys ∧ (i ≤ xs.length ∧ i ≤ ys.length) ∧ two xs[i]? ys[i]? = o := by
  unfold jZ2 at e
  split at e
  · rename_i xs ys h1 h2
    split at e
    · rename_i hl
      simp only [Option.some.injEq] at e
      exact ⟨xs, ys, h1, h2, hl, e⟩
    · cases e
  · cases e
theorem jZ3_ok {t u v : T} {i : Nat} {S : Store} {o : Option T} (e : jZ3 t u v i S = some o) : ∃ xs ys zs, seqOf S t = some xs ∧ seqOf S u = some ys ∧ seqOf S v = some zs ∧ (i ≤ xs.length ∧ i ≤ ys.length ∧ i ≤ zs.length) ∧ three xs[i]? ys[i]? zs[i]? = o := by
  unfold jZ3 at e
  split at e
  · rename_i xs ys zs h1 h2 h3
    split at e
    · rename_i hl
      simp only [Option.some.injEq] at e
      exact ⟨xs, ys, zs, h1, h2, h3, hl, e⟩
    · cases e
  · cases e
section
variable {H0 : Hp} {t u v : T} {a b c : Src}
  (ha : ∀ H1 S1 us, Kept H0 H1 → RelS K H1 S1 → seqOf S1 t = some us → ∃ xs, a.on K H1 xs ∧ RepAll K H1 xs us)
  (hb : ∀ H1 S1 us, Kept H0 H1 → RelS K H1 S1 → seqOf S1 u = some us → ∃ xs, b.on K H1 xs ∧ RepAll K H1 xs us)
  (hc : ∀ H1 S1 us, Kept H0 H1 → RelS K H1 S1 → seqOf S1 v = some us → ∃ xs, c.on K H1 xs ∧ RepAll K H1 xs us)
include ha hb
theorem z2_stop {i : Nat} {H : Hp} {S : Store} (k : Kept H0 H) (R : RelS K H S) (e : jZ2 t u i S = some none) : (Itz2 K a b).stop i H := by
  obtain ⟨us, ws, e1, e2, ⟨l1, l2⟩, e3⟩ := jZ2_ok e
  obtain ⟨xs, h1, h2⟩ := ha H S us k R e1
  obtain ⟨ys, h3, h4⟩ := hb H S ws k R e2
  have m1 := h2.len
  have m2 := h4.len
  refine ⟨xs, ys, h1, h3, ?_⟩
  rcases two_none e3 with q | q
  · have := List.getElem?_eq_none_iff.mp q; exact .inl ⟨by omega, by omega⟩
  · have := List.getElem?_eq_none_iff.mp q; exact .inr ⟨by omega, by omega⟩
theorem z2_go {i : Nat} {H : Hp} {S : Store} {t' : T} (k : Kept H0 H) (R : RelS K H S) (e : jZ2 t u i S = some (some t')) : (Itz2 K a b).go i H := by
  obtain ⟨us, ws, e1, e2, ⟨l1, l2⟩, e3⟩ := jZ2_ok e
  obtain ⟨xs, h1, h2⟩ := ha H S us k R e1
  obtain ⟨ys, h3, h4⟩ := hb H S ws k R e2
  obtain ⟨x, y, q1, q2, rfl⟩ := two_some e3
  obtain ⟨x', p1, _⟩ := h2.get q1
  obtain ⟨y', p2, _⟩ := h4.get q2
  exact ⟨xs, ys, x', y', h1, h3, p1, p2⟩
theorem sim_z2 : Sim K H0 (Itz2 K a b) (jZ2 t u) where
  stop := fun i H S k R e => z2_stop ha hb k R e
  go := fun i H S t' k R e => z2_go ha hb k R e
  yld := fun i H S t' w H' k R e y => by
    obtain ⟨us, ws, e1, e2, ⟨l1, l2⟩, e3⟩ := jZ2_ok e
    obtain ⟨xs, h1, h2⟩ := ha H S us k R e1
    obtain ⟨ys, h3, h4⟩ := hb H S ws k R e2
    obtain ⟨x, z, q1, q2, rfl⟩ := two_some e3
    obtain ⟨P, x', y', rfl, hP, rfl, f1, f2⟩ := y
    refine ⟨Kept.new hP, R.new hP, ?_⟩
    simp only [Rep]
    exact ⟨P, [x', y'], rfl, .inl (.inl upd_same), .cons ((rep_at h2 (f1 xs h1) q1).mono (Kept.new hP)) (.cons ((rep_at h4 (f2 ys h3) q2).mono (Kept.new hP)) .nil)⟩
theorem sim_ez : Sim K H0 (Itez K a b) (jEz t u) where
  stop := fun i H S k R e => by
    simp only [jEz, Option.map_eq_some_iff, Option.map_eq_none_iff] at e
    obtain ⟨o, e1, e2⟩ := e
    subst e2
    exact z2_stop ha hb k R e1
  go := fun i H S t' k R e => by
    simp only [jEz, Option.map_eq_some_iff] at e
    obtain ⟨o, e1, x, rfl, _⟩ := e
    exact z2_go ha hb k R e1
  yld := fun i H S t' w H' k R e y => by
    simp only [jEz, Option.map_eq_some_iff] at e
    obtain ⟨o, e, p, rfl, rfl⟩ := e
    obtain ⟨us, ws, e1, e2, ⟨l1, l2⟩, e3⟩ := jZ2_ok e
    obtain ⟨xs, h1, h2⟩ := ha H S us k R e1
    obtain ⟨ys, h3, h4⟩ := hb H S ws k R e2
    obtain ⟨x, z, q1, q2, rfl⟩ := two_some e3
    obtain ⟨N, P, x', y', rfl, hN, hPN, hP, rfl, f1, f2⟩ := y
    have hP' : (upd H N (.tup [x', y'])) P = none := by rw [upd_ne hPN]; exact hP
    have k2 : Kept H (upd (upd H N (.tup [x', y'])) P (.tup [.int (i : Nat), .ref N])) := (Kept.new hN).trans (Kept.new hP')
    refine ⟨k2, (R.new hN).new hP', ?_⟩
    simp only [Rep]
    refine ⟨P, [.int (i : Nat), .ref N], rfl, .inl (.inl upd_same), .cons (by simp only [Rep]) (.cons ?_ .nil)⟩
    simp only [Rep]
    exact ⟨N, [x', y'], rfl, .inl (.inl (by rw [upd_ne hPN.symm, upd_same])), .cons ((rep_at h2 (f1 xs h1) q1).mono k2) (.cons ((rep_at h4 (f2 ys h3) q2).mono k2) .nil)⟩
omit hb
theorem sim_en : Sim K H0 (Iten K a) (jEn t) where
  stop := fun i H S k R e => by
    unfold jEn at e
    split at e
    · rename_i us e1
      split at e
      · rename_i hl
        simp only [Option.some.injEq, Option.map_eq_none_iff] at e
        obtain ⟨xs, h1, h2⟩ := ha H S us k R e1
        have := h2.len
        have := List.getElem?_eq_none_iff.mp e
        exact ⟨xs, h1, by omega⟩
      · cases e
    · cases e
  go := fun i H S t' k R e => by
    unfold jEn at e
    split at e
    · rename_i us e1
      split at e
      · simp only [Option.some.injEq, Option.map_eq_some_iff] at e
        obtain ⟨x, e2, rfl⟩ := e
        obtain ⟨xs, h1, h2⟩ := ha H S us k R e1
        obtain ⟨v, e3, _⟩ := h2.get e2
        exact ⟨xs, v, h1, e3⟩
      · cases e
    · cases e
  yld := fun i H S t' w H' k R e y => by
    unfold jEn at e
    split at e
    · rename_i us e1
      split at e
      · simp only [Option.some.injEq, Option.map_eq_some_iff] at e
        obtain ⟨x, e2, rfl⟩ := e
        obtain ⟨xs, h1, h2⟩ := ha H S us k R e1
        obtain ⟨P, x', rfl, hP, rfl, f1⟩ := y
        refine ⟨Kept.new hP, R.new hP, ?_⟩
        simp only [Rep]
        exact ⟨P, [.int (i : Nat), x'], rfl, .inl (.inl upd_same), .cons (by simp only [Rep]) (.cons ((rep_at h2 (f1 xs h1) e2).mono (Kept.new hP)) .nil)⟩
      · cases e
    · cases e
include hb hc
theorem sim_z3 : Sim K H0 (Itz3 K a b c) (jZ3 t u v) where
  stop := fun i H S k R e => by
    obtain ⟨us, ws, vs, e1, e2, e3, ⟨l1, l2, l3⟩, e4⟩ := jZ3_ok e
    obtain ⟨xs, h1, h2⟩ := ha H S us k R e1
    obtain ⟨ys, h3, h4⟩ := hb H S ws k R e2
    obtain ⟨zs, h5, h6⟩ := hc H S vs k R e3
    have m1 := h2.len
    have m2 := h4.len
    have m3 := h6.len
    refine ⟨xs, ys, zs, h1, h3, h5, ⟨by omega, by omega, by omega⟩, ?_⟩
    rcases three_none e4 with q | q | q
    · have := List.getElem?_eq_none_iff.mp q; omega
    · have := List.getElem?_eq_none_iff.mp q; omega
    · have := List.getElem?_eq_none_iff.mp q; omega
  go := fun i H S t' k R e => by
    obtain ⟨us, ws, vs, e1, e2, e3, ⟨l1, l2, l3⟩, e4⟩ := jZ3_ok e
    obtain ⟨xs, h1, h2⟩ := ha H S us k R e1
    obtain ⟨ys, h3, h4⟩ := hb H S ws k R e2
    obtain ⟨zs, h5, h6⟩ := hc H S vs k R e3
    obtain ⟨x, y, z, q1, q2, q3, rfl⟩ := three_some e4
    obtain ⟨x', p1, _⟩ := h2.get q1
    obtain ⟨y', p2, _⟩ := h4.get q2
    obtain ⟨z', p3, _⟩ := h6.get q3
    exact ⟨xs, ys, zs, x', y', z', h1, h3, h5, p1, p2, p3⟩
  yld := fun i H S t' w H' k R e y => by
    obtain ⟨us, ws, vs, e1, e2, e3, ⟨l1, l2, l3⟩, e4⟩ := jZ3_ok e
    obtain ⟨xs, h1, h2⟩ := ha H S us k R e1
    obtain ⟨ys, h3, h4⟩ := hb H S ws k R e2
    obtain ⟨zs, h5, h6⟩ := hc H S vs k R e3
    obtain ⟨x, z, o, q1, q2, q3, rfl⟩ := three_some e4
    obtain ⟨P, x', y', z', rfl, hP, rfl, f1, f2, f3⟩ := y
    refine ⟨Kept.new hP, R.new hP, ?_⟩
    simp only [Rep]
    exact ⟨P, [x', y', z'], rfl, .inl (.inl upd_same), .cons ((rep_at h2 (f1 xs h1) q1).mono (Kept.new hP)) (.cons ((rep_at h4 (f2 ys h3) q2).mono (Kept.new hP)) (.cons ((rep_at h6 (f3 zs h5) q3).mono (Kept.new hP)) .nil))⟩
end
end

/-! ### the heads -/
section
variable {X : Cx} {H0 : Hp} {tg e : Expr} {te : ME} {es : List Expr} {ta : MA} {p pos tpos : Pos} {elts : List Expr} {kk : Nat}
theorem pim_seq (he : PE X e (lift X.K H0 te)) : PIM X tg e (liftI X.K H0 (iSeq te)) := by
  refine ⟨fun pins s σ H R I ⟨τ, S, q, RR, h, f⟩ => ?_⟩
  refine thn (he.run pins s σ H (fun x H1 => ∃ c : Src, x = .ref c.ad ∧ (∃ xs, c.on X.K H1 xs) ∧ R (Its1 X.K c) H1) I ⟨τ, S, _, RR, h, fun v H1 t S1 k1 s1 r1 q1 => ?_⟩) fun v s1 ⟨x, H1, I1, r1, q1⟩ => ?_
  · split at q1
    · rename_i us e1
      obtain ⟨c, rfl, hc⟩ := src_ok s1 r1 e1
      obtain ⟨xs, h1, _⟩ := hc H1 S1 us (Kept.refl _) s1 e1
      exact ⟨c, rfl, ⟨xs, h1⟩, f _ H1 _ S1 k1 s1 (sim_seq hc) q1⟩
    · exact q1.elim
  · obtain ⟨c, rfl, ⟨xs, hq⟩, q⟩ := q1
    cases r1
    cases c with
    | l a =>
      obtain ⟨its, rv, pl, hz⟩ := I1.list hq
      refine wpAny_pyIter_list pl.isList ?_
      refine ⟨s1.heap.objs.size, [s1.heap.objs.size], _, _, H1, rfl, I1.kept (t' := s1.toks) fun b o e => Heap.get?_push_of_some _ e, .of (turn_list a _), ⟨_, Heap.get?_push_size _ rfl, rfl, rfl⟩, fun b hb => ?_, q⟩
      have e : b = s1.heap.objs.size := by simpa using hb
      subst e
      exact I1.fpOk (Nat.le_refl _) (I1.hok.fresh (Nat.le_refl _))
    | t a =>
      obtain ⟨its, rv, pl, hz⟩ := I1.tuple hq
      refine wpAny_pyIter_tuple (show s1.heap.IsTuple a its.toArray from pl) ?_
      refine ⟨s1.heap.objs.size, [s1.heap.objs.size], _, _, H1, rfl, I1.kept (t' := s1.toks) fun b o e => Heap.get?_push_of_some _ e, .of (turn_tuple a _), ⟨_, Heap.get?_push_size _ rfl, rfl, rfl⟩, fun b hb => ?_, q⟩
      have e : b = s1.heap.objs.size := by simpa using hb
      subst e
      exact I1.fpOk (Nat.le_refl _) (I1.hok.fresh (Nat.le_refl _))
theorem pim_rng1 {a : Expr} (hg : Gl X "range") (hm : X.mg "range" = none) (ha : PA X [a] (liftA X.K H0 ta)) (hs : isStar a = false) : PIM X tg (.Call (.Name "range" p) [a] [] pos) (liftI X.K H0 (iRg1 ta)) :=
  pim_imp (.of (pi_range1 hg hm ha (star_cons (es := []) hs))) fun σ H R ⟨τ, S, q, RR, h, f⟩ => ⟨τ, S, _, RR, h, fun vs H1 ts S1 k1 s1 r1 q1 => by
    split at q1
    · obtain ⟨v, rfl, hv⟩ := one_inv r1
      simp only [Rep] at hv
      exact ⟨_, by rw [hv], q1.1.1, q1.1.2, f _ H1 _ S1 k1 s1 sim_rng q1.2⟩
    · exact q1.elim⟩
theorem pim_rng2 {a b : Expr} (hg : Gl X "range") (hm : X.mg "range" = none) (ha : PA X [a, b] (liftA X.K H0 ta)) (hs : isStar a = false) (hs2 : isStar b = false) : PIM X tg (.Call (.Name "range" p) [a, b] [] pos) (liftI X.K H0 (iRg2 ta)) :=
  pim_imp (.of (pi_range2 hg hm ha (by rw [star_cons hs, star_cons (es := []) hs2]; rfl) (star_cons (es := []) hs2))) fun σ H R ⟨τ, S, q, RR, h, f⟩ => ⟨τ, S, _, RR, h, fun vs H1 ts S1 k1 s1 r1 q1 => by
    split at q1
    · obtain ⟨v, w, rfl, hv, hw⟩ := two_inv r1
      simp only [Rep] at hv hw
      exact ⟨_, _, by rw [hv, hw], q1.1, f _ H1 _ S1 k1 s1 sim_rng q1.2⟩
    · exact q1.elim⟩
theorem lt_cases2 {N c : Addr} (h : c ∈ [N + 4, N + 2, N + 3, N, N + 1]) : N ≤ c := by
  have e' : c = N + 4 ∨ c = N + 2 ∨ c = N + 3 ∨ c = N ∨ c = N + 1 := by simpa using h
  rcases e' with z | z | z | z | z
  · rw [z]; exact Nat.le_add_right _ _
  · rw [z]; exact Nat.le_add_right _ _
  · rw [z]; exact Nat.le_add_right _ _
  · rw [z]; exact Nat.le_refl _
  · rw [z]; exact Nat.le_add_right _ _
theorem sep2_of {N x y : Addr} (h1 : x < N) (h2 : y < N) : ZipSep2 (N + 4) (N + 2) (N + 3) N (N + 1) [N, x] [N + 1, y] :=
  zip_sep2 (fp1 := [x]) (fp2 := [y]) (fun b hb => by rw [List.mem_singleton.mp hb]; exact h1) fun b hb => by rw [List.mem_singleton.mp hb]; exact h2
theorem sep3_of {N x y z : Addr} (h1 : x < N) (h2 : y < N) (h3 : z < N) : ZipSep3 (N + 5) (N + 3) (N + 4) N (N + 1) (N + 2) [N, x] [N + 1, y] [N + 2, z] :=
  zip_sep3 (fp1 := [x]) (fp2 := [y]) (fp3 := [z]) (fun b hb => by rw [List.mem_singleton.mp hb]; exact h1) (fun b hb => by rw [List.mem_singleton.mp hb]; exact h2) fun b hb => by rw [List.mem_singleton.mp hb]; exact h3
theorem ne_add {x N k : Nat} (h : x < N) : x ≠ N + k := by omega
/-- the arguments are two sequences -/
theorem args2 {σ : St} {H : Hp} {Qv : Src → Src → Hp → Prop} (h : ∃ (τ : Env') (S : Store) (q : T → T → Store → Prop), Rel X.K H0 H σ τ S ∧ ta τ S (fun ts S1 => match ts with
  | [t, u] => match seqOf S1 t, seqOf S1 u with
    | some _, some _ => q t u S1
    | _, _ => False
  | _ => False) ∧ ∀ a b H1 t u S1, Kept H H1 → RelS X.K H1 S1 → (∀ H2 S2 us, Kept H1 H2 → RelS X.K H2 S2 → seqOf S2 t = some us → ∃ xs, a.on X.K H2 xs ∧ RepAll X.K H2 xs us) → (∀ H2 S2 us, Kept H1 H2 → RelS X.K H2 S2 → seqOf S2 u = some us → ∃ xs, b.on X.K H2 xs ∧ RepAll X.K H2 xs us) →
    q t u S1 → Qv a b H1) : liftA X.K H0 ta σ H fun vs H1 => ∃ a b xs ys, vs = [.ref a.ad, .ref b.ad] ∧ a.on X.K H1 xs ∧ b.on X.K H1 ys ∧ Qv a b H1 := by
  obtain ⟨τ, S, q, RR, h, f⟩ := h
  refine ⟨τ, S, _, RR, h, fun vs H1 ts S1 k1 s1 r1 q1 => ?_⟩
  split at q1
  · rename_i t u
    split at q1
    · rename_i us ws e1 e2
      obtain ⟨v, w, rfl, hv, hw⟩ := two_inv r1
      obtain ⟨a, rfl, ha⟩ := src_ok s1 hv e1
      obtain ⟨b, rfl, hb⟩ := src_ok s1 hw e2
      obtain ⟨xs, h1, _⟩ := ha H1 S1 us (Kept.refl _) s1 e1
      obtain ⟨ys, h2, _⟩ := hb H1 S1 ws (Kept.refl _) s1 e2
      exact ⟨a, b, xs, ys, rfl, h1, h2, f a b H1 t u S1 k1 s1 ha hb q1⟩
    · exact q1.elim
  · exact q1.elim
theorem pim_z2 {a b : Expr} (hg : Gl X "zip") (hm : X.mg "zip" = none) (ha : PA X [a, b] (liftA X.K H0 ta)) (hs : isStar a = false) (hs2 : isStar b = false) : PIM X (.Tuple elts kk tpos) (.Call (.Name "zip" p) [a, b] [] pos) (liftI X.K H0 (iZ2 ta)) := by
  refine ⟨fun pins s σ H R I ⟨τ, S, q, RR, h, f⟩ => ?_⟩
  refine Call_ (ld_blt I hg hm PyProof.Rows.boot_zip (PyProof.Rows.callWith_type1 (thn (ha.run pos pins s σ H _ I (args2 (Qv := fun a b H1 => R (Itz2 X.K a b) H1) ⟨τ, S, fun t u S1 => q (jZ2 t u) S1, RR, h, fun a b H1 t u S1 k s hha hhb qq => f _ H1 _ S1 k s (sim_z2 hha hhb) qq⟩)) fun us s1 ⟨vs, H1, I1, r1, q1⟩ => ?_) (star_cons hs)
    (noStar_any fun e he => by rw [List.mem_singleton.mp he]; cases b <;> first | rfl | simp [isStar] at hs2)))
  obtain ⟨c1, c2, xs, ys, ex, hqx, hqy, q⟩ := q1
  subst ex
  obtain ⟨u1, u2, rfl, ru1, ru2⟩ : ∃ u1 u2, us = [u1, u2] ∧ RelV (.ref c1.ad) u1 ∧ RelV (.ref c2.ad) u2 := by
    cases r1 with
    | cons r rr => cases rr with | cons r' rr => cases rr; exact ⟨_, _, rfl, r, r'⟩
  cases ru1; cases ru2
  obtain ⟨its, rv, p1, la⟩ := src_of I1 hqx
  obtain ⟨its2, rv2, p2, lb⟩ := src_of I1 hqy
  refine zip_begins2 (src_begins c1 its.toArray) (src_begins c2 its2.toArray) p1 p2 fun h' hz hTI hTO g1 g2 hsz hk => wpAny_pyIter_zip hz ?_
  have I2 : Inv X pins σ H1 { s1 with heap := h' } := I1.kept (t' := s1.toks) hk
  exact ⟨s1.heap.objs.size + 4, [s1.heap.objs.size + 4, s1.heap.objs.size + 2, s1.heap.objs.size + 3, s1.heap.objs.size, s1.heap.objs.size + 1], _, _, H1, rfl, I2, .of (turn_z2 (sep2_of la lb) (Nat.ne_of_lt la) (ne_add lb)), ⟨hz, hTI, ⟨_, _, hTO⟩, src_ob g1, src_ob g2⟩, fun c hcm => I1.fpOk (lt_cases2 hcm) (I1.hok.fresh (lt_cases2 hcm)), q⟩
theorem lt_cases3 {N c : Addr} (h : c ∈ [N + 5, N + 3, N + 4, N, N + 1, N + 2]) : N ≤ c := by
  have e' : c = N + 5 ∨ c = N + 3 ∨ c = N + 4 ∨ c = N ∨ c = N + 1 ∨ c = N + 2 := by simpa using h
  rcases e' with z | z | z | z | z | z
  · rw [z]; exact Nat.le_add_right _ _
  · rw [z]; exact Nat.le_add_right _ _
  · rw [z]; exact Nat.le_add_right _ _
  · rw [z]; exact Nat.le_refl _
  · rw [z]; exact Nat.le_add_right _ _
  · rw [z]; exact Nat.le_add_right _ _
theorem three_inv {K : PySem.W.Frag} {H : Hp} {vs : List V} {t u w : T} (h : RepAll K H vs [t, u, w]) : ∃ a b c, vs = [a, b, c] ∧ Rep K H a t ∧ Rep K H b u ∧ Rep K H c w := by
  obtain ⟨v, r, rfl, h1, h2⟩ := h.cons_inv
  obtain ⟨a, b, rfl, h3, h4⟩ := two_inv h2
  exact ⟨v, a, b, rfl, h1, h3, h4⟩
theorem pim_z3 {a b c : Expr} (hg : Gl X "zip") (hm : X.mg "zip" = none) (ha : PA X [a, b, c] (liftA X.K H0 ta)) (hs : isStar a = false) (hs2 : isStar b = false) (hs3 : isStar c = false) : PIM X (.Tuple elts kk tpos) (.Call (.Name "zip" p) [a, b, c] [] pos) (liftI X.K H0 (iZ3 ta)) := by
  refine ⟨fun pins s σ H R I ⟨τ, S, q, RR, h, f⟩ => ?_⟩
  have hh : liftA X.K H0 ta σ H fun vs H1 => ∃ (a b c : Src) (xs ys zs : List V), vs = [.ref a.ad, .ref b.ad, .ref c.ad] ∧ a.on X.K H1 xs ∧ b.on X.K H1 ys ∧ c.on X.K H1 zs ∧ R (Itz3 X.K a b c) H1 := by
    refine ⟨τ, S, _, RR, h, fun vs H1 ts S1 k1 s1 r1 q1 => ?_⟩
    split at q1
    · rename_i t u w
      split at q1
      · rename_i us ws vs e1 e2 e3
        obtain ⟨v, w, z, rfl, hv, hw, hz⟩ := three_inv r1
        obtain ⟨a, rfl, ha⟩ := src_ok s1 hv e1
        obtain ⟨b, rfl, hb⟩ := src_ok s1 hw e2
        obtain ⟨c, rfl, hc⟩ := src_ok s1 hz e3
        obtain ⟨xs, h1, _⟩ := ha H1 S1 us (Kept.refl _) s1 e1
        obtain ⟨ys, h2, _⟩ := hb H1 S1 ws (Kept.refl _) s1 e2
        obtain ⟨zs, h3, _⟩ := hc H1 S1 vs (Kept.refl _) s1 e3
        exact ⟨a, b, c, xs, ys, zs, rfl, h1, h2, h3, f _ H1 _ S1 k1 s1 (sim_z3 ha hb hc) q1⟩
      · exact q1.elim
    · exact q1.elim
  refine Call_ (ld_blt I hg hm PyProof.Rows.boot_zip (PyProof.Rows.callWith_type1 (thn (ha.run pos pins s σ H _ I hh) fun us s1 ⟨vs, H1, I1, r1, q1⟩ => ?_) (star_cons hs)
    (noStar_any fun e he => by
      rcases List.mem_cons.mp he with he | he
      · rw [he]; cases b <;> first | rfl | simp [isStar] at hs2
      · rw [List.mem_singleton.mp he]; cases c <;> first | rfl | simp [isStar] at hs3)))
  obtain ⟨c1, c2, c3, xs, ys, zs, ex, hqx, hqy, hqz, q⟩ := q1
  subst ex
  obtain ⟨u1, u2, u3, rfl, ru1, ru2, ru3⟩ : ∃ u1 u2 u3, us = [u1, u2, u3] ∧ RelV (.ref c1.ad) u1 ∧ RelV (.ref c2.ad) u2 ∧ RelV (.ref c3.ad) u3 := by
    cases r1 with
    | cons r rr => cases rr with | cons r' rr => cases rr with | cons r'' rr => cases rr; exact ⟨_, _, _, rfl, r, r', r''⟩
  cases ru1; cases ru2; cases ru3
  obtain ⟨its, rv, p1, la⟩ := src_of I1 hqx
  obtain ⟨its2, rv2, p2, lb⟩ := src_of I1 hqy
  obtain ⟨its3, rv3, p3, lc⟩ := src_of I1 hqz
  refine zip_begins3 (src_begins c1 its.toArray) (src_begins c2 its2.toArray) (src_begins c3 its3.toArray) p1 p2 p3 fun h' hz hTI hTO g1 g2 g3 hsz hk => wpAny_pyIter_zip hz ?_
  have I2 : Inv X pins σ H1 { s1 with heap := h' } := I1.kept (t' := s1.toks) hk
  exact ⟨s1.heap.objs.size + 5, [s1.heap.objs.size + 5, s1.heap.objs.size + 3, s1.heap.objs.size + 4, s1.heap.objs.size, s1.heap.objs.size + 1, s1.heap.objs.size + 2], _, _, H1, rfl, I2, .of (turn_z3 (sep3_of la lb lc) (Nat.ne_of_lt la) (ne_add lb) (ne_add lc)), ⟨hz, hTI, ⟨_, _, _, hTO⟩, src_ob g1, src_ob g2, src_ob g3⟩, fun c hcm => I1.fpOk (lt_cases3 hcm) (I1.hok.fresh (lt_cases3 hcm)), q⟩
theorem pim_en {a : Expr} (hg : Gl X "enumerate") (hm : X.mg "enumerate" = none) (ha : PA X [a] (liftA X.K H0 ta)) (hs : isStar a = false) : PIM X (.Tuple elts kk tpos) (.Call (.Name "enumerate" p) [a] [] pos) (liftI X.K H0 (iEn ta)) := by
  refine ⟨fun pins s σ H R I ⟨τ, S, q, RR, h, f⟩ => ?_⟩
  have hh : liftA X.K H0 ta σ H fun vs H1 => ∃ (a : Src) (xs : List V), vs = [.ref a.ad] ∧ a.on X.K H1 xs ∧ R (Iten X.K a) H1 := by
    refine ⟨τ, S, _, RR, h, fun vs H1 ts S1 k1 s1 r1 q1 => ?_⟩
    split at q1
    · split at q1
      · rename_i us e1
        obtain ⟨v, rfl, hv⟩ := one_inv r1
        obtain ⟨a, rfl, ha⟩ := src_ok s1 hv e1
        obtain ⟨xs, h1, _⟩ := ha H1 S1 us (Kept.refl _) s1 e1
        exact ⟨a, xs, rfl, h1, f _ H1 _ S1 k1 s1 (sim_en ha) q1⟩
      · exact q1.elim
    · exact q1.elim
  refine Call_ (ld_blt I hg hm boot_enumerate (PyProof.Rows.callWith_type1 (thn (ha.run pos pins s σ H _ I hh) fun us s1 ⟨vs, H1, I1, r1, q1⟩ => ?_) (star_cons (es := []) hs) rfl))
  obtain ⟨c1, xs, ex, hqx, q⟩ := q1
  subst ex
  obtain ⟨u1, rfl, ru1⟩ := vals1 r1
  cases ru1
  obtain ⟨its, rv, p1, la⟩ := src_of I1 hqx
  refine me_call (it := s1.heap.objs.size) (fun h => c1.is h its.toArray ∧ h.objs.size = s1.heap.objs.size) (fun h => h.push c1.ob) (fun prog w A E s Q hc hq => ?_) ⟨p1, rfl⟩ fun he => ?_
  · rw [← hc.2] at hq
    exact (src_begins c1 its.toArray).iter prog w A E s Q hc.1 hq
  · have hN : (s1.heap.push c1.ob).objs.size = s1.heap.objs.size + 1 := Heap.size_push ..
    have hit : ((s1.heap.push c1.ob).push { cls := .type "enumerate", data := .fields #[.none, .bool false, .ref s1.heap.objs.size, rawInt 0, .none, .none] }).get? s1.heap.objs.size = some c1.ob :=
      Heap.get?_push_of_some _ (Heap.get?_push_size _ (src_begins c1 its.toArray).free)
    have I2 : Inv X pins σ H1 { s1 with heap := (s1.heap.push c1.ob).push { cls := .type "enumerate", data := .fields #[.none, .bool false, .ref s1.heap.objs.size, rawInt 0, .none, .none] } } := I1.kept (t' := s1.toks) fun b o e => Heap.get?_push_of_some _ (Heap.get?_push_of_some _ e)
    refine wpAny_pyIter_enum he ?_
    rw [hN] at he ⊢
    refine ⟨s1.heap.objs.size + 1, [s1.heap.objs.size + 1, s1.heap.objs.size], _, _, H1, rfl, I2, .of (turn_en c1 (s1.heap.objs.size + 1) s1.heap.objs.size (Nat.ne_of_lt la) (ne_add la)), ⟨⟨.none, he⟩, src_ob hit, Nat.succ_ne_self _⟩, fun b hb => ?_, q⟩
    have hle : s1.heap.objs.size ≤ b := by
      have e' : b = s1.heap.objs.size + 1 ∨ b = s1.heap.objs.size := by simpa using hb
      rcases e' with z | z
      · rw [z]; exact Nat.le_add_right _ _
      · rw [z]; exact Nat.le_refl _
    exact I1.fpOk hle (I1.hok.fresh hle)
theorem ez_ne (N : Nat) : N + 5 ≠ N + 4 ∧ N + 5 ≠ N + 2 ∧ N + 5 ≠ N + 3 ∧ N + 5 ≠ N ∧ N + 5 ≠ N + 1 := by omega
theorem pim_ez {a b : Expr} {p2 pos2 : Pos} (hg : Gl X "enumerate") (hm : X.mg "enumerate" = none) (hg2 : Gl X "zip") (hm2 : X.mg "zip" = none) (ha : PA X [a, b] (liftA X.K H0 ta)) (hs : isStar a = false) (hs2 : isStar b = false) :
    PIM X (.Tuple elts kk tpos) (.Call (.Name "enumerate" p) [.Call (.Name "zip" p2) [a, b] [] pos2] [] pos) (liftI X.K H0 (iEz ta)) := by
  refine ⟨fun pins s σ H R I ⟨τ, S, q, RR, h, f⟩ => ?_⟩
  refine Call_ (ld_blt I hg hm boot_enumerate (PyProof.Rows.callWith_type1 (args_cons ?_ rfl) rfl rfl))
  refine Call_ (ld_blt I hg2 hm2 PyProof.Rows.boot_zip (PyProof.Rows.callWith_type1 (thn (ha.run pos2 pins s σ H _ I (args2 (Qv := fun a b H1 => R (Itez X.K a b) H1) ⟨τ, S, fun t u S1 => q (jEz t u) S1, RR, h, fun a b H1 t u S1 k s hha hhb qq => f _ H1 _ S1 k s (sim_ez hha hhb) qq⟩)) fun us s1 ⟨vs, H1, I1, r1, q1⟩ => ?_) (star_cons hs)
    (noStar_any fun e he => by rw [List.mem_singleton.mp he]; cases b <;> first | rfl | simp [isStar] at hs2)))
  obtain ⟨c1, c2, xs, ys, ex, hqx, hqy, q⟩ := q1
  subst ex
  obtain ⟨u1, u2, rfl, ru1, ru2⟩ : ∃ u1 u2, us = [u1, u2] ∧ RelV (.ref c1.ad) u1 ∧ RelV (.ref c2.ad) u2 := by
    cases r1 with
    | cons r rr => cases rr with | cons r' rr => cases rr; exact ⟨_, _, rfl, r, r'⟩
  cases ru1; cases ru2
  obtain ⟨its, rv, p1, la⟩ := src_of I1 hqx
  obtain ⟨its2, rv2, p2, lb⟩ := src_of I1 hqy
  refine zip_begins2 (src_begins c1 its.toArray) (src_begins c2 its2.toArray) p1 p2 fun h' hz hTI hTO g1 g2 hsz hk => args_nil ?_
  have I2 : Inv X pins σ H1 { s1 with heap := h' } := I1.kept (t' := s1.toks) hk
  refine me_call (it := s1.heap.objs.size + 4) (fun h => h = h') (fun h => h) (fun prog w A E s Q hc hq => ?_) rfl fun he => ?_
  · subst hc
    exact wpAny_pyIter_zip hz hq
  · refine wpAny_pyIter_enum he ?_
    have hs5 : (({ s1 with heap := h' } : Shared)).heap.objs.size = s1.heap.objs.size + 5 := hsz
    rw [hs5] at he ⊢
    have up : ∀ c o, h'.get? c = some o → (h'.push { cls := .type "enumerate", data := .fields #[.none, .bool false, .ref (s1.heap.objs.size + 4), rawInt 0, .none, .none] }).get? c = some o := fun c o e => Heap.get?_push_of_some _ e
    have I3 : Inv X pins σ H1 { s1 with heap := h'.push { cls := .type "enumerate", data := .fields #[.none, .bool false, .ref (s1.heap.objs.size + 4), rawInt 0, .none, .none] } } := I1.kept (t' := s1.toks) fun b o e => up b o (hk b o e)
    refine ⟨s1.heap.objs.size + 5, [s1.heap.objs.size + 5, s1.heap.objs.size + 4, s1.heap.objs.size + 2, s1.heap.objs.size + 3, s1.heap.objs.size, s1.heap.objs.size + 1], _, _, H1, rfl, I3, turn_ez (sep2_of la lb) (Nat.ne_of_lt la) (ne_add lb) (ez_ne _), ⟨⟨.none, he⟩, ⟨up _ _ hTI, ⟨_, _, up _ _ hTO⟩, .inl (up _ _ hz)⟩, fun T f qq => ?_, src_ob (up _ _ g1), src_ob (up _ _ g2)⟩, fun b hb => ?_, q⟩
    · have hh2 := (up _ _ hz).symm.trans qq
      simp [rawInt] at hh2
    · have hle : s1.heap.objs.size ≤ b := by
        rcases List.mem_cons.mp hb with z | z
        · rw [z]; exact Nat.le_add_right _ _
        · exact lt_cases2 z
      exact I1.fpOk hle (I1.hok.fresh hle)
end
end M
set_option Elab.async false
set_option maxRecDepth 100000
set_option linter.unusedVariables false
set_option maxHeartbeats 1000000
/-! Layer M, part H: targets, statements, for, while, [..]. -/
namespace M
open PySem PySem.Spec PyProof.Rows L2

/-! ### targets -/
abbrev MG := T → Env' → Store → (Env' → Store → Prop) → Prop
abbrev MGs := List T → Env' → Store → (Env' → Store → Prop) → Prop
/-- only the slots vs are another -/
def OnlyAt (vs : List Nat) (σ σ' : St) : Prop := ∀ ws : List Nat, (∀ i ∈ vs, i ∈ ws) → wipe σ' ws = wipe σ ws
theorem wipe_set (σ : St) (i : Nat) (x : Option V) : ∀ ws : List Nat, i ∈ ws → wipe (σ.set i x) ws = wipe σ ws
  | [], h => by cases h
  | w :: ws, h => by
    unfold wipe
    by_cases hi : i ∈ ws
    · rw [wipe_set σ i x ws hi]
    · have e : i = w := by
        rcases List.mem_cons.mp h with e | e
        · exact e
        · exact absurd e hi
      subst e
      have key : ∀ ws : List Nat, i ∉ ws → wipe (σ.set i x) ws = (wipe σ ws).set i x := by
        intro ws
        induction ws with
        | nil => intro _; rfl
        | cons w ws ih =>
          intro h
          have h1 : w ≠ i := fun e => h (by rw [e]; exact List.mem_cons_self)
          unfold wipe
          rw [ih (fun m => h (List.mem_cons_of_mem _ m)), List.set_comm _ _ h1.symm]
      rw [key ws hi, List.set_set]
theorem OnlyAt.refl {vs : List Nat} {σ : St} : OnlyAt vs σ σ := fun _ _ => rfl
theorem OnlyAt.trans {vs : List Nat} {σ σ1 σ2 : St} (a : OnlyAt vs σ σ1) (b : OnlyAt vs σ1 σ2) : OnlyAt vs σ σ2 := fun ws h => (b ws h).trans (a ws h)
def liftG (K : PySem.W.Frag) (H0 : Hp) (vs : List Nat) (g : MG) : TG := fun v σ H Q => ∃ t τ S q, Rep K H v t ∧ Rel K H0 H σ τ S ∧ g t τ S q ∧ ∀ σ' H' τ' S', Kept H H' → RelE K H' σ' τ' → RelS K H' S' → OnlyAt vs σ σ' → q τ' S' → Q σ' H'
def liftGs (K : PySem.W.Frag) (H0 : Hp) (vs : List Nat) (g : MGs) : TGs := fun xs σ H Q => ∃ ts τ S q, RepAll K H xs ts ∧ Rel K H0 H σ τ S ∧ g ts τ S q ∧ ∀ σ' H' τ' S', Kept H H' → RelE K H' σ' τ' → RelS K H' S' → OnlyAt vs σ σ' → q τ' S' → Q σ' H'
def gSet (i : Nat) : MG := fun t τ S q => q (τ.set i (some t)) S
def gsNil : MGs := fun ts τ S q => match ts with
  | [] => q τ S
  | _ => False
def gsCons (g : MG) (r : MGs) : MGs := fun ts τ S q => match ts with
  | t :: ts => g t τ S fun τ1 S1 => r ts τ1 S1 q
  | [] => False
def gUnp (gs : MGs) : MG := fun t τ S q => match seqOf S t with
  | some ts => gs ts τ S q
  | none => False
section
variable {X : Cx} {H0 : Hp} {pos : Pos} {e : Expr} {es : List Expr} {g : MG} {gs : MGs} {vs ws : List Nat}
theorem pg_imp {tg : Expr} {t t' : TG} (h : PG X tg t) (k : ∀ v σ H Q, t' v σ H Q → t v σ H Q) : PG X tg t' := ⟨fun pins s σ H v u Q I r hw => h.run pins s σ H v u Q I r (k v σ H Q hw)⟩
theorem pgs_imp {tg : List Expr} {t t' : TGs} (h : PGs X tg t) (k : ∀ v σ H Q, t' v σ H Q → t v σ H Q) : PGs X tg t' := ⟨fun pins s σ H v u Q I r hw => h.run pins s σ H v u Q I r (k v σ H Q hw)⟩
theorem jg_name {i : Nat} {x : Str} (hN : X.N.Nodup) (hi : X.N[i]? = some x) (hx : Loc X.env.scope x) (hf : X.fn x = true ∨ X.env.scope.names.lookup x = some .local) : PG X (.Name x pos) (liftG X.K H0 [i] (gSet i)) :=
  pg_imp (pg_name hN hi hx hf) fun v σ H Q ⟨t, τ, S, q, r, R, h, f⟩ => f _ H _ S (Kept.refl H) (R.env.set r i) R.st (fun ws hw => wipe_set σ i _ ws (hw i (by simp))) h
theorem jgs_nil : PGs X [] (liftGs X.K H0 [] gsNil) := pgs_imp pgs_nil fun v σ H Q ⟨ts, τ, S, q, r, R, h, f⟩ => by
  cases ts with
  | nil => exact ⟨r.nil_inv, f σ H τ S (Kept.refl H) R.env R.st .refl h⟩
  | cons => exact False.elim h
theorem jgs_cons (h1 : PG X e (liftG X.K H0 vs g)) (h2 : PGs X es (liftGs X.K H0 ws gs)) (hs : (assignEach (e :: es) X.env).map (·.2) = assign e X.env :: (assignEach es X.env).map (·.2)) : PGs X (e :: es) (liftGs X.K H0 (vs ++ ws) (gsCons g gs)) :=
  pgs_imp (pgs_cons h1 h2 hs) fun xs σ H Q ⟨ts, τ, S, q, r, R, h, f⟩ => by
    cases ts with
    | nil => exact False.elim h
    | cons t ts =>
      obtain ⟨v, rr, rfl, r1, r2⟩ := r.cons_inv
      refine ⟨v, rr, rfl, t, τ, S, _, r1, R, h, fun σ' H' τ' S' k e s o q1 => ⟨ts, τ', S', q, r2.mono k, ⟨R.kept.trans k, e, s⟩, q1, fun σ2 H2 τ2 S2 k2 e2 s2 o2 q2 => f σ2 H2 τ2 S2 (k.trans k2) e2 s2 (fun zs hz => ?_) q2⟩⟩
      rw [o2 zs fun i hi => hz i (List.mem_append_right _ hi), o zs fun i hi => hz i (List.mem_append_left _ hi)]
theorem jg_unp {k : Nat} (hc : X.calm = true) (h : PGs X es (liftGs X.K H0 vs gs)) {n : Nat} (hn : (assignEach es X.env).length = n) (hst : (assignEach es X.env).findIdx? (·.1) = none) (hl : ∀ ts τ S q, gs ts τ S q → ts.length = n) : PG X (.Tuple es k pos) (liftG X.K H0 vs (gUnp gs)) := by
  refine ⟨fun pins s σ H v u Q I r ⟨t, τ, S, q, rt, R, h1, f⟩ => ?_⟩
  simp only [gUnp] at h1
  split at h1
  · rename_i ts e
    obtain ⟨a, xs, rfl, hq, ra⟩ := seqOf_ok R.st rt e
    have hw : liftGs X.K H0 vs gs xs σ H Q := ⟨ts, τ, S, q, ra, R, h1, f⟩
    have hlen : xs.length = n := by rw [ra.len]; exact hl _ _ _ _ h1
    rcases hq with hq | hq
    · exact (pg_tup hc h hn hst).run pins s σ H _ u Q I r ⟨a, xs, rfl, hq, hlen, hw⟩
    · exact (pg_lst hc h hn hst).run pins s σ H _ u Q I r ⟨a, xs, rfl, hq, hlen, hw⟩
  · exact h1.elim
end

/-! ### statements -/
def sNext : MS := fun D τ S => D.nx τ S
def sSeq (a b : MS) : MS := fun D τ S => a { D with nx := b D } τ S
def sBrk : MS := fun D τ S => D.bk τ S
def sCnt : MS := fun D τ S => D.ct τ S
def sDrop (e : ME) : MS := fun D τ S => e τ S fun _ S1 => D.nx τ S1
def sRet (e : ME) : MS := fun D τ S => e τ S D.rt
def sRetN : MS := fun D _ S => D.rt .non S
def sIf (c : MT) (a b : MS) : MS := fun D τ S => c τ S fun k S1 => if k = true then a D τ S1 else b D τ S1
def sAsg (e : ME) (g : MG) : MS := fun D τ S => e τ S fun t S1 => g t τ S1 D.nx
def sPar (i j : Nat) (a : MA) : MS := fun D τ S => a τ S fun ts S1 => match ts with
  | [x, y] => D.nx ((τ.set i (some x)).set j (some y)) S1
  | _ => False
def sAugI (i : Nat) (r : B2) (e : ME) : MS := fun D τ S => match τ[i]? with
  | some (some (.int x)) => e τ S fun t S1 => match t with
    | .int y => r (.int x) (.int y) S1 fun z S2 => D.nx (τ.set i (some z)) S2
    | _ => False
  | _ => False
def forI (j : ItT) (step : T → MS) : MS := fun D τ S1 => ∃ W : Nat → Nat → Env' → Store → Prop, (∃ m, W 0 m τ S1) ∧ ∀ i m τ S, W i m τ S → match j i S with
  | none => False
  | some none => D.nx τ S
  | some (some t) => ∃ N : Env' → Store → Prop, (∀ τ' S', N τ' S' → ∃ m', m' < m ∧ W (i + 1) m' τ' S') ∧ step t { D with nx := N, ct := N, bk := D.nx } τ S
def sFor (i : MI) (g : MG) (b : MS) : MS := fun D τ S => i τ S fun j S1 => forI j (fun t D τ S => g t τ S fun τ2 S2 => b D τ2 S2) D τ S1
def sWhile (c : MT) (b : MS) : MS := fun D τ S => ∃ W : Nat → Env' → Store → Prop, (∃ m, W m τ S) ∧ ∀ m τ S, W m τ S →
  c τ S fun k S1 => if k = true then ∃ N : Env' → Store → Prop, (∀ τ' S', N τ' S' → ∃ m', m' < m ∧ W m' τ' S') ∧ b { D with nx := N, ct := N, bk := D.nx } τ S1 else D.nx τ S1
def mYes : MT := fun _ S q => q true S
def compI (j : ItT) (step : T → Store → (Option T → Store → Prop) → Prop) (S1 : Store) (q : KT) : Prop := ∀ D, S1 D = none → ∃ W : Nat → Nat → Store → Prop, (∃ m, W 0 m (upS S1 D (.lst []))) ∧ ∀ i m S, W i m S → match j i S with
  | none => False
  | some none => q (.ref D) S
  | some (some t) => ∃ N : Store → Prop, (∀ S', N S' → ∃ m', m' < m ∧ W (i + 1) m' S') ∧ step t S fun o S4 => match o with
    | some y => match S4 D with
      | some (.lst acc) => acc.length < 16000000 ∧ N (upS S4 D (.lst (acc ++ [y])))
      | _ => False
    | none => N S4
def eComp (i : MI) (g : MG) (c : MT) (e : ME) (vs : List Nat) : ME := fun τ S q => i τ S fun j S1 => compI j (fun t S k => g t (wipeT τ vs) S fun τ2 S2 => c τ2 S2 fun b S3 => if b = true then e τ2 S3 fun y S4 => k (some y) S4 else k none S3) S1 q

section
variable {X : Cx} {H0 : Hp} {pos : Pos} {st : Stmt} {rest : List Stmt} {e : Expr} {te : ME} {a b : MS}
theorem js_nil : PSs X [] (liftS X.K H0 sNext) := pss_imp pss_nil fun D σ H ⟨τ, S, D', R, h, d⟩ => d.nx σ H τ S (Kept.refl H) R.env R.st h
theorem js_cons (h1 : PS X st (liftS X.K H0 a)) (h2 : PSs X rest (liftS X.K H0 b)) : PSs X (st :: rest) (liftS X.K H0 (sSeq a b)) :=
  pss_imp (pss_cons h1 h2) fun D σ H ⟨τ, S, D', R, h, d⟩ => ⟨τ, S, { D' with nx := b D' }, R, h, ⟨fun σ' H' τ' S' k e s q => ⟨τ', S', D', ⟨R.kept.trans k, e, s⟩, q, d.mono k⟩, d.rt, d.bk, d.ct⟩⟩
theorem js_one (h1 : PS X st (liftS X.K H0 a)) : PSs X [st] (liftS X.K H0 a) := pss_imp (pss_one h1) fun D σ H h => h
theorem js_pass : PS X (.Pass pos) (liftS X.K H0 sNext) := ps_imp ps_pass fun D σ H ⟨τ, S, D', R, h, d⟩ => d.nx σ H τ S (Kept.refl H) R.env R.st h
theorem js_brk : PS X (.Break pos) (liftS X.K H0 sBrk) := ps_imp ps_break fun D σ H ⟨τ, S, D', R, h, d⟩ => d.bk σ H τ S (Kept.refl H) R.env R.st h
theorem js_cnt : PS X (.Continue pos) (liftS X.K H0 sCnt) := ps_imp ps_continue fun D σ H ⟨τ, S, D', R, h, d⟩ => d.ct σ H τ S (Kept.refl H) R.env R.st h
theorem js_doc {x j p p'} : PS X (.Expr (.Constant (.str x) j p) p') (liftS X.K H0 sNext) := ps_imp ps_doc fun D σ H ⟨τ, S, D', R, h, d⟩ => d.nx σ H τ S (Kept.refl H) R.env R.st h
theorem js_expr (he : PE X e (lift X.K H0 te)) (hs : swapsWith e none pos.line X.env = pure false := by rfl) : PS X (.Expr e pos) (liftS X.K H0 (sDrop te)) :=
  ps_imp (ps_expr he hs) fun D σ H ⟨τ, S, D', R, h, d⟩ => ⟨τ, S, _, R, h, fun v H1 t S1 k s r q => d.nx σ H1 τ S1 k (R.env.mono k) s q⟩
theorem js_ret (he : PE X e (lift X.K H0 te)) : PS X (.Return (some e) pos) (liftS X.K H0 (sRet te)) :=
  ps_imp (ps_ret he) fun D σ H ⟨τ, S, D', R, h, d⟩ => ⟨τ, S, _, R, h, d.rt⟩
theorem js_retN : PS X (.Return none pos) (liftS X.K H0 sRetN) := ps_imp ps_retN fun D σ H ⟨τ, S, D', R, h, d⟩ => d.rt .non H .non S (Kept.refl H) R.st (by simp only [Rep]) h
theorem js_if {c : Expr} {tc : MT} {sa sb : List Stmt} (hc : PT X c (liftT X.K H0 tc)) (ha : PSs X sa (liftS X.K H0 a)) (hb : PSs X sb (liftS X.K H0 b)) : PS X (.If c sa sb pos) (liftS X.K H0 (sIf tc a b)) :=
  ps_imp (ps_if hc ha hb) fun D σ H ⟨τ, S, D', R, h, d⟩ => ⟨τ, S, _, R, h, fun k H1 S1 k1 s1 q1 => by
    cases k with
    | true => exact ⟨τ, S1, D', R.next k1 s1, q1, d.mono k1⟩
    | false => exact ⟨τ, S1, D', R.next k1 s1, q1, d.mono k1⟩⟩
theorem js_asg {tg : Expr} {g : MG} {vs : List Nat} (he : PE X e (lift X.K H0 te)) (hg : PG X tg (liftG X.K H0 vs g)) (hs : swapsWithSole [tg] e pos.line X.env = pure false := by rfl) (hw : swappedStores [tg] e X.env = pure none := by rfl)
    (h1 : (assignEach [tg] X.env).map (·.2) = [assign tg X.env] := by rfl) : PS X (.Assign [tg] e pos) (liftS X.K H0 (sAsg te g)) :=
  ps_imp (ps_asg he hg hs hw h1) fun D σ H ⟨τ, S, D', R, h, d⟩ => ⟨τ, S, _, R, h, fun v H1 t S1 k s r q => ⟨t, τ, S1, _, r, R.next k s, q, fun σ' H' τ' S' k' e' s' _ q' => d.nx σ' H' τ' S' (k.trans k') e' s' q'⟩⟩
theorem js_set {i : Nat} {x : Str} {pos' : Pos} (hN : X.N.Nodup) (hi : X.N[i]? = some x) (hx : Loc X.env.scope x) (he : PE X e (lift X.K H0 te)) (hf : X.fn x = true ∨ X.env.scope.names.lookup x = some .local) (hs : swapsWith e (some (.Name x pos')) pos.line X.env = pure false := by rfl) :
    PS X (.Assign [.Name x pos'] e pos) (liftS X.K H0 (sAsg te (gSet i))) :=
  ps_imp (ps_set hN hi hx he hs hf) fun D σ H ⟨τ, S, D', R, h, d⟩ => ⟨τ, S, _, R, h, fun v H1 t S1 k s r q => d.nx _ H1 _ S1 k ((R.env.mono k).set r i) s q⟩
theorem js_par {i j : Nat} {x y : Str} {ea eb : Expr} {ta : MA} {px py pt : Pos} {kt k2 pt2} (hc : X.calm = true) (hN : X.N.Nodup) (hi : X.N[i]? = some x) (hj : X.N[j]? = some y) (hij : i ≠ j)
    (hx : X.env.scope.names.lookup x = some .local) (hy : X.env.scope.names.lookup y = some .local) (ha : PA X [ea, eb] (liftA X.K H0 ta))
    (hw : swappedStores [.Tuple [.Name x px, .Name y py] kt pt] (.Tuple [ea, eb] k2 pt2) X.env = pure (some [x, y]))
    (hs : swapsWithSole [.Tuple [.Name x px, .Name y py] kt pt] (.Tuple [ea, eb] k2 pt2) pos.line X.env = pure false := by rfl) :
    PS X (.Assign [.Tuple [.Name x px, .Name y py] kt pt] (.Tuple [ea, eb] k2 pt2) pos) (liftS X.K H0 (sPar i j ta)) :=
  ps_imp (ps_par hc hN hi hj hij hx hy ha hw hs) fun D σ H ⟨τ, S, D', R, h, d⟩ => ⟨τ, S, _, R, h, fun vs H1 ts S1 k s r q => by
    split at q
    · obtain ⟨v, w, rfl, r1, r2⟩ := two_inv r
      exact ⟨v, w, rfl, d.nx _ H1 _ S1 k (((R.env.mono k).set r1 i).set r2 j) s q⟩
    · exact q.elim⟩
theorem jaug (add : Bool) {i : Nat} {x : Str} {pos' : Pos} (hN : X.N.Nodup) (hi : X.N[i]? = some x) (hx : Loc X.env.scope x) (he : PE X e (lift X.K H0 te)) (hf : X.fn x = true ∨ X.env.scope.names.lookup x = some .local) :
    PS X (.AugAssign (.Name x pos') (if add then .Add else .Sub) e pos) (liftS X.K H0 (sAugI i (if add then addR else subR) te)) := by
  have key : ∀ (D : Ends) (σ : St) (H : Hp) (f : Int → Int → Int) (r : B2), (∀ x y S q, r (.int x) (.int y) S q → q (.int (f x y)) S) → liftS X.K H0 (sAugI i r te) D σ H → tAug i (lift X.K H0 te) (ipI f) D σ H := by
    intro D σ H f r hr ⟨τ, S, D', R, h, d⟩
    simp only [sAugI] at h
    split at h
    · rename_i z ez
      obtain ⟨v, e1, r1⟩ := R.env.2 i _ ez
      simp only [Rep] at r1
      subst r1
      refine ⟨_, e1, τ, S, _, R, h, fun w H1 t S1 k s r2 q => ?_⟩
      cases t <;> first
        | exact False.elim q
        | skip
      simp only [Rep] at r2
      subst r2
      exact ⟨_, _, rfl, rfl, d.nx _ H1 _ S1 k ((R.env.mono k).set (t := .int _) (by simp only [Rep]) i) s (hr _ _ _ _ q)⟩
    · exact h.elim
  cases add with
  | true => exact ps_imp (ps_aug hN hi hx he ip_add hf) fun D σ H h => key D σ H _ addR (fun x y S q hh => hh) h
  | false => exact ps_imp (ps_aug hN hi hx he ip_sub hf) fun D σ H h => key D σ H _ subR (fun x y S q hh => hh) h
/-- for -/
theorem js_for {tg iter : Expr} {body : List Stmt} {mi : MI} {g : MG} {vs : List Nat} (hp : PassesOwn (model X.prog X.w) X.A X.env X.xe) (hc : X.calm = true) (hi : PIM X tg iter (liftI X.K H0 mi)) (hg : PG X tg (liftG X.K H0 vs g)) (hb : PSs X body (liftS X.K H0 b))
    (hs : ∀ x, foldedSetIterable iter X.env x = pure x := by intro _; rfl) : PS X (.For tg iter body [] pos) (liftS X.K H0 (sFor mi g b)) :=
  ps_imp (ps_forM hp hc hi hg hb hs) fun D σ H ⟨τ, S, D', R, h, d⟩ => ⟨τ, S, _, R, h, fun J H1 j S1 k1 s1 sim q => by
    obtain ⟨W, ⟨m0, w0⟩, turn⟩ := q
    refine ⟨fun i m σ H2 => ∃ τ S, Rel X.K H0 H2 σ τ S ∧ Kept H H2 ∧ Kept H1 H2 ∧ W i m τ S, ⟨m0, τ, S1, R.next k1 s1, k1, Kept.refl _, w0⟩, ?_⟩
    rintro i m σ2 H2 ⟨τ2, S2, R2, k2, k12, w2⟩
    have t2 := turn i m τ2 S2 w2
    split at t2
    · exact t2.elim
    · rename_i e2
      exact .inl ⟨sim.stop i H2 S2 k12 R2.st e2, d.nx σ2 H2 τ2 S2 k2 R2.env R2.st t2⟩
    · rename_i t e2
      obtain ⟨N, hN, hg2⟩ := t2
      refine .inr ⟨sim.go i H2 S2 t k12 R2.st e2, fun H5 σ' H' => Kept H5 H' ∧ ∃ τ' S', Rel X.K H0 H' σ' τ' S' ∧ Kept H H' ∧ Kept H1 H' ∧ N τ' S', fun H5 σ' H' ⟨hk, τ', S', R', ka, kb, n'⟩ => ?_, fun x H' y => ?_⟩
      · obtain ⟨m', hm, w'⟩ := hN τ' S' n'
        exact ⟨hk, m', hm, τ', S', R', ka, kb, w'⟩
      · obtain ⟨ky, sy, ry⟩ := sim.yld i H2 S2 t x H' k12 R2.st e2 y
        refine ⟨t, τ2, S2, _, ry, R2.next ky sy, hg2, fun σ3 H3 τ3 S3 k3 e3 s3 _ q3 => ⟨τ3, S3, _, ⟨(R2.kept.trans ky).trans k3, e3, s3⟩, q3, ?_⟩⟩
        have kk : Kept H2 H3 := ky.trans k3
        exact ⟨fun σ4 H4 τ4 S4 k4 e4 s4 n4 => ⟨k3.trans k4, τ4, S4, ⟨(R2.kept.trans kk).trans k4, e4, s4⟩, (k2.trans kk).trans k4, (k12.trans kk).trans k4, n4⟩, (d.rt.mono k2).mono kk, fun σ4 H4 τ4 S4 k4 e4 s4 n4 => d.nx σ4 H4 τ4 S4 ((k2.trans kk).trans k4) e4 s4 n4,
          fun σ4 H4 τ4 S4 k4 e4 s4 n4 => ⟨k3.trans k4, τ4, S4, ⟨(R2.kept.trans kk).trans k4, e4, s4⟩, (k2.trans kk).trans k4, (k12.trans kk).trans k4, n4⟩⟩⟩
theorem js_while {c : Expr} {body : List Stmt} {tc : MT} (hp : PassesOwn (model X.prog X.w) X.A X.env X.xe) (hc : PT X c (liftT X.K H0 tc)) (hb : PSs X body (liftS X.K H0 b)) : PS X (.While c body [] pos) (liftS X.K H0 (sWhile tc b)) :=
  ps_imp (ps_while hp hc hb) fun D σ H ⟨τ, S, D', R, h, d⟩ => by
    obtain ⟨W, ⟨m0, w0⟩, turn⟩ := h
    refine ⟨fun m σ H2 => ∃ τ S, Rel X.K H0 H2 σ τ S ∧ Kept H H2 ∧ W m τ S, ⟨m0, τ, S, R, Kept.refl _, w0⟩, ?_⟩
    rintro m σ2 H2 ⟨τ2, S2, R2, k2, w2⟩
    refine ⟨τ2, S2, _, R2, turn m τ2 S2 w2, fun k H3 S3 k3 s3 q3 => ?_⟩
    have R3 := R2.next k3 s3
    cases k with
    | false => exact d.nx σ2 H3 τ2 S3 (k2.trans k3) R3.env s3 q3
    | true =>
      obtain ⟨N, hN, q3⟩ := q3
      refine ⟨fun σ' H' => ∃ τ' S', Rel X.K H0 H' σ' τ' S' ∧ Kept H H' ∧ N τ' S', fun σ' H' ⟨τ', S', R', ka, n'⟩ => ?_, τ2, S3, _, R3, q3, ?_⟩
      · obtain ⟨m', hm, w'⟩ := hN τ' S' n'
        exact ⟨m', hm, τ', S', R', ka, w'⟩
      · have kk : Kept H H3 := k2.trans k3
        exact ⟨fun σ4 H4 τ4 S4 k4 e4 s4 n4 => ⟨τ4, S4, ⟨R3.kept.trans k4, e4, s4⟩, kk.trans k4, n4⟩, d.rt.mono kk, fun σ4 H4 τ4 S4 k4 e4 s4 n4 => d.nx σ4 H4 τ4 S4 (kk.trans k4) e4 s4 n4, fun σ4 H4 τ4 S4 k4 e4 s4 n4 => ⟨τ4, S4, ⟨R3.kept.trans k4, e4, s4⟩, kk.trans k4, n4⟩⟩

/-! ### comprehensions -/
theorem jts_nil : PTs X [] (liftT X.K H0 mYes) := ⟨fun pins s σ H Q I ⟨τ, S, q, R, h, f⟩ => pts_nil.run pins s σ H Q I (f true H S (Kept.refl H) R.st h)⟩
theorem jts_one {c : Expr} {m : MT} (h : PT X c (liftT X.K H0 m)) : PTs X [c] (liftT X.K H0 m) := pts_one h
theorem comp_lift {σ : St} {H : Hp} {Q : VK} {mi : MI} {g : MG} {m : MT} {gvs vs : List Nat} (hv : ∀ i ∈ gvs, i ∈ vs) (h : lift X.K H0 (eComp mi g m te vs) σ H Q) : tLcM (liftI X.K H0 mi) (liftG X.K H0 gvs g) (liftT X.K H0 m) (lift X.K H0 te) vs σ H Q := by
  obtain ⟨τ, S, q, R, h, f⟩ := h
  refine ⟨τ, S, _, R, h, fun J H1 j S1 k1 s1 sim q1 => ?_⟩
  intro D hD
  obtain ⟨W, ⟨m0, w0⟩, turn⟩ := q1 D (s1.free hD)
  have kD : Kept H1 (upd H1 D (.lst [])) := Kept.new hD
  have sD : RelS X.K (upd H1 D (.lst [])) (upS S1 D (.lst [])) := s1.newL hD .nil
  have E1 : RelE X.K H1 (wipe σ vs) (wipeT τ vs) := (R.env.mono k1).wipe vs
  refine ⟨fun i m H2 => ∃ S2, RelS X.K H2 S2 ∧ Kept H1 H2 ∧ W i m S2, ⟨m0, _, sD, kD, w0⟩, ?_⟩
  rintro i m H2 ⟨S2, s2, k12, w2⟩
  have t2 := turn i m S2 w2
  split at t2
  · exact t2.elim
  · rename_i e2
    exact .inl ⟨sim.stop i H2 S2 k12 s2 e2, f _ H2 _ S2 (k1.trans k12) s2 (by simp only [Rep]) t2⟩
  · rename_i t e2
    obtain ⟨N, hN, hg2⟩ := t2
    refine .inr ⟨sim.go i H2 S2 t k12 s2 e2, fun H5 H' => Kept H5 H' ∧ ∃ S', RelS X.K H' S' ∧ Kept H1 H' ∧ N S', fun H5 H' ⟨hk, S', s', ka, n'⟩ => ?_, fun x H' y => ?_⟩
    · obtain ⟨m', hm, w'⟩ := hN S' n'
      exact ⟨hk, m', hm, S', s', ka, w'⟩
    · obtain ⟨ky, sy, ry⟩ := sim.yld i H2 S2 t x H' k12 s2 e2 y
      have kA : Kept H1 H' := k12.trans ky
      have R2 : Rel X.K H0 H' (wipe σ vs) (wipeT τ vs) S2 := ⟨(R.kept.trans k1).trans kA, E1.mono kA, sy⟩
      refine ⟨t, wipeT τ vs, S2, _, ry, R2, hg2, fun σ3 H3 τ3 S3 k3 e3 s3 o3 q3 => ⟨?_, τ3, S3, _, ⟨R2.kept.trans k3, e3, s3⟩, q3, fun b H4 S4 k4 s4 q4 => ?_⟩⟩
      · have := o3 vs hv
        rw [this]
        exact wipe_idem σ vs
      · cases b with
        | false => exact ⟨k3.trans k4, S4, s4, (kA.trans k3).trans k4, q4⟩
        | true =>
          refine ⟨τ3, S4, _, ⟨(R2.kept.trans k3).trans k4, e3.mono k4, s4⟩, q4, fun yv H5 ty S5 k5 s5 r5 q5 => ?_⟩
          dsimp only at q5
          split at q5
          · rename_i acc eD
            obtain ⟨xs, h1, h2⟩ := s5 D _ eD
            have k6 : Kept H5 (upd H5 D (.lst (xs ++ [yv]))) := Kept.lst h1
            refine ⟨xs, h1, ?_, ((k3.trans k4).trans k5).trans k6, _, s5.setL h1 (h2.append (.cons r5 .nil)), (((kA.trans k3).trans k4).trans k5).trans k6, q5.2⟩
            rw [h2.len]
            have := q5.1
            show acc.length < sizeLine
            rw [sizeLine_eq]
            omega
          · exact q5.elim
where
  wipe_idem (σ : St) (vs : List Nat) : wipe (wipe σ vs) vs = wipe σ vs := by
    apply List.ext_getElem?
    intro j
    by_cases hj : j ∈ vs
    · have key : ∀ (σ : St) (vs : List Nat), j ∈ vs → (wipe σ vs)[j]? = if j < σ.length then some none else none := by
        intro σ vs
        induction vs with
        | nil => intro h; cases h
        | cons w ws ih =>
          intro h
          unfold wipe
          by_cases hw : w = j
          · subst hw
            by_cases hl : w < (wipe σ ws).length
            · rw [List.getElem?_set_self hl, if_pos (by rw [wipe_length] at hl; exact hl)]
            · rw [List.getElem?_eq_none (by simpa using hl), if_neg (by rw [wipe_length] at hl; exact hl)]
          · rw [List.getElem?_set_ne hw]
            exact ih ((List.mem_cons.mp h).resolve_left fun e => hw e.symm)
      rw [key _ _ hj, key _ _ hj, wipe_length]
    · rw [wipe_out hj]
end
end M
set_option Elab.async false
set_option maxRecDepth 100000
set_option linter.unusedVariables false
set_option maxHeartbeats 1000000
/-! Layer M, part I: defs, calls, methods of lists, comprehensions as values, the law's head. -/
namespace M
open PySem PySem.Spec PyProof.Rows L2

abbrev XW := XT → Store → Prop
abbrev SpM := List T → Store → KT → XW → Prop
def FinX (K : PySem.W.Frag) (H : Hp) (E : XW) (EX : XK) : Prop := ∀ cls d H' x S', Kept H H' → RelS K H' S' → RepX K H' cls d x → E x S' → EX cls d H'
structure FnM (P : Program) (w : World) (K : PySem.W.Frag) (mg : Str → Option Value) (base : Heap) (k : Nat) (f : Addr) (fd : FuncData) (ps : List Str) (sp : SpM) : Prop where
  len : ∀ ts S q E, sp ts S q E → ts.length = ps.length
  run : ∀ (A : Around) (outer : List Env) (s : Shared) (H : Hp) (args : Args) (us : List Value) (vs : List V) (ts : List T) (S : Store) (q : KT) (E : XW) (Q : VK) (EX : XK), Room k A → A.guards = some [] → Env0 P w K mg base A outer s H → BindsTo s fd args (ps.zip us) → Vals vs us →
    RepAll K H vs ts → RelS K H S → sp ts S q E → M.Fin K H q Q → FinX K H E EX → codeAny (model P w) A (.call (.ref f) args) (CR (L2.CX P w) outer P w H s Q EX) s
def startT (N : List Str) (ts : List T) : Env' := ts.map some ++ List.replicate (N.length - ts.length) none
theorem startE {K : PySem.W.Frag} {H : Hp} {N : List Str} {vs : List V} {ts : List T} (r : RepAll K H vs ts) : RelE K H (L2.start N vs) (startT N ts) := by
  have hl := r.len
  refine ⟨by unfold startT L2.start; simp [hl], fun i t e => ?_⟩
  unfold startT at e
  have hi : i < ts.length := by
    by_cases hi : i < ts.length
    · exact hi
    · rw [List.getElem?_append_right (by simpa using hi), List.getElem?_replicate] at e
      split at e <;> cases e
  rw [List.getElem?_append_left (by simpa using hi), List.getElem?_map] at e
  cases et : ts[i]? with
  | none => rw [et] at e; cases e
  | some u =>
    rw [et] at e
    cases e
    obtain ⟨v, ev, rv⟩ := r.get et
    refine ⟨v, ?_, rv⟩
    unfold L2.start
    rw [List.getElem?_append_left (by simp; omega), List.getElem?_map, ev]
    rfl
theorem takes_none {X : Cx} {H0 : Hp} : Takes X (liftW X.K H0 fun _ _ _ => False) := fun u s' ⟨_, _, _, _, _, _, _, _, _, _, _, _, _, _, _, _, x, τ, S, _, _, w⟩ => w.elim
/-- THE RULE of a def -/
theorem fn_ofM {P : Program} {w : World} {K : PySem.W.Frag} {mg : Str → Option Value} {base : Heap} {k : Nat} {x qual : Str} {st : Stmt} {f : Addr} {fd : FuncData} {N ps : List Str} {sp : SpM} (F : Fun K x qual st f fd) (Sc : FnScope N ps (defScope st)) (len : ∀ ts S q E, sp ts S q E → ts.length = ps.length)
    (hbody : ∀ (cdv : Value) (A : Around) (outer : List Env) (s : Shared) (H : Hp) (EX : XK) (ts : List T) (S : Store) (q : KT) (E : XW), Room k (A.deeper (envOfC qual (defScope st) s.heap.objs.size f cdv)) → A.guards = some [] →
      Takes (cxOf (L2.CX P w) P w K mg base N qual (defScope st) f cdv A outer s H EX) (liftW K H fun x _ S => E x S) → sp ts S q E →
      ∃ t, PSs (cxOf (L2.CX P w) P w K mg base N qual (defScope st) f cdv A outer s H EX) (defBody st) (liftS K H t) ∧ t { nx := fun _ S => q .non S, rt := q } (startT N ts) S) :
    FnM P w K mg base (k + 1) f fd ps sp := by
  obtain ⟨oc, od, kV, doc, pm, an, cdv, ct, osl, rfl, lk, hcd⟩ := F.ex
  refine ⟨len, fun A outer s H args us vs ts S q E Q EX hr hgd e0 hb r rt RS hsp fq fx => ?_⟩
  have hl : vs.length = ps.length := by rw [rt.len]; exact len _ _ _ _ hsp
  have KX : K.In s.heap := e0.mod.kin.keeps fun b o e => (e0.bs b o e).1
  have lim : s.heap.NoLimit := e0.mod.nolimit.keeps fun b o e => (e0.bs b o e).1
  have hkind : ∀ y ∈ ps.zip us, (defScope st).names.lookup y.1 = some .local ∨ ((defScope st).names.lookup y.1 = some .cell ∧ ((cellsFrom (s.heap.objs.size + 1) (defScope st).names []).lookup y.1).isSome = true) := fun ⟨n, v⟩ hy => by
    rcases Sc.par n (List.of_mem_zip hy).1 with q | q
    · exact .inl q
    · exact .inr ⟨q, PySem.W.cellsFrom_some _ _ _ (.inl q)⟩
  refine codeAny_call_function hr.depth (KX _ _ lk) rfl Sc.co Sc.gen rfl (PySem.W.codeRec_of KX hcd) (hb _ _ _ _ ?_)
  refine wpAny_newFunctionEnv_cells Sc.kind hkind fun env he s1 xx => ?_
  subst he
  refine ⟨lim.keeps xx.toInCall.keep, codeAny_func ?_⟩
  have tk : Takes (cxOf (L2.CX P w) P w K mg base N qual (defScope st) f cdv A outer s H EX) (liftW K H fun x _ S => E x S) := by
    have tk0 := takes_of (X := cxOf (L2.CX P w) P w K mg base N qual (defScope st) f cdv A outer s H EX) (E := EX) rfl rfl rfl rfl
    exact tk0.imp fun cls d σ H' ⟨x, τ, S', R, rx, hE⟩ => fx cls d H' x S' R.kept R.st rx hE
  obtain ⟨t, ht, hq⟩ := hbody cdv A outer s H EX ts S q E (hr.deeper _) hgd tk hsp
  have I : Inv (cxOf (L2.CX P w) P w K mg base N qual (defScope st) f cdv A outer s H EX) [] (L2.start N vs) H s1 := inv_start Sc hr.hd e0 hl r xx
  have hW : liftS K H t { nx := fun _ H' => Q .non H', rt := Q } (L2.start N vs) H := ⟨startT N ts, S, _, ⟨Kept.refl H, startE rt, RS⟩, hq, ⟨fun σ' H' τ' S' k e s q' => fq .non H' .non S' k s (by simp only [Rep]) q', fq, fun _ _ _ _ _ _ _ z => z.elim, fun _ _ _ _ _ _ _ z => z.elim⟩⟩
  refine wpAny_mono (ht.run [] s1 (L2.start N vs) H _ I hW) (fun fl s' hs => ?_) fun e s' hs => hs
  have fin : ∀ {σ' : St} {H' : Hp} {v : V} {u : Value}, Inv (cxOf (L2.CX P w) P w K mg base N qual (defScope st) f cdv A outer s H EX) [] σ' H' s' → RelV v u → Q v H' → CE outer P w H s Q u s' :=
    fun {σ' H' v u} J rv q => ⟨v, H', J.os, J.bare, J.base, J.hok, rv, q⟩
  cases fl with
  | ret u =>
    obtain ⟨v, σ', H', J, rv, q⟩ := hs
    exact fin J rv q
  | next =>
    obtain ⟨σ', H', J, q⟩ := hs
    exact fin (v := V.non) (u := Value.none) J rfl q
  | brk =>
    obtain ⟨_, _, _, q⟩ := hs
    exact False.elim q
  | cont =>
    obtain ⟨_, _, _, q⟩ := hs
    exact False.elim q
/-- a def that may be called by its name -/
structure CalM (P : Program) (w : World) (K : PySem.W.Frag) (mg : Str → Option Value) (base : Heap) (k : Nat) (x : Str) (sp : SpM) (dts : List T) : Prop where
  ex : ∃ (f : Addr) (fd : FuncData) (ps : List Str) (ds : List Value) (dvs : List V), FnM P w K mg base k f fd ps sp ∧ mg x = some (.ref f) ∧ PySem.W.keepIn K (.ref f) = true ∧ Binds K fd ps ds ∧ Vals dvs ds ∧ ∀ H, RepAll K H dvs dts
/-- a def with no defaults -/
theorem cal_of {P : Program} {w : World} {K : PySem.W.Frag} {mg : Str → Option Value} {base : Heap} {k : Nat} {x : Str} {st : Stmt} {f : Addr} {fd : FuncData} {ps : List Str} {sp : SpM} (D : Fun K x x st f fd) (hm : mg x = some (.ref f)) (b : Binds K fd ps []) (h : FnM P w K mg base k f fd ps sp) : CalM P w K mg base k x sp [] :=
  ⟨f, fd, ps, [], [], h, hm, D.kp, b, .nil, fun _ => .nil⟩
theorem CalM.up {P : Program} {w : World} {K : PySem.W.Frag} {mg : Str → Option Value} {base : Heap} {j k : Nat} {x : Str} {sp : SpM} {dts : List T} (c : CalM P w K mg base j x sp dts) (h : j ≤ k) : CalM P w K mg base k x sp dts := by
  obtain ⟨f, fd, ps, ds, dvs, F, r⟩ := c.ex
  exact ⟨f, fd, ps, ds, dvs, ⟨F.len, fun A outer s H args us vs ts S q E Q EX hr => F.run A outer s H args us vs ts S q E Q EX (hr.mono h)⟩, r⟩

/-! ### readings of calls -/
def eCall (sp : SpM) (dts : List T) (W : Wish) (a : MA) : ME := fun τ S q => a τ S fun ts S1 => sp (ts ++ dts) S1 q fun x S2 => W x τ S2
def eMth (r : T → List T → Store → KT → Prop) (o : ME) (a : MA) : ME := fun τ S q => o τ S fun t S1 => match lstOf S1 t with
  | some _ => a τ S1 fun ts S2 => r t ts S2 q
  | none => False
def appR (t : T) (ts : List T) (S : Store) (q : KT) : Prop := match t, ts with
  | .ref p, [y] => match S p with
    | some (.lst xs) => xs.length < 16000000 ∧ q .non (upS S p (.lst (xs ++ [y])))
    | _ => False
  | _, _ => False
def extR (t : T) (ts : List T) (S : Store) (q : KT) : Prop := match t, ts with
  | .ref p, [.ref b] => match S p, S b with
    | some (.lst xs), some (.lst ys) => xs.length + ys.length ≤ 16000000 ∧ q .non (upS S p (.lst (xs ++ ys)))
    | _, _ => False
  | _, _ => False
def popR (t : T) (ts : List T) (S : Store) (q : KT) : Prop := match t, ts with
  | .ref p, [] => match S p with
    | some (.lst xs) => match xs[xs.length - 1]? with
      | some y => q y (upS S p (.lst xs.dropLast))
      | none => False
    | _ => False
  | _, _ => False
section
variable {X : Cx} {H0 : Hp} {x : Str} {p pos : Pos} {e : Expr} {es : List Expr} {ta : MA} {W : Wish}
theorem noStar_all (h : (es.all fun e => !isStar e) = true) {env : PySem.Env} : (backTo pos (starEach es env)).any (·.1) = false := noStar_any fun e he => by
  have q := List.all_eq_true.mp h e he
  cases e <;> first
    | rfl
    | simp [isStar] at q
theorem run_fnM {sp : SpM} {j : Nat} {f : Addr} {fd : FuncData} {ps : List Str} {ds : List Value} {dvs : List V} {dts : List T} {pins : List (Addr × Obj)} {σ : St} {H1 : Hp} {s1 : Shared} {Q : VK} {us : List Value} {vs : List V} {ts : List T} {τ : Env'} {S1 : Store} {q : KT}
    (F : FnM X.prog X.w X.K X.mg X.base j f fd ps sp) (hr : Room j X.A) (hgd : X.A.guards = some []) (hb : Binds X.K fd ps ds) (hd : Vals dvs ds) (hdt : ∀ H, RepAll X.K H dvs dts) (tk : Takes X (liftW X.K H0 W))
    (I1 : Inv X pins σ H1 s1) (r : Vals vs us) (rt : RepAll X.K H1 vs ts) (R : Rel X.K H0 H1 σ τ S1) (h : sp (ts ++ dts) S1 q fun x S2 => W x τ S2) (f0 : M.Fin X.K H1 q Q) : wpAny (model X.prog X.w) X.A (call (.ref f) us) (EP X pins σ Q) X.xe s1 := by
  have r2 : Vals (vs ++ dvs) (us ++ ds) := r.append hd
  have rt2 : RepAll X.K H1 (vs ++ dvs) (ts ++ dts) := rt.append (hdt H1)
  have hl : (us ++ ds).length = ps.length := by rw [← r2.length, rt2.len]; exact F.len _ _ _ _ h
  refine wpAny_call (codeAny_mono (F.run X.A X.stack s1 H1 ⟨us, []⟩ (us ++ ds) (vs ++ dvs) (ts ++ dts) S1 q _ Q (fun cls d H' => liftW X.K H0 W cls d σ H') hr hgd I1.env0 (hb s1 us I1.kIn hl) r2 rt2 R.st h f0 fun cls d H' x S' k s rx w => ⟨x, τ, S', R.next k s, rx, w⟩) fun r s' hq => ?_)
  cases r with
  | error e => exact tk _ _ (XE.of_call I1 (fun cls d H' h => h) hq)
  | ok fl =>
    cases fl with
    | ret u => exact I1.after hq
    | next => exact False.elim hq
    | brk => exact False.elim hq
    | cont => exact False.elim hq
theorem je_call {sp : SpM} {j k : Nat} {dts : List T} (C : CalM X.prog X.w X.K X.mg X.base j x sp dts) (hr : Room k X.A) (hj : j ≤ k) (hgd : X.A.guards = some []) (tk : Takes X (liftW X.K H0 W)) (ha : PA X (e :: es) (liftA X.K H0 ta)) (hg : Gl X x) (h1 : isStar e = false) (h2 : (es.all fun e => !isStar e) = true)
    (hdb : (x == ("__debug__" : Str)) = false := by decide) : PE X (.Call (.Name x p) (e :: es) [] pos) (lift X.K H0 (eCall sp dts W ta)) := by
  obtain ⟨f, fd, ps, ds, dvs, F, hm, hk, hb, hd, hdt⟩ := C.ex
  refine ⟨fun pins s σ H Q I ⟨τ, S, q, R, h, f0⟩ => ?_⟩
  refine wpAny_Call_Name_kw (ld_glob I hg hm ?_ hdb)
  refine PySem.W.callWith_K (h₀ := X.base) I.ok.mod.kin hk (thn (ha.run pos pins s σ H (fun vs H1 => ∃ ts S1, Kept H H1 ∧ RelS X.K H1 S1 ∧ RepAll X.K H1 vs ts ∧ sp (ts ++ dts) S1 q fun x S2 => W x τ S2) I ⟨τ, S, _, R, h, fun vs H1 ts S1 k1 s1 r1 q1 => ⟨ts, S1, k1, s1, r1, q1⟩⟩) fun us s1 ⟨vs, H1, I1, r, ts, S1, k1, s1', rt, q1⟩ => ⟨I1.kIn, ?_⟩) (star_cons h1) (noStar_all h2)
  exact run_fnM F (hr.mono hj) hgd hb hd hdt tk I1 r rt (R.next k1 s1') q1 (f0.mono k1)
theorem je_call0 {sp : SpM} {j k : Nat} {dts : List T} (C : CalM X.prog X.w X.K X.mg X.base j x sp dts) (hr : Room k X.A) (hj : j ≤ k) (hgd : X.A.guards = some []) (tk : Takes X (liftW X.K H0 W)) (hg : Gl X x) (hdb : (x == ("__debug__" : Str)) = false := by decide) :
    PE X (.Call (.Name x p) [] [] pos) (lift X.K H0 (eCall sp dts W aNil)) := by
  obtain ⟨f, fd, ps, ds, dvs, F, hm, hk, hb, hd, hdt⟩ := C.ex
  refine ⟨fun pins s σ H Q I ⟨τ, S, q, R, h, f0⟩ => ?_⟩
  refine wpAny_Call_Name_kw (ld_glob I hg hm ?_ hdb)
  exact PySem.W.callWith_K0 I.kIn hk (run_fnM (us := []) (vs := []) (ts := []) F (hr.mono hj) hgd hb hd hdt tk I .nil .nil R h f0)

/-! ### methods of a list -/
def liftM (K : PySem.W.Frag) (r : T → List T → Store → KT → Prop) : V → List V → Hp → VK → Prop := fun x vs H Q => ∃ t ts S q, Rep K H x t ∧ RepAll K H vs ts ∧ RelS K H S ∧ r t ts S q ∧ M.Fin K H q Q
theorem refL {K : PySem.W.Frag} {H : Hp} {x : V} {t : T} {S : Store} {pp : Addr} {xs : List T} (r : Rep K H x (.ref pp)) (R : RelS K H S) (e : S pp = some (.lst xs)) : x = .ref pp ∧ ∃ ws, H pp = some (.lst ws) ∧ RepAll K H ws xs := by
  simp only [Rep] at r
  obtain ⟨ws, h1, h2⟩ := R pp _ e
  exact ⟨r, ws, h1, h2⟩
theorem mtm_append : MtM X "list.append" (liftM X.K appR) := by
  intro pins s σ H x vs v us Q I rx rv ⟨t, ts, S, q, hx, hv, R, h, f⟩
  unfold appR at h
  split at h
  · rename_i pp y
    split at h
    · rename_i xs e
      obtain ⟨rfl, ws, h1, h2⟩ := refL (t := .non) hx R e
      obtain ⟨w, rfl, hw⟩ := one_inv hv
      refine mt_append pins s σ H _ _ v us Q I rx rv ⟨pp, ws, w, rfl, rfl, h1, ?_, ?_⟩
      · rw [h2.len]; have := h.1; rw [sizeLine_eq]; omega
      · exact f _ _ _ _ (Kept.lst h1) (R.setL h1 (h2.append (.cons hw .nil))) (by simp only [Rep]) h.2
    · exact h.elim
  · exact h.elim
theorem mtm_extend : MtM X "list.extend" (liftM X.K extR) := by
  intro pins s σ H x vs v us Q I rx rv ⟨t, ts, S, q, hx, hv, R, h, f⟩
  unfold extR at h
  split at h
  · rename_i pp b
    split at h
    · rename_i xs ys e1 e2
      obtain ⟨rfl, ws, h1, h2⟩ := refL (t := .non) hx R e1
      obtain ⟨w, rfl, hw⟩ := one_inv hv
      obtain ⟨rfl, zs, h3, h4⟩ := refL (t := .non) hw R e2
      refine mt_extend pins s σ H _ _ v us Q I rx rv ⟨pp, b, ws, zs, rfl, rfl, h1, h3, ?_, ?_⟩
      · rw [h2.len, h4.len]; have := h.1; rw [sizeLine_eq]; omega
      · exact f _ _ _ _ (Kept.lst h1) (R.setL h1 (h2.append h4)) (by simp only [Rep]) h.2
    · exact h.elim
  · exact h.elim
theorem rep_dropLast {K : PySem.W.Frag} {H : Hp} {xs : List V} {ts : List T} (r : RepAll K H xs ts) : RepAll K H xs.dropLast ts.dropLast := by
  rw [List.dropLast_eq_take, List.dropLast_eq_take, r.len]
  exact r.take _
theorem mtm_pop : MtM X "list.pop" (liftM X.K popR) := by
  intro pins s σ H x vs v us Q I rx rv ⟨t, ts, S, q, hx, hv, R, h, f⟩
  unfold popR at h
  split at h
  · rename_i pp
    split at h
    · rename_i xs e
      split at h
      · rename_i y ey
        obtain ⟨rfl, ws, h1, h2⟩ := refL (t := .non) hx R e
        obtain rfl := hv.nil_inv
        obtain ⟨w, ew, rw'⟩ := h2.get ey
        refine mt_pop pins s σ H _ _ v us Q I rx rv ⟨pp, ws, w, rfl, rfl, h1, by rw [h2.len]; exact ew, ?_⟩
        exact f _ _ _ _ (Kept.lst h1) (R.setL h1 (rep_dropLast h2)) (rw'.mono (Kept.lst h1)) h
      · exact h.elim
    · exact h.elim
  · exact h.elim
theorem lstOf_ty {K : PySem.W.Frag} {H : Hp} {S : Store} {x : V} {t : T} {ts : List T} (R : RelS K H S) (r : Rep K H x t) (e : lstOf S t = some ts) : tyV K "list" x H := by
  obtain ⟨p, xs, rfl, hs, _⟩ := lstOf_ok R r e
  exact .inl ⟨rfl, xs, hs⟩
variable {o : Expr} {to : ME} {r : T → List T → Store → KT → Prop} {name : Str} {id : String} {apos : Pos}
theorem je_mth (slot : Slot "list" name id) (hty : typeOf (.builtin id) = pure (.type "method_descriptor")) (hm : MtM X id (liftM X.K r)) (ho : PE X o (lift X.K H0 to)) (ha : PA X (e :: es) (liftA X.K H0 ta)) (h1 : isStar e = false) (h2 : (es.all fun e => !isStar e) = true)
    (hbase : attributeBase o name X.env (eval o X.env) = eval o X.env := by rfl)
    (hfew : ((backTo pos (starEach (e :: es) X.env)).all (fun x => !x.1) && (backToKw pos (keywordEach [] X.env)).all (fun x => x.1.isSome)
      && decide ((e :: es).length + ([] : List Keyword).length + (if ([] : List Keyword).isEmpty then 0 else 1) < 30)) = true := by rfl)
    (hline : (apos.endLine == pos.line) = true := by rfl) : PE X (.Call (.Attribute o name apos) (e :: es) [] pos) (lift X.K H0 (eMth r to ta)) :=
  pe_imp (pe_bm F.plainAttrs_list slot hty hm ho ha hbase hfew hline (star_cons h1) (noStar_all h2)) fun σ H Q ⟨τ, S, q, R, h, f⟩ => ⟨τ, S, _, R, h, fun v H1 t S1 k1 s1 r1 q1 => by
    split at q1
    · rename_i zs ez
      refine ⟨lstOf_ty s1 r1 ez, τ, S1, _, R.next k1 s1, q1, fun vs H2 ts S2 k2 s2 r2 q2 => ⟨t, ts, S2, q, r1.mono k2, r2, s2, q2, f.mono (k1.trans k2)⟩⟩
    · exact q1.elim⟩
theorem je_mth0 (slot : Slot "list" name id) (hty : typeOf (.builtin id) = pure (.type "method_descriptor")) (hm : MtM X id (liftM X.K r)) (ho : PE X o (lift X.K H0 to))
    (hbase : attributeBase o name X.env (eval o X.env) = eval o X.env := by rfl) (hline : (apos.endLine == pos.line) = true := by rfl) : PE X (.Call (.Attribute o name apos) [] [] pos) (lift X.K H0 (eMth r to aNil)) :=
  pe_imp (pe_bm0 F.plainAttrs_list slot hty hm ho hbase hline) fun σ H Q ⟨τ, S, q, R, h, f⟩ => ⟨τ, S, _, R, h, fun v H1 t S1 k1 s1 r1 q1 => by
    split at q1
    · rename_i zs ez
      exact ⟨lstOf_ty s1 r1 ez, t, [], S1, q, r1, .nil, s1, q1, f.mono k1⟩
    · exact q1.elim⟩

/-! ### o[i] = v -/
def setR (o i v : T) (S : Store) (q : Store → Prop) : Prop := match o, i with
  | .ref p, .int k => match S p with
    | some (.lst xs) => match ixN xs.length k with
      | some j => q (upS S p (.lst (xs.set j v)))
      | none => False
    | _ => False
  | _, _ => False
def gSub (o i : ME) : MG := fun v τ S q => o τ S fun x S1 => i τ S1 fun y S2 => setR x y v S2 fun S3 => q τ S3
theorem jg_sub {oe ie : Expr} {to ti : ME} (ho : PE X oe (lift X.K H0 to)) (hi : PE X ie (lift X.K H0 ti)) (ha : ∀ v, assign (.Subscript oe ie pos) X.env v = (do
      let ov ← holding [v] (eval oe X.env)
      let iv ← holding [v, ov] (eval ie X.env)
      standAt pos
      holding [v, ov, iv] (setItem ov iv v)
      release [v, ov, iv] []) := by intro _; rfl) : PG X (.Subscript oe ie pos) (liftG X.K H0 [] (gSub to ti)) :=
  pg_imp (pg_sub ho hi set_list ha) fun v σ H Q ⟨t, τ, S, q, rv, R, h, f⟩ => ⟨τ, S, _, R, h, fun x H1 xt S1 k1 s1 r1 q1 => ⟨τ, S1, _, R.next k1 s1, q1, fun y H2 yt S2 k2 s2 r2 q2 => by
    unfold setR at q2
    split at q2
    · rename_i pp kk
      split at q2
      · rename_i xs e
        split at q2
        · rename_i j ej
          obtain ⟨rfl, ws, h1, h2⟩ := refL (t := .non) (r1.mono k2) s2 e
          simp only [Rep] at r2
          have kL : Kept H2 (upd H2 pp (.lst (ws.set j v))) := Kept.lst h1
          have kk2 : Kept H (upd H2 pp (.lst (ws.set j v))) := (k1.trans k2).trans kL
          exact ⟨pp, ws, kk, j, rfl, r2, h1, by rw [h2.len]; exact ej, f σ _ τ _ kk2 (R.env.mono kk2) (s2.setL h1 (h2.set (rv.mono (k1.trans k2)) j)) .refl q2⟩
        · exact q2.elim
      · exact q2.elim
    · exact q2.elim⟩⟩

/-! ### [..] -/
variable {elt tg iter : Expr} {ifs : List Expr} {scope : Scope} {own : List (Str × Nat)} {mi : MI} {g : MG} {m : MT} {te : ME} {gvs : List Nat}
theorem je_comp (hc : X.calm = true) (hN : X.N.Nodup) (hi : PIM X tg iter (liftI X.K H0 mi)) (ok : blkC X.N X.env.scope scope own = true) (hv : ∀ i ∈ gvs, i ∈ own.map (·.2))
    (hg : ∀ (s : Shared) (H : Hp) (C : Addr) (cl : List (Str × Addr)) (fp : List Addr), PG (X.blk s H scope (compEnvC scope cl C X.env) fp) tg (liftG X.K H0 gvs g)) (ht : ∀ (s : Shared) (H : Hp) (C : Addr) (cl : List (Str × Addr)) (fp : List Addr), PTs (X.blk s H scope (compEnvC scope cl C X.env) fp) ifs (liftT X.K H0 m))
    (he : ∀ (s : Shared) (H : Hp) (C : Addr) (cl : List (Str × Addr)) (fp : List Addr), PE (X.blk s H scope (compEnvC scope cl C X.env) fp) elt (lift X.K H0 te)) (hs : ∀ x, foldedSetIterable iter X.env x = pure x := by intro _; rfl) :
    PE X (.ListComp elt [⟨tg, iter, ifs, 0⟩] scope pos) (lift X.K H0 (eComp mi g m te (own.map (·.2)))) := pe_imp (pe_lcM hc hN hi (blkOk_by ok) hg ht he hs) fun σ H Q h => comp_lift hv h
/-- name = [..] in one line -/
theorem js_setLc {i : Nat} {y : Str} {py spos : Pos} (hc : X.calm = true) (hN : X.N.Nodup) (hy : X.N[i]? = some y) (hyl : X.env.scope.names.lookup y = some .local)
    (hsw : swapsWith (.ListComp elt [⟨tg, iter, ifs, 0⟩] scope pos) (some (.Name y py)) spos.line X.env = pure true) (hi : PIM X tg iter (liftI X.K H0 mi)) (ok : blkC X.N X.env.scope scope own = true) (hv : ∀ i ∈ gvs, i ∈ own.map (·.2))
    (hg : ∀ (s : Shared) (H : Hp) (C : Addr) (cl : List (Str × Addr)) (fp : List Addr), PG (X.blk s H scope (compEnvC scope cl C X.env) fp) tg (liftG X.K H0 gvs g)) (ht : ∀ (s : Shared) (H : Hp) (C : Addr) (cl : List (Str × Addr)) (fp : List Addr), PTs (X.blk s H scope (compEnvC scope cl C X.env) fp) ifs (liftT X.K H0 m))
    (he : ∀ (s : Shared) (H : Hp) (C : Addr) (cl : List (Str × Addr)) (fp : List Addr), PE (X.blk s H scope (compEnvC scope cl C X.env) fp) elt (lift X.K H0 te)) (hs : ∀ x, foldedSetIterable iter X.env x = pure x := by intro _; rfl) :
    PS X (.Assign [.Name y py] (.ListComp elt [⟨tg, iter, ifs, 0⟩] scope pos) spos) (liftS X.K H0 (sAsg (eComp mi g m te (own.map (·.2))) (gSet i))) :=
  ps_imp (ps_setLcM hc hN hy hyl hsw hi (blkOk_by ok) hg ht he hs) fun D σ H ⟨τ, S, D', R, h, d⟩ => comp_lift hv ⟨τ, S, _, R, h, fun v H1 t S1 k s r q => d.nx _ H1 _ S1 k ((R.env.mono k).set r i) s q⟩
end

/-! ### the law -/
/-- the law's promise: the script is handed in, True comes out -/
def spLawM : SpM := fun ts S q E => ∃ ns, ts = [.scr ns] ∧ ns.length ≤ 63 ∧ ∀ S', q (.bl true) S'
theorem law_callM {P : Program} {w : World} {K : PySem.W.Frag} {mg mb : Str → Option Value} {k : Nat} {fa a : Addr} {fd : FuncData} {x : Str} {s₁ : Shared} {vs : List Value} {ns : List Int}
    (KX : K.In s₁.heap) (hns : s₁.heap.Ns mainGlobals mg) (hb : s₁.heap.Ns builtinsNs mb) (hbb : ∀ x : Str, x ≠ "__name__" → mb x = bootBuiltins x) (hlim : s₁.heap.NoLimit) (hg : s₁.gens = #[])
    (ha : s₁.heap.get? a = some { cls := .type "list", data := .seq vs.toArray }) (hi : IntsAre vs ns) (hl : ns.length ≤ 63) (hr : Room k callerA)
    (F : ∀ base : Heap, K.In base → base.Ns mainGlobals mg → FnM P w K mg base k fa fd [x] spLawM) (hbind : ∀ (s : Shared) (u : Value), BindsTo s fd ⟨[u], []⟩ [(x, u)]) :
    codeAny (model P w) callerA (.call (.ref fa) ⟨[.ref a], []⟩) (fun r s' => r = .ok (.ret (.bool true)) ∧ OldK s₁.heap s'.heap ∧ s'.os = s₁.os ∧ AllBare s'.gens) s₁ := by
  have FO : ∀ base : Heap, K.In base → base.Ns mainGlobals mg → ∀ A, A = callerA → ∀ (outer : List Env) (s : Shared) (H : Hp) (args : Args) (us : List Value) (vs : List V) (Q : VK) (E : XK), Room k A → Env0 P w K mg base A outer s H → BindsTo s fd args ([x].zip us) → Vals vs us →
      (∃ ns, RepAll K H vs [.scr ns] ∧ ns.length ≤ 63 ∧ Q = fun v _ => v = .bl true) → codeAny (model P w) A (.call (.ref fa) args) (CR (L2.CX P w) outer P w H s Q E) s := by
    intro base h1 h2 A hA outer s H args us vs Q E hr e0 hb r ⟨ns, rt, hl, hQ⟩
    subst hQ
    exact (F base h1 h2).run A outer s H args us vs [.scr ns] (fun _ => none) (fun t _ => t = .bl true) (fun _ _ => False) _ E hr (by subst hA; rfl) e0 hb r rt (fun a c e => by cases e) ⟨ns, rfl, hl, fun S' => rfl⟩ (fun v H' r S' _ _ rr q => by subst q; simpa only [Rep] using rr) fun cls d H' x S' _ _ _ z => z.elim
  have rv := vals_ints hi
  have lenV := hi.length
  have core : ∀ H : Hp, L2.Only H → SqF K H a (ns.map V.int) → HOk P w H s₁.heap → (∀ b, H b ≠ none → b = a) → (H a ≠ none → K.lookup a = none) →
      codeAny (model P w) callerA (.call (.ref fa) ⟨[.ref a], []⟩) (fun r s' => r = .ok (.ret (.bool true)) ∧ OldK s₁.heap s'.heap ∧ s'.os = s₁.os ∧ AllBare s'.gens) s₁ := by
    intro H hO hS hok hA hK
    have base_of : ∀ {b : Addr} {o : Obj}, s₁.heap.get? b = some o → H b = none → (hidT s₁.heap H).get? b = some o := fun e n => hidT_get e n
    have noA : ∀ {b : Addr} {o : Obj} {es : Array DictEntry} {ep : Nat}, s₁.heap.get? b = some o → o.data = .dict es ep → H b = none := fun {b o es ep} e d => by
      cases q : H b with
      | none => rfl
      | some u =>
        have e' : b = a := hA b (by rw [q]; simp)
        subst e'
        rw [ha] at e; cases e
        have d' : Data.seq vs.toArray _ = Data.dict es ep := d
        cases d'
    have nsK : ∀ {b : Addr} {m : Str → Option Value}, s₁.heap.Ns b m → (hidT s₁.heap H).Ns b m := fun {b m} ⟨o, es, ep, e, d, r⟩ => ⟨o, es, ep, base_of e (noA e d), d, r⟩
    have hKb : K.In (hidT s₁.heap H) := fun b o e => base_of (KX b o e) (by
      cases q : H b with
      | none => rfl
      | some u =>
        have e' : b = a := hA b (by rw [q]; simp)
        subst e'
        rw [hK (by rw [q]; simp)] at e; cases e)
    have hM : Mod K mg (hidT s₁.heap H) := ⟨hKb, nsK hns, ⟨mb, nsK hb, hbb⟩, let ⟨mc, h1, h2⟩ := hlim; ⟨mc, nsK h1, h2⟩⟩
    have e0 : Env0 P w K mg (hidT s₁.heap H) callerA [] s₁ H := ⟨rfl, hM, fun b o e => of_hidT e, Nat.le_of_eq (hidT_size _ _), trivial, fun b hb => absurd (show b ∈ ([] : List Addr) from hb) (by simp), hok, .of_eq hg⟩
    refine codeAny_mono (FO _ hKb (nsK hns) callerA rfl [] s₁ H ⟨[.ref a], []⟩ [.ref a] [.ref a] _ (fun _ _ _ => False) hr e0 (hbind s₁ (.ref a)) (.cons rfl .nil) ⟨ns, .cons (by simp only [Rep]; exact ⟨a, rfl, hS⟩) .nil, hl, rfl⟩) fun r s' h => ?_
    cases r with
    | error e => obtain ⟨_, _, _, _, _, _, _, _, _, _, _, _, z⟩ := h; exact z.elim
    | ok fl =>
      cases fl with
      | next => exact False.elim h
      | brk => exact False.elim h
      | cont => exact False.elim h
      | ret u =>
        obtain ⟨v, H', os, bare, un, hok', r', q⟩ := h
        have q' : v = .bl true := q
        subst q'
        obtain rfl : u = Value.bool true := r'
        refine ⟨rfl, OldK.of_keep fun b o e => ?_, os, bare⟩
        cases q : H b with
        | none => exact un.keep b o e q (by intro z; exact absurd (show b ∈ ([] : List Addr) from z) (by simp)) (by simp)
        | some u =>
          rcases hO b with z | ⟨ob, xs, z⟩
          · rw [q] at z; cases z
          · have z2 := un.frzs b ob _ z
            obtain ⟨e1, _⟩ := hok b _ z
            obtain ⟨e2, _⟩ := hok' b _ z2
            rw [e] at e1; cases e1
            exact e2
  have hl2 : ns.length ≤ sizeLine := by rw [sizeLine_eq]; omega
  cases hk : K.lookup a with
  | some o =>
    have e := KX a o hk
    rw [ha] at e
    cases e
    refine core (fun _ => none) (fun _ => .inl rfl) (.inr ⟨_, vs.toArray, _, hk, rfl, rfl, rfl, by rw [List.size_toArray, lenV]; exact hl2, by simpa using rv⟩) (fun b u z => by have z' : (none : Option HO) = some u := z; cases z') (fun b z => absurd rfl z) fun z => absurd rfl z
  | none =>
    refine core (fun b => if b = a then some (.frz { cls := .type "list", data := .seq vs.toArray } (.lst (ns.map V.int))) else none) (fun b => ?_) (.inl ⟨{ cls := .type "list", data := .seq vs.toArray }, if_pos rfl⟩) (fun b u z => ?_) (fun b z => ?_) fun _ => hk
    · by_cases hb : b = a
      · exact .inr ⟨_, _, if_pos hb⟩
      · exact .inl (if_neg hb)
    · by_cases hb : b = a
      · have z' := (if_pos hb).symm.trans z
        cases z'
        subst hb
        exact ⟨ha, by rw [List.length_map]; exact hl2, vs, _, rv, ha⟩
      · have z' := (if_neg hb).symm.trans z
        cases z'
    · by_cases hb : b = a
      · exact hb
      · exact absurd (if_neg hb) z
theorem walk_ofM {l : PySem.W.OpenLaw} {k : Nat} {q : Program} {loose : List Str} {XP : (Str → Option Value) → Heap → Prop} {YP : World → Heap → Prop} {d : DefRec} {K : Params → PySem.W.Frag} {x : Str}
    (hn : l.most = some 63) (hdf : d.params.defaults = []) (hr : Room k callerA)
    (hY : ∀ (w : World) (h : Heap), YP w h → (K w.params).In h)
    (F : ∀ (w : World) (mg : Str → Option Value) (fa : Addr) (h : Heap), (K w.params).In h → h.Ns mainGlobals mg → mg d.name = some (.ref fa) →
      ∃ fd : FuncData, (∀ (s : Shared) (u : Value), BindsTo s fd ⟨[u], []⟩ [(x, u)]) ∧
        ∀ base : Heap, (K w.params).In base → base.Ns mainGlobals mg → FnM l.prog w (K w.params) mg base k fa fd [x] spLawM) :
    PySem.W.WalkO q loose XP YP l.row.toRowW d [] (fun f vs => PySem.call f vs) := by
  refine Att.attach_call hn hdf fun w s₀ s₁ mg mb fa o pm cd doc a vs ns G Y ho hd hcd hmg hobj hints hlen hg => ?_
  have KX := hY w _ Y
  obtain ⟨fd, hb, hF⟩ := F w mg fa _ KX G.T.g hmg
  exact law_callM KX G.T.g G.T.b G.T.builtins G.T.nolimit hg hobj hints hlen hr hF hb
end M
set_option Elab.async false
set_option maxRecDepth 100000
set_option linter.unusedVariables false
set_option maxHeartbeats 1000000
/-! Layer M, part J: what the printed walks and the proofs about readings use. -/
namespace M
open PySem PySem.Spec PyProof.Rows L2

/-! ### and, or, by two -/
def eAnd2 (a r : ME) : ME := fun τ S q => a τ S fun x S1 => match truT S1 x with
  | some true => r τ S1 q
  | some false => q x S1
  | none => False
def eOr2 (a r : ME) : ME := fun τ S q => a τ S fun x S1 => match truT S1 x with
  | some true => q x S1
  | some false => r τ S1 q
  | none => False
def mAnd2 (a r : MT) : MT := fun τ S q => a τ S fun b S1 => if b = true then r τ S1 q else q false S1
def mOr2 (a r : MT) : MT := fun τ S q => a τ S fun b S1 => if b = true then q true S1 else r τ S1 q
section
variable {X : Cx} {H0 : Hp} {a b : Expr} {rest : List Expr} {ta tr : ME} {ma mr : MT} {pos : Pos}
theorem je_one {op : BoolOp} (ha : PE X a (lift X.K H0 ta)) : PE X (.BoolOp op [a] pos) (lift X.K H0 ta) := by
  cases op <;> exact pe_one ha
theorem je_and2 (ha : PE X a (lift X.K H0 ta)) (ih : PE X (.BoolOp .And (b :: rest) pos) (lift X.K H0 tr)) : PE X (.BoolOp .And (a :: b :: rest) pos) (lift X.K H0 (eAnd2 ta tr)) := by
  refine pe_imp (pe_andT ha ih) fun σ H Q ⟨τ, S, q, R, hh, f⟩ => ⟨τ, S, _, R, hh, fun v H1 t S1 k1 s1 r1 q1 => ?_⟩
  split at q1
  · rename_i e
    exact ⟨true, tru_of s1 r1 e, ⟨τ, S1, q, R.next k1 s1, q1, f.mono k1⟩⟩
  · rename_i e
    exact ⟨false, tru_of s1 r1 e, f _ H1 _ S1 k1 s1 r1 q1⟩
  · exact q1.elim
theorem je_or2 (ha : PE X a (lift X.K H0 ta)) (ih : PE X (.BoolOp .Or (b :: rest) pos) (lift X.K H0 tr)) : PE X (.BoolOp .Or (a :: b :: rest) pos) (lift X.K H0 (eOr2 ta tr)) := by
  refine pe_imp (pe_orT ha ih) fun σ H Q ⟨τ, S, q, R, hh, f⟩ => ⟨τ, S, _, R, hh, fun v H1 t S1 k1 s1 r1 q1 => ?_⟩
  split at q1
  · rename_i e
    exact ⟨true, tru_of s1 r1 e, f _ H1 _ S1 k1 s1 r1 q1⟩
  · rename_i e
    exact ⟨false, tru_of s1 r1 e, ⟨τ, S1, q, R.next k1 s1, q1, f.mono k1⟩⟩
  · exact q1.elim
theorem jw_and1 (ha : PT X a (liftT X.K H0 ma)) : PW X (.BoolOp .And [a] pos) (liftT X.K H0 ma) := pw_and1 ha
theorem jw_or1 (ha : PT X a (liftT X.K H0 ma)) : PW X (.BoolOp .Or [a] pos) (liftT X.K H0 ma) := pw_or1 ha
theorem jw_and2 (ha : PT X a (liftT X.K H0 ma)) (ih : PW X (.BoolOp .And (b :: rest) pos) (liftT X.K H0 mr)) : PW X (.BoolOp .And (a :: b :: rest) pos) (liftT X.K H0 (mAnd2 ma mr)) := by
  have w := pw_and ha ih
  refine ⟨fun wh pins s σ H Q I ⟨τ, S, q, R, hh, f⟩ => w.run wh pins s σ H Q I ⟨τ, S, _, R, hh, fun k H1 S1 k1 s1 q1 => ?_⟩⟩
  cases k with
  | true => exact ⟨τ, S1, q, R.next k1 s1, q1, fun b' H' S' k' => f b' H' S' (k1.trans k')⟩
  | false => exact f _ H1 S1 k1 s1 q1
theorem jw_or2 (ha : PT X a (liftT X.K H0 ma)) (ih : PW X (.BoolOp .Or (b :: rest) pos) (liftT X.K H0 mr)) : PW X (.BoolOp .Or (a :: b :: rest) pos) (liftT X.K H0 (mOr2 ma mr)) := by
  have w := pw_or ha ih
  refine ⟨fun wh pins s σ H Q I ⟨τ, S, q, R, hh, f⟩ => w.run wh pins s σ H Q I ⟨τ, S, _, R, hh, fun k H1 S1 k1 s1 q1 => ?_⟩⟩
  cases k with
  | true => exact f _ H1 S1 k1 s1 q1
  | false => exact ⟨τ, S1, q, R.next k1 s1, q1, fun b' H' S' k' => f b' H' S' (k1.trans k')⟩

/-! ### words of the printed walks -/
theorem jv (i : Nat) {x : Str} (hN : X.N[i]? = some x := by rfl) (hv : Vis X.env.scope x := by first | exact Or.inl rfl | exact Or.inr (Or.inl rfl) | exact Or.inr (Or.inr rfl)) (hd : (x == ("__debug__" : Str)) = false := by decide)
    (hcd : (x == ("__classdict__" : Str)) = false := by decide) : PE X (.Name x pos) (lift X.K H0 (eVar i)) := je_var hN hv hd hcd
theorem je_gl {x : Str} {v : V} {u : Value} {t : T} (hm : X.mg x = some u) (r : RelV v u) (rep : ∀ H, Rep X.K H v t) (hg : Gl X x := by rfl) (hd : (x == ("__debug__" : Str)) = false := by decide) : PE X (.Name x pos) (lift X.K H0 (eC t)) := je_c (pe_glob hg hm r hd) rep
theorem je_gi {x : Str} {i : Int} (hm : ∃ k, X.mg x = some (.int i k)) (hg : Gl X x := by rfl) (hd : (x == ("__debug__" : Str)) = false := by decide) : PE X (.Name x pos) (lift X.K H0 (eC (.int i))) := by
  obtain ⟨k, hm⟩ := hm
  exact je_gl (v := .int i) hm ⟨k, rfl⟩ (fun _ => by simp only [Rep]) hg hd
theorem je_ty {x : Str} (n : String) (hm : X.mg x = none) (hv : bootBuiltins x = some (.type n) := by rfl) (hg : Gl X x := by rfl) (hn : x ≠ "__name__" := by decide) (hd : (x == ("__debug__" : Str)) = false := by decide) : PE X (.Name x pos) (lift X.K H0 (eC (.ty n))) :=
  je_c (pe_bltn (v := .ty n) hg hm hv rfl hn hd) fun _ => by simp only [Rep]
theorem js_st (i : Nat) {x : Str} {e : Expr} {te : ME} {pos' : Pos} (hN : X.N.Nodup) (he : PE X e (lift X.K H0 te)) (hi : X.N[i]? = some x := by rfl) (hx : Loc X.env.scope x := by first | exact Or.inl rfl | exact Or.inr rfl) (hf : X.fn x = true ∨ X.env.scope.names.lookup x = some .local := by first | exact .inl rfl | exact .inr rfl)
    (hs : swapsWith e (some (.Name x pos')) pos.line X.env = pure false := by rfl) : PS X (.Assign [.Name x pos'] e pos) (liftS X.K H0 (sAsg te (gSet i))) := js_set hN hi hx he hf hs
theorem jg (i : Nat) {x : Str} (hN : X.N.Nodup) (hi : X.N[i]? = some x := by rfl) (hx : Loc X.env.scope x := by first | exact Or.inl rfl | exact Or.inr rfl) (hf : X.fn x = true ∨ X.env.scope.names.lookup x = some .local := by first | exact .inl rfl | exact .inr rfl) : PG X (.Name x pos) (liftG X.K H0 [i] (gSet i)) := jg_name hN hi hx hf
theorem js_add (i : Nat) {x : Str} {e : Expr} {te : ME} {pos' : Pos} (hN : X.N.Nodup) (he : PE X e (lift X.K H0 te)) (hi : X.N[i]? = some x := by rfl) (hx : Loc X.env.scope x := by first | exact Or.inl rfl | exact Or.inr rfl) (hf : X.fn x = true ∨ X.env.scope.names.lookup x = some .local := by first | exact .inl rfl | exact .inr rfl) :
    PS X (.AugAssign (.Name x pos') .Add e pos) (liftS X.K H0 (sAugI i addR te)) := jaug true hN hi hx he hf
theorem js_sub (i : Nat) {x : Str} {e : Expr} {te : ME} {pos' : Pos} (hN : X.N.Nodup) (he : PE X e (lift X.K H0 te)) (hi : X.N[i]? = some x := by rfl) (hx : Loc X.env.scope x := by first | exact Or.inl rfl | exact Or.inr rfl) (hf : X.fn x = true ∨ X.env.scope.names.lookup x = some .local := by first | exact .inl rfl | exact .inr rfl) :
    PS X (.AugAssign (.Name x pos') .Sub e pos) (liftS X.K H0 (sAugI i subR te)) := jaug false hN hi hx he hf
theorem js_app {o e : Expr} {to te : ME} {apos p1 p2 : Pos} (ho : PE X o (lift X.K H0 to)) (he : PA X [e] (liftA X.K H0 (aCons te aNil))) (h1 : isStar e = false := by rfl)
    (hbase : attributeBase o "append" X.env (eval o X.env) = eval o X.env := by rfl)
    (hfew : ((backTo p1 (starEach [e] X.env)).all (fun x => !x.1) && (backToKw p1 (keywordEach [] X.env)).all (fun x => x.1.isSome)
      && decide ([e].length + ([] : List Keyword).length + (if ([] : List Keyword).isEmpty then 0 else 1) < 30)) = true := by rfl)
    (hline : (apos.endLine == p1.line) = true := by rfl) (hs : swapsWith (.Call (.Attribute o "append" apos) [e] [] p1) none p2.line X.env = pure false := by rfl) : PS X (.Expr (.Call (.Attribute o "append" apos) [e] [] p1) p2) (liftS X.K H0 (sDrop (eMth appR to (aCons te aNil)))) :=
  js_expr (je_mth F.slot_list_append F.type_list_append mtm_append ho he h1 rfl hbase hfew hline) hs
theorem js_ext {o e : Expr} {to te : ME} {apos p1 p2 : Pos} (ho : PE X o (lift X.K H0 to)) (he : PA X [e] (liftA X.K H0 (aCons te aNil))) (h1 : isStar e = false := by rfl)
    (hbase : attributeBase o "extend" X.env (eval o X.env) = eval o X.env := by rfl)
    (hfew : ((backTo p1 (starEach [e] X.env)).all (fun x => !x.1) && (backToKw p1 (keywordEach [] X.env)).all (fun x => x.1.isSome)
      && decide ([e].length + ([] : List Keyword).length + (if ([] : List Keyword).isEmpty then 0 else 1) < 30)) = true := by rfl)
    (hline : (apos.endLine == p1.line) = true := by rfl) (hs : swapsWith (.Call (.Attribute o "extend" apos) [e] [] p1) none p2.line X.env = pure false := by rfl) : PS X (.Expr (.Call (.Attribute o "extend" apos) [e] [] p1) p2) (liftS X.K H0 (sDrop (eMth extR to (aCons te aNil)))) :=
  js_expr (je_mth F.slot_list_extend F.type_list_extend mtm_extend ho he h1 rfl hbase hfew hline) hs
theorem je_pop {o : Expr} {to : ME} {apos : Pos} (ho : PE X o (lift X.K H0 to)) (hbase : attributeBase o "pop" X.env (eval o X.env) = eval o X.env := by rfl) (hline : (apos.endLine == pos.line) = true := by rfl) : PE X (.Call (.Attribute o "pop" apos) [] [] pos) (lift X.K H0 (eMth popR to aNil)) :=
  je_mth0 F.slot_list_pop F.type_list_pop mtm_pop ho hbase hline
theorem jt_tr {e : Expr} {te : ME} (ha : PE X e (lift X.K H0 te)) (he : ∀ whole, isTrue e X.env whole = (do let v ← whole; standAt e.pos; holding [v] (truthy v)) := by intro _; rfl) : PT X e (liftT X.K H0 (mTru te)) := jt_tru ha he
theorem ja_c {e : Expr} {es : List Expr} {te : ME} {tr : MA} (ha : PE X e (lift X.K H0 te)) (hr : PA X es (liftA X.K H0 tr)) (hs : isStar e = false := by rfl) : PA X (e :: es) (liftA X.K H0 (aCons te tr)) := ja_cons ha hr (star_cons hs)
theorem jgs_c {e : Expr} {es : List Expr} {g : MG} {gs : MGs} {vs ws : List Nat} (h1 : PG X e (liftG X.K H0 vs g)) (h2 : PGs X es (liftGs X.K H0 ws gs)) (hs : (assignEach (e :: es) X.env).map (·.2) = assign e X.env :: (assignEach es X.env).map (·.2) := by rfl) : PGs X (e :: es) (liftGs X.K H0 (vs ++ ws) (gsCons g gs)) := jgs_cons h1 h2 hs
end
/-- a def as the module holds it -/
def DefM (K : PySem.W.Frag) (mg : Str → Option Value) (x : Str) (st : Stmt) (ps : List Str) : Prop := ∃ f fd, Fun K x x st f fd ∧ mg x = some (.ref f) ∧ L2.Binds K fd ps []
theorem cal_mk {P : Program} {w : World} {K : PySem.W.Frag} {mg : Str → Option Value} {base : Heap} {k : Nat} {x : Str} {st : Stmt} {N ps : List Str} {sp : SpM} (D : DefM K mg x st ps) (Sc : FnScope N ps (defScope st)) (len : ∀ ts S q E, sp ts S q E → ts.length = ps.length) (t : Wish → MS)
    (hwalk : ∀ (f : Addr) (cdv : Value) (A : Around) (outer : List Env) (s : Shared) (H : Hp) (EX : XK) (W : Wish), Room k (A.deeper (envOfC x (defScope st) s.heap.objs.size f cdv)) → A.guards = some [] →
      Takes (cxOf (L2.CX P w) P w K mg base N x (defScope st) f cdv A outer s H EX) (liftW K H W) → PSs (cxOf (L2.CX P w) P w K mg base N x (defScope st) f cdv A outer s H EX) (defBody st) (liftS K H (t W)))
    (hlaw : ∀ (ts : List T) (S : Store) (q : KT) (E : XW), sp ts S q E → t (fun x _ S => E x S) { nx := fun _ S => q .non S, rt := q } (startT N ts) S) :
    CalM P w K mg base (k + 1) x sp [] := by
  obtain ⟨f, fd, F, hm, b⟩ := D
  exact cal_of F hm b (fn_ofM F Sc len fun cdv A outer s H EX ts S q E hr hgd tk hsp => ⟨_, hwalk f cdv A outer s H EX _ hr hgd tk, hlaw ts S q E hsp⟩)
theorem FnScope.of {N ps : List Str} {st : Stmt} (h1 : (defScope st).kind = .function) (h2 : (defScope st).isCoroutine = false) (h3 : (defScope st).isGenerator = false) (h4 : N.Nodup) (h5 : N.take ps.length = ps)
    (h6 : ∀ x ∈ ps, (defScope st).names.lookup x = some .local ∨ (defScope st).names.lookup x = some .cell) (h7 : ∀ y ∈ (defScope st).names, y.2 ≠ .free) : FnScope N ps (defScope st) := ⟨h1, h2, h3, h4, h5, h6, h7⟩

/-! ### stores that grow -/
/-- a list of three numbers -/
def DiceAt (S : Store) (a : Addr) : Prop := ∃ x y z : Int, S a = some (.lst [.int x, .int y, .int z])
/-- what stood outside d stands; at d stand dice -/
def LeD (d : Addr → Prop) (S S' : Store) : Prop := (∀ a c, ¬ d a → S a = some c → S' a = some c) ∧ ∀ a, d a → DiceAt S' a
def noD : Addr → Prop := fun _ => False
theorem LeD.refl0 (S : Store) : LeD noD S S := ⟨fun _ _ _ h => h, fun _ h => h.elim⟩
theorem LeD.refl {d : Addr → Prop} {S S' : Store} (h : LeD d S S') : LeD d S' S' := ⟨fun _ _ _ h => h, h.2⟩
theorem LeD.trans {d : Addr → Prop} {S S1 S2 : Store} (h : LeD d S S1) (k : LeD d S1 S2) : LeD d S S2 := ⟨fun a c n e => k.1 a c n (h.1 a c n e), k.2⟩
/-- nothing but growth, over dice -/
theorem LeD.of0 {d : Addr → Prop} {S S1 S2 : Store} (h : LeD d S S1) (k : LeD noD S1 S2) : LeD d S1 S2 := ⟨fun a c n e => k.1 a c (fun z => z) e, fun a hd => by
  obtain ⟨x, y, z, e⟩ := h.2 a hd
  exact ⟨x, y, z, k.1 a _ (fun z => z) e⟩⟩
theorem LeD.new {d : Addr → Prop} {S S1 : Store} {p : Addr} {c : Cell} (h : LeD d S S1) (hp : S1 p = none) : LeD d S (upS S1 p c) := by
  refine ⟨fun a c' n e => ?_, fun a hd => ?_⟩
  · have := h.1 a c' n e
    rw [upS_ne (fun z => by rw [z, hp] at this; cases this)]
    exact this
  · obtain ⟨x, y, z, e⟩ := h.2 a hd
    exact ⟨x, y, z, by rw [upS_ne (fun q => by rw [q, hp] at e; cases e)]; exact e⟩
/-- a list that is not of the ground is written -/
theorem LeD.own {d : Addr → Prop} {S S1 : Store} {p : Addr} {c : Cell} (h : LeD d S S1) (hp : S p = none) (nd : ¬ d p) : LeD d S (upS S1 p c) := by
  refine ⟨fun a c' n e => ?_, fun a hd => ?_⟩
  · rw [upS_ne (fun z => by rw [z, hp] at e; cases e)]
    exact h.1 a c' n e
  · obtain ⟨x, y, z, e⟩ := h.2 a hd
    exact ⟨x, y, z, by rw [upS_ne (fun q => nd (by rw [← q]; exact hd))]; exact e⟩
theorem LeD.free {d : Addr → Prop} {S : Store} {p : Addr} (h : LeD d S S) (hp : S p = none) : ¬ d p := fun z => by
  obtain ⟨x, y, u, e⟩ := h.2 p z
  rw [hp] at e; cases e

/-! ### loops -/
inductive Filt (r : T → Option T → Prop) : List T → List T → Prop
  | nil : Filt r [] []
  | yes {x y xs ys} : r x (some y) → Filt r xs ys → Filt r (x :: xs) (y :: ys)
  | no {x xs ys} : r x none → Filt r xs ys → Filt r (x :: xs) ys
theorem Filt.snocY {r : T → Option T → Prop} {xs ys : List T} {x y : T} (h : Filt r xs ys) (k : r x (some y)) : Filt r (xs ++ [x]) (ys ++ [y]) := by
  induction h with
  | nil => exact .yes k .nil
  | yes a _ ih => exact .yes a ih
  | no a _ ih => exact .no a ih
theorem Filt.snocN {r : T → Option T → Prop} {xs ys : List T} {x : T} (h : Filt r xs ys) (k : r x none) : Filt r (xs ++ [x]) ys := by
  induction h with
  | nil => exact .no k .nil
  | yes a _ ih => exact .yes a ih
  | no a _ ih => exact .no a ih
theorem Filt.len {r : T → Option T → Prop} {xs ys : List T} (h : Filt r xs ys) : ys.length ≤ xs.length := by
  induction h with
  | nil => exact Nat.le_refl _
  | yes _ _ ih => simp; omega
  | no _ _ ih => simp; omega
/-- the items that come by a function -/
theorem Filt.fn {f : T → Option T} {xs ys : List T} (h : Filt (fun x o => o = f x) xs ys) : ys = xs.filterMap f := by
  induction h with
  | nil => rfl
  | yes a _ ih => rw [List.filterMap_cons, ← a, ih]
  | no a _ ih => rw [List.filterMap_cons, ← a, ih]
theorem Filt.map {f : T → T} {xs ys : List T} (h : Filt (fun x o => o = some (f x)) xs ys) : ys = xs.map f := by
  induction h with
  | nil => rfl
  | yes a _ ih => cases a; rw [List.map_cons, ih]
  | no a _ ih => cases a
theorem Filt.all {r : T → Option T → Prop} {p : T → Prop} {xs ys : List T} (h : Filt r xs ys) (k : ∀ x y, r x (some y) → p y) : ∀ y ∈ ys, p y := by
  induction h with
  | nil => intro y hy; cases hy
  | yes a _ ih => intro y hy; rcases List.mem_cons.mp hy with e | e; · (rw [e]; exact k _ _ a)
                  exact ih y e
  | no a _ ih => exact ih
theorem Filt.same {r : T → Option T → Prop} {xs ys : List T} (h : Filt r xs ys) (k : ∀ x, ¬ r x none) : ys.length = xs.length := by
  induction h with
  | nil => rfl
  | yes _ _ ih => simp [ih]
  | no a _ ih => exact absurd a (k _)
theorem compI_gen {d : Addr → Prop} {S1 : Store} (hd1 : LeD d S1 S1) {j : ItT} {step : T → Store → (Option T → Store → Prop) → Prop} {q : KT} (xs : List T) (hl : xs.length ≤ 16000000) (r : T → Option T → Prop) (hj : ∀ i S, i ≤ xs.length → LeD d S1 S → j i S = some xs[i]?)
    (hs : ∀ (i : Nat) (x : T) (S : Store) (k : Option T → Store → Prop), xs[i]? = some x → LeD d S1 S → (∀ o S', LeD d S S' → r x o → k o S') → step x S k) (hq : ∀ D S' ys, S1 D = none → LeD d S1 S' → S' D = some (.lst ys) → Filt r xs ys → q (.ref D) S') : compI j step S1 q := by
  intro D hD
  have nd : ¬ d D := hd1.free hD
  refine ⟨fun i m S => m = xs.length - i ∧ i ≤ xs.length ∧ LeD d S1 S ∧ ∃ ys, S D = some (.lst ys) ∧ Filt r (xs.take i) ys, ⟨_, rfl, Nat.zero_le _, hd1.new hD, [], upS_same, .nil⟩, ?_⟩
  rintro i m S ⟨rfl, hi, hS, ys, hys, hf⟩
  rw [hj i S hi hS]
  by_cases hlt : i < xs.length
  · rw [List.getElem?_eq_getElem hlt]
    have et : xs.take (i + 1) = xs.take i ++ [xs[i]] := by rw [List.take_add_one, List.getElem?_eq_getElem hlt]; rfl
    refine ⟨fun S' => i + 1 ≤ xs.length ∧ LeD d S1 S' ∧ ∃ ys, S' D = some (.lst ys) ∧ Filt r (xs.take (i + 1)) ys, fun S' h => ⟨xs.length - (i + 1), by omega, rfl, h⟩, ?_⟩
    refine hs i _ S _ (List.getElem?_eq_getElem hlt) hS fun o S' hS' ho => ?_
    have hD' : S' D = some (.lst ys) := hS'.1 D _ nd hys
    cases o with
    | some y =>
      show (match S' D with | some (.lst acc) => _ | _ => False)
      rw [hD']
      refine ⟨?_, hlt, ((hS.trans hS').own hD nd), ys ++ [y], upS_same, by rw [et]; exact hf.snocY ho⟩
      have := hf.len
      rw [List.length_take] at this
      omega
    | none => exact ⟨hlt, hS.trans hS', ys, hD', by rw [et]; exact hf.snocN ho⟩
  · have e : i = xs.length := by omega
    subst e
    rw [List.getElem?_eq_none (Nat.le_refl _)]
    rw [List.take_length] at hf
    exact hq D S ys hD hS hys hf
theorem forI_gen {j : ItT} {step : T → MS} {D : MEnds} {τ : Env'} {S : Store} (xs : List T) (Iv : Nat → Env' → Store → Prop) (h0 : Iv 0 τ S) (hj : ∀ i τ S, i ≤ xs.length → Iv i τ S → j i S = some xs[i]?)
    (hs : ∀ (i : Nat) (x : T) (τ : Env') (S : Store), xs[i]? = some x → Iv i τ S → step x { D with nx := Iv (i + 1), ct := Iv (i + 1), bk := D.nx } τ S) (hd : ∀ τ S, Iv xs.length τ S → D.nx τ S) : forI j step D τ S := by
  refine ⟨fun i m τ S => m = xs.length - i ∧ i ≤ xs.length ∧ Iv i τ S, ⟨_, rfl, Nat.zero_le _, h0⟩, ?_⟩
  rintro i m τ S ⟨rfl, hi, hI⟩
  rw [hj i τ S hi hI]
  by_cases hlt : i < xs.length
  · rw [List.getElem?_eq_getElem hlt]
    exact ⟨Iv (i + 1), fun τ' S' h => ⟨xs.length - (i + 1), by omega, rfl, hlt, h⟩, hs i _ τ S (List.getElem?_eq_getElem hlt) hI⟩
  · have e : i = xs.length := by omega
    subst e
    rw [List.getElem?_eq_none (Nat.le_refl _)]
    exact hd τ S hI
/-! ### what iterators give -/
theorem jSeq_tup {xs : List T} {i : Nat} {S : Store} : jSeq (.tup xs) i S = some xs[i]? := rfl
theorem jSeq_ref {p : Addr} {xs : List T} {i : Nat} {S : Store} (h : S p = some (.lst xs)) : jSeq (.ref p) i S = some xs[i]? := by
  unfold jSeq seqOf; dsimp only; rw [h]; rfl
def rngT (lo : Int) (n : Nat) : List T := (List.range n).map fun i => T.int (lo + (i : Nat))
theorem jRng_get {lo : Int} {n i : Nat} {S : Store} : jRng lo n i S = some (rngT lo n)[i]? := by
  unfold jRng rngT
  rw [List.getElem?_map]
  by_cases h : i < n
  · rw [if_pos h, List.getElem?_range h]; rfl
  · rw [if_neg h, List.getElem?_eq_none (by simpa using h)]; rfl
def zipT (xs ys : List T) : List T := (xs.zip ys).map fun p => T.tup [p.1, p.2]
theorem zipT_get {xs ys : List T} {i : Nat} : (zipT xs ys)[i]? = two xs[i]? ys[i]? := by
  unfold zipT
  rw [List.getElem?_map, List.getElem?_zip_eq_some' xs ys i]
where
  List.getElem?_zip_eq_some' (xs ys : List T) (i : Nat) : ((xs.zip ys)[i]?).map (fun p => T.tup [p.1, p.2]) = two xs[i]? ys[i]? := by
    induction xs generalizing ys i with
    | nil => simp [two]
    | cons x xs ih =>
      cases ys with
      | nil => cases i <;> simp [two]
      | cons y ys =>
        cases i with
        | zero => rfl
        | succ i => simpa using ih ys i
theorem jZ2_get {xs ys : List T} {i : Nat} {S : Store} (hi : i ≤ (zipT xs ys).length) : jZ2 (.tup xs) (.tup ys) i S = some (zipT xs ys)[i]? := by
  have : i ≤ xs.length ∧ i ≤ ys.length := by unfold zipT at hi; rw [List.length_map, List.length_zip] at hi; omega
  unfold jZ2 seqOf
  simp only [if_pos this, zipT_get]
def zip3T (xs ys zs : List T) : List T := (xs.zip (ys.zip zs)).map fun p => T.tup [p.1, p.2.1, p.2.2]
theorem zip3T_get {xs ys zs : List T} {i : Nat} : (zip3T xs ys zs)[i]? = three xs[i]? ys[i]? zs[i]? := by
  unfold zip3T
  induction xs generalizing ys zs i with
  | nil => simp [three]
  | cons x xs ih =>
    cases ys with
    | nil => cases i <;> simp [three]
    | cons y ys =>
      cases zs with
      | nil => cases i <;> simp [three]
      | cons z zs =>
        cases i with
        | zero => rfl
        | succ i => simpa using ih (ys := ys) (zs := zs) (i := i)
theorem jZ3_get {xs ys zs : List T} {i : Nat} {S : Store} (hi : i ≤ (zip3T xs ys zs).length) : jZ3 (.tup xs) (.tup ys) (.tup zs) i S = some (zip3T xs ys zs)[i]? := by
  have : i ≤ xs.length ∧ i ≤ ys.length ∧ i ≤ zs.length := by unfold zip3T at hi; rw [List.length_map, List.length_zip, List.length_zip] at hi; omega
  unfold jZ3 seqOf
  simp only [if_pos this, zip3T_get]
def enT (xs : List T) : List T := xs.zipIdx.map fun p => T.tup [.int (p.2 : Nat), p.1]
theorem enT_get {xs : List T} {i : Nat} : (enT xs)[i]? = xs[i]?.map fun x => T.tup [.int (i : Nat), x] := by
  unfold enT
  rw [List.getElem?_map, List.getElem?_zipIdx]
  cases xs[i]? <;> simp
theorem jEn_get {xs : List T} {i : Nat} {S : Store} (hi : i ≤ (enT xs).length) : jEn (.tup xs) i S = some (enT xs)[i]? := by
  have : i ≤ xs.length := by unfold enT at hi; rw [List.length_map, List.length_zipIdx] at hi; exact hi
  unfold jEn seqOf
  simp only [if_pos this, enT_get]
theorem jEz_get {xs ys : List T} {i : Nat} {S : Store} (hi : i ≤ (enT (zipT xs ys)).length) : jEz (.tup xs) (.tup ys) i S = some (enT (zipT xs ys))[i]? := by
  have : i ≤ (zipT xs ys).length := by unfold enT at hi; rw [List.length_map, List.length_zipIdx] at hi; exact hi
  unfold jEz
  rw [jZ2_get this, enT_get]
  rfl
end M
set_option Elab.async false
set_option maxRecDepth 100000
set_option linter.unusedVariables false
set_option maxHeartbeats 1000000
/-! Layer M, part K: small words of the printed walks. -/
namespace M
open PySem PySem.Spec PyProof.Rows L2
/-- no exception may come -/
abbrev wN : Wish := fun _ _ _ => False
def sNo : MS := fun _ _ _ => False
theorem js_no {X : Cx} {H0 : Hp} {st : Stmt} : PS X st (liftS X.K H0 sNo) := ⟨fun _ _ _ _ _ _ ⟨_, _, _, _, h, _⟩ => False.elim h⟩
theorem blk_of {N : List Str} {sc scope : Scope} {own : List (Str × Nat)} (h : blkC N sc scope own = true) : blkC N sc scope own = true := h
theorem hu70 {k : Nat} {A : Around} (hr : Room k A) : A.units + 70 < cLine := by have := hr.un; omega
def GGo (g : MG) : Prop := ∀ t τ S k, g t τ S k → ∃ τ1 S1, k τ1 S1
def GsGo (g : MGs) : Prop := ∀ ts τ S k, g ts τ S k → ∃ τ1 S1, k τ1 S1
theorem ggo_set {i : Nat} : GGo (gSet i) := fun _ _ _ _ h => ⟨_, _, h⟩
theorem gsgo_nil : GsGo gsNil := fun ts _ _ _ h => by
  cases ts with
  | nil => exact ⟨_, _, h⟩
  | cons => exact False.elim h
theorem gsgo_cons {g : MG} {gs : MGs} (a : GGo g) (b : GsGo gs) : GsGo (gsCons g gs) := fun ts τ S k h => by
  cases ts with
  | nil => exact False.elim h
  | cons t ts =>
    obtain ⟨τ1, S1, h1⟩ := a t τ S _ h
    exact b ts τ1 S1 k h1
theorem ggo_unp {gs : MGs} (a : GsGo gs) : GGo (gUnp gs) := fun t τ S k h => by
  unfold gUnp at h
  split at h
  · exact a _ _ _ _ h
  · exact h.elim
theorem gl_nil : ∀ ts τ S q, gsNil ts τ S q → ts.length = 0 := fun ts _ _ _ h => by
  cases ts with
  | nil => rfl
  | cons => exact False.elim h
theorem gl_cons {g : MG} {gs : MGs} {n : Nat} (a : GGo g) (b : ∀ ts τ S q, gs ts τ S q → ts.length = n) : ∀ ts τ S q, gsCons g gs ts τ S q → ts.length = n + 1 := fun ts τ S q h => by
  cases ts with
  | nil => exact False.elim h
  | cons t ts =>
    obtain ⟨τ1, S1, h1⟩ := a t τ S _ h
    rw [List.length_cons, b ts τ1 S1 q h1]
theorem jb {X : Cx} {H0 : Hp} {e : Expr} {es : List Expr} {ta : MA} {p pos : Pos} (b : Bi) (hg : X.A.guards = some []) (hu : X.A.units + 70 < cLine) (hm : X.mg (biN b) = none) (ha : PA X (e :: es) (liftA X.K H0 ta)) (hc : X.calm = true := by rfl) (gl : Gl X (biN b) := by rfl) (h1 : isStar e = false := by rfl) (h2 : (es.all fun e => !isStar e) = true := by rfl) :
    PE X (.Call (.Name (biN b) p) (e :: es) [] pos) (lift X.K H0 (eBi b ta)) :=
  je_bi hc hg hu b gl hm ha h1 fun e he => by simpa using List.all_eq_true.mp h2 e he
/-- a def of the module, from what the written part says -/
theorem def_mk {K : PySem.W.Frag} {h : Heap} {mg : Str → Option Value} {x : Str} {st : Stmt} {ps : List Str} {f : Addr} {oc kV doc pm cdv ct : Value} {od an : Option Addr} {osl : Array (Option Value)} (X : K.In h) (G : h.Ns mainGlobals mg)
    (hb : ∀ (kV doc pm : Value) (an : Option Addr) (cdv ct : Value) (us : List Value), us.length = ps.length → bindArgs (PySem.W.fnOf x x (defArgs st) (defBody st) (defScope st) .none kV doc pm an cdv ct) ⟨us, []⟩ = pure (ps.zip us))
    (a : PySem.W.nsIn K mainGlobals x = some (some (.ref f))) (l : K.lookup f = some ⟨oc, od, .func (PySem.W.fnOf x x (defArgs st) (defBody st) (defScope st) .none kV doc pm an cdv ct), osl⟩) (c : PySem.W.codeIn K cdv x = true) (k : PySem.W.keepIn K (.ref f) = true) : DefM K mg x st ps :=
  ⟨f, _, fun_mk l c k, PySem.W.mg_of X G a, .all fun us hl => hb _ _ _ _ _ _ us hl⟩
theorem con_mk {K : PySem.W.Frag} {h : Heap} {mg : Str → Option Value} {x : Str} {i : Int} {k : Tok} (X : K.In h) (G : h.Ns mainGlobals mg) (a : PySem.W.nsIn K mainGlobals x = some (some (.int i k))) : ∃ k, mg x = some (.int i k) := ⟨k, PySem.W.mg_of X G a⟩
/-- the law's def: its promise over every base -/
theorem law_mk {P : Program} {w : World} {K : PySem.W.Frag} {mg : Str → Option Value} {k : Nat} {st : Stmt} {N : List Str} {fa : Addr} (D : DefM K mg "law" st ["script"]) (hfa : mg "law" = some (.ref fa)) (Sc : FnScope N ["script"] (defScope st)) (t : Wish → MS)
    (hb : ∀ (kV doc pm : Value) (an : Option Addr) (cdv ct : Value) (u : Value), bindArgs (PySem.W.fnOf "law" "law" (defArgs st) (defBody st) (defScope st) .none kV doc pm an cdv ct) ⟨[u], []⟩ = pure [(("script" : Str), u)])
    (hwalk : ∀ (base : Heap), K.In base → base.Ns mainGlobals mg → ∀ (f : Addr) (cdv : Value) (A : Around) (outer : List Env) (s : Shared) (H : Hp) (EX : XK) (W : Wish), Room k (A.deeper (envOfC "law" (defScope st) s.heap.objs.size f cdv)) → A.guards = some [] →
      Takes (cxOf (L2.CX P w) P w K mg base N "law" (defScope st) f cdv A outer s H EX) (liftW K H W) → PSs (cxOf (L2.CX P w) P w K mg base N "law" (defScope st) f cdv A outer s H EX) (defBody st) (liftS K H (t W)))
    (hlaw : ∀ (ts : List T) (S : Store) (q : KT) (E : XW), spLawM ts S q E → t (fun x _ S => E x S) { nx := fun _ S => q .non S, rt := q } (startT N ts) S) :
    ∃ fd : FuncData, (∀ (s : Shared) (u : Value), BindsTo s fd ⟨[u], []⟩ [("script", u)]) ∧ ∀ base : Heap, K.In base → base.Ns mainGlobals mg → FnM P w K mg base (k + 1) fa fd ["script"] spLawM := by
  obtain ⟨f, fd, F, hm, b⟩ := D
  have e := hfa.symm.trans hm
  cases e
  refine ⟨fd, fun s u => ?_, fun base h1 h2 => fn_ofM F Sc (fun ts S q E ⟨ns, e, _⟩ => by rw [e]; rfl) fun cdv A outer s H EX ts S q E hr hgd tk hsp => ⟨_, hwalk base h1 h2 _ cdv A outer s H EX _ hr hgd tk, hlaw ts S q E hsp⟩⟩
  obtain ⟨oc, od, kV, doc, pm, an, cdv, ct, osl, rfl, _, _⟩ := F.ex
  exact .of_eq (hb kV doc pm an cdv ct u)
end M
set_option Elab.async false
set_option maxRecDepth 100000
set_option linter.unusedVariables false
set_option maxHeartbeats 1000000
/-! Layer M, part T: facts for proofs about readings. -/
namespace M
open PySem

/-! ### types -/
def tyd (S : Store) (t : T) : Prop := ∃ a, tyName S t = some a
def isI : T → Bool | .int _ => true | _ => false
def isB : T → Bool | .bl _ => true | _ => false
def isTu : T → Bool | .tup _ => true | _ => false
def isRe : T → Bool | .ref _ => true | _ => false
def isSt : T → Bool | .str _ => true | _ => false
theorem tyd.le {d : Addr → Prop} {S S' : Store} {t : T} (h : tyd S t) (l : LeD d S S') : tyd S' t := by
  obtain ⟨a, h⟩ := h
  cases t with
  | ref p =>
    simp only [tyName] at h
    by_cases hd : d p
    · obtain ⟨x, y, z, e⟩ := l.2 p hd
      exact ⟨"list", by simp only [tyName, e]⟩
    · split at h
      · rename_i xs e; exact ⟨"list", by simp only [tyName, l.1 p _ hd e]⟩
      · rename_i xs e; exact ⟨"list", by simp only [tyName, l.1 p _ hd e]⟩
      · cases h
  | ty n => simp [tyName] at h
  | scr n => simp [tyName] at h
  | _ => exact ⟨_, rfl⟩
theorem tyName_cases {S : Store} {t : T} {a : String} (h : tyName S t = some a) : (t = .non ∧ a = "NoneType") ∨ (isB t = true ∧ a = "bool") ∨ (isI t = true ∧ a = "int") ∨ (isSt t = true ∧ a = "str") ∨ (isTu t = true ∧ a = "tuple") ∨ (isRe t = true ∧ a = "list") := by
  cases t with
  | ref p =>
    simp only [tyName] at h
    split at h
    · simp only [Option.some.injEq] at h; subst h; simp [isB, isI, isSt, isTu, isRe]
    · simp only [Option.some.injEq] at h; subst h; simp [isB, isI, isSt, isTu, isRe]
    · cases h
  | ty n => simp [tyName] at h
  | scr n => simp [tyName] at h
  | _ => simp only [tyName, Option.some.injEq] at h; subst h; simp [isB, isI, isSt, isTu, isRe]
theorem isa_int {S : Store} {t : T} (h : tyd S t) : ((tyName S t).bind fun a => isaR a "int") = some (isI t || isB t) := by
  obtain ⟨a, h⟩ := h
  rw [h]
  rcases tyName_cases h with ⟨rfl, rfl⟩ | ⟨h1, rfl⟩ | ⟨h1, rfl⟩ | ⟨h1, rfl⟩ | ⟨h1, rfl⟩ | ⟨h1, rfl⟩
  · decide
  all_goals (cases t <;> simp [isB, isI, isSt, isTu, isRe] at h1 <;> simp [isB, isI, isaR, tyNames])
theorem isa_bool {S : Store} {t : T} (h : tyd S t) : ((tyName S t).bind fun a => isaR a "bool") = some (isB t) := by
  obtain ⟨a, h⟩ := h
  rw [h]
  rcases tyName_cases h with ⟨rfl, rfl⟩ | ⟨h1, rfl⟩ | ⟨h1, rfl⟩ | ⟨h1, rfl⟩ | ⟨h1, rfl⟩ | ⟨h1, rfl⟩
  · decide
  all_goals (cases t <;> simp [isB, isI, isSt, isTu, isRe] at h1 <;> simp [isB, isI, isaR, tyNames])
theorem isa_tup {S : Store} {t : T} (h : tyd S t) : ((tyName S t).bind fun a => isaR a "tuple") = some (isTu t) := by
  obtain ⟨a, h⟩ := h
  rw [h]
  rcases tyName_cases h with ⟨rfl, rfl⟩ | ⟨h1, rfl⟩ | ⟨h1, rfl⟩ | ⟨h1, rfl⟩ | ⟨h1, rfl⟩ | ⟨h1, rfl⟩
  · decide
  all_goals (cases t <;> simp [isB, isI, isSt, isTu, isRe] at h1 <;> simp [isTu, isI, isaR, tyNames])
theorem isa_list {S : Store} {t : T} (h : tyd S t) : ((tyName S t).bind fun a => isaR a "list") = some (isRe t) := by
  obtain ⟨a, h⟩ := h
  rw [h]
  rcases tyName_cases h with ⟨rfl, rfl⟩ | ⟨h1, rfl⟩ | ⟨h1, rfl⟩ | ⟨h1, rfl⟩ | ⟨h1, rfl⟩ | ⟨h1, rfl⟩
  · decide
  all_goals (cases t <;> simp [isB, isI, isSt, isTu, isRe] at h1 <;> simp [isRe, isI, isaR, tyNames])
theorem isa_str {S : Store} {t : T} (h : tyd S t) : ((tyName S t).bind fun a => isaR a "str") = some (isSt t) := by
  obtain ⟨a, h⟩ := h
  rw [h]
  rcases tyName_cases h with ⟨rfl, rfl⟩ | ⟨h1, rfl⟩ | ⟨h1, rfl⟩ | ⟨h1, rfl⟩ | ⟨h1, rfl⟩ | ⟨h1, rfl⟩
  · decide
  all_goals (cases t <;> simp [isB, isI, isSt, isTu, isRe] at h1 <;> simp [isSt, isI, isaR, tyNames])
theorem tyd_int {S : Store} {i : Int} : tyd S (.int i) := ⟨_, rfl⟩
theorem tyd_tup {S : Store} {i : List T} : tyd S (.tup i) := ⟨_, rfl⟩
theorem tyd_bl {S : Store} {i : Bool} : tyd S (.bl i) := ⟨_, rfl⟩
theorem tyd_str {S : Store} {i : Str} : tyd S (.str i) := ⟨_, rfl⟩
theorem tyd_non {S : Store} : tyd S .non := ⟨_, rfl⟩

/-! ### data -/
theorem mapO_map {α β γ : Type} {f : β → Option γ} {g : α → β} {h : α → γ} : ∀ (xs : List α), (∀ x ∈ xs, f (g x) = some (h x)) → mapO f (xs.map g) = some (xs.map h)
  | [], _ => rfl
  | x :: xs, k => by
    simp only [List.map_cons, mapO]
    rw [k x (by simp), mapO_map xs fun y hy => k y (List.mem_cons_of_mem _ hy)]
theorem dOf_int {S : Store} {n : Nat} {i : Int} : dOf S (n + 1) (.int i) = some (.int i) := rfl
theorem dOf_ints {S : Store} {n : Nat} (is : List Int) : mapO (dOf S (n + 1)) (is.map T.int) = some (is.map PyData.int) := mapO_map is fun _ _ => rfl

/-! ### the store seen through growth -/
theorem LeD.at {d : Addr → Prop} {S S' : Store} (l : LeD d S S') {a : Addr} {c : Cell} (n : ¬ d a) (e : S a = some c) : S' a = some c := l.1 a c n e
theorem LeD.at0 {S S' : Store} (l : LeD noD S S') {a : Addr} {c : Cell} (e : S a = some c) : S' a = some c := l.1 a c (fun z => z) e
theorem LeD.new0 {S : Store} {p : Addr} {c : Cell} (hp : S p = none) : LeD noD S (upS S p c) := (LeD.refl0 S).new hp
theorem not_noD {a : Addr} : ¬ noD a := fun z => z
end M
namespace M
theorem seqOf_tup {S : Store} {xs : List T} : seqOf S (.tup xs) = some xs := rfl
theorem seqOf_scr {S : Store} {xs : List Int} : seqOf S (.scr xs) = some (xs.map T.int) := rfl
theorem truT_bl {S : Store} {b : Bool} : truT S (.bl b) = some b := rfl
end M
namespace M
open PySem L2
theorem atI_nat {α : Type} {xs : List α} {k : Nat} (h : k < xs.length) : L2.atI xs (k : Int) = xs[k]? := by
  unfold L2.atI L2.ixN
  simp [h]
theorem at0 {α : Type} {x : α} {xs : List α} : L2.atI (x :: xs) 0 = some x := atI_nat (k := 0) (by simp)
theorem at1 {α : Type} {x y : α} {xs : List α} : L2.atI (x :: y :: xs) 1 = some y := atI_nat (k := 1) (by simp)
theorem at2 {α : Type} {x y z : α} {xs : List α} : L2.atI (x :: y :: z :: xs) 2 = some z := atI_nat (k := 2) (by simp)
def one (a : Addr) : Addr → Prop := fun b => b = a
theorem DiceAt.one {S : Store} {a : Addr} (h : DiceAt S a) : LeD (one a) S S := ⟨fun _ _ _ e => e, fun b hb => by rw [show b = a from hb]; exact h⟩
theorem LeD.set1 {S S1 : Store} {a : Addr} {x y z : Int} (h : LeD (one a) S S1) : LeD (one a) S (upS S1 a (.lst [.int x, .int y, .int z])) := by
  refine ⟨fun b c n e => ?_, fun b hb => ?_⟩
  · rw [upS_ne (show b ≠ a from n)]
    exact h.1 b c n e
  · rw [show b = a from hb]
    exact ⟨x, y, z, upS_same⟩
theorem LeD.dice {S S1 : Store} {a : Addr} (h : LeD (M.one a) S S1) : DiceAt S1 a := h.2 a rfl
end M
namespace M
open PySem
theorem asg_k {e : ME} {i : Nat} {rest : MS} {D : MEnds} {τ : Env'} {S : Store} (R : T → Store → Prop) (he : ∀ k : KT, (∀ v S', R v S' → k v S') → e τ S k) (hr : ∀ v S', R v S' → rest D (τ.set i (some v)) S') : sSeq (sAsg e (gSet i)) rest D τ S := he _ hr
theorem asg_l {e : ME} {i : Nat} {D : MEnds} {τ : Env'} {S : Store} (R : T → Store → Prop) (he : ∀ k : KT, (∀ v S', R v S' → k v S') → e τ S k) (hr : ∀ v S', R v S' → D.nx (τ.set i (some v)) S') : sAsg e (gSet i) D τ S := he _ hr
theorem drop_k {e : ME} {rest : MS} {D : MEnds} {τ : Env'} {S : Store} (R : Store → Prop) (he : ∀ k : KT, (∀ v S', R S' → k v S') → e τ S k) (hr : ∀ S', R S' → rest D τ S') : sSeq (sDrop e) rest D τ S := he _ fun _ S' h => hr S' h
theorem if_k {c : MT} {a b rest : MS} {D : MEnds} {τ : Env'} {S : Store} (v : Bool) (R : Store → Prop) (he : ∀ k : Bool → Store → Prop, (∀ S', R S' → k v S') → c τ S k) (hr : ∀ S', R S' → if v = true then a { D with nx := rest D } τ S' else b { D with nx := rest D } τ S') : sSeq (sIf c a b) rest D τ S := he _ hr
theorem ret_k {e : ME} {D : MEnds} {τ : Env'} {S : Store} (h : e τ S D.rt) : sRet e D τ S := h
theorem for_k {it : MI} {g : MG} {b rest : MS} {D : MEnds} {τ : Env'} {S : Store} (j : ItT) (R : Store → Prop) (hi : ∀ k : ItT → Store → Prop, (∀ S', R S' → k j S') → it τ S k) (xs : List T) (Iv : Nat → Env' → Store → Prop) (h0 : ∀ S', R S' → Iv 0 τ S') (hj : ∀ i τ S, i ≤ xs.length → Iv i τ S → j i S = some xs[i]?)
    (hs : ∀ (i : Nat) (x : T) (τ : Env') (S : Store), xs[i]? = some x → Iv i τ S → g x τ S fun τ2 S2 => b { D with nx := Iv (i + 1), ct := Iv (i + 1), bk := rest D } τ2 S2) (hd : ∀ τ S, Iv xs.length τ S → rest D τ S) : sSeq (sFor it g b) rest D τ S :=
  hi _ fun S' hS' => forI_gen (D := { D with nx := rest D }) xs Iv (h0 S' hS') hj hs hd
theorem for_l {it : MI} {g : MG} {b : MS} {D : MEnds} {τ : Env'} {S : Store} (j : ItT) (R : Store → Prop) (hi : ∀ k : ItT → Store → Prop, (∀ S', R S' → k j S') → it τ S k) (xs : List T) (Iv : Nat → Env' → Store → Prop) (h0 : ∀ S', R S' → Iv 0 τ S') (hj : ∀ i τ S, i ≤ xs.length → Iv i τ S → j i S = some xs[i]?)
    (hs : ∀ (i : Nat) (x : T) (τ : Env') (S : Store), xs[i]? = some x → Iv i τ S → g x τ S fun τ2 S2 => b { D with nx := Iv (i + 1), ct := Iv (i + 1), bk := D.nx } τ2 S2) (hd : ∀ τ S, Iv xs.length τ S → D.nx τ S) : sFor it g b D τ S :=
  hi _ fun S' hS' => forI_gen xs Iv (h0 S' hS') hj hs hd
/-- the simple kinds of outcome -/
abbrev is1 (v : T) (S : Store) : T → Store → Prop := fun v' S' => v' = v ∧ S' = S
abbrev gr1 (v : T) (S : Store) : T → Store → Prop := fun v' S' => v' = v ∧ LeD noD S S'
abbrev newL (S : Store) (xs : List T) : T → Store → Prop := fun v' S' => ∃ p, v' = .ref p ∧ S p = none ∧ LeD noD S S' ∧ S' p = some (.lst xs)
theorem LeD.non {d : Addr → Prop} {S S' : Store} (h : LeD d S S') {p : Addr} (n : ¬ d p) (e : S' p = none) : S p = none := by
  cases q : S p with
  | none => rfl
  | some c => rw [h.1 p c n q] at e; cases e
theorem LeD.none0 {S S' : Store} (h : LeD noD S S') {p : Addr} (e : S' p = none) : S p = none := h.non (fun z => z) e
end M
namespace M
open PySem
/-! ### texts of small data -/
mutual
def smallD : PyData → Bool
  | .none | .bool _ => true
  | .int i => decide (i.natAbs < 10 ^ 12)
  | .str x => x.cps.toList.all fun c => decide (c < 16 ^ 8)
  | .list xs | .tuple xs => smallAll xs
  | .dict _ => false
def smallAll : List PyData → Bool
  | [] => true
  | x :: xs => smallD x && smallAll xs
end
mutual
theorem small_leaves : ∀ d : PyData, smallD d = true → d.leavesShort 13 = true ∧ d.showable = true
  | .none, _ => ⟨rfl, by simp [PyData.showable]⟩
  | .bool _, _ => ⟨rfl, by simp [PyData.showable]⟩
  | .int i, h => by
    have h' : i.natAbs < 10 ^ 12 := by simpa only [smallD, decide_eq_true_eq] using h
    refine ⟨by simp only [PyData.leavesShort, decide_eq_true_eq]; exact PyData.shown_int_le h', ?_⟩
    simp only [PyData.showable, decide_eq_true_eq]
    by_cases h0 : i.natAbs = 0
    · rw [h0]; decide
    · exact Nat.lt_of_lt_of_le ((Nat.log2_lt h0).mpr (Nat.lt_of_lt_of_le h' (by decide : 10 ^ 12 ≤ 2 ^ 40))) (by decide)
  | .str x, h => ⟨by simpa only [PyData.leavesShort, smallD] using h, by simp [PyData.showable]⟩
  | .list xs, h => by
    have := smallAll_leaves xs (by simpa only [smallD] using h)
    exact ⟨by simpa only [PyData.leavesShort] using this.1, by simpa only [PyData.showable] using this.2⟩
  | .tuple xs, h => by
    have := smallAll_leaves xs (by simpa only [smallD] using h)
    exact ⟨by simpa only [PyData.leavesShort] using this.1, by simpa only [PyData.showable] using this.2⟩
  | .dict _, h => by simp [smallD] at h
theorem smallAll_leaves : ∀ xs : List PyData, smallAll xs = true → PyData.leavesShortAll 13 xs = true ∧ PyData.showableAll xs = true
  | [], _ => ⟨rfl, by simp [PyData.showableAll]⟩
  | x :: xs, h => by
    have h' : smallD x = true ∧ smallAll xs = true := by simpa only [smallAll, Bool.and_eq_true] using h
    have h1 := small_leaves x h'.1
    have h2 := smallAll_leaves xs h'.2
    exact ⟨by simp only [PyData.leavesShortAll, h1.1, h2.1, Bool.and_self], by simp only [PyData.showableAll, h1.2, h2.2, Bool.and_self]⟩
end
theorem small_ok {d : PyData} (h : smallD d = true) (hw : d.weight ≤ 1000000) : d.showable = true ∧ d.shown.length ≤ 16000000 := by
  have h1 := small_leaves d h
  have h2 := PyData.shown_le 13 (by decide) d h1.1
  exact ⟨h1.2, by omega⟩
theorem smallAll_map {α : Type} {f : α → PyData} : ∀ (xs : List α), (∀ x ∈ xs, smallD (f x) = true) → smallAll (xs.map f) = true
  | [], _ => rfl
  | x :: xs, h => by simp only [List.map_cons, smallAll, h x (by simp), smallAll_map xs fun y hy => h y (List.mem_cons_of_mem _ hy), Bool.and_self]
theorem weight_map {α : Type} {f : α → PyData} (k : Nat) : ∀ (xs : List α), (∀ x ∈ xs, (f x).weight ≤ k) → PyData.weightAll (xs.map f) ≤ (k + 1) * xs.length
  | [], _ => by simp [PyData.weightAll]
  | x :: xs, h => by
    have h1 := h x (by simp)
    have h2 := weight_map k xs fun y hy => h y (List.mem_cons_of_mem _ hy)
    simp only [List.map_cons, PyData.weightAll, List.length_cons, Nat.mul_add, Nat.mul_one]
    omega
theorem Filt.pick {β : Type} {g : β → T} {r : T → Option T → Prop} {xs ys : List T} (h : Filt r xs ys) (k : ∀ x o, r x o → ∃ b, o = some (g b)) : ∃ bs : List β, ys = bs.map g ∧ bs.length = xs.length := by
  induction h with
  | nil => exact ⟨[], rfl, rfl⟩
  | yes a _ ih =>
    obtain ⟨bs, h1, h2⟩ := ih
    obtain ⟨b, hb⟩ := k _ _ a
    cases hb
    exact ⟨b :: bs, by rw [h1]; rfl, by simp [h2]⟩
  | no a _ ih =>
    obtain ⟨b, hb⟩ := k _ _ a
    cases hb
theorem Filt.pickP {β : Type} {g : β → T} {r : T → Option T → Prop} {p : β → Prop} {xs ys : List T} (h : Filt r xs ys) (k : ∀ x o, r x o → ∃ b, o = some (g b) ∧ p b) : ∃ bs : List β, ys = bs.map g ∧ bs.length = xs.length ∧ ∀ b ∈ bs, p b := by
  induction h with
  | nil => exact ⟨[], rfl, rfl, fun _ h => by cases h⟩
  | yes a _ ih =>
    obtain ⟨bs, h1, h2, h3⟩ := ih
    obtain ⟨b, hb, hp⟩ := k _ _ a
    cases hb
    exact ⟨b :: bs, by rw [h1]; rfl, by simp [h2], fun c hc => by
      rcases List.mem_cons.mp hc with e | e
      · rw [e]; exact hp
      · exact h3 c e⟩
  | no a _ ih =>
    obtain ⟨b, hb, _⟩ := k _ _ a
    cases hb
theorem rngT_len {lo : Int} {n : Nat} : (rngT lo n).length = n := by simp [rngT]
theorem rngT_at {lo : Int} {n i : Nat} {x : T} (h : (rngT lo n)[i]? = some x) : i < n ∧ x = .int (lo + i) := by
  unfold rngT at h
  rw [List.getElem?_map] at h
  by_cases hi : i < n
  · rw [List.getElem?_range hi] at h; cases h; exact ⟨hi, rfl⟩
  · rw [List.getElem?_eq_none (by simpa using hi)] at h; cases h
end M
namespace M
open PySem
/-! ### equality, texts, by data -/
theorem mapO_lay {f : T → Option PyData} (hf : ∀ t d, f t = some d → d.canLay0 = true) : ∀ (ts : List T) (ds : List PyData), mapO f ts = some ds → PyData.canLayAll0 ds = true
  | [], ds, e => by simp only [mapO, Option.some.injEq] at e; subst e; simp [PyData.canLayAll0]
  | t :: ts, ds, e => by
    simp only [mapO] at e
    split at e
    · cases e
    · rename_i d hd
      split at e
      · cases e
      · rename_i ds' hds
        simp only [Option.some.injEq] at e
        subst e
        simp [PyData.canLayAll0, hf t d hd, mapO_lay hf ts ds' hds]
theorem dOf_lay {S : Store} : ∀ (n : Nat) (t : T) (d : PyData), dOf S n t = some d → d.canLay0 = true
  | 0, _, _, e => by simp [dOf] at e
  | n + 1, t, d, e => by
    have lay : ∀ xs, (mapO (dOf S n) xs).map PyData.list = some d → d.canLay0 = true := fun xs e => by
      cases hm : mapO (dOf S n) xs with
      | none => rw [hm] at e; cases e
      | some ds => rw [hm] at e; cases e; simpa [PyData.canLay0] using mapO_lay (dOf_lay n) xs ds hm
    cases t with
    | non => simp only [dOf, Option.some.injEq] at e; subst e; simp [PyData.canLay0]
    | bl b => simp only [dOf, Option.some.injEq] at e; subst e; simp [PyData.canLay0]
    | int b => simp only [dOf, Option.some.injEq] at e; subst e; simp [PyData.canLay0]
    | str b =>
      simp only [dOf] at e
      split at e
      · rename_i hb; simp only [Option.some.injEq] at e; subst e; simp only [PyData.canLay0, PyData.strOk]; exact hb
      · cases e
    | ty b => simp [dOf] at e
    | scr b => simp [dOf] at e
    | tup xs =>
      simp only [dOf] at e
      cases hm : mapO (dOf S n) xs with
      | none => rw [hm] at e; cases e
      | some ds => rw [hm] at e; cases e; simpa [PyData.canLay0] using mapO_lay (dOf_lay n) xs ds hm
    | ref a =>
      simp only [dOf] at e
      split at e
      · exact lay _ e
      · exact lay _ e
      · cases e
theorem eqS_same {S : Store} {x y : T} {d : PyData} {b : Bool} (hx : dOf S 64 x = some d) (hy : dOf S 64 y = some d) (e : eqS x y = some b) : b = true := by
  cases x <;> cases y <;> simp only [eqS, Option.some.injEq, reduceCtorEq] at e <;> simp only [dOf, Option.some.injEq] at hx hy <;> subst e
  all_goals first
    | (subst hx; simp at hy; simp [hy]; done)
    | (subst hx; cases hy; done)
    | (split at hx
       · split at hy
         · simp only [Option.some.injEq] at hx hy
           subst hx
           simp at hy
           simp [hy]
         · cases hy
       · cases hx)
    | (split at hx <;> simp at hx hy <;> subst hx <;> simp at hy)
    | (split at hy <;> simp at hx hy <;> subst hx <;> simp at hy)
    | (simp at hx hy; subst hx; simp at hy; done)
    | rfl
    | simp
theorem neR_same {S : Store} {x y : T} {d : PyData} {q : KT} (hx : dOf S 64 x = some d) (hy : dOf S 64 y = some d) (h : q (.bl false) S) : neR x y S q := by
  unfold neR
  split
  · rename_i b e
    rw [eqS_same hx hy e]
    exact h
  · rw [hx, hy]
    show q (.bl (!PyData.eqv d d)) S
    rw [SeqAt.eqv_refl d (dOf_lay 64 x d hx)]
    exact h
theorem eqR_same {S : Store} {x y : T} {d : PyData} {q : KT} (hx : dOf S 64 x = some d) (hy : dOf S 64 y = some d) (h : q (.bl true) S) : eqR x y S q := by
  unfold eqR
  split
  · rename_i b e
    rw [eqS_same hx hy e]
    exact h
  · rw [hx, hy]
    show q (.bl (PyData.eqv d d)) S
    rw [SeqAt.eqv_refl d (dOf_lay 64 x d hx)]
    exact h
theorem reprR_small {S : Store} {x : T} {d : PyData} {q : KT} (hx : dOf S 64 x = some d) (hs : smallD d = true) (hw : d.weight ≤ 1000000) (h : q (.str d.shown) S) : reprR [x] S q := by
  unfold reprR
  dsimp only
  rw [hx]
  exact ⟨small_ok hs hw, h⟩
theorem dOf_tup {S : Store} {n : Nat} {xs : List T} : dOf S (n + 1) (.tup xs) = (mapO (dOf S n) xs).map .tuple := rfl
theorem dOf_lst {S : Store} {n : Nat} {p : Addr} {xs : List T} (e : S p = some (.lst xs)) : dOf S (n + 1) (.ref p) = (mapO (dOf S n) xs).map .list := by
  simp only [dOf, e]
theorem strNe {s : Str} {S : Store} {q : KT} (h : q (.bl false) S) : neR (.str s) (.str s) S q := by
  simp only [neR, eqS, decide_true, Bool.not_true]
  exact h
end M
namespace M
open PySem
theorem asg_g {e : ME} {g : MG} {rest : MS} {D : MEnds} {τ : Env'} {S : Store} (R : T → Store → Prop) (he : ∀ k : KT, (∀ v S', R v S' → k v S') → e τ S k) (hr : ∀ v S', R v S' → g v τ S' (rest D)) : sSeq (sAsg e g) rest D τ S := he _ hr
theorem par_k {i j : Nat} {a : MA} {rest : MS} {D : MEnds} {τ : Env'} {S : Store} (R : T → T → Store → Prop) (he : ∀ k : List T → Store → Prop, (∀ v w S', R v w S' → k [v, w] S') → a τ S k) (hr : ∀ v w S', R v w S' → rest D ((τ.set i (some v)).set j (some w)) S') : sSeq (sPar i j a) rest D τ S := he _ hr
theorem LeD.d0 {d : Addr → Prop} {S S1 S2 : Store} (h : LeD d S S1) (k : LeD noD S1 S2) : LeD d S S2 := h.trans (h.of0 k)
theorem isn_true {b : Bool} {S : Store} {q : KT} (h : q (.bl (!b)) S) : isnR (.bl b) (.bl true) S q := by
  cases b <;> exact h
end M
namespace M
open PySem
/-- a test that does not hold, ahead of more -/
theorem if_f {c : MT} {a b rest : MS} {D : MEnds} {τ : Env'} {S : Store} (R : Store → Prop) (he : ∀ k : Bool → Store → Prop, (∀ S', R S' → k false S') → c τ S k) (hr : ∀ S', R S' → b { D with nx := rest D } τ S') : sSeq (sIf c a b) rest D τ S := he _ fun S' h => hr S' h
/-- .. at the end of a body, nothing else -/
theorem if_fl {c : MT} {a b : MS} {D : MEnds} {τ : Env'} {S : Store} (R : Store → Prop) (he : ∀ k : Bool → Store → Prop, (∀ S', R S' → k false S') → c τ S k) (hr : ∀ S', R S' → b D τ S') : sIf c a b D τ S := he _ fun S' h => hr S' h
theorem if_t {c : MT} {a b rest : MS} {D : MEnds} {τ : Env'} {S : Store} (R : Store → Prop) (he : ∀ k : Bool → Store → Prop, (∀ S', R S' → k true S') → c τ S k) (hr : ∀ S', R S' → a { D with nx := rest D } τ S') : sSeq (sIf c a b) rest D τ S := he _ fun S' h => hr S' h
theorem if_tl {c : MT} {a b : MS} {D : MEnds} {τ : Env'} {S : Store} (R : Store → Prop) (he : ∀ k : Bool → Store → Prop, (∀ S', R S' → k true S') → c τ S k) (hr : ∀ S', R S' → a D τ S') : sIf c a b D τ S := he _ fun S' h => hr S' h
end M
namespace M
open PySem
theorem if_n {c : MT} {a rest : MS} {D : MEnds} {τ : Env'} {S : Store} (R : Store → Prop) (he : ∀ k : Bool → Store → Prop, (∀ S', R S' → k false S') → c τ S k) (hr : ∀ S', R S' → rest D τ S') : sSeq (sIf c a sNext) rest D τ S := he _ fun S' h => hr S' h
theorem if_nl {c : MT} {a : MS} {D : MEnds} {τ : Env'} {S : Store} (R : Store → Prop) (he : ∀ k : Bool → Store → Prop, (∀ S', R S' → k false S') → c τ S k) (hr : ∀ S', R S' → D.nx τ S') : sIf c a sNext D τ S := he _ fun S' h => hr S' h
end M
set_option Elab.async false
set_option maxRecDepth 100000
set_option linter.unusedVariables false
set_option maxHeartbeats 1000000
/-! Points, in plain Lean. -/
namespace M
open PySem
abbrev Pt := List Bool
def bI (b : Bool) : Int := if b then 1 else 0
def bT (b : Bool) : T := .int (bI b)
def pt (p : Pt) : T := .tup (p.map bT)
def isBit : T → Bool
  | .int i => decide (0 ≤ i) && decide (i ≤ 1)
  | _ => false
def isPt : T → Bool
  | .tup xs => decide (xs.length ≤ 63) && xs.all isBit
  | _ => false
theorem bI_inj {a b : Bool} : (bI a = bI b) = (a = b) := by cases a <;> cases b <;> simp [bI]
theorem isBit_bT (b : Bool) : isBit (bT b) = true := by cases b <;> rfl
theorem isPt_pt {p : Pt} (h : p.length ≤ 63) : isPt (pt p) = true := by
  unfold isPt pt
  simp [h, isBit_bT]
theorem bit_of {t : T} (h : isBit t = true) : ∃ b, t = bT b := by
  cases t with
  | int i =>
    simp only [isBit, Bool.and_eq_true, decide_eq_true_eq] at h
    by_cases e : i = 0
    · exact ⟨false, by rw [e]; rfl⟩
    · exact ⟨true, by rw [show i = 1 by omega]; rfl⟩
  | _ => cases h
theorem isPt_of {t : T} (h : isPt t = true) : ∃ p : Pt, t = pt p ∧ p.length ≤ 63 := by
  cases t with
  | tup xs =>
    simp only [isPt, Bool.and_eq_true, decide_eq_true_eq, List.all_eq_true] at h
    obtain ⟨hl, ha⟩ := h
    have key : ∀ ys : List T, (∀ y ∈ ys, isBit y = true) → ∃ p : Pt, ys = p.map bT := by
      intro ys
      induction ys with
      | nil => intro _; exact ⟨[], rfl⟩
      | cons y ys ih =>
        intro k
        obtain ⟨b, hb⟩ := bit_of (k y (by simp))
        obtain ⟨p, hp⟩ := ih fun z hz => k z (List.mem_cons_of_mem _ hz)
        exact ⟨b :: p, by rw [hb, hp]; rfl⟩
    obtain ⟨p, rfl⟩ := key xs ha
    exact ⟨p, rfl, by simpa using hl⟩
  | _ => cases h
/-- positions at which two points differ -/
def difF : Nat → Pt → Pt → List Nat
  | k, a :: as, b :: bs => if a != b then k :: difF (k + 1) as bs else difF (k + 1) as bs
  | _, _, _ => []
def dif (a b : Pt) : List Nat := difF 0 a b
def dist (a b : Pt) : Nat := (dif a b).length
def distR : Pt → Pt → Nat
  | a :: as, b :: bs => (if a != b then 1 else 0) + distR as bs
  | _, _ => 0
theorem difF_len : ∀ (k : Nat) (a b : Pt), (difF k a b).length = distR a b
  | k, [], _ => by simp [difF, distR]
  | k, _ :: _, [] => by simp [difF, distR]
  | k, a :: as, b :: bs => by
    simp only [difF, distR]
    split <;> simp [difF_len (k + 1) as bs] <;> omega
theorem dist_eq (a b : Pt) : dist a b = distR a b := difF_len 0 a b
theorem distR_le : ∀ (a b : Pt), distR a b ≤ a.length
  | [], _ => by simp [distR]
  | _ :: _, [] => by simp [distR]
  | a :: as, b :: bs => by
    simp only [distR, List.length_cons]
    have := distR_le as bs
    split <;> omega
def maj (a b c : Bool) : Bool := (a && b) || (a && c) || (b && c)
def mid : Pt → Pt → Pt → Pt
  | a :: as, b :: bs, c :: cs => maj a b c :: mid as bs cs
  | _, _, _ => []
def btw : Pt → Pt → Pt → Bool
  | a :: as, b :: bs, c :: cs => ((a != b) || (c == a)) && btw as bs cs
  | _, _, _ => true
/-- the points between two, as spread_points lists them: the list is built from the left -/
def bitsOf (a b : Bool) : List Bool := if a = b then [a] else [false, true]
def spreadF : List Pt → Pt → Pt → List Pt
  | acc, a :: as, b :: bs => spreadF (acc.flatMap fun p => (bitsOf a b).map fun x => p ++ [x]) as bs
  | acc, _, _ => acc
def spread (a b : Pt) : List Pt := spreadF [[]] a b
/-- as a tree -/
def box : Pt → Pt → List Pt
  | a :: as, b :: bs => (bitsOf a b).flatMap fun x => (box as bs).map fun p => x :: p
  | _, _ => [[]]
theorem spreadF_eq : ∀ (acc : List Pt) (a b : Pt), spreadF acc a b = acc.flatMap fun p => (box a b).map fun q => p ++ q
  | acc, [], _ => by simp [spreadF, box]
  | acc, _ :: _, [] => by simp [spreadF, box]
  | acc, a :: as, b :: bs => by
    rw [spreadF, spreadF_eq]
    simp only [box, List.flatMap_assoc, List.flatMap_map, List.map_flatMap, List.map_map]
    congr 1
    funext p
    congr 1
    funext x
    congr 1
    funext q
    simp
theorem spread_eq (a b : Pt) : spread a b = box a b := by
  unfold spread
  rw [spreadF_eq]
  simp
theorem mem_box : ∀ {a b p : Pt}, a.length = b.length → (p ∈ box a b ↔ p.length = a.length ∧ btw a b p = true)
  | [], [], p, _ => by
    simp [box, btw]
  | a :: as, b :: bs, p, h => by
    have ih := @mem_box as bs
    simp only [box, List.mem_flatMap, List.mem_map]
    constructor
    · rintro ⟨x, hx, q, hq, rfl⟩
      obtain ⟨h1, h2⟩ := (ih (by simpa using h)).mp hq
      refine ⟨by simp [h1], ?_⟩
      simp only [btw, h2, Bool.and_true]
      unfold bitsOf at hx
      split at hx
      · rename_i e; simp at hx; subst hx; simp
      · rename_i e; simp [bne, e]
    · rintro ⟨h1, h2⟩
      cases p with
      | nil => simp at h1
      | cons x q =>
        simp only [btw, Bool.and_eq_true, Bool.or_eq_true] at h2
        refine ⟨x, ?_, q, (ih (by simpa using h)).mpr ⟨by simpa using h1, h2.2⟩, rfl⟩
        unfold bitsOf
        split
        · rename_i e
          rcases h2.1 with z | z
          · simp [e] at z
          · simp at z; simp [z]
        · cases x <;> simp
  | [], _ :: _, _, h => by simp at h
  | _ :: _, [], _, h => by simp at h
theorem len_box : ∀ (a b : Pt), (box a b).length = 2 ^ distR a b
  | [], _ => by simp [box, distR]
  | _ :: _, [] => by simp [box, distR]
  | a :: as, b :: bs => by
    simp only [box, distR, bitsOf]
    split
    · rename_i e; simp [len_box as bs, e]
    · rename_i e; simp [len_box as bs, e, Nat.pow_add]; omega
theorem mid_len : ∀ {a b c : Pt}, a.length = b.length → b.length = c.length → (mid a b c).length = a.length
  | [], [], [], _, _ => rfl
  | a :: as, b :: bs, c :: cs, h, k => by simp [mid, mid_len (a := as) (b := bs) (c := cs) (by simpa using h) (by simpa using k)]
  | [], _ :: _, _, h, _ => by simp at h
  | _ :: _, [], _, h, _ => by simp at h
  | _, [], _ :: _, _, h => by simp at h
  | _, _ :: _, [], _, h => by simp at h
theorem spreadF_snoc : ∀ (acc : List Pt) (a b : Pt) (x y : Bool), a.length = b.length → spreadF acc (a ++ [x]) (b ++ [y]) = (spreadF acc a b).flatMap fun p => (bitsOf x y).map fun z => p ++ [z]
  | acc, [], [], x, y, _ => by simp [spreadF]
  | acc, a :: as, b :: bs, x, y, h => by
    simp only [List.cons_append, spreadF]
    exact spreadF_snoc _ as bs x y (by simpa using h)
  | _, [], _ :: _, _, _, h => by simp at h
  | _, _ :: _, [], _, _, h => by simp at h
theorem spreadF_take {acc : List Pt} {a b : Pt} {i : Nat} {x y : Bool} (ha : a[i]? = some x) (hb : b[i]? = some y) : spreadF acc (a.take (i + 1)) (b.take (i + 1)) = (spreadF acc (a.take i) (b.take i)).flatMap fun p => (bitsOf x y).map fun z => p ++ [z] := by
  have h1 := (List.getElem?_eq_some_iff.mp ha).1
  have h2 := (List.getElem?_eq_some_iff.mp hb).1
  rw [List.take_add_one, List.take_add_one, ha, hb]
  exact spreadF_snoc acc _ _ x y (by simp; omega)
theorem distR_take : ∀ (a b : Pt) (i : Nat), distR (a.take i) (b.take i) ≤ distR a b
  | [], _, i => by simp [distR]
  | _ :: _, [], i => by cases i <;> simp [distR]
  | _ :: _, _ :: _, 0 => by simp [distR]
  | a :: as, b :: bs, i + 1 => by
    simp only [List.take_succ_cons, distR]
    have := distR_take as bs i
    omega
theorem spread_take_len (a b : Pt) (i : Nat) : (spreadF [[]] (a.take i) (b.take i)).length ≤ 2 ^ dist a b := by
  rw [spreadF_eq]
  simp only [List.flatMap_cons, List.flatMap_nil, List.append_nil, List.length_map, len_box]
  rw [dist_eq]
  exact Nat.pow_le_pow_right (by decide) (distR_take a b i)
theorem box_len_pt : ∀ (a b p : Pt), p ∈ box a b → p.length ≤ a.length
  | [], _, p, h => by simp [box] at h; simp [h]
  | _ :: _, [], p, h => by simp [box] at h; simp [h]
  | a :: as, b :: bs, p, h => by
    simp only [box, List.mem_flatMap, List.mem_map] at h
    obtain ⟨x, _, q, hq, rfl⟩ := h
    have := box_len_pt as bs q hq
    simp; omega
theorem spread_take_mem {a b p : Pt} {i : Nat} (h : p ∈ spreadF [[]] (a.take i) (b.take i)) : p.length ≤ a.length := by
  rw [spreadF_eq] at h
  simp only [List.flatMap_cons, List.flatMap_nil, List.append_nil, List.mem_map, List.nil_append] at h
  obtain ⟨q, hq, rfl⟩ := h
  have := box_len_pt _ _ _ hq
  simp at this
  omega
theorem bitsOf_len (x y : Bool) : (bitsOf x y).length ≤ 2 := by unfold bitsOf; split <;> simp
theorem pt_snoc (p : Pt) (b : Bool) : T.tup (p.map bT ++ [bT b]) = pt (p ++ [b]) := by simp [pt]
def ptD (p : Pt) : PyData := .tuple (p.map fun b => PyData.int (bI b))
theorem dOf_pt {S : Store} {n : Nat} {p : Pt} : dOf S (n + 2) (pt p) = some (ptD p) := by
  unfold pt ptD
  rw [dOf_tup, mapO_map (f := dOf S (n + 1)) (g := bT) (h := fun b => PyData.int (bI b)) p fun b _ => rfl]
  rfl
theorem dOf_pts {S : Store} {n : Nat} {ps : List Pt} : mapO (dOf S (n + 2)) (ps.map pt) = some (ps.map ptD) := mapO_map ps fun _ _ => dOf_pt
theorem dOf_ptsT {S : Store} {n : Nat} {ps : List Pt} : dOf S (n + 3) (.tup (ps.map pt)) = some (.tuple (ps.map ptD)) := by rw [dOf_tup, dOf_pts]; rfl
/-- numbers as a tuple -/
def nums (ns : List Nat) : T := .tup (ns.map fun i => T.int (i : Nat))
def numsD (ns : List Nat) : PyData := .tuple (ns.map fun i => PyData.int (i : Nat))
theorem dOf_nums {S : Store} {n : Nat} {ns : List Nat} : dOf S (n + 2) (nums ns) = some (numsD ns) := by
  unfold nums numsD
  rw [dOf_tup, mapO_map (f := dOf S (n + 1)) (g := fun i : Nat => T.int (i : Nat)) (h := fun i : Nat => PyData.int (i : Nat)) ns fun b _ => rfl]
  rfl
theorem int_weight {i : Int} (h : i.natAbs < 10 ^ 12) : (PyData.int i).weight ≤ 40 := by
  simp only [PyData.weight]
  split
  · omega
  · rename_i h0
    have h0' : i.natAbs ≠ 0 := by simpa using h0
    have := (Nat.log2_lt h0').mpr (Nat.lt_of_lt_of_le h (by decide : 10 ^ 12 ≤ 2 ^ 40))
    omega
theorem numsD_small {ns : List Nat} {k : Nat} (h : ∀ n ∈ ns, n < 10 ^ 12) (hl : ns.length ≤ k) : smallD (numsD ns) = true ∧ (numsD ns).weight ≤ 41 * k := by
  refine ⟨?_, ?_⟩
  · simp only [numsD, smallD]
    exact smallAll_map ns fun n hn => by simp only [smallD, decide_eq_true_eq]; have := h n hn; omega
  · simp only [numsD, PyData.weight]
    have := weight_map (f := fun i : Nat => PyData.int (i : Nat)) 40 ns fun n hn => int_weight (by have := h n hn; omega)
    omega
theorem difF_lt : ∀ (k : Nat) (a b : Pt), ∀ n ∈ difF k a b, n < k + a.length
  | k, [], _, n, h => by simp [difF] at h
  | k, _ :: _, [], n, h => by simp [difF] at h
  | k, a :: as, b :: bs, n, h => by
    simp only [difF] at h
    have ih := difF_lt (k + 1) as bs
    split at h
    · rcases List.mem_cons.mp h with e | e
      · simp [e]
      · have := ih n e; simp; omega
    · have := ih n h; simp; omega
/-- bits turned at some places -/
def bentF (is : List Nat) : Nat → Pt → Pt
  | _, [] => []
  | k, b :: p => (if is.contains k then !b else b) :: bentF is (k + 1) p
theorem bentF_len (is : List Nat) : ∀ (k : Nat) (p : Pt), (bentF is k p).length = p.length
  | _, [] => rfl
  | k, b :: p => by simp [bentF, bentF_len is (k + 1) p]
theorem bent_one (j : Nat) (is : List Nat) : ∀ (k : Nat) (p : Pt), distR p (bentF (j :: is) k p) ≤ (if j < k then 0 else 1) + distR p (bentF is k p)
  | k, [] => by simp [bentF, distR]
  | k, b :: p => by
    have ih := bent_one j is (k + 1) p
    simp only [bentF, distR, List.contains_cons]
    by_cases h : j = k
    · subst h
      simp only [Nat.lt_irrefl, if_false, Nat.lt_succ_self, if_true] at ih ⊢
      simp only [BEq.rfl, Bool.true_or, if_true]
      cases b <;> cases is.contains j <;> simp <;> omega
    · have h1 : (k == j) = false := by simp; omega
      simp only [h1, Bool.false_or]
      by_cases h2 : j < k
      · have h3 : j < k + 1 := by omega
        simp only [h2, h3, if_true] at ih ⊢
        omega
      · have h3 : ¬ j < k + 1 := by omega
        simp only [h2, h3, if_false] at ih ⊢
        omega
theorem dist_self : ∀ p : Pt, distR p p = 0
  | [] => rfl
  | b :: p => by simp [distR, dist_self p]
theorem bent_dist (p : Pt) : ∀ is : List Nat, distR p (bentF is 0 p) ≤ is.length
  | [] => by
    have e : ∀ (k : Nat) (p : Pt), bentF [] k p = p := by
      intro k p
      induction p generalizing k with
      | nil => rfl
      | cons b p ih => simp [bentF, ih]
    rw [e, dist_self]
    exact Nat.le_refl _
  | j :: is => by
    have h1 := bent_one j is 0 p
    have h2 := bent_dist p is
    simp only [Nat.not_lt_zero, if_false] at h1
    simp only [List.length_cons]
    omega
/-! laws of middles -/
theorem mid_btw : ∀ (a b c : Pt), a.length = b.length → b.length = c.length → btw a b (mid a b c) = true ∧ btw b c (mid a b c) = true ∧ btw c a (mid a b c) = true
  | [], [], [], _, _ => by simp [btw]
  | a :: as, b :: bs, c :: cs, h, k => by
    obtain ⟨h1, h2, h3⟩ := mid_btw as bs cs (by simpa using h) (by simpa using k)
    simp only [mid, btw, h1, h2, h3, Bool.and_true]
    cases a <;> cases b <;> cases c <;> simp [maj]
  | [], _ :: _, _, h, _ => by simp at h
  | _ :: _, [], _, h, _ => by simp at h
  | _, [], _ :: _, _, h => by simp at h
  | _, _ :: _, [], _, h => by simp at h
theorem distR_comm : ∀ (a b : Pt), distR a b = distR b a
  | [], [] => rfl
  | [], _ :: _ => by simp [distR]
  | _ :: _, [] => by simp [distR]
  | a :: as, b :: bs => by simp only [distR, distR_comm as bs]; cases a <;> cases b <;> rfl
theorem dist_tri : ∀ (a b c : Pt), a.length = b.length → b.length = c.length → distR a b ≤ distR a c + distR c b ∧ (btw a b c = true ↔ distR a c + distR c b = distR a b)
  | [], [], [], _, _ => by simp [btw, distR]
  | a :: as, b :: bs, c :: cs, h, k => by
    obtain ⟨h1, h2⟩ := dist_tri as bs cs (by simpa using h) (by simpa using k)
    simp only [btw, distR, Bool.and_eq_true, h2]
    cases a <;> cases b <;> cases c <;> simp <;> omega
  | [], _ :: _, _, h, _ => by simp at h
  | _ :: _, [], _, h, _ => by simp at h
  | _, [], _ :: _, _, h => by simp at h
  | _, _ :: _, [], _, h => by simp at h
theorem btw_dist {a b c : Pt} (h : a.length = b.length) (k : b.length = c.length) : btw a b c = decide (distR a c + distR c b = distR a b) := by
  have := (dist_tri a b c h k).2
  cases e : btw a b c with
  | true => simp [this.mp e]
  | false =>
    have : ¬ (distR a c + distR c b = distR a b) := fun z => by rw [this.mpr z] at e; cases e
    simp [this]
/-- the one point of the box that lies between the others -/
theorem box_mid : ∀ (a b c : Pt), a.length = b.length → b.length = c.length → (box a b).filter (fun o => btw b c o && btw a c o) = [mid a b c]
  | [], [], [], _, _ => by simp [box, btw, mid]
  | a :: as, b :: bs, c :: cs, h, k => by
    have ih := box_mid as bs cs (by simpa using h) (by simpa using k)
    have one : ∀ x : Bool, ((box as bs).map fun p => x :: p).filter (fun o => btw (b :: bs) (c :: cs) o && btw (a :: as) (c :: cs) o) = if ((b != c || x == b) && (a != c || x == a)) = true then ((box as bs).filter fun o => btw bs cs o && btw as cs o).map (fun p => x :: p) else [] := by
      intro x
      rw [List.filter_map]
      by_cases e : ((b != c || x == b) && (a != c || x == a)) = true
      · rw [if_pos e]
        congr 1
        apply List.filter_congr
        intro p _
        simp only [Bool.and_eq_true] at e
        simp only [Function.comp, btw, e.1, e.2, Bool.true_and]
      · rw [if_neg e]
        have : (List.filter ((fun o => btw (b :: bs) (c :: cs) o && btw (a :: as) (c :: cs) o) ∘ fun p => x :: p) (box as bs)) = [] := by
          rw [List.filter_eq_nil_iff]
          intro p _
          simp only [Function.comp, btw]
          intro z
          apply e
          simp only [Bool.and_eq_true] at z ⊢
          exact ⟨z.1.1, z.2.1⟩
        rw [this]; rfl
    simp only [box, mid, List.filter_flatMap, one, ih, bitsOf]
    cases a <;> cases b <;> cases c <;> simp [maj]
  | [], _ :: _, _, h, _ => by simp at h
  | _ :: _, [], _, h, _ => by simp at h
  | _, [], _ :: _, _, h => by simp at h
  | _, _ :: _, [], _, h => by simp at h
theorem mid_assoc : ∀ (a b c e : Pt), a.length = b.length → b.length = c.length → c.length = e.length → mid (mid a b c) b e = mid a b (mid c b e)
  | [], [], [], [], _, _, _ => rfl
  | a :: as, b :: bs, c :: cs, e :: es, h1, h2, h3 => by
    simp only [mid, mid_assoc as bs cs es (by simpa using h1) (by simpa using h2) (by simpa using h3)]
    cases a <;> cases b <;> cases c <;> cases e <;> rfl
  | [], _ :: _, _, _, h, _, _ => by simp at h
  | _ :: _, [], _, _, h, _, _ => by simp at h
  | _, [], _ :: _, _, _, h, _ => by simp at h
  | _, _ :: _, [], _, _, h, _ => by simp at h
  | _, _, [], _ :: _, _, _, h => by simp at h
  | _, _, _ :: _, [], _, _, h => by simp at h
theorem mid_dist : ∀ (a b c e : Pt), a.length = b.length → b.length = c.length → c.length = e.length → mid a b (mid c e a) = mid (mid a b c) (mid a b e) a
  | [], [], [], [], _, _, _ => rfl
  | a :: as, b :: bs, c :: cs, e :: es, h1, h2, h3 => by
    simp only [mid, mid_dist as bs cs es (by simpa using h1) (by simpa using h2) (by simpa using h3)]
    cases a <;> cases b <;> cases c <;> cases e <;> rfl
  | [], _ :: _, _, _, h, _, _ => by simp at h
  | _ :: _, [], _, _, h, _, _ => by simp at h
  | _, [], _ :: _, _, _, h, _ => by simp at h
  | _, _ :: _, [], _, _, h, _ => by simp at h
  | _, _, [], _ :: _, _, _, h => by simp at h
  | _, _, _ :: _, [], _, _, h => by simp at h
end M
set_option Elab.async false
set_option maxRecDepth 100000
set_option linter.unusedVariables false
set_option maxHeartbeats 1000000
namespace L01
open PySem PySem.Spec PyProof.Rows L2 M
def top (i : Nat) : Stmt := PySem.Challenge.pw_middlewalls_k01_whole_points_and_middles.main.body.getD i (.Pass ⟨0, 0, 0, 0⟩)
abbrev N__law_dice : List Str := ["script", "spot", "cell", "left"]
theorem sc__law_dice : FnScope N__law_dice ["script", "spot"] (defScope (top 28)) := ⟨rfl, rfl, rfl, by decide +kernel, rfl, by decide +kernel, by decide +kernel⟩
abbrev N__law_roll : List Str := ["dice", "total", "found", "one", "two"]
theorem sc__law_roll : FnScope N__law_roll ["dice", "total"] (defScope (top 29)) := ⟨rfl, rfl, rfl, by decide +kernel, rfl, by decide +kernel, by decide +kernel⟩
abbrev N__law_bi_point : List Str := ["dice", "d", "at"]
theorem sc__law_bi_point : FnScope N__law_bi_point ["dice", "d"] (defScope (top 33)) := ⟨rfl, rfl, rfl, by decide +kernel, rfl, by decide +kernel, by decide +kernel⟩
abbrev N_is_whole : List Str := ["value"]
theorem sc_is_whole : FnScope N_is_whole ["value"] (defScope (top 5)) := ⟨rfl, rfl, rfl, by decide +kernel, rfl, by decide +kernel, by decide +kernel⟩
abbrev N_is_within : List Str := ["value", "least", "most"]
theorem sc_is_within : FnScope N_is_within ["value", "least", "most"] (defScope (top 6)) := ⟨rfl, rfl, rfl, by decide +kernel, rfl, by decide +kernel, by decide +kernel⟩
abbrev N_is_point_in : List Str := ["value", "bit"]
theorem sc_is_point_in : FnScope N_is_point_in ["value"] (defScope (top 10)) := ⟨rfl, rfl, rfl, by decide +kernel, rfl, by decide +kernel, by decide +kernel⟩
abbrev N_require_point : List Str := ["value"]
theorem sc_require_point : FnScope N_require_point ["value"] (defScope (top 17)) := ⟨rfl, rfl, rfl, by decide +kernel, rfl, by decide +kernel, by decide +kernel⟩
abbrev N_is_wide : List Str := ["value", "wide"]
theorem sc_is_wide : FnScope N_is_wide ["value", "wide"] (defScope (top 11)) := ⟨rfl, rfl, rfl, by decide +kernel, rfl, by decide +kernel, by decide +kernel⟩
abbrev N_require_like : List Str := ["point", "value"]
theorem sc_require_like : FnScope N_require_like ["point", "value"] (defScope (top 18)) := ⟨rfl, rfl, rfl, by decide +kernel, rfl, by decide +kernel, by decide +kernel⟩
abbrev N_require_two_points : List Str := ["one", "other"]
theorem sc_require_two_points : FnScope N_require_two_points ["one", "other"] (defScope (top 19)) := ⟨rfl, rfl, rfl, by decide +kernel, rfl, by decide +kernel, by decide +kernel⟩
abbrev N_differing_in : List Str := ["one", "other", "at", "pair"]
theorem sc_differing_in : FnScope N_differing_in ["one", "other"] (defScope (top 12)) := ⟨rfl, rfl, rfl, by decide +kernel, rfl, by decide +kernel, by decide +kernel⟩
abbrev N_apart : List Str := ["one", "other"]
theorem sc_apart : FnScope N_apart ["one", "other"] (defScope (top 13)) := ⟨rfl, rfl, rfl, by decide +kernel, rfl, by decide +kernel, by decide +kernel⟩
abbrev N_apart_of : List Str := ["one", "other"]
theorem sc_apart_of : FnScope N_apart_of ["one", "other"] (defScope (top 21)) := ⟨rfl, rfl, rfl, by decide +kernel, rfl, by decide +kernel, by decide +kernel⟩
abbrev N_require_three_points : List Str := ["one", "other", "third"]
theorem sc_require_three_points : FnScope N_require_three_points ["one", "other", "third"] (defScope (top 20)) := ⟨rfl, rfl, rfl, by decide +kernel, rfl, by decide +kernel, by decide +kernel⟩
abbrev N_middle_in : List Str := ["one", "other", "third", "a", "b", "c"]
theorem sc_middle_in : FnScope N_middle_in ["one", "other", "third"] (defScope (top 14)) := ⟨rfl, rfl, rfl, by decide +kernel, rfl, by decide +kernel, by decide +kernel⟩
abbrev N_middle : List Str := ["one", "other", "third"]
theorem sc_middle : FnScope N_middle ["one", "other", "third"] (defScope (top 23)) := ⟨rfl, rfl, rfl, by decide +kernel, rfl, by decide +kernel, by decide +kernel⟩
abbrev N_spread_points : List Str := ["one", "other", "found", "a", "b", "bits", "later", "point", "bit"]
theorem sc_spread_points : FnScope N_spread_points ["one", "other"] (defScope (top 16)) := ⟨rfl, rfl, rfl, by decide +kernel, rfl, by decide +kernel, by decide +kernel⟩
abbrev N_all_amid : List Str := ["one", "other"]
theorem sc_all_amid : FnScope N_all_amid ["one", "other"] (defScope (top 26)) := ⟨rfl, rfl, rfl, by decide +kernel, rfl, by decide +kernel, by decide +kernel⟩
abbrev N_count_amid : List Str := ["one", "other"]
theorem sc_count_amid : FnScope N_count_amid ["one", "other"] (defScope (top 25)) := ⟨rfl, rfl, rfl, by decide +kernel, rfl, by decide +kernel, by decide +kernel⟩
abbrev N__law_bent_point : List Str := ["dice", "point", "at", "turn", "to", "bit"]
theorem sc__law_bent_point : FnScope N__law_bent_point ["dice", "point"] (defScope (top 32)) := ⟨rfl, rfl, rfl, by decide +kernel, rfl, by decide +kernel, by decide +kernel⟩
abbrev N__law_bi_box : List Str := ["one", "other", "found", "x", "y", "later", "some", "bit"]
theorem sc__law_bi_box : FnScope N__law_bi_box ["one", "other"] (defScope (top 34)) := ⟨rfl, rfl, rfl, by decide +kernel, rfl, by decide +kernel, by decide +kernel⟩
abbrev N__law_middle : List Str := ["a", "b", "c", "x", "y", "z"]
theorem sc__law_middle : FnScope N__law_middle ["a", "b", "c"] (defScope (top 30)) := ⟨rfl, rfl, rfl, by decide +kernel, rfl, by decide +kernel, by decide +kernel⟩
abbrev N__law_power : List Str := ["many", "found", "turn"]
theorem sc__law_power : FnScope N__law_power ["many"] (defScope (top 37)) := ⟨rfl, rfl, rfl, by decide +kernel, rfl, by decide +kernel, by decide +kernel⟩
abbrev N_between_points : List Str := ["one", "other", "third", "a", "b", "c"]
theorem sc_between_points : FnScope N_between_points ["one", "other", "third"] (defScope (top 15)) := ⟨rfl, rfl, rfl, by decide +kernel, rfl, by decide +kernel, by decide +kernel⟩
abbrev N_is_amid : List Str := ["one", "other", "third"]
theorem sc_is_amid : FnScope N_is_amid ["one", "other", "third"] (defScope (top 24)) := ⟨rfl, rfl, rfl, by decide +kernel, rfl, by decide +kernel, by decide +kernel⟩
abbrev N__law_apart : List Str := ["a", "b", "x", "y"]
theorem sc__law_apart : FnScope N__law_apart ["a", "b"] (defScope (top 31)) := ⟨rfl, rfl, rfl, by decide +kernel, rfl, by decide +kernel, by decide +kernel⟩
abbrev N_differing : List Str := ["one", "other"]
theorem sc_differing : FnScope N_differing ["one", "other"] (defScope (top 22)) := ⟨rfl, rfl, rfl, by decide +kernel, rfl, by decide +kernel, by decide +kernel⟩
abbrev N__law_differing : List Str := ["a", "b", "at"]
theorem sc__law_differing : FnScope N__law_differing ["a", "b"] (defScope (top 36)) := ⟨rfl, rfl, rfl, by decide +kernel, rfl, by decide +kernel, by decide +kernel⟩
abbrev N__law_three_right : List Str := ["a", "b", "c", "one"]
theorem sc__law_three_right : FnScope N__law_three_right ["a", "b", "c"] (defScope (top 35)) := ⟨rfl, rfl, rfl, by decide +kernel, rfl, by decide +kernel, by decide +kernel⟩
abbrev N__law_right : List Str := ["dice", "d", "a", "b", "c", "e", "box", "every", "turn", "one"]
theorem sc__law_right : FnScope N__law_right ["dice"] (defScope (top 38)) := ⟨rfl, rfl, rfl, by decide +kernel, rfl, by decide +kernel, by decide +kernel⟩
abbrev N_law : List Str := ["script", "spot", "dice", "turn", "d", "a", "b", "c", "told"]
theorem sc_law : FnScope N_law ["script"] (defScope (top 39)) := ⟨rfl, rfl, rfl, by decide +kernel, rfl, by decide +kernel, by decide +kernel⟩
/-- what the module holds -/
structure Glb (K : PySem.W.Frag) (mg : Str → Option Value) : Prop where
  d__law_dice : DefM K mg "_law_dice" (top 28) ["script", "spot"]
  d__law_roll : DefM K mg "_law_roll" (top 29) ["dice", "total"]
  d__law_bi_point : DefM K mg "_law_bi_point" (top 33) ["dice", "d"]
  d_is_whole : DefM K mg "is_whole" (top 5) ["value"]
  d_is_within : DefM K mg "is_within" (top 6) ["value", "least", "most"]
  d_is_point_in : DefM K mg "is_point_in" (top 10) ["value"]
  d_require_point : DefM K mg "require_point" (top 17) ["value"]
  d_is_wide : DefM K mg "is_wide" (top 11) ["value", "wide"]
  d_require_like : DefM K mg "require_like" (top 18) ["point", "value"]
  d_require_two_points : DefM K mg "require_two_points" (top 19) ["one", "other"]
  d_differing_in : DefM K mg "differing_in" (top 12) ["one", "other"]
  d_apart : DefM K mg "apart" (top 13) ["one", "other"]
  d_apart_of : DefM K mg "apart_of" (top 21) ["one", "other"]
  d_require_three_points : DefM K mg "require_three_points" (top 20) ["one", "other", "third"]
  d_middle_in : DefM K mg "middle_in" (top 14) ["one", "other", "third"]
  d_middle : DefM K mg "middle" (top 23) ["one", "other", "third"]
  d_spread_points : DefM K mg "spread_points" (top 16) ["one", "other"]
  d_all_amid : DefM K mg "all_amid" (top 26) ["one", "other"]
  d_count_amid : DefM K mg "count_amid" (top 25) ["one", "other"]
  d__law_bent_point : DefM K mg "_law_bent_point" (top 32) ["dice", "point"]
  d__law_bi_box : DefM K mg "_law_bi_box" (top 34) ["one", "other"]
  d__law_middle : DefM K mg "_law_middle" (top 30) ["a", "b", "c"]
  d__law_power : DefM K mg "_law_power" (top 37) ["many"]
  d_between_points : DefM K mg "between_points" (top 15) ["one", "other", "third"]
  d_is_amid : DefM K mg "is_amid" (top 24) ["one", "other", "third"]
  d__law_apart : DefM K mg "_law_apart" (top 31) ["a", "b"]
  d_differing : DefM K mg "differing" (top 22) ["one", "other"]
  d__law_differing : DefM K mg "_law_differing" (top 36) ["a", "b"]
  d__law_three_right : DefM K mg "_law_three_right" (top 35) ["a", "b", "c"]
  d__law_right : DefM K mg "_law_right" (top 38) ["dice"]
  d_law : DefM K mg "law" (top 39) ["script"]
  c_MOST_POINTS : ∃ k, mg "MOST_POINTS" = some (.int (256) k)
  c_MOST_WIDE : ∃ k, mg "MOST_WIDE" = some (.int (63) k)
  n_abs : mg "abs" = none
  n_all : mg "all" = none
  n_bool : mg "bool" = none
  n_enumerate : mg "enumerate" = none
  n_int : mg "int" = none
  n_isinstance : mg "isinstance" = none
  n_len : mg "len" = none
  n_max : mg "max" = none
  n_min : mg "min" = none
  n_range : mg "range" = none
  n_repr : mg "repr" = none
  n_tuple : mg "tuple" = none
  n_zip : mg "zip" = none
end L01
set_option Elab.async false
set_option maxRecDepth 100000
set_option linter.unusedVariables false
set_option linter.unusedSimpArgs false
set_option maxHeartbeats 2000000
namespace L01
open PySem M
def sp__law_dice : SpM := fun ts S q _ => ∃ (ns : List Int) (k : Nat), ts = [.scr ns, .int (k : Nat)] ∧ ns.length ≤ 63 ∧ ∀ a S', S a = none → LeD noD S S' → DiceAt S' a → q (.ref a) S'
/-- _law_dice(script, spot) -/
def rd__law_dice (W : Wish) : MS :=
  (sSeq (sAsg (eIf (mVal (eOp (cmpR .Lt) (eVar 1) (eBi .len (aCons (eVar 0) aNil)))) (eBi .int (aCons (eOp ixR (eVar 0) (eVar 1)) aNil)) (eOp (binR .Add) (eOp (binR .Mult) (eC (.int 97)) (eVar 1)) (eC (.int 61)))) (gSet 2))
  (sSeq (sAsg (eOp (binR .Mod) (eBi .max (aCons (eC (.int 0)) (aCons (eOp (binR .Sub) (eBi .abs (aCons (eVar 2) aNil)) (eOp (binR .Pow) (eC (.int 10)) (eC (.int 16)))) aNil))) (eOp (binR .Mult) (eOp (binR .Pow) (eC (.int 10)) (eC (.int 60))) (eOp (binR .Pow) (eC (.int 10)) (eC (.int 60))))) (gSet 3))
  (sRet (eLst (aCons (eVar 3) (aCons (eOp (binR .Add) (eOp (binR .Add) (eOp (binR .Add) (eOp (binR .Mult) (eOp (binR .Mod) (eBi .abs (aCons (eVar 2) aNil)) (eC (.int 1152921504606846869))) (eC (.int 41))) (eOp (binR .Mult) (eC (.int 941)) (eVar 1))) (eOp (binR .Mult) (eC (.int 23)) (eBi .int (aCons (eOp (cmpR .Lt) (eVar 2) (eC (.int 0))) aNil)))) (eC (.int 19))) (aCons (eC (.int 0)) aNil)))))))
def sp__law_roll : SpM := fun ts S q _ => ∃ (a : Addr) (n : Int), ts = [.ref a, .int n] ∧ 0 < n ∧ n < 1073741824 ∧ DiceAt S a ∧ ∀ r S', 0 ≤ r → r < n → LeD (one a) S S' → q (.int r) S'
/-- _law_roll(dice, total) -/
def rd__law_roll (W : Wish) : MS :=
  (sSeq (sIf (mVal (eOp (cmpR .Gt) (eOp ixR (eVar 0) (eC (.int 0))) (eC (.int 0)))) (sSeq (sAsg (eOp (binR .Mod) (eBi .int (aCons (eOp ixR (eVar 0) (eC (.int 0))) aNil)) (eVar 1)) (gSet 2))
  (sSeq (sAsg (eOp (binR .FloorDiv) (eOp ixR (eVar 0) (eC (.int 0))) (eVar 1)) (gSub (eVar 0) (eC (.int 0))))
  (sRet (eVar 2)))) sNext)
  (sSeq (sAsg (eOp (binR .Add) (eOp ixR (eVar 0) (eC (.int 2))) (eC (.int 1))) (gSub (eVar 0) (eC (.int 2))))
  (sSeq (sAsg (eOp (binR .Mod) (eBi .int (aCons (eOp (binR .Add) (eOp ixR (eVar 0) (eC (.int 1))) (eOp (binR .Mult) (eC (.int 15485863)) (eOp ixR (eVar 0) (eC (.int 2))))) aNil)) (eC (.int 2305843009213693907))) (gSet 3))
  (sSeq (sAsg (eOp (binR .Add) (eOp (binR .Mult) (eOp (binR .Mod) (eBi .int (aCons (eOp (binR .Add) (eOp (binR .Mult) (eVar 3) (eVar 3)) (eOp (binR .Mult) (eC (.int 173)) (eOp ixR (eVar 0) (eC (.int 2))))) aNil)) (eC (.int 2305843009213693921))) (eC (.int 7368787))) (eVar 3)) (gSet 4))
  (sRet (eOp (binR .Mod) (eBi .int (aCons (eOp (binR .FloorDiv) (eVar 4) (eC (.int 65536))) aNil)) (eVar 1)))))))
def sp__law_bi_point : SpM := fun ts S q _ => ∃ (a : Addr) (d : Nat), ts = [.ref a, .int (d : Nat)] ∧ d ≤ 63 ∧ DiceAt S a ∧ ∀ (p : Pt) S', p.length = d → LeD (one a) S S' → q (pt p) S'
/-- _law_bi_point(dice, d) -/
def rd__law_bi_point (W : Wish) : MS :=
  (sRet (eBi .tup (aCons (eComp (iRg1 (aCons (eVar 1) aNil)) (gSet 2) mYes (eCall sp__law_roll [] wN (aCons (eVar 0) (aCons (eC (.int 2)) aNil))) [2]) aNil)))
def sp_is_whole : SpM := fun ts S q _ => ∃ t, ts = [t] ∧ tyd S t ∧ q (.bl (isI t)) S
/-- is_whole(value) -/
def rd_is_whole (W : Wish) : MS :=
  (sRet (eAnd2 (eBi .isi (aCons (eVar 0) (aCons (eC (.ty "int")) aNil))) (eNot (eBi .isi (aCons (eVar 0) (aCons (eC (.ty "bool")) aNil))))))
def wi (a b : Int) : T → Bool
  | .int i => decide (a ≤ i) && decide (i ≤ b)
  | _ => false
def sp_is_within : SpM := fun ts S q _ => ∃ t a b, ts = [t, .int a, .int b] ∧ tyd S t ∧ q (.bl (wi a b t)) S
/-- is_within(value, least, most) -/
def rd_is_within (W : Wish) : MS :=
  (sRet (eAnd2 (eCall sp_is_whole [] W (aCons (eVar 0) aNil)) (eChain (cmpR .LtE) (cmpR .LtE) (eVar 1) (eVar 0) (eVar 2))))
def tydP (S : Store) : T → Prop
  | .tup xs => ∀ x ∈ xs, tyd S x
  | t => tyd S t
def sp_is_point_in : SpM := fun ts S q _ => ∃ t, ts = [t] ∧ tydP S t ∧ ∀ S', LeD noD S S' → q (.bl (isPt t)) S'
/-- is_point_in(value) -/
def rd_is_point_in (W : Wish) : MS :=
  (sSeq (sIf (mOr2 (mNot (mTru (eBi .isi (aCons (eVar 0) (aCons (eC (.ty "tuple")) aNil))))) (mVal (eOp (cmpR .Gt) (eBi .len (aCons (eVar 0) aNil)) (eC (.int 63))))) (sRet (eC (.bl false))) sNext)
  (sRet (eBi .all (aCons (eComp (iSeq (eVar 0)) (gSet 1) mYes (eCall sp_is_within [] wN (aCons (eVar 1) (aCons (eC (.int 0)) (aCons (eC (.int 1)) aNil)))) [1]) aNil))))
def sp_require_point : SpM := fun ts S q _ => ∃ t, ts = [t] ∧ tydP S t ∧ isPt t = true ∧ ∀ S', LeD noD S S' → q .non S'
/-- require_point(value) -/
-- not walked: raise InvalidPoint('a tuple of at most 63 bits is expected'): Raise
def rd_require_point (W : Wish) : MS :=
  (sIf (mNot (mTru (eCall sp_is_point_in [] W (aCons (eVar 0) aNil)))) sNo sNext)
def sp_is_wide : SpM := fun ts S q _ => ∃ t n, ts = [t, .int n] ∧ tydP S t ∧ ∀ S', LeD noD S S' → q (.bl (isPt t && (match t with | .tup xs => decide ((xs.length : Int) = n) | _ => false))) S'
/-- is_wide(value, wide) -/
def rd_is_wide (W : Wish) : MS :=
  (sRet (eAnd2 (eCall sp_is_point_in [] W (aCons (eVar 0) aNil)) (eOp (cmpR .Eq) (eBi .len (aCons (eVar 0) aNil)) (eVar 1))))
def sp_require_like : SpM := fun ts S q _ => ∃ p t, ts = [pt p, t] ∧ isPt t = true ∧ (match t with | .tup xs => xs.length = p.length | _ => False) ∧ ∀ S', LeD noD S S' → q .non S'
/-- require_like(point, value) -/
-- not walked: raise InvalidPoint('a point of the same width is expected'): Raise
def rd_require_like (W : Wish) : MS :=
  (sIf (mNot (mTru (eCall sp_is_wide [] W (aCons (eVar 1) (aCons (eBi .len (aCons (eVar 0) aNil)) aNil))))) sNo sNext)
def sp_require_two_points : SpM := fun ts S q _ => ∃ p r, ts = [pt p, pt r] ∧ p.length ≤ 63 ∧ r.length = p.length ∧ ∀ S', LeD noD S S' → q .non S'
/-- require_two_points(one, other) -/
def rd_require_two_points (W : Wish) : MS :=
  (sSeq (sDrop (eCall sp_require_point [] W (aCons (eVar 0) aNil)))
  (sDrop (eCall sp_require_like [] W (aCons (eVar 0) (aCons (eVar 1) aNil)))))
def sp_differing_in : SpM := fun ts S q _ => ∃ p r, ts = [pt p, pt r] ∧ p.length ≤ 63 ∧ ∀ S', LeD noD S S' → q (.tup ((dif p r).map fun i => T.int (i : Nat))) S'
/-- differing_in(one, other) -/
def rd_differing_in (W : Wish) : MS :=
  (sRet (eBi .tup (aCons (eComp (iEz (aCons (eVar 0) (aCons (eVar 1) aNil))) (gUnp (gsCons (gSet 2) (gsCons (gSet 3) gsNil))) (mVal (eOp (cmpR .NotEq) (eOp ixR (eVar 3) (eC (.int 0))) (eOp ixR (eVar 3) (eC (.int 1))))) (eVar 2) [2, 3]) aNil)))
def sp_apart : SpM := fun ts S q _ => ∃ p r, ts = [pt p, pt r] ∧ p.length ≤ 63 ∧ ∀ S', LeD noD S S' → q (.int (dist p r : Nat)) S'
/-- apart(one, other) -/
def rd_apart (W : Wish) : MS :=
  (sRet (eBi .len (aCons (eCall sp_differing_in [] W (aCons (eVar 0) (aCons (eVar 1) aNil))) aNil)))
def sp_apart_of : SpM := fun ts S q _ => ∃ p r, ts = [pt p, pt r] ∧ p.length ≤ 63 ∧ r.length = p.length ∧ ∀ S', LeD noD S S' → q (.int (dist p r : Nat)) S'
/-- apart_of(one, other) -/
def rd_apart_of (W : Wish) : MS :=
  (sSeq (sDrop (eCall sp_require_two_points [] W (aCons (eVar 0) (aCons (eVar 1) aNil))))
  (sRet (eCall sp_apart [] W (aCons (eVar 0) (aCons (eVar 1) aNil)))))
def sp_require_three_points : SpM := fun ts S q _ => ∃ p r o, ts = [pt p, pt r, pt o] ∧ p.length ≤ 63 ∧ r.length = p.length ∧ o.length = p.length ∧ ∀ S', LeD noD S S' → q .non S'
/-- require_three_points(one, other, third) -/
def rd_require_three_points (W : Wish) : MS :=
  (sSeq (sDrop (eCall sp_require_two_points [] W (aCons (eVar 0) (aCons (eVar 1) aNil))))
  (sDrop (eCall sp_require_like [] W (aCons (eVar 0) (aCons (eVar 2) aNil)))))
def sp_middle_in : SpM := fun ts S q _ => ∃ p r o, ts = [pt p, pt r, pt o] ∧ p.length ≤ 63 ∧ ∀ S', LeD noD S S' → q (pt (mid p r o)) S'
/-- middle_in(one, other, third) -/
def rd_middle_in (W : Wish) : MS :=
  (sRet (eBi .tup (aCons (eComp (iZ3 (aCons (eVar 0) (aCons (eVar 1) (aCons (eVar 2) aNil)))) (gUnp (gsCons (gSet 3) (gsCons (gSet 4) (gsCons (gSet 5) gsNil)))) mYes (eIf (mVal (eOp (cmpR .GtE) (eOp (binR .Add) (eOp (binR .Add) (eVar 3) (eVar 4)) (eVar 5)) (eC (.int 2)))) (eC (.int 1)) (eC (.int 0))) [3, 4, 5]) aNil)))
def sp_middle : SpM := fun ts S q _ => ∃ p r o, ts = [pt p, pt r, pt o] ∧ p.length ≤ 63 ∧ r.length = p.length ∧ o.length = p.length ∧ ∀ S', LeD noD S S' → q (pt (mid p r o)) S'
/-- middle(one, other, third) -/
def rd_middle (W : Wish) : MS :=
  (sSeq (sDrop (eCall sp_require_three_points [] W (aCons (eVar 0) (aCons (eVar 1) (aCons (eVar 2) aNil)))))
  (sRet (eCall sp_middle_in [] W (aCons (eVar 0) (aCons (eVar 1) (aCons (eVar 2) aNil))))))
def sp_spread_points : SpM := fun ts S q _ => ∃ p r, ts = [pt p, pt r] ∧ p.length ≤ 63 ∧ dist p r ≤ 20 ∧ r.length = p.length ∧ ∀ a S', S a = none → LeD noD S S' → S' a = some (.lst ((spread p r).map pt)) → q (.ref a) S'
/-- spread_points(one, other) -/
def rd_spread_points (W : Wish) : MS :=
  (sSeq (sAsg (eLst (aCons (eTup aNil) aNil)) (gSet 2))
  (sSeq (sFor (iZ2 (aCons (eVar 0) (aCons (eVar 1) aNil))) (gUnp (gsCons (gSet 3) (gsCons (gSet 4) gsNil))) (sSeq (sAsg (eIf (mVal (eOp (cmpR .Eq) (eVar 3) (eVar 4))) (eTup (aCons (eVar 3) aNil)) (eTup (aCons (eC (.int 0)) (aCons (eC (.int 1)) aNil)))) (gSet 5))
  (sSeq (sAsg (eLst aNil) (gSet 6))
  (sSeq (sFor (iSeq (eVar 2)) (gSet 7) (sDrop (eMth extR (eVar 6) (aCons (eComp (iSeq (eVar 5)) (gSet 8) mYes (eTup (aStar (eVar 7) (aCons (eVar 8) aNil))) [8]) aNil))))
  (sAsg (eVar 6) (gSet 2))))))
  (sRet (eVar 2))))
def sp_all_amid : SpM := fun ts S q _ => ∃ p r, ts = [pt p, pt r] ∧ p.length ≤ 63 ∧ r.length = p.length ∧ dist p r ≤ 8 ∧ ∀ S', LeD noD S S' → q (.tup ((spread p r).map pt)) S'
/-- all_amid(one, other) -/
-- not walked: raise TooMany(MOST_POINTS): Raise
def rd_all_amid (W : Wish) : MS :=
  (sSeq (sDrop (eCall sp_require_two_points [] W (aCons (eVar 0) (aCons (eVar 1) aNil))))
  (sSeq (sIf (mVal (eOp (cmpR .Gt) (eOp (binR .LShift) (eC (.int 1)) (eCall sp_apart [] W (aCons (eVar 0) (aCons (eVar 1) aNil)))) (eC (.int 256)))) sNo sNext)
  (sRet (eBi .tup (aCons (eCall sp_spread_points [] W (aCons (eVar 0) (aCons (eVar 1) aNil))) aNil)))))
def sp_count_amid : SpM := fun ts S q _ => ∃ p r, ts = [pt p, pt r] ∧ p.length ≤ 63 ∧ r.length = p.length ∧ ∀ S', LeD noD S S' → q (.int ((2 ^ dist p r : Nat))) S'
/-- count_amid(one, other) -/
def rd_count_amid (W : Wish) : MS :=
  (sSeq (sDrop (eCall sp_require_two_points [] W (aCons (eVar 0) (aCons (eVar 1) aNil))))
  (sRet (eOp (binR .LShift) (eC (.int 1)) (eCall sp_apart [] W (aCons (eVar 0) (aCons (eVar 1) aNil))))))
def sp__law_bent_point : SpM := fun ts S q _ => ∃ (a : Addr) (p : Pt), ts = [.ref a, pt p] ∧ 0 < p.length ∧ p.length ≤ 63 ∧ DiceAt S a ∧ ∀ (r : Pt) S', r.length = p.length → dist p r ≤ 3 → LeD (one a) S S' → q (pt r) S'
/-- _law_bent_point(dice, point) -/
def rd__law_bent_point (W : Wish) : MS :=
  (sSeq (sAsg (eComp (iRg1 (aCons (eOp (binR .Add) (eC (.int 1)) (eCall sp__law_roll [] W (aCons (eVar 0) (aCons (eC (.int 3)) aNil)))) aNil)) (gSet 3) mYes (eCall sp__law_roll [] wN (aCons (eVar 0) (aCons (eBi .len (aCons (eVar 1) aNil)) aNil))) [3]) (gSet 2))
  (sRet (eBi .tup (aCons (eComp (iEn (aCons (eVar 1) aNil)) (gUnp (gsCons (gSet 4) (gsCons (gSet 5) gsNil))) mYes (eIf (mVal (eOp (cmpR .In) (eVar 4) (eVar 2))) (eOp (binR .Sub) (eC (.int 1)) (eVar 5)) (eVar 5)) [4, 5]) aNil))))
def sp__law_bi_box : SpM := fun ts S q _ => ∃ p r, ts = [pt p, pt r] ∧ p.length ≤ 63 ∧ dist p r ≤ 20 ∧ r.length = p.length ∧ ∀ a S', S a = none → LeD noD S S' → S' a = some (.lst ((spread p r).map pt)) → q (.ref a) S'
/-- _law_bi_box(one, other) -/
def rd__law_bi_box (W : Wish) : MS :=
  (sSeq (sAsg (eLst (aCons (eTup aNil) aNil)) (gSet 2))
  (sSeq (sFor (iZ2 (aCons (eVar 0) (aCons (eVar 1) aNil))) (gUnp (gsCons (gSet 3) (gsCons (gSet 4) gsNil))) (sSeq (sAsg (eLst aNil) (gSet 5))
  (sSeq (sFor (iSeq (eVar 2)) (gSet 6) (sDrop (eMth extR (eVar 5) (aCons (eComp (iSeq (eIf (mVal (eOp (cmpR .Eq) (eVar 3) (eVar 4))) (eTup (aCons (eVar 3) aNil)) (eTup (aCons (eC (.int 0)) (aCons (eC (.int 1)) aNil))))) (gSet 7) mYes (eOp (binR .Add) (eVar 6) (eTup (aCons (eVar 7) aNil))) [7]) aNil))))
  (sAsg (eVar 5) (gSet 2)))))
  (sRet (eVar 2))))
def sp__law_middle : SpM := fun ts S q _ => ∃ p r o, ts = [pt p, pt r, pt o] ∧ p.length ≤ 63 ∧ ∀ S', LeD noD S S' → q (pt (mid p r o)) S'
/-- _law_middle(a, b, c) -/
def rd__law_middle (W : Wish) : MS :=
  (sRet (eBi .tup (aCons (eComp (iZ3 (aCons (eVar 0) (aCons (eVar 1) (aCons (eVar 2) aNil)))) (gUnp (gsCons (gSet 3) (gsCons (gSet 4) (gsCons (gSet 5) gsNil)))) mYes (eBi .int (aCons (eOp (cmpR .Gt) (eOp (binR .Add) (eOp (binR .Add) (eVar 3) (eVar 4)) (eVar 5)) (eC (.int 1))) aNil)) [3, 4, 5]) aNil)))
def sp__law_power : SpM := fun ts S q _ => ∃ n : Nat, ts = [.int (n : Nat)] ∧ n ≤ 1000 ∧ q (.int ((2 ^ n : Nat))) S
/-- _law_power(many) -/
def rd__law_power (W : Wish) : MS :=
  (sSeq (sAsg (eC (.int 1)) (gSet 1))
  (sSeq (sFor (iRg1 (aCons (eVar 0) aNil)) (gSet 2) (sAsg (eOp (binR .Mult) (eC (.int 2)) (eVar 1)) (gSet 1)))
  (sRet (eVar 1))))
def sp_between_points : SpM := fun ts S q _ => ∃ p r o, ts = [pt p, pt r, pt o] ∧ p.length ≤ 63 ∧ ∀ S', LeD noD S S' → q (.bl (btw p r o)) S'
/-- between_points(one, other, third) -/
def rd_between_points (W : Wish) : MS :=
  (sRet (eBi .all (aCons (eComp (iZ3 (aCons (eVar 0) (aCons (eVar 1) (aCons (eVar 2) aNil)))) (gUnp (gsCons (gSet 3) (gsCons (gSet 4) (gsCons (gSet 5) gsNil)))) mYes (eOr2 (eOp (cmpR .NotEq) (eVar 3) (eVar 4)) (eOp (cmpR .Eq) (eVar 5) (eVar 3))) [3, 4, 5]) aNil)))
def sp_is_amid : SpM := fun ts S q _ => ∃ p r o, ts = [pt p, pt r, pt o] ∧ p.length ≤ 63 ∧ r.length = p.length ∧ o.length = p.length ∧ ∀ S', LeD noD S S' → q (.bl (btw p r o)) S'
/-- is_amid(one, other, third) -/
def rd_is_amid (W : Wish) : MS :=
  (sSeq (sDrop (eCall sp_require_three_points [] W (aCons (eVar 0) (aCons (eVar 1) (aCons (eVar 2) aNil)))))
  (sRet (eCall sp_between_points [] W (aCons (eVar 0) (aCons (eVar 1) (aCons (eVar 2) aNil))))))
def sp__law_apart : SpM := fun ts S q _ => ∃ p r, ts = [pt p, pt r] ∧ p.length ≤ 63 ∧ ∀ S', LeD noD S S' → q (.int (dist p r : Nat)) S'
/-- _law_apart(a, b) -/
def rd__law_apart (W : Wish) : MS :=
  (sRet (eBi .len (aCons (eComp (iZ2 (aCons (eVar 0) (aCons (eVar 1) aNil))) (gUnp (gsCons (gSet 2) (gsCons (gSet 3) gsNil))) (mVal (eOp (cmpR .NotEq) (eVar 2) (eVar 3))) (eC (.int 1)) [2, 3]) aNil)))
def sp_differing : SpM := fun ts S q _ => ∃ p r, ts = [pt p, pt r] ∧ p.length ≤ 63 ∧ r.length = p.length ∧ ∀ S', LeD noD S S' → q (.tup ((dif p r).map fun i => T.int (i : Nat))) S'
/-- differing(one, other) -/
def rd_differing (W : Wish) : MS :=
  (sSeq (sDrop (eCall sp_require_two_points [] W (aCons (eVar 0) (aCons (eVar 1) aNil))))
  (sRet (eCall sp_differing_in [] W (aCons (eVar 0) (aCons (eVar 1) aNil)))))
def sp__law_differing : SpM := fun ts S q _ => ∃ p r, ts = [pt p, pt r] ∧ p.length ≤ 63 ∧ r.length = p.length ∧ ∀ S', LeD noD S S' → q (nums (dif p r)) S'
/-- _law_differing(a, b) -/
def rd__law_differing (W : Wish) : MS :=
  (sRet (eBi .tup (aCons (eComp (iRg1 (aCons (eBi .len (aCons (eVar 0) aNil)) aNil)) (gSet 2) (mVal (eOp (cmpR .NotEq) (eOp ixR (eVar 0) (eVar 2)) (eOp ixR (eVar 1) (eVar 2)))) (eVar 2) [2]) aNil)))
def sp__law_three_right : SpM := fun ts S q _ => ∃ a b c, ts = [pt a, pt b, pt c] ∧ a.length ≤ 63 ∧ b.length = a.length ∧ c.length = a.length ∧ ∀ S', LeD noD S S' → q (.bl true) S'
/-- _law_three_right(a, b, c) -/
def rd__law_three_right (W : Wish) : MS :=
  (sSeq (sIf (mVal (eOp (cmpR .NotEq) (eBi .repr (aCons (eLst (aCons (eCall sp_apart_of [] W (aCons (eVar 0) (aCons (eVar 1) aNil))) (aCons (eCall sp_differing [] W (aCons (eVar 0) (aCons (eVar 1) aNil))) aNil))) aNil)) (eBi .repr (aCons (eLst (aCons (eCall sp__law_apart [] W (aCons (eVar 0) (aCons (eVar 1) aNil))) (aCons (eCall sp__law_differing [] W (aCons (eVar 0) (aCons (eVar 1) aNil))) aNil))) aNil)))) (sRet (eC (.bl false))) sNext)
  (sSeq (sIf (mVal (eOp (cmpR .NotEq) (eCall sp_middle [] W (aCons (eVar 0) (aCons (eVar 1) (aCons (eVar 2) aNil)))) (eCall sp__law_middle [] W (aCons (eVar 0) (aCons (eVar 1) (aCons (eVar 2) aNil)))))) (sRet (eC (.bl false))) sNext)
  (sSeq (sIf (mVal (eOp (cmpR .NotEq) (eBi .repr (aCons (eCall sp_is_amid [] W (aCons (eVar 0) (aCons (eVar 1) (aCons (eVar 2) aNil)))) aNil)) (eBi .repr (aCons (eOp (cmpR .Eq) (eOp (binR .Add) (eCall sp__law_apart [] W (aCons (eVar 0) (aCons (eVar 2) aNil))) (eCall sp__law_apart [] W (aCons (eVar 2) (aCons (eVar 1) aNil)))) (eCall sp__law_apart [] W (aCons (eVar 0) (aCons (eVar 1) aNil)))) aNil)))) (sRet (eC (.bl false))) sNext)
  (sSeq (sIf (mVal (eOp (cmpR .NotEq) (eCall sp_count_amid [] W (aCons (eVar 0) (aCons (eVar 1) aNil))) (eCall sp__law_power [] W (aCons (eCall sp__law_apart [] W (aCons (eVar 0) (aCons (eVar 1) aNil))) aNil)))) (sRet (eC (.bl false))) sNext)
  (sSeq (sAsg (eCall sp_middle [] W (aCons (eVar 0) (aCons (eVar 1) (aCons (eVar 2) aNil)))) (gSet 3))
  (sRet (eAnd2 (eCall sp_is_amid [] W (aCons (eVar 0) (aCons (eVar 1) (aCons (eVar 3) aNil)))) (eAnd2 (eCall sp_is_amid [] W (aCons (eVar 1) (aCons (eVar 2) (aCons (eVar 3) aNil)))) (eCall sp_is_amid [] W (aCons (eVar 2) (aCons (eVar 0) (aCons (eVar 3) aNil))))))))))))
def sp__law_right : SpM := fun ts S q _ => ∃ (a : Addr), ts = [.ref a] ∧ DiceAt S a ∧ ∀ S', LeD (one a) S S' → q (.bl true) S'
/-- _law_right(dice) -/
def rd__law_right (W : Wish) : MS :=
  (sSeq (sAsg (eCall sp__law_roll [] W (aCons (eVar 0) (aCons (eC (.int 8)) aNil))) (gSet 1))
  (sSeq (sAsg (eComp (iRg1 (aCons (eC (.int 4)) aNil)) (gSet 8) mYes (eCall sp__law_bi_point [] wN (aCons (eVar 0) (aCons (eVar 1) aNil))) [8]) (gUnp (gsCons (gSet 2) (gsCons (gSet 3) (gsCons (gSet 4) (gsCons (gSet 5) gsNil))))))
  (sSeq (sIf (mOr2 (mNot (mTru (eCall sp__law_three_right [] W (aCons (eVar 2) (aCons (eVar 3) (aCons (eVar 4) aNil)))))) (mOr2 (mNot (mTru (eCall sp__law_three_right [] W (aCons (eVar 2) (aCons (eVar 2) (aCons (eVar 3) aNil)))))) (mNot (mTru (eCall sp__law_three_right [] W (aCons (eVar 4) (aCons (eVar 5) (aCons (eVar 2) aNil)))))))) (sRet (eC (.bl false))) sNext)
  (sSeq (sAsg (eCall sp__law_bi_box [] W (aCons (eVar 2) (aCons (eVar 3) aNil))) (gSet 6))
  (sSeq (sIf (mOr2 (mVal (eOp (cmpR .NotEq) (eCall sp_all_amid [] W (aCons (eVar 2) (aCons (eVar 3) aNil))) (eBi .tup (aCons (eVar 6) aNil)))) (mVal (eOp (cmpR .NotEq) (eComp (iSeq (eVar 6)) (gSet 9) (mVal (eOp (cmpR .IsNot) (eCall sp_is_amid [] wN (aCons (eVar 2) (aCons (eVar 3) (aCons (eVar 9) aNil)))) (eC (.bl true)))) (eVar 9) [9]) (eLst aNil)))) (sRet (eC (.bl false))) sNext)
  (sSeq (sAsg (eComp (iSeq (eVar 6)) (gSet 9) (mVal (eOp (cmpR .Eq) (eOp (binR .Add) (eCall sp__law_apart [] wN (aCons (eVar 3) (aCons (eVar 9) aNil))) (eCall sp__law_apart [] wN (aCons (eVar 9) (aCons (eVar 4) aNil)))) (eCall sp__law_apart [] wN (aCons (eVar 3) (aCons (eVar 4) aNil))))) (eVar 9) [9]) (gSet 7))
  (sSeq (sIf (mVal (eOp (cmpR .NotEq) (eComp (iSeq (eVar 7)) (gSet 9) (mVal (eOp (cmpR .Eq) (eOp (binR .Add) (eCall sp__law_apart [] wN (aCons (eVar 2) (aCons (eVar 9) aNil))) (eCall sp__law_apart [] wN (aCons (eVar 9) (aCons (eVar 4) aNil)))) (eCall sp__law_apart [] wN (aCons (eVar 2) (aCons (eVar 4) aNil))))) (eVar 9) [9]) (eLst (aCons (eCall sp_middle [] W (aCons (eVar 2) (aCons (eVar 3) (aCons (eVar 4) aNil)))) aNil)))) (sRet (eC (.bl false))) sNext)
  (sSeq (sIf (mVal (eOp (cmpR .NotEq) (eCall sp_middle [] W (aCons (eCall sp_middle [] W (aCons (eVar 2) (aCons (eVar 3) (aCons (eVar 4) aNil)))) (aCons (eVar 3) (aCons (eVar 5) aNil)))) (eCall sp_middle [] W (aCons (eVar 2) (aCons (eVar 3) (aCons (eCall sp_middle [] W (aCons (eVar 4) (aCons (eVar 3) (aCons (eVar 5) aNil)))) aNil)))))) (sRet (eC (.bl false))) sNext)
  (sRet (eOp (cmpR .Eq) (eCall sp_middle [] W (aCons (eVar 2) (aCons (eVar 3) (aCons (eCall sp_middle [] W (aCons (eVar 4) (aCons (eVar 5) (aCons (eVar 2) aNil)))) aNil)))) (eCall sp_middle [] W (aCons (eCall sp_middle [] W (aCons (eVar 2) (aCons (eVar 3) (aCons (eVar 4) aNil)))) (aCons (eCall sp_middle [] W (aCons (eVar 2) (aCons (eVar 3) (aCons (eVar 5) aNil)))) (aCons (eVar 2) aNil))))))))))))))
/-- law(script) -/
def rd_law (W : Wish) : MS :=
  (sSeq (sFor (iRg1 (aCons (eBi .max (aCons (eC (.int 1)) (aCons (eBi .min (aCons (eC (.int 4)) (aCons (eBi .len (aCons (eVar 0) aNil)) aNil))) aNil))) aNil)) (gSet 1) (sSeq (sAsg (eCall sp__law_dice [] W (aCons (eVar 0) (aCons (eVar 1) aNil))) (gSet 2))
  (sSeq (sFor (iRg1 (aCons (eC (.int 5)) aNil)) (gSet 3) (sIf (mNot (mTru (eCall sp__law_right [] W (aCons (eVar 2) aNil)))) (sRet (eC (.bl false))) sNext))
  (sSeq (sAsg (eOp (binR .Add) (eC (.int 56)) (eCall sp__law_roll [] W (aCons (eVar 2) (aCons (eC (.int 8)) aNil)))) (gSet 4))
  (sSeq (sAsg (eCall sp__law_bi_point [] W (aCons (eVar 2) (aCons (eVar 4) aNil))) (gSet 5))
  (sSeq (sPar 6 7 (aCons (eCall sp__law_bent_point [] W (aCons (eVar 2) (aCons (eVar 5) aNil))) (aCons (eCall sp__law_bi_point [] W (aCons (eVar 2) (aCons (eVar 4) aNil))) aNil)))
  (sSeq (sIf (mOr2 (mNot (mTru (eCall sp__law_three_right [] W (aCons (eVar 5) (aCons (eVar 7) (aCons (eVar 6) aNil)))))) (mNot (mTru (eCall sp__law_three_right [] W (aCons (eVar 5) (aCons (eVar 6) (aCons (eVar 7) aNil))))))) (sRet (eC (.bl false))) sNext)
  (sIf (mVal (eOp (cmpR .NotEq) (eCall sp_all_amid [] W (aCons (eVar 5) (aCons (eVar 6) aNil))) (eBi .tup (aCons (eCall sp__law_bi_box [] W (aCons (eVar 5) (aCons (eVar 6) aNil))) aNil)))) (sRet (eC (.bl false))) sNext))))))))
  (sSeq (sAsg (eLst (aCons (eCall sp_apart_of [] W (aCons (eTup aNil) (aCons (eTup aNil) aNil))) (aCons (eCall sp_middle [] W (aCons (eTup aNil) (aCons (eTup aNil) (aCons (eTup aNil) aNil)))) (aCons (eCall sp_all_amid [] W (aCons (eTup aNil) (aCons (eTup aNil) aNil))) (aCons (eCall sp_count_amid [] W (aCons (eOp (binR .Mult) (eTup (aCons (eC (.int 0)) aNil)) (eC (.int 63))) (aCons (eOp (binR .Mult) (eTup (aCons (eC (.int 1)) aNil)) (eC (.int 63))) aNil))) aNil))))) (gSet 8))
  (sRet (eOp (cmpR .Eq) (eVar 8) (eLst (aCons (eC (.int 0)) (aCons (eTup aNil) (aCons (eTup (aCons (eTup aNil) aNil)) (aCons (eC (.int 9223372036854775808)) aNil)))))))))
end L01
set_option Elab.async false
set_option maxRecDepth 100000
set_option linter.unusedVariables false
set_option linter.unusedSimpArgs false
set_option maxHeartbeats 2000000
namespace L01
open PySem M
local macro_rules | `(tactic| walk_at "mr") => `(tactic| try simp only [sSeq, sNext, sIf, sRet, sRetN, sAsg, sDrop, sPar, sFor, sBrk, sCnt, sAugI, gSet, gUnp, gsNil, gsCons, gSub, eVar, eC, eOp, eNot, eIf, eAnd2, eOr2, mAnd2, mOr2, mNot, mVal, mTru, mYes, eChain, aNil, aCons, aStar, eTup, eLst, eCut, oNo, oSome, eRev, eUn, eBi, eCall, eMth, eComp, iSeq, iRg1, iRg2, iZ2, iZ3, iEn, iEz, binR, cmpR, biR, isiR, startT, N__law_dice, N__law_roll, N__law_bi_point, N_is_whole, N_is_within, N_is_point_in, N_require_point, N_is_wide, N_require_like, N_require_two_points, N_differing_in, N_apart, N_apart_of, N_require_three_points, N_middle_in, N_middle, N_spread_points, N_all_amid, N_count_amid, N__law_bent_point, N__law_bi_box, N__law_middle, N__law_power, N_between_points, N_is_amid, N__law_apart, N_differing, N__law_differing, N__law_three_right, N__law_right, N_law, seqOf_tup, seqOf_scr, truT_bl, List.map_cons, List.map_nil, List.length_cons, List.length_nil, List.replicate_succ, List.replicate_zero, List.cons_append, List.nil_append, List.append_nil, Nat.reduceAdd, Nat.reduceSub, List.getElem?_cons_zero, List.getElem?_cons_succ, List.set_cons_zero, List.set_cons_succ, wipeT])
theorem m__law_dice (ts : List T) (S : Store) (q : KT) (E : XW) (h : sp__law_dice ts S q E) : rd__law_dice (fun x _ S => E x S) { nx := fun _ S => q .non S, rt := q } (startT N__law_dice ts) S := by
  obtain ⟨ns, spot, rfl, hl, h⟩ := h
  simp only [rd__law_dice]
  walk_at "mr"
  simp only [lenR, seqOf_scr, List.length_map, ltR]
  have rest : ∀ c : Int, (eOp (binR .Mod) (eBi .max (aCons (eC (.int 0)) (aCons (eOp (binR .Sub) (eBi .abs (aCons (eVar 2) aNil)) (eOp (binR .Pow) (eC (.int 10)) (eC (.int 16)))) aNil))) (eOp (binR .Mult) (eOp (binR .Pow) (eC (.int 10)) (eC (.int 60))) (eOp (binR .Pow) (eC (.int 10)) (eC (.int 60)))))
      [some (T.scr ns), some (T.int (spot : Nat)), some (.int c), none] S fun t S1 => (eLst (aCons (eVar 3) (aCons (eOp (binR .Add) (eOp (binR .Add) (eOp (binR .Add) (eOp (binR .Mult) (eOp (binR .Mod) (eBi .abs (aCons (eVar 2) aNil)) (eC (.int 1152921504606846869))) (eC (.int 41))) (eOp (binR .Mult) (eC (.int 941)) (eVar 1))) (eOp (binR .Mult) (eC (.int 23)) (eBi .int (aCons (eOp (cmpR .Lt) (eVar 2) (eC (.int 0))) aNil)))) (eC (.int 19))) (aCons (eC (.int 0)) aNil))))
        [some (T.scr ns), some (T.int (spot : Nat)), some (.int c), some t] S1 q := by
    intro c
    walk_at "mr"
    simp only [absR, powR, subR, maxR, modR, mulR]
    refine ⟨by unfold L2.CPow; decide, ⟨by unfold L2.CPow; decide, by unfold L2.CPow; decide, .inr (by unfold L2.CMulW; decide +kernel), by decide +kernel, ?_⟩⟩
    walk_at "mr"
    simp only [absR, mulR, modR, addR, ltR, intR]
    refine ⟨by decide, .inl (.inr (by decide)), .inl (.inl (by decide)), .inl (.inl (by decide)), by decide, fun p hp => ?_⟩
    exact h p _ hp (LeD.new0 hp) ⟨_, _, _, upS_same⟩
  by_cases hk : (spot : Int) < (ns.length : Nat)
  · simp only [hk, decide_true, if_true]
    walk_at "mr"
    have hk' : spot < ns.length := by omega
    have e : L2.atI (ns.map T.int) (spot : Int) = some (.int ns[spot]) := by
      rw [atI_nat (by simpa using hk'), List.getElem?_map, List.getElem?_eq_getElem hk']
      rfl
    simp only [ixR, seqOf_scr, e, intR]
    exact rest _
  · simp only [hk, decide_false, Bool.false_eq_true, if_false]
    walk_at "mr"
    simp only [mulR, addR]
    exact ⟨.inl (.inl (by decide)), rest _⟩
theorem m__law_roll (ts : List T) (S : Store) (q : KT) (E : XW) (h : sp__law_roll ts S q E) : rd__law_roll (fun x _ S => E x S) { nx := fun _ S => q .non S, rt := q } (startT N__law_roll ts) S := by
  obtain ⟨a, n, rfl, h0, h1, ⟨x, y, z, hd⟩, h⟩ := h
  have hD : LeD (one a) S S := DiceAt.one ⟨x, y, z, hd⟩
  simp only [rd__law_roll]
  walk_at "mr"
  have e0 : ∀ S', S' a = some (.lst [.int x, .int y, .int z]) → seqOf S' (.ref a) = some [.int x, .int y, .int z] := fun S' e => by simp only [seqOf, e]
  simp only [ixR, e0 S hd, at0, gtR]
  by_cases hx : 0 < x
  · simp only [hx, decide_true, if_true]
    walk_at "mr"
    simp only [ixR, e0 S hd, at0, intR, modR]
    refine ⟨h0, ?_⟩
    walk_at "mr"
    simp only [ixR, e0 S hd, at0, fdivR, setR, hd]
    refine ⟨⟨h0, .inl h1⟩, ?_⟩
    have e1 : L2.ixN [T.int x, T.int y, T.int z].length 0 = some 0 := rfl
    simp only [e1, List.set_cons_zero]
    walk_at "mr"
    exact h _ _ (Int.emod_nonneg _ (by omega)) (Int.emod_lt_of_pos _ h0) hD.set1
  · simp only [hx, decide_false, Bool.false_eq_true, if_false]
    walk_at "mr"
    simp only [ixR, e0 S hd, at2, addR, setR, hd]
    have e1 : L2.ixN [T.int x, T.int y, T.int z].length 2 = some 2 := rfl
    simp only [e1, List.set_cons_succ, List.set_cons_zero]
    have e2 : ∀ S : Store, seqOf (upS S a (.lst [.int x, .int y, .int (z + 1)])) (.ref a) = some [.int x, .int y, .int (z + 1)] := fun S => by simp only [seqOf, upS_same]
    walk_at "mr"
    simp only [ixR, e2, at1, at2, addR, intR, modR, mulR, fdivR]
    refine ⟨.inl (.inl (by decide)), by decide, ?_⟩
    have b0 := Int.emod_nonneg (y + 15485863 * (z + 1)) (show (2305843009213693907 : Int) ≠ 0 by decide)
    have b1 := Int.emod_lt_of_pos (y + 15485863 * (z + 1)) (show (0 : Int) < 2305843009213693907 by decide)
    walk_at "mr"
    refine ⟨.inl (.inl ⟨by omega, by omega⟩), .inl (.inl (by decide)), by decide, .inl (.inr (by decide)), ⟨by decide, .inl (by decide)⟩, h0, ?_⟩
    exact h _ _ (Int.emod_nonneg _ (by omega)) (Int.emod_lt_of_pos _ h0) hD.set1
theorem bit_cases {r : Int} (h0 : 0 ≤ r) (h1 : r < 2) : ∃ b, T.int r = bT b := by
  by_cases e : r = 0
  · exact ⟨false, by rw [e]; rfl⟩
  · exact ⟨true, by rw [show r = 1 by omega]; rfl⟩
theorem m__law_bi_point (ts : List T) (S : Store) (q : KT) (E : XW) (h : sp__law_bi_point ts S q E) : rd__law_bi_point (fun x _ S => E x S) { nx := fun _ S => q .non S, rt := q } (startT N__law_bi_point ts) S := by
  obtain ⟨a, d, rfl, hd, hD, h⟩ := h
  simp only [rd__law_bi_point]
  walk_at "mr"
  refine ⟨⟨by omega, by omega⟩, compI_gen hD.one (rngT 0 d) (by rw [rngT_len]; omega) (fun x o => ∃ b, o = some (bT b)) (fun i S' hi hS => jRng_get) (fun i x S' k hx hS hk => ?_) fun D S' ys hDn hS hys hf => ?_⟩
  · walk_at "mr"
    refine ⟨a, 2, rfl, by decide, by decide, hS.dice, fun r S2 h0 h1 h2 => ?_⟩
    obtain ⟨b, hb⟩ := bit_cases h0 h1
    exact hk _ _ h2 ⟨b, by rw [hb]⟩
  · obtain ⟨p, rfl, hl⟩ := hf.pick (g := bT) fun _ _ h => h
    simp only [tupR, seqOf, hys]
    exact h p S' (by rw [hl, rngT_len]) hS
theorem m_is_whole (ts : List T) (S : Store) (q : KT) (E : XW) (h : sp_is_whole ts S q E) : rd_is_whole (fun x _ S => E x S) { nx := fun _ S => q .non S, rt := q } (startT N_is_whole ts) S := by
  obtain ⟨t, rfl, ht, h⟩ := h
  simp only [rd_is_whole]
  walk_at "mr"
  simp only [isa_int ht, isa_bool ht]
  cases t <;> simpa [isI, isB, truT] using h
theorem m_is_within (ts : List T) (S : Store) (q : KT) (E : XW) (h : sp_is_within ts S q E) : rd_is_within (fun x _ S => E x S) { nx := fun _ S => q .non S, rt := q } (startT N_is_within ts) S := by
  obtain ⟨t, a, b, rfl, ht, h⟩ := h
  simp only [rd_is_within]
  walk_at "mr"
  refine ⟨t, rfl, ht, ?_⟩
  cases t with
  | int i =>
    simp only [isI, truT]
    walk_at "mr"
    simp only [leR]
    by_cases h1 : a ≤ i
    · by_cases h2 : i ≤ b
      · simpa [wi, h1, h2] using h
      · simpa [wi, h1, h2] using h
    · simpa [wi, h1] using h
  | _ => simpa [isI, truT, wi] using h
theorem m_is_point_in (ts : List T) (S : Store) (q : KT) (E : XW) (h : sp_is_point_in ts S q E) : rd_is_point_in (fun x _ S => E x S) { nx := fun _ S => q .non S, rt := q } (startT N_is_point_in ts) S := by
  obtain ⟨t, rfl, ht, h⟩ := h
  simp only [rd_is_point_in]
  walk_at "mr"
  have ht2 : tyd S t := by cases t <;> first | exact ht | exact tyd_tup
  simp only [isa_tup ht2]
  cases t with
  | tup xs =>
    simp only [isTu, truT, Bool.not_true, Bool.false_eq_true, if_false, lenR, seqOf, gtR]
    by_cases hl : 63 < xs.length
    · have e : isPt (.tup xs) = false := by simp [isPt]; omega
      have h2 : ((63 : Int) < (xs.length : Int)) := by omega
      simp only [h2, decide_true, if_true]
      rw [← e]
      exact h S (LeD.refl0 S)
    · have h2 : ¬ ((63 : Int) < (xs.length : Int)) := by omega
      simp only [h2, decide_false, Bool.false_eq_true, if_false]
      walk_at "mr"
      refine compI_gen (LeD.refl0 S) xs (by omega) (fun x o => o = some (.bl (isBit x))) (fun i S' hi hS => jSeq_tup) (fun i x S' k hx hS hk => ?_) fun D S' ys hD hS hys hf => ?_
      · walk_at "mr"
        have hm : x ∈ xs := List.mem_of_getElem? hx
        refine ⟨x, 0, 1, rfl, (ht x hm).le hS, ?_⟩
        refine hk _ _ (LeD.refl0 _) ?_
        cases x <;> rfl
      · have e := hf.map (f := fun x => T.bl (isBit x))
        subst e
        simp only [allR, lstOf, hys, Option.bind_some]
        have e1 : boolsOf (xs.map fun x => T.bl (isBit x)) = some (xs.map isBit) := by
          have := boolsOf_map (xs.map isBit)
          rw [List.map_map] at this
          exact this
        rw [e1]
        have e2 : (xs.map isBit).all id = isPt (.tup xs) := by
          simp only [isPt, List.all_map, Function.comp_def, id_eq]
          rw [decide_eq_true (by omega : xs.length ≤ 63), Bool.true_and]
        simp only [e2]
        exact h S' hS
  | _ => simpa [isTu, truT, isPt] using h S (LeD.refl0 S)
theorem m_require_point (ts : List T) (S : Store) (q : KT) (E : XW) (h : sp_require_point ts S q E) : rd_require_point (fun x _ S => E x S) { nx := fun _ S => q .non S, rt := q } (startT N_require_point ts) S := by
  obtain ⟨t, rfl, ht, hp, h⟩ := h
  simp only [rd_require_point]
  walk_at "mr"
  refine ⟨t, rfl, ht, fun S' hS => ?_⟩
  simp only [hp, truT, Bool.not_true, Bool.false_eq_true, if_false]
  exact h S' hS
theorem m_is_wide (ts : List T) (S : Store) (q : KT) (E : XW) (h : sp_is_wide ts S q E) : rd_is_wide (fun x _ S => E x S) { nx := fun _ S => q .non S, rt := q } (startT N_is_wide ts) S := by
  obtain ⟨t, n, rfl, ht, h⟩ := h
  simp only [rd_is_wide]
  walk_at "mr"
  refine ⟨t, rfl, ht, fun S' hS => ?_⟩
  cases hp : isPt t with
  | false =>
    simp only [truT]
    have := h S' hS
    simpa [hp] using this
  | true =>
    obtain ⟨p, rfl, hl⟩ := isPt_of hp
    simp only [truT, pt, lenR, seqOf, eqR, eqS]
    have := h S' hS
    simp only [hp, Bool.true_and] at this
    simpa [pt] using this
theorem m_require_like (ts : List T) (S : Store) (q : KT) (E : XW) (h : sp_require_like ts S q E) : rd_require_like (fun x _ S => E x S) { nx := fun _ S => q .non S, rt := q } (startT N_require_like ts) S := by
  obtain ⟨p, t, rfl, hp, hl, h⟩ := h
  obtain ⟨p2, rfl, hl2⟩ := isPt_of hp
  simp only [rd_require_like, pt]
  walk_at "mr"
  simp only [lenR, seqOf]
  refine ⟨pt p2, _, rfl, fun x hx => ?_, fun S' hS => ?_⟩
  · obtain ⟨b, _, rfl⟩ := List.mem_map.mp hx
    exact tyd_int
  · have e : (isPt (pt p2) && decide ((((p2.map bT).length : Nat) : Int) = (((p.map bT).length : Nat) : Int))) = true := by
      rw [hp]
      simp only [pt, List.length_map] at hl
      simp [hl]
    simp only [pt] at e ⊢
    simp only [e, truT, Bool.not_true, Bool.false_eq_true, if_false]
    exact h S' hS
theorem tydP_pt {S : Store} {p : Pt} : tydP S (pt p) := fun x hx => by
  obtain ⟨b, _, rfl⟩ := List.mem_map.mp hx
  exact tyd_int
theorem m_require_two_points (ts : List T) (S : Store) (q : KT) (E : XW) (h : sp_require_two_points ts S q E) : rd_require_two_points (fun x _ S => E x S) { nx := fun _ S => q .non S, rt := q } (startT N_require_two_points ts) S := by
  obtain ⟨p, r, rfl, hl, hl2, h⟩ := h
  simp only [rd_require_two_points]
  walk_at "mr"
  refine ⟨pt p, rfl, tydP_pt, isPt_pt hl, fun S1 h1 => ?_⟩
  walk_at "mr"
  refine ⟨p, pt r, rfl, isPt_pt (by omega), by simpa [pt] using hl2, fun S2 h2 => h S2 (h1.trans h2)⟩
def difS : T → Option T
  | .tup [.int i, .tup [.int a, .int b]] => if a ≠ b then some (.int i) else none
  | _ => none
theorem difS_eq : ∀ (k : Nat) (p r : Pt), (((zipT (p.map bT) (r.map bT)).zipIdx k).map fun x => T.tup [.int (x.2 : Nat), x.1]).filterMap difS = (difF k p r).map fun i => T.int (i : Nat)
  | k, [], r => by simp [zipT, difF]
  | k, _ :: _, [] => by simp [zipT, difF]
  | k, a :: p, b :: r => by
    have ih := difS_eq (k + 1) p r
    simp only [zipT, List.map_cons, List.zip_cons_cons, List.zipIdx_cons, List.filterMap_cons, difF] at ih ⊢
    simp only [bT] at ih ⊢
    simp only [difS, ne_eq, bI_inj]
    by_cases e : a = b
    · simp [e, ih]
    · simp [e, ih]
theorem m_differing_in (ts : List T) (S : Store) (q : KT) (E : XW) (h : sp_differing_in ts S q E) : rd_differing_in (fun x _ S => E x S) { nx := fun _ S => q .non S, rt := q } (startT N_differing_in ts) S := by
  obtain ⟨p, r, rfl, hl, h⟩ := h
  simp only [rd_differing_in, pt]
  walk_at "mr"
  refine compI_gen (LeD.refl0 S) (enT (zipT (p.map bT) (r.map bT))) (by simp [enT, zipT]; omega) (fun x o => o = difS x) (fun i S' hi hS => jEz_get hi) (fun i x S' k hx hS hk => ?_) fun D S' ys hD hS hys hf => ?_
  · rw [enT_get, zipT_get, List.getElem?_map, List.getElem?_map] at hx
    cases ha : p[i]? with
    | none => rw [ha] at hx; simp [two] at hx
    | some a =>
      cases hb : r[i]? with
      | none => rw [ha, hb] at hx; simp [two] at hx
      | some b =>
        rw [ha, hb] at hx
        simp only [Option.map_some, two, Option.some.injEq] at hx
        subst hx
        walk_at "mr"
        simp only [ixR, seqOf, bT, neR]
        have e1 : L2.atI [T.int (bI a), T.int (bI b)] 0 = some (T.int (bI a)) := rfl
        have e2 : L2.atI [T.int (bI a), T.int (bI b)] 1 = some (T.int (bI b)) := rfl
        simp only [e1, e2, eqS]
        by_cases e : a = b
        · have : (bI a = bI b) := by rw [e]
          simp only [this, decide_true, Bool.not_true, Bool.false_eq_true, if_false]
          exact hk _ _ (LeD.refl0 _) (by simp [difS, bT, this])
        · have : ¬ (bI a = bI b) := by rw [bI_inj]; exact e
          simp only [this, decide_false, Bool.not_false, if_true]
          exact hk _ _ (LeD.refl0 _) (by simp [difS, bT, this])
  · simp only [tupR, seqOf, hys]
    rw [hf.fn]
    have e := difS_eq 0 p r
    unfold enT
    rw [e]
    exact h S' hS
theorem m_apart (ts : List T) (S : Store) (q : KT) (E : XW) (h : sp_apart ts S q E) : rd_apart (fun x _ S => E x S) { nx := fun _ S => q .non S, rt := q } (startT N_apart ts) S := by
  obtain ⟨p, r, rfl, hl, h⟩ := h
  simp only [rd_apart]
  walk_at "mr"
  refine ⟨p, r, rfl, hl, fun S' hS => ?_⟩
  simp only [lenR, seqOf, List.length_map]
  exact h S' hS
theorem m_apart_of (ts : List T) (S : Store) (q : KT) (E : XW) (h : sp_apart_of ts S q E) : rd_apart_of (fun x _ S => E x S) { nx := fun _ S => q .non S, rt := q } (startT N_apart_of ts) S := by
  obtain ⟨p, r, rfl, hl, hl2, h⟩ := h
  simp only [rd_apart_of]
  walk_at "mr"
  refine ⟨p, r, rfl, hl, hl2, fun S1 h1 => ?_⟩
  walk_at "mr"
  exact ⟨p, r, rfl, hl, fun S2 h2 => h S2 (h1.trans h2)⟩
theorem m_require_three_points (ts : List T) (S : Store) (q : KT) (E : XW) (h : sp_require_three_points ts S q E) : rd_require_three_points (fun x _ S => E x S) { nx := fun _ S => q .non S, rt := q } (startT N_require_three_points ts) S := by
  obtain ⟨p, r, o, rfl, hl, hl2, hl3, h⟩ := h
  simp only [rd_require_three_points]
  walk_at "mr"
  refine ⟨p, r, rfl, hl, hl2, fun S1 h1 => ?_⟩
  walk_at "mr"
  exact ⟨p, pt o, rfl, isPt_pt (by omega), by simpa [pt] using hl3, fun S2 h2 => h S2 (h1.trans h2)⟩
def midS : T → Option T
  | .tup [.int a, .int b, .int c] => some (.int (if 2 ≤ a + b + c then 1 else 0))
  | _ => none
theorem midS_eq : ∀ (p r o : Pt), (zip3T (p.map bT) (r.map bT) (o.map bT)).filterMap midS = (mid p r o).map bT
  | [], _, _ => by simp [zip3T, mid]
  | _ :: _, [], _ => by simp [zip3T, mid]
  | _ :: _, _ :: _, [] => by simp [zip3T, mid]
  | a :: p, b :: r, c :: o => by
    have ih := midS_eq p r o
    simp only [zip3T, List.map_cons, List.zip_cons_cons, List.filterMap_cons, mid] at ih ⊢
    simp only [bT] at ih ⊢
    simp only [midS]
    rw [ih]
    cases a <;> cases b <;> cases c <;> rfl
theorem m_middle_in (ts : List T) (S : Store) (q : KT) (E : XW) (h : sp_middle_in ts S q E) : rd_middle_in (fun x _ S => E x S) { nx := fun _ S => q .non S, rt := q } (startT N_middle_in ts) S := by
  obtain ⟨p, r, o, rfl, hl, h⟩ := h
  simp only [rd_middle_in, pt]
  walk_at "mr"
  refine compI_gen (LeD.refl0 S) (zip3T (p.map bT) (r.map bT) (o.map bT)) (by simp [zip3T]; omega) (fun x o => o = midS x) (fun i S' hi hS => jZ3_get hi) (fun i x S' k hx hS hk => ?_) fun D S' ys hD hS hys hf => ?_
  · rw [zip3T_get, List.getElem?_map, List.getElem?_map, List.getElem?_map] at hx
    obtain ⟨x1, x2, x3, e1, e2, e3, rfl⟩ := three_some hx
    obtain ⟨a, _, rfl⟩ := Option.map_eq_some_iff.mp e1
    obtain ⟨b, _, rfl⟩ := Option.map_eq_some_iff.mp e2
    obtain ⟨c, _, rfl⟩ := Option.map_eq_some_iff.mp e3
    walk_at "mr"
    simp only [bT, addR, geR, if_true]
    by_cases e : (2 : Int) ≤ bI a + bI b + bI c
    · simp only [e, decide_true, if_true]
      exact hk _ _ (LeD.refl0 _) (by simp [midS, bT, e])
    · simp only [e, decide_false, Bool.false_eq_true, if_false]
      exact hk _ _ (LeD.refl0 _) (by simp [midS, bT, e])
  · simp only [tupR, seqOf, hys]
    rw [hf.fn, midS_eq]
    exact h S' hS
theorem m_middle (ts : List T) (S : Store) (q : KT) (E : XW) (h : sp_middle ts S q E) : rd_middle (fun x _ S => E x S) { nx := fun _ S => q .non S, rt := q } (startT N_middle ts) S := by
  obtain ⟨p, r, o, rfl, hl, hl2, hl3, h⟩ := h
  simp only [rd_middle]
  walk_at "mr"
  refine ⟨p, r, o, rfl, hl, hl2, hl3, fun S1 h1 => ?_⟩
  walk_at "mr"
  exact ⟨p, r, o, rfl, hl, fun S2 h2 => h S2 (h1.trans h2)⟩
theorem m_spread_points (ts : List T) (S : Store) (q : KT) (E : XW) (h : sp_spread_points ts S q E) : rd_spread_points (fun x _ S => E x S) { nx := fun _ S => q .non S, rt := q } (startT N_spread_points ts) S := by
  obtain ⟨P, R, rfl, hl, hd, hl2, h⟩ := h
  have hpow : (2 : Nat) ^ dist P R ≤ 2 ^ 20 := Nat.pow_le_pow_right (by decide) hd
  rw [rd_spread_points]
  refine asg_k (newL S [pt []]) (fun k hk => ?_) ?_
  · walk_at "mr"
    exact ⟨by decide, by decide, fun p hp => hk _ _ ⟨p, rfl, hp, LeD.new0 hp, upS_same⟩⟩
  rintro _ S1 ⟨p0, rfl, hp0, h01, e0⟩
  refine for_k (jZ2 (pt P) (pt R)) (fun S' => S' = S1) (fun k hk => ?_) (zipT (P.map bT) (R.map bT)) (fun i τ S1 => ∃ p x3 x4 x5 x6 x7 x8, τ = [some (pt P), some (pt R), some (.ref p), x3, x4, x5, x6, x7, x8] ∧ S p = none ∧ LeD noD S S1 ∧ S1 p = some (.lst ((spreadF [[]] (P.take i) (R.take i)).map pt)))
    (fun S' e => ⟨p0, none, none, none, none, none, none, rfl, hp0, e ▸ h01, by rw [e]; exact e0⟩) (fun i τ S1 hi _ => jZ2_get hi) ?_ ?_
  · walk_at "mr"
    exact hk _ rfl
  · rintro i x τ S1 hx ⟨p, x3, x4, x5, x6, x7, x8, rfl, hpn, hS, hp⟩
    rw [zipT_get, List.getElem?_map, List.getElem?_map] at hx
    obtain ⟨x1, x2, e1, e2, rfl⟩ := two_some hx
    obtain ⟨a, ha, rfl⟩ := Option.map_eq_some_iff.mp e1
    obtain ⟨b, hb, rfl⟩ := Option.map_eq_some_iff.mp e2
    simp only [gUnp, gsCons, gsNil, gSet, seqOf_tup, List.set_cons_succ, List.set_cons_zero]
    refine asg_k (is1 (.tup ((bitsOf a b).map bT)) S1) (fun k hk => ?_) ?_
    · replace hk := hk _ _ ⟨rfl, rfl⟩
      walk_at "mr"
      simp only [bT, eqR, eqS]
      by_cases e : bI a = bI b
      · have e' : a = b := by rw [bI_inj] at e; exact e
        simp only [e, decide_true, if_true]
        refine ⟨by simp, ?_⟩
        simpa [bitsOf, e', bT] using hk
      · have e' : ¬ a = b := by rw [bI_inj] at e; exact e
        simp only [e, decide_false, Bool.false_eq_true, if_false]
        refine ⟨by simp, ?_⟩
        simpa [bitsOf, e', bT, bI] using hk
    rintro _ S1 ⟨rfl, rfl⟩
    refine asg_k (newL S1 []) (fun k hk => ?_) ?_
    · walk_at "mr"
      exact ⟨by decide, fun p hp => hk _ _ ⟨p, rfl, hp, LeD.new0 hp, upS_same⟩⟩
    rintro _ S2 ⟨p2, rfl, hp2, h12, ep2⟩
    have hp2' : S p2 = none := hS.none0 hp2
    have np : p ≠ p2 := fun z => by rw [z, hp2] at hp; cases hp
    have hacc : (spreadF [[]] (P.take i) (R.take i)).length ≤ 2 ^ 20 := Nat.le_trans (spread_take_len P R i) hpow
    have hnext := spreadF_take (acc := [[]]) ha hb
    generalize hA : spreadF [[]] (P.take i) (R.take i) = acc at hp hacc hnext
    have hmem : ∀ z ∈ acc, z.length ≤ 63 := fun z hz => by rw [← hA] at hz; exact Nat.le_trans (spread_take_mem hz) hl
    have h0 : S2 p = some (.lst (acc.map pt)) := h12.at0 hp
    refine for_k (jSeq (.ref p)) (fun S' => S' = S2) (fun k hk => ?_) (acc.map pt) (fun j τ S2 => ∃ x7 x8, τ = [some (pt P), some (pt R), some (.ref p), some (bT a), some (bT b), some (.tup ((bitsOf a b).map bT)), some (.ref p2), x7, x8] ∧ LeD noD S S2 ∧ S2 p = some (.lst (acc.map pt)) ∧
        S2 p2 = some (.lst (((acc.take j).flatMap fun z => (bitsOf a b).map fun y => z ++ [y]).map pt)))
      (fun S' e => ⟨x7, x8, rfl, by rw [e]; exact hS.trans h12, by rw [e]; exact h0, by rw [e]; exact ep2⟩) (fun j τ S2 hj ⟨_, _, _, _, e, _⟩ => jSeq_ref e) ?_ ?_
    · walk_at "mr"
      simp only [seqOf, h0]
      exact hk _ rfl
    · rintro j x τ S3 hx ⟨x7, x8, rfl, hS2, ep, ep2⟩
      rw [List.getElem?_map] at hx
      obtain ⟨z, hz, rfl⟩ := Option.map_eq_some_iff.mp hx
      walk_at "mr"
      simp only [lstOf, ep2]
      refine compI_gen (LeD.refl0 S3) ((bitsOf a b).map bT) (by simp; have := bitsOf_len a b; omega) (fun x o => o = (match x with | .int y => some (.tup (z.map bT ++ [.int y])) | _ => none)) (fun i S' hi hS => jSeq_tup) (fun i x S' k hx hS' hk => ?_) fun D S' ys hD hS' hys hf => ?_
      · rw [List.getElem?_map] at hx
        obtain ⟨y, hy, rfl⟩ := Option.map_eq_some_iff.mp hx
        walk_at "mr"
        simp only [pt, seqOf_tup, bT, if_true]
        have := hmem z (List.mem_of_getElem? hz)
        exact ⟨by simp; omega, hk _ _ (LeD.refl0 _) rfl⟩
      · have ey : ys = ((bitsOf a b).map fun y => z ++ [y]).map pt := by
          rw [hf.fn, List.filterMap_map, List.map_map]
          rw [show ((fun x : T => match x with | .int y => some (T.tup (z.map bT ++ [.int y])) | _ => none) ∘ bT) = some ∘ (fun y => pt (z ++ [y])) from ?_, List.filterMap_eq_map]
          · rfl
          · funext y
            simp [bT, pt]
        simp only [extR, hS'.at0 ep2, hys]
        have hj : j < acc.length := (List.getElem?_eq_some_iff.mp hz).1
        have lb : ∀ zs : List Pt, (zs.flatMap fun z => (bitsOf a b).map fun y => z ++ [y]).length ≤ 2 * zs.length := fun zs => by
          induction zs with
          | nil => simp
          | cons z zs ih =>
            have := bitsOf_len a b
            simp only [List.flatMap_cons, List.length_append, List.length_map, List.length_cons]
            omega
        refine ⟨?_, some (pt z), x8, rfl, (hS2.trans hS').own hp2' not_noD, by rw [upS_ne np]; exact hS'.at0 ep, ?_⟩
        · have h1 := lb (acc.take j)
          have h2 := bitsOf_len a b
          rw [ey]
          simp only [List.length_map, List.length_take] at h1 ⊢
          omega
        · rw [upS_same, ey, List.take_add_one, hz]
          simp
    · rintro τ S3 ⟨x7, x8, rfl, hS3, ep, ep2⟩
      refine asg_l (is1 (.ref p2) S3) (fun k hk => ?_) ?_
      · walk_at "mr"
        exact hk _ _ ⟨rfl, rfl⟩
      rintro _ S3 ⟨rfl, rfl⟩
      refine ⟨p2, _, _, _, _, _, _, rfl, hp2', hS3, ?_⟩
      rw [ep2, List.length_map, List.take_length, hnext]
  · rintro τ S3 ⟨p, x3, x4, x5, x6, x7, x8, rfl, hpn, hS, hp⟩
    refine ret_k ?_
    walk_at "mr"
    refine h p S3 hpn hS ?_
    rw [hp]
    have hz : (zipT (P.map bT) (R.map bT)).length = P.length := by simp [zipT, hl2]
    rw [hz, List.take_length, ← hl2, List.take_length]
    rfl
theorem m_all_amid (ts : List T) (S : Store) (q : KT) (E : XW) (h : sp_all_amid ts S q E) : rd_all_amid (fun x _ S => E x S) { nx := fun _ S => q .non S, rt := q } (startT N_all_amid ts) S := by
  obtain ⟨p, r, rfl, hl, hl2, hd, h⟩ := h
  simp only [rd_all_amid]
  walk_at "mr"
  refine ⟨p, r, rfl, hl, hl2, fun S1 h1 => ?_⟩
  walk_at "mr"
  refine ⟨p, r, rfl, hl, fun S2 h2 => ?_⟩
  simp only [shlR, gtR]
  have e1 : (2 : Nat) ^ dist p r ≤ 2 ^ 8 := Nat.pow_le_pow_right (by decide) hd
  refine ⟨⟨by omega, by omega, by decide⟩, ?_⟩
  have e2 : ¬ (256 : Int) < 1 * 2 ^ (dist p r) := by
    have : ((2 ^ dist p r : Nat) : Int) ≤ 256 := by exact_mod_cast e1
    push_cast at this
    omega
  rw [if_neg (by simpa using e2)]
  walk_at "mr"
  refine ⟨p, r, rfl, hl, by omega, hl2, fun a S3 ha h3 e => ?_⟩
  simp only [tupR, seqOf, e]
  exact h S3 ((h1.trans h2).trans h3)
theorem m_count_amid (ts : List T) (S : Store) (q : KT) (E : XW) (h : sp_count_amid ts S q E) : rd_count_amid (fun x _ S => E x S) { nx := fun _ S => q .non S, rt := q } (startT N_count_amid ts) S := by
  obtain ⟨p, r, rfl, hl, hl2, h⟩ := h
  simp only [rd_count_amid]
  walk_at "mr"
  refine ⟨p, r, rfl, hl, hl2, fun S1 h1 => ?_⟩
  walk_at "mr"
  refine ⟨p, r, rfl, hl, fun S2 h2 => ?_⟩
  have hd : dist p r ≤ 63 := by rw [dist_eq]; exact Nat.le_trans (distR_le p r) hl
  simp only [shlR]
  refine ⟨⟨by omega, by omega, by decide⟩, ?_⟩
  have := h S2 (h1.trans h2)
  simpa using this
theorem any_nat (is : List Nat) (k : Nat) : ((is.map fun i => PyData.int (i : Nat)).any fun z => PyData.eqv z (.int (k : Nat))) = is.contains k := by
  induction is with
  | nil => rfl
  | cons i is ih =>
    rw [List.map_cons, List.any_cons, List.contains_cons, ih]
    have e1 : PyData.eqv (.int (i : Nat)) (.int (k : Nat)) = (k == i) := by
      show ((i : Int) == (k : Int)) = (k == i)
      by_cases e : i = k
      · simp [e]
      · have h1 : ¬ ((i : Int) = (k : Int)) := by omega
        have h2 : ¬ (k = i) := fun z => e z.symm
        rw [beq_eq_false_iff_ne.mpr h1, beq_eq_false_iff_ne.mpr h2]
    rw [e1]
def benS (is : List Nat) : T → Option T
  | .tup [.int i, .int b] => some (.int (if is.contains i.toNat then 1 - b else b))
  | _ => none
theorem benS_eq (is : List Nat) : ∀ (k : Nat) (p : Pt), (((p.map bT).zipIdx k).map fun x => T.tup [.int (x.2 : Nat), x.1]).filterMap (benS is) = (bentF is k p).map bT
  | k, [] => rfl
  | k, b :: p => by
    have ih := benS_eq is (k + 1) p
    simp only [List.map_cons, List.zipIdx_cons, List.filterMap_cons, bentF] at ih ⊢
    rw [ih]
    simp only [bT, benS, Int.toNat_natCast]
    by_cases e : is.contains k = true
    · simp only [e, if_true]; cases b <;> rfl
    · simp only [e]; cases b <;> rfl
theorem m__law_bent_point (ts : List T) (S : Store) (q : KT) (E : XW) (h : sp__law_bent_point ts S q E) : rd__law_bent_point (fun x _ S => E x S) { nx := fun _ S => q .non S, rt := q } (startT N__law_bent_point ts) S := by
  obtain ⟨a, p, rfl, hp0, hl, hD, h⟩ := h
  rw [rd__law_bent_point]
  refine asg_k (fun v S' => ∃ (D : Addr) (is : List Nat), v = .ref D ∧ ¬ one a D ∧ LeD (one a) S S' ∧ S' D = some (.lst (is.map fun i => T.int (i : Nat))) ∧ is.length ≤ 3) (fun k hk => ?_) ?_
  · walk_at "mr"
    refine ⟨a, 3, rfl, by decide, by decide, hD, fun r S1 h0 h1 h2 => ?_⟩
    simp only [addR]
    have hS1 : LeD (one a) S1 S1 := h2.refl
    refine ⟨⟨by omega, by omega⟩, compI_gen hS1 (rngT 0 (1 + r).toNat) (by rw [rngT_len]; omega) (fun x o => ∃ j : Nat, o = some (.int (j : Nat))) (fun i S' hi hS => jRng_get) (fun i x S' k hx hS hk => ?_) fun D S' ys hDn hS hys hf => ?_⟩
    · walk_at "mr"
      simp only [pt, lenR, seqOf_tup, List.length_map]
      refine ⟨a, _, rfl, by omega, by omega, hS.dice, fun r S2 h0 h1 h2 => ?_⟩
      exact hk _ _ h2 ⟨r.toNat, by rw [Int.toNat_of_nonneg h0]⟩
    · obtain ⟨is, rfl, hli⟩ := hf.pick (g := fun j : Nat => T.int (j : Nat)) fun _ _ h => h
      rw [rngT_len] at hli
      exact hk _ _ ⟨D, is, rfl, hS1.free hDn, h2.trans hS, hys, by omega⟩
  rintro _ S1 ⟨D, is, rfl, nD, hS, hDl, hli⟩
  refine ret_k ?_
  simp only [pt]
  walk_at "mr"
  refine compI_gen (LeD.refl0 S1) (enT (p.map bT)) (by simp [enT]; omega) (fun x o => o = benS is x) (fun i S' hi hS => jEn_get hi) (fun i x S' k hx hS' hk => ?_) fun D2 S' ys hDn hS' hys hf => ?_
  · rw [enT_get, List.getElem?_map] at hx
    obtain ⟨x1, e1, rfl⟩ := Option.map_eq_some_iff.mp hx
    obtain ⟨b, _, rfl⟩ := Option.map_eq_some_iff.mp e1
    walk_at "mr"
    have eD : itemsD S' (.ref D) = some (is.map fun i => PyData.int (i : Nat)) := by
      simp only [itemsD, hS'.at0 hDl]
      exact mapO_map is fun _ _ => rfl
    simp only [inR, eD, dOf_int, Bool.false_eq_true, if_false, any_nat, bT, subR, if_true]
    by_cases e : is.contains i = true
    · simp only [e, if_true]
      exact hk _ _ (LeD.refl0 _) (by simp only [benS, bT, Int.toNat_natCast, e, if_true])
    · simp only [e]
      exact hk _ _ (LeD.refl0 _) (by simp only [benS, bT, Int.toNat_natCast, e]; rfl)
  · have e := benS_eq is 0 p
    rw [hf.fn] at hys
    unfold enT at hys
    rw [e] at hys
    simp only [tupR, seqOf, hys]
    have hS2 : LeD (one a) S S' := hS.trans (hS.of0 hS')
    exact h (bentF is 0 p) S' (bentF_len is 0 p) (by rw [dist_eq]; have := bent_dist p is; omega) hS2
theorem m__law_bi_box (ts : List T) (S : Store) (q : KT) (E : XW) (h : sp__law_bi_box ts S q E) : rd__law_bi_box (fun x _ S => E x S) { nx := fun _ S => q .non S, rt := q } (startT N__law_bi_box ts) S := by
  obtain ⟨P, R, rfl, hl, hd, hl2, h⟩ := h
  have hpow : (2 : Nat) ^ dist P R ≤ 2 ^ 20 := Nat.pow_le_pow_right (by decide) hd
  rw [rd__law_bi_box]
  refine asg_k (newL S [pt []]) (fun k hk => ?_) ?_
  · walk_at "mr"
    exact ⟨by decide, by decide, fun p hp => hk _ _ ⟨p, rfl, hp, LeD.new0 hp, upS_same⟩⟩
  rintro _ S1 ⟨p0, rfl, hp0, h01, e0⟩
  refine for_k (jZ2 (pt P) (pt R)) (fun S' => S' = S1) (fun k hk => ?_) (zipT (P.map bT) (R.map bT)) (fun i τ S1 => ∃ p x3 x4 x6 x7 x8, τ = [some (pt P), some (pt R), some (.ref p), x3, x4, x6, x7, x8] ∧ S p = none ∧ LeD noD S S1 ∧ S1 p = some (.lst ((spreadF [[]] (P.take i) (R.take i)).map pt)))
    (fun S' e => ⟨p0, none, none, none, none, none, rfl, hp0, e ▸ h01, by rw [e]; exact e0⟩) (fun i τ S1 hi _ => jZ2_get hi) ?_ ?_
  · walk_at "mr"
    exact hk _ rfl
  · rintro i x τ S1 hx ⟨p, x3, x4, x6, x7, x8, rfl, hpn, hS, hp⟩
    rw [zipT_get, List.getElem?_map, List.getElem?_map] at hx
    obtain ⟨x1, x2, e1, e2, rfl⟩ := two_some hx
    obtain ⟨a, ha, rfl⟩ := Option.map_eq_some_iff.mp e1
    obtain ⟨b, hb, rfl⟩ := Option.map_eq_some_iff.mp e2
    simp only [gUnp, gsCons, gsNil, gSet, seqOf_tup, List.set_cons_succ, List.set_cons_zero]
    refine asg_k (newL S1 []) (fun k hk => ?_) ?_
    · walk_at "mr"
      exact ⟨by decide, fun p hp => hk _ _ ⟨p, rfl, hp, LeD.new0 hp, upS_same⟩⟩
    rintro _ S2 ⟨p2, rfl, hp2, h12, ep2⟩
    have hp2' : S p2 = none := hS.none0 hp2
    have np : p ≠ p2 := fun z => by rw [z, hp2] at hp; cases hp
    have hacc : (spreadF [[]] (P.take i) (R.take i)).length ≤ 2 ^ 20 := Nat.le_trans (spread_take_len P R i) hpow
    have hnext := spreadF_take (acc := [[]]) ha hb
    generalize hA : spreadF [[]] (P.take i) (R.take i) = acc at hp hacc hnext
    have hmem : ∀ z ∈ acc, z.length ≤ 63 := fun z hz => by rw [← hA] at hz; exact Nat.le_trans (spread_take_mem hz) hl
    have h0 : S2 p = some (.lst (acc.map pt)) := h12.at0 hp
    refine for_k (jSeq (.ref p)) (fun S' => S' = S2) (fun k hk => ?_) (acc.map pt) (fun j τ S2 => ∃ x7 x8, τ = [some (pt P), some (pt R), some (.ref p), some (bT a), some (bT b), some (.ref p2), x7, x8] ∧ LeD noD S S2 ∧ S2 p = some (.lst (acc.map pt)) ∧
        S2 p2 = some (.lst (((acc.take j).flatMap fun z => (bitsOf a b).map fun y => z ++ [y]).map pt)))
      (fun S' e => ⟨x7, x8, rfl, by rw [e]; exact hS.trans h12, by rw [e]; exact h0, by rw [e]; exact ep2⟩) (fun j τ S2 hj ⟨_, _, _, _, e, _⟩ => jSeq_ref e) ?_ ?_
    · walk_at "mr"
      simp only [seqOf, h0]
      exact hk _ rfl
    · rintro j x τ S3 hx ⟨x7, x8, rfl, hS2, ep, ep2⟩
      rw [List.getElem?_map] at hx
      obtain ⟨z, hz, rfl⟩ := Option.map_eq_some_iff.mp hx
      have core : ∀ k : T → Store → Prop, (∀ D S', LeD noD S3 S' → S' D = some (.lst (((bitsOf a b).map fun y => z ++ [y]).map pt)) → k (.ref D) S') →
          (eComp (iSeq (eIf (mVal (eOp (cmpR .Eq) (eVar 3) (eVar 4))) (eTup (aCons (eVar 3) aNil)) (eTup (aCons (eC (.int 0)) (aCons (eC (.int 1)) aNil))))) (gSet 7) mYes (eOp (binR .Add) (eVar 6) (eTup (aCons (eVar 7) aNil))) [7]) [some (pt P), some (pt R), some (.ref p), some (bT a), some (bT b), some (.ref p2), some (pt z), x8] S3 k := by
        intro k hk
        have it : ∀ k2 : ItT → Store → Prop, k2 (jSeq (.tup ((bitsOf a b).map bT))) S3 → (iSeq (eIf (mVal (eOp (cmpR .Eq) (eVar 3) (eVar 4))) (eTup (aCons (eVar 3) aNil)) (eTup (aCons (eC (.int 0)) (aCons (eC (.int 1)) aNil))))) [some (pt P), some (pt R), some (.ref p), some (bT a), some (bT b), some (.ref p2), some (pt z), x8] S3 k2 := by
          intro k2 hk2
          walk_at "mr"
          simp only [bT, eqR, eqS]
          by_cases e : bI a = bI b
          · have e' : a = b := by rw [bI_inj] at e; exact e
            simp only [e, decide_true, if_true, seqOf_tup]
            refine ⟨by simp, ?_⟩
            simpa [bitsOf, e', bT] using hk2
          · have e' : ¬ a = b := by rw [bI_inj] at e; exact e
            simp only [e, decide_false, Bool.false_eq_true, if_false, seqOf_tup]
            refine ⟨by simp, ?_⟩
            simpa [bitsOf, e', bT, bI] using hk2
        refine it _ (compI_gen (LeD.refl0 S3) ((bitsOf a b).map bT) (by simp; have := bitsOf_len a b; omega) (fun x o => o = (match x with | .int y => some (.tup (z.map bT ++ [.int y])) | _ => none)) (fun i S' hi hS => jSeq_tup) (fun i x S' k hx hS' hk => ?_) fun D S' ys hD hS' hys hf => ?_)
        · rw [List.getElem?_map] at hx
          obtain ⟨y, hy, rfl⟩ := Option.map_eq_some_iff.mp hx
          walk_at "mr"
          simp only [pt, addR, bT, if_true]
          have := hmem z (List.mem_of_getElem? hz)
          exact ⟨by simp, by simp; omega, hk _ _ (LeD.refl0 _) rfl⟩
        · have ey : ys = ((bitsOf a b).map fun y => z ++ [y]).map pt := by
            rw [hf.fn, List.filterMap_map, List.map_map]
            rw [show ((fun x : T => match x with | .int y => some (T.tup (z.map bT ++ [.int y])) | _ => none) ∘ bT) = some ∘ (fun y => pt (z ++ [y])) from ?_, List.filterMap_eq_map]
            · rfl
            · funext y
              simp [bT, pt]
          rw [ey] at hys
          exact hk D S' hS' hys
      have e5 : (eVar 5) [some (pt P), some (pt R), some (.ref p), some (bT a), some (bT b), some (.ref p2), some (pt z), x8] S3 = fun k => k (.ref p2) S3 := rfl
      simp only [gSet, List.set_cons_succ, List.set_cons_zero, sDrop, eMth, aCons, aNil, e5, lstOf, ep2]
      refine core _ fun D S' hS' hys => ?_
      simp only [extR, hS'.at0 ep2, hys]
      have hj : j < acc.length := (List.getElem?_eq_some_iff.mp hz).1
      have lb : ∀ zs : List Pt, (zs.flatMap fun z => (bitsOf a b).map fun y => z ++ [y]).length ≤ 2 * zs.length := fun zs => by
        induction zs with
        | nil => simp
        | cons z zs ih =>
          have := bitsOf_len a b
          simp only [List.flatMap_cons, List.length_append, List.length_map, List.length_cons]
          omega
      refine ⟨?_, some (pt z), x8, rfl, (hS2.trans hS').own hp2' not_noD, by rw [upS_ne np]; exact hS'.at0 ep, ?_⟩
      · have h1 := lb (acc.take j)
        have h2 := bitsOf_len a b
        simp only [List.length_map, List.length_take] at h1 ⊢
        omega
      · rw [upS_same, List.take_add_one, hz]
        simp
    · rintro τ S3 ⟨x7, x8, rfl, hS3, ep, ep2⟩
      refine asg_l (is1 (.ref p2) S3) (fun k hk => ?_) ?_
      · walk_at "mr"
        exact hk _ _ ⟨rfl, rfl⟩
      rintro _ S3 ⟨rfl, rfl⟩
      refine ⟨p2, _, _, _, _, _, rfl, hp2', hS3, ?_⟩
      rw [ep2, List.length_map, List.take_length, hnext]
  · rintro τ S3 ⟨p, x3, x4, x6, x7, x8, rfl, hpn, hS, hp⟩
    refine ret_k ?_
    walk_at "mr"
    refine h p S3 hpn hS ?_
    rw [hp]
    have hz : (zipT (P.map bT) (R.map bT)).length = P.length := by simp [zipT, hl2]
    rw [hz, List.take_length, ← hl2, List.take_length]
    rfl
theorem m__law_middle (ts : List T) (S : Store) (q : KT) (E : XW) (h : sp__law_middle ts S q E) : rd__law_middle (fun x _ S => E x S) { nx := fun _ S => q .non S, rt := q } (startT N__law_middle ts) S := by
  obtain ⟨p, r, o, rfl, hl, h⟩ := h
  simp only [rd__law_middle, pt]
  walk_at "mr"
  refine compI_gen (LeD.refl0 S) (zip3T (p.map bT) (r.map bT) (o.map bT)) (by simp [zip3T]; omega) (fun x o => o = midS x) (fun i S' hi hS => jZ3_get hi) (fun i x S' k hx hS hk => ?_) fun D S' ys hD hS hys hf => ?_
  · rw [zip3T_get, List.getElem?_map, List.getElem?_map, List.getElem?_map] at hx
    obtain ⟨x1, x2, x3, e1, e2, e3, rfl⟩ := three_some hx
    obtain ⟨a, _, rfl⟩ := Option.map_eq_some_iff.mp e1
    obtain ⟨b, _, rfl⟩ := Option.map_eq_some_iff.mp e2
    obtain ⟨c, _, rfl⟩ := Option.map_eq_some_iff.mp e3
    walk_at "mr"
    simp only [bT, addR, gtR, intR, if_true]
    exact hk _ _ (LeD.refl0 _) (by cases a <;> cases b <;> cases c <;> rfl)
  · simp only [tupR, seqOf, hys]
    rw [hf.fn, midS_eq]
    exact h S' hS
theorem m__law_power (ts : List T) (S : Store) (q : KT) (E : XW) (h : sp__law_power ts S q E) : rd__law_power (fun x _ S => E x S) { nx := fun _ S => q .non S, rt := q } (startT N__law_power ts) S := by
  obtain ⟨n, rfl, hn, h⟩ := h
  rw [rd__law_power]
  refine asg_k (is1 (.int 1) S) (fun k hk => ?_) ?_
  · walk_at "mr"; exact hk _ _ ⟨rfl, rfl⟩
  rintro _ S ⟨rfl, rfl⟩
  refine for_k (jRng 0 n) (fun S' => S' = S) (fun k hk => ?_) (rngT 0 n) (fun i τ S1 => ∃ x2, τ = [some (.int (n : Nat)), some (.int ((2 ^ i : Nat))), x2] ∧ S1 = S) (fun S' e => ⟨none, rfl, e⟩) (fun i τ S1 hi _ => jRng_get) ?_ ?_
  · walk_at "mr"
    exact ⟨⟨by omega, by omega⟩, hk _ rfl⟩
  · rintro i x τ S hx ⟨x2, rfl, rfl⟩
    simp only [gSet, List.set_cons_succ, List.set_cons_zero]
    refine asg_l (is1 (.int ((2 ^ (i + 1) : Nat))) S) (fun k hk => ?_) ?_
    · walk_at "mr"
      simp only [mulR]
      refine ⟨.inl (.inl (by decide)), ?_⟩
      have := hk _ _ ⟨rfl, rfl⟩
      rw [Nat.pow_succ, Nat.mul_comm] at this
      push_cast at this ⊢
      exact this
    · rintro _ S' ⟨rfl, rfl⟩
      exact ⟨some x, rfl, rfl⟩
  · rintro τ S' ⟨x2, rfl, rfl⟩
    refine ret_k ?_
    walk_at "mr"
    rw [rngT_len]
    exact h
def btwS : T → Option T
  | .tup [.int a, .int b, .int c] => some (.bl ((decide (a ≠ b)) || decide (c = a)))
  | _ => none
theorem btwS_eq : ∀ (p r o : Pt), ∃ bs : List Bool, (zip3T (p.map bT) (r.map bT) (o.map bT)).filterMap btwS = bs.map T.bl ∧ bs.all id = btw p r o
  | [], _, _ => ⟨[], by simp [zip3T], by simp [btw]⟩
  | _ :: _, [], _ => ⟨[], by simp [zip3T], by simp [btw]⟩
  | _ :: _, _ :: _, [] => ⟨[], by simp [zip3T], by simp [btw]⟩
  | a :: p, b :: r, c :: o => by
    obtain ⟨bs, h1, h2⟩ := btwS_eq p r o
    refine ⟨((a != b) || (c == a)) :: bs, ?_, by simp [btw, h2]⟩
    simp only [zip3T, List.map_cons, List.zip_cons_cons, List.filterMap_cons] at h1 ⊢
    rw [h1]
    simp only [btwS, bT, bI_inj]
    congr 2
    cases a <;> cases b <;> cases c <;> rfl
theorem m_between_points (ts : List T) (S : Store) (q : KT) (E : XW) (h : sp_between_points ts S q E) : rd_between_points (fun x _ S => E x S) { nx := fun _ S => q .non S, rt := q } (startT N_between_points ts) S := by
  obtain ⟨p, r, o, rfl, hl, h⟩ := h
  simp only [rd_between_points, pt]
  walk_at "mr"
  refine compI_gen (LeD.refl0 S) (zip3T (p.map bT) (r.map bT) (o.map bT)) (by simp [zip3T]; omega) (fun x o => o = btwS x) (fun i S' hi hS => jZ3_get hi) (fun i x S' k hx hS hk => ?_) fun D S' ys hD hS hys hf => ?_
  · rw [zip3T_get, List.getElem?_map, List.getElem?_map, List.getElem?_map] at hx
    obtain ⟨x1, x2, x3, e1, e2, e3, rfl⟩ := three_some hx
    obtain ⟨a, _, rfl⟩ := Option.map_eq_some_iff.mp e1
    obtain ⟨b, _, rfl⟩ := Option.map_eq_some_iff.mp e2
    obtain ⟨c, _, rfl⟩ := Option.map_eq_some_iff.mp e3
    walk_at "mr"
    simp only [bT, neR, eqR, eqS, truT, if_true]
    by_cases e : bI a = bI b
    · simp only [e, decide_true, Bool.not_true]
      exact hk _ _ (LeD.refl0 _) (by simp [btwS, bT, e])
    · simp only [e, decide_false, Bool.not_false]
      exact hk _ _ (LeD.refl0 _) (by simp [btwS, bT, e])
  · obtain ⟨bs, h1, h2⟩ := btwS_eq p r o
    rw [hf.fn, h1] at hys
    simp only [allR, lstOf, hys, Option.bind_some, boolsOf_map, h2]
    exact h S' hS
theorem m_is_amid (ts : List T) (S : Store) (q : KT) (E : XW) (h : sp_is_amid ts S q E) : rd_is_amid (fun x _ S => E x S) { nx := fun _ S => q .non S, rt := q } (startT N_is_amid ts) S := by
  obtain ⟨p, r, o, rfl, hl, hl2, hl3, h⟩ := h
  simp only [rd_is_amid]
  walk_at "mr"
  refine ⟨p, r, o, rfl, hl, hl2, hl3, fun S1 h1 => ?_⟩
  walk_at "mr"
  exact ⟨p, r, o, rfl, hl, fun S2 h2 => h S2 (h1.trans h2)⟩
def onS : T → Option T
  | .tup [.int a, .int b] => if a ≠ b then some (.int 1) else none
  | _ => none
theorem onS_len : ∀ (p r : Pt), ((zipT (p.map bT) (r.map bT)).filterMap onS).length = distR p r
  | [], r => by simp [zipT, distR]
  | _ :: _, [] => by simp [zipT, distR]
  | a :: p, b :: r => by
    have ih := onS_len p r
    simp only [zipT, List.map_cons, List.zip_cons_cons, List.filterMap_cons, distR] at ih ⊢
    rw [← ih]
    simp only [bT, onS, ne_eq, bI_inj]
    by_cases e : a = b
    · simp [e]
    · simp [e]; omega
theorem m__law_apart (ts : List T) (S : Store) (q : KT) (E : XW) (h : sp__law_apart ts S q E) : rd__law_apart (fun x _ S => E x S) { nx := fun _ S => q .non S, rt := q } (startT N__law_apart ts) S := by
  obtain ⟨p, r, rfl, hl, h⟩ := h
  simp only [rd__law_apart, pt]
  walk_at "mr"
  refine compI_gen (LeD.refl0 S) (zipT (p.map bT) (r.map bT)) (by simp [zipT]; omega) (fun x o => o = onS x) (fun i S' hi hS => jZ2_get hi) (fun i x S' k hx hS hk => ?_) fun D S' ys hD hS hys hf => ?_
  · rw [zipT_get, List.getElem?_map, List.getElem?_map] at hx
    obtain ⟨x1, x2, e1, e2, rfl⟩ := two_some hx
    obtain ⟨a, _, rfl⟩ := Option.map_eq_some_iff.mp e1
    obtain ⟨b, _, rfl⟩ := Option.map_eq_some_iff.mp e2
    walk_at "mr"
    simp only [bT, neR, eqS]
    by_cases e : bI a = bI b
    · simp only [e, decide_true, Bool.not_true, Bool.false_eq_true, if_false]
      exact hk _ _ (LeD.refl0 _) (by simp [onS, bT, e])
    · simp only [e, decide_false, Bool.not_false, if_true]
      exact hk _ _ (LeD.refl0 _) (by simp [onS, bT, e])
  · simp only [lenR, seqOf, hys]
    have e : ys.length = dist p r := by rw [hf.fn, onS_len, dist_eq]
    rw [e]
    exact h S' hS
theorem m_differing (ts : List T) (S : Store) (q : KT) (E : XW) (h : sp_differing ts S q E) : rd_differing (fun x _ S => E x S) { nx := fun _ S => q .non S, rt := q } (startT N_differing ts) S := by
  obtain ⟨p, r, rfl, hl, hl2, h⟩ := h
  simp only [rd_differing]
  walk_at "mr"
  refine ⟨p, r, rfl, hl, hl2, fun S1 h1 => ?_⟩
  walk_at "mr"
  exact ⟨p, r, rfl, hl, fun S2 h2 => h S2 (h1.trans h2)⟩
def dirS (p r : Pt) : T → Option T
  | .int i => if p[i.toNat]? ≠ r[i.toNat]? then some (.int i) else none
  | _ => none
theorem dirS_eq : ∀ (p0 r0 : Pt) (k : Nat) (p r : Pt), p0.drop k = p → r0.drop k = r → p.length = r.length → (((List.range' k p.length).map fun i => T.int ((i : Nat) : Int)).filterMap (dirS p0 r0)) = (difF k p r).map fun i => T.int (i : Nat)
  | p0, r0, k, [], [], _, _, _ => by simp [difF]
  | p0, r0, k, a :: p, b :: r, h1, h2, h3 => by
    have e1 : p0[k]? = some a := by rw [← List.head?_drop, h1]; rfl
    have e2 : r0[k]? = some b := by rw [← List.head?_drop, h2]; rfl
    have ih := dirS_eq p0 r0 (k + 1) p r (by rw [← List.tail_drop, h1]; rfl) (by rw [← List.tail_drop, h2]; rfl) (by simpa using h3)
    rw [List.length_cons, List.range'_succ, List.map_cons, List.filterMap_cons, ih]
    simp only [dirS, Int.toNat_natCast, e1, e2, difF]
    by_cases e : a = b
    · simp [e]
    · simp [e]
  | _, _, _, [], _ :: _, _, _, h => by simp at h
  | _, _, _, _ :: _, [], _, _, h => by simp at h
theorem m__law_differing (ts : List T) (S : Store) (q : KT) (E : XW) (h : sp__law_differing ts S q E) : rd__law_differing (fun x _ S => E x S) { nx := fun _ S => q .non S, rt := q } (startT N__law_differing ts) S := by
  obtain ⟨p, r, rfl, hl, hl2, h⟩ := h
  simp only [rd__law_differing, pt]
  walk_at "mr"
  simp only [lenR, seqOf_tup, List.length_map]
  refine ⟨⟨by omega, by omega⟩, compI_gen (LeD.refl0 S) (rngT 0 p.length) (by rw [rngT_len]; omega) (fun x o => o = dirS p r x) (fun i S' hi hS => by rw [Int.toNat_natCast]; exact jRng_get) (fun i x S' k hx hS hk => ?_) fun D S' ys hD hS hys hf => ?_⟩
  · obtain ⟨hi, rfl⟩ := rngT_at hx
    walk_at "mr"
    have e0 : ((0 : Int) + (i : Nat)) = (i : Nat) := by omega
    have ea : L2.atI (p.map bT) (i : Int) = some (bT p[i]) := by
      rw [atI_nat (by simpa using hi), List.getElem?_map, List.getElem?_eq_getElem hi]; rfl
    have hi2 : i < r.length := by omega
    have eb : L2.atI (r.map bT) (i : Int) = some (bT r[i]) := by
      rw [atI_nat (by simpa using hi2), List.getElem?_map, List.getElem?_eq_getElem hi2]; rfl
    simp only [ixR, seqOf_tup, e0, ea, eb, bT, neR, eqS]
    by_cases e : bI p[i] = bI r[i]
    · simp only [e, decide_true, Bool.not_true, Bool.false_eq_true, if_false]
      refine hk _ _ (LeD.refl0 _) ?_
      rw [bI_inj] at e
      simp [dirS, List.getElem?_eq_getElem hi, List.getElem?_eq_getElem hi2, e]
    · simp only [e, decide_false, Bool.not_false, if_true]
      refine hk _ _ (LeD.refl0 _) ?_
      rw [bI_inj] at e
      simp [dirS, List.getElem?_eq_getElem hi, List.getElem?_eq_getElem hi2, e]
  · simp only [tupR, seqOf, hys]
    have e : rngT 0 p.length = (List.range' 0 p.length).map fun i => T.int ((i : Nat) : Int) := by
      unfold rngT
      rw [List.range_eq_range']
      simp
    have := h S' hS
    unfold nums dif at this
    rw [hf.fn, e, dirS_eq p r 0 p r rfl rfl hl2.symm]
    exact this
theorem dist_lt {a b : Pt} (h : a.length ≤ 63) : dist a b ≤ 63 := by rw [dist_eq]; exact Nat.le_trans (distR_le a b) h
theorem dif_small {a b : Pt} (h : a.length ≤ 63) : smallD (numsD (dif a b)) = true ∧ (numsD (dif a b)).weight ≤ 41 * 63 :=
  numsD_small (fun n hn => by have := difF_lt 0 a b n hn; omega) (dist_lt h)
theorem pair_small {a b : Pt} (h : a.length ≤ 63) : smallD (.list [.int (dist a b : Nat), numsD (dif a b)]) = true ∧ (PyData.list [.int (dist a b : Nat), numsD (dif a b)]).weight ≤ 1000000 := by
  obtain ⟨h1, h2⟩ := dif_small (b := b) h
  have h3 := dist_lt (b := b) h
  refine ⟨?_, ?_⟩
  · simp only [smallD, smallAll, h1, Bool.and_true, decide_eq_true_eq]
    omega
  · simp only [PyData.weight, PyData.weightAll] at h2 ⊢
    have := int_weight (i := (dist a b : Nat)) (by omega)
    simp only [PyData.weight] at this
    omega
theorem m__law_three_right (ts : List T) (S : Store) (q : KT) (E : XW) (h : sp__law_three_right ts S q E) : rd__law_three_right (fun x _ S => E x S) { nx := fun _ S => q .non S, rt := q } (startT N__law_three_right ts) S := by
  obtain ⟨a, b, c, rfl, hl, hb, hc, h⟩ := h
  rw [rd__law_three_right]
  have dd : ∀ (S : Store) (p : Addr), S p = some (.lst [.int (dist a b : Nat), nums (dif a b)]) → dOf S 64 (.ref p) = some (.list [.int (dist a b : Nat), numsD (dif a b)]) := fun S p e => by
    rw [dOf_lst e]
    simp only [mapO, dOf_int, dOf_nums]
    rfl
  obtain ⟨sm, sw⟩ := pair_small (b := b) hl
  refine if_k false (fun S' => LeD noD S S') (fun k hk => ?_) fun S1 h1 => ?_
  · walk_at "mr"
    refine ⟨a, b, rfl, hl, hb, fun S1 h1 => ?_⟩
    walk_at "mr"
    refine ⟨a, b, rfl, hl, hb, fun S2 h2 => ?_⟩
    walk_at "mr"
    refine ⟨by decide, fun p hp => ?_⟩
    refine reprR_small (dd _ p upS_same) sm sw ?_
    walk_at "mr"
    refine ⟨a, b, rfl, hl, fun S3 h3 => ?_⟩
    walk_at "mr"
    refine ⟨a, b, rfl, hl, hb, fun S4 h4 => ?_⟩
    walk_at "mr"
    refine ⟨by decide, fun p2 hp2 => ?_⟩
    refine reprR_small (dd _ p2 upS_same) sm sw ?_
    refine strNe ?_
    exact hk _ ((((h1.trans h2).new hp).trans (h3.trans h4)).new hp2)
  simp only [sNext]
  refine if_k false (fun S' => LeD noD S S') (fun k hk => ?_) fun S2 h2 => ?_
  · walk_at "mr"
    refine ⟨a, b, c, rfl, hl, hb, hc, fun S2 h2 => ?_⟩
    walk_at "mr"
    refine ⟨a, b, c, rfl, hl, fun S3 h3 => ?_⟩
    exact neR_same dOf_pt dOf_pt (hk _ (h1.trans (h2.trans h3)))
  simp only [sNext]
  have eb : btw a b c = decide ((dist a c : Int) + (dist c b : Int) = (dist a b : Int)) := by
    rw [btw_dist hb.symm (by omega), dist_eq, dist_eq, dist_eq]
    congr 1
    apply propext
    omega
  refine if_k false (fun S' => LeD noD S S') (fun k hk => ?_) fun S3 h3 => ?_
  · walk_at "mr"
    refine ⟨a, b, c, rfl, hl, hb, hc, fun S3 h3 => ?_⟩
    refine reprR_small (d := .bool (btw a b c)) rfl rfl (by simp [PyData.weight]) ?_
    walk_at "mr"
    refine ⟨a, c, rfl, hl, fun S4 h4 => ?_⟩
    walk_at "mr"
    refine ⟨c, b, rfl, by omega, fun S5 h5 => ?_⟩
    walk_at "mr"
    simp only [addR]
    walk_at "mr"
    refine ⟨a, b, rfl, hl, fun S6 h6 => ?_⟩
    simp only [eqR, eqS]
    rw [← eb]
    refine reprR_small (d := .bool (btw a b c)) rfl rfl (by simp [PyData.weight]) ?_
    refine strNe ?_
    exact hk _ (h2.trans (h3.trans (h4.trans (h5.trans h6))))
  simp only [sNext]
  refine if_k false (fun S' => LeD noD S S') (fun k hk => ?_) fun S4 h4 => ?_
  · walk_at "mr"
    refine ⟨a, b, rfl, hl, hb, fun S4 h4 => ?_⟩
    walk_at "mr"
    refine ⟨a, b, rfl, hl, fun S5 h5 => ?_⟩
    walk_at "mr"
    refine ⟨dist a b, rfl, by have := dist_lt (b := b) hl; omega, ?_⟩
    simp only [neR, eqS, decide_true, Bool.not_true]
    exact hk _ (h3.trans (h4.trans h5))
  simp only [sNext]
  refine asg_k (gr1 (pt (mid a b c)) S4) (fun k hk => ?_) ?_
  · walk_at "mr"
    exact ⟨a, b, c, rfl, hl, hb, hc, fun S5 h5 => hk _ _ ⟨rfl, h5⟩⟩
  rintro _ S5 ⟨rfl, h5⟩
  refine ret_k ?_
  have lm : (mid a b c).length = a.length := mid_len hb.symm (by omega)
  obtain ⟨m1, m2, m3⟩ := mid_btw a b c hb.symm (by omega)
  walk_at "mr"
  refine ⟨a, b, _, rfl, hl, hb, lm, fun S6 h6 => ?_⟩
  simp only [m1, truT]
  walk_at "mr"
  refine ⟨b, c, _, rfl, by omega, by omega, by omega, fun S7 h7 => ?_⟩
  simp only [m2, truT]
  walk_at "mr"
  refine ⟨c, a, _, rfl, by omega, by omega, by omega, fun S8 h8 => ?_⟩
  rw [m3]
  exact h _ (h4.trans (h5.trans (h6.trans (h7.trans h8))))
/-- a comprehension that keeps the points that lie between, told by distances -/
theorem keep_btw {S : Store} {q : KT} {j : ItT} {step : T → Store → (Option T → Store → Prop) → Prop} (ps : List Pt) (f : Pt → Bool) (hl : ps.length ≤ 16000000) (hj : ∀ i S', i ≤ (ps.map pt).length → LeD noD S S' → j i S' = some (ps.map pt)[i]?)
    (hs : ∀ (o : Pt) (S' : Store) (k : Option T → Store → Prop), o ∈ ps → LeD noD S S' → (∀ S2, LeD noD S' S2 → k (if f o = true then some (pt o) else none) S2) → step (pt o) S' k)
    (hq : ∀ D S', S D = none → LeD noD S S' → S' D = some (.lst ((ps.filter f).map pt)) → q (.ref D) S') : compI j step S q := by
  refine compI_gen (LeD.refl0 S) (ps.map pt) (by simpa using hl) (fun x o => ∃ p ∈ ps, x = pt p ∧ o = if f p = true then some (pt p) else none) hj (fun i x S' k hx hS hk => ?_) fun D S' ys hD hS hys hf => ?_
  · rw [List.getElem?_map] at hx
    obtain ⟨o, ho, rfl⟩ := Option.map_eq_some_iff.mp hx
    exact hs o S' k (List.mem_of_getElem? ho) hS fun S2 h2 => hk _ _ h2 ⟨o, List.mem_of_getElem? ho, rfl, rfl⟩
  · refine hq D S' hD hS ?_
    rw [hys]
    congr 2
    have inj : ∀ a b : Pt, pt a = pt b → a = b := by
      intro a b h
      simp only [pt, T.tup.injEq] at h
      have : Function.Injective bT := fun x y h => by simp only [bT, T.int.injEq, bI_inj] at h; exact h
      exact (List.map_inj_right this).mp h
    have key : ∀ (qs : List Pt) (ys : List T), Filt (fun x o => ∃ p ∈ ps, x = pt p ∧ o = if f p = true then some (pt p) else none) (qs.map pt) ys → ys = (qs.filter f).map pt := by
      intro qs
      induction qs with
      | nil => intro ys h; cases h; rfl
      | cons a qs ih =>
        intro ys h
        rw [List.map_cons] at h
        cases h with
        | yes r t =>
          obtain ⟨p, _, e1, e2⟩ := r
          obtain rfl := inj _ _ e1
          split at e2
          · rename_i hf
            cases e2
            rw [ih _ t, List.filter_cons, if_pos hf]; rfl
          · cases e2
        | no r t =>
          obtain ⟨p, _, e1, e2⟩ := r
          obtain rfl := inj _ _ e1
          split at e2
          · cases e2
          · rename_i hf
            rw [ih _ t, List.filter_cons, if_neg hf]
    exact key ps ys hf
theorem m__law_right (ts : List T) (S : Store) (q : KT) (E : XW) (h : sp__law_right ts S q E) : rd__law_right (fun x _ S => E x S) { nx := fun _ S => q .non S, rt := q } (startT N__law_right ts) S := by
  obtain ⟨A, rfl, hD, h⟩ := h
  rw [rd__law_right]
  refine asg_k (fun v S' => ∃ d : Nat, v = .int (d : Nat) ∧ d < 8 ∧ LeD (one A) S S') (fun k hk => ?_) ?_
  · walk_at "mr"
    exact ⟨A, 8, rfl, by decide, by decide, hD, fun r S1 h0 h1 h2 => hk _ _ ⟨r.toNat, by rw [Int.toNat_of_nonneg h0], by omega, h2⟩⟩
  rintro _ S1 ⟨d, rfl, hd, h1⟩
  refine asg_g (fun v S' => ∃ (D : Addr) (a b c e : Pt), v = .ref D ∧ S' D = some (.lst [pt a, pt b, pt c, pt e]) ∧ (a.length = d ∧ b.length = d ∧ c.length = d ∧ e.length = d) ∧ LeD (one A) S S') (fun k hk => ?_) ?_
  · walk_at "mr"
    have hr := h1.refl
    refine ⟨by decide, compI_gen hr (rngT 0 (4 : Int).toNat) (by rw [rngT_len]; decide) (fun x o => ∃ p : Pt, o = some (pt p) ∧ p.length = d) (fun i S' hi hS => jRng_get) (fun i x S' k hx hS hk => ?_) fun D S' ys hDn hS hys hf => ?_⟩
    · walk_at "mr"
      refine ⟨A, d, rfl, by omega, hS.dice, fun p S2 hp h2 => ?_⟩
      exact hk _ _ h2 ⟨p, rfl, hp⟩
    · obtain ⟨ps, rfl, hpl, hpp⟩ := hf.pickP (g := pt) fun _ _ h => h
      rw [rngT_len] at hpl
      match ps, hpl with
      | [a, b, c, e], _ =>
        exact hk _ _ ⟨D, a, b, c, e, rfl, hys, ⟨hpp a (by simp), hpp b (by simp), hpp c (by simp), hpp e (by simp)⟩, h1.trans hS⟩
  rintro _ S2 ⟨D, a, b, c, e, rfl, hDl, ⟨la, lb, lc, le⟩, h2⟩
  have e0 : ∀ x : T, (startT N__law_right [.ref A]).set 1 (some x) = [some (.ref A), some x, none, none, none, none, none, none, none, none] := fun _ => rfl
  rw [e0]
  simp only [gUnp, gsCons, gsNil, gSet, seqOf, hDl, List.set_cons_succ, List.set_cons_zero]
  refine if_k false (fun S' => LeD noD S2 S') (fun k hk => ?_) fun S3 h3 => ?_
  · walk_at "mr"
    refine ⟨a, b, c, rfl, by omega, by omega, by omega, fun S3 h3 => ?_⟩
    walk_at "mr"
    refine ⟨a, a, b, rfl, by omega, by omega, by omega, fun S4 h4 => ?_⟩
    walk_at "mr"
    refine ⟨c, e, a, rfl, by omega, by omega, by omega, fun S5 h5 => ?_⟩
    exact hk _ (h3.trans (h4.trans h5))
  simp only [sNext]
  have hdab : dist a b ≤ 7 := by rw [dist_eq]; have := distR_le a b; omega
  have hbx : (box a b).length ≤ 128 := by
    rw [len_box, ← dist_eq]
    exact Nat.le_trans (Nat.pow_le_pow_right (by decide) hdab) (by decide)
  have hm : ∀ o ∈ box a b, o.length = d ∧ btw a b o = true := fun o ho => by
    have := (mem_box (by omega)).mp ho
    exact ⟨by omega, this.2⟩
  have ebd : ∀ x y z : Pt, x.length = d → y.length = d → z.length = d → decide ((dist x z : Int) + (dist z y : Int) = (dist x y : Int)) = btw x y z := fun x y z hx hy hz => by
    rw [btw_dist (by omega) (by omega), dist_eq, dist_eq, dist_eq]
    congr 1
    apply propext
    omega
  refine asg_k (newL S3 ((box a b).map pt)) (fun k hk => ?_) ?_
  · walk_at "mr"
    refine ⟨a, b, rfl, by omega, by omega, by omega, fun p S4 hp h4 e4 => hk _ _ ⟨p, rfl, hp, h4, by rw [e4, spread_eq]⟩⟩
  rintro _ S4 ⟨pB, rfl, hpB, h4, eB⟩
  simp only [List.set_cons_succ, List.set_cons_zero]
  refine if_k false (fun S' => LeD noD S4 S') (fun k hk => ?_) fun S5 h5 => ?_
  · walk_at "mr"
    refine ⟨a, b, rfl, by omega, by omega, by omega, fun S5 h5 => ?_⟩
    simp only [tupR, seqOf, h5.at0 eB]
    refine neR_same dOf_ptsT (by rw [spread_eq]; exact dOf_ptsT) ?_
    simp only [Bool.false_eq_true, if_false]
    walk_at "mr"
    simp only [seqOf, h5.at0 eB]
    refine keep_btw (box a b) (fun _ => false) (by omega) (fun i S' hi hS => jSeq_ref (hS.at0 (h5.at0 eB))) (fun o S' k2 ho hS hk2 => ?_) fun D S' hDn hS hD => ?_
    · walk_at "mr"
      obtain ⟨l1, l2⟩ := hm o ho
      refine ⟨a, b, o, rfl, by omega, by omega, by omega, fun S6 h6 => ?_⟩
      rw [l2]
      refine isn_true ?_
      simp only [Bool.not_true, Bool.false_eq_true, if_false]
      exact hk2 _ h6
    · walk_at "mr"
      refine ⟨by decide, fun p hp => ?_⟩
      have hnp : D ≠ p := fun z => by rw [z, hp] at hD; cases hD
      refine neR_same (d := .list []) (by rw [dOf_lst (xs := []) (by rw [upS_ne hnp, hD]; simp)]; rfl) (by rw [dOf_lst upS_same]; rfl) ?_
      exact hk _ ((h5.trans hS).new hp)
  simp only [sNext]
  replace eB := h5.at0 eB
  refine asg_k (newL S5 (((box a b).filter fun o => btw b c o).map pt)) (fun k hk => ?_) ?_
  · walk_at "mr"
    simp only [seqOf, eB]
    refine keep_btw (box a b) (fun o => btw b c o) (by omega) (fun i S' hi hS => jSeq_ref (hS.at0 eB)) (fun o S' k2 ho hS hk2 => ?_) fun D S' hDn hS hD => hk _ _ ⟨D, rfl, hDn, hS, hD⟩
    obtain ⟨l1, l2⟩ := hm o ho
    walk_at "mr"
    refine ⟨b, o, rfl, by omega, fun S6 h6 => ?_⟩
    walk_at "mr"
    refine ⟨o, c, rfl, by omega, fun S7 h7 => ?_⟩
    walk_at "mr"
    simp only [addR]
    walk_at "mr"
    refine ⟨b, c, rfl, by omega, fun S8 h8 => ?_⟩
    simp only [eqR, eqS]
    rw [ebd b c o lb lc l1]
    have := hk2 _ (h6.trans (h7.trans h8))
    by_cases e : btw b c o = true
    · rw [if_pos e] at this ⊢; exact this
    · rw [if_neg e] at this ⊢; exact this
  rintro _ S6 ⟨pE, rfl, hpE, h6, eE⟩
  simp only [List.set_cons_succ, List.set_cons_zero]
  have lm : (mid a b c).length = d := by rw [mid_len (by omega) (by omega)]; exact la
  refine if_k false (fun S' => LeD noD S6 S') (fun k hk => ?_) fun S7 h7 => ?_
  · walk_at "mr"
    simp only [seqOf, eE]
    refine keep_btw ((box a b).filter fun o => btw b c o) (fun o => btw a c o) (by have := List.length_filter_le (fun o => btw b c o) (box a b); omega) (fun i S' hi hS => jSeq_ref (hS.at0 eE)) (fun o S' k2 ho hS hk2 => ?_) fun D S' hDn hS hD => ?_
    · obtain ⟨l1, l2⟩ := hm o (List.mem_filter.mp ho).1
      walk_at "mr"
      refine ⟨a, o, rfl, by omega, fun S6 h6 => ?_⟩
      walk_at "mr"
      refine ⟨o, c, rfl, by omega, fun S7 h7 => ?_⟩
      walk_at "mr"
      simp only [addR]
      walk_at "mr"
      refine ⟨a, c, rfl, by omega, fun S8 h8 => ?_⟩
      simp only [eqR, eqS]
      rw [ebd a c o la lc l1]
      have := hk2 _ (h6.trans (h7.trans h8))
      by_cases e : btw a c o = true
      · rw [if_pos e] at this ⊢; exact this
      · rw [if_neg e] at this ⊢; exact this
    · walk_at "mr"
      refine ⟨a, b, c, rfl, by omega, by omega, by omega, fun S8 h8 => ?_⟩
      walk_at "mr"
      refine ⟨by decide, fun p hp => ?_⟩
      have hD8 := h8.at0 hD
      have hnp : D ≠ p := fun z => by rw [z, hp] at hD8; cases hD8
      have ef : ((box a b).filter fun o => btw b c o).filter (fun o => btw a c o) = [mid a b c] := by
        rw [List.filter_filter, ← box_mid a b c (by omega) (by omega)]
        apply List.filter_congr
        intro o _
        exact Bool.and_comm _ _
      rw [ef] at hD8
      refine neR_same (d := .list [ptD (mid a b c)]) (by rw [dOf_lst (xs := [pt (mid a b c)]) (by rw [upS_ne hnp, hD8]; rfl)]; simp only [mapO, dOf_pt]; rfl) (by rw [dOf_lst upS_same]; simp only [mapO, dOf_pt]; rfl) ?_
      exact hk _ ((hS.trans h8).new hp)
  simp only [sNext]
  refine if_k false (fun S' => LeD noD S7 S') (fun k hk => ?_) fun S8 h8 => ?_
  · walk_at "mr"
    refine ⟨a, b, c, rfl, by omega, by omega, by omega, fun T1 g1 => ?_⟩
    walk_at "mr"
    refine ⟨_, b, e, rfl, by omega, by omega, by omega, fun T2 g2 => ?_⟩
    walk_at "mr"
    refine ⟨c, b, e, rfl, by omega, by omega, by omega, fun T3 g3 => ?_⟩
    walk_at "mr"
    refine ⟨a, b, _, rfl, by omega, by omega, by rw [mid_len (by omega) (by omega)]; omega, fun T4 g4 => ?_⟩
    rw [mid_assoc a b c e (by omega) (by omega) (by omega)]
    exact neR_same dOf_pt dOf_pt (hk _ (g1.trans (g2.trans (g3.trans g4))))
  rw [if_neg Bool.false_ne_true]
  simp only [sNext]
  refine ret_k ?_
  walk_at "mr"
  refine ⟨c, e, a, rfl, by omega, by omega, by omega, fun T1 g1 => ?_⟩
  walk_at "mr"
  refine ⟨a, b, _, rfl, by omega, by omega, by rw [mid_len (by omega) (by omega)]; omega, fun T2 g2 => ?_⟩
  walk_at "mr"
  refine ⟨a, b, c, rfl, by omega, by omega, by omega, fun T3 g3 => ?_⟩
  walk_at "mr"
  refine ⟨a, b, e, rfl, by omega, by omega, by omega, fun T4 g4 => ?_⟩
  walk_at "mr"
  refine ⟨_, _, a, rfl, by omega, by rw [mid_len (by omega) (by omega)]; omega, by omega, fun T5 g5 => ?_⟩
  rw [mid_dist a b c e (by omega) (by omega) (by omega)]
  exact eqR_same dOf_pt dOf_pt (h _ (h2.d0 (h3.trans (h4.trans (h5.trans (h6.trans (h7.trans (h8.trans (g1.trans (g2.trans (g3.trans (g4.trans g5))))))))))))
theorem pt_nil : T.tup [] = pt [] := rfl
theorem m_law (ts : List T) (S : Store) (q : KT) (E : XW) (h : spLawM ts S q E) : rd_law (fun x _ S => E x S) { nx := fun _ S => q .non S, rt := q } (startT N_law ts) S := by
  obtain ⟨ns, rfl, hl, h⟩ := h
  rw [rd_law]
  have e0 : startT N_law [.scr ns] = [some (.scr ns), none, none, none, none, none, none, none, none] := rfl
  rw [e0]
  refine for_k (jRng 0 (if (if (ns.length : Int) < 4 then (ns.length : Int) else 4) > 1 then (if (ns.length : Int) < 4 then (ns.length : Int) else 4) else 1).toNat) (fun _ => True) (fun k hk => ?_) (rngT 0 _) (fun i τ S1 => ∃ x1 x2 x3 x4 x5 x6 x7 x8, τ = [some (.scr ns), x1, x2, x3, x4, x5, x6, x7, x8])
    (fun S' _ => ⟨_, _, _, _, _, _, _, _, rfl⟩) (fun i τ S1 hi _ => jRng_get) ?_ ?_
  · walk_at "mr"
    simp only [lenR, seqOf_scr, List.length_map, minR, maxR]
    refine ⟨?_, hk _ trivial⟩
    split <;> split <;> omega
  · rintro i x τ S1 hx ⟨x1, x2, x3, x4, x5, x6, x7, x8, rfl⟩
    obtain ⟨_, rfl⟩ := rngT_at hx
    simp only [gSet, List.set_cons_succ, List.set_cons_zero]
    refine asg_k (fun v S' => ∃ A : Addr, v = .ref A ∧ DiceAt S' A) (fun k hk => ?_) ?_
    · walk_at "mr"
      refine ⟨ns, i, by simp, hl, fun a S' _ _ hd => hk _ _ ⟨a, rfl, hd⟩⟩
    rintro _ S2 ⟨A, rfl, hD⟩
    simp only [List.set_cons_succ, List.set_cons_zero]
    refine for_k (jRng 0 (5 : Int).toNat) (fun S' => S' = S2) (fun k hk => ?_) (rngT 0 _) (fun j τ S1 => ∃ x3, τ = [some (.scr ns), some (.int (0 + (i : Nat))), some (.ref A), x3, x4, x5, x6, x7, x8] ∧ DiceAt S1 A)
      (fun S' e => ⟨_, rfl, by rw [e]; exact hD⟩) (fun i τ S1 hi _ => jRng_get) ?_ ?_
    · walk_at "mr"
      exact ⟨by decide, hk _ rfl⟩
    · rintro j x τ S3 hx ⟨x3, rfl, hD3⟩
      simp only [gSet, List.set_cons_succ, List.set_cons_zero]
      refine if_fl (fun S' => DiceAt S' A) (fun k hk => ?_) fun S4 h4 => ⟨some x, rfl, h4⟩
      walk_at "mr"
      exact ⟨A, rfl, hD3, fun S' hS => hk _ hS.dice⟩
    · rintro τ S3 ⟨x3, rfl, hD3⟩
      refine asg_k (fun v S' => ∃ d : Nat, v = .int (d : Nat) ∧ 0 < d ∧ d ≤ 63 ∧ DiceAt S' A) (fun k hk => ?_) ?_
      · walk_at "mr"
        refine ⟨A, 8, rfl, by decide, by decide, hD3, fun r S' h0 h1 hS => ?_⟩
        simp only [addR]
        exact hk _ _ ⟨(56 + r).toNat, by rw [Int.toNat_of_nonneg (by omega)], by omega, by omega, hS.dice⟩
      rintro _ S4 ⟨d, rfl, hd0, hd, hD4⟩
      refine asg_k (fun v S' => ∃ p : Pt, v = pt p ∧ p.length = d ∧ DiceAt S' A) (fun k hk => ?_) ?_
      · walk_at "mr"
        exact ⟨A, d, rfl, hd, hD4, fun p S' hp hS => hk _ _ ⟨p, rfl, hp, hS.dice⟩⟩
      rintro _ S5 ⟨a, rfl, la, hD5⟩
      simp only [List.set_cons_succ, List.set_cons_zero]
      refine par_k (fun v w S' => ∃ b c : Pt, v = pt b ∧ w = pt c ∧ b.length = d ∧ c.length = d ∧ dist a b ≤ 3 ∧ DiceAt S' A) (fun k hk => ?_) ?_
      · walk_at "mr"
        refine ⟨A, a, rfl, by omega, by omega, hD5, fun b S' hb hab hS => ?_⟩
        walk_at "mr"
        exact ⟨A, d, rfl, hd, hS.dice, fun c S'' hc hS2 => hk _ _ _ ⟨b, c, rfl, rfl, by omega, hc, hab, hS2.dice⟩⟩
      rintro _ _ S6 ⟨b, c, rfl, rfl, lb, lc, hab, hD6⟩
      simp only [List.set_cons_succ, List.set_cons_zero]
      refine if_n (fun _ => True) (fun k hk => ?_) fun S7 _ => ?_
      · walk_at "mr"
        refine ⟨a, c, b, rfl, by omega, by omega, by omega, fun S7 h7 => ?_⟩
        walk_at "mr"
        exact ⟨a, b, c, rfl, by omega, by omega, by omega, fun S8 h8 => hk _ trivial⟩
      refine if_nl (fun _ => True) (fun k hk => ?_) fun S8 _ => ⟨_, _, _, _, _, _, _, _, rfl⟩
      walk_at "mr"
      refine ⟨a, b, rfl, by omega, by omega, by omega, fun S8 h8 => ?_⟩
      walk_at "mr"
      refine ⟨a, b, rfl, by omega, by omega, by omega, fun p S9 hp h9 e9 => ?_⟩
      simp only [tupR, seqOf, e9]
      exact neR_same dOf_ptsT dOf_ptsT (hk _ trivial)
  · rintro τ S1 ⟨x1, x2, x3, x4, x5, x6, x7, x8, rfl⟩
    have m0 : T.tup (List.replicate (63 : Int).toNat [T.int 0]).flatten = pt (List.replicate 63 false) := rfl
    have m1 : T.tup (List.replicate (63 : Int).toNat [T.int 1]).flatten = pt (List.replicate 63 true) := rfl
    have dz : dist (List.replicate 63 false) (List.replicate 63 true) = 63 := by decide
    refine asg_k (fun v S' => ∃ p : Addr, v = .ref p ∧ S' p = some (.lst [.int 0, pt [], .tup [pt []], .int 9223372036854775808])) (fun k hk => ?_) ?_
    · walk_at "mr"
      refine ⟨by decide, by decide, [], [], rfl, by decide, rfl, fun S2 h2 => ?_⟩
      walk_at "mr"
      refine ⟨by decide, by decide, by decide, [], [], [], rfl, by decide, rfl, rfl, fun S3 h3 => ?_⟩
      walk_at "mr"
      refine ⟨by decide, by decide, [], [], rfl, by decide, rfl, by decide, fun S4 h4 => ?_⟩
      walk_at "mr"
      refine ⟨by decide, ?_⟩
      simp only [mulR]
      refine ⟨⟨by simp, by decide, by decide, by decide⟩, by decide, ⟨by simp, by decide, by decide, by decide⟩, List.replicate 63 false, List.replicate 63 true, by rw [m0, m1], by decide, rfl, fun S5 h5 => ?_⟩
      walk_at "mr"
      refine ⟨by decide, fun p hp => hk _ _ ⟨p, rfl, ?_⟩⟩
      rw [upS_same]
      exact congrArg (fun n : Nat => some (Cell.lst [T.int 0, pt [], T.tup [pt []], T.int ((2 ^ n : Nat))])) dz
    rintro _ S2 ⟨p, rfl, ep⟩
    refine ret_k ?_
    walk_at "mr"
    refine ⟨by decide, by decide, by decide, by decide, fun p2 hp2 => ?_⟩
    have hnp : p ≠ p2 := fun z => by rw [z, hp2] at ep; cases ep
    refine eqR_same (d := .list [.int 0, .tuple [], .tuple [.tuple []], .int 9223372036854775808]) (by rw [dOf_lst (xs := [.int 0, pt [], .tup [pt []], .int 9223372036854775808]) (by rw [upS_ne hnp, ep])]; rfl) (by rw [dOf_lst upS_same]; rfl) (h _)
end L01
set_option Elab.async false
set_option maxRecDepth 100000
set_option linter.unusedVariables false
set_option linter.unusedSimpArgs false
set_option maxHeartbeats 2000000
namespace L01
open PySem PySem.Spec PyProof.Rows L2 M
theorem w__law_dice {P : Program} {w : World} {K : PySem.W.Frag} {mg : Str → Option Value} {base : Heap} (G : Glb K mg) {f : Addr} {cdv : Value} {A : Around} {outer : List Env} {s : Shared} {H : Hp} {EX : XK} {W : Wish} (hr : Room 0 (A.deeper (envOfC "_law_dice" (defScope (top 28)) s.heap.objs.size f cdv))) (hg0 : A.guards = some [])
    (tk : Takes (cxOf (L2.CX P w) P w K mg base N__law_dice "_law_dice" (defScope (top 28)) f cdv A outer s H EX) (liftW K H W)) : PSs (cxOf (L2.CX P w) P w K mg base N__law_dice "_law_dice" (defScope (top 28)) f cdv A outer s H EX) (defBody (top 28)) (liftS K H (rd__law_dice W)) := by
  have hgd : (A.deeper (envOfC "_law_dice" (defScope (top 28)) s.heap.objs.size f cdv)).guards = some [] := hg0
  have hu := hu70 hr
  exact (js_cons (js_st 2 sc__law_dice.nd (je_ifx (jt_cmp hu (jv 1) (jb .len hgd hu G.n_len (ja_c (jv 0) ja_nil)) (by first | rfl | exact nomark _)) (jb .int hgd hu G.n_int (ja_c (je_ix (jv 0) (jv 1) (by intro _ _; rfl)) ja_nil)) (je_bin (je_bin je_int (jv 1)) je_int)))
    (js_cons (js_st 3 sc__law_dice.nd (je_bin (jb .max hgd hu G.n_max (ja_c je_int (ja_c (je_bin (jb .abs hgd hu G.n_abs (ja_c (jv 2) ja_nil)) (je_bin je_int je_int)) ja_nil))) (je_bin (je_bin je_int je_int) (je_bin je_int je_int))))
    (js_one (js_ret (je_lst (ja_c (jv 3) (ja_c (je_bin (je_bin (je_bin (je_bin (je_bin (jb .abs hgd hu G.n_abs (ja_c (jv 2) ja_nil)) je_int) je_int) (je_bin je_int (jv 1))) (je_bin je_int (jb .int hgd hu G.n_int (ja_c (je_cmp hu (jv 2) je_int (by first | rfl | exact nomark _)) ja_nil)))) je_int) (ja_c je_int ja_nil))))))))
theorem w__law_roll {P : Program} {w : World} {K : PySem.W.Frag} {mg : Str → Option Value} {base : Heap} (G : Glb K mg) {f : Addr} {cdv : Value} {A : Around} {outer : List Env} {s : Shared} {H : Hp} {EX : XK} {W : Wish} (hr : Room 0 (A.deeper (envOfC "_law_roll" (defScope (top 29)) s.heap.objs.size f cdv))) (hg0 : A.guards = some [])
    (tk : Takes (cxOf (L2.CX P w) P w K mg base N__law_roll "_law_roll" (defScope (top 29)) f cdv A outer s H EX) (liftW K H W)) : PSs (cxOf (L2.CX P w) P w K mg base N__law_roll "_law_roll" (defScope (top 29)) f cdv A outer s H EX) (defBody (top 29)) (liftS K H (rd__law_roll W)) := by
  have hgd : (A.deeper (envOfC "_law_roll" (defScope (top 29)) s.heap.objs.size f cdv)).guards = some [] := hg0
  have hu := hu70 hr
  exact (js_cons (js_if (jt_cmp hu (je_ix (jv 0) je_int (by intro _ _; rfl)) je_int (by first | rfl | exact nomark _)) (js_cons (js_st 2 sc__law_roll.nd (je_bin (jb .int hgd hu G.n_int (ja_c (je_ix (jv 0) je_int (by intro _ _; rfl)) ja_nil)) (jv 1)))
    (js_cons (js_asg (je_bin (je_ix (jv 0) je_int (by intro _ _; rfl)) (jv 1)) (jg_sub (jv 0) je_int))
    (js_one (js_ret (jv 2))))) js_nil)
    (js_cons (js_asg (je_bin (je_ix (jv 0) je_int (by intro _ _; rfl)) je_int) (jg_sub (jv 0) je_int))
    (js_cons (js_st 3 sc__law_roll.nd (je_bin (jb .int hgd hu G.n_int (ja_c (je_bin (je_ix (jv 0) je_int (by intro _ _; rfl)) (je_bin je_int (je_ix (jv 0) je_int (by intro _ _; rfl)))) ja_nil)) je_int))
    (js_cons (js_st 4 sc__law_roll.nd (je_bin (je_bin (je_bin (jb .int hgd hu G.n_int (ja_c (je_bin (je_bin (jv 3) (jv 3)) (je_bin je_int (je_ix (jv 0) je_int (by intro _ _; rfl)))) ja_nil)) je_int) je_int) (jv 3)))
    (js_one (js_ret (je_bin (jb .int hgd hu G.n_int (ja_c (je_bin (jv 4) je_int) ja_nil)) (jv 1))))))))
theorem w__law_bi_point {P : Program} {w : World} {K : PySem.W.Frag} {mg : Str → Option Value} {base : Heap} (G : Glb K mg) (c__law_roll : CalM P w K mg base 1 "_law_roll" sp__law_roll []) {f : Addr} {cdv : Value} {A : Around} {outer : List Env} {s : Shared} {H : Hp} {EX : XK} {W : Wish} (hr : Room 1 (A.deeper (envOfC "_law_bi_point" (defScope (top 33)) s.heap.objs.size f cdv))) (hg0 : A.guards = some [])
    (tk : Takes (cxOf (L2.CX P w) P w K mg base N__law_bi_point "_law_bi_point" (defScope (top 33)) f cdv A outer s H EX) (liftW K H W)) : PSs (cxOf (L2.CX P w) P w K mg base N__law_bi_point "_law_bi_point" (defScope (top 33)) f cdv A outer s H EX) (defBody (top 33)) (liftS K H (rd__law_bi_point W)) := by
  have hgd : (A.deeper (envOfC "_law_bi_point" (defScope (top 33)) s.heap.objs.size f cdv)).guards = some [] := hg0
  have hu := hu70 hr
  exact (js_one (js_ret (jb .tup hgd hu G.n_tuple (ja_c (je_comp rfl sc__law_bi_point.nd (pim_rng1 (by rfl) G.n_range (ja_c (jv 1) ja_nil) (by rfl)) (own := ([("at", 2)] : List (Str × Nat))) (blk_of (N := N__law_bi_point) (sc := defScope (top 33)) (by decide +kernel)) (by decide) (fun _ _ _ _ _ => (jg 2 sc__law_bi_point.nd)) (fun _ _ _ _ _ => jts_nil) (fun _ _ _ _ _ => (je_call c__law_roll hr (by decide) hgd takes_none (ja_c (jv 0) (ja_c je_int ja_nil)) (by rfl) (by rfl) (by rfl)))) ja_nil))))
theorem w_is_whole {P : Program} {w : World} {K : PySem.W.Frag} {mg : Str → Option Value} {base : Heap} (G : Glb K mg) {f : Addr} {cdv : Value} {A : Around} {outer : List Env} {s : Shared} {H : Hp} {EX : XK} {W : Wish} (hr : Room 0 (A.deeper (envOfC "is_whole" (defScope (top 5)) s.heap.objs.size f cdv))) (hg0 : A.guards = some [])
    (tk : Takes (cxOf (L2.CX P w) P w K mg base N_is_whole "is_whole" (defScope (top 5)) f cdv A outer s H EX) (liftW K H W)) : PSs (cxOf (L2.CX P w) P w K mg base N_is_whole "is_whole" (defScope (top 5)) f cdv A outer s H EX) (defBody (top 5)) (liftS K H (rd_is_whole W)) := by
  have hgd : (A.deeper (envOfC "is_whole" (defScope (top 5)) s.heap.objs.size f cdv)).guards = some [] := hg0
  have hu := hu70 hr
  exact (js_one (js_ret (je_and2 (jb .isi hgd hu G.n_isinstance (ja_c (jv 0) (ja_c (je_ty "int" G.n_int) ja_nil))) (je_one (je_not (jb .isi hgd hu G.n_isinstance (ja_c (jv 0) (ja_c (je_ty "bool" G.n_bool) ja_nil))))))))
theorem w_is_within {P : Program} {w : World} {K : PySem.W.Frag} {mg : Str → Option Value} {base : Heap} (G : Glb K mg) (c_is_whole : CalM P w K mg base 1 "is_whole" sp_is_whole []) {f : Addr} {cdv : Value} {A : Around} {outer : List Env} {s : Shared} {H : Hp} {EX : XK} {W : Wish} (hr : Room 1 (A.deeper (envOfC "is_within" (defScope (top 6)) s.heap.objs.size f cdv))) (hg0 : A.guards = some [])
    (tk : Takes (cxOf (L2.CX P w) P w K mg base N_is_within "is_within" (defScope (top 6)) f cdv A outer s H EX) (liftW K H W)) : PSs (cxOf (L2.CX P w) P w K mg base N_is_within "is_within" (defScope (top 6)) f cdv A outer s H EX) (defBody (top 6)) (liftS K H (rd_is_within W)) := by
  have hgd : (A.deeper (envOfC "is_within" (defScope (top 6)) s.heap.objs.size f cdv)).guards = some [] := hg0
  have hu := hu70 hr
  exact (js_one (js_ret (je_and2 (je_call c_is_whole hr (by decide) hgd tk (ja_c (jv 0) ja_nil) (by rfl) (by rfl) (by rfl)) (je_one (je_chain hu (jv 1) (jv 0) (jv 2) (by rfl))))))
theorem w_is_point_in {P : Program} {w : World} {K : PySem.W.Frag} {mg : Str → Option Value} {base : Heap} (G : Glb K mg) (c_is_within : CalM P w K mg base 2 "is_within" sp_is_within []) {f : Addr} {cdv : Value} {A : Around} {outer : List Env} {s : Shared} {H : Hp} {EX : XK} {W : Wish} (hr : Room 2 (A.deeper (envOfC "is_point_in" (defScope (top 10)) s.heap.objs.size f cdv))) (hg0 : A.guards = some [])
    (tk : Takes (cxOf (L2.CX P w) P w K mg base N_is_point_in "is_point_in" (defScope (top 10)) f cdv A outer s H EX) (liftW K H W)) : PSs (cxOf (L2.CX P w) P w K mg base N_is_point_in "is_point_in" (defScope (top 10)) f cdv A outer s H EX) (defBody (top 10)) (liftS K H (rd_is_point_in W)) := by
  have hgd : (A.deeper (envOfC "is_point_in" (defScope (top 10)) s.heap.objs.size f cdv)).guards = some [] := hg0
  have hu := hu70 hr
  exact (js_cons (js_if (jw_or2 (jt_not (jt_tr (jb .isi hgd hu G.n_isinstance (ja_c (jv 0) (ja_c (je_ty "tuple" G.n_tuple) ja_nil))))) (jw_or1 (jt_cmp hu (jb .len hgd hu G.n_len (ja_c (jv 0) ja_nil)) (je_gi G.c_MOST_WIDE) (by first | rfl | exact nomark _)))).pt (js_one (js_ret je_bl)) js_nil)
    (js_one (js_ret (jb .all hgd hu G.n_all (ja_c (je_comp rfl sc_is_point_in.nd (pim_seq (jv 0)) (own := ([("bit", 1)] : List (Str × Nat))) (blk_of (N := N_is_point_in) (sc := defScope (top 10)) (by decide +kernel)) (by decide) (fun _ _ _ _ _ => (jg 1 sc_is_point_in.nd)) (fun _ _ _ _ _ => jts_nil) (fun _ _ _ _ _ => (je_call c_is_within hr (by decide) hgd takes_none (ja_c (jv 1) (ja_c je_int (ja_c je_int ja_nil))) (by rfl) (by rfl) (by rfl)))) ja_nil)))))
theorem w_require_point {P : Program} {w : World} {K : PySem.W.Frag} {mg : Str → Option Value} {base : Heap} (G : Glb K mg) (c_is_point_in : CalM P w K mg base 3 "is_point_in" sp_is_point_in []) {f : Addr} {cdv : Value} {A : Around} {outer : List Env} {s : Shared} {H : Hp} {EX : XK} {W : Wish} (hr : Room 3 (A.deeper (envOfC "require_point" (defScope (top 17)) s.heap.objs.size f cdv))) (hg0 : A.guards = some [])
    (tk : Takes (cxOf (L2.CX P w) P w K mg base N_require_point "require_point" (defScope (top 17)) f cdv A outer s H EX) (liftW K H W)) : PSs (cxOf (L2.CX P w) P w K mg base N_require_point "require_point" (defScope (top 17)) f cdv A outer s H EX) (defBody (top 17)) (liftS K H (rd_require_point W)) := by
  have hgd : (A.deeper (envOfC "require_point" (defScope (top 17)) s.heap.objs.size f cdv)).guards = some [] := hg0
  have hu := hu70 hr
  exact (js_one (js_if (jt_not (jt_tr (je_call c_is_point_in hr (by decide) hgd tk (ja_c (jv 0) ja_nil) (by rfl) (by rfl) (by rfl)))) (js_one js_no) js_nil))
theorem w_is_wide {P : Program} {w : World} {K : PySem.W.Frag} {mg : Str → Option Value} {base : Heap} (G : Glb K mg) (c_is_point_in : CalM P w K mg base 3 "is_point_in" sp_is_point_in []) {f : Addr} {cdv : Value} {A : Around} {outer : List Env} {s : Shared} {H : Hp} {EX : XK} {W : Wish} (hr : Room 3 (A.deeper (envOfC "is_wide" (defScope (top 11)) s.heap.objs.size f cdv))) (hg0 : A.guards = some [])
    (tk : Takes (cxOf (L2.CX P w) P w K mg base N_is_wide "is_wide" (defScope (top 11)) f cdv A outer s H EX) (liftW K H W)) : PSs (cxOf (L2.CX P w) P w K mg base N_is_wide "is_wide" (defScope (top 11)) f cdv A outer s H EX) (defBody (top 11)) (liftS K H (rd_is_wide W)) := by
  have hgd : (A.deeper (envOfC "is_wide" (defScope (top 11)) s.heap.objs.size f cdv)).guards = some [] := hg0
  have hu := hu70 hr
  exact (js_one (js_ret (je_and2 (je_call c_is_point_in hr (by decide) hgd tk (ja_c (jv 0) ja_nil) (by rfl) (by rfl) (by rfl)) (je_one (je_cmp hu (jb .len hgd hu G.n_len (ja_c (jv 0) ja_nil)) (jv 1) (by first | rfl | exact nomark _))))))
theorem w_require_like {P : Program} {w : World} {K : PySem.W.Frag} {mg : Str → Option Value} {base : Heap} (G : Glb K mg) (c_is_wide : CalM P w K mg base 4 "is_wide" sp_is_wide []) {f : Addr} {cdv : Value} {A : Around} {outer : List Env} {s : Shared} {H : Hp} {EX : XK} {W : Wish} (hr : Room 4 (A.deeper (envOfC "require_like" (defScope (top 18)) s.heap.objs.size f cdv))) (hg0 : A.guards = some [])
    (tk : Takes (cxOf (L2.CX P w) P w K mg base N_require_like "require_like" (defScope (top 18)) f cdv A outer s H EX) (liftW K H W)) : PSs (cxOf (L2.CX P w) P w K mg base N_require_like "require_like" (defScope (top 18)) f cdv A outer s H EX) (defBody (top 18)) (liftS K H (rd_require_like W)) := by
  have hgd : (A.deeper (envOfC "require_like" (defScope (top 18)) s.heap.objs.size f cdv)).guards = some [] := hg0
  have hu := hu70 hr
  exact (js_one (js_if (jt_not (jt_tr (je_call c_is_wide hr (by decide) hgd tk (ja_c (jv 1) (ja_c (jb .len hgd hu G.n_len (ja_c (jv 0) ja_nil)) ja_nil)) (by rfl) (by rfl) (by rfl)))) (js_one js_no) js_nil))
theorem w_require_two_points {P : Program} {w : World} {K : PySem.W.Frag} {mg : Str → Option Value} {base : Heap} (G : Glb K mg) (c_require_like : CalM P w K mg base 5 "require_like" sp_require_like []) (c_require_point : CalM P w K mg base 4 "require_point" sp_require_point []) {f : Addr} {cdv : Value} {A : Around} {outer : List Env} {s : Shared} {H : Hp} {EX : XK} {W : Wish} (hr : Room 5 (A.deeper (envOfC "require_two_points" (defScope (top 19)) s.heap.objs.size f cdv))) (hg0 : A.guards = some [])
    (tk : Takes (cxOf (L2.CX P w) P w K mg base N_require_two_points "require_two_points" (defScope (top 19)) f cdv A outer s H EX) (liftW K H W)) : PSs (cxOf (L2.CX P w) P w K mg base N_require_two_points "require_two_points" (defScope (top 19)) f cdv A outer s H EX) (defBody (top 19)) (liftS K H (rd_require_two_points W)) := by
  have hgd : (A.deeper (envOfC "require_two_points" (defScope (top 19)) s.heap.objs.size f cdv)).guards = some [] := hg0
  have hu := hu70 hr
  exact (js_cons (js_expr (je_call c_require_point hr (by decide) hgd tk (ja_c (jv 0) ja_nil) (by rfl) (by rfl) (by rfl)))
    (js_one (js_expr (je_call c_require_like hr (by decide) hgd tk (ja_c (jv 0) (ja_c (jv 1) ja_nil)) (by rfl) (by rfl) (by rfl)))))
theorem w_differing_in {P : Program} {w : World} {K : PySem.W.Frag} {mg : Str → Option Value} {base : Heap} (G : Glb K mg) {f : Addr} {cdv : Value} {A : Around} {outer : List Env} {s : Shared} {H : Hp} {EX : XK} {W : Wish} (hr : Room 0 (A.deeper (envOfC "differing_in" (defScope (top 12)) s.heap.objs.size f cdv))) (hg0 : A.guards = some [])
    (tk : Takes (cxOf (L2.CX P w) P w K mg base N_differing_in "differing_in" (defScope (top 12)) f cdv A outer s H EX) (liftW K H W)) : PSs (cxOf (L2.CX P w) P w K mg base N_differing_in "differing_in" (defScope (top 12)) f cdv A outer s H EX) (defBody (top 12)) (liftS K H (rd_differing_in W)) := by
  have hgd : (A.deeper (envOfC "differing_in" (defScope (top 12)) s.heap.objs.size f cdv)).guards = some [] := hg0
  have hu := hu70 hr
  exact (js_one (js_ret (jb .tup hgd hu G.n_tuple (ja_c (je_comp rfl sc_differing_in.nd (pim_ez (by rfl) G.n_enumerate (by rfl) G.n_zip (ja_c (jv 0) (ja_c (jv 1) ja_nil)) (by rfl) (by rfl)) (own := ([("at", 2), ("pair", 3)] : List (Str × Nat))) (blk_of (N := N_differing_in) (sc := defScope (top 12)) (by decide +kernel)) (by decide) (fun _ _ _ _ _ => (jg_unp rfl (jgs_c (jg 2 sc_differing_in.nd) (jgs_c (jg 3 sc_differing_in.nd) jgs_nil)) (n := 2) (by rfl) (by rfl) (gl_cons ggo_set (gl_cons ggo_set gl_nil)))) (fun _ _ _ _ _ => (jts_one (jt_cmp hu (je_ix (jv 3) je_int (by intro _ _; rfl)) (je_ix (jv 3) je_int (by intro _ _; rfl)) (by first | rfl | exact nomark _)))) (fun _ _ _ _ _ => (jv 2))) ja_nil))))
theorem w_apart {P : Program} {w : World} {K : PySem.W.Frag} {mg : Str → Option Value} {base : Heap} (G : Glb K mg) (c_differing_in : CalM P w K mg base 1 "differing_in" sp_differing_in []) {f : Addr} {cdv : Value} {A : Around} {outer : List Env} {s : Shared} {H : Hp} {EX : XK} {W : Wish} (hr : Room 1 (A.deeper (envOfC "apart" (defScope (top 13)) s.heap.objs.size f cdv))) (hg0 : A.guards = some [])
    (tk : Takes (cxOf (L2.CX P w) P w K mg base N_apart "apart" (defScope (top 13)) f cdv A outer s H EX) (liftW K H W)) : PSs (cxOf (L2.CX P w) P w K mg base N_apart "apart" (defScope (top 13)) f cdv A outer s H EX) (defBody (top 13)) (liftS K H (rd_apart W)) := by
  have hgd : (A.deeper (envOfC "apart" (defScope (top 13)) s.heap.objs.size f cdv)).guards = some [] := hg0
  have hu := hu70 hr
  exact (js_one (js_ret (jb .len hgd hu G.n_len (ja_c (je_call c_differing_in hr (by decide) hgd tk (ja_c (jv 0) (ja_c (jv 1) ja_nil)) (by rfl) (by rfl) (by rfl)) ja_nil))))
theorem w_apart_of {P : Program} {w : World} {K : PySem.W.Frag} {mg : Str → Option Value} {base : Heap} (G : Glb K mg) (c_apart : CalM P w K mg base 2 "apart" sp_apart []) (c_require_two_points : CalM P w K mg base 6 "require_two_points" sp_require_two_points []) {f : Addr} {cdv : Value} {A : Around} {outer : List Env} {s : Shared} {H : Hp} {EX : XK} {W : Wish} (hr : Room 6 (A.deeper (envOfC "apart_of" (defScope (top 21)) s.heap.objs.size f cdv))) (hg0 : A.guards = some [])
    (tk : Takes (cxOf (L2.CX P w) P w K mg base N_apart_of "apart_of" (defScope (top 21)) f cdv A outer s H EX) (liftW K H W)) : PSs (cxOf (L2.CX P w) P w K mg base N_apart_of "apart_of" (defScope (top 21)) f cdv A outer s H EX) (defBody (top 21)) (liftS K H (rd_apart_of W)) := by
  have hgd : (A.deeper (envOfC "apart_of" (defScope (top 21)) s.heap.objs.size f cdv)).guards = some [] := hg0
  have hu := hu70 hr
  exact (js_cons (js_expr (je_call c_require_two_points hr (by decide) hgd tk (ja_c (jv 0) (ja_c (jv 1) ja_nil)) (by rfl) (by rfl) (by rfl)))
    (js_one (js_ret (je_call c_apart hr (by decide) hgd tk (ja_c (jv 0) (ja_c (jv 1) ja_nil)) (by rfl) (by rfl) (by rfl)))))
theorem w_require_three_points {P : Program} {w : World} {K : PySem.W.Frag} {mg : Str → Option Value} {base : Heap} (G : Glb K mg) (c_require_like : CalM P w K mg base 5 "require_like" sp_require_like []) (c_require_two_points : CalM P w K mg base 6 "require_two_points" sp_require_two_points []) {f : Addr} {cdv : Value} {A : Around} {outer : List Env} {s : Shared} {H : Hp} {EX : XK} {W : Wish} (hr : Room 6 (A.deeper (envOfC "require_three_points" (defScope (top 20)) s.heap.objs.size f cdv))) (hg0 : A.guards = some [])
    (tk : Takes (cxOf (L2.CX P w) P w K mg base N_require_three_points "require_three_points" (defScope (top 20)) f cdv A outer s H EX) (liftW K H W)) : PSs (cxOf (L2.CX P w) P w K mg base N_require_three_points "require_three_points" (defScope (top 20)) f cdv A outer s H EX) (defBody (top 20)) (liftS K H (rd_require_three_points W)) := by
  have hgd : (A.deeper (envOfC "require_three_points" (defScope (top 20)) s.heap.objs.size f cdv)).guards = some [] := hg0
  have hu := hu70 hr
  exact (js_cons (js_expr (je_call c_require_two_points hr (by decide) hgd tk (ja_c (jv 0) (ja_c (jv 1) ja_nil)) (by rfl) (by rfl) (by rfl)))
    (js_one (js_expr (je_call c_require_like hr (by decide) hgd tk (ja_c (jv 0) (ja_c (jv 2) ja_nil)) (by rfl) (by rfl) (by rfl)))))
theorem w_middle_in {P : Program} {w : World} {K : PySem.W.Frag} {mg : Str → Option Value} {base : Heap} (G : Glb K mg) {f : Addr} {cdv : Value} {A : Around} {outer : List Env} {s : Shared} {H : Hp} {EX : XK} {W : Wish} (hr : Room 0 (A.deeper (envOfC "middle_in" (defScope (top 14)) s.heap.objs.size f cdv))) (hg0 : A.guards = some [])
    (tk : Takes (cxOf (L2.CX P w) P w K mg base N_middle_in "middle_in" (defScope (top 14)) f cdv A outer s H EX) (liftW K H W)) : PSs (cxOf (L2.CX P w) P w K mg base N_middle_in "middle_in" (defScope (top 14)) f cdv A outer s H EX) (defBody (top 14)) (liftS K H (rd_middle_in W)) := by
  have hgd : (A.deeper (envOfC "middle_in" (defScope (top 14)) s.heap.objs.size f cdv)).guards = some [] := hg0
  have hu := hu70 hr
  exact (js_one (js_ret (jb .tup hgd hu G.n_tuple (ja_c (je_comp rfl sc_middle_in.nd (pim_z3 (by rfl) G.n_zip (ja_c (jv 0) (ja_c (jv 1) (ja_c (jv 2) ja_nil))) (by rfl) (by rfl) (by rfl)) (own := ([("a", 3), ("b", 4), ("c", 5)] : List (Str × Nat))) (blk_of (N := N_middle_in) (sc := defScope (top 14)) (by decide +kernel)) (by decide) (fun _ _ _ _ _ => (jg_unp rfl (jgs_c (jg 3 sc_middle_in.nd) (jgs_c (jg 4 sc_middle_in.nd) (jgs_c (jg 5 sc_middle_in.nd) jgs_nil))) (n := 3) (by rfl) (by rfl) (gl_cons ggo_set (gl_cons ggo_set (gl_cons ggo_set gl_nil))))) (fun _ _ _ _ _ => jts_nil) (fun _ _ _ _ _ => (je_ifx (jt_cmp hu (je_bin (je_bin (jv 3) (jv 4)) (jv 5)) je_int (by first | rfl | exact nomark _)) je_int je_int))) ja_nil))))
theorem w_middle {P : Program} {w : World} {K : PySem.W.Frag} {mg : Str → Option Value} {base : Heap} (G : Glb K mg) (c_middle_in : CalM P w K mg base 1 "middle_in" sp_middle_in []) (c_require_three_points : CalM P w K mg base 7 "require_three_points" sp_require_three_points []) {f : Addr} {cdv : Value} {A : Around} {outer : List Env} {s : Shared} {H : Hp} {EX : XK} {W : Wish} (hr : Room 7 (A.deeper (envOfC "middle" (defScope (top 23)) s.heap.objs.size f cdv))) (hg0 : A.guards = some [])
    (tk : Takes (cxOf (L2.CX P w) P w K mg base N_middle "middle" (defScope (top 23)) f cdv A outer s H EX) (liftW K H W)) : PSs (cxOf (L2.CX P w) P w K mg base N_middle "middle" (defScope (top 23)) f cdv A outer s H EX) (defBody (top 23)) (liftS K H (rd_middle W)) := by
  have hgd : (A.deeper (envOfC "middle" (defScope (top 23)) s.heap.objs.size f cdv)).guards = some [] := hg0
  have hu := hu70 hr
  exact (js_cons (js_expr (je_call c_require_three_points hr (by decide) hgd tk (ja_c (jv 0) (ja_c (jv 1) (ja_c (jv 2) ja_nil))) (by rfl) (by rfl) (by rfl)))
    (js_one (js_ret (je_call c_middle_in hr (by decide) hgd tk (ja_c (jv 0) (ja_c (jv 1) (ja_c (jv 2) ja_nil))) (by rfl) (by rfl) (by rfl)))))
theorem w_spread_points {P : Program} {w : World} {K : PySem.W.Frag} {mg : Str → Option Value} {base : Heap} (G : Glb K mg) {f : Addr} {cdv : Value} {A : Around} {outer : List Env} {s : Shared} {H : Hp} {EX : XK} {W : Wish} (hr : Room 0 (A.deeper (envOfC "spread_points" (defScope (top 16)) s.heap.objs.size f cdv))) (hg0 : A.guards = some [])
    (tk : Takes (cxOf (L2.CX P w) P w K mg base N_spread_points "spread_points" (defScope (top 16)) f cdv A outer s H EX) (liftW K H W)) : PSs (cxOf (L2.CX P w) P w K mg base N_spread_points "spread_points" (defScope (top 16)) f cdv A outer s H EX) (defBody (top 16)) (liftS K H (rd_spread_points W)) := by
  have hgd : (A.deeper (envOfC "spread_points" (defScope (top 16)) s.heap.objs.size f cdv)).guards = some [] := hg0
  have hu := hu70 hr
  exact (js_cons (js_st 2 sc_spread_points.nd (je_lst (ja_c (je_tup ja_nil) ja_nil)))
    (js_cons (js_for (passes_of rfl) rfl (pim_z2 (by rfl) G.n_zip (ja_c (jv 0) (ja_c (jv 1) ja_nil)) (by rfl) (by rfl)) (jg_unp rfl (jgs_c (jg 3 sc_spread_points.nd) (jgs_c (jg 4 sc_spread_points.nd) jgs_nil)) (n := 2) (by rfl) (by rfl) (gl_cons ggo_set (gl_cons ggo_set gl_nil))) (js_cons (js_st 5 sc_spread_points.nd (je_ifx (jt_cmp hu (jv 3) (jv 4) (by first | rfl | exact nomark _)) (je_tup (ja_c (jv 3) ja_nil)) (je_tup (ja_c je_int (ja_c je_int ja_nil)))))
    (js_cons (js_st 6 sc_spread_points.nd (je_lst ja_nil))
    (js_cons (js_for (passes_of rfl) rfl (pim_seq (jv 2)) (jg 7 sc_spread_points.nd) (js_one (js_ext (jv 6) (ja_c (je_comp rfl sc_spread_points.nd (pim_seq (jv 5)) (own := ([("bit", 8)] : List (Str × Nat))) (blk_of (N := N_spread_points) (sc := defScope (top 16)) (by decide +kernel)) (by decide) (fun _ _ _ _ _ => (jg 8 sc_spread_points.nd)) (fun _ _ _ _ _ => jts_nil) (fun _ _ _ _ _ => (je_tup (ja_star (jv 7) (ja_c (jv 8) ja_nil))))) ja_nil))))
    (js_one (js_st 2 sc_spread_points.nd (jv 6)))))))
    (js_one (js_ret (jv 2)))))
theorem w_all_amid {P : Program} {w : World} {K : PySem.W.Frag} {mg : Str → Option Value} {base : Heap} (G : Glb K mg) (c_apart : CalM P w K mg base 2 "apart" sp_apart []) (c_require_two_points : CalM P w K mg base 6 "require_two_points" sp_require_two_points []) (c_spread_points : CalM P w K mg base 1 "spread_points" sp_spread_points []) {f : Addr} {cdv : Value} {A : Around} {outer : List Env} {s : Shared} {H : Hp} {EX : XK} {W : Wish} (hr : Room 6 (A.deeper (envOfC "all_amid" (defScope (top 26)) s.heap.objs.size f cdv))) (hg0 : A.guards = some [])
    (tk : Takes (cxOf (L2.CX P w) P w K mg base N_all_amid "all_amid" (defScope (top 26)) f cdv A outer s H EX) (liftW K H W)) : PSs (cxOf (L2.CX P w) P w K mg base N_all_amid "all_amid" (defScope (top 26)) f cdv A outer s H EX) (defBody (top 26)) (liftS K H (rd_all_amid W)) := by
  have hgd : (A.deeper (envOfC "all_amid" (defScope (top 26)) s.heap.objs.size f cdv)).guards = some [] := hg0
  have hu := hu70 hr
  exact (js_cons (js_expr (je_call c_require_two_points hr (by decide) hgd tk (ja_c (jv 0) (ja_c (jv 1) ja_nil)) (by rfl) (by rfl) (by rfl)))
    (js_cons (js_if (jt_cmp hu (je_bin je_int (je_call c_apart hr (by decide) hgd tk (ja_c (jv 0) (ja_c (jv 1) ja_nil)) (by rfl) (by rfl) (by rfl))) (je_gi G.c_MOST_POINTS) (by first | rfl | exact nomark _)) (js_one js_no) js_nil)
    (js_one (js_ret (jb .tup hgd hu G.n_tuple (ja_c (je_call c_spread_points hr (by decide) hgd tk (ja_c (jv 0) (ja_c (jv 1) ja_nil)) (by rfl) (by rfl) (by rfl)) ja_nil))))))
theorem w_count_amid {P : Program} {w : World} {K : PySem.W.Frag} {mg : Str → Option Value} {base : Heap} (G : Glb K mg) (c_apart : CalM P w K mg base 2 "apart" sp_apart []) (c_require_two_points : CalM P w K mg base 6 "require_two_points" sp_require_two_points []) {f : Addr} {cdv : Value} {A : Around} {outer : List Env} {s : Shared} {H : Hp} {EX : XK} {W : Wish} (hr : Room 6 (A.deeper (envOfC "count_amid" (defScope (top 25)) s.heap.objs.size f cdv))) (hg0 : A.guards = some [])
    (tk : Takes (cxOf (L2.CX P w) P w K mg base N_count_amid "count_amid" (defScope (top 25)) f cdv A outer s H EX) (liftW K H W)) : PSs (cxOf (L2.CX P w) P w K mg base N_count_amid "count_amid" (defScope (top 25)) f cdv A outer s H EX) (defBody (top 25)) (liftS K H (rd_count_amid W)) := by
  have hgd : (A.deeper (envOfC "count_amid" (defScope (top 25)) s.heap.objs.size f cdv)).guards = some [] := hg0
  have hu := hu70 hr
  exact (js_cons (js_expr (je_call c_require_two_points hr (by decide) hgd tk (ja_c (jv 0) (ja_c (jv 1) ja_nil)) (by rfl) (by rfl) (by rfl)))
    (js_one (js_ret (je_bin je_int (je_call c_apart hr (by decide) hgd tk (ja_c (jv 0) (ja_c (jv 1) ja_nil)) (by rfl) (by rfl) (by rfl))))))
theorem w__law_bent_point {P : Program} {w : World} {K : PySem.W.Frag} {mg : Str → Option Value} {base : Heap} (G : Glb K mg) (c__law_roll : CalM P w K mg base 1 "_law_roll" sp__law_roll []) {f : Addr} {cdv : Value} {A : Around} {outer : List Env} {s : Shared} {H : Hp} {EX : XK} {W : Wish} (hr : Room 1 (A.deeper (envOfC "_law_bent_point" (defScope (top 32)) s.heap.objs.size f cdv))) (hg0 : A.guards = some [])
    (tk : Takes (cxOf (L2.CX P w) P w K mg base N__law_bent_point "_law_bent_point" (defScope (top 32)) f cdv A outer s H EX) (liftW K H W)) : PSs (cxOf (L2.CX P w) P w K mg base N__law_bent_point "_law_bent_point" (defScope (top 32)) f cdv A outer s H EX) (defBody (top 32)) (liftS K H (rd__law_bent_point W)) := by
  have hgd : (A.deeper (envOfC "_law_bent_point" (defScope (top 32)) s.heap.objs.size f cdv)).guards = some [] := hg0
  have hu := hu70 hr
  exact (js_cons (js_st 2 sc__law_bent_point.nd (je_comp rfl sc__law_bent_point.nd (pim_rng1 (by rfl) G.n_range (ja_c (je_bin je_int (je_call c__law_roll hr (by decide) hgd tk (ja_c (jv 0) (ja_c je_int ja_nil)) (by rfl) (by rfl) (by rfl))) ja_nil) (by rfl)) (own := ([("turn", 3)] : List (Str × Nat))) (blk_of (N := N__law_bent_point) (sc := defScope (top 32)) (by decide +kernel)) (by decide) (fun _ _ _ _ _ => (jg 3 sc__law_bent_point.nd)) (fun _ _ _ _ _ => jts_nil) (fun _ _ _ _ _ => (je_call c__law_roll hr (by decide) hgd takes_none (ja_c (jv 0) (ja_c (jb .len hgd hu G.n_len (ja_c (jv 1) ja_nil)) ja_nil)) (by rfl) (by rfl) (by rfl)))))
    (js_one (js_ret (jb .tup hgd hu G.n_tuple (ja_c (je_comp rfl sc__law_bent_point.nd (pim_en (by rfl) G.n_enumerate (ja_c (jv 1) ja_nil) (by rfl)) (own := ([("to", 4), ("bit", 5)] : List (Str × Nat))) (blk_of (N := N__law_bent_point) (sc := defScope (top 32)) (by decide +kernel)) (by decide) (fun _ _ _ _ _ => (jg_unp rfl (jgs_c (jg 4 sc__law_bent_point.nd) (jgs_c (jg 5 sc__law_bent_point.nd) jgs_nil)) (n := 2) (by rfl) (by rfl) (gl_cons ggo_set (gl_cons ggo_set gl_nil)))) (fun _ _ _ _ _ => jts_nil) (fun _ _ _ _ _ => (je_ifx (jt_cmp hu (jv 4) (jv 2) (by first | rfl | exact nomark _)) (je_bin je_int (jv 5)) (jv 5)))) ja_nil)))))
theorem w__law_bi_box {P : Program} {w : World} {K : PySem.W.Frag} {mg : Str → Option Value} {base : Heap} (G : Glb K mg) {f : Addr} {cdv : Value} {A : Around} {outer : List Env} {s : Shared} {H : Hp} {EX : XK} {W : Wish} (hr : Room 0 (A.deeper (envOfC "_law_bi_box" (defScope (top 34)) s.heap.objs.size f cdv))) (hg0 : A.guards = some [])
    (tk : Takes (cxOf (L2.CX P w) P w K mg base N__law_bi_box "_law_bi_box" (defScope (top 34)) f cdv A outer s H EX) (liftW K H W)) : PSs (cxOf (L2.CX P w) P w K mg base N__law_bi_box "_law_bi_box" (defScope (top 34)) f cdv A outer s H EX) (defBody (top 34)) (liftS K H (rd__law_bi_box W)) := by
  have hgd : (A.deeper (envOfC "_law_bi_box" (defScope (top 34)) s.heap.objs.size f cdv)).guards = some [] := hg0
  have hu := hu70 hr
  exact (js_cons (js_st 2 sc__law_bi_box.nd (je_lst (ja_c (je_tup ja_nil) ja_nil)))
    (js_cons (js_for (passes_of rfl) rfl (pim_z2 (by rfl) G.n_zip (ja_c (jv 0) (ja_c (jv 1) ja_nil)) (by rfl) (by rfl)) (jg_unp rfl (jgs_c (jg 3 sc__law_bi_box.nd) (jgs_c (jg 4 sc__law_bi_box.nd) jgs_nil)) (n := 2) (by rfl) (by rfl) (gl_cons ggo_set (gl_cons ggo_set gl_nil))) (js_cons (js_st 5 sc__law_bi_box.nd (je_lst ja_nil))
    (js_cons (js_for (passes_of rfl) rfl (pim_seq (jv 2)) (jg 6 sc__law_bi_box.nd) (js_one (js_ext (jv 5) (ja_c (je_comp rfl sc__law_bi_box.nd (pim_seq (je_ifx (jt_cmp hu (jv 3) (jv 4) (by first | rfl | exact nomark _)) (je_tup (ja_c (jv 3) ja_nil)) (je_tup (ja_c je_int (ja_c je_int ja_nil))))) (own := ([("bit", 7)] : List (Str × Nat))) (blk_of (N := N__law_bi_box) (sc := defScope (top 34)) (by decide +kernel)) (by decide) (fun _ _ _ _ _ => (jg 7 sc__law_bi_box.nd)) (fun _ _ _ _ _ => jts_nil) (fun _ _ _ _ _ => (je_bin (jv 6) (je_tup (ja_c (jv 7) ja_nil))))) ja_nil))))
    (js_one (js_st 2 sc__law_bi_box.nd (jv 5))))))
    (js_one (js_ret (jv 2)))))
theorem w__law_middle {P : Program} {w : World} {K : PySem.W.Frag} {mg : Str → Option Value} {base : Heap} (G : Glb K mg) {f : Addr} {cdv : Value} {A : Around} {outer : List Env} {s : Shared} {H : Hp} {EX : XK} {W : Wish} (hr : Room 0 (A.deeper (envOfC "_law_middle" (defScope (top 30)) s.heap.objs.size f cdv))) (hg0 : A.guards = some [])
    (tk : Takes (cxOf (L2.CX P w) P w K mg base N__law_middle "_law_middle" (defScope (top 30)) f cdv A outer s H EX) (liftW K H W)) : PSs (cxOf (L2.CX P w) P w K mg base N__law_middle "_law_middle" (defScope (top 30)) f cdv A outer s H EX) (defBody (top 30)) (liftS K H (rd__law_middle W)) := by
  have hgd : (A.deeper (envOfC "_law_middle" (defScope (top 30)) s.heap.objs.size f cdv)).guards = some [] := hg0
  have hu := hu70 hr
  exact (js_one (js_ret (jb .tup hgd hu G.n_tuple (ja_c (je_comp rfl sc__law_middle.nd (pim_z3 (by rfl) G.n_zip (ja_c (jv 0) (ja_c (jv 1) (ja_c (jv 2) ja_nil))) (by rfl) (by rfl) (by rfl)) (own := ([("x", 3), ("y", 4), ("z", 5)] : List (Str × Nat))) (blk_of (N := N__law_middle) (sc := defScope (top 30)) (by decide +kernel)) (by decide) (fun _ _ _ _ _ => (jg_unp rfl (jgs_c (jg 3 sc__law_middle.nd) (jgs_c (jg 4 sc__law_middle.nd) (jgs_c (jg 5 sc__law_middle.nd) jgs_nil))) (n := 3) (by rfl) (by rfl) (gl_cons ggo_set (gl_cons ggo_set (gl_cons ggo_set gl_nil))))) (fun _ _ _ _ _ => jts_nil) (fun _ _ _ _ _ => (jb .int hgd hu G.n_int (ja_c (je_cmp hu (je_bin (je_bin (jv 3) (jv 4)) (jv 5)) je_int (by first | rfl | exact nomark _)) ja_nil)))) ja_nil))))
theorem w__law_power {P : Program} {w : World} {K : PySem.W.Frag} {mg : Str → Option Value} {base : Heap} (G : Glb K mg) {f : Addr} {cdv : Value} {A : Around} {outer : List Env} {s : Shared} {H : Hp} {EX : XK} {W : Wish} (hr : Room 0 (A.deeper (envOfC "_law_power" (defScope (top 37)) s.heap.objs.size f cdv))) (hg0 : A.guards = some [])
    (tk : Takes (cxOf (L2.CX P w) P w K mg base N__law_power "_law_power" (defScope (top 37)) f cdv A outer s H EX) (liftW K H W)) : PSs (cxOf (L2.CX P w) P w K mg base N__law_power "_law_power" (defScope (top 37)) f cdv A outer s H EX) (defBody (top 37)) (liftS K H (rd__law_power W)) := by
  have hgd : (A.deeper (envOfC "_law_power" (defScope (top 37)) s.heap.objs.size f cdv)).guards = some [] := hg0
  have hu := hu70 hr
  exact (js_cons (js_st 1 sc__law_power.nd je_int)
    (js_cons (js_for (passes_of rfl) rfl (pim_rng1 (by rfl) G.n_range (ja_c (jv 0) ja_nil) (by rfl)) (jg 2 sc__law_power.nd) (js_one (js_st 1 sc__law_power.nd (je_bin je_int (jv 1)))))
    (js_one (js_ret (jv 1)))))
theorem w_between_points {P : Program} {w : World} {K : PySem.W.Frag} {mg : Str → Option Value} {base : Heap} (G : Glb K mg) {f : Addr} {cdv : Value} {A : Around} {outer : List Env} {s : Shared} {H : Hp} {EX : XK} {W : Wish} (hr : Room 0 (A.deeper (envOfC "between_points" (defScope (top 15)) s.heap.objs.size f cdv))) (hg0 : A.guards = some [])
    (tk : Takes (cxOf (L2.CX P w) P w K mg base N_between_points "between_points" (defScope (top 15)) f cdv A outer s H EX) (liftW K H W)) : PSs (cxOf (L2.CX P w) P w K mg base N_between_points "between_points" (defScope (top 15)) f cdv A outer s H EX) (defBody (top 15)) (liftS K H (rd_between_points W)) := by
  have hgd : (A.deeper (envOfC "between_points" (defScope (top 15)) s.heap.objs.size f cdv)).guards = some [] := hg0
  have hu := hu70 hr
  exact (js_one (js_ret (jb .all hgd hu G.n_all (ja_c (je_comp rfl sc_between_points.nd (pim_z3 (by rfl) G.n_zip (ja_c (jv 0) (ja_c (jv 1) (ja_c (jv 2) ja_nil))) (by rfl) (by rfl) (by rfl)) (own := ([("a", 3), ("b", 4), ("c", 5)] : List (Str × Nat))) (blk_of (N := N_between_points) (sc := defScope (top 15)) (by decide +kernel)) (by decide) (fun _ _ _ _ _ => (jg_unp rfl (jgs_c (jg 3 sc_between_points.nd) (jgs_c (jg 4 sc_between_points.nd) (jgs_c (jg 5 sc_between_points.nd) jgs_nil))) (n := 3) (by rfl) (by rfl) (gl_cons ggo_set (gl_cons ggo_set (gl_cons ggo_set gl_nil))))) (fun _ _ _ _ _ => jts_nil) (fun _ _ _ _ _ => (je_or2 (je_cmp hu (jv 3) (jv 4) (by first | rfl | exact nomark _)) (je_one (je_cmp hu (jv 5) (jv 3) (by first | rfl | exact nomark _)))))) ja_nil))))
theorem w_is_amid {P : Program} {w : World} {K : PySem.W.Frag} {mg : Str → Option Value} {base : Heap} (G : Glb K mg) (c_between_points : CalM P w K mg base 1 "between_points" sp_between_points []) (c_require_three_points : CalM P w K mg base 7 "require_three_points" sp_require_three_points []) {f : Addr} {cdv : Value} {A : Around} {outer : List Env} {s : Shared} {H : Hp} {EX : XK} {W : Wish} (hr : Room 7 (A.deeper (envOfC "is_amid" (defScope (top 24)) s.heap.objs.size f cdv))) (hg0 : A.guards = some [])
    (tk : Takes (cxOf (L2.CX P w) P w K mg base N_is_amid "is_amid" (defScope (top 24)) f cdv A outer s H EX) (liftW K H W)) : PSs (cxOf (L2.CX P w) P w K mg base N_is_amid "is_amid" (defScope (top 24)) f cdv A outer s H EX) (defBody (top 24)) (liftS K H (rd_is_amid W)) := by
  have hgd : (A.deeper (envOfC "is_amid" (defScope (top 24)) s.heap.objs.size f cdv)).guards = some [] := hg0
  have hu := hu70 hr
  exact (js_cons (js_expr (je_call c_require_three_points hr (by decide) hgd tk (ja_c (jv 0) (ja_c (jv 1) (ja_c (jv 2) ja_nil))) (by rfl) (by rfl) (by rfl)))
    (js_one (js_ret (je_call c_between_points hr (by decide) hgd tk (ja_c (jv 0) (ja_c (jv 1) (ja_c (jv 2) ja_nil))) (by rfl) (by rfl) (by rfl)))))
theorem w__law_apart {P : Program} {w : World} {K : PySem.W.Frag} {mg : Str → Option Value} {base : Heap} (G : Glb K mg) {f : Addr} {cdv : Value} {A : Around} {outer : List Env} {s : Shared} {H : Hp} {EX : XK} {W : Wish} (hr : Room 0 (A.deeper (envOfC "_law_apart" (defScope (top 31)) s.heap.objs.size f cdv))) (hg0 : A.guards = some [])
    (tk : Takes (cxOf (L2.CX P w) P w K mg base N__law_apart "_law_apart" (defScope (top 31)) f cdv A outer s H EX) (liftW K H W)) : PSs (cxOf (L2.CX P w) P w K mg base N__law_apart "_law_apart" (defScope (top 31)) f cdv A outer s H EX) (defBody (top 31)) (liftS K H (rd__law_apart W)) := by
  have hgd : (A.deeper (envOfC "_law_apart" (defScope (top 31)) s.heap.objs.size f cdv)).guards = some [] := hg0
  have hu := hu70 hr
  exact (js_one (js_ret (jb .len hgd hu G.n_len (ja_c (je_comp rfl sc__law_apart.nd (pim_z2 (by rfl) G.n_zip (ja_c (jv 0) (ja_c (jv 1) ja_nil)) (by rfl) (by rfl)) (own := ([("x", 2), ("y", 3)] : List (Str × Nat))) (blk_of (N := N__law_apart) (sc := defScope (top 31)) (by decide +kernel)) (by decide) (fun _ _ _ _ _ => (jg_unp rfl (jgs_c (jg 2 sc__law_apart.nd) (jgs_c (jg 3 sc__law_apart.nd) jgs_nil)) (n := 2) (by rfl) (by rfl) (gl_cons ggo_set (gl_cons ggo_set gl_nil)))) (fun _ _ _ _ _ => (jts_one (jt_cmp hu (jv 2) (jv 3) (by first | rfl | exact nomark _)))) (fun _ _ _ _ _ => je_int)) ja_nil))))
theorem w_differing {P : Program} {w : World} {K : PySem.W.Frag} {mg : Str → Option Value} {base : Heap} (G : Glb K mg) (c_differing_in : CalM P w K mg base 1 "differing_in" sp_differing_in []) (c_require_two_points : CalM P w K mg base 6 "require_two_points" sp_require_two_points []) {f : Addr} {cdv : Value} {A : Around} {outer : List Env} {s : Shared} {H : Hp} {EX : XK} {W : Wish} (hr : Room 6 (A.deeper (envOfC "differing" (defScope (top 22)) s.heap.objs.size f cdv))) (hg0 : A.guards = some [])
    (tk : Takes (cxOf (L2.CX P w) P w K mg base N_differing "differing" (defScope (top 22)) f cdv A outer s H EX) (liftW K H W)) : PSs (cxOf (L2.CX P w) P w K mg base N_differing "differing" (defScope (top 22)) f cdv A outer s H EX) (defBody (top 22)) (liftS K H (rd_differing W)) := by
  have hgd : (A.deeper (envOfC "differing" (defScope (top 22)) s.heap.objs.size f cdv)).guards = some [] := hg0
  have hu := hu70 hr
  exact (js_cons (js_expr (je_call c_require_two_points hr (by decide) hgd tk (ja_c (jv 0) (ja_c (jv 1) ja_nil)) (by rfl) (by rfl) (by rfl)))
    (js_one (js_ret (je_call c_differing_in hr (by decide) hgd tk (ja_c (jv 0) (ja_c (jv 1) ja_nil)) (by rfl) (by rfl) (by rfl)))))
theorem w__law_differing {P : Program} {w : World} {K : PySem.W.Frag} {mg : Str → Option Value} {base : Heap} (G : Glb K mg) {f : Addr} {cdv : Value} {A : Around} {outer : List Env} {s : Shared} {H : Hp} {EX : XK} {W : Wish} (hr : Room 0 (A.deeper (envOfC "_law_differing" (defScope (top 36)) s.heap.objs.size f cdv))) (hg0 : A.guards = some [])
    (tk : Takes (cxOf (L2.CX P w) P w K mg base N__law_differing "_law_differing" (defScope (top 36)) f cdv A outer s H EX) (liftW K H W)) : PSs (cxOf (L2.CX P w) P w K mg base N__law_differing "_law_differing" (defScope (top 36)) f cdv A outer s H EX) (defBody (top 36)) (liftS K H (rd__law_differing W)) := by
  have hgd : (A.deeper (envOfC "_law_differing" (defScope (top 36)) s.heap.objs.size f cdv)).guards = some [] := hg0
  have hu := hu70 hr
  exact (js_one (js_ret (jb .tup hgd hu G.n_tuple (ja_c (je_comp rfl sc__law_differing.nd (pim_rng1 (by rfl) G.n_range (ja_c (jb .len hgd hu G.n_len (ja_c (jv 0) ja_nil)) ja_nil) (by rfl)) (own := ([("at", 2)] : List (Str × Nat))) (blk_of (N := N__law_differing) (sc := defScope (top 36)) (by decide +kernel)) (by decide) (fun _ _ _ _ _ => (jg 2 sc__law_differing.nd)) (fun _ _ _ _ _ => (jts_one (jt_cmp hu (je_ix (jv 0) (jv 2) (by intro _ _; rfl)) (je_ix (jv 1) (jv 2) (by intro _ _; rfl)) (by first | rfl | exact nomark _)))) (fun _ _ _ _ _ => (jv 2))) ja_nil))))
theorem w__law_three_right {P : Program} {w : World} {K : PySem.W.Frag} {mg : Str → Option Value} {base : Heap} (G : Glb K mg) (c__law_apart : CalM P w K mg base 1 "_law_apart" sp__law_apart []) (c__law_differing : CalM P w K mg base 1 "_law_differing" sp__law_differing []) (c__law_middle : CalM P w K mg base 1 "_law_middle" sp__law_middle []) (c__law_power : CalM P w K mg base 1 "_law_power" sp__law_power []) (c_apart_of : CalM P w K mg base 7 "apart_of" sp_apart_of []) (c_count_amid : CalM P w K mg base 7 "count_amid" sp_count_amid []) (c_differing : CalM P w K mg base 7 "differing" sp_differing []) (c_is_amid : CalM P w K mg base 8 "is_amid" sp_is_amid []) (c_middle : CalM P w K mg base 8 "middle" sp_middle []) {f : Addr} {cdv : Value} {A : Around} {outer : List Env} {s : Shared} {H : Hp} {EX : XK} {W : Wish} (hr : Room 8 (A.deeper (envOfC "_law_three_right" (defScope (top 35)) s.heap.objs.size f cdv))) (hg0 : A.guards = some [])
    (tk : Takes (cxOf (L2.CX P w) P w K mg base N__law_three_right "_law_three_right" (defScope (top 35)) f cdv A outer s H EX) (liftW K H W)) : PSs (cxOf (L2.CX P w) P w K mg base N__law_three_right "_law_three_right" (defScope (top 35)) f cdv A outer s H EX) (defBody (top 35)) (liftS K H (rd__law_three_right W)) := by
  have hgd : (A.deeper (envOfC "_law_three_right" (defScope (top 35)) s.heap.objs.size f cdv)).guards = some [] := hg0
  have hu := hu70 hr
  exact (js_cons (js_if (jt_cmp hu (jb .repr hgd hu G.n_repr (ja_c (je_lst (ja_c (je_call c_apart_of hr (by decide) hgd tk (ja_c (jv 0) (ja_c (jv 1) ja_nil)) (by rfl) (by rfl) (by rfl)) (ja_c (je_call c_differing hr (by decide) hgd tk (ja_c (jv 0) (ja_c (jv 1) ja_nil)) (by rfl) (by rfl) (by rfl)) ja_nil))) ja_nil)) (jb .repr hgd hu G.n_repr (ja_c (je_lst (ja_c (je_call c__law_apart hr (by decide) hgd tk (ja_c (jv 0) (ja_c (jv 1) ja_nil)) (by rfl) (by rfl) (by rfl)) (ja_c (je_call c__law_differing hr (by decide) hgd tk (ja_c (jv 0) (ja_c (jv 1) ja_nil)) (by rfl) (by rfl) (by rfl)) ja_nil))) ja_nil)) (by first | rfl | exact nomark _)) (js_one (js_ret je_bl)) js_nil)
    (js_cons (js_if (jt_cmp hu (je_call c_middle hr (by decide) hgd tk (ja_c (jv 0) (ja_c (jv 1) (ja_c (jv 2) ja_nil))) (by rfl) (by rfl) (by rfl)) (je_call c__law_middle hr (by decide) hgd tk (ja_c (jv 0) (ja_c (jv 1) (ja_c (jv 2) ja_nil))) (by rfl) (by rfl) (by rfl)) (by first | rfl | exact nomark _)) (js_one (js_ret je_bl)) js_nil)
    (js_cons (js_if (jt_cmp hu (jb .repr hgd hu G.n_repr (ja_c (je_call c_is_amid hr (by decide) hgd tk (ja_c (jv 0) (ja_c (jv 1) (ja_c (jv 2) ja_nil))) (by rfl) (by rfl) (by rfl)) ja_nil)) (jb .repr hgd hu G.n_repr (ja_c (je_cmp hu (je_bin (je_call c__law_apart hr (by decide) hgd tk (ja_c (jv 0) (ja_c (jv 2) ja_nil)) (by rfl) (by rfl) (by rfl)) (je_call c__law_apart hr (by decide) hgd tk (ja_c (jv 2) (ja_c (jv 1) ja_nil)) (by rfl) (by rfl) (by rfl))) (je_call c__law_apart hr (by decide) hgd tk (ja_c (jv 0) (ja_c (jv 1) ja_nil)) (by rfl) (by rfl) (by rfl)) (by first | rfl | exact nomark _)) ja_nil)) (by first | rfl | exact nomark _)) (js_one (js_ret je_bl)) js_nil)
    (js_cons (js_if (jt_cmp hu (je_call c_count_amid hr (by decide) hgd tk (ja_c (jv 0) (ja_c (jv 1) ja_nil)) (by rfl) (by rfl) (by rfl)) (je_call c__law_power hr (by decide) hgd tk (ja_c (je_call c__law_apart hr (by decide) hgd tk (ja_c (jv 0) (ja_c (jv 1) ja_nil)) (by rfl) (by rfl) (by rfl)) ja_nil) (by rfl) (by rfl) (by rfl)) (by first | rfl | exact nomark _)) (js_one (js_ret je_bl)) js_nil)
    (js_cons (js_st 3 sc__law_three_right.nd (je_call c_middle hr (by decide) hgd tk (ja_c (jv 0) (ja_c (jv 1) (ja_c (jv 2) ja_nil))) (by rfl) (by rfl) (by rfl)))
    (js_one (js_ret (je_and2 (je_call c_is_amid hr (by decide) hgd tk (ja_c (jv 0) (ja_c (jv 1) (ja_c (jv 3) ja_nil))) (by rfl) (by rfl) (by rfl)) (je_and2 (je_call c_is_amid hr (by decide) hgd tk (ja_c (jv 1) (ja_c (jv 2) (ja_c (jv 3) ja_nil))) (by rfl) (by rfl) (by rfl)) (je_one (je_call c_is_amid hr (by decide) hgd tk (ja_c (jv 2) (ja_c (jv 0) (ja_c (jv 3) ja_nil))) (by rfl) (by rfl) (by rfl))))))))))))
theorem w__law_right {P : Program} {w : World} {K : PySem.W.Frag} {mg : Str → Option Value} {base : Heap} (G : Glb K mg) (c__law_apart : CalM P w K mg base 1 "_law_apart" sp__law_apart []) (c__law_bi_box : CalM P w K mg base 1 "_law_bi_box" sp__law_bi_box []) (c__law_bi_point : CalM P w K mg base 2 "_law_bi_point" sp__law_bi_point []) (c__law_roll : CalM P w K mg base 1 "_law_roll" sp__law_roll []) (c__law_three_right : CalM P w K mg base 9 "_law_three_right" sp__law_three_right []) (c_all_amid : CalM P w K mg base 7 "all_amid" sp_all_amid []) (c_is_amid : CalM P w K mg base 8 "is_amid" sp_is_amid []) (c_middle : CalM P w K mg base 8 "middle" sp_middle []) {f : Addr} {cdv : Value} {A : Around} {outer : List Env} {s : Shared} {H : Hp} {EX : XK} {W : Wish} (hr : Room 9 (A.deeper (envOfC "_law_right" (defScope (top 38)) s.heap.objs.size f cdv))) (hg0 : A.guards = some [])
    (tk : Takes (cxOf (L2.CX P w) P w K mg base N__law_right "_law_right" (defScope (top 38)) f cdv A outer s H EX) (liftW K H W)) : PSs (cxOf (L2.CX P w) P w K mg base N__law_right "_law_right" (defScope (top 38)) f cdv A outer s H EX) (defBody (top 38)) (liftS K H (rd__law_right W)) := by
  have hgd : (A.deeper (envOfC "_law_right" (defScope (top 38)) s.heap.objs.size f cdv)).guards = some [] := hg0
  have hu := hu70 hr
  exact (js_cons (js_st 1 sc__law_right.nd (je_call c__law_roll hr (by decide) hgd tk (ja_c (jv 0) (ja_c je_int ja_nil)) (by rfl) (by rfl) (by rfl)))
    (js_cons (js_asg (je_comp rfl sc__law_right.nd (pim_rng1 (by rfl) G.n_range (ja_c je_int ja_nil) (by rfl)) (own := ([("turn", 8)] : List (Str × Nat))) (blk_of (N := N__law_right) (sc := defScope (top 38)) (by decide +kernel)) (by decide) (fun _ _ _ _ _ => (jg 8 sc__law_right.nd)) (fun _ _ _ _ _ => jts_nil) (fun _ _ _ _ _ => (je_call c__law_bi_point hr (by decide) hgd takes_none (ja_c (jv 0) (ja_c (jv 1) ja_nil)) (by rfl) (by rfl) (by rfl)))) (jg_unp rfl (jgs_c (jg 2 sc__law_right.nd) (jgs_c (jg 3 sc__law_right.nd) (jgs_c (jg 4 sc__law_right.nd) (jgs_c (jg 5 sc__law_right.nd) jgs_nil)))) (n := 4) (by rfl) (by rfl) (gl_cons ggo_set (gl_cons ggo_set (gl_cons ggo_set (gl_cons ggo_set gl_nil))))))
    (js_cons (js_if (jw_or2 (jt_not (jt_tr (je_call c__law_three_right hr (by decide) hgd tk (ja_c (jv 2) (ja_c (jv 3) (ja_c (jv 4) ja_nil))) (by rfl) (by rfl) (by rfl)))) (jw_or2 (jt_not (jt_tr (je_call c__law_three_right hr (by decide) hgd tk (ja_c (jv 2) (ja_c (jv 2) (ja_c (jv 3) ja_nil))) (by rfl) (by rfl) (by rfl)))) (jw_or1 (jt_not (jt_tr (je_call c__law_three_right hr (by decide) hgd tk (ja_c (jv 4) (ja_c (jv 5) (ja_c (jv 2) ja_nil))) (by rfl) (by rfl) (by rfl))))))).pt (js_one (js_ret je_bl)) js_nil)
    (js_cons (js_st 6 sc__law_right.nd (je_call c__law_bi_box hr (by decide) hgd tk (ja_c (jv 2) (ja_c (jv 3) ja_nil)) (by rfl) (by rfl) (by rfl)))
    (js_cons (js_if (jw_or2 (jt_cmp hu (je_call c_all_amid hr (by decide) hgd tk (ja_c (jv 2) (ja_c (jv 3) ja_nil)) (by rfl) (by rfl) (by rfl)) (jb .tup hgd hu G.n_tuple (ja_c (jv 6) ja_nil)) (by first | rfl | exact nomark _)) (jw_or1 (jt_cmp hu (je_comp rfl sc__law_right.nd (pim_seq (jv 6)) (own := ([("one", 9)] : List (Str × Nat))) (blk_of (N := N__law_right) (sc := defScope (top 38)) (by decide +kernel)) (by decide) (fun _ _ _ _ _ => (jg 9 sc__law_right.nd)) (fun _ _ _ _ _ => (jts_one (jt_cmp hu (je_call c_is_amid hr (by decide) hgd takes_none (ja_c (jv 2) (ja_c (jv 3) (ja_c (jv 9) ja_nil))) (by rfl) (by rfl) (by rfl)) je_bl (by first | rfl | exact nomark _)))) (fun _ _ _ _ _ => (jv 9))) (je_lst ja_nil) (by first | rfl | exact nomark _)))).pt (js_one (js_ret je_bl)) js_nil)
    (js_cons (js_setLc rfl sc__law_right.nd (by rfl) (by rfl) (sw_true (by rfl) (by rfl) (by rfl) (by decide +kernel)) (pim_seq (jv 6)) (own := ([("one", 9)] : List (Str × Nat))) (blk_of (N := N__law_right) (sc := defScope (top 38)) (by decide +kernel)) (by decide) (fun _ _ _ _ _ => (jg 9 sc__law_right.nd)) (fun _ _ _ _ _ => (jts_one (jt_cmp hu (je_bin (je_call c__law_apart hr (by decide) hgd takes_none (ja_c (jv 3) (ja_c (jv 9) ja_nil)) (by rfl) (by rfl) (by rfl)) (je_call c__law_apart hr (by decide) hgd takes_none (ja_c (jv 9) (ja_c (jv 4) ja_nil)) (by rfl) (by rfl) (by rfl))) (je_call c__law_apart hr (by decide) hgd takes_none (ja_c (jv 3) (ja_c (jv 4) ja_nil)) (by rfl) (by rfl) (by rfl)) (by first | rfl | exact nomark _)))) (fun _ _ _ _ _ => (jv 9)))
    (js_cons (js_if (jt_cmp hu (je_comp rfl sc__law_right.nd (pim_seq (jv 7)) (own := ([("one", 9)] : List (Str × Nat))) (blk_of (N := N__law_right) (sc := defScope (top 38)) (by decide +kernel)) (by decide) (fun _ _ _ _ _ => (jg 9 sc__law_right.nd)) (fun _ _ _ _ _ => (jts_one (jt_cmp hu (je_bin (je_call c__law_apart hr (by decide) hgd takes_none (ja_c (jv 2) (ja_c (jv 9) ja_nil)) (by rfl) (by rfl) (by rfl)) (je_call c__law_apart hr (by decide) hgd takes_none (ja_c (jv 9) (ja_c (jv 4) ja_nil)) (by rfl) (by rfl) (by rfl))) (je_call c__law_apart hr (by decide) hgd takes_none (ja_c (jv 2) (ja_c (jv 4) ja_nil)) (by rfl) (by rfl) (by rfl)) (by first | rfl | exact nomark _)))) (fun _ _ _ _ _ => (jv 9))) (je_lst (ja_c (je_call c_middle hr (by decide) hgd tk (ja_c (jv 2) (ja_c (jv 3) (ja_c (jv 4) ja_nil))) (by rfl) (by rfl) (by rfl)) ja_nil)) (by first | rfl | exact nomark _)) (js_one (js_ret je_bl)) js_nil)
    (js_cons (js_if (jt_cmp hu (je_call c_middle hr (by decide) hgd tk (ja_c (je_call c_middle hr (by decide) hgd tk (ja_c (jv 2) (ja_c (jv 3) (ja_c (jv 4) ja_nil))) (by rfl) (by rfl) (by rfl)) (ja_c (jv 3) (ja_c (jv 5) ja_nil))) (by rfl) (by rfl) (by rfl)) (je_call c_middle hr (by decide) hgd tk (ja_c (jv 2) (ja_c (jv 3) (ja_c (je_call c_middle hr (by decide) hgd tk (ja_c (jv 4) (ja_c (jv 3) (ja_c (jv 5) ja_nil))) (by rfl) (by rfl) (by rfl)) ja_nil))) (by rfl) (by rfl) (by rfl)) (by first | rfl | exact nomark _)) (js_one (js_ret je_bl)) js_nil)
    (js_one (js_ret (je_cmp hu (je_call c_middle hr (by decide) hgd tk (ja_c (jv 2) (ja_c (jv 3) (ja_c (je_call c_middle hr (by decide) hgd tk (ja_c (jv 4) (ja_c (jv 5) (ja_c (jv 2) ja_nil))) (by rfl) (by rfl) (by rfl)) ja_nil))) (by rfl) (by rfl) (by rfl)) (je_call c_middle hr (by decide) hgd tk (ja_c (je_call c_middle hr (by decide) hgd tk (ja_c (jv 2) (ja_c (jv 3) (ja_c (jv 4) ja_nil))) (by rfl) (by rfl) (by rfl)) (ja_c (je_call c_middle hr (by decide) hgd tk (ja_c (jv 2) (ja_c (jv 3) (ja_c (jv 5) ja_nil))) (by rfl) (by rfl) (by rfl)) (ja_c (jv 2) ja_nil))) (by rfl) (by rfl) (by rfl)) (by first | rfl | exact nomark _))))))))))))
theorem w_law {P : Program} {w : World} {K : PySem.W.Frag} {mg : Str → Option Value} {base : Heap} (G : Glb K mg) (c__law_bent_point : CalM P w K mg base 2 "_law_bent_point" sp__law_bent_point []) (c__law_bi_box : CalM P w K mg base 1 "_law_bi_box" sp__law_bi_box []) (c__law_bi_point : CalM P w K mg base 2 "_law_bi_point" sp__law_bi_point []) (c__law_dice : CalM P w K mg base 1 "_law_dice" sp__law_dice []) (c__law_right : CalM P w K mg base 10 "_law_right" sp__law_right []) (c__law_roll : CalM P w K mg base 1 "_law_roll" sp__law_roll []) (c__law_three_right : CalM P w K mg base 9 "_law_three_right" sp__law_three_right []) (c_all_amid : CalM P w K mg base 7 "all_amid" sp_all_amid []) (c_apart_of : CalM P w K mg base 7 "apart_of" sp_apart_of []) (c_count_amid : CalM P w K mg base 7 "count_amid" sp_count_amid []) (c_middle : CalM P w K mg base 8 "middle" sp_middle []) {f : Addr} {cdv : Value} {A : Around} {outer : List Env} {s : Shared} {H : Hp} {EX : XK} {W : Wish} (hr : Room 10 (A.deeper (envOfC "law" (defScope (top 39)) s.heap.objs.size f cdv))) (hg0 : A.guards = some [])
    (tk : Takes (cxOf (L2.CX P w) P w K mg base N_law "law" (defScope (top 39)) f cdv A outer s H EX) (liftW K H W)) : PSs (cxOf (L2.CX P w) P w K mg base N_law "law" (defScope (top 39)) f cdv A outer s H EX) (defBody (top 39)) (liftS K H (rd_law W)) := by
  have hgd : (A.deeper (envOfC "law" (defScope (top 39)) s.heap.objs.size f cdv)).guards = some [] := hg0
  have hu := hu70 hr
  exact (js_cons (js_for (passes_of rfl) rfl (pim_rng1 (by rfl) G.n_range (ja_c (jb .max hgd hu G.n_max (ja_c je_int (ja_c (jb .min hgd hu G.n_min (ja_c je_int (ja_c (jb .len hgd hu G.n_len (ja_c (jv 0) ja_nil)) ja_nil))) ja_nil))) ja_nil) (by rfl)) (jg 1 sc_law.nd) (js_cons (js_st 2 sc_law.nd (je_call c__law_dice hr (by decide) hgd tk (ja_c (jv 0) (ja_c (jv 1) ja_nil)) (by rfl) (by rfl) (by rfl)))
    (js_cons (js_for (passes_of rfl) rfl (pim_rng1 (by rfl) G.n_range (ja_c je_int ja_nil) (by rfl)) (jg 3 sc_law.nd) (js_one (js_if (jt_not (jt_tr (je_call c__law_right hr (by decide) hgd tk (ja_c (jv 2) ja_nil) (by rfl) (by rfl) (by rfl)))) (js_one (js_ret je_bl)) js_nil)))
    (js_cons (js_st 4 sc_law.nd (je_bin je_int (je_call c__law_roll hr (by decide) hgd tk (ja_c (jv 2) (ja_c je_int ja_nil)) (by rfl) (by rfl) (by rfl))))
    (js_cons (js_st 5 sc_law.nd (je_call c__law_bi_point hr (by decide) hgd tk (ja_c (jv 2) (ja_c (jv 4) ja_nil)) (by rfl) (by rfl) (by rfl)))
    (js_cons (js_par (i := 6) (j := 7) rfl sc_law.nd (by rfl) (by rfl) (by decide) (by rfl) (by rfl) (ja_c (je_call c__law_bent_point hr (by decide) hgd tk (ja_c (jv 2) (ja_c (jv 5) ja_nil)) (by rfl) (by rfl) (by rfl)) (ja_c (je_call c__law_bi_point hr (by decide) hgd tk (ja_c (jv 2) (ja_c (jv 4) ja_nil)) (by rfl) (by rfl) (by rfl)) ja_nil)) (by rfl) (by rfl))
    (js_cons (js_if (jw_or2 (jt_not (jt_tr (je_call c__law_three_right hr (by decide) hgd tk (ja_c (jv 5) (ja_c (jv 7) (ja_c (jv 6) ja_nil))) (by rfl) (by rfl) (by rfl)))) (jw_or1 (jt_not (jt_tr (je_call c__law_three_right hr (by decide) hgd tk (ja_c (jv 5) (ja_c (jv 6) (ja_c (jv 7) ja_nil))) (by rfl) (by rfl) (by rfl)))))).pt (js_one (js_ret je_bl)) js_nil)
    (js_one (js_if (jt_cmp hu (je_call c_all_amid hr (by decide) hgd tk (ja_c (jv 5) (ja_c (jv 6) ja_nil)) (by rfl) (by rfl) (by rfl)) (jb .tup hgd hu G.n_tuple (ja_c (je_call c__law_bi_box hr (by decide) hgd tk (ja_c (jv 5) (ja_c (jv 6) ja_nil)) (by rfl) (by rfl) (by rfl)) ja_nil)) (by first | rfl | exact nomark _)) (js_one (js_ret je_bl)) js_nil)))))))))
    (js_cons (js_st 8 sc_law.nd (je_lst (ja_c (je_call c_apart_of hr (by decide) hgd tk (ja_c (je_tup ja_nil) (ja_c (je_tup ja_nil) ja_nil)) (by rfl) (by rfl) (by rfl)) (ja_c (je_call c_middle hr (by decide) hgd tk (ja_c (je_tup ja_nil) (ja_c (je_tup ja_nil) (ja_c (je_tup ja_nil) ja_nil))) (by rfl) (by rfl) (by rfl)) (ja_c (je_call c_all_amid hr (by decide) hgd tk (ja_c (je_tup ja_nil) (ja_c (je_tup ja_nil) ja_nil)) (by rfl) (by rfl) (by rfl)) (ja_c (je_call c_count_amid hr (by decide) hgd tk (ja_c (je_bin (je_tup (ja_c je_int ja_nil)) je_int) (ja_c (je_bin (je_tup (ja_c je_int ja_nil)) je_int) ja_nil)) (by rfl) (by rfl) (by rfl)) ja_nil))))))
    (js_one (js_ret (je_cmp hu (jv 8) (je_lst (ja_c je_int (ja_c (je_tup ja_nil) (ja_c (je_tup (ja_c (je_tup ja_nil) ja_nil)) (ja_c je_int ja_nil))))) (by first | rfl | exact nomark _))))))
end L01
set_option Elab.async false
set_option maxRecDepth 100000
set_option linter.unusedVariables false
set_option linter.unusedSimpArgs false
set_option maxHeartbeats 2000000
namespace L01
open PySem PySem.Spec PyProof.Rows L2 M
section
variable {P : Program} {w : World} {K : PySem.W.Frag} {mg : Str → Option Value} {base : Heap}
theorem ok__law_dice (G : Glb K mg) : CalM P w K mg base 1 "_law_dice" sp__law_dice [] :=
  cal_mk G.d__law_dice sc__law_dice (by intro ts S q E h; unfold sp__law_dice at h; repeat first | (obtain ⟨rfl, _⟩ := h; rfl) | obtain ⟨_, h⟩ := h) rd__law_dice (fun f cdv A outer s H EX W hr hg tk => w__law_dice G hr hg tk) m__law_dice
theorem ok__law_roll (G : Glb K mg) : CalM P w K mg base 1 "_law_roll" sp__law_roll [] :=
  cal_mk G.d__law_roll sc__law_roll (by intro ts S q E h; unfold sp__law_roll at h; repeat first | (obtain ⟨rfl, _⟩ := h; rfl) | obtain ⟨_, h⟩ := h) rd__law_roll (fun f cdv A outer s H EX W hr hg tk => w__law_roll G hr hg tk) m__law_roll
theorem ok__law_bi_point (G : Glb K mg) : CalM P w K mg base 2 "_law_bi_point" sp__law_bi_point [] :=
  cal_mk G.d__law_bi_point sc__law_bi_point (by intro ts S q E h; unfold sp__law_bi_point at h; repeat first | (obtain ⟨rfl, _⟩ := h; rfl) | obtain ⟨_, h⟩ := h) rd__law_bi_point (fun f cdv A outer s H EX W hr hg tk => w__law_bi_point G (ok__law_roll G) hr hg tk) m__law_bi_point
theorem ok_is_whole (G : Glb K mg) : CalM P w K mg base 1 "is_whole" sp_is_whole [] :=
  cal_mk G.d_is_whole sc_is_whole (by intro ts S q E h; unfold sp_is_whole at h; repeat first | (obtain ⟨rfl, _⟩ := h; rfl) | obtain ⟨_, h⟩ := h) rd_is_whole (fun f cdv A outer s H EX W hr hg tk => w_is_whole G hr hg tk) m_is_whole
theorem ok_is_within (G : Glb K mg) : CalM P w K mg base 2 "is_within" sp_is_within [] :=
  cal_mk G.d_is_within sc_is_within (by intro ts S q E h; unfold sp_is_within at h; repeat first | (obtain ⟨rfl, _⟩ := h; rfl) | obtain ⟨_, h⟩ := h) rd_is_within (fun f cdv A outer s H EX W hr hg tk => w_is_within G (ok_is_whole G) hr hg tk) m_is_within
theorem ok_is_point_in (G : Glb K mg) : CalM P w K mg base 3 "is_point_in" sp_is_point_in [] :=
  cal_mk G.d_is_point_in sc_is_point_in (by intro ts S q E h; unfold sp_is_point_in at h; repeat first | (obtain ⟨rfl, _⟩ := h; rfl) | obtain ⟨_, h⟩ := h) rd_is_point_in (fun f cdv A outer s H EX W hr hg tk => w_is_point_in G (ok_is_within G) hr hg tk) m_is_point_in
theorem ok_require_point (G : Glb K mg) : CalM P w K mg base 4 "require_point" sp_require_point [] :=
  cal_mk G.d_require_point sc_require_point (by intro ts S q E h; unfold sp_require_point at h; repeat first | (obtain ⟨rfl, _⟩ := h; rfl) | obtain ⟨_, h⟩ := h) rd_require_point (fun f cdv A outer s H EX W hr hg tk => w_require_point G (ok_is_point_in G) hr hg tk) m_require_point
theorem ok_is_wide (G : Glb K mg) : CalM P w K mg base 4 "is_wide" sp_is_wide [] :=
  cal_mk G.d_is_wide sc_is_wide (by intro ts S q E h; unfold sp_is_wide at h; repeat first | (obtain ⟨rfl, _⟩ := h; rfl) | obtain ⟨_, h⟩ := h) rd_is_wide (fun f cdv A outer s H EX W hr hg tk => w_is_wide G (ok_is_point_in G) hr hg tk) m_is_wide
theorem ok_require_like (G : Glb K mg) : CalM P w K mg base 5 "require_like" sp_require_like [] :=
  cal_mk G.d_require_like sc_require_like (by intro ts S q E h; unfold sp_require_like at h; repeat first | (obtain ⟨rfl, _⟩ := h; rfl) | obtain ⟨_, h⟩ := h) rd_require_like (fun f cdv A outer s H EX W hr hg tk => w_require_like G (ok_is_wide G) hr hg tk) m_require_like
theorem ok_require_two_points (G : Glb K mg) : CalM P w K mg base 6 "require_two_points" sp_require_two_points [] :=
  cal_mk G.d_require_two_points sc_require_two_points (by intro ts S q E h; unfold sp_require_two_points at h; repeat first | (obtain ⟨rfl, _⟩ := h; rfl) | obtain ⟨_, h⟩ := h) rd_require_two_points (fun f cdv A outer s H EX W hr hg tk => w_require_two_points G (ok_require_like G) (ok_require_point G) hr hg tk) m_require_two_points
theorem ok_differing_in (G : Glb K mg) : CalM P w K mg base 1 "differing_in" sp_differing_in [] :=
  cal_mk G.d_differing_in sc_differing_in (by intro ts S q E h; unfold sp_differing_in at h; repeat first | (obtain ⟨rfl, _⟩ := h; rfl) | obtain ⟨_, h⟩ := h) rd_differing_in (fun f cdv A outer s H EX W hr hg tk => w_differing_in G hr hg tk) m_differing_in
theorem ok_apart (G : Glb K mg) : CalM P w K mg base 2 "apart" sp_apart [] :=
  cal_mk G.d_apart sc_apart (by intro ts S q E h; unfold sp_apart at h; repeat first | (obtain ⟨rfl, _⟩ := h; rfl) | obtain ⟨_, h⟩ := h) rd_apart (fun f cdv A outer s H EX W hr hg tk => w_apart G (ok_differing_in G) hr hg tk) m_apart
theorem ok_apart_of (G : Glb K mg) : CalM P w K mg base 7 "apart_of" sp_apart_of [] :=
  cal_mk G.d_apart_of sc_apart_of (by intro ts S q E h; unfold sp_apart_of at h; repeat first | (obtain ⟨rfl, _⟩ := h; rfl) | obtain ⟨_, h⟩ := h) rd_apart_of (fun f cdv A outer s H EX W hr hg tk => w_apart_of G (ok_apart G) (ok_require_two_points G) hr hg tk) m_apart_of
theorem ok_require_three_points (G : Glb K mg) : CalM P w K mg base 7 "require_three_points" sp_require_three_points [] :=
  cal_mk G.d_require_three_points sc_require_three_points (by intro ts S q E h; unfold sp_require_three_points at h; repeat first | (obtain ⟨rfl, _⟩ := h; rfl) | obtain ⟨_, h⟩ := h) rd_require_three_points (fun f cdv A outer s H EX W hr hg tk => w_require_three_points G (ok_require_like G) (ok_require_two_points G) hr hg tk) m_require_three_points
theorem ok_middle_in (G : Glb K mg) : CalM P w K mg base 1 "middle_in" sp_middle_in [] :=
  cal_mk G.d_middle_in sc_middle_in (by intro ts S q E h; unfold sp_middle_in at h; repeat first | (obtain ⟨rfl, _⟩ := h; rfl) | obtain ⟨_, h⟩ := h) rd_middle_in (fun f cdv A outer s H EX W hr hg tk => w_middle_in G hr hg tk) m_middle_in
theorem ok_middle (G : Glb K mg) : CalM P w K mg base 8 "middle" sp_middle [] :=
  cal_mk G.d_middle sc_middle (by intro ts S q E h; unfold sp_middle at h; repeat first | (obtain ⟨rfl, _⟩ := h; rfl) | obtain ⟨_, h⟩ := h) rd_middle (fun f cdv A outer s H EX W hr hg tk => w_middle G (ok_middle_in G) (ok_require_three_points G) hr hg tk) m_middle
theorem ok_spread_points (G : Glb K mg) : CalM P w K mg base 1 "spread_points" sp_spread_points [] :=
  cal_mk G.d_spread_points sc_spread_points (by intro ts S q E h; unfold sp_spread_points at h; repeat first | (obtain ⟨rfl, _⟩ := h; rfl) | obtain ⟨_, h⟩ := h) rd_spread_points (fun f cdv A outer s H EX W hr hg tk => w_spread_points G hr hg tk) m_spread_points
theorem ok_all_amid (G : Glb K mg) : CalM P w K mg base 7 "all_amid" sp_all_amid [] :=
  cal_mk G.d_all_amid sc_all_amid (by intro ts S q E h; unfold sp_all_amid at h; repeat first | (obtain ⟨rfl, _⟩ := h; rfl) | obtain ⟨_, h⟩ := h) rd_all_amid (fun f cdv A outer s H EX W hr hg tk => w_all_amid G (ok_apart G) (ok_require_two_points G) (ok_spread_points G) hr hg tk) m_all_amid
theorem ok_count_amid (G : Glb K mg) : CalM P w K mg base 7 "count_amid" sp_count_amid [] :=
  cal_mk G.d_count_amid sc_count_amid (by intro ts S q E h; unfold sp_count_amid at h; repeat first | (obtain ⟨rfl, _⟩ := h; rfl) | obtain ⟨_, h⟩ := h) rd_count_amid (fun f cdv A outer s H EX W hr hg tk => w_count_amid G (ok_apart G) (ok_require_two_points G) hr hg tk) m_count_amid
theorem ok__law_bent_point (G : Glb K mg) : CalM P w K mg base 2 "_law_bent_point" sp__law_bent_point [] :=
  cal_mk G.d__law_bent_point sc__law_bent_point (by intro ts S q E h; unfold sp__law_bent_point at h; repeat first | (obtain ⟨rfl, _⟩ := h; rfl) | obtain ⟨_, h⟩ := h) rd__law_bent_point (fun f cdv A outer s H EX W hr hg tk => w__law_bent_point G (ok__law_roll G) hr hg tk) m__law_bent_point
theorem ok__law_bi_box (G : Glb K mg) : CalM P w K mg base 1 "_law_bi_box" sp__law_bi_box [] :=
  cal_mk G.d__law_bi_box sc__law_bi_box (by intro ts S q E h; unfold sp__law_bi_box at h; repeat first | (obtain ⟨rfl, _⟩ := h; rfl) | obtain ⟨_, h⟩ := h) rd__law_bi_box (fun f cdv A outer s H EX W hr hg tk => w__law_bi_box G hr hg tk) m__law_bi_box
theorem ok__law_middle (G : Glb K mg) : CalM P w K mg base 1 "_law_middle" sp__law_middle [] :=
  cal_mk G.d__law_middle sc__law_middle (by intro ts S q E h; unfold sp__law_middle at h; repeat first | (obtain ⟨rfl, _⟩ := h; rfl) | obtain ⟨_, h⟩ := h) rd__law_middle (fun f cdv A outer s H EX W hr hg tk => w__law_middle G hr hg tk) m__law_middle
theorem ok__law_power (G : Glb K mg) : CalM P w K mg base 1 "_law_power" sp__law_power [] :=
  cal_mk G.d__law_power sc__law_power (by intro ts S q E h; unfold sp__law_power at h; repeat first | (obtain ⟨rfl, _⟩ := h; rfl) | obtain ⟨_, h⟩ := h) rd__law_power (fun f cdv A outer s H EX W hr hg tk => w__law_power G hr hg tk) m__law_power
theorem ok_between_points (G : Glb K mg) : CalM P w K mg base 1 "between_points" sp_between_points [] :=
  cal_mk G.d_between_points sc_between_points (by intro ts S q E h; unfold sp_between_points at h; repeat first | (obtain ⟨rfl, _⟩ := h; rfl) | obtain ⟨_, h⟩ := h) rd_between_points (fun f cdv A outer s H EX W hr hg tk => w_between_points G hr hg tk) m_between_points
theorem ok_is_amid (G : Glb K mg) : CalM P w K mg base 8 "is_amid" sp_is_amid [] :=
  cal_mk G.d_is_amid sc_is_amid (by intro ts S q E h; unfold sp_is_amid at h; repeat first | (obtain ⟨rfl, _⟩ := h; rfl) | obtain ⟨_, h⟩ := h) rd_is_amid (fun f cdv A outer s H EX W hr hg tk => w_is_amid G (ok_between_points G) (ok_require_three_points G) hr hg tk) m_is_amid
theorem ok__law_apart (G : Glb K mg) : CalM P w K mg base 1 "_law_apart" sp__law_apart [] :=
  cal_mk G.d__law_apart sc__law_apart (by intro ts S q E h; unfold sp__law_apart at h; repeat first | (obtain ⟨rfl, _⟩ := h; rfl) | obtain ⟨_, h⟩ := h) rd__law_apart (fun f cdv A outer s H EX W hr hg tk => w__law_apart G hr hg tk) m__law_apart
theorem ok_differing (G : Glb K mg) : CalM P w K mg base 7 "differing" sp_differing [] :=
  cal_mk G.d_differing sc_differing (by intro ts S q E h; unfold sp_differing at h; repeat first | (obtain ⟨rfl, _⟩ := h; rfl) | obtain ⟨_, h⟩ := h) rd_differing (fun f cdv A outer s H EX W hr hg tk => w_differing G (ok_differing_in G) (ok_require_two_points G) hr hg tk) m_differing
theorem ok__law_differing (G : Glb K mg) : CalM P w K mg base 1 "_law_differing" sp__law_differing [] :=
  cal_mk G.d__law_differing sc__law_differing (by intro ts S q E h; unfold sp__law_differing at h; repeat first | (obtain ⟨rfl, _⟩ := h; rfl) | obtain ⟨_, h⟩ := h) rd__law_differing (fun f cdv A outer s H EX W hr hg tk => w__law_differing G hr hg tk) m__law_differing
theorem ok__law_three_right (G : Glb K mg) : CalM P w K mg base 9 "_law_three_right" sp__law_three_right [] :=
  cal_mk G.d__law_three_right sc__law_three_right (by intro ts S q E h; unfold sp__law_three_right at h; repeat first | (obtain ⟨rfl, _⟩ := h; rfl) | obtain ⟨_, h⟩ := h) rd__law_three_right (fun f cdv A outer s H EX W hr hg tk => w__law_three_right G (ok__law_apart G) (ok__law_differing G) (ok__law_middle G) (ok__law_power G) (ok_apart_of G) (ok_count_amid G) (ok_differing G) (ok_is_amid G) (ok_middle G) hr hg tk) m__law_three_right
theorem ok__law_right (G : Glb K mg) : CalM P w K mg base 10 "_law_right" sp__law_right [] :=
  cal_mk G.d__law_right sc__law_right (by intro ts S q E h; unfold sp__law_right at h; repeat first | (obtain ⟨rfl, _⟩ := h; rfl) | obtain ⟨_, h⟩ := h) rd__law_right (fun f cdv A outer s H EX W hr hg tk => w__law_right G (ok__law_apart G) (ok__law_bi_box G) (ok__law_bi_point G) (ok__law_roll G) (ok__law_three_right G) (ok_all_amid G) (ok_is_amid G) (ok_middle G) hr hg tk) m__law_right
theorem law_fin {fa : Addr} (G : Glb K mg) (hfa : mg "law" = some (.ref fa)) : ∃ fd : FuncData, (∀ (s : Shared) (u : Value), BindsTo s fd ⟨[u], []⟩ [("script", u)]) ∧ ∀ base : Heap, K.In base → base.Ns mainGlobals mg → FnM P w K mg base 11 fa fd ["script"] spLawM :=
  law_mk G.d_law hfa sc_law rd_law (fun _ _ _ _ _ _ _ => rfl) (fun base h1 h2 f cdv A outer s H EX W hr hg tk => w_law G (ok__law_bent_point G) (ok__law_bi_box G) (ok__law_bi_point G) (ok__law_dice G) (ok__law_right G) (ok__law_roll G) (ok__law_three_right G) (ok_all_amid G) (ok_apart_of G) (ok_count_amid G) (ok_middle G) hr hg tk) m_law
end
theorem bd__law_dice : ∀ (kV doc pm : Value) (an : Option Addr) (cdv ct : Value) (us : List Value), us.length = (["script", "spot"] : List Str).length → bindArgs (PySem.W.fnOf "_law_dice" "_law_dice" (defArgs (top 28)) (defBody (top 28)) (defScope (top 28)) .none kV doc pm an cdv ct) ⟨us, []⟩ = pure ((["script", "spot"] : List Str).zip us) := fun _ _ _ _ _ _ us hl => match us, hl with | [_, _], _ => rfl
theorem bd__law_roll : ∀ (kV doc pm : Value) (an : Option Addr) (cdv ct : Value) (us : List Value), us.length = (["dice", "total"] : List Str).length → bindArgs (PySem.W.fnOf "_law_roll" "_law_roll" (defArgs (top 29)) (defBody (top 29)) (defScope (top 29)) .none kV doc pm an cdv ct) ⟨us, []⟩ = pure ((["dice", "total"] : List Str).zip us) := fun _ _ _ _ _ _ us hl => match us, hl with | [_, _], _ => rfl
theorem bd__law_bi_point : ∀ (kV doc pm : Value) (an : Option Addr) (cdv ct : Value) (us : List Value), us.length = (["dice", "d"] : List Str).length → bindArgs (PySem.W.fnOf "_law_bi_point" "_law_bi_point" (defArgs (top 33)) (defBody (top 33)) (defScope (top 33)) .none kV doc pm an cdv ct) ⟨us, []⟩ = pure ((["dice", "d"] : List Str).zip us) := fun _ _ _ _ _ _ us hl => match us, hl with | [_, _], _ => rfl
theorem bd_is_whole : ∀ (kV doc pm : Value) (an : Option Addr) (cdv ct : Value) (us : List Value), us.length = (["value"] : List Str).length → bindArgs (PySem.W.fnOf "is_whole" "is_whole" (defArgs (top 5)) (defBody (top 5)) (defScope (top 5)) .none kV doc pm an cdv ct) ⟨us, []⟩ = pure ((["value"] : List Str).zip us) := fun _ _ _ _ _ _ us hl => match us, hl with | [_], _ => rfl
theorem bd_is_within : ∀ (kV doc pm : Value) (an : Option Addr) (cdv ct : Value) (us : List Value), us.length = (["value", "least", "most"] : List Str).length → bindArgs (PySem.W.fnOf "is_within" "is_within" (defArgs (top 6)) (defBody (top 6)) (defScope (top 6)) .none kV doc pm an cdv ct) ⟨us, []⟩ = pure ((["value", "least", "most"] : List Str).zip us) := fun _ _ _ _ _ _ us hl => match us, hl with | [_, _, _], _ => rfl
theorem bd_is_point_in : ∀ (kV doc pm : Value) (an : Option Addr) (cdv ct : Value) (us : List Value), us.length = (["value"] : List Str).length → bindArgs (PySem.W.fnOf "is_point_in" "is_point_in" (defArgs (top 10)) (defBody (top 10)) (defScope (top 10)) .none kV doc pm an cdv ct) ⟨us, []⟩ = pure ((["value"] : List Str).zip us) := fun _ _ _ _ _ _ us hl => match us, hl with | [_], _ => rfl
theorem bd_require_point : ∀ (kV doc pm : Value) (an : Option Addr) (cdv ct : Value) (us : List Value), us.length = (["value"] : List Str).length → bindArgs (PySem.W.fnOf "require_point" "require_point" (defArgs (top 17)) (defBody (top 17)) (defScope (top 17)) .none kV doc pm an cdv ct) ⟨us, []⟩ = pure ((["value"] : List Str).zip us) := fun _ _ _ _ _ _ us hl => match us, hl with | [_], _ => rfl
theorem bd_is_wide : ∀ (kV doc pm : Value) (an : Option Addr) (cdv ct : Value) (us : List Value), us.length = (["value", "wide"] : List Str).length → bindArgs (PySem.W.fnOf "is_wide" "is_wide" (defArgs (top 11)) (defBody (top 11)) (defScope (top 11)) .none kV doc pm an cdv ct) ⟨us, []⟩ = pure ((["value", "wide"] : List Str).zip us) := fun _ _ _ _ _ _ us hl => match us, hl with | [_, _], _ => rfl
theorem bd_require_like : ∀ (kV doc pm : Value) (an : Option Addr) (cdv ct : Value) (us : List Value), us.length = (["point", "value"] : List Str).length → bindArgs (PySem.W.fnOf "require_like" "require_like" (defArgs (top 18)) (defBody (top 18)) (defScope (top 18)) .none kV doc pm an cdv ct) ⟨us, []⟩ = pure ((["point", "value"] : List Str).zip us) := fun _ _ _ _ _ _ us hl => match us, hl with | [_, _], _ => rfl
theorem bd_require_two_points : ∀ (kV doc pm : Value) (an : Option Addr) (cdv ct : Value) (us : List Value), us.length = (["one", "other"] : List Str).length → bindArgs (PySem.W.fnOf "require_two_points" "require_two_points" (defArgs (top 19)) (defBody (top 19)) (defScope (top 19)) .none kV doc pm an cdv ct) ⟨us, []⟩ = pure ((["one", "other"] : List Str).zip us) := fun _ _ _ _ _ _ us hl => match us, hl with | [_, _], _ => rfl
theorem bd_differing_in : ∀ (kV doc pm : Value) (an : Option Addr) (cdv ct : Value) (us : List Value), us.length = (["one", "other"] : List Str).length → bindArgs (PySem.W.fnOf "differing_in" "differing_in" (defArgs (top 12)) (defBody (top 12)) (defScope (top 12)) .none kV doc pm an cdv ct) ⟨us, []⟩ = pure ((["one", "other"] : List Str).zip us) := fun _ _ _ _ _ _ us hl => match us, hl with | [_, _], _ => rfl
theorem bd_apart : ∀ (kV doc pm : Value) (an : Option Addr) (cdv ct : Value) (us : List Value), us.length = (["one", "other"] : List Str).length → bindArgs (PySem.W.fnOf "apart" "apart" (defArgs (top 13)) (defBody (top 13)) (defScope (top 13)) .none kV doc pm an cdv ct) ⟨us, []⟩ = pure ((["one", "other"] : List Str).zip us) := fun _ _ _ _ _ _ us hl => match us, hl with | [_, _], _ => rfl
theorem bd_apart_of : ∀ (kV doc pm : Value) (an : Option Addr) (cdv ct : Value) (us : List Value), us.length = (["one", "other"] : List Str).length → bindArgs (PySem.W.fnOf "apart_of" "apart_of" (defArgs (top 21)) (defBody (top 21)) (defScope (top 21)) .none kV doc pm an cdv ct) ⟨us, []⟩ = pure ((["one", "other"] : List Str).zip us) := fun _ _ _ _ _ _ us hl => match us, hl with | [_, _], _ => rfl
theorem bd_require_three_points : ∀ (kV doc pm : Value) (an : Option Addr) (cdv ct : Value) (us : List Value), us.length = (["one", "other", "third"] : List Str).length → bindArgs (PySem.W.fnOf "require_three_points" "require_three_points" (defArgs (top 20)) (defBody (top 20)) (defScope (top 20)) .none kV doc pm an cdv ct) ⟨us, []⟩ = pure ((["one", "other", "third"] : List Str).zip us) := fun _ _ _ _ _ _ us hl => match us, hl with | [_, _, _], _ => rfl
theorem bd_middle_in : ∀ (kV doc pm : Value) (an : Option Addr) (cdv ct : Value) (us : List Value), us.length = (["one", "other", "third"] : List Str).length → bindArgs (PySem.W.fnOf "middle_in" "middle_in" (defArgs (top 14)) (defBody (top 14)) (defScope (top 14)) .none kV doc pm an cdv ct) ⟨us, []⟩ = pure ((["one", "other", "third"] : List Str).zip us) := fun _ _ _ _ _ _ us hl => match us, hl with | [_, _, _], _ => rfl
theorem bd_middle : ∀ (kV doc pm : Value) (an : Option Addr) (cdv ct : Value) (us : List Value), us.length = (["one", "other", "third"] : List Str).length → bindArgs (PySem.W.fnOf "middle" "middle" (defArgs (top 23)) (defBody (top 23)) (defScope (top 23)) .none kV doc pm an cdv ct) ⟨us, []⟩ = pure ((["one", "other", "third"] : List Str).zip us) := fun _ _ _ _ _ _ us hl => match us, hl with | [_, _, _], _ => rfl
theorem bd_spread_points : ∀ (kV doc pm : Value) (an : Option Addr) (cdv ct : Value) (us : List Value), us.length = (["one", "other"] : List Str).length → bindArgs (PySem.W.fnOf "spread_points" "spread_points" (defArgs (top 16)) (defBody (top 16)) (defScope (top 16)) .none kV doc pm an cdv ct) ⟨us, []⟩ = pure ((["one", "other"] : List Str).zip us) := fun _ _ _ _ _ _ us hl => match us, hl with | [_, _], _ => rfl
theorem bd_all_amid : ∀ (kV doc pm : Value) (an : Option Addr) (cdv ct : Value) (us : List Value), us.length = (["one", "other"] : List Str).length → bindArgs (PySem.W.fnOf "all_amid" "all_amid" (defArgs (top 26)) (defBody (top 26)) (defScope (top 26)) .none kV doc pm an cdv ct) ⟨us, []⟩ = pure ((["one", "other"] : List Str).zip us) := fun _ _ _ _ _ _ us hl => match us, hl with | [_, _], _ => rfl
theorem bd_count_amid : ∀ (kV doc pm : Value) (an : Option Addr) (cdv ct : Value) (us : List Value), us.length = (["one", "other"] : List Str).length → bindArgs (PySem.W.fnOf "count_amid" "count_amid" (defArgs (top 25)) (defBody (top 25)) (defScope (top 25)) .none kV doc pm an cdv ct) ⟨us, []⟩ = pure ((["one", "other"] : List Str).zip us) := fun _ _ _ _ _ _ us hl => match us, hl with | [_, _], _ => rfl
theorem bd__law_bent_point : ∀ (kV doc pm : Value) (an : Option Addr) (cdv ct : Value) (us : List Value), us.length = (["dice", "point"] : List Str).length → bindArgs (PySem.W.fnOf "_law_bent_point" "_law_bent_point" (defArgs (top 32)) (defBody (top 32)) (defScope (top 32)) .none kV doc pm an cdv ct) ⟨us, []⟩ = pure ((["dice", "point"] : List Str).zip us) := fun _ _ _ _ _ _ us hl => match us, hl with | [_, _], _ => rfl
theorem bd__law_bi_box : ∀ (kV doc pm : Value) (an : Option Addr) (cdv ct : Value) (us : List Value), us.length = (["one", "other"] : List Str).length → bindArgs (PySem.W.fnOf "_law_bi_box" "_law_bi_box" (defArgs (top 34)) (defBody (top 34)) (defScope (top 34)) .none kV doc pm an cdv ct) ⟨us, []⟩ = pure ((["one", "other"] : List Str).zip us) := fun _ _ _ _ _ _ us hl => match us, hl with | [_, _], _ => rfl
theorem bd__law_middle : ∀ (kV doc pm : Value) (an : Option Addr) (cdv ct : Value) (us : List Value), us.length = (["a", "b", "c"] : List Str).length → bindArgs (PySem.W.fnOf "_law_middle" "_law_middle" (defArgs (top 30)) (defBody (top 30)) (defScope (top 30)) .none kV doc pm an cdv ct) ⟨us, []⟩ = pure ((["a", "b", "c"] : List Str).zip us) := fun _ _ _ _ _ _ us hl => match us, hl with | [_, _, _], _ => rfl
theorem bd__law_power : ∀ (kV doc pm : Value) (an : Option Addr) (cdv ct : Value) (us : List Value), us.length = (["many"] : List Str).length → bindArgs (PySem.W.fnOf "_law_power" "_law_power" (defArgs (top 37)) (defBody (top 37)) (defScope (top 37)) .none kV doc pm an cdv ct) ⟨us, []⟩ = pure ((["many"] : List Str).zip us) := fun _ _ _ _ _ _ us hl => match us, hl with | [_], _ => rfl
theorem bd_between_points : ∀ (kV doc pm : Value) (an : Option Addr) (cdv ct : Value) (us : List Value), us.length = (["one", "other", "third"] : List Str).length → bindArgs (PySem.W.fnOf "between_points" "between_points" (defArgs (top 15)) (defBody (top 15)) (defScope (top 15)) .none kV doc pm an cdv ct) ⟨us, []⟩ = pure ((["one", "other", "third"] : List Str).zip us) := fun _ _ _ _ _ _ us hl => match us, hl with | [_, _, _], _ => rfl
theorem bd_is_amid : ∀ (kV doc pm : Value) (an : Option Addr) (cdv ct : Value) (us : List Value), us.length = (["one", "other", "third"] : List Str).length → bindArgs (PySem.W.fnOf "is_amid" "is_amid" (defArgs (top 24)) (defBody (top 24)) (defScope (top 24)) .none kV doc pm an cdv ct) ⟨us, []⟩ = pure ((["one", "other", "third"] : List Str).zip us) := fun _ _ _ _ _ _ us hl => match us, hl with | [_, _, _], _ => rfl
theorem bd__law_apart : ∀ (kV doc pm : Value) (an : Option Addr) (cdv ct : Value) (us : List Value), us.length = (["a", "b"] : List Str).length → bindArgs (PySem.W.fnOf "_law_apart" "_law_apart" (defArgs (top 31)) (defBody (top 31)) (defScope (top 31)) .none kV doc pm an cdv ct) ⟨us, []⟩ = pure ((["a", "b"] : List Str).zip us) := fun _ _ _ _ _ _ us hl => match us, hl with | [_, _], _ => rfl
theorem bd_differing : ∀ (kV doc pm : Value) (an : Option Addr) (cdv ct : Value) (us : List Value), us.length = (["one", "other"] : List Str).length → bindArgs (PySem.W.fnOf "differing" "differing" (defArgs (top 22)) (defBody (top 22)) (defScope (top 22)) .none kV doc pm an cdv ct) ⟨us, []⟩ = pure ((["one", "other"] : List Str).zip us) := fun _ _ _ _ _ _ us hl => match us, hl with | [_, _], _ => rfl
theorem bd__law_differing : ∀ (kV doc pm : Value) (an : Option Addr) (cdv ct : Value) (us : List Value), us.length = (["a", "b"] : List Str).length → bindArgs (PySem.W.fnOf "_law_differing" "_law_differing" (defArgs (top 36)) (defBody (top 36)) (defScope (top 36)) .none kV doc pm an cdv ct) ⟨us, []⟩ = pure ((["a", "b"] : List Str).zip us) := fun _ _ _ _ _ _ us hl => match us, hl with | [_, _], _ => rfl
theorem bd__law_three_right : ∀ (kV doc pm : Value) (an : Option Addr) (cdv ct : Value) (us : List Value), us.length = (["a", "b", "c"] : List Str).length → bindArgs (PySem.W.fnOf "_law_three_right" "_law_three_right" (defArgs (top 35)) (defBody (top 35)) (defScope (top 35)) .none kV doc pm an cdv ct) ⟨us, []⟩ = pure ((["a", "b", "c"] : List Str).zip us) := fun _ _ _ _ _ _ us hl => match us, hl with | [_, _, _], _ => rfl
theorem bd__law_right : ∀ (kV doc pm : Value) (an : Option Addr) (cdv ct : Value) (us : List Value), us.length = (["dice"] : List Str).length → bindArgs (PySem.W.fnOf "_law_right" "_law_right" (defArgs (top 38)) (defBody (top 38)) (defScope (top 38)) .none kV doc pm an cdv ct) ⟨us, []⟩ = pure ((["dice"] : List Str).zip us) := fun _ _ _ _ _ _ us hl => match us, hl with | [_], _ => rfl
theorem bd_law : ∀ (kV doc pm : Value) (an : Option Addr) (cdv ct : Value) (us : List Value), us.length = (["script"] : List Str).length → bindArgs (PySem.W.fnOf "law" "law" (defArgs (top 39)) (defBody (top 39)) (defScope (top 39)) .none kV doc pm an cdv ct) ⟨us, []⟩ = pure ((["script"] : List Str).zip us) := fun _ _ _ _ _ _ us hl => match us, hl with | [_], _ => rfl
end L01
open PySem PySem.W PyProof.Rows
set_option maxRecDepth 100000 in
set_option maxHeartbeats 0 in
theorem PySem.Challenge.cw_middlewalls_k01_whole_points_and_middles_holds : PySem.Challenge.rw_middlewalls_k01_whole_points_and_middles.Holds := by
  w_on; o_law; k_head; (case hw => w_witness2)
  k_fill
  refine M.walk_ofM (l := PySem.Challenge.rw_middlewalls_k01_whole_points_and_middles) (k := 11) (x := "script") rfl rfl ⟨rfl, by decide, by decide⟩ (fun w h Y => PySem.W.kIn_of Y) ?F
  case F =>
    intro w mg fa h KX G hmg
    refine L01.law_fin (K := _) (mg := mg) ?Gb hmg
    case Gb =>
      refine' ⟨M.def_mk KX G L01.bd__law_dice ?a1 ?l1 ?c1 ?k1, M.def_mk KX G L01.bd__law_roll ?a2 ?l2 ?c2 ?k2, M.def_mk KX G L01.bd__law_bi_point ?a3 ?l3 ?c3 ?k3, M.def_mk KX G L01.bd_is_whole ?a4 ?l4 ?c4 ?k4, M.def_mk KX G L01.bd_is_within ?a5 ?l5 ?c5 ?k5, M.def_mk KX G L01.bd_is_point_in ?a6 ?l6 ?c6 ?k6, M.def_mk KX G L01.bd_require_point ?a7 ?l7 ?c7 ?k7, M.def_mk KX G L01.bd_is_wide ?a8 ?l8 ?c8 ?k8, M.def_mk KX G L01.bd_require_like ?a9 ?l9 ?c9 ?k9, M.def_mk KX G L01.bd_require_two_points ?a10 ?l10 ?c10 ?k10, M.def_mk KX G L01.bd_differing_in ?a11 ?l11 ?c11 ?k11, M.def_mk KX G L01.bd_apart ?a12 ?l12 ?c12 ?k12, M.def_mk KX G L01.bd_apart_of ?a13 ?l13 ?c13 ?k13, M.def_mk KX G L01.bd_require_three_points ?a14 ?l14 ?c14 ?k14, M.def_mk KX G L01.bd_middle_in ?a15 ?l15 ?c15 ?k15, M.def_mk KX G L01.bd_middle ?a16 ?l16 ?c16 ?k16, M.def_mk KX G L01.bd_spread_points ?a17 ?l17 ?c17 ?k17, M.def_mk KX G L01.bd_all_amid ?a18 ?l18 ?c18 ?k18, M.def_mk KX G L01.bd_count_amid ?a19 ?l19 ?c19 ?k19, M.def_mk KX G L01.bd__law_bent_point ?a20 ?l20 ?c20 ?k20, M.def_mk KX G L01.bd__law_bi_box ?a21 ?l21 ?c21 ?k21, M.def_mk KX G L01.bd__law_middle ?a22 ?l22 ?c22 ?k22, M.def_mk KX G L01.bd__law_power ?a23 ?l23 ?c23 ?k23, M.def_mk KX G L01.bd_between_points ?a24 ?l24 ?c24 ?k24, M.def_mk KX G L01.bd_is_amid ?a25 ?l25 ?c25 ?k25, M.def_mk KX G L01.bd__law_apart ?a26 ?l26 ?c26 ?k26, M.def_mk KX G L01.bd_differing ?a27 ?l27 ?c27 ?k27, M.def_mk KX G L01.bd__law_differing ?a28 ?l28 ?c28 ?k28, M.def_mk KX G L01.bd__law_three_right ?a29 ?l29 ?c29 ?k29, M.def_mk KX G L01.bd__law_right ?a30 ?l30 ?c30 ?k30, M.def_mk KX G L01.bd_law ?a31 ?l31 ?c31 ?k31, M.con_mk KX G ?a32, M.con_mk KX G ?a33, PySem.W.mg_none_of KX G ?a34, PySem.W.mg_none_of KX G ?a35, PySem.W.mg_none_of KX G ?a36, PySem.W.mg_none_of KX G ?a37, PySem.W.mg_none_of KX G ?a38, PySem.W.mg_none_of KX G ?a39, PySem.W.mg_none_of KX G ?a40, PySem.W.mg_none_of KX G ?a41, PySem.W.mg_none_of KX G ?a42, PySem.W.mg_none_of KX G ?a43, PySem.W.mg_none_of KX G ?a44, PySem.W.mg_none_of KX G ?a45, PySem.W.mg_none_of KX G ?a46⟩
      (case a1 => k_is); (case l1 => k_is); (case c1 => k_is); (case k1 => k_is)
      (case a2 => k_is); (case l2 => k_is); (case c2 => k_is); (case k2 => k_is)
      (case a3 => k_is); (case l3 => k_is); (case c3 => k_is); (case k3 => k_is)
      (case a4 => k_is); (case l4 => k_is); (case c4 => k_is); (case k4 => k_is)
      (case a5 => k_is); (case l5 => k_is); (case c5 => k_is); (case k5 => k_is)
      (case a6 => k_is); (case l6 => k_is); (case c6 => k_is); (case k6 => k_is)
      (case a7 => k_is); (case l7 => k_is); (case c7 => k_is); (case k7 => k_is)
      (case a8 => k_is); (case l8 => k_is); (case c8 => k_is); (case k8 => k_is)
      (case a9 => k_is); (case l9 => k_is); (case c9 => k_is); (case k9 => k_is)
      (case a10 => k_is); (case l10 => k_is); (case c10 => k_is); (case k10 => k_is)
      (case a11 => k_is); (case l11 => k_is); (case c11 => k_is); (case k11 => k_is)
      (case a12 => k_is); (case l12 => k_is); (case c12 => k_is); (case k12 => k_is)
      (case a13 => k_is); (case l13 => k_is); (case c13 => k_is); (case k13 => k_is)
      (case a14 => k_is); (case l14 => k_is); (case c14 => k_is); (case k14 => k_is)
      (case a15 => k_is); (case l15 => k_is); (case c15 => k_is); (case k15 => k_is)
      (case a16 => k_is); (case l16 => k_is); (case c16 => k_is); (case k16 => k_is)
      (case a17 => k_is); (case l17 => k_is); (case c17 => k_is); (case k17 => k_is)
      (case a18 => k_is); (case l18 => k_is); (case c18 => k_is); (case k18 => k_is)
      (case a19 => k_is); (case l19 => k_is); (case c19 => k_is); (case k19 => k_is)
      (case a20 => k_is); (case l20 => k_is); (case c20 => k_is); (case k20 => k_is)
      (case a21 => k_is); (case l21 => k_is); (case c21 => k_is); (case k21 => k_is)
      (case a22 => k_is); (case l22 => k_is); (case c22 => k_is); (case k22 => k_is)
      (case a23 => k_is); (case l23 => k_is); (case c23 => k_is); (case k23 => k_is)
      (case a24 => k_is); (case l24 => k_is); (case c24 => k_is); (case k24 => k_is)
      (case a25 => k_is); (case l25 => k_is); (case c25 => k_is); (case k25 => k_is)
      (case a26 => k_is); (case l26 => k_is); (case c26 => k_is); (case k26 => k_is)
      (case a27 => k_is); (case l27 => k_is); (case c27 => k_is); (case k27 => k_is)
      (case a28 => k_is); (case l28 => k_is); (case c28 => k_is); (case k28 => k_is)
      (case a29 => k_is); (case l29 => k_is); (case c29 => k_is); (case k29 => k_is)
      (case a30 => k_is); (case l30 => k_is); (case c30 => k_is); (case k30 => k_is)
      (case a31 => k_is); (case l31 => k_is); (case c31 => k_is); (case k31 => k_is)
      (case a32 => k_is)
      (case a33 => k_is)
      (case a34 => k_is)
      (case a35 => k_is)
      (case a36 => k_is)
      (case a37 => k_is)
      (case a38 => k_is)
      (case a39 => k_is)
      (case a40 => k_is)
      (case a41 => k_is)
      (case a42 => k_is)
      (case a43 => k_is)
      (case a44 => k_is)
      (case a45 => k_is)
      (case a46 => k_is)
