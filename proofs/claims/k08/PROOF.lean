import PyProof.Rows.All
import Wide.All
import OpenK.AllK
import Wide.FinOn
import HandS.ForMost
import HandS.Wide
import HandS.IsInst
import HandS.TupAny
import HandS.Style
import KE.DataEq
import HandS.NoneIn
import HandS.SortInts
import HandS.TupMul
import HandS.Zip
import KE.LtData
import HandS.More
import KE.SortKeyHeap
import HandS.SortKw
import PySem.Challenge.RW_dykelengths_k08_order_and_days
set_option Elab.async false
set_option linter.all false
set_option maxRecDepth 100000
set_option maxHeartbeats 4000000
/-! pure data over the abstract heap: tuples are values, lists and dicts stand in a store -/
namespace DL
open PySem PySem.Spec PyProof.Rows L2
/-! ### data, store -/
inductive D where
  | non | bl (b : Bool) | int (i : Int) | str (s : Str) | tup (xs : List D) | ref (a : Addr) | fl (xs : List D) | ty (n : String)
  deriving Inhabited
inductive O where
  | lst (xs : List D) | dk (kvs : List (Key × D))
abbrev Sto := Addr → Option O
abbrev Env := List (Option D)
abbrev DK := D → Sto → Prop
abbrev DE := Env → Sto → DK → Prop
abbrev DT := Env → Sto → (Bool → Sto → Prop) → Prop
abbrev DA := Env → Sto → (List D → Sto → Prop) → Prop
def updS (S : Sto) (a : Addr) (o : O) : Sto := fun b => if b = a then some o else S b
theorem updS_same {S : Sto} {a : Addr} {o : O} : updS S a o a = some o := by unfold updS; rw [if_pos rfl]
theorem updS_ne {S : Sto} {a b : Addr} {o : O} (h : b ≠ a) : updS S a o b = S b := by unfold updS; rw [if_neg h]
theorem updS_updS {S : Sto} {a : Addr} {o u : O} : updS (updS S a o) a u = updS S a u := by
  funext b; unfold updS; split <;> rfl
theorem neS {S : Sto} {a b : Addr} {o : O} (h : S a = some o) (h' : S b = none) : a ≠ b := by
  intro e; subst e; rw [h] at h'; cases h'
/-- a list that never changes: locked, or of the written part -/
def FrL (K : PySem.W.Frag) (H : Hp) (a : Addr) (vs : List V) : Prop := (∃ o, H a = some (.frz o (.lst vs))) ∨
    ∃ (o : Obj) (its : Array Value) (n : Nat), K.lookup a = some o ∧ o.cls = .type "list" ∧ o.dict = none ∧ o.data = .seq its n ∧ its.size ≤ sizeLine ∧ Vals vs its.toList
theorem FrL.sq {K : PySem.W.Frag} {H : Hp} {a : Addr} {vs : List V} (h : FrL K H a vs) : SqL K H a vs := by
  rcases h with h | h
  · exact .inl (.inr h)
  · exact .inr h
mutual
inductive Rep (K : PySem.W.Frag) (H : Hp) : V → D → Prop
  | non : Rep K H .non .non
  | bl (b : Bool) : Rep K H (.bl b) (.bl b)
  | int (i : Int) : Rep K H (.int i) (.int i)
  | str (s : Str) : Rep K H (.str s) (.str s)
  | ref (a : Addr) : Rep K H (.ref a) (.ref a)
  | ty (n : String) : Rep K H (.ty n) (.ty n)
  | tup {a : Addr} {vs : List V} {ds : List D} (h : SqT K H a vs) (r : Reps K H vs ds) : Rep K H (.ref a) (.tup ds)
  | fl {a : Addr} {vs : List V} {ds : List D} (h : FrL K H a vs) (r : Reps K H vs ds) : Rep K H (.ref a) (.fl ds)
inductive Reps (K : PySem.W.Frag) (H : Hp) : List V → List D → Prop
  | nil : Reps K H [] []
  | cons {v : V} {d : D} {vs : List V} {ds : List D} (h : Rep K H v d) (r : Reps K H vs ds) : Reps K H (v :: vs) (d :: ds)
end
/-- tuples and locked lists stay -/
structure Tx (K : PySem.W.Frag) (H H' : Hp) : Prop where
  tup : ∀ a vs, SqT K H a vs → SqT K H' a vs
  fl : ∀ a vs, FrL K H a vs → FrL K H' a vs
theorem Tx.refl {K : PySem.W.Frag} {H : Hp} : Tx K H H := ⟨fun _ _ h => h, fun _ _ h => h⟩
theorem Tx.trans {K : PySem.W.Frag} {H H1 H2 : Hp} (a : Tx K H H1) (b : Tx K H1 H2) : Tx K H H2 := ⟨fun c vs h => b.tup c vs (a.tup c vs h), fun c vs h => b.fl c vs (a.fl c vs h)⟩
mutual
theorem Rep.mono {K : PySem.W.Frag} {H H' : Hp} (t : Tx K H H') : ∀ {v : V} {d : D}, Rep K H v d → Rep K H' v d
  | _, _, .non => .non
  | _, _, .bl b => .bl b
  | _, _, .int i => .int i
  | _, _, .str s => .str s
  | _, _, .ref a => .ref a
  | _, _, .ty n => .ty n
  | _, _, .tup h r => .tup (t.tup _ _ h) (Reps.mono t r)
  | _, _, .fl h r => .fl (t.fl _ _ h) (Reps.mono t r)
theorem Reps.mono {K : PySem.W.Frag} {H H' : Hp} (t : Tx K H H') : ∀ {vs : List V} {ds : List D}, Reps K H vs ds → Reps K H' vs ds
  | _, _, .nil => .nil
  | _, _, .cons h r => .cons (Rep.mono t h) (Reps.mono t r)
end
section
variable {K : PySem.W.Frag} {H : Hp}
theorem Reps.length : ∀ {vs : List V} {ds : List D}, Reps K H vs ds → vs.length = ds.length
  | _, _, .nil => rfl
  | _, _, .cons _ r => by rw [List.length_cons, List.length_cons, Reps.length r]
theorem Reps.append : ∀ {vs us : List V} {ds es : List D}, Reps K H vs ds → Reps K H us es → Reps K H (vs ++ us) (ds ++ es)
  | _, _, _, _, .nil, s => s
  | _, _, _, _, .cons h r, s => .cons h (Reps.append r s)
theorem Reps.get : ∀ {vs : List V} {ds : List D} {i : Nat} {d : D}, Reps K H vs ds → ds[i]? = some d → ∃ v, vs[i]? = some v ∧ Rep K H v d
  | _, _, _, _, .nil, e => by simp at e
  | _, _, 0, _, .cons h _, e => by simp at e; subst e; exact ⟨_, rfl, h⟩
  | _, _, i + 1, d, .cons _ r, e => by
    obtain ⟨v, h1, h2⟩ := Reps.get (i := i) (d := d) r (by simpa using e)
    exact ⟨v, by simpa using h1, h2⟩
theorem Reps.getV : ∀ {vs : List V} {ds : List D} {i : Nat} {v : V}, Reps K H vs ds → vs[i]? = some v → ∃ d, ds[i]? = some d ∧ Rep K H v d
  | _, _, _, _, .nil, e => by simp at e
  | _, _, 0, _, .cons h _, e => by simp at e; subst e; exact ⟨_, rfl, h⟩
  | _, _, i + 1, d, .cons _ r, e => by
    obtain ⟨v, h1, h2⟩ := Reps.getV (i := i) (v := d) r (by simpa using e)
    exact ⟨v, by simpa using h1, h2⟩
theorem Reps.take : ∀ {vs : List V} {ds : List D} (n : Nat), Reps K H vs ds → Reps K H (vs.take n) (ds.take n)
  | _, _, 0, _ => by rw [List.take_zero, List.take_zero]; exact .nil
  | _, _, _ + 1, .nil => .nil
  | _, _, n + 1, .cons h r => .cons h (Reps.take n r)
theorem Reps.drop : ∀ {vs : List V} {ds : List D} (n : Nat), Reps K H vs ds → Reps K H (vs.drop n) (ds.drop n)
  | _, _, 0, r => r
  | _, _, _ + 1, .nil => .nil
  | _, _, n + 1, .cons _ r => Reps.drop n r
theorem Reps.set : ∀ {vs : List V} {ds : List D} (n : Nat) {v : V} {d : D}, Rep K H v d → Reps K H vs ds → Reps K H (vs.set n v) (ds.set n d)
  | _, _, _, _, _, _, .nil => .nil
  | _, _, 0, _, _, q, .cons h r => .cons q r
  | _, _, n + 1, _, _, q, .cons h r => .cons h (Reps.set n q r)
theorem Reps.eraseIdx : ∀ {vs : List V} {ds : List D} (n : Nat), Reps K H vs ds → Reps K H (vs.eraseIdx n) (ds.eraseIdx n)
  | _, _, _, .nil => .nil
  | _, _, 0, .cons h r => r
  | _, _, n + 1, .cons h r => .cons h (Reps.eraseIdx n r)
theorem Reps.dropLast : ∀ {vs : List V} {ds : List D}, Reps K H vs ds → Reps K H vs.dropLast ds.dropLast
  | _, _, .nil => .nil
  | _, _, .cons h .nil => .nil
  | _, _, .cons h (.cons h2 r) => .cons h (Reps.dropLast (.cons h2 r))
theorem Reps.reverse {vs : List V} {ds : List D} : Reps K H vs ds → Reps K H vs.reverse ds.reverse := by
  intro h
  induction ds generalizing vs with
  | nil => cases h; exact .nil
  | cons d r ih =>
    cases h with
    | cons h1 h2 =>
      rw [List.reverse_cons, List.reverse_cons]
      exact (ih h2).append (.cons h1 .nil)
end
/-- keys and what they hold -/
def KReps (K : PySem.W.Frag) (H : Hp) : List (Key × V) → List (Key × D) → Prop := Paired fun (p : Key × V) (q : Key × D) => p.1 = q.1 ∧ Rep K H p.2 q.2
def OAt (K : PySem.W.Frag) (H : Hp) (a : Addr) : O → Prop
  | .lst ds => ∃ vs, H a = some (.lst vs) ∧ Reps K H vs ds
  | .dk kvs => ∃ ws, H a = some (.dK ws) ∧ KReps K H ws kvs
def SRep (K : PySem.W.Frag) (S : Sto) (H : Hp) : Prop := ∀ a o, S a = some o → OAt K H a o
/-- what happens: tuples stay; what is hidden from the store stays hidden, as it is -/
structure Stp (K : PySem.W.Frag) (S : Sto) (H : Hp) (S' : Sto) (H' : Hp) : Prop where
  tx : Tx K H H'
  hid : ∀ z o, S z = none → H z = some o → S' z = none ∧ H' z = some o
section
variable {K : PySem.W.Frag} {S S1 S2 : Sto} {H H1 H2 : Hp} {a p : Addr}
theorem Stp.refl : Stp K S H S H := ⟨.refl, fun _ _ a b => ⟨a, b⟩⟩
theorem Stp.trans (x : Stp K S H S1 H1) (y : Stp K S1 H1 S2 H2) : Stp K S H S2 H2 := ⟨x.tx.trans y.tx, fun z o a b => y.hid z o (x.hid z o a b).1 (x.hid z o a b).2⟩
theorem OAt.mut {o : O} (h : OAt K H a o) : ∃ u, H a = some u ∧ Mut (some u) ∧ (∀ xs, u ≠ .tup xs) ∧ ∀ ob w, u ≠ .frz ob w := by
  cases o with
  | lst ds => obtain ⟨vs, e, _⟩ := h; exact ⟨_, e, trivial, (fun _ z => nomatch z), (fun _ _ z => nomatch z)⟩
  | dk kvs => obtain ⟨vs, e, _⟩ := h; exact ⟨_, e, trivial, (fun _ z => nomatch z), (fun _ _ z => nomatch z)⟩
theorem SRep.free (h : SRep K S H) (e : H p = none) : S p = none := by
  cases q : S p with
  | none => rfl
  | some o =>
    obtain ⟨u, e2, _⟩ := (h p o q).mut
    rw [e] at e2; cases e2
theorem KReps.mono {ws : List (Key × V)} {kvs : List (Key × D)} (t : Tx K H H1) (h : KReps K H ws kvs) : KReps K H1 ws kvs := Paired.mapP h fun _ _ q => ⟨q.1, q.2.mono t⟩
theorem OAt.mono {o : O} (t : Tx K H H1) (e : H1 a = H a) (h : OAt K H a o) : OAt K H1 a o := by
  cases o with
  | lst ds => obtain ⟨vs, e1, r⟩ := h; exact ⟨vs, by rw [e]; exact e1, r.mono t⟩
  | dk kvs => obtain ⟨vs, e1, r⟩ := h; exact ⟨vs, by rw [e]; exact e1, KReps.mono t r⟩
theorem tx_upd {ho : HO} (hn : ∀ vs, H p ≠ some (.tup vs)) (hf : ∀ ob w, H p ≠ some (.frz ob w)) : Tx K H (upd H p ho) := by
  refine ⟨fun b vs h => ?_, fun b vs h => ?_⟩
  · rcases h with (h | ⟨o, h⟩) | h
    · refine .inl (.inl ?_)
      rw [upd_ne (fun e => hn vs (by rw [← e]; exact h))]
      exact h
    · refine .inl (.inr ⟨o, ?_⟩)
      rw [upd_ne (fun e => hf _ _ (by rw [← e]; exact h))]
      exact h
    · exact .inr h
  · rcases h with ⟨o, h⟩ | h
    · refine .inl ⟨o, ?_⟩
      rw [upd_ne (fun e => hf _ _ (by rw [← e]; exact h))]
      exact h
    · exact .inr h
theorem tx_new {ho : HO} (h : H p = none) : Tx K H (upd H p ho) := tx_upd (fun vs => by rw [h]; intro z; cases z) (fun ob w => by rw [h]; intro z; cases z)
theorem tx_mut {o : O} {ho : HO} (h : OAt K H p o) : Tx K H (upd H p ho) := by
  obtain ⟨u, e, _, h1, h2⟩ := h.mut
  exact tx_upd (fun vs => by rw [e]; intro z; exact h1 vs (Option.some.inj z)) (fun ob w => by rw [e]; intro z; exact h2 ob w (Option.some.inj z))
/-- a new tuple -/
theorem stp_tup {vs : List V} (r : SRep K S H) (h : H p = none) : Stp K S H S (upd H p (.tup vs)) ∧ SRep K S (upd H p (.tup vs)) := by
  refine ⟨⟨tx_new h, fun z o a b => ⟨a, ?_⟩⟩, fun a o e => (r a o e).mono (tx_new h) (upd_ne ?_)⟩
  · rw [upd_ne (ne_of_none b h)]; exact b
  · intro z; subst z; rw [SRep.free r h] at e; cases e
/-- a new object of the store -/
theorem stp_new {o : O} {ho : HO} (r : SRep K S H) (h : H p = none) (new : OAt K (upd H p ho) p o) : Stp K S H (updS S p o) (upd H p ho) ∧ SRep K (updS S p o) (upd H p ho) := by
  refine ⟨⟨tx_new h, fun z u a b => ?_⟩, fun a u e => ?_⟩
  · have ne := ne_of_none b h
    exact ⟨by rw [updS_ne ne]; exact a, by rw [upd_ne ne]; exact b⟩
  · by_cases q : a = p
    · subst q
      rw [updS_same] at e
      cases e
      exact new
    · rw [updS_ne q] at e
      exact (r a u e).mono (tx_new h) (upd_ne q)
/-- an object of the store is written -/
theorem stp_mut {o o' : O} {ho : HO} (r : SRep K S H) (h : S p = some o) (new : OAt K (upd H p ho) p o') : Stp K S H (updS S p o') (upd H p ho) ∧ SRep K (updS S p o') (upd H p ho) := by
  have t : Tx K H (upd H p ho) := tx_mut (r p o h)
  refine ⟨⟨t, fun z u a b => ?_⟩, fun a u e => ?_⟩
  · have ne : z ≠ p := fun e => by subst e; rw [h] at a; cases a
    exact ⟨by rw [updS_ne ne]; exact a, by rw [upd_ne ne]; exact b⟩
  · by_cases q : a = p
    · subst q
      rw [updS_same] at e
      cases e
      exact new
    · rw [updS_ne q] at e
      exact (r a u e).mono t (upd_ne q)
/-- a hidden object is written, a hidden one comes -/
theorem stp_hid {ho ho' : HO} (r : SRep K S H) (n : S p = none) (h : H p = some ho') (m1 : ∀ vs, ho' ≠ .tup vs) (m2 : ∀ ob w, ho' ≠ .frz ob w) : Tx K H (upd H p ho) ∧ SRep K S (upd H p ho) := by
  have t : Tx K H (upd H p ho) := tx_upd (fun vs => by rw [h]; intro z; exact m1 vs (Option.some.inj z)) (fun ob w => by rw [h]; intro z; exact m2 ob w (Option.some.inj z))
  exact ⟨t, fun a o e => (r a o e).mono t (upd_ne (neS e n))⟩
end
/-! ### slots -/
def getS : Nat → Env → Option D
  | _, [] => none
  | 0, x :: _ => x
  | i + 1, _ :: r => getS i r
def setS : Nat → D → Env → Env
  | _, _, [] => []
  | 0, d, _ :: r => some d :: r
  | i + 1, d, x :: r => x :: setS i d r
def wipeS : Env → List Nat → Env
  | σ, [] => σ
  | σ, i :: r => (wipeS σ r).set i none
theorem getS_eq : ∀ (i : Nat) (σ : Env), getS i σ = (σ[i]?).join
  | _, [] => by simp [getS]
  | 0, x :: _ => by cases x <;> rfl
  | i + 1, _ :: r => by simpa [getS] using getS_eq i r
theorem setS_eq (d : D) : ∀ (i : Nat) (σ : Env), setS i d σ = σ.set i (some d)
  | _, [] => by simp [setS]
  | 0, x :: _ => rfl
  | i + 1, x :: r => by simp [setS, setS_eq d i r]
structure ERep (K : PySem.W.Frag) (H : Hp) (sv : L2.St) (σ : Env) : Prop where
  len : sv.length = σ.length
  at_ : ∀ i d, getS i σ = some d → ∃ v, sv[i]? = some (some v) ∧ Rep K H v d
section
variable {K : PySem.W.Frag} {S S1 S2 : Sto} {H H1 H2 : Hp} {sv : L2.St} {σ : Env}
theorem ERep.mono (t : Tx K H H1) (e : ERep K H sv σ) : ERep K H1 sv σ := ⟨e.len, fun i d q => let ⟨v, a, b⟩ := e.at_ i d q; ⟨v, a, b.mono t⟩⟩
theorem ERep.set {i : Nat} {v : V} {d : D} (e : ERep K H sv σ) (r : Rep K H v d) : ERep K H (sv.set i (some v)) (setS i d σ) := by
  rw [setS_eq]
  refine ⟨by simpa using e.len, fun j c q => ?_⟩
  rw [getS_eq] at q
  by_cases hj : i = j
  · subst hj
    by_cases hl : i < σ.length
    · rw [List.getElem?_set_self hl] at q
      have : d = c := Option.some.inj q
      subst this
      exact ⟨v, List.getElem?_set_self (by rw [e.len]; exact hl), r⟩
    · rw [List.getElem?_eq_none (by simpa using Nat.le_of_not_lt hl)] at q
      cases q
  · rw [List.getElem?_set_ne hj] at q ⊢
    exact e.at_ j c (by rw [getS_eq]; exact q)
theorem ERep.wipe1 {i : Nat} (e : ERep K H sv σ) : ERep K H (sv.set i none) (σ.set i none) := by
  refine ⟨by simpa using e.len, fun j c q => ?_⟩
  rw [getS_eq] at q
  by_cases hj : i = j
  · subst hj
    by_cases hl : i < σ.length
    · rw [List.getElem?_set_self hl] at q; cases q
    · rw [List.getElem?_eq_none (by simpa using Nat.le_of_not_lt hl)] at q; cases q
  · rw [List.getElem?_set_ne hj] at q ⊢
    exact e.at_ j c (by rw [getS_eq]; exact q)
theorem ERep.wipe (e : ERep K H sv σ) : ∀ vs : List Nat, ERep K H (wipe sv vs) (wipeS σ vs)
  | [] => e
  | _ :: vs => (ERep.wipe e vs).wipe1
end
theorem wipe_set {i : Nat} {y : Option V} : ∀ {vs : List Nat} {s : L2.St}, i ∈ vs → wipe (s.set i y) vs = wipe s vs
  | [], _, h => by cases h
  | v :: vs, s, h => by
    show (wipe (s.set i y) vs).set v none = (wipe s vs).set v none
    by_cases hi : i ∈ vs
    · rw [wipe_set hi]
    · have e : i = v := by
        rcases List.mem_cons.mp h with e | e
        · exact e
        · exact (hi e).elim
      subst e
      have out : ∀ (ws : List Nat) (t : L2.St), i ∉ ws → wipe (t.set i y) ws = (wipe t ws).set i y := by
        intro ws
        induction ws with
        | nil => intro t _; rfl
        | cons w r ih =>
          intro t hw
          show (wipe (t.set i y) r).set w none = ((wipe t r).set w none).set i y
          rw [ih t (fun z => hw (List.mem_cons_of_mem _ z)), List.set_comm _ _ (fun z => hw (by rw [z]; exact List.mem_cons_self))]
      rw [out vs s hi, List.set_set]
theorem wipe_wipe (s : L2.St) (vs : List Nat) : wipe (wipe s vs) vs = wipe s vs := by
  have key : ∀ (us : List Nat), (∀ u ∈ us, u ∈ vs) → wipe (wipe s us) vs = wipe s vs := by
    intro us
    induction us with
    | nil => intro _; rfl
    | cons u r ih =>
      intro h
      show wipe ((wipe s r).set u none) vs = wipe s vs
      rw [wipe_set (h u List.mem_cons_self)]
      exact ih fun w hw => h w (List.mem_cons_of_mem _ hw)
  exact key vs fun _ h => h
/-! ### what a reading says of data -/
/-- what is reached: a value that bears d, a store, a heap -/
abbrev Rch (K : PySem.W.Frag) (S : Sto) (H : Hp) (Q : DK) (Kt : VK) : Prop := ∀ v d S' H', Stp K S H S' H' → SRep K S' H' → Rep K H' v d → Q d S' → Kt v H'
def Snd (K : PySem.W.Frag) (t : TE) (f : DE) : Prop := ∀ (σ : Env) (S : Sto) (Q : DK) (sv : L2.St) (H : Hp) (Kt : VK), ERep K H sv σ → SRep K S H → f σ S Q → Rch K S H Q Kt → t sv H Kt
def SndT (K : PySem.W.Frag) (t : TT) (f : DT) : Prop := ∀ (σ : Env) (S : Sto) (Q : Bool → Sto → Prop) (sv : L2.St) (H : Hp) (Kt : Bool → Hp → Prop), ERep K H sv σ → SRep K S H → f σ S Q →
  (∀ b S' H', Stp K S H S' H' → SRep K S' H' → Q b S' → Kt b H') → t sv H Kt
def SndA (K : PySem.W.Frag) (t : TA) (f : DA) : Prop := ∀ (σ : Env) (S : Sto) (Q : List D → Sto → Prop) (sv : L2.St) (H : Hp) (Kt : List V → Hp → Prop), ERep K H sv σ → SRep K S H → f σ S Q →
  (∀ vs ds S' H', Stp K S H S' H' → SRep K S' H' → Reps K H' vs ds → Q ds S' → Kt vs H') → t sv H Kt
/-- operations by values -/
abbrev G2 := D → D → Sto → DK → Prop
abbrev GN := List D → Sto → DK → Prop
def SndR (K : PySem.W.Frag) (r : R2) (g : G2) : Prop := ∀ (x y : V) (a b : D) (S : Sto) (H : Hp) (Q : DK) (Kt : VK), SRep K S H → Rep K H x a → Rep K H y b → g a b S Q → Rch K S H Q Kt → r x y H Kt
def SndN (K : PySem.W.Frag) (r : List V → Hp → VK → Prop) (g : GN) : Prop := ∀ (xs : List V) (as : List D) (S : Sto) (H : Hp) (Q : DK) (Kt : VK), SRep K S H → Reps K H xs as → g as S Q → Rch K S H Q Kt → r xs H Kt
def SndM (K : PySem.W.Frag) (r : V → List V → Hp → VK → Prop) (g : D → GN) : Prop := ∀ (x : V) (a : D) (xs : List V) (as : List D) (S : Sto) (H : Hp) (Q : DK) (Kt : VK), SRep K S H → Rep K H x a → Reps K H xs as → g a as S Q → Rch K S H Q Kt → r x xs H Kt
structure CE (X : Cx) (e : Expr) (f : DE) : Prop where
  ok : ∃ t, PE X e t ∧ Snd X.K t f
structure CT (X : Cx) (e : Expr) (f : DT) : Prop where
  ok : ∃ t, PT X e t ∧ SndT X.K t f
structure CA (X : Cx) (es : List Expr) (f : DA) : Prop where
  ok : ∃ t, PA X es t ∧ SndA X.K t f
/-! ### names, constants -/
def eVar (i : Nat) : DE := fun σ S Q => match getS i σ with
  | some d => Q d S
  | none => False
def eC (d : D) : DE := fun _ S Q => Q d S
section
variable {X : Cx} {K : PySem.W.Frag} {e a b : Expr} {fe fa fb fc : DE} {pos : Pos} {S : Sto} {H : Hp}
theorem Rch.now {Q : DK} {Kt : VK} {v : V} {d : D} (r : SRep K S H) (k : Rch K S H Q Kt) (h : Rep K H v d) (q : Q d S) : Kt v H := k v d S H .refl r h q
theorem c_var (i : Nat) {x : Str} (hN : X.N[i]? = some x := by rfl) (hv : Vis X.env.scope x := by first | exact Or.inl rfl | exact Or.inr (Or.inl rfl) | exact Or.inr (Or.inr rfl)) (hd : (x == ("__debug__" : Str)) = false := by decide)
    (hcd : (x == ("__classdict__" : Str)) = false := by decide) : CE X (.Name x pos) (eVar i) := by
  refine ⟨_, pe_var (i := i) hN hv hd hcd, fun σ S Q sv H Kt he hs h k => ?_⟩
  unfold eVar at h
  cases q : getS i σ with
  | none => rw [q] at h; exact h.elim
  | some d =>
    rw [q] at h
    obtain ⟨v, e1, r⟩ := he.at_ i d q
    exact ⟨v, e1, k.now hs r h⟩
theorem snd_c {v : V} {d : D} (h : ∀ H, Rep K H v d) : Snd K (tC v) (eC d) := fun σ S Q sv H Kt he hs q k => k.now hs (h H) q
end
end DL
namespace DL
open PySem PySem.Spec PyProof.Rows L2
section
variable {X : Cx} {K : PySem.W.Frag} {e a b c : Expr} {es : List Expr} {fe fa fb fc : DE} {ft fu : DT} {fs : DA} {pos : Pos} {S : Sto} {H : Hp}
theorem c_int {i : Int} {j : Nat} : CE X (.Constant (.int i) j pos) (eC (.int i)) := ⟨_, pe_int, snd_c fun _ => .int i⟩
theorem c_str {x : Str} {j : Nat} : CE X (.Constant (.str x) j pos) (eC (.str x)) := ⟨_, pe_str, snd_c fun _ => .str x⟩
theorem c_bl {x : Bool} {j : Nat} : CE X (.Constant (.bool x) j pos) (eC (.bl x)) := ⟨_, pe_bl, snd_c fun _ => .bl x⟩
theorem c_non {j : Nat} : CE X (.Constant .none j pos) (eC .non) := ⟨_, pe_non, snd_c fun _ => .non⟩
theorem c_glob {x : Str} {u : Value} {v : V} {d : D} (hg : Gl X x) (hm : X.mg x = some u) (r : RelV v u) (h : ∀ H, Rep X.K H v d) (hd : (x == ("__debug__" : Str)) = false := by decide) : CE X (.Name x pos) (eC d) := ⟨_, pe_glob hg hm r hd, snd_c h⟩
/-! ### two-place operations -/
def eOp (g : G2) (fa fb : DE) : DE := fun σ S Q => fa σ S fun x S1 => fb σ S1 fun y S2 => g x y S2 Q
theorem snd_op {r : R2} {g : G2} {ta tb : TE} (hr : SndR K r g) (ha : Snd K ta fa) (hb : Snd K tb fb) : Snd K (tOp r ta tb) (eOp g fa fb) := fun σ S Q sv H Kt he hs q k =>
  ha σ S _ sv H _ he hs q fun v d S1 H1 s1 r1 v1 q1 =>
    hb σ S1 _ sv H1 _ (he.mono s1.tx) r1 q1 fun u d2 S2 H2 s2 r2 u2 q2 =>
      hr v u d d2 S2 H2 Q _ r2 (v1.mono s2.tx) u2 q2 fun v3 d3 S3 H3 s3 r3 v3' q3 => k v3 d3 S3 H3 ((s1.trans s2).trans s3) r3 v3' q3
theorem SndR.or1 {r r' : R2} {g : G2} (h : SndR K r g) : SndR K (fun x y H Q => r x y H Q ∨ r' x y H Q) g := fun x y a b S H Q Kt s ra rb q k => .inl (h x y a b S H Q Kt s ra rb q k)
/-- numbers under C -/
def gI (C : Int → Int → Prop) (h : Int → Int → D) : G2 := fun x y S Q => match x, y with
  | .int i, .int j => C i j ∧ Q (h i j) S
  | _, _ => False
def gI0 (h : Int → Int → D) : G2 := fun x y S Q => match x, y with
  | .int i, .int j => Q (h i j) S
  | _, _ => False
theorem sr_I {C : Int → Int → Prop} {h : Int → Int → D} {h' : Int → Int → V} (e : ∀ i j H, Rep K H (h' i j) (h i j)) : SndR K (rI C h') (gI C h) := fun x y a b S H Q Kt s ra rb q k => by
  cases ra <;> try exact False.elim q
  cases rb <;> try exact False.elim q
  exact ⟨_, _, rfl, rfl, q.1, k.now s (e _ _ _) q.2⟩
theorem sr_I0 {h : Int → Int → D} {h' : Int → Int → V} (e : ∀ i j H, Rep K H (h' i j) (h i j)) : SndR K (rI0 h') (gI0 h) := fun x y a b S H Q Kt s ra rb q k => by
  cases ra <;> try exact False.elim q
  cases rb <;> try exact False.elim q
  exact ⟨_, _, rfl, rfl, k.now s (e _ _ _) q⟩
/-- + of anything -/
def gAdd : G2 := fun x y S Q => match x, y with
  | .int i, .int j => Q (.int (i + j)) S
  | .str i, .str j => i.length + j.length ≤ sizeLine ∧ Q (.str (i ++ j)) S
  | .tup xs, .tup ys => xs.length + ys.length ≤ sizeLine ∧ Q (.tup (xs ++ ys)) S
  | .ref p, .ref q => ∃ xs ys, S p = some (.lst xs) ∧ S q = some (.lst ys) ∧ xs.length + ys.length ≤ sizeLine ∧ ∀ n, S n = none → Q (.ref n) (updS S n (.lst (xs ++ ys)))
  | _, _ => False
def rAddA (K : PySem.W.Frag) : R2 := fun x y H Q => ((rI0 fun i j => .int (i + j)) x y H Q ∨ (∃ i j, x = .str i ∧ y = .str j ∧ i.length + j.length ≤ sizeLine ∧ Q (.str (i ++ j)) H)) ∨ rCatA K x y H Q ∨ rCat x y H Q
theorem opAddA : OpR X (binaryOp .Add) (rAddA X.K) := OpR.or (OpR.or op_add op_add_str) (OpR.or op_catA op_cat)
theorem sr_add : SndR K (rAddA K) gAdd := fun x y a b S H Q Kt s ra rb q k => by
  cases ra with
  | int i =>
    cases rb <;> try exact False.elim q
    exact .inl (.inl ⟨_, _, rfl, rfl, k.now s (.int _) q⟩)
  | str i =>
    cases rb <;> try exact False.elim q
    exact .inl (.inr ⟨_, _, rfl, rfl, q.1, k.now s (.str _) q.2⟩)
  | @tup p vs ds h r =>
    cases rb <;> try exact False.elim q
    rename_i p2 us es h2 r2
    obtain ⟨hz, q⟩ := q
    have e1 := r.length
    have e2 := r2.length
    refine .inr (.inl ⟨p, p2, vs, us, rfl, rfl, h, h2, by omega, fun z => ?_, fun _ z => ?_, fun _ _ n hn => ?_⟩)
    · subst z
      cases r
      exact k.now s (.tup h2 r2) q
    · subst z
      cases r2
      rw [List.append_nil] at q
      exact k.now s (.tup h r) q
    · obtain ⟨st, sr⟩ := stp_tup (vs := vs ++ us) s hn
      exact k _ _ S _ st sr (.tup (.inl (.inl upd_same)) ((r.mono st.tx).append (r2.mono st.tx))) q
  | ref p =>
    cases rb <;> try exact False.elim q
    obtain ⟨xs, ys, h1, h2, hz, q⟩ := q
    rename_i p2
    obtain ⟨vs, e1, r1⟩ := s _ _ h1
    obtain ⟨us, e2, r2⟩ := s _ _ h2
    have l1 := r1.length
    have l2 := r2.length
    refine .inr (.inr ⟨p, p2, vs, us, rfl, rfl, e1, e2, by omega, fun n hn => ?_⟩)
    have tx := tx_new (K := K) (ho := .lst (vs ++ us)) hn
    obtain ⟨st, sr⟩ := stp_new (o := .lst (xs ++ ys)) s hn ⟨_, upd_same, (r1.mono tx).append (r2.mono tx)⟩
    exact k _ _ _ _ st sr (.ref n) (q n (s.free hn))
  | _ => exact False.elim q
theorem c_add (ha : CE X a fa) (hb : CE X b fb) : CE X (.BinOp a .Add b pos) (eOp gAdd fa fb) := by
  obtain ⟨ta, ha, sa⟩ := ha
  obtain ⟨tb, hb, sb⟩ := hb
  exact ⟨_, pe_op opAddA ha hb, snd_op sr_add sa sb⟩
abbrev gMns : G2 := gI0 fun i j => .int (i - j)
theorem c_sub (ha : CE X a fa) (hb : CE X b fb) : CE X (.BinOp a .Sub b pos) (eOp gMns fa fb) := by
  obtain ⟨ta, ha, sa⟩ := ha
  obtain ⟨tb, hb, sb⟩ := hb
  exact ⟨_, pe_op op_sub ha hb, snd_op (sr_I0 fun _ _ _ => .int _) sa sb⟩
abbrev gMul : G2 := gI CMulW fun i j => .int (i * j)
theorem c_mul (ha : CE X a fa) (hb : CE X b fb) : CE X (.BinOp a .Mult b pos) (eOp gMul fa fb) := by
  obtain ⟨ta, ha, sa⟩ := ha
  obtain ⟨tb, hb, sb⟩ := hb
  exact ⟨_, pe_op op_mulW ha hb, snd_op (sr_I fun _ _ _ => .int _) sa sb⟩
abbrev gMod : G2 := gI (fun _ j => 0 < j) fun i j => .int (i % j)
theorem c_mod (ha : CE X a fa) (hb : CE X b fb) : CE X (.BinOp a .Mod b pos) (eOp gMod fa fb) := by
  obtain ⟨ta, ha, sa⟩ := ha
  obtain ⟨tb, hb, sb⟩ := hb
  exact ⟨_, pe_op op_mod ha hb, snd_op (sr_I fun _ _ _ => .int _) sa sb⟩
abbrev gFdiv : G2 := gI CDivW fun i j => .int (i / j)
theorem c_fdiv (ha : CE X a fa) (hb : CE X b fb) : CE X (.BinOp a .FloorDiv b pos) (eOp gFdiv fa fb) := by
  obtain ⟨ta, ha, sa⟩ := ha
  obtain ⟨tb, hb, sb⟩ := hb
  exact ⟨_, pe_op op_fdivW ha hb, snd_op (sr_I fun _ _ _ => .int _) sa sb⟩
abbrev gPow : G2 := gI CPow fun i j => .int (i ^ j.toNat)
theorem c_pow (ha : CE X a fa) (hb : CE X b fb) : CE X (.BinOp a .Pow b pos) (eOp gPow fa fb) := by
  obtain ⟨ta, ha, sa⟩ := ha
  obtain ⟨tb, hb, sb⟩ := hb
  exact ⟨_, pe_op op_pow ha hb, snd_op (sr_I fun _ _ _ => .int _) sa sb⟩
def eNeg (fa : DE) : DE := fun σ S Q => fa σ S fun x S1 => match x with
  | .int i => Q (.int (-i)) S1
  | _ => False
theorem c_neg (ha : CE X a fa) : CE X (.UnaryOp .USub a pos) (eNeg fa) := by
  obtain ⟨ta, ha, sa⟩ := ha
  refine ⟨_, pe_un un_neg ha, fun σ S Q sv H Kt he hs q k => ?_⟩
  refine sa σ S _ sv H _ he hs q fun v d S1 H1 s1 r1 v1 q1 => ?_
  cases v1 <;> try exact False.elim q1
  exact ⟨_, rfl, k _ _ S1 H1 s1 r1 (.int _) q1⟩
/-! ### comparisons -/
/-- < <= > >= of numbers, of texts -/
def gLt : G2 := fun x y S Q => match x, y with
  | .int i, .int j => Q (.bl (decide (i < j))) S
  | .str i, .str j => Q (.bl (decide (i.cps.toList < j.cps.toList))) S
  | _, _ => False
def rLtA : R2 := fun x y H Q => (rI0 fun i j => .bl (decide (i < j))) x y H Q ∨ (∃ i j, x = .str i ∧ y = .str j ∧ Q (.bl (decide (i.cps.toList < j.cps.toList))) H)
theorem sr_lt : SndR K rLtA gLt := fun x y a b S H Q Kt s ra rb q k => by
  cases ra with
  | int i =>
    cases rb <;> try exact False.elim q
    exact .inl ⟨_, _, rfl, rfl, k.now s (.bl _) q⟩
  | str i =>
    cases rb <;> try exact False.elim q
    exact .inr ⟨_, _, rfl, rfl, k.now s (.bl _) q⟩
  | _ => exact False.elim q
/-- a comparison that is written op -/
structure CO (X : Cx) (op : CmpOp) (g : G2) : Prop where
  ok : ∃ r, OpR X (compareOp op) r ∧ SndR X.K r g
theorem o_lt : CO X .Lt gLt := ⟨_, OpR.or op_lt op_lt_str, sr_lt⟩
theorem o_le : CO X .LtE (gI0 fun i j => .bl (decide (i ≤ j))) := ⟨_, op_le, sr_I0 fun _ _ _ => .bl _⟩
theorem o_gt : CO X .Gt (gI0 fun i j => .bl (decide (j < i))) := ⟨_, op_gt, sr_I0 fun _ _ _ => .bl _⟩
theorem o_ge : CO X .GtE (gI0 fun i j => .bl (decide (j ≤ i))) := ⟨_, op_ge, sr_I0 fun _ _ _ => .bl _⟩
def isNon : D → Bool
  | .non => true
  | _ => false
/-- x is None, x is True -/
def gIs (f : Bool → Bool) : G2 := fun x y S Q => match y with
  | .non => Q (.bl (f (isNon x))) S
  | .bl c => match x with
    | .bl d => Q (.bl (f (decide (d = c)))) S
    | _ => False
  | _ => False
theorem rep_non {v : V} {d : D} (r : Rep K H v d) : decide (v = .non) = isNon d := by
  cases r <;> rfl
theorem o_is : CO X .Is (gIs id) := by
  refine ⟨_, OpR.or op_isN op_isBl, fun x y a b S H Q Kt s ra rb q k => ?_⟩
  cases rb <;> try exact False.elim q
  · exact .inl ⟨rfl, k.now s (.bl _) (by rw [rep_non ra]; exact q)⟩
  · cases ra <;> try exact False.elim q
    exact .inr ⟨_, _, rfl, rfl, k.now s (.bl _) q⟩
/-- what == tells of two flat data -/
def eqS : D → D → Option Bool
  | .non, .non => some true
  | .int i, .int j => some (decide (i = j))
  | .str i, .str j => some (decide (i = j))
  | .bl i, .bl j => some (decide (i = j))
  | .non, .int _ => some false | .int _, .non => some false | .non, .str _ => some false | .str _, .non => some false | .non, .bl _ => some false | .bl _, .non => some false
  | .int _, .str _ => some false | .str _, .int _ => some false | .bl _, .str _ => some false | .str _, .bl _ => some false
  | .bl a, .int b => some (decide ((if a = true then 1 else 0) = b)) | .int a, .bl b => some (decide (a = if b = true then 1 else 0))
  | _, _ => none
/-! data as the library has it -/
mutual
inductive PD (S : Sto) : D → PyData → Prop
  | non : PD S .non .none
  | bl (b : Bool) : PD S (.bl b) (.bool b)
  | int (i : Int) : PD S (.int i) (.int i)
  | str (x : Str) : PD S (.str x) (.str x)
  | tup {ds : List D} {ps : List PyData} (h : PDs S ds ps) : PD S (.tup ds) (.tuple ps)
  | lst {a : Addr} {ds : List D} {ps : List PyData} (e : S a = some (.lst ds)) (h : PDs S ds ps) : PD S (.ref a) (.list ps)
inductive PDs (S : Sto) : List D → List PyData → Prop
  | nil : PDs S [] []
  | cons {d : D} {p : PyData} {ds : List D} {ps : List PyData} (h : PD S d p) (t : PDs S ds ps) : PDs S (d :: ds) (p :: ps)
end
mutual
theorem PD.dp (s : SRep K S H) : ∀ {d : D} {p : PyData}, PD S d p → ∀ {v : V}, Rep K H v d → Dp K H v p
  | _, _, .non, _, r => by cases r; exact .non
  | _, _, .bl b, _, r => by cases r; exact .bl b
  | _, _, .int i, _, r => by cases r; exact .int i
  | _, _, .str x, _, r => by cases r; exact .str x
  | _, _, .tup q, _, r => by
    cases r with
    | tup h r => exact .tup h (PDs.dp s q r)
  | _, _, .lst e q, _, r => by
    cases r with
    | ref a =>
      obtain ⟨vs, e1, r⟩ := s _ _ e
      exact .lst (.inl (.inl e1)) (PDs.dp s q r)
theorem PDs.dp (s : SRep K S H) : ∀ {ds : List D} {ps : List PyData}, PDs S ds ps → ∀ {vs : List V}, Reps K H vs ds → DpAll K H vs ps
  | _, _, .nil, _, r => by cases r; exact .nil
  | _, _, .cons q t, _, r => by
    cases r with
    | cons h r => exact .cons (PD.dp s q h) (PDs.dp s t r)
end
/-- == of anything -/
def gEq (f : Bool → Bool) : G2 := fun x y S Q => match eqS x y with
  | some b => Q (.bl (f b)) S
  | none => ∃ p q, PD S x p ∧ PD S y q ∧ p.depth ≤ 64 ∧ Q (.bl (f (PyData.eqv p q))) S
mutual
theorem PD.plain : ∀ {d : D} {p : PyData}, PD S d p → p.plain = true
  | _, _, .non => rfl
  | _, _, .bl _ => rfl
  | _, _, .int _ => rfl
  | _, _, .str _ => rfl
  | _, _, .tup h => PDs.plain h
  | _, _, .lst _ h => PDs.plain h
theorem PDs.plain : ∀ {ds : List D} {ps : List PyData}, PDs S ds ps → PyData.plainAll ps = true
  | _, _, .nil => rfl
  | _, _, .cons h t => by
    unfold PyData.plainAll
    rw [PD.plain h, PDs.plain t]
    rfl
end
theorem eqS_pd {a b : D} {r : Bool} (h : eqS a b = some r) : ∃ p q, PD S a p ∧ PD S b q ∧ p.depth = 0 ∧ PyData.eqv p q = r := by
  cases a <;> cases b <;> first | (cases h; done) | (cases h; refine ⟨_, _, by constructor, by constructor, rfl, ?_⟩; first | rfl | (simp only [PyData.eqv, beq_eq_decide]; done) | (simp only [PyData.eqv, Bool.beq_eq_decide_eq]; done))
def rEqP (K : PySem.W.Frag) : R2 := fun x y H Q => ∃ d e, Dp K H x d ∧ Dp K H y e ∧ d.plain = true ∧ e.plain = true ∧ d.depth ≤ 64 ∧ Q (.bl (PyData.eqv d e)) H
def rNeP (K : PySem.W.Frag) : R2 := fun x y H Q => ∃ d e, Dp K H x d ∧ Dp K H y e ∧ d.plain = true ∧ e.plain = true ∧ d.depth ≤ 64 ∧ Q (.bl (!PyData.eqv d e)) H
theorem opEqP (hu : X.A.units + 64 < cLine) : OpR X (compareOp .Eq) (rEqP X.K) := fun pins s σ H x y v u Q I rx ry ⟨d, e, hd, he, pd, pe, hz, q⟩ => by
  have ⟨as, r1⟩ := hd.reads I d x v rx
  have ⟨bs, r2⟩ := he.reads I e y u ry
  exact SeqAt.eq_plain r1 r2 pd pe (by omega) ⟨.bl _, H, I, rfl, q⟩
theorem opNeP (hu : X.A.units + 64 < cLine) : OpR X (compareOp .NotEq) (rNeP X.K) := fun pins s σ H x y v u Q I rx ry ⟨d, e, hd, he, pd, pe, hz, q⟩ => by
  have ⟨as, r1⟩ := hd.reads I d x v rx
  have ⟨bs, r2⟩ := he.reads I e y u ry
  exact SeqAt.ne_plain r1 r2 pd pe (by omega) ⟨.bl _, H, I, rfl, q⟩
theorem eq_pd {f : Bool → Bool} {a b : D} {Q : DK} (q : gEq f a b S Q) : ∃ p e, PD S a p ∧ PD S b e ∧ p.depth ≤ 64 ∧ Q (.bl (f (PyData.eqv p e))) S := by
  unfold gEq at q
  cases h : eqS a b with
  | some r =>
    rw [h] at q
    obtain ⟨p, e, h1, h2, h3, h4⟩ := eqS_pd (S := S) h
    exact ⟨p, e, h1, h2, by omega, by rw [h4]; exact q⟩
  | none =>
    rw [h] at q
    exact q
theorem o_eq (hu : X.A.units + 64 < cLine) : CO X .Eq (gEq id) := by
  refine ⟨_, opEqP hu, fun x y a b S H Q Kt s ra rb q k => ?_⟩
  obtain ⟨p, e, h1, h2, h3, q⟩ := eq_pd q
  exact ⟨p, e, PD.dp s h1 ra, PD.dp s h2 rb, h1.plain, h2.plain, h3, k.now s (.bl _) q⟩
theorem o_ne (hu : X.A.units + 64 < cLine) : CO X .NotEq (gEq not) := by
  refine ⟨_, opNeP hu, fun x y a b S H Q Kt s ra rb q k => ?_⟩
  obtain ⟨p, e, h1, h2, h3, q⟩ := eq_pd q
  exact ⟨p, e, PD.dp s h1 ra, PD.dp s h2 rb, h1.plain, h2.plain, h3, k.now s (.bl _) q⟩
theorem c_cmp {op : CmpOp} {g : G2} (ho : CO X op g) (ha : CE X a fa) (hb : CE X b fb) (hm : behindInMarks op b = false) : CE X (.Compare a [op] [b] pos) (eOp g fa fb) := by
  obtain ⟨r, o1, o2⟩ := ho
  obtain ⟨ta, ha, sa⟩ := ha
  obtain ⟨tb, hb, sb⟩ := hb
  exact ⟨_, pe_cmpR o1 ha hb hm, snd_op o2 sa sb⟩
end
end DL
namespace DL
open PySem PySem.Spec PyProof.Rows L2
section
variable {X : Cx} {K : PySem.W.Frag} {e a b c : Expr} {es : List Expr} {fe fa fb fc : DE} {ft fu : DT} {fs : DA} {pos : Pos} {S : Sto} {H : Hp}
/-! ### tests -/
def tTr (f : DE) : DT := fun σ S Q => f σ S fun d S1 => match d with
  | .non => Q false S1
  | .bl k => Q k S1
  | .int i => Q (i != 0) S1
  | .str y => y.length ≤ sizeLine ∧ Q (y.length != 0) S1
  | .tup xs => Q (!xs.isEmpty) S1
  | .ref p => (match S1 p with
    | some (.lst xs) => Q (!xs.isEmpty) S1
    | some (.dk kvs) => Q (!kvs.isEmpty) S1
    | none => False)
  | _ => False
theorem empty_reps {vs : List V} {ds : List D} (r : Reps K H vs ds) : vs.isEmpty = ds.isEmpty := by cases r <;> rfl
theorem empty_kreps {ws : List (Key × V)} {kvs : List (Key × D)} (r : KReps K H ws kvs) : ws.isEmpty = kvs.isEmpty := by cases r <;> rfl
theorem len_ne0 (y : Str) : (((y.length : Int)) != 0) = (y.length != 0) := by
  by_cases h : y.length = 0
  · rw [h]; rfl
  · have h2 : ¬ ((y.length : Int) = 0) := by omega
    rw [bne_iff_ne.mpr h2, bne_iff_ne.mpr h]
/-- a value's truth -/
theorem k_tru (ha : CE X a fa) (he : ∀ whole, isTrue a X.env whole = (do let v ← whole; standAt a.pos; holding [v] (truthy v)) := by intro _; rfl) : CT X a (tTr fa) := by
  obtain ⟨ta, ha, sa⟩ := ha
  refine ⟨_, pt_truth ha he, fun σ S Q sv H Kt re rs q k => ?_⟩
  refine sa σ S _ sv H _ re rs q fun v d S1 H1 s1 r1 v1 q1 => ?_
  cases v1 with
  | non => exact ⟨false, rfl, k _ _ _ s1 r1 q1⟩
  | bl y => exact ⟨y, rfl, k _ _ _ s1 r1 q1⟩
  | int i => exact ⟨_, rfl, k _ _ _ s1 r1 q1⟩
  | str y => exact ⟨_, ⟨q1.1, (len_ne0 y).symm⟩, k _ _ _ s1 r1 q1.2⟩
  | ty n => exact False.elim q1
  | @tup p vs ds h r => exact ⟨_, .inr (.inl ⟨vs, h, rfl⟩), k _ _ _ s1 r1 (by rw [empty_reps r]; exact q1)⟩
  | @fl p vs ds h r => exact False.elim q1
  | ref p =>
    cases h : S1 p with
    | none => simp only [h] at q1
    | some o =>
      cases o with
      | lst xs =>
        simp only [h] at q1
        obtain ⟨vs, e1, r⟩ := r1 _ _ h
        exact ⟨_, .inl ⟨vs, .inl (.inl e1), rfl⟩, k _ _ _ s1 r1 (by rw [empty_reps r]; exact q1)⟩
      | dk kvs =>
        simp only [h] at q1
        obtain ⟨vs, e1, r⟩ := r1 _ _ h
        exact ⟨_, .inr (.inr ⟨vs, e1, rfl⟩), k _ _ _ s1 r1 (by rw [empty_kreps r]; exact q1)⟩
/-- a test of what is a truth -/
def tBl (f : DE) : DT := fun σ S Q => f σ S fun d S1 => match d with
  | .bl k => Q k S1
  | _ => False
theorem snd_tTest {t : TE} (h : Snd K t fa) : SndT K (tTest t) (tBl fa) := fun σ S Q sv H Kt re rs q k =>
  h σ S _ sv H _ re rs q fun v d S1 H1 s1 r1 v1 q1 => by
    cases v1 <;> try exact False.elim q1
    exact ⟨_, rfl, k _ _ _ s1 r1 q1⟩
theorem k_cmp {op : CmpOp} {g : G2} (ho : CO X op g) (ha : CE X a fa) (hb : CE X b fb) (hm : behindInMarks op b = false) : CT X (.Compare a [op] [b] pos) (tBl (eOp g fa fb)) := by
  obtain ⟨r, o1, o2⟩ := ho
  obtain ⟨ta, ha, sa⟩ := ha
  obtain ⟨tb, hb, sb⟩ := hb
  exact ⟨_, pt_cmpR o1 ha hb hm, snd_tTest (snd_op o2 sa sb)⟩
/-- a op1 b op2 c -/
def eChain (g g' : G2) (fa fb fc : DE) : DE := fun σ S Q => fa σ S fun x S1 => fb σ S1 fun y S2 => g x y S2 fun z S3 => match z with
  | .bl k => if k = true then fc σ S3 fun u S4 => g' y u S4 Q else Q (.bl false) S3
  | _ => False
theorem snd_chain {r r' : R2} {g g' : G2} {ta tb tc : TE} (hr : SndR K r g) (hr' : SndR K r' g') (ha : Snd K ta fa) (hb : Snd K tb fb) (hc : Snd K tc fc) : Snd K (tChain r r' ta tb tc) (eChain g g' fa fb fc) := fun σ S Q sv H Kt he hs q k =>
  ha σ S _ sv H _ he hs q fun v d S1 H1 s1 r1 v1 q1 =>
    hb σ S1 _ sv H1 _ (he.mono s1.tx) r1 q1 fun u d2 S2 H2 s2 r2 u2 q2 =>
      hr v u d d2 S2 H2 _ _ r2 (v1.mono s2.tx) u2 q2 fun v3 d3 S3 H3 s3 r3 v3' q3 => by
        cases v3' <;> try exact False.elim q3
        rename_i kk
        refine ⟨kk, rfl, ?_⟩
        cases kk with
        | true =>
          exact hc σ S3 _ sv H3 _ (he.mono ((s1.trans s2).trans s3).tx) r3 q3 fun v4 d4 S4 H4 s4 r4 v4' q4 =>
            hr' u v4 d2 d4 S4 H4 Q Kt r4 (u2.mono (s3.trans s4).tx) v4' q4 fun v5 d5 S5 H5 s5 r5 v5' q5 => k v5 d5 S5 H5 ((((s1.trans s2).trans s3).trans s4).trans s5) r5 v5' q5
        | false => exact k _ _ _ _ ((s1.trans s2).trans s3) r3 (.bl false) q3
theorem c_chain {op op' : CmpOp} {g g' : G2} (ho : CO X op g) (ho' : CO X op' g') (ha : CE X a fa) (hb : CE X b fb) (hc : CE X c fc) (h1 : lastMarks [op, op'] [b, c] = false := by rfl) : CE X (.Compare a [op, op'] [b, c] pos) (eChain g g' fa fb fc) := by
  obtain ⟨r, o1, o2⟩ := ho
  obtain ⟨r', o1', o2'⟩ := ho'
  obtain ⟨ta, ha, sa⟩ := ha
  obtain ⟨tb, hb, sb⟩ := hb
  obtain ⟨tc, hc, sc⟩ := hc
  exact ⟨_, pe_chain o1 o1' ha hb hc h1, snd_chain o2 o2' sa sb sc⟩
theorem k_chain {op op' : CmpOp} {g g' : G2} (ho : CO X op g) (ho' : CO X op' g') (ha : CE X a fa) (hb : CE X b fb) (hc : CE X c fc) (h1 : lastMarks [op, op'] [b, c] = false := by rfl) : CT X (.Compare a [op, op'] [b, c] pos) (tBl (eChain g g' fa fb fc)) := by
  obtain ⟨r, o1, o2⟩ := ho
  obtain ⟨r', o1', o2'⟩ := ho'
  obtain ⟨ta, ha, sa⟩ := ha
  obtain ⟨tb, hb, sb⟩ := hb
  obtain ⟨tc, hc, sc⟩ := hc
  exact ⟨_, pt_chain o1 o1' ha hb hc h1, snd_tTest (snd_chain o2 o2' sa sb sc)⟩
/-! and, or, not as tests -/
structure CW (X : Cx) (e : Expr) (f : DT) : Prop where
  ok : ∃ t, PW X e t ∧ SndT X.K t f
variable {rest : List Expr}
def tAndD (f g : DT) : DT := fun σ S Q => f σ S fun k S1 => if k = true then g σ S1 Q else Q false S1
def tOrD (f g : DT) : DT := fun σ S Q => f σ S fun k S1 => if k = true then Q true S1 else g σ S1 Q
def tNotD (f : DT) : DT := fun σ S Q => f σ S fun k S1 => Q (!k) S1
theorem w_and1 (ha : CT X a ft) : CW X (.BoolOp .And [a] pos) ft := let ⟨_, h, s⟩ := ha.ok; ⟨_, pw_and1 h, s⟩
theorem w_or1 (ha : CT X a ft) : CW X (.BoolOp .Or [a] pos) ft := let ⟨_, h, s⟩ := ha.ok; ⟨_, pw_or1 h, s⟩
theorem w_and (ha : CT X a ft) (hb : CW X (.BoolOp .And (b :: rest) pos) fu) : CW X (.BoolOp .And (a :: b :: rest) pos) (tAndD ft fu) := by
  obtain ⟨ta, ha, sa⟩ := ha
  obtain ⟨tb, hb, sb⟩ := hb
  refine ⟨_, pw_and ha hb, fun σ S Q sv H Kt re rs q k => sa σ S _ sv H _ re rs q fun kk S1 H1 s1 r1 q1 => ?_⟩
  cases kk with
  | true => exact sb σ S1 Q sv H1 _ (re.mono s1.tx) r1 q1 fun k2 S2 H2 s2 r2 q2 => k k2 S2 H2 (s1.trans s2) r2 q2
  | false => exact k _ _ _ s1 r1 q1
theorem w_or (ha : CT X a ft) (hb : CW X (.BoolOp .Or (b :: rest) pos) fu) : CW X (.BoolOp .Or (a :: b :: rest) pos) (tOrD ft fu) := by
  obtain ⟨ta, ha, sa⟩ := ha
  obtain ⟨tb, hb, sb⟩ := hb
  refine ⟨_, pw_or ha hb, fun σ S Q sv H Kt re rs q k => sa σ S _ sv H _ re rs q fun kk S1 H1 s1 r1 q1 => ?_⟩
  cases kk with
  | false => exact sb σ S1 Q sv H1 _ (re.mono s1.tx) r1 q1 fun k2 S2 H2 s2 r2 q2 => k k2 S2 H2 (s1.trans s2) r2 q2
  | true => exact k _ _ _ s1 r1 q1
theorem k_w (h : CW X e ft) : CT X e ft := let ⟨_, h, s⟩ := h.ok; ⟨_, h.pt, s⟩
theorem k_not (ha : CT X a ft) : CT X (.UnaryOp .Not a pos) (tNotD ft) := by
  obtain ⟨ta, ha, sa⟩ := ha
  exact ⟨_, pt_not ha, fun σ S Q sv H Kt re rs q k => sa σ S _ sv H _ re rs q fun kk S1 H1 s1 r1 q1 => k _ _ _ s1 r1 q1⟩
/-! .. as values -/
def eAnd (fa fb : DE) : DE := fun σ S Q => fa σ S fun x S1 => match x with
  | .bl k => if k = true then fb σ S1 Q else Q (.bl false) S1
  | _ => False
def eOr (fa fb : DE) : DE := fun σ S Q => fa σ S fun x S1 => match x with
  | .bl k => if k = true then Q (.bl true) S1 else fb σ S1 Q
  | _ => False
def eNot (fa : DE) : DE := fun σ S Q => fa σ S fun x S1 => match x with
  | .bl k => Q (.bl (!k)) S1
  | _ => False
theorem c_one {op} (ha : CE X a fa) : CE X (.BoolOp op [a] pos) fa := let ⟨_, h, s⟩ := ha.ok; ⟨_, pe_one h, s⟩
theorem c_and (ha : CE X a fa) (hb : CE X (.BoolOp .And (b :: rest) pos) fb) : CE X (.BoolOp .And (a :: b :: rest) pos) (eAnd fa fb) := by
  obtain ⟨ta, ha, sa⟩ := ha
  obtain ⟨tb, hb, sb⟩ := hb
  refine ⟨_, pe_and ha hb, fun σ S Q sv H Kt re rs q k => sa σ S _ sv H _ re rs q fun v d S1 H1 s1 r1 v1 q1 => ?_⟩
  cases v1 <;> try exact False.elim q1
  rename_i kk
  refine ⟨kk, rfl, ?_⟩
  cases kk with
  | true => exact sb σ S1 Q sv H1 _ (re.mono s1.tx) r1 q1 fun v2 d2 S2 H2 s2 r2 v2' q2 => k v2 d2 S2 H2 (s1.trans s2) r2 v2' q2
  | false => exact k _ _ _ _ s1 r1 (.bl _) q1
theorem c_or (ha : CE X a fa) (hb : CE X (.BoolOp .Or (b :: rest) pos) fb) : CE X (.BoolOp .Or (a :: b :: rest) pos) (eOr fa fb) := by
  obtain ⟨ta, ha, sa⟩ := ha
  obtain ⟨tb, hb, sb⟩ := hb
  refine ⟨_, pe_or ha hb, fun σ S Q sv H Kt re rs q k => sa σ S _ sv H _ re rs q fun v d S1 H1 s1 r1 v1 q1 => ?_⟩
  cases v1 <;> try exact False.elim q1
  rename_i kk
  refine ⟨kk, rfl, ?_⟩
  cases kk with
  | false => exact sb σ S1 Q sv H1 _ (re.mono s1.tx) r1 q1 fun v2 d2 S2 H2 s2 r2 v2' q2 => k v2 d2 S2 H2 (s1.trans s2) r2 v2' q2
  | true => exact k _ _ _ _ s1 r1 (.bl _) q1
theorem c_not (ha : CE X a fa) : CE X (.UnaryOp .Not a pos) (eNot fa) := by
  obtain ⟨ta, ha, sa⟩ := ha
  refine ⟨_, pe_not ha, fun σ S Q sv H Kt re rs q k => sa σ S _ sv H _ re rs q fun v d S1 H1 s1 r1 v1 q1 => ?_⟩
  cases v1 <;> try exact False.elim q1
  exact ⟨_, rfl, k _ _ _ _ s1 r1 (.bl _) q1⟩
def eIf (ft : DT) (fa fb : DE) : DE := fun σ S Q => ft σ S fun k S1 => if k = true then fa σ S1 Q else fb σ S1 Q
theorem c_if (hc : CT X c ft) (ha : CE X a fa) (hb : CE X b fb) : CE X (.IfExp c a b pos) (eIf ft fa fb) := by
  obtain ⟨tc, hc, sc⟩ := hc
  obtain ⟨ta, ha, sa⟩ := ha
  obtain ⟨tb, hb, sb⟩ := hb
  refine ⟨_, pe_ifExp hc ha hb, fun σ S Q sv H Kt re rs q k => sc σ S _ sv H _ re rs q fun kk S1 H1 s1 r1 q1 => ?_⟩
  cases kk with
  | true => exact sa σ S1 Q sv H1 _ (re.mono s1.tx) r1 q1 fun v2 d2 S2 H2 s2 r2 v2' q2 => k v2 d2 S2 H2 (s1.trans s2) r2 v2' q2
  | false => exact sb σ S1 Q sv H1 _ (re.mono s1.tx) r1 q1 fun v2 d2 S2 H2 s2 r2 v2' q2 => k v2 d2 S2 H2 (s1.trans s2) r2 v2' q2
/-! ### lists of expressions, displays -/
def aNil : DA := fun _ S Q => Q [] S
def aCons (fa : DE) (fs : DA) : DA := fun σ S Q => fa σ S fun x S1 => fs σ S1 fun xs S2 => Q (x :: xs) S2
theorem a_nil : CA X [] aNil := ⟨_, pa_nil, fun σ S Q sv H Kt re rs q k => k _ _ _ _ .refl rs .nil q⟩
theorem a_cons (ha : CE X a fa) (hr : CA X es fs) (hs : starEach (a :: es) X.env = (false, eval a X.env) :: starEach es X.env := by rfl) : CA X (a :: es) (aCons fa fs) := by
  obtain ⟨ta, ha, sa⟩ := ha
  obtain ⟨tr, hr, sr⟩ := hr
  refine ⟨_, pa_cons ha hr hs, fun σ S Q sv H Kt re rs q k => sa σ S _ sv H _ re rs q fun v d S1 H1 s1 r1 v1 q1 => ?_⟩
  exact sr σ S1 _ sv H1 _ (re.mono s1.tx) r1 q1 fun vs ds S2 H2 s2 r2 vs2 q2 => k _ _ S2 H2 (s1.trans s2) r2 (.cons (v1.mono s2.tx) vs2) q2
def eTup (fs : DA) : DE := fun σ S Q => fs σ S fun xs S1 => xs.length ≤ sizeLine ∧ Q (.tup xs) S1
def eLst (fs : DA) : DE := fun σ S Q => fs σ S fun xs S1 => xs.length ≤ sizeLine ∧ ∀ p, S1 p = none → Q (.ref p) (updS S1 p (.lst xs))
theorem c_tup {n} (h : CA X es fs) : CE X (.Tuple es n pos) (eTup fs) := by
  obtain ⟨ta, ha, sa⟩ := h
  refine ⟨_, pe_tup ha, fun σ S Q sv H Kt re rs q k => sa σ S _ sv H _ re rs q fun vs ds S1 H1 s1 r1 v1 q1 => ?_⟩
  refine ⟨by rw [v1.length]; exact q1.1, fun p hp => ?_⟩
  obtain ⟨st, sr⟩ := stp_tup (vs := vs) r1 hp
  exact k _ _ _ _ (s1.trans st) sr (.tup (.inl (.inl upd_same)) (v1.mono st.tx)) q1.2
theorem c_lst (h : CA X es fs) : CE X (.List es pos) (eLst fs) := by
  obtain ⟨ta, ha, sa⟩ := h
  refine ⟨_, pe_lst ha, fun σ S Q sv H Kt re rs q k => sa σ S _ sv H _ re rs q fun vs ds S1 H1 s1 r1 v1 q1 => ?_⟩
  refine ⟨by rw [v1.length]; exact q1.1, fun p hp => ?_⟩
  have tx := tx_new (K := X.K) (ho := .lst vs) hp
  obtain ⟨st, sr⟩ := stp_new (o := .lst ds) r1 hp ⟨_, upd_same, v1.mono tx⟩
  exact k _ _ _ _ (s1.trans st) sr (.ref p) (q1.2 p (r1.free hp))
end
end DL
namespace DL
open PySem PySem.Spec PyProof.Rows L2
section
variable {X : Cx} {K : PySem.W.Frag} {e a b c : Expr} {es : List Expr} {fe fa fb fc : DE} {ft fu : DT} {fs : DA} {pos : Pos} {S : Sto} {H : Hp}
/-! ### keys, tables -/
def toKey : D → Option Key
  | .int i => some (.inl i)
  | .str s => some (.inr s)
  | _ => none
def valD : List (Key × D) → Key → Option D
  | [], _ => none
  | p :: r, k => if p.1 = k then some p.2 else valD r k
def hasD (kvs : List (Key × D)) (k : Key) : Bool := (valD kvs k).isSome
def replD : List (Key × D) → Key → D → List (Key × D)
  | [], _, _ => []
  | p :: r, k, d => (if p.1 = k then (p.1, d) else p) :: replD r k d
def putD (kvs : List (Key × D)) (k : Key) (d : D) : List (Key × D) := if hasD kvs k = true then replD kvs k d else kvs ++ [(k, d)]
def dropD : List (Key × D) → Key → List (Key × D)
  | [], _ => []
  | p :: r, k => if p.1 = k then dropD r k else p :: dropD r k
theorem key_rep {v : V} {d : D} {k : Key} (r : Rep K H v d) (h : toKey d = some k) : v = kV k := by
  cases r <;> first | (cases h; rfl) | cases h
theorem kreps_val : ∀ {ws : List (Key × V)} {kvs : List (Key × D)} (k : Key), KReps K H ws kvs → (valV ws k = none ∧ valD kvs k = none) ∨ ∃ v d, valV ws k = some v ∧ valD kvs k = some d ∧ Rep K H v d
  | _, _, _, .nil => .inl ⟨rfl, rfl⟩
  | p :: ws, q :: kvs, k, .cons h r => by
    by_cases e : q.1 = k
    · exact .inr ⟨p.2, q.2, valV_pos (h.1.trans e), by unfold valD; rw [if_pos e], h.2⟩
    · rw [valV_neg (fun z => e (h.1.symm.trans z))]
      unfold valD
      rw [if_neg e]
      exact kreps_val k r
theorem kreps_len {ws : List (Key × V)} {kvs : List (Key × D)} (r : KReps K H ws kvs) : ws.length = kvs.length := Paired.length r
theorem kreps_repl {v : V} {d : D} (rv : Rep K H v d) (k : Key) : ∀ {ws : List (Key × V)} {kvs : List (Key × D)}, KReps K H ws kvs → KReps K H (ws.map fun kv => if kv.1 = k then (kv.1, v) else kv) (replD kvs k d)
  | _, _, .nil => .nil
  | p :: ws, q :: kvs, .cons h r => by
    refine .cons ?_ (kreps_repl rv k r)
    by_cases e : q.1 = k
    · dsimp only
      rw [if_pos e, if_pos (h.1.trans e)]
      exact ⟨h.1, rv⟩
    · dsimp only
      rw [if_neg e, if_neg (fun z => e (h.1.symm.trans z))]
      exact h
theorem kreps_app : ∀ {ws us : List (Key × V)} {kvs js : List (Key × D)}, KReps K H ws kvs → KReps K H us js → KReps K H (ws ++ us) (kvs ++ js)
  | _, _, _, _, .nil, s => s
  | _, _, _, _, .cons h r, s => .cons h (kreps_app r s)
theorem kreps_put {v : V} {d : D} (rv : Rep K H v d) (k : Key) {ws : List (Key × V)} {kvs : List (Key × D)} (r : KReps K H ws kvs) : KReps K H (putK ws k v) (putD kvs k d) := by
  unfold putK putD hasD
  rw [valV_any]
  rcases kreps_val k r with ⟨e1, e2⟩ | ⟨u, z, e1, e2, _⟩
  · rw [e1, e2]
    exact kreps_app r (.cons ⟨rfl, rv⟩ .nil)
  · rw [e1, e2]
    exact kreps_repl rv k r
theorem kreps_drop (k : Key) : ∀ {ws : List (Key × V)} {kvs : List (Key × D)}, KReps K H ws kvs → KReps K H (dropK ws k) (dropD kvs k)
  | _, _, .nil => .nil
  | p :: ws, q :: kvs, .cons h r => by
    unfold dropD
    by_cases e : q.1 = k
    · rw [if_pos e]
      have e2 : dropK (p :: ws) k = dropK ws k := by
        unfold dropK
        rw [List.filter_cons_of_neg]
        simpa using h.1.trans e
      rw [e2]
      exact kreps_drop k r
    · rw [if_neg e]
      have e2 : dropK (p :: ws) k = p :: dropK ws k := by
        unfold dropK
        rw [List.filter_cons_of_pos]
        simpa using fun z => e (h.1.symm.trans z)
      rw [e2]
      exact .cons h (kreps_drop k r)
/-! ### a[b] -/
theorem ixDict (hu : X.A.units + 1 < cLine) : IxR X (fun x y H Q => ∃ a v, x = .ref a ∧ DGet H a y (some v) ∧ Q v H) := by
  intro value slice pins s σ H x y v u Q I rx ry h hs
  obtain ⟨a, z, ex, g, q⟩ := h
  subst ex
  have ev : v = Value.ref a := rx
  subst ev
  have got := d_getItem (A := X.A) (E := X.xe) (Q := EP X pins σ Q) hu I g ry fun w' s3 I3 rw' => ⟨z, H, I3, rw', q⟩
  have ty := dict_typeIs I g
  have fin : wpAny (model X.prog X.w) X.A (subscripted slice false (.ref a) u) (fun r s3 => wpAny (model X.prog X.w) X.A (letTemporaryGo value (.ref a) r >>= fun _ => pure r) (EP X pins σ Q) X.xe s3) X.xe s := by
    rw [hs]
    exact wpAny_operating (thn got fun r s3 h3 => wpAny_bind (wpAny_letTemporaryGo (wpAny_pure h3)))
  unfold subscriptTail
  refine wpAny_bind ?_
  rw [getitemInPython_of_ne ty.not_modules]
  refine wpAny_bind (wpAny_specialOf ty PySem.F.slot_dict_getitem.lookup ?_)
  first | exact wpAny_pure (wpAny_bind fin) | exact wpAny_bind (wpAny_pure (wpAny_bind fin)) | exact wpAny_bind fin
def gIx : G2 := fun x y S Q => match x with
  | .tup xs => (match y with
    | .int i => ∃ d, atI xs i = some d ∧ Q d S
    | _ => False)
  | .str z => (match y with
    | .int i => z.length ≤ sizeLine ∧ ∃ c, atI z.cps.toList i = some c ∧ Q (.str ⟨#[c]⟩) S
    | _ => False)
  | .fl xs => (match y with
    | .int i => ∃ d, atI xs i = some d ∧ Q d S
    | _ => False)
  | .ref p => (match S p with
    | some (.lst xs) => (match y with
      | .int i => ∃ d, atI xs i = some d ∧ Q d S
      | _ => False)
    | some (.dk kvs) => ∃ k d, toKey y = some k ∧ valD kvs k = some d ∧ Q d S
    | none => False)
  | _ => False
theorem reps_atI {vs : List V} {ds : List D} {i : Int} {d : D} (r : Reps K H vs ds) (h : atI ds i = some d) : ∃ v, atI vs i = some v ∧ Rep K H v d := by
  unfold atI at h ⊢
  rw [r.length]
  cases q : ixN ds.length i with
  | none => rw [q] at h; cases h
  | some j =>
    rw [q] at h
    obtain ⟨v, e, rv⟩ := r.get (i := j) (d := d) h
    exact ⟨v, e, rv⟩
theorem sr_ix : SndR K (fun x y H Q => rIx K x y H Q ∨ ∃ a v, x = .ref a ∧ DGet H a y (some v) ∧ Q v H) gIx := fun x y a b S H Q Kt s ra rb q k => by
  cases ra with
  | @tup p vs ds h r =>
    cases rb <;> try exact False.elim q
    obtain ⟨d, e, q⟩ := q
    obtain ⟨v, e2, rv⟩ := reps_atI r e
    exact .inl (.inr (.inl ⟨p, vs, _, v, rfl, rfl, h, e2, k.now s rv q⟩))
  | @fl p vs ds h r =>
    cases rb <;> try exact False.elim q
    obtain ⟨d, e, q⟩ := q
    obtain ⟨v, e2, rv⟩ := reps_atI r e
    exact .inl (.inl ⟨p, vs, _, v, rfl, rfl, h.sq, e2, k.now s rv q⟩)
  | str z =>
    cases rb <;> try exact False.elim q
    obtain ⟨hz, d, e, q⟩ := q
    exact .inl (.inr (.inr ⟨z, _, d, rfl, rfl, hz, e, k.now s (.str _) q⟩))
  | ref p =>
    unfold gIx at q
    cases h : S p with
    | none => simp only [h] at q
    | some o =>
      cases o with
      | lst xs =>
        simp only [h] at q
        cases rb <;> try exact False.elim q
        obtain ⟨d, e, q⟩ := q
        obtain ⟨vs, e1, r⟩ := s _ _ h
        obtain ⟨v, e2, rv⟩ := reps_atI r e
        exact .inl (.inl ⟨p, vs, _, v, rfl, rfl, .inl (.inl e1), e2, k.now s rv q⟩)
      | dk kvs =>
        simp only [h] at q
        obtain ⟨kk, d, e1, e2, q⟩ := q
        obtain ⟨ws, e3, r⟩ := s _ _ h
        rcases kreps_val kk r with ⟨_, z⟩ | ⟨v, d', z1, z2, rv⟩
        · rw [e2] at z; cases z
        · rw [e2] at z2; cases z2
          exact .inr ⟨p, v, rfl, by rw [key_rep rb e1, ← z1]; exact .k e3, k.now s rv q⟩
  | _ => exact False.elim q
theorem c_ix (hu : X.A.units + 1 < cLine) (ha : CE X a fa) (hb : CE X b fb) (hs : PlainIx b := by intro _ _; rfl) : CE X (.Subscript a b pos) (eOp gIx fa fb) := by
  obtain ⟨ta, ha, sa⟩ := ha
  obtain ⟨tb, hb, sb⟩ := hb
  exact ⟨_, pe_ix (IxR.or ix_seq (ixDict hu)) ha hb hs, snd_op sr_ix sa sb⟩
/-! ### a[b:c] -/
abbrev DO := Env → Sto → (Option Int → Sto → Prop) → Prop
structure CP (X : Cx) (e : Option Expr) (f : DO) : Prop where
  ok : ∃ t, PO X e t ∧ ∀ (σ : Env) (S : Sto) (Q : Option Int → Sto → Prop) (sv : L2.St) (H : Hp) (Kt : Option Int → Hp → Prop), ERep X.K H sv σ → SRep X.K S H → f σ S Q →
    (∀ o S' H', Stp X.K S H S' H' → SRep X.K S' H' → Q o S' → Kt o H') → t sv H Kt
def oNo : DO := fun _ S Q => Q none S
def oSome (fa : DE) : DO := fun σ S Q => fa σ S fun x S1 => match x with
  | .int i => Q (some i) S1
  | _ => False
theorem p_none : CP X none oNo := ⟨_, po_none, fun σ S Q sv H Kt re rs q k => k _ _ _ .refl rs q⟩
theorem p_some (ha : CE X a fa) : CP X (some a) (oSome fa) := by
  obtain ⟨ta, ha, sa⟩ := ha
  refine ⟨_, po_some ha, fun σ S Q sv H Kt re rs q k => sa σ S _ sv H _ re rs q fun v d S1 H1 s1 r1 v1 q1 => ?_⟩
  cases v1 <;> try exact False.elim q1
  exact ⟨_, rfl, k _ _ _ s1 r1 q1⟩
/-- the part of a list from one place to another -/
def cutL {α : Type} (xs : List α) (lo hi : Option Int) : List α := (xs.drop (HT.sIx xs.length 0 lo)).take (HT.sIx xs.length xs.length hi - HT.sIx xs.length 0 lo)
def gSl : D → Option Int → Option Int → Sto → DK → Prop := fun x lo hi S Q => match x with
  | .tup xs => Q (.tup (cutL xs lo hi)) S
  | .str z => z.length ≤ sizeLine ∧ Q (.str (cutS z lo hi)) S
  | .fl xs => ∀ p, S p = none → Q (.ref p) (updS S p (.lst (cutL xs lo hi)))
  | .ref p => ∃ xs, S p = some (.lst xs) ∧ ∀ n, S n = none → Q (.ref n) (updS S n (.lst (cutL xs lo hi)))
  | _ => False
theorem reps_cut {vs : List V} {ds : List D} (lo hi : Option Int) (r : Reps K H vs ds) : Reps K H (cutV vs lo hi) (cutL ds lo hi) := by
  unfold cutV cutL
  rw [r.length]
  exact (r.drop _).take _
theorem cut_all {α : Type} {xs : List α} {lo hi : Option Int} (h : HT.sIx xs.length 0 lo = 0 ∧ HT.sIx xs.length xs.length hi = xs.length) : cutL xs lo hi = xs := by
  unfold cutL
  rw [h.1, h.2]
  simp
def rSlAll (K : PySem.W.Frag) : V → Option Int → Option Int → Hp → VK → Prop := fun x lo hi H Q => rSlL K x lo hi H Q ∨ (rSlA K x lo hi H Q ∨ rSlS x lo hi H Q)
def eSl (fa : DE) (fl fh : DO) : DE := fun σ S Q => fa σ S fun x S1 => fl σ S1 fun l S2 => fh σ S2 fun h S3 => gSl x l h S3 Q
theorem sl_all {x : V} {d : D} {lo hi : Option Int} {Q : DK} {Kt : VK} (s : SRep K S H) (r : Rep K H x d) (q : gSl d lo hi S Q) (k : Rch K S H Q Kt) : rSlAll K x lo hi H Kt := by
  cases r with
  | @tup p vs ds h r =>
    have l := r.length
    refine .inr (.inl ⟨p, vs, rfl, h, fun z => ?_, fun z n hn => ?_⟩)
    · have q' : Q (.tup (cutL ds lo hi)) S := q
      rw [cut_all (by rw [← l]; exact z)] at q'
      exact k.now s (.tup h r) q'
    · obtain ⟨st, sr⟩ := stp_tup (vs := cutV vs lo hi) s hn
      exact k _ _ _ _ st sr (.tup (.inl (.inl upd_same)) (reps_cut lo hi (r.mono st.tx))) q
  | str z => exact .inr (.inr ⟨z, rfl, q.1, k.now s (.str _) q.2⟩)
  | @fl p vs ds h r =>
    refine .inl ⟨p, vs, rfl, h.sq, fun n hn => ?_⟩
    have tx := tx_new (K := K) (ho := .lst (cutV vs lo hi)) hn
    obtain ⟨st, sr⟩ := stp_new (o := .lst (cutL ds lo hi)) s hn ⟨_, upd_same, reps_cut lo hi (r.mono tx)⟩
    exact k _ _ _ _ st sr (.ref n) (q n (s.free hn))
  | ref p =>
    obtain ⟨xs, e, q⟩ := q
    obtain ⟨vs, e1, r⟩ := s _ _ e
    refine .inl ⟨p, vs, rfl, .inl (.inl e1), fun n hn => ?_⟩
    have tx := tx_new (K := K) (ho := .lst (cutV vs lo hi)) hn
    obtain ⟨st, sr⟩ := stp_new (o := .lst (cutL xs lo hi)) s hn ⟨_, upd_same, reps_cut lo hi (r.mono tx)⟩
    exact k _ _ _ _ st sr (.ref n) (q n (s.free hn))
  | _ => exact False.elim q
theorem c_sl {lo hi : Option Expr} {fl fh : DO} {p2 : Pos} (ha : CE X a fa) (hl : CP X lo fl) (hh : CP X hi fh) : CE X (.Subscript a (.Slice lo hi none p2) pos) (eSl fa fl fh) := by
  obtain ⟨ta, ha, sa⟩ := ha
  obtain ⟨tl, hl, sl⟩ := hl
  obtain ⟨th, hh, sh⟩ := hh
  refine ⟨_, pe_slice (SlR.or sl_list (SlR.or sl_tupA sl_str)) ha hl hh, fun σ S Q sv H Kt re rs q k => sa σ S _ sv H _ re rs q fun v d S1 H1 s1 r1 v1 q1 => ?_⟩
  refine sl σ S1 _ sv H1 _ (re.mono s1.tx) r1 q1 fun o S2 H2 s2 r2 q2 => ?_
  refine sh σ S2 _ sv H2 _ (re.mono (s1.trans s2).tx) r2 q2 fun o2 S3 H3 s3 r3 q3 => ?_
  exact sl_all r3 (v1.mono (s2.trans s3).tx) q3 fun v4 d4 S4 H4 s4 r4 v4' q4 => k v4 d4 S4 H4 (((s1.trans s2).trans s3).trans s4) r4 v4' q4
/-! ### x in y -/
/-- x is one of flat things -/
def flatD : D → Bool
  | .non => true | .bl _ => true | .int _ => true | .str _ => true
  | _ => false
def eqF : D → D → Bool
  | .non, .non => true
  | .bl a, .bl b => a == b
  | .bl a, .int b => (if a = true then 1 else 0) == b
  | .int a, .bl b => a == if b = true then 1 else 0
  | .int a, .int b => a == b
  | .str a, .str b => a == b
  | _, _ => false
theorem flat_rep {v : V} {d : D} (r : Rep K H v d) (h : flatD d = true) : flatV v = true := by cases r <;> first | rfl | cases h
theorem flat_reps : ∀ {vs : List V} {ds : List D}, Reps K H vs ds → ds.all flatD = true → vs.all flatV = true
  | _, _, .nil, _ => rfl
  | _, _, .cons h r, e => by
    rw [List.all_cons, Bool.and_eq_true] at e ⊢
    exact ⟨flat_rep h e.1, flat_reps r e.2⟩
theorem eqF_rep {x y : V} {a b : D} (rx : Rep K H x a) (ry : Rep K H y b) (ha : flatD a = true) (hb : flatD b = true) : eqV x y = eqF a b := by
  cases rx <;> first | (cases ha; done) | (cases ry <;> first | (cases hb; done) | rfl)
theorem inV_rep {x : V} {a : D} (rx : Rep K H x a) (ha : flatD a = true) : ∀ {vs : List V} {ds : List D}, Reps K H vs ds → ds.all flatD = true → inV x vs = ds.any fun y => eqF y a
  | _, _, .nil, _ => rfl
  | _, _, .cons h r, e => by
    rw [List.all_cons, Bool.and_eq_true] at e
    have ih := inV_rep rx ha r e.2
    unfold inV at ih ⊢
    rw [List.any_cons, List.any_cons, ih, eqF_rep h rx e.1 ha]
def inStr (i j : Str) : Bool := !(Builtin.Str.occurrences j i 0 j.length 1).isEmpty
def gIn (f : Bool → Bool) : G2 := fun x y S Q => match y with
  | .str j => (match x with
    | .str i => Q (.bl (f (inStr i j))) S
    | _ => False)
  | .tup ys => flatD x = true ∧ ys.all flatD = true ∧ Q (.bl (f (ys.any fun z => eqF z x))) S
  | .fl ys => flatD x = true ∧ ys.all flatD = true ∧ Q (.bl (f (ys.any fun z => eqF z x))) S
  | .ref p => (match S p with
    | some (.lst ys) => flatD x = true ∧ ys.all flatD = true ∧ Q (.bl (f (ys.any fun z => eqF z x))) S
    | some (.dk kvs) => ∃ k, toKey x = some k ∧ Q (.bl (f (hasD kvs k))) S
    | none => False)
  | _ => False
theorem opInD (hu : X.A.units + 1 < cLine) : OpR X (compareOp .In) (fun y x H Q => ∃ a o, x = .ref a ∧ DGet H a y o ∧ Q (.bl o.isSome) H) := by
  intro pins s σ H y x v u Q I ry rx h
  obtain ⟨a, o, ex, g, q⟩ := h
  subst ex
  have ev : u = Value.ref a := rx
  subst ev
  exact d_in hu I g ry fun s' I' => ⟨.bl _, _, I', rfl, q⟩
theorem opNotInD (hu : X.A.units + 1 < cLine) : OpR X (compareOp .NotIn) (fun y x H Q => ∃ a o, x = .ref a ∧ DGet H a y o ∧ Q (.bl (!o.isSome)) H) := by
  intro pins s σ H y x v u Q I ry rx h
  obtain ⟨a, o, ex, g, q⟩ := h
  subst ex
  have ev : u = Value.ref a := rx
  subst ev
  exact d_notIn hu I g ry fun s' I' => ⟨.bl _, _, I', rfl, q⟩
theorem o_in (hu : X.A.units + 1 < cLine) : CO X .In (gIn id) := by
  refine ⟨_, OpR.or op_in_str (OpR.or op_in_seq (opInD hu)), fun x y a b S H Q Kt s ra rb q k => ?_⟩
  cases rb with
  | str j =>
    cases ra <;> try exact False.elim q
    exact .inl ⟨_, _, rfl, rfl, k.now s (.bl _) q⟩
  | @tup p vs ds h r => exact .inr (.inl ⟨p, vs, rfl, .inr h, flat_rep ra q.1, flat_reps r q.2.1, k.now s (.bl _) (by rw [if_neg Bool.false_ne_true, inV_rep ra q.1 r q.2.1]; exact q.2.2)⟩)
  | @fl p vs ds h r => exact .inr (.inl ⟨p, vs, rfl, .inl h.sq, flat_rep ra q.1, flat_reps r q.2.1, k.now s (.bl _) (by rw [if_neg Bool.false_ne_true, inV_rep ra q.1 r q.2.1]; exact q.2.2)⟩)
  | ref p =>
    unfold gIn at q
    cases h : S p with
    | none => simp only [h] at q
    | some o =>
      obtain h0 := s _ _ h
      cases o with
      | lst xs =>
        simp only [h] at q
        obtain ⟨vs, e1, r⟩ := h0
        exact .inr (.inl ⟨p, vs, rfl, .inl (.inl (.inl e1)), flat_rep ra q.1, flat_reps r q.2.1, k.now s (.bl _) (by rw [if_neg Bool.false_ne_true, inV_rep ra q.1 r q.2.1]; exact q.2.2)⟩)
      | dk kvs =>
        simp only [h] at q
        obtain ⟨kk, e1, q⟩ := q
        obtain ⟨ws, e3, r⟩ := h0
        refine .inr (.inr ⟨p, valV ws kk, rfl, by rw [key_rep ra e1]; exact .k e3, k.now s (.bl _) ?_⟩)
        have e : (valV ws kk).isSome = hasD kvs kk := by
          unfold hasD
          rcases kreps_val kk r with ⟨z1, z2⟩ | ⟨v, d, z1, z2, _⟩ <;> rw [z1, z2] <;> rfl
        rw [e]
        exact q
  | _ => exact False.elim q
theorem o_notIn (hu : X.A.units + 1 < cLine) : CO X .NotIn (gIn not) := by
  refine ⟨_, OpR.or op_notin_str (OpR.or op_notIn_seq (opNotInD hu)), fun x y a b S H Q Kt s ra rb q k => ?_⟩
  cases rb with
  | str j =>
    cases ra <;> try exact False.elim q
    exact .inl ⟨_, _, rfl, rfl, k.now s (.bl _) q⟩
  | @tup p vs ds h r => exact .inr (.inl ⟨p, vs, rfl, .inr h, flat_rep ra q.1, flat_reps r q.2.1, k.now s (.bl _) (by rw [if_pos rfl, inV_rep ra q.1 r q.2.1]; exact q.2.2)⟩)
  | @fl p vs ds h r => exact .inr (.inl ⟨p, vs, rfl, .inl h.sq, flat_rep ra q.1, flat_reps r q.2.1, k.now s (.bl _) (by rw [if_pos rfl, inV_rep ra q.1 r q.2.1]; exact q.2.2)⟩)
  | ref p =>
    unfold gIn at q
    cases h : S p with
    | none => simp only [h] at q
    | some o =>
      obtain h0 := s _ _ h
      cases o with
      | lst xs =>
        simp only [h] at q
        obtain ⟨vs, e1, r⟩ := h0
        exact .inr (.inl ⟨p, vs, rfl, .inl (.inl (.inl e1)), flat_rep ra q.1, flat_reps r q.2.1, k.now s (.bl _) (by rw [if_pos rfl, inV_rep ra q.1 r q.2.1]; exact q.2.2)⟩)
      | dk kvs =>
        simp only [h] at q
        obtain ⟨kk, e1, q⟩ := q
        obtain ⟨ws, e3, r⟩ := h0
        refine .inr (.inr ⟨p, valV ws kk, rfl, by rw [key_rep ra e1]; exact .k e3, k.now s (.bl _) ?_⟩)
        have e : (valV ws kk).isSome = hasD kvs kk := by
          unfold hasD
          rcases kreps_val kk r with ⟨z1, z2⟩ | ⟨v, d, z1, z2, _⟩ <;> rw [z1, z2] <;> rfl
        rw [e]
        exact q
  | _ => exact False.elim q
end
end DL
namespace DL
open PySem PySem.Spec PyProof.Rows L2
/-! ### what a def does -/
abbrev MF := List D → Sto → DK → Prop
/-- a def of n parameters that raises nothing does m -/
def spD (K : PySem.W.Frag) (n : Nat) (m : MF) : Sp := fun vs H Q _ => vs.length = n ∧ ∃ ds S Qd, Reps K H vs ds ∧ SRep K S H ∧ m ds S Qd ∧ Rch K S H Qd Q
section
variable {X : Cx} {K : PySem.W.Frag} {e a b c : Expr} {es : List Expr} {fe fa fb fc : DE} {ft fu : DT} {fs : DA} {pos : Pos} {S : Sto} {H : Hp}
def eCall (n : Nat) (m : MF) (fs : DA) : DE := fun σ S Q => fs σ S fun ds S1 => ds.length = n ∧ m ds S1 Q
theorem c_call {k n : Nat} {f : Addr} {fd : FuncData} {ps : List Str} {m : MF} {x : Str} {p : Pos} (hr : Room k X.A) (F : FnOk X.prog X.w X.K X.mg X.base CX0 k f fd ps (spD X.K n m)) (hg : Gl X x) (hm : X.mg x = some (.ref f)) (hk : PySem.W.keepIn X.K (.ref f) = true)
    (hb : Binds X.K fd ps []) (ha : CA X (a :: es) fs) (hdb : (x == ("__debug__" : Str)) = false := by decide) (he : starEach (a :: es) X.env = (false, eval a X.env) :: starEach es X.env := by rfl) (hpl : (backTo pos (starEach es X.env)).any (·.1) = false := by rfl) :
    CE X (.Call (.Name x p) (a :: es) [] pos) (eCall n m fs) := by
  obtain ⟨ta, ha, sa⟩ := ha
  refine ⟨_, pe_call F hr hg hm hk hb .nil pass0 ha hdb he hpl, fun σ S Q sv H Kt re rs q k => sa σ S _ sv H _ re rs q fun vs ds S1 H1 s1 r1 v1 q1 => ?_⟩
  rw [List.append_nil]
  exact ⟨by rw [v1.length]; exact q1.1, ds, S1, Q, v1, r1, q1.2, fun v d S2 H2 s2 r2 v2 q2 => k v d S2 H2 (s1.trans s2) r2 v2 q2⟩
/-! ### built-ins -/
def eCB (g : GN) (fs : DA) : DE := fun σ S Q => fs σ S fun ds S1 => g ds S1 Q
theorem snd_cb {r : List V → Hp → VK → Prop} {g : GN} {t : TA} (hr : SndN K r g) (ha : SndA K t fs) : Snd K (tCB r t) (eCB g fs) := fun σ S Q sv H Kt re rs q k =>
  ha σ S _ sv H _ re rs q fun vs ds S1 H1 s1 r1 v1 q1 => hr vs ds S1 H1 Q Kt r1 v1 q1 fun v d S2 H2 s2 r2 v2 q2 => k v d S2 H2 (s1.trans s2) r2 v2 q2
/-- a built-in function by its name -/
structure CB (X : Cx) (id : String) (g : GN) : Prop where
  ok : ∃ r, CallR X (.builtin id) r ∧ SndN X.K r g
structure CY (X : Cx) (T : String) (g : GN) : Prop where
  ok : ∃ r, CallR X (.type T) r ∧ SndN X.K r g
theorem c_callB {id : String} {x : Str} {p : Pos} {g : GN} (h : CB X id g) (hg : Gl X x) (hm : X.mg x = none) (hv : bootBuiltins x = some (.builtin id)) (ha : CA X (a :: es) fs) (hn : x ≠ "__name__" := by decide) (hdb : (x == ("__debug__" : Str)) = false := by decide)
    (he : starEach (a :: es) X.env = (false, eval a X.env) :: starEach es X.env := by rfl) (hpl : (backTo pos (starEach es X.env)).any (·.1) = false := by rfl) : CE X (.Call (.Name x p) (a :: es) [] pos) (eCB g fs) := by
  obtain ⟨r, h1, h2⟩ := h
  obtain ⟨ta, ha, sa⟩ := ha
  exact ⟨_, pe_callB h1 hg hm hv ha hn hdb he hpl, snd_cb h2 sa⟩
theorem c_callTy {T : String} {x : Str} {p : Pos} {g : GN} (h : CY X T g) (hg : Gl X x) (hm : X.mg x = none) (hv : bootBuiltins x = some (.type T)) (ha : CA X (a :: es) fs) (hn : x ≠ "__name__" := by decide) (hdb : (x == ("__debug__" : Str)) = false := by decide)
    (he : starEach (a :: es) X.env = (false, eval a X.env) :: starEach es X.env := by rfl) (hpl : (backTo pos (starEach es X.env)).any (·.1) = false := by rfl) : CE X (.Call (.Name x p) (a :: es) [] pos) (eCB g fs) := by
  obtain ⟨r, h1, h2⟩ := h
  obtain ⟨ta, ha, sa⟩ := ha
  exact ⟨_, pe_callTy h1 hg hm hv ha hn hdb he hpl, snd_cb h2 sa⟩
theorem c_bltn {x : Str} {n : String} (hg : Gl X x) (hm : X.mg x = none) (hv : bootBuiltins x = some (.type n)) (hn : x ≠ "__name__" := by decide) (hd : (x == ("__debug__" : Str)) = false := by decide) : CE X (.Name x pos) (eC (.ty n)) :=
  ⟨_, pe_bltn (v := .ty n) hg hm hv rfl hn hd, snd_c fun _ => .ty n⟩
theorem CallR.or' {f : Value} {r r' : List V → Hp → VK → Prop} (h : CallR X f r) (h' : CallR X f r') : CallR X f (fun xs H Q => r xs H Q ∨ r' xs H Q) := L2.CallR.or h h'
/-- len -/
def gLen : GN := fun xs S Q => match xs with
  | [.str z] => z.length ≤ sizeLine ∧ Q (.int z.length) S
  | [.tup ys] => Q (.int ys.length) S
  | [.fl ys] => Q (.int ys.length) S
  | [.ref p] => (match S p with
    | some (.lst ys) => Q (.int ys.length) S
    | some (.dk kvs) => Q (.int kvs.length) S
    | none => False)
  | _ => False
theorem callLenD : CallR X (.builtin "len") (fun xs H Q => ∃ a kvs, xs = [.ref a] ∧ Rd H a (.dK kvs) ∧ Q (.int kvs.length) H) := by
  intro pins s σ H xs us Q I r h
  obtain ⟨a, kvs, ex, hr, q⟩ := h
  subst ex
  obtain ⟨u, eu, ru⟩ := Vals.one r
  subst eu
  have ev : u = Value.ref a := ru
  subst ev
  exact d_len I hr fun t s' I' => ⟨.int kvs.length, H, I', ⟨t, rfl⟩, q⟩
theorem reps1 {vs : List V} {d : D} (r : Reps K H vs [d]) : ∃ v, vs = [v] ∧ Rep K H v d := by
  cases r with
  | cons h t => cases t; exact ⟨_, rfl, h⟩
theorem reps2 {vs : List V} {d d2 : D} (r : Reps K H vs [d, d2]) : ∃ v v2, vs = [v, v2] ∧ Rep K H v d ∧ Rep K H v2 d2 := by
  cases r with
  | cons h t =>
    obtain ⟨v2, rfl, h2⟩ := reps1 t
    exact ⟨_, _, rfl, h, h2⟩
theorem b_len : CB X "len" gLen := by
  refine ⟨_, L2.CallR.or call_len_str (L2.CallR.or call_len_seq callLenD), fun xs as S H Q Kt s r q k => ?_⟩
  match as, q with
  | [.str z], q =>
    obtain ⟨v, rfl, rv⟩ := reps1 r
    cases rv
    exact .inl ⟨_, rfl, q.1, k.now s (.int _) q.2⟩
  | [.tup ys], q =>
    obtain ⟨v, rfl, rv⟩ := reps1 r
    cases rv with
    | tup h r => exact .inr (.inl ⟨_, _, rfl, .inr h, k.now s (.int _) (by rw [r.length]; exact q)⟩)
  | [.fl ys], q =>
    obtain ⟨v, rfl, rv⟩ := reps1 r
    cases rv with
    | fl h r => exact .inr (.inl ⟨_, _, rfl, .inl h.sq, k.now s (.int _) (by rw [r.length]; exact q)⟩)
  | [.ref p], q =>
    obtain ⟨v, rfl, rv⟩ := reps1 r
    cases rv
    unfold gLen at q
    cases h : S p with
    | none => simp only [h] at q
    | some o =>
      have h0 := s _ _ h
      cases o with
      | lst ys =>
        simp only [h] at q
        obtain ⟨vs, e1, r⟩ := h0
        exact .inr (.inl ⟨_, _, rfl, .inl (.inl (.inl e1)), k.now s (.int _) (by rw [r.length]; exact q)⟩)
      | dk kvs =>
        simp only [h] at q
        obtain ⟨ws, e1, r⟩ := h0
        exact .inr (.inr ⟨_, _, rfl, .inl e1, k.now s (.int _) (by rw [kreps_len r]; exact q)⟩)
def gAbs : GN := fun xs S Q => match xs with
  | [.int i] => Q (.int (if i < 0 then -i else i)) S
  | _ => False
theorem b_abs : CB X "abs" gAbs := by
  refine ⟨_, call_abs, fun xs as S H Q Kt s r q k => ?_⟩
  match as, q with
  | [.int i], q =>
    obtain ⟨v, rfl, rv⟩ := reps1 r
    cases rv
    exact ⟨_, rfl, k.now s (.int _) q⟩
def gMax2 : GN := fun xs S Q => match xs with
  | [.int i, .int j] => Q (.int (if j > i then j else i)) S
  | _ => False
def gMin2 : GN := fun xs S Q => match xs with
  | [.int i, .int j] => Q (.int (if j < i then j else i)) S
  | _ => False
theorem b_max2 (hc : X.calm = true) : CB X "max" gMax2 := by
  refine ⟨_, call_max2 hc, fun xs as S H Q Kt s r q k => ?_⟩
  match as, q with
  | [.int i, .int j], q =>
    obtain ⟨v, v2, rfl, rv, rv2⟩ := reps2 r
    cases rv
    cases rv2
    exact ⟨_, _, rfl, k.now s (.int _) q⟩
theorem b_min2 (hc : X.calm = true) : CB X "min" gMin2 := by
  refine ⟨_, call_min2 hc, fun xs as S H Q Kt s r q k => ?_⟩
  match as, q with
  | [.int i, .int j], q =>
    obtain ⟨v, v2, rfl, rv, rv2⟩ := reps2 r
    cases rv
    cases rv2
    exact ⟨_, _, rfl, k.now s (.int _) q⟩
def gInt1 : GN := fun xs S Q => match xs with
  | [.int i] => Q (.int i) S
  | [.bl i] => Q (.int (if i then 1 else 0)) S
  | _ => False
theorem y_int : CY X "int" gInt1 := by
  refine ⟨_, call_int1, fun xs as S H Q Kt s r q k => ?_⟩
  match as, q with
  | [.int i], q =>
    obtain ⟨v, rfl, rv⟩ := reps1 r
    cases rv
    exact .inl ⟨_, rfl, k.now s (.int _) q⟩
  | [.bl i], q =>
    obtain ⟨v, rfl, rv⟩ := reps1 r
    cases rv
    exact .inr ⟨_, rfl, k.now s (.int _) q⟩
def gList : GN := fun xs S Q => match xs with
  | [.tup ys] => ∀ p, S p = none → Q (.ref p) (updS S p (.lst ys))
  | [.fl ys] => ∀ p, S p = none → Q (.ref p) (updS S p (.lst ys))
  | [.ref a] => ∃ ys, S a = some (.lst ys) ∧ ∀ p, S p = none → Q (.ref p) (updS S p (.lst ys))
  | _ => False
theorem new_lst {vs : List V} {ds : List D} {Q : DK} {Kt : VK} (s : SRep K S H) (r : Reps K H vs ds) (k : Rch K S H Q Kt) (q : ∀ p, S p = none → Q (.ref p) (updS S p (.lst ds))) : ∀ p, H p = none → Kt (.ref p) (upd H p (.lst vs)) := fun p hp => by
  have tx := tx_new (K := K) (ho := .lst vs) hp
  obtain ⟨st, sr⟩ := stp_new (o := .lst ds) s hp ⟨_, upd_same, r.mono tx⟩
  exact k _ _ _ _ st sr (.ref p) (q p (s.free hp))
theorem y_list : CY X "list" gList := by
  refine ⟨_, call_list_of, fun xs as S H Q Kt s r q k => ?_⟩
  match as, q with
  | [.tup ys], q =>
    obtain ⟨v, rfl, rv⟩ := reps1 r
    cases rv with
    | tup h r => exact ⟨_, _, rfl, .inr h, new_lst s r k q⟩
  | [.fl ys], q =>
    obtain ⟨v, rfl, rv⟩ := reps1 r
    cases rv with
    | fl h r => exact ⟨_, _, rfl, .inl h.sq, new_lst s r k q⟩
  | [.ref p], q =>
    obtain ⟨v, rfl, rv⟩ := reps1 r
    cases rv
    obtain ⟨ys, e, q⟩ := q
    obtain ⟨vs, e1, r⟩ := s _ _ e
    exact ⟨_, _, rfl, .inl (.inl (.inl e1)), new_lst s r k q⟩
def gTuple : GN := fun xs S Q => match xs with
  | [.tup ys] => Q (.tup ys) S
  | [.fl ys] => Q (.tup ys) S
  | [.ref a] => ∃ ys, S a = some (.lst ys) ∧ Q (.tup ys) S
  | _ => False
theorem y_tuple : CY X "tuple" gTuple := by
  refine ⟨_, call_tuple_of, fun xs as S H Q Kt s r q k => ?_⟩
  have mk : ∀ {vs : List V} {ds : List D}, Reps X.K H vs ds → Q (.tup ds) S → ∀ p, H p = none → Kt (.ref p) (upd H p (.tup vs)) := fun {vs ds} r q p hp => by
    obtain ⟨st, sr⟩ := stp_tup (vs := vs) s hp
    exact k _ _ _ _ st sr (.tup (.inl (.inl upd_same)) (r.mono st.tx)) q
  match as, q with
  | [.tup ys], q =>
    obtain ⟨v, rfl, rv⟩ := reps1 r
    cases rv with
    | tup h r => exact ⟨_, _, rfl, .inr ⟨h, k.now s (.tup h r) q⟩⟩
  | [.fl ys], q =>
    obtain ⟨v, rfl, rv⟩ := reps1 r
    cases rv with
    | fl h r => exact ⟨_, _, rfl, .inl ⟨h.sq, mk r q⟩⟩
  | [.ref p], q =>
    obtain ⟨v, rfl, rv⟩ := reps1 r
    cases rv
    obtain ⟨ys, e, q⟩ := q
    obtain ⟨vs, e1, r⟩ := s _ _ e
    exact ⟨_, _, rfl, .inl ⟨.inl (.inl e1), mk r q⟩⟩
theorem reps_map {α : Type} {f : α → V} {g : α → D} (h : ∀ {v : V} {x : α}, Rep K H v (g x) → v = f x) : ∀ {vs : List V} {xs : List α}, Reps K H vs (xs.map g) → vs = xs.map f
  | _, [], r => by cases r; rfl
  | _, x :: xs, r => by
    cases r with
    | cons h1 r => rw [h h1, reps_map h r]; rfl
theorem reps_ints {vs : List V} {ns : List Int} (r : Reps K H vs (ns.map D.int)) : vs = ns.map V.int := reps_map (fun {v x} h => by cases h; rfl) r
theorem reps_strs {vs : List V} {ns : List Str} (r : Reps K H vs (ns.map D.str)) : vs = ns.map V.str := reps_map (fun {v x} h => by cases h; rfl) r
theorem reps_bls {vs : List V} {ns : List Bool} (r : Reps K H vs (ns.map D.bl)) : vs = ns.map V.bl := reps_map (fun {v x} h => by cases h; rfl) r
theorem strs_reps : ∀ {ns : List Str}, Reps K H (ns.map V.str) (ns.map D.str)
  | [] => .nil
  | _ :: _ => .cons (.str _) strs_reps
theorem ints_reps : ∀ {ns : List Int}, Reps K H (ns.map V.int) (ns.map D.int)
  | [] => .nil
  | _ :: _ => .cons (.int _) ints_reps
def gSum : GN := fun xs S Q => match xs with
  | [.ref a] => ∃ ns : List Int, S a = some (.lst (ns.map .int)) ∧ Q (.int ns.sum) S
  | _ => False
theorem b_sum (hc : X.calm = true) : CB X "sum" gSum := by
  refine ⟨_, cr_sum hc, fun xs as S H Q Kt s r q k => ?_⟩
  match as, q with
  | [.ref p], q =>
    obtain ⟨v, rfl, rv⟩ := reps1 r
    cases rv
    obtain ⟨ns, e, q⟩ := q
    obtain ⟨vs, e1, r⟩ := s _ _ e
    rw [reps_ints r] at e1
    exact ⟨_, _, rfl, .inl (.inl e1), k.now s (.int _) q⟩
def gAll (f : List Bool → Bool) : GN := fun xs S Q => match xs with
  | [.ref a] => ∃ bs : List Bool, S a = some (.lst (bs.map .bl)) ∧ Q (.bl (f bs)) S
  | _ => False
theorem b_all (hc : X.calm = true) : CB X "all" (gAll fun bs => bs.all id) := by
  refine ⟨_, cr_all hc, fun xs as S H Q Kt s r q k => ?_⟩
  match as, q with
  | [.ref p], q =>
    obtain ⟨v, rfl, rv⟩ := reps1 r
    cases rv
    obtain ⟨ns, e, q⟩ := q
    obtain ⟨vs, e1, r⟩ := s _ _ e
    rw [reps_bls r] at e1
    exact ⟨_, _, rfl, .inl (.inl e1), k.now s (.bl _) q⟩
theorem b_any (hc : X.calm = true) : CB X "any" (gAll fun bs => bs.any id) := by
  refine ⟨_, cr_any hc, fun xs as S H Q Kt s r q k => ?_⟩
  match as, q with
  | [.ref p], q =>
    obtain ⟨v, rfl, rv⟩ := reps1 r
    cases rv
    obtain ⟨ns, e, q⟩ := q
    obtain ⟨vs, e1, r⟩ := s _ _ e
    rw [reps_bls r] at e1
    exact ⟨_, _, rfl, .inl (.inl e1), k.now s (.bl _) q⟩
/-- isinstance of one built-in class -/
def tyD (x : D) (S : Sto) : Option String := match x with
  | .non => some "NoneType"
  | .bl _ => some "bool"
  | .int _ => some "int"
  | .str _ => some "str"
  | .tup _ => some "tuple"
  | .fl _ => some "list"
  | .ref p => (match S p with
    | some (.lst _) => some "list"
    | some (.dk _) => some "dict"
    | none => none)
  | .ty _ => none
theorem tyX_of {v : V} {d : D} {t : String} (s : SRep K S H) (r : Rep K H v d) (h : tyD d S = some t) : TyX K H v (.type t) := by
  cases r with
  | non => cases h; exact .base .non
  | bl b => cases h; exact .base (.bl b)
  | int i => cases h; exact .base (.int i)
  | str x => cases h; exact .base (.str x)
  | ty n => cases h
  | @tup p vs ds h1 r =>
    cases h
    rcases h1 with (h1 | ⟨o, h1⟩) | ⟨o, its, n, hk, hc, _⟩
    · exact .base (.tup h1)
    · exact .fTuple h1
    · exact .kTuple hk hc
  | @fl p vs ds h1 r =>
    cases h
    rcases h1 with ⟨o, h1⟩ | ⟨o, its, n, hk, hc, _⟩
    · exact .base (.frz h1)
    · exact .kList hk hc
  | ref p =>
    unfold tyD at h
    cases q : S p with
    | none => simp only [q] at h; cases h
    | some o =>
      have h0 := s _ _ q
      cases o with
      | lst ys =>
        simp only [q] at h
        cases h
        obtain ⟨vs, e1, r⟩ := h0
        exact .base (.lst e1)
      | dk kvs =>
        simp only [q] at h
        cases h
        obtain ⟨ws, e1, r⟩ := h0
        exact .base (.dK e1)
/-- what isinstance tells of a type and a class by their names -/
def isiN (t n : String) : Bool := t == n || (t == "bool" && n == "int")
def isiTys : List String := ["NoneType", "bool", "int", "str", "tuple", "list", "dict"]
def isiCls : List String := ["bool", "int", "str", "tuple", "list", "dict"]
theorem isi_table : isiTys.all (fun t => isiCls.all fun n => kitB t n == some (isiN t n)) = true := by decide +kernel
theorem isi_ok {t n : String} (ht : t ∈ isiTys) (hn : n ∈ isiCls) : kitB t n = some (isiN t n) := by
  have h := List.all_eq_true.mp (List.all_eq_true.mp isi_table t ht) n hn
  exact eq_of_beq h
theorem tyD_in {d : D} {t : String} (h : tyD d S = some t) : t ∈ isiTys := by
  have : ∀ u ∈ ["NoneType", "bool", "int", "str", "tuple", "list", "dict"], u ∈ isiTys := fun u h => h
  unfold tyD at h
  split at h <;> first | (cases h; done) | (cases h; apply this; simp; done) | skip
  split at h <;> first | (cases h; done) | (cases h; apply this; simp; done)
def gIsi : GN := fun xs S Q => match xs with
  | [x, .ty n] => n ∈ isiCls ∧ ∃ t, tyD x S = some t ∧ Q (.bl (isiN t n)) S
  | _ => False
theorem b_isi : CB X "isinstance" gIsi := by
  refine ⟨_, call_isi, fun xs as S H Q Kt s r q k => ?_⟩
  match as, q with
  | [x, .ty n], q =>
    obtain ⟨v, v2, rfl, rv, rv2⟩ := reps2 r
    cases rv2
    obtain ⟨hn, t, ht, q⟩ := q
    exact ⟨_, _, _, _, _, rfl, .ty n, tyX_of s rv ht, kit_ty (isi_ok (tyD_in ht) hn), k.now s (.bl _) q⟩
/-- isinstance(x, (c, c2)) -/
def eIsi2 (n n2 : String) (fa : DE) : DE := fun σ S Q => fa σ S fun x S1 => (n ∈ isiCls ∧ n2 ∈ isiCls) ∧ ∃ t, tyD x S1 = some t ∧ Q (.bl (isiN t n || isiN t n2)) S1
theorem c_isi2 {x1 x2 : Str} {n n2 : String} {p p1 p2 p3 : Pos} (hg : Gl X "isinstance") (hm : X.mg "isinstance" = none) (hv : bootBuiltins "isinstance" = some (.builtin "isinstance")) (ha : CE X a fa)
    (g1 : Gl X x1) (m1 : X.mg x1 = none) (v1 : bootBuiltins x1 = some (.type n)) (g2 : Gl X x2) (m2 : X.mg x2 = none) (v2 : bootBuiltins x2 = some (.type n2)) (hn1 : x1 ≠ "__name__" := by decide) (hd1 : (x1 == ("__debug__" : Str)) = false := by decide)
    (hn2 : x2 ≠ "__name__" := by decide) (hd2 : (x2 == ("__debug__" : Str)) = false := by decide) {j}
    (hs1 : starEach [a, .Tuple [.Name x1 p1, .Name x2 p2] j p3] X.env = (false, eval a X.env) :: starEach [.Tuple [.Name x1 p1, .Name x2 p2] j p3] X.env := by rfl)
    (hs2 : starEach [.Tuple [.Name x1 p1, .Name x2 p2] j p3] X.env = (false, eval (.Tuple [.Name x1 p1, .Name x2 p2] j p3) X.env) :: starEach [] X.env := by rfl)
    (hs3 : starEach [.Name x1 p1, .Name x2 p2] X.env = (false, eval (.Name x1 p1) X.env) :: starEach [.Name x2 p2] X.env := by rfl)
    (hs4 : starEach [.Name x2 p2] X.env = (false, eval (.Name x2 p2) X.env) :: starEach [] X.env := by rfl)
    (hpl : (backTo pos (starEach [.Tuple [.Name x1 p1, .Name x2 p2] j p3] X.env)).any (·.1) = false := by rfl) :
    CE X (.Call (.Name "isinstance" p) [a, .Tuple [.Name x1 p1, .Name x2 p2] j p3] [] pos) (eIsi2 n n2 fa) := by
  obtain ⟨ta, ha, sa⟩ := ha
  refine ⟨_, pe_callB call_isiT hg hm hv (pa_cons ha (pa_cons (pe_tup (pa_cons (pe_bltn (v := .ty n) g1 m1 v1 rfl hn1 hd1) (pa_cons (pe_bltn (v := .ty n2) g2 m2 v2 rfl hn2 hd2) pa_nil hs4) hs3)) pa_nil hs2) hs1) (by decide) (by decide) hs1 hpl, fun σ S Q sv H Kt re rs q k => ?_⟩
  refine sa σ S _ sv H _ re rs q fun v d S1 H1 s1 r1 w1 q1 => ?_
  obtain ⟨⟨h1, h2⟩, t, ht, q1⟩ := q1
  refine ⟨by show 2 ≤ sizeLine; decide, fun tp hp => ?_⟩
  obtain ⟨st, sr⟩ := stp_tup (vs := [V.ty n, V.ty n2]) r1 hp
  refine ⟨v, tp, _, _, [.type n, .type n2], _, rfl, upd_same, .cons (.ty n) (.cons (.ty n2) .nil), tyX_of sr (w1.mono st.tx) ht, ?_, k _ _ _ _ (s1.trans st) sr (.bl _) q1⟩
  refine kitAny_cons (b := isiN t n) (kit_ty (isi_ok (tyD_in ht) h1)) (fun e => kitAny_cons (b := isiN t n2) (r := isiN t n || isiN t n2) (kit_ty (isi_ok (tyD_in ht) h2)) (fun e2 => ?_) fun e2 => ?_) fun e => ?_
  · rw [e, e2]; exact kitAny_nil
  · rw [e, e2]; rfl
  · rw [e]; rfl
/-! ### methods of built-in types -/
def tyM (T : String) (x : D) (S : Sto) : Prop := match x with
  | .str _ => T = "str"
  | .ref p => (match S p with
    | some (.lst _) => T = "list"
    | some (.dk _) => T = "dict"
    | none => False)
  | _ => False
theorem tyV_of {v : V} {d : D} {T : String} (s : SRep K S H) (r : Rep K H v d) (h : tyM T d S) : tyV K T v H := by
  cases r with
  | str x => exact h
  | ref p =>
    unfold tyM at h
    cases q : S p with
    | none => simp only [q] at h
    | some o =>
      have h0 := s _ _ q
      cases o with
      | lst ys =>
        simp only [q] at h
        obtain ⟨vs, e1, r⟩ := h0
        exact .inl ⟨h, vs, .inl (.inl e1)⟩
      | dk kvs =>
        simp only [q] at h
        obtain ⟨ws, e1, r⟩ := h0
        exact .inr (.inr (.inl ⟨h, .inl ⟨ws, e1⟩⟩))
  | _ => exact False.elim h
def eM (T : String) (g : D → GN) (fo : DE) (fs : DA) : DE := fun σ S Q => fo σ S fun x S1 => tyM T x S1 ∧ fs σ S1 fun xs S2 => g x xs S2 Q
/-- a method by its name -/
structure CM (X : Cx) (T : String) (name : Str) (g : D → GN) : Prop where
  ok : ∃ (id : String) (r : V → List V → Hp → VK → Prop), PlainAttrs T ∧ Slot T name id ∧ typeOf (.builtin id) = pure (.type "method_descriptor") ∧ MtR X id r ∧ SndM X.K r g
theorem c_m {T : String} {name : Str} {g : D → GN} {fo : DE} {o : Expr} {apos : Pos} (h : CM X T name g) (ho : CE X o fo) (ha : CA X (a :: es) fs)
    (hbase : attributeBase o name X.env (eval o X.env) = eval o X.env := by rfl)
    (hfew : ((backTo pos (starEach (a :: es) X.env)).all (fun x => !x.1) && (backToKw pos (keywordEach [] X.env)).all (fun x => x.1.isSome)
      && decide ((a :: es).length + ([] : List Keyword).length + (if ([] : List Keyword).isEmpty then 0 else 1) < 30)) = true := by rfl)
    (hline : (apos.endLine == pos.line) = true := by rfl) (hs : starEach (a :: es) X.env = (false, eval a X.env) :: starEach es X.env := by rfl) (hplain : (backTo pos (starEach es X.env)).any (·.1) = false := by rfl) :
    CE X (.Call (.Attribute o name apos) (a :: es) [] pos) (eM T g fo fs) := by
  obtain ⟨id, r, h1, h2, h3, h4, h5⟩ := h
  obtain ⟨to, ho, so⟩ := ho
  obtain ⟨ta, ha, sa⟩ := ha
  refine ⟨_, pe_bm h1 h2 h3 h4 ho ha hbase hfew hline hs hplain, fun σ S Q sv H Kt re rs q k => so σ S _ sv H _ re rs q fun v d S1 H1 s1 r1 v1 q1 => ?_⟩
  refine ⟨tyV_of r1 v1 q1.1, sa σ S1 _ sv H1 _ (re.mono s1.tx) r1 q1.2 fun vs ds S2 H2 s2 r2 v2 q2 => ?_⟩
  exact h5 v d vs ds S2 H2 Q Kt r2 (v1.mono s2.tx) v2 q2 fun v3 d3 S3 H3 s3 r3 w3 q3 => k v3 d3 S3 H3 ((s1.trans s2).trans s3) r3 w3 q3
theorem c_m0 {T : String} {name : Str} {g : D → GN} {fo : DE} {o : Expr} {apos : Pos} (h : CM X T name g) (ho : CE X o fo) (hbase : attributeBase o name X.env (eval o X.env) = eval o X.env := by rfl) (hline : (apos.endLine == pos.line) = true := by rfl) :
    CE X (.Call (.Attribute o name apos) [] [] pos) (eM T g fo aNil) := by
  obtain ⟨id, r, h1, h2, h3, h4, h5⟩ := h
  obtain ⟨to, ho, so⟩ := ho
  refine ⟨_, pe_bm0 h1 h2 h3 h4 ho hbase hline, fun σ S Q sv H Kt re rs q k => so σ S _ sv H _ re rs q fun v d S1 H1 s1 r1 v1 q1 => ?_⟩
  refine ⟨tyV_of r1 v1 q1.1, ?_⟩
  exact h5 v d [] [] S1 H1 Q Kt r1 v1 .nil q1.2 fun v3 d3 S3 H3 s3 r3 w3 q3 => k v3 d3 S3 H3 (s1.trans s3) r3 w3 q3
end
end DL
namespace DL
open PySem PySem.Spec PyProof.Rows L2
section
variable {X : Cx} {K : PySem.W.Frag} {e a b c : Expr} {es : List Expr} {fe fa fb fc : DE} {ft fu : DT} {fs : DA} {pos : Pos} {S : Sto} {H : Hp}
/-! ### methods of lists -/
def gAppend : D → GN := fun x vs S Q => match x, vs with
  | .ref p, [d] => ∃ xs, S p = some (.lst xs) ∧ xs.length < sizeLine ∧ Q .non (updS S p (.lst (xs ++ [d])))
  | _, _ => False
theorem mut_lst {p : Addr} {vs' : List V} {ds ds' : List D} {Q : DK} {Kt : VK} (s : SRep K S H) (e : S p = some (.lst ds)) (r : Reps K H vs' ds') (k : Rch K S H Q Kt) {v : V} {d : D} (rv : Rep K H v d) (q : Q d (updS S p (.lst ds'))) : Kt v (upd H p (.lst vs')) := by
  have tx : Tx K H (upd H p (.lst vs')) := tx_mut (s p _ e)
  obtain ⟨st, sr⟩ := stp_mut (o' := .lst ds') s e ⟨_, upd_same, r.mono tx⟩
  exact k _ _ _ _ st sr (rv.mono tx) q
theorem m_append : CM X "list" "append" gAppend := by
  refine ⟨_, _, PySem.F.plainAttrs_list, PySem.F.slot_list_append, PySem.F.type_list_append, mt_append, fun x a xs as S H Q Kt s rx r q k => ?_⟩
  match a, as, q with
  | .ref p, [d], q =>
    obtain ⟨ys, e, hz, q⟩ := q
    obtain ⟨v, rfl, rv⟩ := reps1 r
    cases rx
    obtain ⟨vs, e1, r1⟩ := s _ _ e
    exact ⟨p, vs, v, rfl, rfl, e1, by rw [r1.length]; exact hz, mut_lst s e (r1.append (.cons rv .nil)) k .non q⟩
def gPop0 : D → GN := fun x vs S Q => match x, vs with
  | .ref p, [] => ∃ xs d, S p = some (.lst xs) ∧ xs[xs.length - 1]? = some d ∧ Q d (updS S p (.lst xs.dropLast))
  | _, _ => False
theorem m_pop0 : CM X "list" "pop" gPop0 := by
  refine ⟨_, _, PySem.F.plainAttrs_list, PySem.F.slot_list_pop, PySem.F.type_list_pop, mt_pop, fun x a xs as S H Q Kt s rx r q k => ?_⟩
  match a, as, q with
  | .ref p, [], q =>
    obtain ⟨ys, d, e, hd, q⟩ := q
    cases r
    cases rx
    obtain ⟨vs, e1, r1⟩ := s _ _ e
    obtain ⟨v, ev, rv⟩ := r1.get hd
    exact ⟨p, vs, v, rfl, rfl, e1, by rw [r1.length]; exact ev, mut_lst s e r1.dropLast k rv q⟩
def gPopAt : D → GN := fun x vs S Q => match x, vs with
  | .ref p, [.int i] => ∃ xs j d, S p = some (.lst xs) ∧ -(2 ^ 63) ≤ i ∧ i < 2 ^ 63 ∧ seqIndex? i xs.length = some j ∧ xs[j]? = some d ∧ Q d (updS S p (.lst (xs.eraseIdx j)))
  | _, _ => False
theorem m_popAt : CM X "list" "pop" gPopAt := by
  refine ⟨_, _, PySem.F.plainAttrs_list, PySem.F.slot_list_pop, PySem.F.type_list_pop, mt_popAt, fun x a xs as S H Q Kt s rx r q k => ?_⟩
  match a, as, q with
  | .ref p, [.int i], q =>
    obtain ⟨ys, j, d, e, h1, h2, h3, hd, q⟩ := q
    obtain ⟨v, rfl, rv⟩ := reps1 r
    cases rv
    cases rx
    obtain ⟨vs, e1, r1⟩ := s _ _ e
    obtain ⟨v, ev, rv⟩ := r1.get hd
    exact ⟨p, vs, i, j, v, rfl, rfl, e1, h1, h2, by rw [r1.length]; exact h3, ev, mut_lst s e (r1.eraseIdx j) k rv q⟩
def gClear : D → GN := fun x vs S Q => match x, vs with
  | .ref p, [] => ∃ xs, S p = some (.lst xs) ∧ Q .non (updS S p (.lst []))
  | _, _ => False
theorem m_clear : CM X "list" "clear" gClear := by
  refine ⟨_, _, PySem.F.plainAttrs_list, PySem.F.slot_list_clear, PySem.F.type_list_clear, mt_clear, fun x a xs as S H Q Kt s rx r q k => ?_⟩
  match a, as, q with
  | .ref p, [], q =>
    obtain ⟨ys, e, q⟩ := q
    cases r
    cases rx
    obtain ⟨vs, e1, r1⟩ := s _ _ e
    exact ⟨p, vs, rfl, rfl, e1, mut_lst s e .nil k .non q⟩
def gReverse : D → GN := fun x vs S Q => match x, vs with
  | .ref p, [] => ∃ xs, S p = some (.lst xs) ∧ Q .non (updS S p (.lst xs.reverse))
  | _, _ => False
theorem m_reverse : CM X "list" "reverse" gReverse := by
  refine ⟨_, _, PySem.F.plainAttrs_list, PySem.F.slot_list_reverse, PySem.F.type_list_reverse, mt_reverse, fun x a xs as S H Q Kt s rx r q k => ?_⟩
  match a, as, q with
  | .ref p, [], q =>
    obtain ⟨ys, e, q⟩ := q
    cases r
    cases rx
    obtain ⟨vs, e1, r1⟩ := s _ _ e
    exact ⟨p, vs, rfl, rfl, e1, mut_lst s e r1.reverse k .non q⟩
/-! ### methods of texts -/
def gJoin : D → GN := fun x vs S Q => match x, vs with
  | .str a, [.ref p] => ∃ ys : List Str, S p = some (.lst (ys.map .str)) ∧ (ys.map (·.length)).sum + ys.length * a.length ≤ 16777216 ∧ Q (.str (Txt.join a ys)) S
  | .str a, [.tup ds] => ∃ ys : List Str, ds = ys.map .str ∧ (ys.map (·.length)).sum + ys.length * a.length ≤ 16777216 ∧ Q (.str (Txt.join a ys)) S
  | _, _ => False
theorem m_join : CM X "str" "join" gJoin := by
  refine ⟨_, _, PySem.F.plainAttrs_str, F.slot_str_join, F.type_str_join, mt_join, fun x a xs as S H Q Kt s rx r q k => ?_⟩
  match a, as, q with
  | .str z, [.ref p], q =>
    obtain ⟨ys, e, hz, q⟩ := q
    obtain ⟨v, rfl, rv⟩ := reps1 r
    cases rv
    cases rx
    obtain ⟨vs, e1, r1⟩ := s _ _ e
    rw [reps_strs r1] at e1
    exact ⟨z, p, ys, rfl, rfl, .inl (.inl (.inl e1)), hz, k.now s (.str _) q⟩
  | .str z, [.tup ds], q =>
    obtain ⟨ys, rfl, hz, q⟩ := q
    obtain ⟨v, rfl, rv⟩ := reps1 r
    cases rx
    cases rv with
    | @tup p vs ds h r =>
      rw [reps_strs r] at h
      exact ⟨z, p, ys, rfl, rfl, .inr h, hz, k.now s (.str _) q⟩
def gUpper : D → GN := fun x vs S Q => match x, vs with
  | .str a, [] => a.length ≤ 5592405 ∧ Q (.str (Txt.upper a)) S
  | _, _ => False
theorem m_upper : CM X "str" "upper" gUpper := by
  refine ⟨_, _, PySem.F.plainAttrs_str, F.slot_str_upper, F.type_str_upper, mt_upper, fun x a xs as S H Q Kt s rx r q k => ?_⟩
  match a, as, q with
  | .str z, [], q =>
    cases r
    cases rx
    exact ⟨z, rfl, rfl, q.1, k.now s (.str _) q.2⟩
/-! ### statements -/
structure DEnds where
  nx : Env → Sto → Prop
  rt : DK
  bk : Env → Sto → Prop
  ct : Env → Sto → Prop
abbrev DS := DEnds → Env → Sto → Prop
/-- a state of data that is reached, and what is wanted there -/
abbrev RchS (K : PySem.W.Frag) (S : Sto) (H : Hp) (Q : Env → Sto → Prop) (Kt : L2.St → Hp → Prop) : Prop := ∀ sv σ S' H', Stp K S H S' H' → SRep K S' H' → ERep K H' sv σ → Q σ S' → Kt sv H'
structure RchE (K : PySem.W.Frag) (S : Sto) (H : Hp) (D0 : DEnds) (Dv : Ends) : Prop where
  nx : RchS K S H D0.nx Dv.nx
  rt : Rch K S H D0.rt Dv.rt
  bk : RchS K S H D0.bk Dv.bk
  ct : RchS K S H D0.ct Dv.ct
theorem RchS.stp {Q : Env → Sto → Prop} {Kt : L2.St → Hp → Prop} {S1 : Sto} {H1 : Hp} (k : RchS K S H Q Kt) (s : Stp K S H S1 H1) : RchS K S1 H1 Q Kt := fun sv σ S2 H2 s2 r e q => k sv σ S2 H2 (s.trans s2) r e q
theorem Rch.stp {Q : DK} {Kt : VK} {S1 : Sto} {H1 : Hp} (k : Rch K S H Q Kt) (s : Stp K S H S1 H1) : Rch K S1 H1 Q Kt := fun v d S2 H2 s2 r e q => k v d S2 H2 (s.trans s2) r e q
theorem RchE.stp {D0 : DEnds} {Dv : Ends} {S1 : Sto} {H1 : Hp} (k : RchE K S H D0 Dv) (s : Stp K S H S1 H1) : RchE K S1 H1 D0 Dv := ⟨k.nx.stp s, k.rt.stp s, k.bk.stp s, k.ct.stp s⟩
def SndS (K : PySem.W.Frag) (t : TS) (f : DS) : Prop := ∀ (D0 : DEnds) (σ : Env) (S : Sto) (Dv : Ends) (sv : L2.St) (H : Hp), ERep K H sv σ → SRep K S H → f D0 σ S → RchE K S H D0 Dv → t Dv sv H
structure CS (X : Cx) (st : Stmt) (f : DS) : Prop where
  ok : ∃ t, PS X st t ∧ SndS X.K t f
structure CSs (X : Cx) (st : List Stmt) (f : DS) : Prop where
  ok : ∃ t, PSs X st t ∧ SndS X.K t f
variable {st : Stmt} {rest : List Stmt} {f g : DS}
def sNext : DS := fun D0 σ S => D0.nx σ S
def sSeq (f g : DS) : DS := fun D0 σ S => f { D0 with nx := g D0 } σ S
def sBreak : DS := fun D0 σ S => D0.bk σ S
def sCont : DS := fun D0 σ S => D0.ct σ S
theorem ss_nil : CSs X [] sNext := ⟨_, pss_nil, fun D0 σ S Dv sv H re rs q k => k.nx sv σ S H .refl rs re q⟩
theorem ss_cons (h1 : CS X st f) (h2 : CSs X rest g) : CSs X (st :: rest) (sSeq f g) := by
  obtain ⟨t, h1, s1⟩ := h1
  obtain ⟨u, h2, s2⟩ := h2
  refine ⟨_, pss_cons h1 h2, fun D0 σ S Dv sv H re rs q k => s1 { D0 with nx := g D0 } σ S { Dv with nx := u Dv } sv H re rs q ⟨?_, k.rt, k.bk, k.ct⟩⟩
  exact fun sv' σ' S' H' st' r' e' q' => s2 D0 σ' S' Dv sv' H' e' r' q' (k.stp st')
theorem ss_one (h1 : CS X st f) : CSs X [st] f := let ⟨_, h, s⟩ := h1.ok; ⟨_, pss_one h, s⟩
theorem s_pass : CS X (.Pass pos) sNext := ⟨_, ps_pass, fun D0 σ S Dv sv H re rs q k => k.nx sv σ S H .refl rs re q⟩
theorem s_break : CS X (.Break pos) sBreak := ⟨_, ps_break, fun D0 σ S Dv sv H re rs q k => k.bk sv σ S H .refl rs re q⟩
theorem s_cont : CS X (.Continue pos) sCont := ⟨_, ps_continue, fun D0 σ S Dv sv H re rs q k => k.ct sv σ S H .refl rs re q⟩
def sExpr (fa : DE) : DS := fun D0 σ S => fa σ S fun _ S1 => D0.nx σ S1
theorem s_expr (ha : CE X a fa) (hs : swapsWith a none pos.line X.env = pure false := by rfl) : CS X (.Expr a pos) (sExpr fa) := by
  obtain ⟨t, h, s⟩ := ha
  exact ⟨_, ps_expr h hs, fun D0 σ S Dv sv H re rs q k => s σ S _ sv H _ re rs q fun v d S1 H1 s1 r1 v1 q1 => k.nx sv σ S1 H1 s1 r1 (re.mono s1.tx) q1⟩
def sRet (fa : DE) : DS := fun D0 σ S => fa σ S D0.rt
theorem s_ret (ha : CE X a fa) : CS X (.Return (some a) pos) (sRet fa) := by
  obtain ⟨t, h, s⟩ := ha
  exact ⟨_, ps_ret h, fun D0 σ S Dv sv H re rs q k => s σ S _ sv H _ re rs q k.rt⟩
def sRetN : DS := fun D0 _ S => D0.rt .non S
theorem s_retN : CS X (.Return none pos) sRetN := ⟨_, ps_retN, fun D0 σ S Dv sv H re rs q k => k.rt _ _ _ _ .refl rs .non q⟩
def sIf (ft : DT) (f g : DS) : DS := fun D0 σ S => ft σ S fun k S1 => if k = true then f D0 σ S1 else g D0 σ S1
theorem s_if {body orelse : List Stmt} (hc : CT X c ft) (ha : CSs X body f) (hb : CSs X orelse g) : CS X (.If c body orelse pos) (sIf ft f g) := by
  obtain ⟨tc, hc, sc⟩ := hc
  obtain ⟨ta, ha, sa⟩ := ha
  obtain ⟨tb, hb, sb⟩ := hb
  refine ⟨_, ps_if hc ha hb, fun D0 σ S Dv sv H re rs q k => sc σ S _ sv H _ re rs q fun kk S1 H1 s1 r1 q1 => ?_⟩
  cases kk with
  | true => exact sa D0 σ S1 Dv sv H1 (re.mono s1.tx) r1 q1 (k.stp s1)
  | false => exact sb D0 σ S1 Dv sv H1 (re.mono s1.tx) r1 q1 (k.stp s1)
/-! ### targets -/
abbrev DG := D → Env → Sto → (Env → Sto → Prop) → Prop
/-- own: the slots that a store changes -/
structure CG (X : Cx) (tg : Expr) (own : List Nat) (g : DG) : Prop where
  ok : ∃ t, PG X tg t ∧ ∀ (v : V) (d : D) (σ : Env) (S : Sto) (Q : Env → Sto → Prop) (sv : L2.St) (H : Hp) (Kt : L2.St → Hp → Prop), Rep X.K H v d → ERep X.K H sv σ → SRep X.K S H → g d σ S Q →
    (∀ sv' σ' S' H', Stp X.K S H S' H' → SRep X.K S' H' → ERep X.K H' sv' σ' → (∀ vs : List Nat, (∀ i ∈ own, i ∈ vs) → wipe sv' vs = wipe sv vs) → Q σ' S' → Kt sv' H') → t v sv H Kt
def nName (i : Nat) : DG := fun d σ S Q => Q (setS i d σ) S
theorem g_name {i : Nat} {x : Str} (hN : X.N.Nodup) (hi : X.N[i]? = some x) (hx : Loc X.env.scope x) (hf : X.fn x = true ∨ X.env.scope.names.lookup x = some .local := by first | exact .inl rfl | exact .inr rfl | assumption) : CG X (.Name x pos) [i] (nName i) := by
  refine ⟨_, pg_name hN hi hx hf, fun v d σ S Q sv H Kt rv re rs q k => ?_⟩
  exact k _ _ _ _ .refl rs (re.set rv) (fun vs h => wipe_set (h i List.mem_cons_self)) q
structure CGs (X : Cx) (ts : List Expr) (own : List Nat) (g : List D → Env → Sto → (Env → Sto → Prop) → Prop) : Prop where
  ok : ∃ t, PGs X ts t ∧ ∀ (vs : List V) (ds : List D) (σ : Env) (S : Sto) (Q : Env → Sto → Prop) (sv : L2.St) (H : Hp) (Kt : L2.St → Hp → Prop), Reps X.K H vs ds → ERep X.K H sv σ → SRep X.K S H → g ds σ S Q →
    (∀ sv' σ' S' H', Stp X.K S H S' H' → SRep X.K S' H' → ERep X.K H' sv' σ' → (∀ vs : List Nat, (∀ i ∈ own, i ∈ vs) → wipe sv' vs = wipe sv vs) → Q σ' S' → Kt sv' H') → t vs sv H Kt
def nNil : List D → Env → Sto → (Env → Sto → Prop) → Prop := fun ds σ S Q => match ds with
  | [] => Q σ S
  | _ => False
def nCons (g : DG) (gs : List D → Env → Sto → (Env → Sto → Prop) → Prop) : List D → Env → Sto → (Env → Sto → Prop) → Prop := fun ds σ S Q => match ds with
  | d :: r => g d σ S fun σ1 S1 => gs r σ1 S1 Q
  | [] => False
theorem gs_nil : CGs X [] [] nNil := by
  refine ⟨_, pgs_nil, fun vs ds σ S Q sv H Kt rv re rs q k => ?_⟩
  cases rv with
  | nil => exact ⟨rfl, k _ _ _ _ .refl rs re (fun _ _ => rfl) q⟩
  | cons h r => exact False.elim q
theorem gs_cons {t : Expr} {ts : List Expr} {own owns : List Nat} {gg : DG} {gs : List D → Env → Sto → (Env → Sto → Prop) → Prop} (h1 : CG X t own gg) (h2 : CGs X ts owns gs)
    (hs : (assignEach (t :: ts) X.env).map (·.2) = assign t X.env :: (assignEach ts X.env).map (·.2) := by rfl) : CGs X (t :: ts) (own ++ owns) (nCons gg gs) := by
  obtain ⟨t1, p1, s1⟩ := h1
  obtain ⟨t2, p2, s2⟩ := h2
  refine ⟨_, pgs_cons p1 p2 hs, fun vs ds σ S Q sv H Kt rv re rs q k => ?_⟩
  cases rv with
  | nil => exact False.elim q
  | cons h r =>
    refine ⟨_, _, rfl, s1 _ _ σ S _ sv H _ h re rs q fun sv1 σ1 S1 H1 st1 r1 e1 w1 q1 => ?_⟩
    refine s2 _ _ σ1 S1 Q sv1 H1 Kt (r.mono st1.tx) e1 r1 q1 fun sv2 σ2 S2 H2 st2 r2 e2 w2 q2 => k sv2 σ2 S2 H2 (st1.trans st2) r2 e2 (fun vs hv => ?_) q2
    rw [w2 vs fun i hi => hv i (List.mem_append_right _ hi), w1 vs fun i hi => hv i (List.mem_append_left _ hi)]
/-- a, b, .. = a tuple of n -/
def nTup (n : Nat) (gs : List D → Env → Sto → (Env → Sto → Prop) → Prop) : DG := fun d σ S Q => match d with
  | .tup ds => ds.length = n ∧ gs ds σ S Q
  | _ => False
theorem g_tup {ts : List Expr} {k : Nat} {own : List Nat} {gs : List D → Env → Sto → (Env → Sto → Prop) → Prop} {n : Nat} (hc : X.calm = true) (h : CGs X ts own gs) (hn : (assignEach ts X.env).length = n := by rfl) (hst : (assignEach ts X.env).findIdx? (·.1) = none := by rfl) :
    CG X (.Tuple ts k pos) own (nTup n gs) := by
  obtain ⟨t, p, s⟩ := h
  refine ⟨_, pg_tup hc p hn hst, fun v d σ S Q sv H Kt rv re rs q k => ?_⟩
  cases rv with
  | @tup a vs ds h r => exact ⟨a, vs, rfl, h, by rw [r.length]; exact q.1, s vs ds σ S Q sv H Kt r re rs q.2 k⟩
  | _ => exact False.elim q
/-! ### target = value -/
def sAsg (fa : DE) (g : DG) : DS := fun D0 σ S => fa σ S fun x S1 => g x σ S1 D0.nx
theorem s_asg {tg : Expr} {own : List Nat} {g : DG} (ha : CE X a fa) (hg : CG X tg own g) (hs : swapsWithSole [tg] a pos.line X.env = pure false := by rfl) (hw : swappedStores [tg] a X.env = pure none := by rfl)
    (h1 : (assignEach [tg] X.env).map (·.2) = [assign tg X.env] := by rfl) : CS X (.Assign [tg] a pos) (sAsg fa g) := by
  obtain ⟨t, h, s⟩ := ha
  obtain ⟨u, hg, sg⟩ := hg
  refine ⟨_, ps_asg h hg hs hw h1, fun D0 σ S Dv sv H re rs q k => s σ S _ sv H _ re rs q fun v d S1 H1 s1 r1 v1 q1 => ?_⟩
  exact sg v d σ S1 D0.nx sv H1 Dv.nx v1 (re.mono s1.tx) r1 q1 fun sv2 σ2 S2 H2 st2 r2 e2 _ q2 => k.nx sv2 σ2 S2 H2 (s1.trans st2) r2 e2 q2
theorem s_set {i : Nat} {x : Str} {pos' : Pos} (hN : X.N.Nodup) (hi : X.N[i]? = some x) (hx : Loc X.env.scope x) (ha : CE X a fa) (hs : swapsWith a (some (.Name x pos')) pos.line X.env = pure false := by rfl) (hf : X.fn x = true ∨ X.env.scope.names.lookup x = some .local := by first | exact .inl rfl | exact .inr rfl | assumption) :
    CS X (.Assign [.Name x pos'] a pos) (sAsg fa (nName i)) := by
  obtain ⟨t, h, s⟩ := ha
  refine ⟨_, ps_set hN hi hx h hs hf, fun D0 σ S Dv sv H re rs q k => s σ S _ sv H _ re rs q fun v d S1 H1 s1 r1 v1 q1 => ?_⟩
  exact k.nx _ _ _ _ s1 r1 ((re.mono s1.tx).set v1) q1
/-- o[i] = v, dicts and lists -/
def sSub (fv fo fi : DE) : DS := fun D0 σ S => fv σ S fun d S1 => fo σ S1 fun o S2 => fi σ S2 fun i S3 => match o with
  | .ref p => (match S3 p with
    | some (.dk kvs) => ∃ k, toKey i = some k ∧ kvs.length < sizeLine ∧ D0.nx σ (updS S3 p (.dk (putD kvs k d)))
    | some (.lst xs) => (match i with
      | .int n => ∃ j, ixN xs.length n = some j ∧ D0.nx σ (updS S3 p (.lst (xs.set j d)))
      | _ => False)
    | none => False)
  | _ => False
def rPutD : V → V → V → Hp → (Hp → Prop) → Prop := fun o i v H Q => ∃ a H', o = .ref a ∧ DPut H a i v H' ∧ Q H'
theorem setDict (hu : X.A.units + 1 < cLine) : PSet X rPutD := by
  intro pins s σ H o i v ov iv u Q I ro ri rv h
  obtain ⟨a, H', eo, g, q⟩ := h
  subst eo
  have ev : ov = Value.ref a := ro
  subst ev
  exact d_setItem hu I g ri rv fun s' I' => ⟨H', I', q⟩
theorem PSet.or {t t' : TSet} (h : PSet X t) (h' : PSet X t') : PSet X (fun o i v H Q => t o i v H Q ∨ t' o i v H Q) := fun pins s σ H o i v ov iv u Q I r1 r2 r3 q => by
  rcases q with q | q
  · exact h pins s σ H o i v ov iv u Q I r1 r2 r3 q
  · exact h' pins s σ H o i v ov iv u Q I r1 r2 r3 q
theorem s_sub {o i v : Expr} {fo fi fv : DE} {pos' : Pos} (hu : X.A.units + 1 < cLine) (hv : CE X v fv) (ho : CE X o fo) (hi : CE X i fi) (hs : swapsWithSole [.Subscript o i pos'] v pos.line X.env = pure false := by rfl) (hw : swappedStores [.Subscript o i pos'] v X.env = pure none := by rfl)
    (h1 : (assignEach [.Subscript o i pos'] X.env).map (·.2) = [assign (.Subscript o i pos') X.env] := by rfl)
    (ha : ∀ v, assign (.Subscript o i pos') X.env v = (do
      let ov ← holding [v] (eval o X.env)
      let iv ← holding [v, ov] (eval i X.env)
      standAt pos'
      holding [v, ov, iv] (setItem ov iv v)
      release [v, ov, iv] []) := by intro _; rfl) : CS X (.Assign [.Subscript o i pos'] v pos) (sSub fv fo fi) := by
  obtain ⟨tv, hv, sv0⟩ := hv
  obtain ⟨to, ho, so⟩ := ho
  obtain ⟨ti, hi, si⟩ := hi
  refine ⟨_, ps_asg hv (pg_sub ho hi (PSet.or set_list (setDict hu)) ha) hs hw h1, fun D0 σ S Dv sv H re rs q k => sv0 σ S _ sv H _ re rs q fun v d S1 H1 s1 r1 v1 q1 => ?_⟩
  refine so σ S1 _ sv H1 _ (re.mono s1.tx) r1 q1 fun ov od S2 H2 s2 r2 v2 q2 => ?_
  refine si σ S2 _ sv H2 _ (re.mono (s1.trans s2).tx) r2 q2 fun iv id S3 H3 s3 r3 v3 q3 => ?_
  have st := (s1.trans s2).trans s3
  have rd := v1.mono (s2.trans s3).tx
  cases v2 with
  | ref p =>
    dsimp only at q3
    cases h : S3 p with
    | none => simp only [h] at q3
    | some o =>
      have h0 := r3 _ _ h
      cases o with
      | lst xs =>
        simp only [h] at q3
        cases v3 <;> try exact False.elim q3
        obtain ⟨j, hj, q3⟩ := q3
        obtain ⟨vs, e1, r⟩ := h0
        refine .inl ⟨p, vs, _, j, rfl, rfl, e1, by rw [r.length]; exact hj, ?_⟩
        have tx : Tx X.K H3 (upd H3 p (.lst (vs.set j v))) := tx_mut (r3 p _ h)
        obtain ⟨s4, r4⟩ := stp_mut (o' := .lst (xs.set j d)) r3 h ⟨_, upd_same, (r.set j rd).mono tx⟩
        exact k.nx _ _ _ _ (st.trans s4) r4 (re.mono (st.trans s4).tx) q3
      | dk kvs =>
        simp only [h] at q3
        obtain ⟨kk, e, hl, q3⟩ := q3
        obtain ⟨ws, e1, r⟩ := h0
        refine .inr ⟨p, _, rfl, by rw [key_rep v3 e]; exact .k e1 (by rw [kreps_len r]; exact hl), ?_⟩
        have tx : Tx X.K H3 (upd H3 p (.dK (putK ws kk v))) := tx_mut (r3 p _ h)
        obtain ⟨s4, r4⟩ := stp_mut (o' := .dk (putD kvs kk d)) r3 h ⟨_, upd_same, KReps.mono tx (kreps_put rd kk r)⟩
        exact k.nx _ _ _ _ (st.trans s4) r4 (re.mono (st.trans s4).tx) q3
  | _ => exact False.elim q3
end
end DL
namespace DL
open PySem PySem.Spec PyProof.Rows L2
/-! ### the reading that data choose -/
def TEof (K : PySem.W.Frag) (f : DE) : TE := fun sv H Kt => ∃ σ S Q, ERep K H sv σ ∧ SRep K S H ∧ f σ S Q ∧ Rch K S H Q Kt
def TTof (K : PySem.W.Frag) (f : DT) : TT := fun sv H Kt => ∃ σ S Q, ERep K H sv σ ∧ SRep K S H ∧ f σ S Q ∧ ∀ b S' H', Stp K S H S' H' → SRep K S' H' → Q b S' → Kt b H'
def TGof (K : PySem.W.Frag) (own : List Nat) (g : DG) : TG := fun v sv H Kt => ∃ d σ S Q, Rep K H v d ∧ ERep K H sv σ ∧ SRep K S H ∧ g d σ S Q ∧
  ∀ sv' σ' S' H', Stp K S H S' H' → SRep K S' H' → ERep K H' sv' σ' → (∀ vs : List Nat, (∀ i ∈ own, i ∈ vs) → wipe sv' vs = wipe sv vs) → Q σ' S' → Kt sv' H'
section
variable {X : Cx} {K : PySem.W.Frag} {e a b c : Expr} {es : List Expr} {fe fa fb fc : DE} {ft fu : DT} {fs : DA} {pos : Pos} {S S1 S' : Sto} {H H1 H' : Hp}
theorem CE.pe (h : CE X e fe) : PE X e (TEof X.K fe) := by
  obtain ⟨t, p, s⟩ := h
  exact ⟨fun pins s0 sv H Kt I ⟨σ, S, Q, a, b, c, d⟩ => p.run pins s0 sv H Kt I (s σ S Q sv H Kt a b c d)⟩
theorem CT.pt (h : CT X e ft) : PT X e (TTof X.K ft) := by
  obtain ⟨t, p, s⟩ := h
  exact ⟨fun pins s0 sv H Kt I ⟨σ, S, Q, a, b, c, d⟩ => p.run pins s0 sv H Kt I (s σ S Q sv H Kt a b c d)⟩
theorem CG.pg {own : List Nat} {g : DG} (h : CG X e own g) : PG X e (TGof X.K own g) := by
  obtain ⟨t, p, s⟩ := h
  exact ⟨fun pins s0 sv H v u Kt I r ⟨d, σ, S, Q, a, b, c, q, k⟩ => p.run pins s0 sv H v u Kt I r (s v d σ S Q sv H Kt a b c q k)⟩
/-! ### what is walked -/
abbrev DI := Env → Sto → (List D → (Sto → Prop) → Sto → Prop) → Prop
/-- the iterator J walks the items, from the heap H0 on, while stab holds -/
def ItOk (K : PySem.W.Frag) (H0 : Hp) (J : It) (items : List D) (stab : Sto → Prop) : Prop := ∀ S H, SRep K S H → Tx K H0 H → stab S →
  (∀ i d, items[i]? = some d → J.go i H ∧ ∀ x H', J.yld i H x H' → Stp K S H S H' ∧ SRep K S H' ∧ Rep K H' x d) ∧ J.stop items.length H
structure CI (X : Cx) (tg it : Expr) (fi : DI) : Prop where
  ok : ∃ wi, PI X tg it wi ∧ ∀ (σ : Env) (S : Sto) (Q : List D → (Sto → Prop) → Sto → Prop) (sv : L2.St) (H : Hp) (R : It → Hp → Prop), ERep X.K H sv σ → SRep X.K S H → fi σ S Q →
    (∀ J items stab S' H', Stp X.K S H S' H' → SRep X.K S' H' → ItOk X.K H' J items stab → Q items stab S' → R J H') → wi sv H R
def iSeqL (fa : DE) : DI := fun σ S Q => fa σ S fun x S1 => match x with
  | .ref p => ∃ xs, S1 p = some (.lst xs) ∧ Q xs (fun S => S p = some (.lst xs)) S1
  | .fl xs => Q xs (fun _ => True) S1
  | _ => False
def iSeqT (fa : DE) : DI := fun σ S Q => fa σ S fun x S1 => match x with
  | .tup xs => Q xs (fun _ => True) S1
  | _ => False
def iStrD (fa : DE) : DI := fun σ S Q => fa σ S fun x S1 => match x with
  | .str z => Q (z.cps.toList.map fun c => .str ⟨#[c]⟩) (fun _ => True) S1
  | _ => False
theorem itok_list {p : Addr} {xs : List D} : ItOk K H1 (Itl K p) xs (fun S => S p = some (.lst xs)) := fun S H s tx st => by
  obtain ⟨vs, e1, r⟩ := s _ _ st
  have sq : SqL K H p vs := .inl (.inl e1)
  refine ⟨fun i d hi => ?_, ⟨vs, sq, by rw [r.length]; exact Nat.le_refl _⟩⟩
  obtain ⟨v, ev, rv⟩ := r.get hi
  refine ⟨⟨vs, v, sq, ev⟩, fun x H' y => ?_⟩
  obtain ⟨e, y⟩ := y
  subst e
  have h2 := y vs sq
  rw [ev] at h2
  cases h2
  exact ⟨.refl, s, rv⟩
theorem itok_fl {p : Addr} {vs : List V} {xs : List D} (h : FrL K H1 p vs) (r : Reps K H1 vs xs) : ItOk K H1 (Itl K p) xs (fun _ => True) := fun S H s tx st => by
  have r := r.mono tx
  have sq : SqL K H p vs := (tx.fl _ _ h).sq
  refine ⟨fun i d hi => ?_, ⟨vs, sq, by rw [r.length]; exact Nat.le_refl _⟩⟩
  obtain ⟨v, ev, rv⟩ := r.get hi
  refine ⟨⟨vs, v, sq, ev⟩, fun x H' y => ?_⟩
  obtain ⟨e, y⟩ := y
  subst e
  have h2 := y vs sq
  rw [ev] at h2
  cases h2
  exact ⟨.refl, s, rv⟩
theorem itok_tup {p : Addr} {vs : List V} {xs : List D} (h : SqT K H1 p vs) (r : Reps K H1 vs xs) : ItOk K H1 (Itt K p) xs (fun _ => True) := fun S H s tx st => by
  have r := r.mono tx
  have sq : SqT K H p vs := tx.tup _ _ h
  refine ⟨fun i d hi => ?_, ⟨vs, sq, by rw [r.length]; exact Nat.le_refl _⟩⟩
  obtain ⟨v, ev, rv⟩ := r.get hi
  refine ⟨⟨vs, v, sq, ev⟩, fun x H' y => ?_⟩
  obtain ⟨e, y⟩ := y
  subst e
  have h2 := y vs sq
  rw [ev] at h2
  cases h2
  exact ⟨.refl, s, rv⟩
theorem i_list {tg : Expr} (ha : CE X a fa) : CI X tg a (iSeqL fa) := by
  obtain ⟨ta, ha, sa⟩ := ha
  refine ⟨_, pi_list ha, fun σ S Q sv H R re rs q k => sa σ S _ sv H _ re rs q fun v d S1 H1 s1 r1 v1 q1 => ?_⟩
  cases v1 with
  | ref p =>
    obtain ⟨xs, e, q1⟩ := q1
    obtain ⟨vs, e1, r⟩ := r1 _ _ e
    exact ⟨p, rfl, ⟨vs, .inl (.inl e1)⟩, k _ _ _ _ _ s1 r1 itok_list q1⟩
  | @fl p vs ds h r => exact ⟨p, rfl, ⟨vs, h.sq⟩, k _ _ _ _ _ s1 r1 (itok_fl h r) q1⟩
  | _ => exact False.elim q1
theorem i_tup {tg : Expr} (ha : CE X a fa) : CI X tg a (iSeqT fa) := by
  obtain ⟨ta, ha, sa⟩ := ha
  refine ⟨_, pi_tup ha, fun σ S Q sv H R re rs q k => sa σ S _ sv H _ re rs q fun v d S1 H1 s1 r1 v1 q1 => ?_⟩
  cases v1 with
  | @tup p vs ds h r => exact ⟨p, rfl, ⟨vs, h⟩, k _ _ _ _ _ s1 r1 (itok_tup h r) q1⟩
  | _ => exact False.elim q1
theorem i_str {tg : Expr} (ha : CE X a fa) : CI X tg a (iStrD fa) := by
  obtain ⟨ta, ha, sa⟩ := ha
  refine ⟨_, pi_str ha, fun σ S Q sv H R re rs q k => sa σ S _ sv H _ re rs q fun v d S1 H1 s1 r1 v1 q1 => ?_⟩
  cases v1 with
  | str z =>
    refine ⟨z, rfl, k _ _ _ _ _ s1 r1 (fun S H s tx st => ?_) q1⟩
    refine ⟨fun i d hi => ?_, by show z.cps.size ≤ _; simp⟩
    rw [List.getElem?_map] at hi
    cases h : z.cps.toList[i]? with
    | none => rw [h] at hi; cases hi
    | some c =>
      rw [h] at hi
      cases hi
      have hlt : i < z.cps.size := by
        have := (List.getElem?_eq_some_iff.mp h).1
        simpa using this
      refine ⟨hlt, fun x H' y => ?_⟩
      obtain ⟨e, c2, e2, e3⟩ := y
      subst e e3
      have : c2 = c := by
        have h2 : z.cps.toList[i]? = some c2 := by rw [Array.getElem?_toList]; exact e2
        rw [h] at h2
        exact (Option.some.inj h2).symm
      subst this
      exact ⟨.refl, s, .str _⟩
  | _ => exact False.elim q1
def rangeD (lo : Int) (n : Nat) : List D := (List.range n).map fun i => .int (lo + (i : Nat))
theorem itok_range {lo : Int} {n : Nat} : ItOk K H1 (Itr lo n) (rangeD lo n) (fun _ => True) := fun S H s tx st => by
  refine ⟨fun i d hi => ?_, by show n ≤ _; simp [rangeD]⟩
  unfold rangeD at hi
  rw [List.getElem?_map] at hi
  cases h : (List.range n)[i]? with
  | none => rw [h] at hi; cases hi
  | some c =>
    obtain ⟨hl, hc⟩ := List.getElem?_eq_some_iff.mp h
    rw [h] at hi
    cases hi
    simp at hc hl
    subst hc
    refine ⟨hl, fun x H' y => ?_⟩
    obtain ⟨e, e2⟩ := y
    subst e e2
    exact ⟨.refl, s, .int _⟩
def iRange1 (fs : DA) : DI := fun σ S Q => fs σ S fun xs S1 => match xs with
  | [.int j] => -(2 ^ 62) ≤ j ∧ j < 2 ^ 62 ∧ Q (rangeD 0 j.toNat) (fun _ => True) S1
  | _ => False
def iRange2 (fs : DA) : DI := fun σ S Q => fs σ S fun xs S1 => match xs with
  | [.int i, .int j] => (-(2 ^ 62) ≤ i ∧ i < 2 ^ 62 ∧ -(2 ^ 62) ≤ j ∧ j < 2 ^ 62) ∧ Q (rangeD i (j - i).toNat) (fun _ => True) S1
  | _ => False
theorem i_range1 {tg : Expr} {p : Pos} (hg : Gl X "range") (hm : X.mg "range" = none) (ha : CA X [a] fs) (hs : starEach [a] X.env = [(false, eval a X.env)] := by rfl) : CI X tg (.Call (.Name "range" p) [a] [] pos) (iRange1 fs) := by
  obtain ⟨ta, ha, sa⟩ := ha
  refine ⟨_, pi_range1 hg hm ha hs, fun σ S Q sv H R re rs q k => sa σ S _ sv H _ re rs q fun vs ds S1 H1 s1 r1 v1 q1 => ?_⟩
  match ds, q1 with
  | [.int j], q1 =>
    obtain ⟨v, rfl, rv⟩ := reps1 v1
    cases rv
    exact ⟨j, rfl, q1.1, q1.2.1, k _ _ _ _ _ s1 r1 itok_range q1.2.2⟩
theorem i_range2 {tg : Expr} {p : Pos} (hg : Gl X "range") (hm : X.mg "range" = none) (ha : CA X [a, b] fs) (hs : starEach [a, b] X.env = [(false, eval a X.env), (false, eval b X.env)] := by rfl) (hs2 : starEach [b] X.env = [(false, eval b X.env)] := by rfl) :
    CI X tg (.Call (.Name "range" p) [a, b] [] pos) (iRange2 fs) := by
  obtain ⟨ta, ha, sa⟩ := ha
  refine ⟨_, pi_range2 hg hm ha hs hs2, fun σ S Q sv H R re rs q k => sa σ S _ sv H _ re rs q fun vs ds S1 H1 s1 r1 v1 q1 => ?_⟩
  match ds, q1 with
  | [.int i, .int j], q1 =>
    obtain ⟨v, v2, rfl, rv, rv2⟩ := reps2 v1
    cases rv
    cases rv2
    exact ⟨i, j, rfl, q1.1, k _ _ _ _ _ s1 r1 itok_range q1.2⟩
/-! ### for -/
def forL (stab : Sto → Prop) (g : DG) (body : DS) (D0 : DEnds) : List D → Env → Sto → Prop
  | [], σ, S => stab S ∧ D0.nx σ S
  | x :: xs, σ, S => stab S ∧ g x σ S fun σ2 S2 => body ⟨forL stab g body D0 xs, D0.rt, D0.nx, forL stab g body D0 xs⟩ σ2 S2
def sFor (fi : DI) (g : DG) (body : DS) : DS := fun D0 σ S => fi σ S fun items stab S1 => forL stab g body D0 items σ S1
theorem forL_stab {stab : Sto → Prop} {g : DG} {body : DS} {D0 : DEnds} {xs : List D} {σ : Env} {S : Sto} (h : forL stab g body D0 xs σ S) : stab S := by
  cases xs <;> exact h.1
theorem s_for {tg it : Expr} {own : List Nat} {fi : DI} {g : DG} {body : List Stmt} {fb : DS} (hp : PassesOwn (model X.prog X.w) X.A X.env X.xe) (hc : X.calm = true) (hi : CI X tg it fi) (hg : CG X tg own g) (hb : CSs X body fb)
    (hs : ∀ x, foldedSetIterable it X.env x = pure x := by intro _; rfl) : CS X (.For tg it body [] pos) (sFor fi g fb) := by
  obtain ⟨wi, hi, si⟩ := hi
  obtain ⟨tg', hg, sg⟩ := hg
  obtain ⟨tb, hb, sb⟩ := hb
  refine ⟨_, ps_for hp hc hi hg hb hs, fun D0 σ S Dv sv H re rs q k => si σ S _ sv H _ re rs q fun J items stab S1 H1 s1 r1 ok q1 => ?_⟩
  refine ⟨fun i m sv2 H2 => m = items.length - i ∧ i ≤ items.length ∧ ∃ σ2 S2, Stp X.K S1 H1 S2 H2 ∧ SRep X.K S2 H2 ∧ ERep X.K H2 sv2 σ2 ∧ forL stab g fb D0 (items.drop i) σ2 S2,
    ⟨items.length, by simp, Nat.zero_le _, σ, S1, .refl, r1, re.mono s1.tx, q1⟩, ?_⟩
  rintro i m sv2 H2 ⟨rfl, hi2, σ2, S2, s2, r2, e2, q2⟩
  obtain ⟨ok1, ok2⟩ := ok S2 H2 r2 s2.tx (forL_stab q2)
  by_cases hlt : i < items.length
  · obtain ⟨go, yl⟩ := ok1 i items[i] (List.getElem?_eq_getElem hlt)
    rw [List.drop_eq_getElem_cons hlt] at q2
    refine .inr ⟨go, fun sv3 H3 => ∃ σ3 S3, Stp X.K S1 H1 S3 H3 ∧ SRep X.K S3 H3 ∧ ERep X.K H3 sv3 σ3 ∧ forL stab g fb D0 (items.drop (i + 1)) σ3 S3,
      fun sv3 H3 ⟨σ3, S3, a1, a2, a3, a4⟩ => ⟨items.length - (i + 1), by omega, rfl, hlt, σ3, S3, a1, a2, a3, a4⟩, fun x H3 hy => ?_⟩
    obtain ⟨s3, r3, rx⟩ := yl x H3 hy
    refine sg x items[i] σ2 S2 _ sv2 H3 _ rx (e2.mono s3.tx) r3 q2.2 fun sv4 σ4 S4 H4 s4 r4 e4 _ q4 => ?_
    have st := (s2.trans s3).trans s4
    refine sb _ σ4 S4 _ sv4 H4 e4 r4 q4 ⟨fun sv5 σ5 S5 H5 s5 r5 e5 q5 => ?_, (k.stp s1).rt.stp st, (k.stp s1).nx.stp st, fun sv5 σ5 S5 H5 s5 r5 e5 q5 => ?_⟩
    · exact ⟨σ5, S5, st.trans s5, r5, e5, q5⟩
    · exact ⟨σ5, S5, st.trans s5, r5, e5, q5⟩
  · have hn : i = items.length := by omega
    subst hn
    rw [List.drop_length] at q2
    exact .inl ⟨ok2, (k.stp s1).nx _ _ _ _ s2 r2 e2 q2.2⟩
/-! ### while -/
def sWhile (fc : DT) (body : DS) : DS := fun D0 σ S => ∃ W : Nat → Env → Sto → Prop, (∃ m, W m σ S) ∧ ∀ m σ S, W m σ S → fc σ S fun k S1 =>
  if k = true then body ⟨fun σ2 S2 => ∃ m2, m2 < m ∧ W m2 σ2 S2, D0.rt, D0.nx, fun σ2 S2 => ∃ m2, m2 < m ∧ W m2 σ2 S2⟩ σ S1 else D0.nx σ S1
theorem s_while {body : List Stmt} {fb : DS} (hp : PassesOwn (model X.prog X.w) X.A X.env X.xe) (hc : CT X c ft) (hb : CSs X body fb) : CS X (.While c body [] pos) (sWhile ft fb) := by
  obtain ⟨tc, hc, sc⟩ := hc
  obtain ⟨tb, hb, sb⟩ := hb
  refine ⟨_, ps_while hp hc hb, fun D0 σ S Dv sv H re rs q k => ?_⟩
  obtain ⟨W, ⟨m0, w0⟩, turn⟩ := q
  refine ⟨fun m sv2 H2 => ∃ σ2 S2, Stp X.K S H S2 H2 ∧ SRep X.K S2 H2 ∧ ERep X.K H2 sv2 σ2 ∧ W m σ2 S2, ⟨m0, σ, S, .refl, rs, re, w0⟩, ?_⟩
  rintro m sv2 H2 ⟨σ2, S2, s2, r2, e2, w2⟩
  refine sc σ2 S2 _ sv2 H2 _ e2 r2 (turn m σ2 S2 w2) fun kk S3 H3 s3 r3 q3 => ?_
  cases kk with
  | true =>
    refine ⟨fun sv4 H4 => ∃ m2, m2 < m ∧ ∃ σ4 S4, Stp X.K S H S4 H4 ∧ SRep X.K S4 H4 ∧ ERep X.K H4 sv4 σ4 ∧ W m2 σ4 S4, fun sv4 H4 h4 => h4, ?_⟩
    have st := s2.trans s3
    refine sb _ σ2 S3 _ sv2 H3 (e2.mono s3.tx) r3 q3 ⟨fun sv5 σ5 S5 H5 s5 r5 e5 q5 => ?_, k.rt.stp st, k.nx.stp st, fun sv5 σ5 S5 H5 s5 r5 e5 q5 => ?_⟩
    · obtain ⟨m2, h1, h2⟩ := q5
      exact ⟨m2, h1, σ5, S5, st.trans s5, r5, e5, h2⟩
    · obtain ⟨m2, h1, h2⟩ := q5
      exact ⟨m2, h1, σ5, S5, st.trans s5, r5, e5, h2⟩
  | false => exact k.nx _ _ _ _ (s2.trans s3) r3 (e2.mono s3.tx) q3
/-! ### comprehensions -/
def lcL (stab : Sto → Prop) (g : DG) (tests : DT) (elt : DE) (σ : Env) (k : List D → Sto → Prop) : List D → List D → Sto → Prop
  | [], acc, S => stab S ∧ k acc S
  | x :: xs, acc, S => stab S ∧ g x σ S fun σ2 S2 => tests σ2 S2 fun b S3 => if b = true then elt σ2 S3 fun d S4 => acc.length < sizeLine ∧ lcL stab g tests elt σ k xs (acc ++ [d]) S4 else lcL stab g tests elt σ k xs acc S3
def eLc (fi : DI) (g : DG) (tests : DT) (elt : DE) (own : List Nat) : DE := fun σ S Q => fi σ S fun items stab S1 =>
  lcL stab g tests elt (wipeS σ own) (fun acc S2 => ∀ p, S2 p = none → Q (.ref p) (updS S2 p (.lst acc))) items [] S1
theorem lcL_stab {stab : Sto → Prop} {g : DG} {tests : DT} {elt : DE} {σ : Env} {k : List D → Sto → Prop} {xs acc : List D} {S : Sto} (h : lcL stab g tests elt σ k xs acc S) : stab S := by
  cases xs <;> exact h.1
/-- a clause's tests -/
structure CTs (X : Cx) (ifs : List Expr) (f : DT) : Prop where
  ok : ∃ t, PTs X ifs t ∧ SndT X.K t f
def tsYes : DT := fun _ S Q => Q true S
theorem ts_nil : CTs X [] tsYes := ⟨_, pts_nil, fun σ S Q sv H Kt re rs q k => k _ _ _ .refl rs q⟩
theorem ts_one (h : CT X c ft) : CTs X [c] ft := let ⟨_, h, s⟩ := h.ok; ⟨_, pts_one h, s⟩
theorem CTs.pts {ifs : List Expr} (h : CTs X ifs ft) : PTs X ifs (TTof X.K ft) := by
  obtain ⟨t, p, s⟩ := h
  exact ⟨fun pins s0 sv H Kt I ⟨σ, S, Q, a, b, c, d⟩ => p.run pins s0 sv H Kt I (s σ S Q sv H Kt a b c d)⟩
theorem snd_lc {wi : TI} {fi : DI} {g : DG} {elt : DE} {own : List Nat} {gown : List Nat} (hsub : ∀ i ∈ gown, i ∈ own)
    (si : ∀ (σ : Env) (S : Sto) (Q : List D → (Sto → Prop) → Sto → Prop) (sv : L2.St) (H : Hp) (R : It → Hp → Prop), ERep K H sv σ → SRep K S H → fi σ S Q →
      (∀ J items stab S' H', Stp K S H S' H' → SRep K S' H' → ItOk K H' J items stab → Q items stab S' → R J H') → wi sv H R) :
    Snd K (tLc wi (TGof K gown g) (TTof K ft) (TEof K elt) own) (eLc fi g ft elt own) := fun σ S Q sv H Kt re rs q k => by
  refine si σ S _ sv H _ re rs q fun J items stab S1 H1 s1 r1 ok q1 p hp => ?_
  have re1 : ERep K H1 (wipe sv own) (wipeS σ own) := (re.mono s1.tx).wipe own
  refine ⟨fun i m H2 => m = items.length - i ∧ i ≤ items.length ∧ ∃ S2 av acc, Stp K S1 H1 S2 H2 ∧ SRep K S2 H2 ∧ H2 p = some (.lst av) ∧ S2 p = none ∧ Reps K H2 av acc ∧
      lcL stab g ft elt (wipeS σ own) (fun acc S2 => ∀ p, S2 p = none → Q (.ref p) (updS S2 p (.lst acc))) (items.drop i) acc S2,
    ⟨items.length, by simp, Nat.zero_le _, S1, [], [], ?_, ?_, upd_same, r1.free hp, .nil, q1⟩, ?_⟩
  · exact ⟨tx_new hp, fun z o a b => ⟨a, by rw [upd_ne (ne_of_none b hp)]; exact b⟩⟩
  · exact fun a o e => (r1 a o e).mono (tx_new hp) (upd_ne (neS e (r1.free hp)))
  rintro i m H2 ⟨rfl, hi2, S2, av, acc, s2, r2, hp2, np2, ra, q2⟩
  obtain ⟨ok1, ok2⟩ := ok S2 H2 r2 s2.tx (lcL_stab q2)
  by_cases hlt : i < items.length
  · obtain ⟨go, yl⟩ := ok1 i items[i] (List.getElem?_eq_getElem hlt)
    rw [List.drop_eq_getElem_cons hlt] at q2
    refine .inr ⟨go, fun H3 => ∃ S2 av acc, Stp K S1 H1 S2 H3 ∧ SRep K S2 H3 ∧ H3 p = some (.lst av) ∧ S2 p = none ∧ Reps K H3 av acc ∧
      lcL stab g ft elt (wipeS σ own) (fun acc S2 => ∀ p, S2 p = none → Q (.ref p) (updS S2 p (.lst acc))) (items.drop (i + 1)) acc S2,
      fun H3 h3 => ⟨items.length - (i + 1), by omega, rfl, hlt, h3⟩, fun x H3 hy => ?_⟩
    obtain ⟨s3, r3, rx⟩ := yl x H3 hy
    refine ⟨items[i], wipeS σ own, S2, _, rx, re1.mono (s2.trans s3).tx, r3, q2.2, fun sv4 σ4 S4 H4 s4 r4 e4 w4 q4 => ⟨?_, ?_⟩⟩
    · rw [w4 own hsub, wipe_wipe]
    refine ⟨σ4, S4, _, e4, r4, q4, fun b S5 H5 s5 r5 q5 => ?_⟩
    have st5 := ((s2.trans s3).trans s4).trans s5
    have stp5 := (s3.trans s4).trans s5
    obtain ⟨np5, hp5⟩ := stp5.hid p _ np2 hp2
    cases b with
    | false => exact ⟨S5, av, acc, st5, r5, hp5, np5, ra.mono stp5.tx, q5⟩
    | true =>
      refine ⟨σ4, S5, _, e4.mono s5.tx, r5, q5, fun v d S6 H6 s6 r6 v6 q6 => ?_⟩
      obtain ⟨np6, hp6⟩ := s6.hid p _ np5 hp5
      have ra6 := ra.mono (stp5.trans s6).tx
      obtain ⟨tx, r7⟩ := stp_hid (ho := .lst (av ++ [v])) r6 np6 hp6 (fun _ z => nomatch z) (fun _ _ z => nomatch z)
      refine ⟨av, hp6, by rw [ra6.length]; exact q6.1, S6, av ++ [v], acc ++ [d], ?_, r7, upd_same, np6, (ra6.append (.cons v6 .nil)).mono tx, q6.2⟩
      have st6 := st5.trans s6
      exact ⟨st6.tx.trans tx, fun z o a b => ⟨(st6.hid z o a b).1, by rw [upd_ne (ne_of_none b hp)]; exact (st6.hid z o a b).2⟩⟩
  · have hn : i = items.length := by omega
    subst hn
    rw [List.drop_length] at q2
    refine .inl ⟨ok2, ?_⟩
    have st := s1.trans s2
    refine k (.ref p) (.ref p) (updS S2 p (.lst acc)) H2 ⟨st.tx, fun z o a b => ?_⟩ (fun a o e => ?_) (.ref p) (q2.2 p np2)
    · obtain ⟨a2, b2⟩ := st.hid z o a b
      have hz := s1.hid z o a b
      have ne : z ≠ p := ne_of_none hz.2 hp
      exact ⟨by rw [updS_ne ne]; exact a2, b2⟩
    · by_cases ha : a = p
      · subst ha
        rw [updS_same] at e
        cases e
        exact ⟨av, hp2, ra⟩
      · rw [updS_ne ha] at e
        exact r2 a o e
theorem c_lc {elt tg it : Expr} {ifs : List Expr} {scope : Scope} {own : List (Str × Nat)} {gown : List Nat} {fi : DI} {g : DG} (hc : X.calm = true) (hN : X.N.Nodup) (hi : CI X tg it fi) (ok : BlkOk X.N X.env.scope scope own)
    (hg : ∀ (s : Shared) (H : Hp) (C : Addr) (cl : List (Str × Addr)) (fp : List Addr), CG (X.blk s H scope (compEnvC scope cl C X.env) fp) tg gown g) (hsub : ∀ i ∈ gown, i ∈ own.map (·.2))
    (ht : ∀ (s : Shared) (H : Hp) (C : Addr) (cl : List (Str × Addr)) (fp : List Addr), CTs (X.blk s H scope (compEnvC scope cl C X.env) fp) ifs ft)
    (he : ∀ (s : Shared) (H : Hp) (C : Addr) (cl : List (Str × Addr)) (fp : List Addr), CE (X.blk s H scope (compEnvC scope cl C X.env) fp) elt fe) (hs : ∀ x, foldedSetIterable it X.env x = pure x := by intro _; rfl) :
    CE X (.ListComp elt [⟨tg, it, ifs, 0⟩] scope pos) (eLc fi g ft fe (own.map (·.2))) := by
  obtain ⟨wi, hi, si⟩ := hi
  exact ⟨_, pe_lc hc hN hi ok (fun s H C cl fp => (hg s H C cl fp).pg) (fun s H C cl fp => (ht s H C cl fp).pts) (fun s H C cl fp => (he s H C cl fp).pe) hs, snd_lc hsub si⟩
/-! ### a def -/
def startD (n : Nat) (ds : List D) : Env := ds.map some ++ List.replicate (n - ds.length) none
theorem erep_start {vs : List V} {ds : List D} {N : List Str} (r : Reps K H vs ds) : ERep K H (start N vs) (startD N.length ds) := by
  have l := r.length
  refine ⟨by simp [L2.start, startD, l], fun i d q => ?_⟩
  rw [getS_eq] at q
  unfold startD at q
  by_cases hi : i < ds.length
  · rw [List.getElem?_append_left (by simpa using hi), List.getElem?_map] at q
    cases h : ds[i]? with
    | none => rw [h] at q; cases q
    | some d2 =>
      rw [h] at q
      have e : d2 = d := Option.some.inj q
      subst e
      obtain ⟨v, ev, rv⟩ := r.get h
      refine ⟨v, ?_, rv⟩
      unfold L2.start
      rw [List.getElem?_append_left (by simpa [l] using hi), List.getElem?_map, ev]
      rfl
  · rw [List.getElem?_append_right (by simpa using Nat.le_of_not_lt hi)] at q
    rw [List.getElem?_replicate] at q
    split at q <;> cases q
def endsD (Q : DK) : DEnds := ⟨fun _ S => Q .non S, Q, fun _ _ => False, fun _ _ => False⟩
theorem def_ok {P : Program} {w : World} {mg : Str → Option Value} {base : Heap} {x qual : Str} {st : Stmt} {f : Addr} {fd : FuncData} {N ps : List Str} {k : Nat} {b : DS} (F : Fun K x qual st f fd) (Sc : FnScope N ps (defScope st))
    (h : ∀ (cdv : Value) (A : Around) (outer : List PySem.Env) (s : Shared) (H : Hp) (E : XK), Room k (A.deeper (envOfC qual (defScope st) s.heap.objs.size f cdv)) → CSs (cxOf CX0 P w K mg base N qual (defScope st) f cdv A outer s H E).nox (defBody st) b) :
    FnOk P w K mg base CX0 (k + 1) f fd ps (spD K ps.length fun ds S Q => b (endsD Q) (startD N.length ds) S) := by
  refine F.ok Sc (fun vs H Q E h => h.1) (fun cdv A outer s H vs Q E hr hq => ?_)
  obtain ⟨t, p, sn⟩ := h cdv A outer s H E hr
  refine ⟨t, p, ?_⟩
  obtain ⟨hl, ds, S, Qd, r, sr, q, kk⟩ := hq
  refine sn (endsD Qd) _ S _ _ H (erep_start r) sr q ⟨fun sv σ S' H' s' r' e' q' => ?_, kk, fun _ _ _ _ _ _ _ z => z.elim, fun _ _ _ _ _ _ _ z => z.elim⟩
  exact kk .non .non S' H' s' r' .non q'
end
end DL
namespace DL
open PySem PySem.Spec PyProof.Rows L2
section
variable {X : Cx} {K : PySem.W.Frag} {e a b c : Expr} {es : List Expr} {fe fa fb fc : DE} {ft fu : DT} {fs : DA} {pos : Pos} {S S1 S' : Sto} {H H1 H' : Hp}
/-! ### displays of dicts -/
def eDict0 : DE := fun _ S Q => ∀ p, S p = none → Q (.ref p) (updS S p (.dk []))
theorem c_dict0 : CE X (.Dict [] [] pos) eDict0 := by
  refine ⟨_, pe_dnewK, fun σ S Q sv H Kt re rs q k p hp => ?_⟩
  obtain ⟨st, sr⟩ := stp_new (o := .dk []) (ho := .dK []) rs hp ⟨_, upd_same, .nil⟩
  exact k _ _ _ _ st sr (.ref p) (q p (rs.free hp))
abbrev DPs := Env → Sto → (List (D × D) → Sto → Prop) → Prop
def pNil : DPs := fun _ S Q => Q [] S
def pCons (fk fv : DE) (fr : DPs) : DPs := fun σ S Q => fk σ S fun x S1 => fv σ S1 fun y S2 => fr σ S2 fun r S3 => Q ((x, y) :: r) S3
def PReps (K : PySem.W.Frag) (H : Hp) : List (V × V) → List (D × D) → Prop := Paired fun p q => Rep K H p.1 q.1 ∧ Rep K H p.2 q.2
structure CPs (X : Cx) (pos : Pos) (keys : List (Option Expr)) (values : List Expr) (f : DPs) : Prop where
  ok : ∃ trs, PPs X pos keys values trs ∧ ∀ (σ : Env) (S : Sto) (Q : List (D × D) → Sto → Prop) (sv : L2.St) (H : Hp) (Kt : List (V × V) → Hp → Prop), ERep X.K H sv σ → SRep X.K S H → f σ S Q →
    (∀ ps qs S' H', Stp X.K S H S' H' → SRep X.K S' H' → PReps X.K H' ps qs → Q qs S' → Kt ps H') → tPairs trs sv H Kt
theorem ps_nil0 : CPs X pos [] [] pNil := ⟨_, pps_nil, fun σ S Q sv H Kt re rs q k => k _ _ _ _ .refl rs .nil q⟩
theorem ps_cons0 {ks : List (Option Expr)} {vs : List Expr} {fr : DPs} (hk : CE X a fa) (hv : CE X b fb) (hr : CPs X pos ks vs fr) : CPs X pos (some a :: ks) (b :: vs) (pCons fa fb fr) := by
  obtain ⟨tk, hk, sk⟩ := hk
  obtain ⟨tv, hv, sv⟩ := hv
  obtain ⟨tr, hr, sr⟩ := hr
  refine ⟨_, pps_cons hk hv hr, fun σ S Q sv' H Kt re rs q k => sk σ S _ sv' H _ re rs q fun v d S1 H1 s1 r1 v1 q1 => ?_⟩
  refine sv σ S1 _ sv' H1 _ (re.mono s1.tx) r1 q1 fun u d2 S2 H2 s2 r2 v2 q2 => ?_
  refine sr σ S2 _ sv' H2 _ (re.mono (s1.trans s2).tx) r2 q2 fun ps qs S3 H3 s3 r3 v3 q3 => ?_
  exact k _ _ S3 H3 ((s1.trans s2).trans s3) r3 (.cons ⟨v1.mono (s2.trans s3).tx, v2.mono s3.tx⟩ v3) q3
/-- the pairs as keys and data -/
def asKeys : List (D × D) → Option (List (Key × D))
  | [] => some []
  | p :: r => match toKey p.1, asKeys r with
    | some k, some l => some ((k, p.2) :: l)
    | _, _ => none
def mergeD (kvs more : List (Key × D)) : List (Key × D) := more.foldl (fun acc kv => putD acc kv.1 kv.2) kvs
def eDict (fp : DPs) : DE := fun σ S Q => fp σ S fun ps S1 => ∃ kvs, asKeys ps = some kvs ∧ kvs.length ≤ 15 ∧ ∀ p, S1 p = none → Q (.ref p) (updS S1 p (.dk (mergeD [] kvs)))
theorem asKeys_rep : ∀ {ps : List (V × V)} {qs : List (D × D)} {kvs : List (Key × D)}, PReps K H ps qs → asKeys qs = some kvs → ∃ ws : List (Key × V), ps = ws.map (fun kv => (kV kv.1, kv.2)) ∧ KReps K H ws kvs
  | _, _, _, .nil, e => by cases e; exact ⟨[], rfl, .nil⟩
  | p :: ps, q :: qs, kvs, .cons h r, e => by
    unfold asKeys at e
    cases h1 : toKey q.1 with
    | none => rw [h1] at e; cases e
    | some k =>
      cases h2 : asKeys qs with
      | none => rw [h1, h2] at e; cases e
      | some l =>
        rw [h1, h2] at e
        cases e
        obtain ⟨ws, e1, r1⟩ := asKeys_rep r h2
        refine ⟨(k, p.2) :: ws, ?_, .cons ⟨rfl, h.2⟩ r1⟩
        rw [List.map_cons, ← e1]
        have hk := key_rep h.1 h1
        show p :: ps = (kV k, p.2) :: ps
        rw [← hk]
theorem merge_rep : ∀ {us : List (Key × V)} {js : List (Key × D)} {ws : List (Key × V)} {kvs : List (Key × D)}, KReps K H us js → KReps K H ws kvs → KReps K H (mergeK ws us) (mergeD kvs js)
  | _, _, _, _, .nil, s => s
  | p :: us, q :: js, ws, kvs, .cons h r, s => by
    show KReps K H (mergeK (putK ws p.1 p.2) us) (mergeD (putD kvs q.1 q.2) js)
    refine merge_rep r ?_
    rw [h.1]
    exact kreps_put h.2 q.1 s
theorem c_dict {keys : List (Option Expr)} {values : List Expr} {fp : DPs} (h : CPs X pos keys values fp) (hall : keys.all (·.isSome) = true) (hl : keys.length = values.length) (h0 : keys ≠ []) (h15 : keys.length ≤ 15) : CE X (.Dict keys values pos) (eDict fp) := by
  obtain ⟨trs, hp, sp⟩ := h
  refine ⟨_, pe_disp hp hall hl h0 h15, fun σ S Q sv H Kt re rs q k p hp => ?_⟩
  have tx := tx_new (K := X.K) (ho := .dK []) hp
  have rs1 : SRep X.K S (upd H p (.dK [])) := fun a o e => (rs a o e).mono tx (upd_ne (neS e (rs.free hp)))
  refine sp σ S _ sv _ _ (re.mono tx) rs1 q fun ps qs S1 H1 s1 r1 v1 q1 => ?_
  obtain ⟨np, hp1⟩ := s1.hid p _ (rs.free hp) upd_same
  obtain ⟨kvs, e, hz, q1⟩ := q1
  obtain ⟨ws, e1, rr⟩ := asKeys_rep v1 e
  refine ⟨hp1, ws, e1, by rw [kreps_len rr]; exact hz, ?_⟩
  have tx2 : Tx X.K H1 (upd H1 p (.dK (mergeK [] ws))) := tx_upd (fun vs => by rw [hp1]; intro z; cases z) (fun ob w => by rw [hp1]; intro z; cases z)
  refine k (.ref p) (.ref p) (updS S1 p (.dk (mergeD [] kvs))) _ ⟨(tx.trans s1.tx).trans tx2, fun z o a b => ?_⟩ (fun a o ea => ?_) (.ref p) (q1 p np)
  · have ne := ne_of_none b hp
    obtain ⟨a2, b2⟩ := s1.hid z o a (by rw [upd_ne ne]; exact b)
    exact ⟨by rw [updS_ne ne]; exact a2, by rw [upd_ne ne]; exact b2⟩
  · by_cases ha : a = p
    · subst ha
      rw [updS_same] at ea
      cases ea
      exact ⟨_, upd_same, KReps.mono tx2 (merge_rep rr .nil)⟩
    · rw [updS_ne ha] at ea
      exact (r1 a o ea).mono tx2 (upd_ne ha)
/-! ### whatever sequence is walked -/
def iSeq (fa : DE) : DI := fun σ S Q => fa σ S fun x S1 => match x with
  | .ref p => ∃ xs, S1 p = some (.lst xs) ∧ Q xs (fun S => S p = some (.lst xs)) S1
  | .fl xs => Q xs (fun _ => True) S1
  | .tup xs => Q xs (fun _ => True) S1
  | .str z => Q (z.cps.toList.map fun c => .str ⟨#[c]⟩) (fun _ => True) S1
  | _ => False
def wSeq (K : PySem.W.Frag) (te : TE) : TI := fun sv H R => te sv H fun x H1 => (∃ p vs, x = .ref p ∧ SqL K H1 p vs ∧ R (Itl K p) H1) ∨ (∃ p vs, x = .ref p ∧ SqT K H1 p vs ∧ R (Itt K p) H1) ∨ ∃ z, x = .str z ∧ R (Its z) H1
theorem lone {p q : Addr} (h : p ∈ [q]) : p = q := by simpa using h
theorem pi_seq {tg : Expr} {te : TE} (ha : PE X a te) : PI X tg a (wSeq X.K te) := by
  refine ⟨fun pins st sv H R I hw => thn (ha.run pins st sv H _ I hw) fun u st1 ⟨x, H1, J, rel, how⟩ => ?_⟩
  have fresh := J.hok.fresh (Nat.le_refl st1.heap.objs.size)
  have fpk := J.fpOk (Nat.le_refl st1.heap.objs.size) fresh
  rcases how with ⟨p, vs, ex, sq, r⟩ | ⟨p, vs, ex, sq, r⟩ | ⟨z, ex, r⟩
  · subst ex
    have eu : u = Value.ref p := rel
    subst eu
    obtain ⟨its, _, pl, _⟩ := J.list sq
    refine wpAny_pyIter_list pl.isList ⟨_, _, _, _, H1, rfl, J.kept (t' := st1.toks) (fun b o h => Heap.get?_push_of_some _ h), turn_list p _, ⟨_, Heap.get?_push_size _ rfl, rfl, rfl⟩, (fun b hb => ?_), r⟩
    rw [lone hb]
    exact fpk
  · subst ex
    have eu : u = Value.ref p := rel
    subst eu
    obtain ⟨its, _, pl, _⟩ := J.tuple sq
    refine wpAny_pyIter_tuple (show st1.heap.IsTuple p its.toArray from pl) ⟨_, _, _, _, H1, rfl, J.kept (t' := st1.toks) (fun b o h => Heap.get?_push_of_some _ h), turn_tuple p _, ⟨_, Heap.get?_push_size _ rfl, rfl, rfl⟩, (fun b hb => ?_), r⟩
    rw [lone hb]
    exact fpk
  · subst ex
    obtain ⟨tk, eu⟩ := (show ∃ tk, u = Value.str z tk from rel)
    subst eu
    cases hz : z.cps.all (· < 128) with
    | false => exact wpAny_pyIter_wide hz (pi_one (tk := st1.toks) J _ (turn_str _ z tk _ (Or.inr rfl)) ⟨_, Heap.get?_push_size _ rfl, rfl, rfl⟩ r)
    | true => exact wpAny_pyIter_ascii hz (pi_one (tk := st1.toks) J _ (turn_str _ z tk _ (Or.inl rfl)) ⟨_, Heap.get?_push_size _ rfl, rfl, rfl⟩ r)
theorem itok_str {z : Str} : ItOk K H1 (Its z) (z.cps.toList.map fun c => .str ⟨#[c]⟩) (fun _ => True) := fun S H s tx st => by
  refine ⟨fun i d hi => ?_, by show z.cps.size ≤ _; simp⟩
  rw [List.getElem?_map] at hi
  cases h : z.cps.toList[i]? with
  | none => rw [h] at hi; cases hi
  | some c =>
    rw [h] at hi
    cases hi
    have hlt : i < z.cps.size := by
      have := (List.getElem?_eq_some_iff.mp h).1
      simpa using this
    refine ⟨hlt, fun x H' y => ?_⟩
    obtain ⟨e, c2, e2, e3⟩ := y
    subst e e3
    have : c2 = c := by
      have h2 : z.cps.toList[i]? = some c2 := by rw [Array.getElem?_toList]; exact e2
      rw [h] at h2
      exact (Option.some.inj h2).symm
    subst this
    exact ⟨.refl, s, .str _⟩
theorem i_seq {tg : Expr} (ha : CE X a fa) : CI X tg a (iSeq fa) := by
  obtain ⟨ta, ha, sa⟩ := ha
  refine ⟨_, pi_seq ha, fun σ S Q sv H R re rs q k => sa σ S _ sv H _ re rs q fun v d S1 H1 s1 r1 v1 q1 => ?_⟩
  cases v1 with
  | ref p =>
    obtain ⟨xs, e, q1⟩ := q1
    obtain ⟨vs, e1, r⟩ := r1 _ _ e
    exact .inl ⟨p, vs, rfl, .inl (.inl e1), k _ _ _ _ _ s1 r1 itok_list q1⟩
  | @fl p vs ds h r => exact .inl ⟨p, vs, rfl, h.sq, k _ _ _ _ _ s1 r1 (itok_fl h r) q1⟩
  | @tup p vs ds h r => exact .inr (.inl ⟨p, vs, rfl, h, k _ _ _ _ _ s1 r1 (itok_tup h r) q1⟩)
  | str z => exact .inr (.inr ⟨z, rfl, k _ _ _ _ _ s1 r1 itok_str q1⟩)
  | _ => exact False.elim q1
theorem o_isNot : CO X .IsNot (gIs not) := by
  refine ⟨_, OpR.or op_notN op_notBl, fun x y a b S H Q Kt s ra rb q k => ?_⟩
  cases rb <;> try exact False.elim q
  · exact .inl ⟨rfl, k.now s (.bl _) (by rw [rep_non ra]; exact q)⟩
  · cases ra <;> try exact False.elim q
    exact .inr ⟨_, _, rfl, rfl, k.now s (.bl _) q⟩
abbrev gLe : G2 := gI0 fun i j => .bl (decide (i ≤ j))
abbrev gGt : G2 := gI0 fun i j => .bl (decide (j < i))
abbrev gGe : G2 := gI0 fun i j => .bl (decide (j ≤ i))
/-- name = [.. for ..] -/
theorem s_setLc {i : Nat} {y : Str} {py : Pos} {elt tg it : Expr} {ifs : List Expr} {scope : Scope} {own : List (Str × Nat)} {gown : List Nat} {spos : Pos} {fi : DI} {g : DG} (hc : X.calm = true) (hN : X.N.Nodup) (hy : X.N[i]? = some y) (hyl : X.env.scope.names.lookup y = some .local)
    (hsw : swapsWith (.ListComp elt [⟨tg, it, ifs, 0⟩] scope pos) (some (.Name y py)) spos.line X.env = pure true) (hi : CI X tg it fi) (ok : BlkOk X.N X.env.scope scope own)
    (hg : ∀ (s : Shared) (H : Hp) (C : Addr) (cl : List (Str × Addr)) (fp : List Addr), CG (X.blk s H scope (compEnvC scope cl C X.env) fp) tg gown g) (hsub : ∀ i ∈ gown, i ∈ own.map (·.2))
    (ht : ∀ (s : Shared) (H : Hp) (C : Addr) (cl : List (Str × Addr)) (fp : List Addr), CTs (X.blk s H scope (compEnvC scope cl C X.env) fp) ifs ft)
    (he : ∀ (s : Shared) (H : Hp) (C : Addr) (cl : List (Str × Addr)) (fp : List Addr), CE (X.blk s H scope (compEnvC scope cl C X.env) fp) elt fe) (hs : ∀ x, foldedSetIterable it X.env x = pure x := by intro _; rfl) :
    CS X (.Assign [.Name y py] (.ListComp elt [⟨tg, it, ifs, 0⟩] scope pos) spos) (sAsg (eLc fi g ft fe (own.map (·.2))) (nName i)) := by
  obtain ⟨wi, hi, si⟩ := hi
  refine ⟨_, ps_setLc (g := TGof X.K gown g) (tt := TTof X.K ft) (te := TEof X.K fe) hc hN hy hyl hsw hi ok (fun s H C cl fp => (hg s H C cl fp).pg) (fun s H C cl fp => (ht s H C cl fp).pts) (fun s H C cl fp => (he s H C cl fp).pe) hs, fun D0 σ S Dv sv H re rs q k => ?_⟩
  refine snd_lc hsub si σ S _ sv H _ re rs q fun v d S1 H1 s1 r1 v1 q1 => ?_
  exact k.nx _ _ _ _ s1 r1 ((re.mono s1.tx).set v1) q1
/-! ### names of the module -/
theorem c_globS {x : Str} {z : Str} (h : ∃ t, X.mg x = some (.str z t)) (hg : Gl X x := by rfl) (hd : (x == ("__debug__" : Str)) = false := by decide) : CE X (.Name x pos) (eC (.str z)) :=
  let ⟨t, h⟩ := h; c_glob (v := .str z) hg h ⟨t, rfl⟩ (fun _ => .str z) hd
theorem c_globI {x : Str} {z : Int} (h : ∃ t, X.mg x = some (.int z t)) (hg : Gl X x := by rfl) (hd : (x == ("__debug__" : Str)) = false := by decide) : CE X (.Name x pos) (eC (.int z)) :=
  let ⟨t, h⟩ := h; c_glob (v := .int z) hg h ⟨t, rfl⟩ (fun _ => .int z) hd
end
/-- a def of the module, by its name -/
structure Okf (P : Program) (w : World) (K : PySem.W.Frag) (mg : Str → Option Value) (base : Heap) (k : Nat) (x : Str) (n : Nat) (m : MF) : Prop where
  ex : ∃ (f : Addr) (fd : FuncData) (ps : List Str), ps.length = n ∧ FnOk P w K mg base CX0 k f fd ps (spD K n m) ∧ mg x = some (.ref f) ∧ PySem.W.keepIn K (.ref f) = true ∧ Binds K fd ps []
structure FT (K : PySem.W.Frag) (mg : Str → Option Value) (x : Str) (st : Stmt) (ps : List Str) : Prop where
  ex : ∃ (f : Addr) (fd : FuncData), Fun K x x st f fd ∧ Binds K fd ps [] ∧ mg x = some (.ref f)
section
variable {X : Cx} {a : Expr} {es : List Expr} {fs : DA} {pos : Pos}
theorem c_fn {k j n : Nat} {m : MF} {x : Str} {p : Pos} (hr : Room j X.A) (F : Okf X.prog X.w X.K X.mg X.base k x n m) (hk : k ≤ j) (ha : CA X (a :: es) fs) (hg : Gl X x := by rfl)
    (hdb : (x == ("__debug__" : Str)) = false := by decide) (he : starEach (a :: es) X.env = (false, eval a X.env) :: starEach es X.env := by rfl) (hpl : (backTo pos (starEach es X.env)).any (·.1) = false := by rfl) :
    CE X (.Call (.Name x p) (a :: es) [] pos) (eCall n m fs) := by
  obtain ⟨f, fd, ps, hl, F, hm, hk2, hb⟩ := F
  exact c_call (hr.mono hk) F hg hm hk2 hb ha hdb he hpl
theorem okf_of {P : Program} {w : World} {K : PySem.W.Frag} {mg : Str → Option Value} {base : Heap} {x : Str} {st : Stmt} {N ps : List Str} {k : Nat} {b : DS} {m : MF} (T : FT K mg x st ps) (Sc : FnScope N ps (defScope st)) (hm : ∀ ds S Q, m ds S Q = b (endsD Q) (startD N.length ds) S)
    (h : ∀ (f : Addr) (cdv : Value) (A : Around) (outer : List PySem.Env) (s : Shared) (H : Hp) (E : XK), Room k (A.deeper (envOfC x (defScope st) s.heap.objs.size f cdv)) → CSs (cxOf CX0 P w K mg base N x (defScope st) f cdv A outer s H E).nox (defBody st) b) :
    Okf P w K mg base (k + 1) x ps.length m := by
  obtain ⟨f, fd, F, B, g⟩ := T
  have e : m = fun ds S Q => b (endsD Q) (startD N.length ds) S := funext fun ds => funext fun S => funext fun Q => hm ds S Q
  rw [e]
  exact ⟨f, fd, ps, rfl, def_ok F Sc (h f), g, F.kp, B⟩
end
/-! ### the law -/
theorem fr_of {K : PySem.W.Frag} {H : Hp} {a : Addr} {vs : List V} (o : Only H) (h : SqL K H a vs) : FrL K H a vs := by
  rcases h with (h | h) | h
  · rcases o a with z | ⟨ob, xs, z⟩ <;> rw [h] at z <;> cases z
  · exact .inl h
  · exact .inr h
theorem law_sp {K : PySem.W.Frag} {m : MF} {n : Nat} (h : ∀ ns : List Int, ns.length ≤ n → m [.fl (ns.map .int)] (fun _ => none) (fun d _ => d = .bl true)) (H : Hp) (a : Addr) (ns : List Int) (hl : ns.length ≤ n) (o : Only H) (hS : SqL K H a (ns.map V.int)) :
    spD K 1 m [.ref a] H (fun v _ => v = .bl true) fun _ _ _ => False := by
  refine ⟨rfl, [.fl (ns.map .int)], fun _ => none, fun d _ => d = .bl true, .cons (.fl (fr_of o hS) ints_reps) .nil, (fun _ _ z => nomatch z), h ns hl, fun v d S' H' _ _ r e => ?_⟩
  subst e
  cases r
  rfl
end DL
namespace DL
open PySem PySem.Spec PyProof.Rows L2
section
variable {X : Cx} {K : PySem.W.Frag} {e a b c : Expr} {es : List Expr} {fe fa fb fc : DE} {ft fu : DT} {fs : DA} {pos : Pos} {S S1 S' : Sto} {H H1 H' : Hp}
/-! ### a list or a tuple times a number -/
def gMulA : G2 := fun x y S Q => match x, y with
  | .int i, .int j => CMulW i j ∧ Q (.int (i * j)) S
  | .ref p, .int k => ∃ xs, S p = some (.lst xs) ∧ -(2 ^ 63) ≤ k ∧ k < 2 ^ 63 ∧ xs.length * k.toNat ≤ sizeLine ∧ ∀ n, S n = none → Q (.ref n) (updS S n (.lst (List.replicate k.toNat xs).flatten))
  | .tup xs, .int k => xs ≠ [] ∧ 2 ≤ k ∧ k ≤ 1000 ∧ xs.length ≤ 1000 ∧ Q (.tup (List.replicate k.toNat xs).flatten) S
  | _, _ => False
theorem reps_rep {vs : List V} {ds : List D} (r : Reps K H vs ds) : ∀ k : Nat, Reps K H (List.replicate k vs).flatten (List.replicate k ds).flatten
  | 0 => .nil
  | k + 1 => by
    rw [List.replicate_succ, List.replicate_succ, List.flatten_cons, List.flatten_cons]
    exact r.append (reps_rep r k)
theorem c_mulA (ha : CE X a fa) (hb : CE X b fb) : CE X (.BinOp a .Mult b pos) (eOp gMulA fa fb) := by
  obtain ⟨ta, ha, sa⟩ := ha
  obtain ⟨tb, hb, sb⟩ := hb
  refine ⟨_, pe_op (OpR.or op_mulW (OpR.or op_rep op_repT)) ha hb, snd_op (fun x y d d2 S H Q Kt s rx ry q k => ?_) sa sb⟩
  cases rx with
  | int i =>
    cases ry <;> try exact False.elim q
    exact .inl ⟨_, _, rfl, rfl, q.1, k.now s (.int _) q.2⟩
  | ref p =>
    cases ry <;> try exact False.elim q
    obtain ⟨xs, e, h1, h2, hz, q⟩ := q
    obtain ⟨vs, e1, r⟩ := s _ _ e
    exact .inr (.inl ⟨_, _, vs, rfl, rfl, e1, h1, h2, by rw [r.length]; exact hz, new_lst s (reps_rep r _) k q⟩)
  | @tup p vs ds h r =>
    cases ry <;> try exact False.elim q
    obtain ⟨h0, h1, h2, h3, q⟩ := q
    refine .inr (.inr ⟨_, _, vs, rfl, rfl, h, fun z => h0 ?_, h1, h2, by rw [r.length]; exact h3, fun n hn => ?_⟩)
    · subst z
      cases r
      rfl
    · obtain ⟨st, sr⟩ := stp_tup (vs := (List.replicate (Int.toNat _) vs).flatten) s hn
      exact k _ _ _ _ st sr (.tup (.inl (.inl upd_same)) (reps_rep (r.mono st.tx) _)) q
  | _ => exact False.elim q
/-! ### a, b = a tuple or a list -/
def nTupL (n : Nat) (gs : List D → Env → Sto → (Env → Sto → Prop) → Prop) : DG := fun d σ S Q => match d with
  | .tup ds => ds.length = n ∧ gs ds σ S Q
  | .ref p => ∃ ds, S p = some (.lst ds) ∧ ds.length = n ∧ gs ds σ S Q
  | _ => False
theorem PG.or {tg : Expr} {t t' : TG} (h : PG X tg t) (h' : PG X tg t') : PG X tg (fun v sv H Q => t v sv H Q ∨ t' v sv H Q) := ⟨fun pins s sv H v u Q I r q => by
  rcases q with q | q
  · exact h.run pins s sv H v u Q I r q
  · exact h'.run pins s sv H v u Q I r q⟩
theorem g_tupL {ts : List Expr} {k : Nat} {own : List Nat} {gs : List D → Env → Sto → (Env → Sto → Prop) → Prop} {n : Nat} (hc : X.calm = true) (h : CGs X ts own gs) (hn : (assignEach ts X.env).length = n := by rfl) (hst : (assignEach ts X.env).findIdx? (·.1) = none := by rfl) :
    CG X (.Tuple ts k pos) own (nTupL n gs) := by
  obtain ⟨t, p, s⟩ := h
  refine ⟨_, PG.or (pg_tup hc p hn hst) (pg_unl hc p hn hst), fun v d σ S Q sv H Kt rv re rs q k => ?_⟩
  cases rv with
  | @tup a vs ds h r => exact .inl ⟨a, vs, rfl, h, by rw [r.length]; exact q.1, s vs ds σ S Q sv H Kt r re rs q.2 k⟩
  | ref a =>
    obtain ⟨ds, e, hl, q⟩ := q
    obtain ⟨vs, e1, r⟩ := rs _ _ e
    exact .inr ⟨a, vs, rfl, .inl (.inl e1), by rw [r.length]; exact hl, s vs ds σ S Q sv H Kt r re rs q k⟩
  | _ => exact False.elim q
/-! ### sorted of numbers -/
def gSorted : GN := fun xs S Q => match xs with
  | [.ref p] => (∃ ns : List Int, S p = some (.lst (ns.map .int)) ∧ ∀ ns' : List Int, ns'.Perm ns → ns'.Pairwise (· ≤ ·) → ∀ n, S n = none → Q (.ref n) (updS S n (.lst (ns'.map .int)))) ∨
      ∃ ns : List Str, S p = some (.lst (ns.map .str)) ∧ ns.length < 64 ∧ ∀ ns' : List Str, ns'.Perm ns → sortedS ns' = true → ∀ n, S n = none → Q (.ref n) (updS S n (.lst (ns'.map .str)))
  | _ => False
theorem b_sorted : CB X "sorted" gSorted := by
  refine ⟨_, L2.CallR.or cr_sortedI cr_sortedS, fun xs as S H Q Kt s r q k => ?_⟩
  match as, q with
  | [.ref p], q =>
    obtain ⟨v, rfl, rv⟩ := reps1 r
    cases rv
    rcases q with ⟨ns, e, q⟩ | ⟨ns, e, hl, q⟩
    · obtain ⟨vs, e1, r⟩ := s _ _ e
      rw [reps_ints r] at e1
      exact .inl ⟨p, ns, rfl, .inl (.inl e1), fun ns' n hp hs => new_lst s ints_reps k (q ns' hp hs) n⟩
    · obtain ⟨vs, e1, r⟩ := s _ _ e
      rw [reps_strs r] at e1
      exact .inr ⟨p, ns, rfl, .inl (.inl e1), hl, fun ns' n hp hs => new_lst s strs_reps k (q ns' hp hs) n⟩
/-! ### zip of two lists, of two tuples; enumerate of a list -/
def pairs (xs ys : List D) : List D := (xs.zip ys).map fun p => .tup [p.1, p.2]
def iZipD (fs : DA) : DI := fun σ S Q => fs σ S fun ds S1 => match ds with
  | [.ref p, .ref q] => ∃ xs ys, S1 p = some (.lst xs) ∧ S1 q = some (.lst ys) ∧ Q (pairs xs ys) (fun S => S p = some (.lst xs) ∧ S q = some (.lst ys)) S1
  | [.tup xs, .tup ys] => Q (pairs xs ys) (fun _ => True) S1
  | _ => False
theorem pairs_get {xs ys : List D} {i : Nat} {d : D} (h : (pairs xs ys)[i]? = some d) : ∃ x y, xs[i]? = some x ∧ ys[i]? = some y ∧ d = .tup [x, y] := by
  unfold pairs at h
  rw [List.getElem?_map] at h
  cases hz : (xs.zip ys)[i]? with
  | none => rw [hz] at h; cases h
  | some p =>
    rw [hz] at h
    cases h
    obtain ⟨h1, h2⟩ := List.getElem?_zip_eq_some.mp hz
    exact ⟨p.1, p.2, h1, h2, rfl⟩
theorem itok_zip {p q : Addr} {xs ys : List D} : ItOk K H1 (Itz K p q) (pairs xs ys) (fun S => S p = some (.lst xs) ∧ S q = some (.lst ys)) := fun S H s tx st => by
  obtain ⟨vs, e1, r1⟩ := s _ _ st.1
  obtain ⟨us, e2, r2⟩ := s _ _ st.2
  have q1 : SqL K H p vs := .inl (.inl e1)
  have q2 : SqL K H q us := .inl (.inl e2)
  refine ⟨fun i d hi => ?_, ⟨vs, us, q1, q2, ?_⟩⟩
  · obtain ⟨x, y, hx, hy, rfl⟩ := pairs_get hi
    obtain ⟨v, ev, rv⟩ := r1.get hx
    obtain ⟨u, eu, ru⟩ := r2.get hy
    refine ⟨⟨vs, us, v, u, q1, q2, ev, eu⟩, fun z H' hz => ?_⟩
    obtain ⟨T, x1, y1, rfl, nT, rfl, g1, g2⟩ := hz
    have a1 := g1 vs q1
    have a2 := g2 us q2
    rw [ev] at a1
    rw [eu] at a2
    cases a1
    cases a2
    obtain ⟨sp, sr⟩ := stp_tup (vs := [v, u]) s nT
    exact ⟨sp, sr, .tup (.inl (.inl upd_same)) (.cons (rv.mono sp.tx) (.cons (ru.mono sp.tx) .nil))⟩
  · have l1 := r1.length
    have l2 := r2.length
    have l3 : (pairs xs ys).length = min xs.length ys.length := by simp [pairs]
    rw [l3]
    omega
theorem itok_zipT {p q : Addr} {vs us : List V} {xs ys : List D} (h1 : SqT K H1 p vs) (h2 : SqT K H1 q us) (r1 : Reps K H1 vs xs) (r2 : Reps K H1 us ys) : ItOk K H1 (RZ.ItzT K p q) (pairs xs ys) (fun _ => True) := fun S H s tx st => by
  have q1 := tx.tup _ _ h1
  have q2 := tx.tup _ _ h2
  have r1 := r1.mono tx
  have r2 := r2.mono tx
  refine ⟨fun i d hi => ?_, ⟨vs, us, q1, q2, ?_⟩⟩
  · obtain ⟨x, y, hx, hy, rfl⟩ := pairs_get hi
    obtain ⟨v, ev, rv⟩ := r1.get hx
    obtain ⟨u, eu, ru⟩ := r2.get hy
    refine ⟨⟨vs, us, v, u, q1, q2, ev, eu⟩, fun z H' hz => ?_⟩
    obtain ⟨T, x1, y1, rfl, nT, rfl, g1, g2⟩ := hz
    have a1 := g1 vs q1
    have a2 := g2 us q2
    rw [ev] at a1
    rw [eu] at a2
    cases a1
    cases a2
    obtain ⟨sp, sr⟩ := stp_tup (vs := [v, u]) s nT
    exact ⟨sp, sr, .tup (.inl (.inl upd_same)) (.cons (rv.mono sp.tx) (.cons (ru.mono sp.tx) .nil))⟩
  · have l1 := r1.length
    have l2 := r2.length
    have l3 : (pairs xs ys).length = min xs.length ys.length := by simp [pairs]
    rw [l3]
    omega
theorem i_zip {p tpos : Pos} {elts : List Expr} {kk : Nat} (hg : Gl X "zip") (hm : X.mg "zip" = none) (ha : CA X [a, b] fs) (hs : starEach [a, b] X.env = (false, eval a X.env) :: starEach [b] X.env := by rfl) (hpl : (backTo pos (starEach [b] X.env)).any (·.1) = false := by rfl) :
    CI X (.Tuple elts kk tpos) (.Call (.Name "zip" p) [a, b] [] pos) (iZipD fs) := by
  obtain ⟨ta, ha, sa⟩ := ha
  refine ⟨_, RZ.pi_zipA hg hm ha hs hpl, fun σ S Q sv H R re rs q k => sa σ S _ sv H _ re rs q fun vs ds S1 H1 s1 r1 v1 q1 => ?_⟩
  match ds, q1 with
  | [.ref p, .ref q], q1 =>
    obtain ⟨v, v2, rfl, rv, rv2⟩ := reps2 v1
    cases rv
    cases rv2
    obtain ⟨xs, ys, e1, e2, q1⟩ := q1
    obtain ⟨vs, h1, _⟩ := r1 _ _ e1
    obtain ⟨us, h2, _⟩ := r1 _ _ e2
    exact ⟨p, q, vs, us, rfl, .inl ⟨.inl (.inl h1), .inl (.inl h2), k _ _ _ _ _ s1 r1 itok_zip q1⟩⟩
  | [.tup xs, .tup ys], q1 =>
    obtain ⟨v, v2, rfl, rv, rv2⟩ := reps2 v1
    cases rv with
    | tup h1 r =>
      cases rv2 with
      | tup h2 r' => exact ⟨_, _, _, _, rfl, .inr ⟨h1, h2, k _ _ _ _ _ s1 r1 (itok_zipT h1 h2 r r') q1⟩⟩
def enumD (xs : List D) : List D := xs.mapIdx fun i x => .tup [.int (i : Nat), x]
def iEnumD (fs : DA) : DI := fun σ S Q => fs σ S fun ds S1 => match ds with
  | [.ref p] => ∃ xs, S1 p = some (.lst xs) ∧ Q (enumD xs) (fun S => S p = some (.lst xs)) S1
  | _ => False
theorem itok_enum {p : Addr} {xs : List D} : ItOk K H1 (Ite K p) (enumD xs) (fun S => S p = some (.lst xs)) := fun S H s tx st => by
  obtain ⟨vs, e1, r1⟩ := s _ _ st
  have q1 : SqL K H p vs := .inl (.inl e1)
  refine ⟨fun i d hi => ?_, ⟨vs, q1, by rw [r1.length]; simp [enumD]⟩⟩
  unfold enumD at hi
  rw [List.getElem?_mapIdx] at hi
  cases hx : xs[i]? with
  | none => rw [hx] at hi; cases hi
  | some x =>
    rw [hx] at hi
    cases hi
    obtain ⟨v, ev, rv⟩ := r1.get hx
    refine ⟨⟨vs, v, q1, ev⟩, fun z H' hz => ?_⟩
    obtain ⟨T, x1, rfl, nT, rfl, g1⟩ := hz
    have a1 := g1 vs q1
    rw [ev] at a1
    cases a1
    obtain ⟨sp, sr⟩ := stp_tup (vs := [V.int (i : Nat), v]) s nT
    exact ⟨sp, sr, .tup (.inl (.inl upd_same)) (.cons (.int _) (.cons (rv.mono sp.tx) .nil))⟩
theorem i_enum {p tpos : Pos} {elts : List Expr} {kk : Nat} (hg : Gl X "enumerate") (hm : X.mg "enumerate" = none) (ha : CA X [a] fs) (hs : starEach [a] X.env = [(false, eval a X.env)] := by rfl) :
    CI X (.Tuple elts kk tpos) (.Call (.Name "enumerate" p) [a] [] pos) (iEnumD fs) := by
  obtain ⟨ta, ha, sa⟩ := ha
  refine ⟨_, pi_enum hg hm ha hs, fun σ S Q sv H R re rs q k => sa σ S _ sv H _ re rs q fun vs ds S1 H1 s1 r1 v1 q1 => ?_⟩
  match ds, q1 with
  | [.ref p], q1 =>
    obtain ⟨v, rfl, rv⟩ := reps1 v1
    cases rv
    obtain ⟨xs, e, q1⟩ := q1
    obtain ⟨vs, e1, r⟩ := r1 _ _ e
    exact ⟨p, vs, rfl, .inl (.inl e1), k _ _ _ _ _ s1 r1 itok_enum q1⟩
/-! ### int and str of texts and numbers -/
def gStr : GN := fun xs S Q => match xs with
  | [.int i] => i.natAbs.log2 < 1920 ∧ Q (.str (toString i)) S
  | _ => False
theorem y_str : CY X "str" gStr := by
  refine ⟨_, call_str_int, fun xs as S H Q Kt s r q k => ?_⟩
  match as, q with
  | [.int i], q =>
    obtain ⟨v, rfl, rv⟩ := reps1 r
    cases rv
    exact ⟨i, rfl, q.1, k.now s (.str _) q.2⟩
end
end DL
namespace DL
open PySem PySem.Spec PyProof.Rows L2
section
variable {X : Cx} {K : PySem.W.Frag} {e a b c : Expr} {es : List Expr} {fe fa fb fc : DE} {ft fu : DT} {fs : DA} {pos : Pos} {S S1 S' : Sto} {H H1 H' : Hp}
/-! ### x < y of numbers, texts, tuples -/
def gLt2 : G2 := fun x y S Q => match x, y with
  | .int i, .int j => Q (.bl (decide (i < j))) S
  | .str i, .str j => Q (.bl (decide (i.cps.toList < j.cps.toList))) S
  | .tup xs, .tup ys => ∃ p q, PDs S xs p ∧ PDs S ys q ∧ PySem.W.alikeAll p q = true ∧ (PyData.tuple p).depth ≤ 64 ∧ Q (.bl (PySem.W.dataLt (.tuple p) (.tuple q))) S
  | _, _ => False
def rLtP (K : PySem.W.Frag) : R2 := fun x y H Q => ∃ d e, Dp K H x d ∧ Dp K H y e ∧ PySem.W.alike d e = true ∧ d ≠ .none ∧ d.depth ≤ 64 ∧ Q (.bl (PySem.W.dataLt d e)) H
theorem opLtP (hu : X.A.units + 64 < cLine) : OpR X (compareOp .Lt) (rLtP X.K) := fun pins s σ H x y v u Q I rx ry ⟨d, e, hd, he, ha, hn, hz, q⟩ => by
  have ⟨as, r1⟩ := hd.reads I d x v rx
  have ⟨bs, r2⟩ := he.reads I e y u ry
  exact PySem.W.rcLt_alike d e X.A s v u as bs r1 r2 ha hn (by omega) _ _ _ _ ⟨.bl _, H, I, rfl, q⟩
theorem o_lt2 (hu : X.A.units + 64 < cLine) : CO X .Lt gLt2 := by
  refine ⟨_, OpR.or (OpR.or op_lt op_lt_str) (opLtP hu), fun x y a b S H Q Kt s ra rb q k => ?_⟩
  cases ra with
  | int i =>
    cases rb <;> try exact False.elim q
    exact .inl (.inl ⟨_, _, rfl, rfl, k.now s (.bl _) q⟩)
  | str i =>
    cases rb <;> try exact False.elim q
    exact .inl (.inr ⟨_, _, rfl, rfl, k.now s (.bl _) q⟩)
  | @tup p1 vs1 ds1 h1 r1 =>
    cases rb with
    | @tup p2 vs2 ds2 h2 r2 =>
      obtain ⟨p, e, h3, h4, h5, h6, q⟩ := q
      refine .inr ⟨.tuple p, .tuple e, PD.dp s (.tup h3) (.tup h1 r1), PD.dp s (.tup h4) (.tup h2 r2), ?_, (fun z => by cases z), h6, k.now s (.bl _) q⟩
      unfold PySem.W.alike
      exact h5
    | _ => exact False.elim q
  | _ => exact False.elim q
/-! ### d.get(k, x) of a dict of the store -/
def eGet2 (fo fe ff : DE) : DE := fun σ S Q => fo σ S fun o S1 => match o with
  | .ref p => (∃ kvs, S1 p = some (.dk kvs)) ∧ fe σ S1 fun y S2 => ff σ S2 fun z S3 => ∃ kvs k, S3 p = some (.dk kvs) ∧ toKey y = some k ∧ Q ((valD kvs k).getD z) S3
  | _ => False
theorem c_get2 {o f : Expr} {apos : Pos} {fo ff : DE} (hu : X.A.units + 1 < cLine) (ho : CE X o fo) (he : CE X e fe) (hf : CE X f ff) (m : M2 X o "get" apos e f pos := by exact ⟨rfl, rfl, rfl, rfl⟩) :
    CE X (.Call (.Attribute o "get" apos) [e, f] [] pos) (eGet2 fo fe ff) := by
  obtain ⟨to, ho, so⟩ := ho
  obtain ⟨te, he, se⟩ := he
  obtain ⟨tf, hf, sf⟩ := hf
  refine ⟨_, pe_dget2 hu ho he hf m, fun σ S Q sv H Kt re rs q k => so σ S _ sv H _ re rs q fun v d S1 H1 s1 r1 v1 q1 => ?_⟩
  cases v1 with
  | ref p =>
    obtain ⟨⟨kvs, e0⟩, q1⟩ := q1
    obtain ⟨ws, e3, _⟩ := r1 _ _ e0
    refine ⟨p, rfl, .inl ⟨_, .inl e3⟩, ?_⟩
    refine se σ S1 _ sv H1 _ (re.mono s1.tx) r1 q1 fun u d2 S2 H2 s2 r2 v2 q2 => ?_
    refine sf σ S2 _ sv H2 _ (re.mono (s1.trans s2).tx) r2 q2 fun z d3 S3 H3 s3 r3 v3 q3 => ?_
    obtain ⟨kvs3, kk, e4, e5, q3⟩ := q3
    obtain ⟨ws3, e6, r6⟩ := r3 _ _ e4
    have hk := key_rep (v2.mono s3.tx) e5
    rcases kreps_val kk r6 with ⟨z1, z2⟩ | ⟨v4, d4, z1, z2, rv⟩
    · refine ⟨none, ?_, k _ _ _ _ ((s1.trans s2).trans s3) r3 v3 (by rw [z2] at q3; exact q3)⟩
      rw [hk, ← z1]
      exact .k e6
    · refine ⟨some v4, ?_, k _ _ _ _ ((s1.trans s2).trans s3) r3 rv (by rw [z2] at q3; exact q3)⟩
      rw [hk, ← z1]
      exact .k e6
  | _ => exact False.elim q1
/-! ### a dict of the module with text keys -/
def TabV (K : PySem.W.Frag) (a : Addr) : List (Str × Int) → Prop
  | [] => True
  | q :: r => (∃ t, PySem.W.nsIn K a q.1 = some (some (.int q.2 t))) ∧ TabV K a r
theorem TabV.mem {K : PySem.W.Frag} {a : Addr} : ∀ {tab : List (Str × Int)}, TabV K a tab → ∀ q ∈ tab, ∃ t, PySem.W.nsIn K a q.1 = some (some (.int q.2 t))
  | _ :: _, ⟨h, t⟩, q, hq => by
    rcases List.mem_cons.mp hq with rfl | hq
    · exact h
    · exact t.mem q hq
structure TabC (K : PySem.W.Frag) (w : World) (mg : Str → Option Value) (x : Str) (tab : List (Str × Int)) : Prop where
  ex : ∃ (a : Addr) (es : Array DictEntry) (n : Nat), mg x = some (.ref a) ∧ KDict K w a es n ∧ TabV K a tab
def tabAt (tab : List (Str × Int)) (z : Str) : Option Int := (tab.find? fun q => decide (q.1 = z)).map (·.2)
def eTab (tab : List (Str × Int)) (fe : DE) : DE := fun σ S Q => fe σ S fun y S1 => match y with
  | .str z => ∃ i, tabAt tab z = some i ∧ Q (.int i) S1
  | _ => False
theorem tabAt_mem {tab : List (Str × Int)} {z : Str} {i : Int} (h : tabAt tab z = some i) : (z, i) ∈ tab := by
  unfold tabAt at h
  obtain ⟨q, h1, h2⟩ := Option.map_eq_some_iff.mp h
  have h3 := List.mem_of_find?_eq_some h1
  have h4 : q.1 = z := by simpa using List.find?_some h1
  rw [← h4, ← h2]
  exact h3
def tTabV (K : PySem.W.Frag) (a : Addr) (te : TE) : TE := fun σ H Q => te σ H fun y H1 => ∃ z u0 v0, y = .str z ∧ PySem.W.nsIn K a z = some (some u0) ∧ RelV v0 u0 ∧ Q v0 H1
theorem c_tab {x : Str} {p : Pos} {tab : List (Str × Int)} (T : TabC X.K X.w X.mg x tab) (he : CE X e fe) (hs : NoSl e := by intro _ _; rfl) (hg : Gl X x := by rfl) (hd : (x == ("__debug__" : Str)) = false := by decide) :
    CE X (.Subscript (.Name x p) e pos) (eTab tab fe) := by
  obtain ⟨te, he, se⟩ := he
  obtain ⟨a, es, n, hm, D, ht⟩ := T
  have hp : PE X (.Name x p) _ := pe_glob hg hm (v := .ref a) rfl hd
  refine ⟨tTabV X.K a te, ⟨fun pins s σ H Q I h => ?_⟩, fun σ S Q sv H Kt re rs q k => ?_⟩
  · refine subD_of PySem.F.slot_dict_getitem.lookup hs (thn (hp.run pins s σ H (fun x H1 => x = .ref a ∧ tTabV X.K a te σ H1 Q) I ⟨rfl, h⟩) fun u s1 ⟨x, H1, I1, rx, ex, q1⟩ => thn (he.run pins s1 σ H1 _ I1 q1) fun iv s2 ⟨y, H2, I2, ry, z, u0, v0, ey, en, rv, q2⟩ => ?_)
    subst ex
    have eu : u = Value.ref a := rx
    subst eu
    exact ⟨kd_type D I2, op_item_kd D pins s2 σ H2 (.ref a) y (.ref a) iv Q I2 rfl ry ⟨z, u0, v0, rfl, ey, en, rv, q2⟩⟩
  · refine se σ S _ sv H _ re rs q fun v d S1 H1 s1 r1 v1 q1 => ?_
    cases v1 with
    | str z =>
      obtain ⟨i, hi, q1⟩ := q1
      obtain ⟨t, ht⟩ := ht.mem _ (tabAt_mem hi)
      exact ⟨z, _, .int i, rfl, ht, ⟨t, rfl⟩, k _ _ _ _ s1 r1 (.int i) q1⟩
    | _ => exact False.elim q1
end
end DL
namespace DL
open PySem PySem.Spec PyProof.Rows L2
/-! ### sorted by a key that a def of the module gives -/
/-- all objects as they were, but for the slots of those in fs -/
def Sl (fs : List Addr) (h h' : Heap) : Prop := ∀ b o, h.get? b = some o → ∃ sl, h'.get? b = some { o with slots := sl } ∧ (b ∉ fs → sl = o.slots)
theorem Sl.refl {fs : List Addr} {h : Heap} : Sl fs h h := fun b o e => ⟨o.slots, e, fun _ => rfl⟩
theorem Sl.trans {fs : List Addr} {h h1 h2 : Heap} (x : Sl fs h h1) (y : Sl fs h1 h2) : Sl fs h h2 := fun b o e => by
  obtain ⟨sl, e1, k1⟩ := x b o e
  obtain ⟨sl2, e2, k2⟩ := y b _ e1
  exact ⟨sl2, e2, fun hb => (k2 hb).trans (k1 hb)⟩
theorem Sl.keep {fs : List Addr} {h h' : Heap} (x : Sl fs h h') {b : Addr} {o : Obj} (e : h.get? b = some o) (hb : b ∉ fs) : h'.get? b = some o := by
  obtain ⟨sl, e1, k1⟩ := x b o e
  rw [k1 hb] at e1
  exact e1
structure SK (fs : List Addr) (s s' : Shared) : Prop where
  os : s'.os = s.os
  bare : AllBare s'.gens
  sl : Sl fs s.heap s'.heap
/-- as SK, but for the objects at a and kS -/
structure SB (fs : List Addr) (a kS : Addr) (s s' : Shared) : Prop where
  os : s'.os = s.os
  bare : AllBare s'.gens
  sl : ∀ b o, b ≠ a → b ≠ kS → s.heap.get? b = some o → ∃ sl, s'.heap.get? b = some { o with slots := sl } ∧ (b ∉ fs → sl = o.slots)
theorem SB.step {fs : List Addr} {a kS : Addr} {s s1 s2 : Shared} (x : SB fs a kS s s1) (y : SK fs s1 s2) : SB fs a kS s s2 :=
  ⟨y.os.trans x.os, y.bare, fun b o ha hk e => by
    obtain ⟨sl, e1, k1⟩ := x.sl b o ha hk e
    obtain ⟨sl2, e2, k2⟩ := y.sl b _ e1
    exact ⟨sl2, e2, fun hb => (k2 hb).trans (k1 hb)⟩⟩
theorem SB.put {fs : List Addr} {a kS : Addr} {s s1 : Shared} {h : Heap} {t : Nat} (x : SB fs a kS s s1) (y : ∀ b, b ≠ kS → h.get? b = s1.heap.get? b) : SB fs a kS s { s1 with heap := h, toks := t } :=
  ⟨x.os, x.bare, fun b o ha hk e => by
    obtain ⟨sl, e1, k1⟩ := x.sl b o ha hk e
    exact ⟨sl, (y b hk).trans e1, k1⟩⟩
mutual
theorem reads_sl {h h' : Heap} (k : ∀ b o, h.get? b = some o → o.cls = .type "tuple" → ∃ sl, h'.get? b = some { o with slots := sl }) : ∀ (d : PyData) (v : Value) (as : List Addr), PySem.W.alike d d = true → Reads h v d as → as = [] → Reads h' v d as
  | .none, _, _, _, r, _ => by cases r; exact .none
  | .bool _, _, _, _, r, _ => by cases r; exact .bool _
  | .int _, _, _, _, r, _ => by cases r; exact .int _ _
  | .str _, _, _, _, r, _ => by cases r; exact .str _ _
  | .list xs, _, _, hal, r, hn => by
    cases r with
    | list h1 h2 h3 h4 => cases hn
  | .tuple xs, _, _, hal, r, hn => by
    cases r with
    | @tuple b o vs n _ _ h1 h2 h3 h4 =>
      obtain ⟨sl, e⟩ := k _ _ h1 h2
      exact .tuple e h2 h3 (readsAll_sl k xs _ _ (by simpa [PySem.W.alike] using hal) h4 hn)
  | .dict _, _, _, hal, _, _ => absurd hal (by simp [PySem.W.alike])
theorem readsAll_sl {h h' : Heap} (k : ∀ b o, h.get? b = some o → o.cls = .type "tuple" → ∃ sl, h'.get? b = some { o with slots := sl }) : ∀ (ds : List PyData) (vs : List Value) (as : List Addr), PySem.W.alikeAll ds ds = true → ReadsAll h vs ds as → as = [] → ReadsAll h' vs ds as
  | [], _, _, _, r, _ => by cases r; exact .nil
  | d :: ds, _, _, hal, r, hn => by
    cases r with
    | cons h1 h2 =>
      rw [List.append_eq_nil_iff] at hn
      obtain ⟨n1, n2⟩ := hn
      exact .cons (reads_sl k d _ _ (PySem.W.alike_all_cons hal).1 h1 n1) (readsAll_sl k ds _ _ (PySem.W.alike_all_cons hal).2 h2 n2)
end
def cutH (h : Heap) (n : Nat) : Heap := { h with objs := h.objs.extract 0 n }
theorem cutH_lt {h : Heap} {n b : Nat} (hb : b < n) : (cutH h n).get? b = h.get? b := by
  unfold cutH Heap.get?
  have e : (h.objs.extract 0 n)[b]? = h.objs[b]? := by
    rw [Array.getElem?_extract]
    simp
    intro h2
    omega
  simp only [e]
theorem cutH_ge {h : Heap} {n b : Nat} (hb : n ≤ b) : (cutH h n).get? b = none := by
  unfold cutH Heap.get?
  have e : (h.objs.extract 0 n)[b]? = none := by
    rw [Array.getElem?_eq_none_iff, Array.size_extract]
    omega
  simp only [e]
section
open PySem.W
variable {prog : Program} {w : World} {A : Around} {E : Value → Shared → Prop} {s s0 : Shared} {a kS : Addr} {b : Bool} {vs : List Value} {e1 : Nat} {P : PySem.Fin → Shared → Prop} {kz : List PyData} {fs : List Addr}
theorem keyS_rest {f : Value} (sb : SB fs a kS s0 s) (nk : s.heap.get? kS = some (seqObj "list" #[] 0)) (na : s.heap.get? a = some (seqObj "list" #[] e1)) (hka : kS ≠ a) (hkf : kS ∉ fs) (haf : a ∉ fs)
    (hlen : kz.length = vs.length) (hZ : vs.length ≤ sizeLine) (hal : AllAlike kz) (hsk : Sortable kz) (hu : ∀ d, d ∈ kz → A.units + d.depth < cLine) (hfresh : s0.heap.objs.size ≤ kS)
    (turn : ∀ (i : Nat) (v : Value) (k : PyData), vs[i]? = some v → kz[i]? = some k → ∀ s1, SB fs a kS s0 s1 → (∃ o, s1.heap.get? a = some o) →
      wpAny (model prog w) A (call f [v]) (fun u s2 => SK fs s1 s2 ∧ Reads s2.heap u k []) (fun _ _ => False) s1)
    (h : ∀ s' out c, SB fs a kS s0 s' → s'.heap.get? a = some (seqObj "list" (List.toArray out) c) → KeyedOut b kz vs out → P (.done (.ret .none)) s') :
    wpAny (model prog w) A (ksk_rest a f b vs.toArray e1 (.ref kS)) P E s := by
  unfold ksk_rest
  refine wpAny_bind (wpAny_rule ?_)
  first
    | rw [List.forIn_toArray]
    | (rw [← Array.forIn_toList]; simp only [List.toList_toArray])
    | rw [← Array.forIn_toList]
  refine wpAny_bind (ksk_fold (fun i s' => SB fs a kS s0 s' ∧ ∃ kA e, s'.heap.get? kS = some (seqObj "list" kA e) ∧ s'.heap.get? a = some (seqObj "list" #[] e1) ∧ EachIs (fun v k => Reads s'.heap v k [] ∧ alike k k = true) kA.toList (kz.take i)) vs 0 s
    ⟨sb, #[], 0, nk, na, by rw [List.take_zero]; exact EachIs.nil⟩ ?step ?done)
  case step =>
    rintro j x s' hx ⟨sb', kA, e, nk', na', hk⟩
    simp only [Nat.zero_add] at hk ⊢
    have hj : j < vs.length := (List.getElem?_eq_some_iff.mp hx).1
    obtain ⟨k, hkj⟩ : ∃ k, kz[j]? = some k := ⟨_, List.getElem?_eq_getElem (by omega)⟩
    have hkk : alike k k = true := hal k (List.mem_of_getElem? hkj) k (List.mem_of_getElem? hkj)
    have hz : kA.size ≤ vs.length := by
      have h1 := hk.length
      rw [Array.length_toList, List.length_take] at h1
      omega
    refine wpAny_bind (wpAny_attempt (wpAny_mono (turn j x k hx hkj s' sb' ⟨_, na'⟩) (fun v s'' he => ?_) fun _ _ hF => hF.elim))
    obtain ⟨sk, hr⟩ := he
    try dsimp only
    have nk2 : s''.heap.get? kS = some (seqObj "list" kA e) := sk.sl.keep nk' hkf
    have na2 : s''.heap.get? a = some (seqObj "list" #[] e1) := sk.sl.keep na' haf
    have s1 := Heap.SameBut.update s''.heap kS (Obj.mapSeq (·.push v))
    obtain ⟨c2, hc2⟩ : ∃ c2, (s''.heap.update kS (Obj.mapSeq (·.push v))).get? kS = some (seqObj "list" (kA.push v) c2) := ⟨_, get?_update_seq nk2 (·.push v)⟩
    have ek : kz.take (j + 1) = kz.take j ++ [k] := by rw [List.take_add_one, hkj]; simp
    have ea : (kA.push v).toList = kA.toList ++ [v] := by simp
    refine wpAny_bind (listUpdate_at nk2 rfl ?_ (Nat.le_trans hz hZ) (Nat.le_trans (Nat.le_of_eq (Array.size_push ..)) (Nat.succ_le_succ (Nat.le_trans hz hZ))))
    have keepS : ∀ (u : Value) (d : PyData), Reads s''.heap u d [] ∧ alike d d = true → Reads (s''.heap.update kS (Obj.mapSeq (·.push v))) u d [] ∧ alike d d = true := fun u d q =>
      ⟨reads_sl (fun b o eb cb => ⟨o.slots, (s1.2 b (fun z => by
        subst z
        rw [nk2] at eb
        cases eb
        have q : Value.type "list" = Value.type "tuple" := cb
        injection q with q
        exact absurd q (by decide))).trans eb⟩) d u [] q.2 q.1 rfl, q.2⟩
    refine wpAny_pure ⟨rfl, (sb'.step sk).put s1.2, kA.push v, c2, hc2, (s1.2 a hka.symm).trans na2, ?_⟩
    rw [ea, ek]
    refine each_snoc (R := fun (u : Value) (d : PyData) => Reads (s''.heap.update kS (Obj.mapSeq (·.push v))) u d [] ∧ alike d d = true) (keepS v k ⟨hr, hkk⟩) ?_
    exact hk.mono fun u d q => keepS u d ⟨reads_sl (fun b o eb _ => let ⟨sl, e, _⟩ := sk.sl b o eb; ⟨sl, e⟩) d u [] q.2 q.1 rfl, q.2⟩
  case done =>
    rintro s' ⟨sb', kA, e, nk', na', hk⟩
    have hk' : EachIs (fun v k => ∃ as, Reads s'.heap v k as) kA.toList kz := by
      have e3 : kz.take (0 + vs.length) = kz := List.take_of_length_le (by omega)
      rw [e3] at hk
      exact hk.mono fun v k q => ⟨[], q.1⟩
    have hsz : kA.size = vs.length := by
      have h1 := hk'.length
      rw [Array.length_toList] at h1
      omega
    try dsimp only
    refine wpAny_bind (listItems_at nk' rfl ?_)
    have hcut : ∀ b, b < kS → (cutH s'.heap kS).get? b = s'.heap.get? b := fun b hb => cutH_lt hb
    have kp : KeepsBut a (cutH s'.heap kS) s'.heap := fun b o hb e => by
      by_cases hlt : b < kS
      · rw [hcut b hlt] at e
        exact e
      · rw [cutH_ge (Nat.le_of_not_lt hlt)] at e
        cases e
    refine keyH_end (κ := dataKind s'.heap kz) (h₁ := cutH s'.heap kS) kp (cutH_ge (Nat.le_refl _)) nk' na' hka (SortsAt.data (s := s') hk' hal hsk hu) hsz hZ fun h3 tk3 c k3 n3 => ?_
    refine h { s' with heap := h3, toks := tk3 } _ c ⟨sb'.os, sb'.bare, fun b o hb hk2 eb => ?_⟩ n3 ⟨s'.heap, kA.toList, hal, rfl, hk'⟩
    obtain ⟨sl, e2, k2⟩ := sb'.sl b o hb hk2 eb
    have hlt : b < kS := Nat.lt_of_lt_of_le (Heap.lt_size eb) hfresh
    exact ⟨sl, k3 b _ hb ((hcut b hlt).trans e2), k2⟩
theorem keyS_tree {f : Value} {n : Nat} (hb : AllBare s.gens) (ho : s.heap.get? a = some (seqObj "list" vs.toArray n)) (haf : a ∉ fs) (hff : ∀ b ∈ fs, b < s.heap.objs.size) (hlen : kz.length = vs.length) (hZ : vs.length ≤ sizeLine) (hal : AllAlike kz) (hsk : Sortable kz) (hu : ∀ d, d ∈ kz → A.units + d.depth < cLine)
    (turn : ∀ (i : Nat) (v : Value) (k : PyData), vs[i]? = some v → kz[i]? = some k → ∀ s1, (∀ b o, b ≠ a → s.heap.get? b = some o → ∃ sl, s1.heap.get? b = some { o with slots := sl } ∧ (b ∉ fs → sl = o.slots)) → s1.os = s.os → AllBare s1.gens → (∃ o, s1.heap.get? a = some o) →
      wpAny (model prog w) A (call f [v]) (fun u s2 => SK fs s1 s2 ∧ Reads s2.heap u k []) (fun _ _ => False) s1)
    (h : ∀ s' out c, s'.os = s.os → AllBare s'.gens → (∀ b o, b ≠ a → s.heap.get? b = some o → ∃ sl, s'.heap.get? b = some { o with slots := sl } ∧ (b ∉ fs → sl = o.slots)) → s'.heap.get? a = some (seqObj "list" (List.toArray out) c) → KeyedOut b kz vs out → P (.done (.ret .none)) s') :
    wpAny (model prog w) A (ksk_tree a f b) P E s := by
  have ha : a < s.heap.objs.size := Heap.lt_size ho
  obtain ⟨e1, ho1⟩ : ∃ e1, (s.heap.update a (Obj.mapSeq fun _ => (#[] : Array Value))).get? a = some (seqObj "list" #[] e1) := ⟨_, get?_update_seq ho fun _ => #[]⟩
  have hkS : ((s.heap.update a (Obj.mapSeq fun _ => (#[] : Array Value))).push (seqObj "tuple" vs.toArray 0)).objs.size = s.heap.objs.size + 1 := by rw [size_push', Heap.size_update]
  unfold ksk_tree
  refine wpAny_bind (listItems_at ho rfl ?_)
  refine wpAny_bind (listUpdate_at ho rfl ?_ (by rw [List.size_toArray]; exact hZ) (Nat.zero_le _))
  refine wpAny_bind (seqEpoch_at ho1 rfl ?_)
  refine wpAny_bind (wpAny_newTuple ?_ (by show vs.length ≤ _; exact hZ))
  refine wpAny_bind (wpAny_newList ?_ (Nat.zero_le _))
  refine wpAny_holding ?_
  have ne : ∀ b o, s.heap.get? b = some o → b ≠ ((s.heap.update a (Obj.mapSeq fun _ => (#[] : Array Value))).push (seqObj "tuple" vs.toArray 0)).objs.size := fun b o e z => by
    have := Heap.lt_size e
    rw [z, hkS] at this
    exact Nat.lt_irrefl _ (Nat.lt_trans (Nat.lt_succ_self _) this)
  refine keyS_rest (kz := kz) (s0 := s) (fs := fs) (s := { s with heap := ((s.heap.update a (Obj.mapSeq fun _ => (#[] : Array Value))).push (seqObj "tuple" vs.toArray 0)).push (seqObj "list" #[] 0) }) (kS := ((s.heap.update a (Obj.mapSeq fun _ => (#[] : Array Value))).push (seqObj "tuple" vs.toArray 0)).objs.size)
    ⟨rfl, hb, fun b o hb _ q => ⟨o.slots, sortingHeap_old hb q, fun _ => rfl⟩⟩ (Heap.get?_push_size _ rfl) (Heap.get?_push_of_some _ (Heap.get?_push_of_some _ ho1)) (by rw [hkS]; exact Nat.ne_of_gt (Nat.lt_succ_of_lt ha))
    (fun z => by have := hff _ z; rw [hkS] at this; exact Nat.lt_irrefl _ (Nat.lt_trans (Nat.lt_succ_self _) this)) haf hlen hZ hal hsk hu (by rw [hkS]; omega)
    (fun i v k hv hk s1 sb na => turn i v k hv hk s1 (fun b o hb e => sb.sl b o hb (ne b o e) e) sb.os sb.bare na) fun s' out c sb hg ko => h s' out c sb.os sb.bare (fun b o hb e => sb.sl b o hb (ne b o e) e) hg ko
end
end DL
namespace DL
open PySem PySem.Spec PyProof.Rows L2
/-! ### the key of an item, run where nothing but tuples is known -/
/-- the tuples of H, locked as they stand in h -/
def frH (h : Heap) (H : Hp) : Hp := fun b => match H b with
  | some (.tup xs) => (h.get? b).map fun o => .frz o (.tup xs)
  | some (.frz o (.tup xs)) => some (.frz o (.tup xs))
  | _ => none
theorem frH_none {h : Heap} {H : Hp} {b : Addr} (e : H b = none) : frH h H b = none := by
  unfold frH
  rw [e]
theorem frH_some {h : Heap} {H : Hp} {b : Addr} {u : HO} (e : frH h H b = some u) : ∃ o xs, u = .frz o (.tup xs) ∧ ((H b = some (.tup xs) ∧ h.get? b = some o) ∨ H b = some (.frz o (.tup xs))) := by
  unfold frH at e
  cases q : H b with
  | none => rw [q] at e; cases e
  | some v =>
    rw [q] at e
    cases v with
    | tup xs =>
      obtain ⟨o, e1, e2⟩ := Option.map_eq_some_iff.mp e
      exact ⟨o, xs, e2.symm, .inl ⟨rfl, e1⟩⟩
    | frz o u2 =>
      cases u2 with
      | tup xs => cases e; exact ⟨o, xs, rfl, .inr rfl⟩
      | _ => cases e
    | _ => cases e
theorem frH_tup {P : Program} {w : World} {h h1 : Heap} {H : Hp} {a : Addr} {xs : List V} (ok : HOk P w H h) (k : ∀ b o, H b ≠ none → h.get? b = some o → h1.get? b = some o) (e : Rd H a (.tup xs)) : Rd (frH h1 H) a (.tup xs) := by
  rcases e with e | ⟨o, e⟩
  · obtain ⟨_, its, r, o, e1, _⟩ := (show ObjOk P w H h a (.tup xs) from ok a _ e)
    refine .inr ⟨o, ?_⟩
    unfold frH
    rw [e]
    dsimp only
    rw [k a o (by rw [e]; exact fun z => by cases z) e1]
    rfl
  · refine .inr ⟨o, ?_⟩
    unfold frH
    rw [e]
mutual
/-- no list, no dict within -/
def nr : D → Bool
  | .ref _ => false
  | .fl _ => false
  | .tup xs => nrs xs
  | _ => true
def nrs : List D → Bool
  | [] => true
  | x :: xs => nr x && nrs xs
end
mutual
theorem rep_fr {P : Program} {w : World} {K : PySem.W.Frag} {h h1 : Heap} {H : Hp} (ok : HOk P w H h) (k : ∀ b o, H b ≠ none → h.get? b = some o → h1.get? b = some o) : ∀ {v : V} {d : D}, Rep K H v d → nr d = true → Rep K (frH h1 H) v d
  | _, _, .non, _ => .non
  | _, _, .bl b, _ => .bl b
  | _, _, .int b, _ => .int b
  | _, _, .str b, _ => .str b
  | _, _, .ty b, _ => .ty b
  | _, _, .ref b, hn => by unfold nr at hn; cases hn
  | _, _, .fl h r, hn => by unfold nr at hn; cases hn
  | _, _, .tup h2 r, hn => by
    unfold nr at hn
    refine .tup ?_ (reps_fr ok k r hn)
    rcases h2 with h2 | h2
    · exact .inl (frH_tup ok k h2)
    · exact .inr h2
theorem reps_fr {P : Program} {w : World} {K : PySem.W.Frag} {h h1 : Heap} {H : Hp} (ok : HOk P w H h) (k : ∀ b o, H b ≠ none → h.get? b = some o → h1.get? b = some o) : ∀ {vs : List V} {ds : List D}, Reps K H vs ds → nrs ds = true → Reps K (frH h1 H) vs ds
  | _, _, .nil, _ => .nil
  | _, _, .cons h r, hn => by
    unfold nrs at hn
    rw [Bool.and_eq_true] at hn
    exact .cons (rep_fr ok k h hn.1) (reps_fr ok k r hn.2)
end
abbrev S0 : Sto := fun _ => none
mutual
/-- what is told of a key, read in the heap -/
theorem key_reads {P : Program} {w : World} {K : PySem.W.Frag} {h : Heap} {H : Hp} (ok : HOk P w H h) (ki : K.In h) : ∀ {d : D} {p : PyData}, PD S0 d p → ∀ {v : V} {u : Value}, Rep K H v d → RelV v u → Reads h u p []
  | _, _, .non, _, _, r, e => by cases r; cases (show _ = Value.none from e); exact .none
  | _, _, .bl b, _, _, r, e => by cases r; cases (show _ = Value.bool b from e); exact .bool b
  | _, _, .int i, _, _, r, e => by cases r; obtain ⟨t, rfl⟩ := e; exact .int i t
  | _, _, .str x, _, _, r, e => by cases r; obtain ⟨t, rfl⟩ := e; exact .str x t
  | _, _, .lst z _, _, _, r, e => by cases z
  | _, _, .tup q, _, _, r, e => by
    cases r with
    | @tup a vs ds h1 r =>
      cases (show _ = Value.ref a from e)
      rcases h1 with h1 | ⟨o, its, n, hk, hc, hd, hz, rv⟩
      · obtain ⟨_, its, rv, o, ho, hc, n, hd⟩ := h1.ok ok
        exact .tuple ho hc hd (by simpa using keys_read ok ki q r rv)
      · exact .tuple (ki a o hk) hc hd (keys_read ok ki q r rv)
theorem keys_read {P : Program} {w : World} {K : PySem.W.Frag} {h : Heap} {H : Hp} (ok : HOk P w H h) (ki : K.In h) : ∀ {ds : List D} {ps : List PyData}, PDs S0 ds ps → ∀ {vs : List V} {us : List Value}, Reps K H vs ds → Vals vs us → ReadsAll h us ps []
  | _, _, .nil, _, _, r, e => by cases r; cases e; exact .nil
  | _, _, .cons q t, _, _, r, e => by
    cases r with
    | cons h1 r1 =>
      cases e with
      | cons e1 e2 => exact .cons (as := []) (bs := []) (key_reads ok ki q h1 e1) (keys_read ok ki t r1 e2)
end
theorem key_turn {X : Cx} {k : Nat} {f : Addr} {fd : FuncData} {ps : List Str} {m : MF} (F : FnOk X.prog X.w X.K X.mg X.base CX0 k f fd ps (spD X.K 1 m)) (hb : Binds X.K fd ps []) (hr : Room (k + 1) X.A) {pins : List (Addr × Obj)} {σ : L2.St} {H : Hp} {s s1 : Shared} (I : Inv X pins σ H s)
    (old : ∀ b o, s.heap.get? b = some o → ∃ sl, s1.heap.get? b = some { o with slots := sl } ∧ (b ∉ frs X.stack → sl = o.slots)) (hos : s1.os = s.os) (hbare : AllBare s1.gens) (hsz : s.heap.objs.size ≤ s1.heap.objs.size)
    {v : V} {u : Value} {d : D} {p : PyData} (rv : RelV v u) (rd : Rep X.K H v d) (hn : nr d = true) (hm : m [d] S0 fun e _ => PD S0 e p) :
    wpAny (model X.prog X.w) X.A.in1.in1 (call (.ref f) [u]) (fun u' s2 => SK (frs X.stack) s1 s2 ∧ Reads s2.heap u' p []) (fun _ _ => False) s1 := by
  have E0 := I.env0
  have kp : ∀ b o, b ∉ frs X.stack → s.heap.get? b = some o → s1.heap.get? b = some o := fun b o hb e => by
    obtain ⟨sl, e1, k1⟩ := old b o e
    rw [k1 hb] at e1
    exact e1
  have kh : ∀ b o, H b ≠ none → s.heap.get? b = some o → s1.heap.get? b = some o := fun b o hb e => kp b o (fun z => hb (E0.frf b z)) e
  have basek : ∀ b o, X.base.get? b = some o → s1.heap.get? b = some o ∧ H b = none := fun b o e => by
    obtain ⟨e1, e2⟩ := E0.bs b o e
    exact ⟨kp b o (fun z => by have := (E0.funs.mem z).1; rw [e] at this; cases this) e1, e2⟩
  have hok0 : HOk X.prog X.w (frH s1.heap H) s1.heap := fun b w e => by
    obtain ⟨o, xs, rfl, h1 | h1⟩ := frH_some e
    · obtain ⟨h2, h3⟩ := h1
      refine ⟨h3, ?_⟩
      obtain ⟨z, its, r, ob, e1, c⟩ := (show ObjOk X.prog X.w H s.heap b (.tup xs) from I.hok b _ h2)
      exact ⟨z, its, r, ob, kh b ob (by rw [h2]; exact fun z => by cases z) e1, c⟩
    · obtain ⟨h3, z, its, r, ob, e1, c⟩ := (show ObjOk X.prog X.w H s.heap b (.frz o (.tup xs)) from I.hok b _ h1)
      have hne : H b ≠ none := by rw [h1]; exact fun z => by cases z
      exact ⟨kh b o hne h3, z, its, r, ob, kh b ob hne e1, c⟩
  have env : Env0 X.prog X.w X.K X.mg X.base X.A.in1.in1 X.stack s1 (frH s1.heap H) :=
    ⟨E0.in1.in1.frames, E0.mod, fun b o e => ⟨(basek b o e).1, frH_none (basek b o e).2⟩, Nat.le_trans E0.bsz hsz, E0.funs.of_keeps fun b o e _ => let ⟨sl, e1, _⟩ := old b o e; ⟨_, e1, rfl⟩,
      fun b hb => frH_none (E0.frf b hb), hok0, hbare⟩
  have room : Room k X.A.in1.in1 := ⟨hr.hd, by have := hr.dp; show X.A.depth + 3 * k + 5 < _; omega, by have := hr.un; show X.A.units + 1 + 1 + 16 * k + 200 < _; omega⟩
  have ki : X.K.In s1.heap := E0.mod.kin.keeps fun b o e => (basek b o e).1
  have hl : ([u] ++ ([] : List Value)).length = ps.length := F.len [v] (frH s1.heap H) (fun _ _ => True) (fun _ _ _ => False) ⟨rfl, [d], S0, fun e _ => PD S0 e p, .cons (rep_fr I.hok kh rd hn) .nil, (fun _ _ z => by cases z), hm, fun _ _ _ _ _ _ _ _ => trivial⟩
  refine wpAny_call (codeAny_mono (F.run X.A.in1.in1 X.stack s1 (frH s1.heap H) ⟨[u], []⟩ [u] [v] (fun v' H' => ∃ e, Rep X.K H' v' e ∧ PD S0 e p) (fun _ _ _ => False) room env (by simpa using hb s1 [u] ki hl) (.cons rv .nil) ?_) fun r s' hq => ?_)
  · exact ⟨rfl, [d], S0, fun e _ => PD S0 e p, .cons (rep_fr I.hok kh rd hn) .nil, (fun _ _ z => by cases z), hm, fun v' e' S' H' _ _ r q => ⟨e', r, q⟩⟩
  · cases r with
    | error e => exact hq
    | ok fl =>
      cases fl with
      | ret u' =>
        obtain ⟨v', H', os, bare, un, hok', rv', e, re, pe⟩ := hq
        have sl : Sl (frs X.stack) s1.heap s'.heap := fun b o eb => by
          cases q : frH s1.heap H b with
          | none =>
            by_cases hb : b ∈ frs X.stack
            · obtain ⟨sl, e1⟩ := un.slot b o eb q hb (by simp)
              exact ⟨sl, e1, fun z => absurd hb z⟩
            · exact ⟨o.slots, un.keep b o eb q hb (by simp), fun _ => rfl⟩
          | some w =>
            obtain ⟨o', xs, rfl, _⟩ := frH_some q
            have e1 := un.frzs b o' _ q
            have e2 := (show ObjOk X.prog X.w H' s'.heap b (.frz o' (.tup xs)) from hok' b _ e1).1
            have e3 := (show ObjOk X.prog X.w (frH s1.heap H) s1.heap b (.frz o' (.tup xs)) from hok0 b _ q).1
            rw [eb] at e3
            cases e3
            exact ⟨o.slots, e2, fun _ => rfl⟩
        have ki' : X.K.In s'.heap := E0.mod.kin.keeps fun b o e => by
          obtain ⟨e1, e2⟩ := basek b o e
          exact un.keep b o e1 (frH_none e2) (fun z => by have := (E0.funs.mem z).1; rw [e] at this; cases this) (by simp)
        exact ⟨⟨os, bare, sl⟩, key_reads hok' ki' pe re rv'⟩
      | next => exact False.elim hq
      | brk => exact False.elim hq
      | cont => exact False.elim hq
end DL
namespace DL
open PySem PySem.Spec PyProof.Rows L2
section
open PySem.W
def rSK (K : PySem.W.Frag) (f : Addr) (m : MF) : List V → List V → Hp → VK → Prop := fun vs zs H Q => ∃ (a : Addr) (xs : List V) (ds : List D) (kd : D → PyData), vs = [V.ref a] ∧ zs = [V.ref f] ∧ SqL K H a xs ∧ Reps K H xs ds ∧
  (∀ d ∈ ds, nr d = true ∧ m [d] S0 fun e _ => PD S0 e (kd d)) ∧ AllAlike (ds.map kd) ∧ Sortable (ds.map kd) ∧ (∀ d ∈ ds, (kd d).depth ≤ 32) ∧
  ∀ (p : Addr) (ys : List V), H p = none → Reps K H ys (ds.mergeSort (dataLe false kd)) → Q (.ref p) (upd H p (.lst ys))
theorem each_of {K : PySem.W.Frag} {H : Hp} : ∀ {xs : List V} {ds : List D} {us : List Value}, Reps K H xs ds → Vals xs us → EachIs (fun u d => ∃ v, RelV v u ∧ Rep K H v d) us ds
  | _, _, _, .nil, h => by cases h; exact .nil
  | _, _, _, .cons h r, e => by
    cases e with
    | cons e1 e2 => exact .cons ⟨_, e1, h⟩ (each_of r e2)
theorem of_each {K : PySem.W.Frag} {H : Hp} : ∀ {us : List Value} {ds : List D}, EachIs (fun u d => ∃ v, RelV v u ∧ Rep K H v d) us ds → ∃ xs, Vals xs us ∧ Reps K H xs ds
  | _, _, .nil => ⟨[], .nil, .nil⟩
  | _, _, .cons ⟨v, h1, h2⟩ t => let ⟨xs, a, b⟩ := of_each t; ⟨v :: xs, .cons h1 a, .cons h2 b⟩
theorem each_at {α β : Type} {R : α → β → Prop} : ∀ {as : List α} {bs : List β}, EachIs R as bs → ∀ {i : Nat} {a : α}, as[i]? = some a → ∃ b, bs[i]? = some b ∧ R a b
  | _, _, .nil, i, a, h => by cases h
  | _, _, .cons h t, 0, a, e => by cases e; exact ⟨_, rfl, h⟩
  | _, _, .cons h t, i + 1, a, e => each_at t (i := i) e
theorem cr_sortKey {X : Cx} {k : Nat} {f : Addr} {fd : FuncData} {ps : List Str} {m : MF} (F : FnOk X.prog X.w X.K X.mg X.base CX0 k f fd ps (spD X.K 1 m)) (hb : Binds X.K fd ps []) (hr : Room (k + 1) X.A) : CallRK X (.builtin "sorted") [Str.ofString "key"] (rSK X.K f m) := by
  intro pins s σ H vs zs us ws Q I r rz h
  obtain ⟨a, xs, ds, kd, rfl, rfl, hs, rp, hm, hal, hso, hd, q⟩ := h
  obtain rfl := Vals.ref1 r
  obtain ⟨w1, rfl, e1⟩ := vals1 rz
  obtain rfl : w1 = Value.ref f := e1
  obtain ⟨its, rv, hl, hz⟩ := I.list hs
  have ei := each_of rp rv
  have hlen : its.length = ds.length := ei.length
  have hlx : xs.length = its.length := rv.length
  have E0 := I.env0
  show wpAny (model X.prog X.w) X.A (call (.builtin "sorted") [.ref a] [(Str.ofString "key", .ref f)]) (EP X pins σ Q) X.xe s
  refine sorted_of_sort hl.isList (by rw [← hlx]; exact hz) (ksk_s1 _ _) (fun _ => ksk_l1 _ _) fun E' => ?_
  rw [ksk_t1]
  have hff : ∀ b ∈ frs X.stack, b < s.heap.objs.size := fun b hb => by
    obtain ⟨_, o, e, _⟩ := E0.funs.mem hb
    exact Heap.lt_size e
  have hc : ∀ b o, s.heap.get? b = some o → b ≠ s.heap.objs.size + 1 := fun b o e z => by
    have := Heap.lt_size e
    rw [z] at this
    exact Nat.lt_irrefl _ (Nat.lt_trans (Nat.lt_succ_self _) this)
  refine keyS_tree (kz := ds.map kd) (fs := frs X.stack) (s := { s with heap := copyHeap s.heap its }) I.bare (copyHeap_at s.heap its) (fun z => Nat.lt_irrefl _ (Nat.lt_trans (Nat.lt_succ_self _) (hff _ z))) (fun b hb => ?_) (by rw [List.length_map]; exact hlen.symm) (by rw [← hlx]; exact hz) hal hso (fun d hd2 => ?_)
    (fun i u kz hi hk s1 old hos hbare hat => ?_) fun s' out c hos hbare old hg ko => ?_
  · exact Nat.lt_of_lt_of_le (Nat.lt_trans (hff b hb) (Nat.lt_succ_self _)) (Nat.le_of_lt (Heap.lt_size (copyHeap_at s.heap its)))
  · obtain ⟨d0, h0, rfl⟩ := List.mem_map.mp hd2
    have := hd d0 h0
    have := hr.un
    show X.A.units + 1 + 1 + _ < _
    omega
  · obtain ⟨d, hd1, v, rv1, rd1⟩ := each_at ei hi
    have hkd : kz = kd d := by
      rw [List.getElem?_map, hd1] at hk
      cases hk
      rfl
    subst hkd
    have hmem := List.mem_of_getElem? hd1
    obtain ⟨o, ho⟩ := hat
    exact key_turn F hb hr I (fun b o e => old b o (hc b o e) (copyHeap_old e)) hos hbare (Nat.le_of_lt (Nat.lt_trans (Nat.lt_succ_self _) (Heap.lt_size ho))) rv1 rd1 (hm d hmem).1 (hm d hmem).2
  · refine ⟨rfl, ?_⟩
    have eo := keyedOut_each kd ko ei
    obtain ⟨ys, yv, yr⟩ := of_each eo
    have np : H (s.heap.objs.size + 1) = none := I.hok.fresh (Nat.le_succ _)
    have ys_len : ys.length ≤ sizeLine := by
      have h1 := yv.length
      have h2 := eo.length
      rw [List.length_mergeSort] at h2
      omega
    have kp : ∀ b o, b ∉ frs X.stack → s.heap.get? b = some o → s'.heap.get? b = some o := fun b o hb e => by
      obtain ⟨sl, e1, k1⟩ := old b o (hc b o e) (copyHeap_old e)
      rw [k1 hb] at e1
      exact e1
    have un : Un (frs X.stack) [] H (upd H (s.heap.objs.size + 1) (.lst ys)) s.heap s'.heap :=
      { keep := fun b o e _ hb _ => kp b o hb e
        slot := fun b o e _ _ _ => let ⟨sl, e1, _⟩ := old b o (hc b o e) (copyHeap_old e); ⟨sl, e1⟩
        free := fun b o e n _ => by rw [upd_ne (hc b o e)]; exact n
        there := fun b o e _ => let ⟨sl, e1, _⟩ := old b o (hc b o e) (copyHeap_old e); ⟨_, e1⟩
        tups := fun b xs e => by rw [upd_ne (ne_of_none e np)]; exact e
        frzs := fun b o u e => by rw [upd_ne (ne_of_none e np)]; exact e
        tbls := fun b ps e => ⟨#[], by rw [upd_ne (ne_of_none e np)]; simpa using e⟩ }
    have hok : HOk X.prog X.w (upd H (s.heap.objs.size + 1) (.lst ys)) s'.heap := fun b o e => by
      by_cases hb : b = s.heap.objs.size + 1
      · subst hb
        rw [upd_same] at e
        cases e
        exact ⟨ys_len, out, c, yv, hg⟩
      · rw [upd_ne hb] at e
        refine (I.hok b o e).stay (fun b2 u h2 e2 => kp b2 u (fun z => ?_) e2) (fun b2 e2 => by rw [upd_ne (ne_of_none e2 np)]; exact e2) fun b2 xs e2 => by rw [upd_ne (ne_of_none e2 np)]; exact e2
        have n := E0.frf b2 z
        rcases h2 with rfl | h2
        · rw [e] at n; cases n
        · rw [h2] at n; cases n
    obtain ⟨hh, g, dr, t, os'⟩ := s'
    obtain rfl : os' = s.os := hos
    exact ⟨.ref _, _, I.call (h' := hh) (g' := g) (d' := dr) (t' := t) (ch := []) un hok hbare (fun b z => absurd z (by simp)), rfl, q _ ys np yr⟩
/-- the items as they stand sorted by the keys that m tells -/
def keyed (m : MF) (xs : List D) (R : List D → Prop) : Prop := ∃ kd : D → PyData, (∀ d ∈ xs, nr d = true ∧ m [d] S0 fun e _ => PD S0 e (kd d)) ∧ AllAlike (xs.map kd) ∧ Sortable (xs.map kd) ∧ (∀ d ∈ xs, (kd d).depth ≤ 32) ∧ R (xs.mergeSort (dataLe false kd))
def eSortK (m : MF) (fa : DE) : DE := fun σ S Q => fa σ S fun x S1 => match x with
  | .ref p => ∃ xs, S1 p = some (.lst xs) ∧ keyed m xs fun ys => ∀ n, S1 n = none → Q (.ref n) (updS S1 n (.lst ys))
  | _ => False
theorem c_sortKey {X : Cx} {e : Expr} {fe : DE} {pos p p3 kpos : Pos} {j k : Nat} {g : Str} {m : MF} (hr : Room j X.A) (G : Okf X.prog X.w X.K X.mg X.base k g 1 m) (hk : k + 1 ≤ j) (hm : X.mg "sorted" = none) (ha : CE X e fe) (hgg : Gl X g := by rfl) (hg : Gl X "sorted" := by rfl)
    (hdd : (g == ("__debug__" : Str)) = false := by decide +kernel)
    (he : backTo pos (starEach [e] X.env) = (false, eval e X.env) :: backTo pos (starEach [] X.env) := by rfl) (hpl : (backTo pos (starEach [e] X.env)).any (·.1) = false := by rfl)
    (hall : (backToKw pos (keywordEach [⟨some (Str.ofString "key"), .Name g p3, kpos⟩] X.env)).all (·.1.isSome) = true := by rfl) (hnone : (backToKw pos (keywordEach [⟨some (Str.ofString "key"), .Name g p3, kpos⟩] X.env)).any (·.1.isNone) = false := by rfl)
    (hks : (backToKw pos (keywordEach [⟨some (Str.ofString "key"), .Name g p3, kpos⟩] X.env)).filterMap (·.1) = [Str.ofString "key"] := by rfl) (hst : starEach [e] X.env = (false, eval e X.env) :: starEach [] X.env := by rfl) :
    CE X (.Call (.Name "sorted" p) [e] [⟨some (Str.ofString "key"), .Name g p3, kpos⟩] pos) (eSortK m fe) := by
  obtain ⟨f, fd, ps, hl, F, hmg, hkk, hb⟩ := G
  obtain ⟨te, he2, se⟩ := ha
  refine ⟨_, pe_callBK (cr_sortKey F hb (hr.mono hk)) hg hm (by rfl) (pa_cons he2 pa_nil hst) (pk_cons (pe_glob hgg hmg (v := .ref f) rfl hdd) pk_nil) (by decide +kernel) (by decide +kernel) he hpl hall hnone hks, fun σ S Q sv H Kt re rs q kt => se σ S _ sv H _ re rs q fun v d S1 H1 s1 r1 v1 q1 => ?_⟩
  cases v1 with
  | ref a =>
    obtain ⟨xs, e0, kd, hm1, ha1, hs1, hd1, q1⟩ := q1
    obtain ⟨ws, e3, r3⟩ := r1 _ _ e0
    refine ⟨a, ws, xs, kd, rfl, rfl, .inl (.inl e3), r3, hm1, ha1, hs1, hd1, fun p2 ys np rys => ?_⟩
    obtain ⟨st, sr⟩ := stp_new (o := .lst (xs.mergeSort (dataLe false kd))) (ho := .lst ys) r1 np ⟨ys, upd_same, rys.mono (tx_new np)⟩
    exact kt _ _ _ _ (s1.trans st) sr (.ref p2) (q1 p2 (r1.free np))
  | _ => exact False.elim q1
end
end DL
/-! plain rules for the mirrors: loops, comprehensions -/
namespace DL
open PySem L2
theorem seq_i {f g : DS} {D0 : DEnds} {σ : Env} {S : Sto} (h : f ⟨g D0, D0.rt, D0.bk, D0.ct⟩ σ S) : sSeq f g D0 σ S := h
theorem forL_inv {stab : Sto → Prop} {g : DG} {body : DS} {D0 : DEnds} (items : List D) (I : Nat → Env → Sto → Prop) (hst : ∀ i σ S, I i σ S → stab S)
    (turn : ∀ (i : Nat) (x : D) (σ : Env) (S : Sto) (N : Env → Sto → Prop), items[i]? = some x → I i σ S → (∀ σ' S', I (i + 1) σ' S' → N σ' S') → g x σ S fun σ2 S2 => body ⟨N, D0.rt, D0.nx, N⟩ σ2 S2)
    (hend : ∀ σ S, I items.length σ S → D0.nx σ S) {σ : Env} {S : Sto} (h0 : I 0 σ S) : forL stab g body D0 items σ S := by
  have key : ∀ (m i : Nat), m = items.length - i → i ≤ items.length → ∀ σ S, I i σ S → forL stab g body D0 (items.drop i) σ S := by
    intro m
    induction m with
    | zero =>
      intro i hm hi σ S h
      have e : i = items.length := by omega
      subst e
      rw [List.drop_length]
      exact ⟨hst _ _ _ h, hend σ S h⟩
    | succ m ih =>
      intro i hm hi σ S h
      have hlt : i < items.length := by omega
      rw [List.drop_eq_getElem_cons hlt]
      exact ⟨hst _ _ _ h, turn i _ σ S _ (List.getElem?_eq_getElem hlt) h fun σ' S' h' => ih (i + 1) (by omega) hlt σ' S' h'⟩
  exact key _ 0 rfl (Nat.zero_le _) σ S h0
/-- a for over a range -/
theorem forR_inv {stab : Sto → Prop} {g : DG} {body : DS} {D0 : DEnds} (lo : Int) (n : Nat) (I : Nat → Env → Sto → Prop) (hst : ∀ i σ S, I i σ S → stab S)
    (turn : ∀ (i : Nat) (σ : Env) (S : Sto) (N : Env → Sto → Prop), i < n → I i σ S → (∀ σ' S', I (i + 1) σ' S' → N σ' S') → g (.int (lo + (i : Nat))) σ S fun σ2 S2 => body ⟨N, D0.rt, D0.nx, N⟩ σ2 S2)
    (hend : ∀ σ S, I n σ S → D0.nx σ S) {σ : Env} {S : Sto} (h0 : I 0 σ S) : forL stab g body D0 (rangeD lo n) σ S := by
  have hl : (rangeD lo n).length = n := by simp [rangeD]
  refine forL_inv _ I hst (fun i x σ S N hx h hN => ?_) (by rw [hl]; exact hend) h0
  have hlt : i < n := by
    have := (List.getElem?_eq_some_iff.mp hx).1
    omega
  have hx2 : (rangeD lo n)[i]? = some (.int (lo + (i : Nat))) := by
    unfold rangeD
    rw [List.getElem?_map, List.getElem?_range hlt]
    rfl
  rw [hx2] at hx
  cases hx
  exact turn i σ S N hlt h hN
theorem lcL_inv {stab : Sto → Prop} {g : DG} {tests : DT} {elt : DE} {σ : Env} {k : List D → Sto → Prop} (items : List D) (I : Nat → List D → Sto → Prop) (hst : ∀ i acc S, I i acc S → stab S)
    (turn : ∀ (i : Nat) (x : D) (acc : List D) (S : Sto) (N : List D → Sto → Prop), items[i]? = some x → I i acc S → (∀ acc' S', I (i + 1) acc' S' → N acc' S') →
      g x σ S fun σ2 S2 => tests σ2 S2 fun b S3 => if b = true then elt σ2 S3 fun d S4 => acc.length < sizeLine ∧ N (acc ++ [d]) S4 else N acc S3)
    (hend : ∀ acc S, I items.length acc S → k acc S) {S : Sto} (h0 : I 0 [] S) : lcL stab g tests elt σ k items [] S := by
  have key : ∀ (m i : Nat), m = items.length - i → i ≤ items.length → ∀ acc S, I i acc S → lcL stab g tests elt σ k (items.drop i) acc S := by
    intro m
    induction m with
    | zero =>
      intro i hm hi acc S h
      have e : i = items.length := by omega
      subst e
      rw [List.drop_length]
      exact ⟨hst _ _ _ h, hend acc S h⟩
    | succ m ih =>
      intro i hm hi acc S h
      have hlt : i < items.length := by omega
      rw [List.drop_eq_getElem_cons hlt]
      exact ⟨hst _ _ _ h, turn i _ acc S (fun acc' S' => lcL stab g tests elt σ k (items.drop (i + 1)) acc' S') (List.getElem?_eq_getElem hlt) h fun acc' S' h' => ih (i + 1) (by omega) hlt acc' S' h'⟩
  exact key _ 0 rfl (Nat.zero_le _) [] S h0
/-- [f x for x in items], the store as it is -/
theorem lcL_map {stab : Sto → Prop} {g : DG} {elt : DE} {σ : Env} {k : List D → Sto → Prop} (f : D → D) (items : List D) {S : Sto} (hs : stab S) (hz : items.length ≤ sizeLine)
    (ht : ∀ x ∈ items, ∀ Q : DK, Q (f x) S → g x σ S fun σ2 S2 => elt σ2 S2 Q) (h : k (items.map f) S) : lcL stab g tsYes elt σ k items [] S := by
  refine lcL_inv items (fun i acc S' => S' = S ∧ acc = (items.take i).map f) (fun i acc S' ⟨e, _⟩ => by rw [e]; exact hs) (fun i x acc S' N hx ⟨e1, e2⟩ hN => ?_) (fun acc S' ⟨e1, e2⟩ => ?_) ⟨rfl, by simp⟩
  · subst e1 e2
    have hlt := (List.getElem?_eq_some_iff.mp hx).1
    show g x σ S' fun σ2 S2 => elt σ2 S2 fun d S4 => ((items.take i).map f).length < sizeLine ∧ N ((items.take i).map f ++ [d]) S4
    refine ht x (List.mem_of_getElem? hx) _ ⟨?_, hN _ _ ⟨rfl, ?_⟩⟩
    · rw [List.length_map, List.length_take]
      omega
    · rw [List.take_add_one, hx, List.map_append]
      rfl
  · subst e1 e2
    rw [List.take_of_length_le (Nat.le_refl _)]
    exact h
/-- [f x for x in items if p x], the store as it is -/
theorem lcL_filter {stab : Sto → Prop} {g : DG} {tests : DT} {elt : DE} {σ : Env} {k : List D → Sto → Prop} (f : D → D) (p : D → Bool) (items : List D) {S : Sto} (hs : stab S) (hz : items.length ≤ sizeLine)
    (h : k ((items.filter p).map f) S)
    (hk : ∀ x ∈ items, ∀ (T : DK) (G : Sto → Prop), (p x = true → T (f x) S) → (p x = false → G S) → g x σ S fun σ2 S2 => tests σ2 S2 fun b S3 => if b = true then elt σ2 S3 T else G S3) : lcL stab g tests elt σ k items [] S := by
  refine lcL_inv items (fun i acc S' => S' = S ∧ acc = ((items.take i).filter p).map f) (fun i acc S' ⟨e, _⟩ => by rw [e]; exact hs) (fun i x acc S' N hx ⟨e1, e2⟩ hN => ?_) (fun acc S' ⟨e1, e2⟩ => ?_) ⟨rfl, by simp⟩
  · subst e1
    have hlt := (List.getElem?_eq_some_iff.mp hx).1
    have hl : acc.length < sizeLine := by
      rw [e2, List.length_map]
      have := List.length_filter_le p (items.take i)
      rw [List.length_take] at this
      omega
    refine hk x (List.mem_of_getElem? hx) _ (fun S4 => N acc S4) (fun hp => ⟨hl, hN _ _ ⟨rfl, ?_⟩⟩) (fun hp => hN _ _ ⟨rfl, ?_⟩)
    · rw [List.take_add_one, hx, e2, List.filter_append, List.map_append]
      simp [hp]
    · rw [List.take_add_one, hx, e2, List.filter_append, List.map_append]
      simp [hp]
  · subst e1 e2
    rw [List.take_of_length_le (Nat.le_refl _)]
    exact h
end DL
namespace DL
open PySem L2
theorem pds_map {α : Type} {S : Sto} {f : α → D} {g : α → PyData} (h : ∀ x, PD S (f x) (g x)) : ∀ xs : List α, PDs S (xs.map f) (xs.map g)
  | [] => .nil
  | x :: xs => .cons (h x) (pds_map h xs)
theorem pds_ints {S : Sto} (xs : List Int) : PDs S (xs.map .int) (xs.map .int) := pds_map .int xs
theorem pds_strs {S : Sto} (xs : List Str) : PDs S (xs.map .str) (xs.map .str) := pds_map .str xs
theorem depth_map {α : Type} {g : α → PyData} {n : Nat} (h : ∀ x, (g x).depth ≤ n) : ∀ xs : List α, PyData.depthAll (xs.map g) ≤ n
  | [] => Nat.zero_le _
  | x :: xs => by
    show PyData.depthAll (g x :: xs.map g) ≤ n
    unfold PyData.depthAll
    exact Nat.max_le.mpr ⟨h x, depth_map h xs⟩
theorem depth_ints (xs : List Int) : (PyData.list (xs.map .int)).depth ≤ 64 := by
  have := depth_map (g := PyData.int) (n := 0) (fun _ => Nat.le_refl 0) xs
  show PyData.depthAll _ + 1 ≤ 64
  omega
theorem depth_strs (xs : List Str) : (PyData.list (xs.map .str)).depth ≤ 64 := by
  have := depth_map (g := PyData.str) (n := 0) (fun _ => Nat.le_refl 0) xs
  show PyData.depthAll _ + 1 ≤ 64
  omega
theorem eqv_nil (xs : List PyData) : PyData.eqv (.list xs) (.list []) = xs.isEmpty := by cases xs <;> simp [PyData.eqv, PyData.eqvAll]
/-- xs == [] of a list of the store -/
theorem eq_nil {f : Bool → Bool} {S : Sto} {p q : Addr} {xs : List D} {ps : List PyData} {Q : DK} (h1 : S p = some (.lst xs)) (h2 : S q = some (.lst [])) (hp : PDs S xs ps) (hd : (PyData.list ps).depth ≤ 64) (hq : Q (.bl (f xs.isEmpty)) S) : gEq f (.ref p) (.ref q) S Q := by
  refine ⟨.list ps, .list [], .lst h1 hp, .lst h2 .nil, hd, ?_⟩
  rw [eqv_nil]
  have e : ps.isEmpty = xs.isEmpty := by cases hp <;> rfl
  rw [e]
  exact hq
/-- numbers that may be multiplied -/
theorem mulS {i j : Int} (h1 : -(1000000000000000000000) < i) (h2 : i < 1000000000000000000000) (h3 : -(1000000000000000000000) < j) (h4 : j < 1000000000000000000000) : CMulW i j :=
  wide_mul (a := 80) (b := 80) (by have : (2 : Nat) ^ 80 = 1208925819614629174706176 := by decide
                                   omega) (by have : (2 : Nat) ^ 80 = 1208925819614629174706176 := by decide
                                              omega) (by decide) (by decide) (by decide)
theorem fdivS {i j : Int} (h0 : 0 < j) (h : j < 1000000000000000000000) : CDivW i j :=
  wide_div h0 (b := 80) (by have : (2 : Nat) ^ 80 = 1208925819614629174706176 := by decide
                            omega) (by decide) (by decide)
theorem powS {i : Int} {j : Int} (h0 : 0 ≤ j) (h1 : j ≤ 1000000) (h2 : -(18446744073709551616) < i) (h3 : i < 18446744073709551616) : CPow i j := ⟨h0, h1, by
  have : (2 : Nat) ^ 64 = 18446744073709551616 := by decide
  omega⟩
end DL
namespace DL
open PySem L2
section
variable {f : Bool → Bool} {S : Sto} {Q : DK}
theorem gEq_ii {i j : Int} : gEq f (.int i) (.int j) S Q = Q (.bl (f (decide (i = j)))) S := rfl
theorem gEq_ss {i j : Str} : gEq f (.str i) (.str j) S Q = Q (.bl (f (decide (i = j)))) S := rfl
theorem gEq_bb {i j : Bool} : gEq f (.bl i) (.bl j) S Q = Q (.bl (f (decide (i = j)))) S := rfl
theorem gEq_nn : gEq f .non .non S Q = Q (.bl (f true)) S := rfl
theorem gEq_ni {i : Int} : gEq f .non (.int i) S Q = Q (.bl (f false)) S := rfl
theorem gEq_in {i : Int} : gEq f (.int i) .non S Q = Q (.bl (f false)) S := rfl
theorem gEq_ns {i : Str} : gEq f .non (.str i) S Q = Q (.bl (f false)) S := rfl
theorem gEq_sn {i : Str} : gEq f (.str i) .non S Q = Q (.bl (f false)) S := rfl
theorem gEq_si {i : Str} {j : Int} : gEq f (.str i) (.int j) S Q = Q (.bl (f false)) S := rfl
theorem gEq_is {i : Int} {j : Str} : gEq f (.int i) (.str j) S Q = Q (.bl (f false)) S := rfl
end
end DL
namespace DL
open PySem L2
theorem ret_i {fa : DE} {D0 : DEnds} {σ : Env} {S : Sto} (h : fa σ S D0.rt) : sRet fa D0 σ S := h
theorem for_i {fi : DI} {g : DG} {body : DS} {D0 : DEnds} {σ : Env} {S : Sto} (h : fi σ S fun items stab S1 => forL stab g body D0 items σ S1) : sFor fi g body D0 σ S := h
theorem if_i {ft : DT} {f g : DS} {D0 : DEnds} {σ : Env} {S : Sto} (h : ft σ S fun k S1 => if k = true then f D0 σ S1 else g D0 σ S1) : sIf ft f g D0 σ S := h
theorem asg_i {fa : DE} {g : DG} {D0 : DEnds} {σ : Env} {S : Sto} (h : fa σ S fun x S1 => g x σ S1 D0.nx) : sAsg fa g D0 σ S := h
theorem exp_i {fa : DE} {D0 : DEnds} {σ : Env} {S : Sto} (h : fa σ S fun _ S1 => D0.nx σ S1) : sExpr fa D0 σ S := h
end DL
namespace DL
theorem rangeD_len (lo : Int) (n : Nat) : (rangeD lo n).length = n := by unfold rangeD; rw [List.length_map, List.length_range]
end DL
/-! what the mirrors' words are at known data: rows for simp -/
namespace DL
open PySem L2 PyProof.Rows
section
variable {σ : Env} {S : Sto} {Q : DK} {T : Bool → Sto → Prop} {f g : DE} {p q : Addr} {a b : G2}
/-! tests -/
def vTru (d : D) (S : Sto) (T : Bool → Sto → Prop) : Prop := tTr (eC d) [] S T
def oTru (o : Option O) (S : Sto) (T : Bool → Sto → Prop) : Prop := match o with
  | some (.lst xs) => T (!xs.isEmpty) S
  | some (.dk kvs) => T (!kvs.isEmpty) S
  | none => False
theorem tTr_e : tTr f σ S T = f σ S fun d S1 => vTru d S1 T := rfl
theorem vTru_non : vTru .non S T = T false S := rfl
theorem vTru_bl {k} : vTru (.bl k) S T = T k S := rfl
theorem vTru_int {i} : vTru (.int i) S T = T (i != 0) S := rfl
theorem vTru_str {y} : vTru (.str y) S T = (y.length ≤ sizeLine ∧ T (y.length != 0) S) := rfl
theorem vTru_tup {xs} : vTru (.tup xs) S T = T (!xs.isEmpty) S := rfl
theorem vTru_ref : vTru (.ref p) S T = oTru (S p) S T := by
  show (match S p with | some (.lst xs) => T (!xs.isEmpty) S | some (.dk kvs) => T (!kvs.isEmpty) S | none => False) = _
  unfold oTru
  cases S p with
  | none => rfl
  | some o => cases o <;> rfl
theorem oTru_l {xs} : oTru (some (.lst xs)) S T = T (!xs.isEmpty) S := rfl
theorem oTru_d {xs} : oTru (some (.dk xs)) S T = T (!xs.isEmpty) S := rfl
def vBl (d : D) (S : Sto) (T : Bool → Sto → Prop) : Prop := match d with
  | .bl k => T k S
  | _ => False
theorem tBl_e : tBl f σ S T = f σ S fun d S1 => vBl d S1 T := rfl
theorem vBl_bl {k} : vBl (.bl k) S T = T k S := rfl
/-! values -/
def vNeg (d : D) (S : Sto) (Q : DK) : Prop := eNeg (eC d) [] S Q
theorem eNeg_e : eNeg f σ S Q = f σ S fun d S1 => vNeg d S1 Q := rfl
theorem vNeg_int {i} : vNeg (.int i) S Q = Q (.int (-i)) S := rfl
theorem eChain_e {f2 f3 : DE} : eChain a b f f2 f3 σ S Q = f σ S fun x S1 => f2 σ S1 fun y S2 => a x y S2 fun z S3 => vBl z S3 fun k S3 => if k = true then f3 σ S3 fun u S4 => b y u S4 Q else Q (.bl false) S3 := rfl
theorem eAnd_e : eAnd f g σ S Q = f σ S fun x S1 => vBl x S1 fun k S1 => if k = true then g σ S1 Q else Q (.bl false) S1 := rfl
theorem eOr_e : eOr f g σ S Q = f σ S fun x S1 => vBl x S1 fun k S1 => if k = true then Q (.bl true) S1 else g σ S1 Q := rfl
theorem eNot_e : eNot f σ S Q = f σ S fun x S1 => vBl x S1 fun k S1 => Q (.bl (!k)) S1 := rfl
def vSome (d : D) (S : Sto) (R : Option Int → Sto → Prop) : Prop := oSome (eC d) [] S R
theorem oSome_e {R} : oSome f σ S R = f σ S fun d S1 => vSome d S1 R := rfl
theorem vSome_int {i R} : vSome (.int i) S R = R (some i) S := rfl
theorem gAdd_ii {i j} : gAdd (.int i) (.int j) S Q = Q (.int (i + j)) S := rfl
theorem gAdd_ss {i j} : gAdd (.str i) (.str j) S Q = (i.length + j.length ≤ sizeLine ∧ Q (.str (i ++ j)) S) := rfl
theorem gAdd_tt {xs ys} : gAdd (.tup xs) (.tup ys) S Q = (xs.length + ys.length ≤ sizeLine ∧ Q (.tup (xs ++ ys)) S) := rfl
theorem gAdd_rr : gAdd (.ref p) (.ref q) S Q = ∃ xs ys, S p = some (.lst xs) ∧ S q = some (.lst ys) ∧ xs.length + ys.length ≤ sizeLine ∧ ∀ n, S n = none → Q (.ref n) (updS S n (.lst (xs ++ ys))) := rfl
theorem gI_ii {C : Int → Int → Prop} {h : Int → Int → D} {i j} : gI C h (.int i) (.int j) S Q = (C i j ∧ Q (h i j) S) := rfl
theorem gI0_ii {h : Int → Int → D} {i j} : gI0 h (.int i) (.int j) S Q = Q (h i j) S := rfl
theorem gMulA_ii {i j} : gMulA (.int i) (.int j) S Q = (CMulW i j ∧ Q (.int (i * j)) S) := rfl
theorem gMulA_ri {k} : gMulA (.ref p) (.int k) S Q = ∃ xs, S p = some (.lst xs) ∧ -(2 ^ 63) ≤ k ∧ k < 2 ^ 63 ∧ xs.length * k.toNat ≤ sizeLine ∧ ∀ n, S n = none → Q (.ref n) (updS S n (.lst (List.replicate k.toNat xs).flatten)) := rfl
theorem gMulA_ti {xs k} : gMulA (.tup xs) (.int k) S Q = (xs ≠ [] ∧ 2 ≤ k ∧ k ≤ 1000 ∧ xs.length ≤ 1000 ∧ Q (.tup (List.replicate k.toNat xs).flatten) S) := rfl
theorem gLt_ii {i j} : gLt (.int i) (.int j) S Q = Q (.bl (decide (i < j))) S := rfl
theorem gLt_ss {i j : Str} : gLt (.str i) (.str j) S Q = Q (.bl (decide (i.cps.toList < j.cps.toList))) S := rfl
theorem gIs_n {k : Bool → Bool} {x} : gIs k x .non S Q = Q (.bl (k (isNon x))) S := rfl
theorem gIs_b {k : Bool → Bool} {x c} : gIs k (.bl x) (.bl c) S Q = Q (.bl (k (decide (x = c)))) S := rfl
theorem isNon_n : isNon .non = true := rfl
theorem isNon_b {k} : isNon (.bl k) = false := rfl
theorem isNon_i {k} : isNon (.int k) = false := rfl
theorem isNon_s {k} : isNon (.str k) = false := rfl
theorem isNon_t {k} : isNon (.tup k) = false := rfl
theorem isNon_r : isNon (.ref p) = false := rfl
def oIx (o : Option O) (y : D) (S : Sto) (Q : DK) : Prop := match o with
  | some (.lst xs) => (match y with
    | .int i => ∃ d, atI xs i = some d ∧ Q d S
    | _ => False)
  | some (.dk kvs) => ∃ k d, toKey y = some k ∧ valD kvs k = some d ∧ Q d S
  | none => False
theorem gIx_r {y} : gIx (.ref p) y S Q = oIx (S p) y S Q := by
  unfold gIx oIx
  dsimp only
  all_goals cases S p with
  | none => rfl
  | some o => cases o <;> rfl
theorem oIx_li {xs i} : oIx (some (.lst xs)) (.int i) S Q = ∃ d, atI xs i = some d ∧ Q d S := rfl
theorem oIx_ds {kvs} {x : Str} : oIx (some (.dk kvs)) (.str x) S Q = ∃ d, valD kvs (.inr x) = some d ∧ Q d S := by
  show (∃ k d, some (Sum.inr x) = some k ∧ valD kvs k = some d ∧ Q d S) = _
  simp only [Option.some.injEq, exists_and_left, exists_eq_left']
theorem oIx_di {kvs} {x : Int} : oIx (some (.dk kvs)) (.int x) S Q = ∃ d, valD kvs (.inl x) = some d ∧ Q d S := by
  show (∃ k d, some (Sum.inl x) = some k ∧ valD kvs k = some d ∧ Q d S) = _
  simp only [Option.some.injEq, exists_and_left, exists_eq_left']
theorem gIx_ti {xs i} : gIx (.tup xs) (.int i) S Q = ∃ d, atI xs i = some d ∧ Q d S := rfl
theorem gIx_fi {xs i} : gIx (.fl xs) (.int i) S Q = ∃ d, atI xs i = some d ∧ Q d S := rfl
theorem gIx_si {z i} : gIx (.str z) (.int i) S Q = (z.length ≤ sizeLine ∧ ∃ c, atI z.cps.toList i = some c ∧ Q (.str ⟨#[c]⟩) S) := rfl
theorem gSl_t {xs l h} : gSl (.tup xs) l h S Q = Q (.tup (cutL xs l h)) S := rfl
theorem gSl_s {z l h} : gSl (.str z) l h S Q = (z.length ≤ sizeLine ∧ Q (.str (cutS z l h)) S) := rfl
theorem gSl_f {xs l h} : gSl (.fl xs) l h S Q = ∀ p, S p = none → Q (.ref p) (updS S p (.lst (cutL xs l h))) := rfl
theorem gSl_r {l h} : gSl (.ref p) l h S Q = ∃ xs, S p = some (.lst xs) ∧ ∀ n, S n = none → Q (.ref n) (updS S n (.lst (cutL xs l h))) := rfl
def oIn (k : Bool → Bool) (o : Option O) (x : D) (S : Sto) (Q : DK) : Prop := match o with
  | some (.lst ys) => flatD x = true ∧ ys.all flatD = true ∧ Q (.bl (k (ys.any fun z => eqF z x))) S
  | some (.dk kvs) => ∃ j, toKey x = some j ∧ Q (.bl (k (hasD kvs j))) S
  | none => False
theorem gIn_ss {k : Bool → Bool} {i j} : gIn k (.str i) (.str j) S Q = Q (.bl (k (inStr i j))) S := rfl
theorem gIn_t {k : Bool → Bool} {x ys} : gIn k x (.tup ys) S Q = (flatD x = true ∧ ys.all flatD = true ∧ Q (.bl (k (ys.any fun z => eqF z x))) S) := by cases x <;> rfl
theorem gIn_r {k : Bool → Bool} {x} : gIn k x (.ref p) S Q = oIn k (S p) x S Q := by
  unfold gIn oIn
  dsimp only
  all_goals cases S p with
  | none => rfl
  | some o => cases o <;> rfl
theorem oIn_l {k : Bool → Bool} {x ys} : oIn k (some (.lst ys)) x S Q = (flatD x = true ∧ ys.all flatD = true ∧ Q (.bl (k (ys.any fun z => eqF z x))) S) := rfl
theorem oIn_ds {k : Bool → Bool} {kvs} {x : Str} : oIn k (some (.dk kvs)) (.str x) S Q = Q (.bl (k (hasD kvs (.inr x)))) S := by
  show (∃ j, some (Sum.inr x) = some j ∧ Q (.bl (k (hasD kvs j))) S) = _
  simp only [Option.some.injEq, exists_eq_left']
def oLen (o : Option O) (S : Sto) (Q : DK) : Prop := match o with
  | some (.lst ys) => Q (.int ys.length) S
  | some (.dk kvs) => Q (.int kvs.length) S
  | none => False
theorem gLen_s {z} : gLen [.str z] S Q = (z.length ≤ sizeLine ∧ Q (.int z.length) S) := rfl
theorem gLen_t {xs} : gLen [.tup xs] S Q = Q (.int xs.length) S := rfl
theorem gLen_f {xs} : gLen [.fl xs] S Q = Q (.int xs.length) S := rfl
theorem gLen_r : gLen [.ref p] S Q = oLen (S p) S Q := by
  unfold gLen oLen
  dsimp only
  all_goals cases S p with
  | none => rfl
  | some o => cases o <;> rfl
theorem oLen_l {xs} : oLen (some (.lst xs)) S Q = Q (.int xs.length) S := rfl
theorem oLen_d {xs} : oLen (some (.dk xs)) S Q = Q (.int xs.length) S := rfl
theorem gAbs_i {i} : gAbs [.int i] S Q = Q (.int (if i < 0 then -i else i)) S := rfl
theorem gMax2_ii {i j} : gMax2 [.int i, .int j] S Q = Q (.int (if j > i then j else i)) S := rfl
theorem gMin2_ii {i j} : gMin2 [.int i, .int j] S Q = Q (.int (if j < i then j else i)) S := rfl
theorem gInt1_i {i} : gInt1 [.int i] S Q = Q (.int i) S := rfl
theorem gInt1_b {i} : gInt1 [.bl i] S Q = Q (.int (if i then 1 else 0)) S := rfl
theorem gList_t {xs} : gList [.tup xs] S Q = ∀ p, S p = none → Q (.ref p) (updS S p (.lst xs)) := rfl
theorem gList_f {xs} : gList [.fl xs] S Q = ∀ p, S p = none → Q (.ref p) (updS S p (.lst xs)) := rfl
theorem gList_r : gList [.ref q] S Q = ∃ ys, S q = some (.lst ys) ∧ ∀ p, S p = none → Q (.ref p) (updS S p (.lst ys)) := rfl
theorem gTuple_t {xs} : gTuple [.tup xs] S Q = Q (.tup xs) S := rfl
theorem gTuple_f {xs} : gTuple [.fl xs] S Q = Q (.tup xs) S := rfl
theorem gTuple_r : gTuple [.ref q] S Q = ∃ ys, S q = some (.lst ys) ∧ Q (.tup ys) S := rfl
theorem gSum_r : gSum [.ref q] S Q = ∃ ns : List Int, S q = some (.lst (ns.map .int)) ∧ Q (.int ns.sum) S := rfl
theorem gAll_r {k : List Bool → Bool} : gAll k [.ref q] S Q = ∃ bs : List Bool, S q = some (.lst (bs.map .bl)) ∧ Q (.bl (k bs)) S := rfl
theorem gIsi_x {x n} : gIsi [x, .ty n] S Q = (n ∈ isiCls ∧ ∃ t, tyD x S = some t ∧ Q (.bl (isiN t n)) S) := rfl
def oTy (o : Option O) : Option String := match o with
  | some (.lst _) => some "list"
  | some (.dk _) => some "dict"
  | none => none
theorem tyD_n : tyD .non S = some "NoneType" := rfl
theorem tyD_b {k} : tyD (.bl k) S = some "bool" := rfl
theorem tyD_i {k} : tyD (.int k) S = some "int" := rfl
theorem tyD_s {k} : tyD (.str k) S = some "str" := rfl
theorem tyD_t {k} : tyD (.tup k) S = some "tuple" := rfl
theorem tyD_f {k} : tyD (.fl k) S = some "list" := rfl
theorem tyD_r : tyD (.ref p) S = oTy (S p) := by
  unfold tyD oTy
  dsimp only
  all_goals cases S p with
  | none => rfl
  | some o => cases o <;> rfl
theorem oTy_l {xs} : oTy (some (.lst xs)) = some "list" := rfl
theorem oTy_d {xs} : oTy (some (.dk xs)) = some "dict" := rfl
def oTyM (T : String) (o : Option O) : Prop := match o with
  | some (.lst _) => T = "list"
  | some (.dk _) => T = "dict"
  | none => False
theorem tyM_s {T k} : tyM T (.str k) S = (T = "str") := rfl
theorem tyM_r {T} : tyM T (.ref p) S = oTyM T (S p) := by
  unfold tyM oTyM
  dsimp only
  all_goals cases S p with
  | none => rfl
  | some o => cases o <;> rfl
theorem oTyM_l {T xs} : oTyM T (some (.lst xs)) = (T = "list") := rfl
theorem oTyM_d {T xs} : oTyM T (some (.dk xs)) = (T = "dict") := rfl
theorem gAppend_r {d} : gAppend (.ref p) [d] S Q = ∃ xs, S p = some (.lst xs) ∧ xs.length < sizeLine ∧ Q .non (updS S p (.lst (xs ++ [d]))) := rfl
theorem gPop0_r : gPop0 (.ref p) [] S Q = ∃ xs d, S p = some (.lst xs) ∧ xs[xs.length - 1]? = some d ∧ Q d (updS S p (.lst xs.dropLast)) := rfl
theorem gPopAt_r {i} : gPopAt (.ref p) [.int i] S Q = ∃ xs j d, S p = some (.lst xs) ∧ -(2 ^ 63) ≤ i ∧ i < 2 ^ 63 ∧ seqIndex? i xs.length = some j ∧ xs[j]? = some d ∧ Q d (updS S p (.lst (xs.eraseIdx j))) := rfl
theorem gClear_r : gClear (.ref p) [] S Q = ∃ xs, S p = some (.lst xs) ∧ Q .non (updS S p (.lst [])) := rfl
theorem gReverse_r : gReverse (.ref p) [] S Q = ∃ xs, S p = some (.lst xs) ∧ Q .non (updS S p (.lst xs.reverse)) := rfl
theorem gJoin_r {z} : gJoin (.str z) [.ref p] S Q = ∃ ys : List Str, S p = some (.lst (ys.map .str)) ∧ (ys.map (·.length)).sum + ys.length * z.length ≤ 16777216 ∧ Q (.str (Txt.join z ys)) S := rfl
theorem gUpper_s {z} : gUpper (.str z) [] S Q = (z.length ≤ 5592405 ∧ Q (.str (Txt.upper z)) S) := rfl
theorem gStr_i {i} : gStr [.int i] S Q = (i.natAbs.log2 < 1920 ∧ Q (.str (toString i)) S) := rfl
theorem gSorted_r : gSorted [.ref p] S Q = ((∃ ns : List Int, S p = some (.lst (ns.map .int)) ∧ ∀ ns' : List Int, ns'.Perm ns → ns'.Pairwise (· ≤ ·) → ∀ n, S n = none → Q (.ref n) (updS S n (.lst (ns'.map .int)))) ∨
      ∃ ns : List Str, S p = some (.lst (ns.map .str)) ∧ ns.length < 64 ∧ ∀ ns' : List Str, ns'.Perm ns → sortedS ns' = true → ∀ n, S n = none → Q (.ref n) (updS S n (.lst (ns'.map .str)))) := rfl
/-! what is walked -/
variable {R : List D → (Sto → Prop) → Sto → Prop} {fs : DA}
def vSeq (d : D) (S : Sto) (R : List D → (Sto → Prop) → Sto → Prop) : Prop := iSeq (eC d) [] S R
theorem iSeq_e : iSeq f σ S R = f σ S fun d S1 => vSeq d S1 R := rfl
theorem vSeq_r : vSeq (.ref p) S R = ∃ xs, S p = some (.lst xs) ∧ R xs (fun S => S p = some (.lst xs)) S := rfl
theorem vSeq_f {xs} : vSeq (.fl xs) S R = R xs (fun _ => True) S := rfl
theorem vSeq_t {xs} : vSeq (.tup xs) S R = R xs (fun _ => True) S := rfl
theorem vSeq_s {z} : vSeq (.str z) S R = R (z.cps.toList.map fun c => .str ⟨#[c]⟩) (fun _ => True) S := rfl
def vRng1 (ds : List D) (S : Sto) (R : List D → (Sto → Prop) → Sto → Prop) : Prop := iRange1 (fun _ S Q => Q ds S) [] S R
theorem iRange1_e : iRange1 fs σ S R = fs σ S fun ds S1 => vRng1 ds S1 R := rfl
theorem vRng1_i {j} : vRng1 [.int j] S R = (-(2 ^ 62) ≤ j ∧ j < 2 ^ 62 ∧ R (rangeD 0 j.toNat) (fun _ => True) S) := rfl
def vRng2 (ds : List D) (S : Sto) (R : List D → (Sto → Prop) → Sto → Prop) : Prop := iRange2 (fun _ S Q => Q ds S) [] S R
theorem iRange2_e : iRange2 fs σ S R = fs σ S fun ds S1 => vRng2 ds S1 R := rfl
theorem vRng2_i {i j} : vRng2 [.int i, .int j] S R = ((-(2 ^ 62) ≤ i ∧ i < 2 ^ 62 ∧ -(2 ^ 62) ≤ j ∧ j < 2 ^ 62) ∧ R (rangeD i (j - i).toNat) (fun _ => True) S) := rfl
def vZip (ds : List D) (S : Sto) (R : List D → (Sto → Prop) → Sto → Prop) : Prop := iZipD (fun _ S Q => Q ds S) [] S R
theorem iZipD_e : iZipD fs σ S R = fs σ S fun ds S1 => vZip ds S1 R := rfl
theorem vZip_r : vZip [.ref p, .ref q] S R = ∃ xs ys, S p = some (.lst xs) ∧ S q = some (.lst ys) ∧ R (pairs xs ys) (fun S => S p = some (.lst xs) ∧ S q = some (.lst ys)) S := rfl
theorem vZip_t {xs ys} : vZip [.tup xs, .tup ys] S R = R (pairs xs ys) (fun _ => True) S := rfl
def vEnum (ds : List D) (S : Sto) (R : List D → (Sto → Prop) → Sto → Prop) : Prop := iEnumD (fun _ S Q => Q ds S) [] S R
theorem iEnumD_e : iEnumD fs σ S R = fs σ S fun ds S1 => vEnum ds S1 R := rfl
theorem vEnum_r : vEnum [.ref p] S R = ∃ xs, S p = some (.lst xs) ∧ R (enumD xs) (fun S => S p = some (.lst xs)) S := rfl
/-! targets, stores -/
variable {N : Env → Sto → Prop} {gs : List D → Env → Sto → (Env → Sto → Prop) → Prop} {gg : DG}
theorem nTupL_t {n ds} : nTupL n gs (.tup ds) σ S N = (ds.length = n ∧ gs ds σ S N) := rfl
theorem nTupL_r {n} : nTupL n gs (.ref p) σ S N = ∃ ds, S p = some (.lst ds) ∧ ds.length = n ∧ gs ds σ S N := rfl
theorem nCons_c {d r} : nCons gg gs (d :: r) σ S N = gg d σ S fun σ1 S1 => gs r σ1 S1 N := rfl
theorem nNil_n : nNil [] σ S N = N σ S := rfl
def oPut (o : Option O) (p : Addr) (i d : D) (S : Sto) (N : Sto → Prop) : Prop := match o with
  | some (.dk kvs) => ∃ k, toKey i = some k ∧ kvs.length < sizeLine ∧ N (updS S p (.dk (putD kvs k d)))
  | some (.lst xs) => (match i with
    | .int n => ∃ j, ixN xs.length n = some j ∧ N (updS S p (.lst (xs.set j d)))
    | _ => False)
  | none => False
def vPut (o i d : D) (S : Sto) (N : Sto → Prop) : Prop := match o with
  | .ref p => oPut (S p) p i d S N
  | _ => False
theorem sSub_e {fv fo fi : DE} {D0 : DEnds} : sSub fv fo fi D0 σ S = fv σ S fun d S1 => fo σ S1 fun o S2 => fi σ S2 fun i S3 => vPut o i d S3 (D0.nx σ) := by
  unfold sSub
  refine congrArg (fv σ S) (funext fun d => funext fun S1 => congrArg (fo σ S1) (funext fun o => funext fun S2 => congrArg (fi σ S2) (funext fun i => funext fun S3 => ?_)))
  unfold vPut oPut
  cases o with
  | ref p =>
    dsimp only
    all_goals cases S3 p with
    | none => rfl
    | some u => cases u <;> rfl
  | _ => rfl
theorem vPut_r {i d M} : vPut (.ref p) i d S M = oPut (S p) p i d S M := rfl
theorem oPut_ds {kvs} {x : Str} {d M} : oPut (some (.dk kvs)) p (.str x) d S M = (kvs.length < sizeLine ∧ M (updS S p (.dk (putD kvs (.inr x) d)))) := by
  show (∃ k, some (Sum.inr x) = some k ∧ kvs.length < sizeLine ∧ M (updS S p (.dk (putD kvs k d)))) = _
  simp only [Option.some.injEq, exists_eq_left']
theorem oPut_di {kvs} {x : Int} {d M} : oPut (some (.dk kvs)) p (.int x) d S M = (kvs.length < sizeLine ∧ M (updS S p (.dk (putD kvs (.inl x) d)))) := by
  show (∃ k, some (Sum.inl x) = some k ∧ kvs.length < sizeLine ∧ M (updS S p (.dk (putD kvs k d)))) = _
  simp only [Option.some.injEq, exists_eq_left']
theorem oPut_l {xs n d M} : oPut (some (.lst xs)) p (.int n) d S M = ∃ j, ixN xs.length n = some j ∧ M (updS S p (.lst (xs.set j d))) := rfl
end
end DL
namespace DL
section
variable {n : Env → Sto → Prop} {r : DK} {b c : Env → Sto → Prop}
theorem nx_mk : DEnds.nx ⟨n, r, b, c⟩ = n := id rfl
theorem rt_mk : DEnds.rt ⟨n, r, b, c⟩ = r := id rfl
theorem bk_mk : DEnds.bk ⟨n, r, b, c⟩ = b := id rfl
theorem ct_mk : DEnds.ct ⟨n, r, b, c⟩ = c := id rfl
end
end DL
/-! rows of the mirrors, continued -/
namespace DL
open PySem L2
section
variable {S S1 S' : Sto} {Q : DK} {σ : DL.Env} {p q : Addr} {fo fe ff fa : DE} {m : MF}
theorem gLt2_ii {i j} : gLt2 (.int i) (.int j) S Q = Q (.bl (decide (i < j))) S := rfl
theorem gLt2_ss {i j : Str} : gLt2 (.str i) (.str j) S Q = Q (.bl (decide (i.cps.toList < j.cps.toList))) S := rfl
def vTab (tab : List (Str × Int)) (y : D) (S : Sto) (Q : DK) : Prop := eTab tab (eC y) [] S Q
theorem eTab_e {tab : List (Str × Int)} {f : DE} : eTab tab f σ S Q = f σ S fun y S1 => vTab tab y S1 Q := rfl
theorem vTab_s {tab : List (Str × Int)} {z : Str} : vTab tab (.str z) S Q = ∃ i, tabAt tab z = some i ∧ Q (.int i) S := rfl
def vGet2 (p : Addr) (y z : D) (S : Sto) (Q : DK) : Prop := ∃ kvs k, S p = some (.dk kvs) ∧ toKey y = some k ∧ Q ((valD kvs k).getD z) S
def vGetO (o : D) (S : Sto) (R : Addr → Prop) : Prop := match o with
  | .ref p => (∃ kvs, S p = some (.dk kvs)) ∧ R p
  | _ => False
theorem eGet2_e : eGet2 fo fe ff σ S Q = fo σ S fun o S1 => vGetO o S1 fun p => fe σ S1 fun y S2 => ff σ S2 fun z S3 => vGet2 p y z S3 Q := by
  unfold eGet2 vGetO
  refine congrArg (fo σ S) (funext fun o => funext fun S1 => ?_)
  cases o <;> rfl
theorem vGetO_r {R : Addr → Prop} : vGetO (.ref p) S R = ((∃ kvs, S p = some (.dk kvs)) ∧ R p) := rfl
theorem vGet2_s {x : Str} {z : D} : vGet2 p (.str x) z S Q = ∃ kvs, S p = some (.dk kvs) ∧ Q ((valD kvs (.inr x)).getD z) S := by
  show (∃ kvs k, S p = some (.dk kvs) ∧ some (Sum.inr x) = some k ∧ Q ((valD kvs k).getD z) S) = _
  refine propext ⟨fun ⟨kvs, k, h1, h2, h3⟩ => ?_, fun ⟨kvs, h1, h3⟩ => ⟨kvs, _, h1, rfl, h3⟩⟩
  cases h2
  exact ⟨kvs, h1, h3⟩
end
end DL
namespace LW
open PySem PySem.Spec PyProof.Rows L2 DL
def topS (i : Nat) : Stmt := PySem.Challenge.pw_dykelengths_k08_order_and_days.main.body.getD i (.Pass ⟨0, 0, 0, 0⟩)
def tab_RANKS : List (Str × Int) := [("measure", 0), ("part", 1), ("join", 1), ("forfeit", 1), ("mend", 2), ("alone", 2), ("breach", 3), ("view", 3)]
abbrev s_wpen : Stmt := topS 7
abbrev s_wtake : Stmt := topS 8
abbrev s_wnames : Stmt := topS 9
abbrev s_wsorts : Stmt := topS 10
abbrev s_wdays : Stmt := topS 11
abbrev s_wnumber : Stmt := topS 12
abbrev s_wlaying : Stmt := topS 13
abbrev s_wsome : Stmt := topS 14
abbrev s_wrow_of : Stmt := topS 15
abbrev s_wrow : Stmt := topS 16
abbrev s_wplace : Stmt := topS 17
abbrev s_wsame : Stmt := topS 18
abbrev s_order_of : Stmt := topS 2
abbrev s_goes_ahead : Stmt := topS 3
abbrev s_wboth_right : Stmt := topS 19
abbrev s_up_to : Stmt := topS 5
abbrev s_wdays_right : Stmt := topS 20
abbrev s_law : Stmt := topS 21
noncomputable def b_wpen : DS := (sRet (eDict (pCons (eC (.str "cells")) (eCB gList (aCons (eSl (eVar 0) oNo (oSome (eC (.int 63)))) aNil)) (pCons (eC (.str "at")) (eC (.int 0)) (pCons (eC (.str "left")) (eC (.int 0)) pNil)))))
theorem x_m_wpen : ∃ m : MF, m = fun ds S Q => b_wpen (endsD Q) (startD 1 ds) S := ⟨_, rfl⟩
noncomputable def m_wpen : MF := Classical.choose x_m_wpen
theorem q_m_wpen : m_wpen = fun ds S Q => b_wpen (endsD Q) (startD 1 ds) S := Classical.choose_spec x_m_wpen
theorem e_wpen (a0 : D) (S : Sto) (Q : DK) : m_wpen [a0] S Q = b_wpen (endsD Q) [some a0] S := by rw [q_m_wpen]; rfl
theorem sc_wpen : FnScope ["_law_script"] ["_law_script"] (defScope s_wpen) := ⟨rfl, rfl, rfl, by decide +kernel, rfl, by decide +kernel, by decide +kernel⟩
noncomputable def t_wtake_4 : DS := (sRet (eVar 7))
noncomputable def t_wtake_3 : DS := (sSeq (sSub (eOp gFdiv (eOp gIx (eVar 0) (eC (.str "left"))) (eVar 1)) (eVar 0) (eC (.str "left"))) t_wtake_4)
noncomputable def t_wtake_13 : DS := (sRet (eOp gMod (eCB gAbs (aCons (eVar 4) aNil)) (eVar 1)))
noncomputable def t_wtake_16 : DS := (sRet (eOp gMod (eOp gFdiv (eOp gMod (eOp gMulA (eVar 6) (eOp gAdd (eOp gMod (eVar 5) (eC (.int 64007))) (eC (.int 1)))) (eC (.int 2147483579))) (eC (.int 64))) (eVar 1)))
noncomputable def t_wtake_15 : DS := (sSeq (sAsg (eOp gMod (eOp gPow (eOp gAdd (eOp gAdd (eVar 5) (eOp gMulA (eOp gMulA (eC (.int 1213)) (eVar 2)) (eVar 2))) (eC (.int 3))) (eC (.int 5))) (eC (.int 2147483543))) (nName 6)) t_wtake_16)
noncomputable def t_wtake_14 : DS := (sSeq (sAsg (eOp gMod (eOp gPow (eOp gAdd (eOp gAdd (eOp gMod (eVar 4) (eC (.int 2147483587))) (eOp gMulA (eC (.int 45007)) (eVar 2))) (eC (.int 11))) (eC (.int 3))) (eC (.int 2147483629))) (nName 5)) t_wtake_15)
noncomputable def t_wtake_11 : DS := (sSeq (sIf (tAndD (tBl (eOp gLt2 (eVar 2) (eCB gLen (aCons (eVar 3) aNil)))) (tBl (eOp gGe (eCB gAbs (aCons (eVar 4) aNil)) (eOp gPow (eC (.int 10)) (eC (.int 18)))))) (sSeq (sSub (eOp gFdiv (eCB gAbs (aCons (eVar 4) aNil)) (eVar 1)) (eVar 0) (eC (.str "left"))) t_wtake_13) sNext) t_wtake_14)
noncomputable def t_wtake_9 : DS := (sSeq (sIf (tBl (eOp (gEq not) (eVar 3) (eLst aNil))) (sAsg (eOp gIx (eVar 3) (eOp gMod (eVar 2) (eCB gLen (aCons (eVar 3) aNil)))) (nName 4)) sNext) t_wtake_11)
noncomputable def t_wtake_8 : DS := (sSeq (sAsg (eOp gAdd (eOp gAdd (eOp gMulA (eOp gMulA (eC (.int 70207)) (eVar 2)) (eVar 2)) (eOp gMulA (eC (.int 131)) (eVar 2))) (eC (.int 29))) (nName 4)) t_wtake_9)
noncomputable def t_wtake_7 : DS := (sSeq (sAsg (eOp gIx (eVar 0) (eC (.str "cells"))) (nName 3)) t_wtake_8)
noncomputable def t_wtake_6 : DS := (sSeq (sSub (eOp gAdd (eVar 2) (eC (.int 1))) (eVar 0) (eC (.str "at"))) t_wtake_7)
noncomputable def t_wtake_5 : DS := (sSeq (sAsg (eOp gIx (eVar 0) (eC (.str "at"))) (nName 2)) t_wtake_6)
noncomputable def b_wtake : DS := (sSeq (sIf (tBl (eOp gGt (eOp gIx (eVar 0) (eC (.str "left"))) (eC (.int 0)))) (sSeq (sAsg (eOp gMod (eOp gIx (eVar 0) (eC (.str "left"))) (eVar 1)) (nName 7)) t_wtake_3) sNext) t_wtake_5)
theorem x_m_wtake : ∃ m : MF, m = fun ds S Q => b_wtake (endsD Q) (startD 8 ds) S := ⟨_, rfl⟩
noncomputable def m_wtake : MF := Classical.choose x_m_wtake
theorem q_m_wtake : m_wtake = fun ds S Q => b_wtake (endsD Q) (startD 8 ds) S := Classical.choose_spec x_m_wtake
theorem e_wtake (a0 a1 : D) (S : Sto) (Q : DK) : m_wtake [a0, a1] S Q = b_wtake (endsD Q) [some a0, some a1, none, none, none, none, none, none] S := by rw [q_m_wtake]; rfl
theorem sc_wtake : FnScope ["_law_pen_here", "_law_many", "_law_at", "_law_cells", "_law_cell", "_law_one", "_law_two", "_law_found"] ["_law_pen_here", "_law_many"] (defScope s_wtake) := ⟨rfl, rfl, rfl, by decide +kernel, rfl, by decide +kernel, by decide +kernel⟩
noncomputable def c_wnames_4 : DE := (eOp gIx (eVar 2) (eCall 2 m_wtake (aCons (eVar 0) (aCons (eC (.int 26)) aNil))))
noncomputable def t_wnames_15 : DS := (sAsg (eOp gFdiv (eOp gMns (eVar 11) (eC (.int 1))) (eC (.int 2))) (nName 11))
noncomputable def l_wnames_13 : DS := (sSeq (sAsg (eOp gAdd (eOp gIx (eVar 2) (eOp gMod (eOp gAdd (eVar 4) (eOp gMulA (eC (.int 9)) (eOp gMod (eVar 11) (eC (.int 2))))) (eC (.int 26)))) (eVar 10)) (nName 10)) t_wnames_15)
noncomputable def t_wnames_13 : DS := (sWhile (tBl (eOp gGt (eVar 11) (eC (.int 0)))) l_wnames_13)
noncomputable def t_wnames_12 : DS := (sSeq (sAsg (eOp gAdd (eVar 8) (eC (.int 1))) (nName 11)) t_wnames_13)
noncomputable def t_wnames_16 : DS := (sExpr (eM "list" gAppend (eVar 7) (aCons (eVar 10) aNil)))
noncomputable def t_wnames_10 : DS := (sSeq (sIf (tBl (eOp (gEq id) (eVar 3) (eC (.int 1)))) (sSeq (sAsg (eC (.str "")) (nName 10)) t_wnames_12) sNext) t_wnames_16)
noncomputable def t_wnames_9 : DS := (sSeq (sAsg (eOp gAdd (eOp gAdd (eSl (eVar 5) oNo (oSome (eVar 6))) (eVar 10)) (eSl (eVar 5) (oSome (eVar 6)) oNo)) (nName 10)) t_wnames_10)
noncomputable def l_wnames_7 : DS := (sSeq (sAsg (eOp gAdd (eOp gIx (eVar 2) (eOp gMod (eOp gAdd (eVar 4) (eOp gMulA (eC (.int 7)) (eVar 8))) (eC (.int 26)))) (eOp gIx (eVar 2) (eOp gMod (eOp gAdd (eVar 4) (eOp gFdiv (eVar 8) (eC (.int 26)))) (eC (.int 26))))) (nName 10)) t_wnames_9)
noncomputable def l_wnames_19 : DS := (sIf (tAndD (tBl (eOp (gEq id) (eCall 2 m_wtake (aCons (eVar 0) (aCons (eC (.int 2)) aNil))) (eC (.int 0)))) (tBl (eOp (gIn not) (eOp gIx (eVar 9) (eVar 8)) (eVar 7)))) (sSub (eOp gIx (eVar 9) (eVar 8)) (eVar 7) (eVar 8)) sNext)
noncomputable def t_wnames_22 : DS := (sRet (eVar 7))
noncomputable def t_wnames_18 : DS := (sSeq (sIf (tBl (eOp (gEq id) (eCall 2 m_wtake (aCons (eVar 0) (aCons (eC (.int 4)) aNil))) (eC (.int 0)))) (sFor (iRange1 (aCons (eCB gMin2 (aCons (eVar 1) (aCons (eC (.int 9)) aNil))) aNil)) (nName 8) l_wnames_19) sNext) t_wnames_22)
noncomputable def t_wnames_17 : DS := (sSeq (sAsg (eLst (aCons (eC (.str "as")) (aCons (eC (.str "with")) (aCons (eC (.str "part")) (aCons (eC (.str "field")) (aCons (eC (.str "none")) (aCons (eC (.str "done")) (aCons (eC (.str "write")) (aCons (eC (.str "back")) (aCons (eC (.str "join")) aNil)))))))))) (nName 9)) t_wnames_18)
noncomputable def t_wnames_7 : DS := (sSeq (sFor (iRange1 (aCons (eVar 1) aNil)) (nName 8) l_wnames_7) t_wnames_17)
noncomputable def t_wnames_6 : DS := (sSeq (sAsg (eLst aNil) (nName 7)) t_wnames_7)
noncomputable def t_wnames_5 : DS := (sSeq (sAsg (eCall 2 m_wtake (aCons (eVar 0) (aCons (eOp gAdd (eCB gLen (aCons (eVar 5) aNil)) (eC (.int 1))) aNil))) (nName 6)) t_wnames_6)
noncomputable def t_wnames_4 : DS := (sSeq (sAsg (eM "str" gJoin (eC (.str "")) (aCons (eLc (iRange1 (aCons (eOp gIx (eLst (aCons (eCall 2 m_wtake (aCons (eVar 0) (aCons (eC (.int 7)) aNil))) (aCons (eC (.int 0)) (aCons (eC (.int 6)) aNil)))) (eVar 3)) aNil)) (nName 8) tsYes c_wnames_4 [8]) aNil)) (nName 5)) t_wnames_5)
noncomputable def t_wnames_3 : DS := (sSeq (sAsg (eCall 2 m_wtake (aCons (eVar 0) (aCons (eC (.int 26)) aNil))) (nName 4)) t_wnames_4)
noncomputable def t_wnames_2 : DS := (sSeq (sAsg (eCall 2 m_wtake (aCons (eVar 0) (aCons (eC (.int 3)) aNil))) (nName 3)) t_wnames_3)
noncomputable def b_wnames : DS := (sSeq (sAsg (eC (.str "abcdefghijklmnopqrstuvwxyz")) (nName 2)) t_wnames_2)
theorem x_m_wnames : ∃ m : MF, m = fun ds S Q => b_wnames (endsD Q) (startD 12 ds) S := ⟨_, rfl⟩
noncomputable def m_wnames : MF := Classical.choose x_m_wnames
theorem q_m_wnames : m_wnames = fun ds S Q => b_wnames (endsD Q) (startD 12 ds) S := Classical.choose_spec x_m_wnames
theorem e_wnames (a0 a1 : D) (S : Sto) (Q : DK) : m_wnames [a0, a1] S Q = b_wnames (endsD Q) [some a0, some a1, none, none, none, none, none, none, none, none, none, none] S := by rw [q_m_wnames]; rfl
theorem sc_wnames : FnScope ["_law_pen_here", "_law_many", "_law_letters", "_law_way", "_law_turn", "_law_base", "_law_spot", "_law_found", "_law_k", "_law_terms", "_law_word", "_law_rest"] ["_law_pen_here", "_law_many"] (defScope s_wnames) := ⟨rfl, rfl, rfl, by decide +kernel, rfl, by decide +kernel, by decide +kernel⟩
noncomputable def t_wsorts_3 : DS := (sRet (eTup (aCons (eSl (eVar 5) oNo (oSome (eVar 1))) (aCons (eSl (eVar 5) oNo (oSome (eC (.int 10)))) (aCons (eSl (eVar 5) oNo (oSome (eC (.int 5)))) (aCons (eSl (eVar 5) oNo (oSome (eVar 2))) aNil))))))
noncomputable def t_wsorts_6 : DS := (sRet (eTup (aCons (eCall 2 m_wnames (aCons (eVar 0) (aCons (eVar 1) aNil))) (aCons (eVar 3) (aCons (eVar 4) (aCons (eCall 2 m_wnames (aCons (eVar 0) (aCons (eVar 2) aNil))) aNil))))))
noncomputable def t_wsorts_5 : DS := (sSeq (sAsg (eCall 2 m_wnames (aCons (eVar 0) (aCons (eC (.int 5)) aNil))) (nName 4)) t_wsorts_6)
noncomputable def t_wsorts_4 : DS := (sSeq (sAsg (eCall 2 m_wnames (aCons (eVar 0) (aCons (eC (.int 10)) aNil))) (nName 3)) t_wsorts_5)
noncomputable def b_wsorts : DS := (sSeq (sIf (tBl (eOp (gEq id) (eCall 2 m_wtake (aCons (eVar 0) (aCons (eC (.int 4)) aNil))) (eC (.int 0)))) (sSeq (sAsg (eCall 2 m_wnames (aCons (eVar 0) (aCons (eC (.int 44)) aNil))) (nName 5)) t_wsorts_3) sNext) t_wsorts_4)
theorem x_m_wsorts : ∃ m : MF, m = fun ds S Q => b_wsorts (endsD Q) (startD 6 ds) S := ⟨_, rfl⟩
noncomputable def m_wsorts : MF := Classical.choose x_m_wsorts
theorem q_m_wsorts : m_wsorts = fun ds S Q => b_wsorts (endsD Q) (startD 6 ds) S := Classical.choose_spec x_m_wsorts
theorem e_wsorts (a0 a1 a2 : D) (S : Sto) (Q : DK) : m_wsorts [a0, a1, a2] S Q = b_wsorts (endsD Q) [some a0, some a1, some a2, none, none, none] S := by rw [q_m_wsorts]; rfl
theorem sc_wsorts : FnScope ["_law_pen_here", "_law_fields", "_law_rows", "_law_plots", "_law_houses", "_law_some_here"] ["_law_pen_here", "_law_fields", "_law_rows"] (defScope s_wsorts) := ⟨rfl, rfl, rfl, by decide +kernel, rfl, by decide +kernel, by decide +kernel⟩
noncomputable def c_wdays_3 : DE := (eOp gIx (eVar 3) (eCall 2 m_wtake (aCons (eVar 0) (aCons (eC (.int 6)) aNil))))
noncomputable def l_wdays_5 : DS := (sExpr (eM "list" gAppend (eVar 5) (aCons (eOp gIx (eLst (aCons (eOp gIx (eVar 4) (eCall 2 m_wtake (aCons (eVar 0) (aCons (eCB gLen (aCons (eVar 4) aNil)) aNil)))) (aCons (eCall 2 m_wtake (aCons (eVar 0) (aCons (eC (.int 10000)) aNil))) aNil))) (eCB gInt1 (aCons (eOp (gEq id) (eVar 2) (eC (.int 0))) aNil))) aNil)))
noncomputable def t_wdays_7 : DS := (sRet (eVar 5))
noncomputable def t_wdays_5 : DS := (sSeq (sFor (iRange1 (aCons (eVar 1) aNil)) (nName 6) l_wdays_5) t_wdays_7)
noncomputable def t_wdays_4 : DS := (sSeq (sAsg (eLst aNil) (nName 5)) t_wdays_5)
noncomputable def t_wdays_3 : DS := (sSeq (sAsg (eLc (iRange1 (aCons (eOp gAdd (eC (.int 1)) (eCall 2 m_wtake (aCons (eVar 0) (aCons (eC (.int 4)) aNil)))) aNil)) (nName 6) tsYes c_wdays_3 [6]) (nName 4)) t_wdays_4)
noncomputable def t_wdays_2 : DS := (sSeq (sAsg (eLst (aCons (eC (.int 0)) (aCons (eC (.int 1)) (aCons (eC (.int 9)) (aCons (eC (.int 9999)) (aCons (eCall 2 m_wtake (aCons (eVar 0) (aCons (eC (.int 10000)) aNil))) (aCons (eCall 2 m_wtake (aCons (eVar 0) (aCons (eC (.int 10000)) aNil))) aNil))))))) (nName 3)) t_wdays_3)
noncomputable def b_wdays : DS := (sSeq (sAsg (eCall 2 m_wtake (aCons (eVar 0) (aCons (eC (.int 4)) aNil))) (nName 2)) t_wdays_2)
theorem x_m_wdays : ∃ m : MF, m = fun ds S Q => b_wdays (endsD Q) (startD 7 ds) S := ⟨_, rfl⟩
noncomputable def m_wdays : MF := Classical.choose x_m_wdays
theorem q_m_wdays : m_wdays = fun ds S Q => b_wdays (endsD Q) (startD 7 ds) S := Classical.choose_spec x_m_wdays
theorem e_wdays (a0 a1 : D) (S : Sto) (Q : DK) : m_wdays [a0, a1] S Q = b_wdays (endsD Q) [some a0, some a1, none, none, none, none, none] S := by rw [q_m_wdays]; rfl
theorem sc_wdays : FnScope ["_law_pen_here", "_law_many", "_law_way", "_law_some_here", "_law_few", "_law_found", "_law_k"] ["_law_pen_here", "_law_many"] (defScope s_wdays) := ⟨rfl, rfl, rfl, by decide +kernel, rfl, by decide +kernel, by decide +kernel⟩
noncomputable def t_wnumber_3 : DS := (sRet (eOp gIx (eLst (aCons (eVar 1) (aCons (eVar 2) (aCons (eVar 4) (aCons (eOp gAdd (eVar 1) (eCall 2 m_wtake (aCons (eVar 0) (aCons (eOp gAdd (eOp gMns (eVar 2) (eVar 1)) (eC (.int 1))) aNil)))) aNil))))) (eVar 3)))
noncomputable def t_wnumber_2 : DS := (sSeq (sAsg (eOp gAdd (eVar 1) (eCall 2 m_wtake (aCons (eVar 0) (aCons (eCB gMin2 (aCons (eC (.int 12)) (aCons (eOp gAdd (eOp gMns (eVar 2) (eVar 1)) (eC (.int 1))) aNil))) aNil)))) (nName 4)) t_wnumber_3)
noncomputable def b_wnumber : DS := (sSeq (sAsg (eCall 2 m_wtake (aCons (eVar 0) (aCons (eC (.int 4)) aNil))) (nName 3)) t_wnumber_2)
theorem x_m_wnumber : ∃ m : MF, m = fun ds S Q => b_wnumber (endsD Q) (startD 5 ds) S := ⟨_, rfl⟩
noncomputable def m_wnumber : MF := Classical.choose x_m_wnumber
theorem q_m_wnumber : m_wnumber = fun ds S Q => b_wnumber (endsD Q) (startD 5 ds) S := Classical.choose_spec x_m_wnumber
theorem e_wnumber (a0 a1 a2 : D) (S : Sto) (Q : DK) : m_wnumber [a0, a1, a2] S Q = b_wnumber (endsD Q) [some a0, some a1, some a2, none, none] S := by rw [q_m_wnumber]; rfl
theorem sc_wnumber : FnScope ["_law_pen_here", "_law_bottom", "_law_most", "_law_way", "_law_near"] ["_law_pen_here", "_law_bottom", "_law_most"] (defScope s_wnumber) := ⟨rfl, rfl, rfl, by decide +kernel, rfl, by decide +kernel, by decide +kernel⟩
noncomputable def t_wlaying_4 : DS := (sExpr (eM "list" gAppend (eVar 3) (aCons (eTup (aCons (eVar 4) (aCons (eVar 5) (aCons (eCall 3 m_wnumber (aCons (eVar 0) (aCons (eC (.int 1)) (aCons (eOp gPow (eC (.int 10)) (eC (.int 6))) aNil)))) (aCons (eCall 3 m_wnumber (aCons (eVar 0) (aCons (eC (.int 0)) (aCons (eOp gPow (eC (.int 10)) (eC (.int 7))) aNil)))) aNil))))) aNil)))
noncomputable def l_wlaying_2 : DS := (sSeq (sAsg (eOp gIx (eVar 2) (eCall 2 m_wtake (aCons (eVar 0) (aCons (eCB gLen (aCons (eVar 2) aNil)) aNil)))) (nName 5)) t_wlaying_4)
noncomputable def t_wlaying_5 : DS := (sRet (eCB gTuple (aCons (eVar 3) aNil)))
noncomputable def t_wlaying_2 : DS := (sSeq (sFor (iSeq (eVar 1)) (nName 4) l_wlaying_2) t_wlaying_5)
noncomputable def b_wlaying : DS := (sSeq (sAsg (eLst aNil) (nName 3)) t_wlaying_2)
theorem x_m_wlaying : ∃ m : MF, m = fun ds S Q => b_wlaying (endsD Q) (startD 6 ds) S := ⟨_, rfl⟩
noncomputable def m_wlaying : MF := Classical.choose x_m_wlaying
theorem q_m_wlaying : m_wlaying = fun ds S Q => b_wlaying (endsD Q) (startD 6 ds) S := Classical.choose_spec x_m_wlaying
theorem e_wlaying (a0 a1 a2 : D) (S : Sto) (Q : DK) : m_wlaying [a0, a1, a2] S Q = b_wlaying (endsD Q) [some a0, some a1, some a2, none, none, none] S := by rw [q_m_wlaying]; rfl
theorem sc_wlaying : FnScope ["_law_pen_here", "_law_fields", "_law_houses", "_law_found", "_law_field", "_law_house"] ["_law_pen_here", "_law_fields", "_law_houses"] (defScope s_wlaying) := ⟨rfl, rfl, rfl, by decide +kernel, rfl, by decide +kernel, by decide +kernel⟩
noncomputable def c_wsome_2 : DE := (eM "list" gPopAt (eVar 3) (aCons (eCall 2 m_wtake (aCons (eVar 0) (aCons (eCB gLen (aCons (eVar 3) aNil)) aNil))) aNil))
noncomputable def t_wsome_3 : DS := (sRet (eCB gSorted (aCons (eVar 4) aNil)))
noncomputable def t_wsome_2 : DS := (sSeq (sAsg (eLc (iRange1 (aCons (eVar 2) aNil)) (nName 5) tsYes c_wsome_2 [5]) (nName 4)) t_wsome_3)
noncomputable def b_wsome : DS := (sSeq (sAsg (eCB gList (aCons (eVar 1) aNil)) (nName 3)) t_wsome_2)
theorem x_m_wsome : ∃ m : MF, m = fun ds S Q => b_wsome (endsD Q) (startD 6 ds) S := ⟨_, rfl⟩
noncomputable def m_wsome : MF := Classical.choose x_m_wsome
theorem q_m_wsome : m_wsome = fun ds S Q => b_wsome (endsD Q) (startD 6 ds) S := Classical.choose_spec x_m_wsome
theorem e_wsome (a0 a1 a2 : D) (S : Sto) (Q : DK) : m_wsome [a0, a1, a2] S Q = b_wsome (endsD Q) [some a0, some a1, some a2, none, none, none] S := by rw [q_m_wsome]; rfl
theorem sc_wsome : FnScope ["_law_pen_here", "_law_names_here", "_law_many", "_law_left", "_law_found", "_law_k"] ["_law_pen_here", "_law_names_here", "_law_many"] (defScope s_wsome) := ⟨rfl, rfl, rfl, by decide +kernel, rfl, by decide +kernel, by decide +kernel⟩
noncomputable def c_wrow_of_10 : DE := (eTup (aCons (eVar 15) (aCons (eOp gIx (eVar 12) (eCall 2 m_wtake (aCons (eVar 0) (aCons (eCB gLen (aCons (eVar 12) aNil)) aNil)))) (aCons (eCall 3 m_wnumber (aCons (eVar 0) (aCons (eC (.int 1)) (aCons (eOp gPow (eC (.int 10)) (eC (.int 7))) aNil)))) aNil))))
noncomputable def t_wrow_of_11 : DS := (sRet (eTup (aCons (eVar 1) (aCons (eVar 2) (aCons (eVar 3) (aCons (eVar 5) (aCons (eCB gTuple (aCons (eVar 14) aNil)) aNil)))))))
noncomputable def t_wrow_of_10 : DS := (sSeq (sAsg (eLc (iSeq (eVar 13)) (nName 15) tsYes c_wrow_of_10 [15]) (nName 14)) t_wrow_of_11)
noncomputable def t_wrow_of_8 : DS := (sSeq (sIf (tBl (eOp (gEq id) (eVar 1) (eC (.str "join")))) (sRet (eTup (aCons (eVar 1) (aCons (eVar 2) (aCons (eVar 3) (aCons (eCB gTuple (aCons (eVar 13) aNil)) (aCons (eVar 5) aNil))))))) sNext) t_wrow_of_10)
noncomputable def t_wrow_of_23 : DS := (sRet (eTup (aCons (eVar 1) (aCons (eVar 2) (aCons (eVar 3) (aCons (eVar 8) (aCons (eVar 9) (aCons (eCall 3 m_wnumber (aCons (eVar 0) (aCons (eC (.int 0)) (aCons (eOp gPow (eC (.int 10)) (eC (.int 9))) aNil)))) (aCons (eCall 3 m_wnumber (aCons (eVar 0) (aCons (eC (.int 0)) (aCons (eOp gPow (eC (.int 10)) (eC (.int 6))) aNil)))) aNil)))))))))
noncomputable def t_wrow_of_21 : DS := (sSeq (sIf (tBl (eOp (gEq id) (eVar 1) (eC (.str "view")))) (sRet (eTup (aCons (eVar 1) (aCons (eVar 2) (aCons (eVar 3) (aCons (eVar 8) (aCons (eVar 9) (aCons (eVar 7) aNil)))))))) sNext) t_wrow_of_23)
noncomputable def t_wrow_of_20 : DS := (sSeq (sAsg (eCall 3 m_wnumber (aCons (eVar 0) (aCons (eC (.int 0)) (aCons (eOp gMns (eOp gPow (eC (.int 10)) (eC (.int 7))) (eC (.int 1))) aNil)))) (nName 9)) t_wrow_of_21)
noncomputable def t_wrow_of_18 : DS := (sSeq (sIf (tBl (eOp (gEq id) (eVar 1) (eC (.str "alone")))) (sRet (eTup (aCons (eVar 1) (aCons (eVar 2) (aCons (eVar 3) (aCons (eVar 7) aNil)))))) sNext) t_wrow_of_20)
noncomputable def t_wrow_of_16 : DS := (sSeq (sIf (tBl (eOp (gEq id) (eVar 1) (eC (.str "mend")))) (sRet (eTup (aCons (eVar 1) (aCons (eVar 2) (aCons (eVar 3) (aCons (eVar 7) (aCons (eOp gIx (eVar 12) (eOp gMod (eOp gAdd (eOp gAdd (eVar 6) (eC (.int 1))) (eCall 2 m_wtake (aCons (eVar 0) (aCons (eOp gMns (eCB gLen (aCons (eVar 12) aNil)) (eC (.int 1))) aNil)))) (eCB gLen (aCons (eVar 12) aNil)))) aNil))))))) sNext) t_wrow_of_18)
noncomputable def t_wrow_of_14 : DS := (sSeq (sIf (tBl (eOp (gEq id) (eVar 1) (eC (.str "measure")))) (sRet (eTup (aCons (eVar 1) (aCons (eVar 2) (aCons (eVar 3) (aCons (eVar 8) (aCons (eCall 3 m_wnumber (aCons (eVar 0) (aCons (eC (.int 0)) (aCons (eOp gPow (eC (.int 10)) (eC (.int 7))) aNil)))) aNil))))))) sNext) t_wrow_of_16)
noncomputable def t_wrow_of_12 : DS := (sSeq (sIf (tBl (eOp (gEq id) (eVar 1) (eC (.str "forfeit")))) (sRet (eTup (aCons (eVar 1) (aCons (eVar 2) (aCons (eVar 3) (aCons (eVar 5) (aCons (eVar 7) aNil))))))) sNext) t_wrow_of_14)
noncomputable def t_wrow_of_6 : DS := (sSeq (sIf (tBl (eOp (gIn id) (eVar 1) (eTup (aCons (eC (.str "part")) (aCons (eC (.str "join")) aNil))))) (sSeq (sAsg (eCall 3 m_wsome (aCons (eVar 0) (aCons (eVar 11) (aCons (eOp gIx (eLst (aCons (eC (.int 2)) (aCons (eC (.int 6)) (aCons (eOp gAdd (eC (.int 2)) (eCall 2 m_wtake (aCons (eVar 0) (aCons (eC (.int 5)) aNil)))) aNil)))) (eCall 2 m_wtake (aCons (eVar 0) (aCons (eC (.int 3)) aNil)))) aNil)))) (nName 13)) t_wrow_of_8) sNext) t_wrow_of_12)
noncomputable def t_wrow_of_5 : DS := (sSeq (sAsg (eOp gIx (eVar 10) (eCall 2 m_wtake (aCons (eVar 0) (aCons (eCB gLen (aCons (eVar 10) aNil)) aNil)))) (nName 8)) t_wrow_of_6)
noncomputable def t_wrow_of_4 : DS := (sSeq (sAsg (eOp gIx (eVar 12) (eVar 6)) (nName 7)) t_wrow_of_5)
noncomputable def t_wrow_of_3 : DS := (sSeq (sAsg (eCall 2 m_wtake (aCons (eVar 0) (aCons (eCB gLen (aCons (eVar 12) aNil)) aNil))) (nName 6)) t_wrow_of_4)
noncomputable def t_wrow_of_2 : DS := (sSeq (sAsg (eOp gIx (eVar 11) (eCall 2 m_wtake (aCons (eVar 0) (aCons (eCB gLen (aCons (eVar 11) aNil)) aNil)))) (nName 5)) t_wrow_of_3)
noncomputable def b_wrow_of : DS := (sSeq (sAsg (eVar 4) (nTupL 3 (nCons (nName 10) (nCons (nName 11) (nCons (nName 12) nNil))))) t_wrow_of_2)
theorem x_m_wrow_of : ∃ m : MF, m = fun ds S Q => b_wrow_of (endsD Q) (startD 16 ds) S := ⟨_, rfl⟩
noncomputable def m_wrow_of : MF := Classical.choose x_m_wrow_of
theorem q_m_wrow_of : m_wrow_of = fun ds S Q => b_wrow_of (endsD Q) (startD 16 ds) S := Classical.choose_spec x_m_wrow_of
theorem e_wrow_of (a0 a1 a2 a3 a4 : D) (S : Sto) (Q : DK) : m_wrow_of [a0, a1, a2, a3, a4] S Q = b_wrow_of (endsD Q) [some a0, some a1, some a2, some a3, some a4, none, none, none, none, none, none, none, none, none, none, none] S := by rw [q_m_wrow_of]; rfl
theorem sc_wrow_of : FnScope ["_law_pen_here", "_law_word", "_law_name", "_law_day", "_law_sorts_here", "_law_land", "_law_at", "_law_house", "_law_field", "_law_inch", "_law_fields", "_law_plots", "_law_houses", "_law_some_here", "_law_parts", "_law_one"] ["_law_pen_here", "_law_word", "_law_name", "_law_day", "_law_sorts_here"] (defScope s_wrow_of) := ⟨rfl, rfl, rfl, by decide +kernel, rfl, by decide +kernel, by decide +kernel⟩
noncomputable def t_wrow_2 : DS := (sRet (eCall 5 m_wrow_of (aCons (eVar 0) (aCons (eOp gIx (eVar 4) (eCall 2 m_wtake (aCons (eVar 0) (aCons (eC (.int 10)) aNil)))) (aCons (eVar 1) (aCons (eVar 2) (aCons (eVar 3) aNil)))))))
noncomputable def b_wrow : DS := (sSeq (sAsg (eLst (aCons (eC (.str "part")) (aCons (eC (.str "join")) (aCons (eC (.str "forfeit")) (aCons (eC (.str "measure")) (aCons (eC (.str "mend")) (aCons (eC (.str "alone")) (aCons (eC (.str "breach")) (aCons (eC (.str "view")) (aCons (eC (.str "part")) (aCons (eC (.str "join")) aNil))))))))))) (nName 4)) t_wrow_2)
theorem x_m_wrow : ∃ m : MF, m = fun ds S Q => b_wrow (endsD Q) (startD 5 ds) S := ⟨_, rfl⟩
noncomputable def m_wrow : MF := Classical.choose x_m_wrow
theorem q_m_wrow : m_wrow = fun ds S Q => b_wrow (endsD Q) (startD 5 ds) S := Classical.choose_spec x_m_wrow
theorem e_wrow (a0 a1 a2 a3 : D) (S : Sto) (Q : DK) : m_wrow [a0, a1, a2, a3] S Q = b_wrow (endsD Q) [some a0, some a1, some a2, some a3, none] S := by rw [q_m_wrow]; rfl
theorem sc_wrow : FnScope ["_law_pen_here", "_law_name", "_law_day", "_law_sorts_here", "_law_terms"] ["_law_pen_here", "_law_name", "_law_day", "_law_sorts_here"] (defScope s_wrow) := ⟨rfl, rfl, rfl, by decide +kernel, rfl, by decide +kernel, by decide +kernel⟩
noncomputable def t_wplace_2 : DS := (sRet (eTup (aCons (eOp gIx (eVar 0) (eC (.int 2))) (aCons (eGet2 (eVar 1) (eOp gIx (eVar 0) (eC (.int 0))) (eC (.int 1))) (aCons (eOp gIx (eVar 0) (eC (.int 1))) aNil)))))
noncomputable def b_wplace : DS := (sSeq (sAsg (eDict (pCons (eC (.str "measure")) (eC (.int 0)) (pCons (eC (.str "mend")) (eC (.int 2)) (pCons (eC (.str "alone")) (eC (.int 2)) (pCons (eC (.str "breach")) (eC (.int 3)) (pCons (eC (.str "view")) (eC (.int 3)) pNil)))))) (nName 1)) t_wplace_2)
theorem x_m_wplace : ∃ m : MF, m = fun ds S Q => b_wplace (endsD Q) (startD 2 ds) S := ⟨_, rfl⟩
noncomputable def m_wplace : MF := Classical.choose x_m_wplace
theorem q_m_wplace : m_wplace = fun ds S Q => b_wplace (endsD Q) (startD 2 ds) S := Classical.choose_spec x_m_wplace
theorem e_wplace (a0 : D) (S : Sto) (Q : DK) : m_wplace [a0] S Q = b_wplace (endsD Q) [some a0, none] S := by rw [q_m_wplace]; rfl
theorem sc_wplace : FnScope ["_law_row_here", "_law_ranks"] ["_law_row_here"] (defScope s_wplace) := ⟨rfl, rfl, rfl, by decide +kernel, rfl, by decide +kernel, by decide +kernel⟩
noncomputable def t_wsame_3 : DS := (sRet (eOp (gIs id) (eVar 0) (eC (.bl false))))
noncomputable def b_wsame : DS := (sSeq (sIf (tTr (eVar 1)) (sRet (eOp (gIs id) (eVar 0) (eC (.bl true)))) sNext) t_wsame_3)
theorem x_m_wsame : ∃ m : MF, m = fun ds S Q => b_wsame (endsD Q) (startD 2 ds) S := ⟨_, rfl⟩
noncomputable def m_wsame : MF := Classical.choose x_m_wsame
theorem q_m_wsame : m_wsame = fun ds S Q => b_wsame (endsD Q) (startD 2 ds) S := Classical.choose_spec x_m_wsame
theorem e_wsame (a0 a1 : D) (S : Sto) (Q : DK) : m_wsame [a0, a1] S Q = b_wsame (endsD Q) [some a0, some a1] S := by rw [q_m_wsame]; rfl
theorem sc_wsame : FnScope ["_law_found", "_law_owed"] ["_law_found", "_law_owed"] (defScope s_wsame) := ⟨rfl, rfl, rfl, by decide +kernel, rfl, by decide +kernel, by decide +kernel⟩
noncomputable def b_order_of : DS := (sRet (eTup (aCons (eOp gIx (eVar 0) (eC (.int 2))) (aCons (eTab tab_RANKS (eOp gIx (eVar 0) (eC (.int 0)))) (aCons (eOp gIx (eVar 0) (eC (.int 1))) aNil)))))
theorem x_m_order_of : ∃ m : MF, m = fun ds S Q => b_order_of (endsD Q) (startD 1 ds) S := ⟨_, rfl⟩
noncomputable def m_order_of : MF := Classical.choose x_m_order_of
theorem q_m_order_of : m_order_of = fun ds S Q => b_order_of (endsD Q) (startD 1 ds) S := Classical.choose_spec x_m_order_of
theorem e_order_of (a0 : D) (S : Sto) (Q : DK) : m_order_of [a0] S Q = b_order_of (endsD Q) [some a0] S := by rw [q_m_order_of]; rfl
theorem sc_order_of : FnScope ["row"] ["row"] (defScope s_order_of) := ⟨rfl, rfl, rfl, by decide +kernel, rfl, by decide +kernel, by decide +kernel⟩
noncomputable def b_goes_ahead : DS := (sRet (eOp gLt2 (eCall 1 m_order_of (aCons (eVar 0) aNil)) (eCall 1 m_order_of (aCons (eVar 1) aNil))))
theorem x_m_goes_ahead : ∃ m : MF, m = fun ds S Q => b_goes_ahead (endsD Q) (startD 2 ds) S := ⟨_, rfl⟩
noncomputable def m_goes_ahead : MF := Classical.choose x_m_goes_ahead
theorem q_m_goes_ahead : m_goes_ahead = fun ds S Q => b_goes_ahead (endsD Q) (startD 2 ds) S := Classical.choose_spec x_m_goes_ahead
theorem e_goes_ahead (a0 a1 : D) (S : Sto) (Q : DK) : m_goes_ahead [a0, a1] S Q = b_goes_ahead (endsD Q) [some a0, some a1] S := by rw [q_m_goes_ahead]; rfl
theorem sc_goes_ahead : FnScope ["row", "other"] ["row", "other"] (defScope s_goes_ahead) := ⟨rfl, rfl, rfl, by decide +kernel, rfl, by decide +kernel, by decide +kernel⟩
noncomputable def t_wboth_right_2 : DS := (sRet (eAnd (eCall 2 m_wsame (aCons (eCall 2 m_goes_ahead (aCons (eVar 0) (aCons (eVar 1) aNil))) (aCons (eVar 2) aNil))) (eCall 2 m_wsame (aCons (eCall 2 m_goes_ahead (aCons (eVar 1) (aCons (eVar 0) aNil))) (aCons (eNot (eVar 2)) aNil)))))
noncomputable def b_wboth_right : DS := (sSeq (sAsg (eOp gLt2 (eCall 1 m_wplace (aCons (eVar 0) aNil)) (eCall 1 m_wplace (aCons (eVar 1) aNil))) (nName 2)) t_wboth_right_2)
theorem x_m_wboth_right : ∃ m : MF, m = fun ds S Q => b_wboth_right (endsD Q) (startD 3 ds) S := ⟨_, rfl⟩
noncomputable def m_wboth_right : MF := Classical.choose x_m_wboth_right
theorem q_m_wboth_right : m_wboth_right = fun ds S Q => b_wboth_right (endsD Q) (startD 3 ds) S := Classical.choose_spec x_m_wboth_right
theorem e_wboth_right (a0 a1 : D) (S : Sto) (Q : DK) : m_wboth_right [a0, a1] S Q = b_wboth_right (endsD Q) [some a0, some a1, none] S := by rw [q_m_wboth_right]; rfl
theorem sc_wboth_right : FnScope ["_law_one", "_law_other", "_law_owed"] ["_law_one", "_law_other"] (defScope s_wboth_right) := ⟨rfl, rfl, rfl, by decide +kernel, rfl, by decide +kernel, by decide +kernel⟩
noncomputable def c_up_to_1 : DE := (eVar 2)
noncomputable def b_up_to : DS := (sRet (eCB gLen (aCons (eLc (iSeq (eOp gIx (eVar 0) (eC (.int 1)))) (nName 2) (tBl (eOp gLe (eOp gIx (eVar 2) (eC (.int 2))) (eVar 1))) c_up_to_1 [2]) aNil)))
theorem x_m_up_to : ∃ m : MF, m = fun ds S Q => b_up_to (endsD Q) (startD 3 ds) S := ⟨_, rfl⟩
noncomputable def m_up_to : MF := Classical.choose x_m_up_to
theorem q_m_up_to : m_up_to = fun ds S Q => b_up_to (endsD Q) (startD 3 ds) S := Classical.choose_spec x_m_up_to
theorem e_up_to (a0 a1 : D) (S : Sto) (Q : DK) : m_up_to [a0, a1] S Q = b_up_to (endsD Q) [some a0, some a1, none] S := by rw [q_m_up_to]; rfl
theorem sc_up_to : FnScope ["roll", "day", "row"] ["roll", "day"] (defScope s_up_to) := ⟨rfl, rfl, rfl, by decide +kernel, rfl, by decide +kernel, by decide +kernel⟩
noncomputable def l_wdays_right_2 : DS := (sAsg (eOp gAdd (eVar 1) (eLst (aCons (eCB gMax2 (aCons (eC (.int 0)) (aCons (eOp gMns (eOp gIx (eVar 2) (eC (.int 2))) (eC (.int 1))) aNil))) (aCons (eOp gIx (eVar 2) (eC (.int 2))) (aCons (eCB gMin2 (aCons (eC (.int 9999)) (aCons (eOp gAdd (eOp gIx (eVar 2) (eC (.int 2))) (eC (.int 1))) aNil))) aNil))))) (nName 1))
noncomputable def c_wdays_right_6 : DE := (eVar 2)
noncomputable def t_wdays_right_7 : DS := (sIf (tOrD (tNotD (tTr (eCB gIsi (aCons (eVar 4) (aCons (eC (.ty "int")) aNil))))) (tOrD (tTr (eCB gIsi (aCons (eVar 4) (aCons (eC (.ty "bool")) aNil)))) (tBl (eOp (gEq not) (eVar 4) (eVar 5))))) (sRet (eC (.bl false))) sNext)
noncomputable def t_wdays_right_6 : DS := (sSeq (sAsg (eCB gLen (aCons (eLc (iSeq (eOp gIx (eVar 0) (eC (.int 1)))) (nName 2) (tBl (eOp gLe (eOp gIx (eVar 2) (eC (.int 2))) (eVar 3))) c_wdays_right_6 [2]) aNil)) (nName 5)) t_wdays_right_7)
noncomputable def l_wdays_right_4 : DS := (sSeq (sAsg (eCall 2 m_up_to (aCons (eVar 0) (aCons (eVar 3) aNil))) (nName 4)) t_wdays_right_6)
noncomputable def t_wdays_right_9 : DS := (sRet (eC (.bl true)))
noncomputable def t_wdays_right_4 : DS := (sSeq (sFor (iSeq (eVar 1)) (nName 3) l_wdays_right_4) t_wdays_right_9)
noncomputable def t_wdays_right_2 : DS := (sSeq (sFor (iSeq (eOp gIx (eVar 0) (eC (.int 1)))) (nName 2) l_wdays_right_2) t_wdays_right_4)
noncomputable def b_wdays_right : DS := (sSeq (sAsg (eLst (aCons (eC (.int 0)) (aCons (eC (.int 9999)) aNil))) (nName 1)) t_wdays_right_2)
theorem x_m_wdays_right : ∃ m : MF, m = fun ds S Q => b_wdays_right (endsD Q) (startD 6 ds) S := ⟨_, rfl⟩
noncomputable def m_wdays_right : MF := Classical.choose x_m_wdays_right
theorem q_m_wdays_right : m_wdays_right = fun ds S Q => b_wdays_right (endsD Q) (startD 6 ds) S := Classical.choose_spec x_m_wdays_right
theorem e_wdays_right (a0 : D) (S : Sto) (Q : DK) : m_wdays_right [a0] S Q = b_wdays_right (endsD Q) [some a0, none, none, none, none, none] S := by rw [q_m_wdays_right]; rfl
theorem sc_wdays_right : FnScope ["_law_roll", "_law_some_here", "_law_row_here", "_law_day", "_law_found", "_law_owed"] ["_law_roll"] (defScope s_wdays_right) := ⟨rfl, rfl, rfl, by decide +kernel, rfl, by decide +kernel, by decide +kernel⟩
noncomputable def c_law_6 : DE := (eCall 4 m_wrow (aCons (eVar 1) (aCons (eOp gIx (eVar 12) (eVar 7)) (aCons (eOp gIx (eVar 3) (eVar 7)) (aCons (eTup (aCons (eVar 9) (aCons (eVar 10) (aCons (eVar 11) aNil)))) aNil)))))
noncomputable def l_law_9 : DS := (sIf (tNotD (tTr (eCall 2 m_wboth_right (aCons (eOp gIx (eVar 5) (eVar 7)) (aCons (eOp gIx (eVar 5) (eOp gAdd (eVar 7) (eC (.int 1)))) aNil))))) (sRet (eC (.bl false))) sNext)
noncomputable def l_law_15 : DS := (sIf (tNotD (tTr (eCall 2 m_wboth_right (aCons (eVar 8) (aCons (eVar 13) aNil))))) (sRet (eC (.bl false))) sNext)
noncomputable def l_law_14 : DS := (sFor (iSeq (eVar 5)) (nName 13) l_law_15)
noncomputable def t_law_18 : DS := (sRet (eCall 1 m_wdays_right (aCons (eTup (aCons (eVar 4) (aCons (eCB gTuple (aCons (eVar 5) aNil)) aNil))) aNil)))
noncomputable def t_law_14 : DS := (sSeq (sFor (iSeq (eVar 6)) (nName 8) l_law_14) t_law_18)
noncomputable def t_law_12 : DS := (sSeq (sIf (tAndD (tBl (eOp gGt (eCB gLen (aCons (eVar 5) aNil)) (eC (.int 1)))) (tNotD (tTr (eCall 2 m_wboth_right (aCons (eOp gIx (eVar 5) (eC (.int 0))) (aCons (eOp gIx (eVar 5) (eNeg (eC (.int 1)))) aNil)))))) (sRet (eC (.bl false))) sNext) t_law_14)
noncomputable def t_law_9 : DS := (sSeq (sFor (iRange1 (aCons (eOp gMns (eCB gLen (aCons (eVar 5) aNil)) (eC (.int 1))) aNil)) (nName 7) l_law_9) t_law_12)
noncomputable def t_law_8 : DS := (sSeq (sAsg (eSortK m_wplace (eSl (eVar 5) oNo (oSome (eVar 2)))) (nName 5)) t_law_9)
noncomputable def t_law_7 : DS := (sSeq (sAsg (eOp gAdd (eSl (eVar 5) (oSome (eCB gMax2 (aCons (eC (.int 36)) (aCons (eVar 2) aNil)))) oNo) (eSl (eVar 5) (oSome (eVar 2)) (oSome (eCB gMin2 (aCons (eOp gAdd (eVar 2) (eC (.int 4))) (aCons (eC (.int 36)) aNil)))))) (nName 6)) t_law_8)
noncomputable def t_law_6 : DS := (sSeq (sAsg (eLc (iRange1 (aCons (eC (.int 44)) aNil)) (nName 7) tsYes c_law_6 [7]) (nName 5)) t_law_7)
noncomputable def t_law_5 : DS := (sSeq (sAsg (eCall 3 m_wlaying (aCons (eVar 1) (aCons (eVar 9) (aCons (eVar 11) aNil)))) (nName 4)) t_law_6)
noncomputable def t_law_4 : DS := (sSeq (sAsg (eCall 2 m_wdays (aCons (eVar 1) (aCons (eC (.int 44)) aNil))) (nName 3)) t_law_5)
noncomputable def t_law_3 : DS := (sSeq (sAsg (eCall 3 m_wsorts (aCons (eVar 1) (aCons (eOp gAdd (eC (.int 1)) (eCall 2 m_wtake (aCons (eVar 1) (aCons (eC (.int 8)) aNil)))) (aCons (eC (.int 44)) aNil)))) (nTupL 4 (nCons (nName 9) (nCons (nName 10) (nCons (nName 11) (nCons (nName 12) nNil)))))) t_law_4)
noncomputable def t_law_2 : DS := (sSeq (sAsg (eOp gIx (eLst (aCons (eC (.int 40)) (aCons (eC (.int 0)) (aCons (eCall 2 m_wtake (aCons (eVar 1) (aCons (eC (.int 41)) aNil))) (aCons (eOp gAdd (eC (.int 2)) (eCall 2 m_wtake (aCons (eVar 1) (aCons (eC (.int 9)) aNil)))) aNil))))) (eCall 2 m_wtake (aCons (eVar 1) (aCons (eC (.int 4)) aNil)))) (nName 2)) t_law_3)
noncomputable def b_law : DS := (sSeq (sAsg (eCall 1 m_wpen (aCons (eVar 0) aNil)) (nName 1)) t_law_2)
theorem x_m_law : ∃ m : MF, m = fun ds S Q => b_law (endsD Q) (startD 14 ds) S := ⟨_, rfl⟩
noncomputable def m_law : MF := Classical.choose x_m_law
theorem q_m_law : m_law = fun ds S Q => b_law (endsD Q) (startD 14 ds) S := Classical.choose_spec x_m_law
theorem e_law (a0 : D) (S : Sto) (Q : DK) : m_law [a0] S Q = b_law (endsD Q) [some a0, none, none, none, none, none, none, none, none, none, none, none, none, none] S := by rw [q_m_law]; rfl
theorem sc_law : FnScope ["_law_script", "_law_pen_here", "_law_many", "_law_days_here", "_law_laying_here", "_law_rows", "_law_others", "_law_k", "_law_one", "_law_fields", "_law_plots", "_law_houses", "_law_names_here", "_law_row_here"] ["_law_script"] (defScope s_law) := ⟨rfl, rfl, rfl, by decide +kernel, rfl, by decide +kernel, by decide +kernel⟩
structure Txt (w : World) (K : PySem.W.Frag) (mg : Str → Option Value) : Prop where
  f_wpen : FT K mg "_law_pen" s_wpen ["_law_script"]
  f_wtake : FT K mg "_law_take" s_wtake ["_law_pen_here", "_law_many"]
  f_wnames : FT K mg "_law_names" s_wnames ["_law_pen_here", "_law_many"]
  f_wsorts : FT K mg "_law_sorts" s_wsorts ["_law_pen_here", "_law_fields", "_law_rows"]
  f_wdays : FT K mg "_law_days" s_wdays ["_law_pen_here", "_law_many"]
  f_wnumber : FT K mg "_law_number" s_wnumber ["_law_pen_here", "_law_bottom", "_law_most"]
  f_wlaying : FT K mg "_law_laying" s_wlaying ["_law_pen_here", "_law_fields", "_law_houses"]
  f_wsome : FT K mg "_law_some" s_wsome ["_law_pen_here", "_law_names_here", "_law_many"]
  f_wrow_of : FT K mg "_law_row_of" s_wrow_of ["_law_pen_here", "_law_word", "_law_name", "_law_day", "_law_sorts_here"]
  f_wrow : FT K mg "_law_row" s_wrow ["_law_pen_here", "_law_name", "_law_day", "_law_sorts_here"]
  f_wplace : FT K mg "_law_place" s_wplace ["_law_row_here"]
  f_wsame : FT K mg "_law_same" s_wsame ["_law_found", "_law_owed"]
  f_order_of : FT K mg "order_of" s_order_of ["row"]
  f_goes_ahead : FT K mg "goes_ahead" s_goes_ahead ["row", "other"]
  f_wboth_right : FT K mg "_law_both_right" s_wboth_right ["_law_one", "_law_other"]
  f_up_to : FT K mg "up_to" s_up_to ["roll", "day"]
  f_wdays_right : FT K mg "_law_days_right" s_wdays_right ["_law_roll"]
  f_law : FT K mg "law" s_law ["_law_script"]
  n_range : mg "range" = none
  n_max : mg "max" = none
  n_min : mg "min" = none
  n_sorted : mg "sorted" = none
  n_len : mg "len" = none
  n_tuple : mg "tuple" = none
  n_list : mg "list" = none
  n_abs : mg "abs" = none
  n_int : mg "int" = none
  n_isinstance : mg "isinstance" = none
  n_bool : mg "bool" = none
  t_RANKS : TabC K w mg "RANKS" tab_RANKS
section
variable {P : Program} {w : World} {K : PySem.W.Frag} {mg : Str → Option Value} {base : Heap}
theorem ok_wpen (T : Txt w K mg) : Okf P w K mg base 1 "_law_pen" 1 m_wpen := by
  have Sc := sc_wpen
  refine okf_of (b := b_wpen) T.f_wpen Sc (fun ds S Q => by rw [q_m_wpen]; rfl) fun f cdv A outer s H E hr => ?_
  have hu := hu_of hr
  exact (ss_one (s_ret (c_dict (ps_cons0 c_str (c_callTy y_list (by rfl) T.n_list (by decide +kernel) (a_cons (c_sl (c_var 0) p_none (p_some c_int)) a_nil)) (ps_cons0 c_str c_int (ps_cons0 c_str c_int ps_nil0))) (by rfl) (by rfl) (fun z => by cases z) (by decide))))
theorem ok_wtake (T : Txt w K mg) : Okf P w K mg base 1 "_law_take" 2 m_wtake := by
  have Sc := sc_wtake
  refine okf_of (b := b_wtake) T.f_wtake Sc (fun ds S Q => by rw [q_m_wtake]; rfl) fun f cdv A outer s H E hr => ?_
  have hu := hu_of hr
  exact (ss_cons (s_if (k_cmp o_gt (c_ix hu (c_var 0) c_str) c_int (nomark _)) (ss_cons (s_set (i := 7) Sc.nd rfl (by first | exact .inl rfl | exact .inr rfl) (c_mod (c_ix hu (c_var 0) c_str) (c_var 1))) (ss_cons (s_sub hu (c_fdiv (c_ix hu (c_var 0) c_str) (c_var 1)) (c_var 0) c_str) (ss_one (s_ret (c_var 7))))) ss_nil) (ss_cons (s_set (i := 2) Sc.nd rfl (by first | exact .inl rfl | exact .inr rfl) (c_ix hu (c_var 0) c_str)) (ss_cons (s_sub hu (c_add (c_var 2) c_int) (c_var 0) c_str) (ss_cons (s_set (i := 3) Sc.nd rfl (by first | exact .inl rfl | exact .inr rfl) (c_ix hu (c_var 0) c_str)) (ss_cons (s_set (i := 4) Sc.nd rfl (by first | exact .inl rfl | exact .inr rfl) (c_add (c_add (c_mulA (c_mulA c_int (c_var 2)) (c_var 2)) (c_mulA c_int (c_var 2))) c_int)) (ss_cons (s_if (k_cmp (o_ne hr.units) (c_var 3) (c_lst a_nil) (nomark _)) (ss_one (s_set (i := 4) Sc.nd rfl (by first | exact .inl rfl | exact .inr rfl) (c_ix hu (c_var 3) (c_mod (c_var 2) (c_callB b_len (by rfl) T.n_len (by decide +kernel) (a_cons (c_var 3) a_nil)))))) ss_nil) (ss_cons (s_if (k_w (w_and (k_cmp (o_lt2 hr.units) (c_var 2) (c_callB b_len (by rfl) T.n_len (by decide +kernel) (a_cons (c_var 3) a_nil)) (nomark _)) (w_and1 (k_cmp o_ge (c_callB b_abs (by rfl) T.n_abs (by decide +kernel) (a_cons (c_var 4) a_nil)) (c_pow c_int c_int) (nomark _))))) (ss_cons (s_sub hu (c_fdiv (c_callB b_abs (by rfl) T.n_abs (by decide +kernel) (a_cons (c_var 4) a_nil)) (c_var 1)) (c_var 0) c_str) (ss_one (s_ret (c_mod (c_callB b_abs (by rfl) T.n_abs (by decide +kernel) (a_cons (c_var 4) a_nil)) (c_var 1))))) ss_nil) (ss_cons (s_set (i := 5) Sc.nd rfl (by first | exact .inl rfl | exact .inr rfl) (c_mod (c_pow (c_add (c_add (c_mod (c_var 4) c_int) (c_mulA c_int (c_var 2))) c_int) c_int) c_int)) (ss_cons (s_set (i := 6) Sc.nd rfl (by first | exact .inl rfl | exact .inr rfl) (c_mod (c_pow (c_add (c_add (c_var 5) (c_mulA (c_mulA c_int (c_var 2)) (c_var 2))) c_int) c_int) c_int)) (ss_one (s_ret (c_mod (c_fdiv (c_mod (c_mulA (c_var 6) (c_add (c_mod (c_var 5) c_int) c_int)) c_int) c_int) (c_var 1)))))))))))))
theorem ok_wnames (T : Txt w K mg) : Okf P w K mg base 2 "_law_names" 2 m_wnames := by
  have Sc := sc_wnames
  refine okf_of (b := b_wnames) T.f_wnames Sc (fun ds S Q => by rw [q_m_wnames]; rfl) fun f cdv A outer s H E hr => ?_
  have hu := hu_of hr
  exact (ss_cons (s_set (i := 2) Sc.nd rfl (by first | exact .inl rfl | exact .inr rfl) c_str) (ss_cons (s_set (i := 3) Sc.nd rfl (by first | exact .inl rfl | exact .inr rfl) (c_fn hr (ok_wtake T) (by decide) (a_cons (c_var 0) (a_cons c_int a_nil)))) (ss_cons (s_set (i := 4) Sc.nd rfl (by first | exact .inl rfl | exact .inr rfl) (c_fn hr (ok_wtake T) (by decide) (a_cons (c_var 0) (a_cons c_int a_nil)))) (ss_cons (s_set (i := 5) Sc.nd rfl (by first | exact .inl rfl | exact .inr rfl) (c_m m_join c_str (a_cons (c_lc (own := [("_law_k", 8)]) (gown := [8]) rfl Sc.nd (i_range1 (by rfl) T.n_range (a_cons (c_ix hu (c_lst (a_cons (c_fn hr (ok_wtake T) (by decide) (a_cons (c_var 0) (a_cons c_int a_nil))) (a_cons c_int (a_cons c_int a_nil)))) (c_var 3)) a_nil)) (blkOk_by (N := ["_law_pen_here", "_law_many", "_law_letters", "_law_way", "_law_turn", "_law_base", "_law_spot", "_law_found", "_law_k", "_law_terms", "_law_word", "_law_rest"]) (sc := defScope s_wnames) (by decide +kernel)) (fun _ _ _ _ _ => (g_name (i := 8) Sc.nd rfl (by first | exact .inl rfl | exact .inr rfl))) (by decide) (fun _ _ _ _ _ => ts_nil) (fun _ _ _ _ _ => (c_ix hu (c_var 2) (c_fn hr (ok_wtake T) (by decide) (a_cons (c_var 0) (a_cons c_int a_nil)))))) a_nil))) (ss_cons (s_set (i := 6) Sc.nd rfl (by first | exact .inl rfl | exact .inr rfl) (c_fn hr (ok_wtake T) (by decide) (a_cons (c_var 0) (a_cons (c_add (c_callB b_len (by rfl) T.n_len (by decide +kernel) (a_cons (c_var 5) a_nil)) c_int) a_nil)))) (ss_cons (s_set (i := 7) Sc.nd rfl (by first | exact .inl rfl | exact .inr rfl) (c_lst a_nil)) (ss_cons (s_for PassesOwn.never rfl (i_range1 (by rfl) T.n_range (a_cons (c_var 1) a_nil)) (g_name (i := 8) Sc.nd rfl (by first | exact .inl rfl | exact .inr rfl)) (ss_cons (s_set (i := 10) Sc.nd rfl (by first | exact .inl rfl | exact .inr rfl) (c_add (c_ix hu (c_var 2) (c_mod (c_add (c_var 4) (c_mulA c_int (c_var 8))) c_int)) (c_ix hu (c_var 2) (c_mod (c_add (c_var 4) (c_fdiv (c_var 8) c_int)) c_int)))) (ss_cons (s_set (i := 10) Sc.nd rfl (by first | exact .inl rfl | exact .inr rfl) (c_add (c_add (c_sl (c_var 5) p_none (p_some (c_var 6))) (c_var 10)) (c_sl (c_var 5) (p_some (c_var 6)) p_none))) (ss_cons (s_if (k_cmp (o_eq hr.units) (c_var 3) c_int (nomark _)) (ss_cons (s_set (i := 10) Sc.nd rfl (by first | exact .inl rfl | exact .inr rfl) c_str) (ss_cons (s_set (i := 11) Sc.nd rfl (by first | exact .inl rfl | exact .inr rfl) (c_add (c_var 8) c_int)) (ss_one (s_while PassesOwn.never (k_cmp o_gt (c_var 11) c_int (nomark _)) (ss_cons (s_set (i := 10) Sc.nd rfl (by first | exact .inl rfl | exact .inr rfl) (c_add (c_ix hu (c_var 2) (c_mod (c_add (c_var 4) (c_mulA c_int (c_mod (c_var 11) c_int))) c_int)) (c_var 10))) (ss_one (s_set (i := 11) Sc.nd rfl (by first | exact .inl rfl | exact .inr rfl) (c_fdiv (c_sub (c_var 11) c_int) c_int)))))))) ss_nil) (ss_one (s_expr (c_m m_append (c_var 7) (a_cons (c_var 10) a_nil)))))))) (ss_cons (s_set (i := 9) Sc.nd rfl (by first | exact .inl rfl | exact .inr rfl) (c_lst (a_cons c_str (a_cons c_str (a_cons c_str (a_cons c_str (a_cons c_str (a_cons c_str (a_cons c_str (a_cons c_str (a_cons c_str a_nil))))))))))) (ss_cons (s_if (k_cmp (o_eq hr.units) (c_fn hr (ok_wtake T) (by decide) (a_cons (c_var 0) (a_cons c_int a_nil))) c_int (nomark _)) (ss_one (s_for PassesOwn.never rfl (i_range1 (by rfl) T.n_range (a_cons (c_callB (b_min2 rfl) (by rfl) T.n_min (by decide +kernel) (a_cons (c_var 1) (a_cons c_int a_nil))) a_nil)) (g_name (i := 8) Sc.nd rfl (by first | exact .inl rfl | exact .inr rfl)) (ss_one (s_if (k_w (w_and (k_cmp (o_eq hr.units) (c_fn hr (ok_wtake T) (by decide) (a_cons (c_var 0) (a_cons c_int a_nil))) c_int (nomark _)) (w_and1 (k_cmp (o_notIn hu) (c_ix hu (c_var 9) (c_var 8)) (c_var 7) (by with_unfolding_all rfl))))) (ss_one (s_sub hu (c_ix hu (c_var 9) (c_var 8)) (c_var 7) (c_var 8))) ss_nil)))) ss_nil) (ss_one (s_ret (c_var 7))))))))))))
theorem ok_wsorts (T : Txt w K mg) : Okf P w K mg base 3 "_law_sorts" 3 m_wsorts := by
  have Sc := sc_wsorts
  refine okf_of (b := b_wsorts) T.f_wsorts Sc (fun ds S Q => by rw [q_m_wsorts]; rfl) fun f cdv A outer s H E hr => ?_
  have hu := hu_of hr
  exact (ss_cons (s_if (k_cmp (o_eq hr.units) (c_fn hr (ok_wtake T) (by decide) (a_cons (c_var 0) (a_cons c_int a_nil))) c_int (nomark _)) (ss_cons (s_set (i := 5) Sc.nd rfl (by first | exact .inl rfl | exact .inr rfl) (c_fn hr (ok_wnames T) (by decide) (a_cons (c_var 0) (a_cons c_int a_nil)))) (ss_one (s_ret (c_tup (a_cons (c_sl (c_var 5) p_none (p_some (c_var 1))) (a_cons (c_sl (c_var 5) p_none (p_some c_int)) (a_cons (c_sl (c_var 5) p_none (p_some c_int)) (a_cons (c_sl (c_var 5) p_none (p_some (c_var 2))) a_nil)))))))) ss_nil) (ss_cons (s_set (i := 3) Sc.nd rfl (by first | exact .inl rfl | exact .inr rfl) (c_fn hr (ok_wnames T) (by decide) (a_cons (c_var 0) (a_cons c_int a_nil)))) (ss_cons (s_set (i := 4) Sc.nd rfl (by first | exact .inl rfl | exact .inr rfl) (c_fn hr (ok_wnames T) (by decide) (a_cons (c_var 0) (a_cons c_int a_nil)))) (ss_one (s_ret (c_tup (a_cons (c_fn hr (ok_wnames T) (by decide) (a_cons (c_var 0) (a_cons (c_var 1) a_nil))) (a_cons (c_var 3) (a_cons (c_var 4) (a_cons (c_fn hr (ok_wnames T) (by decide) (a_cons (c_var 0) (a_cons (c_var 2) a_nil))) a_nil))))))))))
theorem ok_wdays (T : Txt w K mg) : Okf P w K mg base 2 "_law_days" 2 m_wdays := by
  have Sc := sc_wdays
  refine okf_of (b := b_wdays) T.f_wdays Sc (fun ds S Q => by rw [q_m_wdays]; rfl) fun f cdv A outer s H E hr => ?_
  have hu := hu_of hr
  exact (ss_cons (s_set (i := 2) Sc.nd rfl (by first | exact .inl rfl | exact .inr rfl) (c_fn hr (ok_wtake T) (by decide) (a_cons (c_var 0) (a_cons c_int a_nil)))) (ss_cons (s_set (i := 3) Sc.nd rfl (by first | exact .inl rfl | exact .inr rfl) (c_lst (a_cons c_int (a_cons c_int (a_cons c_int (a_cons c_int (a_cons (c_fn hr (ok_wtake T) (by decide) (a_cons (c_var 0) (a_cons c_int a_nil))) (a_cons (c_fn hr (ok_wtake T) (by decide) (a_cons (c_var 0) (a_cons c_int a_nil))) a_nil)))))))) (ss_cons (s_setLc (i := 4) (own := [("_law_k", 6)]) (gown := [6]) rfl Sc.nd rfl rfl (sw_true rfl rfl rfl (by decide +kernel)) (i_range1 (by rfl) T.n_range (a_cons (c_add c_int (c_fn hr (ok_wtake T) (by decide) (a_cons (c_var 0) (a_cons c_int a_nil)))) a_nil)) (blkOk_by (N := ["_law_pen_here", "_law_many", "_law_way", "_law_some_here", "_law_few", "_law_found", "_law_k"]) (sc := defScope s_wdays) (by decide +kernel)) (fun _ _ _ _ _ => (g_name (i := 6) Sc.nd rfl (by first | exact .inl rfl | exact .inr rfl))) (by decide) (fun _ _ _ _ _ => ts_nil) (fun _ _ _ _ _ => (c_ix hu (c_var 3) (c_fn hr (ok_wtake T) (by decide) (a_cons (c_var 0) (a_cons c_int a_nil)))))) (ss_cons (s_set (i := 5) Sc.nd rfl (by first | exact .inl rfl | exact .inr rfl) (c_lst a_nil)) (ss_cons (s_for PassesOwn.never rfl (i_range1 (by rfl) T.n_range (a_cons (c_var 1) a_nil)) (g_name (i := 6) Sc.nd rfl (by first | exact .inl rfl | exact .inr rfl)) (ss_one (s_expr (c_m m_append (c_var 5) (a_cons (c_ix hu (c_lst (a_cons (c_ix hu (c_var 4) (c_fn hr (ok_wtake T) (by decide) (a_cons (c_var 0) (a_cons (c_callB b_len (by rfl) T.n_len (by decide +kernel) (a_cons (c_var 4) a_nil)) a_nil)))) (a_cons (c_fn hr (ok_wtake T) (by decide) (a_cons (c_var 0) (a_cons c_int a_nil))) a_nil))) (c_callTy y_int (by rfl) T.n_int (by decide +kernel) (a_cons (c_cmp (o_eq hr.units) (c_var 2) c_int (nomark _)) a_nil))) a_nil))))) (ss_one (s_ret (c_var 5))))))))
theorem ok_wnumber (T : Txt w K mg) : Okf P w K mg base 2 "_law_number" 3 m_wnumber := by
  have Sc := sc_wnumber
  refine okf_of (b := b_wnumber) T.f_wnumber Sc (fun ds S Q => by rw [q_m_wnumber]; rfl) fun f cdv A outer s H E hr => ?_
  have hu := hu_of hr
  exact (ss_cons (s_set (i := 3) Sc.nd rfl (by first | exact .inl rfl | exact .inr rfl) (c_fn hr (ok_wtake T) (by decide) (a_cons (c_var 0) (a_cons c_int a_nil)))) (ss_cons (s_set (i := 4) Sc.nd rfl (by first | exact .inl rfl | exact .inr rfl) (c_add (c_var 1) (c_fn hr (ok_wtake T) (by decide) (a_cons (c_var 0) (a_cons (c_callB (b_min2 rfl) (by rfl) T.n_min (by decide +kernel) (a_cons c_int (a_cons (c_add (c_sub (c_var 2) (c_var 1)) c_int) a_nil))) a_nil))))) (ss_one (s_ret (c_ix hu (c_lst (a_cons (c_var 1) (a_cons (c_var 2) (a_cons (c_var 4) (a_cons (c_add (c_var 1) (c_fn hr (ok_wtake T) (by decide) (a_cons (c_var 0) (a_cons (c_add (c_sub (c_var 2) (c_var 1)) c_int) a_nil)))) a_nil))))) (c_var 3))))))
theorem ok_wlaying (T : Txt w K mg) : Okf P w K mg base 3 "_law_laying" 3 m_wlaying := by
  have Sc := sc_wlaying
  refine okf_of (b := b_wlaying) T.f_wlaying Sc (fun ds S Q => by rw [q_m_wlaying]; rfl) fun f cdv A outer s H E hr => ?_
  have hu := hu_of hr
  exact (ss_cons (s_set (i := 3) Sc.nd rfl (by first | exact .inl rfl | exact .inr rfl) (c_lst a_nil)) (ss_cons (s_for PassesOwn.never rfl (i_seq (c_var 1)) (g_name (i := 4) Sc.nd rfl (by first | exact .inl rfl | exact .inr rfl)) (ss_cons (s_set (i := 5) Sc.nd rfl (by first | exact .inl rfl | exact .inr rfl) (c_ix hu (c_var 2) (c_fn hr (ok_wtake T) (by decide) (a_cons (c_var 0) (a_cons (c_callB b_len (by rfl) T.n_len (by decide +kernel) (a_cons (c_var 2) a_nil)) a_nil))))) (ss_one (s_expr (c_m m_append (c_var 3) (a_cons (c_tup (a_cons (c_var 4) (a_cons (c_var 5) (a_cons (c_fn hr (ok_wnumber T) (by decide) (a_cons (c_var 0) (a_cons c_int (a_cons (c_pow c_int c_int) a_nil)))) (a_cons (c_fn hr (ok_wnumber T) (by decide) (a_cons (c_var 0) (a_cons c_int (a_cons (c_pow c_int c_int) a_nil)))) a_nil))))) a_nil)))))) (ss_one (s_ret (c_callTy y_tuple (by rfl) T.n_tuple (by decide +kernel) (a_cons (c_var 3) a_nil))))))
theorem ok_wsome (T : Txt w K mg) : Okf P w K mg base 2 "_law_some" 3 m_wsome := by
  have Sc := sc_wsome
  refine okf_of (b := b_wsome) T.f_wsome Sc (fun ds S Q => by rw [q_m_wsome]; rfl) fun f cdv A outer s H E hr => ?_
  have hu := hu_of hr
  exact (ss_cons (s_set (i := 3) Sc.nd rfl (by first | exact .inl rfl | exact .inr rfl) (c_callTy y_list (by rfl) T.n_list (by decide +kernel) (a_cons (c_var 1) a_nil))) (ss_cons (s_setLc (i := 4) (own := [("_law_k", 5)]) (gown := [5]) rfl Sc.nd rfl rfl (sw_true rfl rfl rfl (by decide +kernel)) (i_range1 (by rfl) T.n_range (a_cons (c_var 2) a_nil)) (blkOk_by (N := ["_law_pen_here", "_law_names_here", "_law_many", "_law_left", "_law_found", "_law_k"]) (sc := defScope s_wsome) (by decide +kernel)) (fun _ _ _ _ _ => (g_name (i := 5) Sc.nd rfl (by first | exact .inl rfl | exact .inr rfl))) (by decide) (fun _ _ _ _ _ => ts_nil) (fun _ _ _ _ _ => (c_m m_popAt (c_var 3) (a_cons (c_fn hr (ok_wtake T) (by decide) (a_cons (c_var 0) (a_cons (c_callB b_len (by rfl) T.n_len (by decide +kernel) (a_cons (c_var 3) a_nil)) a_nil))) a_nil)))) (ss_one (s_ret (c_callB b_sorted (by rfl) T.n_sorted (by decide +kernel) (a_cons (c_var 4) a_nil))))))
theorem ok_wrow_of (T : Txt w K mg) : Okf P w K mg base 3 "_law_row_of" 5 m_wrow_of := by
  have Sc := sc_wrow_of
  refine okf_of (b := b_wrow_of) T.f_wrow_of Sc (fun ds S Q => by rw [q_m_wrow_of]; rfl) fun f cdv A outer s H E hr => ?_
  have hu := hu_of hr
  exact (ss_cons (s_asg (c_var 4) (g_tupL rfl (gs_cons (g_name (i := 10) Sc.nd rfl (by first | exact .inl rfl | exact .inr rfl)) (gs_cons (g_name (i := 11) Sc.nd rfl (by first | exact .inl rfl | exact .inr rfl)) (gs_cons (g_name (i := 12) Sc.nd rfl (by first | exact .inl rfl | exact .inr rfl)) gs_nil))))) (ss_cons (s_set (i := 5) Sc.nd rfl (by first | exact .inl rfl | exact .inr rfl) (c_ix hu (c_var 11) (c_fn hr (ok_wtake T) (by decide) (a_cons (c_var 0) (a_cons (c_callB b_len (by rfl) T.n_len (by decide +kernel) (a_cons (c_var 11) a_nil)) a_nil))))) (ss_cons (s_set (i := 6) Sc.nd rfl (by first | exact .inl rfl | exact .inr rfl) (c_fn hr (ok_wtake T) (by decide) (a_cons (c_var 0) (a_cons (c_callB b_len (by rfl) T.n_len (by decide +kernel) (a_cons (c_var 12) a_nil)) a_nil)))) (ss_cons (s_set (i := 7) Sc.nd rfl (by first | exact .inl rfl | exact .inr rfl) (c_ix hu (c_var 12) (c_var 6))) (ss_cons (s_set (i := 8) Sc.nd rfl (by first | exact .inl rfl | exact .inr rfl) (c_ix hu (c_var 10) (c_fn hr (ok_wtake T) (by decide) (a_cons (c_var 0) (a_cons (c_callB b_len (by rfl) T.n_len (by decide +kernel) (a_cons (c_var 10) a_nil)) a_nil))))) (ss_cons (s_if (k_cmp (o_in hu) (c_var 1) (c_tup (a_cons c_str (a_cons c_str a_nil))) (by with_unfolding_all rfl)) (ss_cons (s_set (i := 13) Sc.nd rfl (by first | exact .inl rfl | exact .inr rfl) (c_fn hr (ok_wsome T) (by decide) (a_cons (c_var 0) (a_cons (c_var 11) (a_cons (c_ix hu (c_lst (a_cons c_int (a_cons c_int (a_cons (c_add c_int (c_fn hr (ok_wtake T) (by decide) (a_cons (c_var 0) (a_cons c_int a_nil)))) a_nil)))) (c_fn hr (ok_wtake T) (by decide) (a_cons (c_var 0) (a_cons c_int a_nil)))) a_nil))))) (ss_cons (s_if (k_cmp (o_eq hr.units) (c_var 1) c_str (nomark _)) (ss_one (s_ret (c_tup (a_cons (c_var 1) (a_cons (c_var 2) (a_cons (c_var 3) (a_cons (c_callTy y_tuple (by rfl) T.n_tuple (by decide +kernel) (a_cons (c_var 13) a_nil)) (a_cons (c_var 5) a_nil)))))))) ss_nil) (ss_cons (s_setLc (i := 14) (own := [("_law_one", 15)]) (gown := [15]) rfl Sc.nd rfl rfl (sw_true rfl rfl rfl (by decide +kernel)) (i_seq (c_var 13)) (blkOk_by (N := ["_law_pen_here", "_law_word", "_law_name", "_law_day", "_law_sorts_here", "_law_land", "_law_at", "_law_house", "_law_field", "_law_inch", "_law_fields", "_law_plots", "_law_houses", "_law_some_here", "_law_parts", "_law_one"]) (sc := defScope s_wrow_of) (by decide +kernel)) (fun _ _ _ _ _ => (g_name (i := 15) Sc.nd rfl (by first | exact .inl rfl | exact .inr rfl))) (by decide) (fun _ _ _ _ _ => ts_nil) (fun _ _ _ _ _ => (c_tup (a_cons (c_var 15) (a_cons (c_ix hu (c_var 12) (c_fn hr (ok_wtake T) (by decide) (a_cons (c_var 0) (a_cons (c_callB b_len (by rfl) T.n_len (by decide +kernel) (a_cons (c_var 12) a_nil)) a_nil)))) (a_cons (c_fn hr (ok_wnumber T) (by decide) (a_cons (c_var 0) (a_cons c_int (a_cons (c_pow c_int c_int) a_nil)))) a_nil)))))) (ss_one (s_ret (c_tup (a_cons (c_var 1) (a_cons (c_var 2) (a_cons (c_var 3) (a_cons (c_var 5) (a_cons (c_callTy y_tuple (by rfl) T.n_tuple (by decide +kernel) (a_cons (c_var 14) a_nil)) a_nil))))))))))) ss_nil) (ss_cons (s_if (k_cmp (o_eq hr.units) (c_var 1) c_str (nomark _)) (ss_one (s_ret (c_tup (a_cons (c_var 1) (a_cons (c_var 2) (a_cons (c_var 3) (a_cons (c_var 5) (a_cons (c_var 7) a_nil)))))))) ss_nil) (ss_cons (s_if (k_cmp (o_eq hr.units) (c_var 1) c_str (nomark _)) (ss_one (s_ret (c_tup (a_cons (c_var 1) (a_cons (c_var 2) (a_cons (c_var 3) (a_cons (c_var 8) (a_cons (c_fn hr (ok_wnumber T) (by decide) (a_cons (c_var 0) (a_cons c_int (a_cons (c_pow c_int c_int) a_nil)))) a_nil)))))))) ss_nil) (ss_cons (s_if (k_cmp (o_eq hr.units) (c_var 1) c_str (nomark _)) (ss_one (s_ret (c_tup (a_cons (c_var 1) (a_cons (c_var 2) (a_cons (c_var 3) (a_cons (c_var 7) (a_cons (c_ix hu (c_var 12) (c_mod (c_add (c_add (c_var 6) c_int) (c_fn hr (ok_wtake T) (by decide) (a_cons (c_var 0) (a_cons (c_sub (c_callB b_len (by rfl) T.n_len (by decide +kernel) (a_cons (c_var 12) a_nil)) c_int) a_nil)))) (c_callB b_len (by rfl) T.n_len (by decide +kernel) (a_cons (c_var 12) a_nil)))) a_nil)))))))) ss_nil) (ss_cons (s_if (k_cmp (o_eq hr.units) (c_var 1) c_str (nomark _)) (ss_one (s_ret (c_tup (a_cons (c_var 1) (a_cons (c_var 2) (a_cons (c_var 3) (a_cons (c_var 7) a_nil))))))) ss_nil) (ss_cons (s_set (i := 9) Sc.nd rfl (by first | exact .inl rfl | exact .inr rfl) (c_fn hr (ok_wnumber T) (by decide) (a_cons (c_var 0) (a_cons c_int (a_cons (c_sub (c_pow c_int c_int) c_int) a_nil))))) (ss_cons (s_if (k_cmp (o_eq hr.units) (c_var 1) c_str (nomark _)) (ss_one (s_ret (c_tup (a_cons (c_var 1) (a_cons (c_var 2) (a_cons (c_var 3) (a_cons (c_var 8) (a_cons (c_var 9) (a_cons (c_var 7) a_nil))))))))) ss_nil) (ss_one (s_ret (c_tup (a_cons (c_var 1) (a_cons (c_var 2) (a_cons (c_var 3) (a_cons (c_var 8) (a_cons (c_var 9) (a_cons (c_fn hr (ok_wnumber T) (by decide) (a_cons (c_var 0) (a_cons c_int (a_cons (c_pow c_int c_int) a_nil)))) (a_cons (c_fn hr (ok_wnumber T) (by decide) (a_cons (c_var 0) (a_cons c_int (a_cons (c_pow c_int c_int) a_nil)))) a_nil))))))))))))))))))))))
theorem ok_wrow (T : Txt w K mg) : Okf P w K mg base 4 "_law_row" 4 m_wrow := by
  have Sc := sc_wrow
  refine okf_of (b := b_wrow) T.f_wrow Sc (fun ds S Q => by rw [q_m_wrow]; rfl) fun f cdv A outer s H E hr => ?_
  have hu := hu_of hr
  exact (ss_cons (s_set (i := 4) Sc.nd rfl (by first | exact .inl rfl | exact .inr rfl) (c_lst (a_cons c_str (a_cons c_str (a_cons c_str (a_cons c_str (a_cons c_str (a_cons c_str (a_cons c_str (a_cons c_str (a_cons c_str (a_cons c_str a_nil)))))))))))) (ss_one (s_ret (c_fn hr (ok_wrow_of T) (by decide) (a_cons (c_var 0) (a_cons (c_ix hu (c_var 4) (c_fn hr (ok_wtake T) (by decide) (a_cons (c_var 0) (a_cons c_int a_nil)))) (a_cons (c_var 1) (a_cons (c_var 2) (a_cons (c_var 3) a_nil)))))))))
theorem ok_wplace (T : Txt w K mg) : Okf P w K mg base 1 "_law_place" 1 m_wplace := by
  have Sc := sc_wplace
  refine okf_of (b := b_wplace) T.f_wplace Sc (fun ds S Q => by rw [q_m_wplace]; rfl) fun f cdv A outer s H E hr => ?_
  have hu := hu_of hr
  exact (ss_cons (s_set (i := 1) Sc.nd rfl (by first | exact .inl rfl | exact .inr rfl) (c_dict (ps_cons0 c_str c_int (ps_cons0 c_str c_int (ps_cons0 c_str c_int (ps_cons0 c_str c_int (ps_cons0 c_str c_int ps_nil0))))) (by rfl) (by rfl) (fun z => by cases z) (by decide))) (ss_one (s_ret (c_tup (a_cons (c_ix hu (c_var 0) c_int) (a_cons (c_get2 hu (c_var 1) (c_ix hu (c_var 0) c_int) c_int) (a_cons (c_ix hu (c_var 0) c_int) a_nil)))))))
theorem ok_wsame (T : Txt w K mg) : Okf P w K mg base 1 "_law_same" 2 m_wsame := by
  have Sc := sc_wsame
  refine okf_of (b := b_wsame) T.f_wsame Sc (fun ds S Q => by rw [q_m_wsame]; rfl) fun f cdv A outer s H E hr => ?_
  have hu := hu_of hr
  exact (ss_cons (s_if (k_tru (c_var 1)) (ss_one (s_ret (c_cmp o_is (c_var 0) c_bl (nomark _)))) ss_nil) (ss_one (s_ret (c_cmp o_is (c_var 0) c_bl (nomark _)))))
theorem ok_order_of (T : Txt w K mg) : Okf P w K mg base 1 "order_of" 1 m_order_of := by
  have Sc := sc_order_of
  refine okf_of (b := b_order_of) T.f_order_of Sc (fun ds S Q => by rw [q_m_order_of]; rfl) fun f cdv A outer s H E hr => ?_
  have hu := hu_of hr
  exact (ss_one (s_ret (c_tup (a_cons (c_ix hu (c_var 0) c_int) (a_cons (c_tab T.t_RANKS (c_ix hu (c_var 0) c_int)) (a_cons (c_ix hu (c_var 0) c_int) a_nil))))))
theorem ok_goes_ahead (T : Txt w K mg) : Okf P w K mg base 2 "goes_ahead" 2 m_goes_ahead := by
  have Sc := sc_goes_ahead
  refine okf_of (b := b_goes_ahead) T.f_goes_ahead Sc (fun ds S Q => by rw [q_m_goes_ahead]; rfl) fun f cdv A outer s H E hr => ?_
  have hu := hu_of hr
  exact (ss_one (s_ret (c_cmp (o_lt2 hr.units) (c_fn hr (ok_order_of T) (by decide) (a_cons (c_var 0) a_nil)) (c_fn hr (ok_order_of T) (by decide) (a_cons (c_var 1) a_nil)) (nomark _))))
theorem ok_wboth_right (T : Txt w K mg) : Okf P w K mg base 3 "_law_both_right" 2 m_wboth_right := by
  have Sc := sc_wboth_right
  refine okf_of (b := b_wboth_right) T.f_wboth_right Sc (fun ds S Q => by rw [q_m_wboth_right]; rfl) fun f cdv A outer s H E hr => ?_
  have hu := hu_of hr
  exact (ss_cons (s_set (i := 2) Sc.nd rfl (by first | exact .inl rfl | exact .inr rfl) (c_cmp (o_lt2 hr.units) (c_fn hr (ok_wplace T) (by decide) (a_cons (c_var 0) a_nil)) (c_fn hr (ok_wplace T) (by decide) (a_cons (c_var 1) a_nil)) (nomark _))) (ss_one (s_ret (c_and (c_fn hr (ok_wsame T) (by decide) (a_cons (c_fn hr (ok_goes_ahead T) (by decide) (a_cons (c_var 0) (a_cons (c_var 1) a_nil))) (a_cons (c_var 2) a_nil))) (c_one (c_fn hr (ok_wsame T) (by decide) (a_cons (c_fn hr (ok_goes_ahead T) (by decide) (a_cons (c_var 1) (a_cons (c_var 0) a_nil))) (a_cons (c_not (c_var 2)) a_nil))))))))
theorem ok_up_to (T : Txt w K mg) : Okf P w K mg base 1 "up_to" 2 m_up_to := by
  have Sc := sc_up_to
  refine okf_of (b := b_up_to) T.f_up_to Sc (fun ds S Q => by rw [q_m_up_to]; rfl) fun f cdv A outer s H E hr => ?_
  have hu := hu_of hr
  exact (ss_one (s_ret (c_callB b_len (by rfl) T.n_len (by decide +kernel) (a_cons (c_lc (own := [("row", 2)]) (gown := [2]) rfl Sc.nd (i_seq (c_ix hu (c_var 0) c_int)) (blkOk_by (N := ["roll", "day", "row"]) (sc := defScope s_up_to) (by decide +kernel)) (fun _ _ _ _ _ => (g_name (i := 2) Sc.nd rfl (by first | exact .inl rfl | exact .inr rfl))) (by decide) (fun _ _ _ _ _ => (ts_one (k_cmp o_le (c_ix hu (c_var 2) c_int) (c_var 1) (nomark _)))) (fun _ _ _ _ _ => (c_var 2))) a_nil))))
theorem ok_wdays_right (T : Txt w K mg) : Okf P w K mg base 2 "_law_days_right" 1 m_wdays_right := by
  have Sc := sc_wdays_right
  refine okf_of (b := b_wdays_right) T.f_wdays_right Sc (fun ds S Q => by rw [q_m_wdays_right]; rfl) fun f cdv A outer s H E hr => ?_
  have hu := hu_of hr
  exact (ss_cons (s_set (i := 1) Sc.nd rfl (by first | exact .inl rfl | exact .inr rfl) (c_lst (a_cons c_int (a_cons c_int a_nil)))) (ss_cons (s_for PassesOwn.never rfl (i_seq (c_ix hu (c_var 0) c_int)) (g_name (i := 2) Sc.nd rfl (by first | exact .inl rfl | exact .inr rfl)) (ss_one (s_set (i := 1) Sc.nd rfl (by first | exact .inl rfl | exact .inr rfl) (c_add (c_var 1) (c_lst (a_cons (c_callB (b_max2 rfl) (by rfl) T.n_max (by decide +kernel) (a_cons c_int (a_cons (c_sub (c_ix hu (c_var 2) c_int) c_int) a_nil))) (a_cons (c_ix hu (c_var 2) c_int) (a_cons (c_callB (b_min2 rfl) (by rfl) T.n_min (by decide +kernel) (a_cons c_int (a_cons (c_add (c_ix hu (c_var 2) c_int) c_int) a_nil))) a_nil)))))))) (ss_cons (s_for PassesOwn.never rfl (i_seq (c_var 1)) (g_name (i := 3) Sc.nd rfl (by first | exact .inl rfl | exact .inr rfl)) (ss_cons (s_set (i := 4) Sc.nd rfl (by first | exact .inl rfl | exact .inr rfl) (c_fn hr (ok_up_to T) (by decide) (a_cons (c_var 0) (a_cons (c_var 3) a_nil)))) (ss_cons (s_set (i := 5) Sc.nd rfl (by first | exact .inl rfl | exact .inr rfl) (c_callB b_len (by rfl) T.n_len (by decide +kernel) (a_cons (c_lc (own := [("_law_row_here", 2)]) (gown := [2]) rfl Sc.nd (i_seq (c_ix hu (c_var 0) c_int)) (blkOk_by (N := ["_law_roll", "_law_some_here", "_law_row_here", "_law_day", "_law_found", "_law_owed"]) (sc := defScope s_wdays_right) (by decide +kernel)) (fun _ _ _ _ _ => (g_name (i := 2) Sc.nd rfl (by first | exact .inl rfl | exact .inr rfl))) (by decide) (fun _ _ _ _ _ => (ts_one (k_cmp o_le (c_ix hu (c_var 2) c_int) (c_var 3) (nomark _)))) (fun _ _ _ _ _ => (c_var 2))) a_nil))) (ss_one (s_if (k_w (w_or (k_not (k_tru (c_callB b_isi (by rfl) T.n_isinstance (by decide +kernel) (a_cons (c_var 4) (a_cons (c_bltn (by rfl) T.n_int (by decide +kernel)) a_nil))))) (w_or (k_tru (c_callB b_isi (by rfl) T.n_isinstance (by decide +kernel) (a_cons (c_var 4) (a_cons (c_bltn (by rfl) T.n_bool (by decide +kernel)) a_nil)))) (w_or1 (k_cmp (o_ne hr.units) (c_var 4) (c_var 5) (nomark _)))))) (ss_one (s_ret c_bl)) ss_nil))))) (ss_one (s_ret c_bl)))))
theorem fn_law (T : Txt w K mg) {f : Addr} {fd : FuncData} (F : Fun K "law" "law" s_law f fd) : FnOk P w K mg base CX0 5 f fd ["_law_script"] (spD K 1 m_law) := by
  have Sc := sc_law
  rw [q_m_law]
  refine def_ok (b := b_law) F Sc fun cdv A outer s H E hr => ?_
  have hu := hu_of hr
  exact (ss_cons (s_set (i := 1) Sc.nd rfl (by first | exact .inl rfl | exact .inr rfl) (c_fn hr (ok_wpen T) (by decide) (a_cons (c_var 0) a_nil))) (ss_cons (s_set (i := 2) Sc.nd rfl (by first | exact .inl rfl | exact .inr rfl) (c_ix hu (c_lst (a_cons c_int (a_cons c_int (a_cons (c_fn hr (ok_wtake T) (by decide) (a_cons (c_var 1) (a_cons c_int a_nil))) (a_cons (c_add c_int (c_fn hr (ok_wtake T) (by decide) (a_cons (c_var 1) (a_cons c_int a_nil)))) a_nil))))) (c_fn hr (ok_wtake T) (by decide) (a_cons (c_var 1) (a_cons c_int a_nil))))) (ss_cons (s_asg (c_fn hr (ok_wsorts T) (by decide) (a_cons (c_var 1) (a_cons (c_add c_int (c_fn hr (ok_wtake T) (by decide) (a_cons (c_var 1) (a_cons c_int a_nil)))) (a_cons c_int a_nil)))) (g_tupL rfl (gs_cons (g_name (i := 9) Sc.nd rfl (by first | exact .inl rfl | exact .inr rfl)) (gs_cons (g_name (i := 10) Sc.nd rfl (by first | exact .inl rfl | exact .inr rfl)) (gs_cons (g_name (i := 11) Sc.nd rfl (by first | exact .inl rfl | exact .inr rfl)) (gs_cons (g_name (i := 12) Sc.nd rfl (by first | exact .inl rfl | exact .inr rfl)) gs_nil)))))) (ss_cons (s_set (i := 3) Sc.nd rfl (by first | exact .inl rfl | exact .inr rfl) (c_fn hr (ok_wdays T) (by decide) (a_cons (c_var 1) (a_cons c_int a_nil)))) (ss_cons (s_set (i := 4) Sc.nd rfl (by first | exact .inl rfl | exact .inr rfl) (c_fn hr (ok_wlaying T) (by decide) (a_cons (c_var 1) (a_cons (c_var 9) (a_cons (c_var 11) a_nil))))) (ss_cons (s_setLc (i := 5) (own := [("_law_k", 7)]) (gown := [7]) rfl Sc.nd rfl rfl (sw_true rfl rfl rfl (by decide +kernel)) (i_range1 (by rfl) T.n_range (a_cons c_int a_nil)) (blkOk_by (N := ["_law_script", "_law_pen_here", "_law_many", "_law_days_here", "_law_laying_here", "_law_rows", "_law_others", "_law_k", "_law_one", "_law_fields", "_law_plots", "_law_houses", "_law_names_here", "_law_row_here"]) (sc := defScope s_law) (by decide +kernel)) (fun _ _ _ _ _ => (g_name (i := 7) Sc.nd rfl (by first | exact .inl rfl | exact .inr rfl))) (by decide) (fun _ _ _ _ _ => ts_nil) (fun _ _ _ _ _ => (c_fn hr (ok_wrow T) (by decide) (a_cons (c_var 1) (a_cons (c_ix hu (c_var 12) (c_var 7)) (a_cons (c_ix hu (c_var 3) (c_var 7)) (a_cons (c_tup (a_cons (c_var 9) (a_cons (c_var 10) (a_cons (c_var 11) a_nil)))) a_nil))))))) (ss_cons (s_set (i := 6) Sc.nd rfl (by first | exact .inl rfl | exact .inr rfl) (c_add (c_sl (c_var 5) (p_some (c_callB (b_max2 rfl) (by rfl) T.n_max (by decide +kernel) (a_cons c_int (a_cons (c_var 2) a_nil)))) p_none) (c_sl (c_var 5) (p_some (c_var 2)) (p_some (c_callB (b_min2 rfl) (by rfl) T.n_min (by decide +kernel) (a_cons (c_add (c_var 2) c_int) (a_cons c_int a_nil))))))) (ss_cons (s_set (i := 5) Sc.nd rfl (by first | exact .inl rfl | exact .inr rfl) (c_sortKey hr (ok_wplace T) (by decide) T.n_sorted (c_sl (c_var 5) p_none (p_some (c_var 2))))) (ss_cons (s_for PassesOwn.never rfl (i_range1 (by rfl) T.n_range (a_cons (c_sub (c_callB b_len (by rfl) T.n_len (by decide +kernel) (a_cons (c_var 5) a_nil)) c_int) a_nil)) (g_name (i := 7) Sc.nd rfl (by first | exact .inl rfl | exact .inr rfl)) (ss_one (s_if (k_not (k_tru (c_fn hr (ok_wboth_right T) (by decide) (a_cons (c_ix hu (c_var 5) (c_var 7)) (a_cons (c_ix hu (c_var 5) (c_add (c_var 7) c_int)) a_nil))))) (ss_one (s_ret c_bl)) ss_nil))) (ss_cons (s_if (k_w (w_and (k_cmp o_gt (c_callB b_len (by rfl) T.n_len (by decide +kernel) (a_cons (c_var 5) a_nil)) c_int (nomark _)) (w_and1 (k_not (k_tru (c_fn hr (ok_wboth_right T) (by decide) (a_cons (c_ix hu (c_var 5) c_int) (a_cons (c_ix hu (c_var 5) (c_neg c_int)) a_nil)))))))) (ss_one (s_ret c_bl)) ss_nil) (ss_cons (s_for PassesOwn.never rfl (i_seq (c_var 6)) (g_name (i := 8) Sc.nd rfl (by first | exact .inl rfl | exact .inr rfl)) (ss_one (s_for PassesOwn.never rfl (i_seq (c_var 5)) (g_name (i := 13) Sc.nd rfl (by first | exact .inl rfl | exact .inr rfl)) (ss_one (s_if (k_not (k_tru (c_fn hr (ok_wboth_right T) (by decide) (a_cons (c_var 8) (a_cons (c_var 13) a_nil))))) (ss_one (s_ret c_bl)) ss_nil))))) (ss_one (s_ret (c_fn hr (ok_wdays_right T) (by decide) (a_cons (c_tup (a_cons (c_var 4) (a_cons (c_callTy y_tuple (by rfl) T.n_tuple (by decide +kernel) (a_cons (c_var 5) a_nil)) a_nil))) a_nil)))))))))))))))
end
theorem ft_mk {K : PySem.W.Frag} {h : Heap} {mg : Str → Option Value} {x : Str} {st : Stmt} {ps : List Str} {f : Addr} {od an : Option Addr} {sl : Array (Option Value)} {oc kV dc pm cd ct : Value} (X : K.In h) (G : h.Ns mainGlobals mg)
    (a : PySem.W.nsIn K mainGlobals x = some (some (.ref f))) (l : K.lookup f = some ⟨oc, od, .func (PySem.W.fnOf x x (defArgs st) (defBody st) (defScope st) .none kV dc pm an cd ct), sl⟩) (c : PySem.W.codeIn K cd x = true) (k : PySem.W.keepIn K (.ref f) = true)
    (b : ∀ (kV doc pm : Value) (an : Option Addr) (cdv ct : Value) (us : List Value), us.length = ps.length → bindArgs (PySem.W.fnOf x x (defArgs st) (defBody st) (defScope st) .none kV doc pm an cdv ct) ⟨us, []⟩ = pure (ps.zip us)) : FT K mg x st ps :=
  have F := fun_mk (st := st) l c k
  ⟨f, _, F, F.binds b, PySem.W.mg_of X G a⟩
theorem law_mk {l : PySem.W.OpenLaw} {w : World} {K : PySem.W.Frag} {h : Heap} {mg : Str → Option Value} {fa f2 : Addr} (X : K.In h) (G : h.Ns mainGlobals mg) (hfa : mg "law" = some (.ref fa)) (T : Txt w K mg)
    {od an : Option Addr} {sl : Array (Option Value)} {oc kV dc pm cd ct : Value}
    (a2 : PySem.W.nsIn K mainGlobals "law" = some (some (.ref f2))) (l2 : K.lookup f2 = some ⟨oc, od, .func (PySem.W.fnOf "law" "law" (defArgs s_law) (defBody s_law) (defScope s_law) .none kV dc pm an cd ct), sl⟩) (c2 : PySem.W.codeIn K cd "law" = true) (k2 : PySem.W.keepIn K (.ref f2) = true) :
    ∃ fd : FuncData, (∀ (s : Shared) (v : Value), BindsTo s fd ⟨[v], []⟩ [("_law_script", v)]) ∧ ∀ base : Heap, K.In base → base.Ns mainGlobals mg → FnOk l.prog w K mg base CX0 5 fa fd ["_law_script"] (spD K 1 m_law) := by
  have e := hfa.symm.trans (PySem.W.mg_of X G a2)
  cases e
  exact ⟨PySem.W.fnOf "law" "law" (defArgs s_law) (defBody s_law) (defScope s_law) .none kV dc pm an cd ct, fun s v => .of_eq rfl, fun base _ _ => fn_law T (fun_mk l2 c2 k2)⟩
end LW
namespace LW
open PySem L2 DL
abbrev kS (x : Str) : Key := Sum.inr x
def penKv (c : Addr) (a l : Int) : List (Key × D) := [(kS "cells", .ref c), (kS "at", .int a), (kS "left", .int l)]
theorem k_ca : ¬ (kS "cells" = kS "at") := by decide +kernel
theorem k_cl : ¬ (kS "cells" = kS "left") := by decide +kernel
theorem k_al : ¬ (kS "at" = kS "left") := by decide +kernel
theorem k_la : ¬ (kS "left" = kS "at") := by decide +kernel
theorem pen_cells {c a l} : valD (penKv c a l) (kS "cells") = some (.ref c) := by unfold penKv valD; rw [if_pos rfl]
theorem pen_at {c a l} : valD (penKv c a l) (kS "at") = some (.int a) := by unfold penKv valD; rw [if_neg k_ca]; unfold valD; rw [if_pos rfl]
theorem pen_left {c a l} : valD (penKv c a l) (kS "left") = some (.int l) := by unfold penKv valD; rw [if_neg k_cl]; unfold valD; rw [if_neg k_al]; unfold valD; rw [if_pos rfl]
theorem put_at {c a l v} : putD (penKv c a l) (kS "at") (.int v) = penKv c v l := by
  unfold putD hasD
  rw [pen_at]
  show replD (penKv c a l) (kS "at") (.int v) = _
  unfold penKv
  simp only [replD, if_neg k_ca, if_neg k_la, if_true]
theorem put_left {c a l v} : putD (penKv c a l) (kS "left") (.int v) = penKv c a v := by
  unfold putD hasD
  rw [pen_left]
  show replD (penKv c a l) (kS "left") (.int v) = _
  unfold penKv
  simp only [replD, if_neg k_cl, if_neg k_al, if_true]
theorem pen_len {c a l} : (penKv c a l).length = 3 := rfl
theorem three_line : 3 < sizeLine := by decide
theorem nil_line : 0 ≤ sizeLine := Nat.zero_le _
structure Pen (S : Sto) (p c : Addr) (b : Nat) : Prop where
  ex : ∃ (ns : List Int) (a l : Int), S p = some (.dk (penKv c a l)) ∧ S c = some (.lst (ns.map .int)) ∧ ns.length ≤ 63 ∧ 0 ≤ a ∧ a ≤ b ∧ 0 ≤ l
/-- all but the pen stays -/
def Kp (p : Addr) (S S' : Sto) : Prop := ∀ a o, a ≠ p → S a = some o → S' a = some o
theorem Kp.trans {p : Addr} {S S1 S2 : Sto} (x : Kp p S S1) (y : Kp p S1 S2) : Kp p S S2 := fun a o n h => y a o n (x a o n h)
theorem Kp.refl {p : Addr} {S : Sto} : Kp p S S := fun _ _ _ h => h
theorem Kp.new {p q : Addr} {S : Sto} {o : O} (h : S q = none) : Kp p S (updS S q o) := fun a u _ e => by rw [updS_ne (neS e h)]; exact e
theorem Kp.put {p : Addr} {S : Sto} {o : O} : Kp p S (updS S p o) := fun a u n e => by rw [updS_ne n]; exact e
theorem Pen.keep {p pc : Addr} {S S' : Sto} {b : Nat} (h : Pen S p pc b) (k : ∀ a o, S a = some o → S' a = some o) : Pen S' p pc b :=
  let ⟨ns, a, l, h1, h2, h3⟩ := h.ex; ⟨ns, a, l, k _ _ h1, k _ _ h2, h3⟩
theorem Pen.new {p pc q : Addr} {S : Sto} {o : O} {b : Nat} (h : Pen S p pc b) (hq : S q = none) : Pen (updS S q o) p pc b := h.keep fun a u e => by rw [updS_ne (neS e hq)]; exact e
theorem Pen.mono {p pc : Addr} {S : Sto} {b b2 : Nat} (h : Pen S p pc b) (hb : b ≤ b2) : Pen S p pc b2 := let ⟨ns, a, l, h1, h2, h3, h4, h5, h6⟩ := h.ex; ⟨ns, a, l, h1, h2, h3, h4, by omega, h6⟩
theorem get_ints {ns : List Int} {i : Int} (h0 : 0 ≤ i) (h : i < ns.length) : ∃ z, atI (ns.map D.int) i = some (.int z) := by
  obtain ⟨k, rfl⟩ : ∃ k : Nat, i = (k : Nat) := ⟨i.toNat, by omega⟩
  have hl : k < ns.length := by omega
  refine ⟨ns[k], atI_nat ?_⟩
  rw [List.getElem?_map]
  simp [hl]
theorem take_spec {S : Sto} {p c : Addr} {b : Nat} {n : Int} {Q : DK} (h : Pen S p c b) (hb : b + 1 ≤ 100000000) (hn : 0 < n) (hm : n.natAbs.log2 < 9000)
   (q : ∀ (k : Int) (S' : Sto), 0 ≤ k → k < n → Pen S' p c (b + 1) → Kp p S S' → Q (.int k) S') : m_wtake [.ref p, .int n] S Q := by
  obtain ⟨ns, a, l, h1, h2, h3, h4, h5, h6⟩ := h
  have hcp : c ≠ p := fun e => by subst e; rw [h1] at h2; cases h2
  rw [e_wtake]
  refine seq_i ?_
  simp (config := {implicitDefEqProofs := false, proj := false}) only [nx_mk, rt_mk, bk_mk, ct_mk, eVar, eC, eOp, eIf, eTup, eLst, eDict0, eDict, eSl, oNo, eCall, eCB, eM, eLc, eIsi2, aNil, aCons, pNil, pCons, tAndD, tOrD, tNotD, tsYes, gMns, gMod, gFdiv, gPow, gLe, gGt, gGe, gEq_ii, gEq_ss, gEq_bb, gEq_nn, gEq_ni, gEq_in, gEq_ns, gEq_sn, gEq_si, gEq_is, sAsg, nName, sRet, sRetN, sExpr, sIf, sNext, sBreak, sCont, sFor, getS, setS, wipeS, endsD, asKeys, toKey, List.length_cons, List.length_nil, List.set_cons_zero, List.set_cons_succ, List.set_nil, Nat.zero_add, Nat.reduceAdd, Option.some.injEq, exists_and_left, exists_eq_left', exists_eq_left, id_eq, if_true, if_false, ite_true, ite_false, Bool.not_true, Bool.not_false, Bool.false_eq_true, not_false_eq_true, not_true_eq_false, reduceCtorEq, true_and, and_true, ne_eq, decide_eq_true_eq, isiN, isiCls, List.mem_cons, String.reduceEq, String.reduceBEq, or_true, true_or, or_false, false_or, Bool.or_true, Bool.true_or, Bool.false_or, Bool.or_false, Bool.and_false, Bool.false_and, Bool.true_and, Bool.and_true, beq_self_eq_true, decide_true, decide_false, tTr_e, vTru_non, vTru_bl, vTru_int, vTru_str, vTru_tup, vTru_ref, oTru_l, oTru_d, tBl_e, vBl_bl, eNeg_e, vNeg_int, eChain_e, eAnd_e, eOr_e, eNot_e, oSome_e, vSome_int, gAdd_ii, gAdd_ss, gAdd_tt, gAdd_rr, gI_ii, gI0_ii, gMulA_ii, gMulA_ri, gMulA_ti, gLt_ii, gLt_ss, gLt2_ii, gLt2_ss, eTab_e, vTab_s, eGet2_e, vGetO_r, vGet2_s, gIs_n, gIs_b, isNon_n, isNon_b, isNon_i, isNon_s, isNon_t, isNon_r, gIx_r, oIx_li, oIx_ds, oIx_di, gIx_ti, gIx_fi, gIx_si, gSl_t, gSl_s, gSl_f, gSl_r, gIn_ss, gIn_t, gIn_r, oIn_l, oIn_ds, gLen_s, gLen_t, gLen_f, gLen_r, oLen_l, oLen_d, gAbs_i, gMax2_ii, gMin2_ii, gInt1_i, gInt1_b, gList_t, gList_f, gList_r, gTuple_t, gTuple_f, gTuple_r, gSum_r, gAll_r, gIsi_x, tyD_n, tyD_b, tyD_i, tyD_s, tyD_t, tyD_f, tyD_r, oTy_l, oTy_d, tyM_s, tyM_r, oTyM_l, oTyM_d, gAppend_r, gPop0_r, gPopAt_r, gClear_r, gReverse_r, gJoin_r, gUpper_s, gStr_i, gSorted_r, iSeq_e, vSeq_r, vSeq_f, vSeq_t, vSeq_s, iRange1_e, vRng1_i, iRange2_e, vRng2_i, iZipD_e, vZip_r, vZip_t, iEnumD_e, vEnum_r, nTupL_t, nTupL_r, nCons_c, nNil_n, sSub_e, vPut_r, oPut_ds, oPut_di, oPut_l, h1, pen_left]
  by_cases hl : 0 < l
  · rw [if_pos hl]
    refine seq_i ?_
    simp (config := {implicitDefEqProofs := false, proj := false}) only [nx_mk, rt_mk, bk_mk, ct_mk, eVar, eC, eOp, eIf, eTup, eLst, eDict0, eDict, eSl, oNo, eCall, eCB, eM, eLc, eIsi2, aNil, aCons, pNil, pCons, tAndD, tOrD, tNotD, tsYes, gMns, gMod, gFdiv, gPow, gLe, gGt, gGe, gEq_ii, gEq_ss, gEq_bb, gEq_nn, gEq_ni, gEq_in, gEq_ns, gEq_sn, gEq_si, gEq_is, sAsg, nName, sRet, sRetN, sExpr, sIf, sNext, sBreak, sCont, sFor, getS, setS, wipeS, endsD, asKeys, toKey, List.length_cons, List.length_nil, List.set_cons_zero, List.set_cons_succ, List.set_nil, Nat.zero_add, Nat.reduceAdd, Option.some.injEq, exists_and_left, exists_eq_left', exists_eq_left, id_eq, if_true, if_false, ite_true, ite_false, Bool.not_true, Bool.not_false, Bool.false_eq_true, not_false_eq_true, not_true_eq_false, reduceCtorEq, true_and, and_true, ne_eq, decide_eq_true_eq, isiN, isiCls, List.mem_cons, String.reduceEq, String.reduceBEq, or_true, true_or, or_false, false_or, Bool.or_true, Bool.true_or, Bool.false_or, Bool.or_false, Bool.and_false, Bool.false_and, Bool.true_and, Bool.and_true, beq_self_eq_true, decide_true, decide_false, tTr_e, vTru_non, vTru_bl, vTru_int, vTru_str, vTru_tup, vTru_ref, oTru_l, oTru_d, tBl_e, vBl_bl, eNeg_e, vNeg_int, eChain_e, eAnd_e, eOr_e, eNot_e, oSome_e, vSome_int, gAdd_ii, gAdd_ss, gAdd_tt, gAdd_rr, gI_ii, gI0_ii, gMulA_ii, gMulA_ri, gMulA_ti, gLt_ii, gLt_ss, gLt2_ii, gLt2_ss, eTab_e, vTab_s, eGet2_e, vGetO_r, vGet2_s, gIs_n, gIs_b, isNon_n, isNon_b, isNon_i, isNon_s, isNon_t, isNon_r, gIx_r, oIx_li, oIx_ds, oIx_di, gIx_ti, gIx_fi, gIx_si, gSl_t, gSl_s, gSl_f, gSl_r, gIn_ss, gIn_t, gIn_r, oIn_l, oIn_ds, gLen_s, gLen_t, gLen_f, gLen_r, oLen_l, oLen_d, gAbs_i, gMax2_ii, gMin2_ii, gInt1_i, gInt1_b, gList_t, gList_f, gList_r, gTuple_t, gTuple_f, gTuple_r, gSum_r, gAll_r, gIsi_x, tyD_n, tyD_b, tyD_i, tyD_s, tyD_t, tyD_f, tyD_r, oTy_l, oTy_d, tyM_s, tyM_r, oTyM_l, oTyM_d, gAppend_r, gPop0_r, gPopAt_r, gClear_r, gReverse_r, gJoin_r, gUpper_s, gStr_i, gSorted_r, iSeq_e, vSeq_r, vSeq_f, vSeq_t, vSeq_s, iRange1_e, vRng1_i, iRange2_e, vRng2_i, iZipD_e, vZip_r, vZip_t, iEnumD_e, vEnum_r, nTupL_t, nTupL_r, nCons_c, nNil_n, sSub_e, vPut_r, oPut_ds, oPut_di, oPut_l, h1, pen_left]
    refine ⟨hn, seq_i ?_⟩
    simp (config := {implicitDefEqProofs := false, proj := false}) only [nx_mk, rt_mk, bk_mk, ct_mk, eVar, eC, eOp, eIf, eTup, eLst, eDict0, eDict, eSl, oNo, eCall, eCB, eM, eLc, eIsi2, aNil, aCons, pNil, pCons, tAndD, tOrD, tNotD, tsYes, gMns, gMod, gFdiv, gPow, gLe, gGt, gGe, gEq_ii, gEq_ss, gEq_bb, gEq_nn, gEq_ni, gEq_in, gEq_ns, gEq_sn, gEq_si, gEq_is, sAsg, nName, sRet, sRetN, sExpr, sIf, sNext, sBreak, sCont, sFor, getS, setS, wipeS, endsD, asKeys, toKey, List.length_cons, List.length_nil, List.set_cons_zero, List.set_cons_succ, List.set_nil, Nat.zero_add, Nat.reduceAdd, Option.some.injEq, exists_and_left, exists_eq_left', exists_eq_left, id_eq, if_true, if_false, ite_true, ite_false, Bool.not_true, Bool.not_false, Bool.false_eq_true, not_false_eq_true, not_true_eq_false, reduceCtorEq, true_and, and_true, ne_eq, decide_eq_true_eq, isiN, isiCls, List.mem_cons, String.reduceEq, String.reduceBEq, or_true, true_or, or_false, false_or, Bool.or_true, Bool.true_or, Bool.false_or, Bool.or_false, Bool.and_false, Bool.false_and, Bool.true_and, Bool.and_true, beq_self_eq_true, decide_true, decide_false, tTr_e, vTru_non, vTru_bl, vTru_int, vTru_str, vTru_tup, vTru_ref, oTru_l, oTru_d, tBl_e, vBl_bl, eNeg_e, vNeg_int, eChain_e, eAnd_e, eOr_e, eNot_e, oSome_e, vSome_int, gAdd_ii, gAdd_ss, gAdd_tt, gAdd_rr, gI_ii, gI0_ii, gMulA_ii, gMulA_ri, gMulA_ti, gLt_ii, gLt_ss, gLt2_ii, gLt2_ss, eTab_e, vTab_s, eGet2_e, vGetO_r, vGet2_s, gIs_n, gIs_b, isNon_n, isNon_b, isNon_i, isNon_s, isNon_t, isNon_r, gIx_r, oIx_li, oIx_ds, oIx_di, gIx_ti, gIx_fi, gIx_si, gSl_t, gSl_s, gSl_f, gSl_r, gIn_ss, gIn_t, gIn_r, oIn_l, oIn_ds, gLen_s, gLen_t, gLen_f, gLen_r, oLen_l, oLen_d, gAbs_i, gMax2_ii, gMin2_ii, gInt1_i, gInt1_b, gList_t, gList_f, gList_r, gTuple_t, gTuple_f, gTuple_r, gSum_r, gAll_r, gIsi_x, tyD_n, tyD_b, tyD_i, tyD_s, tyD_t, tyD_f, tyD_r, oTy_l, oTy_d, tyM_s, tyM_r, oTyM_l, oTyM_d, gAppend_r, gPop0_r, gPopAt_r, gClear_r, gReverse_r, gJoin_r, gUpper_s, gStr_i, gSorted_r, iSeq_e, vSeq_r, vSeq_f, vSeq_t, vSeq_s, iRange1_e, vRng1_i, iRange2_e, vRng2_i, iZipD_e, vZip_r, vZip_t, iEnumD_e, vEnum_r, nTupL_t, nTupL_r, nCons_c, nNil_n, sSub_e, vPut_r, oPut_ds, oPut_di, oPut_l, h1, pen_left, put_left, pen_len]
    refine ⟨⟨hn, hm⟩, three_line, ret_i ?_⟩
    simp (config := {implicitDefEqProofs := false, proj := false}) only [nx_mk, rt_mk, bk_mk, ct_mk, eVar, eC, eOp, eIf, eTup, eLst, eDict0, eDict, eSl, oNo, eCall, eCB, eM, eLc, eIsi2, aNil, aCons, pNil, pCons, tAndD, tOrD, tNotD, tsYes, gMns, gMod, gFdiv, gPow, gLe, gGt, gGe, gEq_ii, gEq_ss, gEq_bb, gEq_nn, gEq_ni, gEq_in, gEq_ns, gEq_sn, gEq_si, gEq_is, sAsg, nName, sRet, sRetN, sExpr, sIf, sNext, sBreak, sCont, sFor, getS, setS, wipeS, endsD, asKeys, toKey, List.length_cons, List.length_nil, List.set_cons_zero, List.set_cons_succ, List.set_nil, Nat.zero_add, Nat.reduceAdd, Option.some.injEq, exists_and_left, exists_eq_left', exists_eq_left, id_eq, if_true, if_false, ite_true, ite_false, Bool.not_true, Bool.not_false, Bool.false_eq_true, not_false_eq_true, not_true_eq_false, reduceCtorEq, true_and, and_true, ne_eq, decide_eq_true_eq, isiN, isiCls, List.mem_cons, String.reduceEq, String.reduceBEq, or_true, true_or, or_false, false_or, Bool.or_true, Bool.true_or, Bool.false_or, Bool.or_false, Bool.and_false, Bool.false_and, Bool.true_and, Bool.and_true, beq_self_eq_true, decide_true, decide_false, tTr_e, vTru_non, vTru_bl, vTru_int, vTru_str, vTru_tup, vTru_ref, oTru_l, oTru_d, tBl_e, vBl_bl, eNeg_e, vNeg_int, eChain_e, eAnd_e, eOr_e, eNot_e, oSome_e, vSome_int, gAdd_ii, gAdd_ss, gAdd_tt, gAdd_rr, gI_ii, gI0_ii, gMulA_ii, gMulA_ri, gMulA_ti, gLt_ii, gLt_ss, gLt2_ii, gLt2_ss, eTab_e, vTab_s, eGet2_e, vGetO_r, vGet2_s, gIs_n, gIs_b, isNon_n, isNon_b, isNon_i, isNon_s, isNon_t, isNon_r, gIx_r, oIx_li, oIx_ds, oIx_di, gIx_ti, gIx_fi, gIx_si, gSl_t, gSl_s, gSl_f, gSl_r, gIn_ss, gIn_t, gIn_r, oIn_l, oIn_ds, gLen_s, gLen_t, gLen_f, gLen_r, oLen_l, oLen_d, gAbs_i, gMax2_ii, gMin2_ii, gInt1_i, gInt1_b, gList_t, gList_f, gList_r, gTuple_t, gTuple_f, gTuple_r, gSum_r, gAll_r, gIsi_x, tyD_n, tyD_b, tyD_i, tyD_s, tyD_t, tyD_f, tyD_r, oTy_l, oTy_d, tyM_s, tyM_r, oTyM_l, oTyM_d, gAppend_r, gPop0_r, gPopAt_r, gClear_r, gReverse_r, gJoin_r, gUpper_s, gStr_i, gSorted_r, iSeq_e, vSeq_r, vSeq_f, vSeq_t, vSeq_s, iRange1_e, vRng1_i, iRange2_e, vRng2_i, iZipD_e, vZip_r, vZip_t, iEnumD_e, vEnum_r, nTupL_t, nTupL_r, nCons_c, nNil_n, sSub_e, vPut_r, oPut_ds, oPut_di, oPut_l]
    exact q _ _ (Int.emod_nonneg _ (by omega)) (Int.emod_lt_of_pos _ hn) ⟨ns, a, l / n, updS_same, by rw [updS_ne hcp]; exact h2, h3, h4, by omega, Int.ediv_nonneg h6 (by omega)⟩ .put
  · rw [if_neg hl]
    refine seq_i ?_
    simp (config := {implicitDefEqProofs := false, proj := false}) only [nx_mk, rt_mk, bk_mk, ct_mk, eVar, eC, eOp, eIf, eTup, eLst, eDict0, eDict, eSl, oNo, eCall, eCB, eM, eLc, eIsi2, aNil, aCons, pNil, pCons, tAndD, tOrD, tNotD, tsYes, gMns, gMod, gFdiv, gPow, gLe, gGt, gGe, gEq_ii, gEq_ss, gEq_bb, gEq_nn, gEq_ni, gEq_in, gEq_ns, gEq_sn, gEq_si, gEq_is, sAsg, nName, sRet, sRetN, sExpr, sIf, sNext, sBreak, sCont, sFor, getS, setS, wipeS, endsD, asKeys, toKey, List.length_cons, List.length_nil, List.set_cons_zero, List.set_cons_succ, List.set_nil, Nat.zero_add, Nat.reduceAdd, Option.some.injEq, exists_and_left, exists_eq_left', exists_eq_left, id_eq, if_true, if_false, ite_true, ite_false, Bool.not_true, Bool.not_false, Bool.false_eq_true, not_false_eq_true, not_true_eq_false, reduceCtorEq, true_and, and_true, ne_eq, decide_eq_true_eq, isiN, isiCls, List.mem_cons, String.reduceEq, String.reduceBEq, or_true, true_or, or_false, false_or, Bool.or_true, Bool.true_or, Bool.false_or, Bool.or_false, Bool.and_false, Bool.false_and, Bool.true_and, Bool.and_true, beq_self_eq_true, decide_true, decide_false, tTr_e, vTru_non, vTru_bl, vTru_int, vTru_str, vTru_tup, vTru_ref, oTru_l, oTru_d, tBl_e, vBl_bl, eNeg_e, vNeg_int, eChain_e, eAnd_e, eOr_e, eNot_e, oSome_e, vSome_int, gAdd_ii, gAdd_ss, gAdd_tt, gAdd_rr, gI_ii, gI0_ii, gMulA_ii, gMulA_ri, gMulA_ti, gLt_ii, gLt_ss, gLt2_ii, gLt2_ss, eTab_e, vTab_s, eGet2_e, vGetO_r, vGet2_s, gIs_n, gIs_b, isNon_n, isNon_b, isNon_i, isNon_s, isNon_t, isNon_r, gIx_r, oIx_li, oIx_ds, oIx_di, gIx_ti, gIx_fi, gIx_si, gSl_t, gSl_s, gSl_f, gSl_r, gIn_ss, gIn_t, gIn_r, oIn_l, oIn_ds, gLen_s, gLen_t, gLen_f, gLen_r, oLen_l, oLen_d, gAbs_i, gMax2_ii, gMin2_ii, gInt1_i, gInt1_b, gList_t, gList_f, gList_r, gTuple_t, gTuple_f, gTuple_r, gSum_r, gAll_r, gIsi_x, tyD_n, tyD_b, tyD_i, tyD_s, tyD_t, tyD_f, tyD_r, oTy_l, oTy_d, tyM_s, tyM_r, oTyM_l, oTyM_d, gAppend_r, gPop0_r, gPopAt_r, gClear_r, gReverse_r, gJoin_r, gUpper_s, gStr_i, gSorted_r, iSeq_e, vSeq_r, vSeq_f, vSeq_t, vSeq_s, iRange1_e, vRng1_i, iRange2_e, vRng2_i, iZipD_e, vZip_r, vZip_t, iEnumD_e, vEnum_r, nTupL_t, nTupL_r, nCons_c, nNil_n, sSub_e, vPut_r, oPut_ds, oPut_di, oPut_l, h1, pen_at]
    refine seq_i ?_
    simp (config := {implicitDefEqProofs := false, proj := false}) only [nx_mk, rt_mk, bk_mk, ct_mk, eVar, eC, eOp, eIf, eTup, eLst, eDict0, eDict, eSl, oNo, eCall, eCB, eM, eLc, eIsi2, aNil, aCons, pNil, pCons, tAndD, tOrD, tNotD, tsYes, gMns, gMod, gFdiv, gPow, gLe, gGt, gGe, gEq_ii, gEq_ss, gEq_bb, gEq_nn, gEq_ni, gEq_in, gEq_ns, gEq_sn, gEq_si, gEq_is, sAsg, nName, sRet, sRetN, sExpr, sIf, sNext, sBreak, sCont, sFor, getS, setS, wipeS, endsD, asKeys, toKey, List.length_cons, List.length_nil, List.set_cons_zero, List.set_cons_succ, List.set_nil, Nat.zero_add, Nat.reduceAdd, Option.some.injEq, exists_and_left, exists_eq_left', exists_eq_left, id_eq, if_true, if_false, ite_true, ite_false, Bool.not_true, Bool.not_false, Bool.false_eq_true, not_false_eq_true, not_true_eq_false, reduceCtorEq, true_and, and_true, ne_eq, decide_eq_true_eq, isiN, isiCls, List.mem_cons, String.reduceEq, String.reduceBEq, or_true, true_or, or_false, false_or, Bool.or_true, Bool.true_or, Bool.false_or, Bool.or_false, Bool.and_false, Bool.false_and, Bool.true_and, Bool.and_true, beq_self_eq_true, decide_true, decide_false, tTr_e, vTru_non, vTru_bl, vTru_int, vTru_str, vTru_tup, vTru_ref, oTru_l, oTru_d, tBl_e, vBl_bl, eNeg_e, vNeg_int, eChain_e, eAnd_e, eOr_e, eNot_e, oSome_e, vSome_int, gAdd_ii, gAdd_ss, gAdd_tt, gAdd_rr, gI_ii, gI0_ii, gMulA_ii, gMulA_ri, gMulA_ti, gLt_ii, gLt_ss, gLt2_ii, gLt2_ss, eTab_e, vTab_s, eGet2_e, vGetO_r, vGet2_s, gIs_n, gIs_b, isNon_n, isNon_b, isNon_i, isNon_s, isNon_t, isNon_r, gIx_r, oIx_li, oIx_ds, oIx_di, gIx_ti, gIx_fi, gIx_si, gSl_t, gSl_s, gSl_f, gSl_r, gIn_ss, gIn_t, gIn_r, oIn_l, oIn_ds, gLen_s, gLen_t, gLen_f, gLen_r, oLen_l, oLen_d, gAbs_i, gMax2_ii, gMin2_ii, gInt1_i, gInt1_b, gList_t, gList_f, gList_r, gTuple_t, gTuple_f, gTuple_r, gSum_r, gAll_r, gIsi_x, tyD_n, tyD_b, tyD_i, tyD_s, tyD_t, tyD_f, tyD_r, oTy_l, oTy_d, tyM_s, tyM_r, oTyM_l, oTyM_d, gAppend_r, gPop0_r, gPopAt_r, gClear_r, gReverse_r, gJoin_r, gUpper_s, gStr_i, gSorted_r, iSeq_e, vSeq_r, vSeq_f, vSeq_t, vSeq_s, iRange1_e, vRng1_i, iRange2_e, vRng2_i, iZipD_e, vZip_r, vZip_t, iEnumD_e, vEnum_r, nTupL_t, nTupL_r, nCons_c, nNil_n, sSub_e, vPut_r, oPut_ds, oPut_di, oPut_l, h1, put_at, pen_len]
    refine ⟨three_line, seq_i ?_⟩
    simp (config := {implicitDefEqProofs := false, proj := false}) only [nx_mk, rt_mk, bk_mk, ct_mk, eVar, eC, eOp, eIf, eTup, eLst, eDict0, eDict, eSl, oNo, eCall, eCB, eM, eLc, eIsi2, aNil, aCons, pNil, pCons, tAndD, tOrD, tNotD, tsYes, gMns, gMod, gFdiv, gPow, gLe, gGt, gGe, gEq_ii, gEq_ss, gEq_bb, gEq_nn, gEq_ni, gEq_in, gEq_ns, gEq_sn, gEq_si, gEq_is, sAsg, nName, sRet, sRetN, sExpr, sIf, sNext, sBreak, sCont, sFor, getS, setS, wipeS, endsD, asKeys, toKey, List.length_cons, List.length_nil, List.set_cons_zero, List.set_cons_succ, List.set_nil, Nat.zero_add, Nat.reduceAdd, Option.some.injEq, exists_and_left, exists_eq_left', exists_eq_left, id_eq, if_true, if_false, ite_true, ite_false, Bool.not_true, Bool.not_false, Bool.false_eq_true, not_false_eq_true, not_true_eq_false, reduceCtorEq, true_and, and_true, ne_eq, decide_eq_true_eq, isiN, isiCls, List.mem_cons, String.reduceEq, String.reduceBEq, or_true, true_or, or_false, false_or, Bool.or_true, Bool.true_or, Bool.false_or, Bool.or_false, Bool.and_false, Bool.false_and, Bool.true_and, Bool.and_true, beq_self_eq_true, decide_true, decide_false, tTr_e, vTru_non, vTru_bl, vTru_int, vTru_str, vTru_tup, vTru_ref, oTru_l, oTru_d, tBl_e, vBl_bl, eNeg_e, vNeg_int, eChain_e, eAnd_e, eOr_e, eNot_e, oSome_e, vSome_int, gAdd_ii, gAdd_ss, gAdd_tt, gAdd_rr, gI_ii, gI0_ii, gMulA_ii, gMulA_ri, gMulA_ti, gLt_ii, gLt_ss, gLt2_ii, gLt2_ss, eTab_e, vTab_s, eGet2_e, vGetO_r, vGet2_s, gIs_n, gIs_b, isNon_n, isNon_b, isNon_i, isNon_s, isNon_t, isNon_r, gIx_r, oIx_li, oIx_ds, oIx_di, gIx_ti, gIx_fi, gIx_si, gSl_t, gSl_s, gSl_f, gSl_r, gIn_ss, gIn_t, gIn_r, oIn_l, oIn_ds, gLen_s, gLen_t, gLen_f, gLen_r, oLen_l, oLen_d, gAbs_i, gMax2_ii, gMin2_ii, gInt1_i, gInt1_b, gList_t, gList_f, gList_r, gTuple_t, gTuple_f, gTuple_r, gSum_r, gAll_r, gIsi_x, tyD_n, tyD_b, tyD_i, tyD_s, tyD_t, tyD_f, tyD_r, oTy_l, oTy_d, tyM_s, tyM_r, oTyM_l, oTyM_d, gAppend_r, gPop0_r, gPopAt_r, gClear_r, gReverse_r, gJoin_r, gUpper_s, gStr_i, gSorted_r, iSeq_e, vSeq_r, vSeq_f, vSeq_t, vSeq_s, iRange1_e, vRng1_i, iRange2_e, vRng2_i, iZipD_e, vZip_r, vZip_t, iEnumD_e, vEnum_r, nTupL_t, nTupL_r, nCons_c, nNil_n, sSub_e, vPut_r, oPut_ds, oPut_di, oPut_l, updS_same, pen_cells]
    have hS : Kp p S (updS S p (.dk (penKv c (a + 1) l))) := .put
    have hc : updS S p (.dk (penKv c (a + 1) l)) c = some (.lst (ns.map .int)) := by rw [updS_ne hcp]; exact h2
    have hpp : updS S p (.dk (penKv c (a + 1) l)) p = some (.dk (penKv c (a + 1) l)) := updS_same
    generalize updS S p (.dk (penKv c (a + 1) l)) = S1 at hS hc hpp
    refine seq_i ?_
    simp (config := {implicitDefEqProofs := false, proj := false}) only [nx_mk, rt_mk, bk_mk, ct_mk, eVar, eC, eOp, eIf, eTup, eLst, eDict0, eDict, eSl, oNo, eCall, eCB, eM, eLc, eIsi2, aNil, aCons, pNil, pCons, tAndD, tOrD, tNotD, tsYes, gMns, gMod, gFdiv, gPow, gLe, gGt, gGe, gEq_ii, gEq_ss, gEq_bb, gEq_nn, gEq_ni, gEq_in, gEq_ns, gEq_sn, gEq_si, gEq_is, sAsg, nName, sRet, sRetN, sExpr, sIf, sNext, sBreak, sCont, sFor, getS, setS, wipeS, endsD, asKeys, toKey, List.length_cons, List.length_nil, List.set_cons_zero, List.set_cons_succ, List.set_nil, Nat.zero_add, Nat.reduceAdd, Option.some.injEq, exists_and_left, exists_eq_left', exists_eq_left, id_eq, if_true, if_false, ite_true, ite_false, Bool.not_true, Bool.not_false, Bool.false_eq_true, not_false_eq_true, not_true_eq_false, reduceCtorEq, true_and, and_true, ne_eq, decide_eq_true_eq, isiN, isiCls, List.mem_cons, String.reduceEq, String.reduceBEq, or_true, true_or, or_false, false_or, Bool.or_true, Bool.true_or, Bool.false_or, Bool.or_false, Bool.and_false, Bool.false_and, Bool.true_and, Bool.and_true, beq_self_eq_true, decide_true, decide_false, tTr_e, vTru_non, vTru_bl, vTru_int, vTru_str, vTru_tup, vTru_ref, oTru_l, oTru_d, tBl_e, vBl_bl, eNeg_e, vNeg_int, eChain_e, eAnd_e, eOr_e, eNot_e, oSome_e, vSome_int, gAdd_ii, gAdd_ss, gAdd_tt, gAdd_rr, gI_ii, gI0_ii, gMulA_ii, gMulA_ri, gMulA_ti, gLt_ii, gLt_ss, gLt2_ii, gLt2_ss, eTab_e, vTab_s, eGet2_e, vGetO_r, vGet2_s, gIs_n, gIs_b, isNon_n, isNon_b, isNon_i, isNon_s, isNon_t, isNon_r, gIx_r, oIx_li, oIx_ds, oIx_di, gIx_ti, gIx_fi, gIx_si, gSl_t, gSl_s, gSl_f, gSl_r, gIn_ss, gIn_t, gIn_r, oIn_l, oIn_ds, gLen_s, gLen_t, gLen_f, gLen_r, oLen_l, oLen_d, gAbs_i, gMax2_ii, gMin2_ii, gInt1_i, gInt1_b, gList_t, gList_f, gList_r, gTuple_t, gTuple_f, gTuple_r, gSum_r, gAll_r, gIsi_x, tyD_n, tyD_b, tyD_i, tyD_s, tyD_t, tyD_f, tyD_r, oTy_l, oTy_d, tyM_s, tyM_r, oTyM_l, oTyM_d, gAppend_r, gPop0_r, gPopAt_r, gClear_r, gReverse_r, gJoin_r, gUpper_s, gStr_i, gSorted_r, iSeq_e, vSeq_r, vSeq_f, vSeq_t, vSeq_s, iRange1_e, vRng1_i, iRange2_e, vRng2_i, iZipD_e, vZip_r, vZip_t, iEnumD_e, vEnum_r, nTupL_t, nTupL_r, nCons_c, nNil_n, sSub_e, vPut_r, oPut_ds, oPut_di, oPut_l]
    refine ⟨mulS (by omega) (by omega) (by omega) (by omega), mulS (by omega) (by omega) (by omega) (by omega), mulS (by omega) (by omega) (by omega) (by omega), ?_⟩
    generalize 70207 * a * a + 131 * a + 29 = z0
    refine seq_i ?_
    simp (config := {implicitDefEqProofs := false, proj := false}) only [nx_mk, rt_mk, bk_mk, ct_mk, eVar, eC, eOp, eIf, eTup, eLst, eDict0, eDict, eSl, oNo, eCall, eCB, eM, eLc, eIsi2, aNil, aCons, pNil, pCons, tAndD, tOrD, tNotD, tsYes, gMns, gMod, gFdiv, gPow, gLe, gGt, gGe, gEq_ii, gEq_ss, gEq_bb, gEq_nn, gEq_ni, gEq_in, gEq_ns, gEq_sn, gEq_si, gEq_is, sAsg, nName, sRet, sRetN, sExpr, sIf, sNext, sBreak, sCont, sFor, getS, setS, wipeS, endsD, asKeys, toKey, List.length_cons, List.length_nil, List.set_cons_zero, List.set_cons_succ, List.set_nil, Nat.zero_add, Nat.reduceAdd, Option.some.injEq, exists_and_left, exists_eq_left', exists_eq_left, id_eq, if_true, if_false, ite_true, ite_false, Bool.not_true, Bool.not_false, Bool.false_eq_true, not_false_eq_true, not_true_eq_false, reduceCtorEq, true_and, and_true, ne_eq, decide_eq_true_eq, isiN, isiCls, List.mem_cons, String.reduceEq, String.reduceBEq, or_true, true_or, or_false, false_or, Bool.or_true, Bool.true_or, Bool.false_or, Bool.or_false, Bool.and_false, Bool.false_and, Bool.true_and, Bool.and_true, beq_self_eq_true, decide_true, decide_false, tTr_e, vTru_non, vTru_bl, vTru_int, vTru_str, vTru_tup, vTru_ref, oTru_l, oTru_d, tBl_e, vBl_bl, eNeg_e, vNeg_int, eChain_e, eAnd_e, eOr_e, eNot_e, oSome_e, vSome_int, gAdd_ii, gAdd_ss, gAdd_tt, gAdd_rr, gI_ii, gI0_ii, gMulA_ii, gMulA_ri, gMulA_ti, gLt_ii, gLt_ss, gLt2_ii, gLt2_ss, eTab_e, vTab_s, eGet2_e, vGetO_r, vGet2_s, gIs_n, gIs_b, isNon_n, isNon_b, isNon_i, isNon_s, isNon_t, isNon_r, gIx_r, oIx_li, oIx_ds, oIx_di, gIx_ti, gIx_fi, gIx_si, gSl_t, gSl_s, gSl_f, gSl_r, gIn_ss, gIn_t, gIn_r, oIn_l, oIn_ds, gLen_s, gLen_t, gLen_f, gLen_r, oLen_l, oLen_d, gAbs_i, gMax2_ii, gMin2_ii, gInt1_i, gInt1_b, gList_t, gList_f, gList_r, gTuple_t, gTuple_f, gTuple_r, gSum_r, gAll_r, gIsi_x, tyD_n, tyD_b, tyD_i, tyD_s, tyD_t, tyD_f, tyD_r, oTy_l, oTy_d, tyM_s, tyM_r, oTyM_l, oTyM_d, gAppend_r, gPop0_r, gPopAt_r, gClear_r, gReverse_r, gJoin_r, gUpper_s, gStr_i, gSorted_r, iSeq_e, vSeq_r, vSeq_f, vSeq_t, vSeq_s, iRange1_e, vRng1_i, iRange2_e, vRng2_i, iZipD_e, vZip_r, vZip_t, iEnumD_e, vEnum_r, nTupL_t, nTupL_r, nCons_c, nNil_n, sSub_e, vPut_r, oPut_ds, oPut_di, oPut_l]
    refine ⟨nil_line, fun p1 hp1 => ?_⟩
    have hcp1 : c ≠ p1 := neS hc hp1
    have hpp1 : p ≠ p1 := neS hpp hp1
    refine eq_nil (by rw [updS_ne hcp1]; exact hc) updS_same (pds_ints ns) (depth_ints ns) ?_
    have hc2 : updS S1 p1 (.lst []) c = some (.lst (ns.map .int)) := by rw [updS_ne hcp1]; exact hc
    have hpp2 : updS S1 p1 (.lst []) p = some (.dk (penKv c (a + 1) l)) := by rw [updS_ne hpp1]; exact hpp
    have hS2 : Kp p S (updS S1 p1 (.lst [])) := hS.trans (.new hp1)
    generalize updS S1 p1 (.lst []) = S2 at hc2 hpp2 hS2
    simp (config := {implicitDefEqProofs := false, proj := false}) only [nx_mk, rt_mk, bk_mk, ct_mk, eVar, eC, eOp, eIf, eTup, eLst, eDict0, eDict, eSl, oNo, eCall, eCB, eM, eLc, eIsi2, aNil, aCons, pNil, pCons, tAndD, tOrD, tNotD, tsYes, gMns, gMod, gFdiv, gPow, gLe, gGt, gGe, gEq_ii, gEq_ss, gEq_bb, gEq_nn, gEq_ni, gEq_in, gEq_ns, gEq_sn, gEq_si, gEq_is, sAsg, nName, sRet, sRetN, sExpr, sIf, sNext, sBreak, sCont, sFor, getS, setS, wipeS, endsD, asKeys, toKey, List.length_cons, List.length_nil, List.set_cons_zero, List.set_cons_succ, List.set_nil, Nat.zero_add, Nat.reduceAdd, Option.some.injEq, exists_and_left, exists_eq_left', exists_eq_left, id_eq, if_true, if_false, ite_true, ite_false, Bool.not_true, Bool.not_false, Bool.false_eq_true, not_false_eq_true, not_true_eq_false, reduceCtorEq, true_and, and_true, ne_eq, decide_eq_true_eq, isiN, isiCls, List.mem_cons, String.reduceEq, String.reduceBEq, or_true, true_or, or_false, false_or, Bool.or_true, Bool.true_or, Bool.false_or, Bool.or_false, Bool.and_false, Bool.false_and, Bool.true_and, Bool.and_true, beq_self_eq_true, decide_true, decide_false, tTr_e, vTru_non, vTru_bl, vTru_int, vTru_str, vTru_tup, vTru_ref, oTru_l, oTru_d, tBl_e, vBl_bl, eNeg_e, vNeg_int, eChain_e, eAnd_e, eOr_e, eNot_e, oSome_e, vSome_int, gAdd_ii, gAdd_ss, gAdd_tt, gAdd_rr, gI_ii, gI0_ii, gMulA_ii, gMulA_ri, gMulA_ti, gLt_ii, gLt_ss, gLt2_ii, gLt2_ss, eTab_e, vTab_s, eGet2_e, vGetO_r, vGet2_s, gIs_n, gIs_b, isNon_n, isNon_b, isNon_i, isNon_s, isNon_t, isNon_r, gIx_r, oIx_li, oIx_ds, oIx_di, gIx_ti, gIx_fi, gIx_si, gSl_t, gSl_s, gSl_f, gSl_r, gIn_ss, gIn_t, gIn_r, oIn_l, oIn_ds, gLen_s, gLen_t, gLen_f, gLen_r, oLen_l, oLen_d, gAbs_i, gMax2_ii, gMin2_ii, gInt1_i, gInt1_b, gList_t, gList_f, gList_r, gTuple_t, gTuple_f, gTuple_r, gSum_r, gAll_r, gIsi_x, tyD_n, tyD_b, tyD_i, tyD_s, tyD_t, tyD_f, tyD_r, oTy_l, oTy_d, tyM_s, tyM_r, oTyM_l, oTyM_d, gAppend_r, gPop0_r, gPopAt_r, gClear_r, gReverse_r, gJoin_r, gUpper_s, gStr_i, gSorted_r, iSeq_e, vSeq_r, vSeq_f, vSeq_t, vSeq_s, iRange1_e, vRng1_i, iRange2_e, vRng2_i, iZipD_e, vZip_r, vZip_t, iEnumD_e, vEnum_r, nTupL_t, nTupL_r, nCons_c, nNil_n, sSub_e, vPut_r, oPut_ds, oPut_di, oPut_l, List.isEmpty_map, hc2]
    -- the cell
    have rest : ∀ z, t_wtake_11 ⟨fun x S => Q .non S, Q, fun _ _ => False, fun _ _ => False⟩ [some (.ref p), some (.int n), some (.int a), some (.ref c), some (.int z), none, none, none] S2 := by
      intro z
      have fin : t_wtake_14 ⟨fun x S => Q .non S, Q, fun _ _ => False, fun _ _ => False⟩ [some (.ref p), some (.int n), some (.int a), some (.ref c), some (.int z), none, none, none] S2 := by
        refine seq_i ?_
        simp (config := {implicitDefEqProofs := false, proj := false}) only [nx_mk, rt_mk, bk_mk, ct_mk, eVar, eC, eOp, eIf, eTup, eLst, eDict0, eDict, eSl, oNo, eCall, eCB, eM, eLc, eIsi2, aNil, aCons, pNil, pCons, tAndD, tOrD, tNotD, tsYes, gMns, gMod, gFdiv, gPow, gLe, gGt, gGe, gEq_ii, gEq_ss, gEq_bb, gEq_nn, gEq_ni, gEq_in, gEq_ns, gEq_sn, gEq_si, gEq_is, sAsg, nName, sRet, sRetN, sExpr, sIf, sNext, sBreak, sCont, sFor, getS, setS, wipeS, endsD, asKeys, toKey, List.length_cons, List.length_nil, List.set_cons_zero, List.set_cons_succ, List.set_nil, Nat.zero_add, Nat.reduceAdd, Option.some.injEq, exists_and_left, exists_eq_left', exists_eq_left, id_eq, if_true, if_false, ite_true, ite_false, Bool.not_true, Bool.not_false, Bool.false_eq_true, not_false_eq_true, not_true_eq_false, reduceCtorEq, true_and, and_true, ne_eq, decide_eq_true_eq, isiN, isiCls, List.mem_cons, String.reduceEq, String.reduceBEq, or_true, true_or, or_false, false_or, Bool.or_true, Bool.true_or, Bool.false_or, Bool.or_false, Bool.and_false, Bool.false_and, Bool.true_and, Bool.and_true, beq_self_eq_true, decide_true, decide_false, tTr_e, vTru_non, vTru_bl, vTru_int, vTru_str, vTru_tup, vTru_ref, oTru_l, oTru_d, tBl_e, vBl_bl, eNeg_e, vNeg_int, eChain_e, eAnd_e, eOr_e, eNot_e, oSome_e, vSome_int, gAdd_ii, gAdd_ss, gAdd_tt, gAdd_rr, gI_ii, gI0_ii, gMulA_ii, gMulA_ri, gMulA_ti, gLt_ii, gLt_ss, gLt2_ii, gLt2_ss, eTab_e, vTab_s, eGet2_e, vGetO_r, vGet2_s, gIs_n, gIs_b, isNon_n, isNon_b, isNon_i, isNon_s, isNon_t, isNon_r, gIx_r, oIx_li, oIx_ds, oIx_di, gIx_ti, gIx_fi, gIx_si, gSl_t, gSl_s, gSl_f, gSl_r, gIn_ss, gIn_t, gIn_r, oIn_l, oIn_ds, gLen_s, gLen_t, gLen_f, gLen_r, oLen_l, oLen_d, gAbs_i, gMax2_ii, gMin2_ii, gInt1_i, gInt1_b, gList_t, gList_f, gList_r, gTuple_t, gTuple_f, gTuple_r, gSum_r, gAll_r, gIsi_x, tyD_n, tyD_b, tyD_i, tyD_s, tyD_t, tyD_f, tyD_r, oTy_l, oTy_d, tyM_s, tyM_r, oTyM_l, oTyM_d, gAppend_r, gPop0_r, gPopAt_r, gClear_r, gReverse_r, gJoin_r, gUpper_s, gStr_i, gSorted_r, iSeq_e, vSeq_r, vSeq_f, vSeq_t, vSeq_s, iRange1_e, vRng1_i, iRange2_e, vRng2_i, iZipD_e, vZip_r, vZip_t, iEnumD_e, vEnum_r, nTupL_t, nTupL_r, nCons_c, nNil_n, sSub_e, vPut_r, oPut_ds, oPut_di, oPut_l]
        have z1 : 0 ≤ z % 2147483587 := Int.emod_nonneg _ (by decide)
        have z2 : z % 2147483587 < 2147483587 := Int.emod_lt_of_pos _ (by decide)
        refine ⟨by decide, mulS (by omega) (by omega) (by omega) (by omega), powS (by decide) (by decide) (by omega) (by omega), by decide, seq_i ?_⟩
        have y1 : 0 ≤ (z % 2147483587 + 45007 * a + 11) ^ Int.toNat 3 % 2147483629 := Int.emod_nonneg _ (by decide)
        have y2 : (z % 2147483587 + 45007 * a + 11) ^ Int.toNat 3 % 2147483629 < 2147483629 := Int.emod_lt_of_pos _ (by decide)
        generalize (z % 2147483587 + 45007 * a + 11) ^ Int.toNat 3 % 2147483629 = one at y1 y2
        simp (config := {implicitDefEqProofs := false, proj := false}) only [nx_mk, rt_mk, bk_mk, ct_mk, eVar, eC, eOp, eIf, eTup, eLst, eDict0, eDict, eSl, oNo, eCall, eCB, eM, eLc, eIsi2, aNil, aCons, pNil, pCons, tAndD, tOrD, tNotD, tsYes, gMns, gMod, gFdiv, gPow, gLe, gGt, gGe, gEq_ii, gEq_ss, gEq_bb, gEq_nn, gEq_ni, gEq_in, gEq_ns, gEq_sn, gEq_si, gEq_is, sAsg, nName, sRet, sRetN, sExpr, sIf, sNext, sBreak, sCont, sFor, getS, setS, wipeS, endsD, asKeys, toKey, List.length_cons, List.length_nil, List.set_cons_zero, List.set_cons_succ, List.set_nil, Nat.zero_add, Nat.reduceAdd, Option.some.injEq, exists_and_left, exists_eq_left', exists_eq_left, id_eq, if_true, if_false, ite_true, ite_false, Bool.not_true, Bool.not_false, Bool.false_eq_true, not_false_eq_true, not_true_eq_false, reduceCtorEq, true_and, and_true, ne_eq, decide_eq_true_eq, isiN, isiCls, List.mem_cons, String.reduceEq, String.reduceBEq, or_true, true_or, or_false, false_or, Bool.or_true, Bool.true_or, Bool.false_or, Bool.or_false, Bool.and_false, Bool.false_and, Bool.true_and, Bool.and_true, beq_self_eq_true, decide_true, decide_false, tTr_e, vTru_non, vTru_bl, vTru_int, vTru_str, vTru_tup, vTru_ref, oTru_l, oTru_d, tBl_e, vBl_bl, eNeg_e, vNeg_int, eChain_e, eAnd_e, eOr_e, eNot_e, oSome_e, vSome_int, gAdd_ii, gAdd_ss, gAdd_tt, gAdd_rr, gI_ii, gI0_ii, gMulA_ii, gMulA_ri, gMulA_ti, gLt_ii, gLt_ss, gLt2_ii, gLt2_ss, eTab_e, vTab_s, eGet2_e, vGetO_r, vGet2_s, gIs_n, gIs_b, isNon_n, isNon_b, isNon_i, isNon_s, isNon_t, isNon_r, gIx_r, oIx_li, oIx_ds, oIx_di, gIx_ti, gIx_fi, gIx_si, gSl_t, gSl_s, gSl_f, gSl_r, gIn_ss, gIn_t, gIn_r, oIn_l, oIn_ds, gLen_s, gLen_t, gLen_f, gLen_r, oLen_l, oLen_d, gAbs_i, gMax2_ii, gMin2_ii, gInt1_i, gInt1_b, gList_t, gList_f, gList_r, gTuple_t, gTuple_f, gTuple_r, gSum_r, gAll_r, gIsi_x, tyD_n, tyD_b, tyD_i, tyD_s, tyD_t, tyD_f, tyD_r, oTy_l, oTy_d, tyM_s, tyM_r, oTyM_l, oTyM_d, gAppend_r, gPop0_r, gPopAt_r, gClear_r, gReverse_r, gJoin_r, gUpper_s, gStr_i, gSorted_r, iSeq_e, vSeq_r, vSeq_f, vSeq_t, vSeq_s, iRange1_e, vRng1_i, iRange2_e, vRng2_i, iZipD_e, vZip_r, vZip_t, iEnumD_e, vEnum_r, nTupL_t, nTupL_r, nCons_c, nNil_n, sSub_e, vPut_r, oPut_ds, oPut_di, oPut_l]
        have x1 : 1213 * a * a ≤ 1213 * 100000000 * 100000000 := Int.mul_le_mul (by omega) (by omega) h4 (by omega)
        have x0 : 0 ≤ 1213 * a * a := Int.mul_nonneg (by omega) h4
        refine ⟨mulS (by omega) (by omega) (by omega) (by omega), mulS (by omega) (by omega) (by omega) (by omega), powS (by decide) (by decide) (by omega) (by omega), by decide, ret_i ?_⟩
        simp (config := {implicitDefEqProofs := false, proj := false}) only [nx_mk, rt_mk, bk_mk, ct_mk, eVar, eC, eOp, eIf, eTup, eLst, eDict0, eDict, eSl, oNo, eCall, eCB, eM, eLc, eIsi2, aNil, aCons, pNil, pCons, tAndD, tOrD, tNotD, tsYes, gMns, gMod, gFdiv, gPow, gLe, gGt, gGe, gEq_ii, gEq_ss, gEq_bb, gEq_nn, gEq_ni, gEq_in, gEq_ns, gEq_sn, gEq_si, gEq_is, sAsg, nName, sRet, sRetN, sExpr, sIf, sNext, sBreak, sCont, sFor, getS, setS, wipeS, endsD, asKeys, toKey, List.length_cons, List.length_nil, List.set_cons_zero, List.set_cons_succ, List.set_nil, Nat.zero_add, Nat.reduceAdd, Option.some.injEq, exists_and_left, exists_eq_left', exists_eq_left, id_eq, if_true, if_false, ite_true, ite_false, Bool.not_true, Bool.not_false, Bool.false_eq_true, not_false_eq_true, not_true_eq_false, reduceCtorEq, true_and, and_true, ne_eq, decide_eq_true_eq, isiN, isiCls, List.mem_cons, String.reduceEq, String.reduceBEq, or_true, true_or, or_false, false_or, Bool.or_true, Bool.true_or, Bool.false_or, Bool.or_false, Bool.and_false, Bool.false_and, Bool.true_and, Bool.and_true, beq_self_eq_true, decide_true, decide_false, tTr_e, vTru_non, vTru_bl, vTru_int, vTru_str, vTru_tup, vTru_ref, oTru_l, oTru_d, tBl_e, vBl_bl, eNeg_e, vNeg_int, eChain_e, eAnd_e, eOr_e, eNot_e, oSome_e, vSome_int, gAdd_ii, gAdd_ss, gAdd_tt, gAdd_rr, gI_ii, gI0_ii, gMulA_ii, gMulA_ri, gMulA_ti, gLt_ii, gLt_ss, gLt2_ii, gLt2_ss, eTab_e, vTab_s, eGet2_e, vGetO_r, vGet2_s, gIs_n, gIs_b, isNon_n, isNon_b, isNon_i, isNon_s, isNon_t, isNon_r, gIx_r, oIx_li, oIx_ds, oIx_di, gIx_ti, gIx_fi, gIx_si, gSl_t, gSl_s, gSl_f, gSl_r, gIn_ss, gIn_t, gIn_r, oIn_l, oIn_ds, gLen_s, gLen_t, gLen_f, gLen_r, oLen_l, oLen_d, gAbs_i, gMax2_ii, gMin2_ii, gInt1_i, gInt1_b, gList_t, gList_f, gList_r, gTuple_t, gTuple_f, gTuple_r, gSum_r, gAll_r, gIsi_x, tyD_n, tyD_b, tyD_i, tyD_s, tyD_t, tyD_f, tyD_r, oTy_l, oTy_d, tyM_s, tyM_r, oTyM_l, oTyM_d, gAppend_r, gPop0_r, gPopAt_r, gClear_r, gReverse_r, gJoin_r, gUpper_s, gStr_i, gSorted_r, iSeq_e, vSeq_r, vSeq_f, vSeq_t, vSeq_s, iRange1_e, vRng1_i, iRange2_e, vRng2_i, iZipD_e, vZip_r, vZip_t, iEnumD_e, vEnum_r, nTupL_t, nTupL_r, nCons_c, nNil_n, sSub_e, vPut_r, oPut_ds, oPut_di, oPut_l]
        have w1 : 0 ≤ (one + 1213 * a * a + 3) ^ Int.toNat 5 % 2147483543 := Int.emod_nonneg _ (by decide)
        have w2 : (one + 1213 * a * a + 3) ^ Int.toNat 5 % 2147483543 < 2147483543 := Int.emod_lt_of_pos _ (by decide)
        generalize (one + 1213 * a * a + 3) ^ Int.toNat 5 % 2147483543 = two at w1 w2
        have v1 : 0 ≤ one % 64007 := Int.emod_nonneg _ (by decide)
        have v2 : one % 64007 < 64007 := Int.emod_lt_of_pos _ (by decide)
        refine ⟨by decide, mulS (by omega) (by omega) (by omega) (by omega), by decide, fdivS (by decide) (by decide), hn, ?_⟩
        exact q _ _ (Int.emod_nonneg _ (by omega)) (Int.emod_lt_of_pos _ hn) ⟨ns, a + 1, l, hpp2, hc2, h3, by omega, by omega, h6⟩ hS2
      refine seq_i ?_
      simp (config := {implicitDefEqProofs := false, proj := false}) only [nx_mk, rt_mk, bk_mk, ct_mk, eVar, eC, eOp, eIf, eTup, eLst, eDict0, eDict, eSl, oNo, eCall, eCB, eM, eLc, eIsi2, aNil, aCons, pNil, pCons, tAndD, tOrD, tNotD, tsYes, gMns, gMod, gFdiv, gPow, gLe, gGt, gGe, gEq_ii, gEq_ss, gEq_bb, gEq_nn, gEq_ni, gEq_in, gEq_ns, gEq_sn, gEq_si, gEq_is, sAsg, nName, sRet, sRetN, sExpr, sIf, sNext, sBreak, sCont, sFor, getS, setS, wipeS, endsD, asKeys, toKey, List.length_cons, List.length_nil, List.set_cons_zero, List.set_cons_succ, List.set_nil, Nat.zero_add, Nat.reduceAdd, Option.some.injEq, exists_and_left, exists_eq_left', exists_eq_left, id_eq, if_true, if_false, ite_true, ite_false, Bool.not_true, Bool.not_false, Bool.false_eq_true, not_false_eq_true, not_true_eq_false, reduceCtorEq, true_and, and_true, ne_eq, decide_eq_true_eq, isiN, isiCls, List.mem_cons, String.reduceEq, String.reduceBEq, or_true, true_or, or_false, false_or, Bool.or_true, Bool.true_or, Bool.false_or, Bool.or_false, Bool.and_false, Bool.false_and, Bool.true_and, Bool.and_true, beq_self_eq_true, decide_true, decide_false, tTr_e, vTru_non, vTru_bl, vTru_int, vTru_str, vTru_tup, vTru_ref, oTru_l, oTru_d, tBl_e, vBl_bl, eNeg_e, vNeg_int, eChain_e, eAnd_e, eOr_e, eNot_e, oSome_e, vSome_int, gAdd_ii, gAdd_ss, gAdd_tt, gAdd_rr, gI_ii, gI0_ii, gMulA_ii, gMulA_ri, gMulA_ti, gLt_ii, gLt_ss, gLt2_ii, gLt2_ss, eTab_e, vTab_s, eGet2_e, vGetO_r, vGet2_s, gIs_n, gIs_b, isNon_n, isNon_b, isNon_i, isNon_s, isNon_t, isNon_r, gIx_r, oIx_li, oIx_ds, oIx_di, gIx_ti, gIx_fi, gIx_si, gSl_t, gSl_s, gSl_f, gSl_r, gIn_ss, gIn_t, gIn_r, oIn_l, oIn_ds, gLen_s, gLen_t, gLen_f, gLen_r, oLen_l, oLen_d, gAbs_i, gMax2_ii, gMin2_ii, gInt1_i, gInt1_b, gList_t, gList_f, gList_r, gTuple_t, gTuple_f, gTuple_r, gSum_r, gAll_r, gIsi_x, tyD_n, tyD_b, tyD_i, tyD_s, tyD_t, tyD_f, tyD_r, oTy_l, oTy_d, tyM_s, tyM_r, oTyM_l, oTyM_d, gAppend_r, gPop0_r, gPopAt_r, gClear_r, gReverse_r, gJoin_r, gUpper_s, gStr_i, gSorted_r, iSeq_e, vSeq_r, vSeq_f, vSeq_t, vSeq_s, iRange1_e, vRng1_i, iRange2_e, vRng2_i, iZipD_e, vZip_r, vZip_t, iEnumD_e, vEnum_r, nTupL_t, nTupL_r, nCons_c, nNil_n, sSub_e, vPut_r, oPut_ds, oPut_di, oPut_l, hc2, List.length_map]
      by_cases ha : a < ns.length
      · rw [if_pos ha]
        refine ⟨powS (by decide) (by decide) (by decide) (by decide), ?_⟩
        by_cases hz : (10 : Int) ^ Int.toNat 18 ≤ if z < 0 then -z else z
        · rw [if_pos hz]
          refine seq_i ?_
          simp (config := {implicitDefEqProofs := false, proj := false}) only [nx_mk, rt_mk, bk_mk, ct_mk, eVar, eC, eOp, eIf, eTup, eLst, eDict0, eDict, eSl, oNo, eCall, eCB, eM, eLc, eIsi2, aNil, aCons, pNil, pCons, tAndD, tOrD, tNotD, tsYes, gMns, gMod, gFdiv, gPow, gLe, gGt, gGe, gEq_ii, gEq_ss, gEq_bb, gEq_nn, gEq_ni, gEq_in, gEq_ns, gEq_sn, gEq_si, gEq_is, sAsg, nName, sRet, sRetN, sExpr, sIf, sNext, sBreak, sCont, sFor, getS, setS, wipeS, endsD, asKeys, toKey, List.length_cons, List.length_nil, List.set_cons_zero, List.set_cons_succ, List.set_nil, Nat.zero_add, Nat.reduceAdd, Option.some.injEq, exists_and_left, exists_eq_left', exists_eq_left, id_eq, if_true, if_false, ite_true, ite_false, Bool.not_true, Bool.not_false, Bool.false_eq_true, not_false_eq_true, not_true_eq_false, reduceCtorEq, true_and, and_true, ne_eq, decide_eq_true_eq, isiN, isiCls, List.mem_cons, String.reduceEq, String.reduceBEq, or_true, true_or, or_false, false_or, Bool.or_true, Bool.true_or, Bool.false_or, Bool.or_false, Bool.and_false, Bool.false_and, Bool.true_and, Bool.and_true, beq_self_eq_true, decide_true, decide_false, tTr_e, vTru_non, vTru_bl, vTru_int, vTru_str, vTru_tup, vTru_ref, oTru_l, oTru_d, tBl_e, vBl_bl, eNeg_e, vNeg_int, eChain_e, eAnd_e, eOr_e, eNot_e, oSome_e, vSome_int, gAdd_ii, gAdd_ss, gAdd_tt, gAdd_rr, gI_ii, gI0_ii, gMulA_ii, gMulA_ri, gMulA_ti, gLt_ii, gLt_ss, gLt2_ii, gLt2_ss, eTab_e, vTab_s, eGet2_e, vGetO_r, vGet2_s, gIs_n, gIs_b, isNon_n, isNon_b, isNon_i, isNon_s, isNon_t, isNon_r, gIx_r, oIx_li, oIx_ds, oIx_di, gIx_ti, gIx_fi, gIx_si, gSl_t, gSl_s, gSl_f, gSl_r, gIn_ss, gIn_t, gIn_r, oIn_l, oIn_ds, gLen_s, gLen_t, gLen_f, gLen_r, oLen_l, oLen_d, gAbs_i, gMax2_ii, gMin2_ii, gInt1_i, gInt1_b, gList_t, gList_f, gList_r, gTuple_t, gTuple_f, gTuple_r, gSum_r, gAll_r, gIsi_x, tyD_n, tyD_b, tyD_i, tyD_s, tyD_t, tyD_f, tyD_r, oTy_l, oTy_d, tyM_s, tyM_r, oTyM_l, oTyM_d, gAppend_r, gPop0_r, gPopAt_r, gClear_r, gReverse_r, gJoin_r, gUpper_s, gStr_i, gSorted_r, iSeq_e, vSeq_r, vSeq_f, vSeq_t, vSeq_s, iRange1_e, vRng1_i, iRange2_e, vRng2_i, iZipD_e, vZip_r, vZip_t, iEnumD_e, vEnum_r, nTupL_t, nTupL_r, nCons_c, nNil_n, sSub_e, vPut_r, oPut_ds, oPut_di, oPut_l, hpp2, put_left, pen_len]
          refine ⟨⟨hn, hm⟩, three_line, hn, ?_⟩
          refine q _ _ (Int.emod_nonneg _ (by omega)) (Int.emod_lt_of_pos _ hn) ⟨ns, a + 1, _, updS_same, by rw [updS_ne hcp]; exact hc2, h3, by omega, by omega, Int.ediv_nonneg (by split <;> omega) (by omega)⟩ (hS2.trans .put)
        · rw [if_neg hz]
          exact fin
      · rw [if_neg ha]
        exact fin
    by_cases he : ns.isEmpty
    · simp (config := {implicitDefEqProofs := false, proj := false}) only [nx_mk, rt_mk, bk_mk, ct_mk, eVar, eC, eOp, eIf, eTup, eLst, eDict0, eDict, eSl, oNo, eCall, eCB, eM, eLc, eIsi2, aNil, aCons, pNil, pCons, tAndD, tOrD, tNotD, tsYes, gMns, gMod, gFdiv, gPow, gLe, gGt, gGe, gEq_ii, gEq_ss, gEq_bb, gEq_nn, gEq_ni, gEq_in, gEq_ns, gEq_sn, gEq_si, gEq_is, sAsg, nName, sRet, sRetN, sExpr, sIf, sNext, sBreak, sCont, sFor, getS, setS, wipeS, endsD, asKeys, toKey, List.length_cons, List.length_nil, List.set_cons_zero, List.set_cons_succ, List.set_nil, Nat.zero_add, Nat.reduceAdd, Option.some.injEq, exists_and_left, exists_eq_left', exists_eq_left, id_eq, if_true, if_false, ite_true, ite_false, Bool.not_true, Bool.not_false, Bool.false_eq_true, not_false_eq_true, not_true_eq_false, reduceCtorEq, true_and, and_true, ne_eq, decide_eq_true_eq, isiN, isiCls, List.mem_cons, String.reduceEq, String.reduceBEq, or_true, true_or, or_false, false_or, Bool.or_true, Bool.true_or, Bool.false_or, Bool.or_false, Bool.and_false, Bool.false_and, Bool.true_and, Bool.and_true, beq_self_eq_true, decide_true, decide_false, tTr_e, vTru_non, vTru_bl, vTru_int, vTru_str, vTru_tup, vTru_ref, oTru_l, oTru_d, tBl_e, vBl_bl, eNeg_e, vNeg_int, eChain_e, eAnd_e, eOr_e, eNot_e, oSome_e, vSome_int, gAdd_ii, gAdd_ss, gAdd_tt, gAdd_rr, gI_ii, gI0_ii, gMulA_ii, gMulA_ri, gMulA_ti, gLt_ii, gLt_ss, gLt2_ii, gLt2_ss, eTab_e, vTab_s, eGet2_e, vGetO_r, vGet2_s, gIs_n, gIs_b, isNon_n, isNon_b, isNon_i, isNon_s, isNon_t, isNon_r, gIx_r, oIx_li, oIx_ds, oIx_di, gIx_ti, gIx_fi, gIx_si, gSl_t, gSl_s, gSl_f, gSl_r, gIn_ss, gIn_t, gIn_r, oIn_l, oIn_ds, gLen_s, gLen_t, gLen_f, gLen_r, oLen_l, oLen_d, gAbs_i, gMax2_ii, gMin2_ii, gInt1_i, gInt1_b, gList_t, gList_f, gList_r, gTuple_t, gTuple_f, gTuple_r, gSum_r, gAll_r, gIsi_x, tyD_n, tyD_b, tyD_i, tyD_s, tyD_t, tyD_f, tyD_r, oTy_l, oTy_d, tyM_s, tyM_r, oTyM_l, oTyM_d, gAppend_r, gPop0_r, gPopAt_r, gClear_r, gReverse_r, gJoin_r, gUpper_s, gStr_i, gSorted_r, iSeq_e, vSeq_r, vSeq_f, vSeq_t, vSeq_s, iRange1_e, vRng1_i, iRange2_e, vRng2_i, iZipD_e, vZip_r, vZip_t, iEnumD_e, vEnum_r, nTupL_t, nTupL_r, nCons_c, nNil_n, sSub_e, vPut_r, oPut_ds, oPut_di, oPut_l, he]
      exact rest z0
    · simp (config := {implicitDefEqProofs := false, proj := false}) only [nx_mk, rt_mk, bk_mk, ct_mk, eVar, eC, eOp, eIf, eTup, eLst, eDict0, eDict, eSl, oNo, eCall, eCB, eM, eLc, eIsi2, aNil, aCons, pNil, pCons, tAndD, tOrD, tNotD, tsYes, gMns, gMod, gFdiv, gPow, gLe, gGt, gGe, gEq_ii, gEq_ss, gEq_bb, gEq_nn, gEq_ni, gEq_in, gEq_ns, gEq_sn, gEq_si, gEq_is, sAsg, nName, sRet, sRetN, sExpr, sIf, sNext, sBreak, sCont, sFor, getS, setS, wipeS, endsD, asKeys, toKey, List.length_cons, List.length_nil, List.set_cons_zero, List.set_cons_succ, List.set_nil, Nat.zero_add, Nat.reduceAdd, Option.some.injEq, exists_and_left, exists_eq_left', exists_eq_left, id_eq, if_true, if_false, ite_true, ite_false, Bool.not_true, Bool.not_false, Bool.false_eq_true, not_false_eq_true, not_true_eq_false, reduceCtorEq, true_and, and_true, ne_eq, decide_eq_true_eq, isiN, isiCls, List.mem_cons, String.reduceEq, String.reduceBEq, or_true, true_or, or_false, false_or, Bool.or_true, Bool.true_or, Bool.false_or, Bool.or_false, Bool.and_false, Bool.false_and, Bool.true_and, Bool.and_true, beq_self_eq_true, decide_true, decide_false, tTr_e, vTru_non, vTru_bl, vTru_int, vTru_str, vTru_tup, vTru_ref, oTru_l, oTru_d, tBl_e, vBl_bl, eNeg_e, vNeg_int, eChain_e, eAnd_e, eOr_e, eNot_e, oSome_e, vSome_int, gAdd_ii, gAdd_ss, gAdd_tt, gAdd_rr, gI_ii, gI0_ii, gMulA_ii, gMulA_ri, gMulA_ti, gLt_ii, gLt_ss, gLt2_ii, gLt2_ss, eTab_e, vTab_s, eGet2_e, vGetO_r, vGet2_s, gIs_n, gIs_b, isNon_n, isNon_b, isNon_i, isNon_s, isNon_t, isNon_r, gIx_r, oIx_li, oIx_ds, oIx_di, gIx_ti, gIx_fi, gIx_si, gSl_t, gSl_s, gSl_f, gSl_r, gIn_ss, gIn_t, gIn_r, oIn_l, oIn_ds, gLen_s, gLen_t, gLen_f, gLen_r, oLen_l, oLen_d, gAbs_i, gMax2_ii, gMin2_ii, gInt1_i, gInt1_b, gList_t, gList_f, gList_r, gTuple_t, gTuple_f, gTuple_r, gSum_r, gAll_r, gIsi_x, tyD_n, tyD_b, tyD_i, tyD_s, tyD_t, tyD_f, tyD_r, oTy_l, oTy_d, tyM_s, tyM_r, oTyM_l, oTyM_d, gAppend_r, gPop0_r, gPopAt_r, gClear_r, gReverse_r, gJoin_r, gUpper_s, gStr_i, gSorted_r, iSeq_e, vSeq_r, vSeq_f, vSeq_t, vSeq_s, iRange1_e, vRng1_i, iRange2_e, vRng2_i, iZipD_e, vZip_r, vZip_t, iEnumD_e, vEnum_r, nTupL_t, nTupL_r, nCons_c, nNil_n, sSub_e, vPut_r, oPut_ds, oPut_di, oPut_l, he]
      have hpos : 0 < ns.length := by cases ns with
        | nil => exact (he rfl).elim
        | cons x r => simp
      refine ⟨by rw [List.length_map]; omega, ?_⟩
      rw [List.length_map]
      obtain ⟨z, hz⟩ := get_ints (ns := ns) (i := a % (ns.length : Int)) (Int.emod_nonneg _ (by omega)) (Int.emod_lt_of_pos _ (by omega))
      exact ⟨_, hz, rest z⟩
end LW
namespace LW
open PySem L2 DL
/-- the store has grown -/
def Gr (S S' : Sto) : Prop := ∀ a o, S a = some o → S' a = some o
theorem Gr.refl {S : Sto} : Gr S S := fun _ _ h => h
theorem Gr.trans {S S1 S2 : Sto} (x : Gr S S1) (y : Gr S1 S2) : Gr S S2 := fun a o h => y a o (x a o h)
theorem Gr.new {q : Addr} {S : Sto} {o : O} (h : S q = none) : Gr S (updS S q o) := fun a u e => by rw [updS_ne (neS e h)]; exact e
theorem Gr.kp {p : Addr} {S S' : Sto} (g : Gr S S') : Kp p S S' := fun a o _ h => g a o h
def words : List Str := ["part", "join", "forfeit", "measure", "mend", "alone", "breach", "view"]
def rank (w : Str) : Int := if w = "measure" then 0 else if w = "mend" ∨ w = "alone" then 2 else if w = "breach" ∨ w = "view" then 3 else 1
abbrev rowD (w n : Str) (d : Int) (rest : List D) : D := .tup (.str w :: .str n :: .int d :: rest)
def keyD (w n : Str) (d : Int) : D := .tup [.int d, .int (rank w), .str n]
theorem tab_rank {w : Str} (h : w ∈ words) : tabAt tab_RANKS w = some (rank w) := by
  unfold words at h
  simp only [List.mem_cons, List.not_mem_nil, or_false] at h
  rcases h with rfl | rfl | rfl | rfl | rfl | rfl | rfl | rfl <;> decide +kernel
theorem order_spec {w n : Str} {d : Int} {rest : List D} {S : Sto} {Q : DK} (h : w ∈ words) (q : Q (keyD w n d) S) : m_order_of [rowD w n d rest] S Q := by
  rw [e_order_of]
  simp (config := {implicitDefEqProofs := false, proj := false}) only [nx_mk, rt_mk, bk_mk, ct_mk, eVar, eC, eOp, eIf, eTup, eLst, eDict0, eDict, eSl, oNo, eCall, eCB, eM, eLc, eIsi2, aNil, aCons, pNil, pCons, tAndD, tOrD, tNotD, tsYes, gMns, gMod, gFdiv, gPow, gLe, gGt, gGe, gEq_ii, gEq_ss, gEq_bb, gEq_nn, gEq_ni, gEq_in, gEq_ns, gEq_sn, gEq_si, gEq_is, sAsg, nName, sRet, sRetN, sExpr, sIf, sNext, sBreak, sCont, sFor, getS, setS, wipeS, endsD, asKeys, toKey, List.length_cons, List.length_nil, List.set_cons_zero, List.set_cons_succ, List.set_nil, Nat.zero_add, Nat.reduceAdd, Option.some.injEq, exists_and_left, exists_eq_left', exists_eq_left, id_eq, if_true, if_false, ite_true, ite_false, Bool.not_true, Bool.not_false, Bool.false_eq_true, not_false_eq_true, not_true_eq_false, reduceCtorEq, true_and, and_true, ne_eq, decide_eq_true_eq, isiN, isiCls, List.mem_cons, String.reduceEq, String.reduceBEq, or_true, true_or, or_false, false_or, Bool.or_true, Bool.true_or, Bool.false_or, Bool.or_false, Bool.and_false, Bool.false_and, Bool.true_and, Bool.and_true, beq_self_eq_true, decide_true, decide_false, tTr_e, vTru_non, vTru_bl, vTru_int, vTru_str, vTru_tup, vTru_ref, oTru_l, oTru_d, tBl_e, vBl_bl, eNeg_e, vNeg_int, eChain_e, eAnd_e, eOr_e, eNot_e, oSome_e, vSome_int, gAdd_ii, gAdd_ss, gAdd_tt, gAdd_rr, gI_ii, gI0_ii, gMulA_ii, gMulA_ri, gMulA_ti, gLt_ii, gLt_ss, gLt2_ii, gLt2_ss, eTab_e, vTab_s, eGet2_e, vGetO_r, vGet2_s, gIs_n, gIs_b, isNon_n, isNon_b, isNon_i, isNon_s, isNon_t, isNon_r, gIx_r, oIx_li, oIx_ds, oIx_di, gIx_ti, gIx_fi, gIx_si, gSl_t, gSl_s, gSl_f, gSl_r, gIn_ss, gIn_t, gIn_r, oIn_l, oIn_ds, gLen_s, gLen_t, gLen_f, gLen_r, oLen_l, oLen_d, gAbs_i, gMax2_ii, gMin2_ii, gInt1_i, gInt1_b, gList_t, gList_f, gList_r, gTuple_t, gTuple_f, gTuple_r, gSum_r, gAll_r, gIsi_x, tyD_n, tyD_b, tyD_i, tyD_s, tyD_t, tyD_f, tyD_r, oTy_l, oTy_d, tyM_s, tyM_r, oTyM_l, oTyM_d, gAppend_r, gPop0_r, gPopAt_r, gClear_r, gReverse_r, gJoin_r, gUpper_s, gStr_i, gSorted_r, iSeq_e, vSeq_r, vSeq_f, vSeq_t, vSeq_s, iRange1_e, vRng1_i, iRange2_e, vRng2_i, iZipD_e, vZip_r, vZip_t, iEnumD_e, vEnum_r, nTupL_t, nTupL_r, nCons_c, nNil_n, sSub_e, vPut_r, oPut_ds, oPut_di, oPut_l, b_order_of]
  refine ⟨_, atI_nat (j := 2) rfl, _, atI_nat (j := 0) rfl, ?_⟩
  simp (config := {implicitDefEqProofs := false, proj := false}) only [nx_mk, rt_mk, bk_mk, ct_mk, eVar, eC, eOp, eIf, eTup, eLst, eDict0, eDict, eSl, oNo, eCall, eCB, eM, eLc, eIsi2, aNil, aCons, pNil, pCons, tAndD, tOrD, tNotD, tsYes, gMns, gMod, gFdiv, gPow, gLe, gGt, gGe, gEq_ii, gEq_ss, gEq_bb, gEq_nn, gEq_ni, gEq_in, gEq_ns, gEq_sn, gEq_si, gEq_is, sAsg, nName, sRet, sRetN, sExpr, sIf, sNext, sBreak, sCont, sFor, getS, setS, wipeS, endsD, asKeys, toKey, List.length_cons, List.length_nil, List.set_cons_zero, List.set_cons_succ, List.set_nil, Nat.zero_add, Nat.reduceAdd, Option.some.injEq, exists_and_left, exists_eq_left', exists_eq_left, id_eq, if_true, if_false, ite_true, ite_false, Bool.not_true, Bool.not_false, Bool.false_eq_true, not_false_eq_true, not_true_eq_false, reduceCtorEq, true_and, and_true, ne_eq, decide_eq_true_eq, isiN, isiCls, List.mem_cons, String.reduceEq, String.reduceBEq, or_true, true_or, or_false, false_or, Bool.or_true, Bool.true_or, Bool.false_or, Bool.or_false, Bool.and_false, Bool.false_and, Bool.true_and, Bool.and_true, beq_self_eq_true, decide_true, decide_false, tTr_e, vTru_non, vTru_bl, vTru_int, vTru_str, vTru_tup, vTru_ref, oTru_l, oTru_d, tBl_e, vBl_bl, eNeg_e, vNeg_int, eChain_e, eAnd_e, eOr_e, eNot_e, oSome_e, vSome_int, gAdd_ii, gAdd_ss, gAdd_tt, gAdd_rr, gI_ii, gI0_ii, gMulA_ii, gMulA_ri, gMulA_ti, gLt_ii, gLt_ss, gLt2_ii, gLt2_ss, eTab_e, vTab_s, eGet2_e, vGetO_r, vGet2_s, gIs_n, gIs_b, isNon_n, isNon_b, isNon_i, isNon_s, isNon_t, isNon_r, gIx_r, oIx_li, oIx_ds, oIx_di, gIx_ti, gIx_fi, gIx_si, gSl_t, gSl_s, gSl_f, gSl_r, gIn_ss, gIn_t, gIn_r, oIn_l, oIn_ds, gLen_s, gLen_t, gLen_f, gLen_r, oLen_l, oLen_d, gAbs_i, gMax2_ii, gMin2_ii, gInt1_i, gInt1_b, gList_t, gList_f, gList_r, gTuple_t, gTuple_f, gTuple_r, gSum_r, gAll_r, gIsi_x, tyD_n, tyD_b, tyD_i, tyD_s, tyD_t, tyD_f, tyD_r, oTy_l, oTy_d, tyM_s, tyM_r, oTyM_l, oTyM_d, gAppend_r, gPop0_r, gPopAt_r, gClear_r, gReverse_r, gJoin_r, gUpper_s, gStr_i, gSorted_r, iSeq_e, vSeq_r, vSeq_f, vSeq_t, vSeq_s, iRange1_e, vRng1_i, iRange2_e, vRng2_i, iZipD_e, vZip_r, vZip_t, iEnumD_e, vEnum_r, nTupL_t, nTupL_r, nCons_c, nNil_n, sSub_e, vPut_r, oPut_ds, oPut_di, oPut_l]
  refine ⟨_, tab_rank h, _, atI_nat (j := 1) rfl, by decide, q⟩
def ranksKv : List (Key × D) := [(kS "measure", .int 0), (kS "mend", .int 2), (kS "alone", .int 2), (kS "breach", .int 3), (kS "view", .int 3)]
theorem isI {x : D} {i : Int} (h : (match x with | .int j => decide (j = i) | _ => false) = true) : x = .int i := by
  cases x with
  | int j => rw [of_decide_eq_true h]
  | _ => cases h
theorem kv_rank {w : Str} (h : w ∈ words) : (valD (mergeD [] ranksKv) (kS w)).getD (.int 1) = .int (rank w) := by
  unfold words at h
  simp only [List.mem_cons, List.not_mem_nil, or_false] at h
  rcases h with rfl | rfl | rfl | rfl | rfl | rfl | rfl | rfl <;> exact isI (by decide +kernel)
theorem place_spec {w n : Str} {d : Int} {rest : List D} {S : Sto} {Q : DK} (h : w ∈ words) (q : ∀ S', Gr S S' → Q (keyD w n d) S') : m_wplace [rowD w n d rest] S Q := by
  rw [e_wplace]
  refine seq_i ?_
  simp (config := {implicitDefEqProofs := false, proj := false}) only [nx_mk, rt_mk, bk_mk, ct_mk, eVar, eC, eOp, eIf, eTup, eLst, eDict0, eDict, eSl, oNo, eCall, eCB, eM, eLc, eIsi2, aNil, aCons, pNil, pCons, tAndD, tOrD, tNotD, tsYes, gMns, gMod, gFdiv, gPow, gLe, gGt, gGe, gEq_ii, gEq_ss, gEq_bb, gEq_nn, gEq_ni, gEq_in, gEq_ns, gEq_sn, gEq_si, gEq_is, sAsg, nName, sRet, sRetN, sExpr, sIf, sNext, sBreak, sCont, sFor, getS, setS, wipeS, endsD, asKeys, toKey, List.length_cons, List.length_nil, List.set_cons_zero, List.set_cons_succ, List.set_nil, Nat.zero_add, Nat.reduceAdd, Option.some.injEq, exists_and_left, exists_eq_left', exists_eq_left, id_eq, if_true, if_false, ite_true, ite_false, Bool.not_true, Bool.not_false, Bool.false_eq_true, not_false_eq_true, not_true_eq_false, reduceCtorEq, true_and, and_true, ne_eq, decide_eq_true_eq, isiN, isiCls, List.mem_cons, String.reduceEq, String.reduceBEq, or_true, true_or, or_false, false_or, Bool.or_true, Bool.true_or, Bool.false_or, Bool.or_false, Bool.and_false, Bool.false_and, Bool.true_and, Bool.and_true, beq_self_eq_true, decide_true, decide_false, tTr_e, vTru_non, vTru_bl, vTru_int, vTru_str, vTru_tup, vTru_ref, oTru_l, oTru_d, tBl_e, vBl_bl, eNeg_e, vNeg_int, eChain_e, eAnd_e, eOr_e, eNot_e, oSome_e, vSome_int, gAdd_ii, gAdd_ss, gAdd_tt, gAdd_rr, gI_ii, gI0_ii, gMulA_ii, gMulA_ri, gMulA_ti, gLt_ii, gLt_ss, gLt2_ii, gLt2_ss, eTab_e, vTab_s, eGet2_e, vGetO_r, vGet2_s, gIs_n, gIs_b, isNon_n, isNon_b, isNon_i, isNon_s, isNon_t, isNon_r, gIx_r, oIx_li, oIx_ds, oIx_di, gIx_ti, gIx_fi, gIx_si, gSl_t, gSl_s, gSl_f, gSl_r, gIn_ss, gIn_t, gIn_r, oIn_l, oIn_ds, gLen_s, gLen_t, gLen_f, gLen_r, oLen_l, oLen_d, gAbs_i, gMax2_ii, gMin2_ii, gInt1_i, gInt1_b, gList_t, gList_f, gList_r, gTuple_t, gTuple_f, gTuple_r, gSum_r, gAll_r, gIsi_x, tyD_n, tyD_b, tyD_i, tyD_s, tyD_t, tyD_f, tyD_r, oTy_l, oTy_d, tyM_s, tyM_r, oTyM_l, oTyM_d, gAppend_r, gPop0_r, gPopAt_r, gClear_r, gReverse_r, gJoin_r, gUpper_s, gStr_i, gSorted_r, iSeq_e, vSeq_r, vSeq_f, vSeq_t, vSeq_s, iRange1_e, vRng1_i, iRange2_e, vRng2_i, iZipD_e, vZip_r, vZip_t, iEnumD_e, vEnum_r, nTupL_t, nTupL_r, nCons_c, nNil_n, sSub_e, vPut_r, oPut_ds, oPut_di, oPut_l]
  refine ⟨_, rfl, by show 5 ≤ 15; decide, fun p hp => ?_⟩
  simp (config := {implicitDefEqProofs := false, proj := false}) only [nx_mk, rt_mk, bk_mk, ct_mk, eVar, eC, eOp, eIf, eTup, eLst, eDict0, eDict, eSl, oNo, eCall, eCB, eM, eLc, eIsi2, aNil, aCons, pNil, pCons, tAndD, tOrD, tNotD, tsYes, gMns, gMod, gFdiv, gPow, gLe, gGt, gGe, gEq_ii, gEq_ss, gEq_bb, gEq_nn, gEq_ni, gEq_in, gEq_ns, gEq_sn, gEq_si, gEq_is, sAsg, nName, sRet, sRetN, sExpr, sIf, sNext, sBreak, sCont, sFor, getS, setS, wipeS, endsD, asKeys, toKey, List.length_cons, List.length_nil, List.set_cons_zero, List.set_cons_succ, List.set_nil, Nat.zero_add, Nat.reduceAdd, Option.some.injEq, exists_and_left, exists_eq_left', exists_eq_left, id_eq, if_true, if_false, ite_true, ite_false, Bool.not_true, Bool.not_false, Bool.false_eq_true, not_false_eq_true, not_true_eq_false, reduceCtorEq, true_and, and_true, ne_eq, decide_eq_true_eq, isiN, isiCls, List.mem_cons, String.reduceEq, String.reduceBEq, or_true, true_or, or_false, false_or, Bool.or_true, Bool.true_or, Bool.false_or, Bool.or_false, Bool.and_false, Bool.false_and, Bool.true_and, Bool.and_true, beq_self_eq_true, decide_true, decide_false, tTr_e, vTru_non, vTru_bl, vTru_int, vTru_str, vTru_tup, vTru_ref, oTru_l, oTru_d, tBl_e, vBl_bl, eNeg_e, vNeg_int, eChain_e, eAnd_e, eOr_e, eNot_e, oSome_e, vSome_int, gAdd_ii, gAdd_ss, gAdd_tt, gAdd_rr, gI_ii, gI0_ii, gMulA_ii, gMulA_ri, gMulA_ti, gLt_ii, gLt_ss, gLt2_ii, gLt2_ss, eTab_e, vTab_s, eGet2_e, vGetO_r, vGet2_s, gIs_n, gIs_b, isNon_n, isNon_b, isNon_i, isNon_s, isNon_t, isNon_r, gIx_r, oIx_li, oIx_ds, oIx_di, gIx_ti, gIx_fi, gIx_si, gSl_t, gSl_s, gSl_f, gSl_r, gIn_ss, gIn_t, gIn_r, oIn_l, oIn_ds, gLen_s, gLen_t, gLen_f, gLen_r, oLen_l, oLen_d, gAbs_i, gMax2_ii, gMin2_ii, gInt1_i, gInt1_b, gList_t, gList_f, gList_r, gTuple_t, gTuple_f, gTuple_r, gSum_r, gAll_r, gIsi_x, tyD_n, tyD_b, tyD_i, tyD_s, tyD_t, tyD_f, tyD_r, oTy_l, oTy_d, tyM_s, tyM_r, oTyM_l, oTyM_d, gAppend_r, gPop0_r, gPopAt_r, gClear_r, gReverse_r, gJoin_r, gUpper_s, gStr_i, gSorted_r, iSeq_e, vSeq_r, vSeq_f, vSeq_t, vSeq_s, iRange1_e, vRng1_i, iRange2_e, vRng2_i, iZipD_e, vZip_r, vZip_t, iEnumD_e, vEnum_r, nTupL_t, nTupL_r, nCons_c, nNil_n, sSub_e, vPut_r, oPut_ds, oPut_di, oPut_l, t_wplace_2]
  refine ⟨_, atI_nat (j := 2) rfl, ⟨_, updS_same⟩, ?_⟩
  refine ⟨_, atI_nat (j := 0) rfl, ?_⟩
  simp (config := {implicitDefEqProofs := false, proj := false}) only [nx_mk, rt_mk, bk_mk, ct_mk, eVar, eC, eOp, eIf, eTup, eLst, eDict0, eDict, eSl, oNo, eCall, eCB, eM, eLc, eIsi2, aNil, aCons, pNil, pCons, tAndD, tOrD, tNotD, tsYes, gMns, gMod, gFdiv, gPow, gLe, gGt, gGe, gEq_ii, gEq_ss, gEq_bb, gEq_nn, gEq_ni, gEq_in, gEq_ns, gEq_sn, gEq_si, gEq_is, sAsg, nName, sRet, sRetN, sExpr, sIf, sNext, sBreak, sCont, sFor, getS, setS, wipeS, endsD, asKeys, toKey, List.length_cons, List.length_nil, List.set_cons_zero, List.set_cons_succ, List.set_nil, Nat.zero_add, Nat.reduceAdd, Option.some.injEq, exists_and_left, exists_eq_left', exists_eq_left, id_eq, if_true, if_false, ite_true, ite_false, Bool.not_true, Bool.not_false, Bool.false_eq_true, not_false_eq_true, not_true_eq_false, reduceCtorEq, true_and, and_true, ne_eq, decide_eq_true_eq, isiN, isiCls, List.mem_cons, String.reduceEq, String.reduceBEq, or_true, true_or, or_false, false_or, Bool.or_true, Bool.true_or, Bool.false_or, Bool.or_false, Bool.and_false, Bool.false_and, Bool.true_and, Bool.and_true, beq_self_eq_true, decide_true, decide_false, tTr_e, vTru_non, vTru_bl, vTru_int, vTru_str, vTru_tup, vTru_ref, oTru_l, oTru_d, tBl_e, vBl_bl, eNeg_e, vNeg_int, eChain_e, eAnd_e, eOr_e, eNot_e, oSome_e, vSome_int, gAdd_ii, gAdd_ss, gAdd_tt, gAdd_rr, gI_ii, gI0_ii, gMulA_ii, gMulA_ri, gMulA_ti, gLt_ii, gLt_ss, gLt2_ii, gLt2_ss, eTab_e, vTab_s, eGet2_e, vGetO_r, vGet2_s, gIs_n, gIs_b, isNon_n, isNon_b, isNon_i, isNon_s, isNon_t, isNon_r, gIx_r, oIx_li, oIx_ds, oIx_di, gIx_ti, gIx_fi, gIx_si, gSl_t, gSl_s, gSl_f, gSl_r, gIn_ss, gIn_t, gIn_r, oIn_l, oIn_ds, gLen_s, gLen_t, gLen_f, gLen_r, oLen_l, oLen_d, gAbs_i, gMax2_ii, gMin2_ii, gInt1_i, gInt1_b, gList_t, gList_f, gList_r, gTuple_t, gTuple_f, gTuple_r, gSum_r, gAll_r, gIsi_x, tyD_n, tyD_b, tyD_i, tyD_s, tyD_t, tyD_f, tyD_r, oTy_l, oTy_d, tyM_s, tyM_r, oTyM_l, oTyM_d, gAppend_r, gPop0_r, gPopAt_r, gClear_r, gReverse_r, gJoin_r, gUpper_s, gStr_i, gSorted_r, iSeq_e, vSeq_r, vSeq_f, vSeq_t, vSeq_s, iRange1_e, vRng1_i, iRange2_e, vRng2_i, iZipD_e, vZip_r, vZip_t, iEnumD_e, vEnum_r, nTupL_t, nTupL_r, nCons_c, nNil_n, sSub_e, vPut_r, oPut_ds, oPut_di, oPut_l]
  refine ⟨_, updS_same, _, atI_nat (j := 1) rfl, by decide, ?_⟩
  show Q (.tup [.int d, (valD (mergeD [] ranksKv) (kS w)).getD (.int 1), .str n]) _
  rw [kv_rank h]
  exact q _ (.new hp)
theorem lt_flip {p q : PyData} (h : PySem.W.keyToks p ≠ PySem.W.keyToks q) : PySem.W.dataLt q p = !PySem.W.dataLt p q := by
  unfold PySem.W.dataLt
  cases e : PyProof.Rows.lexLt PyProof.Rows.itemOrd (PySem.W.keyToks p) (PySem.W.keyToks q) with
  | true =>
    cases e2 : PyProof.Rows.lexLt PyProof.Rows.itemOrd (PySem.W.keyToks q) (PySem.W.keyToks p) with
    | false => rfl
    | true =>
      have := PyProof.Rows.lex_trans _ _ _ e e2
      rw [PyProof.Rows.lex_irrefl] at this
      cases this
  | false =>
    cases e2 : PyProof.Rows.lexLt PyProof.Rows.itemOrd (PySem.W.keyToks q) (PySem.W.keyToks p) with
    | true => rfl
    | false => exact absurd (PyProof.Rows.lex_total _ _ e e2) h
def keyP (w n : Str) (d : Int) : PyData := .tuple [.int d, .int (rank w), .str n]
theorem keyP_ne {w n w2 n2 : Str} {d d2 : Int} (h : n ≠ n2) : PySem.W.keyToks (keyP w n d) ≠ PySem.W.keyToks (keyP w2 n2 d2) := by
  intro e
  unfold keyP at e
  simp [PySem.W.keyToks, PySem.W.keyToksAll] at e
  exact h (PySem.W.str_of_cps (by simp [e.2.2]))
theorem ahead_spec {w n w2 n2 : Str} {d d2 : Int} {rest rest2 : List D} {S : Sto} {Q : DK} (h : w ∈ words) (h2 : w2 ∈ words) (q : Q (.bl (PySem.W.dataLt (keyP w n d) (keyP w2 n2 d2))) S) : m_goes_ahead [rowD w n d rest, rowD w2 n2 d2 rest2] S Q := by
  rw [e_goes_ahead]
  simp (config := {implicitDefEqProofs := false, proj := false}) only [nx_mk, rt_mk, bk_mk, ct_mk, eVar, eC, eOp, eIf, eTup, eLst, eDict0, eDict, eSl, oNo, eCall, eCB, eM, eLc, eIsi2, aNil, aCons, pNil, pCons, tAndD, tOrD, tNotD, tsYes, gMns, gMod, gFdiv, gPow, gLe, gGt, gGe, gEq_ii, gEq_ss, gEq_bb, gEq_nn, gEq_ni, gEq_in, gEq_ns, gEq_sn, gEq_si, gEq_is, sAsg, nName, sRet, sRetN, sExpr, sIf, sNext, sBreak, sCont, sFor, getS, setS, wipeS, endsD, asKeys, toKey, List.length_cons, List.length_nil, List.set_cons_zero, List.set_cons_succ, List.set_nil, Nat.zero_add, Nat.reduceAdd, Option.some.injEq, exists_and_left, exists_eq_left', exists_eq_left, id_eq, if_true, if_false, ite_true, ite_false, Bool.not_true, Bool.not_false, Bool.false_eq_true, not_false_eq_true, not_true_eq_false, reduceCtorEq, true_and, and_true, ne_eq, decide_eq_true_eq, isiN, isiCls, List.mem_cons, String.reduceEq, String.reduceBEq, or_true, true_or, or_false, false_or, Bool.or_true, Bool.true_or, Bool.false_or, Bool.or_false, Bool.and_false, Bool.false_and, Bool.true_and, Bool.and_true, beq_self_eq_true, decide_true, decide_false, tTr_e, vTru_non, vTru_bl, vTru_int, vTru_str, vTru_tup, vTru_ref, oTru_l, oTru_d, tBl_e, vBl_bl, eNeg_e, vNeg_int, eChain_e, eAnd_e, eOr_e, eNot_e, oSome_e, vSome_int, gAdd_ii, gAdd_ss, gAdd_tt, gAdd_rr, gI_ii, gI0_ii, gMulA_ii, gMulA_ri, gMulA_ti, gLt_ii, gLt_ss, gLt2_ii, gLt2_ss, eTab_e, vTab_s, eGet2_e, vGetO_r, vGet2_s, gIs_n, gIs_b, isNon_n, isNon_b, isNon_i, isNon_s, isNon_t, isNon_r, gIx_r, oIx_li, oIx_ds, oIx_di, gIx_ti, gIx_fi, gIx_si, gSl_t, gSl_s, gSl_f, gSl_r, gIn_ss, gIn_t, gIn_r, oIn_l, oIn_ds, gLen_s, gLen_t, gLen_f, gLen_r, oLen_l, oLen_d, gAbs_i, gMax2_ii, gMin2_ii, gInt1_i, gInt1_b, gList_t, gList_f, gList_r, gTuple_t, gTuple_f, gTuple_r, gSum_r, gAll_r, gIsi_x, tyD_n, tyD_b, tyD_i, tyD_s, tyD_t, tyD_f, tyD_r, oTy_l, oTy_d, tyM_s, tyM_r, oTyM_l, oTyM_d, gAppend_r, gPop0_r, gPopAt_r, gClear_r, gReverse_r, gJoin_r, gUpper_s, gStr_i, gSorted_r, iSeq_e, vSeq_r, vSeq_f, vSeq_t, vSeq_s, iRange1_e, vRng1_i, iRange2_e, vRng2_i, iZipD_e, vZip_r, vZip_t, iEnumD_e, vEnum_r, nTupL_t, nTupL_r, nCons_c, nNil_n, sSub_e, vPut_r, oPut_ds, oPut_di, oPut_l, b_goes_ahead]
  refine order_spec h (order_spec h2 ?_)
  exact ⟨_, _, .cons (.int _) (.cons (.int _) (.cons (.str _) .nil)), .cons (.int _) (.cons (.int _) (.cons (.str _) .nil)), by simp [PySem.W.alikeAll, PySem.W.alike], Nat.le_trans (Nat.le_of_eq (show _ = 1 from rfl)) (by decide), q⟩
theorem same_spec {b : Bool} {S : Sto} {Q : DK} (q : Q (.bl true) S) : m_wsame [.bl b, .bl b] S Q := by
  rw [e_wsame]
  refine seq_i ?_
  cases b
  · simp (config := {implicitDefEqProofs := false, proj := false}) only [nx_mk, rt_mk, bk_mk, ct_mk, eVar, eC, eOp, eIf, eTup, eLst, eDict0, eDict, eSl, oNo, eCall, eCB, eM, eLc, eIsi2, aNil, aCons, pNil, pCons, tAndD, tOrD, tNotD, tsYes, gMns, gMod, gFdiv, gPow, gLe, gGt, gGe, gEq_ii, gEq_ss, gEq_bb, gEq_nn, gEq_ni, gEq_in, gEq_ns, gEq_sn, gEq_si, gEq_is, sAsg, nName, sRet, sRetN, sExpr, sIf, sNext, sBreak, sCont, sFor, getS, setS, wipeS, endsD, asKeys, toKey, List.length_cons, List.length_nil, List.set_cons_zero, List.set_cons_succ, List.set_nil, Nat.zero_add, Nat.reduceAdd, Option.some.injEq, exists_and_left, exists_eq_left', exists_eq_left, id_eq, if_true, if_false, ite_true, ite_false, Bool.not_true, Bool.not_false, Bool.false_eq_true, not_false_eq_true, not_true_eq_false, reduceCtorEq, true_and, and_true, ne_eq, decide_eq_true_eq, isiN, isiCls, List.mem_cons, String.reduceEq, String.reduceBEq, or_true, true_or, or_false, false_or, Bool.or_true, Bool.true_or, Bool.false_or, Bool.or_false, Bool.and_false, Bool.false_and, Bool.true_and, Bool.and_true, beq_self_eq_true, decide_true, decide_false, tTr_e, vTru_non, vTru_bl, vTru_int, vTru_str, vTru_tup, vTru_ref, oTru_l, oTru_d, tBl_e, vBl_bl, eNeg_e, vNeg_int, eChain_e, eAnd_e, eOr_e, eNot_e, oSome_e, vSome_int, gAdd_ii, gAdd_ss, gAdd_tt, gAdd_rr, gI_ii, gI0_ii, gMulA_ii, gMulA_ri, gMulA_ti, gLt_ii, gLt_ss, gLt2_ii, gLt2_ss, eTab_e, vTab_s, eGet2_e, vGetO_r, vGet2_s, gIs_n, gIs_b, isNon_n, isNon_b, isNon_i, isNon_s, isNon_t, isNon_r, gIx_r, oIx_li, oIx_ds, oIx_di, gIx_ti, gIx_fi, gIx_si, gSl_t, gSl_s, gSl_f, gSl_r, gIn_ss, gIn_t, gIn_r, oIn_l, oIn_ds, gLen_s, gLen_t, gLen_f, gLen_r, oLen_l, oLen_d, gAbs_i, gMax2_ii, gMin2_ii, gInt1_i, gInt1_b, gList_t, gList_f, gList_r, gTuple_t, gTuple_f, gTuple_r, gSum_r, gAll_r, gIsi_x, tyD_n, tyD_b, tyD_i, tyD_s, tyD_t, tyD_f, tyD_r, oTy_l, oTy_d, tyM_s, tyM_r, oTyM_l, oTyM_d, gAppend_r, gPop0_r, gPopAt_r, gClear_r, gReverse_r, gJoin_r, gUpper_s, gStr_i, gSorted_r, iSeq_e, vSeq_r, vSeq_f, vSeq_t, vSeq_s, iRange1_e, vRng1_i, iRange2_e, vRng2_i, iZipD_e, vZip_r, vZip_t, iEnumD_e, vEnum_r, nTupL_t, nTupL_r, nCons_c, nNil_n, sSub_e, vPut_r, oPut_ds, oPut_di, oPut_l]
    refine ret_i ?_
    simp (config := {implicitDefEqProofs := false, proj := false}) only [nx_mk, rt_mk, bk_mk, ct_mk, eVar, eC, eOp, eIf, eTup, eLst, eDict0, eDict, eSl, oNo, eCall, eCB, eM, eLc, eIsi2, aNil, aCons, pNil, pCons, tAndD, tOrD, tNotD, tsYes, gMns, gMod, gFdiv, gPow, gLe, gGt, gGe, gEq_ii, gEq_ss, gEq_bb, gEq_nn, gEq_ni, gEq_in, gEq_ns, gEq_sn, gEq_si, gEq_is, sAsg, nName, sRet, sRetN, sExpr, sIf, sNext, sBreak, sCont, sFor, getS, setS, wipeS, endsD, asKeys, toKey, List.length_cons, List.length_nil, List.set_cons_zero, List.set_cons_succ, List.set_nil, Nat.zero_add, Nat.reduceAdd, Option.some.injEq, exists_and_left, exists_eq_left', exists_eq_left, id_eq, if_true, if_false, ite_true, ite_false, Bool.not_true, Bool.not_false, Bool.false_eq_true, not_false_eq_true, not_true_eq_false, reduceCtorEq, true_and, and_true, ne_eq, decide_eq_true_eq, isiN, isiCls, List.mem_cons, String.reduceEq, String.reduceBEq, or_true, true_or, or_false, false_or, Bool.or_true, Bool.true_or, Bool.false_or, Bool.or_false, Bool.and_false, Bool.false_and, Bool.true_and, Bool.and_true, beq_self_eq_true, decide_true, decide_false, tTr_e, vTru_non, vTru_bl, vTru_int, vTru_str, vTru_tup, vTru_ref, oTru_l, oTru_d, tBl_e, vBl_bl, eNeg_e, vNeg_int, eChain_e, eAnd_e, eOr_e, eNot_e, oSome_e, vSome_int, gAdd_ii, gAdd_ss, gAdd_tt, gAdd_rr, gI_ii, gI0_ii, gMulA_ii, gMulA_ri, gMulA_ti, gLt_ii, gLt_ss, gLt2_ii, gLt2_ss, eTab_e, vTab_s, eGet2_e, vGetO_r, vGet2_s, gIs_n, gIs_b, isNon_n, isNon_b, isNon_i, isNon_s, isNon_t, isNon_r, gIx_r, oIx_li, oIx_ds, oIx_di, gIx_ti, gIx_fi, gIx_si, gSl_t, gSl_s, gSl_f, gSl_r, gIn_ss, gIn_t, gIn_r, oIn_l, oIn_ds, gLen_s, gLen_t, gLen_f, gLen_r, oLen_l, oLen_d, gAbs_i, gMax2_ii, gMin2_ii, gInt1_i, gInt1_b, gList_t, gList_f, gList_r, gTuple_t, gTuple_f, gTuple_r, gSum_r, gAll_r, gIsi_x, tyD_n, tyD_b, tyD_i, tyD_s, tyD_t, tyD_f, tyD_r, oTy_l, oTy_d, tyM_s, tyM_r, oTyM_l, oTyM_d, gAppend_r, gPop0_r, gPopAt_r, gClear_r, gReverse_r, gJoin_r, gUpper_s, gStr_i, gSorted_r, iSeq_e, vSeq_r, vSeq_f, vSeq_t, vSeq_s, iRange1_e, vRng1_i, iRange2_e, vRng2_i, iZipD_e, vZip_r, vZip_t, iEnumD_e, vEnum_r, nTupL_t, nTupL_r, nCons_c, nNil_n, sSub_e, vPut_r, oPut_ds, oPut_di, oPut_l]
    exact q
  · simp (config := {implicitDefEqProofs := false, proj := false}) only [nx_mk, rt_mk, bk_mk, ct_mk, eVar, eC, eOp, eIf, eTup, eLst, eDict0, eDict, eSl, oNo, eCall, eCB, eM, eLc, eIsi2, aNil, aCons, pNil, pCons, tAndD, tOrD, tNotD, tsYes, gMns, gMod, gFdiv, gPow, gLe, gGt, gGe, gEq_ii, gEq_ss, gEq_bb, gEq_nn, gEq_ni, gEq_in, gEq_ns, gEq_sn, gEq_si, gEq_is, sAsg, nName, sRet, sRetN, sExpr, sIf, sNext, sBreak, sCont, sFor, getS, setS, wipeS, endsD, asKeys, toKey, List.length_cons, List.length_nil, List.set_cons_zero, List.set_cons_succ, List.set_nil, Nat.zero_add, Nat.reduceAdd, Option.some.injEq, exists_and_left, exists_eq_left', exists_eq_left, id_eq, if_true, if_false, ite_true, ite_false, Bool.not_true, Bool.not_false, Bool.false_eq_true, not_false_eq_true, not_true_eq_false, reduceCtorEq, true_and, and_true, ne_eq, decide_eq_true_eq, isiN, isiCls, List.mem_cons, String.reduceEq, String.reduceBEq, or_true, true_or, or_false, false_or, Bool.or_true, Bool.true_or, Bool.false_or, Bool.or_false, Bool.and_false, Bool.false_and, Bool.true_and, Bool.and_true, beq_self_eq_true, decide_true, decide_false, tTr_e, vTru_non, vTru_bl, vTru_int, vTru_str, vTru_tup, vTru_ref, oTru_l, oTru_d, tBl_e, vBl_bl, eNeg_e, vNeg_int, eChain_e, eAnd_e, eOr_e, eNot_e, oSome_e, vSome_int, gAdd_ii, gAdd_ss, gAdd_tt, gAdd_rr, gI_ii, gI0_ii, gMulA_ii, gMulA_ri, gMulA_ti, gLt_ii, gLt_ss, gLt2_ii, gLt2_ss, eTab_e, vTab_s, eGet2_e, vGetO_r, vGet2_s, gIs_n, gIs_b, isNon_n, isNon_b, isNon_i, isNon_s, isNon_t, isNon_r, gIx_r, oIx_li, oIx_ds, oIx_di, gIx_ti, gIx_fi, gIx_si, gSl_t, gSl_s, gSl_f, gSl_r, gIn_ss, gIn_t, gIn_r, oIn_l, oIn_ds, gLen_s, gLen_t, gLen_f, gLen_r, oLen_l, oLen_d, gAbs_i, gMax2_ii, gMin2_ii, gInt1_i, gInt1_b, gList_t, gList_f, gList_r, gTuple_t, gTuple_f, gTuple_r, gSum_r, gAll_r, gIsi_x, tyD_n, tyD_b, tyD_i, tyD_s, tyD_t, tyD_f, tyD_r, oTy_l, oTy_d, tyM_s, tyM_r, oTyM_l, oTyM_d, gAppend_r, gPop0_r, gPopAt_r, gClear_r, gReverse_r, gJoin_r, gUpper_s, gStr_i, gSorted_r, iSeq_e, vSeq_r, vSeq_f, vSeq_t, vSeq_s, iRange1_e, vRng1_i, iRange2_e, vRng2_i, iZipD_e, vZip_r, vZip_t, iEnumD_e, vEnum_r, nTupL_t, nTupL_r, nCons_c, nNil_n, sSub_e, vPut_r, oPut_ds, oPut_di, oPut_l]
    exact q
theorem both_spec {w n w2 n2 : Str} {d d2 : Int} {rest rest2 : List D} {S : Sto} {Q : DK} (h : w ∈ words) (h2 : w2 ∈ words) (hn : n ≠ n2) (q : ∀ S', Gr S S' → Q (.bl true) S') : m_wboth_right [rowD w n d rest, rowD w2 n2 d2 rest2] S Q := by
  rw [e_wboth_right]
  refine seq_i ?_
  simp (config := {implicitDefEqProofs := false, proj := false}) only [nx_mk, rt_mk, bk_mk, ct_mk, eVar, eC, eOp, eIf, eTup, eLst, eDict0, eDict, eSl, oNo, eCall, eCB, eM, eLc, eIsi2, aNil, aCons, pNil, pCons, tAndD, tOrD, tNotD, tsYes, gMns, gMod, gFdiv, gPow, gLe, gGt, gGe, gEq_ii, gEq_ss, gEq_bb, gEq_nn, gEq_ni, gEq_in, gEq_ns, gEq_sn, gEq_si, gEq_is, sAsg, nName, sRet, sRetN, sExpr, sIf, sNext, sBreak, sCont, sFor, getS, setS, wipeS, endsD, asKeys, toKey, List.length_cons, List.length_nil, List.set_cons_zero, List.set_cons_succ, List.set_nil, Nat.zero_add, Nat.reduceAdd, Option.some.injEq, exists_and_left, exists_eq_left', exists_eq_left, id_eq, if_true, if_false, ite_true, ite_false, Bool.not_true, Bool.not_false, Bool.false_eq_true, not_false_eq_true, not_true_eq_false, reduceCtorEq, true_and, and_true, ne_eq, decide_eq_true_eq, isiN, isiCls, List.mem_cons, String.reduceEq, String.reduceBEq, or_true, true_or, or_false, false_or, Bool.or_true, Bool.true_or, Bool.false_or, Bool.or_false, Bool.and_false, Bool.false_and, Bool.true_and, Bool.and_true, beq_self_eq_true, decide_true, decide_false, tTr_e, vTru_non, vTru_bl, vTru_int, vTru_str, vTru_tup, vTru_ref, oTru_l, oTru_d, tBl_e, vBl_bl, eNeg_e, vNeg_int, eChain_e, eAnd_e, eOr_e, eNot_e, oSome_e, vSome_int, gAdd_ii, gAdd_ss, gAdd_tt, gAdd_rr, gI_ii, gI0_ii, gMulA_ii, gMulA_ri, gMulA_ti, gLt_ii, gLt_ss, gLt2_ii, gLt2_ss, eTab_e, vTab_s, eGet2_e, vGetO_r, vGet2_s, gIs_n, gIs_b, isNon_n, isNon_b, isNon_i, isNon_s, isNon_t, isNon_r, gIx_r, oIx_li, oIx_ds, oIx_di, gIx_ti, gIx_fi, gIx_si, gSl_t, gSl_s, gSl_f, gSl_r, gIn_ss, gIn_t, gIn_r, oIn_l, oIn_ds, gLen_s, gLen_t, gLen_f, gLen_r, oLen_l, oLen_d, gAbs_i, gMax2_ii, gMin2_ii, gInt1_i, gInt1_b, gList_t, gList_f, gList_r, gTuple_t, gTuple_f, gTuple_r, gSum_r, gAll_r, gIsi_x, tyD_n, tyD_b, tyD_i, tyD_s, tyD_t, tyD_f, tyD_r, oTy_l, oTy_d, tyM_s, tyM_r, oTyM_l, oTyM_d, gAppend_r, gPop0_r, gPopAt_r, gClear_r, gReverse_r, gJoin_r, gUpper_s, gStr_i, gSorted_r, iSeq_e, vSeq_r, vSeq_f, vSeq_t, vSeq_s, iRange1_e, vRng1_i, iRange2_e, vRng2_i, iZipD_e, vZip_r, vZip_t, iEnumD_e, vEnum_r, nTupL_t, nTupL_r, nCons_c, nNil_n, sSub_e, vPut_r, oPut_ds, oPut_di, oPut_l]
  refine place_spec h fun S1 g1 => place_spec h2 fun S2 g2 => ?_
  refine ⟨_, _, .cons (.int _) (.cons (.int _) (.cons (.str _) .nil)), .cons (.int _) (.cons (.int _) (.cons (.str _) .nil)), by simp [PySem.W.alikeAll, PySem.W.alike], Nat.le_trans (Nat.le_of_eq (show _ = 1 from rfl)) (by decide), ret_i ?_⟩
  simp (config := {implicitDefEqProofs := false, proj := false}) only [nx_mk, rt_mk, bk_mk, ct_mk, eVar, eC, eOp, eIf, eTup, eLst, eDict0, eDict, eSl, oNo, eCall, eCB, eM, eLc, eIsi2, aNil, aCons, pNil, pCons, tAndD, tOrD, tNotD, tsYes, gMns, gMod, gFdiv, gPow, gLe, gGt, gGe, gEq_ii, gEq_ss, gEq_bb, gEq_nn, gEq_ni, gEq_in, gEq_ns, gEq_sn, gEq_si, gEq_is, sAsg, nName, sRet, sRetN, sExpr, sIf, sNext, sBreak, sCont, sFor, getS, setS, wipeS, endsD, asKeys, toKey, List.length_cons, List.length_nil, List.set_cons_zero, List.set_cons_succ, List.set_nil, Nat.zero_add, Nat.reduceAdd, Option.some.injEq, exists_and_left, exists_eq_left', exists_eq_left, id_eq, if_true, if_false, ite_true, ite_false, Bool.not_true, Bool.not_false, Bool.false_eq_true, not_false_eq_true, not_true_eq_false, reduceCtorEq, true_and, and_true, ne_eq, decide_eq_true_eq, isiN, isiCls, List.mem_cons, String.reduceEq, String.reduceBEq, or_true, true_or, or_false, false_or, Bool.or_true, Bool.true_or, Bool.false_or, Bool.or_false, Bool.and_false, Bool.false_and, Bool.true_and, Bool.and_true, beq_self_eq_true, decide_true, decide_false, tTr_e, vTru_non, vTru_bl, vTru_int, vTru_str, vTru_tup, vTru_ref, oTru_l, oTru_d, tBl_e, vBl_bl, eNeg_e, vNeg_int, eChain_e, eAnd_e, eOr_e, eNot_e, oSome_e, vSome_int, gAdd_ii, gAdd_ss, gAdd_tt, gAdd_rr, gI_ii, gI0_ii, gMulA_ii, gMulA_ri, gMulA_ti, gLt_ii, gLt_ss, gLt2_ii, gLt2_ss, eTab_e, vTab_s, eGet2_e, vGetO_r, vGet2_s, gIs_n, gIs_b, isNon_n, isNon_b, isNon_i, isNon_s, isNon_t, isNon_r, gIx_r, oIx_li, oIx_ds, oIx_di, gIx_ti, gIx_fi, gIx_si, gSl_t, gSl_s, gSl_f, gSl_r, gIn_ss, gIn_t, gIn_r, oIn_l, oIn_ds, gLen_s, gLen_t, gLen_f, gLen_r, oLen_l, oLen_d, gAbs_i, gMax2_ii, gMin2_ii, gInt1_i, gInt1_b, gList_t, gList_f, gList_r, gTuple_t, gTuple_f, gTuple_r, gSum_r, gAll_r, gIsi_x, tyD_n, tyD_b, tyD_i, tyD_s, tyD_t, tyD_f, tyD_r, oTy_l, oTy_d, tyM_s, tyM_r, oTyM_l, oTyM_d, gAppend_r, gPop0_r, gPopAt_r, gClear_r, gReverse_r, gJoin_r, gUpper_s, gStr_i, gSorted_r, iSeq_e, vSeq_r, vSeq_f, vSeq_t, vSeq_s, iRange1_e, vRng1_i, iRange2_e, vRng2_i, iZipD_e, vZip_r, vZip_t, iEnumD_e, vEnum_r, nTupL_t, nTupL_r, nCons_c, nNil_n, sSub_e, vPut_r, oPut_ds, oPut_di, oPut_l]
  refine ahead_spec h h2 (same_spec ?_)
  simp (config := {implicitDefEqProofs := false, proj := false}) only [nx_mk, rt_mk, bk_mk, ct_mk, eVar, eC, eOp, eIf, eTup, eLst, eDict0, eDict, eSl, oNo, eCall, eCB, eM, eLc, eIsi2, aNil, aCons, pNil, pCons, tAndD, tOrD, tNotD, tsYes, gMns, gMod, gFdiv, gPow, gLe, gGt, gGe, gEq_ii, gEq_ss, gEq_bb, gEq_nn, gEq_ni, gEq_in, gEq_ns, gEq_sn, gEq_si, gEq_is, sAsg, nName, sRet, sRetN, sExpr, sIf, sNext, sBreak, sCont, sFor, getS, setS, wipeS, endsD, asKeys, toKey, List.length_cons, List.length_nil, List.set_cons_zero, List.set_cons_succ, List.set_nil, Nat.zero_add, Nat.reduceAdd, Option.some.injEq, exists_and_left, exists_eq_left', exists_eq_left, id_eq, if_true, if_false, ite_true, ite_false, Bool.not_true, Bool.not_false, Bool.false_eq_true, not_false_eq_true, not_true_eq_false, reduceCtorEq, true_and, and_true, ne_eq, decide_eq_true_eq, isiN, isiCls, List.mem_cons, String.reduceEq, String.reduceBEq, or_true, true_or, or_false, false_or, Bool.or_true, Bool.true_or, Bool.false_or, Bool.or_false, Bool.and_false, Bool.false_and, Bool.true_and, Bool.and_true, beq_self_eq_true, decide_true, decide_false, tTr_e, vTru_non, vTru_bl, vTru_int, vTru_str, vTru_tup, vTru_ref, oTru_l, oTru_d, tBl_e, vBl_bl, eNeg_e, vNeg_int, eChain_e, eAnd_e, eOr_e, eNot_e, oSome_e, vSome_int, gAdd_ii, gAdd_ss, gAdd_tt, gAdd_rr, gI_ii, gI0_ii, gMulA_ii, gMulA_ri, gMulA_ti, gLt_ii, gLt_ss, gLt2_ii, gLt2_ss, eTab_e, vTab_s, eGet2_e, vGetO_r, vGet2_s, gIs_n, gIs_b, isNon_n, isNon_b, isNon_i, isNon_s, isNon_t, isNon_r, gIx_r, oIx_li, oIx_ds, oIx_di, gIx_ti, gIx_fi, gIx_si, gSl_t, gSl_s, gSl_f, gSl_r, gIn_ss, gIn_t, gIn_r, oIn_l, oIn_ds, gLen_s, gLen_t, gLen_f, gLen_r, oLen_l, oLen_d, gAbs_i, gMax2_ii, gMin2_ii, gInt1_i, gInt1_b, gList_t, gList_f, gList_r, gTuple_t, gTuple_f, gTuple_r, gSum_r, gAll_r, gIsi_x, tyD_n, tyD_b, tyD_i, tyD_s, tyD_t, tyD_f, tyD_r, oTy_l, oTy_d, tyM_s, tyM_r, oTyM_l, oTyM_d, gAppend_r, gPop0_r, gPopAt_r, gClear_r, gReverse_r, gJoin_r, gUpper_s, gStr_i, gSorted_r, iSeq_e, vSeq_r, vSeq_f, vSeq_t, vSeq_s, iRange1_e, vRng1_i, iRange2_e, vRng2_i, iZipD_e, vZip_r, vZip_t, iEnumD_e, vEnum_r, nTupL_t, nTupL_r, nCons_c, nNil_n, sSub_e, vPut_r, oPut_ds, oPut_di, oPut_l]
  refine ahead_spec h2 h ?_
  rw [lt_flip (keyP_ne hn)]
  refine same_spec (q _ (g1.trans g2))
end LW
namespace LW
open PySem L2 DL
structure Rw where
  w : Str
  n : Str
  d : Int
  rest : List D
def Rw.D (r : Rw) : DL.D := rowD r.w r.n r.d r.rest
structure Rw.ok (r : Rw) : Prop where
  hw : r.w ∈ words
  lo : 0 ≤ r.d
  hi : r.d ≤ 9999
  nr : nrs r.rest = true
def pday (day : Int) : D → Bool := fun x => match x with
  | .tup (_ :: _ :: .int d :: _) => decide (d ≤ day)
  | _ => false
def cnt (rows : List Rw) (day : Int) : Int := (((rows.map Rw.D).filter (pday day)).map fun d => d).length
theorem small_line {n : Nat} (h : n ≤ 100000) : n ≤ sizeLine := Nat.le_trans h (by decide)
theorem upto_spec {x : D} {rows : List Rw} {day : Int} {S : Sto} {Q : DK} (hl : rows.length ≤ 44) (q : ∀ S', Gr S S' → Q (.int (cnt rows day)) S') : m_up_to [.tup [x, .tup (rows.map Rw.D)], .int day] S Q := by
  rw [e_up_to]
  simp (config := {implicitDefEqProofs := false, proj := false}) only [nx_mk, rt_mk, bk_mk, ct_mk, eVar, eC, eOp, eIf, eTup, eLst, eDict0, eDict, eSl, oNo, eCall, eCB, eM, eLc, eIsi2, aNil, aCons, pNil, pCons, tAndD, tOrD, tNotD, tsYes, gMns, gMod, gFdiv, gPow, gLe, gGt, gGe, gEq_ii, gEq_ss, gEq_bb, gEq_nn, gEq_ni, gEq_in, gEq_ns, gEq_sn, gEq_si, gEq_is, sAsg, nName, sRet, sRetN, sExpr, sIf, sNext, sBreak, sCont, sFor, getS, setS, wipeS, endsD, asKeys, toKey, List.length_cons, List.length_nil, List.set_cons_zero, List.set_cons_succ, List.set_nil, Nat.zero_add, Nat.reduceAdd, Option.some.injEq, exists_and_left, exists_eq_left', exists_eq_left, id_eq, if_true, if_false, ite_true, ite_false, Bool.not_true, Bool.not_false, Bool.false_eq_true, not_false_eq_true, not_true_eq_false, reduceCtorEq, true_and, and_true, ne_eq, decide_eq_true_eq, isiN, isiCls, List.mem_cons, String.reduceEq, String.reduceBEq, or_true, true_or, or_false, false_or, Bool.or_true, Bool.true_or, Bool.false_or, Bool.or_false, Bool.and_false, Bool.false_and, Bool.true_and, Bool.and_true, beq_self_eq_true, decide_true, decide_false, tTr_e, vTru_non, vTru_bl, vTru_int, vTru_str, vTru_tup, vTru_ref, oTru_l, oTru_d, tBl_e, vBl_bl, eNeg_e, vNeg_int, eChain_e, eAnd_e, eOr_e, eNot_e, oSome_e, vSome_int, gAdd_ii, gAdd_ss, gAdd_tt, gAdd_rr, gI_ii, gI0_ii, gMulA_ii, gMulA_ri, gMulA_ti, gLt_ii, gLt_ss, gLt2_ii, gLt2_ss, eTab_e, vTab_s, eGet2_e, vGetO_r, vGet2_s, gIs_n, gIs_b, isNon_n, isNon_b, isNon_i, isNon_s, isNon_t, isNon_r, gIx_r, oIx_li, oIx_ds, oIx_di, gIx_ti, gIx_fi, gIx_si, gSl_t, gSl_s, gSl_f, gSl_r, gIn_ss, gIn_t, gIn_r, oIn_l, oIn_ds, gLen_s, gLen_t, gLen_f, gLen_r, oLen_l, oLen_d, gAbs_i, gMax2_ii, gMin2_ii, gInt1_i, gInt1_b, gList_t, gList_f, gList_r, gTuple_t, gTuple_f, gTuple_r, gSum_r, gAll_r, gIsi_x, tyD_n, tyD_b, tyD_i, tyD_s, tyD_t, tyD_f, tyD_r, oTy_l, oTy_d, tyM_s, tyM_r, oTyM_l, oTyM_d, gAppend_r, gPop0_r, gPopAt_r, gClear_r, gReverse_r, gJoin_r, gUpper_s, gStr_i, gSorted_r, iSeq_e, vSeq_r, vSeq_f, vSeq_t, vSeq_s, iRange1_e, vRng1_i, iRange2_e, vRng2_i, iZipD_e, vZip_r, vZip_t, iEnumD_e, vEnum_r, nTupL_t, nTupL_r, nCons_c, nNil_n, sSub_e, vPut_r, oPut_ds, oPut_di, oPut_l, b_up_to]
  refine ⟨_, atI_nat (j := 1) rfl, ?_⟩
  refine lcL_filter (fun d => d) (pday day) _ trivial (by rw [List.length_map]; exact small_line (by omega)) ?_ (fun y hy T G h1 h2 => ?_)
  · intro p hp
    simp (config := {implicitDefEqProofs := false, proj := false}) only [nx_mk, rt_mk, bk_mk, ct_mk, eVar, eC, eOp, eIf, eTup, eLst, eDict0, eDict, eSl, oNo, eCall, eCB, eM, eLc, eIsi2, aNil, aCons, pNil, pCons, tAndD, tOrD, tNotD, tsYes, gMns, gMod, gFdiv, gPow, gLe, gGt, gGe, gEq_ii, gEq_ss, gEq_bb, gEq_nn, gEq_ni, gEq_in, gEq_ns, gEq_sn, gEq_si, gEq_is, sAsg, nName, sRet, sRetN, sExpr, sIf, sNext, sBreak, sCont, sFor, getS, setS, wipeS, endsD, asKeys, toKey, List.length_cons, List.length_nil, List.set_cons_zero, List.set_cons_succ, List.set_nil, Nat.zero_add, Nat.reduceAdd, Option.some.injEq, exists_and_left, exists_eq_left', exists_eq_left, id_eq, if_true, if_false, ite_true, ite_false, Bool.not_true, Bool.not_false, Bool.false_eq_true, not_false_eq_true, not_true_eq_false, reduceCtorEq, true_and, and_true, ne_eq, decide_eq_true_eq, isiN, isiCls, List.mem_cons, String.reduceEq, String.reduceBEq, or_true, true_or, or_false, false_or, Bool.or_true, Bool.true_or, Bool.false_or, Bool.or_false, Bool.and_false, Bool.false_and, Bool.true_and, Bool.and_true, beq_self_eq_true, decide_true, decide_false, tTr_e, vTru_non, vTru_bl, vTru_int, vTru_str, vTru_tup, vTru_ref, oTru_l, oTru_d, tBl_e, vBl_bl, eNeg_e, vNeg_int, eChain_e, eAnd_e, eOr_e, eNot_e, oSome_e, vSome_int, gAdd_ii, gAdd_ss, gAdd_tt, gAdd_rr, gI_ii, gI0_ii, gMulA_ii, gMulA_ri, gMulA_ti, gLt_ii, gLt_ss, gLt2_ii, gLt2_ss, eTab_e, vTab_s, eGet2_e, vGetO_r, vGet2_s, gIs_n, gIs_b, isNon_n, isNon_b, isNon_i, isNon_s, isNon_t, isNon_r, gIx_r, oIx_li, oIx_ds, oIx_di, gIx_ti, gIx_fi, gIx_si, gSl_t, gSl_s, gSl_f, gSl_r, gIn_ss, gIn_t, gIn_r, oIn_l, oIn_ds, gLen_s, gLen_t, gLen_f, gLen_r, oLen_l, oLen_d, gAbs_i, gMax2_ii, gMin2_ii, gInt1_i, gInt1_b, gList_t, gList_f, gList_r, gTuple_t, gTuple_f, gTuple_r, gSum_r, gAll_r, gIsi_x, tyD_n, tyD_b, tyD_i, tyD_s, tyD_t, tyD_f, tyD_r, oTy_l, oTy_d, tyM_s, tyM_r, oTyM_l, oTyM_d, gAppend_r, gPop0_r, gPopAt_r, gClear_r, gReverse_r, gJoin_r, gUpper_s, gStr_i, gSorted_r, iSeq_e, vSeq_r, vSeq_f, vSeq_t, vSeq_s, iRange1_e, vRng1_i, iRange2_e, vRng2_i, iZipD_e, vZip_r, vZip_t, iEnumD_e, vEnum_r, nTupL_t, nTupL_r, nCons_c, nNil_n, sSub_e, vPut_r, oPut_ds, oPut_di, oPut_l, updS_same]
    exact q _ (.new hp)
  · obtain ⟨r, hr, rfl⟩ := List.mem_map.mp hy
    simp (config := {implicitDefEqProofs := false, proj := false}) only [nx_mk, rt_mk, bk_mk, ct_mk, eVar, eC, eOp, eIf, eTup, eLst, eDict0, eDict, eSl, oNo, eCall, eCB, eM, eLc, eIsi2, aNil, aCons, pNil, pCons, tAndD, tOrD, tNotD, tsYes, gMns, gMod, gFdiv, gPow, gLe, gGt, gGe, gEq_ii, gEq_ss, gEq_bb, gEq_nn, gEq_ni, gEq_in, gEq_ns, gEq_sn, gEq_si, gEq_is, sAsg, nName, sRet, sRetN, sExpr, sIf, sNext, sBreak, sCont, sFor, getS, setS, wipeS, endsD, asKeys, toKey, List.length_cons, List.length_nil, List.set_cons_zero, List.set_cons_succ, List.set_nil, Nat.zero_add, Nat.reduceAdd, Option.some.injEq, exists_and_left, exists_eq_left', exists_eq_left, id_eq, if_true, if_false, ite_true, ite_false, Bool.not_true, Bool.not_false, Bool.false_eq_true, not_false_eq_true, not_true_eq_false, reduceCtorEq, true_and, and_true, ne_eq, decide_eq_true_eq, isiN, isiCls, List.mem_cons, String.reduceEq, String.reduceBEq, or_true, true_or, or_false, false_or, Bool.or_true, Bool.true_or, Bool.false_or, Bool.or_false, Bool.and_false, Bool.false_and, Bool.true_and, Bool.and_true, beq_self_eq_true, decide_true, decide_false, tTr_e, vTru_non, vTru_bl, vTru_int, vTru_str, vTru_tup, vTru_ref, oTru_l, oTru_d, tBl_e, vBl_bl, eNeg_e, vNeg_int, eChain_e, eAnd_e, eOr_e, eNot_e, oSome_e, vSome_int, gAdd_ii, gAdd_ss, gAdd_tt, gAdd_rr, gI_ii, gI0_ii, gMulA_ii, gMulA_ri, gMulA_ti, gLt_ii, gLt_ss, gLt2_ii, gLt2_ss, eTab_e, vTab_s, eGet2_e, vGetO_r, vGet2_s, gIs_n, gIs_b, isNon_n, isNon_b, isNon_i, isNon_s, isNon_t, isNon_r, gIx_r, oIx_li, oIx_ds, oIx_di, gIx_ti, gIx_fi, gIx_si, gSl_t, gSl_s, gSl_f, gSl_r, gIn_ss, gIn_t, gIn_r, oIn_l, oIn_ds, gLen_s, gLen_t, gLen_f, gLen_r, oLen_l, oLen_d, gAbs_i, gMax2_ii, gMin2_ii, gInt1_i, gInt1_b, gList_t, gList_f, gList_r, gTuple_t, gTuple_f, gTuple_r, gSum_r, gAll_r, gIsi_x, tyD_n, tyD_b, tyD_i, tyD_s, tyD_t, tyD_f, tyD_r, oTy_l, oTy_d, tyM_s, tyM_r, oTyM_l, oTyM_d, gAppend_r, gPop0_r, gPopAt_r, gClear_r, gReverse_r, gJoin_r, gUpper_s, gStr_i, gSorted_r, iSeq_e, vSeq_r, vSeq_f, vSeq_t, vSeq_s, iRange1_e, vRng1_i, iRange2_e, vRng2_i, iZipD_e, vZip_r, vZip_t, iEnumD_e, vEnum_r, nTupL_t, nTupL_r, nCons_c, nNil_n, sSub_e, vPut_r, oPut_ds, oPut_di, oPut_l, c_up_to_1]
    refine ⟨_, atI_nat (j := 2) rfl, ?_⟩
    simp (config := {implicitDefEqProofs := false, proj := false}) only [nx_mk, rt_mk, bk_mk, ct_mk, eVar, eC, eOp, eIf, eTup, eLst, eDict0, eDict, eSl, oNo, eCall, eCB, eM, eLc, eIsi2, aNil, aCons, pNil, pCons, tAndD, tOrD, tNotD, tsYes, gMns, gMod, gFdiv, gPow, gLe, gGt, gGe, gEq_ii, gEq_ss, gEq_bb, gEq_nn, gEq_ni, gEq_in, gEq_ns, gEq_sn, gEq_si, gEq_is, sAsg, nName, sRet, sRetN, sExpr, sIf, sNext, sBreak, sCont, sFor, getS, setS, wipeS, endsD, asKeys, toKey, List.length_cons, List.length_nil, List.set_cons_zero, List.set_cons_succ, List.set_nil, Nat.zero_add, Nat.reduceAdd, Option.some.injEq, exists_and_left, exists_eq_left', exists_eq_left, id_eq, if_true, if_false, ite_true, ite_false, Bool.not_true, Bool.not_false, Bool.false_eq_true, not_false_eq_true, not_true_eq_false, reduceCtorEq, true_and, and_true, ne_eq, decide_eq_true_eq, isiN, isiCls, List.mem_cons, String.reduceEq, String.reduceBEq, or_true, true_or, or_false, false_or, Bool.or_true, Bool.true_or, Bool.false_or, Bool.or_false, Bool.and_false, Bool.false_and, Bool.true_and, Bool.and_true, beq_self_eq_true, decide_true, decide_false, tTr_e, vTru_non, vTru_bl, vTru_int, vTru_str, vTru_tup, vTru_ref, oTru_l, oTru_d, tBl_e, vBl_bl, eNeg_e, vNeg_int, eChain_e, eAnd_e, eOr_e, eNot_e, oSome_e, vSome_int, gAdd_ii, gAdd_ss, gAdd_tt, gAdd_rr, gI_ii, gI0_ii, gMulA_ii, gMulA_ri, gMulA_ti, gLt_ii, gLt_ss, gLt2_ii, gLt2_ss, eTab_e, vTab_s, eGet2_e, vGetO_r, vGet2_s, gIs_n, gIs_b, isNon_n, isNon_b, isNon_i, isNon_s, isNon_t, isNon_r, gIx_r, oIx_li, oIx_ds, oIx_di, gIx_ti, gIx_fi, gIx_si, gSl_t, gSl_s, gSl_f, gSl_r, gIn_ss, gIn_t, gIn_r, oIn_l, oIn_ds, gLen_s, gLen_t, gLen_f, gLen_r, oLen_l, oLen_d, gAbs_i, gMax2_ii, gMin2_ii, gInt1_i, gInt1_b, gList_t, gList_f, gList_r, gTuple_t, gTuple_f, gTuple_r, gSum_r, gAll_r, gIsi_x, tyD_n, tyD_b, tyD_i, tyD_s, tyD_t, tyD_f, tyD_r, oTy_l, oTy_d, tyM_s, tyM_r, oTyM_l, oTyM_d, gAppend_r, gPop0_r, gPopAt_r, gClear_r, gReverse_r, gJoin_r, gUpper_s, gStr_i, gSorted_r, iSeq_e, vSeq_r, vSeq_f, vSeq_t, vSeq_s, iRange1_e, vRng1_i, iRange2_e, vRng2_i, iZipD_e, vZip_r, vZip_t, iEnumD_e, vEnum_r, nTupL_t, nTupL_r, nCons_c, nNil_n, sSub_e, vPut_r, oPut_ds, oPut_di, oPut_l]
    by_cases hc : r.d ≤ day
    · rw [if_pos hc]
      exact h1 (decide_eq_true hc)
    · rw [if_neg hc]
      exact h2 (decide_eq_false hc)
theorem days_spec {x : D} {rows : List Rw} {S : Sto} {Q : DK} (hl : rows.length ≤ 44) (q : ∀ S', Gr S S' → Q (.bl true) S') : m_wdays_right [.tup [x, .tup (rows.map Rw.D)]] S Q := by
  rw [e_wdays_right]
  refine seq_i ?_
  simp (config := {implicitDefEqProofs := false, proj := false}) only [nx_mk, rt_mk, bk_mk, ct_mk, eVar, eC, eOp, eIf, eTup, eLst, eDict0, eDict, eSl, oNo, eCall, eCB, eM, eLc, eIsi2, aNil, aCons, pNil, pCons, tAndD, tOrD, tNotD, tsYes, gMns, gMod, gFdiv, gPow, gLe, gGt, gGe, gEq_ii, gEq_ss, gEq_bb, gEq_nn, gEq_ni, gEq_in, gEq_ns, gEq_sn, gEq_si, gEq_is, sAsg, nName, sRet, sRetN, sExpr, sIf, sNext, sBreak, sCont, sFor, getS, setS, wipeS, endsD, asKeys, toKey, List.length_cons, List.length_nil, List.set_cons_zero, List.set_cons_succ, List.set_nil, Nat.zero_add, Nat.reduceAdd, Option.some.injEq, exists_and_left, exists_eq_left', exists_eq_left, id_eq, if_true, if_false, ite_true, ite_false, Bool.not_true, Bool.not_false, Bool.false_eq_true, not_false_eq_true, not_true_eq_false, reduceCtorEq, true_and, and_true, ne_eq, decide_eq_true_eq, isiN, isiCls, List.mem_cons, String.reduceEq, String.reduceBEq, or_true, true_or, or_false, false_or, Bool.or_true, Bool.true_or, Bool.false_or, Bool.or_false, Bool.and_false, Bool.false_and, Bool.true_and, Bool.and_true, beq_self_eq_true, decide_true, decide_false, tTr_e, vTru_non, vTru_bl, vTru_int, vTru_str, vTru_tup, vTru_ref, oTru_l, oTru_d, tBl_e, vBl_bl, eNeg_e, vNeg_int, eChain_e, eAnd_e, eOr_e, eNot_e, oSome_e, vSome_int, gAdd_ii, gAdd_ss, gAdd_tt, gAdd_rr, gI_ii, gI0_ii, gMulA_ii, gMulA_ri, gMulA_ti, gLt_ii, gLt_ss, gLt2_ii, gLt2_ss, eTab_e, vTab_s, eGet2_e, vGetO_r, vGet2_s, gIs_n, gIs_b, isNon_n, isNon_b, isNon_i, isNon_s, isNon_t, isNon_r, gIx_r, oIx_li, oIx_ds, oIx_di, gIx_ti, gIx_fi, gIx_si, gSl_t, gSl_s, gSl_f, gSl_r, gIn_ss, gIn_t, gIn_r, oIn_l, oIn_ds, gLen_s, gLen_t, gLen_f, gLen_r, oLen_l, oLen_d, gAbs_i, gMax2_ii, gMin2_ii, gInt1_i, gInt1_b, gList_t, gList_f, gList_r, gTuple_t, gTuple_f, gTuple_r, gSum_r, gAll_r, gIsi_x, tyD_n, tyD_b, tyD_i, tyD_s, tyD_t, tyD_f, tyD_r, oTy_l, oTy_d, tyM_s, tyM_r, oTyM_l, oTyM_d, gAppend_r, gPop0_r, gPopAt_r, gClear_r, gReverse_r, gJoin_r, gUpper_s, gStr_i, gSorted_r, iSeq_e, vSeq_r, vSeq_f, vSeq_t, vSeq_s, iRange1_e, vRng1_i, iRange2_e, vRng2_i, iZipD_e, vZip_r, vZip_t, iEnumD_e, vEnum_r, nTupL_t, nTupL_r, nCons_c, nNil_n, sSub_e, vPut_r, oPut_ds, oPut_di, oPut_l]
  refine ⟨by decide, fun a ha => seq_i ?_⟩
  simp (config := {implicitDefEqProofs := false, proj := false}) only [nx_mk, rt_mk, bk_mk, ct_mk, eVar, eC, eOp, eIf, eTup, eLst, eDict0, eDict, eSl, oNo, eCall, eCB, eM, eLc, eIsi2, aNil, aCons, pNil, pCons, tAndD, tOrD, tNotD, tsYes, gMns, gMod, gFdiv, gPow, gLe, gGt, gGe, gEq_ii, gEq_ss, gEq_bb, gEq_nn, gEq_ni, gEq_in, gEq_ns, gEq_sn, gEq_si, gEq_is, sAsg, nName, sRet, sRetN, sExpr, sIf, sNext, sBreak, sCont, sFor, getS, setS, wipeS, endsD, asKeys, toKey, List.length_cons, List.length_nil, List.set_cons_zero, List.set_cons_succ, List.set_nil, Nat.zero_add, Nat.reduceAdd, Option.some.injEq, exists_and_left, exists_eq_left', exists_eq_left, id_eq, if_true, if_false, ite_true, ite_false, Bool.not_true, Bool.not_false, Bool.false_eq_true, not_false_eq_true, not_true_eq_false, reduceCtorEq, true_and, and_true, ne_eq, decide_eq_true_eq, isiN, isiCls, List.mem_cons, String.reduceEq, String.reduceBEq, or_true, true_or, or_false, false_or, Bool.or_true, Bool.true_or, Bool.false_or, Bool.or_false, Bool.and_false, Bool.false_and, Bool.true_and, Bool.and_true, beq_self_eq_true, decide_true, decide_false, tTr_e, vTru_non, vTru_bl, vTru_int, vTru_str, vTru_tup, vTru_ref, oTru_l, oTru_d, tBl_e, vBl_bl, eNeg_e, vNeg_int, eChain_e, eAnd_e, eOr_e, eNot_e, oSome_e, vSome_int, gAdd_ii, gAdd_ss, gAdd_tt, gAdd_rr, gI_ii, gI0_ii, gMulA_ii, gMulA_ri, gMulA_ti, gLt_ii, gLt_ss, gLt2_ii, gLt2_ss, eTab_e, vTab_s, eGet2_e, vGetO_r, vGet2_s, gIs_n, gIs_b, isNon_n, isNon_b, isNon_i, isNon_s, isNon_t, isNon_r, gIx_r, oIx_li, oIx_ds, oIx_di, gIx_ti, gIx_fi, gIx_si, gSl_t, gSl_s, gSl_f, gSl_r, gIn_ss, gIn_t, gIn_r, oIn_l, oIn_ds, gLen_s, gLen_t, gLen_f, gLen_r, oLen_l, oLen_d, gAbs_i, gMax2_ii, gMin2_ii, gInt1_i, gInt1_b, gList_t, gList_f, gList_r, gTuple_t, gTuple_f, gTuple_r, gSum_r, gAll_r, gIsi_x, tyD_n, tyD_b, tyD_i, tyD_s, tyD_t, tyD_f, tyD_r, oTy_l, oTy_d, tyM_s, tyM_r, oTyM_l, oTyM_d, gAppend_r, gPop0_r, gPopAt_r, gClear_r, gReverse_r, gJoin_r, gUpper_s, gStr_i, gSorted_r, iSeq_e, vSeq_r, vSeq_f, vSeq_t, vSeq_s, iRange1_e, vRng1_i, iRange2_e, vRng2_i, iZipD_e, vZip_r, vZip_t, iEnumD_e, vEnum_r, nTupL_t, nTupL_r, nCons_c, nNil_n, sSub_e, vPut_r, oPut_ds, oPut_di, oPut_l]
  refine ⟨_, atI_nat (j := 1) rfl, ?_⟩
  refine forL_inv _ (fun i σ S' => ∃ (b : Addr) (is : List Int) (u : Option D), σ = [some (.tup [x, .tup (rows.map Rw.D)]), some (.ref b), u, none, none, none] ∧ Gr S S' ∧ S' b = some (.lst (is.map .int)) ∧ is.length = 2 + 3 * i)
    (fun _ _ _ _ => trivial) (fun i y σ S' N hx hi hN => ?turn) (fun σ S' hi => ?fin) ⟨a, [0, 9999], none, rfl, .new ha, updS_same, rfl⟩
  case turn =>
    obtain ⟨b, is, u, rfl, g, hb, hlen⟩ := hi
    rw [List.getElem?_map] at hx
    cases hc : rows[i]? with
    | none => rw [hc] at hx; cases hx
    | some r =>
      rw [hc] at hx
      cases hx
      have hlt := (List.getElem?_eq_some_iff.mp hc).1
      simp (config := {implicitDefEqProofs := false, proj := false}) only [nx_mk, rt_mk, bk_mk, ct_mk, eVar, eC, eOp, eIf, eTup, eLst, eDict0, eDict, eSl, oNo, eCall, eCB, eM, eLc, eIsi2, aNil, aCons, pNil, pCons, tAndD, tOrD, tNotD, tsYes, gMns, gMod, gFdiv, gPow, gLe, gGt, gGe, gEq_ii, gEq_ss, gEq_bb, gEq_nn, gEq_ni, gEq_in, gEq_ns, gEq_sn, gEq_si, gEq_is, sAsg, nName, sRet, sRetN, sExpr, sIf, sNext, sBreak, sCont, sFor, getS, setS, wipeS, endsD, asKeys, toKey, List.length_cons, List.length_nil, List.set_cons_zero, List.set_cons_succ, List.set_nil, Nat.zero_add, Nat.reduceAdd, Option.some.injEq, exists_and_left, exists_eq_left', exists_eq_left, id_eq, if_true, if_false, ite_true, ite_false, Bool.not_true, Bool.not_false, Bool.false_eq_true, not_false_eq_true, not_true_eq_false, reduceCtorEq, true_and, and_true, ne_eq, decide_eq_true_eq, isiN, isiCls, List.mem_cons, String.reduceEq, String.reduceBEq, or_true, true_or, or_false, false_or, Bool.or_true, Bool.true_or, Bool.false_or, Bool.or_false, Bool.and_false, Bool.false_and, Bool.true_and, Bool.and_true, beq_self_eq_true, decide_true, decide_false, tTr_e, vTru_non, vTru_bl, vTru_int, vTru_str, vTru_tup, vTru_ref, oTru_l, oTru_d, tBl_e, vBl_bl, eNeg_e, vNeg_int, eChain_e, eAnd_e, eOr_e, eNot_e, oSome_e, vSome_int, gAdd_ii, gAdd_ss, gAdd_tt, gAdd_rr, gI_ii, gI0_ii, gMulA_ii, gMulA_ri, gMulA_ti, gLt_ii, gLt_ss, gLt2_ii, gLt2_ss, eTab_e, vTab_s, eGet2_e, vGetO_r, vGet2_s, gIs_n, gIs_b, isNon_n, isNon_b, isNon_i, isNon_s, isNon_t, isNon_r, gIx_r, oIx_li, oIx_ds, oIx_di, gIx_ti, gIx_fi, gIx_si, gSl_t, gSl_s, gSl_f, gSl_r, gIn_ss, gIn_t, gIn_r, oIn_l, oIn_ds, gLen_s, gLen_t, gLen_f, gLen_r, oLen_l, oLen_d, gAbs_i, gMax2_ii, gMin2_ii, gInt1_i, gInt1_b, gList_t, gList_f, gList_r, gTuple_t, gTuple_f, gTuple_r, gSum_r, gAll_r, gIsi_x, tyD_n, tyD_b, tyD_i, tyD_s, tyD_t, tyD_f, tyD_r, oTy_l, oTy_d, tyM_s, tyM_r, oTyM_l, oTyM_d, gAppend_r, gPop0_r, gPopAt_r, gClear_r, gReverse_r, gJoin_r, gUpper_s, gStr_i, gSorted_r, iSeq_e, vSeq_r, vSeq_f, vSeq_t, vSeq_s, iRange1_e, vRng1_i, iRange2_e, vRng2_i, iZipD_e, vZip_r, vZip_t, iEnumD_e, vEnum_r, nTupL_t, nTupL_r, nCons_c, nNil_n, sSub_e, vPut_r, oPut_ds, oPut_di, oPut_l, l_wdays_right_2]
      refine ⟨_, atI_nat (j := 2) rfl, ?_⟩
      simp (config := {implicitDefEqProofs := false, proj := false}) only [nx_mk, rt_mk, bk_mk, ct_mk, eVar, eC, eOp, eIf, eTup, eLst, eDict0, eDict, eSl, oNo, eCall, eCB, eM, eLc, eIsi2, aNil, aCons, pNil, pCons, tAndD, tOrD, tNotD, tsYes, gMns, gMod, gFdiv, gPow, gLe, gGt, gGe, gEq_ii, gEq_ss, gEq_bb, gEq_nn, gEq_ni, gEq_in, gEq_ns, gEq_sn, gEq_si, gEq_is, sAsg, nName, sRet, sRetN, sExpr, sIf, sNext, sBreak, sCont, sFor, getS, setS, wipeS, endsD, asKeys, toKey, List.length_cons, List.length_nil, List.set_cons_zero, List.set_cons_succ, List.set_nil, Nat.zero_add, Nat.reduceAdd, Option.some.injEq, exists_and_left, exists_eq_left', exists_eq_left, id_eq, if_true, if_false, ite_true, ite_false, Bool.not_true, Bool.not_false, Bool.false_eq_true, not_false_eq_true, not_true_eq_false, reduceCtorEq, true_and, and_true, ne_eq, decide_eq_true_eq, isiN, isiCls, List.mem_cons, String.reduceEq, String.reduceBEq, or_true, true_or, or_false, false_or, Bool.or_true, Bool.true_or, Bool.false_or, Bool.or_false, Bool.and_false, Bool.false_and, Bool.true_and, Bool.and_true, beq_self_eq_true, decide_true, decide_false, tTr_e, vTru_non, vTru_bl, vTru_int, vTru_str, vTru_tup, vTru_ref, oTru_l, oTru_d, tBl_e, vBl_bl, eNeg_e, vNeg_int, eChain_e, eAnd_e, eOr_e, eNot_e, oSome_e, vSome_int, gAdd_ii, gAdd_ss, gAdd_tt, gAdd_rr, gI_ii, gI0_ii, gMulA_ii, gMulA_ri, gMulA_ti, gLt_ii, gLt_ss, gLt2_ii, gLt2_ss, eTab_e, vTab_s, eGet2_e, vGetO_r, vGet2_s, gIs_n, gIs_b, isNon_n, isNon_b, isNon_i, isNon_s, isNon_t, isNon_r, gIx_r, oIx_li, oIx_ds, oIx_di, gIx_ti, gIx_fi, gIx_si, gSl_t, gSl_s, gSl_f, gSl_r, gIn_ss, gIn_t, gIn_r, oIn_l, oIn_ds, gLen_s, gLen_t, gLen_f, gLen_r, oLen_l, oLen_d, gAbs_i, gMax2_ii, gMin2_ii, gInt1_i, gInt1_b, gList_t, gList_f, gList_r, gTuple_t, gTuple_f, gTuple_r, gSum_r, gAll_r, gIsi_x, tyD_n, tyD_b, tyD_i, tyD_s, tyD_t, tyD_f, tyD_r, oTy_l, oTy_d, tyM_s, tyM_r, oTyM_l, oTyM_d, gAppend_r, gPop0_r, gPopAt_r, gClear_r, gReverse_r, gJoin_r, gUpper_s, gStr_i, gSorted_r, iSeq_e, vSeq_r, vSeq_f, vSeq_t, vSeq_s, iRange1_e, vRng1_i, iRange2_e, vRng2_i, iZipD_e, vZip_r, vZip_t, iEnumD_e, vEnum_r, nTupL_t, nTupL_r, nCons_c, nNil_n, sSub_e, vPut_r, oPut_ds, oPut_di, oPut_l]
      refine ⟨_, atI_nat (j := 2) rfl, _, atI_nat (j := 2) rfl, ?_⟩
      simp (config := {implicitDefEqProofs := false, proj := false}) only [nx_mk, rt_mk, bk_mk, ct_mk, eVar, eC, eOp, eIf, eTup, eLst, eDict0, eDict, eSl, oNo, eCall, eCB, eM, eLc, eIsi2, aNil, aCons, pNil, pCons, tAndD, tOrD, tNotD, tsYes, gMns, gMod, gFdiv, gPow, gLe, gGt, gGe, gEq_ii, gEq_ss, gEq_bb, gEq_nn, gEq_ni, gEq_in, gEq_ns, gEq_sn, gEq_si, gEq_is, sAsg, nName, sRet, sRetN, sExpr, sIf, sNext, sBreak, sCont, sFor, getS, setS, wipeS, endsD, asKeys, toKey, List.length_cons, List.length_nil, List.set_cons_zero, List.set_cons_succ, List.set_nil, Nat.zero_add, Nat.reduceAdd, Option.some.injEq, exists_and_left, exists_eq_left', exists_eq_left, id_eq, if_true, if_false, ite_true, ite_false, Bool.not_true, Bool.not_false, Bool.false_eq_true, not_false_eq_true, not_true_eq_false, reduceCtorEq, true_and, and_true, ne_eq, decide_eq_true_eq, isiN, isiCls, List.mem_cons, String.reduceEq, String.reduceBEq, or_true, true_or, or_false, false_or, Bool.or_true, Bool.true_or, Bool.false_or, Bool.or_false, Bool.and_false, Bool.false_and, Bool.true_and, Bool.and_true, beq_self_eq_true, decide_true, decide_false, tTr_e, vTru_non, vTru_bl, vTru_int, vTru_str, vTru_tup, vTru_ref, oTru_l, oTru_d, tBl_e, vBl_bl, eNeg_e, vNeg_int, eChain_e, eAnd_e, eOr_e, eNot_e, oSome_e, vSome_int, gAdd_ii, gAdd_ss, gAdd_tt, gAdd_rr, gI_ii, gI0_ii, gMulA_ii, gMulA_ri, gMulA_ti, gLt_ii, gLt_ss, gLt2_ii, gLt2_ss, eTab_e, vTab_s, eGet2_e, vGetO_r, vGet2_s, gIs_n, gIs_b, isNon_n, isNon_b, isNon_i, isNon_s, isNon_t, isNon_r, gIx_r, oIx_li, oIx_ds, oIx_di, gIx_ti, gIx_fi, gIx_si, gSl_t, gSl_s, gSl_f, gSl_r, gIn_ss, gIn_t, gIn_r, oIn_l, oIn_ds, gLen_s, gLen_t, gLen_f, gLen_r, oLen_l, oLen_d, gAbs_i, gMax2_ii, gMin2_ii, gInt1_i, gInt1_b, gList_t, gList_f, gList_r, gTuple_t, gTuple_f, gTuple_r, gSum_r, gAll_r, gIsi_x, tyD_n, tyD_b, tyD_i, tyD_s, tyD_t, tyD_f, tyD_r, oTy_l, oTy_d, tyM_s, tyM_r, oTyM_l, oTyM_d, gAppend_r, gPop0_r, gPopAt_r, gClear_r, gReverse_r, gJoin_r, gUpper_s, gStr_i, gSorted_r, iSeq_e, vSeq_r, vSeq_f, vSeq_t, vSeq_s, iRange1_e, vRng1_i, iRange2_e, vRng2_i, iZipD_e, vZip_r, vZip_t, iEnumD_e, vEnum_r, nTupL_t, nTupL_r, nCons_c, nNil_n, sSub_e, vPut_r, oPut_ds, oPut_di, oPut_l]
      refine ⟨by decide, fun p hp => ?_⟩
      have hbp : b ≠ p := neS hb hp
      refine ⟨_, (updS_ne hbp).trans hb, _, updS_same, ?_, fun n hn => ?_⟩
      · rw [List.length_map, hlen]
        exact small_line (show 2 + 3 * i + 3 ≤ 100000 by omega)
      · refine hN _ _ ⟨n, is ++ [if r.d - 1 > 0 then r.d - 1 else 0, r.d, if r.d + 1 < 9999 then r.d + 1 else 9999], _, rfl, (g.trans (.new hp)).trans (.new hn), ?_, ?_⟩
        · rw [updS_same, List.map_append]
          rfl
        · rw [List.length_append, hlen]
          show 2 + 3 * i + 3 = 2 + 3 * (i + 1)
          omega
  case fin =>
    obtain ⟨b, is, u, rfl, g, hb, hlen⟩ := hi
    rw [List.length_map] at hlen
    refine seq_i ?_
    simp (config := {implicitDefEqProofs := false, proj := false}) only [nx_mk, rt_mk, bk_mk, ct_mk, eVar, eC, eOp, eIf, eTup, eLst, eDict0, eDict, eSl, oNo, eCall, eCB, eM, eLc, eIsi2, aNil, aCons, pNil, pCons, tAndD, tOrD, tNotD, tsYes, gMns, gMod, gFdiv, gPow, gLe, gGt, gGe, gEq_ii, gEq_ss, gEq_bb, gEq_nn, gEq_ni, gEq_in, gEq_ns, gEq_sn, gEq_si, gEq_is, sAsg, nName, sRet, sRetN, sExpr, sIf, sNext, sBreak, sCont, sFor, getS, setS, wipeS, endsD, asKeys, toKey, List.length_cons, List.length_nil, List.set_cons_zero, List.set_cons_succ, List.set_nil, Nat.zero_add, Nat.reduceAdd, Option.some.injEq, exists_and_left, exists_eq_left', exists_eq_left, id_eq, if_true, if_false, ite_true, ite_false, Bool.not_true, Bool.not_false, Bool.false_eq_true, not_false_eq_true, not_true_eq_false, reduceCtorEq, true_and, and_true, ne_eq, decide_eq_true_eq, isiN, isiCls, List.mem_cons, String.reduceEq, String.reduceBEq, or_true, true_or, or_false, false_or, Bool.or_true, Bool.true_or, Bool.false_or, Bool.or_false, Bool.and_false, Bool.false_and, Bool.true_and, Bool.and_true, beq_self_eq_true, decide_true, decide_false, tTr_e, vTru_non, vTru_bl, vTru_int, vTru_str, vTru_tup, vTru_ref, oTru_l, oTru_d, tBl_e, vBl_bl, eNeg_e, vNeg_int, eChain_e, eAnd_e, eOr_e, eNot_e, oSome_e, vSome_int, gAdd_ii, gAdd_ss, gAdd_tt, gAdd_rr, gI_ii, gI0_ii, gMulA_ii, gMulA_ri, gMulA_ti, gLt_ii, gLt_ss, gLt2_ii, gLt2_ss, eTab_e, vTab_s, eGet2_e, vGetO_r, vGet2_s, gIs_n, gIs_b, isNon_n, isNon_b, isNon_i, isNon_s, isNon_t, isNon_r, gIx_r, oIx_li, oIx_ds, oIx_di, gIx_ti, gIx_fi, gIx_si, gSl_t, gSl_s, gSl_f, gSl_r, gIn_ss, gIn_t, gIn_r, oIn_l, oIn_ds, gLen_s, gLen_t, gLen_f, gLen_r, oLen_l, oLen_d, gAbs_i, gMax2_ii, gMin2_ii, gInt1_i, gInt1_b, gList_t, gList_f, gList_r, gTuple_t, gTuple_f, gTuple_r, gSum_r, gAll_r, gIsi_x, tyD_n, tyD_b, tyD_i, tyD_s, tyD_t, tyD_f, tyD_r, oTy_l, oTy_d, tyM_s, tyM_r, oTyM_l, oTyM_d, gAppend_r, gPop0_r, gPopAt_r, gClear_r, gReverse_r, gJoin_r, gUpper_s, gStr_i, gSorted_r, iSeq_e, vSeq_r, vSeq_f, vSeq_t, vSeq_s, iRange1_e, vRng1_i, iRange2_e, vRng2_i, iZipD_e, vZip_r, vZip_t, iEnumD_e, vEnum_r, nTupL_t, nTupL_r, nCons_c, nNil_n, sSub_e, vPut_r, oPut_ds, oPut_di, oPut_l]
    refine ⟨_, hb, ?_⟩
    refine forL_inv _ (fun i σ S' => ∃ (u v w v2 : Option D), σ = [some (.tup [x, .tup (rows.map Rw.D)]), some (.ref b), u, v, w, v2] ∧ Gr S S' ∧ S' b = some (.lst (is.map .int)))
      (fun i σ S' hi => by obtain ⟨_, _, _, _, _, _, h⟩ := hi; exact h) (fun i y σ S' N hx hi hN => ?turn) (fun σ S' hi => ?fin) ⟨u, none, none, none, rfl, g, hb⟩
    case turn =>
      obtain ⟨u, v, w, v2, rfl, g, hb⟩ := hi
      rw [List.getElem?_map] at hx
      cases hc : is[i]? with
      | none => rw [hc] at hx; cases hx
      | some day =>
        rw [hc] at hx
        cases hx
        simp (config := {implicitDefEqProofs := false, proj := false}) only [nx_mk, rt_mk, bk_mk, ct_mk, eVar, eC, eOp, eIf, eTup, eLst, eDict0, eDict, eSl, oNo, eCall, eCB, eM, eLc, eIsi2, aNil, aCons, pNil, pCons, tAndD, tOrD, tNotD, tsYes, gMns, gMod, gFdiv, gPow, gLe, gGt, gGe, gEq_ii, gEq_ss, gEq_bb, gEq_nn, gEq_ni, gEq_in, gEq_ns, gEq_sn, gEq_si, gEq_is, sAsg, nName, sRet, sRetN, sExpr, sIf, sNext, sBreak, sCont, sFor, getS, setS, wipeS, endsD, asKeys, toKey, List.length_cons, List.length_nil, List.set_cons_zero, List.set_cons_succ, List.set_nil, Nat.zero_add, Nat.reduceAdd, Option.some.injEq, exists_and_left, exists_eq_left', exists_eq_left, id_eq, if_true, if_false, ite_true, ite_false, Bool.not_true, Bool.not_false, Bool.false_eq_true, not_false_eq_true, not_true_eq_false, reduceCtorEq, true_and, and_true, ne_eq, decide_eq_true_eq, isiN, isiCls, List.mem_cons, String.reduceEq, String.reduceBEq, or_true, true_or, or_false, false_or, Bool.or_true, Bool.true_or, Bool.false_or, Bool.or_false, Bool.and_false, Bool.false_and, Bool.true_and, Bool.and_true, beq_self_eq_true, decide_true, decide_false, tTr_e, vTru_non, vTru_bl, vTru_int, vTru_str, vTru_tup, vTru_ref, oTru_l, oTru_d, tBl_e, vBl_bl, eNeg_e, vNeg_int, eChain_e, eAnd_e, eOr_e, eNot_e, oSome_e, vSome_int, gAdd_ii, gAdd_ss, gAdd_tt, gAdd_rr, gI_ii, gI0_ii, gMulA_ii, gMulA_ri, gMulA_ti, gLt_ii, gLt_ss, gLt2_ii, gLt2_ss, eTab_e, vTab_s, eGet2_e, vGetO_r, vGet2_s, gIs_n, gIs_b, isNon_n, isNon_b, isNon_i, isNon_s, isNon_t, isNon_r, gIx_r, oIx_li, oIx_ds, oIx_di, gIx_ti, gIx_fi, gIx_si, gSl_t, gSl_s, gSl_f, gSl_r, gIn_ss, gIn_t, gIn_r, oIn_l, oIn_ds, gLen_s, gLen_t, gLen_f, gLen_r, oLen_l, oLen_d, gAbs_i, gMax2_ii, gMin2_ii, gInt1_i, gInt1_b, gList_t, gList_f, gList_r, gTuple_t, gTuple_f, gTuple_r, gSum_r, gAll_r, gIsi_x, tyD_n, tyD_b, tyD_i, tyD_s, tyD_t, tyD_f, tyD_r, oTy_l, oTy_d, tyM_s, tyM_r, oTyM_l, oTyM_d, gAppend_r, gPop0_r, gPopAt_r, gClear_r, gReverse_r, gJoin_r, gUpper_s, gStr_i, gSorted_r, iSeq_e, vSeq_r, vSeq_f, vSeq_t, vSeq_s, iRange1_e, vRng1_i, iRange2_e, vRng2_i, iZipD_e, vZip_r, vZip_t, iEnumD_e, vEnum_r, nTupL_t, nTupL_r, nCons_c, nNil_n, sSub_e, vPut_r, oPut_ds, oPut_di, oPut_l, l_wdays_right_4]
        refine seq_i ?_
        simp (config := {implicitDefEqProofs := false, proj := false}) only [nx_mk, rt_mk, bk_mk, ct_mk, eVar, eC, eOp, eIf, eTup, eLst, eDict0, eDict, eSl, oNo, eCall, eCB, eM, eLc, eIsi2, aNil, aCons, pNil, pCons, tAndD, tOrD, tNotD, tsYes, gMns, gMod, gFdiv, gPow, gLe, gGt, gGe, gEq_ii, gEq_ss, gEq_bb, gEq_nn, gEq_ni, gEq_in, gEq_ns, gEq_sn, gEq_si, gEq_is, sAsg, nName, sRet, sRetN, sExpr, sIf, sNext, sBreak, sCont, sFor, getS, setS, wipeS, endsD, asKeys, toKey, List.length_cons, List.length_nil, List.set_cons_zero, List.set_cons_succ, List.set_nil, Nat.zero_add, Nat.reduceAdd, Option.some.injEq, exists_and_left, exists_eq_left', exists_eq_left, id_eq, if_true, if_false, ite_true, ite_false, Bool.not_true, Bool.not_false, Bool.false_eq_true, not_false_eq_true, not_true_eq_false, reduceCtorEq, true_and, and_true, ne_eq, decide_eq_true_eq, isiN, isiCls, List.mem_cons, String.reduceEq, String.reduceBEq, or_true, true_or, or_false, false_or, Bool.or_true, Bool.true_or, Bool.false_or, Bool.or_false, Bool.and_false, Bool.false_and, Bool.true_and, Bool.and_true, beq_self_eq_true, decide_true, decide_false, tTr_e, vTru_non, vTru_bl, vTru_int, vTru_str, vTru_tup, vTru_ref, oTru_l, oTru_d, tBl_e, vBl_bl, eNeg_e, vNeg_int, eChain_e, eAnd_e, eOr_e, eNot_e, oSome_e, vSome_int, gAdd_ii, gAdd_ss, gAdd_tt, gAdd_rr, gI_ii, gI0_ii, gMulA_ii, gMulA_ri, gMulA_ti, gLt_ii, gLt_ss, gLt2_ii, gLt2_ss, eTab_e, vTab_s, eGet2_e, vGetO_r, vGet2_s, gIs_n, gIs_b, isNon_n, isNon_b, isNon_i, isNon_s, isNon_t, isNon_r, gIx_r, oIx_li, oIx_ds, oIx_di, gIx_ti, gIx_fi, gIx_si, gSl_t, gSl_s, gSl_f, gSl_r, gIn_ss, gIn_t, gIn_r, oIn_l, oIn_ds, gLen_s, gLen_t, gLen_f, gLen_r, oLen_l, oLen_d, gAbs_i, gMax2_ii, gMin2_ii, gInt1_i, gInt1_b, gList_t, gList_f, gList_r, gTuple_t, gTuple_f, gTuple_r, gSum_r, gAll_r, gIsi_x, tyD_n, tyD_b, tyD_i, tyD_s, tyD_t, tyD_f, tyD_r, oTy_l, oTy_d, tyM_s, tyM_r, oTyM_l, oTyM_d, gAppend_r, gPop0_r, gPopAt_r, gClear_r, gReverse_r, gJoin_r, gUpper_s, gStr_i, gSorted_r, iSeq_e, vSeq_r, vSeq_f, vSeq_t, vSeq_s, iRange1_e, vRng1_i, iRange2_e, vRng2_i, iZipD_e, vZip_r, vZip_t, iEnumD_e, vEnum_r, nTupL_t, nTupL_r, nCons_c, nNil_n, sSub_e, vPut_r, oPut_ds, oPut_di, oPut_l]
        refine upto_spec hl fun S1 g1 => seq_i ?_
        simp (config := {implicitDefEqProofs := false, proj := false}) only [nx_mk, rt_mk, bk_mk, ct_mk, eVar, eC, eOp, eIf, eTup, eLst, eDict0, eDict, eSl, oNo, eCall, eCB, eM, eLc, eIsi2, aNil, aCons, pNil, pCons, tAndD, tOrD, tNotD, tsYes, gMns, gMod, gFdiv, gPow, gLe, gGt, gGe, gEq_ii, gEq_ss, gEq_bb, gEq_nn, gEq_ni, gEq_in, gEq_ns, gEq_sn, gEq_si, gEq_is, sAsg, nName, sRet, sRetN, sExpr, sIf, sNext, sBreak, sCont, sFor, getS, setS, wipeS, endsD, asKeys, toKey, List.length_cons, List.length_nil, List.set_cons_zero, List.set_cons_succ, List.set_nil, Nat.zero_add, Nat.reduceAdd, Option.some.injEq, exists_and_left, exists_eq_left', exists_eq_left, id_eq, if_true, if_false, ite_true, ite_false, Bool.not_true, Bool.not_false, Bool.false_eq_true, not_false_eq_true, not_true_eq_false, reduceCtorEq, true_and, and_true, ne_eq, decide_eq_true_eq, isiN, isiCls, List.mem_cons, String.reduceEq, String.reduceBEq, or_true, true_or, or_false, false_or, Bool.or_true, Bool.true_or, Bool.false_or, Bool.or_false, Bool.and_false, Bool.false_and, Bool.true_and, Bool.and_true, beq_self_eq_true, decide_true, decide_false, tTr_e, vTru_non, vTru_bl, vTru_int, vTru_str, vTru_tup, vTru_ref, oTru_l, oTru_d, tBl_e, vBl_bl, eNeg_e, vNeg_int, eChain_e, eAnd_e, eOr_e, eNot_e, oSome_e, vSome_int, gAdd_ii, gAdd_ss, gAdd_tt, gAdd_rr, gI_ii, gI0_ii, gMulA_ii, gMulA_ri, gMulA_ti, gLt_ii, gLt_ss, gLt2_ii, gLt2_ss, eTab_e, vTab_s, eGet2_e, vGetO_r, vGet2_s, gIs_n, gIs_b, isNon_n, isNon_b, isNon_i, isNon_s, isNon_t, isNon_r, gIx_r, oIx_li, oIx_ds, oIx_di, gIx_ti, gIx_fi, gIx_si, gSl_t, gSl_s, gSl_f, gSl_r, gIn_ss, gIn_t, gIn_r, oIn_l, oIn_ds, gLen_s, gLen_t, gLen_f, gLen_r, oLen_l, oLen_d, gAbs_i, gMax2_ii, gMin2_ii, gInt1_i, gInt1_b, gList_t, gList_f, gList_r, gTuple_t, gTuple_f, gTuple_r, gSum_r, gAll_r, gIsi_x, tyD_n, tyD_b, tyD_i, tyD_s, tyD_t, tyD_f, tyD_r, oTy_l, oTy_d, tyM_s, tyM_r, oTyM_l, oTyM_d, gAppend_r, gPop0_r, gPopAt_r, gClear_r, gReverse_r, gJoin_r, gUpper_s, gStr_i, gSorted_r, iSeq_e, vSeq_r, vSeq_f, vSeq_t, vSeq_s, iRange1_e, vRng1_i, iRange2_e, vRng2_i, iZipD_e, vZip_r, vZip_t, iEnumD_e, vEnum_r, nTupL_t, nTupL_r, nCons_c, nNil_n, sSub_e, vPut_r, oPut_ds, oPut_di, oPut_l]
        refine ⟨_, atI_nat (j := 1) rfl, ?_⟩
        refine lcL_filter (fun d => d) (pday day) _ trivial (by rw [List.length_map]; exact small_line (by omega)) ?_ (fun y hy T G h1 h2 => ?_)
        · intro p hp
          simp (config := {implicitDefEqProofs := false, proj := false}) only [nx_mk, rt_mk, bk_mk, ct_mk, eVar, eC, eOp, eIf, eTup, eLst, eDict0, eDict, eSl, oNo, eCall, eCB, eM, eLc, eIsi2, aNil, aCons, pNil, pCons, tAndD, tOrD, tNotD, tsYes, gMns, gMod, gFdiv, gPow, gLe, gGt, gGe, gEq_ii, gEq_ss, gEq_bb, gEq_nn, gEq_ni, gEq_in, gEq_ns, gEq_sn, gEq_si, gEq_is, sAsg, nName, sRet, sRetN, sExpr, sIf, sNext, sBreak, sCont, sFor, getS, setS, wipeS, endsD, asKeys, toKey, List.length_cons, List.length_nil, List.set_cons_zero, List.set_cons_succ, List.set_nil, Nat.zero_add, Nat.reduceAdd, Option.some.injEq, exists_and_left, exists_eq_left', exists_eq_left, id_eq, if_true, if_false, ite_true, ite_false, Bool.not_true, Bool.not_false, Bool.false_eq_true, not_false_eq_true, not_true_eq_false, reduceCtorEq, true_and, and_true, ne_eq, decide_eq_true_eq, isiN, isiCls, List.mem_cons, String.reduceEq, String.reduceBEq, or_true, true_or, or_false, false_or, Bool.or_true, Bool.true_or, Bool.false_or, Bool.or_false, Bool.and_false, Bool.false_and, Bool.true_and, Bool.and_true, beq_self_eq_true, decide_true, decide_false, tTr_e, vTru_non, vTru_bl, vTru_int, vTru_str, vTru_tup, vTru_ref, oTru_l, oTru_d, tBl_e, vBl_bl, eNeg_e, vNeg_int, eChain_e, eAnd_e, eOr_e, eNot_e, oSome_e, vSome_int, gAdd_ii, gAdd_ss, gAdd_tt, gAdd_rr, gI_ii, gI0_ii, gMulA_ii, gMulA_ri, gMulA_ti, gLt_ii, gLt_ss, gLt2_ii, gLt2_ss, eTab_e, vTab_s, eGet2_e, vGetO_r, vGet2_s, gIs_n, gIs_b, isNon_n, isNon_b, isNon_i, isNon_s, isNon_t, isNon_r, gIx_r, oIx_li, oIx_ds, oIx_di, gIx_ti, gIx_fi, gIx_si, gSl_t, gSl_s, gSl_f, gSl_r, gIn_ss, gIn_t, gIn_r, oIn_l, oIn_ds, gLen_s, gLen_t, gLen_f, gLen_r, oLen_l, oLen_d, gAbs_i, gMax2_ii, gMin2_ii, gInt1_i, gInt1_b, gList_t, gList_f, gList_r, gTuple_t, gTuple_f, gTuple_r, gSum_r, gAll_r, gIsi_x, tyD_n, tyD_b, tyD_i, tyD_s, tyD_t, tyD_f, tyD_r, oTy_l, oTy_d, tyM_s, tyM_r, oTyM_l, oTyM_d, gAppend_r, gPop0_r, gPopAt_r, gClear_r, gReverse_r, gJoin_r, gUpper_s, gStr_i, gSorted_r, iSeq_e, vSeq_r, vSeq_f, vSeq_t, vSeq_s, iRange1_e, vRng1_i, iRange2_e, vRng2_i, iZipD_e, vZip_r, vZip_t, iEnumD_e, vEnum_r, nTupL_t, nTupL_r, nCons_c, nNil_n, sSub_e, vPut_r, oPut_ds, oPut_di, oPut_l, updS_same, t_wdays_right_7]
          rw [if_neg (by simp [cnt])]
          exact hN _ _ ⟨_, _, _, _, rfl, (g.trans g1).trans (.new hp), (Gr.new hp) _ _ (g1 _ _ hb)⟩
        · obtain ⟨r, hr, rfl⟩ := List.mem_map.mp hy
          simp (config := {implicitDefEqProofs := false, proj := false}) only [nx_mk, rt_mk, bk_mk, ct_mk, eVar, eC, eOp, eIf, eTup, eLst, eDict0, eDict, eSl, oNo, eCall, eCB, eM, eLc, eIsi2, aNil, aCons, pNil, pCons, tAndD, tOrD, tNotD, tsYes, gMns, gMod, gFdiv, gPow, gLe, gGt, gGe, gEq_ii, gEq_ss, gEq_bb, gEq_nn, gEq_ni, gEq_in, gEq_ns, gEq_sn, gEq_si, gEq_is, sAsg, nName, sRet, sRetN, sExpr, sIf, sNext, sBreak, sCont, sFor, getS, setS, wipeS, endsD, asKeys, toKey, List.length_cons, List.length_nil, List.set_cons_zero, List.set_cons_succ, List.set_nil, Nat.zero_add, Nat.reduceAdd, Option.some.injEq, exists_and_left, exists_eq_left', exists_eq_left, id_eq, if_true, if_false, ite_true, ite_false, Bool.not_true, Bool.not_false, Bool.false_eq_true, not_false_eq_true, not_true_eq_false, reduceCtorEq, true_and, and_true, ne_eq, decide_eq_true_eq, isiN, isiCls, List.mem_cons, String.reduceEq, String.reduceBEq, or_true, true_or, or_false, false_or, Bool.or_true, Bool.true_or, Bool.false_or, Bool.or_false, Bool.and_false, Bool.false_and, Bool.true_and, Bool.and_true, beq_self_eq_true, decide_true, decide_false, tTr_e, vTru_non, vTru_bl, vTru_int, vTru_str, vTru_tup, vTru_ref, oTru_l, oTru_d, tBl_e, vBl_bl, eNeg_e, vNeg_int, eChain_e, eAnd_e, eOr_e, eNot_e, oSome_e, vSome_int, gAdd_ii, gAdd_ss, gAdd_tt, gAdd_rr, gI_ii, gI0_ii, gMulA_ii, gMulA_ri, gMulA_ti, gLt_ii, gLt_ss, gLt2_ii, gLt2_ss, eTab_e, vTab_s, eGet2_e, vGetO_r, vGet2_s, gIs_n, gIs_b, isNon_n, isNon_b, isNon_i, isNon_s, isNon_t, isNon_r, gIx_r, oIx_li, oIx_ds, oIx_di, gIx_ti, gIx_fi, gIx_si, gSl_t, gSl_s, gSl_f, gSl_r, gIn_ss, gIn_t, gIn_r, oIn_l, oIn_ds, gLen_s, gLen_t, gLen_f, gLen_r, oLen_l, oLen_d, gAbs_i, gMax2_ii, gMin2_ii, gInt1_i, gInt1_b, gList_t, gList_f, gList_r, gTuple_t, gTuple_f, gTuple_r, gSum_r, gAll_r, gIsi_x, tyD_n, tyD_b, tyD_i, tyD_s, tyD_t, tyD_f, tyD_r, oTy_l, oTy_d, tyM_s, tyM_r, oTyM_l, oTyM_d, gAppend_r, gPop0_r, gPopAt_r, gClear_r, gReverse_r, gJoin_r, gUpper_s, gStr_i, gSorted_r, iSeq_e, vSeq_r, vSeq_f, vSeq_t, vSeq_s, iRange1_e, vRng1_i, iRange2_e, vRng2_i, iZipD_e, vZip_r, vZip_t, iEnumD_e, vEnum_r, nTupL_t, nTupL_r, nCons_c, nNil_n, sSub_e, vPut_r, oPut_ds, oPut_di, oPut_l, c_wdays_right_6]
          refine ⟨_, atI_nat (j := 2) rfl, ?_⟩
          simp (config := {implicitDefEqProofs := false, proj := false}) only [nx_mk, rt_mk, bk_mk, ct_mk, eVar, eC, eOp, eIf, eTup, eLst, eDict0, eDict, eSl, oNo, eCall, eCB, eM, eLc, eIsi2, aNil, aCons, pNil, pCons, tAndD, tOrD, tNotD, tsYes, gMns, gMod, gFdiv, gPow, gLe, gGt, gGe, gEq_ii, gEq_ss, gEq_bb, gEq_nn, gEq_ni, gEq_in, gEq_ns, gEq_sn, gEq_si, gEq_is, sAsg, nName, sRet, sRetN, sExpr, sIf, sNext, sBreak, sCont, sFor, getS, setS, wipeS, endsD, asKeys, toKey, List.length_cons, List.length_nil, List.set_cons_zero, List.set_cons_succ, List.set_nil, Nat.zero_add, Nat.reduceAdd, Option.some.injEq, exists_and_left, exists_eq_left', exists_eq_left, id_eq, if_true, if_false, ite_true, ite_false, Bool.not_true, Bool.not_false, Bool.false_eq_true, not_false_eq_true, not_true_eq_false, reduceCtorEq, true_and, and_true, ne_eq, decide_eq_true_eq, isiN, isiCls, List.mem_cons, String.reduceEq, String.reduceBEq, or_true, true_or, or_false, false_or, Bool.or_true, Bool.true_or, Bool.false_or, Bool.or_false, Bool.and_false, Bool.false_and, Bool.true_and, Bool.and_true, beq_self_eq_true, decide_true, decide_false, tTr_e, vTru_non, vTru_bl, vTru_int, vTru_str, vTru_tup, vTru_ref, oTru_l, oTru_d, tBl_e, vBl_bl, eNeg_e, vNeg_int, eChain_e, eAnd_e, eOr_e, eNot_e, oSome_e, vSome_int, gAdd_ii, gAdd_ss, gAdd_tt, gAdd_rr, gI_ii, gI0_ii, gMulA_ii, gMulA_ri, gMulA_ti, gLt_ii, gLt_ss, gLt2_ii, gLt2_ss, eTab_e, vTab_s, eGet2_e, vGetO_r, vGet2_s, gIs_n, gIs_b, isNon_n, isNon_b, isNon_i, isNon_s, isNon_t, isNon_r, gIx_r, oIx_li, oIx_ds, oIx_di, gIx_ti, gIx_fi, gIx_si, gSl_t, gSl_s, gSl_f, gSl_r, gIn_ss, gIn_t, gIn_r, oIn_l, oIn_ds, gLen_s, gLen_t, gLen_f, gLen_r, oLen_l, oLen_d, gAbs_i, gMax2_ii, gMin2_ii, gInt1_i, gInt1_b, gList_t, gList_f, gList_r, gTuple_t, gTuple_f, gTuple_r, gSum_r, gAll_r, gIsi_x, tyD_n, tyD_b, tyD_i, tyD_s, tyD_t, tyD_f, tyD_r, oTy_l, oTy_d, tyM_s, tyM_r, oTyM_l, oTyM_d, gAppend_r, gPop0_r, gPopAt_r, gClear_r, gReverse_r, gJoin_r, gUpper_s, gStr_i, gSorted_r, iSeq_e, vSeq_r, vSeq_f, vSeq_t, vSeq_s, iRange1_e, vRng1_i, iRange2_e, vRng2_i, iZipD_e, vZip_r, vZip_t, iEnumD_e, vEnum_r, nTupL_t, nTupL_r, nCons_c, nNil_n, sSub_e, vPut_r, oPut_ds, oPut_di, oPut_l]
          by_cases hc : r.d ≤ day
          · rw [if_pos hc]
            exact h1 (decide_eq_true hc)
          · rw [if_neg hc]
            exact h2 (decide_eq_false hc)
    case fin =>
      obtain ⟨u, v, w, v2, rfl, g, hb⟩ := hi
      simp (config := {implicitDefEqProofs := false, proj := false}) only [nx_mk, rt_mk, bk_mk, ct_mk, eVar, eC, eOp, eIf, eTup, eLst, eDict0, eDict, eSl, oNo, eCall, eCB, eM, eLc, eIsi2, aNil, aCons, pNil, pCons, tAndD, tOrD, tNotD, tsYes, gMns, gMod, gFdiv, gPow, gLe, gGt, gGe, gEq_ii, gEq_ss, gEq_bb, gEq_nn, gEq_ni, gEq_in, gEq_ns, gEq_sn, gEq_si, gEq_is, sAsg, nName, sRet, sRetN, sExpr, sIf, sNext, sBreak, sCont, sFor, getS, setS, wipeS, endsD, asKeys, toKey, List.length_cons, List.length_nil, List.set_cons_zero, List.set_cons_succ, List.set_nil, Nat.zero_add, Nat.reduceAdd, Option.some.injEq, exists_and_left, exists_eq_left', exists_eq_left, id_eq, if_true, if_false, ite_true, ite_false, Bool.not_true, Bool.not_false, Bool.false_eq_true, not_false_eq_true, not_true_eq_false, reduceCtorEq, true_and, and_true, ne_eq, decide_eq_true_eq, isiN, isiCls, List.mem_cons, String.reduceEq, String.reduceBEq, or_true, true_or, or_false, false_or, Bool.or_true, Bool.true_or, Bool.false_or, Bool.or_false, Bool.and_false, Bool.false_and, Bool.true_and, Bool.and_true, beq_self_eq_true, decide_true, decide_false, tTr_e, vTru_non, vTru_bl, vTru_int, vTru_str, vTru_tup, vTru_ref, oTru_l, oTru_d, tBl_e, vBl_bl, eNeg_e, vNeg_int, eChain_e, eAnd_e, eOr_e, eNot_e, oSome_e, vSome_int, gAdd_ii, gAdd_ss, gAdd_tt, gAdd_rr, gI_ii, gI0_ii, gMulA_ii, gMulA_ri, gMulA_ti, gLt_ii, gLt_ss, gLt2_ii, gLt2_ss, eTab_e, vTab_s, eGet2_e, vGetO_r, vGet2_s, gIs_n, gIs_b, isNon_n, isNon_b, isNon_i, isNon_s, isNon_t, isNon_r, gIx_r, oIx_li, oIx_ds, oIx_di, gIx_ti, gIx_fi, gIx_si, gSl_t, gSl_s, gSl_f, gSl_r, gIn_ss, gIn_t, gIn_r, oIn_l, oIn_ds, gLen_s, gLen_t, gLen_f, gLen_r, oLen_l, oLen_d, gAbs_i, gMax2_ii, gMin2_ii, gInt1_i, gInt1_b, gList_t, gList_f, gList_r, gTuple_t, gTuple_f, gTuple_r, gSum_r, gAll_r, gIsi_x, tyD_n, tyD_b, tyD_i, tyD_s, tyD_t, tyD_f, tyD_r, oTy_l, oTy_d, tyM_s, tyM_r, oTyM_l, oTyM_d, gAppend_r, gPop0_r, gPopAt_r, gClear_r, gReverse_r, gJoin_r, gUpper_s, gStr_i, gSorted_r, iSeq_e, vSeq_r, vSeq_f, vSeq_t, vSeq_s, iRange1_e, vRng1_i, iRange2_e, vRng2_i, iZipD_e, vZip_r, vZip_t, iEnumD_e, vEnum_r, nTupL_t, nTupL_r, nCons_c, nNil_n, sSub_e, vPut_r, oPut_ds, oPut_di, oPut_l, t_wdays_right_9]
      exact q _ g
end LW
/-! names: the plain part -/
namespace LW
open PySem L2 DL
def wordA (t k : Nat) : List Nat := [97 + (t + 7 * k) % 26, 97 + (t + k / 26) % 26]
def bw (t r : Nat) : List Nat := if h : r = 0 then [] else bw t ((r - 1) / 2) ++ [97 + (t + 9 * (r % 2)) % 26]
termination_by r
decreasing_by omega
theorem bw_zero (t : Nat) : bw t 0 = [] := by rw [bw]; simp
theorem bw_pos {t r : Nat} (h : 0 < r) : bw t r = bw t ((r - 1) / 2) ++ [97 + (t + 9 * (r % 2)) % 26] := by
  rw [bw]
  rw [dif_neg (by omega)]
theorem bw_len (t : Nat) : ∀ r, (bw t r).length ≤ r := by
  intro r
  induction r using Nat.strongRecOn with
  | _ r ih =>
    by_cases h : r = 0
    · subst h; rw [bw_zero]; simp
    · rw [bw_pos (by omega), List.length_append]
      have := ih ((r - 1) / 2) (by omega)
      simp
      omega
theorem bw_inj (t : Nat) : ∀ r s, bw t r = bw t s → r = s := by
  intro r
  induction r using Nat.strongRecOn with
  | _ r ih =>
    intro s e
    by_cases h : r = 0
    · subst h
      by_cases h2 : s = 0
      · exact h2.symm
      · rw [bw_zero, bw_pos (r := s) (by omega)] at e
        simp at e
    · by_cases h2 : s = 0
      · subst h2
        rw [bw_zero, bw_pos (r := r) (by omega)] at e
        simp at e
      · rw [bw_pos (r := r) (by omega), bw_pos (r := s) (by omega)] at e
        obtain ⟨e1, e2⟩ := List.append_inj' e rfl
        have e3 := ih _ (by omega) _ e1
        have e4 : 97 + (t + 9 * (r % 2)) % 26 = 97 + (t + 9 * (s % 2)) % 26 := by simpa using e2
        omega
def nameL (way : Int) (B : List Nat) (sp t k : Nat) : List Nat := if way = 1 then bw t (k + 1) else B.take sp ++ wordA t k ++ B.drop sp
theorem nameL_inj {way : Int} {B : List Nat} {sp t k j : Nat} (hk : k < 182) (hj : j < 182) (e : nameL way B sp t k = nameL way B sp t j) : k = j := by
  unfold nameL at e
  by_cases h : way = 1
  · rw [if_pos h, if_pos h] at e
    have := bw_inj t _ _ e
    omega
  · rw [if_neg h, if_neg h] at e
    have e1 := List.append_cancel_right e
    have e2 := List.append_cancel_left e1
    unfold wordA at e2
    simp only [List.cons.injEq, and_true] at e2
    obtain ⟨a, b⟩ := e2
    have h2 : k / 26 = j / 26 := by
      have h3 : k / 26 < 7 := by omega
      have h4 : j / 26 < 7 := by omega
      clear a e e1
      generalize k / 26 = x at b h3
      generalize j / 26 = y at b h4
      omega
    have h1 : k % 26 = j % 26 := by
      clear b h2 e e1
      omega
    omega
theorem nameL_len {way : Int} {B : List Nat} {sp t k : Nat} (hB : B.length ≤ 6) : (nameL way B sp t k).length ≤ k + 9 := by
  unfold nameL
  by_cases h : way = 1
  · rw [if_pos h]
    have := bw_len t (k + 1)
    omega
  · rw [if_neg h]
    simp only [List.length_append, List.length_take, List.length_drop]
    unfold wordA
    simp only [List.length_cons, List.length_nil]
    omega
def ofL (l : List Nat) : Str := ⟨l.toArray⟩
theorem ofL_inj {a b : List Nat} (h : ofL a = ofL b) : a = b := by
  unfold ofL at h
  simpa using h
def nameS (way : Int) (B : List Nat) (sp t k : Nat) : Str := ofL (nameL way B sp t k)
def namesS (way : Int) (B : List Nat) (sp t n : Nat) : List Str := (List.range n).map (nameS way B sp t)
theorem names_nodup {way : Int} {B : List Nat} {sp t n : Nat} (h : n ≤ 182) : (namesS way B sp t n).Nodup := by
  unfold namesS
  rw [List.nodup_iff_pairwise_ne, List.pairwise_map]
  refine List.Pairwise.imp_of_mem (fun ha hb hab e => hab ?_) List.nodup_range
  rw [List.mem_range] at ha hb
  exact nameL_inj (by omega) (by omega) (ofL_inj e)
/-- a term put in where it isn't yet -/
theorem set_nodup {xs : List Str} {i : Nat} {z : Str} (h : xs.Nodup) (hz : z ∉ xs) : (xs.set i z).Nodup := by
  induction xs generalizing i with
  | nil => simpa using h
  | cons x r ih =>
    rw [List.nodup_cons] at h
    rw [List.mem_cons, not_or] at hz
    cases i with
    | zero => rw [List.set_cons_zero, List.nodup_cons]; exact ⟨hz.2, h.2⟩
    | succ i =>
      rw [List.set_cons_succ, List.nodup_cons]
      refine ⟨fun hm => ?_, ih h.2 hz.2⟩
      rcases List.mem_or_eq_of_mem_set hm with hm | hm
      · exact h.1 hm
      · exact hz.1 hm.symm
end LW
/-! names: the walk -/
namespace LW
open PySem L2 DL
def abc : Str := "abcdefghijklmnopqrstuvwxyz"
theorem abc_len : abc.length = 26 := by decide +kernel
theorem abc_get : ∀ j : Fin 26, abc.cps.toList[j.val]? = some (97 + j.val) := by decide +kernel
theorem abc_at {i : Int} {j : Nat} (e : i = (j : Nat)) (h : j < 26) : atI abc.cps.toList i = some (97 + j) := by
  subst e
  exact atI_nat (abc_get ⟨j, h⟩)
theorem ofL_app (a b : List Nat) : ofL a ++ ofL b = ofL (a ++ b) := by
  show (⟨a.toArray ++ b.toArray⟩ : Str) = ⟨(a ++ b).toArray⟩
  simp
theorem ofL_len (a : List Nat) : (ofL a).length = a.length := by
  show (a.toArray).size = _
  simp
theorem ofL_one (c : Nat) : (⟨#[c]⟩ : Str) = ofL [c] := rfl
theorem ofL_of (z : Str) : z = ofL z.cps.toList := by
  unfold ofL
  simp
theorem cut_to {z : Str} {s : Nat} (h : s ≤ z.length) : cutS z none (some (s : Int)) = ofL (z.cps.toList.take s) := by
  unfold cutS
  rw [HT.sIx_none, show HT.sIx z.length z.length (some (s : Int)) = min s z.length from HT.sIx_nat _ _ s]
  rw [List.drop_zero, Nat.sub_zero, Nat.min_eq_left h]
  rfl
theorem cut_from {z : Str} {s : Nat} (h : s ≤ z.length) : cutS z (some (s : Int)) none = ofL (z.cps.toList.drop s) := by
  unfold cutS
  rw [HT.sIx_none, show HT.sIx z.length 0 (some (s : Int)) = min s z.length from HT.sIx_nat _ _ s]
  rw [Nat.min_eq_left h]
  unfold ofL
  rw [List.take_of_length_le (by rw [List.length_drop, Array.length_toList]; exact Nat.le_refl _)]
end LW
namespace LW
open PySem L2 DL
theorem while_i {fc : DT} {body : DS} {D0 : DEnds} {σ : DL.Env} {S : Sto} (W : Nat → DL.Env → Sto → Prop) (m : Nat) (h0 : W m σ S)
    (turn : ∀ m σ S, W m σ S → ∀ N : DL.Env → Sto → Prop, (∀ m2 σ2 S2, m2 < m → W m2 σ2 S2 → N σ2 S2) → fc σ S fun k S1 => if k = true then body ⟨N, D0.rt, D0.nx, N⟩ σ S1 else D0.nx σ S1) : sWhile fc body D0 σ S :=
  ⟨W, ⟨m, h0⟩, fun m σ S h => turn m σ S h _ fun m2 σ2 S2 hm hw => ⟨m2, hm, hw⟩⟩
theorem name_turn {p a : Addr} {many way : Int} {B : Str} {t sp k : Nat} {u9 u10 u11 : Option D} {S : Sto} {xs : List D} {D0 : DEnds} (hk : k < 182) (ht : t < 26) (hB : B.length ≤ 6) (hs : sp ≤ B.length) (ha : S a = some (.lst xs)) (hx : xs.length ≤ 200)
    (q : ∀ u11, D0.nx [some (.ref p), some (.int many), some (.str abc), some (.int way), some (.int t), some (.str B), some (.int sp), some (.ref a), some (.int (k : Nat)), u9, some (.str (nameS way B.cps.toList sp t k)), u11] (updS S a (.lst (xs ++ [.str (nameS way B.cps.toList sp t k)])))) :
    l_wnames_7 D0 [some (.ref p), some (.int many), some (.str abc), some (.int way), some (.int t), some (.str B), some (.int sp), some (.ref a), some (.int (k : Nat)), u9, u10, u11] S := by
  have hl : abc.length ≤ sizeLine := by rw [abc_len]; exact small_line (by omega)
  refine seq_i ?_
  simp (config := {implicitDefEqProofs := false, proj := false}) only [nx_mk, rt_mk, bk_mk, ct_mk, eVar, eC, eOp, eIf, eTup, eLst, eDict0, eDict, eSl, oNo, eCall, eCB, eM, eLc, eIsi2, aNil, aCons, pNil, pCons, tAndD, tOrD, tNotD, tsYes, gMns, gMod, gFdiv, gPow, gLe, gGt, gGe, gEq_ii, gEq_ss, gEq_bb, gEq_nn, gEq_ni, gEq_in, gEq_ns, gEq_sn, gEq_si, gEq_is, sAsg, nName, sRet, sRetN, sExpr, sIf, sNext, sBreak, sCont, sFor, getS, setS, wipeS, endsD, asKeys, toKey, List.length_cons, List.length_nil, List.set_cons_zero, List.set_cons_succ, List.set_nil, Nat.zero_add, Nat.reduceAdd, Option.some.injEq, exists_and_left, exists_eq_left', exists_eq_left, id_eq, if_true, if_false, ite_true, ite_false, Bool.not_true, Bool.not_false, Bool.false_eq_true, not_false_eq_true, not_true_eq_false, reduceCtorEq, true_and, and_true, ne_eq, decide_eq_true_eq, isiN, isiCls, List.mem_cons, String.reduceEq, String.reduceBEq, or_true, true_or, or_false, false_or, Bool.or_true, Bool.true_or, Bool.false_or, Bool.or_false, Bool.and_false, Bool.false_and, Bool.true_and, Bool.and_true, beq_self_eq_true, decide_true, decide_false, tTr_e, vTru_non, vTru_bl, vTru_int, vTru_str, vTru_tup, vTru_ref, oTru_l, oTru_d, tBl_e, vBl_bl, eNeg_e, vNeg_int, eChain_e, eAnd_e, eOr_e, eNot_e, oSome_e, vSome_int, gAdd_ii, gAdd_ss, gAdd_tt, gAdd_rr, gI_ii, gI0_ii, gMulA_ii, gMulA_ri, gMulA_ti, gLt_ii, gLt_ss, gLt2_ii, gLt2_ss, eTab_e, vTab_s, eGet2_e, vGetO_r, vGet2_s, gIs_n, gIs_b, isNon_n, isNon_b, isNon_i, isNon_s, isNon_t, isNon_r, gIx_r, oIx_li, oIx_ds, oIx_di, gIx_ti, gIx_fi, gIx_si, gSl_t, gSl_s, gSl_f, gSl_r, gIn_ss, gIn_t, gIn_r, oIn_l, oIn_ds, gLen_s, gLen_t, gLen_f, gLen_r, oLen_l, oLen_d, gAbs_i, gMax2_ii, gMin2_ii, gInt1_i, gInt1_b, gList_t, gList_f, gList_r, gTuple_t, gTuple_f, gTuple_r, gSum_r, gAll_r, gIsi_x, tyD_n, tyD_b, tyD_i, tyD_s, tyD_t, tyD_f, tyD_r, oTy_l, oTy_d, tyM_s, tyM_r, oTyM_l, oTyM_d, gAppend_r, gPop0_r, gPopAt_r, gClear_r, gReverse_r, gJoin_r, gUpper_s, gStr_i, gSorted_r, iSeq_e, vSeq_r, vSeq_f, vSeq_t, vSeq_s, iRange1_e, vRng1_i, iRange2_e, vRng2_i, iZipD_e, vZip_r, vZip_t, iEnumD_e, vEnum_r, nTupL_t, nTupL_r, nCons_c, nNil_n, sSub_e, vPut_r, oPut_ds, oPut_di, oPut_l]
  refine ⟨mulS (by omega) (by omega) (by omega) (by omega), by decide, hl, _, abc_at (j := (t + 7 * k) % 26) (by omega) (by omega), fdivS (by decide) (by decide), by decide, hl, _, abc_at (j := (t + k / 26) % 26) (by omega) (by omega), small_line (show (1 : Nat) + 1 ≤ 100000 by decide), ?_⟩
  refine seq_i ?_
  rw [ofL_one, ofL_one, ofL_app]
  simp (config := {implicitDefEqProofs := false, proj := false}) only [nx_mk, rt_mk, bk_mk, ct_mk, eVar, eC, eOp, eIf, eTup, eLst, eDict0, eDict, eSl, oNo, eCall, eCB, eM, eLc, eIsi2, aNil, aCons, pNil, pCons, tAndD, tOrD, tNotD, tsYes, gMns, gMod, gFdiv, gPow, gLe, gGt, gGe, gEq_ii, gEq_ss, gEq_bb, gEq_nn, gEq_ni, gEq_in, gEq_ns, gEq_sn, gEq_si, gEq_is, sAsg, nName, sRet, sRetN, sExpr, sIf, sNext, sBreak, sCont, sFor, getS, setS, wipeS, endsD, asKeys, toKey, List.length_cons, List.length_nil, List.set_cons_zero, List.set_cons_succ, List.set_nil, Nat.zero_add, Nat.reduceAdd, Option.some.injEq, exists_and_left, exists_eq_left', exists_eq_left, id_eq, if_true, if_false, ite_true, ite_false, Bool.not_true, Bool.not_false, Bool.false_eq_true, not_false_eq_true, not_true_eq_false, reduceCtorEq, true_and, and_true, ne_eq, decide_eq_true_eq, isiN, isiCls, List.mem_cons, String.reduceEq, String.reduceBEq, or_true, true_or, or_false, false_or, Bool.or_true, Bool.true_or, Bool.false_or, Bool.or_false, Bool.and_false, Bool.false_and, Bool.true_and, Bool.and_true, beq_self_eq_true, decide_true, decide_false, tTr_e, vTru_non, vTru_bl, vTru_int, vTru_str, vTru_tup, vTru_ref, oTru_l, oTru_d, tBl_e, vBl_bl, eNeg_e, vNeg_int, eChain_e, eAnd_e, eOr_e, eNot_e, oSome_e, vSome_int, gAdd_ii, gAdd_ss, gAdd_tt, gAdd_rr, gI_ii, gI0_ii, gMulA_ii, gMulA_ri, gMulA_ti, gLt_ii, gLt_ss, gLt2_ii, gLt2_ss, eTab_e, vTab_s, eGet2_e, vGetO_r, vGet2_s, gIs_n, gIs_b, isNon_n, isNon_b, isNon_i, isNon_s, isNon_t, isNon_r, gIx_r, oIx_li, oIx_ds, oIx_di, gIx_ti, gIx_fi, gIx_si, gSl_t, gSl_s, gSl_f, gSl_r, gIn_ss, gIn_t, gIn_r, oIn_l, oIn_ds, gLen_s, gLen_t, gLen_f, gLen_r, oLen_l, oLen_d, gAbs_i, gMax2_ii, gMin2_ii, gInt1_i, gInt1_b, gList_t, gList_f, gList_r, gTuple_t, gTuple_f, gTuple_r, gSum_r, gAll_r, gIsi_x, tyD_n, tyD_b, tyD_i, tyD_s, tyD_t, tyD_f, tyD_r, oTy_l, oTy_d, tyM_s, tyM_r, oTyM_l, oTyM_d, gAppend_r, gPop0_r, gPopAt_r, gClear_r, gReverse_r, gJoin_r, gUpper_s, gStr_i, gSorted_r, iSeq_e, vSeq_r, vSeq_f, vSeq_t, vSeq_s, iRange1_e, vRng1_i, iRange2_e, vRng2_i, iZipD_e, vZip_r, vZip_t, iEnumD_e, vEnum_r, nTupL_t, nTupL_r, nCons_c, nNil_n, sSub_e, vPut_r, oPut_ds, oPut_di, oPut_l, cut_to hs, cut_from hs, ofL_app]
  have hBL : B.cps.toList.length ≤ 6 := by rw [Array.length_toList]; exact hB
  refine ⟨small_line (by omega), small_line ?_, small_line (by omega), small_line ?_, seq_i ?_⟩
  · rw [ofL_len, ofL_len, List.length_take]
    simp only [List.length_append, List.length_cons, List.length_nil]
    omega
  · rw [ofL_len, ofL_len, List.length_append, List.length_take, List.length_drop]
    simp only [List.length_append, List.length_cons, List.length_nil]
    omega
  have app : ∀ (z : Str) (u11 : Option D), z = nameS way B.cps.toList sp t k → t_wnames_16 D0 [some (.ref p), some (.int many), some (.str abc), some (.int way), some (.int t), some (.str B), some (.int sp), some (.ref a), some (.int (k : Nat)), u9, some (.str z), u11] S := by
    intro z u11 ez
    subst ez
    simp (config := {implicitDefEqProofs := false, proj := false}) only [nx_mk, rt_mk, bk_mk, ct_mk, eVar, eC, eOp, eIf, eTup, eLst, eDict0, eDict, eSl, oNo, eCall, eCB, eM, eLc, eIsi2, aNil, aCons, pNil, pCons, tAndD, tOrD, tNotD, tsYes, gMns, gMod, gFdiv, gPow, gLe, gGt, gGe, gEq_ii, gEq_ss, gEq_bb, gEq_nn, gEq_ni, gEq_in, gEq_ns, gEq_sn, gEq_si, gEq_is, sAsg, nName, sRet, sRetN, sExpr, sIf, sNext, sBreak, sCont, sFor, getS, setS, wipeS, endsD, asKeys, toKey, List.length_cons, List.length_nil, List.set_cons_zero, List.set_cons_succ, List.set_nil, Nat.zero_add, Nat.reduceAdd, Option.some.injEq, exists_and_left, exists_eq_left', exists_eq_left, id_eq, if_true, if_false, ite_true, ite_false, Bool.not_true, Bool.not_false, Bool.false_eq_true, not_false_eq_true, not_true_eq_false, reduceCtorEq, true_and, and_true, ne_eq, decide_eq_true_eq, isiN, isiCls, List.mem_cons, String.reduceEq, String.reduceBEq, or_true, true_or, or_false, false_or, Bool.or_true, Bool.true_or, Bool.false_or, Bool.or_false, Bool.and_false, Bool.false_and, Bool.true_and, Bool.and_true, beq_self_eq_true, decide_true, decide_false, tTr_e, vTru_non, vTru_bl, vTru_int, vTru_str, vTru_tup, vTru_ref, oTru_l, oTru_d, tBl_e, vBl_bl, eNeg_e, vNeg_int, eChain_e, eAnd_e, eOr_e, eNot_e, oSome_e, vSome_int, gAdd_ii, gAdd_ss, gAdd_tt, gAdd_rr, gI_ii, gI0_ii, gMulA_ii, gMulA_ri, gMulA_ti, gLt_ii, gLt_ss, gLt2_ii, gLt2_ss, eTab_e, vTab_s, eGet2_e, vGetO_r, vGet2_s, gIs_n, gIs_b, isNon_n, isNon_b, isNon_i, isNon_s, isNon_t, isNon_r, gIx_r, oIx_li, oIx_ds, oIx_di, gIx_ti, gIx_fi, gIx_si, gSl_t, gSl_s, gSl_f, gSl_r, gIn_ss, gIn_t, gIn_r, oIn_l, oIn_ds, gLen_s, gLen_t, gLen_f, gLen_r, oLen_l, oLen_d, gAbs_i, gMax2_ii, gMin2_ii, gInt1_i, gInt1_b, gList_t, gList_f, gList_r, gTuple_t, gTuple_f, gTuple_r, gSum_r, gAll_r, gIsi_x, tyD_n, tyD_b, tyD_i, tyD_s, tyD_t, tyD_f, tyD_r, oTy_l, oTy_d, tyM_s, tyM_r, oTyM_l, oTyM_d, gAppend_r, gPop0_r, gPopAt_r, gClear_r, gReverse_r, gJoin_r, gUpper_s, gStr_i, gSorted_r, iSeq_e, vSeq_r, vSeq_f, vSeq_t, vSeq_s, iRange1_e, vRng1_i, iRange2_e, vRng2_i, iZipD_e, vZip_r, vZip_t, iEnumD_e, vEnum_r, nTupL_t, nTupL_r, nCons_c, nNil_n, sSub_e, vPut_r, oPut_ds, oPut_di, oPut_l, t_wnames_16, ha]
    exact ⟨xs, rfl, Nat.lt_of_lt_of_le (show xs.length < 201 by omega) (by decide), q _⟩
  simp (config := {implicitDefEqProofs := false, proj := false}) only [nx_mk, rt_mk, bk_mk, ct_mk, eVar, eC, eOp, eIf, eTup, eLst, eDict0, eDict, eSl, oNo, eCall, eCB, eM, eLc, eIsi2, aNil, aCons, pNil, pCons, tAndD, tOrD, tNotD, tsYes, gMns, gMod, gFdiv, gPow, gLe, gGt, gGe, gEq_ii, gEq_ss, gEq_bb, gEq_nn, gEq_ni, gEq_in, gEq_ns, gEq_sn, gEq_si, gEq_is, sAsg, nName, sRet, sRetN, sExpr, sIf, sNext, sBreak, sCont, sFor, getS, setS, wipeS, endsD, asKeys, toKey, List.length_cons, List.length_nil, List.set_cons_zero, List.set_cons_succ, List.set_nil, Nat.zero_add, Nat.reduceAdd, Option.some.injEq, exists_and_left, exists_eq_left', exists_eq_left, id_eq, if_true, if_false, ite_true, ite_false, Bool.not_true, Bool.not_false, Bool.false_eq_true, not_false_eq_true, not_true_eq_false, reduceCtorEq, true_and, and_true, ne_eq, decide_eq_true_eq, isiN, isiCls, List.mem_cons, String.reduceEq, String.reduceBEq, or_true, true_or, or_false, false_or, Bool.or_true, Bool.true_or, Bool.false_or, Bool.or_false, Bool.and_false, Bool.false_and, Bool.true_and, Bool.and_true, beq_self_eq_true, decide_true, decide_false, tTr_e, vTru_non, vTru_bl, vTru_int, vTru_str, vTru_tup, vTru_ref, oTru_l, oTru_d, tBl_e, vBl_bl, eNeg_e, vNeg_int, eChain_e, eAnd_e, eOr_e, eNot_e, oSome_e, vSome_int, gAdd_ii, gAdd_ss, gAdd_tt, gAdd_rr, gI_ii, gI0_ii, gMulA_ii, gMulA_ri, gMulA_ti, gLt_ii, gLt_ss, gLt2_ii, gLt2_ss, eTab_e, vTab_s, eGet2_e, vGetO_r, vGet2_s, gIs_n, gIs_b, isNon_n, isNon_b, isNon_i, isNon_s, isNon_t, isNon_r, gIx_r, oIx_li, oIx_ds, oIx_di, gIx_ti, gIx_fi, gIx_si, gSl_t, gSl_s, gSl_f, gSl_r, gIn_ss, gIn_t, gIn_r, oIn_l, oIn_ds, gLen_s, gLen_t, gLen_f, gLen_r, oLen_l, oLen_d, gAbs_i, gMax2_ii, gMin2_ii, gInt1_i, gInt1_b, gList_t, gList_f, gList_r, gTuple_t, gTuple_f, gTuple_r, gSum_r, gAll_r, gIsi_x, tyD_n, tyD_b, tyD_i, tyD_s, tyD_t, tyD_f, tyD_r, oTy_l, oTy_d, tyM_s, tyM_r, oTyM_l, oTyM_d, gAppend_r, gPop0_r, gPopAt_r, gClear_r, gReverse_r, gJoin_r, gUpper_s, gStr_i, gSorted_r, iSeq_e, vSeq_r, vSeq_f, vSeq_t, vSeq_s, iRange1_e, vRng1_i, iRange2_e, vRng2_i, iZipD_e, vZip_r, vZip_t, iEnumD_e, vEnum_r, nTupL_t, nTupL_r, nCons_c, nNil_n, sSub_e, vPut_r, oPut_ds, oPut_di, oPut_l]
  by_cases hw : way = 1
  · rw [if_pos hw]
    refine seq_i ?_
    simp (config := {implicitDefEqProofs := false, proj := false}) only [nx_mk, rt_mk, bk_mk, ct_mk, eVar, eC, eOp, eIf, eTup, eLst, eDict0, eDict, eSl, oNo, eCall, eCB, eM, eLc, eIsi2, aNil, aCons, pNil, pCons, tAndD, tOrD, tNotD, tsYes, gMns, gMod, gFdiv, gPow, gLe, gGt, gGe, gEq_ii, gEq_ss, gEq_bb, gEq_nn, gEq_ni, gEq_in, gEq_ns, gEq_sn, gEq_si, gEq_is, sAsg, nName, sRet, sRetN, sExpr, sIf, sNext, sBreak, sCont, sFor, getS, setS, wipeS, endsD, asKeys, toKey, List.length_cons, List.length_nil, List.set_cons_zero, List.set_cons_succ, List.set_nil, Nat.zero_add, Nat.reduceAdd, Option.some.injEq, exists_and_left, exists_eq_left', exists_eq_left, id_eq, if_true, if_false, ite_true, ite_false, Bool.not_true, Bool.not_false, Bool.false_eq_true, not_false_eq_true, not_true_eq_false, reduceCtorEq, true_and, and_true, ne_eq, decide_eq_true_eq, isiN, isiCls, List.mem_cons, String.reduceEq, String.reduceBEq, or_true, true_or, or_false, false_or, Bool.or_true, Bool.true_or, Bool.false_or, Bool.or_false, Bool.and_false, Bool.false_and, Bool.true_and, Bool.and_true, beq_self_eq_true, decide_true, decide_false, tTr_e, vTru_non, vTru_bl, vTru_int, vTru_str, vTru_tup, vTru_ref, oTru_l, oTru_d, tBl_e, vBl_bl, eNeg_e, vNeg_int, eChain_e, eAnd_e, eOr_e, eNot_e, oSome_e, vSome_int, gAdd_ii, gAdd_ss, gAdd_tt, gAdd_rr, gI_ii, gI0_ii, gMulA_ii, gMulA_ri, gMulA_ti, gLt_ii, gLt_ss, gLt2_ii, gLt2_ss, eTab_e, vTab_s, eGet2_e, vGetO_r, vGet2_s, gIs_n, gIs_b, isNon_n, isNon_b, isNon_i, isNon_s, isNon_t, isNon_r, gIx_r, oIx_li, oIx_ds, oIx_di, gIx_ti, gIx_fi, gIx_si, gSl_t, gSl_s, gSl_f, gSl_r, gIn_ss, gIn_t, gIn_r, oIn_l, oIn_ds, gLen_s, gLen_t, gLen_f, gLen_r, oLen_l, oLen_d, gAbs_i, gMax2_ii, gMin2_ii, gInt1_i, gInt1_b, gList_t, gList_f, gList_r, gTuple_t, gTuple_f, gTuple_r, gSum_r, gAll_r, gIsi_x, tyD_n, tyD_b, tyD_i, tyD_s, tyD_t, tyD_f, tyD_r, oTy_l, oTy_d, tyM_s, tyM_r, oTyM_l, oTyM_d, gAppend_r, gPop0_r, gPopAt_r, gClear_r, gReverse_r, gJoin_r, gUpper_s, gStr_i, gSorted_r, iSeq_e, vSeq_r, vSeq_f, vSeq_t, vSeq_s, iRange1_e, vRng1_i, iRange2_e, vRng2_i, iZipD_e, vZip_r, vZip_t, iEnumD_e, vEnum_r, nTupL_t, nTupL_r, nCons_c, nNil_n, sSub_e, vPut_r, oPut_ds, oPut_di, oPut_l]
    refine seq_i ?_
    simp (config := {implicitDefEqProofs := false, proj := false}) only [nx_mk, rt_mk, bk_mk, ct_mk, eVar, eC, eOp, eIf, eTup, eLst, eDict0, eDict, eSl, oNo, eCall, eCB, eM, eLc, eIsi2, aNil, aCons, pNil, pCons, tAndD, tOrD, tNotD, tsYes, gMns, gMod, gFdiv, gPow, gLe, gGt, gGe, gEq_ii, gEq_ss, gEq_bb, gEq_nn, gEq_ni, gEq_in, gEq_ns, gEq_sn, gEq_si, gEq_is, sAsg, nName, sRet, sRetN, sExpr, sIf, sNext, sBreak, sCont, sFor, getS, setS, wipeS, endsD, asKeys, toKey, List.length_cons, List.length_nil, List.set_cons_zero, List.set_cons_succ, List.set_nil, Nat.zero_add, Nat.reduceAdd, Option.some.injEq, exists_and_left, exists_eq_left', exists_eq_left, id_eq, if_true, if_false, ite_true, ite_false, Bool.not_true, Bool.not_false, Bool.false_eq_true, not_false_eq_true, not_true_eq_false, reduceCtorEq, true_and, and_true, ne_eq, decide_eq_true_eq, isiN, isiCls, List.mem_cons, String.reduceEq, String.reduceBEq, or_true, true_or, or_false, false_or, Bool.or_true, Bool.true_or, Bool.false_or, Bool.or_false, Bool.and_false, Bool.false_and, Bool.true_and, Bool.and_true, beq_self_eq_true, decide_true, decide_false, tTr_e, vTru_non, vTru_bl, vTru_int, vTru_str, vTru_tup, vTru_ref, oTru_l, oTru_d, tBl_e, vBl_bl, eNeg_e, vNeg_int, eChain_e, eAnd_e, eOr_e, eNot_e, oSome_e, vSome_int, gAdd_ii, gAdd_ss, gAdd_tt, gAdd_rr, gI_ii, gI0_ii, gMulA_ii, gMulA_ri, gMulA_ti, gLt_ii, gLt_ss, gLt2_ii, gLt2_ss, eTab_e, vTab_s, eGet2_e, vGetO_r, vGet2_s, gIs_n, gIs_b, isNon_n, isNon_b, isNon_i, isNon_s, isNon_t, isNon_r, gIx_r, oIx_li, oIx_ds, oIx_di, gIx_ti, gIx_fi, gIx_si, gSl_t, gSl_s, gSl_f, gSl_r, gIn_ss, gIn_t, gIn_r, oIn_l, oIn_ds, gLen_s, gLen_t, gLen_f, gLen_r, oLen_l, oLen_d, gAbs_i, gMax2_ii, gMin2_ii, gInt1_i, gInt1_b, gList_t, gList_f, gList_r, gTuple_t, gTuple_f, gTuple_r, gSum_r, gAll_r, gIsi_x, tyD_n, tyD_b, tyD_i, tyD_s, tyD_t, tyD_f, tyD_r, oTy_l, oTy_d, tyM_s, tyM_r, oTyM_l, oTyM_d, gAppend_r, gPop0_r, gPopAt_r, gClear_r, gReverse_r, gJoin_r, gUpper_s, gStr_i, gSorted_r, iSeq_e, vSeq_r, vSeq_f, vSeq_t, vSeq_s, iRange1_e, vRng1_i, iRange2_e, vRng2_i, iZipD_e, vZip_r, vZip_t, iEnumD_e, vEnum_r, nTupL_t, nTupL_r, nCons_c, nNil_n, sSub_e, vPut_r, oPut_ds, oPut_di, oPut_l]
    refine while_i (fun m σ S' => ∃ word : List Nat, σ = [some (.ref p), some (.int many), some (.str abc), some (.int way), some (.int t), some (.str B), some (.int sp), some (.ref a), some (.int (k : Nat)), u9, some (.str (ofL word)), some (.int (m : Nat))] ∧ S' = S ∧ bw t m ++ word = bw t (k + 1) ∧ m ≤ k + 1)
      (k + 1) ⟨[], rfl, rfl, List.append_nil _, Nat.le_refl _⟩ fun m σ S' hi N hN => ?_
    obtain ⟨word, rfl, rfl, hword, hm⟩ := hi
    simp (config := {implicitDefEqProofs := false, proj := false}) only [nx_mk, rt_mk, bk_mk, ct_mk, eVar, eC, eOp, eIf, eTup, eLst, eDict0, eDict, eSl, oNo, eCall, eCB, eM, eLc, eIsi2, aNil, aCons, pNil, pCons, tAndD, tOrD, tNotD, tsYes, gMns, gMod, gFdiv, gPow, gLe, gGt, gGe, gEq_ii, gEq_ss, gEq_bb, gEq_nn, gEq_ni, gEq_in, gEq_ns, gEq_sn, gEq_si, gEq_is, sAsg, nName, sRet, sRetN, sExpr, sIf, sNext, sBreak, sCont, sFor, getS, setS, wipeS, endsD, asKeys, toKey, List.length_cons, List.length_nil, List.set_cons_zero, List.set_cons_succ, List.set_nil, Nat.zero_add, Nat.reduceAdd, Option.some.injEq, exists_and_left, exists_eq_left', exists_eq_left, id_eq, if_true, if_false, ite_true, ite_false, Bool.not_true, Bool.not_false, Bool.false_eq_true, not_false_eq_true, not_true_eq_false, reduceCtorEq, true_and, and_true, ne_eq, decide_eq_true_eq, isiN, isiCls, List.mem_cons, String.reduceEq, String.reduceBEq, or_true, true_or, or_false, false_or, Bool.or_true, Bool.true_or, Bool.false_or, Bool.or_false, Bool.and_false, Bool.false_and, Bool.true_and, Bool.and_true, beq_self_eq_true, decide_true, decide_false, tTr_e, vTru_non, vTru_bl, vTru_int, vTru_str, vTru_tup, vTru_ref, oTru_l, oTru_d, tBl_e, vBl_bl, eNeg_e, vNeg_int, eChain_e, eAnd_e, eOr_e, eNot_e, oSome_e, vSome_int, gAdd_ii, gAdd_ss, gAdd_tt, gAdd_rr, gI_ii, gI0_ii, gMulA_ii, gMulA_ri, gMulA_ti, gLt_ii, gLt_ss, gLt2_ii, gLt2_ss, eTab_e, vTab_s, eGet2_e, vGetO_r, vGet2_s, gIs_n, gIs_b, isNon_n, isNon_b, isNon_i, isNon_s, isNon_t, isNon_r, gIx_r, oIx_li, oIx_ds, oIx_di, gIx_ti, gIx_fi, gIx_si, gSl_t, gSl_s, gSl_f, gSl_r, gIn_ss, gIn_t, gIn_r, oIn_l, oIn_ds, gLen_s, gLen_t, gLen_f, gLen_r, oLen_l, oLen_d, gAbs_i, gMax2_ii, gMin2_ii, gInt1_i, gInt1_b, gList_t, gList_f, gList_r, gTuple_t, gTuple_f, gTuple_r, gSum_r, gAll_r, gIsi_x, tyD_n, tyD_b, tyD_i, tyD_s, tyD_t, tyD_f, tyD_r, oTy_l, oTy_d, tyM_s, tyM_r, oTyM_l, oTyM_d, gAppend_r, gPop0_r, gPopAt_r, gClear_r, gReverse_r, gJoin_r, gUpper_s, gStr_i, gSorted_r, iSeq_e, vSeq_r, vSeq_f, vSeq_t, vSeq_s, iRange1_e, vRng1_i, iRange2_e, vRng2_i, iZipD_e, vZip_r, vZip_t, iEnumD_e, vEnum_r, nTupL_t, nTupL_r, nCons_c, nNil_n, sSub_e, vPut_r, oPut_ds, oPut_di, oPut_l]
    by_cases h0 : (0 : Int) < (m : Int)
    · rw [if_pos h0]
      have hwl : word.length ≤ k + 1 := by
        have h1 := congrArg List.length hword
        rw [List.length_append] at h1
        have h2 := bw_len t (k + 1)
        omega
      refine seq_i ?_
      simp (config := {implicitDefEqProofs := false, proj := false}) only [nx_mk, rt_mk, bk_mk, ct_mk, eVar, eC, eOp, eIf, eTup, eLst, eDict0, eDict, eSl, oNo, eCall, eCB, eM, eLc, eIsi2, aNil, aCons, pNil, pCons, tAndD, tOrD, tNotD, tsYes, gMns, gMod, gFdiv, gPow, gLe, gGt, gGe, gEq_ii, gEq_ss, gEq_bb, gEq_nn, gEq_ni, gEq_in, gEq_ns, gEq_sn, gEq_si, gEq_is, sAsg, nName, sRet, sRetN, sExpr, sIf, sNext, sBreak, sCont, sFor, getS, setS, wipeS, endsD, asKeys, toKey, List.length_cons, List.length_nil, List.set_cons_zero, List.set_cons_succ, List.set_nil, Nat.zero_add, Nat.reduceAdd, Option.some.injEq, exists_and_left, exists_eq_left', exists_eq_left, id_eq, if_true, if_false, ite_true, ite_false, Bool.not_true, Bool.not_false, Bool.false_eq_true, not_false_eq_true, not_true_eq_false, reduceCtorEq, true_and, and_true, ne_eq, decide_eq_true_eq, isiN, isiCls, List.mem_cons, String.reduceEq, String.reduceBEq, or_true, true_or, or_false, false_or, Bool.or_true, Bool.true_or, Bool.false_or, Bool.or_false, Bool.and_false, Bool.false_and, Bool.true_and, Bool.and_true, beq_self_eq_true, decide_true, decide_false, tTr_e, vTru_non, vTru_bl, vTru_int, vTru_str, vTru_tup, vTru_ref, oTru_l, oTru_d, tBl_e, vBl_bl, eNeg_e, vNeg_int, eChain_e, eAnd_e, eOr_e, eNot_e, oSome_e, vSome_int, gAdd_ii, gAdd_ss, gAdd_tt, gAdd_rr, gI_ii, gI0_ii, gMulA_ii, gMulA_ri, gMulA_ti, gLt_ii, gLt_ss, gLt2_ii, gLt2_ss, eTab_e, vTab_s, eGet2_e, vGetO_r, vGet2_s, gIs_n, gIs_b, isNon_n, isNon_b, isNon_i, isNon_s, isNon_t, isNon_r, gIx_r, oIx_li, oIx_ds, oIx_di, gIx_ti, gIx_fi, gIx_si, gSl_t, gSl_s, gSl_f, gSl_r, gIn_ss, gIn_t, gIn_r, oIn_l, oIn_ds, gLen_s, gLen_t, gLen_f, gLen_r, oLen_l, oLen_d, gAbs_i, gMax2_ii, gMin2_ii, gInt1_i, gInt1_b, gList_t, gList_f, gList_r, gTuple_t, gTuple_f, gTuple_r, gSum_r, gAll_r, gIsi_x, tyD_n, tyD_b, tyD_i, tyD_s, tyD_t, tyD_f, tyD_r, oTy_l, oTy_d, tyM_s, tyM_r, oTyM_l, oTyM_d, gAppend_r, gPop0_r, gPopAt_r, gClear_r, gReverse_r, gJoin_r, gUpper_s, gStr_i, gSorted_r, iSeq_e, vSeq_r, vSeq_f, vSeq_t, vSeq_s, iRange1_e, vRng1_i, iRange2_e, vRng2_i, iZipD_e, vZip_r, vZip_t, iEnumD_e, vEnum_r, nTupL_t, nTupL_r, nCons_c, nNil_n, sSub_e, vPut_r, oPut_ds, oPut_di, oPut_l]
      refine ⟨by decide, mulS (by decide) (by decide) (by omega) (by omega), by decide, hl, _, abc_at (j := (t + 9 * (m % 2)) % 26) (by omega) (by omega), ?_⟩
      rw [ofL_one, ofL_app]
      refine ⟨small_line ?_, ?_⟩
      · rw [ofL_len, ofL_len]
        simp only [List.length_cons, List.length_nil]
        omega
      simp (config := {implicitDefEqProofs := false, proj := false}) only [nx_mk, rt_mk, bk_mk, ct_mk, eVar, eC, eOp, eIf, eTup, eLst, eDict0, eDict, eSl, oNo, eCall, eCB, eM, eLc, eIsi2, aNil, aCons, pNil, pCons, tAndD, tOrD, tNotD, tsYes, gMns, gMod, gFdiv, gPow, gLe, gGt, gGe, gEq_ii, gEq_ss, gEq_bb, gEq_nn, gEq_ni, gEq_in, gEq_ns, gEq_sn, gEq_si, gEq_is, sAsg, nName, sRet, sRetN, sExpr, sIf, sNext, sBreak, sCont, sFor, getS, setS, wipeS, endsD, asKeys, toKey, List.length_cons, List.length_nil, List.set_cons_zero, List.set_cons_succ, List.set_nil, Nat.zero_add, Nat.reduceAdd, Option.some.injEq, exists_and_left, exists_eq_left', exists_eq_left, id_eq, if_true, if_false, ite_true, ite_false, Bool.not_true, Bool.not_false, Bool.false_eq_true, not_false_eq_true, not_true_eq_false, reduceCtorEq, true_and, and_true, ne_eq, decide_eq_true_eq, isiN, isiCls, List.mem_cons, String.reduceEq, String.reduceBEq, or_true, true_or, or_false, false_or, Bool.or_true, Bool.true_or, Bool.false_or, Bool.or_false, Bool.and_false, Bool.false_and, Bool.true_and, Bool.and_true, beq_self_eq_true, decide_true, decide_false, tTr_e, vTru_non, vTru_bl, vTru_int, vTru_str, vTru_tup, vTru_ref, oTru_l, oTru_d, tBl_e, vBl_bl, eNeg_e, vNeg_int, eChain_e, eAnd_e, eOr_e, eNot_e, oSome_e, vSome_int, gAdd_ii, gAdd_ss, gAdd_tt, gAdd_rr, gI_ii, gI0_ii, gMulA_ii, gMulA_ri, gMulA_ti, gLt_ii, gLt_ss, gLt2_ii, gLt2_ss, eTab_e, vTab_s, eGet2_e, vGetO_r, vGet2_s, gIs_n, gIs_b, isNon_n, isNon_b, isNon_i, isNon_s, isNon_t, isNon_r, gIx_r, oIx_li, oIx_ds, oIx_di, gIx_ti, gIx_fi, gIx_si, gSl_t, gSl_s, gSl_f, gSl_r, gIn_ss, gIn_t, gIn_r, oIn_l, oIn_ds, gLen_s, gLen_t, gLen_f, gLen_r, oLen_l, oLen_d, gAbs_i, gMax2_ii, gMin2_ii, gInt1_i, gInt1_b, gList_t, gList_f, gList_r, gTuple_t, gTuple_f, gTuple_r, gSum_r, gAll_r, gIsi_x, tyD_n, tyD_b, tyD_i, tyD_s, tyD_t, tyD_f, tyD_r, oTy_l, oTy_d, tyM_s, tyM_r, oTyM_l, oTyM_d, gAppend_r, gPop0_r, gPopAt_r, gClear_r, gReverse_r, gJoin_r, gUpper_s, gStr_i, gSorted_r, iSeq_e, vSeq_r, vSeq_f, vSeq_t, vSeq_s, iRange1_e, vRng1_i, iRange2_e, vRng2_i, iZipD_e, vZip_r, vZip_t, iEnumD_e, vEnum_r, nTupL_t, nTupL_r, nCons_c, nNil_n, sSub_e, vPut_r, oPut_ds, oPut_di, oPut_l, t_wnames_15]
      refine ⟨fdivS (by decide) (by decide), ?_⟩
      have em : ((m : Int) - 1) / 2 = (((m - 1) / 2 : Nat) : Int) := by omega
      rw [em]
      refine hN ((m - 1) / 2) _ _ (by omega) ⟨_, rfl, rfl, ?_, by omega⟩
      rw [← hword, bw_pos (t := t) (r := m) (by omega), List.append_assoc]
    · rw [if_neg h0]
      have : m = 0 := by omega
      subst this
      refine app _ _ ?_
      rw [bw_zero, List.nil_append] at hword
      unfold nameS nameL
      rw [if_pos hw, hword]
  · rw [if_neg hw]
    refine app _ _ ?_
    unfold nameS nameL
    rw [if_neg hw]
    rfl
end LW
namespace LW
open PySem L2 DL
def termsL : List Str := ["as", "with", "part", "field", "none", "done", "write", "back", "join"]
structure NmOk (zs : List Str) : Prop where
  nd : zs.Nodup
  len : ∀ z ∈ zs, z.length ≤ 200
theorem terms_len : ∀ z ∈ termsL, z.length ≤ 200 := by decide +kernel
theorem NmOk.set {zs : List Str} (h : NmOk zs) {i : Nat} {z : Str} (hz : z ∉ zs) (hl : z.length ≤ 200) : NmOk (zs.set i z) :=
  ⟨set_nodup h.nd hz, fun y hy => (List.mem_or_eq_of_mem_set hy).elim (h.len y) fun e => by rw [e]; exact hl⟩
theorem ixN_of {n j : Nat} (hj : j < n) : ixN n (j : Int) = some j := by
  unfold ixN
  simp
  omega
theorem any_str (zs : List Str) (x : Str) : ((zs.map D.str).any fun z => eqF z (.str x)) = decide (x ∈ zs) := by
  induction zs with
  | nil => simp
  | cons z r ih =>
    rw [List.map_cons, List.any_cons, ih]
    show ((z == x) || decide (x ∈ r)) = decide (x ∈ z :: r)
    by_cases h : z = x
    · subst h; simp
    · have h2 : ¬ x = z := fun e => h e.symm
      simp [h, h2]
theorem flat_strs (zs : List Str) : (zs.map D.str).all flatD = true := by
  rw [List.all_map, List.all_eq_true]
  intro z _
  rfl
theorem term_turn {p pc a c : Addr} {b k : Nat} {many way : Int} {B : Str} {t sp : Int} {u10 u11 : Option D} {S : Sto} {zs : List Str} {D0 : DEnds} (h : Pen S p pc b) (hb : b + 1 ≤ 100000) (ha : S a = some (.lst (zs.map .str))) (hc : S c = some (.lst (termsL.map .str))) (hap : a ≠ p) (hac : a ≠ pc) (hcp : c ≠ p) (hne : c ≠ a) (hz : NmOk zs) (hk : k < 9) (hkz : k < zs.length)
    (q : ∀ zs' S', NmOk zs' → zs'.length = zs.length → Pen S' p pc (b + 1) → S' a = some (.lst (zs'.map .str)) → S' c = some (.lst (termsL.map .str)) → (∀ z o, z ≠ p → z ≠ a → S z = some o → S' z = some o) → D0.nx [some (.ref p), some (.int many), some (.str abc), some (.int way), some (.int t), some (.str B), some (.int sp), some (.ref a), some (.int (k : Nat)), some (.ref c), u10, u11] S') :
    l_wnames_19 D0 [some (.ref p), some (.int many), some (.str abc), some (.int way), some (.int t), some (.str B), some (.int sp), some (.ref a), some (.int (k : Nat)), some (.ref c), u10, u11] S := by
  simp (config := {implicitDefEqProofs := false, proj := false}) only [nx_mk, rt_mk, bk_mk, ct_mk, eVar, eC, eOp, eIf, eTup, eLst, eDict0, eDict, eSl, oNo, eCall, eCB, eM, eLc, eIsi2, aNil, aCons, pNil, pCons, tAndD, tOrD, tNotD, tsYes, gMns, gMod, gFdiv, gPow, gLe, gGt, gGe, gEq_ii, gEq_ss, gEq_bb, gEq_nn, gEq_ni, gEq_in, gEq_ns, gEq_sn, gEq_si, gEq_is, sAsg, nName, sRet, sRetN, sExpr, sIf, sNext, sBreak, sCont, sFor, getS, setS, wipeS, endsD, asKeys, toKey, List.length_cons, List.length_nil, List.set_cons_zero, List.set_cons_succ, List.set_nil, Nat.zero_add, Nat.reduceAdd, Option.some.injEq, exists_and_left, exists_eq_left', exists_eq_left, id_eq, if_true, if_false, ite_true, ite_false, Bool.not_true, Bool.not_false, Bool.false_eq_true, not_false_eq_true, not_true_eq_false, reduceCtorEq, true_and, and_true, ne_eq, decide_eq_true_eq, isiN, isiCls, List.mem_cons, String.reduceEq, String.reduceBEq, or_true, true_or, or_false, false_or, Bool.or_true, Bool.true_or, Bool.false_or, Bool.or_false, Bool.and_false, Bool.false_and, Bool.true_and, Bool.and_true, beq_self_eq_true, decide_true, decide_false, tTr_e, vTru_non, vTru_bl, vTru_int, vTru_str, vTru_tup, vTru_ref, oTru_l, oTru_d, tBl_e, vBl_bl, eNeg_e, vNeg_int, eChain_e, eAnd_e, eOr_e, eNot_e, oSome_e, vSome_int, gAdd_ii, gAdd_ss, gAdd_tt, gAdd_rr, gI_ii, gI0_ii, gMulA_ii, gMulA_ri, gMulA_ti, gLt_ii, gLt_ss, gLt2_ii, gLt2_ss, eTab_e, vTab_s, eGet2_e, vGetO_r, vGet2_s, gIs_n, gIs_b, isNon_n, isNon_b, isNon_i, isNon_s, isNon_t, isNon_r, gIx_r, oIx_li, oIx_ds, oIx_di, gIx_ti, gIx_fi, gIx_si, gSl_t, gSl_s, gSl_f, gSl_r, gIn_ss, gIn_t, gIn_r, oIn_l, oIn_ds, gLen_s, gLen_t, gLen_f, gLen_r, oLen_l, oLen_d, gAbs_i, gMax2_ii, gMin2_ii, gInt1_i, gInt1_b, gList_t, gList_f, gList_r, gTuple_t, gTuple_f, gTuple_r, gSum_r, gAll_r, gIsi_x, tyD_n, tyD_b, tyD_i, tyD_s, tyD_t, tyD_f, tyD_r, oTy_l, oTy_d, tyM_s, tyM_r, oTyM_l, oTyM_d, gAppend_r, gPop0_r, gPopAt_r, gClear_r, gReverse_r, gJoin_r, gUpper_s, gStr_i, gSorted_r, iSeq_e, vSeq_r, vSeq_f, vSeq_t, vSeq_s, iRange1_e, vRng1_i, iRange2_e, vRng2_i, iZipD_e, vZip_r, vZip_t, iEnumD_e, vEnum_r, nTupL_t, nTupL_r, nCons_c, nNil_n, sSub_e, vPut_r, oPut_ds, oPut_di, oPut_l, l_wnames_19]
  refine take_spec h (by omega) (by decide) (by decide) fun j S1 _ _ p1 h1 => ?_
  try simp (config := {implicitDefEqProofs := false, proj := false}) only [nx_mk, rt_mk, bk_mk, ct_mk, eVar, eC, eOp, eIf, eTup, eLst, eDict0, eDict, eSl, oNo, eCall, eCB, eM, eLc, eIsi2, aNil, aCons, pNil, pCons, tAndD, tOrD, tNotD, tsYes, gMns, gMod, gFdiv, gPow, gLe, gGt, gGe, gEq_ii, gEq_ss, gEq_bb, gEq_nn, gEq_ni, gEq_in, gEq_ns, gEq_sn, gEq_si, gEq_is, sAsg, nName, sRet, sRetN, sExpr, sIf, sNext, sBreak, sCont, sFor, getS, setS, wipeS, endsD, asKeys, toKey, List.length_cons, List.length_nil, List.set_cons_zero, List.set_cons_succ, List.set_nil, Nat.zero_add, Nat.reduceAdd, Option.some.injEq, exists_and_left, exists_eq_left', exists_eq_left, id_eq, if_true, if_false, ite_true, ite_false, Bool.not_true, Bool.not_false, Bool.false_eq_true, not_false_eq_true, not_true_eq_false, reduceCtorEq, true_and, and_true, ne_eq, decide_eq_true_eq, isiN, isiCls, List.mem_cons, String.reduceEq, String.reduceBEq, or_true, true_or, or_false, false_or, Bool.or_true, Bool.true_or, Bool.false_or, Bool.or_false, Bool.and_false, Bool.false_and, Bool.true_and, Bool.and_true, beq_self_eq_true, decide_true, decide_false, tTr_e, vTru_non, vTru_bl, vTru_int, vTru_str, vTru_tup, vTru_ref, oTru_l, oTru_d, tBl_e, vBl_bl, eNeg_e, vNeg_int, eChain_e, eAnd_e, eOr_e, eNot_e, oSome_e, vSome_int, gAdd_ii, gAdd_ss, gAdd_tt, gAdd_rr, gI_ii, gI0_ii, gMulA_ii, gMulA_ri, gMulA_ti, gLt_ii, gLt_ss, gLt2_ii, gLt2_ss, eTab_e, vTab_s, eGet2_e, vGetO_r, vGet2_s, gIs_n, gIs_b, isNon_n, isNon_b, isNon_i, isNon_s, isNon_t, isNon_r, gIx_r, oIx_li, oIx_ds, oIx_di, gIx_ti, gIx_fi, gIx_si, gSl_t, gSl_s, gSl_f, gSl_r, gIn_ss, gIn_t, gIn_r, oIn_l, oIn_ds, gLen_s, gLen_t, gLen_f, gLen_r, oLen_l, oLen_d, gAbs_i, gMax2_ii, gMin2_ii, gInt1_i, gInt1_b, gList_t, gList_f, gList_r, gTuple_t, gTuple_f, gTuple_r, gSum_r, gAll_r, gIsi_x, tyD_n, tyD_b, tyD_i, tyD_s, tyD_t, tyD_f, tyD_r, oTy_l, oTy_d, tyM_s, tyM_r, oTyM_l, oTyM_d, gAppend_r, gPop0_r, gPopAt_r, gClear_r, gReverse_r, gJoin_r, gUpper_s, gStr_i, gSorted_r, iSeq_e, vSeq_r, vSeq_f, vSeq_t, vSeq_s, iRange1_e, vRng1_i, iRange2_e, vRng2_i, iZipD_e, vZip_r, vZip_t, iEnumD_e, vEnum_r, nTupL_t, nTupL_r, nCons_c, nNil_n, sSub_e, vPut_r, oPut_ds, oPut_di, oPut_l]
  have ha1 := h1 _ _ hap ha
  have hc1 := h1 _ _ hcp hc
  by_cases hj : j = 0
  · rw [if_pos hj]
    obtain ⟨x, hg⟩ : ∃ x, termsL[k]? = some x := ⟨_, List.getElem?_eq_getElem (show k < termsL.length from hk)⟩
    have hg2 : (termsL.map D.str)[k]? = some (.str x) := by rw [List.getElem?_map, hg]; rfl
    simp (config := {implicitDefEqProofs := false, proj := false}) only [nx_mk, rt_mk, bk_mk, ct_mk, eVar, eC, eOp, eIf, eTup, eLst, eDict0, eDict, eSl, oNo, eCall, eCB, eM, eLc, eIsi2, aNil, aCons, pNil, pCons, tAndD, tOrD, tNotD, tsYes, gMns, gMod, gFdiv, gPow, gLe, gGt, gGe, gEq_ii, gEq_ss, gEq_bb, gEq_nn, gEq_ni, gEq_in, gEq_ns, gEq_sn, gEq_si, gEq_is, sAsg, nName, sRet, sRetN, sExpr, sIf, sNext, sBreak, sCont, sFor, getS, setS, wipeS, endsD, asKeys, toKey, List.length_cons, List.length_nil, List.set_cons_zero, List.set_cons_succ, List.set_nil, Nat.zero_add, Nat.reduceAdd, Option.some.injEq, exists_and_left, exists_eq_left', exists_eq_left, id_eq, if_true, if_false, ite_true, ite_false, Bool.not_true, Bool.not_false, Bool.false_eq_true, not_false_eq_true, not_true_eq_false, reduceCtorEq, true_and, and_true, ne_eq, decide_eq_true_eq, isiN, isiCls, List.mem_cons, String.reduceEq, String.reduceBEq, or_true, true_or, or_false, false_or, Bool.or_true, Bool.true_or, Bool.false_or, Bool.or_false, Bool.and_false, Bool.false_and, Bool.true_and, Bool.and_true, beq_self_eq_true, decide_true, decide_false, tTr_e, vTru_non, vTru_bl, vTru_int, vTru_str, vTru_tup, vTru_ref, oTru_l, oTru_d, tBl_e, vBl_bl, eNeg_e, vNeg_int, eChain_e, eAnd_e, eOr_e, eNot_e, oSome_e, vSome_int, gAdd_ii, gAdd_ss, gAdd_tt, gAdd_rr, gI_ii, gI0_ii, gMulA_ii, gMulA_ri, gMulA_ti, gLt_ii, gLt_ss, gLt2_ii, gLt2_ss, eTab_e, vTab_s, eGet2_e, vGetO_r, vGet2_s, gIs_n, gIs_b, isNon_n, isNon_b, isNon_i, isNon_s, isNon_t, isNon_r, gIx_r, oIx_li, oIx_ds, oIx_di, gIx_ti, gIx_fi, gIx_si, gSl_t, gSl_s, gSl_f, gSl_r, gIn_ss, gIn_t, gIn_r, oIn_l, oIn_ds, gLen_s, gLen_t, gLen_f, gLen_r, oLen_l, oLen_d, gAbs_i, gMax2_ii, gMin2_ii, gInt1_i, gInt1_b, gList_t, gList_f, gList_r, gTuple_t, gTuple_f, gTuple_r, gSum_r, gAll_r, gIsi_x, tyD_n, tyD_b, tyD_i, tyD_s, tyD_t, tyD_f, tyD_r, oTy_l, oTy_d, tyM_s, tyM_r, oTyM_l, oTyM_d, gAppend_r, gPop0_r, gPopAt_r, gClear_r, gReverse_r, gJoin_r, gUpper_s, gStr_i, gSorted_r, iSeq_e, vSeq_r, vSeq_f, vSeq_t, vSeq_s, iRange1_e, vRng1_i, iRange2_e, vRng2_i, iZipD_e, vZip_r, vZip_t, iEnumD_e, vEnum_r, nTupL_t, nTupL_r, nCons_c, nNil_n, sSub_e, vPut_r, oPut_ds, oPut_di, oPut_l, hc1]
    refine ⟨_, atI_nat hg2, ?_⟩
    rw [ha1, oIn_l]
    refine ⟨rfl, flat_strs zs, ?_⟩
    rw [any_str]
    by_cases hin : x ∈ zs
    · rw [decide_eq_true hin]
      simp (config := {implicitDefEqProofs := false, proj := false}) only [nx_mk, rt_mk, bk_mk, ct_mk, eVar, eC, eOp, eIf, eTup, eLst, eDict0, eDict, eSl, oNo, eCall, eCB, eM, eLc, eIsi2, aNil, aCons, pNil, pCons, tAndD, tOrD, tNotD, tsYes, gMns, gMod, gFdiv, gPow, gLe, gGt, gGe, gEq_ii, gEq_ss, gEq_bb, gEq_nn, gEq_ni, gEq_in, gEq_ns, gEq_sn, gEq_si, gEq_is, sAsg, nName, sRet, sRetN, sExpr, sIf, sNext, sBreak, sCont, sFor, getS, setS, wipeS, endsD, asKeys, toKey, List.length_cons, List.length_nil, List.set_cons_zero, List.set_cons_succ, List.set_nil, Nat.zero_add, Nat.reduceAdd, Option.some.injEq, exists_and_left, exists_eq_left', exists_eq_left, id_eq, if_true, if_false, ite_true, ite_false, Bool.not_true, Bool.not_false, Bool.false_eq_true, not_false_eq_true, not_true_eq_false, reduceCtorEq, true_and, and_true, ne_eq, decide_eq_true_eq, isiN, isiCls, List.mem_cons, String.reduceEq, String.reduceBEq, or_true, true_or, or_false, false_or, Bool.or_true, Bool.true_or, Bool.false_or, Bool.or_false, Bool.and_false, Bool.false_and, Bool.true_and, Bool.and_true, beq_self_eq_true, decide_true, decide_false, tTr_e, vTru_non, vTru_bl, vTru_int, vTru_str, vTru_tup, vTru_ref, oTru_l, oTru_d, tBl_e, vBl_bl, eNeg_e, vNeg_int, eChain_e, eAnd_e, eOr_e, eNot_e, oSome_e, vSome_int, gAdd_ii, gAdd_ss, gAdd_tt, gAdd_rr, gI_ii, gI0_ii, gMulA_ii, gMulA_ri, gMulA_ti, gLt_ii, gLt_ss, gLt2_ii, gLt2_ss, eTab_e, vTab_s, eGet2_e, vGetO_r, vGet2_s, gIs_n, gIs_b, isNon_n, isNon_b, isNon_i, isNon_s, isNon_t, isNon_r, gIx_r, oIx_li, oIx_ds, oIx_di, gIx_ti, gIx_fi, gIx_si, gSl_t, gSl_s, gSl_f, gSl_r, gIn_ss, gIn_t, gIn_r, oIn_l, oIn_ds, gLen_s, gLen_t, gLen_f, gLen_r, oLen_l, oLen_d, gAbs_i, gMax2_ii, gMin2_ii, gInt1_i, gInt1_b, gList_t, gList_f, gList_r, gTuple_t, gTuple_f, gTuple_r, gSum_r, gAll_r, gIsi_x, tyD_n, tyD_b, tyD_i, tyD_s, tyD_t, tyD_f, tyD_r, oTy_l, oTy_d, tyM_s, tyM_r, oTyM_l, oTyM_d, gAppend_r, gPop0_r, gPopAt_r, gClear_r, gReverse_r, gJoin_r, gUpper_s, gStr_i, gSorted_r, iSeq_e, vSeq_r, vSeq_f, vSeq_t, vSeq_s, iRange1_e, vRng1_i, iRange2_e, vRng2_i, iZipD_e, vZip_r, vZip_t, iEnumD_e, vEnum_r, nTupL_t, nTupL_r, nCons_c, nNil_n, sSub_e, vPut_r, oPut_ds, oPut_di, oPut_l]
      exact q zs S1 hz rfl p1 ha1 hc1 (fun z o e1 _ e => h1 z o e1 e)
    · rw [decide_eq_false hin]
      simp (config := {implicitDefEqProofs := false, proj := false}) only [nx_mk, rt_mk, bk_mk, ct_mk, eVar, eC, eOp, eIf, eTup, eLst, eDict0, eDict, eSl, oNo, eCall, eCB, eM, eLc, eIsi2, aNil, aCons, pNil, pCons, tAndD, tOrD, tNotD, tsYes, gMns, gMod, gFdiv, gPow, gLe, gGt, gGe, gEq_ii, gEq_ss, gEq_bb, gEq_nn, gEq_ni, gEq_in, gEq_ns, gEq_sn, gEq_si, gEq_is, sAsg, nName, sRet, sRetN, sExpr, sIf, sNext, sBreak, sCont, sFor, getS, setS, wipeS, endsD, asKeys, toKey, List.length_cons, List.length_nil, List.set_cons_zero, List.set_cons_succ, List.set_nil, Nat.zero_add, Nat.reduceAdd, Option.some.injEq, exists_and_left, exists_eq_left', exists_eq_left, id_eq, if_true, if_false, ite_true, ite_false, Bool.not_true, Bool.not_false, Bool.false_eq_true, not_false_eq_true, not_true_eq_false, reduceCtorEq, true_and, and_true, ne_eq, decide_eq_true_eq, isiN, isiCls, List.mem_cons, String.reduceEq, String.reduceBEq, or_true, true_or, or_false, false_or, Bool.or_true, Bool.true_or, Bool.false_or, Bool.or_false, Bool.and_false, Bool.false_and, Bool.true_and, Bool.and_true, beq_self_eq_true, decide_true, decide_false, tTr_e, vTru_non, vTru_bl, vTru_int, vTru_str, vTru_tup, vTru_ref, oTru_l, oTru_d, tBl_e, vBl_bl, eNeg_e, vNeg_int, eChain_e, eAnd_e, eOr_e, eNot_e, oSome_e, vSome_int, gAdd_ii, gAdd_ss, gAdd_tt, gAdd_rr, gI_ii, gI0_ii, gMulA_ii, gMulA_ri, gMulA_ti, gLt_ii, gLt_ss, gLt2_ii, gLt2_ss, eTab_e, vTab_s, eGet2_e, vGetO_r, vGet2_s, gIs_n, gIs_b, isNon_n, isNon_b, isNon_i, isNon_s, isNon_t, isNon_r, gIx_r, oIx_li, oIx_ds, oIx_di, gIx_ti, gIx_fi, gIx_si, gSl_t, gSl_s, gSl_f, gSl_r, gIn_ss, gIn_t, gIn_r, oIn_l, oIn_ds, gLen_s, gLen_t, gLen_f, gLen_r, oLen_l, oLen_d, gAbs_i, gMax2_ii, gMin2_ii, gInt1_i, gInt1_b, gList_t, gList_f, gList_r, gTuple_t, gTuple_f, gTuple_r, gSum_r, gAll_r, gIsi_x, tyD_n, tyD_b, tyD_i, tyD_s, tyD_t, tyD_f, tyD_r, oTy_l, oTy_d, tyM_s, tyM_r, oTyM_l, oTyM_d, gAppend_r, gPop0_r, gPopAt_r, gClear_r, gReverse_r, gJoin_r, gUpper_s, gStr_i, gSorted_r, iSeq_e, vSeq_r, vSeq_f, vSeq_t, vSeq_s, iRange1_e, vRng1_i, iRange2_e, vRng2_i, iZipD_e, vZip_r, vZip_t, iEnumD_e, vEnum_r, nTupL_t, nTupL_r, nCons_c, nNil_n, sSub_e, vPut_r, oPut_ds, oPut_di, oPut_l, hc1]
      refine ⟨_, atI_nat hg2, ?_⟩
      rw [ha1, oPut_l]
      refine ⟨k, ixN_of (by rw [List.length_map]; exact hkz), ?_⟩
      rw [← List.map_set]
      refine q (zs.set k x) _ (hz.set hin (terms_len x (List.mem_of_getElem? hg))) List.length_set ?_ updS_same (by rw [updS_ne hne]; exact hc1) fun z o e1 e2 e => by rw [updS_ne e2]; exact h1 z o e1 e
      obtain ⟨ns, y, l, h1, h3, h4⟩ := p1.ex
      exact ⟨ns, y, l, by rw [updS_ne (Ne.symm hap)]; exact h1, by rw [updS_ne (Ne.symm hac)]; exact h3, h4⟩
  · rw [if_neg hj]
    exact q zs S1 hz rfl p1 ha1 hc1 (fun z o e1 _ e => h1 z o e1 e)
end LW
namespace LW
open PySem L2 DL
theorem joinL_len : ∀ ls : List (List Nat), (TL.joinL [] ls).length = (ls.map List.length).sum
  | [] => rfl
  | [l] => by simp [TL.joinL]
  | l :: m :: r => by
    have ih := joinL_len (m :: r)
    rw [TL.joinL]
    simp only [List.nil_append, List.append_nil, List.length_append, ih, List.map_cons, List.sum_cons]
theorem sum_ones : ∀ {ys : List Str}, (∀ y ∈ ys, y.length = 1) → (ys.map (·.length)).sum = ys.length
  | [], _ => rfl
  | y :: r, h => by
    rw [List.map_cons, List.sum_cons, sum_ones fun x hx => h x (List.mem_cons_of_mem _ hx), h y List.mem_cons_self, List.length_cons, Nat.add_comm]
theorem len_join {ys : List Str} (h : ∀ y ∈ ys, y.length = 1) : (Txt.join "" ys).length = ys.length := by
  rw [TL.join_eq, TL.len_tl, TL.tl_join, show TL.tl ("" : Str) = [] from by decide +kernel, joinL_len, List.map_map]
  induction ys with
  | nil => rfl
  | cons y r ih =>
    rw [List.map_cons, List.sum_cons, ih (fun x hx => h x (List.mem_cons_of_mem _ hx)), List.length_cons]
    have := h y List.mem_cons_self
    rw [TL.len_tl] at this
    show (TL.tl y).length + r.length = r.length + 1
    omega
theorem Pen.ne {S : Sto} {p pc q : Addr} {b : Nat} (h : Pen S p pc b) (hq : S q = none) : q ≠ p ∧ q ≠ pc := by
  obtain ⟨ns, a, l, h1, h2, _⟩ := h.ex
  exact ⟨Ne.symm (neS h1 hq), Ne.symm (neS h2 hq)⟩
theorem base_spec {p pc : Addr} {b n : Nat} {many way t : Int} {u5 u6 u7 u8 u9 u10 u11 : Option D} {S : Sto} {K : List D → Sto → Prop} (h : Pen S p pc b) (hn : n ≤ 6) (hb : b + n ≤ 100000)
    (q : ∀ (ys : List Str) (S' : Sto), (∀ y ∈ ys, y.length = 1) → ys.length = n → Pen S' p pc (b + n) → Kp p S S' → K (ys.map .str) S') :
    lcL (fun _ => True) (nName 8) tsYes c_wnames_4 [some (.ref p), some (.int many), some (.str abc), some (.int way), some (.int t), u5, u6, u7, u8, u9, u10, u11] K (rangeD 0 n) [] S := by
  refine lcL_inv _ (fun j acc S' => Pen S' p pc (b + j) ∧ Kp p S S' ∧ ∃ ys : List Str, acc = ys.map D.str ∧ (∀ y ∈ ys, y.length = 1) ∧ ys.length = j) (fun _ _ _ _ => trivial) (fun j x acc S4 N2 hx h3 hN2 => ?el) (fun acc S4 h3 => ?af) ⟨h, .refl, [], rfl, (fun _ z => nomatch z), rfl⟩
  case el =>
    obtain ⟨n5, g5, ys, ea, hy, hl⟩ := h3
    have hj : j < n := by
      have := (List.getElem?_eq_some_iff.mp hx).1
      rw [rangeD_len] at this
      exact this
    simp (config := {implicitDefEqProofs := false, proj := false}) only [nx_mk, rt_mk, bk_mk, ct_mk, eVar, eC, eOp, eIf, eTup, eLst, eDict0, eDict, eSl, oNo, eCall, eCB, eM, eLc, eIsi2, aNil, aCons, pNil, pCons, tAndD, tOrD, tNotD, tsYes, gMns, gMod, gFdiv, gPow, gLe, gGt, gGe, gEq_ii, gEq_ss, gEq_bb, gEq_nn, gEq_ni, gEq_in, gEq_ns, gEq_sn, gEq_si, gEq_is, sAsg, nName, sRet, sRetN, sExpr, sIf, sNext, sBreak, sCont, sFor, getS, setS, wipeS, endsD, asKeys, toKey, List.length_cons, List.length_nil, List.set_cons_zero, List.set_cons_succ, List.set_nil, Nat.zero_add, Nat.reduceAdd, Option.some.injEq, exists_and_left, exists_eq_left', exists_eq_left, id_eq, if_true, if_false, ite_true, ite_false, Bool.not_true, Bool.not_false, Bool.false_eq_true, not_false_eq_true, not_true_eq_false, reduceCtorEq, true_and, and_true, ne_eq, decide_eq_true_eq, isiN, isiCls, List.mem_cons, String.reduceEq, String.reduceBEq, or_true, true_or, or_false, false_or, Bool.or_true, Bool.true_or, Bool.false_or, Bool.or_false, Bool.and_false, Bool.false_and, Bool.true_and, Bool.and_true, beq_self_eq_true, decide_true, decide_false, tTr_e, vTru_non, vTru_bl, vTru_int, vTru_str, vTru_tup, vTru_ref, oTru_l, oTru_d, tBl_e, vBl_bl, eNeg_e, vNeg_int, eChain_e, eAnd_e, eOr_e, eNot_e, oSome_e, vSome_int, gAdd_ii, gAdd_ss, gAdd_tt, gAdd_rr, gI_ii, gI0_ii, gMulA_ii, gMulA_ri, gMulA_ti, gLt_ii, gLt_ss, gLt2_ii, gLt2_ss, eTab_e, vTab_s, eGet2_e, vGetO_r, vGet2_s, gIs_n, gIs_b, isNon_n, isNon_b, isNon_i, isNon_s, isNon_t, isNon_r, gIx_r, oIx_li, oIx_ds, oIx_di, gIx_ti, gIx_fi, gIx_si, gSl_t, gSl_s, gSl_f, gSl_r, gIn_ss, gIn_t, gIn_r, oIn_l, oIn_ds, gLen_s, gLen_t, gLen_f, gLen_r, oLen_l, oLen_d, gAbs_i, gMax2_ii, gMin2_ii, gInt1_i, gInt1_b, gList_t, gList_f, gList_r, gTuple_t, gTuple_f, gTuple_r, gSum_r, gAll_r, gIsi_x, tyD_n, tyD_b, tyD_i, tyD_s, tyD_t, tyD_f, tyD_r, oTy_l, oTy_d, tyM_s, tyM_r, oTyM_l, oTyM_d, gAppend_r, gPop0_r, gPopAt_r, gClear_r, gReverse_r, gJoin_r, gUpper_s, gStr_i, gSorted_r, iSeq_e, vSeq_r, vSeq_f, vSeq_t, vSeq_s, iRange1_e, vRng1_i, iRange2_e, vRng2_i, iZipD_e, vZip_r, vZip_t, iEnumD_e, vEnum_r, nTupL_t, nTupL_r, nCons_c, nNil_n, sSub_e, vPut_r, oPut_ds, oPut_di, oPut_l, c_wnames_4]
    refine take_spec n5 (by omega) (by decide) (by decide) fun k S5 a5 b5 n6 g6 => ?_
    have b5 : k < 26 := b5
    simp (config := {implicitDefEqProofs := false, proj := false}) only [nx_mk, rt_mk, bk_mk, ct_mk, eVar, eC, eOp, eIf, eTup, eLst, eDict0, eDict, eSl, oNo, eCall, eCB, eM, eLc, eIsi2, aNil, aCons, pNil, pCons, tAndD, tOrD, tNotD, tsYes, gMns, gMod, gFdiv, gPow, gLe, gGt, gGe, gEq_ii, gEq_ss, gEq_bb, gEq_nn, gEq_ni, gEq_in, gEq_ns, gEq_sn, gEq_si, gEq_is, sAsg, nName, sRet, sRetN, sExpr, sIf, sNext, sBreak, sCont, sFor, getS, setS, wipeS, endsD, asKeys, toKey, List.length_cons, List.length_nil, List.set_cons_zero, List.set_cons_succ, List.set_nil, Nat.zero_add, Nat.reduceAdd, Option.some.injEq, exists_and_left, exists_eq_left', exists_eq_left, id_eq, if_true, if_false, ite_true, ite_false, Bool.not_true, Bool.not_false, Bool.false_eq_true, not_false_eq_true, not_true_eq_false, reduceCtorEq, true_and, and_true, ne_eq, decide_eq_true_eq, isiN, isiCls, List.mem_cons, String.reduceEq, String.reduceBEq, or_true, true_or, or_false, false_or, Bool.or_true, Bool.true_or, Bool.false_or, Bool.or_false, Bool.and_false, Bool.false_and, Bool.true_and, Bool.and_true, beq_self_eq_true, decide_true, decide_false, tTr_e, vTru_non, vTru_bl, vTru_int, vTru_str, vTru_tup, vTru_ref, oTru_l, oTru_d, tBl_e, vBl_bl, eNeg_e, vNeg_int, eChain_e, eAnd_e, eOr_e, eNot_e, oSome_e, vSome_int, gAdd_ii, gAdd_ss, gAdd_tt, gAdd_rr, gI_ii, gI0_ii, gMulA_ii, gMulA_ri, gMulA_ti, gLt_ii, gLt_ss, gLt2_ii, gLt2_ss, eTab_e, vTab_s, eGet2_e, vGetO_r, vGet2_s, gIs_n, gIs_b, isNon_n, isNon_b, isNon_i, isNon_s, isNon_t, isNon_r, gIx_r, oIx_li, oIx_ds, oIx_di, gIx_ti, gIx_fi, gIx_si, gSl_t, gSl_s, gSl_f, gSl_r, gIn_ss, gIn_t, gIn_r, oIn_l, oIn_ds, gLen_s, gLen_t, gLen_f, gLen_r, oLen_l, oLen_d, gAbs_i, gMax2_ii, gMin2_ii, gInt1_i, gInt1_b, gList_t, gList_f, gList_r, gTuple_t, gTuple_f, gTuple_r, gSum_r, gAll_r, gIsi_x, tyD_n, tyD_b, tyD_i, tyD_s, tyD_t, tyD_f, tyD_r, oTy_l, oTy_d, tyM_s, tyM_r, oTyM_l, oTyM_d, gAppend_r, gPop0_r, gPopAt_r, gClear_r, gReverse_r, gJoin_r, gUpper_s, gStr_i, gSorted_r, iSeq_e, vSeq_r, vSeq_f, vSeq_t, vSeq_s, iRange1_e, vRng1_i, iRange2_e, vRng2_i, iZipD_e, vZip_r, vZip_t, iEnumD_e, vEnum_r, nTupL_t, nTupL_r, nCons_c, nNil_n, sSub_e, vPut_r, oPut_ds, oPut_di, oPut_l]
    refine ⟨by rw [abc_len]; exact small_line (by omega), _, abc_at (j := k.toNat) (by omega) (by omega), ?_, hN2 _ _ ⟨n6, g5.trans g6, ys ++ [⟨#[97 + k.toNat]⟩], ?_, fun y hy2 => ?_, ?_⟩⟩
    · rw [ea, List.length_map]
      exact Nat.lt_of_lt_of_le (show ys.length < 401 by omega) (by decide)
    · rw [ea, List.map_append]
      rfl
    · rcases List.mem_append.mp hy2 with hy2 | hy2
      · exact hy y hy2
      · rw [List.mem_singleton] at hy2
        subst hy2
        rfl
    · rw [List.length_append, hl]
      rfl
  case af =>
    obtain ⟨n5, g5, ys, ea, hy, hl⟩ := h3
    rw [rangeD_len] at hl n5
    subst ea
    exact q ys S4 hy hl n5 g5
theorem names_spec {p pc : Addr} {b n : Nat} {S : Sto} {Q : DK} (h : Pen S p pc b) (hb : b + 20 ≤ 100000) (hn : n ≤ 44)
    (q : ∀ (a : Addr) (zs : List Str) (S' : Sto), NmOk zs → zs.length = n → Pen S' p pc (b + 20) → S' a = some (.lst (zs.map .str)) → S a = none → Kp p S S' → Q (.ref a) S') : m_wnames [.ref p, .int (n : Nat)] S Q := by
  rw [e_wnames]
  refine seq_i ?_
  try simp (config := {implicitDefEqProofs := false, proj := false}) only [nx_mk, rt_mk, bk_mk, ct_mk, eVar, eC, eOp, eIf, eTup, eLst, eDict0, eDict, eSl, oNo, eCall, eCB, eM, eLc, eIsi2, aNil, aCons, pNil, pCons, tAndD, tOrD, tNotD, tsYes, gMns, gMod, gFdiv, gPow, gLe, gGt, gGe, gEq_ii, gEq_ss, gEq_bb, gEq_nn, gEq_ni, gEq_in, gEq_ns, gEq_sn, gEq_si, gEq_is, sAsg, nName, sRet, sRetN, sExpr, sIf, sNext, sBreak, sCont, sFor, getS, setS, wipeS, endsD, asKeys, toKey, List.length_cons, List.length_nil, List.set_cons_zero, List.set_cons_succ, List.set_nil, Nat.zero_add, Nat.reduceAdd, Option.some.injEq, exists_and_left, exists_eq_left', exists_eq_left, id_eq, if_true, if_false, ite_true, ite_false, Bool.not_true, Bool.not_false, Bool.false_eq_true, not_false_eq_true, not_true_eq_false, reduceCtorEq, true_and, and_true, ne_eq, decide_eq_true_eq, isiN, isiCls, List.mem_cons, String.reduceEq, String.reduceBEq, or_true, true_or, or_false, false_or, Bool.or_true, Bool.true_or, Bool.false_or, Bool.or_false, Bool.and_false, Bool.false_and, Bool.true_and, Bool.and_true, beq_self_eq_true, decide_true, decide_false, tTr_e, vTru_non, vTru_bl, vTru_int, vTru_str, vTru_tup, vTru_ref, oTru_l, oTru_d, tBl_e, vBl_bl, eNeg_e, vNeg_int, eChain_e, eAnd_e, eOr_e, eNot_e, oSome_e, vSome_int, gAdd_ii, gAdd_ss, gAdd_tt, gAdd_rr, gI_ii, gI0_ii, gMulA_ii, gMulA_ri, gMulA_ti, gLt_ii, gLt_ss, gLt2_ii, gLt2_ss, eTab_e, vTab_s, eGet2_e, vGetO_r, vGet2_s, gIs_n, gIs_b, isNon_n, isNon_b, isNon_i, isNon_s, isNon_t, isNon_r, gIx_r, oIx_li, oIx_ds, oIx_di, gIx_ti, gIx_fi, gIx_si, gSl_t, gSl_s, gSl_f, gSl_r, gIn_ss, gIn_t, gIn_r, oIn_l, oIn_ds, gLen_s, gLen_t, gLen_f, gLen_r, oLen_l, oLen_d, gAbs_i, gMax2_ii, gMin2_ii, gInt1_i, gInt1_b, gList_t, gList_f, gList_r, gTuple_t, gTuple_f, gTuple_r, gSum_r, gAll_r, gIsi_x, tyD_n, tyD_b, tyD_i, tyD_s, tyD_t, tyD_f, tyD_r, oTy_l, oTy_d, tyM_s, tyM_r, oTyM_l, oTyM_d, gAppend_r, gPop0_r, gPopAt_r, gClear_r, gReverse_r, gJoin_r, gUpper_s, gStr_i, gSorted_r, iSeq_e, vSeq_r, vSeq_f, vSeq_t, vSeq_s, iRange1_e, vRng1_i, iRange2_e, vRng2_i, iZipD_e, vZip_r, vZip_t, iEnumD_e, vEnum_r, nTupL_t, nTupL_r, nCons_c, nNil_n, sSub_e, vPut_r, oPut_ds, oPut_di, oPut_l]
  refine seq_i ?_
  try simp (config := {implicitDefEqProofs := false, proj := false}) only [nx_mk, rt_mk, bk_mk, ct_mk, eVar, eC, eOp, eIf, eTup, eLst, eDict0, eDict, eSl, oNo, eCall, eCB, eM, eLc, eIsi2, aNil, aCons, pNil, pCons, tAndD, tOrD, tNotD, tsYes, gMns, gMod, gFdiv, gPow, gLe, gGt, gGe, gEq_ii, gEq_ss, gEq_bb, gEq_nn, gEq_ni, gEq_in, gEq_ns, gEq_sn, gEq_si, gEq_is, sAsg, nName, sRet, sRetN, sExpr, sIf, sNext, sBreak, sCont, sFor, getS, setS, wipeS, endsD, asKeys, toKey, List.length_cons, List.length_nil, List.set_cons_zero, List.set_cons_succ, List.set_nil, Nat.zero_add, Nat.reduceAdd, Option.some.injEq, exists_and_left, exists_eq_left', exists_eq_left, id_eq, if_true, if_false, ite_true, ite_false, Bool.not_true, Bool.not_false, Bool.false_eq_true, not_false_eq_true, not_true_eq_false, reduceCtorEq, true_and, and_true, ne_eq, decide_eq_true_eq, isiN, isiCls, List.mem_cons, String.reduceEq, String.reduceBEq, or_true, true_or, or_false, false_or, Bool.or_true, Bool.true_or, Bool.false_or, Bool.or_false, Bool.and_false, Bool.false_and, Bool.true_and, Bool.and_true, beq_self_eq_true, decide_true, decide_false, tTr_e, vTru_non, vTru_bl, vTru_int, vTru_str, vTru_tup, vTru_ref, oTru_l, oTru_d, tBl_e, vBl_bl, eNeg_e, vNeg_int, eChain_e, eAnd_e, eOr_e, eNot_e, oSome_e, vSome_int, gAdd_ii, gAdd_ss, gAdd_tt, gAdd_rr, gI_ii, gI0_ii, gMulA_ii, gMulA_ri, gMulA_ti, gLt_ii, gLt_ss, gLt2_ii, gLt2_ss, eTab_e, vTab_s, eGet2_e, vGetO_r, vGet2_s, gIs_n, gIs_b, isNon_n, isNon_b, isNon_i, isNon_s, isNon_t, isNon_r, gIx_r, oIx_li, oIx_ds, oIx_di, gIx_ti, gIx_fi, gIx_si, gSl_t, gSl_s, gSl_f, gSl_r, gIn_ss, gIn_t, gIn_r, oIn_l, oIn_ds, gLen_s, gLen_t, gLen_f, gLen_r, oLen_l, oLen_d, gAbs_i, gMax2_ii, gMin2_ii, gInt1_i, gInt1_b, gList_t, gList_f, gList_r, gTuple_t, gTuple_f, gTuple_r, gSum_r, gAll_r, gIsi_x, tyD_n, tyD_b, tyD_i, tyD_s, tyD_t, tyD_f, tyD_r, oTy_l, oTy_d, tyM_s, tyM_r, oTyM_l, oTyM_d, gAppend_r, gPop0_r, gPopAt_r, gClear_r, gReverse_r, gJoin_r, gUpper_s, gStr_i, gSorted_r, iSeq_e, vSeq_r, vSeq_f, vSeq_t, vSeq_s, iRange1_e, vRng1_i, iRange2_e, vRng2_i, iZipD_e, vZip_r, vZip_t, iEnumD_e, vEnum_r, nTupL_t, nTupL_r, nCons_c, nNil_n, sSub_e, vPut_r, oPut_ds, oPut_di, oPut_l]
  refine take_spec h (by omega) (by decide) (by decide) fun way S1 w0 w1 p1 h1 => seq_i ?_
  try simp (config := {implicitDefEqProofs := false, proj := false}) only [nx_mk, rt_mk, bk_mk, ct_mk, eVar, eC, eOp, eIf, eTup, eLst, eDict0, eDict, eSl, oNo, eCall, eCB, eM, eLc, eIsi2, aNil, aCons, pNil, pCons, tAndD, tOrD, tNotD, tsYes, gMns, gMod, gFdiv, gPow, gLe, gGt, gGe, gEq_ii, gEq_ss, gEq_bb, gEq_nn, gEq_ni, gEq_in, gEq_ns, gEq_sn, gEq_si, gEq_is, sAsg, nName, sRet, sRetN, sExpr, sIf, sNext, sBreak, sCont, sFor, getS, setS, wipeS, endsD, asKeys, toKey, List.length_cons, List.length_nil, List.set_cons_zero, List.set_cons_succ, List.set_nil, Nat.zero_add, Nat.reduceAdd, Option.some.injEq, exists_and_left, exists_eq_left', exists_eq_left, id_eq, if_true, if_false, ite_true, ite_false, Bool.not_true, Bool.not_false, Bool.false_eq_true, not_false_eq_true, not_true_eq_false, reduceCtorEq, true_and, and_true, ne_eq, decide_eq_true_eq, isiN, isiCls, List.mem_cons, String.reduceEq, String.reduceBEq, or_true, true_or, or_false, false_or, Bool.or_true, Bool.true_or, Bool.false_or, Bool.or_false, Bool.and_false, Bool.false_and, Bool.true_and, Bool.and_true, beq_self_eq_true, decide_true, decide_false, tTr_e, vTru_non, vTru_bl, vTru_int, vTru_str, vTru_tup, vTru_ref, oTru_l, oTru_d, tBl_e, vBl_bl, eNeg_e, vNeg_int, eChain_e, eAnd_e, eOr_e, eNot_e, oSome_e, vSome_int, gAdd_ii, gAdd_ss, gAdd_tt, gAdd_rr, gI_ii, gI0_ii, gMulA_ii, gMulA_ri, gMulA_ti, gLt_ii, gLt_ss, gLt2_ii, gLt2_ss, eTab_e, vTab_s, eGet2_e, vGetO_r, vGet2_s, gIs_n, gIs_b, isNon_n, isNon_b, isNon_i, isNon_s, isNon_t, isNon_r, gIx_r, oIx_li, oIx_ds, oIx_di, gIx_ti, gIx_fi, gIx_si, gSl_t, gSl_s, gSl_f, gSl_r, gIn_ss, gIn_t, gIn_r, oIn_l, oIn_ds, gLen_s, gLen_t, gLen_f, gLen_r, oLen_l, oLen_d, gAbs_i, gMax2_ii, gMin2_ii, gInt1_i, gInt1_b, gList_t, gList_f, gList_r, gTuple_t, gTuple_f, gTuple_r, gSum_r, gAll_r, gIsi_x, tyD_n, tyD_b, tyD_i, tyD_s, tyD_t, tyD_f, tyD_r, oTy_l, oTy_d, tyM_s, tyM_r, oTyM_l, oTyM_d, gAppend_r, gPop0_r, gPopAt_r, gClear_r, gReverse_r, gJoin_r, gUpper_s, gStr_i, gSorted_r, iSeq_e, vSeq_r, vSeq_f, vSeq_t, vSeq_s, iRange1_e, vRng1_i, iRange2_e, vRng2_i, iZipD_e, vZip_r, vZip_t, iEnumD_e, vEnum_r, nTupL_t, nTupL_r, nCons_c, nNil_n, sSub_e, vPut_r, oPut_ds, oPut_di, oPut_l]
  refine take_spec p1 (by omega) (by decide) (by decide) fun tt S2 t0 t1 p2 h2 => seq_i ?_
  obtain ⟨t, rfl⟩ : ∃ t : Nat, tt = (t : Nat) := ⟨tt.toNat, by omega⟩
  try simp (config := {implicitDefEqProofs := false, proj := false}) only [nx_mk, rt_mk, bk_mk, ct_mk, eVar, eC, eOp, eIf, eTup, eLst, eDict0, eDict, eSl, oNo, eCall, eCB, eM, eLc, eIsi2, aNil, aCons, pNil, pCons, tAndD, tOrD, tNotD, tsYes, gMns, gMod, gFdiv, gPow, gLe, gGt, gGe, gEq_ii, gEq_ss, gEq_bb, gEq_nn, gEq_ni, gEq_in, gEq_ns, gEq_sn, gEq_si, gEq_is, sAsg, nName, sRet, sRetN, sExpr, sIf, sNext, sBreak, sCont, sFor, getS, setS, wipeS, endsD, asKeys, toKey, List.length_cons, List.length_nil, List.set_cons_zero, List.set_cons_succ, List.set_nil, Nat.zero_add, Nat.reduceAdd, Option.some.injEq, exists_and_left, exists_eq_left', exists_eq_left, id_eq, if_true, if_false, ite_true, ite_false, Bool.not_true, Bool.not_false, Bool.false_eq_true, not_false_eq_true, not_true_eq_false, reduceCtorEq, true_and, and_true, ne_eq, decide_eq_true_eq, isiN, isiCls, List.mem_cons, String.reduceEq, String.reduceBEq, or_true, true_or, or_false, false_or, Bool.or_true, Bool.true_or, Bool.false_or, Bool.or_false, Bool.and_false, Bool.false_and, Bool.true_and, Bool.and_true, beq_self_eq_true, decide_true, decide_false, tTr_e, vTru_non, vTru_bl, vTru_int, vTru_str, vTru_tup, vTru_ref, oTru_l, oTru_d, tBl_e, vBl_bl, eNeg_e, vNeg_int, eChain_e, eAnd_e, eOr_e, eNot_e, oSome_e, vSome_int, gAdd_ii, gAdd_ss, gAdd_tt, gAdd_rr, gI_ii, gI0_ii, gMulA_ii, gMulA_ri, gMulA_ti, gLt_ii, gLt_ss, gLt2_ii, gLt2_ss, eTab_e, vTab_s, eGet2_e, vGetO_r, vGet2_s, gIs_n, gIs_b, isNon_n, isNon_b, isNon_i, isNon_s, isNon_t, isNon_r, gIx_r, oIx_li, oIx_ds, oIx_di, gIx_ti, gIx_fi, gIx_si, gSl_t, gSl_s, gSl_f, gSl_r, gIn_ss, gIn_t, gIn_r, oIn_l, oIn_ds, gLen_s, gLen_t, gLen_f, gLen_r, oLen_l, oLen_d, gAbs_i, gMax2_ii, gMin2_ii, gInt1_i, gInt1_b, gList_t, gList_f, gList_r, gTuple_t, gTuple_f, gTuple_r, gSum_r, gAll_r, gIsi_x, tyD_n, tyD_b, tyD_i, tyD_s, tyD_t, tyD_f, tyD_r, oTy_l, oTy_d, tyM_s, tyM_r, oTyM_l, oTyM_d, gAppend_r, gPop0_r, gPopAt_r, gClear_r, gReverse_r, gJoin_r, gUpper_s, gStr_i, gSorted_r, iSeq_e, vSeq_r, vSeq_f, vSeq_t, vSeq_s, iRange1_e, vRng1_i, iRange2_e, vRng2_i, iZipD_e, vZip_r, vZip_t, iEnumD_e, vEnum_r, nTupL_t, nTupL_r, nCons_c, nNil_n, sSub_e, vPut_r, oPut_ds, oPut_di, oPut_l]
  refine take_spec p2 (by omega) (by decide) (by decide) fun k S3 k0 k1 p3 h3 => ?_
  have k1 : k < 7 := k1
  have w1 : way < 3 := w1
  try simp (config := {implicitDefEqProofs := false, proj := false}) only [nx_mk, rt_mk, bk_mk, ct_mk, eVar, eC, eOp, eIf, eTup, eLst, eDict0, eDict, eSl, oNo, eCall, eCB, eM, eLc, eIsi2, aNil, aCons, pNil, pCons, tAndD, tOrD, tNotD, tsYes, gMns, gMod, gFdiv, gPow, gLe, gGt, gGe, gEq_ii, gEq_ss, gEq_bb, gEq_nn, gEq_ni, gEq_in, gEq_ns, gEq_sn, gEq_si, gEq_is, sAsg, nName, sRet, sRetN, sExpr, sIf, sNext, sBreak, sCont, sFor, getS, setS, wipeS, endsD, asKeys, toKey, List.length_cons, List.length_nil, List.set_cons_zero, List.set_cons_succ, List.set_nil, Nat.zero_add, Nat.reduceAdd, Option.some.injEq, exists_and_left, exists_eq_left', exists_eq_left, id_eq, if_true, if_false, ite_true, ite_false, Bool.not_true, Bool.not_false, Bool.false_eq_true, not_false_eq_true, not_true_eq_false, reduceCtorEq, true_and, and_true, ne_eq, decide_eq_true_eq, isiN, isiCls, List.mem_cons, String.reduceEq, String.reduceBEq, or_true, true_or, or_false, false_or, Bool.or_true, Bool.true_or, Bool.false_or, Bool.or_false, Bool.and_false, Bool.false_and, Bool.true_and, Bool.and_true, beq_self_eq_true, decide_true, decide_false, tTr_e, vTru_non, vTru_bl, vTru_int, vTru_str, vTru_tup, vTru_ref, oTru_l, oTru_d, tBl_e, vBl_bl, eNeg_e, vNeg_int, eChain_e, eAnd_e, eOr_e, eNot_e, oSome_e, vSome_int, gAdd_ii, gAdd_ss, gAdd_tt, gAdd_rr, gI_ii, gI0_ii, gMulA_ii, gMulA_ri, gMulA_ti, gLt_ii, gLt_ss, gLt2_ii, gLt2_ss, eTab_e, vTab_s, eGet2_e, vGetO_r, vGet2_s, gIs_n, gIs_b, isNon_n, isNon_b, isNon_i, isNon_s, isNon_t, isNon_r, gIx_r, oIx_li, oIx_ds, oIx_di, gIx_ti, gIx_fi, gIx_si, gSl_t, gSl_s, gSl_f, gSl_r, gIn_ss, gIn_t, gIn_r, oIn_l, oIn_ds, gLen_s, gLen_t, gLen_f, gLen_r, oLen_l, oLen_d, gAbs_i, gMax2_ii, gMin2_ii, gInt1_i, gInt1_b, gList_t, gList_f, gList_r, gTuple_t, gTuple_f, gTuple_r, gSum_r, gAll_r, gIsi_x, tyD_n, tyD_b, tyD_i, tyD_s, tyD_t, tyD_f, tyD_r, oTy_l, oTy_d, tyM_s, tyM_r, oTyM_l, oTyM_d, gAppend_r, gPop0_r, gPopAt_r, gClear_r, gReverse_r, gJoin_r, gUpper_s, gStr_i, gSorted_r, iSeq_e, vSeq_r, vSeq_f, vSeq_t, vSeq_s, iRange1_e, vRng1_i, iRange2_e, vRng2_i, iZipD_e, vZip_r, vZip_t, iEnumD_e, vEnum_r, nTupL_t, nTupL_r, nCons_c, nNil_n, sSub_e, vPut_r, oPut_ds, oPut_di, oPut_l]
  refine ⟨by decide, fun c0 hc0 => ?_⟩
  have hm : ∃ m : Nat, m ≤ 6 ∧ atI [D.int k, D.int 0, D.int 6] way = some (.int (m : Nat)) := by
    obtain ⟨j, rfl⟩ : ∃ j : Nat, way = (j : Nat) := ⟨way.toNat, by omega⟩
    match j, w1 with
    | 0, _ => exact ⟨k.toNat, by omega, by rw [show ((k.toNat : Nat) : Int) = k by omega]; rfl⟩
    | 1, _ => exact ⟨0, by omega, rfl⟩
    | 2, _ => exact ⟨6, by omega, rfl⟩
    | j + 3, h => exact absurd h (by omega)
  obtain ⟨m, hm6, hm⟩ := hm
  rw [updS_same, oIx_li]
  refine ⟨_, hm, ?_⟩
  try simp (config := {implicitDefEqProofs := false, proj := false}) only [nx_mk, rt_mk, bk_mk, ct_mk, eVar, eC, eOp, eIf, eTup, eLst, eDict0, eDict, eSl, oNo, eCall, eCB, eM, eLc, eIsi2, aNil, aCons, pNil, pCons, tAndD, tOrD, tNotD, tsYes, gMns, gMod, gFdiv, gPow, gLe, gGt, gGe, gEq_ii, gEq_ss, gEq_bb, gEq_nn, gEq_ni, gEq_in, gEq_ns, gEq_sn, gEq_si, gEq_is, sAsg, nName, sRet, sRetN, sExpr, sIf, sNext, sBreak, sCont, sFor, getS, setS, wipeS, endsD, asKeys, toKey, List.length_cons, List.length_nil, List.set_cons_zero, List.set_cons_succ, List.set_nil, Nat.zero_add, Nat.reduceAdd, Option.some.injEq, exists_and_left, exists_eq_left', exists_eq_left, id_eq, if_true, if_false, ite_true, ite_false, Bool.not_true, Bool.not_false, Bool.false_eq_true, not_false_eq_true, not_true_eq_false, reduceCtorEq, true_and, and_true, ne_eq, decide_eq_true_eq, isiN, isiCls, List.mem_cons, String.reduceEq, String.reduceBEq, or_true, true_or, or_false, false_or, Bool.or_true, Bool.true_or, Bool.false_or, Bool.or_false, Bool.and_false, Bool.false_and, Bool.true_and, Bool.and_true, beq_self_eq_true, decide_true, decide_false, tTr_e, vTru_non, vTru_bl, vTru_int, vTru_str, vTru_tup, vTru_ref, oTru_l, oTru_d, tBl_e, vBl_bl, eNeg_e, vNeg_int, eChain_e, eAnd_e, eOr_e, eNot_e, oSome_e, vSome_int, gAdd_ii, gAdd_ss, gAdd_tt, gAdd_rr, gI_ii, gI0_ii, gMulA_ii, gMulA_ri, gMulA_ti, gLt_ii, gLt_ss, gLt2_ii, gLt2_ss, eTab_e, vTab_s, eGet2_e, vGetO_r, vGet2_s, gIs_n, gIs_b, isNon_n, isNon_b, isNon_i, isNon_s, isNon_t, isNon_r, gIx_r, oIx_li, oIx_ds, oIx_di, gIx_ti, gIx_fi, gIx_si, gSl_t, gSl_s, gSl_f, gSl_r, gIn_ss, gIn_t, gIn_r, oIn_l, oIn_ds, gLen_s, gLen_t, gLen_f, gLen_r, oLen_l, oLen_d, gAbs_i, gMax2_ii, gMin2_ii, gInt1_i, gInt1_b, gList_t, gList_f, gList_r, gTuple_t, gTuple_f, gTuple_r, gSum_r, gAll_r, gIsi_x, tyD_n, tyD_b, tyD_i, tyD_s, tyD_t, tyD_f, tyD_r, oTy_l, oTy_d, tyM_s, tyM_r, oTyM_l, oTyM_d, gAppend_r, gPop0_r, gPopAt_r, gClear_r, gReverse_r, gJoin_r, gUpper_s, gStr_i, gSorted_r, iSeq_e, vSeq_r, vSeq_f, vSeq_t, vSeq_s, iRange1_e, vRng1_i, iRange2_e, vRng2_i, iZipD_e, vZip_r, vZip_t, iEnumD_e, vEnum_r, nTupL_t, nTupL_r, nCons_c, nNil_n, sSub_e, vPut_r, oPut_ds, oPut_di, oPut_l]
  refine ⟨by omega, by omega, ?_⟩
  rw [Int.toNat_natCast]
  have g3 : Kp p S (updS S3 c0 (.lst [.int k, .int 0, .int 6])) := ((h1.trans h2).trans h3).trans (.new hc0)
  refine base_spec (p3.new hc0) hm6 (by omega) fun ys S4 hy hl p4 h4 p5 hp5 => ⟨ys, updS_same, ?_, ?_⟩
  · rw [sum_ones hy, hl, show (Str.ofString "").length = 0 from by decide +kernel]
    omega
  have hB : (Txt.join "" ys).length ≤ 6 := by rw [len_join hy, hl]; exact hm6
  generalize Txt.join "" ys = B at hB
  refine seq_i ?_
  try simp (config := {implicitDefEqProofs := false, proj := false}) only [nx_mk, rt_mk, bk_mk, ct_mk, eVar, eC, eOp, eIf, eTup, eLst, eDict0, eDict, eSl, oNo, eCall, eCB, eM, eLc, eIsi2, aNil, aCons, pNil, pCons, tAndD, tOrD, tNotD, tsYes, gMns, gMod, gFdiv, gPow, gLe, gGt, gGe, gEq_ii, gEq_ss, gEq_bb, gEq_nn, gEq_ni, gEq_in, gEq_ns, gEq_sn, gEq_si, gEq_is, sAsg, nName, sRet, sRetN, sExpr, sIf, sNext, sBreak, sCont, sFor, getS, setS, wipeS, endsD, asKeys, toKey, List.length_cons, List.length_nil, List.set_cons_zero, List.set_cons_succ, List.set_nil, Nat.zero_add, Nat.reduceAdd, Option.some.injEq, exists_and_left, exists_eq_left', exists_eq_left, id_eq, if_true, if_false, ite_true, ite_false, Bool.not_true, Bool.not_false, Bool.false_eq_true, not_false_eq_true, not_true_eq_false, reduceCtorEq, true_and, and_true, ne_eq, decide_eq_true_eq, isiN, isiCls, List.mem_cons, String.reduceEq, String.reduceBEq, or_true, true_or, or_false, false_or, Bool.or_true, Bool.true_or, Bool.false_or, Bool.or_false, Bool.and_false, Bool.false_and, Bool.true_and, Bool.and_true, beq_self_eq_true, decide_true, decide_false, tTr_e, vTru_non, vTru_bl, vTru_int, vTru_str, vTru_tup, vTru_ref, oTru_l, oTru_d, tBl_e, vBl_bl, eNeg_e, vNeg_int, eChain_e, eAnd_e, eOr_e, eNot_e, oSome_e, vSome_int, gAdd_ii, gAdd_ss, gAdd_tt, gAdd_rr, gI_ii, gI0_ii, gMulA_ii, gMulA_ri, gMulA_ti, gLt_ii, gLt_ss, gLt2_ii, gLt2_ss, eTab_e, vTab_s, eGet2_e, vGetO_r, vGet2_s, gIs_n, gIs_b, isNon_n, isNon_b, isNon_i, isNon_s, isNon_t, isNon_r, gIx_r, oIx_li, oIx_ds, oIx_di, gIx_ti, gIx_fi, gIx_si, gSl_t, gSl_s, gSl_f, gSl_r, gIn_ss, gIn_t, gIn_r, oIn_l, oIn_ds, gLen_s, gLen_t, gLen_f, gLen_r, oLen_l, oLen_d, gAbs_i, gMax2_ii, gMin2_ii, gInt1_i, gInt1_b, gList_t, gList_f, gList_r, gTuple_t, gTuple_f, gTuple_r, gSum_r, gAll_r, gIsi_x, tyD_n, tyD_b, tyD_i, tyD_s, tyD_t, tyD_f, tyD_r, oTy_l, oTy_d, tyM_s, tyM_r, oTyM_l, oTyM_d, gAppend_r, gPop0_r, gPopAt_r, gClear_r, gReverse_r, gJoin_r, gUpper_s, gStr_i, gSorted_r, iSeq_e, vSeq_r, vSeq_f, vSeq_t, vSeq_s, iRange1_e, vRng1_i, iRange2_e, vRng2_i, iZipD_e, vZip_r, vZip_t, iEnumD_e, vEnum_r, nTupL_t, nTupL_r, nCons_c, nNil_n, sSub_e, vPut_r, oPut_ds, oPut_di, oPut_l]
  refine ⟨small_line (by omega), ?_⟩
  refine take_spec (p4.new hp5) (by omega) (by omega) ?_ fun sp S6 s0 s1 p6 h6 => ?_
  · have : ((B.length : Int) + 1).natAbs ≤ 7 := by omega
    refine Nat.lt_of_le_of_lt (Nat.log2_le_self _) (by omega)
  obtain ⟨sp, rfl⟩ : ∃ j : Nat, sp = (j : Nat) := ⟨sp.toNat, by omega⟩
  refine seq_i ?_
  try simp (config := {implicitDefEqProofs := false, proj := false}) only [nx_mk, rt_mk, bk_mk, ct_mk, eVar, eC, eOp, eIf, eTup, eLst, eDict0, eDict, eSl, oNo, eCall, eCB, eM, eLc, eIsi2, aNil, aCons, pNil, pCons, tAndD, tOrD, tNotD, tsYes, gMns, gMod, gFdiv, gPow, gLe, gGt, gGe, gEq_ii, gEq_ss, gEq_bb, gEq_nn, gEq_ni, gEq_in, gEq_ns, gEq_sn, gEq_si, gEq_is, sAsg, nName, sRet, sRetN, sExpr, sIf, sNext, sBreak, sCont, sFor, getS, setS, wipeS, endsD, asKeys, toKey, List.length_cons, List.length_nil, List.set_cons_zero, List.set_cons_succ, List.set_nil, Nat.zero_add, Nat.reduceAdd, Option.some.injEq, exists_and_left, exists_eq_left', exists_eq_left, id_eq, if_true, if_false, ite_true, ite_false, Bool.not_true, Bool.not_false, Bool.false_eq_true, not_false_eq_true, not_true_eq_false, reduceCtorEq, true_and, and_true, ne_eq, decide_eq_true_eq, isiN, isiCls, List.mem_cons, String.reduceEq, String.reduceBEq, or_true, true_or, or_false, false_or, Bool.or_true, Bool.true_or, Bool.false_or, Bool.or_false, Bool.and_false, Bool.false_and, Bool.true_and, Bool.and_true, beq_self_eq_true, decide_true, decide_false, tTr_e, vTru_non, vTru_bl, vTru_int, vTru_str, vTru_tup, vTru_ref, oTru_l, oTru_d, tBl_e, vBl_bl, eNeg_e, vNeg_int, eChain_e, eAnd_e, eOr_e, eNot_e, oSome_e, vSome_int, gAdd_ii, gAdd_ss, gAdd_tt, gAdd_rr, gI_ii, gI0_ii, gMulA_ii, gMulA_ri, gMulA_ti, gLt_ii, gLt_ss, gLt2_ii, gLt2_ss, eTab_e, vTab_s, eGet2_e, vGetO_r, vGet2_s, gIs_n, gIs_b, isNon_n, isNon_b, isNon_i, isNon_s, isNon_t, isNon_r, gIx_r, oIx_li, oIx_ds, oIx_di, gIx_ti, gIx_fi, gIx_si, gSl_t, gSl_s, gSl_f, gSl_r, gIn_ss, gIn_t, gIn_r, oIn_l, oIn_ds, gLen_s, gLen_t, gLen_f, gLen_r, oLen_l, oLen_d, gAbs_i, gMax2_ii, gMin2_ii, gInt1_i, gInt1_b, gList_t, gList_f, gList_r, gTuple_t, gTuple_f, gTuple_r, gSum_r, gAll_r, gIsi_x, tyD_n, tyD_b, tyD_i, tyD_s, tyD_t, tyD_f, tyD_r, oTy_l, oTy_d, tyM_s, tyM_r, oTyM_l, oTyM_d, gAppend_r, gPop0_r, gPopAt_r, gClear_r, gReverse_r, gJoin_r, gUpper_s, gStr_i, gSorted_r, iSeq_e, vSeq_r, vSeq_f, vSeq_t, vSeq_s, iRange1_e, vRng1_i, iRange2_e, vRng2_i, iZipD_e, vZip_r, vZip_t, iEnumD_e, vEnum_r, nTupL_t, nTupL_r, nCons_c, nNil_n, sSub_e, vPut_r, oPut_ds, oPut_di, oPut_l]
  refine ⟨nil_line, fun a ha => seq_i ?_⟩
  try simp (config := {implicitDefEqProofs := false, proj := false}) only [nx_mk, rt_mk, bk_mk, ct_mk, eVar, eC, eOp, eIf, eTup, eLst, eDict0, eDict, eSl, oNo, eCall, eCB, eM, eLc, eIsi2, aNil, aCons, pNil, pCons, tAndD, tOrD, tNotD, tsYes, gMns, gMod, gFdiv, gPow, gLe, gGt, gGe, gEq_ii, gEq_ss, gEq_bb, gEq_nn, gEq_ni, gEq_in, gEq_ns, gEq_sn, gEq_si, gEq_is, sAsg, nName, sRet, sRetN, sExpr, sIf, sNext, sBreak, sCont, sFor, getS, setS, wipeS, endsD, asKeys, toKey, List.length_cons, List.length_nil, List.set_cons_zero, List.set_cons_succ, List.set_nil, Nat.zero_add, Nat.reduceAdd, Option.some.injEq, exists_and_left, exists_eq_left', exists_eq_left, id_eq, if_true, if_false, ite_true, ite_false, Bool.not_true, Bool.not_false, Bool.false_eq_true, not_false_eq_true, not_true_eq_false, reduceCtorEq, true_and, and_true, ne_eq, decide_eq_true_eq, isiN, isiCls, List.mem_cons, String.reduceEq, String.reduceBEq, or_true, true_or, or_false, false_or, Bool.or_true, Bool.true_or, Bool.false_or, Bool.or_false, Bool.and_false, Bool.false_and, Bool.true_and, Bool.and_true, beq_self_eq_true, decide_true, decide_false, tTr_e, vTru_non, vTru_bl, vTru_int, vTru_str, vTru_tup, vTru_ref, oTru_l, oTru_d, tBl_e, vBl_bl, eNeg_e, vNeg_int, eChain_e, eAnd_e, eOr_e, eNot_e, oSome_e, vSome_int, gAdd_ii, gAdd_ss, gAdd_tt, gAdd_rr, gI_ii, gI0_ii, gMulA_ii, gMulA_ri, gMulA_ti, gLt_ii, gLt_ss, gLt2_ii, gLt2_ss, eTab_e, vTab_s, eGet2_e, vGetO_r, vGet2_s, gIs_n, gIs_b, isNon_n, isNon_b, isNon_i, isNon_s, isNon_t, isNon_r, gIx_r, oIx_li, oIx_ds, oIx_di, gIx_ti, gIx_fi, gIx_si, gSl_t, gSl_s, gSl_f, gSl_r, gIn_ss, gIn_t, gIn_r, oIn_l, oIn_ds, gLen_s, gLen_t, gLen_f, gLen_r, oLen_l, oLen_d, gAbs_i, gMax2_ii, gMin2_ii, gInt1_i, gInt1_b, gList_t, gList_f, gList_r, gTuple_t, gTuple_f, gTuple_r, gSum_r, gAll_r, gIsi_x, tyD_n, tyD_b, tyD_i, tyD_s, tyD_t, tyD_f, tyD_r, oTy_l, oTy_d, tyM_s, tyM_r, oTyM_l, oTyM_d, gAppend_r, gPop0_r, gPopAt_r, gClear_r, gReverse_r, gJoin_r, gUpper_s, gStr_i, gSorted_r, iSeq_e, vSeq_r, vSeq_f, vSeq_t, vSeq_s, iRange1_e, vRng1_i, iRange2_e, vRng2_i, iZipD_e, vZip_r, vZip_t, iEnumD_e, vEnum_r, nTupL_t, nTupL_r, nCons_c, nNil_n, sSub_e, vPut_r, oPut_ds, oPut_di, oPut_l]
  refine ⟨by omega, by omega, ?_⟩
  have p7 := p6.new (o := .lst []) ha
  have g7 : Kp p S (updS S6 a (.lst [])) := ((g3.trans h4).trans (.new hp5)).trans (h6.trans (.new ha))
  have sa : S a = none := by
    have ⟨n1, _⟩ := p6.ne ha
    cases e : S a with
    | none => rfl
    | some o => have := (((g3.trans h4).trans (.new hp5)).trans h6) a o n1 e; rw [ha] at this; cases this
  have ⟨nap, nac⟩ := p6.ne ha
  have ha0 : updS S6 a (.lst []) a = some (.lst []) := updS_same
  generalize updS S6 a (.lst []) = S7 at p7 g7 ha0
  have bump : b + 1 + 1 + 1 + m + 1 ≤ b + 10 := by omega
  refine forR_inv 0 n (fun i σ S' => (∃ u8 u10 u11, σ = [some (.ref p), some (.int (n : Nat)), some (.str abc), some (.int way), some (.int (t : Nat)), some (.str B), some (.int (sp : Nat)), some (.ref a), u8, none, u10, u11]) ∧ Pen S' p pc (b + 10) ∧ Kp p S S' ∧ S' a = some (.lst ((namesS way B.cps.toList sp t i).map .str)))
    (fun _ _ _ _ => trivial) (fun i σ S' N hi hI hN => ?turn) (fun σ S' hI => ?fin) ⟨⟨none, none, none, rfl⟩, p7.mono (by omega), g7, ha0⟩
  case turn =>
    obtain ⟨⟨u8, u10, u11, rfl⟩, pi, gi, ai⟩ := hI
    try simp (config := {implicitDefEqProofs := false, proj := false}) only [nx_mk, rt_mk, bk_mk, ct_mk, eVar, eC, eOp, eIf, eTup, eLst, eDict0, eDict, eSl, oNo, eCall, eCB, eM, eLc, eIsi2, aNil, aCons, pNil, pCons, tAndD, tOrD, tNotD, tsYes, gMns, gMod, gFdiv, gPow, gLe, gGt, gGe, gEq_ii, gEq_ss, gEq_bb, gEq_nn, gEq_ni, gEq_in, gEq_ns, gEq_sn, gEq_si, gEq_is, sAsg, nName, sRet, sRetN, sExpr, sIf, sNext, sBreak, sCont, sFor, getS, setS, wipeS, endsD, asKeys, toKey, List.length_cons, List.length_nil, List.set_cons_zero, List.set_cons_succ, List.set_nil, Nat.zero_add, Nat.reduceAdd, Option.some.injEq, exists_and_left, exists_eq_left', exists_eq_left, id_eq, if_true, if_false, ite_true, ite_false, Bool.not_true, Bool.not_false, Bool.false_eq_true, not_false_eq_true, not_true_eq_false, reduceCtorEq, true_and, and_true, ne_eq, decide_eq_true_eq, isiN, isiCls, List.mem_cons, String.reduceEq, String.reduceBEq, or_true, true_or, or_false, false_or, Bool.or_true, Bool.true_or, Bool.false_or, Bool.or_false, Bool.and_false, Bool.false_and, Bool.true_and, Bool.and_true, beq_self_eq_true, decide_true, decide_false, tTr_e, vTru_non, vTru_bl, vTru_int, vTru_str, vTru_tup, vTru_ref, oTru_l, oTru_d, tBl_e, vBl_bl, eNeg_e, vNeg_int, eChain_e, eAnd_e, eOr_e, eNot_e, oSome_e, vSome_int, gAdd_ii, gAdd_ss, gAdd_tt, gAdd_rr, gI_ii, gI0_ii, gMulA_ii, gMulA_ri, gMulA_ti, gLt_ii, gLt_ss, gLt2_ii, gLt2_ss, eTab_e, vTab_s, eGet2_e, vGetO_r, vGet2_s, gIs_n, gIs_b, isNon_n, isNon_b, isNon_i, isNon_s, isNon_t, isNon_r, gIx_r, oIx_li, oIx_ds, oIx_di, gIx_ti, gIx_fi, gIx_si, gSl_t, gSl_s, gSl_f, gSl_r, gIn_ss, gIn_t, gIn_r, oIn_l, oIn_ds, gLen_s, gLen_t, gLen_f, gLen_r, oLen_l, oLen_d, gAbs_i, gMax2_ii, gMin2_ii, gInt1_i, gInt1_b, gList_t, gList_f, gList_r, gTuple_t, gTuple_f, gTuple_r, gSum_r, gAll_r, gIsi_x, tyD_n, tyD_b, tyD_i, tyD_s, tyD_t, tyD_f, tyD_r, oTy_l, oTy_d, tyM_s, tyM_r, oTyM_l, oTyM_d, gAppend_r, gPop0_r, gPopAt_r, gClear_r, gReverse_r, gJoin_r, gUpper_s, gStr_i, gSorted_r, iSeq_e, vSeq_r, vSeq_f, vSeq_t, vSeq_s, iRange1_e, vRng1_i, iRange2_e, vRng2_i, iZipD_e, vZip_r, vZip_t, iEnumD_e, vEnum_r, nTupL_t, nTupL_r, nCons_c, nNil_n, sSub_e, vPut_r, oPut_ds, oPut_di, oPut_l]
    rw [Int.zero_add]
    refine name_turn (by omega) (by omega) hB (by omega) ai (by rw [List.length_map]; unfold namesS; rw [List.length_map, List.length_range]; omega) fun u11 => ?_
    refine hN _ _ ⟨⟨_, _, _, rfl⟩, ?_, ?_, ?_⟩
    · obtain ⟨ns, y, l, e1, e3, e4⟩ := pi.ex
      exact ⟨ns, y, l, by rw [updS_ne (Ne.symm nap)]; exact e1, by rw [updS_ne (Ne.symm nac)]; exact e3, e4⟩
    · intro z o hz e
      rw [updS_ne (neS e sa)]
      exact gi z o hz e
    · rw [updS_same]
      unfold namesS
      rw [List.range_succ, List.map_append, List.map_append]
      rfl
  case fin =>
    obtain ⟨⟨u8, u10, u11, rfl⟩, pi, gi, ai⟩ := hI
    refine seq_i ?_
    try simp (config := {implicitDefEqProofs := false, proj := false}) only [nx_mk, rt_mk, bk_mk, ct_mk, eVar, eC, eOp, eIf, eTup, eLst, eDict0, eDict, eSl, oNo, eCall, eCB, eM, eLc, eIsi2, aNil, aCons, pNil, pCons, tAndD, tOrD, tNotD, tsYes, gMns, gMod, gFdiv, gPow, gLe, gGt, gGe, gEq_ii, gEq_ss, gEq_bb, gEq_nn, gEq_ni, gEq_in, gEq_ns, gEq_sn, gEq_si, gEq_is, sAsg, nName, sRet, sRetN, sExpr, sIf, sNext, sBreak, sCont, sFor, getS, setS, wipeS, endsD, asKeys, toKey, List.length_cons, List.length_nil, List.set_cons_zero, List.set_cons_succ, List.set_nil, Nat.zero_add, Nat.reduceAdd, Option.some.injEq, exists_and_left, exists_eq_left', exists_eq_left, id_eq, if_true, if_false, ite_true, ite_false, Bool.not_true, Bool.not_false, Bool.false_eq_true, not_false_eq_true, not_true_eq_false, reduceCtorEq, true_and, and_true, ne_eq, decide_eq_true_eq, isiN, isiCls, List.mem_cons, String.reduceEq, String.reduceBEq, or_true, true_or, or_false, false_or, Bool.or_true, Bool.true_or, Bool.false_or, Bool.or_false, Bool.and_false, Bool.false_and, Bool.true_and, Bool.and_true, beq_self_eq_true, decide_true, decide_false, tTr_e, vTru_non, vTru_bl, vTru_int, vTru_str, vTru_tup, vTru_ref, oTru_l, oTru_d, tBl_e, vBl_bl, eNeg_e, vNeg_int, eChain_e, eAnd_e, eOr_e, eNot_e, oSome_e, vSome_int, gAdd_ii, gAdd_ss, gAdd_tt, gAdd_rr, gI_ii, gI0_ii, gMulA_ii, gMulA_ri, gMulA_ti, gLt_ii, gLt_ss, gLt2_ii, gLt2_ss, eTab_e, vTab_s, eGet2_e, vGetO_r, vGet2_s, gIs_n, gIs_b, isNon_n, isNon_b, isNon_i, isNon_s, isNon_t, isNon_r, gIx_r, oIx_li, oIx_ds, oIx_di, gIx_ti, gIx_fi, gIx_si, gSl_t, gSl_s, gSl_f, gSl_r, gIn_ss, gIn_t, gIn_r, oIn_l, oIn_ds, gLen_s, gLen_t, gLen_f, gLen_r, oLen_l, oLen_d, gAbs_i, gMax2_ii, gMin2_ii, gInt1_i, gInt1_b, gList_t, gList_f, gList_r, gTuple_t, gTuple_f, gTuple_r, gSum_r, gAll_r, gIsi_x, tyD_n, tyD_b, tyD_i, tyD_s, tyD_t, tyD_f, tyD_r, oTy_l, oTy_d, tyM_s, tyM_r, oTyM_l, oTyM_d, gAppend_r, gPop0_r, gPopAt_r, gClear_r, gReverse_r, gJoin_r, gUpper_s, gStr_i, gSorted_r, iSeq_e, vSeq_r, vSeq_f, vSeq_t, vSeq_s, iRange1_e, vRng1_i, iRange2_e, vRng2_i, iZipD_e, vZip_r, vZip_t, iEnumD_e, vEnum_r, nTupL_t, nTupL_r, nCons_c, nNil_n, sSub_e, vPut_r, oPut_ds, oPut_di, oPut_l]
    refine ⟨by decide, fun c hc => ?_⟩
    have ⟨ncp, ncc⟩ := pi.ne hc
    have nca : c ≠ a := Ne.symm (neS ai hc)
    generalize hS9 : updS S' c _ = S9
    have pc1 : Pen S9 p pc (b + 10) := by rw [← hS9]; exact pi.new hc
    have ac1 : S9 a = some (.lst ((namesS way B.cps.toList sp t n).map .str)) := by rw [← hS9, updS_ne (Ne.symm nca)]; exact ai
    have cc1 : S9 c = some (.lst (termsL.map .str)) := by rw [← hS9, updS_same]; rfl
    have gc1 : Kp p S S9 := by rw [← hS9]; exact gi.trans (.new hc)
    have hz : NmOk (namesS way B.cps.toList sp t n) := by
      refine ⟨names_nodup (by omega), fun z hz => ?_⟩
      unfold namesS at hz
      obtain ⟨k, hk, rfl⟩ := List.mem_map.mp hz
      rw [List.mem_range] at hk
      unfold nameS
      rw [ofL_len]
      have := nameL_len (way := way) (B := B.cps.toList) (sp := sp) (t := t) (k := k) (by rw [Array.length_toList]; exact hB)
      omega
    have hzl : (namesS way B.cps.toList sp t n).length = n := by unfold namesS; rw [List.length_map, List.length_range]
    generalize namesS way B.cps.toList sp t n = zs at hz hzl ac1
    simp (config := {implicitDefEqProofs := false, proj := false}) only [nx_mk, rt_mk, bk_mk, ct_mk, eVar, eC, eOp, eIf, eTup, eLst, eDict0, eDict, eSl, oNo, eCall, eCB, eM, eLc, eIsi2, aNil, aCons, pNil, pCons, tAndD, tOrD, tNotD, tsYes, gMns, gMod, gFdiv, gPow, gLe, gGt, gGe, gEq_ii, gEq_ss, gEq_bb, gEq_nn, gEq_ni, gEq_in, gEq_ns, gEq_sn, gEq_si, gEq_is, sAsg, nName, sRet, sRetN, sExpr, sIf, sNext, sBreak, sCont, sFor, getS, setS, wipeS, endsD, asKeys, toKey, List.length_cons, List.length_nil, List.set_cons_zero, List.set_cons_succ, List.set_nil, Nat.zero_add, Nat.reduceAdd, Option.some.injEq, exists_and_left, exists_eq_left', exists_eq_left, id_eq, if_true, if_false, ite_true, ite_false, Bool.not_true, Bool.not_false, Bool.false_eq_true, not_false_eq_true, not_true_eq_false, reduceCtorEq, true_and, and_true, ne_eq, decide_eq_true_eq, isiN, isiCls, List.mem_cons, String.reduceEq, String.reduceBEq, or_true, true_or, or_false, false_or, Bool.or_true, Bool.true_or, Bool.false_or, Bool.or_false, Bool.and_false, Bool.false_and, Bool.true_and, Bool.and_true, beq_self_eq_true, decide_true, decide_false, tTr_e, vTru_non, vTru_bl, vTru_int, vTru_str, vTru_tup, vTru_ref, oTru_l, oTru_d, tBl_e, vBl_bl, eNeg_e, vNeg_int, eChain_e, eAnd_e, eOr_e, eNot_e, oSome_e, vSome_int, gAdd_ii, gAdd_ss, gAdd_tt, gAdd_rr, gI_ii, gI0_ii, gMulA_ii, gMulA_ri, gMulA_ti, gLt_ii, gLt_ss, gLt2_ii, gLt2_ss, eTab_e, vTab_s, eGet2_e, vGetO_r, vGet2_s, gIs_n, gIs_b, isNon_n, isNon_b, isNon_i, isNon_s, isNon_t, isNon_r, gIx_r, oIx_li, oIx_ds, oIx_di, gIx_ti, gIx_fi, gIx_si, gSl_t, gSl_s, gSl_f, gSl_r, gIn_ss, gIn_t, gIn_r, oIn_l, oIn_ds, gLen_s, gLen_t, gLen_f, gLen_r, oLen_l, oLen_d, gAbs_i, gMax2_ii, gMin2_ii, gInt1_i, gInt1_b, gList_t, gList_f, gList_r, gTuple_t, gTuple_f, gTuple_r, gSum_r, gAll_r, gIsi_x, tyD_n, tyD_b, tyD_i, tyD_s, tyD_t, tyD_f, tyD_r, oTy_l, oTy_d, tyM_s, tyM_r, oTyM_l, oTyM_d, gAppend_r, gPop0_r, gPopAt_r, gClear_r, gReverse_r, gJoin_r, gUpper_s, gStr_i, gSorted_r, iSeq_e, vSeq_r, vSeq_f, vSeq_t, vSeq_s, iRange1_e, vRng1_i, iRange2_e, vRng2_i, iZipD_e, vZip_r, vZip_t, iEnumD_e, vEnum_r, nTupL_t, nTupL_r, nCons_c, nNil_n, sSub_e, vPut_r, oPut_ds, oPut_di, oPut_l, t_wnames_18]
    refine seq_i ?_
    simp (config := {implicitDefEqProofs := false, proj := false}) only [nx_mk, rt_mk, bk_mk, ct_mk, eVar, eC, eOp, eIf, eTup, eLst, eDict0, eDict, eSl, oNo, eCall, eCB, eM, eLc, eIsi2, aNil, aCons, pNil, pCons, tAndD, tOrD, tNotD, tsYes, gMns, gMod, gFdiv, gPow, gLe, gGt, gGe, gEq_ii, gEq_ss, gEq_bb, gEq_nn, gEq_ni, gEq_in, gEq_ns, gEq_sn, gEq_si, gEq_is, sAsg, nName, sRet, sRetN, sExpr, sIf, sNext, sBreak, sCont, sFor, getS, setS, wipeS, endsD, asKeys, toKey, List.length_cons, List.length_nil, List.set_cons_zero, List.set_cons_succ, List.set_nil, Nat.zero_add, Nat.reduceAdd, Option.some.injEq, exists_and_left, exists_eq_left', exists_eq_left, id_eq, if_true, if_false, ite_true, ite_false, Bool.not_true, Bool.not_false, Bool.false_eq_true, not_false_eq_true, not_true_eq_false, reduceCtorEq, true_and, and_true, ne_eq, decide_eq_true_eq, isiN, isiCls, List.mem_cons, String.reduceEq, String.reduceBEq, or_true, true_or, or_false, false_or, Bool.or_true, Bool.true_or, Bool.false_or, Bool.or_false, Bool.and_false, Bool.false_and, Bool.true_and, Bool.and_true, beq_self_eq_true, decide_true, decide_false, tTr_e, vTru_non, vTru_bl, vTru_int, vTru_str, vTru_tup, vTru_ref, oTru_l, oTru_d, tBl_e, vBl_bl, eNeg_e, vNeg_int, eChain_e, eAnd_e, eOr_e, eNot_e, oSome_e, vSome_int, gAdd_ii, gAdd_ss, gAdd_tt, gAdd_rr, gI_ii, gI0_ii, gMulA_ii, gMulA_ri, gMulA_ti, gLt_ii, gLt_ss, gLt2_ii, gLt2_ss, eTab_e, vTab_s, eGet2_e, vGetO_r, vGet2_s, gIs_n, gIs_b, isNon_n, isNon_b, isNon_i, isNon_s, isNon_t, isNon_r, gIx_r, oIx_li, oIx_ds, oIx_di, gIx_ti, gIx_fi, gIx_si, gSl_t, gSl_s, gSl_f, gSl_r, gIn_ss, gIn_t, gIn_r, oIn_l, oIn_ds, gLen_s, gLen_t, gLen_f, gLen_r, oLen_l, oLen_d, gAbs_i, gMax2_ii, gMin2_ii, gInt1_i, gInt1_b, gList_t, gList_f, gList_r, gTuple_t, gTuple_f, gTuple_r, gSum_r, gAll_r, gIsi_x, tyD_n, tyD_b, tyD_i, tyD_s, tyD_t, tyD_f, tyD_r, oTy_l, oTy_d, tyM_s, tyM_r, oTyM_l, oTyM_d, gAppend_r, gPop0_r, gPopAt_r, gClear_r, gReverse_r, gJoin_r, gUpper_s, gStr_i, gSorted_r, iSeq_e, vSeq_r, vSeq_f, vSeq_t, vSeq_s, iRange1_e, vRng1_i, iRange2_e, vRng2_i, iZipD_e, vZip_r, vZip_t, iEnumD_e, vEnum_r, nTupL_t, nTupL_r, nCons_c, nNil_n, sSub_e, vPut_r, oPut_ds, oPut_di, oPut_l]
    refine take_spec pc1 (by omega) (by decide) (by decide) fun k9 S10 _ _ p10 h10 => ?_
    simp (config := {implicitDefEqProofs := false, proj := false}) only [nx_mk, rt_mk, bk_mk, ct_mk, eVar, eC, eOp, eIf, eTup, eLst, eDict0, eDict, eSl, oNo, eCall, eCB, eM, eLc, eIsi2, aNil, aCons, pNil, pCons, tAndD, tOrD, tNotD, tsYes, gMns, gMod, gFdiv, gPow, gLe, gGt, gGe, gEq_ii, gEq_ss, gEq_bb, gEq_nn, gEq_ni, gEq_in, gEq_ns, gEq_sn, gEq_si, gEq_is, sAsg, nName, sRet, sRetN, sExpr, sIf, sNext, sBreak, sCont, sFor, getS, setS, wipeS, endsD, asKeys, toKey, List.length_cons, List.length_nil, List.set_cons_zero, List.set_cons_succ, List.set_nil, Nat.zero_add, Nat.reduceAdd, Option.some.injEq, exists_and_left, exists_eq_left', exists_eq_left, id_eq, if_true, if_false, ite_true, ite_false, Bool.not_true, Bool.not_false, Bool.false_eq_true, not_false_eq_true, not_true_eq_false, reduceCtorEq, true_and, and_true, ne_eq, decide_eq_true_eq, isiN, isiCls, List.mem_cons, String.reduceEq, String.reduceBEq, or_true, true_or, or_false, false_or, Bool.or_true, Bool.true_or, Bool.false_or, Bool.or_false, Bool.and_false, Bool.false_and, Bool.true_and, Bool.and_true, beq_self_eq_true, decide_true, decide_false, tTr_e, vTru_non, vTru_bl, vTru_int, vTru_str, vTru_tup, vTru_ref, oTru_l, oTru_d, tBl_e, vBl_bl, eNeg_e, vNeg_int, eChain_e, eAnd_e, eOr_e, eNot_e, oSome_e, vSome_int, gAdd_ii, gAdd_ss, gAdd_tt, gAdd_rr, gI_ii, gI0_ii, gMulA_ii, gMulA_ri, gMulA_ti, gLt_ii, gLt_ss, gLt2_ii, gLt2_ss, eTab_e, vTab_s, eGet2_e, vGetO_r, vGet2_s, gIs_n, gIs_b, isNon_n, isNon_b, isNon_i, isNon_s, isNon_t, isNon_r, gIx_r, oIx_li, oIx_ds, oIx_di, gIx_ti, gIx_fi, gIx_si, gSl_t, gSl_s, gSl_f, gSl_r, gIn_ss, gIn_t, gIn_r, oIn_l, oIn_ds, gLen_s, gLen_t, gLen_f, gLen_r, oLen_l, oLen_d, gAbs_i, gMax2_ii, gMin2_ii, gInt1_i, gInt1_b, gList_t, gList_f, gList_r, gTuple_t, gTuple_f, gTuple_r, gSum_r, gAll_r, gIsi_x, tyD_n, tyD_b, tyD_i, tyD_s, tyD_t, tyD_f, tyD_r, oTy_l, oTy_d, tyM_s, tyM_r, oTyM_l, oTyM_d, gAppend_r, gPop0_r, gPopAt_r, gClear_r, gReverse_r, gJoin_r, gUpper_s, gStr_i, gSorted_r, iSeq_e, vSeq_r, vSeq_f, vSeq_t, vSeq_s, iRange1_e, vRng1_i, iRange2_e, vRng2_i, iZipD_e, vZip_r, vZip_t, iEnumD_e, vEnum_r, nTupL_t, nTupL_r, nCons_c, nNil_n, sSub_e, vPut_r, oPut_ds, oPut_di, oPut_l]
    have a10 := h10 _ _ nap ac1
    have c10 := h10 _ _ ncp cc1
    have g10 := gc1.trans h10
    by_cases h9 : k9 = 0
    · rw [if_pos h9]
      obtain ⟨mn, emn, m9, mnn⟩ : ∃ mn : Nat, (if (9 : Int) < (n : Int) then (9 : Int) else (n : Int)) = (mn : Nat) ∧ mn ≤ 9 ∧ mn ≤ n := by
        by_cases h : (9 : Int) < (n : Int)
        · exact ⟨9, if_pos h, by omega, by omega⟩
        · exact ⟨n, if_neg h, by omega, by omega⟩
      rw [emn, Int.toNat_natCast]
      refine ⟨by omega, by omega, ?_⟩
      refine forR_inv 0 mn (fun i σ S' => ∃ zs2 : List Str, (∃ u8, σ = [some (.ref p), some (.int (n : Nat)), some (.str abc), some (.int way), some (.int (t : Nat)), some (.str B), some (.int (sp : Nat)), some (.ref a), u8, some (.ref c), u10, u11]) ∧ NmOk zs2 ∧ zs2.length = n ∧ Pen S' p pc (b + 11 + i) ∧ S' a = some (.lst (zs2.map .str)) ∧ S' c = some (.lst (termsL.map .str)) ∧ Kp p S S')
        (fun _ _ _ _ => trivial) (fun i σ S' N hi hI hN => ?turn2) (fun σ S' hI => ?fin2) ⟨zs, ⟨u8, rfl⟩, hz, hzl, p10.mono (by omega), a10, c10, g10⟩
      case turn2 =>
        obtain ⟨zs2, ⟨u8, rfl⟩, hz2, hzl2, pi2, ai2, ci2, gi2⟩ := hI
        simp (config := {implicitDefEqProofs := false, proj := false}) only [nx_mk, rt_mk, bk_mk, ct_mk, eVar, eC, eOp, eIf, eTup, eLst, eDict0, eDict, eSl, oNo, eCall, eCB, eM, eLc, eIsi2, aNil, aCons, pNil, pCons, tAndD, tOrD, tNotD, tsYes, gMns, gMod, gFdiv, gPow, gLe, gGt, gGe, gEq_ii, gEq_ss, gEq_bb, gEq_nn, gEq_ni, gEq_in, gEq_ns, gEq_sn, gEq_si, gEq_is, sAsg, nName, sRet, sRetN, sExpr, sIf, sNext, sBreak, sCont, sFor, getS, setS, wipeS, endsD, asKeys, toKey, List.length_cons, List.length_nil, List.set_cons_zero, List.set_cons_succ, List.set_nil, Nat.zero_add, Nat.reduceAdd, Option.some.injEq, exists_and_left, exists_eq_left', exists_eq_left, id_eq, if_true, if_false, ite_true, ite_false, Bool.not_true, Bool.not_false, Bool.false_eq_true, not_false_eq_true, not_true_eq_false, reduceCtorEq, true_and, and_true, ne_eq, decide_eq_true_eq, isiN, isiCls, List.mem_cons, String.reduceEq, String.reduceBEq, or_true, true_or, or_false, false_or, Bool.or_true, Bool.true_or, Bool.false_or, Bool.or_false, Bool.and_false, Bool.false_and, Bool.true_and, Bool.and_true, beq_self_eq_true, decide_true, decide_false, tTr_e, vTru_non, vTru_bl, vTru_int, vTru_str, vTru_tup, vTru_ref, oTru_l, oTru_d, tBl_e, vBl_bl, eNeg_e, vNeg_int, eChain_e, eAnd_e, eOr_e, eNot_e, oSome_e, vSome_int, gAdd_ii, gAdd_ss, gAdd_tt, gAdd_rr, gI_ii, gI0_ii, gMulA_ii, gMulA_ri, gMulA_ti, gLt_ii, gLt_ss, gLt2_ii, gLt2_ss, eTab_e, vTab_s, eGet2_e, vGetO_r, vGet2_s, gIs_n, gIs_b, isNon_n, isNon_b, isNon_i, isNon_s, isNon_t, isNon_r, gIx_r, oIx_li, oIx_ds, oIx_di, gIx_ti, gIx_fi, gIx_si, gSl_t, gSl_s, gSl_f, gSl_r, gIn_ss, gIn_t, gIn_r, oIn_l, oIn_ds, gLen_s, gLen_t, gLen_f, gLen_r, oLen_l, oLen_d, gAbs_i, gMax2_ii, gMin2_ii, gInt1_i, gInt1_b, gList_t, gList_f, gList_r, gTuple_t, gTuple_f, gTuple_r, gSum_r, gAll_r, gIsi_x, tyD_n, tyD_b, tyD_i, tyD_s, tyD_t, tyD_f, tyD_r, oTy_l, oTy_d, tyM_s, tyM_r, oTyM_l, oTyM_d, gAppend_r, gPop0_r, gPopAt_r, gClear_r, gReverse_r, gJoin_r, gUpper_s, gStr_i, gSorted_r, iSeq_e, vSeq_r, vSeq_f, vSeq_t, vSeq_s, iRange1_e, vRng1_i, iRange2_e, vRng2_i, iZipD_e, vZip_r, vZip_t, iEnumD_e, vEnum_r, nTupL_t, nTupL_r, nCons_c, nNil_n, sSub_e, vPut_r, oPut_ds, oPut_di, oPut_l]
        rw [Int.zero_add]
        refine term_turn pi2 (by omega) ai2 ci2 nap nac ncp nca hz2 (by omega) (by omega) fun zs3 S12 hz3 hl3 p12 a12 c12 k12 => hN _ _ ⟨zs3, ⟨_, rfl⟩, hz3, by omega, p12.mono (by omega), a12, c12, fun z o hzp e => k12 z o hzp (neS e sa) (gi2 z o hzp e)⟩
      case fin2 =>
        obtain ⟨zs2, ⟨u8, rfl⟩, hz2, hzl2, pi2, ai2, ci2, gi2⟩ := hI
        simp (config := {implicitDefEqProofs := false, proj := false}) only [nx_mk, rt_mk, bk_mk, ct_mk, eVar, eC, eOp, eIf, eTup, eLst, eDict0, eDict, eSl, oNo, eCall, eCB, eM, eLc, eIsi2, aNil, aCons, pNil, pCons, tAndD, tOrD, tNotD, tsYes, gMns, gMod, gFdiv, gPow, gLe, gGt, gGe, gEq_ii, gEq_ss, gEq_bb, gEq_nn, gEq_ni, gEq_in, gEq_ns, gEq_sn, gEq_si, gEq_is, sAsg, nName, sRet, sRetN, sExpr, sIf, sNext, sBreak, sCont, sFor, getS, setS, wipeS, endsD, asKeys, toKey, List.length_cons, List.length_nil, List.set_cons_zero, List.set_cons_succ, List.set_nil, Nat.zero_add, Nat.reduceAdd, Option.some.injEq, exists_and_left, exists_eq_left', exists_eq_left, id_eq, if_true, if_false, ite_true, ite_false, Bool.not_true, Bool.not_false, Bool.false_eq_true, not_false_eq_true, not_true_eq_false, reduceCtorEq, true_and, and_true, ne_eq, decide_eq_true_eq, isiN, isiCls, List.mem_cons, String.reduceEq, String.reduceBEq, or_true, true_or, or_false, false_or, Bool.or_true, Bool.true_or, Bool.false_or, Bool.or_false, Bool.and_false, Bool.false_and, Bool.true_and, Bool.and_true, beq_self_eq_true, decide_true, decide_false, tTr_e, vTru_non, vTru_bl, vTru_int, vTru_str, vTru_tup, vTru_ref, oTru_l, oTru_d, tBl_e, vBl_bl, eNeg_e, vNeg_int, eChain_e, eAnd_e, eOr_e, eNot_e, oSome_e, vSome_int, gAdd_ii, gAdd_ss, gAdd_tt, gAdd_rr, gI_ii, gI0_ii, gMulA_ii, gMulA_ri, gMulA_ti, gLt_ii, gLt_ss, gLt2_ii, gLt2_ss, eTab_e, vTab_s, eGet2_e, vGetO_r, vGet2_s, gIs_n, gIs_b, isNon_n, isNon_b, isNon_i, isNon_s, isNon_t, isNon_r, gIx_r, oIx_li, oIx_ds, oIx_di, gIx_ti, gIx_fi, gIx_si, gSl_t, gSl_s, gSl_f, gSl_r, gIn_ss, gIn_t, gIn_r, oIn_l, oIn_ds, gLen_s, gLen_t, gLen_f, gLen_r, oLen_l, oLen_d, gAbs_i, gMax2_ii, gMin2_ii, gInt1_i, gInt1_b, gList_t, gList_f, gList_r, gTuple_t, gTuple_f, gTuple_r, gSum_r, gAll_r, gIsi_x, tyD_n, tyD_b, tyD_i, tyD_s, tyD_t, tyD_f, tyD_r, oTy_l, oTy_d, tyM_s, tyM_r, oTyM_l, oTyM_d, gAppend_r, gPop0_r, gPopAt_r, gClear_r, gReverse_r, gJoin_r, gUpper_s, gStr_i, gSorted_r, iSeq_e, vSeq_r, vSeq_f, vSeq_t, vSeq_s, iRange1_e, vRng1_i, iRange2_e, vRng2_i, iZipD_e, vZip_r, vZip_t, iEnumD_e, vEnum_r, nTupL_t, nTupL_r, nCons_c, nNil_n, sSub_e, vPut_r, oPut_ds, oPut_di, oPut_l, t_wnames_22]
        exact q a zs2 S' hz2 hzl2 (pi2.mono (by omega)) ai2 sa gi2
    · rw [if_neg h9]
      try simp (config := {implicitDefEqProofs := false, proj := false}) only [nx_mk, rt_mk, bk_mk, ct_mk, eVar, eC, eOp, eIf, eTup, eLst, eDict0, eDict, eSl, oNo, eCall, eCB, eM, eLc, eIsi2, aNil, aCons, pNil, pCons, tAndD, tOrD, tNotD, tsYes, gMns, gMod, gFdiv, gPow, gLe, gGt, gGe, gEq_ii, gEq_ss, gEq_bb, gEq_nn, gEq_ni, gEq_in, gEq_ns, gEq_sn, gEq_si, gEq_is, sAsg, nName, sRet, sRetN, sExpr, sIf, sNext, sBreak, sCont, sFor, getS, setS, wipeS, endsD, asKeys, toKey, List.length_cons, List.length_nil, List.set_cons_zero, List.set_cons_succ, List.set_nil, Nat.zero_add, Nat.reduceAdd, Option.some.injEq, exists_and_left, exists_eq_left', exists_eq_left, id_eq, if_true, if_false, ite_true, ite_false, Bool.not_true, Bool.not_false, Bool.false_eq_true, not_false_eq_true, not_true_eq_false, reduceCtorEq, true_and, and_true, ne_eq, decide_eq_true_eq, isiN, isiCls, List.mem_cons, String.reduceEq, String.reduceBEq, or_true, true_or, or_false, false_or, Bool.or_true, Bool.true_or, Bool.false_or, Bool.or_false, Bool.and_false, Bool.false_and, Bool.true_and, Bool.and_true, beq_self_eq_true, decide_true, decide_false, tTr_e, vTru_non, vTru_bl, vTru_int, vTru_str, vTru_tup, vTru_ref, oTru_l, oTru_d, tBl_e, vBl_bl, eNeg_e, vNeg_int, eChain_e, eAnd_e, eOr_e, eNot_e, oSome_e, vSome_int, gAdd_ii, gAdd_ss, gAdd_tt, gAdd_rr, gI_ii, gI0_ii, gMulA_ii, gMulA_ri, gMulA_ti, gLt_ii, gLt_ss, gLt2_ii, gLt2_ss, eTab_e, vTab_s, eGet2_e, vGetO_r, vGet2_s, gIs_n, gIs_b, isNon_n, isNon_b, isNon_i, isNon_s, isNon_t, isNon_r, gIx_r, oIx_li, oIx_ds, oIx_di, gIx_ti, gIx_fi, gIx_si, gSl_t, gSl_s, gSl_f, gSl_r, gIn_ss, gIn_t, gIn_r, oIn_l, oIn_ds, gLen_s, gLen_t, gLen_f, gLen_r, oLen_l, oLen_d, gAbs_i, gMax2_ii, gMin2_ii, gInt1_i, gInt1_b, gList_t, gList_f, gList_r, gTuple_t, gTuple_f, gTuple_r, gSum_r, gAll_r, gIsi_x, tyD_n, tyD_b, tyD_i, tyD_s, tyD_t, tyD_f, tyD_r, oTy_l, oTy_d, tyM_s, tyM_r, oTyM_l, oTyM_d, gAppend_r, gPop0_r, gPopAt_r, gClear_r, gReverse_r, gJoin_r, gUpper_s, gStr_i, gSorted_r, iSeq_e, vSeq_r, vSeq_f, vSeq_t, vSeq_s, iRange1_e, vRng1_i, iRange2_e, vRng2_i, iZipD_e, vZip_r, vZip_t, iEnumD_e, vEnum_r, nTupL_t, nTupL_r, nCons_c, nNil_n, sSub_e, vPut_r, oPut_ds, oPut_di, oPut_l, t_wnames_22]
      exact q a zs S10 hz hzl (p10.mono (by omega)) a10 sa g10
end LW
namespace LW
open PySem L2 DL
/-- bounds of what is taken by -/
theorem log_small {x : Int} (h0 : 0 ≤ x) (h : x ≤ 100000000000) : x.natAbs.log2 < 9000 := by
  by_cases hz : x.natAbs = 0
  · rw [hz]; decide
  · rw [Nat.log2_lt hz]
    have h1 : x.natAbs ≤ 100000000000 := by omega
    have : (2 : Nat) ^ 240 ≤ 2 ^ 9000 := Nat.pow_le_pow_right (by decide) (by decide)
    have e : (2 : Nat) ^ 240 = 1766847064778384329583297500742918515827483896875618958121606201292619776 := by decide +kernel
    exact Nat.lt_of_lt_of_le (by rw [e]; omega) this
theorem number_spec {p pc : Addr} {b : Nat} {lo hi : Int} {S : Sto} {Q : DK} (h : Pen S p pc b) (hb : b + 3 ≤ 100000) (h0 : 0 ≤ lo) (hl : lo ≤ hi) (hh : hi ≤ 10000000000)
    (q : ∀ (v : Int) (S' : Sto), lo ≤ v → v ≤ hi → Pen S' p pc (b + 3) → Kp p S S' → Q (.int v) S') : m_wnumber [.ref p, .int lo, .int hi] S Q := by
  rw [e_wnumber]
  refine seq_i ?_
  try simp (config := {implicitDefEqProofs := false, proj := false}) only [nx_mk, rt_mk, bk_mk, ct_mk, eVar, eC, eOp, eIf, eTup, eLst, eDict0, eDict, eSl, oNo, eCall, eCB, eM, eLc, eIsi2, aNil, aCons, pNil, pCons, tAndD, tOrD, tNotD, tsYes, gMns, gMod, gFdiv, gPow, gLe, gGt, gGe, gEq_ii, gEq_ss, gEq_bb, gEq_nn, gEq_ni, gEq_in, gEq_ns, gEq_sn, gEq_si, gEq_is, sAsg, nName, sRet, sRetN, sExpr, sIf, sNext, sBreak, sCont, sFor, getS, setS, wipeS, endsD, asKeys, toKey, List.length_cons, List.length_nil, List.set_cons_zero, List.set_cons_succ, List.set_nil, Nat.zero_add, Nat.reduceAdd, Option.some.injEq, exists_and_left, exists_eq_left', exists_eq_left, id_eq, if_true, if_false, ite_true, ite_false, Bool.not_true, Bool.not_false, Bool.false_eq_true, not_false_eq_true, not_true_eq_false, reduceCtorEq, true_and, and_true, ne_eq, decide_eq_true_eq, isiN, isiCls, List.mem_cons, String.reduceEq, String.reduceBEq, or_true, true_or, or_false, false_or, Bool.or_true, Bool.true_or, Bool.false_or, Bool.or_false, Bool.and_false, Bool.false_and, Bool.true_and, Bool.and_true, beq_self_eq_true, decide_true, decide_false, tTr_e, vTru_non, vTru_bl, vTru_int, vTru_str, vTru_tup, vTru_ref, oTru_l, oTru_d, tBl_e, vBl_bl, eNeg_e, vNeg_int, eChain_e, eAnd_e, eOr_e, eNot_e, oSome_e, vSome_int, gAdd_ii, gAdd_ss, gAdd_tt, gAdd_rr, gI_ii, gI0_ii, gMulA_ii, gMulA_ri, gMulA_ti, gLt_ii, gLt_ss, gLt2_ii, gLt2_ss, eTab_e, vTab_s, eGet2_e, vGetO_r, vGet2_s, gIs_n, gIs_b, isNon_n, isNon_b, isNon_i, isNon_s, isNon_t, isNon_r, gIx_r, oIx_li, oIx_ds, oIx_di, gIx_ti, gIx_fi, gIx_si, gSl_t, gSl_s, gSl_f, gSl_r, gIn_ss, gIn_t, gIn_r, oIn_l, oIn_ds, gLen_s, gLen_t, gLen_f, gLen_r, oLen_l, oLen_d, gAbs_i, gMax2_ii, gMin2_ii, gInt1_i, gInt1_b, gList_t, gList_f, gList_r, gTuple_t, gTuple_f, gTuple_r, gSum_r, gAll_r, gIsi_x, tyD_n, tyD_b, tyD_i, tyD_s, tyD_t, tyD_f, tyD_r, oTy_l, oTy_d, tyM_s, tyM_r, oTyM_l, oTyM_d, gAppend_r, gPop0_r, gPopAt_r, gClear_r, gReverse_r, gJoin_r, gUpper_s, gStr_i, gSorted_r, iSeq_e, vSeq_r, vSeq_f, vSeq_t, vSeq_s, iRange1_e, vRng1_i, iRange2_e, vRng2_i, iZipD_e, vZip_r, vZip_t, iEnumD_e, vEnum_r, nTupL_t, nTupL_r, nCons_c, nNil_n, sSub_e, vPut_r, oPut_ds, oPut_di, oPut_l]
  refine take_spec h (by omega) (by decide) (by decide) fun way S1 w0 w1 p1 h1 => seq_i ?_
  have w1 : way < 4 := w1
  try simp (config := {implicitDefEqProofs := false, proj := false}) only [nx_mk, rt_mk, bk_mk, ct_mk, eVar, eC, eOp, eIf, eTup, eLst, eDict0, eDict, eSl, oNo, eCall, eCB, eM, eLc, eIsi2, aNil, aCons, pNil, pCons, tAndD, tOrD, tNotD, tsYes, gMns, gMod, gFdiv, gPow, gLe, gGt, gGe, gEq_ii, gEq_ss, gEq_bb, gEq_nn, gEq_ni, gEq_in, gEq_ns, gEq_sn, gEq_si, gEq_is, sAsg, nName, sRet, sRetN, sExpr, sIf, sNext, sBreak, sCont, sFor, getS, setS, wipeS, endsD, asKeys, toKey, List.length_cons, List.length_nil, List.set_cons_zero, List.set_cons_succ, List.set_nil, Nat.zero_add, Nat.reduceAdd, Option.some.injEq, exists_and_left, exists_eq_left', exists_eq_left, id_eq, if_true, if_false, ite_true, ite_false, Bool.not_true, Bool.not_false, Bool.false_eq_true, not_false_eq_true, not_true_eq_false, reduceCtorEq, true_and, and_true, ne_eq, decide_eq_true_eq, isiN, isiCls, List.mem_cons, String.reduceEq, String.reduceBEq, or_true, true_or, or_false, false_or, Bool.or_true, Bool.true_or, Bool.false_or, Bool.or_false, Bool.and_false, Bool.false_and, Bool.true_and, Bool.and_true, beq_self_eq_true, decide_true, decide_false, tTr_e, vTru_non, vTru_bl, vTru_int, vTru_str, vTru_tup, vTru_ref, oTru_l, oTru_d, tBl_e, vBl_bl, eNeg_e, vNeg_int, eChain_e, eAnd_e, eOr_e, eNot_e, oSome_e, vSome_int, gAdd_ii, gAdd_ss, gAdd_tt, gAdd_rr, gI_ii, gI0_ii, gMulA_ii, gMulA_ri, gMulA_ti, gLt_ii, gLt_ss, gLt2_ii, gLt2_ss, eTab_e, vTab_s, eGet2_e, vGetO_r, vGet2_s, gIs_n, gIs_b, isNon_n, isNon_b, isNon_i, isNon_s, isNon_t, isNon_r, gIx_r, oIx_li, oIx_ds, oIx_di, gIx_ti, gIx_fi, gIx_si, gSl_t, gSl_s, gSl_f, gSl_r, gIn_ss, gIn_t, gIn_r, oIn_l, oIn_ds, gLen_s, gLen_t, gLen_f, gLen_r, oLen_l, oLen_d, gAbs_i, gMax2_ii, gMin2_ii, gInt1_i, gInt1_b, gList_t, gList_f, gList_r, gTuple_t, gTuple_f, gTuple_r, gSum_r, gAll_r, gIsi_x, tyD_n, tyD_b, tyD_i, tyD_s, tyD_t, tyD_f, tyD_r, oTy_l, oTy_d, tyM_s, tyM_r, oTyM_l, oTyM_d, gAppend_r, gPop0_r, gPopAt_r, gClear_r, gReverse_r, gJoin_r, gUpper_s, gStr_i, gSorted_r, iSeq_e, vSeq_r, vSeq_f, vSeq_t, vSeq_s, iRange1_e, vRng1_i, iRange2_e, vRng2_i, iZipD_e, vZip_r, vZip_t, iEnumD_e, vEnum_r, nTupL_t, nTupL_r, nCons_c, nNil_n, sSub_e, vPut_r, oPut_ds, oPut_di, oPut_l]
  obtain ⟨mn, emn, m0, m12, mh⟩ : ∃ mn : Int, (if hi - lo + 1 < 12 then hi - lo + 1 else 12) = mn ∧ 0 < mn ∧ mn ≤ 12 ∧ mn ≤ hi - lo + 1 := by
    by_cases h : hi - lo + 1 < 12
    · exact ⟨_, if_pos h, by omega, by omega, by omega⟩
    · exact ⟨_, if_neg h, by omega, by omega, by omega⟩
  rw [emn]
  refine take_spec p1 (by omega) m0 (log_small (by omega) (by omega)) fun k1 S2 a1 b1 p2 h2 => ?_
  try simp (config := {implicitDefEqProofs := false, proj := false}) only [nx_mk, rt_mk, bk_mk, ct_mk, eVar, eC, eOp, eIf, eTup, eLst, eDict0, eDict, eSl, oNo, eCall, eCB, eM, eLc, eIsi2, aNil, aCons, pNil, pCons, tAndD, tOrD, tNotD, tsYes, gMns, gMod, gFdiv, gPow, gLe, gGt, gGe, gEq_ii, gEq_ss, gEq_bb, gEq_nn, gEq_ni, gEq_in, gEq_ns, gEq_sn, gEq_si, gEq_is, sAsg, nName, sRet, sRetN, sExpr, sIf, sNext, sBreak, sCont, sFor, getS, setS, wipeS, endsD, asKeys, toKey, List.length_cons, List.length_nil, List.set_cons_zero, List.set_cons_succ, List.set_nil, Nat.zero_add, Nat.reduceAdd, Option.some.injEq, exists_and_left, exists_eq_left', exists_eq_left, id_eq, if_true, if_false, ite_true, ite_false, Bool.not_true, Bool.not_false, Bool.false_eq_true, not_false_eq_true, not_true_eq_false, reduceCtorEq, true_and, and_true, ne_eq, decide_eq_true_eq, isiN, isiCls, List.mem_cons, String.reduceEq, String.reduceBEq, or_true, true_or, or_false, false_or, Bool.or_true, Bool.true_or, Bool.false_or, Bool.or_false, Bool.and_false, Bool.false_and, Bool.true_and, Bool.and_true, beq_self_eq_true, decide_true, decide_false, tTr_e, vTru_non, vTru_bl, vTru_int, vTru_str, vTru_tup, vTru_ref, oTru_l, oTru_d, tBl_e, vBl_bl, eNeg_e, vNeg_int, eChain_e, eAnd_e, eOr_e, eNot_e, oSome_e, vSome_int, gAdd_ii, gAdd_ss, gAdd_tt, gAdd_rr, gI_ii, gI0_ii, gMulA_ii, gMulA_ri, gMulA_ti, gLt_ii, gLt_ss, gLt2_ii, gLt2_ss, eTab_e, vTab_s, eGet2_e, vGetO_r, vGet2_s, gIs_n, gIs_b, isNon_n, isNon_b, isNon_i, isNon_s, isNon_t, isNon_r, gIx_r, oIx_li, oIx_ds, oIx_di, gIx_ti, gIx_fi, gIx_si, gSl_t, gSl_s, gSl_f, gSl_r, gIn_ss, gIn_t, gIn_r, oIn_l, oIn_ds, gLen_s, gLen_t, gLen_f, gLen_r, oLen_l, oLen_d, gAbs_i, gMax2_ii, gMin2_ii, gInt1_i, gInt1_b, gList_t, gList_f, gList_r, gTuple_t, gTuple_f, gTuple_r, gSum_r, gAll_r, gIsi_x, tyD_n, tyD_b, tyD_i, tyD_s, tyD_t, tyD_f, tyD_r, oTy_l, oTy_d, tyM_s, tyM_r, oTyM_l, oTyM_d, gAppend_r, gPop0_r, gPopAt_r, gClear_r, gReverse_r, gJoin_r, gUpper_s, gStr_i, gSorted_r, iSeq_e, vSeq_r, vSeq_f, vSeq_t, vSeq_s, iRange1_e, vRng1_i, iRange2_e, vRng2_i, iZipD_e, vZip_r, vZip_t, iEnumD_e, vEnum_r, nTupL_t, nTupL_r, nCons_c, nNil_n, sSub_e, vPut_r, oPut_ds, oPut_di, oPut_l]
  refine ret_i ?_
  try simp (config := {implicitDefEqProofs := false, proj := false}) only [nx_mk, rt_mk, bk_mk, ct_mk, eVar, eC, eOp, eIf, eTup, eLst, eDict0, eDict, eSl, oNo, eCall, eCB, eM, eLc, eIsi2, aNil, aCons, pNil, pCons, tAndD, tOrD, tNotD, tsYes, gMns, gMod, gFdiv, gPow, gLe, gGt, gGe, gEq_ii, gEq_ss, gEq_bb, gEq_nn, gEq_ni, gEq_in, gEq_ns, gEq_sn, gEq_si, gEq_is, sAsg, nName, sRet, sRetN, sExpr, sIf, sNext, sBreak, sCont, sFor, getS, setS, wipeS, endsD, asKeys, toKey, List.length_cons, List.length_nil, List.set_cons_zero, List.set_cons_succ, List.set_nil, Nat.zero_add, Nat.reduceAdd, Option.some.injEq, exists_and_left, exists_eq_left', exists_eq_left, id_eq, if_true, if_false, ite_true, ite_false, Bool.not_true, Bool.not_false, Bool.false_eq_true, not_false_eq_true, not_true_eq_false, reduceCtorEq, true_and, and_true, ne_eq, decide_eq_true_eq, isiN, isiCls, List.mem_cons, String.reduceEq, String.reduceBEq, or_true, true_or, or_false, false_or, Bool.or_true, Bool.true_or, Bool.false_or, Bool.or_false, Bool.and_false, Bool.false_and, Bool.true_and, Bool.and_true, beq_self_eq_true, decide_true, decide_false, tTr_e, vTru_non, vTru_bl, vTru_int, vTru_str, vTru_tup, vTru_ref, oTru_l, oTru_d, tBl_e, vBl_bl, eNeg_e, vNeg_int, eChain_e, eAnd_e, eOr_e, eNot_e, oSome_e, vSome_int, gAdd_ii, gAdd_ss, gAdd_tt, gAdd_rr, gI_ii, gI0_ii, gMulA_ii, gMulA_ri, gMulA_ti, gLt_ii, gLt_ss, gLt2_ii, gLt2_ss, eTab_e, vTab_s, eGet2_e, vGetO_r, vGet2_s, gIs_n, gIs_b, isNon_n, isNon_b, isNon_i, isNon_s, isNon_t, isNon_r, gIx_r, oIx_li, oIx_ds, oIx_di, gIx_ti, gIx_fi, gIx_si, gSl_t, gSl_s, gSl_f, gSl_r, gIn_ss, gIn_t, gIn_r, oIn_l, oIn_ds, gLen_s, gLen_t, gLen_f, gLen_r, oLen_l, oLen_d, gAbs_i, gMax2_ii, gMin2_ii, gInt1_i, gInt1_b, gList_t, gList_f, gList_r, gTuple_t, gTuple_f, gTuple_r, gSum_r, gAll_r, gIsi_x, tyD_n, tyD_b, tyD_i, tyD_s, tyD_t, tyD_f, tyD_r, oTy_l, oTy_d, tyM_s, tyM_r, oTyM_l, oTyM_d, gAppend_r, gPop0_r, gPopAt_r, gClear_r, gReverse_r, gJoin_r, gUpper_s, gStr_i, gSorted_r, iSeq_e, vSeq_r, vSeq_f, vSeq_t, vSeq_s, iRange1_e, vRng1_i, iRange2_e, vRng2_i, iZipD_e, vZip_r, vZip_t, iEnumD_e, vEnum_r, nTupL_t, nTupL_r, nCons_c, nNil_n, sSub_e, vPut_r, oPut_ds, oPut_di, oPut_l]
  refine take_spec p2 (by omega) (by omega) (log_small (by omega) (by omega)) fun k2 S3 a2 b2 p3 h3 => ?_
  try simp (config := {implicitDefEqProofs := false, proj := false}) only [nx_mk, rt_mk, bk_mk, ct_mk, eVar, eC, eOp, eIf, eTup, eLst, eDict0, eDict, eSl, oNo, eCall, eCB, eM, eLc, eIsi2, aNil, aCons, pNil, pCons, tAndD, tOrD, tNotD, tsYes, gMns, gMod, gFdiv, gPow, gLe, gGt, gGe, gEq_ii, gEq_ss, gEq_bb, gEq_nn, gEq_ni, gEq_in, gEq_ns, gEq_sn, gEq_si, gEq_is, sAsg, nName, sRet, sRetN, sExpr, sIf, sNext, sBreak, sCont, sFor, getS, setS, wipeS, endsD, asKeys, toKey, List.length_cons, List.length_nil, List.set_cons_zero, List.set_cons_succ, List.set_nil, Nat.zero_add, Nat.reduceAdd, Option.some.injEq, exists_and_left, exists_eq_left', exists_eq_left, id_eq, if_true, if_false, ite_true, ite_false, Bool.not_true, Bool.not_false, Bool.false_eq_true, not_false_eq_true, not_true_eq_false, reduceCtorEq, true_and, and_true, ne_eq, decide_eq_true_eq, isiN, isiCls, List.mem_cons, String.reduceEq, String.reduceBEq, or_true, true_or, or_false, false_or, Bool.or_true, Bool.true_or, Bool.false_or, Bool.or_false, Bool.and_false, Bool.false_and, Bool.true_and, Bool.and_true, beq_self_eq_true, decide_true, decide_false, tTr_e, vTru_non, vTru_bl, vTru_int, vTru_str, vTru_tup, vTru_ref, oTru_l, oTru_d, tBl_e, vBl_bl, eNeg_e, vNeg_int, eChain_e, eAnd_e, eOr_e, eNot_e, oSome_e, vSome_int, gAdd_ii, gAdd_ss, gAdd_tt, gAdd_rr, gI_ii, gI0_ii, gMulA_ii, gMulA_ri, gMulA_ti, gLt_ii, gLt_ss, gLt2_ii, gLt2_ss, eTab_e, vTab_s, eGet2_e, vGetO_r, vGet2_s, gIs_n, gIs_b, isNon_n, isNon_b, isNon_i, isNon_s, isNon_t, isNon_r, gIx_r, oIx_li, oIx_ds, oIx_di, gIx_ti, gIx_fi, gIx_si, gSl_t, gSl_s, gSl_f, gSl_r, gIn_ss, gIn_t, gIn_r, oIn_l, oIn_ds, gLen_s, gLen_t, gLen_f, gLen_r, oLen_l, oLen_d, gAbs_i, gMax2_ii, gMin2_ii, gInt1_i, gInt1_b, gList_t, gList_f, gList_r, gTuple_t, gTuple_f, gTuple_r, gSum_r, gAll_r, gIsi_x, tyD_n, tyD_b, tyD_i, tyD_s, tyD_t, tyD_f, tyD_r, oTy_l, oTy_d, tyM_s, tyM_r, oTyM_l, oTyM_d, gAppend_r, gPop0_r, gPopAt_r, gClear_r, gReverse_r, gJoin_r, gUpper_s, gStr_i, gSorted_r, iSeq_e, vSeq_r, vSeq_f, vSeq_t, vSeq_s, iRange1_e, vRng1_i, iRange2_e, vRng2_i, iZipD_e, vZip_r, vZip_t, iEnumD_e, vEnum_r, nTupL_t, nTupL_r, nCons_c, nNil_n, sSub_e, vPut_r, oPut_ds, oPut_di, oPut_l]
  refine ⟨by decide, fun c hc => ?_⟩
  try simp (config := {implicitDefEqProofs := false, proj := false}) only [nx_mk, rt_mk, bk_mk, ct_mk, eVar, eC, eOp, eIf, eTup, eLst, eDict0, eDict, eSl, oNo, eCall, eCB, eM, eLc, eIsi2, aNil, aCons, pNil, pCons, tAndD, tOrD, tNotD, tsYes, gMns, gMod, gFdiv, gPow, gLe, gGt, gGe, gEq_ii, gEq_ss, gEq_bb, gEq_nn, gEq_ni, gEq_in, gEq_ns, gEq_sn, gEq_si, gEq_is, sAsg, nName, sRet, sRetN, sExpr, sIf, sNext, sBreak, sCont, sFor, getS, setS, wipeS, endsD, asKeys, toKey, List.length_cons, List.length_nil, List.set_cons_zero, List.set_cons_succ, List.set_nil, Nat.zero_add, Nat.reduceAdd, Option.some.injEq, exists_and_left, exists_eq_left', exists_eq_left, id_eq, if_true, if_false, ite_true, ite_false, Bool.not_true, Bool.not_false, Bool.false_eq_true, not_false_eq_true, not_true_eq_false, reduceCtorEq, true_and, and_true, ne_eq, decide_eq_true_eq, isiN, isiCls, List.mem_cons, String.reduceEq, String.reduceBEq, or_true, true_or, or_false, false_or, Bool.or_true, Bool.true_or, Bool.false_or, Bool.or_false, Bool.and_false, Bool.false_and, Bool.true_and, Bool.and_true, beq_self_eq_true, decide_true, decide_false, tTr_e, vTru_non, vTru_bl, vTru_int, vTru_str, vTru_tup, vTru_ref, oTru_l, oTru_d, tBl_e, vBl_bl, eNeg_e, vNeg_int, eChain_e, eAnd_e, eOr_e, eNot_e, oSome_e, vSome_int, gAdd_ii, gAdd_ss, gAdd_tt, gAdd_rr, gI_ii, gI0_ii, gMulA_ii, gMulA_ri, gMulA_ti, gLt_ii, gLt_ss, gLt2_ii, gLt2_ss, eTab_e, vTab_s, eGet2_e, vGetO_r, vGet2_s, gIs_n, gIs_b, isNon_n, isNon_b, isNon_i, isNon_s, isNon_t, isNon_r, gIx_r, oIx_li, oIx_ds, oIx_di, gIx_ti, gIx_fi, gIx_si, gSl_t, gSl_s, gSl_f, gSl_r, gIn_ss, gIn_t, gIn_r, oIn_l, oIn_ds, gLen_s, gLen_t, gLen_f, gLen_r, oLen_l, oLen_d, gAbs_i, gMax2_ii, gMin2_ii, gInt1_i, gInt1_b, gList_t, gList_f, gList_r, gTuple_t, gTuple_f, gTuple_r, gSum_r, gAll_r, gIsi_x, tyD_n, tyD_b, tyD_i, tyD_s, tyD_t, tyD_f, tyD_r, oTy_l, oTy_d, tyM_s, tyM_r, oTyM_l, oTyM_d, gAppend_r, gPop0_r, gPopAt_r, gClear_r, gReverse_r, gJoin_r, gUpper_s, gStr_i, gSorted_r, iSeq_e, vSeq_r, vSeq_f, vSeq_t, vSeq_s, iRange1_e, vRng1_i, iRange2_e, vRng2_i, iZipD_e, vZip_r, vZip_t, iEnumD_e, vEnum_r, nTupL_t, nTupL_r, nCons_c, nNil_n, sSub_e, vPut_r, oPut_ds, oPut_di, oPut_l]
  rw [updS_same, oIx_li]
  have g : Kp p S (updS S3 c (.lst [.int lo, .int hi, .int (lo + k1), .int (lo + k2)])) := ((h1.trans h2).trans h3).trans (.new hc)
  have pn := p3.new (o := .lst [.int lo, .int hi, .int (lo + k1), .int (lo + k2)]) hc
  obtain ⟨j, rfl⟩ : ∃ j : Nat, way = (j : Nat) := ⟨way.toNat, by omega⟩
  match j, w1 with
  | 0, _ => exact ⟨_, rfl, q _ _ (by omega) (by omega) pn g⟩
  | 1, _ => exact ⟨_, rfl, q _ _ (by omega) (by omega) pn g⟩
  | 2, _ => exact ⟨_, rfl, q _ _ (by omega) (by omega) pn g⟩
  | 3, _ => exact ⟨_, rfl, q _ _ (by omega) (by omega) pn g⟩
  | j + 4, h => exact absurd h (by omega)
end LW
namespace LW
open PySem L2 DL
theorem cut_strs (zs : List Str) (n : Nat) : cutL (zs.map D.str) none (some (n : Int)) = (zs.take n).map D.str := by
  unfold cutL
  rw [HT.sIx_none, show HT.sIx (zs.map D.str).length (zs.map D.str).length (some (n : Int)) = min n (zs.map D.str).length from HT.sIx_nat _ _ n]
  rw [List.drop_zero, Nat.sub_zero, List.length_map, List.map_take]
  by_cases h : n ≤ zs.length
  · rw [Nat.min_eq_left h]
  · rw [Nat.min_eq_right (by omega), List.take_of_length_le (by rw [List.length_map]; exact Nat.le_refl _), List.take_of_length_le (by rw [List.length_map]; omega)]
theorem NmOk.take {zs : List Str} (h : NmOk zs) (n : Nat) : NmOk (zs.take n) := ⟨h.nd.sublist (List.take_sublist _ _), fun z hz => h.len z (List.mem_of_mem_take hz)⟩
/-- a list of texts, apart from the pen -/
structure Txs (S : Sto) (p a : Addr) (zs : List Str) : Prop where
  at_ : S a = some (.lst (zs.map .str))
  ne : a ≠ p
  ok : NmOk zs
theorem Txs.kp {S S' : Sto} {p a : Addr} {zs : List Str} (h : Txs S p a zs) (k : Kp p S S') : Txs S' p a zs := ⟨k _ _ h.ne h.at_, h.ne, h.ok⟩
theorem Txs.new {S : Sto} {p a c : Addr} {zs : List Str} {o : O} (h : Txs S p a zs) (hc : S c = none) : Txs (updS S c o) p a zs := h.kp (.new hc)
theorem sorts_spec {p pc : Addr} {b nf nr : Nat} {S : Sto} {Q : DK} (h : Pen S p pc b) (hb : b + 100 ≤ 100000) (h1 : nf ≤ 10) (h2 : nr ≤ 44)
    (q : ∀ (f pl ho na : Addr) (fs ps hs ns : List Str) (S' : Sto), Txs S' p f fs → Txs S' p pl ps → Txs S' p ho hs → Txs S' p na ns → fs.length = nf → ps.length = 10 → hs.length = 5 → ns.length = nr → Pen S' p pc (b + 90) → Kp p S S' → Q (.tup [.ref f, .ref pl, .ref ho, .ref na]) S') :
    m_wsorts [.ref p, .int (nf : Nat), .int (nr : Nat)] S Q := by
  rw [e_wsorts]
  refine seq_i ?_
  try simp (config := {implicitDefEqProofs := false, proj := false}) only [nx_mk, rt_mk, bk_mk, ct_mk, eVar, eC, eOp, eIf, eTup, eLst, eDict0, eDict, eSl, oNo, eCall, eCB, eM, eLc, eIsi2, aNil, aCons, pNil, pCons, tAndD, tOrD, tNotD, tsYes, gMns, gMod, gFdiv, gPow, gLe, gGt, gGe, gEq_ii, gEq_ss, gEq_bb, gEq_nn, gEq_ni, gEq_in, gEq_ns, gEq_sn, gEq_si, gEq_is, sAsg, nName, sRet, sRetN, sExpr, sIf, sNext, sBreak, sCont, sFor, getS, setS, wipeS, endsD, asKeys, toKey, List.length_cons, List.length_nil, List.set_cons_zero, List.set_cons_succ, List.set_nil, Nat.zero_add, Nat.reduceAdd, Option.some.injEq, exists_and_left, exists_eq_left', exists_eq_left, id_eq, if_true, if_false, ite_true, ite_false, Bool.not_true, Bool.not_false, Bool.false_eq_true, not_false_eq_true, not_true_eq_false, reduceCtorEq, true_and, and_true, ne_eq, decide_eq_true_eq, isiN, isiCls, List.mem_cons, String.reduceEq, String.reduceBEq, or_true, true_or, or_false, false_or, Bool.or_true, Bool.true_or, Bool.false_or, Bool.or_false, Bool.and_false, Bool.false_and, Bool.true_and, Bool.and_true, beq_self_eq_true, decide_true, decide_false, tTr_e, vTru_non, vTru_bl, vTru_int, vTru_str, vTru_tup, vTru_ref, oTru_l, oTru_d, tBl_e, vBl_bl, eNeg_e, vNeg_int, eChain_e, eAnd_e, eOr_e, eNot_e, oSome_e, vSome_int, gAdd_ii, gAdd_ss, gAdd_tt, gAdd_rr, gI_ii, gI0_ii, gMulA_ii, gMulA_ri, gMulA_ti, gLt_ii, gLt_ss, gLt2_ii, gLt2_ss, eTab_e, vTab_s, eGet2_e, vGetO_r, vGet2_s, gIs_n, gIs_b, isNon_n, isNon_b, isNon_i, isNon_s, isNon_t, isNon_r, gIx_r, oIx_li, oIx_ds, oIx_di, gIx_ti, gIx_fi, gIx_si, gSl_t, gSl_s, gSl_f, gSl_r, gIn_ss, gIn_t, gIn_r, oIn_l, oIn_ds, gLen_s, gLen_t, gLen_f, gLen_r, oLen_l, oLen_d, gAbs_i, gMax2_ii, gMin2_ii, gInt1_i, gInt1_b, gList_t, gList_f, gList_r, gTuple_t, gTuple_f, gTuple_r, gSum_r, gAll_r, gIsi_x, tyD_n, tyD_b, tyD_i, tyD_s, tyD_t, tyD_f, tyD_r, oTy_l, oTy_d, tyM_s, tyM_r, oTyM_l, oTyM_d, gAppend_r, gPop0_r, gPopAt_r, gClear_r, gReverse_r, gJoin_r, gUpper_s, gStr_i, gSorted_r, iSeq_e, vSeq_r, vSeq_f, vSeq_t, vSeq_s, iRange1_e, vRng1_i, iRange2_e, vRng2_i, iZipD_e, vZip_r, vZip_t, iEnumD_e, vEnum_r, nTupL_t, nTupL_r, nCons_c, nNil_n, sSub_e, vPut_r, oPut_ds, oPut_di, oPut_l]
  refine take_spec h (by omega) (by decide) (by decide) fun k S1 _ _ p1 g1 => ?_
  simp (config := {implicitDefEqProofs := false, proj := false}) only [nx_mk, rt_mk, bk_mk, ct_mk, eVar, eC, eOp, eIf, eTup, eLst, eDict0, eDict, eSl, oNo, eCall, eCB, eM, eLc, eIsi2, aNil, aCons, pNil, pCons, tAndD, tOrD, tNotD, tsYes, gMns, gMod, gFdiv, gPow, gLe, gGt, gGe, gEq_ii, gEq_ss, gEq_bb, gEq_nn, gEq_ni, gEq_in, gEq_ns, gEq_sn, gEq_si, gEq_is, sAsg, nName, sRet, sRetN, sExpr, sIf, sNext, sBreak, sCont, sFor, getS, setS, wipeS, endsD, asKeys, toKey, List.length_cons, List.length_nil, List.set_cons_zero, List.set_cons_succ, List.set_nil, Nat.zero_add, Nat.reduceAdd, Option.some.injEq, exists_and_left, exists_eq_left', exists_eq_left, id_eq, if_true, if_false, ite_true, ite_false, Bool.not_true, Bool.not_false, Bool.false_eq_true, not_false_eq_true, not_true_eq_false, reduceCtorEq, true_and, and_true, ne_eq, decide_eq_true_eq, isiN, isiCls, List.mem_cons, String.reduceEq, String.reduceBEq, or_true, true_or, or_false, false_or, Bool.or_true, Bool.true_or, Bool.false_or, Bool.or_false, Bool.and_false, Bool.false_and, Bool.true_and, Bool.and_true, beq_self_eq_true, decide_true, decide_false, tTr_e, vTru_non, vTru_bl, vTru_int, vTru_str, vTru_tup, vTru_ref, oTru_l, oTru_d, tBl_e, vBl_bl, eNeg_e, vNeg_int, eChain_e, eAnd_e, eOr_e, eNot_e, oSome_e, vSome_int, gAdd_ii, gAdd_ss, gAdd_tt, gAdd_rr, gI_ii, gI0_ii, gMulA_ii, gMulA_ri, gMulA_ti, gLt_ii, gLt_ss, gLt2_ii, gLt2_ss, eTab_e, vTab_s, eGet2_e, vGetO_r, vGet2_s, gIs_n, gIs_b, isNon_n, isNon_b, isNon_i, isNon_s, isNon_t, isNon_r, gIx_r, oIx_li, oIx_ds, oIx_di, gIx_ti, gIx_fi, gIx_si, gSl_t, gSl_s, gSl_f, gSl_r, gIn_ss, gIn_t, gIn_r, oIn_l, oIn_ds, gLen_s, gLen_t, gLen_f, gLen_r, oLen_l, oLen_d, gAbs_i, gMax2_ii, gMin2_ii, gInt1_i, gInt1_b, gList_t, gList_f, gList_r, gTuple_t, gTuple_f, gTuple_r, gSum_r, gAll_r, gIsi_x, tyD_n, tyD_b, tyD_i, tyD_s, tyD_t, tyD_f, tyD_r, oTy_l, oTy_d, tyM_s, tyM_r, oTyM_l, oTyM_d, gAppend_r, gPop0_r, gPopAt_r, gClear_r, gReverse_r, gJoin_r, gUpper_s, gStr_i, gSorted_r, iSeq_e, vSeq_r, vSeq_f, vSeq_t, vSeq_s, iRange1_e, vRng1_i, iRange2_e, vRng2_i, iZipD_e, vZip_r, vZip_t, iEnumD_e, vEnum_r, nTupL_t, nTupL_r, nCons_c, nNil_n, sSub_e, vPut_r, oPut_ds, oPut_di, oPut_l]
  by_cases hk : k = 0
  · rw [if_pos hk]
    refine seq_i ?_
    try simp (config := {implicitDefEqProofs := false, proj := false}) only [nx_mk, rt_mk, bk_mk, ct_mk, eVar, eC, eOp, eIf, eTup, eLst, eDict0, eDict, eSl, oNo, eCall, eCB, eM, eLc, eIsi2, aNil, aCons, pNil, pCons, tAndD, tOrD, tNotD, tsYes, gMns, gMod, gFdiv, gPow, gLe, gGt, gGe, gEq_ii, gEq_ss, gEq_bb, gEq_nn, gEq_ni, gEq_in, gEq_ns, gEq_sn, gEq_si, gEq_is, sAsg, nName, sRet, sRetN, sExpr, sIf, sNext, sBreak, sCont, sFor, getS, setS, wipeS, endsD, asKeys, toKey, List.length_cons, List.length_nil, List.set_cons_zero, List.set_cons_succ, List.set_nil, Nat.zero_add, Nat.reduceAdd, Option.some.injEq, exists_and_left, exists_eq_left', exists_eq_left, id_eq, if_true, if_false, ite_true, ite_false, Bool.not_true, Bool.not_false, Bool.false_eq_true, not_false_eq_true, not_true_eq_false, reduceCtorEq, true_and, and_true, ne_eq, decide_eq_true_eq, isiN, isiCls, List.mem_cons, String.reduceEq, String.reduceBEq, or_true, true_or, or_false, false_or, Bool.or_true, Bool.true_or, Bool.false_or, Bool.or_false, Bool.and_false, Bool.false_and, Bool.true_and, Bool.and_true, beq_self_eq_true, decide_true, decide_false, tTr_e, vTru_non, vTru_bl, vTru_int, vTru_str, vTru_tup, vTru_ref, oTru_l, oTru_d, tBl_e, vBl_bl, eNeg_e, vNeg_int, eChain_e, eAnd_e, eOr_e, eNot_e, oSome_e, vSome_int, gAdd_ii, gAdd_ss, gAdd_tt, gAdd_rr, gI_ii, gI0_ii, gMulA_ii, gMulA_ri, gMulA_ti, gLt_ii, gLt_ss, gLt2_ii, gLt2_ss, eTab_e, vTab_s, eGet2_e, vGetO_r, vGet2_s, gIs_n, gIs_b, isNon_n, isNon_b, isNon_i, isNon_s, isNon_t, isNon_r, gIx_r, oIx_li, oIx_ds, oIx_di, gIx_ti, gIx_fi, gIx_si, gSl_t, gSl_s, gSl_f, gSl_r, gIn_ss, gIn_t, gIn_r, oIn_l, oIn_ds, gLen_s, gLen_t, gLen_f, gLen_r, oLen_l, oLen_d, gAbs_i, gMax2_ii, gMin2_ii, gInt1_i, gInt1_b, gList_t, gList_f, gList_r, gTuple_t, gTuple_f, gTuple_r, gSum_r, gAll_r, gIsi_x, tyD_n, tyD_b, tyD_i, tyD_s, tyD_t, tyD_f, tyD_r, oTy_l, oTy_d, tyM_s, tyM_r, oTyM_l, oTyM_d, gAppend_r, gPop0_r, gPopAt_r, gClear_r, gReverse_r, gJoin_r, gUpper_s, gStr_i, gSorted_r, iSeq_e, vSeq_r, vSeq_f, vSeq_t, vSeq_s, iRange1_e, vRng1_i, iRange2_e, vRng2_i, iZipD_e, vZip_r, vZip_t, iEnumD_e, vEnum_r, nTupL_t, nTupL_r, nCons_c, nNil_n, sSub_e, vPut_r, oPut_ds, oPut_di, oPut_l]
    refine names_spec (n := 44) p1 (by omega) (by omega) fun a zs S2 ok hl p2 ha hn g2 => ?_
    have nap := (p1.ne hn).1
    have t0 : Txs S2 p a zs := ⟨ha, nap, ok⟩
    simp (config := {implicitDefEqProofs := false, proj := false}) only [nx_mk, rt_mk, bk_mk, ct_mk, eVar, eC, eOp, eIf, eTup, eLst, eDict0, eDict, eSl, oNo, eCall, eCB, eM, eLc, eIsi2, aNil, aCons, pNil, pCons, tAndD, tOrD, tNotD, tsYes, gMns, gMod, gFdiv, gPow, gLe, gGt, gGe, gEq_ii, gEq_ss, gEq_bb, gEq_nn, gEq_ni, gEq_in, gEq_ns, gEq_sn, gEq_si, gEq_is, sAsg, nName, sRet, sRetN, sExpr, sIf, sNext, sBreak, sCont, sFor, getS, setS, wipeS, endsD, asKeys, toKey, List.length_cons, List.length_nil, List.set_cons_zero, List.set_cons_succ, List.set_nil, Nat.zero_add, Nat.reduceAdd, Option.some.injEq, exists_and_left, exists_eq_left', exists_eq_left, id_eq, if_true, if_false, ite_true, ite_false, Bool.not_true, Bool.not_false, Bool.false_eq_true, not_false_eq_true, not_true_eq_false, reduceCtorEq, true_and, and_true, ne_eq, decide_eq_true_eq, isiN, isiCls, List.mem_cons, String.reduceEq, String.reduceBEq, or_true, true_or, or_false, false_or, Bool.or_true, Bool.true_or, Bool.false_or, Bool.or_false, Bool.and_false, Bool.false_and, Bool.true_and, Bool.and_true, beq_self_eq_true, decide_true, decide_false, tTr_e, vTru_non, vTru_bl, vTru_int, vTru_str, vTru_tup, vTru_ref, oTru_l, oTru_d, tBl_e, vBl_bl, eNeg_e, vNeg_int, eChain_e, eAnd_e, eOr_e, eNot_e, oSome_e, vSome_int, gAdd_ii, gAdd_ss, gAdd_tt, gAdd_rr, gI_ii, gI0_ii, gMulA_ii, gMulA_ri, gMulA_ti, gLt_ii, gLt_ss, gLt2_ii, gLt2_ss, eTab_e, vTab_s, eGet2_e, vGetO_r, vGet2_s, gIs_n, gIs_b, isNon_n, isNon_b, isNon_i, isNon_s, isNon_t, isNon_r, gIx_r, oIx_li, oIx_ds, oIx_di, gIx_ti, gIx_fi, gIx_si, gSl_t, gSl_s, gSl_f, gSl_r, gIn_ss, gIn_t, gIn_r, oIn_l, oIn_ds, gLen_s, gLen_t, gLen_f, gLen_r, oLen_l, oLen_d, gAbs_i, gMax2_ii, gMin2_ii, gInt1_i, gInt1_b, gList_t, gList_f, gList_r, gTuple_t, gTuple_f, gTuple_r, gSum_r, gAll_r, gIsi_x, tyD_n, tyD_b, tyD_i, tyD_s, tyD_t, tyD_f, tyD_r, oTy_l, oTy_d, tyM_s, tyM_r, oTyM_l, oTyM_d, gAppend_r, gPop0_r, gPopAt_r, gClear_r, gReverse_r, gJoin_r, gUpper_s, gStr_i, gSorted_r, iSeq_e, vSeq_r, vSeq_f, vSeq_t, vSeq_s, iRange1_e, vRng1_i, iRange2_e, vRng2_i, iZipD_e, vZip_r, vZip_t, iEnumD_e, vEnum_r, nTupL_t, nTupL_r, nCons_c, nNil_n, sSub_e, vPut_r, oPut_ds, oPut_di, oPut_l, t_wsorts_3]
    refine ⟨_, ha, fun c1 hc1 => ?_⟩
    rw [cut_strs]
    have t1 := t0.new (o := .lst ((zs.take nf).map .str)) hc1
    have q1 := p2.new (o := .lst ((zs.take nf).map .str)) hc1
    have k1 : Txs (updS S2 c1 (.lst ((zs.take nf).map .str))) p c1 (zs.take nf) := ⟨updS_same, (p2.ne hc1).1, ok.take _⟩
    have f1 : Kp p S (updS S2 c1 (.lst ((zs.take nf).map .str))) := (g1.trans g2).trans (.new hc1)
    generalize updS S2 c1 (.lst ((zs.take nf).map .str)) = S3 at t1 q1 k1 f1
    refine ⟨_, t1.at_, fun c2 hc2 => ?_⟩
    rw [show (10 : Int) = ((10 : Nat) : Int) from rfl, cut_strs]
    have t2 := t1.new (o := .lst ((zs.take 10).map .str)) hc2
    have q2 := q1.new (o := .lst ((zs.take 10).map .str)) hc2
    have k1 := k1.new (o := .lst ((zs.take 10).map .str)) hc2
    have k2 : Txs (updS S3 c2 (.lst ((zs.take 10).map .str))) p c2 (zs.take 10) := ⟨updS_same, (q1.ne hc2).1, ok.take _⟩
    have f2 : Kp p S (updS S3 c2 (.lst ((zs.take 10).map .str))) := f1.trans (.new hc2)
    generalize updS S3 c2 (.lst ((zs.take 10).map .str)) = S4 at t2 q2 k1 k2 f2
    refine ⟨_, t2.at_, fun c3 hc3 => ?_⟩
    rw [show (5 : Int) = ((5 : Nat) : Int) from rfl, cut_strs]
    have t3 := t2.new (o := .lst ((zs.take 5).map .str)) hc3
    have q3 := q2.new (o := .lst ((zs.take 5).map .str)) hc3
    have k1 := k1.new (o := .lst ((zs.take 5).map .str)) hc3
    have k2 := k2.new (o := .lst ((zs.take 5).map .str)) hc3
    have k3 : Txs (updS S4 c3 (.lst ((zs.take 5).map .str))) p c3 (zs.take 5) := ⟨updS_same, (q2.ne hc3).1, ok.take _⟩
    have f3 : Kp p S (updS S4 c3 (.lst ((zs.take 5).map .str))) := f2.trans (.new hc3)
    generalize updS S4 c3 (.lst ((zs.take 5).map .str)) = S5 at t3 q3 k1 k2 k3 f3
    refine ⟨_, t3.at_, fun c4 hc4 => ⟨by decide, ?_⟩⟩
    rw [cut_strs]
    exact q c1 c2 c3 c4 (zs.take nf) (zs.take 10) (zs.take 5) (zs.take nr) _ (k1.new hc4) (k2.new hc4) (k3.new hc4) ⟨updS_same, (q3.ne hc4).1, ok.take _⟩ (by rw [List.length_take]; omega) (by rw [List.length_take]; omega) (by rw [List.length_take]; omega) (by rw [List.length_take]; omega) ((q3.new hc4).mono (by omega)) (f3.trans (.new hc4))
  · rw [if_neg hk]
    simp (config := {implicitDefEqProofs := false, proj := false}) only [nx_mk, rt_mk, bk_mk, ct_mk, eVar, eC, eOp, eIf, eTup, eLst, eDict0, eDict, eSl, oNo, eCall, eCB, eM, eLc, eIsi2, aNil, aCons, pNil, pCons, tAndD, tOrD, tNotD, tsYes, gMns, gMod, gFdiv, gPow, gLe, gGt, gGe, gEq_ii, gEq_ss, gEq_bb, gEq_nn, gEq_ni, gEq_in, gEq_ns, gEq_sn, gEq_si, gEq_is, sAsg, nName, sRet, sRetN, sExpr, sIf, sNext, sBreak, sCont, sFor, getS, setS, wipeS, endsD, asKeys, toKey, List.length_cons, List.length_nil, List.set_cons_zero, List.set_cons_succ, List.set_nil, Nat.zero_add, Nat.reduceAdd, Option.some.injEq, exists_and_left, exists_eq_left', exists_eq_left, id_eq, if_true, if_false, ite_true, ite_false, Bool.not_true, Bool.not_false, Bool.false_eq_true, not_false_eq_true, not_true_eq_false, reduceCtorEq, true_and, and_true, ne_eq, decide_eq_true_eq, isiN, isiCls, List.mem_cons, String.reduceEq, String.reduceBEq, or_true, true_or, or_false, false_or, Bool.or_true, Bool.true_or, Bool.false_or, Bool.or_false, Bool.and_false, Bool.false_and, Bool.true_and, Bool.and_true, beq_self_eq_true, decide_true, decide_false, tTr_e, vTru_non, vTru_bl, vTru_int, vTru_str, vTru_tup, vTru_ref, oTru_l, oTru_d, tBl_e, vBl_bl, eNeg_e, vNeg_int, eChain_e, eAnd_e, eOr_e, eNot_e, oSome_e, vSome_int, gAdd_ii, gAdd_ss, gAdd_tt, gAdd_rr, gI_ii, gI0_ii, gMulA_ii, gMulA_ri, gMulA_ti, gLt_ii, gLt_ss, gLt2_ii, gLt2_ss, eTab_e, vTab_s, eGet2_e, vGetO_r, vGet2_s, gIs_n, gIs_b, isNon_n, isNon_b, isNon_i, isNon_s, isNon_t, isNon_r, gIx_r, oIx_li, oIx_ds, oIx_di, gIx_ti, gIx_fi, gIx_si, gSl_t, gSl_s, gSl_f, gSl_r, gIn_ss, gIn_t, gIn_r, oIn_l, oIn_ds, gLen_s, gLen_t, gLen_f, gLen_r, oLen_l, oLen_d, gAbs_i, gMax2_ii, gMin2_ii, gInt1_i, gInt1_b, gList_t, gList_f, gList_r, gTuple_t, gTuple_f, gTuple_r, gSum_r, gAll_r, gIsi_x, tyD_n, tyD_b, tyD_i, tyD_s, tyD_t, tyD_f, tyD_r, oTy_l, oTy_d, tyM_s, tyM_r, oTyM_l, oTyM_d, gAppend_r, gPop0_r, gPopAt_r, gClear_r, gReverse_r, gJoin_r, gUpper_s, gStr_i, gSorted_r, iSeq_e, vSeq_r, vSeq_f, vSeq_t, vSeq_s, iRange1_e, vRng1_i, iRange2_e, vRng2_i, iZipD_e, vZip_r, vZip_t, iEnumD_e, vEnum_r, nTupL_t, nTupL_r, nCons_c, nNil_n, sSub_e, vPut_r, oPut_ds, oPut_di, oPut_l, t_wsorts_4]
    refine seq_i ?_
    try simp (config := {implicitDefEqProofs := false, proj := false}) only [nx_mk, rt_mk, bk_mk, ct_mk, eVar, eC, eOp, eIf, eTup, eLst, eDict0, eDict, eSl, oNo, eCall, eCB, eM, eLc, eIsi2, aNil, aCons, pNil, pCons, tAndD, tOrD, tNotD, tsYes, gMns, gMod, gFdiv, gPow, gLe, gGt, gGe, gEq_ii, gEq_ss, gEq_bb, gEq_nn, gEq_ni, gEq_in, gEq_ns, gEq_sn, gEq_si, gEq_is, sAsg, nName, sRet, sRetN, sExpr, sIf, sNext, sBreak, sCont, sFor, getS, setS, wipeS, endsD, asKeys, toKey, List.length_cons, List.length_nil, List.set_cons_zero, List.set_cons_succ, List.set_nil, Nat.zero_add, Nat.reduceAdd, Option.some.injEq, exists_and_left, exists_eq_left', exists_eq_left, id_eq, if_true, if_false, ite_true, ite_false, Bool.not_true, Bool.not_false, Bool.false_eq_true, not_false_eq_true, not_true_eq_false, reduceCtorEq, true_and, and_true, ne_eq, decide_eq_true_eq, isiN, isiCls, List.mem_cons, String.reduceEq, String.reduceBEq, or_true, true_or, or_false, false_or, Bool.or_true, Bool.true_or, Bool.false_or, Bool.or_false, Bool.and_false, Bool.false_and, Bool.true_and, Bool.and_true, beq_self_eq_true, decide_true, decide_false, tTr_e, vTru_non, vTru_bl, vTru_int, vTru_str, vTru_tup, vTru_ref, oTru_l, oTru_d, tBl_e, vBl_bl, eNeg_e, vNeg_int, eChain_e, eAnd_e, eOr_e, eNot_e, oSome_e, vSome_int, gAdd_ii, gAdd_ss, gAdd_tt, gAdd_rr, gI_ii, gI0_ii, gMulA_ii, gMulA_ri, gMulA_ti, gLt_ii, gLt_ss, gLt2_ii, gLt2_ss, eTab_e, vTab_s, eGet2_e, vGetO_r, vGet2_s, gIs_n, gIs_b, isNon_n, isNon_b, isNon_i, isNon_s, isNon_t, isNon_r, gIx_r, oIx_li, oIx_ds, oIx_di, gIx_ti, gIx_fi, gIx_si, gSl_t, gSl_s, gSl_f, gSl_r, gIn_ss, gIn_t, gIn_r, oIn_l, oIn_ds, gLen_s, gLen_t, gLen_f, gLen_r, oLen_l, oLen_d, gAbs_i, gMax2_ii, gMin2_ii, gInt1_i, gInt1_b, gList_t, gList_f, gList_r, gTuple_t, gTuple_f, gTuple_r, gSum_r, gAll_r, gIsi_x, tyD_n, tyD_b, tyD_i, tyD_s, tyD_t, tyD_f, tyD_r, oTy_l, oTy_d, tyM_s, tyM_r, oTyM_l, oTyM_d, gAppend_r, gPop0_r, gPopAt_r, gClear_r, gReverse_r, gJoin_r, gUpper_s, gStr_i, gSorted_r, iSeq_e, vSeq_r, vSeq_f, vSeq_t, vSeq_s, iRange1_e, vRng1_i, iRange2_e, vRng2_i, iZipD_e, vZip_r, vZip_t, iEnumD_e, vEnum_r, nTupL_t, nTupL_r, nCons_c, nNil_n, sSub_e, vPut_r, oPut_ds, oPut_di, oPut_l]
    refine names_spec (n := 10) p1 (by omega) (by omega) fun a zs S2 ok hl p2 ha hn g2 => ?_
    have nap := (p1.ne hn).1
    simp (config := {implicitDefEqProofs := false, proj := false}) only [nx_mk, rt_mk, bk_mk, ct_mk, eVar, eC, eOp, eIf, eTup, eLst, eDict0, eDict, eSl, oNo, eCall, eCB, eM, eLc, eIsi2, aNil, aCons, pNil, pCons, tAndD, tOrD, tNotD, tsYes, gMns, gMod, gFdiv, gPow, gLe, gGt, gGe, gEq_ii, gEq_ss, gEq_bb, gEq_nn, gEq_ni, gEq_in, gEq_ns, gEq_sn, gEq_si, gEq_is, sAsg, nName, sRet, sRetN, sExpr, sIf, sNext, sBreak, sCont, sFor, getS, setS, wipeS, endsD, asKeys, toKey, List.length_cons, List.length_nil, List.set_cons_zero, List.set_cons_succ, List.set_nil, Nat.zero_add, Nat.reduceAdd, Option.some.injEq, exists_and_left, exists_eq_left', exists_eq_left, id_eq, if_true, if_false, ite_true, ite_false, Bool.not_true, Bool.not_false, Bool.false_eq_true, not_false_eq_true, not_true_eq_false, reduceCtorEq, true_and, and_true, ne_eq, decide_eq_true_eq, isiN, isiCls, List.mem_cons, String.reduceEq, String.reduceBEq, or_true, true_or, or_false, false_or, Bool.or_true, Bool.true_or, Bool.false_or, Bool.or_false, Bool.and_false, Bool.false_and, Bool.true_and, Bool.and_true, beq_self_eq_true, decide_true, decide_false, tTr_e, vTru_non, vTru_bl, vTru_int, vTru_str, vTru_tup, vTru_ref, oTru_l, oTru_d, tBl_e, vBl_bl, eNeg_e, vNeg_int, eChain_e, eAnd_e, eOr_e, eNot_e, oSome_e, vSome_int, gAdd_ii, gAdd_ss, gAdd_tt, gAdd_rr, gI_ii, gI0_ii, gMulA_ii, gMulA_ri, gMulA_ti, gLt_ii, gLt_ss, gLt2_ii, gLt2_ss, eTab_e, vTab_s, eGet2_e, vGetO_r, vGet2_s, gIs_n, gIs_b, isNon_n, isNon_b, isNon_i, isNon_s, isNon_t, isNon_r, gIx_r, oIx_li, oIx_ds, oIx_di, gIx_ti, gIx_fi, gIx_si, gSl_t, gSl_s, gSl_f, gSl_r, gIn_ss, gIn_t, gIn_r, oIn_l, oIn_ds, gLen_s, gLen_t, gLen_f, gLen_r, oLen_l, oLen_d, gAbs_i, gMax2_ii, gMin2_ii, gInt1_i, gInt1_b, gList_t, gList_f, gList_r, gTuple_t, gTuple_f, gTuple_r, gSum_r, gAll_r, gIsi_x, tyD_n, tyD_b, tyD_i, tyD_s, tyD_t, tyD_f, tyD_r, oTy_l, oTy_d, tyM_s, tyM_r, oTyM_l, oTyM_d, gAppend_r, gPop0_r, gPopAt_r, gClear_r, gReverse_r, gJoin_r, gUpper_s, gStr_i, gSorted_r, iSeq_e, vSeq_r, vSeq_f, vSeq_t, vSeq_s, iRange1_e, vRng1_i, iRange2_e, vRng2_i, iZipD_e, vZip_r, vZip_t, iEnumD_e, vEnum_r, nTupL_t, nTupL_r, nCons_c, nNil_n, sSub_e, vPut_r, oPut_ds, oPut_di, oPut_l, t_wsorts_5]
    refine seq_i ?_
    try simp (config := {implicitDefEqProofs := false, proj := false}) only [nx_mk, rt_mk, bk_mk, ct_mk, eVar, eC, eOp, eIf, eTup, eLst, eDict0, eDict, eSl, oNo, eCall, eCB, eM, eLc, eIsi2, aNil, aCons, pNil, pCons, tAndD, tOrD, tNotD, tsYes, gMns, gMod, gFdiv, gPow, gLe, gGt, gGe, gEq_ii, gEq_ss, gEq_bb, gEq_nn, gEq_ni, gEq_in, gEq_ns, gEq_sn, gEq_si, gEq_is, sAsg, nName, sRet, sRetN, sExpr, sIf, sNext, sBreak, sCont, sFor, getS, setS, wipeS, endsD, asKeys, toKey, List.length_cons, List.length_nil, List.set_cons_zero, List.set_cons_succ, List.set_nil, Nat.zero_add, Nat.reduceAdd, Option.some.injEq, exists_and_left, exists_eq_left', exists_eq_left, id_eq, if_true, if_false, ite_true, ite_false, Bool.not_true, Bool.not_false, Bool.false_eq_true, not_false_eq_true, not_true_eq_false, reduceCtorEq, true_and, and_true, ne_eq, decide_eq_true_eq, isiN, isiCls, List.mem_cons, String.reduceEq, String.reduceBEq, or_true, true_or, or_false, false_or, Bool.or_true, Bool.true_or, Bool.false_or, Bool.or_false, Bool.and_false, Bool.false_and, Bool.true_and, Bool.and_true, beq_self_eq_true, decide_true, decide_false, tTr_e, vTru_non, vTru_bl, vTru_int, vTru_str, vTru_tup, vTru_ref, oTru_l, oTru_d, tBl_e, vBl_bl, eNeg_e, vNeg_int, eChain_e, eAnd_e, eOr_e, eNot_e, oSome_e, vSome_int, gAdd_ii, gAdd_ss, gAdd_tt, gAdd_rr, gI_ii, gI0_ii, gMulA_ii, gMulA_ri, gMulA_ti, gLt_ii, gLt_ss, gLt2_ii, gLt2_ss, eTab_e, vTab_s, eGet2_e, vGetO_r, vGet2_s, gIs_n, gIs_b, isNon_n, isNon_b, isNon_i, isNon_s, isNon_t, isNon_r, gIx_r, oIx_li, oIx_ds, oIx_di, gIx_ti, gIx_fi, gIx_si, gSl_t, gSl_s, gSl_f, gSl_r, gIn_ss, gIn_t, gIn_r, oIn_l, oIn_ds, gLen_s, gLen_t, gLen_f, gLen_r, oLen_l, oLen_d, gAbs_i, gMax2_ii, gMin2_ii, gInt1_i, gInt1_b, gList_t, gList_f, gList_r, gTuple_t, gTuple_f, gTuple_r, gSum_r, gAll_r, gIsi_x, tyD_n, tyD_b, tyD_i, tyD_s, tyD_t, tyD_f, tyD_r, oTy_l, oTy_d, tyM_s, tyM_r, oTyM_l, oTyM_d, gAppend_r, gPop0_r, gPopAt_r, gClear_r, gReverse_r, gJoin_r, gUpper_s, gStr_i, gSorted_r, iSeq_e, vSeq_r, vSeq_f, vSeq_t, vSeq_s, iRange1_e, vRng1_i, iRange2_e, vRng2_i, iZipD_e, vZip_r, vZip_t, iEnumD_e, vEnum_r, nTupL_t, nTupL_r, nCons_c, nNil_n, sSub_e, vPut_r, oPut_ds, oPut_di, oPut_l]
    refine names_spec (n := 5) p2 (by omega) (by omega) fun a2 zs2 S3 ok2 hl2 p3 ha2 hn2 g3 => ?_
    have nap2 := (p2.ne hn2).1
    simp (config := {implicitDefEqProofs := false, proj := false}) only [nx_mk, rt_mk, bk_mk, ct_mk, eVar, eC, eOp, eIf, eTup, eLst, eDict0, eDict, eSl, oNo, eCall, eCB, eM, eLc, eIsi2, aNil, aCons, pNil, pCons, tAndD, tOrD, tNotD, tsYes, gMns, gMod, gFdiv, gPow, gLe, gGt, gGe, gEq_ii, gEq_ss, gEq_bb, gEq_nn, gEq_ni, gEq_in, gEq_ns, gEq_sn, gEq_si, gEq_is, sAsg, nName, sRet, sRetN, sExpr, sIf, sNext, sBreak, sCont, sFor, getS, setS, wipeS, endsD, asKeys, toKey, List.length_cons, List.length_nil, List.set_cons_zero, List.set_cons_succ, List.set_nil, Nat.zero_add, Nat.reduceAdd, Option.some.injEq, exists_and_left, exists_eq_left', exists_eq_left, id_eq, if_true, if_false, ite_true, ite_false, Bool.not_true, Bool.not_false, Bool.false_eq_true, not_false_eq_true, not_true_eq_false, reduceCtorEq, true_and, and_true, ne_eq, decide_eq_true_eq, isiN, isiCls, List.mem_cons, String.reduceEq, String.reduceBEq, or_true, true_or, or_false, false_or, Bool.or_true, Bool.true_or, Bool.false_or, Bool.or_false, Bool.and_false, Bool.false_and, Bool.true_and, Bool.and_true, beq_self_eq_true, decide_true, decide_false, tTr_e, vTru_non, vTru_bl, vTru_int, vTru_str, vTru_tup, vTru_ref, oTru_l, oTru_d, tBl_e, vBl_bl, eNeg_e, vNeg_int, eChain_e, eAnd_e, eOr_e, eNot_e, oSome_e, vSome_int, gAdd_ii, gAdd_ss, gAdd_tt, gAdd_rr, gI_ii, gI0_ii, gMulA_ii, gMulA_ri, gMulA_ti, gLt_ii, gLt_ss, gLt2_ii, gLt2_ss, eTab_e, vTab_s, eGet2_e, vGetO_r, vGet2_s, gIs_n, gIs_b, isNon_n, isNon_b, isNon_i, isNon_s, isNon_t, isNon_r, gIx_r, oIx_li, oIx_ds, oIx_di, gIx_ti, gIx_fi, gIx_si, gSl_t, gSl_s, gSl_f, gSl_r, gIn_ss, gIn_t, gIn_r, oIn_l, oIn_ds, gLen_s, gLen_t, gLen_f, gLen_r, oLen_l, oLen_d, gAbs_i, gMax2_ii, gMin2_ii, gInt1_i, gInt1_b, gList_t, gList_f, gList_r, gTuple_t, gTuple_f, gTuple_r, gSum_r, gAll_r, gIsi_x, tyD_n, tyD_b, tyD_i, tyD_s, tyD_t, tyD_f, tyD_r, oTy_l, oTy_d, tyM_s, tyM_r, oTyM_l, oTyM_d, gAppend_r, gPop0_r, gPopAt_r, gClear_r, gReverse_r, gJoin_r, gUpper_s, gStr_i, gSorted_r, iSeq_e, vSeq_r, vSeq_f, vSeq_t, vSeq_s, iRange1_e, vRng1_i, iRange2_e, vRng2_i, iZipD_e, vZip_r, vZip_t, iEnumD_e, vEnum_r, nTupL_t, nTupL_r, nCons_c, nNil_n, sSub_e, vPut_r, oPut_ds, oPut_di, oPut_l, t_wsorts_6]
    refine names_spec p3 (by omega) (by omega) fun a3 zs3 S4 ok3 hl3 p4 ha3 hn3 g4 => ?_
    have nap3 := (p3.ne hn3).1
    refine names_spec p4 (by omega) h2 fun a4 zs4 S5 ok4 hl4 p5 ha4 hn4 g5 => ?_
    have nap4 := (p4.ne hn4).1
    refine ⟨by decide, q a3 a a2 a4 zs3 zs zs2 zs4 S5 ⟨g5 _ _ nap3 ha3, nap3, ok3⟩ ⟨g5 _ _ nap (g4 _ _ nap (g3 _ _ nap ha)), nap, ok⟩ ⟨g5 _ _ nap2 (g4 _ _ nap2 ha2), nap2, ok2⟩ ⟨ha4, nap4, ok4⟩ hl3 hl hl2 hl4 (p5.mono (by omega)) (g1.trans (g2.trans (g3.trans (g4.trans g5))))⟩
end LW
namespace LW
open PySem L2 DL
/-- a list of days, apart from the pen -/
structure Dys (S : Sto) (p a : Addr) (ds : List Int) : Prop where
  at_ : S a = some (.lst (ds.map .int))
  ne : a ≠ p
  ok : ∀ d ∈ ds, 0 ≤ d ∧ d ≤ 9999
theorem Dys.kp {S S' : Sto} {p a : Addr} {zs : List Int} (h : Dys S p a zs) (k : Kp p S S') : Dys S' p a zs := ⟨k _ _ h.ne h.at_, h.ne, h.ok⟩
theorem get_int {ds : List Int} {i : Int} (h0 : 0 ≤ i) (h : i < ds.length) (ok : ∀ d ∈ ds, 0 ≤ d ∧ d ≤ 9999) : ∃ z, atI (ds.map D.int) i = some (.int z) ∧ 0 ≤ z ∧ z ≤ 9999 := by
  obtain ⟨k, rfl⟩ : ∃ k : Nat, i = (k : Nat) := ⟨i.toNat, by omega⟩
  have hl : k < ds.length := by omega
  refine ⟨ds[k], atI_nat ?_, ok _ (List.getElem_mem hl)⟩
  rw [List.getElem?_map]
  simp [hl]
theorem wdays_spec {p pc : Addr} {b n : Nat} {S : Sto} {Q : DK} (h : Pen S p pc b) (hb : b + 200 ≤ 100000) (hn : n ≤ 44)
    (q : ∀ (a : Addr) (ds : List Int) (S' : Sto), Dys S' p a ds → ds.length = n → Pen S' p pc (b + 110) → Kp p S S' → Q (.ref a) S') : m_wdays [.ref p, .int (n : Nat)] S Q := by
  rw [e_wdays]
  refine seq_i ?_
  try simp (config := {implicitDefEqProofs := false, proj := false}) only [nx_mk, rt_mk, bk_mk, ct_mk, eVar, eC, eOp, eIf, eTup, eLst, eDict0, eDict, eSl, oNo, eCall, eCB, eM, eLc, eIsi2, aNil, aCons, pNil, pCons, tAndD, tOrD, tNotD, tsYes, gMns, gMod, gFdiv, gPow, gLe, gGt, gGe, gEq_ii, gEq_ss, gEq_bb, gEq_nn, gEq_ni, gEq_in, gEq_ns, gEq_sn, gEq_si, gEq_is, sAsg, nName, sRet, sRetN, sExpr, sIf, sNext, sBreak, sCont, sFor, getS, setS, wipeS, endsD, asKeys, toKey, List.length_cons, List.length_nil, List.set_cons_zero, List.set_cons_succ, List.set_nil, Nat.zero_add, Nat.reduceAdd, Option.some.injEq, exists_and_left, exists_eq_left', exists_eq_left, id_eq, if_true, if_false, ite_true, ite_false, Bool.not_true, Bool.not_false, Bool.false_eq_true, not_false_eq_true, not_true_eq_false, reduceCtorEq, true_and, and_true, ne_eq, decide_eq_true_eq, isiN, isiCls, List.mem_cons, String.reduceEq, String.reduceBEq, or_true, true_or, or_false, false_or, Bool.or_true, Bool.true_or, Bool.false_or, Bool.or_false, Bool.and_false, Bool.false_and, Bool.true_and, Bool.and_true, beq_self_eq_true, decide_true, decide_false, tTr_e, vTru_non, vTru_bl, vTru_int, vTru_str, vTru_tup, vTru_ref, oTru_l, oTru_d, tBl_e, vBl_bl, eNeg_e, vNeg_int, eChain_e, eAnd_e, eOr_e, eNot_e, oSome_e, vSome_int, gAdd_ii, gAdd_ss, gAdd_tt, gAdd_rr, gI_ii, gI0_ii, gMulA_ii, gMulA_ri, gMulA_ti, gLt_ii, gLt_ss, gLt2_ii, gLt2_ss, eTab_e, vTab_s, eGet2_e, vGetO_r, vGet2_s, gIs_n, gIs_b, isNon_n, isNon_b, isNon_i, isNon_s, isNon_t, isNon_r, gIx_r, oIx_li, oIx_ds, oIx_di, gIx_ti, gIx_fi, gIx_si, gSl_t, gSl_s, gSl_f, gSl_r, gIn_ss, gIn_t, gIn_r, oIn_l, oIn_ds, gLen_s, gLen_t, gLen_f, gLen_r, oLen_l, oLen_d, gAbs_i, gMax2_ii, gMin2_ii, gInt1_i, gInt1_b, gList_t, gList_f, gList_r, gTuple_t, gTuple_f, gTuple_r, gSum_r, gAll_r, gIsi_x, tyD_n, tyD_b, tyD_i, tyD_s, tyD_t, tyD_f, tyD_r, oTy_l, oTy_d, tyM_s, tyM_r, oTyM_l, oTyM_d, gAppend_r, gPop0_r, gPopAt_r, gClear_r, gReverse_r, gJoin_r, gUpper_s, gStr_i, gSorted_r, iSeq_e, vSeq_r, vSeq_f, vSeq_t, vSeq_s, iRange1_e, vRng1_i, iRange2_e, vRng2_i, iZipD_e, vZip_r, vZip_t, iEnumD_e, vEnum_r, nTupL_t, nTupL_r, nCons_c, nNil_n, sSub_e, vPut_r, oPut_ds, oPut_di, oPut_l]
  refine take_spec h (by omega) (by decide) (by decide) fun way S1 _ _ p1 g1 => ?_
  simp (config := {implicitDefEqProofs := false, proj := false}) only [nx_mk, rt_mk, bk_mk, ct_mk, eVar, eC, eOp, eIf, eTup, eLst, eDict0, eDict, eSl, oNo, eCall, eCB, eM, eLc, eIsi2, aNil, aCons, pNil, pCons, tAndD, tOrD, tNotD, tsYes, gMns, gMod, gFdiv, gPow, gLe, gGt, gGe, gEq_ii, gEq_ss, gEq_bb, gEq_nn, gEq_ni, gEq_in, gEq_ns, gEq_sn, gEq_si, gEq_is, sAsg, nName, sRet, sRetN, sExpr, sIf, sNext, sBreak, sCont, sFor, getS, setS, wipeS, endsD, asKeys, toKey, List.length_cons, List.length_nil, List.set_cons_zero, List.set_cons_succ, List.set_nil, Nat.zero_add, Nat.reduceAdd, Option.some.injEq, exists_and_left, exists_eq_left', exists_eq_left, id_eq, if_true, if_false, ite_true, ite_false, Bool.not_true, Bool.not_false, Bool.false_eq_true, not_false_eq_true, not_true_eq_false, reduceCtorEq, true_and, and_true, ne_eq, decide_eq_true_eq, isiN, isiCls, List.mem_cons, String.reduceEq, String.reduceBEq, or_true, true_or, or_false, false_or, Bool.or_true, Bool.true_or, Bool.false_or, Bool.or_false, Bool.and_false, Bool.false_and, Bool.true_and, Bool.and_true, beq_self_eq_true, decide_true, decide_false, tTr_e, vTru_non, vTru_bl, vTru_int, vTru_str, vTru_tup, vTru_ref, oTru_l, oTru_d, tBl_e, vBl_bl, eNeg_e, vNeg_int, eChain_e, eAnd_e, eOr_e, eNot_e, oSome_e, vSome_int, gAdd_ii, gAdd_ss, gAdd_tt, gAdd_rr, gI_ii, gI0_ii, gMulA_ii, gMulA_ri, gMulA_ti, gLt_ii, gLt_ss, gLt2_ii, gLt2_ss, eTab_e, vTab_s, eGet2_e, vGetO_r, vGet2_s, gIs_n, gIs_b, isNon_n, isNon_b, isNon_i, isNon_s, isNon_t, isNon_r, gIx_r, oIx_li, oIx_ds, oIx_di, gIx_ti, gIx_fi, gIx_si, gSl_t, gSl_s, gSl_f, gSl_r, gIn_ss, gIn_t, gIn_r, oIn_l, oIn_ds, gLen_s, gLen_t, gLen_f, gLen_r, oLen_l, oLen_d, gAbs_i, gMax2_ii, gMin2_ii, gInt1_i, gInt1_b, gList_t, gList_f, gList_r, gTuple_t, gTuple_f, gTuple_r, gSum_r, gAll_r, gIsi_x, tyD_n, tyD_b, tyD_i, tyD_s, tyD_t, tyD_f, tyD_r, oTy_l, oTy_d, tyM_s, tyM_r, oTyM_l, oTyM_d, gAppend_r, gPop0_r, gPopAt_r, gClear_r, gReverse_r, gJoin_r, gUpper_s, gStr_i, gSorted_r, iSeq_e, vSeq_r, vSeq_f, vSeq_t, vSeq_s, iRange1_e, vRng1_i, iRange2_e, vRng2_i, iZipD_e, vZip_r, vZip_t, iEnumD_e, vEnum_r, nTupL_t, nTupL_r, nCons_c, nNil_n, sSub_e, vPut_r, oPut_ds, oPut_di, oPut_l, t_wdays_2]
  refine seq_i ?_
  try simp (config := {implicitDefEqProofs := false, proj := false}) only [nx_mk, rt_mk, bk_mk, ct_mk, eVar, eC, eOp, eIf, eTup, eLst, eDict0, eDict, eSl, oNo, eCall, eCB, eM, eLc, eIsi2, aNil, aCons, pNil, pCons, tAndD, tOrD, tNotD, tsYes, gMns, gMod, gFdiv, gPow, gLe, gGt, gGe, gEq_ii, gEq_ss, gEq_bb, gEq_nn, gEq_ni, gEq_in, gEq_ns, gEq_sn, gEq_si, gEq_is, sAsg, nName, sRet, sRetN, sExpr, sIf, sNext, sBreak, sCont, sFor, getS, setS, wipeS, endsD, asKeys, toKey, List.length_cons, List.length_nil, List.set_cons_zero, List.set_cons_succ, List.set_nil, Nat.zero_add, Nat.reduceAdd, Option.some.injEq, exists_and_left, exists_eq_left', exists_eq_left, id_eq, if_true, if_false, ite_true, ite_false, Bool.not_true, Bool.not_false, Bool.false_eq_true, not_false_eq_true, not_true_eq_false, reduceCtorEq, true_and, and_true, ne_eq, decide_eq_true_eq, isiN, isiCls, List.mem_cons, String.reduceEq, String.reduceBEq, or_true, true_or, or_false, false_or, Bool.or_true, Bool.true_or, Bool.false_or, Bool.or_false, Bool.and_false, Bool.false_and, Bool.true_and, Bool.and_true, beq_self_eq_true, decide_true, decide_false, tTr_e, vTru_non, vTru_bl, vTru_int, vTru_str, vTru_tup, vTru_ref, oTru_l, oTru_d, tBl_e, vBl_bl, eNeg_e, vNeg_int, eChain_e, eAnd_e, eOr_e, eNot_e, oSome_e, vSome_int, gAdd_ii, gAdd_ss, gAdd_tt, gAdd_rr, gI_ii, gI0_ii, gMulA_ii, gMulA_ri, gMulA_ti, gLt_ii, gLt_ss, gLt2_ii, gLt2_ss, eTab_e, vTab_s, eGet2_e, vGetO_r, vGet2_s, gIs_n, gIs_b, isNon_n, isNon_b, isNon_i, isNon_s, isNon_t, isNon_r, gIx_r, oIx_li, oIx_ds, oIx_di, gIx_ti, gIx_fi, gIx_si, gSl_t, gSl_s, gSl_f, gSl_r, gIn_ss, gIn_t, gIn_r, oIn_l, oIn_ds, gLen_s, gLen_t, gLen_f, gLen_r, oLen_l, oLen_d, gAbs_i, gMax2_ii, gMin2_ii, gInt1_i, gInt1_b, gList_t, gList_f, gList_r, gTuple_t, gTuple_f, gTuple_r, gSum_r, gAll_r, gIsi_x, tyD_n, tyD_b, tyD_i, tyD_s, tyD_t, tyD_f, tyD_r, oTy_l, oTy_d, tyM_s, tyM_r, oTyM_l, oTyM_d, gAppend_r, gPop0_r, gPopAt_r, gClear_r, gReverse_r, gJoin_r, gUpper_s, gStr_i, gSorted_r, iSeq_e, vSeq_r, vSeq_f, vSeq_t, vSeq_s, iRange1_e, vRng1_i, iRange2_e, vRng2_i, iZipD_e, vZip_r, vZip_t, iEnumD_e, vEnum_r, nTupL_t, nTupL_r, nCons_c, nNil_n, sSub_e, vPut_r, oPut_ds, oPut_di, oPut_l]
  refine take_spec p1 (by omega) (by decide) (by decide) fun k1 S2 a1 b1 p2 g2 => ?_
  refine take_spec p2 (by omega) (by decide) (by decide) fun k2 S3 a2 b2 p3 g3 => ?_
  have b1 : k1 < 10000 := b1
  have b2 : k2 < 10000 := b2
  refine ⟨by decide, fun c hc => ?_⟩
  have dc : Dys (updS S3 c (.lst ([0, 1, 9, 9999, k1, k2].map .int))) p c [0, 1, 9, 9999, k1, k2] := ⟨updS_same, (p3.ne hc).1, fun d hd => by
    simp only [List.mem_cons, List.not_mem_nil, or_false] at hd
    rcases hd with rfl | rfl | rfl | rfl | rfl | rfl <;> omega⟩
  generalize hS4 : updS S3 c _ = S4
  have dc : Dys S4 p c [0, 1, 9, 9999, k1, k2] := by rw [← hS4]; exact dc
  have p4 : Pen S4 p pc (b + 1 + 1 + 1) := by rw [← hS4]; exact p3.new hc
  have g4 : Kp p S S4 := by rw [← hS4]; exact ((g1.trans g2).trans g3).trans (.new hc)
  simp (config := {implicitDefEqProofs := false, proj := false}) only [nx_mk, rt_mk, bk_mk, ct_mk, eVar, eC, eOp, eIf, eTup, eLst, eDict0, eDict, eSl, oNo, eCall, eCB, eM, eLc, eIsi2, aNil, aCons, pNil, pCons, tAndD, tOrD, tNotD, tsYes, gMns, gMod, gFdiv, gPow, gLe, gGt, gGe, gEq_ii, gEq_ss, gEq_bb, gEq_nn, gEq_ni, gEq_in, gEq_ns, gEq_sn, gEq_si, gEq_is, sAsg, nName, sRet, sRetN, sExpr, sIf, sNext, sBreak, sCont, sFor, getS, setS, wipeS, endsD, asKeys, toKey, List.length_cons, List.length_nil, List.set_cons_zero, List.set_cons_succ, List.set_nil, Nat.zero_add, Nat.reduceAdd, Option.some.injEq, exists_and_left, exists_eq_left', exists_eq_left, id_eq, if_true, if_false, ite_true, ite_false, Bool.not_true, Bool.not_false, Bool.false_eq_true, not_false_eq_true, not_true_eq_false, reduceCtorEq, true_and, and_true, ne_eq, decide_eq_true_eq, isiN, isiCls, List.mem_cons, String.reduceEq, String.reduceBEq, or_true, true_or, or_false, false_or, Bool.or_true, Bool.true_or, Bool.false_or, Bool.or_false, Bool.and_false, Bool.false_and, Bool.true_and, Bool.and_true, beq_self_eq_true, decide_true, decide_false, tTr_e, vTru_non, vTru_bl, vTru_int, vTru_str, vTru_tup, vTru_ref, oTru_l, oTru_d, tBl_e, vBl_bl, eNeg_e, vNeg_int, eChain_e, eAnd_e, eOr_e, eNot_e, oSome_e, vSome_int, gAdd_ii, gAdd_ss, gAdd_tt, gAdd_rr, gI_ii, gI0_ii, gMulA_ii, gMulA_ri, gMulA_ti, gLt_ii, gLt_ss, gLt2_ii, gLt2_ss, eTab_e, vTab_s, eGet2_e, vGetO_r, vGet2_s, gIs_n, gIs_b, isNon_n, isNon_b, isNon_i, isNon_s, isNon_t, isNon_r, gIx_r, oIx_li, oIx_ds, oIx_di, gIx_ti, gIx_fi, gIx_si, gSl_t, gSl_s, gSl_f, gSl_r, gIn_ss, gIn_t, gIn_r, oIn_l, oIn_ds, gLen_s, gLen_t, gLen_f, gLen_r, oLen_l, oLen_d, gAbs_i, gMax2_ii, gMin2_ii, gInt1_i, gInt1_b, gList_t, gList_f, gList_r, gTuple_t, gTuple_f, gTuple_r, gSum_r, gAll_r, gIsi_x, tyD_n, tyD_b, tyD_i, tyD_s, tyD_t, tyD_f, tyD_r, oTy_l, oTy_d, tyM_s, tyM_r, oTyM_l, oTyM_d, gAppend_r, gPop0_r, gPopAt_r, gClear_r, gReverse_r, gJoin_r, gUpper_s, gStr_i, gSorted_r, iSeq_e, vSeq_r, vSeq_f, vSeq_t, vSeq_s, iRange1_e, vRng1_i, iRange2_e, vRng2_i, iZipD_e, vZip_r, vZip_t, iEnumD_e, vEnum_r, nTupL_t, nTupL_r, nCons_c, nNil_n, sSub_e, vPut_r, oPut_ds, oPut_di, oPut_l, t_wdays_3]
  refine seq_i ?_
  try simp (config := {implicitDefEqProofs := false, proj := false}) only [nx_mk, rt_mk, bk_mk, ct_mk, eVar, eC, eOp, eIf, eTup, eLst, eDict0, eDict, eSl, oNo, eCall, eCB, eM, eLc, eIsi2, aNil, aCons, pNil, pCons, tAndD, tOrD, tNotD, tsYes, gMns, gMod, gFdiv, gPow, gLe, gGt, gGe, gEq_ii, gEq_ss, gEq_bb, gEq_nn, gEq_ni, gEq_in, gEq_ns, gEq_sn, gEq_si, gEq_is, sAsg, nName, sRet, sRetN, sExpr, sIf, sNext, sBreak, sCont, sFor, getS, setS, wipeS, endsD, asKeys, toKey, List.length_cons, List.length_nil, List.set_cons_zero, List.set_cons_succ, List.set_nil, Nat.zero_add, Nat.reduceAdd, Option.some.injEq, exists_and_left, exists_eq_left', exists_eq_left, id_eq, if_true, if_false, ite_true, ite_false, Bool.not_true, Bool.not_false, Bool.false_eq_true, not_false_eq_true, not_true_eq_false, reduceCtorEq, true_and, and_true, ne_eq, decide_eq_true_eq, isiN, isiCls, List.mem_cons, String.reduceEq, String.reduceBEq, or_true, true_or, or_false, false_or, Bool.or_true, Bool.true_or, Bool.false_or, Bool.or_false, Bool.and_false, Bool.false_and, Bool.true_and, Bool.and_true, beq_self_eq_true, decide_true, decide_false, tTr_e, vTru_non, vTru_bl, vTru_int, vTru_str, vTru_tup, vTru_ref, oTru_l, oTru_d, tBl_e, vBl_bl, eNeg_e, vNeg_int, eChain_e, eAnd_e, eOr_e, eNot_e, oSome_e, vSome_int, gAdd_ii, gAdd_ss, gAdd_tt, gAdd_rr, gI_ii, gI0_ii, gMulA_ii, gMulA_ri, gMulA_ti, gLt_ii, gLt_ss, gLt2_ii, gLt2_ss, eTab_e, vTab_s, eGet2_e, vGetO_r, vGet2_s, gIs_n, gIs_b, isNon_n, isNon_b, isNon_i, isNon_s, isNon_t, isNon_r, gIx_r, oIx_li, oIx_ds, oIx_di, gIx_ti, gIx_fi, gIx_si, gSl_t, gSl_s, gSl_f, gSl_r, gIn_ss, gIn_t, gIn_r, oIn_l, oIn_ds, gLen_s, gLen_t, gLen_f, gLen_r, oLen_l, oLen_d, gAbs_i, gMax2_ii, gMin2_ii, gInt1_i, gInt1_b, gList_t, gList_f, gList_r, gTuple_t, gTuple_f, gTuple_r, gSum_r, gAll_r, gIsi_x, tyD_n, tyD_b, tyD_i, tyD_s, tyD_t, tyD_f, tyD_r, oTy_l, oTy_d, tyM_s, tyM_r, oTyM_l, oTyM_d, gAppend_r, gPop0_r, gPopAt_r, gClear_r, gReverse_r, gJoin_r, gUpper_s, gStr_i, gSorted_r, iSeq_e, vSeq_r, vSeq_f, vSeq_t, vSeq_s, iRange1_e, vRng1_i, iRange2_e, vRng2_i, iZipD_e, vZip_r, vZip_t, iEnumD_e, vEnum_r, nTupL_t, nTupL_r, nCons_c, nNil_n, sSub_e, vPut_r, oPut_ds, oPut_di, oPut_l]
  refine take_spec p4 (by omega) (by decide) (by decide) fun k3 S5 a3 b3 p5 g5 => ?_
  have b3 : k3 < 4 := b3
  try simp (config := {implicitDefEqProofs := false, proj := false}) only [nx_mk, rt_mk, bk_mk, ct_mk, eVar, eC, eOp, eIf, eTup, eLst, eDict0, eDict, eSl, oNo, eCall, eCB, eM, eLc, eIsi2, aNil, aCons, pNil, pCons, tAndD, tOrD, tNotD, tsYes, gMns, gMod, gFdiv, gPow, gLe, gGt, gGe, gEq_ii, gEq_ss, gEq_bb, gEq_nn, gEq_ni, gEq_in, gEq_ns, gEq_sn, gEq_si, gEq_is, sAsg, nName, sRet, sRetN, sExpr, sIf, sNext, sBreak, sCont, sFor, getS, setS, wipeS, endsD, asKeys, toKey, List.length_cons, List.length_nil, List.set_cons_zero, List.set_cons_succ, List.set_nil, Nat.zero_add, Nat.reduceAdd, Option.some.injEq, exists_and_left, exists_eq_left', exists_eq_left, id_eq, if_true, if_false, ite_true, ite_false, Bool.not_true, Bool.not_false, Bool.false_eq_true, not_false_eq_true, not_true_eq_false, reduceCtorEq, true_and, and_true, ne_eq, decide_eq_true_eq, isiN, isiCls, List.mem_cons, String.reduceEq, String.reduceBEq, or_true, true_or, or_false, false_or, Bool.or_true, Bool.true_or, Bool.false_or, Bool.or_false, Bool.and_false, Bool.false_and, Bool.true_and, Bool.and_true, beq_self_eq_true, decide_true, decide_false, tTr_e, vTru_non, vTru_bl, vTru_int, vTru_str, vTru_tup, vTru_ref, oTru_l, oTru_d, tBl_e, vBl_bl, eNeg_e, vNeg_int, eChain_e, eAnd_e, eOr_e, eNot_e, oSome_e, vSome_int, gAdd_ii, gAdd_ss, gAdd_tt, gAdd_rr, gI_ii, gI0_ii, gMulA_ii, gMulA_ri, gMulA_ti, gLt_ii, gLt_ss, gLt2_ii, gLt2_ss, eTab_e, vTab_s, eGet2_e, vGetO_r, vGet2_s, gIs_n, gIs_b, isNon_n, isNon_b, isNon_i, isNon_s, isNon_t, isNon_r, gIx_r, oIx_li, oIx_ds, oIx_di, gIx_ti, gIx_fi, gIx_si, gSl_t, gSl_s, gSl_f, gSl_r, gIn_ss, gIn_t, gIn_r, oIn_l, oIn_ds, gLen_s, gLen_t, gLen_f, gLen_r, oLen_l, oLen_d, gAbs_i, gMax2_ii, gMin2_ii, gInt1_i, gInt1_b, gList_t, gList_f, gList_r, gTuple_t, gTuple_f, gTuple_r, gSum_r, gAll_r, gIsi_x, tyD_n, tyD_b, tyD_i, tyD_s, tyD_t, tyD_f, tyD_r, oTy_l, oTy_d, tyM_s, tyM_r, oTyM_l, oTyM_d, gAppend_r, gPop0_r, gPopAt_r, gClear_r, gReverse_r, gJoin_r, gUpper_s, gStr_i, gSorted_r, iSeq_e, vSeq_r, vSeq_f, vSeq_t, vSeq_s, iRange1_e, vRng1_i, iRange2_e, vRng2_i, iZipD_e, vZip_r, vZip_t, iEnumD_e, vEnum_r, nTupL_t, nTupL_r, nCons_c, nNil_n, sSub_e, vPut_r, oPut_ds, oPut_di, oPut_l]
  refine ⟨by omega, by omega, ?_⟩
  have dc5 := dc.kp g5
  have g6 := g4.trans g5
  refine lcL_inv _ (fun i acc S' => Pen S' p pc (b + 4 + i) ∧ Kp p S5 S' ∧ ∃ ys : List Int, acc = ys.map .int ∧ ys.length = i ∧ ∀ d ∈ ys, 0 ≤ d ∧ d ≤ 9999) (fun _ _ _ _ => trivial) (fun i x acc S6 N hx hI hN => ?el) (fun acc S6 hI => ?af) ⟨p5, .refl, [], rfl, rfl, fun _ h => nomatch h⟩
  case el =>
    obtain ⟨p6, g7, ys, rfl, hl, hy⟩ := hI
    have hi := (List.getElem?_eq_some_iff.mp hx).1
    rw [rangeD_len] at hi
    simp (config := {implicitDefEqProofs := false, proj := false}) only [nx_mk, rt_mk, bk_mk, ct_mk, eVar, eC, eOp, eIf, eTup, eLst, eDict0, eDict, eSl, oNo, eCall, eCB, eM, eLc, eIsi2, aNil, aCons, pNil, pCons, tAndD, tOrD, tNotD, tsYes, gMns, gMod, gFdiv, gPow, gLe, gGt, gGe, gEq_ii, gEq_ss, gEq_bb, gEq_nn, gEq_ni, gEq_in, gEq_ns, gEq_sn, gEq_si, gEq_is, sAsg, nName, sRet, sRetN, sExpr, sIf, sNext, sBreak, sCont, sFor, getS, setS, wipeS, endsD, asKeys, toKey, List.length_cons, List.length_nil, List.set_cons_zero, List.set_cons_succ, List.set_nil, Nat.zero_add, Nat.reduceAdd, Option.some.injEq, exists_and_left, exists_eq_left', exists_eq_left, id_eq, if_true, if_false, ite_true, ite_false, Bool.not_true, Bool.not_false, Bool.false_eq_true, not_false_eq_true, not_true_eq_false, reduceCtorEq, true_and, and_true, ne_eq, decide_eq_true_eq, isiN, isiCls, List.mem_cons, String.reduceEq, String.reduceBEq, or_true, true_or, or_false, false_or, Bool.or_true, Bool.true_or, Bool.false_or, Bool.or_false, Bool.and_false, Bool.false_and, Bool.true_and, Bool.and_true, beq_self_eq_true, decide_true, decide_false, tTr_e, vTru_non, vTru_bl, vTru_int, vTru_str, vTru_tup, vTru_ref, oTru_l, oTru_d, tBl_e, vBl_bl, eNeg_e, vNeg_int, eChain_e, eAnd_e, eOr_e, eNot_e, oSome_e, vSome_int, gAdd_ii, gAdd_ss, gAdd_tt, gAdd_rr, gI_ii, gI0_ii, gMulA_ii, gMulA_ri, gMulA_ti, gLt_ii, gLt_ss, gLt2_ii, gLt2_ss, eTab_e, vTab_s, eGet2_e, vGetO_r, vGet2_s, gIs_n, gIs_b, isNon_n, isNon_b, isNon_i, isNon_s, isNon_t, isNon_r, gIx_r, oIx_li, oIx_ds, oIx_di, gIx_ti, gIx_fi, gIx_si, gSl_t, gSl_s, gSl_f, gSl_r, gIn_ss, gIn_t, gIn_r, oIn_l, oIn_ds, gLen_s, gLen_t, gLen_f, gLen_r, oLen_l, oLen_d, gAbs_i, gMax2_ii, gMin2_ii, gInt1_i, gInt1_b, gList_t, gList_f, gList_r, gTuple_t, gTuple_f, gTuple_r, gSum_r, gAll_r, gIsi_x, tyD_n, tyD_b, tyD_i, tyD_s, tyD_t, tyD_f, tyD_r, oTy_l, oTy_d, tyM_s, tyM_r, oTyM_l, oTyM_d, gAppend_r, gPop0_r, gPopAt_r, gClear_r, gReverse_r, gJoin_r, gUpper_s, gStr_i, gSorted_r, iSeq_e, vSeq_r, vSeq_f, vSeq_t, vSeq_s, iRange1_e, vRng1_i, iRange2_e, vRng2_i, iZipD_e, vZip_r, vZip_t, iEnumD_e, vEnum_r, nTupL_t, nTupL_r, nCons_c, nNil_n, sSub_e, vPut_r, oPut_ds, oPut_di, oPut_l, c_wdays_3]
    refine take_spec p6 (by omega) (by decide) (by decide) fun j S7 a4 b4 p7 g8 => ?_
    rw [(dc5.kp (g7.trans g8)).at_, oIx_li]
    obtain ⟨z, ez, z0, z1⟩ := get_int (ds := [0, 1, 9, 9999, k1, k2]) a4 b4 dc.ok
    refine ⟨_, ez, by rw [List.length_map, hl]; exact Nat.lt_of_lt_of_le (show i < 401 by omega) (by decide), hN _ _ ⟨p7, g7.trans g8, ys ++ [z], by rw [List.map_append]; rfl, by rw [List.length_append, hl]; rfl, fun d hd => ?_⟩⟩
    rcases List.mem_append.mp hd with hd | hd
    · exact hy d hd
    · rw [List.mem_singleton] at hd; subst hd; exact ⟨z0, z1⟩
  case af =>
    obtain ⟨p6, g7, few, rfl, hl, hy⟩ := hI
    rw [rangeD_len] at hl p6
    intro e he
    have df : Dys (updS S6 e (.lst (few.map .int))) p e few := ⟨updS_same, (p6.ne he).1, hy⟩
    have p8 := p6.new (o := .lst (few.map .int)) he
    have g8 : Kp p S (updS S6 e (.lst (few.map .int))) := (g6.trans g7).trans (.new he)
    generalize updS S6 e (.lst (few.map .int)) = S8 at df p8 g8
    simp (config := {implicitDefEqProofs := false, proj := false}) only [nx_mk, rt_mk, bk_mk, ct_mk, eVar, eC, eOp, eIf, eTup, eLst, eDict0, eDict, eSl, oNo, eCall, eCB, eM, eLc, eIsi2, aNil, aCons, pNil, pCons, tAndD, tOrD, tNotD, tsYes, gMns, gMod, gFdiv, gPow, gLe, gGt, gGe, gEq_ii, gEq_ss, gEq_bb, gEq_nn, gEq_ni, gEq_in, gEq_ns, gEq_sn, gEq_si, gEq_is, sAsg, nName, sRet, sRetN, sExpr, sIf, sNext, sBreak, sCont, sFor, getS, setS, wipeS, endsD, asKeys, toKey, List.length_cons, List.length_nil, List.set_cons_zero, List.set_cons_succ, List.set_nil, Nat.zero_add, Nat.reduceAdd, Option.some.injEq, exists_and_left, exists_eq_left', exists_eq_left, id_eq, if_true, if_false, ite_true, ite_false, Bool.not_true, Bool.not_false, Bool.false_eq_true, not_false_eq_true, not_true_eq_false, reduceCtorEq, true_and, and_true, ne_eq, decide_eq_true_eq, isiN, isiCls, List.mem_cons, String.reduceEq, String.reduceBEq, or_true, true_or, or_false, false_or, Bool.or_true, Bool.true_or, Bool.false_or, Bool.or_false, Bool.and_false, Bool.false_and, Bool.true_and, Bool.and_true, beq_self_eq_true, decide_true, decide_false, tTr_e, vTru_non, vTru_bl, vTru_int, vTru_str, vTru_tup, vTru_ref, oTru_l, oTru_d, tBl_e, vBl_bl, eNeg_e, vNeg_int, eChain_e, eAnd_e, eOr_e, eNot_e, oSome_e, vSome_int, gAdd_ii, gAdd_ss, gAdd_tt, gAdd_rr, gI_ii, gI0_ii, gMulA_ii, gMulA_ri, gMulA_ti, gLt_ii, gLt_ss, gLt2_ii, gLt2_ss, eTab_e, vTab_s, eGet2_e, vGetO_r, vGet2_s, gIs_n, gIs_b, isNon_n, isNon_b, isNon_i, isNon_s, isNon_t, isNon_r, gIx_r, oIx_li, oIx_ds, oIx_di, gIx_ti, gIx_fi, gIx_si, gSl_t, gSl_s, gSl_f, gSl_r, gIn_ss, gIn_t, gIn_r, oIn_l, oIn_ds, gLen_s, gLen_t, gLen_f, gLen_r, oLen_l, oLen_d, gAbs_i, gMax2_ii, gMin2_ii, gInt1_i, gInt1_b, gList_t, gList_f, gList_r, gTuple_t, gTuple_f, gTuple_r, gSum_r, gAll_r, gIsi_x, tyD_n, tyD_b, tyD_i, tyD_s, tyD_t, tyD_f, tyD_r, oTy_l, oTy_d, tyM_s, tyM_r, oTyM_l, oTyM_d, gAppend_r, gPop0_r, gPopAt_r, gClear_r, gReverse_r, gJoin_r, gUpper_s, gStr_i, gSorted_r, iSeq_e, vSeq_r, vSeq_f, vSeq_t, vSeq_s, iRange1_e, vRng1_i, iRange2_e, vRng2_i, iZipD_e, vZip_r, vZip_t, iEnumD_e, vEnum_r, nTupL_t, nTupL_r, nCons_c, nNil_n, sSub_e, vPut_r, oPut_ds, oPut_di, oPut_l, t_wdays_4]
    refine seq_i ?_
    try simp (config := {implicitDefEqProofs := false, proj := false}) only [nx_mk, rt_mk, bk_mk, ct_mk, eVar, eC, eOp, eIf, eTup, eLst, eDict0, eDict, eSl, oNo, eCall, eCB, eM, eLc, eIsi2, aNil, aCons, pNil, pCons, tAndD, tOrD, tNotD, tsYes, gMns, gMod, gFdiv, gPow, gLe, gGt, gGe, gEq_ii, gEq_ss, gEq_bb, gEq_nn, gEq_ni, gEq_in, gEq_ns, gEq_sn, gEq_si, gEq_is, sAsg, nName, sRet, sRetN, sExpr, sIf, sNext, sBreak, sCont, sFor, getS, setS, wipeS, endsD, asKeys, toKey, List.length_cons, List.length_nil, List.set_cons_zero, List.set_cons_succ, List.set_nil, Nat.zero_add, Nat.reduceAdd, Option.some.injEq, exists_and_left, exists_eq_left', exists_eq_left, id_eq, if_true, if_false, ite_true, ite_false, Bool.not_true, Bool.not_false, Bool.false_eq_true, not_false_eq_true, not_true_eq_false, reduceCtorEq, true_and, and_true, ne_eq, decide_eq_true_eq, isiN, isiCls, List.mem_cons, String.reduceEq, String.reduceBEq, or_true, true_or, or_false, false_or, Bool.or_true, Bool.true_or, Bool.false_or, Bool.or_false, Bool.and_false, Bool.false_and, Bool.true_and, Bool.and_true, beq_self_eq_true, decide_true, decide_false, tTr_e, vTru_non, vTru_bl, vTru_int, vTru_str, vTru_tup, vTru_ref, oTru_l, oTru_d, tBl_e, vBl_bl, eNeg_e, vNeg_int, eChain_e, eAnd_e, eOr_e, eNot_e, oSome_e, vSome_int, gAdd_ii, gAdd_ss, gAdd_tt, gAdd_rr, gI_ii, gI0_ii, gMulA_ii, gMulA_ri, gMulA_ti, gLt_ii, gLt_ss, gLt2_ii, gLt2_ss, eTab_e, vTab_s, eGet2_e, vGetO_r, vGet2_s, gIs_n, gIs_b, isNon_n, isNon_b, isNon_i, isNon_s, isNon_t, isNon_r, gIx_r, oIx_li, oIx_ds, oIx_di, gIx_ti, gIx_fi, gIx_si, gSl_t, gSl_s, gSl_f, gSl_r, gIn_ss, gIn_t, gIn_r, oIn_l, oIn_ds, gLen_s, gLen_t, gLen_f, gLen_r, oLen_l, oLen_d, gAbs_i, gMax2_ii, gMin2_ii, gInt1_i, gInt1_b, gList_t, gList_f, gList_r, gTuple_t, gTuple_f, gTuple_r, gSum_r, gAll_r, gIsi_x, tyD_n, tyD_b, tyD_i, tyD_s, tyD_t, tyD_f, tyD_r, oTy_l, oTy_d, tyM_s, tyM_r, oTyM_l, oTyM_d, gAppend_r, gPop0_r, gPopAt_r, gClear_r, gReverse_r, gJoin_r, gUpper_s, gStr_i, gSorted_r, iSeq_e, vSeq_r, vSeq_f, vSeq_t, vSeq_s, iRange1_e, vRng1_i, iRange2_e, vRng2_i, iZipD_e, vZip_r, vZip_t, iEnumD_e, vEnum_r, nTupL_t, nTupL_r, nCons_c, nNil_n, sSub_e, vPut_r, oPut_ds, oPut_di, oPut_l]
    refine ⟨nil_line, fun a ha => ?_⟩
    have da : Dys (updS S8 a (.lst (([] : List Int).map .int))) p a [] := ⟨updS_same, (p8.ne ha).1, fun _ h => nomatch h⟩
    have nac := (p8.ne ha).2
    have ea : e ≠ a := neS df.at_ ha
    generalize hS9 : updS S8 a _ = S9
    have da : Dys S9 p a [] := by rw [← hS9]; exact da
    have df : Dys S9 p e few := by rw [← hS9]; exact df.kp (.new ha)
    have p9 : Pen S9 p pc (b + 14) := by rw [← hS9]; exact (p8.new ha).mono (by omega)
    have sa : S a = none := by
      cases e2 : S a with
      | none => rfl
      | some o => have := g8 a o (p8.ne ha).1 e2; rw [ha] at this; cases this
    have g9 : Kp p S S9 := by rw [← hS9]; exact g8.trans (.new ha)
    simp (config := {implicitDefEqProofs := false, proj := false}) only [nx_mk, rt_mk, bk_mk, ct_mk, eVar, eC, eOp, eIf, eTup, eLst, eDict0, eDict, eSl, oNo, eCall, eCB, eM, eLc, eIsi2, aNil, aCons, pNil, pCons, tAndD, tOrD, tNotD, tsYes, gMns, gMod, gFdiv, gPow, gLe, gGt, gGe, gEq_ii, gEq_ss, gEq_bb, gEq_nn, gEq_ni, gEq_in, gEq_ns, gEq_sn, gEq_si, gEq_is, sAsg, nName, sRet, sRetN, sExpr, sIf, sNext, sBreak, sCont, sFor, getS, setS, wipeS, endsD, asKeys, toKey, List.length_cons, List.length_nil, List.set_cons_zero, List.set_cons_succ, List.set_nil, Nat.zero_add, Nat.reduceAdd, Option.some.injEq, exists_and_left, exists_eq_left', exists_eq_left, id_eq, if_true, if_false, ite_true, ite_false, Bool.not_true, Bool.not_false, Bool.false_eq_true, not_false_eq_true, not_true_eq_false, reduceCtorEq, true_and, and_true, ne_eq, decide_eq_true_eq, isiN, isiCls, List.mem_cons, String.reduceEq, String.reduceBEq, or_true, true_or, or_false, false_or, Bool.or_true, Bool.true_or, Bool.false_or, Bool.or_false, Bool.and_false, Bool.false_and, Bool.true_and, Bool.and_true, beq_self_eq_true, decide_true, decide_false, tTr_e, vTru_non, vTru_bl, vTru_int, vTru_str, vTru_tup, vTru_ref, oTru_l, oTru_d, tBl_e, vBl_bl, eNeg_e, vNeg_int, eChain_e, eAnd_e, eOr_e, eNot_e, oSome_e, vSome_int, gAdd_ii, gAdd_ss, gAdd_tt, gAdd_rr, gI_ii, gI0_ii, gMulA_ii, gMulA_ri, gMulA_ti, gLt_ii, gLt_ss, gLt2_ii, gLt2_ss, eTab_e, vTab_s, eGet2_e, vGetO_r, vGet2_s, gIs_n, gIs_b, isNon_n, isNon_b, isNon_i, isNon_s, isNon_t, isNon_r, gIx_r, oIx_li, oIx_ds, oIx_di, gIx_ti, gIx_fi, gIx_si, gSl_t, gSl_s, gSl_f, gSl_r, gIn_ss, gIn_t, gIn_r, oIn_l, oIn_ds, gLen_s, gLen_t, gLen_f, gLen_r, oLen_l, oLen_d, gAbs_i, gMax2_ii, gMin2_ii, gInt1_i, gInt1_b, gList_t, gList_f, gList_r, gTuple_t, gTuple_f, gTuple_r, gSum_r, gAll_r, gIsi_x, tyD_n, tyD_b, tyD_i, tyD_s, tyD_t, tyD_f, tyD_r, oTy_l, oTy_d, tyM_s, tyM_r, oTyM_l, oTyM_d, gAppend_r, gPop0_r, gPopAt_r, gClear_r, gReverse_r, gJoin_r, gUpper_s, gStr_i, gSorted_r, iSeq_e, vSeq_r, vSeq_f, vSeq_t, vSeq_s, iRange1_e, vRng1_i, iRange2_e, vRng2_i, iZipD_e, vZip_r, vZip_t, iEnumD_e, vEnum_r, nTupL_t, nTupL_r, nCons_c, nNil_n, sSub_e, vPut_r, oPut_ds, oPut_di, oPut_l, t_wdays_5]
    refine seq_i ?_
    try simp (config := {implicitDefEqProofs := false, proj := false}) only [nx_mk, rt_mk, bk_mk, ct_mk, eVar, eC, eOp, eIf, eTup, eLst, eDict0, eDict, eSl, oNo, eCall, eCB, eM, eLc, eIsi2, aNil, aCons, pNil, pCons, tAndD, tOrD, tNotD, tsYes, gMns, gMod, gFdiv, gPow, gLe, gGt, gGe, gEq_ii, gEq_ss, gEq_bb, gEq_nn, gEq_ni, gEq_in, gEq_ns, gEq_sn, gEq_si, gEq_is, sAsg, nName, sRet, sRetN, sExpr, sIf, sNext, sBreak, sCont, sFor, getS, setS, wipeS, endsD, asKeys, toKey, List.length_cons, List.length_nil, List.set_cons_zero, List.set_cons_succ, List.set_nil, Nat.zero_add, Nat.reduceAdd, Option.some.injEq, exists_and_left, exists_eq_left', exists_eq_left, id_eq, if_true, if_false, ite_true, ite_false, Bool.not_true, Bool.not_false, Bool.false_eq_true, not_false_eq_true, not_true_eq_false, reduceCtorEq, true_and, and_true, ne_eq, decide_eq_true_eq, isiN, isiCls, List.mem_cons, String.reduceEq, String.reduceBEq, or_true, true_or, or_false, false_or, Bool.or_true, Bool.true_or, Bool.false_or, Bool.or_false, Bool.and_false, Bool.false_and, Bool.true_and, Bool.and_true, beq_self_eq_true, decide_true, decide_false, tTr_e, vTru_non, vTru_bl, vTru_int, vTru_str, vTru_tup, vTru_ref, oTru_l, oTru_d, tBl_e, vBl_bl, eNeg_e, vNeg_int, eChain_e, eAnd_e, eOr_e, eNot_e, oSome_e, vSome_int, gAdd_ii, gAdd_ss, gAdd_tt, gAdd_rr, gI_ii, gI0_ii, gMulA_ii, gMulA_ri, gMulA_ti, gLt_ii, gLt_ss, gLt2_ii, gLt2_ss, eTab_e, vTab_s, eGet2_e, vGetO_r, vGet2_s, gIs_n, gIs_b, isNon_n, isNon_b, isNon_i, isNon_s, isNon_t, isNon_r, gIx_r, oIx_li, oIx_ds, oIx_di, gIx_ti, gIx_fi, gIx_si, gSl_t, gSl_s, gSl_f, gSl_r, gIn_ss, gIn_t, gIn_r, oIn_l, oIn_ds, gLen_s, gLen_t, gLen_f, gLen_r, oLen_l, oLen_d, gAbs_i, gMax2_ii, gMin2_ii, gInt1_i, gInt1_b, gList_t, gList_f, gList_r, gTuple_t, gTuple_f, gTuple_r, gSum_r, gAll_r, gIsi_x, tyD_n, tyD_b, tyD_i, tyD_s, tyD_t, tyD_f, tyD_r, oTy_l, oTy_d, tyM_s, tyM_r, oTyM_l, oTyM_d, gAppend_r, gPop0_r, gPopAt_r, gClear_r, gReverse_r, gJoin_r, gUpper_s, gStr_i, gSorted_r, iSeq_e, vSeq_r, vSeq_f, vSeq_t, vSeq_s, iRange1_e, vRng1_i, iRange2_e, vRng2_i, iZipD_e, vZip_r, vZip_t, iEnumD_e, vEnum_r, nTupL_t, nTupL_r, nCons_c, nNil_n, sSub_e, vPut_r, oPut_ds, oPut_di, oPut_l]
    refine ⟨by omega, by omega, ?_⟩
    rw [Int.toNat_natCast]
    refine forR_inv 0 n (fun i σ S' => ∃ ds : List Int, (∃ u6, σ = [some (.ref p), some (.int (n : Nat)), some (.int way), some (.ref c), some (.ref e), some (.ref a), u6]) ∧ ds.length = i ∧ Dys S' p a ds ∧ Dys S' p e few ∧ Pen S' p pc (b + 14 + 2 * i) ∧ Kp p S S') (fun _ _ _ _ => trivial) (fun i σ S' N hi hI hN => ?turn) (fun σ S' hI => ?fin) ⟨[], ⟨none, rfl⟩, rfl, da, df, p9, g9⟩
    case turn =>
      obtain ⟨ds, ⟨u6, rfl⟩, hdl, dai, dfi, pi, gi⟩ := hI
      simp (config := {implicitDefEqProofs := false, proj := false}) only [nx_mk, rt_mk, bk_mk, ct_mk, eVar, eC, eOp, eIf, eTup, eLst, eDict0, eDict, eSl, oNo, eCall, eCB, eM, eLc, eIsi2, aNil, aCons, pNil, pCons, tAndD, tOrD, tNotD, tsYes, gMns, gMod, gFdiv, gPow, gLe, gGt, gGe, gEq_ii, gEq_ss, gEq_bb, gEq_nn, gEq_ni, gEq_in, gEq_ns, gEq_sn, gEq_si, gEq_is, sAsg, nName, sRet, sRetN, sExpr, sIf, sNext, sBreak, sCont, sFor, getS, setS, wipeS, endsD, asKeys, toKey, List.length_cons, List.length_nil, List.set_cons_zero, List.set_cons_succ, List.set_nil, Nat.zero_add, Nat.reduceAdd, Option.some.injEq, exists_and_left, exists_eq_left', exists_eq_left, id_eq, if_true, if_false, ite_true, ite_false, Bool.not_true, Bool.not_false, Bool.false_eq_true, not_false_eq_true, not_true_eq_false, reduceCtorEq, true_and, and_true, ne_eq, decide_eq_true_eq, isiN, isiCls, List.mem_cons, String.reduceEq, String.reduceBEq, or_true, true_or, or_false, false_or, Bool.or_true, Bool.true_or, Bool.false_or, Bool.or_false, Bool.and_false, Bool.false_and, Bool.true_and, Bool.and_true, beq_self_eq_true, decide_true, decide_false, tTr_e, vTru_non, vTru_bl, vTru_int, vTru_str, vTru_tup, vTru_ref, oTru_l, oTru_d, tBl_e, vBl_bl, eNeg_e, vNeg_int, eChain_e, eAnd_e, eOr_e, eNot_e, oSome_e, vSome_int, gAdd_ii, gAdd_ss, gAdd_tt, gAdd_rr, gI_ii, gI0_ii, gMulA_ii, gMulA_ri, gMulA_ti, gLt_ii, gLt_ss, gLt2_ii, gLt2_ss, eTab_e, vTab_s, eGet2_e, vGetO_r, vGet2_s, gIs_n, gIs_b, isNon_n, isNon_b, isNon_i, isNon_s, isNon_t, isNon_r, gIx_r, oIx_li, oIx_ds, oIx_di, gIx_ti, gIx_fi, gIx_si, gSl_t, gSl_s, gSl_f, gSl_r, gIn_ss, gIn_t, gIn_r, oIn_l, oIn_ds, gLen_s, gLen_t, gLen_f, gLen_r, oLen_l, oLen_d, gAbs_i, gMax2_ii, gMin2_ii, gInt1_i, gInt1_b, gList_t, gList_f, gList_r, gTuple_t, gTuple_f, gTuple_r, gSum_r, gAll_r, gIsi_x, tyD_n, tyD_b, tyD_i, tyD_s, tyD_t, tyD_f, tyD_r, oTy_l, oTy_d, tyM_s, tyM_r, oTyM_l, oTyM_d, gAppend_r, gPop0_r, gPopAt_r, gClear_r, gReverse_r, gJoin_r, gUpper_s, gStr_i, gSorted_r, iSeq_e, vSeq_r, vSeq_f, vSeq_t, vSeq_s, iRange1_e, vRng1_i, iRange2_e, vRng2_i, iZipD_e, vZip_r, vZip_t, iEnumD_e, vEnum_r, nTupL_t, nTupL_r, nCons_c, nNil_n, sSub_e, vPut_r, oPut_ds, oPut_di, oPut_l, l_wdays_5, dai.at_, dfi.at_]
      have pos : 0 < few.length := by omega
      have hfl : few.length ≤ 4 := by omega
      rw [List.length_map]
      refine take_spec pi (by omega) (by omega) (log_small (by omega) (by omega)) fun j1 S10 a5 b5 p10 g10 => ?_
      have df10 := dfi.kp g10
      obtain ⟨z, ez, z0, z1⟩ := get_int a5 b5 df10.ok
      rw [df10.at_, oIx_li]
      refine ⟨_, ez, ?_⟩
      refine take_spec p10 (by omega) (by decide) (by decide) fun j2 S11 a6 b6 p11 g11 => ?_
      have b6 : j2 < 10000 := b6
      have da11 := (dai.kp g10).kp g11
      have df11 := df10.kp g11
      refine ⟨by decide, fun r hr => ?_⟩
      have hpick : ∃ v, atI [D.int z, D.int j2] (if way = 0 then 1 else 0) = some (.int v) ∧ 0 ≤ v ∧ v ≤ 9999 := by
        by_cases hw : way = 0
        · rw [if_pos hw]; exact ⟨_, rfl, by omega, by omega⟩
        · rw [if_neg hw]; exact ⟨_, rfl, z0, z1⟩
      obtain ⟨v, ev, v0, v1⟩ := hpick
      rw [updS_same, oIx_li]
      refine ⟨_, ev, ?_⟩
      have da12 := da11.kp (.new (o := .lst [.int z, .int j2]) hr)
      have df12 := df11.kp (.new (o := .lst [.int z, .int j2]) hr)
      have p12 := p11.new (o := .lst [.int z, .int j2]) hr
      have g12 : Kp p S (updS S11 r (.lst [.int z, .int j2])) := ((gi.trans g10).trans g11).trans (.new hr)
      generalize updS S11 r (.lst [.int z, .int j2]) = S12 at da12 df12 p12 g12
      refine ⟨_, da12.at_, by rw [List.length_map]; exact Nat.lt_of_lt_of_le (show ds.length < 401 by omega) (by decide), hN _ _ ⟨ds ++ [v], ⟨_, rfl⟩, by rw [List.length_append, hdl]; rfl, ⟨by rw [updS_same, List.map_append]; rfl, da12.ne, fun d hd => ?_⟩, ⟨by rw [updS_ne ea]; exact df12.at_, df12.ne, df12.ok⟩, ?_, fun y o hy e2 => by rw [updS_ne (neS e2 sa)]; exact g12 y o hy e2⟩⟩
      · rcases List.mem_append.mp hd with hd | hd
        · exact da12.ok d hd
        · rw [List.mem_singleton] at hd; subst hd; exact ⟨v0, v1⟩
      · obtain ⟨ns, y, l, e1, e3, e4⟩ := (p12.mono (b2 := b + 14 + 2 * (i + 1)) (by omega)).ex
        exact ⟨ns, y, l, by rw [updS_ne (Ne.symm da12.ne)]; exact e1, by rw [updS_ne (Ne.symm nac)]; exact e3, e4⟩
    case fin =>
      obtain ⟨ds, ⟨u6, rfl⟩, hdl, dai, dfi, pi, gi⟩ := hI
      simp (config := {implicitDefEqProofs := false, proj := false}) only [nx_mk, rt_mk, bk_mk, ct_mk, eVar, eC, eOp, eIf, eTup, eLst, eDict0, eDict, eSl, oNo, eCall, eCB, eM, eLc, eIsi2, aNil, aCons, pNil, pCons, tAndD, tOrD, tNotD, tsYes, gMns, gMod, gFdiv, gPow, gLe, gGt, gGe, gEq_ii, gEq_ss, gEq_bb, gEq_nn, gEq_ni, gEq_in, gEq_ns, gEq_sn, gEq_si, gEq_is, sAsg, nName, sRet, sRetN, sExpr, sIf, sNext, sBreak, sCont, sFor, getS, setS, wipeS, endsD, asKeys, toKey, List.length_cons, List.length_nil, List.set_cons_zero, List.set_cons_succ, List.set_nil, Nat.zero_add, Nat.reduceAdd, Option.some.injEq, exists_and_left, exists_eq_left', exists_eq_left, id_eq, if_true, if_false, ite_true, ite_false, Bool.not_true, Bool.not_false, Bool.false_eq_true, not_false_eq_true, not_true_eq_false, reduceCtorEq, true_and, and_true, ne_eq, decide_eq_true_eq, isiN, isiCls, List.mem_cons, String.reduceEq, String.reduceBEq, or_true, true_or, or_false, false_or, Bool.or_true, Bool.true_or, Bool.false_or, Bool.or_false, Bool.and_false, Bool.false_and, Bool.true_and, Bool.and_true, beq_self_eq_true, decide_true, decide_false, tTr_e, vTru_non, vTru_bl, vTru_int, vTru_str, vTru_tup, vTru_ref, oTru_l, oTru_d, tBl_e, vBl_bl, eNeg_e, vNeg_int, eChain_e, eAnd_e, eOr_e, eNot_e, oSome_e, vSome_int, gAdd_ii, gAdd_ss, gAdd_tt, gAdd_rr, gI_ii, gI0_ii, gMulA_ii, gMulA_ri, gMulA_ti, gLt_ii, gLt_ss, gLt2_ii, gLt2_ss, eTab_e, vTab_s, eGet2_e, vGetO_r, vGet2_s, gIs_n, gIs_b, isNon_n, isNon_b, isNon_i, isNon_s, isNon_t, isNon_r, gIx_r, oIx_li, oIx_ds, oIx_di, gIx_ti, gIx_fi, gIx_si, gSl_t, gSl_s, gSl_f, gSl_r, gIn_ss, gIn_t, gIn_r, oIn_l, oIn_ds, gLen_s, gLen_t, gLen_f, gLen_r, oLen_l, oLen_d, gAbs_i, gMax2_ii, gMin2_ii, gInt1_i, gInt1_b, gList_t, gList_f, gList_r, gTuple_t, gTuple_f, gTuple_r, gSum_r, gAll_r, gIsi_x, tyD_n, tyD_b, tyD_i, tyD_s, tyD_t, tyD_f, tyD_r, oTy_l, oTy_d, tyM_s, tyM_r, oTyM_l, oTyM_d, gAppend_r, gPop0_r, gPopAt_r, gClear_r, gReverse_r, gJoin_r, gUpper_s, gStr_i, gSorted_r, iSeq_e, vSeq_r, vSeq_f, vSeq_t, vSeq_s, iRange1_e, vRng1_i, iRange2_e, vRng2_i, iZipD_e, vZip_r, vZip_t, iEnumD_e, vEnum_r, nTupL_t, nTupL_r, nCons_c, nNil_n, sSub_e, vPut_r, oPut_ds, oPut_di, oPut_l, t_wdays_7]
      exact q a ds S' dai hdl (pi.mono (by omega)) gi
end LW
namespace LW
open PySem L2 DL
theorem get_str {zs : List Str} {i : Int} (h0 : 0 ≤ i) (h : i < zs.length) : ∃ z, atI (zs.map D.str) i = some (.str z) ∧ z ∈ zs := by
  obtain ⟨k, rfl⟩ : ∃ k : Nat, i = (k : Nat) := ⟨i.toNat, by omega⟩
  have hl : k < zs.length := by omega
  refine ⟨zs[k], atI_nat ?_, List.getElem_mem hl⟩
  rw [List.getElem?_map]
  simp [hl]
theorem powI {i j : Int} (h0 : 0 ≤ j) (h1 : j ≤ 1000) (h2 : 0 ≤ i) (h3 : i ≤ 1000) : CPow i j := powS h0 (by omega) (by omega) (by omega)
/-- a laying: some tuple -/
theorem laying_spec {p pc f ho : Addr} {b : Nat} {fs hs : List Str} {S : Sto} {Q : DK} (h : Pen S p pc b) (hb : b + 100 ≤ 100000) (tf : Txs S p f fs) (th : Txs S p ho hs) (hf : fs.length ≤ 10) (hh : 0 < hs.length) (hh2 : hs.length ≤ 100)
    (q : ∀ (xs : List D) (S' : Sto), Pen S' p pc (b + 90) → Kp p S S' → Q (.tup xs) S') : m_wlaying [.ref p, .ref f, .ref ho] S Q := by
  rw [e_wlaying]
  refine seq_i ?_
  try simp (config := {implicitDefEqProofs := false, proj := false}) only [nx_mk, rt_mk, bk_mk, ct_mk, eVar, eC, eOp, eIf, eTup, eLst, eDict0, eDict, eSl, oNo, eCall, eCB, eM, eLc, eIsi2, aNil, aCons, pNil, pCons, tAndD, tOrD, tNotD, tsYes, gMns, gMod, gFdiv, gPow, gLe, gGt, gGe, gEq_ii, gEq_ss, gEq_bb, gEq_nn, gEq_ni, gEq_in, gEq_ns, gEq_sn, gEq_si, gEq_is, sAsg, nName, sRet, sRetN, sExpr, sIf, sNext, sBreak, sCont, sFor, getS, setS, wipeS, endsD, asKeys, toKey, List.length_cons, List.length_nil, List.set_cons_zero, List.set_cons_succ, List.set_nil, Nat.zero_add, Nat.reduceAdd, Option.some.injEq, exists_and_left, exists_eq_left', exists_eq_left, id_eq, if_true, if_false, ite_true, ite_false, Bool.not_true, Bool.not_false, Bool.false_eq_true, not_false_eq_true, not_true_eq_false, reduceCtorEq, true_and, and_true, ne_eq, decide_eq_true_eq, isiN, isiCls, List.mem_cons, String.reduceEq, String.reduceBEq, or_true, true_or, or_false, false_or, Bool.or_true, Bool.true_or, Bool.false_or, Bool.or_false, Bool.and_false, Bool.false_and, Bool.true_and, Bool.and_true, beq_self_eq_true, decide_true, decide_false, tTr_e, vTru_non, vTru_bl, vTru_int, vTru_str, vTru_tup, vTru_ref, oTru_l, oTru_d, tBl_e, vBl_bl, eNeg_e, vNeg_int, eChain_e, eAnd_e, eOr_e, eNot_e, oSome_e, vSome_int, gAdd_ii, gAdd_ss, gAdd_tt, gAdd_rr, gI_ii, gI0_ii, gMulA_ii, gMulA_ri, gMulA_ti, gLt_ii, gLt_ss, gLt2_ii, gLt2_ss, eTab_e, vTab_s, eGet2_e, vGetO_r, vGet2_s, gIs_n, gIs_b, isNon_n, isNon_b, isNon_i, isNon_s, isNon_t, isNon_r, gIx_r, oIx_li, oIx_ds, oIx_di, gIx_ti, gIx_fi, gIx_si, gSl_t, gSl_s, gSl_f, gSl_r, gIn_ss, gIn_t, gIn_r, oIn_l, oIn_ds, gLen_s, gLen_t, gLen_f, gLen_r, oLen_l, oLen_d, gAbs_i, gMax2_ii, gMin2_ii, gInt1_i, gInt1_b, gList_t, gList_f, gList_r, gTuple_t, gTuple_f, gTuple_r, gSum_r, gAll_r, gIsi_x, tyD_n, tyD_b, tyD_i, tyD_s, tyD_t, tyD_f, tyD_r, oTy_l, oTy_d, tyM_s, tyM_r, oTyM_l, oTyM_d, gAppend_r, gPop0_r, gPopAt_r, gClear_r, gReverse_r, gJoin_r, gUpper_s, gStr_i, gSorted_r, iSeq_e, vSeq_r, vSeq_f, vSeq_t, vSeq_s, iRange1_e, vRng1_i, iRange2_e, vRng2_i, iZipD_e, vZip_r, vZip_t, iEnumD_e, vEnum_r, nTupL_t, nTupL_r, nCons_c, nNil_n, sSub_e, vPut_r, oPut_ds, oPut_di, oPut_l]
  refine ⟨nil_line, fun a ha => ?_⟩
  have na := h.ne ha
  have tf1 := tf.new (o := .lst []) ha
  have th1 := th.new (o := .lst []) ha
  have p1 := h.new (o := .lst []) ha
  have g1 : Kp p S (updS S a (.lst [])) := .new ha
  have a1 : updS S a (.lst []) a = some (.lst []) := updS_same
  generalize updS S a (.lst []) = S1 at tf1 th1 p1 g1 a1
  have nfa : f ≠ a := neS tf.at_ ha
  have nha : ho ≠ a := neS th.at_ ha
  simp (config := {implicitDefEqProofs := false, proj := false}) only [nx_mk, rt_mk, bk_mk, ct_mk, eVar, eC, eOp, eIf, eTup, eLst, eDict0, eDict, eSl, oNo, eCall, eCB, eM, eLc, eIsi2, aNil, aCons, pNil, pCons, tAndD, tOrD, tNotD, tsYes, gMns, gMod, gFdiv, gPow, gLe, gGt, gGe, gEq_ii, gEq_ss, gEq_bb, gEq_nn, gEq_ni, gEq_in, gEq_ns, gEq_sn, gEq_si, gEq_is, sAsg, nName, sRet, sRetN, sExpr, sIf, sNext, sBreak, sCont, sFor, getS, setS, wipeS, endsD, asKeys, toKey, List.length_cons, List.length_nil, List.set_cons_zero, List.set_cons_succ, List.set_nil, Nat.zero_add, Nat.reduceAdd, Option.some.injEq, exists_and_left, exists_eq_left', exists_eq_left, id_eq, if_true, if_false, ite_true, ite_false, Bool.not_true, Bool.not_false, Bool.false_eq_true, not_false_eq_true, not_true_eq_false, reduceCtorEq, true_and, and_true, ne_eq, decide_eq_true_eq, isiN, isiCls, List.mem_cons, String.reduceEq, String.reduceBEq, or_true, true_or, or_false, false_or, Bool.or_true, Bool.true_or, Bool.false_or, Bool.or_false, Bool.and_false, Bool.false_and, Bool.true_and, Bool.and_true, beq_self_eq_true, decide_true, decide_false, tTr_e, vTru_non, vTru_bl, vTru_int, vTru_str, vTru_tup, vTru_ref, oTru_l, oTru_d, tBl_e, vBl_bl, eNeg_e, vNeg_int, eChain_e, eAnd_e, eOr_e, eNot_e, oSome_e, vSome_int, gAdd_ii, gAdd_ss, gAdd_tt, gAdd_rr, gI_ii, gI0_ii, gMulA_ii, gMulA_ri, gMulA_ti, gLt_ii, gLt_ss, gLt2_ii, gLt2_ss, eTab_e, vTab_s, eGet2_e, vGetO_r, vGet2_s, gIs_n, gIs_b, isNon_n, isNon_b, isNon_i, isNon_s, isNon_t, isNon_r, gIx_r, oIx_li, oIx_ds, oIx_di, gIx_ti, gIx_fi, gIx_si, gSl_t, gSl_s, gSl_f, gSl_r, gIn_ss, gIn_t, gIn_r, oIn_l, oIn_ds, gLen_s, gLen_t, gLen_f, gLen_r, oLen_l, oLen_d, gAbs_i, gMax2_ii, gMin2_ii, gInt1_i, gInt1_b, gList_t, gList_f, gList_r, gTuple_t, gTuple_f, gTuple_r, gSum_r, gAll_r, gIsi_x, tyD_n, tyD_b, tyD_i, tyD_s, tyD_t, tyD_f, tyD_r, oTy_l, oTy_d, tyM_s, tyM_r, oTyM_l, oTyM_d, gAppend_r, gPop0_r, gPopAt_r, gClear_r, gReverse_r, gJoin_r, gUpper_s, gStr_i, gSorted_r, iSeq_e, vSeq_r, vSeq_f, vSeq_t, vSeq_s, iRange1_e, vRng1_i, iRange2_e, vRng2_i, iZipD_e, vZip_r, vZip_t, iEnumD_e, vEnum_r, nTupL_t, nTupL_r, nCons_c, nNil_n, sSub_e, vPut_r, oPut_ds, oPut_di, oPut_l, t_wlaying_2]
  refine seq_i ?_
  try simp (config := {implicitDefEqProofs := false, proj := false}) only [nx_mk, rt_mk, bk_mk, ct_mk, eVar, eC, eOp, eIf, eTup, eLst, eDict0, eDict, eSl, oNo, eCall, eCB, eM, eLc, eIsi2, aNil, aCons, pNil, pCons, tAndD, tOrD, tNotD, tsYes, gMns, gMod, gFdiv, gPow, gLe, gGt, gGe, gEq_ii, gEq_ss, gEq_bb, gEq_nn, gEq_ni, gEq_in, gEq_ns, gEq_sn, gEq_si, gEq_is, sAsg, nName, sRet, sRetN, sExpr, sIf, sNext, sBreak, sCont, sFor, getS, setS, wipeS, endsD, asKeys, toKey, List.length_cons, List.length_nil, List.set_cons_zero, List.set_cons_succ, List.set_nil, Nat.zero_add, Nat.reduceAdd, Option.some.injEq, exists_and_left, exists_eq_left', exists_eq_left, id_eq, if_true, if_false, ite_true, ite_false, Bool.not_true, Bool.not_false, Bool.false_eq_true, not_false_eq_true, not_true_eq_false, reduceCtorEq, true_and, and_true, ne_eq, decide_eq_true_eq, isiN, isiCls, List.mem_cons, String.reduceEq, String.reduceBEq, or_true, true_or, or_false, false_or, Bool.or_true, Bool.true_or, Bool.false_or, Bool.or_false, Bool.and_false, Bool.false_and, Bool.true_and, Bool.and_true, beq_self_eq_true, decide_true, decide_false, tTr_e, vTru_non, vTru_bl, vTru_int, vTru_str, vTru_tup, vTru_ref, oTru_l, oTru_d, tBl_e, vBl_bl, eNeg_e, vNeg_int, eChain_e, eAnd_e, eOr_e, eNot_e, oSome_e, vSome_int, gAdd_ii, gAdd_ss, gAdd_tt, gAdd_rr, gI_ii, gI0_ii, gMulA_ii, gMulA_ri, gMulA_ti, gLt_ii, gLt_ss, gLt2_ii, gLt2_ss, eTab_e, vTab_s, eGet2_e, vGetO_r, vGet2_s, gIs_n, gIs_b, isNon_n, isNon_b, isNon_i, isNon_s, isNon_t, isNon_r, gIx_r, oIx_li, oIx_ds, oIx_di, gIx_ti, gIx_fi, gIx_si, gSl_t, gSl_s, gSl_f, gSl_r, gIn_ss, gIn_t, gIn_r, oIn_l, oIn_ds, gLen_s, gLen_t, gLen_f, gLen_r, oLen_l, oLen_d, gAbs_i, gMax2_ii, gMin2_ii, gInt1_i, gInt1_b, gList_t, gList_f, gList_r, gTuple_t, gTuple_f, gTuple_r, gSum_r, gAll_r, gIsi_x, tyD_n, tyD_b, tyD_i, tyD_s, tyD_t, tyD_f, tyD_r, oTy_l, oTy_d, tyM_s, tyM_r, oTyM_l, oTyM_d, gAppend_r, gPop0_r, gPopAt_r, gClear_r, gReverse_r, gJoin_r, gUpper_s, gStr_i, gSorted_r, iSeq_e, vSeq_r, vSeq_f, vSeq_t, vSeq_s, iRange1_e, vRng1_i, iRange2_e, vRng2_i, iZipD_e, vZip_r, vZip_t, iEnumD_e, vEnum_r, nTupL_t, nTupL_r, nCons_c, nNil_n, sSub_e, vPut_r, oPut_ds, oPut_di, oPut_l]
  refine ⟨_, tf1.at_, ?_⟩
  refine forL_inv _ (fun i σ S' => (∃ u4 u5, σ = [some (.ref p), some (.ref f), some (.ref ho), some (.ref a), u4, u5]) ∧ Pen S' p pc (b + 7 * i) ∧ Kp p S S' ∧ S' f = some (.lst (fs.map .str)) ∧ S' ho = some (.lst (hs.map .str)) ∧ ∃ xs : List D, S' a = some (.lst xs) ∧ xs.length = i)
    (fun i σ S' hi => hi.2.2.2.1) (fun i x σ S' N hx hI hN => ?turn) (fun σ S' hI => ?fin) ⟨⟨_, _, rfl⟩, p1, g1, tf1.at_, th1.at_, [], a1, rfl⟩
  case turn =>
    obtain ⟨⟨u4, u5, rfl⟩, pi, gi, ef, eh, xs, ea, hxl⟩ := hI
    have hi := (List.getElem?_eq_some_iff.mp hx).1
    rw [List.length_map] at hi
    simp (config := {implicitDefEqProofs := false, proj := false}) only [nx_mk, rt_mk, bk_mk, ct_mk, eVar, eC, eOp, eIf, eTup, eLst, eDict0, eDict, eSl, oNo, eCall, eCB, eM, eLc, eIsi2, aNil, aCons, pNil, pCons, tAndD, tOrD, tNotD, tsYes, gMns, gMod, gFdiv, gPow, gLe, gGt, gGe, gEq_ii, gEq_ss, gEq_bb, gEq_nn, gEq_ni, gEq_in, gEq_ns, gEq_sn, gEq_si, gEq_is, sAsg, nName, sRet, sRetN, sExpr, sIf, sNext, sBreak, sCont, sFor, getS, setS, wipeS, endsD, asKeys, toKey, List.length_cons, List.length_nil, List.set_cons_zero, List.set_cons_succ, List.set_nil, Nat.zero_add, Nat.reduceAdd, Option.some.injEq, exists_and_left, exists_eq_left', exists_eq_left, id_eq, if_true, if_false, ite_true, ite_false, Bool.not_true, Bool.not_false, Bool.false_eq_true, not_false_eq_true, not_true_eq_false, reduceCtorEq, true_and, and_true, ne_eq, decide_eq_true_eq, isiN, isiCls, List.mem_cons, String.reduceEq, String.reduceBEq, or_true, true_or, or_false, false_or, Bool.or_true, Bool.true_or, Bool.false_or, Bool.or_false, Bool.and_false, Bool.false_and, Bool.true_and, Bool.and_true, beq_self_eq_true, decide_true, decide_false, tTr_e, vTru_non, vTru_bl, vTru_int, vTru_str, vTru_tup, vTru_ref, oTru_l, oTru_d, tBl_e, vBl_bl, eNeg_e, vNeg_int, eChain_e, eAnd_e, eOr_e, eNot_e, oSome_e, vSome_int, gAdd_ii, gAdd_ss, gAdd_tt, gAdd_rr, gI_ii, gI0_ii, gMulA_ii, gMulA_ri, gMulA_ti, gLt_ii, gLt_ss, gLt2_ii, gLt2_ss, eTab_e, vTab_s, eGet2_e, vGetO_r, vGet2_s, gIs_n, gIs_b, isNon_n, isNon_b, isNon_i, isNon_s, isNon_t, isNon_r, gIx_r, oIx_li, oIx_ds, oIx_di, gIx_ti, gIx_fi, gIx_si, gSl_t, gSl_s, gSl_f, gSl_r, gIn_ss, gIn_t, gIn_r, oIn_l, oIn_ds, gLen_s, gLen_t, gLen_f, gLen_r, oLen_l, oLen_d, gAbs_i, gMax2_ii, gMin2_ii, gInt1_i, gInt1_b, gList_t, gList_f, gList_r, gTuple_t, gTuple_f, gTuple_r, gSum_r, gAll_r, gIsi_x, tyD_n, tyD_b, tyD_i, tyD_s, tyD_t, tyD_f, tyD_r, oTy_l, oTy_d, tyM_s, tyM_r, oTyM_l, oTyM_d, gAppend_r, gPop0_r, gPopAt_r, gClear_r, gReverse_r, gJoin_r, gUpper_s, gStr_i, gSorted_r, iSeq_e, vSeq_r, vSeq_f, vSeq_t, vSeq_s, iRange1_e, vRng1_i, iRange2_e, vRng2_i, iZipD_e, vZip_r, vZip_t, iEnumD_e, vEnum_r, nTupL_t, nTupL_r, nCons_c, nNil_n, sSub_e, vPut_r, oPut_ds, oPut_di, oPut_l, l_wlaying_2]
    refine seq_i ?_
    simp (config := {implicitDefEqProofs := false, proj := false}) only [nx_mk, rt_mk, bk_mk, ct_mk, eVar, eC, eOp, eIf, eTup, eLst, eDict0, eDict, eSl, oNo, eCall, eCB, eM, eLc, eIsi2, aNil, aCons, pNil, pCons, tAndD, tOrD, tNotD, tsYes, gMns, gMod, gFdiv, gPow, gLe, gGt, gGe, gEq_ii, gEq_ss, gEq_bb, gEq_nn, gEq_ni, gEq_in, gEq_ns, gEq_sn, gEq_si, gEq_is, sAsg, nName, sRet, sRetN, sExpr, sIf, sNext, sBreak, sCont, sFor, getS, setS, wipeS, endsD, asKeys, toKey, List.length_cons, List.length_nil, List.set_cons_zero, List.set_cons_succ, List.set_nil, Nat.zero_add, Nat.reduceAdd, Option.some.injEq, exists_and_left, exists_eq_left', exists_eq_left, id_eq, if_true, if_false, ite_true, ite_false, Bool.not_true, Bool.not_false, Bool.false_eq_true, not_false_eq_true, not_true_eq_false, reduceCtorEq, true_and, and_true, ne_eq, decide_eq_true_eq, isiN, isiCls, List.mem_cons, String.reduceEq, String.reduceBEq, or_true, true_or, or_false, false_or, Bool.or_true, Bool.true_or, Bool.false_or, Bool.or_false, Bool.and_false, Bool.false_and, Bool.true_and, Bool.and_true, beq_self_eq_true, decide_true, decide_false, tTr_e, vTru_non, vTru_bl, vTru_int, vTru_str, vTru_tup, vTru_ref, oTru_l, oTru_d, tBl_e, vBl_bl, eNeg_e, vNeg_int, eChain_e, eAnd_e, eOr_e, eNot_e, oSome_e, vSome_int, gAdd_ii, gAdd_ss, gAdd_tt, gAdd_rr, gI_ii, gI0_ii, gMulA_ii, gMulA_ri, gMulA_ti, gLt_ii, gLt_ss, gLt2_ii, gLt2_ss, eTab_e, vTab_s, eGet2_e, vGetO_r, vGet2_s, gIs_n, gIs_b, isNon_n, isNon_b, isNon_i, isNon_s, isNon_t, isNon_r, gIx_r, oIx_li, oIx_ds, oIx_di, gIx_ti, gIx_fi, gIx_si, gSl_t, gSl_s, gSl_f, gSl_r, gIn_ss, gIn_t, gIn_r, oIn_l, oIn_ds, gLen_s, gLen_t, gLen_f, gLen_r, oLen_l, oLen_d, gAbs_i, gMax2_ii, gMin2_ii, gInt1_i, gInt1_b, gList_t, gList_f, gList_r, gTuple_t, gTuple_f, gTuple_r, gSum_r, gAll_r, gIsi_x, tyD_n, tyD_b, tyD_i, tyD_s, tyD_t, tyD_f, tyD_r, oTy_l, oTy_d, tyM_s, tyM_r, oTyM_l, oTyM_d, gAppend_r, gPop0_r, gPopAt_r, gClear_r, gReverse_r, gJoin_r, gUpper_s, gStr_i, gSorted_r, iSeq_e, vSeq_r, vSeq_f, vSeq_t, vSeq_s, iRange1_e, vRng1_i, iRange2_e, vRng2_i, iZipD_e, vZip_r, vZip_t, iEnumD_e, vEnum_r, nTupL_t, nTupL_r, nCons_c, nNil_n, sSub_e, vPut_r, oPut_ds, oPut_di, oPut_l, eh, List.length_map]
    refine take_spec pi (by omega) (by omega) (log_small (by omega) (by omega)) fun j S2 a2 b2 p2 g2 => ?_
    obtain ⟨z, ez, _⟩ := get_str a2 b2
    rw [g2 _ _ th.ne eh, oIx_li]
    refine ⟨_, ez, ?_⟩
    simp (config := {implicitDefEqProofs := false, proj := false}) only [nx_mk, rt_mk, bk_mk, ct_mk, eVar, eC, eOp, eIf, eTup, eLst, eDict0, eDict, eSl, oNo, eCall, eCB, eM, eLc, eIsi2, aNil, aCons, pNil, pCons, tAndD, tOrD, tNotD, tsYes, gMns, gMod, gFdiv, gPow, gLe, gGt, gGe, gEq_ii, gEq_ss, gEq_bb, gEq_nn, gEq_ni, gEq_in, gEq_ns, gEq_sn, gEq_si, gEq_is, sAsg, nName, sRet, sRetN, sExpr, sIf, sNext, sBreak, sCont, sFor, getS, setS, wipeS, endsD, asKeys, toKey, List.length_cons, List.length_nil, List.set_cons_zero, List.set_cons_succ, List.set_nil, Nat.zero_add, Nat.reduceAdd, Option.some.injEq, exists_and_left, exists_eq_left', exists_eq_left, id_eq, if_true, if_false, ite_true, ite_false, Bool.not_true, Bool.not_false, Bool.false_eq_true, not_false_eq_true, not_true_eq_false, reduceCtorEq, true_and, and_true, ne_eq, decide_eq_true_eq, isiN, isiCls, List.mem_cons, String.reduceEq, String.reduceBEq, or_true, true_or, or_false, false_or, Bool.or_true, Bool.true_or, Bool.false_or, Bool.or_false, Bool.and_false, Bool.false_and, Bool.true_and, Bool.and_true, beq_self_eq_true, decide_true, decide_false, tTr_e, vTru_non, vTru_bl, vTru_int, vTru_str, vTru_tup, vTru_ref, oTru_l, oTru_d, tBl_e, vBl_bl, eNeg_e, vNeg_int, eChain_e, eAnd_e, eOr_e, eNot_e, oSome_e, vSome_int, gAdd_ii, gAdd_ss, gAdd_tt, gAdd_rr, gI_ii, gI0_ii, gMulA_ii, gMulA_ri, gMulA_ti, gLt_ii, gLt_ss, gLt2_ii, gLt2_ss, eTab_e, vTab_s, eGet2_e, vGetO_r, vGet2_s, gIs_n, gIs_b, isNon_n, isNon_b, isNon_i, isNon_s, isNon_t, isNon_r, gIx_r, oIx_li, oIx_ds, oIx_di, gIx_ti, gIx_fi, gIx_si, gSl_t, gSl_s, gSl_f, gSl_r, gIn_ss, gIn_t, gIn_r, oIn_l, oIn_ds, gLen_s, gLen_t, gLen_f, gLen_r, oLen_l, oLen_d, gAbs_i, gMax2_ii, gMin2_ii, gInt1_i, gInt1_b, gList_t, gList_f, gList_r, gTuple_t, gTuple_f, gTuple_r, gSum_r, gAll_r, gIsi_x, tyD_n, tyD_b, tyD_i, tyD_s, tyD_t, tyD_f, tyD_r, oTy_l, oTy_d, tyM_s, tyM_r, oTyM_l, oTyM_d, gAppend_r, gPop0_r, gPopAt_r, gClear_r, gReverse_r, gJoin_r, gUpper_s, gStr_i, gSorted_r, iSeq_e, vSeq_r, vSeq_f, vSeq_t, vSeq_s, iRange1_e, vRng1_i, iRange2_e, vRng2_i, iZipD_e, vZip_r, vZip_t, iEnumD_e, vEnum_r, nTupL_t, nTupL_r, nCons_c, nNil_n, sSub_e, vPut_r, oPut_ds, oPut_di, oPut_l, t_wlaying_4]
    have na2 : a ≠ p := na.1
    have a2' := g2 _ _ na2 ea
    rw [a2']
    rw [show (10 : Int) ^ Int.toNat 6 = 1000000 from by decide +kernel, show (10 : Int) ^ Int.toNat 7 = 10000000 from by decide +kernel]
    refine ⟨rfl, powI (by decide) (by decide) (by decide) (by decide), number_spec p2 (by omega) (by decide) (by decide) (by decide) fun v1 S3 _ _ p3 g3 => ⟨powI (by decide) (by decide) (by decide) (by decide), number_spec p3 (by omega) (by decide) (by decide) (by decide) fun v2 S4 _ _ p4 g4 => ⟨by decide, xs, (g4 _ _ na2 (g3 _ _ na2 a2')), Nat.lt_of_lt_of_le (show xs.length < 401 by omega) (by decide), ?_⟩⟩⟩
    have gg := g2.trans (g3.trans g4)
    refine hN _ _ ⟨⟨_, _, rfl⟩, ?_, fun y o hy e2 => by rw [updS_ne (neS e2 ha)]; exact gg y o hy (gi y o hy e2), by rw [updS_ne nfa]; exact gg _ _ tf.ne ef, by rw [updS_ne nha]; exact gg _ _ th.ne eh, xs ++ [_], updS_same, by rw [List.length_append, hxl]; rfl⟩
    obtain ⟨ns, y, l, e1, e3, e4⟩ := (p4.mono (b2 := b + 7 * (i + 1)) (by omega)).ex
    exact ⟨ns, y, l, by rw [updS_ne (Ne.symm na.1)]; exact e1, by rw [updS_ne (Ne.symm na.2)]; exact e3, e4⟩
  case fin =>
    obtain ⟨⟨u4, u5, rfl⟩, pi, gi, ef, eh, xs, ea, hxl⟩ := hI
    rw [List.length_map] at pi
    simp (config := {implicitDefEqProofs := false, proj := false}) only [nx_mk, rt_mk, bk_mk, ct_mk, eVar, eC, eOp, eIf, eTup, eLst, eDict0, eDict, eSl, oNo, eCall, eCB, eM, eLc, eIsi2, aNil, aCons, pNil, pCons, tAndD, tOrD, tNotD, tsYes, gMns, gMod, gFdiv, gPow, gLe, gGt, gGe, gEq_ii, gEq_ss, gEq_bb, gEq_nn, gEq_ni, gEq_in, gEq_ns, gEq_sn, gEq_si, gEq_is, sAsg, nName, sRet, sRetN, sExpr, sIf, sNext, sBreak, sCont, sFor, getS, setS, wipeS, endsD, asKeys, toKey, List.length_cons, List.length_nil, List.set_cons_zero, List.set_cons_succ, List.set_nil, Nat.zero_add, Nat.reduceAdd, Option.some.injEq, exists_and_left, exists_eq_left', exists_eq_left, id_eq, if_true, if_false, ite_true, ite_false, Bool.not_true, Bool.not_false, Bool.false_eq_true, not_false_eq_true, not_true_eq_false, reduceCtorEq, true_and, and_true, ne_eq, decide_eq_true_eq, isiN, isiCls, List.mem_cons, String.reduceEq, String.reduceBEq, or_true, true_or, or_false, false_or, Bool.or_true, Bool.true_or, Bool.false_or, Bool.or_false, Bool.and_false, Bool.false_and, Bool.true_and, Bool.and_true, beq_self_eq_true, decide_true, decide_false, tTr_e, vTru_non, vTru_bl, vTru_int, vTru_str, vTru_tup, vTru_ref, oTru_l, oTru_d, tBl_e, vBl_bl, eNeg_e, vNeg_int, eChain_e, eAnd_e, eOr_e, eNot_e, oSome_e, vSome_int, gAdd_ii, gAdd_ss, gAdd_tt, gAdd_rr, gI_ii, gI0_ii, gMulA_ii, gMulA_ri, gMulA_ti, gLt_ii, gLt_ss, gLt2_ii, gLt2_ss, eTab_e, vTab_s, eGet2_e, vGetO_r, vGet2_s, gIs_n, gIs_b, isNon_n, isNon_b, isNon_i, isNon_s, isNon_t, isNon_r, gIx_r, oIx_li, oIx_ds, oIx_di, gIx_ti, gIx_fi, gIx_si, gSl_t, gSl_s, gSl_f, gSl_r, gIn_ss, gIn_t, gIn_r, oIn_l, oIn_ds, gLen_s, gLen_t, gLen_f, gLen_r, oLen_l, oLen_d, gAbs_i, gMax2_ii, gMin2_ii, gInt1_i, gInt1_b, gList_t, gList_f, gList_r, gTuple_t, gTuple_f, gTuple_r, gSum_r, gAll_r, gIsi_x, tyD_n, tyD_b, tyD_i, tyD_s, tyD_t, tyD_f, tyD_r, oTy_l, oTy_d, tyM_s, tyM_r, oTyM_l, oTyM_d, gAppend_r, gPop0_r, gPopAt_r, gClear_r, gReverse_r, gJoin_r, gUpper_s, gStr_i, gSorted_r, iSeq_e, vSeq_r, vSeq_f, vSeq_t, vSeq_s, iRange1_e, vRng1_i, iRange2_e, vRng2_i, iZipD_e, vZip_r, vZip_t, iEnumD_e, vEnum_r, nTupL_t, nTupL_r, nCons_c, nNil_n, sSub_e, vPut_r, oPut_ds, oPut_di, oPut_l, t_wlaying_5]
    exact ⟨xs, ea, q xs S' (pi.mono (by omega)) gi⟩
end LW
namespace LW
open PySem L2 DL
theorem erase_map {α β : Type} (f : α → β) : ∀ (l : List α) (k : Nat), (l.map f).eraseIdx k = (l.eraseIdx k).map f
  | [], _ => rfl
  | _ :: _, 0 => rfl
  | x :: r, k + 1 => by
    show f x :: (r.map f).eraseIdx k = f x :: (r.eraseIdx k).map f
    rw [erase_map f r k]
theorem some_spec {p pc pl : Addr} {b n : Nat} {ps : List Str} {S : Sto} {Q : DK} (h : Pen S p pc b) (hb : b + 100 ≤ 100000) (tp : Txs S p pl ps) (hp : ps.length = 10) (hn : n ≤ 6)
    (q : ∀ (a : Addr) (zs : List Str) (S' : Sto), S' a = some (.lst (zs.map .str)) → a ≠ p → zs.length = n → Pen S' p pc (b + 6) → Kp p S S' → Q (.ref a) S') : m_wsome [.ref p, .ref pl, .int (n : Nat)] S Q := by
  rw [e_wsome]
  refine seq_i ?_
  try simp (config := {implicitDefEqProofs := false, proj := false}) only [nx_mk, rt_mk, bk_mk, ct_mk, eVar, eC, eOp, eIf, eTup, eLst, eDict0, eDict, eSl, oNo, eCall, eCB, eM, eLc, eIsi2, aNil, aCons, pNil, pCons, tAndD, tOrD, tNotD, tsYes, gMns, gMod, gFdiv, gPow, gLe, gGt, gGe, gEq_ii, gEq_ss, gEq_bb, gEq_nn, gEq_ni, gEq_in, gEq_ns, gEq_sn, gEq_si, gEq_is, sAsg, nName, sRet, sRetN, sExpr, sIf, sNext, sBreak, sCont, sFor, getS, setS, wipeS, endsD, asKeys, toKey, List.length_cons, List.length_nil, List.set_cons_zero, List.set_cons_succ, List.set_nil, Nat.zero_add, Nat.reduceAdd, Option.some.injEq, exists_and_left, exists_eq_left', exists_eq_left, id_eq, if_true, if_false, ite_true, ite_false, Bool.not_true, Bool.not_false, Bool.false_eq_true, not_false_eq_true, not_true_eq_false, reduceCtorEq, true_and, and_true, ne_eq, decide_eq_true_eq, isiN, isiCls, List.mem_cons, String.reduceEq, String.reduceBEq, or_true, true_or, or_false, false_or, Bool.or_true, Bool.true_or, Bool.false_or, Bool.or_false, Bool.and_false, Bool.false_and, Bool.true_and, Bool.and_true, beq_self_eq_true, decide_true, decide_false, tTr_e, vTru_non, vTru_bl, vTru_int, vTru_str, vTru_tup, vTru_ref, oTru_l, oTru_d, tBl_e, vBl_bl, eNeg_e, vNeg_int, eChain_e, eAnd_e, eOr_e, eNot_e, oSome_e, vSome_int, gAdd_ii, gAdd_ss, gAdd_tt, gAdd_rr, gI_ii, gI0_ii, gMulA_ii, gMulA_ri, gMulA_ti, gLt_ii, gLt_ss, gLt2_ii, gLt2_ss, eTab_e, vTab_s, eGet2_e, vGetO_r, vGet2_s, gIs_n, gIs_b, isNon_n, isNon_b, isNon_i, isNon_s, isNon_t, isNon_r, gIx_r, oIx_li, oIx_ds, oIx_di, gIx_ti, gIx_fi, gIx_si, gSl_t, gSl_s, gSl_f, gSl_r, gIn_ss, gIn_t, gIn_r, oIn_l, oIn_ds, gLen_s, gLen_t, gLen_f, gLen_r, oLen_l, oLen_d, gAbs_i, gMax2_ii, gMin2_ii, gInt1_i, gInt1_b, gList_t, gList_f, gList_r, gTuple_t, gTuple_f, gTuple_r, gSum_r, gAll_r, gIsi_x, tyD_n, tyD_b, tyD_i, tyD_s, tyD_t, tyD_f, tyD_r, oTy_l, oTy_d, tyM_s, tyM_r, oTyM_l, oTyM_d, gAppend_r, gPop0_r, gPopAt_r, gClear_r, gReverse_r, gJoin_r, gUpper_s, gStr_i, gSorted_r, iSeq_e, vSeq_r, vSeq_f, vSeq_t, vSeq_s, iRange1_e, vRng1_i, iRange2_e, vRng2_i, iZipD_e, vZip_r, vZip_t, iEnumD_e, vEnum_r, nTupL_t, nTupL_r, nCons_c, nNil_n, sSub_e, vPut_r, oPut_ds, oPut_di, oPut_l]
  refine ⟨_, tp.at_, fun l hl => ?_⟩
  have nl := h.ne hl
  have p1 := h.new (o := .lst (ps.map .str)) hl
  have g1 : Kp p S (updS S l (.lst (ps.map .str))) := .new hl
  have l1 : updS S l (.lst (ps.map .str)) l = some (.lst (ps.map .str)) := updS_same
  generalize updS S l (.lst (ps.map .str)) = S1 at p1 g1 l1
  simp (config := {implicitDefEqProofs := false, proj := false}) only [nx_mk, rt_mk, bk_mk, ct_mk, eVar, eC, eOp, eIf, eTup, eLst, eDict0, eDict, eSl, oNo, eCall, eCB, eM, eLc, eIsi2, aNil, aCons, pNil, pCons, tAndD, tOrD, tNotD, tsYes, gMns, gMod, gFdiv, gPow, gLe, gGt, gGe, gEq_ii, gEq_ss, gEq_bb, gEq_nn, gEq_ni, gEq_in, gEq_ns, gEq_sn, gEq_si, gEq_is, sAsg, nName, sRet, sRetN, sExpr, sIf, sNext, sBreak, sCont, sFor, getS, setS, wipeS, endsD, asKeys, toKey, List.length_cons, List.length_nil, List.set_cons_zero, List.set_cons_succ, List.set_nil, Nat.zero_add, Nat.reduceAdd, Option.some.injEq, exists_and_left, exists_eq_left', exists_eq_left, id_eq, if_true, if_false, ite_true, ite_false, Bool.not_true, Bool.not_false, Bool.false_eq_true, not_false_eq_true, not_true_eq_false, reduceCtorEq, true_and, and_true, ne_eq, decide_eq_true_eq, isiN, isiCls, List.mem_cons, String.reduceEq, String.reduceBEq, or_true, true_or, or_false, false_or, Bool.or_true, Bool.true_or, Bool.false_or, Bool.or_false, Bool.and_false, Bool.false_and, Bool.true_and, Bool.and_true, beq_self_eq_true, decide_true, decide_false, tTr_e, vTru_non, vTru_bl, vTru_int, vTru_str, vTru_tup, vTru_ref, oTru_l, oTru_d, tBl_e, vBl_bl, eNeg_e, vNeg_int, eChain_e, eAnd_e, eOr_e, eNot_e, oSome_e, vSome_int, gAdd_ii, gAdd_ss, gAdd_tt, gAdd_rr, gI_ii, gI0_ii, gMulA_ii, gMulA_ri, gMulA_ti, gLt_ii, gLt_ss, gLt2_ii, gLt2_ss, eTab_e, vTab_s, eGet2_e, vGetO_r, vGet2_s, gIs_n, gIs_b, isNon_n, isNon_b, isNon_i, isNon_s, isNon_t, isNon_r, gIx_r, oIx_li, oIx_ds, oIx_di, gIx_ti, gIx_fi, gIx_si, gSl_t, gSl_s, gSl_f, gSl_r, gIn_ss, gIn_t, gIn_r, oIn_l, oIn_ds, gLen_s, gLen_t, gLen_f, gLen_r, oLen_l, oLen_d, gAbs_i, gMax2_ii, gMin2_ii, gInt1_i, gInt1_b, gList_t, gList_f, gList_r, gTuple_t, gTuple_f, gTuple_r, gSum_r, gAll_r, gIsi_x, tyD_n, tyD_b, tyD_i, tyD_s, tyD_t, tyD_f, tyD_r, oTy_l, oTy_d, tyM_s, tyM_r, oTyM_l, oTyM_d, gAppend_r, gPop0_r, gPopAt_r, gClear_r, gReverse_r, gJoin_r, gUpper_s, gStr_i, gSorted_r, iSeq_e, vSeq_r, vSeq_f, vSeq_t, vSeq_s, iRange1_e, vRng1_i, iRange2_e, vRng2_i, iZipD_e, vZip_r, vZip_t, iEnumD_e, vEnum_r, nTupL_t, nTupL_r, nCons_c, nNil_n, sSub_e, vPut_r, oPut_ds, oPut_di, oPut_l, t_wsome_2]
  refine seq_i ?_
  try simp (config := {implicitDefEqProofs := false, proj := false}) only [nx_mk, rt_mk, bk_mk, ct_mk, eVar, eC, eOp, eIf, eTup, eLst, eDict0, eDict, eSl, oNo, eCall, eCB, eM, eLc, eIsi2, aNil, aCons, pNil, pCons, tAndD, tOrD, tNotD, tsYes, gMns, gMod, gFdiv, gPow, gLe, gGt, gGe, gEq_ii, gEq_ss, gEq_bb, gEq_nn, gEq_ni, gEq_in, gEq_ns, gEq_sn, gEq_si, gEq_is, sAsg, nName, sRet, sRetN, sExpr, sIf, sNext, sBreak, sCont, sFor, getS, setS, wipeS, endsD, asKeys, toKey, List.length_cons, List.length_nil, List.set_cons_zero, List.set_cons_succ, List.set_nil, Nat.zero_add, Nat.reduceAdd, Option.some.injEq, exists_and_left, exists_eq_left', exists_eq_left, id_eq, if_true, if_false, ite_true, ite_false, Bool.not_true, Bool.not_false, Bool.false_eq_true, not_false_eq_true, not_true_eq_false, reduceCtorEq, true_and, and_true, ne_eq, decide_eq_true_eq, isiN, isiCls, List.mem_cons, String.reduceEq, String.reduceBEq, or_true, true_or, or_false, false_or, Bool.or_true, Bool.true_or, Bool.false_or, Bool.or_false, Bool.and_false, Bool.false_and, Bool.true_and, Bool.and_true, beq_self_eq_true, decide_true, decide_false, tTr_e, vTru_non, vTru_bl, vTru_int, vTru_str, vTru_tup, vTru_ref, oTru_l, oTru_d, tBl_e, vBl_bl, eNeg_e, vNeg_int, eChain_e, eAnd_e, eOr_e, eNot_e, oSome_e, vSome_int, gAdd_ii, gAdd_ss, gAdd_tt, gAdd_rr, gI_ii, gI0_ii, gMulA_ii, gMulA_ri, gMulA_ti, gLt_ii, gLt_ss, gLt2_ii, gLt2_ss, eTab_e, vTab_s, eGet2_e, vGetO_r, vGet2_s, gIs_n, gIs_b, isNon_n, isNon_b, isNon_i, isNon_s, isNon_t, isNon_r, gIx_r, oIx_li, oIx_ds, oIx_di, gIx_ti, gIx_fi, gIx_si, gSl_t, gSl_s, gSl_f, gSl_r, gIn_ss, gIn_t, gIn_r, oIn_l, oIn_ds, gLen_s, gLen_t, gLen_f, gLen_r, oLen_l, oLen_d, gAbs_i, gMax2_ii, gMin2_ii, gInt1_i, gInt1_b, gList_t, gList_f, gList_r, gTuple_t, gTuple_f, gTuple_r, gSum_r, gAll_r, gIsi_x, tyD_n, tyD_b, tyD_i, tyD_s, tyD_t, tyD_f, tyD_r, oTy_l, oTy_d, tyM_s, tyM_r, oTyM_l, oTyM_d, gAppend_r, gPop0_r, gPopAt_r, gClear_r, gReverse_r, gJoin_r, gUpper_s, gStr_i, gSorted_r, iSeq_e, vSeq_r, vSeq_f, vSeq_t, vSeq_s, iRange1_e, vRng1_i, iRange2_e, vRng2_i, iZipD_e, vZip_r, vZip_t, iEnumD_e, vEnum_r, nTupL_t, nTupL_r, nCons_c, nNil_n, sSub_e, vPut_r, oPut_ds, oPut_di, oPut_l]
  refine ⟨by omega, by omega, ?_⟩
  rw [Int.toNat_natCast]
  refine lcL_inv _ (fun i acc S' => Pen S' p pc (b + i) ∧ Kp p S S' ∧ (∃ ys : List Str, acc = ys.map .str ∧ ys.length = i) ∧ ∃ left : List Str, S' l = some (.lst (left.map .str)) ∧ left.length = 10 - i) (fun _ _ _ _ => trivial) (fun i x acc S6 N hx hI hN => ?el) (fun acc S6 hI => ?af) ⟨p1, g1, ⟨[], rfl, rfl⟩, ps, l1, hp⟩
  case el =>
    obtain ⟨p6, g6, ⟨ys, rfl, hyl⟩, left, ll, hll⟩ := hI
    have hi := (List.getElem?_eq_some_iff.mp hx).1
    rw [rangeD_len] at hi
    simp (config := {implicitDefEqProofs := false, proj := false}) only [nx_mk, rt_mk, bk_mk, ct_mk, eVar, eC, eOp, eIf, eTup, eLst, eDict0, eDict, eSl, oNo, eCall, eCB, eM, eLc, eIsi2, aNil, aCons, pNil, pCons, tAndD, tOrD, tNotD, tsYes, gMns, gMod, gFdiv, gPow, gLe, gGt, gGe, gEq_ii, gEq_ss, gEq_bb, gEq_nn, gEq_ni, gEq_in, gEq_ns, gEq_sn, gEq_si, gEq_is, sAsg, nName, sRet, sRetN, sExpr, sIf, sNext, sBreak, sCont, sFor, getS, setS, wipeS, endsD, asKeys, toKey, List.length_cons, List.length_nil, List.set_cons_zero, List.set_cons_succ, List.set_nil, Nat.zero_add, Nat.reduceAdd, Option.some.injEq, exists_and_left, exists_eq_left', exists_eq_left, id_eq, if_true, if_false, ite_true, ite_false, Bool.not_true, Bool.not_false, Bool.false_eq_true, not_false_eq_true, not_true_eq_false, reduceCtorEq, true_and, and_true, ne_eq, decide_eq_true_eq, isiN, isiCls, List.mem_cons, String.reduceEq, String.reduceBEq, or_true, true_or, or_false, false_or, Bool.or_true, Bool.true_or, Bool.false_or, Bool.or_false, Bool.and_false, Bool.false_and, Bool.true_and, Bool.and_true, beq_self_eq_true, decide_true, decide_false, tTr_e, vTru_non, vTru_bl, vTru_int, vTru_str, vTru_tup, vTru_ref, oTru_l, oTru_d, tBl_e, vBl_bl, eNeg_e, vNeg_int, eChain_e, eAnd_e, eOr_e, eNot_e, oSome_e, vSome_int, gAdd_ii, gAdd_ss, gAdd_tt, gAdd_rr, gI_ii, gI0_ii, gMulA_ii, gMulA_ri, gMulA_ti, gLt_ii, gLt_ss, gLt2_ii, gLt2_ss, eTab_e, vTab_s, eGet2_e, vGetO_r, vGet2_s, gIs_n, gIs_b, isNon_n, isNon_b, isNon_i, isNon_s, isNon_t, isNon_r, gIx_r, oIx_li, oIx_ds, oIx_di, gIx_ti, gIx_fi, gIx_si, gSl_t, gSl_s, gSl_f, gSl_r, gIn_ss, gIn_t, gIn_r, oIn_l, oIn_ds, gLen_s, gLen_t, gLen_f, gLen_r, oLen_l, oLen_d, gAbs_i, gMax2_ii, gMin2_ii, gInt1_i, gInt1_b, gList_t, gList_f, gList_r, gTuple_t, gTuple_f, gTuple_r, gSum_r, gAll_r, gIsi_x, tyD_n, tyD_b, tyD_i, tyD_s, tyD_t, tyD_f, tyD_r, oTy_l, oTy_d, tyM_s, tyM_r, oTyM_l, oTyM_d, gAppend_r, gPop0_r, gPopAt_r, gClear_r, gReverse_r, gJoin_r, gUpper_s, gStr_i, gSorted_r, iSeq_e, vSeq_r, vSeq_f, vSeq_t, vSeq_s, iRange1_e, vRng1_i, iRange2_e, vRng2_i, iZipD_e, vZip_r, vZip_t, iEnumD_e, vEnum_r, nTupL_t, nTupL_r, nCons_c, nNil_n, sSub_e, vPut_r, oPut_ds, oPut_di, oPut_l, c_wsome_2, ll, List.length_map]
    refine take_spec p6 (by omega) (by omega) (log_small (by omega) (by omega)) fun j S7 a7 b7 p7 g7 => ?_
    have ll7 := g7 _ _ nl.1 ll
    obtain ⟨k, rfl⟩ : ∃ k : Nat, j = (k : Nat) := ⟨j.toNat, by omega⟩
    have hk : k < left.length := by omega
    rw [gPopAt_r]
    have hg : (left.map D.str)[k]? = some (.str left[k]) := by rw [List.getElem?_map]; simp [hk]
    have hyz : ys.length < sizeLine := by rw [hyl]; exact Nat.lt_of_lt_of_le (show i < 401 by omega) (by decide)
    refine ⟨left.map .str, k, .str left[k], ll7, by omega, by omega, (ixN_seq (ixN_of (by rw [List.length_map]; exact hk))).1, hg, hyz, hN _ _ ⟨?_, fun y o hy e2 => by rw [updS_ne (neS e2 hl)]; exact g7 y o hy (g6 y o hy e2), ⟨ys ++ [left[k]], by rw [List.map_append]; rfl, by rw [List.length_append, hyl]; rfl⟩, left.eraseIdx k, by rw [updS_same, erase_map], by rw [List.length_eraseIdx_of_lt hk]; omega⟩⟩
    obtain ⟨ns, y, l2, e1, e3, e4⟩ := p7.ex
    exact ⟨ns, y, l2, by rw [updS_ne (Ne.symm nl.1)]; exact e1, by rw [updS_ne (Ne.symm nl.2)]; exact e3, e4⟩
  case af =>
    obtain ⟨p6, g6, ⟨ys, rfl, hyl⟩, left, ll, hll⟩ := hI
    rw [rangeD_len] at p6 hyl
    intro c hc
    simp (config := {implicitDefEqProofs := false, proj := false}) only [nx_mk, rt_mk, bk_mk, ct_mk, eVar, eC, eOp, eIf, eTup, eLst, eDict0, eDict, eSl, oNo, eCall, eCB, eM, eLc, eIsi2, aNil, aCons, pNil, pCons, tAndD, tOrD, tNotD, tsYes, gMns, gMod, gFdiv, gPow, gLe, gGt, gGe, gEq_ii, gEq_ss, gEq_bb, gEq_nn, gEq_ni, gEq_in, gEq_ns, gEq_sn, gEq_si, gEq_is, sAsg, nName, sRet, sRetN, sExpr, sIf, sNext, sBreak, sCont, sFor, getS, setS, wipeS, endsD, asKeys, toKey, List.length_cons, List.length_nil, List.set_cons_zero, List.set_cons_succ, List.set_nil, Nat.zero_add, Nat.reduceAdd, Option.some.injEq, exists_and_left, exists_eq_left', exists_eq_left, id_eq, if_true, if_false, ite_true, ite_false, Bool.not_true, Bool.not_false, Bool.false_eq_true, not_false_eq_true, not_true_eq_false, reduceCtorEq, true_and, and_true, ne_eq, decide_eq_true_eq, isiN, isiCls, List.mem_cons, String.reduceEq, String.reduceBEq, or_true, true_or, or_false, false_or, Bool.or_true, Bool.true_or, Bool.false_or, Bool.or_false, Bool.and_false, Bool.false_and, Bool.true_and, Bool.and_true, beq_self_eq_true, decide_true, decide_false, tTr_e, vTru_non, vTru_bl, vTru_int, vTru_str, vTru_tup, vTru_ref, oTru_l, oTru_d, tBl_e, vBl_bl, eNeg_e, vNeg_int, eChain_e, eAnd_e, eOr_e, eNot_e, oSome_e, vSome_int, gAdd_ii, gAdd_ss, gAdd_tt, gAdd_rr, gI_ii, gI0_ii, gMulA_ii, gMulA_ri, gMulA_ti, gLt_ii, gLt_ss, gLt2_ii, gLt2_ss, eTab_e, vTab_s, eGet2_e, vGetO_r, vGet2_s, gIs_n, gIs_b, isNon_n, isNon_b, isNon_i, isNon_s, isNon_t, isNon_r, gIx_r, oIx_li, oIx_ds, oIx_di, gIx_ti, gIx_fi, gIx_si, gSl_t, gSl_s, gSl_f, gSl_r, gIn_ss, gIn_t, gIn_r, oIn_l, oIn_ds, gLen_s, gLen_t, gLen_f, gLen_r, oLen_l, oLen_d, gAbs_i, gMax2_ii, gMin2_ii, gInt1_i, gInt1_b, gList_t, gList_f, gList_r, gTuple_t, gTuple_f, gTuple_r, gSum_r, gAll_r, gIsi_x, tyD_n, tyD_b, tyD_i, tyD_s, tyD_t, tyD_f, tyD_r, oTy_l, oTy_d, tyM_s, tyM_r, oTyM_l, oTyM_d, gAppend_r, gPop0_r, gPopAt_r, gClear_r, gReverse_r, gJoin_r, gUpper_s, gStr_i, gSorted_r, iSeq_e, vSeq_r, vSeq_f, vSeq_t, vSeq_s, iRange1_e, vRng1_i, iRange2_e, vRng2_i, iZipD_e, vZip_r, vZip_t, iEnumD_e, vEnum_r, nTupL_t, nTupL_r, nCons_c, nNil_n, sSub_e, vPut_r, oPut_ds, oPut_di, oPut_l, t_wsome_3]
    refine .inr ⟨ys, updS_same, by omega, fun zs hp hs r hr => ?_⟩
    have q1 := p6.new (o := .lst (ys.map .str)) hc
    refine q r zs _ updS_same (q1.ne hr).1 (by rw [hp.length_eq]; exact hyl) ((q1.new hr).mono (by omega)) ((g6.trans (.new hc)).trans (.new hr))
end LW
namespace LW
open PySem L2 DL
abbrev rEnv (p f pl ho : Addr) (w n : Str) (d : Int) (la hou fie : Str) (at_ : Int) (u4 u9 u13 u14 u15 : Option D) : DL.Env :=
  [some (.ref p), some (.str w), some (.str n), some (.int d), u4, some (.str la), some (.int at_), some (.str hou), some (.str fie), u9, some (.ref f), some (.ref pl), some (.ref ho), u13, u14, u15]
theorem nrs_strs (zs : List Str) : nrs (zs.map D.str) = true := by
  induction zs with
  | nil => rfl
  | cons z r ih => show (true && nrs (r.map D.str)) = true; rw [ih]; rfl
theorem row20 {p pc f pl ho : Addr} {b : Nat} {w n : Str} {d : Int} {la hou fie : Str} {at_ : Int} {u4 u9 u13 u14 u15 : Option D} {S : Sto} {Q : DK} {D0 : DEnds} (hQ : D0.rt = Q) (h : Pen S p pc b) (hb : b + 20 ≤ 100000)
    (q : ∀ rest S', nrs rest = true → Pen S' p pc (b + 9) → Kp p S S' → Q (rowD w n d rest) S') : t_wrow_of_20 D0 (rEnv p f pl ho w n d la hou fie at_ u4 u9 u13 u14 u15) S := by
  have e7 : (10 : Int) ^ Int.toNat 7 = 10000000 := by decide +kernel
  have e9 : (10 : Int) ^ Int.toNat 9 = 1000000000 := by decide +kernel
  have e6 : (10 : Int) ^ Int.toNat 6 = 1000000 := by decide +kernel
  refine seq_i ?_
  simp (config := {implicitDefEqProofs := false, proj := false}) only [nx_mk, rt_mk, bk_mk, ct_mk, eVar, eC, eOp, eIf, eTup, eLst, eDict0, eDict, eSl, oNo, eCall, eCB, eM, eLc, eIsi2, aNil, aCons, pNil, pCons, tAndD, tOrD, tNotD, tsYes, gMns, gMod, gFdiv, gPow, gLe, gGt, gGe, gEq_ii, gEq_ss, gEq_bb, gEq_nn, gEq_ni, gEq_in, gEq_ns, gEq_sn, gEq_si, gEq_is, sAsg, nName, sRet, sRetN, sExpr, sIf, sNext, sBreak, sCont, sFor, getS, setS, wipeS, endsD, asKeys, toKey, List.length_cons, List.length_nil, List.set_cons_zero, List.set_cons_succ, List.set_nil, Nat.zero_add, Nat.reduceAdd, Option.some.injEq, exists_and_left, exists_eq_left', exists_eq_left, id_eq, if_true, if_false, ite_true, ite_false, Bool.not_true, Bool.not_false, Bool.false_eq_true, not_false_eq_true, not_true_eq_false, reduceCtorEq, true_and, and_true, ne_eq, decide_eq_true_eq, isiN, isiCls, List.mem_cons, String.reduceEq, String.reduceBEq, or_true, true_or, or_false, false_or, Bool.or_true, Bool.true_or, Bool.false_or, Bool.or_false, Bool.and_false, Bool.false_and, Bool.true_and, Bool.and_true, beq_self_eq_true, decide_true, decide_false, tTr_e, vTru_non, vTru_bl, vTru_int, vTru_str, vTru_tup, vTru_ref, oTru_l, oTru_d, tBl_e, vBl_bl, eNeg_e, vNeg_int, eChain_e, eAnd_e, eOr_e, eNot_e, oSome_e, vSome_int, gAdd_ii, gAdd_ss, gAdd_tt, gAdd_rr, gI_ii, gI0_ii, gMulA_ii, gMulA_ri, gMulA_ti, gLt_ii, gLt_ss, gLt2_ii, gLt2_ss, eTab_e, vTab_s, eGet2_e, vGetO_r, vGet2_s, gIs_n, gIs_b, isNon_n, isNon_b, isNon_i, isNon_s, isNon_t, isNon_r, gIx_r, oIx_li, oIx_ds, oIx_di, gIx_ti, gIx_fi, gIx_si, gSl_t, gSl_s, gSl_f, gSl_r, gIn_ss, gIn_t, gIn_r, oIn_l, oIn_ds, gLen_s, gLen_t, gLen_f, gLen_r, oLen_l, oLen_d, gAbs_i, gMax2_ii, gMin2_ii, gInt1_i, gInt1_b, gList_t, gList_f, gList_r, gTuple_t, gTuple_f, gTuple_r, gSum_r, gAll_r, gIsi_x, tyD_n, tyD_b, tyD_i, tyD_s, tyD_t, tyD_f, tyD_r, oTy_l, oTy_d, tyM_s, tyM_r, oTyM_l, oTyM_d, gAppend_r, gPop0_r, gPopAt_r, gClear_r, gReverse_r, gJoin_r, gUpper_s, gStr_i, gSorted_r, iSeq_e, vSeq_r, vSeq_f, vSeq_t, vSeq_s, iRange1_e, vRng1_i, iRange2_e, vRng2_i, iZipD_e, vZip_r, vZip_t, iEnumD_e, vEnum_r, nTupL_t, nTupL_r, nCons_c, nNil_n, sSub_e, vPut_r, oPut_ds, oPut_di, oPut_l]
  rw [e7]
  refine ⟨powI (by decide) (by decide) (by decide) (by decide), number_spec h (by omega) (by decide) (by decide) (by decide) fun v1 S1 _ _ p1 g1 => ?_⟩
  refine seq_i ?_
  simp (config := {implicitDefEqProofs := false, proj := false}) only [nx_mk, rt_mk, bk_mk, ct_mk, eVar, eC, eOp, eIf, eTup, eLst, eDict0, eDict, eSl, oNo, eCall, eCB, eM, eLc, eIsi2, aNil, aCons, pNil, pCons, tAndD, tOrD, tNotD, tsYes, gMns, gMod, gFdiv, gPow, gLe, gGt, gGe, gEq_ii, gEq_ss, gEq_bb, gEq_nn, gEq_ni, gEq_in, gEq_ns, gEq_sn, gEq_si, gEq_is, sAsg, nName, sRet, sRetN, sExpr, sIf, sNext, sBreak, sCont, sFor, getS, setS, wipeS, endsD, asKeys, toKey, List.length_cons, List.length_nil, List.set_cons_zero, List.set_cons_succ, List.set_nil, Nat.zero_add, Nat.reduceAdd, Option.some.injEq, exists_and_left, exists_eq_left', exists_eq_left, id_eq, if_true, if_false, ite_true, ite_false, Bool.not_true, Bool.not_false, Bool.false_eq_true, not_false_eq_true, not_true_eq_false, reduceCtorEq, true_and, and_true, ne_eq, decide_eq_true_eq, isiN, isiCls, List.mem_cons, String.reduceEq, String.reduceBEq, or_true, true_or, or_false, false_or, Bool.or_true, Bool.true_or, Bool.false_or, Bool.or_false, Bool.and_false, Bool.false_and, Bool.true_and, Bool.and_true, beq_self_eq_true, decide_true, decide_false, tTr_e, vTru_non, vTru_bl, vTru_int, vTru_str, vTru_tup, vTru_ref, oTru_l, oTru_d, tBl_e, vBl_bl, eNeg_e, vNeg_int, eChain_e, eAnd_e, eOr_e, eNot_e, oSome_e, vSome_int, gAdd_ii, gAdd_ss, gAdd_tt, gAdd_rr, gI_ii, gI0_ii, gMulA_ii, gMulA_ri, gMulA_ti, gLt_ii, gLt_ss, gLt2_ii, gLt2_ss, eTab_e, vTab_s, eGet2_e, vGetO_r, vGet2_s, gIs_n, gIs_b, isNon_n, isNon_b, isNon_i, isNon_s, isNon_t, isNon_r, gIx_r, oIx_li, oIx_ds, oIx_di, gIx_ti, gIx_fi, gIx_si, gSl_t, gSl_s, gSl_f, gSl_r, gIn_ss, gIn_t, gIn_r, oIn_l, oIn_ds, gLen_s, gLen_t, gLen_f, gLen_r, oLen_l, oLen_d, gAbs_i, gMax2_ii, gMin2_ii, gInt1_i, gInt1_b, gList_t, gList_f, gList_r, gTuple_t, gTuple_f, gTuple_r, gSum_r, gAll_r, gIsi_x, tyD_n, tyD_b, tyD_i, tyD_s, tyD_t, tyD_f, tyD_r, oTy_l, oTy_d, tyM_s, tyM_r, oTyM_l, oTyM_d, gAppend_r, gPop0_r, gPopAt_r, gClear_r, gReverse_r, gJoin_r, gUpper_s, gStr_i, gSorted_r, iSeq_e, vSeq_r, vSeq_f, vSeq_t, vSeq_s, iRange1_e, vRng1_i, iRange2_e, vRng2_i, iZipD_e, vZip_r, vZip_t, iEnumD_e, vEnum_r, nTupL_t, nTupL_r, nCons_c, nNil_n, sSub_e, vPut_r, oPut_ds, oPut_di, oPut_l]
  by_cases hv : w = "view"
  · rw [if_pos hv, hQ]
    exact ⟨by decide, q [_, _, _] _ rfl (p1.mono (by omega)) g1⟩
  · rw [if_neg hv]
    simp (config := {implicitDefEqProofs := false, proj := false}) only [nx_mk, rt_mk, bk_mk, ct_mk, eVar, eC, eOp, eIf, eTup, eLst, eDict0, eDict, eSl, oNo, eCall, eCB, eM, eLc, eIsi2, aNil, aCons, pNil, pCons, tAndD, tOrD, tNotD, tsYes, gMns, gMod, gFdiv, gPow, gLe, gGt, gGe, gEq_ii, gEq_ss, gEq_bb, gEq_nn, gEq_ni, gEq_in, gEq_ns, gEq_sn, gEq_si, gEq_is, sAsg, nName, sRet, sRetN, sExpr, sIf, sNext, sBreak, sCont, sFor, getS, setS, wipeS, endsD, asKeys, toKey, List.length_cons, List.length_nil, List.set_cons_zero, List.set_cons_succ, List.set_nil, Nat.zero_add, Nat.reduceAdd, Option.some.injEq, exists_and_left, exists_eq_left', exists_eq_left, id_eq, if_true, if_false, ite_true, ite_false, Bool.not_true, Bool.not_false, Bool.false_eq_true, not_false_eq_true, not_true_eq_false, reduceCtorEq, true_and, and_true, ne_eq, decide_eq_true_eq, isiN, isiCls, List.mem_cons, String.reduceEq, String.reduceBEq, or_true, true_or, or_false, false_or, Bool.or_true, Bool.true_or, Bool.false_or, Bool.or_false, Bool.and_false, Bool.false_and, Bool.true_and, Bool.and_true, beq_self_eq_true, decide_true, decide_false, tTr_e, vTru_non, vTru_bl, vTru_int, vTru_str, vTru_tup, vTru_ref, oTru_l, oTru_d, tBl_e, vBl_bl, eNeg_e, vNeg_int, eChain_e, eAnd_e, eOr_e, eNot_e, oSome_e, vSome_int, gAdd_ii, gAdd_ss, gAdd_tt, gAdd_rr, gI_ii, gI0_ii, gMulA_ii, gMulA_ri, gMulA_ti, gLt_ii, gLt_ss, gLt2_ii, gLt2_ss, eTab_e, vTab_s, eGet2_e, vGetO_r, vGet2_s, gIs_n, gIs_b, isNon_n, isNon_b, isNon_i, isNon_s, isNon_t, isNon_r, gIx_r, oIx_li, oIx_ds, oIx_di, gIx_ti, gIx_fi, gIx_si, gSl_t, gSl_s, gSl_f, gSl_r, gIn_ss, gIn_t, gIn_r, oIn_l, oIn_ds, gLen_s, gLen_t, gLen_f, gLen_r, oLen_l, oLen_d, gAbs_i, gMax2_ii, gMin2_ii, gInt1_i, gInt1_b, gList_t, gList_f, gList_r, gTuple_t, gTuple_f, gTuple_r, gSum_r, gAll_r, gIsi_x, tyD_n, tyD_b, tyD_i, tyD_s, tyD_t, tyD_f, tyD_r, oTy_l, oTy_d, tyM_s, tyM_r, oTyM_l, oTyM_d, gAppend_r, gPop0_r, gPopAt_r, gClear_r, gReverse_r, gJoin_r, gUpper_s, gStr_i, gSorted_r, iSeq_e, vSeq_r, vSeq_f, vSeq_t, vSeq_s, iRange1_e, vRng1_i, iRange2_e, vRng2_i, iZipD_e, vZip_r, vZip_t, iEnumD_e, vEnum_r, nTupL_t, nTupL_r, nCons_c, nNil_n, sSub_e, vPut_r, oPut_ds, oPut_di, oPut_l, t_wrow_of_23, hQ]
    rw [e9, e6]
    refine ⟨powI (by decide) (by decide) (by decide) (by decide), number_spec p1 (by omega) (by decide) (by decide) (by decide) fun v2 S2 _ _ p2 g2 => ⟨powI (by decide) (by decide) (by decide) (by decide), number_spec p2 (by omega) (by decide) (by decide) (by decide) fun v3 S3 _ _ p3 g3 => ⟨by decide, ?_⟩⟩⟩
    exact q [_, _, _, _] _ rfl (p3.mono (by omega)) (g1.trans (g2.trans g3))
theorem row18 {p pc f pl ho : Addr} {b : Nat} {w n : Str} {d : Int} {la hou fie : Str} {at_ : Int} {u4 u9 u13 u14 u15 : Option D} {hs : List Str} {S : Sto} {Q : DK} {D0 : DEnds} (hQ : D0.rt = Q) (h : Pen S p pc b) (hb : b + 20 ≤ 100000) (th : Txs S p ho hs) (hl : hs.length = 5)
    (q : ∀ rest S', nrs rest = true → Pen S' p pc (b + 9) → Kp p S S' → Q (rowD w n d rest) S') : t_wrow_of_12 D0 (rEnv p f pl ho w n d la hou fie at_ u4 u9 u13 u14 u15) S := by
  have e7 : (10 : Int) ^ Int.toNat 7 = 10000000 := by decide +kernel
  refine seq_i ?_
  simp (config := {implicitDefEqProofs := false, proj := false}) only [nx_mk, rt_mk, bk_mk, ct_mk, eVar, eC, eOp, eIf, eTup, eLst, eDict0, eDict, eSl, oNo, eCall, eCB, eM, eLc, eIsi2, aNil, aCons, pNil, pCons, tAndD, tOrD, tNotD, tsYes, gMns, gMod, gFdiv, gPow, gLe, gGt, gGe, gEq_ii, gEq_ss, gEq_bb, gEq_nn, gEq_ni, gEq_in, gEq_ns, gEq_sn, gEq_si, gEq_is, sAsg, nName, sRet, sRetN, sExpr, sIf, sNext, sBreak, sCont, sFor, getS, setS, wipeS, endsD, asKeys, toKey, List.length_cons, List.length_nil, List.set_cons_zero, List.set_cons_succ, List.set_nil, Nat.zero_add, Nat.reduceAdd, Option.some.injEq, exists_and_left, exists_eq_left', exists_eq_left, id_eq, if_true, if_false, ite_true, ite_false, Bool.not_true, Bool.not_false, Bool.false_eq_true, not_false_eq_true, not_true_eq_false, reduceCtorEq, true_and, and_true, ne_eq, decide_eq_true_eq, isiN, isiCls, List.mem_cons, String.reduceEq, String.reduceBEq, or_true, true_or, or_false, false_or, Bool.or_true, Bool.true_or, Bool.false_or, Bool.or_false, Bool.and_false, Bool.false_and, Bool.true_and, Bool.and_true, beq_self_eq_true, decide_true, decide_false, tTr_e, vTru_non, vTru_bl, vTru_int, vTru_str, vTru_tup, vTru_ref, oTru_l, oTru_d, tBl_e, vBl_bl, eNeg_e, vNeg_int, eChain_e, eAnd_e, eOr_e, eNot_e, oSome_e, vSome_int, gAdd_ii, gAdd_ss, gAdd_tt, gAdd_rr, gI_ii, gI0_ii, gMulA_ii, gMulA_ri, gMulA_ti, gLt_ii, gLt_ss, gLt2_ii, gLt2_ss, eTab_e, vTab_s, eGet2_e, vGetO_r, vGet2_s, gIs_n, gIs_b, isNon_n, isNon_b, isNon_i, isNon_s, isNon_t, isNon_r, gIx_r, oIx_li, oIx_ds, oIx_di, gIx_ti, gIx_fi, gIx_si, gSl_t, gSl_s, gSl_f, gSl_r, gIn_ss, gIn_t, gIn_r, oIn_l, oIn_ds, gLen_s, gLen_t, gLen_f, gLen_r, oLen_l, oLen_d, gAbs_i, gMax2_ii, gMin2_ii, gInt1_i, gInt1_b, gList_t, gList_f, gList_r, gTuple_t, gTuple_f, gTuple_r, gSum_r, gAll_r, gIsi_x, tyD_n, tyD_b, tyD_i, tyD_s, tyD_t, tyD_f, tyD_r, oTy_l, oTy_d, tyM_s, tyM_r, oTyM_l, oTyM_d, gAppend_r, gPop0_r, gPopAt_r, gClear_r, gReverse_r, gJoin_r, gUpper_s, gStr_i, gSorted_r, iSeq_e, vSeq_r, vSeq_f, vSeq_t, vSeq_s, iRange1_e, vRng1_i, iRange2_e, vRng2_i, iZipD_e, vZip_r, vZip_t, iEnumD_e, vEnum_r, nTupL_t, nTupL_r, nCons_c, nNil_n, sSub_e, vPut_r, oPut_ds, oPut_di, oPut_l]
  by_cases h1 : w = "forfeit"
  · rw [if_pos h1, hQ]
    exact ⟨by decide, q [_, _] _ rfl (h.mono (by omega)) .refl⟩
  rw [if_neg h1]
  refine seq_i ?_
  simp (config := {implicitDefEqProofs := false, proj := false}) only [nx_mk, rt_mk, bk_mk, ct_mk, eVar, eC, eOp, eIf, eTup, eLst, eDict0, eDict, eSl, oNo, eCall, eCB, eM, eLc, eIsi2, aNil, aCons, pNil, pCons, tAndD, tOrD, tNotD, tsYes, gMns, gMod, gFdiv, gPow, gLe, gGt, gGe, gEq_ii, gEq_ss, gEq_bb, gEq_nn, gEq_ni, gEq_in, gEq_ns, gEq_sn, gEq_si, gEq_is, sAsg, nName, sRet, sRetN, sExpr, sIf, sNext, sBreak, sCont, sFor, getS, setS, wipeS, endsD, asKeys, toKey, List.length_cons, List.length_nil, List.set_cons_zero, List.set_cons_succ, List.set_nil, Nat.zero_add, Nat.reduceAdd, Option.some.injEq, exists_and_left, exists_eq_left', exists_eq_left, id_eq, if_true, if_false, ite_true, ite_false, Bool.not_true, Bool.not_false, Bool.false_eq_true, not_false_eq_true, not_true_eq_false, reduceCtorEq, true_and, and_true, ne_eq, decide_eq_true_eq, isiN, isiCls, List.mem_cons, String.reduceEq, String.reduceBEq, or_true, true_or, or_false, false_or, Bool.or_true, Bool.true_or, Bool.false_or, Bool.or_false, Bool.and_false, Bool.false_and, Bool.true_and, Bool.and_true, beq_self_eq_true, decide_true, decide_false, tTr_e, vTru_non, vTru_bl, vTru_int, vTru_str, vTru_tup, vTru_ref, oTru_l, oTru_d, tBl_e, vBl_bl, eNeg_e, vNeg_int, eChain_e, eAnd_e, eOr_e, eNot_e, oSome_e, vSome_int, gAdd_ii, gAdd_ss, gAdd_tt, gAdd_rr, gI_ii, gI0_ii, gMulA_ii, gMulA_ri, gMulA_ti, gLt_ii, gLt_ss, gLt2_ii, gLt2_ss, eTab_e, vTab_s, eGet2_e, vGetO_r, vGet2_s, gIs_n, gIs_b, isNon_n, isNon_b, isNon_i, isNon_s, isNon_t, isNon_r, gIx_r, oIx_li, oIx_ds, oIx_di, gIx_ti, gIx_fi, gIx_si, gSl_t, gSl_s, gSl_f, gSl_r, gIn_ss, gIn_t, gIn_r, oIn_l, oIn_ds, gLen_s, gLen_t, gLen_f, gLen_r, oLen_l, oLen_d, gAbs_i, gMax2_ii, gMin2_ii, gInt1_i, gInt1_b, gList_t, gList_f, gList_r, gTuple_t, gTuple_f, gTuple_r, gSum_r, gAll_r, gIsi_x, tyD_n, tyD_b, tyD_i, tyD_s, tyD_t, tyD_f, tyD_r, oTy_l, oTy_d, tyM_s, tyM_r, oTyM_l, oTyM_d, gAppend_r, gPop0_r, gPopAt_r, gClear_r, gReverse_r, gJoin_r, gUpper_s, gStr_i, gSorted_r, iSeq_e, vSeq_r, vSeq_f, vSeq_t, vSeq_s, iRange1_e, vRng1_i, iRange2_e, vRng2_i, iZipD_e, vZip_r, vZip_t, iEnumD_e, vEnum_r, nTupL_t, nTupL_r, nCons_c, nNil_n, sSub_e, vPut_r, oPut_ds, oPut_di, oPut_l]
  by_cases h2 : w = "measure"
  · rw [if_pos h2]
    simp (config := {implicitDefEqProofs := false, proj := false}) only [nx_mk, rt_mk, bk_mk, ct_mk, eVar, eC, eOp, eIf, eTup, eLst, eDict0, eDict, eSl, oNo, eCall, eCB, eM, eLc, eIsi2, aNil, aCons, pNil, pCons, tAndD, tOrD, tNotD, tsYes, gMns, gMod, gFdiv, gPow, gLe, gGt, gGe, gEq_ii, gEq_ss, gEq_bb, gEq_nn, gEq_ni, gEq_in, gEq_ns, gEq_sn, gEq_si, gEq_is, sAsg, nName, sRet, sRetN, sExpr, sIf, sNext, sBreak, sCont, sFor, getS, setS, wipeS, endsD, asKeys, toKey, List.length_cons, List.length_nil, List.set_cons_zero, List.set_cons_succ, List.set_nil, Nat.zero_add, Nat.reduceAdd, Option.some.injEq, exists_and_left, exists_eq_left', exists_eq_left, id_eq, if_true, if_false, ite_true, ite_false, Bool.not_true, Bool.not_false, Bool.false_eq_true, not_false_eq_true, not_true_eq_false, reduceCtorEq, true_and, and_true, ne_eq, decide_eq_true_eq, isiN, isiCls, List.mem_cons, String.reduceEq, String.reduceBEq, or_true, true_or, or_false, false_or, Bool.or_true, Bool.true_or, Bool.false_or, Bool.or_false, Bool.and_false, Bool.false_and, Bool.true_and, Bool.and_true, beq_self_eq_true, decide_true, decide_false, tTr_e, vTru_non, vTru_bl, vTru_int, vTru_str, vTru_tup, vTru_ref, oTru_l, oTru_d, tBl_e, vBl_bl, eNeg_e, vNeg_int, eChain_e, eAnd_e, eOr_e, eNot_e, oSome_e, vSome_int, gAdd_ii, gAdd_ss, gAdd_tt, gAdd_rr, gI_ii, gI0_ii, gMulA_ii, gMulA_ri, gMulA_ti, gLt_ii, gLt_ss, gLt2_ii, gLt2_ss, eTab_e, vTab_s, eGet2_e, vGetO_r, vGet2_s, gIs_n, gIs_b, isNon_n, isNon_b, isNon_i, isNon_s, isNon_t, isNon_r, gIx_r, oIx_li, oIx_ds, oIx_di, gIx_ti, gIx_fi, gIx_si, gSl_t, gSl_s, gSl_f, gSl_r, gIn_ss, gIn_t, gIn_r, oIn_l, oIn_ds, gLen_s, gLen_t, gLen_f, gLen_r, oLen_l, oLen_d, gAbs_i, gMax2_ii, gMin2_ii, gInt1_i, gInt1_b, gList_t, gList_f, gList_r, gTuple_t, gTuple_f, gTuple_r, gSum_r, gAll_r, gIsi_x, tyD_n, tyD_b, tyD_i, tyD_s, tyD_t, tyD_f, tyD_r, oTy_l, oTy_d, tyM_s, tyM_r, oTyM_l, oTyM_d, gAppend_r, gPop0_r, gPopAt_r, gClear_r, gReverse_r, gJoin_r, gUpper_s, gStr_i, gSorted_r, iSeq_e, vSeq_r, vSeq_f, vSeq_t, vSeq_s, iRange1_e, vRng1_i, iRange2_e, vRng2_i, iZipD_e, vZip_r, vZip_t, iEnumD_e, vEnum_r, nTupL_t, nTupL_r, nCons_c, nNil_n, sSub_e, vPut_r, oPut_ds, oPut_di, oPut_l, hQ]
    rw [e7]
    exact ⟨powI (by decide) (by decide) (by decide) (by decide), number_spec h (by omega) (by decide) (by decide) (by decide) fun v1 S1 _ _ p1 g1 => ⟨by decide, q [_, _] _ rfl (p1.mono (by omega)) g1⟩⟩
  rw [if_neg h2]
  refine seq_i ?_
  simp (config := {implicitDefEqProofs := false, proj := false}) only [nx_mk, rt_mk, bk_mk, ct_mk, eVar, eC, eOp, eIf, eTup, eLst, eDict0, eDict, eSl, oNo, eCall, eCB, eM, eLc, eIsi2, aNil, aCons, pNil, pCons, tAndD, tOrD, tNotD, tsYes, gMns, gMod, gFdiv, gPow, gLe, gGt, gGe, gEq_ii, gEq_ss, gEq_bb, gEq_nn, gEq_ni, gEq_in, gEq_ns, gEq_sn, gEq_si, gEq_is, sAsg, nName, sRet, sRetN, sExpr, sIf, sNext, sBreak, sCont, sFor, getS, setS, wipeS, endsD, asKeys, toKey, List.length_cons, List.length_nil, List.set_cons_zero, List.set_cons_succ, List.set_nil, Nat.zero_add, Nat.reduceAdd, Option.some.injEq, exists_and_left, exists_eq_left', exists_eq_left, id_eq, if_true, if_false, ite_true, ite_false, Bool.not_true, Bool.not_false, Bool.false_eq_true, not_false_eq_true, not_true_eq_false, reduceCtorEq, true_and, and_true, ne_eq, decide_eq_true_eq, isiN, isiCls, List.mem_cons, String.reduceEq, String.reduceBEq, or_true, true_or, or_false, false_or, Bool.or_true, Bool.true_or, Bool.false_or, Bool.or_false, Bool.and_false, Bool.false_and, Bool.true_and, Bool.and_true, beq_self_eq_true, decide_true, decide_false, tTr_e, vTru_non, vTru_bl, vTru_int, vTru_str, vTru_tup, vTru_ref, oTru_l, oTru_d, tBl_e, vBl_bl, eNeg_e, vNeg_int, eChain_e, eAnd_e, eOr_e, eNot_e, oSome_e, vSome_int, gAdd_ii, gAdd_ss, gAdd_tt, gAdd_rr, gI_ii, gI0_ii, gMulA_ii, gMulA_ri, gMulA_ti, gLt_ii, gLt_ss, gLt2_ii, gLt2_ss, eTab_e, vTab_s, eGet2_e, vGetO_r, vGet2_s, gIs_n, gIs_b, isNon_n, isNon_b, isNon_i, isNon_s, isNon_t, isNon_r, gIx_r, oIx_li, oIx_ds, oIx_di, gIx_ti, gIx_fi, gIx_si, gSl_t, gSl_s, gSl_f, gSl_r, gIn_ss, gIn_t, gIn_r, oIn_l, oIn_ds, gLen_s, gLen_t, gLen_f, gLen_r, oLen_l, oLen_d, gAbs_i, gMax2_ii, gMin2_ii, gInt1_i, gInt1_b, gList_t, gList_f, gList_r, gTuple_t, gTuple_f, gTuple_r, gSum_r, gAll_r, gIsi_x, tyD_n, tyD_b, tyD_i, tyD_s, tyD_t, tyD_f, tyD_r, oTy_l, oTy_d, tyM_s, tyM_r, oTyM_l, oTyM_d, gAppend_r, gPop0_r, gPopAt_r, gClear_r, gReverse_r, gJoin_r, gUpper_s, gStr_i, gSorted_r, iSeq_e, vSeq_r, vSeq_f, vSeq_t, vSeq_s, iRange1_e, vRng1_i, iRange2_e, vRng2_i, iZipD_e, vZip_r, vZip_t, iEnumD_e, vEnum_r, nTupL_t, nTupL_r, nCons_c, nNil_n, sSub_e, vPut_r, oPut_ds, oPut_di, oPut_l]
  by_cases h3 : w = "mend"
  · rw [if_pos h3]
    simp (config := {implicitDefEqProofs := false, proj := false}) only [nx_mk, rt_mk, bk_mk, ct_mk, eVar, eC, eOp, eIf, eTup, eLst, eDict0, eDict, eSl, oNo, eCall, eCB, eM, eLc, eIsi2, aNil, aCons, pNil, pCons, tAndD, tOrD, tNotD, tsYes, gMns, gMod, gFdiv, gPow, gLe, gGt, gGe, gEq_ii, gEq_ss, gEq_bb, gEq_nn, gEq_ni, gEq_in, gEq_ns, gEq_sn, gEq_si, gEq_is, sAsg, nName, sRet, sRetN, sExpr, sIf, sNext, sBreak, sCont, sFor, getS, setS, wipeS, endsD, asKeys, toKey, List.length_cons, List.length_nil, List.set_cons_zero, List.set_cons_succ, List.set_nil, Nat.zero_add, Nat.reduceAdd, Option.some.injEq, exists_and_left, exists_eq_left', exists_eq_left, id_eq, if_true, if_false, ite_true, ite_false, Bool.not_true, Bool.not_false, Bool.false_eq_true, not_false_eq_true, not_true_eq_false, reduceCtorEq, true_and, and_true, ne_eq, decide_eq_true_eq, isiN, isiCls, List.mem_cons, String.reduceEq, String.reduceBEq, or_true, true_or, or_false, false_or, Bool.or_true, Bool.true_or, Bool.false_or, Bool.or_false, Bool.and_false, Bool.false_and, Bool.true_and, Bool.and_true, beq_self_eq_true, decide_true, decide_false, tTr_e, vTru_non, vTru_bl, vTru_int, vTru_str, vTru_tup, vTru_ref, oTru_l, oTru_d, tBl_e, vBl_bl, eNeg_e, vNeg_int, eChain_e, eAnd_e, eOr_e, eNot_e, oSome_e, vSome_int, gAdd_ii, gAdd_ss, gAdd_tt, gAdd_rr, gI_ii, gI0_ii, gMulA_ii, gMulA_ri, gMulA_ti, gLt_ii, gLt_ss, gLt2_ii, gLt2_ss, eTab_e, vTab_s, eGet2_e, vGetO_r, vGet2_s, gIs_n, gIs_b, isNon_n, isNon_b, isNon_i, isNon_s, isNon_t, isNon_r, gIx_r, oIx_li, oIx_ds, oIx_di, gIx_ti, gIx_fi, gIx_si, gSl_t, gSl_s, gSl_f, gSl_r, gIn_ss, gIn_t, gIn_r, oIn_l, oIn_ds, gLen_s, gLen_t, gLen_f, gLen_r, oLen_l, oLen_d, gAbs_i, gMax2_ii, gMin2_ii, gInt1_i, gInt1_b, gList_t, gList_f, gList_r, gTuple_t, gTuple_f, gTuple_r, gSum_r, gAll_r, gIsi_x, tyD_n, tyD_b, tyD_i, tyD_s, tyD_t, tyD_f, tyD_r, oTy_l, oTy_d, tyM_s, tyM_r, oTyM_l, oTyM_d, gAppend_r, gPop0_r, gPopAt_r, gClear_r, gReverse_r, gJoin_r, gUpper_s, gStr_i, gSorted_r, iSeq_e, vSeq_r, vSeq_f, vSeq_t, vSeq_s, iRange1_e, vRng1_i, iRange2_e, vRng2_i, iZipD_e, vZip_r, vZip_t, iEnumD_e, vEnum_r, nTupL_t, nTupL_r, nCons_c, nNil_n, sSub_e, vPut_r, oPut_ds, oPut_di, oPut_l, hQ, th.at_, List.length_map]
    refine take_spec h (by omega) (by omega) (log_small (by omega) (by omega)) fun j S1 a1 b1 p1 g1 => ?_
    have e1 := (th.kp g1).at_
    rw [gAdd_ii, e1, oLen_l, List.length_map, gI_ii, e1]
    have m0 : 0 ≤ (at_ + 1 + j) % (hs.length : Int) := Int.emod_nonneg _ (by omega)
    have m1 : (at_ + 1 + j) % (hs.length : Int) < hs.length := Int.emod_lt_of_pos _ (by omega)
    obtain ⟨z, ez, _⟩ := get_str m0 m1
    exact ⟨by omega, _, ez, by decide, q [_, _] _ rfl (p1.mono (by omega)) g1⟩
  rw [if_neg h3]
  refine seq_i ?_
  simp (config := {implicitDefEqProofs := false, proj := false}) only [nx_mk, rt_mk, bk_mk, ct_mk, eVar, eC, eOp, eIf, eTup, eLst, eDict0, eDict, eSl, oNo, eCall, eCB, eM, eLc, eIsi2, aNil, aCons, pNil, pCons, tAndD, tOrD, tNotD, tsYes, gMns, gMod, gFdiv, gPow, gLe, gGt, gGe, gEq_ii, gEq_ss, gEq_bb, gEq_nn, gEq_ni, gEq_in, gEq_ns, gEq_sn, gEq_si, gEq_is, sAsg, nName, sRet, sRetN, sExpr, sIf, sNext, sBreak, sCont, sFor, getS, setS, wipeS, endsD, asKeys, toKey, List.length_cons, List.length_nil, List.set_cons_zero, List.set_cons_succ, List.set_nil, Nat.zero_add, Nat.reduceAdd, Option.some.injEq, exists_and_left, exists_eq_left', exists_eq_left, id_eq, if_true, if_false, ite_true, ite_false, Bool.not_true, Bool.not_false, Bool.false_eq_true, not_false_eq_true, not_true_eq_false, reduceCtorEq, true_and, and_true, ne_eq, decide_eq_true_eq, isiN, isiCls, List.mem_cons, String.reduceEq, String.reduceBEq, or_true, true_or, or_false, false_or, Bool.or_true, Bool.true_or, Bool.false_or, Bool.or_false, Bool.and_false, Bool.false_and, Bool.true_and, Bool.and_true, beq_self_eq_true, decide_true, decide_false, tTr_e, vTru_non, vTru_bl, vTru_int, vTru_str, vTru_tup, vTru_ref, oTru_l, oTru_d, tBl_e, vBl_bl, eNeg_e, vNeg_int, eChain_e, eAnd_e, eOr_e, eNot_e, oSome_e, vSome_int, gAdd_ii, gAdd_ss, gAdd_tt, gAdd_rr, gI_ii, gI0_ii, gMulA_ii, gMulA_ri, gMulA_ti, gLt_ii, gLt_ss, gLt2_ii, gLt2_ss, eTab_e, vTab_s, eGet2_e, vGetO_r, vGet2_s, gIs_n, gIs_b, isNon_n, isNon_b, isNon_i, isNon_s, isNon_t, isNon_r, gIx_r, oIx_li, oIx_ds, oIx_di, gIx_ti, gIx_fi, gIx_si, gSl_t, gSl_s, gSl_f, gSl_r, gIn_ss, gIn_t, gIn_r, oIn_l, oIn_ds, gLen_s, gLen_t, gLen_f, gLen_r, oLen_l, oLen_d, gAbs_i, gMax2_ii, gMin2_ii, gInt1_i, gInt1_b, gList_t, gList_f, gList_r, gTuple_t, gTuple_f, gTuple_r, gSum_r, gAll_r, gIsi_x, tyD_n, tyD_b, tyD_i, tyD_s, tyD_t, tyD_f, tyD_r, oTy_l, oTy_d, tyM_s, tyM_r, oTyM_l, oTyM_d, gAppend_r, gPop0_r, gPopAt_r, gClear_r, gReverse_r, gJoin_r, gUpper_s, gStr_i, gSorted_r, iSeq_e, vSeq_r, vSeq_f, vSeq_t, vSeq_s, iRange1_e, vRng1_i, iRange2_e, vRng2_i, iZipD_e, vZip_r, vZip_t, iEnumD_e, vEnum_r, nTupL_t, nTupL_r, nCons_c, nNil_n, sSub_e, vPut_r, oPut_ds, oPut_di, oPut_l]
  by_cases h4 : w = "alone"
  · rw [if_pos h4, hQ]
    exact ⟨by decide, q [_] _ rfl (h.mono (by omega)) .refl⟩
  rw [if_neg h4]
  exact row20 hQ h hb q
end LW
namespace LW
open PySem L2 DL
theorem nrs_app {a b : List D} (h1 : nrs a = true) (h2 : nrs b = true) : nrs (a ++ b) = true := by
  induction a with
  | nil => exact h2
  | cons x r ih =>
    have h3 : (nr x && nrs r) = true := h1
    rw [Bool.and_eq_true] at h3
    show (nr x && nrs (r ++ b)) = true
    rw [h3.1, ih h3.2]
    rfl
theorem row8 {p pc f pl ho c : Addr} {b : Nat} {w n : Str} {d : Int} {la hou fie : Str} {at_ : Int} {u4 u9 u14 u15 : Option D} {hs zs : List Str} {S : Sto} {Q : DK} {D0 : DEnds} (hQ : D0.rt = Q) (h : Pen S p pc b) (hb : b + 100 ≤ 100000) (th : Txs S p ho hs) (hl : hs.length = 5)
    (ec : S c = some (.lst (zs.map .str))) (hcp : c ≠ p) (hzl : zs.length ≤ 6)
    (q : ∀ rest S', nrs rest = true → Pen S' p pc (b + 30) → Kp p S S' → Q (rowD w n d rest) S') : t_wrow_of_8 D0 (rEnv p f pl ho w n d la hou fie at_ u4 u9 (some (.ref c)) u14 u15) S := by
  have e7 : (10 : Int) ^ Int.toNat 7 = 10000000 := by decide +kernel
  refine seq_i ?_
  simp (config := {implicitDefEqProofs := false, proj := false}) only [nx_mk, rt_mk, bk_mk, ct_mk, eVar, eC, eOp, eIf, eTup, eLst, eDict0, eDict, eSl, oNo, eCall, eCB, eM, eLc, eIsi2, aNil, aCons, pNil, pCons, tAndD, tOrD, tNotD, tsYes, gMns, gMod, gFdiv, gPow, gLe, gGt, gGe, gEq_ii, gEq_ss, gEq_bb, gEq_nn, gEq_ni, gEq_in, gEq_ns, gEq_sn, gEq_si, gEq_is, sAsg, nName, sRet, sRetN, sExpr, sIf, sNext, sBreak, sCont, sFor, getS, setS, wipeS, endsD, asKeys, toKey, List.length_cons, List.length_nil, List.set_cons_zero, List.set_cons_succ, List.set_nil, Nat.zero_add, Nat.reduceAdd, Option.some.injEq, exists_and_left, exists_eq_left', exists_eq_left, id_eq, if_true, if_false, ite_true, ite_false, Bool.not_true, Bool.not_false, Bool.false_eq_true, not_false_eq_true, not_true_eq_false, reduceCtorEq, true_and, and_true, ne_eq, decide_eq_true_eq, isiN, isiCls, List.mem_cons, String.reduceEq, String.reduceBEq, or_true, true_or, or_false, false_or, Bool.or_true, Bool.true_or, Bool.false_or, Bool.or_false, Bool.and_false, Bool.false_and, Bool.true_and, Bool.and_true, beq_self_eq_true, decide_true, decide_false, tTr_e, vTru_non, vTru_bl, vTru_int, vTru_str, vTru_tup, vTru_ref, oTru_l, oTru_d, tBl_e, vBl_bl, eNeg_e, vNeg_int, eChain_e, eAnd_e, eOr_e, eNot_e, oSome_e, vSome_int, gAdd_ii, gAdd_ss, gAdd_tt, gAdd_rr, gI_ii, gI0_ii, gMulA_ii, gMulA_ri, gMulA_ti, gLt_ii, gLt_ss, gLt2_ii, gLt2_ss, eTab_e, vTab_s, eGet2_e, vGetO_r, vGet2_s, gIs_n, gIs_b, isNon_n, isNon_b, isNon_i, isNon_s, isNon_t, isNon_r, gIx_r, oIx_li, oIx_ds, oIx_di, gIx_ti, gIx_fi, gIx_si, gSl_t, gSl_s, gSl_f, gSl_r, gIn_ss, gIn_t, gIn_r, oIn_l, oIn_ds, gLen_s, gLen_t, gLen_f, gLen_r, oLen_l, oLen_d, gAbs_i, gMax2_ii, gMin2_ii, gInt1_i, gInt1_b, gList_t, gList_f, gList_r, gTuple_t, gTuple_f, gTuple_r, gSum_r, gAll_r, gIsi_x, tyD_n, tyD_b, tyD_i, tyD_s, tyD_t, tyD_f, tyD_r, oTy_l, oTy_d, tyM_s, tyM_r, oTyM_l, oTyM_d, gAppend_r, gPop0_r, gPopAt_r, gClear_r, gReverse_r, gJoin_r, gUpper_s, gStr_i, gSorted_r, iSeq_e, vSeq_r, vSeq_f, vSeq_t, vSeq_s, iRange1_e, vRng1_i, iRange2_e, vRng2_i, iZipD_e, vZip_r, vZip_t, iEnumD_e, vEnum_r, nTupL_t, nTupL_r, nCons_c, nNil_n, sSub_e, vPut_r, oPut_ds, oPut_di, oPut_l]
  by_cases h1 : w = "join"
  · rw [if_pos h1]
    simp (config := {implicitDefEqProofs := false, proj := false}) only [nx_mk, rt_mk, bk_mk, ct_mk, eVar, eC, eOp, eIf, eTup, eLst, eDict0, eDict, eSl, oNo, eCall, eCB, eM, eLc, eIsi2, aNil, aCons, pNil, pCons, tAndD, tOrD, tNotD, tsYes, gMns, gMod, gFdiv, gPow, gLe, gGt, gGe, gEq_ii, gEq_ss, gEq_bb, gEq_nn, gEq_ni, gEq_in, gEq_ns, gEq_sn, gEq_si, gEq_is, sAsg, nName, sRet, sRetN, sExpr, sIf, sNext, sBreak, sCont, sFor, getS, setS, wipeS, endsD, asKeys, toKey, List.length_cons, List.length_nil, List.set_cons_zero, List.set_cons_succ, List.set_nil, Nat.zero_add, Nat.reduceAdd, Option.some.injEq, exists_and_left, exists_eq_left', exists_eq_left, id_eq, if_true, if_false, ite_true, ite_false, Bool.not_true, Bool.not_false, Bool.false_eq_true, not_false_eq_true, not_true_eq_false, reduceCtorEq, true_and, and_true, ne_eq, decide_eq_true_eq, isiN, isiCls, List.mem_cons, String.reduceEq, String.reduceBEq, or_true, true_or, or_false, false_or, Bool.or_true, Bool.true_or, Bool.false_or, Bool.or_false, Bool.and_false, Bool.false_and, Bool.true_and, Bool.and_true, beq_self_eq_true, decide_true, decide_false, tTr_e, vTru_non, vTru_bl, vTru_int, vTru_str, vTru_tup, vTru_ref, oTru_l, oTru_d, tBl_e, vBl_bl, eNeg_e, vNeg_int, eChain_e, eAnd_e, eOr_e, eNot_e, oSome_e, vSome_int, gAdd_ii, gAdd_ss, gAdd_tt, gAdd_rr, gI_ii, gI0_ii, gMulA_ii, gMulA_ri, gMulA_ti, gLt_ii, gLt_ss, gLt2_ii, gLt2_ss, eTab_e, vTab_s, eGet2_e, vGetO_r, vGet2_s, gIs_n, gIs_b, isNon_n, isNon_b, isNon_i, isNon_s, isNon_t, isNon_r, gIx_r, oIx_li, oIx_ds, oIx_di, gIx_ti, gIx_fi, gIx_si, gSl_t, gSl_s, gSl_f, gSl_r, gIn_ss, gIn_t, gIn_r, oIn_l, oIn_ds, gLen_s, gLen_t, gLen_f, gLen_r, oLen_l, oLen_d, gAbs_i, gMax2_ii, gMin2_ii, gInt1_i, gInt1_b, gList_t, gList_f, gList_r, gTuple_t, gTuple_f, gTuple_r, gSum_r, gAll_r, gIsi_x, tyD_n, tyD_b, tyD_i, tyD_s, tyD_t, tyD_f, tyD_r, oTy_l, oTy_d, tyM_s, tyM_r, oTyM_l, oTyM_d, gAppend_r, gPop0_r, gPopAt_r, gClear_r, gReverse_r, gJoin_r, gUpper_s, gStr_i, gSorted_r, iSeq_e, vSeq_r, vSeq_f, vSeq_t, vSeq_s, iRange1_e, vRng1_i, iRange2_e, vRng2_i, iZipD_e, vZip_r, vZip_t, iEnumD_e, vEnum_r, nTupL_t, nTupL_r, nCons_c, nNil_n, sSub_e, vPut_r, oPut_ds, oPut_di, oPut_l, hQ]
    refine ⟨_, ec, by decide, q [.tup (zs.map .str), _] _ ?_ (h.mono (by omega)) .refl⟩
    show (nrs (zs.map D.str) && true) = true
    rw [nrs_strs]
    rfl
  rw [if_neg h1]
  refine seq_i ?_
  simp (config := {implicitDefEqProofs := false, proj := false}) only [nx_mk, rt_mk, bk_mk, ct_mk, eVar, eC, eOp, eIf, eTup, eLst, eDict0, eDict, eSl, oNo, eCall, eCB, eM, eLc, eIsi2, aNil, aCons, pNil, pCons, tAndD, tOrD, tNotD, tsYes, gMns, gMod, gFdiv, gPow, gLe, gGt, gGe, gEq_ii, gEq_ss, gEq_bb, gEq_nn, gEq_ni, gEq_in, gEq_ns, gEq_sn, gEq_si, gEq_is, sAsg, nName, sRet, sRetN, sExpr, sIf, sNext, sBreak, sCont, sFor, getS, setS, wipeS, endsD, asKeys, toKey, List.length_cons, List.length_nil, List.set_cons_zero, List.set_cons_succ, List.set_nil, Nat.zero_add, Nat.reduceAdd, Option.some.injEq, exists_and_left, exists_eq_left', exists_eq_left, id_eq, if_true, if_false, ite_true, ite_false, Bool.not_true, Bool.not_false, Bool.false_eq_true, not_false_eq_true, not_true_eq_false, reduceCtorEq, true_and, and_true, ne_eq, decide_eq_true_eq, isiN, isiCls, List.mem_cons, String.reduceEq, String.reduceBEq, or_true, true_or, or_false, false_or, Bool.or_true, Bool.true_or, Bool.false_or, Bool.or_false, Bool.and_false, Bool.false_and, Bool.true_and, Bool.and_true, beq_self_eq_true, decide_true, decide_false, tTr_e, vTru_non, vTru_bl, vTru_int, vTru_str, vTru_tup, vTru_ref, oTru_l, oTru_d, tBl_e, vBl_bl, eNeg_e, vNeg_int, eChain_e, eAnd_e, eOr_e, eNot_e, oSome_e, vSome_int, gAdd_ii, gAdd_ss, gAdd_tt, gAdd_rr, gI_ii, gI0_ii, gMulA_ii, gMulA_ri, gMulA_ti, gLt_ii, gLt_ss, gLt2_ii, gLt2_ss, eTab_e, vTab_s, eGet2_e, vGetO_r, vGet2_s, gIs_n, gIs_b, isNon_n, isNon_b, isNon_i, isNon_s, isNon_t, isNon_r, gIx_r, oIx_li, oIx_ds, oIx_di, gIx_ti, gIx_fi, gIx_si, gSl_t, gSl_s, gSl_f, gSl_r, gIn_ss, gIn_t, gIn_r, oIn_l, oIn_ds, gLen_s, gLen_t, gLen_f, gLen_r, oLen_l, oLen_d, gAbs_i, gMax2_ii, gMin2_ii, gInt1_i, gInt1_b, gList_t, gList_f, gList_r, gTuple_t, gTuple_f, gTuple_r, gSum_r, gAll_r, gIsi_x, tyD_n, tyD_b, tyD_i, tyD_s, tyD_t, tyD_f, tyD_r, oTy_l, oTy_d, tyM_s, tyM_r, oTyM_l, oTyM_d, gAppend_r, gPop0_r, gPopAt_r, gClear_r, gReverse_r, gJoin_r, gUpper_s, gStr_i, gSorted_r, iSeq_e, vSeq_r, vSeq_f, vSeq_t, vSeq_s, iRange1_e, vRng1_i, iRange2_e, vRng2_i, iZipD_e, vZip_r, vZip_t, iEnumD_e, vEnum_r, nTupL_t, nTupL_r, nCons_c, nNil_n, sSub_e, vPut_r, oPut_ds, oPut_di, oPut_l]
  refine ⟨_, ec, ?_⟩
  refine lcL_inv _ (fun i acc S' => Pen S' p pc (b + 4 * i) ∧ Kp p S S' ∧ acc.length = i ∧ nrs acc = true) (fun i acc S' hi => hi.2.1 _ _ hcp ec) (fun i x acc S6 N hx hI hN => ?el) (fun acc S6 hI => ?af) ⟨h, .refl, rfl, rfl⟩
  case el =>
    obtain ⟨p6, g6, hal, han⟩ := hI
    have hi := (List.getElem?_eq_some_iff.mp hx).1
    rw [List.length_map] at hi
    rw [List.getElem?_map] at hx
    obtain ⟨z, hz, rfl⟩ := Option.map_eq_some_iff.mp hx
    simp (config := {implicitDefEqProofs := false, proj := false}) only [nx_mk, rt_mk, bk_mk, ct_mk, eVar, eC, eOp, eIf, eTup, eLst, eDict0, eDict, eSl, oNo, eCall, eCB, eM, eLc, eIsi2, aNil, aCons, pNil, pCons, tAndD, tOrD, tNotD, tsYes, gMns, gMod, gFdiv, gPow, gLe, gGt, gGe, gEq_ii, gEq_ss, gEq_bb, gEq_nn, gEq_ni, gEq_in, gEq_ns, gEq_sn, gEq_si, gEq_is, sAsg, nName, sRet, sRetN, sExpr, sIf, sNext, sBreak, sCont, sFor, getS, setS, wipeS, endsD, asKeys, toKey, List.length_cons, List.length_nil, List.set_cons_zero, List.set_cons_succ, List.set_nil, Nat.zero_add, Nat.reduceAdd, Option.some.injEq, exists_and_left, exists_eq_left', exists_eq_left, id_eq, if_true, if_false, ite_true, ite_false, Bool.not_true, Bool.not_false, Bool.false_eq_true, not_false_eq_true, not_true_eq_false, reduceCtorEq, true_and, and_true, ne_eq, decide_eq_true_eq, isiN, isiCls, List.mem_cons, String.reduceEq, String.reduceBEq, or_true, true_or, or_false, false_or, Bool.or_true, Bool.true_or, Bool.false_or, Bool.or_false, Bool.and_false, Bool.false_and, Bool.true_and, Bool.and_true, beq_self_eq_true, decide_true, decide_false, tTr_e, vTru_non, vTru_bl, vTru_int, vTru_str, vTru_tup, vTru_ref, oTru_l, oTru_d, tBl_e, vBl_bl, eNeg_e, vNeg_int, eChain_e, eAnd_e, eOr_e, eNot_e, oSome_e, vSome_int, gAdd_ii, gAdd_ss, gAdd_tt, gAdd_rr, gI_ii, gI0_ii, gMulA_ii, gMulA_ri, gMulA_ti, gLt_ii, gLt_ss, gLt2_ii, gLt2_ss, eTab_e, vTab_s, eGet2_e, vGetO_r, vGet2_s, gIs_n, gIs_b, isNon_n, isNon_b, isNon_i, isNon_s, isNon_t, isNon_r, gIx_r, oIx_li, oIx_ds, oIx_di, gIx_ti, gIx_fi, gIx_si, gSl_t, gSl_s, gSl_f, gSl_r, gIn_ss, gIn_t, gIn_r, oIn_l, oIn_ds, gLen_s, gLen_t, gLen_f, gLen_r, oLen_l, oLen_d, gAbs_i, gMax2_ii, gMin2_ii, gInt1_i, gInt1_b, gList_t, gList_f, gList_r, gTuple_t, gTuple_f, gTuple_r, gSum_r, gAll_r, gIsi_x, tyD_n, tyD_b, tyD_i, tyD_s, tyD_t, tyD_f, tyD_r, oTy_l, oTy_d, tyM_s, tyM_r, oTyM_l, oTyM_d, gAppend_r, gPop0_r, gPopAt_r, gClear_r, gReverse_r, gJoin_r, gUpper_s, gStr_i, gSorted_r, iSeq_e, vSeq_r, vSeq_f, vSeq_t, vSeq_s, iRange1_e, vRng1_i, iRange2_e, vRng2_i, iZipD_e, vZip_r, vZip_t, iEnumD_e, vEnum_r, nTupL_t, nTupL_r, nCons_c, nNil_n, sSub_e, vPut_r, oPut_ds, oPut_di, oPut_l, c_wrow_of_10, (th.kp g6).at_, List.length_map]
    refine take_spec p6 (by omega) (by omega) (log_small (by omega) (by omega)) fun j S1 a1 b1 p1 g1 => ?_
    rw [(th.kp (g6.trans g1)).at_, oIx_li]
    obtain ⟨y, ey, _⟩ := get_str (zs := hs) a1 (by omega)
    refine ⟨_, ey, ?_⟩
    rw [e7]
    refine ⟨powI (by decide) (by decide) (by decide) (by decide), number_spec p1 (by omega) (by decide) (by decide) (by decide) fun v1 S2 _ _ p2 g2 => ⟨by decide, by rw [hal]; exact Nat.lt_of_lt_of_le (show i < 401 by omega) (by decide), hN _ _ ⟨p2.mono (by omega), g6.trans (g1.trans g2), by rw [List.length_append, hal]; rfl, nrs_app han rfl⟩⟩⟩
  case af =>
    obtain ⟨p6, g6, hal, han⟩ := hI
    rw [List.length_map] at p6 hal
    intro r hr
    simp (config := {implicitDefEqProofs := false, proj := false}) only [nx_mk, rt_mk, bk_mk, ct_mk, eVar, eC, eOp, eIf, eTup, eLst, eDict0, eDict, eSl, oNo, eCall, eCB, eM, eLc, eIsi2, aNil, aCons, pNil, pCons, tAndD, tOrD, tNotD, tsYes, gMns, gMod, gFdiv, gPow, gLe, gGt, gGe, gEq_ii, gEq_ss, gEq_bb, gEq_nn, gEq_ni, gEq_in, gEq_ns, gEq_sn, gEq_si, gEq_is, sAsg, nName, sRet, sRetN, sExpr, sIf, sNext, sBreak, sCont, sFor, getS, setS, wipeS, endsD, asKeys, toKey, List.length_cons, List.length_nil, List.set_cons_zero, List.set_cons_succ, List.set_nil, Nat.zero_add, Nat.reduceAdd, Option.some.injEq, exists_and_left, exists_eq_left', exists_eq_left, id_eq, if_true, if_false, ite_true, ite_false, Bool.not_true, Bool.not_false, Bool.false_eq_true, not_false_eq_true, not_true_eq_false, reduceCtorEq, true_and, and_true, ne_eq, decide_eq_true_eq, isiN, isiCls, List.mem_cons, String.reduceEq, String.reduceBEq, or_true, true_or, or_false, false_or, Bool.or_true, Bool.true_or, Bool.false_or, Bool.or_false, Bool.and_false, Bool.false_and, Bool.true_and, Bool.and_true, beq_self_eq_true, decide_true, decide_false, tTr_e, vTru_non, vTru_bl, vTru_int, vTru_str, vTru_tup, vTru_ref, oTru_l, oTru_d, tBl_e, vBl_bl, eNeg_e, vNeg_int, eChain_e, eAnd_e, eOr_e, eNot_e, oSome_e, vSome_int, gAdd_ii, gAdd_ss, gAdd_tt, gAdd_rr, gI_ii, gI0_ii, gMulA_ii, gMulA_ri, gMulA_ti, gLt_ii, gLt_ss, gLt2_ii, gLt2_ss, eTab_e, vTab_s, eGet2_e, vGetO_r, vGet2_s, gIs_n, gIs_b, isNon_n, isNon_b, isNon_i, isNon_s, isNon_t, isNon_r, gIx_r, oIx_li, oIx_ds, oIx_di, gIx_ti, gIx_fi, gIx_si, gSl_t, gSl_s, gSl_f, gSl_r, gIn_ss, gIn_t, gIn_r, oIn_l, oIn_ds, gLen_s, gLen_t, gLen_f, gLen_r, oLen_l, oLen_d, gAbs_i, gMax2_ii, gMin2_ii, gInt1_i, gInt1_b, gList_t, gList_f, gList_r, gTuple_t, gTuple_f, gTuple_r, gSum_r, gAll_r, gIsi_x, tyD_n, tyD_b, tyD_i, tyD_s, tyD_t, tyD_f, tyD_r, oTy_l, oTy_d, tyM_s, tyM_r, oTyM_l, oTyM_d, gAppend_r, gPop0_r, gPopAt_r, gClear_r, gReverse_r, gJoin_r, gUpper_s, gStr_i, gSorted_r, iSeq_e, vSeq_r, vSeq_f, vSeq_t, vSeq_s, iRange1_e, vRng1_i, iRange2_e, vRng2_i, iZipD_e, vZip_r, vZip_t, iEnumD_e, vEnum_r, nTupL_t, nTupL_r, nCons_c, nNil_n, sSub_e, vPut_r, oPut_ds, oPut_di, oPut_l, t_wrow_of_11, updS_same, hQ]
    refine ⟨acc, rfl, by decide, q [_, .tup acc] _ ?_ ((p6.new hr).mono (by omega)) (g6.trans (.new hr))⟩
    show (true && (nrs acc && true)) = true
    rw [han]
    rfl
end LW
namespace LW
open PySem L2 DL
theorem rowof_spec {p pc f pl ho : Addr} {b : Nat} {w n : Str} {d : Int} {fs ps hs : List Str} {S : Sto} {Q : DK} (h : Pen S p pc b) (hb : b + 200 ≤ 100000) (tf : Txs S p f fs) (tp : Txs S p pl ps) (th : Txs S p ho hs) (hf : 0 < fs.length) (hf2 : fs.length ≤ 10) (hp : ps.length = 10) (hl : hs.length = 5)
    (q : ∀ rest S', nrs rest = true → Pen S' p pc (b + 50) → Kp p S S' → Q (rowD w n d rest) S') : m_wrow_of [.ref p, .str w, .str n, .int d, .tup [.ref f, .ref pl, .ref ho]] S Q := by
  rw [e_wrow_of]
  refine seq_i ?_
  simp (config := {implicitDefEqProofs := false, proj := false}) only [nx_mk, rt_mk, bk_mk, ct_mk, eVar, eC, eOp, eIf, eTup, eLst, eDict0, eDict, eSl, oNo, eCall, eCB, eM, eLc, eIsi2, aNil, aCons, pNil, pCons, tAndD, tOrD, tNotD, tsYes, gMns, gMod, gFdiv, gPow, gLe, gGt, gGe, gEq_ii, gEq_ss, gEq_bb, gEq_nn, gEq_ni, gEq_in, gEq_ns, gEq_sn, gEq_si, gEq_is, sAsg, nName, sRet, sRetN, sExpr, sIf, sNext, sBreak, sCont, sFor, getS, setS, wipeS, endsD, asKeys, toKey, List.length_cons, List.length_nil, List.set_cons_zero, List.set_cons_succ, List.set_nil, Nat.zero_add, Nat.reduceAdd, Option.some.injEq, exists_and_left, exists_eq_left', exists_eq_left, id_eq, if_true, if_false, ite_true, ite_false, Bool.not_true, Bool.not_false, Bool.false_eq_true, not_false_eq_true, not_true_eq_false, reduceCtorEq, true_and, and_true, ne_eq, decide_eq_true_eq, isiN, isiCls, List.mem_cons, String.reduceEq, String.reduceBEq, or_true, true_or, or_false, false_or, Bool.or_true, Bool.true_or, Bool.false_or, Bool.or_false, Bool.and_false, Bool.false_and, Bool.true_and, Bool.and_true, beq_self_eq_true, decide_true, decide_false, tTr_e, vTru_non, vTru_bl, vTru_int, vTru_str, vTru_tup, vTru_ref, oTru_l, oTru_d, tBl_e, vBl_bl, eNeg_e, vNeg_int, eChain_e, eAnd_e, eOr_e, eNot_e, oSome_e, vSome_int, gAdd_ii, gAdd_ss, gAdd_tt, gAdd_rr, gI_ii, gI0_ii, gMulA_ii, gMulA_ri, gMulA_ti, gLt_ii, gLt_ss, gLt2_ii, gLt2_ss, eTab_e, vTab_s, eGet2_e, vGetO_r, vGet2_s, gIs_n, gIs_b, isNon_n, isNon_b, isNon_i, isNon_s, isNon_t, isNon_r, gIx_r, oIx_li, oIx_ds, oIx_di, gIx_ti, gIx_fi, gIx_si, gSl_t, gSl_s, gSl_f, gSl_r, gIn_ss, gIn_t, gIn_r, oIn_l, oIn_ds, gLen_s, gLen_t, gLen_f, gLen_r, oLen_l, oLen_d, gAbs_i, gMax2_ii, gMin2_ii, gInt1_i, gInt1_b, gList_t, gList_f, gList_r, gTuple_t, gTuple_f, gTuple_r, gSum_r, gAll_r, gIsi_x, tyD_n, tyD_b, tyD_i, tyD_s, tyD_t, tyD_f, tyD_r, oTy_l, oTy_d, tyM_s, tyM_r, oTyM_l, oTyM_d, gAppend_r, gPop0_r, gPopAt_r, gClear_r, gReverse_r, gJoin_r, gUpper_s, gStr_i, gSorted_r, iSeq_e, vSeq_r, vSeq_f, vSeq_t, vSeq_s, iRange1_e, vRng1_i, iRange2_e, vRng2_i, iZipD_e, vZip_r, vZip_t, iEnumD_e, vEnum_r, nTupL_t, nTupL_r, nCons_c, nNil_n, sSub_e, vPut_r, oPut_ds, oPut_di, oPut_l]
  refine seq_i ?_
  simp (config := {implicitDefEqProofs := false, proj := false}) only [nx_mk, rt_mk, bk_mk, ct_mk, eVar, eC, eOp, eIf, eTup, eLst, eDict0, eDict, eSl, oNo, eCall, eCB, eM, eLc, eIsi2, aNil, aCons, pNil, pCons, tAndD, tOrD, tNotD, tsYes, gMns, gMod, gFdiv, gPow, gLe, gGt, gGe, gEq_ii, gEq_ss, gEq_bb, gEq_nn, gEq_ni, gEq_in, gEq_ns, gEq_sn, gEq_si, gEq_is, sAsg, nName, sRet, sRetN, sExpr, sIf, sNext, sBreak, sCont, sFor, getS, setS, wipeS, endsD, asKeys, toKey, List.length_cons, List.length_nil, List.set_cons_zero, List.set_cons_succ, List.set_nil, Nat.zero_add, Nat.reduceAdd, Option.some.injEq, exists_and_left, exists_eq_left', exists_eq_left, id_eq, if_true, if_false, ite_true, ite_false, Bool.not_true, Bool.not_false, Bool.false_eq_true, not_false_eq_true, not_true_eq_false, reduceCtorEq, true_and, and_true, ne_eq, decide_eq_true_eq, isiN, isiCls, List.mem_cons, String.reduceEq, String.reduceBEq, or_true, true_or, or_false, false_or, Bool.or_true, Bool.true_or, Bool.false_or, Bool.or_false, Bool.and_false, Bool.false_and, Bool.true_and, Bool.and_true, beq_self_eq_true, decide_true, decide_false, tTr_e, vTru_non, vTru_bl, vTru_int, vTru_str, vTru_tup, vTru_ref, oTru_l, oTru_d, tBl_e, vBl_bl, eNeg_e, vNeg_int, eChain_e, eAnd_e, eOr_e, eNot_e, oSome_e, vSome_int, gAdd_ii, gAdd_ss, gAdd_tt, gAdd_rr, gI_ii, gI0_ii, gMulA_ii, gMulA_ri, gMulA_ti, gLt_ii, gLt_ss, gLt2_ii, gLt2_ss, eTab_e, vTab_s, eGet2_e, vGetO_r, vGet2_s, gIs_n, gIs_b, isNon_n, isNon_b, isNon_i, isNon_s, isNon_t, isNon_r, gIx_r, oIx_li, oIx_ds, oIx_di, gIx_ti, gIx_fi, gIx_si, gSl_t, gSl_s, gSl_f, gSl_r, gIn_ss, gIn_t, gIn_r, oIn_l, oIn_ds, gLen_s, gLen_t, gLen_f, gLen_r, oLen_l, oLen_d, gAbs_i, gMax2_ii, gMin2_ii, gInt1_i, gInt1_b, gList_t, gList_f, gList_r, gTuple_t, gTuple_f, gTuple_r, gSum_r, gAll_r, gIsi_x, tyD_n, tyD_b, tyD_i, tyD_s, tyD_t, tyD_f, tyD_r, oTy_l, oTy_d, tyM_s, tyM_r, oTyM_l, oTyM_d, gAppend_r, gPop0_r, gPopAt_r, gClear_r, gReverse_r, gJoin_r, gUpper_s, gStr_i, gSorted_r, iSeq_e, vSeq_r, vSeq_f, vSeq_t, vSeq_s, iRange1_e, vRng1_i, iRange2_e, vRng2_i, iZipD_e, vZip_r, vZip_t, iEnumD_e, vEnum_r, nTupL_t, nTupL_r, nCons_c, nNil_n, sSub_e, vPut_r, oPut_ds, oPut_di, oPut_l, tp.at_, List.length_map]
  refine take_spec h (by omega) (by omega) (log_small (by omega) (by omega)) fun j1 S1 a1 b1 p1 g1 => ?_
  rw [(tp.kp g1).at_, oIx_li]
  obtain ⟨la, ela, _⟩ := get_str (zs := ps) a1 (by omega)
  refine ⟨_, ela, ?_⟩
  simp (config := {implicitDefEqProofs := false, proj := false}) only [nx_mk, rt_mk, bk_mk, ct_mk, eVar, eC, eOp, eIf, eTup, eLst, eDict0, eDict, eSl, oNo, eCall, eCB, eM, eLc, eIsi2, aNil, aCons, pNil, pCons, tAndD, tOrD, tNotD, tsYes, gMns, gMod, gFdiv, gPow, gLe, gGt, gGe, gEq_ii, gEq_ss, gEq_bb, gEq_nn, gEq_ni, gEq_in, gEq_ns, gEq_sn, gEq_si, gEq_is, sAsg, nName, sRet, sRetN, sExpr, sIf, sNext, sBreak, sCont, sFor, getS, setS, wipeS, endsD, asKeys, toKey, List.length_cons, List.length_nil, List.set_cons_zero, List.set_cons_succ, List.set_nil, Nat.zero_add, Nat.reduceAdd, Option.some.injEq, exists_and_left, exists_eq_left', exists_eq_left, id_eq, if_true, if_false, ite_true, ite_false, Bool.not_true, Bool.not_false, Bool.false_eq_true, not_false_eq_true, not_true_eq_false, reduceCtorEq, true_and, and_true, ne_eq, decide_eq_true_eq, isiN, isiCls, List.mem_cons, String.reduceEq, String.reduceBEq, or_true, true_or, or_false, false_or, Bool.or_true, Bool.true_or, Bool.false_or, Bool.or_false, Bool.and_false, Bool.false_and, Bool.true_and, Bool.and_true, beq_self_eq_true, decide_true, decide_false, tTr_e, vTru_non, vTru_bl, vTru_int, vTru_str, vTru_tup, vTru_ref, oTru_l, oTru_d, tBl_e, vBl_bl, eNeg_e, vNeg_int, eChain_e, eAnd_e, eOr_e, eNot_e, oSome_e, vSome_int, gAdd_ii, gAdd_ss, gAdd_tt, gAdd_rr, gI_ii, gI0_ii, gMulA_ii, gMulA_ri, gMulA_ti, gLt_ii, gLt_ss, gLt2_ii, gLt2_ss, eTab_e, vTab_s, eGet2_e, vGetO_r, vGet2_s, gIs_n, gIs_b, isNon_n, isNon_b, isNon_i, isNon_s, isNon_t, isNon_r, gIx_r, oIx_li, oIx_ds, oIx_di, gIx_ti, gIx_fi, gIx_si, gSl_t, gSl_s, gSl_f, gSl_r, gIn_ss, gIn_t, gIn_r, oIn_l, oIn_ds, gLen_s, gLen_t, gLen_f, gLen_r, oLen_l, oLen_d, gAbs_i, gMax2_ii, gMin2_ii, gInt1_i, gInt1_b, gList_t, gList_f, gList_r, gTuple_t, gTuple_f, gTuple_r, gSum_r, gAll_r, gIsi_x, tyD_n, tyD_b, tyD_i, tyD_s, tyD_t, tyD_f, tyD_r, oTy_l, oTy_d, tyM_s, tyM_r, oTyM_l, oTyM_d, gAppend_r, gPop0_r, gPopAt_r, gClear_r, gReverse_r, gJoin_r, gUpper_s, gStr_i, gSorted_r, iSeq_e, vSeq_r, vSeq_f, vSeq_t, vSeq_s, iRange1_e, vRng1_i, iRange2_e, vRng2_i, iZipD_e, vZip_r, vZip_t, iEnumD_e, vEnum_r, nTupL_t, nTupL_r, nCons_c, nNil_n, sSub_e, vPut_r, oPut_ds, oPut_di, oPut_l, t_wrow_of_3]
  refine seq_i ?_
  simp (config := {implicitDefEqProofs := false, proj := false}) only [nx_mk, rt_mk, bk_mk, ct_mk, eVar, eC, eOp, eIf, eTup, eLst, eDict0, eDict, eSl, oNo, eCall, eCB, eM, eLc, eIsi2, aNil, aCons, pNil, pCons, tAndD, tOrD, tNotD, tsYes, gMns, gMod, gFdiv, gPow, gLe, gGt, gGe, gEq_ii, gEq_ss, gEq_bb, gEq_nn, gEq_ni, gEq_in, gEq_ns, gEq_sn, gEq_si, gEq_is, sAsg, nName, sRet, sRetN, sExpr, sIf, sNext, sBreak, sCont, sFor, getS, setS, wipeS, endsD, asKeys, toKey, List.length_cons, List.length_nil, List.set_cons_zero, List.set_cons_succ, List.set_nil, Nat.zero_add, Nat.reduceAdd, Option.some.injEq, exists_and_left, exists_eq_left', exists_eq_left, id_eq, if_true, if_false, ite_true, ite_false, Bool.not_true, Bool.not_false, Bool.false_eq_true, not_false_eq_true, not_true_eq_false, reduceCtorEq, true_and, and_true, ne_eq, decide_eq_true_eq, isiN, isiCls, List.mem_cons, String.reduceEq, String.reduceBEq, or_true, true_or, or_false, false_or, Bool.or_true, Bool.true_or, Bool.false_or, Bool.or_false, Bool.and_false, Bool.false_and, Bool.true_and, Bool.and_true, beq_self_eq_true, decide_true, decide_false, tTr_e, vTru_non, vTru_bl, vTru_int, vTru_str, vTru_tup, vTru_ref, oTru_l, oTru_d, tBl_e, vBl_bl, eNeg_e, vNeg_int, eChain_e, eAnd_e, eOr_e, eNot_e, oSome_e, vSome_int, gAdd_ii, gAdd_ss, gAdd_tt, gAdd_rr, gI_ii, gI0_ii, gMulA_ii, gMulA_ri, gMulA_ti, gLt_ii, gLt_ss, gLt2_ii, gLt2_ss, eTab_e, vTab_s, eGet2_e, vGetO_r, vGet2_s, gIs_n, gIs_b, isNon_n, isNon_b, isNon_i, isNon_s, isNon_t, isNon_r, gIx_r, oIx_li, oIx_ds, oIx_di, gIx_ti, gIx_fi, gIx_si, gSl_t, gSl_s, gSl_f, gSl_r, gIn_ss, gIn_t, gIn_r, oIn_l, oIn_ds, gLen_s, gLen_t, gLen_f, gLen_r, oLen_l, oLen_d, gAbs_i, gMax2_ii, gMin2_ii, gInt1_i, gInt1_b, gList_t, gList_f, gList_r, gTuple_t, gTuple_f, gTuple_r, gSum_r, gAll_r, gIsi_x, tyD_n, tyD_b, tyD_i, tyD_s, tyD_t, tyD_f, tyD_r, oTy_l, oTy_d, tyM_s, tyM_r, oTyM_l, oTyM_d, gAppend_r, gPop0_r, gPopAt_r, gClear_r, gReverse_r, gJoin_r, gUpper_s, gStr_i, gSorted_r, iSeq_e, vSeq_r, vSeq_f, vSeq_t, vSeq_s, iRange1_e, vRng1_i, iRange2_e, vRng2_i, iZipD_e, vZip_r, vZip_t, iEnumD_e, vEnum_r, nTupL_t, nTupL_r, nCons_c, nNil_n, sSub_e, vPut_r, oPut_ds, oPut_di, oPut_l, (th.kp g1).at_, List.length_map]
  refine take_spec p1 (by omega) (by omega) (log_small (by omega) (by omega)) fun j2 S2 a2 b2 p2 g2 => ?_
  simp (config := {implicitDefEqProofs := false, proj := false}) only [nx_mk, rt_mk, bk_mk, ct_mk, eVar, eC, eOp, eIf, eTup, eLst, eDict0, eDict, eSl, oNo, eCall, eCB, eM, eLc, eIsi2, aNil, aCons, pNil, pCons, tAndD, tOrD, tNotD, tsYes, gMns, gMod, gFdiv, gPow, gLe, gGt, gGe, gEq_ii, gEq_ss, gEq_bb, gEq_nn, gEq_ni, gEq_in, gEq_ns, gEq_sn, gEq_si, gEq_is, sAsg, nName, sRet, sRetN, sExpr, sIf, sNext, sBreak, sCont, sFor, getS, setS, wipeS, endsD, asKeys, toKey, List.length_cons, List.length_nil, List.set_cons_zero, List.set_cons_succ, List.set_nil, Nat.zero_add, Nat.reduceAdd, Option.some.injEq, exists_and_left, exists_eq_left', exists_eq_left, id_eq, if_true, if_false, ite_true, ite_false, Bool.not_true, Bool.not_false, Bool.false_eq_true, not_false_eq_true, not_true_eq_false, reduceCtorEq, true_and, and_true, ne_eq, decide_eq_true_eq, isiN, isiCls, List.mem_cons, String.reduceEq, String.reduceBEq, or_true, true_or, or_false, false_or, Bool.or_true, Bool.true_or, Bool.false_or, Bool.or_false, Bool.and_false, Bool.false_and, Bool.true_and, Bool.and_true, beq_self_eq_true, decide_true, decide_false, tTr_e, vTru_non, vTru_bl, vTru_int, vTru_str, vTru_tup, vTru_ref, oTru_l, oTru_d, tBl_e, vBl_bl, eNeg_e, vNeg_int, eChain_e, eAnd_e, eOr_e, eNot_e, oSome_e, vSome_int, gAdd_ii, gAdd_ss, gAdd_tt, gAdd_rr, gI_ii, gI0_ii, gMulA_ii, gMulA_ri, gMulA_ti, gLt_ii, gLt_ss, gLt2_ii, gLt2_ss, eTab_e, vTab_s, eGet2_e, vGetO_r, vGet2_s, gIs_n, gIs_b, isNon_n, isNon_b, isNon_i, isNon_s, isNon_t, isNon_r, gIx_r, oIx_li, oIx_ds, oIx_di, gIx_ti, gIx_fi, gIx_si, gSl_t, gSl_s, gSl_f, gSl_r, gIn_ss, gIn_t, gIn_r, oIn_l, oIn_ds, gLen_s, gLen_t, gLen_f, gLen_r, oLen_l, oLen_d, gAbs_i, gMax2_ii, gMin2_ii, gInt1_i, gInt1_b, gList_t, gList_f, gList_r, gTuple_t, gTuple_f, gTuple_r, gSum_r, gAll_r, gIsi_x, tyD_n, tyD_b, tyD_i, tyD_s, tyD_t, tyD_f, tyD_r, oTy_l, oTy_d, tyM_s, tyM_r, oTyM_l, oTyM_d, gAppend_r, gPop0_r, gPopAt_r, gClear_r, gReverse_r, gJoin_r, gUpper_s, gStr_i, gSorted_r, iSeq_e, vSeq_r, vSeq_f, vSeq_t, vSeq_s, iRange1_e, vRng1_i, iRange2_e, vRng2_i, iZipD_e, vZip_r, vZip_t, iEnumD_e, vEnum_r, nTupL_t, nTupL_r, nCons_c, nNil_n, sSub_e, vPut_r, oPut_ds, oPut_di, oPut_l, t_wrow_of_4]
  refine seq_i ?_
  have g2' := g1.trans g2
  simp (config := {implicitDefEqProofs := false, proj := false}) only [nx_mk, rt_mk, bk_mk, ct_mk, eVar, eC, eOp, eIf, eTup, eLst, eDict0, eDict, eSl, oNo, eCall, eCB, eM, eLc, eIsi2, aNil, aCons, pNil, pCons, tAndD, tOrD, tNotD, tsYes, gMns, gMod, gFdiv, gPow, gLe, gGt, gGe, gEq_ii, gEq_ss, gEq_bb, gEq_nn, gEq_ni, gEq_in, gEq_ns, gEq_sn, gEq_si, gEq_is, sAsg, nName, sRet, sRetN, sExpr, sIf, sNext, sBreak, sCont, sFor, getS, setS, wipeS, endsD, asKeys, toKey, List.length_cons, List.length_nil, List.set_cons_zero, List.set_cons_succ, List.set_nil, Nat.zero_add, Nat.reduceAdd, Option.some.injEq, exists_and_left, exists_eq_left', exists_eq_left, id_eq, if_true, if_false, ite_true, ite_false, Bool.not_true, Bool.not_false, Bool.false_eq_true, not_false_eq_true, not_true_eq_false, reduceCtorEq, true_and, and_true, ne_eq, decide_eq_true_eq, isiN, isiCls, List.mem_cons, String.reduceEq, String.reduceBEq, or_true, true_or, or_false, false_or, Bool.or_true, Bool.true_or, Bool.false_or, Bool.or_false, Bool.and_false, Bool.false_and, Bool.true_and, Bool.and_true, beq_self_eq_true, decide_true, decide_false, tTr_e, vTru_non, vTru_bl, vTru_int, vTru_str, vTru_tup, vTru_ref, oTru_l, oTru_d, tBl_e, vBl_bl, eNeg_e, vNeg_int, eChain_e, eAnd_e, eOr_e, eNot_e, oSome_e, vSome_int, gAdd_ii, gAdd_ss, gAdd_tt, gAdd_rr, gI_ii, gI0_ii, gMulA_ii, gMulA_ri, gMulA_ti, gLt_ii, gLt_ss, gLt2_ii, gLt2_ss, eTab_e, vTab_s, eGet2_e, vGetO_r, vGet2_s, gIs_n, gIs_b, isNon_n, isNon_b, isNon_i, isNon_s, isNon_t, isNon_r, gIx_r, oIx_li, oIx_ds, oIx_di, gIx_ti, gIx_fi, gIx_si, gSl_t, gSl_s, gSl_f, gSl_r, gIn_ss, gIn_t, gIn_r, oIn_l, oIn_ds, gLen_s, gLen_t, gLen_f, gLen_r, oLen_l, oLen_d, gAbs_i, gMax2_ii, gMin2_ii, gInt1_i, gInt1_b, gList_t, gList_f, gList_r, gTuple_t, gTuple_f, gTuple_r, gSum_r, gAll_r, gIsi_x, tyD_n, tyD_b, tyD_i, tyD_s, tyD_t, tyD_f, tyD_r, oTy_l, oTy_d, tyM_s, tyM_r, oTyM_l, oTyM_d, gAppend_r, gPop0_r, gPopAt_r, gClear_r, gReverse_r, gJoin_r, gUpper_s, gStr_i, gSorted_r, iSeq_e, vSeq_r, vSeq_f, vSeq_t, vSeq_s, iRange1_e, vRng1_i, iRange2_e, vRng2_i, iZipD_e, vZip_r, vZip_t, iEnumD_e, vEnum_r, nTupL_t, nTupL_r, nCons_c, nNil_n, sSub_e, vPut_r, oPut_ds, oPut_di, oPut_l, (th.kp g2').at_]
  obtain ⟨hou, ehou, _⟩ := get_str (zs := hs) a2 (by omega)
  refine ⟨_, ehou, ?_⟩
  simp (config := {implicitDefEqProofs := false, proj := false}) only [nx_mk, rt_mk, bk_mk, ct_mk, eVar, eC, eOp, eIf, eTup, eLst, eDict0, eDict, eSl, oNo, eCall, eCB, eM, eLc, eIsi2, aNil, aCons, pNil, pCons, tAndD, tOrD, tNotD, tsYes, gMns, gMod, gFdiv, gPow, gLe, gGt, gGe, gEq_ii, gEq_ss, gEq_bb, gEq_nn, gEq_ni, gEq_in, gEq_ns, gEq_sn, gEq_si, gEq_is, sAsg, nName, sRet, sRetN, sExpr, sIf, sNext, sBreak, sCont, sFor, getS, setS, wipeS, endsD, asKeys, toKey, List.length_cons, List.length_nil, List.set_cons_zero, List.set_cons_succ, List.set_nil, Nat.zero_add, Nat.reduceAdd, Option.some.injEq, exists_and_left, exists_eq_left', exists_eq_left, id_eq, if_true, if_false, ite_true, ite_false, Bool.not_true, Bool.not_false, Bool.false_eq_true, not_false_eq_true, not_true_eq_false, reduceCtorEq, true_and, and_true, ne_eq, decide_eq_true_eq, isiN, isiCls, List.mem_cons, String.reduceEq, String.reduceBEq, or_true, true_or, or_false, false_or, Bool.or_true, Bool.true_or, Bool.false_or, Bool.or_false, Bool.and_false, Bool.false_and, Bool.true_and, Bool.and_true, beq_self_eq_true, decide_true, decide_false, tTr_e, vTru_non, vTru_bl, vTru_int, vTru_str, vTru_tup, vTru_ref, oTru_l, oTru_d, tBl_e, vBl_bl, eNeg_e, vNeg_int, eChain_e, eAnd_e, eOr_e, eNot_e, oSome_e, vSome_int, gAdd_ii, gAdd_ss, gAdd_tt, gAdd_rr, gI_ii, gI0_ii, gMulA_ii, gMulA_ri, gMulA_ti, gLt_ii, gLt_ss, gLt2_ii, gLt2_ss, eTab_e, vTab_s, eGet2_e, vGetO_r, vGet2_s, gIs_n, gIs_b, isNon_n, isNon_b, isNon_i, isNon_s, isNon_t, isNon_r, gIx_r, oIx_li, oIx_ds, oIx_di, gIx_ti, gIx_fi, gIx_si, gSl_t, gSl_s, gSl_f, gSl_r, gIn_ss, gIn_t, gIn_r, oIn_l, oIn_ds, gLen_s, gLen_t, gLen_f, gLen_r, oLen_l, oLen_d, gAbs_i, gMax2_ii, gMin2_ii, gInt1_i, gInt1_b, gList_t, gList_f, gList_r, gTuple_t, gTuple_f, gTuple_r, gSum_r, gAll_r, gIsi_x, tyD_n, tyD_b, tyD_i, tyD_s, tyD_t, tyD_f, tyD_r, oTy_l, oTy_d, tyM_s, tyM_r, oTyM_l, oTyM_d, gAppend_r, gPop0_r, gPopAt_r, gClear_r, gReverse_r, gJoin_r, gUpper_s, gStr_i, gSorted_r, iSeq_e, vSeq_r, vSeq_f, vSeq_t, vSeq_s, iRange1_e, vRng1_i, iRange2_e, vRng2_i, iZipD_e, vZip_r, vZip_t, iEnumD_e, vEnum_r, nTupL_t, nTupL_r, nCons_c, nNil_n, sSub_e, vPut_r, oPut_ds, oPut_di, oPut_l, t_wrow_of_5]
  refine seq_i ?_
  simp (config := {implicitDefEqProofs := false, proj := false}) only [nx_mk, rt_mk, bk_mk, ct_mk, eVar, eC, eOp, eIf, eTup, eLst, eDict0, eDict, eSl, oNo, eCall, eCB, eM, eLc, eIsi2, aNil, aCons, pNil, pCons, tAndD, tOrD, tNotD, tsYes, gMns, gMod, gFdiv, gPow, gLe, gGt, gGe, gEq_ii, gEq_ss, gEq_bb, gEq_nn, gEq_ni, gEq_in, gEq_ns, gEq_sn, gEq_si, gEq_is, sAsg, nName, sRet, sRetN, sExpr, sIf, sNext, sBreak, sCont, sFor, getS, setS, wipeS, endsD, asKeys, toKey, List.length_cons, List.length_nil, List.set_cons_zero, List.set_cons_succ, List.set_nil, Nat.zero_add, Nat.reduceAdd, Option.some.injEq, exists_and_left, exists_eq_left', exists_eq_left, id_eq, if_true, if_false, ite_true, ite_false, Bool.not_true, Bool.not_false, Bool.false_eq_true, not_false_eq_true, not_true_eq_false, reduceCtorEq, true_and, and_true, ne_eq, decide_eq_true_eq, isiN, isiCls, List.mem_cons, String.reduceEq, String.reduceBEq, or_true, true_or, or_false, false_or, Bool.or_true, Bool.true_or, Bool.false_or, Bool.or_false, Bool.and_false, Bool.false_and, Bool.true_and, Bool.and_true, beq_self_eq_true, decide_true, decide_false, tTr_e, vTru_non, vTru_bl, vTru_int, vTru_str, vTru_tup, vTru_ref, oTru_l, oTru_d, tBl_e, vBl_bl, eNeg_e, vNeg_int, eChain_e, eAnd_e, eOr_e, eNot_e, oSome_e, vSome_int, gAdd_ii, gAdd_ss, gAdd_tt, gAdd_rr, gI_ii, gI0_ii, gMulA_ii, gMulA_ri, gMulA_ti, gLt_ii, gLt_ss, gLt2_ii, gLt2_ss, eTab_e, vTab_s, eGet2_e, vGetO_r, vGet2_s, gIs_n, gIs_b, isNon_n, isNon_b, isNon_i, isNon_s, isNon_t, isNon_r, gIx_r, oIx_li, oIx_ds, oIx_di, gIx_ti, gIx_fi, gIx_si, gSl_t, gSl_s, gSl_f, gSl_r, gIn_ss, gIn_t, gIn_r, oIn_l, oIn_ds, gLen_s, gLen_t, gLen_f, gLen_r, oLen_l, oLen_d, gAbs_i, gMax2_ii, gMin2_ii, gInt1_i, gInt1_b, gList_t, gList_f, gList_r, gTuple_t, gTuple_f, gTuple_r, gSum_r, gAll_r, gIsi_x, tyD_n, tyD_b, tyD_i, tyD_s, tyD_t, tyD_f, tyD_r, oTy_l, oTy_d, tyM_s, tyM_r, oTyM_l, oTyM_d, gAppend_r, gPop0_r, gPopAt_r, gClear_r, gReverse_r, gJoin_r, gUpper_s, gStr_i, gSorted_r, iSeq_e, vSeq_r, vSeq_f, vSeq_t, vSeq_s, iRange1_e, vRng1_i, iRange2_e, vRng2_i, iZipD_e, vZip_r, vZip_t, iEnumD_e, vEnum_r, nTupL_t, nTupL_r, nCons_c, nNil_n, sSub_e, vPut_r, oPut_ds, oPut_di, oPut_l, (tf.kp g2').at_, List.length_map]
  refine take_spec p2 (by omega) (by omega) (log_small (by omega) (by omega)) fun j3 S3 a3 b3 p3 g3 => ?_
  have g3' := g2'.trans g3
  rw [(tf.kp g3').at_, oIx_li]
  obtain ⟨fie, efie, _⟩ := get_str (zs := fs) a3 (by omega)
  refine ⟨_, efie, ?_⟩
  simp (config := {implicitDefEqProofs := false, proj := false}) only [nx_mk, rt_mk, bk_mk, ct_mk, eVar, eC, eOp, eIf, eTup, eLst, eDict0, eDict, eSl, oNo, eCall, eCB, eM, eLc, eIsi2, aNil, aCons, pNil, pCons, tAndD, tOrD, tNotD, tsYes, gMns, gMod, gFdiv, gPow, gLe, gGt, gGe, gEq_ii, gEq_ss, gEq_bb, gEq_nn, gEq_ni, gEq_in, gEq_ns, gEq_sn, gEq_si, gEq_is, sAsg, nName, sRet, sRetN, sExpr, sIf, sNext, sBreak, sCont, sFor, getS, setS, wipeS, endsD, asKeys, toKey, List.length_cons, List.length_nil, List.set_cons_zero, List.set_cons_succ, List.set_nil, Nat.zero_add, Nat.reduceAdd, Option.some.injEq, exists_and_left, exists_eq_left', exists_eq_left, id_eq, if_true, if_false, ite_true, ite_false, Bool.not_true, Bool.not_false, Bool.false_eq_true, not_false_eq_true, not_true_eq_false, reduceCtorEq, true_and, and_true, ne_eq, decide_eq_true_eq, isiN, isiCls, List.mem_cons, String.reduceEq, String.reduceBEq, or_true, true_or, or_false, false_or, Bool.or_true, Bool.true_or, Bool.false_or, Bool.or_false, Bool.and_false, Bool.false_and, Bool.true_and, Bool.and_true, beq_self_eq_true, decide_true, decide_false, tTr_e, vTru_non, vTru_bl, vTru_int, vTru_str, vTru_tup, vTru_ref, oTru_l, oTru_d, tBl_e, vBl_bl, eNeg_e, vNeg_int, eChain_e, eAnd_e, eOr_e, eNot_e, oSome_e, vSome_int, gAdd_ii, gAdd_ss, gAdd_tt, gAdd_rr, gI_ii, gI0_ii, gMulA_ii, gMulA_ri, gMulA_ti, gLt_ii, gLt_ss, gLt2_ii, gLt2_ss, eTab_e, vTab_s, eGet2_e, vGetO_r, vGet2_s, gIs_n, gIs_b, isNon_n, isNon_b, isNon_i, isNon_s, isNon_t, isNon_r, gIx_r, oIx_li, oIx_ds, oIx_di, gIx_ti, gIx_fi, gIx_si, gSl_t, gSl_s, gSl_f, gSl_r, gIn_ss, gIn_t, gIn_r, oIn_l, oIn_ds, gLen_s, gLen_t, gLen_f, gLen_r, oLen_l, oLen_d, gAbs_i, gMax2_ii, gMin2_ii, gInt1_i, gInt1_b, gList_t, gList_f, gList_r, gTuple_t, gTuple_f, gTuple_r, gSum_r, gAll_r, gIsi_x, tyD_n, tyD_b, tyD_i, tyD_s, tyD_t, tyD_f, tyD_r, oTy_l, oTy_d, tyM_s, tyM_r, oTyM_l, oTyM_d, gAppend_r, gPop0_r, gPopAt_r, gClear_r, gReverse_r, gJoin_r, gUpper_s, gStr_i, gSorted_r, iSeq_e, vSeq_r, vSeq_f, vSeq_t, vSeq_s, iRange1_e, vRng1_i, iRange2_e, vRng2_i, iZipD_e, vZip_r, vZip_t, iEnumD_e, vEnum_r, nTupL_t, nTupL_r, nCons_c, nNil_n, sSub_e, vPut_r, oPut_ds, oPut_di, oPut_l, t_wrow_of_6]
  refine seq_i ?_
  simp (config := {implicitDefEqProofs := false, proj := false}) only [nx_mk, rt_mk, bk_mk, ct_mk, eVar, eC, eOp, eIf, eTup, eLst, eDict0, eDict, eSl, oNo, eCall, eCB, eM, eLc, eIsi2, aNil, aCons, pNil, pCons, tAndD, tOrD, tNotD, tsYes, gMns, gMod, gFdiv, gPow, gLe, gGt, gGe, gEq_ii, gEq_ss, gEq_bb, gEq_nn, gEq_ni, gEq_in, gEq_ns, gEq_sn, gEq_si, gEq_is, sAsg, nName, sRet, sRetN, sExpr, sIf, sNext, sBreak, sCont, sFor, getS, setS, wipeS, endsD, asKeys, toKey, List.length_cons, List.length_nil, List.set_cons_zero, List.set_cons_succ, List.set_nil, Nat.zero_add, Nat.reduceAdd, Option.some.injEq, exists_and_left, exists_eq_left', exists_eq_left, id_eq, if_true, if_false, ite_true, ite_false, Bool.not_true, Bool.not_false, Bool.false_eq_true, not_false_eq_true, not_true_eq_false, reduceCtorEq, true_and, and_true, ne_eq, decide_eq_true_eq, isiN, isiCls, List.mem_cons, String.reduceEq, String.reduceBEq, or_true, true_or, or_false, false_or, Bool.or_true, Bool.true_or, Bool.false_or, Bool.or_false, Bool.and_false, Bool.false_and, Bool.true_and, Bool.and_true, beq_self_eq_true, decide_true, decide_false, tTr_e, vTru_non, vTru_bl, vTru_int, vTru_str, vTru_tup, vTru_ref, oTru_l, oTru_d, tBl_e, vBl_bl, eNeg_e, vNeg_int, eChain_e, eAnd_e, eOr_e, eNot_e, oSome_e, vSome_int, gAdd_ii, gAdd_ss, gAdd_tt, gAdd_rr, gI_ii, gI0_ii, gMulA_ii, gMulA_ri, gMulA_ti, gLt_ii, gLt_ss, gLt2_ii, gLt2_ss, eTab_e, vTab_s, eGet2_e, vGetO_r, vGet2_s, gIs_n, gIs_b, isNon_n, isNon_b, isNon_i, isNon_s, isNon_t, isNon_r, gIx_r, oIx_li, oIx_ds, oIx_di, gIx_ti, gIx_fi, gIx_si, gSl_t, gSl_s, gSl_f, gSl_r, gIn_ss, gIn_t, gIn_r, oIn_l, oIn_ds, gLen_s, gLen_t, gLen_f, gLen_r, oLen_l, oLen_d, gAbs_i, gMax2_ii, gMin2_ii, gInt1_i, gInt1_b, gList_t, gList_f, gList_r, gTuple_t, gTuple_f, gTuple_r, gSum_r, gAll_r, gIsi_x, tyD_n, tyD_b, tyD_i, tyD_s, tyD_t, tyD_f, tyD_r, oTy_l, oTy_d, tyM_s, tyM_r, oTyM_l, oTyM_d, gAppend_r, gPop0_r, gPopAt_r, gClear_r, gReverse_r, gJoin_r, gUpper_s, gStr_i, gSorted_r, iSeq_e, vSeq_r, vSeq_f, vSeq_t, vSeq_s, iRange1_e, vRng1_i, iRange2_e, vRng2_i, iZipD_e, vZip_r, vZip_t, iEnumD_e, vEnum_r, nTupL_t, nTupL_r, nCons_c, nNil_n, sSub_e, vPut_r, oPut_ds, oPut_di, oPut_l]
  refine ⟨by decide, rfl, rfl, ?_⟩
  by_cases hw : ([D.str "part", D.str "join"].any fun z => eqF z (D.str w)) = true
  · rw [if_pos hw]
    refine seq_i ?_
    simp (config := {implicitDefEqProofs := false, proj := false}) only [nx_mk, rt_mk, bk_mk, ct_mk, eVar, eC, eOp, eIf, eTup, eLst, eDict0, eDict, eSl, oNo, eCall, eCB, eM, eLc, eIsi2, aNil, aCons, pNil, pCons, tAndD, tOrD, tNotD, tsYes, gMns, gMod, gFdiv, gPow, gLe, gGt, gGe, gEq_ii, gEq_ss, gEq_bb, gEq_nn, gEq_ni, gEq_in, gEq_ns, gEq_sn, gEq_si, gEq_is, sAsg, nName, sRet, sRetN, sExpr, sIf, sNext, sBreak, sCont, sFor, getS, setS, wipeS, endsD, asKeys, toKey, List.length_cons, List.length_nil, List.set_cons_zero, List.set_cons_succ, List.set_nil, Nat.zero_add, Nat.reduceAdd, Option.some.injEq, exists_and_left, exists_eq_left', exists_eq_left, id_eq, if_true, if_false, ite_true, ite_false, Bool.not_true, Bool.not_false, Bool.false_eq_true, not_false_eq_true, not_true_eq_false, reduceCtorEq, true_and, and_true, ne_eq, decide_eq_true_eq, isiN, isiCls, List.mem_cons, String.reduceEq, String.reduceBEq, or_true, true_or, or_false, false_or, Bool.or_true, Bool.true_or, Bool.false_or, Bool.or_false, Bool.and_false, Bool.false_and, Bool.true_and, Bool.and_true, beq_self_eq_true, decide_true, decide_false, tTr_e, vTru_non, vTru_bl, vTru_int, vTru_str, vTru_tup, vTru_ref, oTru_l, oTru_d, tBl_e, vBl_bl, eNeg_e, vNeg_int, eChain_e, eAnd_e, eOr_e, eNot_e, oSome_e, vSome_int, gAdd_ii, gAdd_ss, gAdd_tt, gAdd_rr, gI_ii, gI0_ii, gMulA_ii, gMulA_ri, gMulA_ti, gLt_ii, gLt_ss, gLt2_ii, gLt2_ss, eTab_e, vTab_s, eGet2_e, vGetO_r, vGet2_s, gIs_n, gIs_b, isNon_n, isNon_b, isNon_i, isNon_s, isNon_t, isNon_r, gIx_r, oIx_li, oIx_ds, oIx_di, gIx_ti, gIx_fi, gIx_si, gSl_t, gSl_s, gSl_f, gSl_r, gIn_ss, gIn_t, gIn_r, oIn_l, oIn_ds, gLen_s, gLen_t, gLen_f, gLen_r, oLen_l, oLen_d, gAbs_i, gMax2_ii, gMin2_ii, gInt1_i, gInt1_b, gList_t, gList_f, gList_r, gTuple_t, gTuple_f, gTuple_r, gSum_r, gAll_r, gIsi_x, tyD_n, tyD_b, tyD_i, tyD_s, tyD_t, tyD_f, tyD_r, oTy_l, oTy_d, tyM_s, tyM_r, oTyM_l, oTyM_d, gAppend_r, gPop0_r, gPopAt_r, gClear_r, gReverse_r, gJoin_r, gUpper_s, gStr_i, gSorted_r, iSeq_e, vSeq_r, vSeq_f, vSeq_t, vSeq_s, iRange1_e, vRng1_i, iRange2_e, vRng2_i, iZipD_e, vZip_r, vZip_t, iEnumD_e, vEnum_r, nTupL_t, nTupL_r, nCons_c, nNil_n, sSub_e, vPut_r, oPut_ds, oPut_di, oPut_l]
    refine take_spec p3 (by omega) (by decide) (by decide) fun j4 S4 a4 b4 p4 g4 => ?_
    have b4 : j4 < 5 := b4
    refine ⟨by decide, fun r hr => ?_⟩
    refine take_spec (p4.new hr) (by omega) (by decide) (by decide) fun j5 S5 a5 b5 p5 g5 => ?_
    have b5 : j5 < 3 := b5
    have nr := (p4.ne hr).1
    rw [g5 _ _ nr updS_same, oIx_li]
    have hpick : ∃ m : Nat, atI [D.int 2, D.int 6, D.int (2 + j4)] j5 = some (.int (m : Nat)) ∧ m ≤ 6 := by
      obtain ⟨j, rfl⟩ : ∃ j : Nat, j5 = (j : Nat) := ⟨j5.toNat, by omega⟩
      match j, b5 with
      | 0, _ => exact ⟨2, rfl, by omega⟩
      | 1, _ => exact ⟨6, rfl, by omega⟩
      | 2, _ => exact ⟨(2 + j4).toNat, by rw [show (((2 + j4).toNat : Nat) : Int) = 2 + j4 by omega]; rfl, by omega⟩
      | j + 3, h => exact absurd h (by omega)
    obtain ⟨m, em, hm⟩ := hpick
    refine ⟨_, em, ?_⟩
    have g5' := g3'.trans (g4.trans ((Kp.new hr).trans g5))
    refine some_spec p5 (by omega) (tp.kp g5') hp hm fun c zs S6 ec ncp hzl p6 g6 => ?_
    refine row8 rfl p6 (by omega) (th.kp (g5'.trans g6)) hl ec ncp (by omega) fun rest S' hn hpn hg => q rest S' hn (hpn.mono (by omega)) ((g5'.trans g6).trans hg)
  · rw [if_neg hw]
    exact row18 rfl p3 (by omega) (th.kp g3') hl fun rest S' hn hpn hg => q rest S' hn (hpn.mono (by omega)) (g3'.trans hg)
end LW
namespace LW
open PySem L2 DL
def tens : List Str := ["part", "join", "forfeit", "measure", "mend", "alone", "breach", "view", "part", "join"]
theorem tens_words : ∀ z ∈ tens, z ∈ words := by decide +kernel
theorem row_spec {p pc f pl ho : Addr} {b : Nat} {n : Str} {d : Int} {fs ps hs : List Str} {S : Sto} {Q : DK} (h : Pen S p pc b) (hb : b + 300 ≤ 100000) (tf : Txs S p f fs) (tp : Txs S p pl ps) (th : Txs S p ho hs) (hf : 0 < fs.length) (hf2 : fs.length ≤ 10) (hp : ps.length = 10) (hl : hs.length = 5) (d0 : 0 ≤ d) (d1 : d ≤ 9999)
    (q : ∀ (r : Rw) S', r.ok → r.n = n → r.d = d → Pen S' p pc (b + 60) → Kp p S S' → Q r.D S') : m_wrow [.ref p, .str n, .int d, .tup [.ref f, .ref pl, .ref ho]] S Q := by
  rw [e_wrow]
  refine seq_i ?_
  simp (config := {implicitDefEqProofs := false, proj := false}) only [nx_mk, rt_mk, bk_mk, ct_mk, eVar, eC, eOp, eIf, eTup, eLst, eDict0, eDict, eSl, oNo, eCall, eCB, eM, eLc, eIsi2, aNil, aCons, pNil, pCons, tAndD, tOrD, tNotD, tsYes, gMns, gMod, gFdiv, gPow, gLe, gGt, gGe, gEq_ii, gEq_ss, gEq_bb, gEq_nn, gEq_ni, gEq_in, gEq_ns, gEq_sn, gEq_si, gEq_is, sAsg, nName, sRet, sRetN, sExpr, sIf, sNext, sBreak, sCont, sFor, getS, setS, wipeS, endsD, asKeys, toKey, List.length_cons, List.length_nil, List.set_cons_zero, List.set_cons_succ, List.set_nil, Nat.zero_add, Nat.reduceAdd, Option.some.injEq, exists_and_left, exists_eq_left', exists_eq_left, id_eq, if_true, if_false, ite_true, ite_false, Bool.not_true, Bool.not_false, Bool.false_eq_true, not_false_eq_true, not_true_eq_false, reduceCtorEq, true_and, and_true, ne_eq, decide_eq_true_eq, isiN, isiCls, List.mem_cons, String.reduceEq, String.reduceBEq, or_true, true_or, or_false, false_or, Bool.or_true, Bool.true_or, Bool.false_or, Bool.or_false, Bool.and_false, Bool.false_and, Bool.true_and, Bool.and_true, beq_self_eq_true, decide_true, decide_false, tTr_e, vTru_non, vTru_bl, vTru_int, vTru_str, vTru_tup, vTru_ref, oTru_l, oTru_d, tBl_e, vBl_bl, eNeg_e, vNeg_int, eChain_e, eAnd_e, eOr_e, eNot_e, oSome_e, vSome_int, gAdd_ii, gAdd_ss, gAdd_tt, gAdd_rr, gI_ii, gI0_ii, gMulA_ii, gMulA_ri, gMulA_ti, gLt_ii, gLt_ss, gLt2_ii, gLt2_ss, eTab_e, vTab_s, eGet2_e, vGetO_r, vGet2_s, gIs_n, gIs_b, isNon_n, isNon_b, isNon_i, isNon_s, isNon_t, isNon_r, gIx_r, oIx_li, oIx_ds, oIx_di, gIx_ti, gIx_fi, gIx_si, gSl_t, gSl_s, gSl_f, gSl_r, gIn_ss, gIn_t, gIn_r, oIn_l, oIn_ds, gLen_s, gLen_t, gLen_f, gLen_r, oLen_l, oLen_d, gAbs_i, gMax2_ii, gMin2_ii, gInt1_i, gInt1_b, gList_t, gList_f, gList_r, gTuple_t, gTuple_f, gTuple_r, gSum_r, gAll_r, gIsi_x, tyD_n, tyD_b, tyD_i, tyD_s, tyD_t, tyD_f, tyD_r, oTy_l, oTy_d, tyM_s, tyM_r, oTyM_l, oTyM_d, gAppend_r, gPop0_r, gPopAt_r, gClear_r, gReverse_r, gJoin_r, gUpper_s, gStr_i, gSorted_r, iSeq_e, vSeq_r, vSeq_f, vSeq_t, vSeq_s, iRange1_e, vRng1_i, iRange2_e, vRng2_i, iZipD_e, vZip_r, vZip_t, iEnumD_e, vEnum_r, nTupL_t, nTupL_r, nCons_c, nNil_n, sSub_e, vPut_r, oPut_ds, oPut_di, oPut_l]
  refine ⟨by decide, fun c hc => ?_⟩
  have ncp := (h.ne hc).1
  generalize hS1 : updS S c _ = S1
  have c1 : S1 c = some (.lst (tens.map .str)) := by rw [← hS1, updS_same]; rfl
  have p1 : Pen S1 p pc b := by rw [← hS1]; exact h.new hc
  have g1 : Kp p S S1 := by rw [← hS1]; exact .new hc
  simp (config := {implicitDefEqProofs := false, proj := false}) only [nx_mk, rt_mk, bk_mk, ct_mk, eVar, eC, eOp, eIf, eTup, eLst, eDict0, eDict, eSl, oNo, eCall, eCB, eM, eLc, eIsi2, aNil, aCons, pNil, pCons, tAndD, tOrD, tNotD, tsYes, gMns, gMod, gFdiv, gPow, gLe, gGt, gGe, gEq_ii, gEq_ss, gEq_bb, gEq_nn, gEq_ni, gEq_in, gEq_ns, gEq_sn, gEq_si, gEq_is, sAsg, nName, sRet, sRetN, sExpr, sIf, sNext, sBreak, sCont, sFor, getS, setS, wipeS, endsD, asKeys, toKey, List.length_cons, List.length_nil, List.set_cons_zero, List.set_cons_succ, List.set_nil, Nat.zero_add, Nat.reduceAdd, Option.some.injEq, exists_and_left, exists_eq_left', exists_eq_left, id_eq, if_true, if_false, ite_true, ite_false, Bool.not_true, Bool.not_false, Bool.false_eq_true, not_false_eq_true, not_true_eq_false, reduceCtorEq, true_and, and_true, ne_eq, decide_eq_true_eq, isiN, isiCls, List.mem_cons, String.reduceEq, String.reduceBEq, or_true, true_or, or_false, false_or, Bool.or_true, Bool.true_or, Bool.false_or, Bool.or_false, Bool.and_false, Bool.false_and, Bool.true_and, Bool.and_true, beq_self_eq_true, decide_true, decide_false, tTr_e, vTru_non, vTru_bl, vTru_int, vTru_str, vTru_tup, vTru_ref, oTru_l, oTru_d, tBl_e, vBl_bl, eNeg_e, vNeg_int, eChain_e, eAnd_e, eOr_e, eNot_e, oSome_e, vSome_int, gAdd_ii, gAdd_ss, gAdd_tt, gAdd_rr, gI_ii, gI0_ii, gMulA_ii, gMulA_ri, gMulA_ti, gLt_ii, gLt_ss, gLt2_ii, gLt2_ss, eTab_e, vTab_s, eGet2_e, vGetO_r, vGet2_s, gIs_n, gIs_b, isNon_n, isNon_b, isNon_i, isNon_s, isNon_t, isNon_r, gIx_r, oIx_li, oIx_ds, oIx_di, gIx_ti, gIx_fi, gIx_si, gSl_t, gSl_s, gSl_f, gSl_r, gIn_ss, gIn_t, gIn_r, oIn_l, oIn_ds, gLen_s, gLen_t, gLen_f, gLen_r, oLen_l, oLen_d, gAbs_i, gMax2_ii, gMin2_ii, gInt1_i, gInt1_b, gList_t, gList_f, gList_r, gTuple_t, gTuple_f, gTuple_r, gSum_r, gAll_r, gIsi_x, tyD_n, tyD_b, tyD_i, tyD_s, tyD_t, tyD_f, tyD_r, oTy_l, oTy_d, tyM_s, tyM_r, oTyM_l, oTyM_d, gAppend_r, gPop0_r, gPopAt_r, gClear_r, gReverse_r, gJoin_r, gUpper_s, gStr_i, gSorted_r, iSeq_e, vSeq_r, vSeq_f, vSeq_t, vSeq_s, iRange1_e, vRng1_i, iRange2_e, vRng2_i, iZipD_e, vZip_r, vZip_t, iEnumD_e, vEnum_r, nTupL_t, nTupL_r, nCons_c, nNil_n, sSub_e, vPut_r, oPut_ds, oPut_di, oPut_l, t_wrow_2]
  refine take_spec p1 (by omega) (by decide) (by decide) fun j S2 a2 b2 p2 g2 => ?_
  have b2 : j < 10 := b2
  rw [g2 _ _ ncp c1, oIx_li]
  obtain ⟨w, ew, hw⟩ := get_str (zs := tens) a2 b2
  refine ⟨_, ew, ?_⟩
  have g := g1.trans g2
  refine rowof_spec p2 (by omega) (tf.kp g) (tp.kp g) (th.kp g) hf hf2 hp hl fun rest S' hn hpn hg => ?_
  exact q ⟨w, n, d, rest⟩ S' ⟨tens_words w hw, d0, d1, hn⟩ rfl rfl (hpn.mono (by omega)) (g.trans hg)
end LW
namespace LW
open PySem L2 DL
abbrev lEnv (s : D) (p e5 e6 : Addr) (many : Int) (xs : List D) (u3 u7 u8 u9 u10 u11 u12 u13 : Option D) : DL.Env :=
  [some s, some (.ref p), some (.int many), u3, some (.tup xs), some (.ref e5), some (.ref e6), u7, u8, u9, u10, u11, u12, u13]
theorem bothRw {a c : Rw} {S : Sto} {Q : DK} (ha : a.ok) (hc : c.ok) (hn : a.n ≠ c.n) (q : ∀ S', Gr S S' → Q (.bl true) S') : m_wboth_right [a.D, c.D] S Q := both_spec ha.hw hc.hw hn q
theorem law14 {s : D} {p e5 e6 : Addr} {many : Int} {xs : List D} {u3 u7 u8 u9 u10 u11 u12 u13 : Option D} {rows others : List Rw} {S : Sto} {Q : DK} {D0 : DEnds} (hQ : D0.rt = Q)
    (h5 : S e5 = some (.lst (rows.map Rw.D))) (h6 : S e6 = some (.lst (others.map Rw.D))) (o5 : ∀ r ∈ rows, r.ok) (o6 : ∀ r ∈ others, r.ok) (un : ∀ o ∈ others, ∀ r ∈ rows, o.n ≠ r.n) (hl : rows.length ≤ 44)
    (q : ∀ S', Q (.bl true) S') : t_law_14 D0 (lEnv s p e5 e6 many xs u3 u7 u8 u9 u10 u11 u12 u13) S := by
  refine seq_i ?_
  simp (config := {implicitDefEqProofs := false, proj := false}) only [nx_mk, rt_mk, bk_mk, ct_mk, eVar, eC, eOp, eIf, eTup, eLst, eDict0, eDict, eSl, oNo, eCall, eCB, eM, eLc, eIsi2, aNil, aCons, pNil, pCons, tAndD, tOrD, tNotD, tsYes, gMns, gMod, gFdiv, gPow, gLe, gGt, gGe, gEq_ii, gEq_ss, gEq_bb, gEq_nn, gEq_ni, gEq_in, gEq_ns, gEq_sn, gEq_si, gEq_is, sAsg, nName, sRet, sRetN, sExpr, sIf, sNext, sBreak, sCont, sFor, getS, setS, wipeS, endsD, asKeys, toKey, List.length_cons, List.length_nil, List.set_cons_zero, List.set_cons_succ, List.set_nil, Nat.zero_add, Nat.reduceAdd, Option.some.injEq, exists_and_left, exists_eq_left', exists_eq_left, id_eq, if_true, if_false, ite_true, ite_false, Bool.not_true, Bool.not_false, Bool.false_eq_true, not_false_eq_true, not_true_eq_false, reduceCtorEq, true_and, and_true, ne_eq, decide_eq_true_eq, isiN, isiCls, List.mem_cons, String.reduceEq, String.reduceBEq, or_true, true_or, or_false, false_or, Bool.or_true, Bool.true_or, Bool.false_or, Bool.or_false, Bool.and_false, Bool.false_and, Bool.true_and, Bool.and_true, beq_self_eq_true, decide_true, decide_false, tTr_e, vTru_non, vTru_bl, vTru_int, vTru_str, vTru_tup, vTru_ref, oTru_l, oTru_d, tBl_e, vBl_bl, eNeg_e, vNeg_int, eChain_e, eAnd_e, eOr_e, eNot_e, oSome_e, vSome_int, gAdd_ii, gAdd_ss, gAdd_tt, gAdd_rr, gI_ii, gI0_ii, gMulA_ii, gMulA_ri, gMulA_ti, gLt_ii, gLt_ss, gLt2_ii, gLt2_ss, eTab_e, vTab_s, eGet2_e, vGetO_r, vGet2_s, gIs_n, gIs_b, isNon_n, isNon_b, isNon_i, isNon_s, isNon_t, isNon_r, gIx_r, oIx_li, oIx_ds, oIx_di, gIx_ti, gIx_fi, gIx_si, gSl_t, gSl_s, gSl_f, gSl_r, gIn_ss, gIn_t, gIn_r, oIn_l, oIn_ds, gLen_s, gLen_t, gLen_f, gLen_r, oLen_l, oLen_d, gAbs_i, gMax2_ii, gMin2_ii, gInt1_i, gInt1_b, gList_t, gList_f, gList_r, gTuple_t, gTuple_f, gTuple_r, gSum_r, gAll_r, gIsi_x, tyD_n, tyD_b, tyD_i, tyD_s, tyD_t, tyD_f, tyD_r, oTy_l, oTy_d, tyM_s, tyM_r, oTyM_l, oTyM_d, gAppend_r, gPop0_r, gPopAt_r, gClear_r, gReverse_r, gJoin_r, gUpper_s, gStr_i, gSorted_r, iSeq_e, vSeq_r, vSeq_f, vSeq_t, vSeq_s, iRange1_e, vRng1_i, iRange2_e, vRng2_i, iZipD_e, vZip_r, vZip_t, iEnumD_e, vEnum_r, nTupL_t, nTupL_r, nCons_c, nNil_n, sSub_e, vPut_r, oPut_ds, oPut_di, oPut_l]
  refine ⟨_, h6, ?_⟩
  refine forL_inv _ (fun i σ S' => (∃ u8 u13, σ = lEnv s p e5 e6 many xs u3 u7 u8 u9 u10 u11 u12 u13) ∧ Gr S S') (fun i σ S' hi => hi.2 _ _ h6) (fun i x σ S' N hx hI hN => ?turn) (fun σ S' hI => ?fin) ⟨⟨_, _, rfl⟩, .refl⟩
  case turn =>
    obtain ⟨⟨u8, u13, rfl⟩, g⟩ := hI
    rw [List.getElem?_map] at hx
    obtain ⟨o, ho, rfl⟩ := Option.map_eq_some_iff.mp hx
    have hom := List.mem_of_getElem? ho
    simp (config := {implicitDefEqProofs := false, proj := false}) only [nx_mk, rt_mk, bk_mk, ct_mk, eVar, eC, eOp, eIf, eTup, eLst, eDict0, eDict, eSl, oNo, eCall, eCB, eM, eLc, eIsi2, aNil, aCons, pNil, pCons, tAndD, tOrD, tNotD, tsYes, gMns, gMod, gFdiv, gPow, gLe, gGt, gGe, gEq_ii, gEq_ss, gEq_bb, gEq_nn, gEq_ni, gEq_in, gEq_ns, gEq_sn, gEq_si, gEq_is, sAsg, nName, sRet, sRetN, sExpr, sIf, sNext, sBreak, sCont, sFor, getS, setS, wipeS, endsD, asKeys, toKey, List.length_cons, List.length_nil, List.set_cons_zero, List.set_cons_succ, List.set_nil, Nat.zero_add, Nat.reduceAdd, Option.some.injEq, exists_and_left, exists_eq_left', exists_eq_left, id_eq, if_true, if_false, ite_true, ite_false, Bool.not_true, Bool.not_false, Bool.false_eq_true, not_false_eq_true, not_true_eq_false, reduceCtorEq, true_and, and_true, ne_eq, decide_eq_true_eq, isiN, isiCls, List.mem_cons, String.reduceEq, String.reduceBEq, or_true, true_or, or_false, false_or, Bool.or_true, Bool.true_or, Bool.false_or, Bool.or_false, Bool.and_false, Bool.false_and, Bool.true_and, Bool.and_true, beq_self_eq_true, decide_true, decide_false, tTr_e, vTru_non, vTru_bl, vTru_int, vTru_str, vTru_tup, vTru_ref, oTru_l, oTru_d, tBl_e, vBl_bl, eNeg_e, vNeg_int, eChain_e, eAnd_e, eOr_e, eNot_e, oSome_e, vSome_int, gAdd_ii, gAdd_ss, gAdd_tt, gAdd_rr, gI_ii, gI0_ii, gMulA_ii, gMulA_ri, gMulA_ti, gLt_ii, gLt_ss, gLt2_ii, gLt2_ss, eTab_e, vTab_s, eGet2_e, vGetO_r, vGet2_s, gIs_n, gIs_b, isNon_n, isNon_b, isNon_i, isNon_s, isNon_t, isNon_r, gIx_r, oIx_li, oIx_ds, oIx_di, gIx_ti, gIx_fi, gIx_si, gSl_t, gSl_s, gSl_f, gSl_r, gIn_ss, gIn_t, gIn_r, oIn_l, oIn_ds, gLen_s, gLen_t, gLen_f, gLen_r, oLen_l, oLen_d, gAbs_i, gMax2_ii, gMin2_ii, gInt1_i, gInt1_b, gList_t, gList_f, gList_r, gTuple_t, gTuple_f, gTuple_r, gSum_r, gAll_r, gIsi_x, tyD_n, tyD_b, tyD_i, tyD_s, tyD_t, tyD_f, tyD_r, oTy_l, oTy_d, tyM_s, tyM_r, oTyM_l, oTyM_d, gAppend_r, gPop0_r, gPopAt_r, gClear_r, gReverse_r, gJoin_r, gUpper_s, gStr_i, gSorted_r, iSeq_e, vSeq_r, vSeq_f, vSeq_t, vSeq_s, iRange1_e, vRng1_i, iRange2_e, vRng2_i, iZipD_e, vZip_r, vZip_t, iEnumD_e, vEnum_r, nTupL_t, nTupL_r, nCons_c, nNil_n, sSub_e, vPut_r, oPut_ds, oPut_di, oPut_l, l_law_14]
    refine ⟨_, g _ _ h5, ?_⟩
    refine forL_inv _ (fun i σ S' => (∃ u13, σ = lEnv s p e5 e6 many xs u3 u7 (some o.D) u9 u10 u11 u12 u13) ∧ Gr S S') (fun i σ S' hi => hi.2 _ _ h5) (fun i x σ S' N2 hx hI hN2 => ?turn2) (fun σ S' hI => ?fin2) ⟨⟨_, rfl⟩, g⟩
    case turn2 =>
      obtain ⟨⟨u13, rfl⟩, g⟩ := hI
      rw [List.getElem?_map] at hx
      obtain ⟨r, hr, rfl⟩ := Option.map_eq_some_iff.mp hx
      have hrm := List.mem_of_getElem? hr
      simp (config := {implicitDefEqProofs := false, proj := false}) only [nx_mk, rt_mk, bk_mk, ct_mk, eVar, eC, eOp, eIf, eTup, eLst, eDict0, eDict, eSl, oNo, eCall, eCB, eM, eLc, eIsi2, aNil, aCons, pNil, pCons, tAndD, tOrD, tNotD, tsYes, gMns, gMod, gFdiv, gPow, gLe, gGt, gGe, gEq_ii, gEq_ss, gEq_bb, gEq_nn, gEq_ni, gEq_in, gEq_ns, gEq_sn, gEq_si, gEq_is, sAsg, nName, sRet, sRetN, sExpr, sIf, sNext, sBreak, sCont, sFor, getS, setS, wipeS, endsD, asKeys, toKey, List.length_cons, List.length_nil, List.set_cons_zero, List.set_cons_succ, List.set_nil, Nat.zero_add, Nat.reduceAdd, Option.some.injEq, exists_and_left, exists_eq_left', exists_eq_left, id_eq, if_true, if_false, ite_true, ite_false, Bool.not_true, Bool.not_false, Bool.false_eq_true, not_false_eq_true, not_true_eq_false, reduceCtorEq, true_and, and_true, ne_eq, decide_eq_true_eq, isiN, isiCls, List.mem_cons, String.reduceEq, String.reduceBEq, or_true, true_or, or_false, false_or, Bool.or_true, Bool.true_or, Bool.false_or, Bool.or_false, Bool.and_false, Bool.false_and, Bool.true_and, Bool.and_true, beq_self_eq_true, decide_true, decide_false, tTr_e, vTru_non, vTru_bl, vTru_int, vTru_str, vTru_tup, vTru_ref, oTru_l, oTru_d, tBl_e, vBl_bl, eNeg_e, vNeg_int, eChain_e, eAnd_e, eOr_e, eNot_e, oSome_e, vSome_int, gAdd_ii, gAdd_ss, gAdd_tt, gAdd_rr, gI_ii, gI0_ii, gMulA_ii, gMulA_ri, gMulA_ti, gLt_ii, gLt_ss, gLt2_ii, gLt2_ss, eTab_e, vTab_s, eGet2_e, vGetO_r, vGet2_s, gIs_n, gIs_b, isNon_n, isNon_b, isNon_i, isNon_s, isNon_t, isNon_r, gIx_r, oIx_li, oIx_ds, oIx_di, gIx_ti, gIx_fi, gIx_si, gSl_t, gSl_s, gSl_f, gSl_r, gIn_ss, gIn_t, gIn_r, oIn_l, oIn_ds, gLen_s, gLen_t, gLen_f, gLen_r, oLen_l, oLen_d, gAbs_i, gMax2_ii, gMin2_ii, gInt1_i, gInt1_b, gList_t, gList_f, gList_r, gTuple_t, gTuple_f, gTuple_r, gSum_r, gAll_r, gIsi_x, tyD_n, tyD_b, tyD_i, tyD_s, tyD_t, tyD_f, tyD_r, oTy_l, oTy_d, tyM_s, tyM_r, oTyM_l, oTyM_d, gAppend_r, gPop0_r, gPopAt_r, gClear_r, gReverse_r, gJoin_r, gUpper_s, gStr_i, gSorted_r, iSeq_e, vSeq_r, vSeq_f, vSeq_t, vSeq_s, iRange1_e, vRng1_i, iRange2_e, vRng2_i, iZipD_e, vZip_r, vZip_t, iEnumD_e, vEnum_r, nTupL_t, nTupL_r, nCons_c, nNil_n, sSub_e, vPut_r, oPut_ds, oPut_di, oPut_l, l_law_15]
      refine bothRw (o6 o hom) (o5 r hrm) (un o hom r hrm) fun S2 g2 => ?_
      try simp (config := {implicitDefEqProofs := false, proj := false}) only [nx_mk, rt_mk, bk_mk, ct_mk, eVar, eC, eOp, eIf, eTup, eLst, eDict0, eDict, eSl, oNo, eCall, eCB, eM, eLc, eIsi2, aNil, aCons, pNil, pCons, tAndD, tOrD, tNotD, tsYes, gMns, gMod, gFdiv, gPow, gLe, gGt, gGe, gEq_ii, gEq_ss, gEq_bb, gEq_nn, gEq_ni, gEq_in, gEq_ns, gEq_sn, gEq_si, gEq_is, sAsg, nName, sRet, sRetN, sExpr, sIf, sNext, sBreak, sCont, sFor, getS, setS, wipeS, endsD, asKeys, toKey, List.length_cons, List.length_nil, List.set_cons_zero, List.set_cons_succ, List.set_nil, Nat.zero_add, Nat.reduceAdd, Option.some.injEq, exists_and_left, exists_eq_left', exists_eq_left, id_eq, if_true, if_false, ite_true, ite_false, Bool.not_true, Bool.not_false, Bool.false_eq_true, not_false_eq_true, not_true_eq_false, reduceCtorEq, true_and, and_true, ne_eq, decide_eq_true_eq, isiN, isiCls, List.mem_cons, String.reduceEq, String.reduceBEq, or_true, true_or, or_false, false_or, Bool.or_true, Bool.true_or, Bool.false_or, Bool.or_false, Bool.and_false, Bool.false_and, Bool.true_and, Bool.and_true, beq_self_eq_true, decide_true, decide_false, tTr_e, vTru_non, vTru_bl, vTru_int, vTru_str, vTru_tup, vTru_ref, oTru_l, oTru_d, tBl_e, vBl_bl, eNeg_e, vNeg_int, eChain_e, eAnd_e, eOr_e, eNot_e, oSome_e, vSome_int, gAdd_ii, gAdd_ss, gAdd_tt, gAdd_rr, gI_ii, gI0_ii, gMulA_ii, gMulA_ri, gMulA_ti, gLt_ii, gLt_ss, gLt2_ii, gLt2_ss, eTab_e, vTab_s, eGet2_e, vGetO_r, vGet2_s, gIs_n, gIs_b, isNon_n, isNon_b, isNon_i, isNon_s, isNon_t, isNon_r, gIx_r, oIx_li, oIx_ds, oIx_di, gIx_ti, gIx_fi, gIx_si, gSl_t, gSl_s, gSl_f, gSl_r, gIn_ss, gIn_t, gIn_r, oIn_l, oIn_ds, gLen_s, gLen_t, gLen_f, gLen_r, oLen_l, oLen_d, gAbs_i, gMax2_ii, gMin2_ii, gInt1_i, gInt1_b, gList_t, gList_f, gList_r, gTuple_t, gTuple_f, gTuple_r, gSum_r, gAll_r, gIsi_x, tyD_n, tyD_b, tyD_i, tyD_s, tyD_t, tyD_f, tyD_r, oTy_l, oTy_d, tyM_s, tyM_r, oTyM_l, oTyM_d, gAppend_r, gPop0_r, gPopAt_r, gClear_r, gReverse_r, gJoin_r, gUpper_s, gStr_i, gSorted_r, iSeq_e, vSeq_r, vSeq_f, vSeq_t, vSeq_s, iRange1_e, vRng1_i, iRange2_e, vRng2_i, iZipD_e, vZip_r, vZip_t, iEnumD_e, vEnum_r, nTupL_t, nTupL_r, nCons_c, nNil_n, sSub_e, vPut_r, oPut_ds, oPut_di, oPut_l]
      exact hN2 _ _ ⟨⟨_, rfl⟩, g.trans g2⟩
    case fin2 =>
      obtain ⟨⟨u13, rfl⟩, g⟩ := hI
      exact hN _ _ ⟨⟨_, _, rfl⟩, g⟩
  case fin =>
    obtain ⟨⟨u8, u13, rfl⟩, g⟩ := hI
    simp (config := {implicitDefEqProofs := false, proj := false}) only [nx_mk, rt_mk, bk_mk, ct_mk, eVar, eC, eOp, eIf, eTup, eLst, eDict0, eDict, eSl, oNo, eCall, eCB, eM, eLc, eIsi2, aNil, aCons, pNil, pCons, tAndD, tOrD, tNotD, tsYes, gMns, gMod, gFdiv, gPow, gLe, gGt, gGe, gEq_ii, gEq_ss, gEq_bb, gEq_nn, gEq_ni, gEq_in, gEq_ns, gEq_sn, gEq_si, gEq_is, sAsg, nName, sRet, sRetN, sExpr, sIf, sNext, sBreak, sCont, sFor, getS, setS, wipeS, endsD, asKeys, toKey, List.length_cons, List.length_nil, List.set_cons_zero, List.set_cons_succ, List.set_nil, Nat.zero_add, Nat.reduceAdd, Option.some.injEq, exists_and_left, exists_eq_left', exists_eq_left, id_eq, if_true, if_false, ite_true, ite_false, Bool.not_true, Bool.not_false, Bool.false_eq_true, not_false_eq_true, not_true_eq_false, reduceCtorEq, true_and, and_true, ne_eq, decide_eq_true_eq, isiN, isiCls, List.mem_cons, String.reduceEq, String.reduceBEq, or_true, true_or, or_false, false_or, Bool.or_true, Bool.true_or, Bool.false_or, Bool.or_false, Bool.and_false, Bool.false_and, Bool.true_and, Bool.and_true, beq_self_eq_true, decide_true, decide_false, tTr_e, vTru_non, vTru_bl, vTru_int, vTru_str, vTru_tup, vTru_ref, oTru_l, oTru_d, tBl_e, vBl_bl, eNeg_e, vNeg_int, eChain_e, eAnd_e, eOr_e, eNot_e, oSome_e, vSome_int, gAdd_ii, gAdd_ss, gAdd_tt, gAdd_rr, gI_ii, gI0_ii, gMulA_ii, gMulA_ri, gMulA_ti, gLt_ii, gLt_ss, gLt2_ii, gLt2_ss, eTab_e, vTab_s, eGet2_e, vGetO_r, vGet2_s, gIs_n, gIs_b, isNon_n, isNon_b, isNon_i, isNon_s, isNon_t, isNon_r, gIx_r, oIx_li, oIx_ds, oIx_di, gIx_ti, gIx_fi, gIx_si, gSl_t, gSl_s, gSl_f, gSl_r, gIn_ss, gIn_t, gIn_r, oIn_l, oIn_ds, gLen_s, gLen_t, gLen_f, gLen_r, oLen_l, oLen_d, gAbs_i, gMax2_ii, gMin2_ii, gInt1_i, gInt1_b, gList_t, gList_f, gList_r, gTuple_t, gTuple_f, gTuple_r, gSum_r, gAll_r, gIsi_x, tyD_n, tyD_b, tyD_i, tyD_s, tyD_t, tyD_f, tyD_r, oTy_l, oTy_d, tyM_s, tyM_r, oTyM_l, oTyM_d, gAppend_r, gPop0_r, gPopAt_r, gClear_r, gReverse_r, gJoin_r, gUpper_s, gStr_i, gSorted_r, iSeq_e, vSeq_r, vSeq_f, vSeq_t, vSeq_s, iRange1_e, vRng1_i, iRange2_e, vRng2_i, iZipD_e, vZip_r, vZip_t, iEnumD_e, vEnum_r, nTupL_t, nTupL_r, nCons_c, nNil_n, sSub_e, vPut_r, oPut_ds, oPut_di, oPut_l, t_law_18, hQ]
    refine ⟨_, g _ _ h5, by decide, ?_⟩
    exact days_spec hl fun S' _ => q S'
end LW
namespace LW
open PySem L2 DL
theorem get_rw {rows : List Rw} {k : Nat} (h : k < rows.length) : atI (rows.map Rw.D) ((k : Nat) : Int) = some (rows[k]).D := atI_nat (by rw [List.getElem?_map]; simp [h])
theorem get_last {rows : List Rw} (h : 0 < rows.length) : atI (rows.map Rw.D) (-1) = some (rows[rows.length - 1]'(by omega)).D := by
  unfold atI ixN
  rw [if_neg (by decide), List.length_map, if_pos (by omega)]
  have e : (-1 + (rows.length : Int)).toNat = rows.length - 1 := by omega
  show (some ((-1 + (rows.length : Int)).toNat)).bind (fun j => (rows.map Rw.D)[j]?) = _
  rw [e]
  show (rows.map Rw.D)[rows.length - 1]? = _
  rw [List.getElem?_map]
  simp [show rows.length - 1 < rows.length by omega]
theorem names_ne {rows : List Rw} (nd : (rows.map Rw.n).Nodup) {i j : Nat} (hi : i < rows.length) (hj : j < rows.length) (h : i ≠ j) : (rows[i]).n ≠ (rows[j]).n := fun e => by
  have h1 := (List.pairwise_iff_getElem.mp (List.nodup_iff_pairwise_ne.mp nd))
  rcases Nat.lt_or_gt_of_ne h with hlt | hlt
  · exact h1 i j (by simpa using hi) (by simpa using hj) hlt (by simpa using e)
  · exact h1 j i (by simpa using hj) (by simpa using hi) hlt (by simpa using e.symm)
end LW
namespace LW
open PySem L2 DL
theorem law12 {s : D} {p e5 e6 : Addr} {many : Int} {xs : List D} {u3 u7 u8 u9 u10 u11 u12 u13 : Option D} {rows others : List Rw} {S : Sto} {Q : DK} {D0 : DEnds} (hQ : D0.rt = Q)
    (h5 : S e5 = some (.lst (rows.map Rw.D))) (h6 : S e6 = some (.lst (others.map Rw.D))) (o5 : ∀ r ∈ rows, r.ok) (o6 : ∀ r ∈ others, r.ok) (un : ∀ o ∈ others, ∀ r ∈ rows, o.n ≠ r.n) (nd : (rows.map Rw.n).Nodup) (hl : rows.length ≤ 44)
    (q : ∀ S', Q (.bl true) S') : t_law_12 D0 (lEnv s p e5 e6 many xs u3 u7 u8 u9 u10 u11 u12 u13) S := by
  refine seq_i ?_
  simp (config := {implicitDefEqProofs := false, proj := false}) only [nx_mk, rt_mk, bk_mk, ct_mk, eVar, eC, eOp, eIf, eTup, eLst, eDict0, eDict, eSl, oNo, eCall, eCB, eM, eLc, eIsi2, aNil, aCons, pNil, pCons, tAndD, tOrD, tNotD, tsYes, gMns, gMod, gFdiv, gPow, gLe, gGt, gGe, gEq_ii, gEq_ss, gEq_bb, gEq_nn, gEq_ni, gEq_in, gEq_ns, gEq_sn, gEq_si, gEq_is, sAsg, nName, sRet, sRetN, sExpr, sIf, sNext, sBreak, sCont, sFor, getS, setS, wipeS, endsD, asKeys, toKey, List.length_cons, List.length_nil, List.set_cons_zero, List.set_cons_succ, List.set_nil, Nat.zero_add, Nat.reduceAdd, Option.some.injEq, exists_and_left, exists_eq_left', exists_eq_left, id_eq, if_true, if_false, ite_true, ite_false, Bool.not_true, Bool.not_false, Bool.false_eq_true, not_false_eq_true, not_true_eq_false, reduceCtorEq, true_and, and_true, ne_eq, decide_eq_true_eq, isiN, isiCls, List.mem_cons, String.reduceEq, String.reduceBEq, or_true, true_or, or_false, false_or, Bool.or_true, Bool.true_or, Bool.false_or, Bool.or_false, Bool.and_false, Bool.false_and, Bool.true_and, Bool.and_true, beq_self_eq_true, decide_true, decide_false, tTr_e, vTru_non, vTru_bl, vTru_int, vTru_str, vTru_tup, vTru_ref, oTru_l, oTru_d, tBl_e, vBl_bl, eNeg_e, vNeg_int, eChain_e, eAnd_e, eOr_e, eNot_e, oSome_e, vSome_int, gAdd_ii, gAdd_ss, gAdd_tt, gAdd_rr, gI_ii, gI0_ii, gMulA_ii, gMulA_ri, gMulA_ti, gLt_ii, gLt_ss, gLt2_ii, gLt2_ss, eTab_e, vTab_s, eGet2_e, vGetO_r, vGet2_s, gIs_n, gIs_b, isNon_n, isNon_b, isNon_i, isNon_s, isNon_t, isNon_r, gIx_r, oIx_li, oIx_ds, oIx_di, gIx_ti, gIx_fi, gIx_si, gSl_t, gSl_s, gSl_f, gSl_r, gIn_ss, gIn_t, gIn_r, oIn_l, oIn_ds, gLen_s, gLen_t, gLen_f, gLen_r, oLen_l, oLen_d, gAbs_i, gMax2_ii, gMin2_ii, gInt1_i, gInt1_b, gList_t, gList_f, gList_r, gTuple_t, gTuple_f, gTuple_r, gSum_r, gAll_r, gIsi_x, tyD_n, tyD_b, tyD_i, tyD_s, tyD_t, tyD_f, tyD_r, oTy_l, oTy_d, tyM_s, tyM_r, oTyM_l, oTyM_d, gAppend_r, gPop0_r, gPopAt_r, gClear_r, gReverse_r, gJoin_r, gUpper_s, gStr_i, gSorted_r, iSeq_e, vSeq_r, vSeq_f, vSeq_t, vSeq_s, iRange1_e, vRng1_i, iRange2_e, vRng2_i, iZipD_e, vZip_r, vZip_t, iEnumD_e, vEnum_r, nTupL_t, nTupL_r, nCons_c, nNil_n, sSub_e, vPut_r, oPut_ds, oPut_di, oPut_l, h5, List.length_map]
  by_cases h1 : (1 : Int) < rows.length
  · rw [if_pos h1]
    refine ⟨_, get_rw (k := 0) (by omega), _, get_last (by omega), ?_⟩
    refine bothRw (o5 _ (List.getElem_mem _)) (o5 _ (List.getElem_mem _)) (names_ne nd _ _ (by omega)) fun S2 g2 => ?_
    try simp (config := {implicitDefEqProofs := false, proj := false}) only [nx_mk, rt_mk, bk_mk, ct_mk, eVar, eC, eOp, eIf, eTup, eLst, eDict0, eDict, eSl, oNo, eCall, eCB, eM, eLc, eIsi2, aNil, aCons, pNil, pCons, tAndD, tOrD, tNotD, tsYes, gMns, gMod, gFdiv, gPow, gLe, gGt, gGe, gEq_ii, gEq_ss, gEq_bb, gEq_nn, gEq_ni, gEq_in, gEq_ns, gEq_sn, gEq_si, gEq_is, sAsg, nName, sRet, sRetN, sExpr, sIf, sNext, sBreak, sCont, sFor, getS, setS, wipeS, endsD, asKeys, toKey, List.length_cons, List.length_nil, List.set_cons_zero, List.set_cons_succ, List.set_nil, Nat.zero_add, Nat.reduceAdd, Option.some.injEq, exists_and_left, exists_eq_left', exists_eq_left, id_eq, if_true, if_false, ite_true, ite_false, Bool.not_true, Bool.not_false, Bool.false_eq_true, not_false_eq_true, not_true_eq_false, reduceCtorEq, true_and, and_true, ne_eq, decide_eq_true_eq, isiN, isiCls, List.mem_cons, String.reduceEq, String.reduceBEq, or_true, true_or, or_false, false_or, Bool.or_true, Bool.true_or, Bool.false_or, Bool.or_false, Bool.and_false, Bool.false_and, Bool.true_and, Bool.and_true, beq_self_eq_true, decide_true, decide_false, tTr_e, vTru_non, vTru_bl, vTru_int, vTru_str, vTru_tup, vTru_ref, oTru_l, oTru_d, tBl_e, vBl_bl, eNeg_e, vNeg_int, eChain_e, eAnd_e, eOr_e, eNot_e, oSome_e, vSome_int, gAdd_ii, gAdd_ss, gAdd_tt, gAdd_rr, gI_ii, gI0_ii, gMulA_ii, gMulA_ri, gMulA_ti, gLt_ii, gLt_ss, gLt2_ii, gLt2_ss, eTab_e, vTab_s, eGet2_e, vGetO_r, vGet2_s, gIs_n, gIs_b, isNon_n, isNon_b, isNon_i, isNon_s, isNon_t, isNon_r, gIx_r, oIx_li, oIx_ds, oIx_di, gIx_ti, gIx_fi, gIx_si, gSl_t, gSl_s, gSl_f, gSl_r, gIn_ss, gIn_t, gIn_r, oIn_l, oIn_ds, gLen_s, gLen_t, gLen_f, gLen_r, oLen_l, oLen_d, gAbs_i, gMax2_ii, gMin2_ii, gInt1_i, gInt1_b, gList_t, gList_f, gList_r, gTuple_t, gTuple_f, gTuple_r, gSum_r, gAll_r, gIsi_x, tyD_n, tyD_b, tyD_i, tyD_s, tyD_t, tyD_f, tyD_r, oTy_l, oTy_d, tyM_s, tyM_r, oTyM_l, oTyM_d, gAppend_r, gPop0_r, gPopAt_r, gClear_r, gReverse_r, gJoin_r, gUpper_s, gStr_i, gSorted_r, iSeq_e, vSeq_r, vSeq_f, vSeq_t, vSeq_s, iRange1_e, vRng1_i, iRange2_e, vRng2_i, iZipD_e, vZip_r, vZip_t, iEnumD_e, vEnum_r, nTupL_t, nTupL_r, nCons_c, nNil_n, sSub_e, vPut_r, oPut_ds, oPut_di, oPut_l]
    exact law14 hQ (g2 _ _ h5) (g2 _ _ h6) o5 o6 un hl q
  · rw [if_neg h1]
    exact law14 hQ h5 h6 o5 o6 un hl q
end LW
namespace LW
open PySem L2 DL
theorem law9 {s : D} {p e5 e6 : Addr} {many : Int} {xs : List D} {u3 u7 u8 u9 u10 u11 u12 u13 : Option D} {rows others : List Rw} {S : Sto} {Q : DK} {D0 : DEnds} (hQ : D0.rt = Q)
    (h5 : S e5 = some (.lst (rows.map Rw.D))) (h6 : S e6 = some (.lst (others.map Rw.D))) (o5 : ∀ r ∈ rows, r.ok) (o6 : ∀ r ∈ others, r.ok) (un : ∀ o ∈ others, ∀ r ∈ rows, o.n ≠ r.n) (nd : (rows.map Rw.n).Nodup) (hl : rows.length ≤ 44)
    (q : ∀ S', Q (.bl true) S') : t_law_9 D0 (lEnv s p e5 e6 many xs u3 u7 u8 u9 u10 u11 u12 u13) S := by
  refine seq_i ?_
  simp (config := {implicitDefEqProofs := false, proj := false}) only [nx_mk, rt_mk, bk_mk, ct_mk, eVar, eC, eOp, eIf, eTup, eLst, eDict0, eDict, eSl, oNo, eCall, eCB, eM, eLc, eIsi2, aNil, aCons, pNil, pCons, tAndD, tOrD, tNotD, tsYes, gMns, gMod, gFdiv, gPow, gLe, gGt, gGe, gEq_ii, gEq_ss, gEq_bb, gEq_nn, gEq_ni, gEq_in, gEq_ns, gEq_sn, gEq_si, gEq_is, sAsg, nName, sRet, sRetN, sExpr, sIf, sNext, sBreak, sCont, sFor, getS, setS, wipeS, endsD, asKeys, toKey, List.length_cons, List.length_nil, List.set_cons_zero, List.set_cons_succ, List.set_nil, Nat.zero_add, Nat.reduceAdd, Option.some.injEq, exists_and_left, exists_eq_left', exists_eq_left, id_eq, if_true, if_false, ite_true, ite_false, Bool.not_true, Bool.not_false, Bool.false_eq_true, not_false_eq_true, not_true_eq_false, reduceCtorEq, true_and, and_true, ne_eq, decide_eq_true_eq, isiN, isiCls, List.mem_cons, String.reduceEq, String.reduceBEq, or_true, true_or, or_false, false_or, Bool.or_true, Bool.true_or, Bool.false_or, Bool.or_false, Bool.and_false, Bool.false_and, Bool.true_and, Bool.and_true, beq_self_eq_true, decide_true, decide_false, tTr_e, vTru_non, vTru_bl, vTru_int, vTru_str, vTru_tup, vTru_ref, oTru_l, oTru_d, tBl_e, vBl_bl, eNeg_e, vNeg_int, eChain_e, eAnd_e, eOr_e, eNot_e, oSome_e, vSome_int, gAdd_ii, gAdd_ss, gAdd_tt, gAdd_rr, gI_ii, gI0_ii, gMulA_ii, gMulA_ri, gMulA_ti, gLt_ii, gLt_ss, gLt2_ii, gLt2_ss, eTab_e, vTab_s, eGet2_e, vGetO_r, vGet2_s, gIs_n, gIs_b, isNon_n, isNon_b, isNon_i, isNon_s, isNon_t, isNon_r, gIx_r, oIx_li, oIx_ds, oIx_di, gIx_ti, gIx_fi, gIx_si, gSl_t, gSl_s, gSl_f, gSl_r, gIn_ss, gIn_t, gIn_r, oIn_l, oIn_ds, gLen_s, gLen_t, gLen_f, gLen_r, oLen_l, oLen_d, gAbs_i, gMax2_ii, gMin2_ii, gInt1_i, gInt1_b, gList_t, gList_f, gList_r, gTuple_t, gTuple_f, gTuple_r, gSum_r, gAll_r, gIsi_x, tyD_n, tyD_b, tyD_i, tyD_s, tyD_t, tyD_f, tyD_r, oTy_l, oTy_d, tyM_s, tyM_r, oTyM_l, oTyM_d, gAppend_r, gPop0_r, gPopAt_r, gClear_r, gReverse_r, gJoin_r, gUpper_s, gStr_i, gSorted_r, iSeq_e, vSeq_r, vSeq_f, vSeq_t, vSeq_s, iRange1_e, vRng1_i, iRange2_e, vRng2_i, iZipD_e, vZip_r, vZip_t, iEnumD_e, vEnum_r, nTupL_t, nTupL_r, nCons_c, nNil_n, sSub_e, vPut_r, oPut_ds, oPut_di, oPut_l, h5, List.length_map]
  refine ⟨by omega, by omega, ?_⟩
  refine forR_inv 0 _ (fun i σ S' => (∃ u7, σ = lEnv s p e5 e6 many xs u3 u7 u8 u9 u10 u11 u12 u13) ∧ Gr S S') (fun _ _ _ _ => trivial) (fun i σ S' N hi hI hN => ?turn) (fun σ S' hI => ?fin) ⟨⟨_, rfl⟩, .refl⟩
  case turn =>
    obtain ⟨⟨u7, rfl⟩, g⟩ := hI
    rw [Int.zero_add]
    simp (config := {implicitDefEqProofs := false, proj := false}) only [nx_mk, rt_mk, bk_mk, ct_mk, eVar, eC, eOp, eIf, eTup, eLst, eDict0, eDict, eSl, oNo, eCall, eCB, eM, eLc, eIsi2, aNil, aCons, pNil, pCons, tAndD, tOrD, tNotD, tsYes, gMns, gMod, gFdiv, gPow, gLe, gGt, gGe, gEq_ii, gEq_ss, gEq_bb, gEq_nn, gEq_ni, gEq_in, gEq_ns, gEq_sn, gEq_si, gEq_is, sAsg, nName, sRet, sRetN, sExpr, sIf, sNext, sBreak, sCont, sFor, getS, setS, wipeS, endsD, asKeys, toKey, List.length_cons, List.length_nil, List.set_cons_zero, List.set_cons_succ, List.set_nil, Nat.zero_add, Nat.reduceAdd, Option.some.injEq, exists_and_left, exists_eq_left', exists_eq_left, id_eq, if_true, if_false, ite_true, ite_false, Bool.not_true, Bool.not_false, Bool.false_eq_true, not_false_eq_true, not_true_eq_false, reduceCtorEq, true_and, and_true, ne_eq, decide_eq_true_eq, isiN, isiCls, List.mem_cons, String.reduceEq, String.reduceBEq, or_true, true_or, or_false, false_or, Bool.or_true, Bool.true_or, Bool.false_or, Bool.or_false, Bool.and_false, Bool.false_and, Bool.true_and, Bool.and_true, beq_self_eq_true, decide_true, decide_false, tTr_e, vTru_non, vTru_bl, vTru_int, vTru_str, vTru_tup, vTru_ref, oTru_l, oTru_d, tBl_e, vBl_bl, eNeg_e, vNeg_int, eChain_e, eAnd_e, eOr_e, eNot_e, oSome_e, vSome_int, gAdd_ii, gAdd_ss, gAdd_tt, gAdd_rr, gI_ii, gI0_ii, gMulA_ii, gMulA_ri, gMulA_ti, gLt_ii, gLt_ss, gLt2_ii, gLt2_ss, eTab_e, vTab_s, eGet2_e, vGetO_r, vGet2_s, gIs_n, gIs_b, isNon_n, isNon_b, isNon_i, isNon_s, isNon_t, isNon_r, gIx_r, oIx_li, oIx_ds, oIx_di, gIx_ti, gIx_fi, gIx_si, gSl_t, gSl_s, gSl_f, gSl_r, gIn_ss, gIn_t, gIn_r, oIn_l, oIn_ds, gLen_s, gLen_t, gLen_f, gLen_r, oLen_l, oLen_d, gAbs_i, gMax2_ii, gMin2_ii, gInt1_i, gInt1_b, gList_t, gList_f, gList_r, gTuple_t, gTuple_f, gTuple_r, gSum_r, gAll_r, gIsi_x, tyD_n, tyD_b, tyD_i, tyD_s, tyD_t, tyD_f, tyD_r, oTy_l, oTy_d, tyM_s, tyM_r, oTyM_l, oTyM_d, gAppend_r, gPop0_r, gPopAt_r, gClear_r, gReverse_r, gJoin_r, gUpper_s, gStr_i, gSorted_r, iSeq_e, vSeq_r, vSeq_f, vSeq_t, vSeq_s, iRange1_e, vRng1_i, iRange2_e, vRng2_i, iZipD_e, vZip_r, vZip_t, iEnumD_e, vEnum_r, nTupL_t, nTupL_r, nCons_c, nNil_n, sSub_e, vPut_r, oPut_ds, oPut_di, oPut_l, l_law_9, g _ _ h5]
    have e1 : ((i : Int) + 1) = ((i + 1 : Nat) : Int) := by omega
    rw [e1]
    refine ⟨_, get_rw (k := i) (by omega), _, get_rw (k := i + 1) (by omega), ?_⟩
    refine bothRw (o5 _ (List.getElem_mem _)) (o5 _ (List.getElem_mem _)) (names_ne nd _ _ (by omega)) fun S2 g2 => ?_
    try simp (config := {implicitDefEqProofs := false, proj := false}) only [nx_mk, rt_mk, bk_mk, ct_mk, eVar, eC, eOp, eIf, eTup, eLst, eDict0, eDict, eSl, oNo, eCall, eCB, eM, eLc, eIsi2, aNil, aCons, pNil, pCons, tAndD, tOrD, tNotD, tsYes, gMns, gMod, gFdiv, gPow, gLe, gGt, gGe, gEq_ii, gEq_ss, gEq_bb, gEq_nn, gEq_ni, gEq_in, gEq_ns, gEq_sn, gEq_si, gEq_is, sAsg, nName, sRet, sRetN, sExpr, sIf, sNext, sBreak, sCont, sFor, getS, setS, wipeS, endsD, asKeys, toKey, List.length_cons, List.length_nil, List.set_cons_zero, List.set_cons_succ, List.set_nil, Nat.zero_add, Nat.reduceAdd, Option.some.injEq, exists_and_left, exists_eq_left', exists_eq_left, id_eq, if_true, if_false, ite_true, ite_false, Bool.not_true, Bool.not_false, Bool.false_eq_true, not_false_eq_true, not_true_eq_false, reduceCtorEq, true_and, and_true, ne_eq, decide_eq_true_eq, isiN, isiCls, List.mem_cons, String.reduceEq, String.reduceBEq, or_true, true_or, or_false, false_or, Bool.or_true, Bool.true_or, Bool.false_or, Bool.or_false, Bool.and_false, Bool.false_and, Bool.true_and, Bool.and_true, beq_self_eq_true, decide_true, decide_false, tTr_e, vTru_non, vTru_bl, vTru_int, vTru_str, vTru_tup, vTru_ref, oTru_l, oTru_d, tBl_e, vBl_bl, eNeg_e, vNeg_int, eChain_e, eAnd_e, eOr_e, eNot_e, oSome_e, vSome_int, gAdd_ii, gAdd_ss, gAdd_tt, gAdd_rr, gI_ii, gI0_ii, gMulA_ii, gMulA_ri, gMulA_ti, gLt_ii, gLt_ss, gLt2_ii, gLt2_ss, eTab_e, vTab_s, eGet2_e, vGetO_r, vGet2_s, gIs_n, gIs_b, isNon_n, isNon_b, isNon_i, isNon_s, isNon_t, isNon_r, gIx_r, oIx_li, oIx_ds, oIx_di, gIx_ti, gIx_fi, gIx_si, gSl_t, gSl_s, gSl_f, gSl_r, gIn_ss, gIn_t, gIn_r, oIn_l, oIn_ds, gLen_s, gLen_t, gLen_f, gLen_r, oLen_l, oLen_d, gAbs_i, gMax2_ii, gMin2_ii, gInt1_i, gInt1_b, gList_t, gList_f, gList_r, gTuple_t, gTuple_f, gTuple_r, gSum_r, gAll_r, gIsi_x, tyD_n, tyD_b, tyD_i, tyD_s, tyD_t, tyD_f, tyD_r, oTy_l, oTy_d, tyM_s, tyM_r, oTyM_l, oTyM_d, gAppend_r, gPop0_r, gPopAt_r, gClear_r, gReverse_r, gJoin_r, gUpper_s, gStr_i, gSorted_r, iSeq_e, vSeq_r, vSeq_f, vSeq_t, vSeq_s, iRange1_e, vRng1_i, iRange2_e, vRng2_i, iZipD_e, vZip_r, vZip_t, iEnumD_e, vEnum_r, nTupL_t, nTupL_r, nCons_c, nNil_n, sSub_e, vPut_r, oPut_ds, oPut_di, oPut_l]
    exact hN _ _ ⟨⟨_, rfl⟩, g.trans g2⟩
  case fin =>
    obtain ⟨⟨u7, rfl⟩, g⟩ := hI
    exact law12 hQ (g _ _ h5) (g _ _ h6) o5 o6 un nd hl q
end LW
namespace LW
open PySem L2 DL
def kdOf : D → PyData := fun x => match x with
  | .tup (.str w :: .str n :: .int d :: _) => keyP w n d
  | _ => .none
theorem perm_map_inv {α β : Type} {f : α → β} {xs ys : List β} (h : xs.Perm ys) : ∀ l : List α, ys = l.map f → ∃ l' : List α, l'.Perm l ∧ xs = l'.map f := by
  induction h with
  | nil => intro l e; exact ⟨l, .refl _, e⟩
  | cons x _ ih =>
    intro l e
    cases l with
    | nil => cases e
    | cons a r =>
      injection e with e1 e2
      obtain ⟨l', h1, h2⟩ := ih r e2
      exact ⟨a :: l', h1.cons a, by rw [List.map_cons, e1, h2]⟩
  | swap x y r =>
    intro l e
    cases l with
    | nil => cases e
    | cons a l2 =>
      cases l2 with
      | nil => cases e
      | cons c l3 =>
        injection e with e1 e2
        injection e2 with e2 e3
        exact ⟨c :: a :: l3, List.Perm.swap _ _ _, by rw [List.map_cons, List.map_cons, e1, e2, e3]⟩
  | trans _ _ ih1 ih2 =>
    intro l e
    obtain ⟨l2, h1, h2⟩ := ih2 l e
    obtain ⟨l3, h3, h4⟩ := ih1 l2 h2
    exact ⟨l3, h3.trans h1, h4⟩
theorem keyed_rows {rows : List Rw} {R : List D → Prop} (ok : ∀ r ∈ rows, r.ok) (q : ∀ out : List Rw, out.Perm rows → R (out.map Rw.D)) : keyed m_wplace (rows.map Rw.D) R := by
  refine ⟨kdOf, fun x hx => ?_, ?_, ?_, fun x hx => ?_, ?_⟩
  · obtain ⟨r, hr, rfl⟩ := List.mem_map.mp hx
    refine ⟨?_, place_spec (ok r hr).hw fun S' _ => .tup (.cons (.int _) (.cons (.int _) (.cons (.str _) .nil)))⟩
    show (true && (true && (true && nrs r.rest))) = true
    rw [(ok r hr).nr]
    rfl
  · intro d hd d2 hd2
    rw [List.map_map] at hd hd2
    obtain ⟨r, _, rfl⟩ := List.mem_map.mp hd
    obtain ⟨r2, _, rfl⟩ := List.mem_map.mp hd2
    show PySem.W.alike (keyP r.w r.n r.d) (keyP r2.w r2.n r2.d) = true
    unfold keyP
    simp [PySem.W.alikeAll, PySem.W.alike]
  · refine .inl fun d hd => ?_
    rw [List.map_map] at hd
    obtain ⟨r, _, rfl⟩ := List.mem_map.mp hd
    exact ⟨_, _, rfl⟩
  · obtain ⟨r, hr, rfl⟩ := List.mem_map.mp hx
    exact Nat.le_trans (Nat.le_of_eq (show _ = 1 from rfl)) (by decide)
  · obtain ⟨out, h1, h2⟩ := perm_map_inv (List.mergeSort_perm _ _) rows rfl
    rw [h2]
    exact q out h1
end LW
namespace LW
open PySem L2 DL
theorem sIx_natN (n d k : Nat) : HT.sIx n d (some (k : Int)) = min k n := HT.sIx_nat n d k
theorem cut_toR (rows : List Rw) (n : Nat) : cutL (rows.map Rw.D) none (some (n : Int)) = (rows.take n).map Rw.D := by
  unfold cutL
  rw [HT.sIx_none, sIx_natN, List.drop_zero, Nat.sub_zero, List.length_map, List.map_take]
  by_cases h : n ≤ rows.length
  · rw [Nat.min_eq_left h]
  · rw [Nat.min_eq_right (by omega), List.take_of_length_le (by rw [List.length_map]; exact Nat.le_refl _), List.take_of_length_le (by rw [List.length_map]; omega)]
theorem law8 {s : D} {p e5 e6 : Addr} {many : Nat} {xs : List D} {u3 u7 u8 u9 u10 u11 u12 u13 : Option D} {all others : List Rw} {S : Sto} {Q : DK} {D0 : DEnds} (hQ : D0.rt = Q)
    (h5 : S e5 = some (.lst (all.map Rw.D))) (h6 : S e6 = some (.lst (others.map Rw.D))) (o5 : ∀ r ∈ all, r.ok) (o6 : ∀ r ∈ others, r.ok) (un : ∀ o ∈ others, ∀ r ∈ all.take many, o.n ≠ r.n) (nd : (all.map Rw.n).Nodup) (hl : all.length ≤ 44)
    (q : ∀ S', Q (.bl true) S') : t_law_8 D0 (lEnv s p e5 e6 many xs u3 u7 u8 u9 u10 u11 u12 u13) S := by
  refine seq_i ?_
  simp (config := {implicitDefEqProofs := false, proj := false}) only [nx_mk, rt_mk, bk_mk, ct_mk, eVar, eC, eOp, eIf, eTup, eLst, eDict0, eDict, eSl, oNo, eCall, eCB, eM, eLc, eIsi2, aNil, aCons, pNil, pCons, tAndD, tOrD, tNotD, tsYes, gMns, gMod, gFdiv, gPow, gLe, gGt, gGe, gEq_ii, gEq_ss, gEq_bb, gEq_nn, gEq_ni, gEq_in, gEq_ns, gEq_sn, gEq_si, gEq_is, sAsg, nName, sRet, sRetN, sExpr, sIf, sNext, sBreak, sCont, sFor, getS, setS, wipeS, endsD, asKeys, toKey, List.length_cons, List.length_nil, List.set_cons_zero, List.set_cons_succ, List.set_nil, Nat.zero_add, Nat.reduceAdd, Option.some.injEq, exists_and_left, exists_eq_left', exists_eq_left, id_eq, if_true, if_false, ite_true, ite_false, Bool.not_true, Bool.not_false, Bool.false_eq_true, not_false_eq_true, not_true_eq_false, reduceCtorEq, true_and, and_true, ne_eq, decide_eq_true_eq, isiN, isiCls, List.mem_cons, String.reduceEq, String.reduceBEq, or_true, true_or, or_false, false_or, Bool.or_true, Bool.true_or, Bool.false_or, Bool.or_false, Bool.and_false, Bool.false_and, Bool.true_and, Bool.and_true, beq_self_eq_true, decide_true, decide_false, tTr_e, vTru_non, vTru_bl, vTru_int, vTru_str, vTru_tup, vTru_ref, oTru_l, oTru_d, tBl_e, vBl_bl, eNeg_e, vNeg_int, eChain_e, eAnd_e, eOr_e, eNot_e, oSome_e, vSome_int, gAdd_ii, gAdd_ss, gAdd_tt, gAdd_rr, gI_ii, gI0_ii, gMulA_ii, gMulA_ri, gMulA_ti, gLt_ii, gLt_ss, gLt2_ii, gLt2_ss, eTab_e, vTab_s, eGet2_e, vGetO_r, vGet2_s, gIs_n, gIs_b, isNon_n, isNon_b, isNon_i, isNon_s, isNon_t, isNon_r, gIx_r, oIx_li, oIx_ds, oIx_di, gIx_ti, gIx_fi, gIx_si, gSl_t, gSl_s, gSl_f, gSl_r, gIn_ss, gIn_t, gIn_r, oIn_l, oIn_ds, gLen_s, gLen_t, gLen_f, gLen_r, oLen_l, oLen_d, gAbs_i, gMax2_ii, gMin2_ii, gInt1_i, gInt1_b, gList_t, gList_f, gList_r, gTuple_t, gTuple_f, gTuple_r, gSum_r, gAll_r, gIsi_x, tyD_n, tyD_b, tyD_i, tyD_s, tyD_t, tyD_f, tyD_r, oTy_l, oTy_d, tyM_s, tyM_r, oTyM_l, oTyM_d, gAppend_r, gPop0_r, gPopAt_r, gClear_r, gReverse_r, gJoin_r, gUpper_s, gStr_i, gSorted_r, iSeq_e, vSeq_r, vSeq_f, vSeq_t, vSeq_s, iRange1_e, vRng1_i, iRange2_e, vRng2_i, iZipD_e, vZip_r, vZip_t, iEnumD_e, vEnum_r, nTupL_t, nTupL_r, nCons_c, nNil_n, sSub_e, vPut_r, oPut_ds, oPut_di, oPut_l, eSortK]
  refine ⟨_, h5, fun c hc => ?_⟩
  rw [cut_toR]
  refine ⟨_, updS_same, keyed_rows (fun r hr => o5 r (List.mem_of_mem_take hr)) fun out hp e he => ?_⟩
  have h6' := Gr.new (o := .lst (out.map Rw.D)) he _ _ (Gr.new (o := .lst ((all.take many).map Rw.D)) hc _ _ h6)
  refine law9 hQ (rows := out) updS_same h6' (fun r hr => o5 r (List.mem_of_mem_take (hp.mem_iff.mp hr))) o6 (fun o ho r hr => un o ho r (hp.mem_iff.mp hr)) ?_ ?_ q
  · refine (hp.map Rw.n).nodup_iff.mpr ?_
    rw [List.map_take]
    exact nd.sublist (List.take_sublist _ _)
  · rw [hp.length_eq, List.length_take]
    omega
end LW
namespace LW
open PySem L2 DL
theorem cut_fromR (rows : List Rw) (n : Nat) : cutL (rows.map Rw.D) (some (n : Int)) none = (rows.drop n).map Rw.D := by
  unfold cutL
  rw [HT.sIx_none, sIx_natN, List.length_map, List.map_drop]
  rw [List.take_of_length_le (by rw [List.length_drop, List.length_map]; exact Nat.le_refl _)]
  by_cases h : n ≤ rows.length
  · rw [Nat.min_eq_left h]
  · rw [Nat.min_eq_right (by omega), List.drop_eq_nil_of_le (by rw [List.length_map]; exact Nat.le_refl _), List.drop_eq_nil_of_le (by rw [List.length_map]; omega)]
theorem cut_midR (rows : List Rw) (n m : Nat) : ∃ out : List Rw, cutL (rows.map Rw.D) (some (n : Int)) (some (m : Int)) = out.map Rw.D ∧ out.Sublist (rows.drop n) := by
  refine ⟨(rows.drop (min n rows.length)).take (min m rows.length - min n rows.length), ?_, ?_⟩
  · unfold cutL
    rw [sIx_natN, sIx_natN, List.length_map, List.map_take, List.map_drop]
  · by_cases h : n ≤ rows.length
    · rw [Nat.min_eq_left h]
      exact List.take_sublist _ _
    · rw [show min n rows.length = rows.length by omega, List.drop_length, List.take_nil]
      exact List.nil_sublist _
theorem drop_ne {all : List Rw} (nd : (all.map Rw.n).Nodup) {m : Nat} : ∀ o ∈ all.drop m, ∀ r ∈ all.take m, o.n ≠ r.n := by
  intro o ho r hr e
  have h := nd
  rw [← List.take_append_drop m all, List.map_append, List.nodup_append] at h
  exact h.2.2 _ (List.mem_map.mpr ⟨r, hr, rfl⟩) _ (List.mem_map.mpr ⟨o, ho, rfl⟩) e.symm
end LW
namespace LW
open PySem L2 DL
theorem law7 {s : D} {p e5 : Addr} {many : Nat} {xs : List D} {u3 u6 u7 u8 u9 u10 u11 u12 u13 : Option D} {all : List Rw} {S : Sto} {Q : DK} {D0 : DEnds} (hQ : D0.rt = Q)
    (h5 : S e5 = some (.lst (all.map Rw.D))) (o5 : ∀ r ∈ all, r.ok) (nd : (all.map Rw.n).Nodup) (hl : all.length ≤ 44)
    (q : ∀ S', Q (.bl true) S') : t_law_7 D0 [some s, some (.ref p), some (.int (many : Nat)), u3, some (.tup xs), some (.ref e5), u6, u7, u8, u9, u10, u11, u12, u13] S := by
  refine seq_i ?_
  simp (config := {implicitDefEqProofs := false, proj := false}) only [nx_mk, rt_mk, bk_mk, ct_mk, eVar, eC, eOp, eIf, eTup, eLst, eDict0, eDict, eSl, oNo, eCall, eCB, eM, eLc, eIsi2, aNil, aCons, pNil, pCons, tAndD, tOrD, tNotD, tsYes, gMns, gMod, gFdiv, gPow, gLe, gGt, gGe, gEq_ii, gEq_ss, gEq_bb, gEq_nn, gEq_ni, gEq_in, gEq_ns, gEq_sn, gEq_si, gEq_is, sAsg, nName, sRet, sRetN, sExpr, sIf, sNext, sBreak, sCont, sFor, getS, setS, wipeS, endsD, asKeys, toKey, List.length_cons, List.length_nil, List.set_cons_zero, List.set_cons_succ, List.set_nil, Nat.zero_add, Nat.reduceAdd, Option.some.injEq, exists_and_left, exists_eq_left', exists_eq_left, id_eq, if_true, if_false, ite_true, ite_false, Bool.not_true, Bool.not_false, Bool.false_eq_true, not_false_eq_true, not_true_eq_false, reduceCtorEq, true_and, and_true, ne_eq, decide_eq_true_eq, isiN, isiCls, List.mem_cons, String.reduceEq, String.reduceBEq, or_true, true_or, or_false, false_or, Bool.or_true, Bool.true_or, Bool.false_or, Bool.or_false, Bool.and_false, Bool.false_and, Bool.true_and, Bool.and_true, beq_self_eq_true, decide_true, decide_false, tTr_e, vTru_non, vTru_bl, vTru_int, vTru_str, vTru_tup, vTru_ref, oTru_l, oTru_d, tBl_e, vBl_bl, eNeg_e, vNeg_int, eChain_e, eAnd_e, eOr_e, eNot_e, oSome_e, vSome_int, gAdd_ii, gAdd_ss, gAdd_tt, gAdd_rr, gI_ii, gI0_ii, gMulA_ii, gMulA_ri, gMulA_ti, gLt_ii, gLt_ss, gLt2_ii, gLt2_ss, eTab_e, vTab_s, eGet2_e, vGetO_r, vGet2_s, gIs_n, gIs_b, isNon_n, isNon_b, isNon_i, isNon_s, isNon_t, isNon_r, gIx_r, oIx_li, oIx_ds, oIx_di, gIx_ti, gIx_fi, gIx_si, gSl_t, gSl_s, gSl_f, gSl_r, gIn_ss, gIn_t, gIn_r, oIn_l, oIn_ds, gLen_s, gLen_t, gLen_f, gLen_r, oLen_l, oLen_d, gAbs_i, gMax2_ii, gMin2_ii, gInt1_i, gInt1_b, gList_t, gList_f, gList_r, gTuple_t, gTuple_f, gTuple_r, gSum_r, gAll_r, gIsi_x, tyD_n, tyD_b, tyD_i, tyD_s, tyD_t, tyD_f, tyD_r, oTy_l, oTy_d, tyM_s, tyM_r, oTyM_l, oTyM_d, gAppend_r, gPop0_r, gPopAt_r, gClear_r, gReverse_r, gJoin_r, gUpper_s, gStr_i, gSorted_r, iSeq_e, vSeq_r, vSeq_f, vSeq_t, vSeq_s, iRange1_e, vRng1_i, iRange2_e, vRng2_i, iZipD_e, vZip_r, vZip_t, iEnumD_e, vEnum_r, nTupL_t, nTupL_r, nCons_c, nNil_n, sSub_e, vPut_r, oPut_ds, oPut_di, oPut_l]
  obtain ⟨mx, emx, hmx⟩ : ∃ mx : Nat, (if (many : Int) > 36 then (many : Int) else 36) = (mx : Nat) ∧ many ≤ mx := by
    by_cases h : (many : Int) > 36
    · exact ⟨many, if_pos h, Nat.le_refl _⟩
    · exact ⟨36, if_neg h, by omega⟩
  obtain ⟨mn, emn⟩ : ∃ mn : Nat, (if (36 : Int) < (many : Int) + 4 then (36 : Int) else (many : Int) + 4) = (mn : Nat) := by
    by_cases h : (36 : Int) < (many : Int) + 4
    · exact ⟨36, if_pos h⟩
    · exact ⟨many + 4, by rw [if_neg h]; omega⟩
  rw [emx]
  refine ⟨_, h5, fun c1 hc1 => ?_⟩
  rw [emn, cut_fromR]
  have h5a := Gr.new (o := .lst ((all.drop mx).map Rw.D)) hc1 _ _ h5
  refine ⟨_, h5a, fun c2 hc2 => ?_⟩
  obtain ⟨mid, em, hm⟩ := cut_midR all many mn
  rw [em]
  have hc12 : c1 ≠ c2 := neS updS_same hc2
  refine ⟨_, by rw [updS_ne hc12]; exact updS_same, _, updS_same, ?_, fun c3 hc3 => ?_⟩
  · have h1 := hm.length_le
    rw [List.length_drop] at h1
    rw [List.length_map, List.length_map, List.length_drop]
    exact small_line (show all.length - mx + mid.length ≤ 100000 by omega)
  have h5b := Gr.new (o := .lst (mid.map Rw.D)) hc2 _ _ h5a
  have h5c := Gr.new (o := .lst ((all.drop mx).map Rw.D ++ mid.map Rw.D)) hc3 _ _ h5b
  rw [← List.map_append] at h5c ⊢
  have sub : ∀ o ∈ all.drop mx ++ mid, o ∈ all.drop many := fun o ho => by
    rcases List.mem_append.mp ho with ho | ho
    · have : all.drop mx = (all.drop many).drop (mx - many) := by rw [List.drop_drop]; congr 1; omega
      rw [this] at ho
      exact List.mem_of_mem_drop ho
    · exact hm.subset ho
  exact law8 hQ h5c updS_same o5 (fun r hr => o5 r (List.mem_of_mem_drop (sub r hr))) (fun o ho r hr => drop_ne nd o (sub o ho) r hr) nd hl q
end LW
namespace LW
open PySem L2 DL
theorem pen_spec {ns : List Int} {S : Sto} {Q : DK} (q : ∀ (p c : Addr) (S' : Sto), Pen S' p c 0 → Gr S S' → Q (.ref p) S') : m_wpen [.fl (ns.map .int)] S Q := by
  rw [e_wpen]
  simp (config := {implicitDefEqProofs := false, proj := false}) only [nx_mk, rt_mk, bk_mk, ct_mk, eVar, eC, eOp, eIf, eTup, eLst, eDict0, eDict, eSl, oNo, eCall, eCB, eM, eLc, eIsi2, aNil, aCons, pNil, pCons, tAndD, tOrD, tNotD, tsYes, gMns, gMod, gFdiv, gPow, gLe, gGt, gGe, gEq_ii, gEq_ss, gEq_bb, gEq_nn, gEq_ni, gEq_in, gEq_ns, gEq_sn, gEq_si, gEq_is, sAsg, nName, sRet, sRetN, sExpr, sIf, sNext, sBreak, sCont, sFor, getS, setS, wipeS, endsD, asKeys, toKey, List.length_cons, List.length_nil, List.set_cons_zero, List.set_cons_succ, List.set_nil, Nat.zero_add, Nat.reduceAdd, Option.some.injEq, exists_and_left, exists_eq_left', exists_eq_left, id_eq, if_true, if_false, ite_true, ite_false, Bool.not_true, Bool.not_false, Bool.false_eq_true, not_false_eq_true, not_true_eq_false, reduceCtorEq, true_and, and_true, ne_eq, decide_eq_true_eq, isiN, isiCls, List.mem_cons, String.reduceEq, String.reduceBEq, or_true, true_or, or_false, false_or, Bool.or_true, Bool.true_or, Bool.false_or, Bool.or_false, Bool.and_false, Bool.false_and, Bool.true_and, Bool.and_true, beq_self_eq_true, decide_true, decide_false, tTr_e, vTru_non, vTru_bl, vTru_int, vTru_str, vTru_tup, vTru_ref, oTru_l, oTru_d, tBl_e, vBl_bl, eNeg_e, vNeg_int, eChain_e, eAnd_e, eOr_e, eNot_e, oSome_e, vSome_int, gAdd_ii, gAdd_ss, gAdd_tt, gAdd_rr, gI_ii, gI0_ii, gMulA_ii, gMulA_ri, gMulA_ti, gLt_ii, gLt_ss, gLt2_ii, gLt2_ss, eTab_e, vTab_s, eGet2_e, vGetO_r, vGet2_s, gIs_n, gIs_b, isNon_n, isNon_b, isNon_i, isNon_s, isNon_t, isNon_r, gIx_r, oIx_li, oIx_ds, oIx_di, gIx_ti, gIx_fi, gIx_si, gSl_t, gSl_s, gSl_f, gSl_r, gIn_ss, gIn_t, gIn_r, oIn_l, oIn_ds, gLen_s, gLen_t, gLen_f, gLen_r, oLen_l, oLen_d, gAbs_i, gMax2_ii, gMin2_ii, gInt1_i, gInt1_b, gList_t, gList_f, gList_r, gTuple_t, gTuple_f, gTuple_r, gSum_r, gAll_r, gIsi_x, tyD_n, tyD_b, tyD_i, tyD_s, tyD_t, tyD_f, tyD_r, oTy_l, oTy_d, tyM_s, tyM_r, oTyM_l, oTyM_d, gAppend_r, gPop0_r, gPopAt_r, gClear_r, gReverse_r, gJoin_r, gUpper_s, gStr_i, gSorted_r, iSeq_e, vSeq_r, vSeq_f, vSeq_t, vSeq_s, iRange1_e, vRng1_i, iRange2_e, vRng2_i, iZipD_e, vZip_r, vZip_t, iEnumD_e, vEnum_r, nTupL_t, nTupL_r, nCons_c, nNil_n, sSub_e, vPut_r, oPut_ds, oPut_di, oPut_l, b_wpen]
  intro p1 hp1
  refine ⟨_, updS_same, fun p2 hp2 => ⟨_, rfl, by show 3 ≤ 15; decide, fun p3 hp3 => ?_⟩⟩
  have n23 : p2 ≠ p3 := neS updS_same hp3
  have cut : cutL (ns.map D.int) none (some 63) = (ns.take 63).map D.int := by
    unfold cutL
    rw [HT.sIx_none, show HT.sIx (ns.map D.int).length (ns.map D.int).length (some 63) = min 63 (ns.map D.int).length from HT.sIx_nat _ _ 63]
    rw [List.drop_zero, List.map_take, Nat.sub_zero]
    by_cases h : 63 ≤ (ns.map D.int).length
    · rw [Nat.min_eq_left h]
    · rw [Nat.min_eq_right (by omega), List.take_of_length_le (Nat.le_refl _), List.take_of_length_le (by omega)]
  have e : mergeD [] [(kS "cells", D.ref p2), (kS "at", .int 0), (kS "left", .int 0)] = penKv p2 0 0 := by
    unfold mergeD penKv
    simp only [List.foldl, putD, hasD, valD, Option.isSome, if_neg k_ca, if_neg k_cl, if_neg k_al, if_false, Bool.false_eq_true, List.nil_append, List.cons_append]
  refine q p3 p2 _ ⟨ns.take 63, 0, 0, by rw [updS_same]; exact congrArg (fun t => some (O.dk t)) e, ?_, by rw [List.length_take]; omega, by decide, by decide, by decide⟩ ?_
  · rw [updS_ne n23, updS_same, cut]
  · exact ((Gr.new hp1).trans (.new hp2)).trans (.new hp3)
theorem law6 {s : D} {p pc da f pl ho na : Addr} {b many : Nat} {xs : List D} {fs ps hs ns : List Str} {ds : List Int} {u5 u6 u7 u8 u13 : Option D} {S : Sto} {Q : DK} {D0 : DEnds} (hQ : D0.rt = Q)
    (h : Pen S p pc b) (hb : b + 3000 ≤ 90000) (td : Dys S p da ds) (tf : Txs S p f fs) (tp : Txs S p pl ps) (th : Txs S p ho hs) (tn : Txs S p na ns) (hdl : ds.length = 44) (hf : 0 < fs.length) (hf2 : fs.length ≤ 10) (hp : ps.length = 10) (hl : hs.length = 5) (hn : ns.length = 44)
    (q : ∀ S', Q (.bl true) S') : t_law_6 D0 [some s, some (.ref p), some (.int (many : Nat)), some (.ref da), some (.tup xs), u5, u6, u7, u8, some (.ref f), some (.ref pl), some (.ref ho), some (.ref na), u13] S := by
  refine seq_i ?_
  simp (config := {implicitDefEqProofs := false, proj := false}) only [nx_mk, rt_mk, bk_mk, ct_mk, eVar, eC, eOp, eIf, eTup, eLst, eDict0, eDict, eSl, oNo, eCall, eCB, eM, eLc, eIsi2, aNil, aCons, pNil, pCons, tAndD, tOrD, tNotD, tsYes, gMns, gMod, gFdiv, gPow, gLe, gGt, gGe, gEq_ii, gEq_ss, gEq_bb, gEq_nn, gEq_ni, gEq_in, gEq_ns, gEq_sn, gEq_si, gEq_is, sAsg, nName, sRet, sRetN, sExpr, sIf, sNext, sBreak, sCont, sFor, getS, setS, wipeS, endsD, asKeys, toKey, List.length_cons, List.length_nil, List.set_cons_zero, List.set_cons_succ, List.set_nil, Nat.zero_add, Nat.reduceAdd, Option.some.injEq, exists_and_left, exists_eq_left', exists_eq_left, id_eq, if_true, if_false, ite_true, ite_false, Bool.not_true, Bool.not_false, Bool.false_eq_true, not_false_eq_true, not_true_eq_false, reduceCtorEq, true_and, and_true, ne_eq, decide_eq_true_eq, isiN, isiCls, List.mem_cons, String.reduceEq, String.reduceBEq, or_true, true_or, or_false, false_or, Bool.or_true, Bool.true_or, Bool.false_or, Bool.or_false, Bool.and_false, Bool.false_and, Bool.true_and, Bool.and_true, beq_self_eq_true, decide_true, decide_false, tTr_e, vTru_non, vTru_bl, vTru_int, vTru_str, vTru_tup, vTru_ref, oTru_l, oTru_d, tBl_e, vBl_bl, eNeg_e, vNeg_int, eChain_e, eAnd_e, eOr_e, eNot_e, oSome_e, vSome_int, gAdd_ii, gAdd_ss, gAdd_tt, gAdd_rr, gI_ii, gI0_ii, gMulA_ii, gMulA_ri, gMulA_ti, gLt_ii, gLt_ss, gLt2_ii, gLt2_ss, eTab_e, vTab_s, eGet2_e, vGetO_r, vGet2_s, gIs_n, gIs_b, isNon_n, isNon_b, isNon_i, isNon_s, isNon_t, isNon_r, gIx_r, oIx_li, oIx_ds, oIx_di, gIx_ti, gIx_fi, gIx_si, gSl_t, gSl_s, gSl_f, gSl_r, gIn_ss, gIn_t, gIn_r, oIn_l, oIn_ds, gLen_s, gLen_t, gLen_f, gLen_r, oLen_l, oLen_d, gAbs_i, gMax2_ii, gMin2_ii, gInt1_i, gInt1_b, gList_t, gList_f, gList_r, gTuple_t, gTuple_f, gTuple_r, gSum_r, gAll_r, gIsi_x, tyD_n, tyD_b, tyD_i, tyD_s, tyD_t, tyD_f, tyD_r, oTy_l, oTy_d, tyM_s, tyM_r, oTyM_l, oTyM_d, gAppend_r, gPop0_r, gPopAt_r, gClear_r, gReverse_r, gJoin_r, gUpper_s, gStr_i, gSorted_r, iSeq_e, vSeq_r, vSeq_f, vSeq_t, vSeq_s, iRange1_e, vRng1_i, iRange2_e, vRng2_i, iZipD_e, vZip_r, vZip_t, iEnumD_e, vEnum_r, nTupL_t, nTupL_r, nCons_c, nNil_n, sSub_e, vPut_r, oPut_ds, oPut_di, oPut_l]
  refine ⟨by decide, by decide, ?_⟩
  refine lcL_inv _ (fun i acc S' => Pen S' p pc (b + 60 * i) ∧ Kp p S S' ∧ ∃ rs : List Rw, acc = rs.map Rw.D ∧ rs.length = i ∧ (∀ r ∈ rs, r.ok) ∧ rs.map Rw.n = ns.take i) (fun _ _ _ _ => trivial) (fun i x acc S6 N hx hI hN => ?el) (fun acc S6 hI => ?af) ⟨h, .refl, [], rfl, rfl, (fun _ h => nomatch h), rfl⟩
  case el =>
    obtain ⟨p6, g6, rs, rfl, hrl, hok, hnm⟩ := hI
    have hi := (List.getElem?_eq_some_iff.mp hx).1
    have hx2 := hx
    rw [rangeD_len] at hi
    have hi : i < 44 := hi
    have ex : x = .int (i : Nat) := by
      have : (rangeD 0 (Int.toNat 44))[i]? = some (.int (0 + (i : Nat))) := by
        unfold rangeD
        rw [List.getElem?_map, List.getElem?_range (show i < Int.toNat 44 from hi)]
        rfl
      rw [this] at hx
      cases hx
      rw [Int.zero_add]
    subst ex
    simp (config := {implicitDefEqProofs := false, proj := false}) only [nx_mk, rt_mk, bk_mk, ct_mk, eVar, eC, eOp, eIf, eTup, eLst, eDict0, eDict, eSl, oNo, eCall, eCB, eM, eLc, eIsi2, aNil, aCons, pNil, pCons, tAndD, tOrD, tNotD, tsYes, gMns, gMod, gFdiv, gPow, gLe, gGt, gGe, gEq_ii, gEq_ss, gEq_bb, gEq_nn, gEq_ni, gEq_in, gEq_ns, gEq_sn, gEq_si, gEq_is, sAsg, nName, sRet, sRetN, sExpr, sIf, sNext, sBreak, sCont, sFor, getS, setS, wipeS, endsD, asKeys, toKey, List.length_cons, List.length_nil, List.set_cons_zero, List.set_cons_succ, List.set_nil, Nat.zero_add, Nat.reduceAdd, Option.some.injEq, exists_and_left, exists_eq_left', exists_eq_left, id_eq, if_true, if_false, ite_true, ite_false, Bool.not_true, Bool.not_false, Bool.false_eq_true, not_false_eq_true, not_true_eq_false, reduceCtorEq, true_and, and_true, ne_eq, decide_eq_true_eq, isiN, isiCls, List.mem_cons, String.reduceEq, String.reduceBEq, or_true, true_or, or_false, false_or, Bool.or_true, Bool.true_or, Bool.false_or, Bool.or_false, Bool.and_false, Bool.false_and, Bool.true_and, Bool.and_true, beq_self_eq_true, decide_true, decide_false, tTr_e, vTru_non, vTru_bl, vTru_int, vTru_str, vTru_tup, vTru_ref, oTru_l, oTru_d, tBl_e, vBl_bl, eNeg_e, vNeg_int, eChain_e, eAnd_e, eOr_e, eNot_e, oSome_e, vSome_int, gAdd_ii, gAdd_ss, gAdd_tt, gAdd_rr, gI_ii, gI0_ii, gMulA_ii, gMulA_ri, gMulA_ti, gLt_ii, gLt_ss, gLt2_ii, gLt2_ss, eTab_e, vTab_s, eGet2_e, vGetO_r, vGet2_s, gIs_n, gIs_b, isNon_n, isNon_b, isNon_i, isNon_s, isNon_t, isNon_r, gIx_r, oIx_li, oIx_ds, oIx_di, gIx_ti, gIx_fi, gIx_si, gSl_t, gSl_s, gSl_f, gSl_r, gIn_ss, gIn_t, gIn_r, oIn_l, oIn_ds, gLen_s, gLen_t, gLen_f, gLen_r, oLen_l, oLen_d, gAbs_i, gMax2_ii, gMin2_ii, gInt1_i, gInt1_b, gList_t, gList_f, gList_r, gTuple_t, gTuple_f, gTuple_r, gSum_r, gAll_r, gIsi_x, tyD_n, tyD_b, tyD_i, tyD_s, tyD_t, tyD_f, tyD_r, oTy_l, oTy_d, tyM_s, tyM_r, oTyM_l, oTyM_d, gAppend_r, gPop0_r, gPopAt_r, gClear_r, gReverse_r, gJoin_r, gUpper_s, gStr_i, gSorted_r, iSeq_e, vSeq_r, vSeq_f, vSeq_t, vSeq_s, iRange1_e, vRng1_i, iRange2_e, vRng2_i, iZipD_e, vZip_r, vZip_t, iEnumD_e, vEnum_r, nTupL_t, nTupL_r, nCons_c, nNil_n, sSub_e, vPut_r, oPut_ds, oPut_di, oPut_l, c_law_6, (tn.kp g6).at_, (td.kp g6).at_]
    have hni : i < ns.length := by omega
    have hdi : i < ds.length := by omega
    refine ⟨.str ns[i], atI_nat (by rw [List.getElem?_map]; simp [hni]), .int ds[i], atI_nat (by rw [List.getElem?_map]; simp [hdi]), by decide, ?_⟩
    have dok := td.ok _ (List.getElem_mem hdi)
    refine row_spec p6 (by omega) (tf.kp g6) (tp.kp g6) (th.kp g6) hf hf2 hp hl dok.1 dok.2 fun r S7 rok rn _ p7 g7 => ⟨by rw [List.length_map, hrl]; exact Nat.lt_of_lt_of_le (show i < 401 by omega) (by decide), hN _ _ ⟨p7.mono (by omega), g6.trans g7, rs ++ [r], by rw [List.map_append]; rfl, by rw [List.length_append, hrl]; rfl, fun z hz => ?_, ?_⟩⟩
    · rcases List.mem_append.mp hz with hz | hz
      · exact hok z hz
      · rw [List.mem_singleton] at hz; subst hz; exact rok
    · rw [List.map_append, hnm, List.take_add_one, List.getElem?_eq_getElem hni]
      show ns.take i ++ [r.n] = _
      rw [rn]
      rfl
  case af =>
    obtain ⟨p6, g6, rs, rfl, hrl, hok, hnm⟩ := hI
    rw [rangeD_len] at hrl hnm
    intro e5 he5
    refine law7 hQ updS_same hok ?_ (by rw [hrl]; decide) q
    rw [hnm]
    exact tn.ok.nd.sublist (List.take_sublist _ _)
end LW
namespace LW
open PySem L2 DL
theorem law_true (ns : List Int) (hns : ns.length ≤ 63) : m_law [.fl (ns.map .int)] (fun _ => none) (fun d _ => d = .bl true) := by
  rw [e_law]
  refine seq_i ?_
  simp (config := {implicitDefEqProofs := false, proj := false}) only [nx_mk, rt_mk, bk_mk, ct_mk, eVar, eC, eOp, eIf, eTup, eLst, eDict0, eDict, eSl, oNo, eCall, eCB, eM, eLc, eIsi2, aNil, aCons, pNil, pCons, tAndD, tOrD, tNotD, tsYes, gMns, gMod, gFdiv, gPow, gLe, gGt, gGe, gEq_ii, gEq_ss, gEq_bb, gEq_nn, gEq_ni, gEq_in, gEq_ns, gEq_sn, gEq_si, gEq_is, sAsg, nName, sRet, sRetN, sExpr, sIf, sNext, sBreak, sCont, sFor, getS, setS, wipeS, endsD, asKeys, toKey, List.length_cons, List.length_nil, List.set_cons_zero, List.set_cons_succ, List.set_nil, Nat.zero_add, Nat.reduceAdd, Option.some.injEq, exists_and_left, exists_eq_left', exists_eq_left, id_eq, if_true, if_false, ite_true, ite_false, Bool.not_true, Bool.not_false, Bool.false_eq_true, not_false_eq_true, not_true_eq_false, reduceCtorEq, true_and, and_true, ne_eq, decide_eq_true_eq, isiN, isiCls, List.mem_cons, String.reduceEq, String.reduceBEq, or_true, true_or, or_false, false_or, Bool.or_true, Bool.true_or, Bool.false_or, Bool.or_false, Bool.and_false, Bool.false_and, Bool.true_and, Bool.and_true, beq_self_eq_true, decide_true, decide_false, tTr_e, vTru_non, vTru_bl, vTru_int, vTru_str, vTru_tup, vTru_ref, oTru_l, oTru_d, tBl_e, vBl_bl, eNeg_e, vNeg_int, eChain_e, eAnd_e, eOr_e, eNot_e, oSome_e, vSome_int, gAdd_ii, gAdd_ss, gAdd_tt, gAdd_rr, gI_ii, gI0_ii, gMulA_ii, gMulA_ri, gMulA_ti, gLt_ii, gLt_ss, gLt2_ii, gLt2_ss, eTab_e, vTab_s, eGet2_e, vGetO_r, vGet2_s, gIs_n, gIs_b, isNon_n, isNon_b, isNon_i, isNon_s, isNon_t, isNon_r, gIx_r, oIx_li, oIx_ds, oIx_di, gIx_ti, gIx_fi, gIx_si, gSl_t, gSl_s, gSl_f, gSl_r, gIn_ss, gIn_t, gIn_r, oIn_l, oIn_ds, gLen_s, gLen_t, gLen_f, gLen_r, oLen_l, oLen_d, gAbs_i, gMax2_ii, gMin2_ii, gInt1_i, gInt1_b, gList_t, gList_f, gList_r, gTuple_t, gTuple_f, gTuple_r, gSum_r, gAll_r, gIsi_x, tyD_n, tyD_b, tyD_i, tyD_s, tyD_t, tyD_f, tyD_r, oTy_l, oTy_d, tyM_s, tyM_r, oTyM_l, oTyM_d, gAppend_r, gPop0_r, gPopAt_r, gClear_r, gReverse_r, gJoin_r, gUpper_s, gStr_i, gSorted_r, iSeq_e, vSeq_r, vSeq_f, vSeq_t, vSeq_s, iRange1_e, vRng1_i, iRange2_e, vRng2_i, iZipD_e, vZip_r, vZip_t, iEnumD_e, vEnum_r, nTupL_t, nTupL_r, nCons_c, nNil_n, sSub_e, vPut_r, oPut_ds, oPut_di, oPut_l]
  refine pen_spec fun p pc S1 p1 _ => ?_
  simp (config := {implicitDefEqProofs := false, proj := false}) only [nx_mk, rt_mk, bk_mk, ct_mk, eVar, eC, eOp, eIf, eTup, eLst, eDict0, eDict, eSl, oNo, eCall, eCB, eM, eLc, eIsi2, aNil, aCons, pNil, pCons, tAndD, tOrD, tNotD, tsYes, gMns, gMod, gFdiv, gPow, gLe, gGt, gGe, gEq_ii, gEq_ss, gEq_bb, gEq_nn, gEq_ni, gEq_in, gEq_ns, gEq_sn, gEq_si, gEq_is, sAsg, nName, sRet, sRetN, sExpr, sIf, sNext, sBreak, sCont, sFor, getS, setS, wipeS, endsD, asKeys, toKey, List.length_cons, List.length_nil, List.set_cons_zero, List.set_cons_succ, List.set_nil, Nat.zero_add, Nat.reduceAdd, Option.some.injEq, exists_and_left, exists_eq_left', exists_eq_left, id_eq, if_true, if_false, ite_true, ite_false, Bool.not_true, Bool.not_false, Bool.false_eq_true, not_false_eq_true, not_true_eq_false, reduceCtorEq, true_and, and_true, ne_eq, decide_eq_true_eq, isiN, isiCls, List.mem_cons, String.reduceEq, String.reduceBEq, or_true, true_or, or_false, false_or, Bool.or_true, Bool.true_or, Bool.false_or, Bool.or_false, Bool.and_false, Bool.false_and, Bool.true_and, Bool.and_true, beq_self_eq_true, decide_true, decide_false, tTr_e, vTru_non, vTru_bl, vTru_int, vTru_str, vTru_tup, vTru_ref, oTru_l, oTru_d, tBl_e, vBl_bl, eNeg_e, vNeg_int, eChain_e, eAnd_e, eOr_e, eNot_e, oSome_e, vSome_int, gAdd_ii, gAdd_ss, gAdd_tt, gAdd_rr, gI_ii, gI0_ii, gMulA_ii, gMulA_ri, gMulA_ti, gLt_ii, gLt_ss, gLt2_ii, gLt2_ss, eTab_e, vTab_s, eGet2_e, vGetO_r, vGet2_s, gIs_n, gIs_b, isNon_n, isNon_b, isNon_i, isNon_s, isNon_t, isNon_r, gIx_r, oIx_li, oIx_ds, oIx_di, gIx_ti, gIx_fi, gIx_si, gSl_t, gSl_s, gSl_f, gSl_r, gIn_ss, gIn_t, gIn_r, oIn_l, oIn_ds, gLen_s, gLen_t, gLen_f, gLen_r, oLen_l, oLen_d, gAbs_i, gMax2_ii, gMin2_ii, gInt1_i, gInt1_b, gList_t, gList_f, gList_r, gTuple_t, gTuple_f, gTuple_r, gSum_r, gAll_r, gIsi_x, tyD_n, tyD_b, tyD_i, tyD_s, tyD_t, tyD_f, tyD_r, oTy_l, oTy_d, tyM_s, tyM_r, oTyM_l, oTyM_d, gAppend_r, gPop0_r, gPopAt_r, gClear_r, gReverse_r, gJoin_r, gUpper_s, gStr_i, gSorted_r, iSeq_e, vSeq_r, vSeq_f, vSeq_t, vSeq_s, iRange1_e, vRng1_i, iRange2_e, vRng2_i, iZipD_e, vZip_r, vZip_t, iEnumD_e, vEnum_r, nTupL_t, nTupL_r, nCons_c, nNil_n, sSub_e, vPut_r, oPut_ds, oPut_di, oPut_l, t_law_2]
  refine seq_i ?_
  simp (config := {implicitDefEqProofs := false, proj := false}) only [nx_mk, rt_mk, bk_mk, ct_mk, eVar, eC, eOp, eIf, eTup, eLst, eDict0, eDict, eSl, oNo, eCall, eCB, eM, eLc, eIsi2, aNil, aCons, pNil, pCons, tAndD, tOrD, tNotD, tsYes, gMns, gMod, gFdiv, gPow, gLe, gGt, gGe, gEq_ii, gEq_ss, gEq_bb, gEq_nn, gEq_ni, gEq_in, gEq_ns, gEq_sn, gEq_si, gEq_is, sAsg, nName, sRet, sRetN, sExpr, sIf, sNext, sBreak, sCont, sFor, getS, setS, wipeS, endsD, asKeys, toKey, List.length_cons, List.length_nil, List.set_cons_zero, List.set_cons_succ, List.set_nil, Nat.zero_add, Nat.reduceAdd, Option.some.injEq, exists_and_left, exists_eq_left', exists_eq_left, id_eq, if_true, if_false, ite_true, ite_false, Bool.not_true, Bool.not_false, Bool.false_eq_true, not_false_eq_true, not_true_eq_false, reduceCtorEq, true_and, and_true, ne_eq, decide_eq_true_eq, isiN, isiCls, List.mem_cons, String.reduceEq, String.reduceBEq, or_true, true_or, or_false, false_or, Bool.or_true, Bool.true_or, Bool.false_or, Bool.or_false, Bool.and_false, Bool.false_and, Bool.true_and, Bool.and_true, beq_self_eq_true, decide_true, decide_false, tTr_e, vTru_non, vTru_bl, vTru_int, vTru_str, vTru_tup, vTru_ref, oTru_l, oTru_d, tBl_e, vBl_bl, eNeg_e, vNeg_int, eChain_e, eAnd_e, eOr_e, eNot_e, oSome_e, vSome_int, gAdd_ii, gAdd_ss, gAdd_tt, gAdd_rr, gI_ii, gI0_ii, gMulA_ii, gMulA_ri, gMulA_ti, gLt_ii, gLt_ss, gLt2_ii, gLt2_ss, eTab_e, vTab_s, eGet2_e, vGetO_r, vGet2_s, gIs_n, gIs_b, isNon_n, isNon_b, isNon_i, isNon_s, isNon_t, isNon_r, gIx_r, oIx_li, oIx_ds, oIx_di, gIx_ti, gIx_fi, gIx_si, gSl_t, gSl_s, gSl_f, gSl_r, gIn_ss, gIn_t, gIn_r, oIn_l, oIn_ds, gLen_s, gLen_t, gLen_f, gLen_r, oLen_l, oLen_d, gAbs_i, gMax2_ii, gMin2_ii, gInt1_i, gInt1_b, gList_t, gList_f, gList_r, gTuple_t, gTuple_f, gTuple_r, gSum_r, gAll_r, gIsi_x, tyD_n, tyD_b, tyD_i, tyD_s, tyD_t, tyD_f, tyD_r, oTy_l, oTy_d, tyM_s, tyM_r, oTyM_l, oTyM_d, gAppend_r, gPop0_r, gPopAt_r, gClear_r, gReverse_r, gJoin_r, gUpper_s, gStr_i, gSorted_r, iSeq_e, vSeq_r, vSeq_f, vSeq_t, vSeq_s, iRange1_e, vRng1_i, iRange2_e, vRng2_i, iZipD_e, vZip_r, vZip_t, iEnumD_e, vEnum_r, nTupL_t, nTupL_r, nCons_c, nNil_n, sSub_e, vPut_r, oPut_ds, oPut_di, oPut_l]
  refine take_spec p1 (by omega) (by decide) (by decide) fun k1 S2 a1 b1 p2 g2 => ?_
  have b1 : k1 < 41 := b1
  refine take_spec p2 (by omega) (by decide) (by decide) fun k2 S3 a2 b2 p3 g3 => ?_
  have b2 : k2 < 9 := b2
  refine ⟨by decide, fun c hc => ?_⟩
  refine take_spec (p3.new hc) (by omega) (by decide) (by decide) fun k3 S4 a3 b3 p4 g4 => ?_
  have b3 : k3 < 4 := b3
  rw [g4 _ _ (p3.ne hc).1 updS_same, oIx_li]
  have hpick : ∃ m : Nat, atI [D.int 40, D.int 0, D.int k1, D.int (2 + k2)] k3 = some (.int (m : Nat)) := by
    obtain ⟨j, rfl⟩ : ∃ j : Nat, k3 = (j : Nat) := ⟨k3.toNat, by omega⟩
    match j, b3 with
    | 0, _ => exact ⟨40, rfl⟩
    | 1, _ => exact ⟨0, rfl⟩
    | 2, _ => exact ⟨k1.toNat, by rw [show ((k1.toNat : Nat) : Int) = k1 by omega]; rfl⟩
    | 3, _ => exact ⟨(2 + k2).toNat, by rw [show (((2 + k2).toNat : Nat) : Int) = 2 + k2 by omega]; rfl⟩
    | j + 4, h => exact absurd h (by omega)
  obtain ⟨many, em⟩ := hpick
  refine ⟨_, em, ?_⟩
  simp (config := {implicitDefEqProofs := false, proj := false}) only [nx_mk, rt_mk, bk_mk, ct_mk, eVar, eC, eOp, eIf, eTup, eLst, eDict0, eDict, eSl, oNo, eCall, eCB, eM, eLc, eIsi2, aNil, aCons, pNil, pCons, tAndD, tOrD, tNotD, tsYes, gMns, gMod, gFdiv, gPow, gLe, gGt, gGe, gEq_ii, gEq_ss, gEq_bb, gEq_nn, gEq_ni, gEq_in, gEq_ns, gEq_sn, gEq_si, gEq_is, sAsg, nName, sRet, sRetN, sExpr, sIf, sNext, sBreak, sCont, sFor, getS, setS, wipeS, endsD, asKeys, toKey, List.length_cons, List.length_nil, List.set_cons_zero, List.set_cons_succ, List.set_nil, Nat.zero_add, Nat.reduceAdd, Option.some.injEq, exists_and_left, exists_eq_left', exists_eq_left, id_eq, if_true, if_false, ite_true, ite_false, Bool.not_true, Bool.not_false, Bool.false_eq_true, not_false_eq_true, not_true_eq_false, reduceCtorEq, true_and, and_true, ne_eq, decide_eq_true_eq, isiN, isiCls, List.mem_cons, String.reduceEq, String.reduceBEq, or_true, true_or, or_false, false_or, Bool.or_true, Bool.true_or, Bool.false_or, Bool.or_false, Bool.and_false, Bool.false_and, Bool.true_and, Bool.and_true, beq_self_eq_true, decide_true, decide_false, tTr_e, vTru_non, vTru_bl, vTru_int, vTru_str, vTru_tup, vTru_ref, oTru_l, oTru_d, tBl_e, vBl_bl, eNeg_e, vNeg_int, eChain_e, eAnd_e, eOr_e, eNot_e, oSome_e, vSome_int, gAdd_ii, gAdd_ss, gAdd_tt, gAdd_rr, gI_ii, gI0_ii, gMulA_ii, gMulA_ri, gMulA_ti, gLt_ii, gLt_ss, gLt2_ii, gLt2_ss, eTab_e, vTab_s, eGet2_e, vGetO_r, vGet2_s, gIs_n, gIs_b, isNon_n, isNon_b, isNon_i, isNon_s, isNon_t, isNon_r, gIx_r, oIx_li, oIx_ds, oIx_di, gIx_ti, gIx_fi, gIx_si, gSl_t, gSl_s, gSl_f, gSl_r, gIn_ss, gIn_t, gIn_r, oIn_l, oIn_ds, gLen_s, gLen_t, gLen_f, gLen_r, oLen_l, oLen_d, gAbs_i, gMax2_ii, gMin2_ii, gInt1_i, gInt1_b, gList_t, gList_f, gList_r, gTuple_t, gTuple_f, gTuple_r, gSum_r, gAll_r, gIsi_x, tyD_n, tyD_b, tyD_i, tyD_s, tyD_t, tyD_f, tyD_r, oTy_l, oTy_d, tyM_s, tyM_r, oTyM_l, oTyM_d, gAppend_r, gPop0_r, gPopAt_r, gClear_r, gReverse_r, gJoin_r, gUpper_s, gStr_i, gSorted_r, iSeq_e, vSeq_r, vSeq_f, vSeq_t, vSeq_s, iRange1_e, vRng1_i, iRange2_e, vRng2_i, iZipD_e, vZip_r, vZip_t, iEnumD_e, vEnum_r, nTupL_t, nTupL_r, nCons_c, nNil_n, sSub_e, vPut_r, oPut_ds, oPut_di, oPut_l, t_law_3]
  refine seq_i ?_
  simp (config := {implicitDefEqProofs := false, proj := false}) only [nx_mk, rt_mk, bk_mk, ct_mk, eVar, eC, eOp, eIf, eTup, eLst, eDict0, eDict, eSl, oNo, eCall, eCB, eM, eLc, eIsi2, aNil, aCons, pNil, pCons, tAndD, tOrD, tNotD, tsYes, gMns, gMod, gFdiv, gPow, gLe, gGt, gGe, gEq_ii, gEq_ss, gEq_bb, gEq_nn, gEq_ni, gEq_in, gEq_ns, gEq_sn, gEq_si, gEq_is, sAsg, nName, sRet, sRetN, sExpr, sIf, sNext, sBreak, sCont, sFor, getS, setS, wipeS, endsD, asKeys, toKey, List.length_cons, List.length_nil, List.set_cons_zero, List.set_cons_succ, List.set_nil, Nat.zero_add, Nat.reduceAdd, Option.some.injEq, exists_and_left, exists_eq_left', exists_eq_left, id_eq, if_true, if_false, ite_true, ite_false, Bool.not_true, Bool.not_false, Bool.false_eq_true, not_false_eq_true, not_true_eq_false, reduceCtorEq, true_and, and_true, ne_eq, decide_eq_true_eq, isiN, isiCls, List.mem_cons, String.reduceEq, String.reduceBEq, or_true, true_or, or_false, false_or, Bool.or_true, Bool.true_or, Bool.false_or, Bool.or_false, Bool.and_false, Bool.false_and, Bool.true_and, Bool.and_true, beq_self_eq_true, decide_true, decide_false, tTr_e, vTru_non, vTru_bl, vTru_int, vTru_str, vTru_tup, vTru_ref, oTru_l, oTru_d, tBl_e, vBl_bl, eNeg_e, vNeg_int, eChain_e, eAnd_e, eOr_e, eNot_e, oSome_e, vSome_int, gAdd_ii, gAdd_ss, gAdd_tt, gAdd_rr, gI_ii, gI0_ii, gMulA_ii, gMulA_ri, gMulA_ti, gLt_ii, gLt_ss, gLt2_ii, gLt2_ss, eTab_e, vTab_s, eGet2_e, vGetO_r, vGet2_s, gIs_n, gIs_b, isNon_n, isNon_b, isNon_i, isNon_s, isNon_t, isNon_r, gIx_r, oIx_li, oIx_ds, oIx_di, gIx_ti, gIx_fi, gIx_si, gSl_t, gSl_s, gSl_f, gSl_r, gIn_ss, gIn_t, gIn_r, oIn_l, oIn_ds, gLen_s, gLen_t, gLen_f, gLen_r, oLen_l, oLen_d, gAbs_i, gMax2_ii, gMin2_ii, gInt1_i, gInt1_b, gList_t, gList_f, gList_r, gTuple_t, gTuple_f, gTuple_r, gSum_r, gAll_r, gIsi_x, tyD_n, tyD_b, tyD_i, tyD_s, tyD_t, tyD_f, tyD_r, oTy_l, oTy_d, tyM_s, tyM_r, oTyM_l, oTyM_d, gAppend_r, gPop0_r, gPopAt_r, gClear_r, gReverse_r, gJoin_r, gUpper_s, gStr_i, gSorted_r, iSeq_e, vSeq_r, vSeq_f, vSeq_t, vSeq_s, iRange1_e, vRng1_i, iRange2_e, vRng2_i, iZipD_e, vZip_r, vZip_t, iEnumD_e, vEnum_r, nTupL_t, nTupL_r, nCons_c, nNil_n, sSub_e, vPut_r, oPut_ds, oPut_di, oPut_l]
  refine take_spec p4 (by omega) (by decide) (by decide) fun k4 S5 a4 b4 p5 g5 => ?_
  have b4 : k4 < 8 := b4
  have enf : (1 + k4 : Int) = (((1 + k4).toNat : Nat) : Int) := by omega
  rw [gAdd_ii, enf]
  refine sorts_spec (nr := 44) p5 (by omega) (by omega) (by decide) fun f pl ho na fs ps hs nms S6 tf tp th tn hfl hpl hhl hnl p6 g6 => ?_
  simp (config := {implicitDefEqProofs := false, proj := false}) only [nx_mk, rt_mk, bk_mk, ct_mk, eVar, eC, eOp, eIf, eTup, eLst, eDict0, eDict, eSl, oNo, eCall, eCB, eM, eLc, eIsi2, aNil, aCons, pNil, pCons, tAndD, tOrD, tNotD, tsYes, gMns, gMod, gFdiv, gPow, gLe, gGt, gGe, gEq_ii, gEq_ss, gEq_bb, gEq_nn, gEq_ni, gEq_in, gEq_ns, gEq_sn, gEq_si, gEq_is, sAsg, nName, sRet, sRetN, sExpr, sIf, sNext, sBreak, sCont, sFor, getS, setS, wipeS, endsD, asKeys, toKey, List.length_cons, List.length_nil, List.set_cons_zero, List.set_cons_succ, List.set_nil, Nat.zero_add, Nat.reduceAdd, Option.some.injEq, exists_and_left, exists_eq_left', exists_eq_left, id_eq, if_true, if_false, ite_true, ite_false, Bool.not_true, Bool.not_false, Bool.false_eq_true, not_false_eq_true, not_true_eq_false, reduceCtorEq, true_and, and_true, ne_eq, decide_eq_true_eq, isiN, isiCls, List.mem_cons, String.reduceEq, String.reduceBEq, or_true, true_or, or_false, false_or, Bool.or_true, Bool.true_or, Bool.false_or, Bool.or_false, Bool.and_false, Bool.false_and, Bool.true_and, Bool.and_true, beq_self_eq_true, decide_true, decide_false, tTr_e, vTru_non, vTru_bl, vTru_int, vTru_str, vTru_tup, vTru_ref, oTru_l, oTru_d, tBl_e, vBl_bl, eNeg_e, vNeg_int, eChain_e, eAnd_e, eOr_e, eNot_e, oSome_e, vSome_int, gAdd_ii, gAdd_ss, gAdd_tt, gAdd_rr, gI_ii, gI0_ii, gMulA_ii, gMulA_ri, gMulA_ti, gLt_ii, gLt_ss, gLt2_ii, gLt2_ss, eTab_e, vTab_s, eGet2_e, vGetO_r, vGet2_s, gIs_n, gIs_b, isNon_n, isNon_b, isNon_i, isNon_s, isNon_t, isNon_r, gIx_r, oIx_li, oIx_ds, oIx_di, gIx_ti, gIx_fi, gIx_si, gSl_t, gSl_s, gSl_f, gSl_r, gIn_ss, gIn_t, gIn_r, oIn_l, oIn_ds, gLen_s, gLen_t, gLen_f, gLen_r, oLen_l, oLen_d, gAbs_i, gMax2_ii, gMin2_ii, gInt1_i, gInt1_b, gList_t, gList_f, gList_r, gTuple_t, gTuple_f, gTuple_r, gSum_r, gAll_r, gIsi_x, tyD_n, tyD_b, tyD_i, tyD_s, tyD_t, tyD_f, tyD_r, oTy_l, oTy_d, tyM_s, tyM_r, oTyM_l, oTyM_d, gAppend_r, gPop0_r, gPopAt_r, gClear_r, gReverse_r, gJoin_r, gUpper_s, gStr_i, gSorted_r, iSeq_e, vSeq_r, vSeq_f, vSeq_t, vSeq_s, iRange1_e, vRng1_i, iRange2_e, vRng2_i, iZipD_e, vZip_r, vZip_t, iEnumD_e, vEnum_r, nTupL_t, nTupL_r, nCons_c, nNil_n, sSub_e, vPut_r, oPut_ds, oPut_di, oPut_l, t_law_4]
  refine ⟨rfl, ?_⟩
  try simp (config := {implicitDefEqProofs := false, proj := false}) only [nx_mk, rt_mk, bk_mk, ct_mk, eVar, eC, eOp, eIf, eTup, eLst, eDict0, eDict, eSl, oNo, eCall, eCB, eM, eLc, eIsi2, aNil, aCons, pNil, pCons, tAndD, tOrD, tNotD, tsYes, gMns, gMod, gFdiv, gPow, gLe, gGt, gGe, gEq_ii, gEq_ss, gEq_bb, gEq_nn, gEq_ni, gEq_in, gEq_ns, gEq_sn, gEq_si, gEq_is, sAsg, nName, sRet, sRetN, sExpr, sIf, sNext, sBreak, sCont, sFor, getS, setS, wipeS, endsD, asKeys, toKey, List.length_cons, List.length_nil, List.set_cons_zero, List.set_cons_succ, List.set_nil, Nat.zero_add, Nat.reduceAdd, Option.some.injEq, exists_and_left, exists_eq_left', exists_eq_left, id_eq, if_true, if_false, ite_true, ite_false, Bool.not_true, Bool.not_false, Bool.false_eq_true, not_false_eq_true, not_true_eq_false, reduceCtorEq, true_and, and_true, ne_eq, decide_eq_true_eq, isiN, isiCls, List.mem_cons, String.reduceEq, String.reduceBEq, or_true, true_or, or_false, false_or, Bool.or_true, Bool.true_or, Bool.false_or, Bool.or_false, Bool.and_false, Bool.false_and, Bool.true_and, Bool.and_true, beq_self_eq_true, decide_true, decide_false, tTr_e, vTru_non, vTru_bl, vTru_int, vTru_str, vTru_tup, vTru_ref, oTru_l, oTru_d, tBl_e, vBl_bl, eNeg_e, vNeg_int, eChain_e, eAnd_e, eOr_e, eNot_e, oSome_e, vSome_int, gAdd_ii, gAdd_ss, gAdd_tt, gAdd_rr, gI_ii, gI0_ii, gMulA_ii, gMulA_ri, gMulA_ti, gLt_ii, gLt_ss, gLt2_ii, gLt2_ss, eTab_e, vTab_s, eGet2_e, vGetO_r, vGet2_s, gIs_n, gIs_b, isNon_n, isNon_b, isNon_i, isNon_s, isNon_t, isNon_r, gIx_r, oIx_li, oIx_ds, oIx_di, gIx_ti, gIx_fi, gIx_si, gSl_t, gSl_s, gSl_f, gSl_r, gIn_ss, gIn_t, gIn_r, oIn_l, oIn_ds, gLen_s, gLen_t, gLen_f, gLen_r, oLen_l, oLen_d, gAbs_i, gMax2_ii, gMin2_ii, gInt1_i, gInt1_b, gList_t, gList_f, gList_r, gTuple_t, gTuple_f, gTuple_r, gSum_r, gAll_r, gIsi_x, tyD_n, tyD_b, tyD_i, tyD_s, tyD_t, tyD_f, tyD_r, oTy_l, oTy_d, tyM_s, tyM_r, oTyM_l, oTyM_d, gAppend_r, gPop0_r, gPopAt_r, gClear_r, gReverse_r, gJoin_r, gUpper_s, gStr_i, gSorted_r, iSeq_e, vSeq_r, vSeq_f, vSeq_t, vSeq_s, iRange1_e, vRng1_i, iRange2_e, vRng2_i, iZipD_e, vZip_r, vZip_t, iEnumD_e, vEnum_r, nTupL_t, nTupL_r, nCons_c, nNil_n, sSub_e, vPut_r, oPut_ds, oPut_di, oPut_l]
  refine wdays_spec (n := 44) p6 (by omega) (by decide) fun da ds S7 td hdl p7 g7 => ?_
  simp (config := {implicitDefEqProofs := false, proj := false}) only [nx_mk, rt_mk, bk_mk, ct_mk, eVar, eC, eOp, eIf, eTup, eLst, eDict0, eDict, eSl, oNo, eCall, eCB, eM, eLc, eIsi2, aNil, aCons, pNil, pCons, tAndD, tOrD, tNotD, tsYes, gMns, gMod, gFdiv, gPow, gLe, gGt, gGe, gEq_ii, gEq_ss, gEq_bb, gEq_nn, gEq_ni, gEq_in, gEq_ns, gEq_sn, gEq_si, gEq_is, sAsg, nName, sRet, sRetN, sExpr, sIf, sNext, sBreak, sCont, sFor, getS, setS, wipeS, endsD, asKeys, toKey, List.length_cons, List.length_nil, List.set_cons_zero, List.set_cons_succ, List.set_nil, Nat.zero_add, Nat.reduceAdd, Option.some.injEq, exists_and_left, exists_eq_left', exists_eq_left, id_eq, if_true, if_false, ite_true, ite_false, Bool.not_true, Bool.not_false, Bool.false_eq_true, not_false_eq_true, not_true_eq_false, reduceCtorEq, true_and, and_true, ne_eq, decide_eq_true_eq, isiN, isiCls, List.mem_cons, String.reduceEq, String.reduceBEq, or_true, true_or, or_false, false_or, Bool.or_true, Bool.true_or, Bool.false_or, Bool.or_false, Bool.and_false, Bool.false_and, Bool.true_and, Bool.and_true, beq_self_eq_true, decide_true, decide_false, tTr_e, vTru_non, vTru_bl, vTru_int, vTru_str, vTru_tup, vTru_ref, oTru_l, oTru_d, tBl_e, vBl_bl, eNeg_e, vNeg_int, eChain_e, eAnd_e, eOr_e, eNot_e, oSome_e, vSome_int, gAdd_ii, gAdd_ss, gAdd_tt, gAdd_rr, gI_ii, gI0_ii, gMulA_ii, gMulA_ri, gMulA_ti, gLt_ii, gLt_ss, gLt2_ii, gLt2_ss, eTab_e, vTab_s, eGet2_e, vGetO_r, vGet2_s, gIs_n, gIs_b, isNon_n, isNon_b, isNon_i, isNon_s, isNon_t, isNon_r, gIx_r, oIx_li, oIx_ds, oIx_di, gIx_ti, gIx_fi, gIx_si, gSl_t, gSl_s, gSl_f, gSl_r, gIn_ss, gIn_t, gIn_r, oIn_l, oIn_ds, gLen_s, gLen_t, gLen_f, gLen_r, oLen_l, oLen_d, gAbs_i, gMax2_ii, gMin2_ii, gInt1_i, gInt1_b, gList_t, gList_f, gList_r, gTuple_t, gTuple_f, gTuple_r, gSum_r, gAll_r, gIsi_x, tyD_n, tyD_b, tyD_i, tyD_s, tyD_t, tyD_f, tyD_r, oTy_l, oTy_d, tyM_s, tyM_r, oTyM_l, oTyM_d, gAppend_r, gPop0_r, gPopAt_r, gClear_r, gReverse_r, gJoin_r, gUpper_s, gStr_i, gSorted_r, iSeq_e, vSeq_r, vSeq_f, vSeq_t, vSeq_s, iRange1_e, vRng1_i, iRange2_e, vRng2_i, iZipD_e, vZip_r, vZip_t, iEnumD_e, vEnum_r, nTupL_t, nTupL_r, nCons_c, nNil_n, sSub_e, vPut_r, oPut_ds, oPut_di, oPut_l, t_law_5]
  refine seq_i ?_
  simp (config := {implicitDefEqProofs := false, proj := false}) only [nx_mk, rt_mk, bk_mk, ct_mk, eVar, eC, eOp, eIf, eTup, eLst, eDict0, eDict, eSl, oNo, eCall, eCB, eM, eLc, eIsi2, aNil, aCons, pNil, pCons, tAndD, tOrD, tNotD, tsYes, gMns, gMod, gFdiv, gPow, gLe, gGt, gGe, gEq_ii, gEq_ss, gEq_bb, gEq_nn, gEq_ni, gEq_in, gEq_ns, gEq_sn, gEq_si, gEq_is, sAsg, nName, sRet, sRetN, sExpr, sIf, sNext, sBreak, sCont, sFor, getS, setS, wipeS, endsD, asKeys, toKey, List.length_cons, List.length_nil, List.set_cons_zero, List.set_cons_succ, List.set_nil, Nat.zero_add, Nat.reduceAdd, Option.some.injEq, exists_and_left, exists_eq_left', exists_eq_left, id_eq, if_true, if_false, ite_true, ite_false, Bool.not_true, Bool.not_false, Bool.false_eq_true, not_false_eq_true, not_true_eq_false, reduceCtorEq, true_and, and_true, ne_eq, decide_eq_true_eq, isiN, isiCls, List.mem_cons, String.reduceEq, String.reduceBEq, or_true, true_or, or_false, false_or, Bool.or_true, Bool.true_or, Bool.false_or, Bool.or_false, Bool.and_false, Bool.false_and, Bool.true_and, Bool.and_true, beq_self_eq_true, decide_true, decide_false, tTr_e, vTru_non, vTru_bl, vTru_int, vTru_str, vTru_tup, vTru_ref, oTru_l, oTru_d, tBl_e, vBl_bl, eNeg_e, vNeg_int, eChain_e, eAnd_e, eOr_e, eNot_e, oSome_e, vSome_int, gAdd_ii, gAdd_ss, gAdd_tt, gAdd_rr, gI_ii, gI0_ii, gMulA_ii, gMulA_ri, gMulA_ti, gLt_ii, gLt_ss, gLt2_ii, gLt2_ss, eTab_e, vTab_s, eGet2_e, vGetO_r, vGet2_s, gIs_n, gIs_b, isNon_n, isNon_b, isNon_i, isNon_s, isNon_t, isNon_r, gIx_r, oIx_li, oIx_ds, oIx_di, gIx_ti, gIx_fi, gIx_si, gSl_t, gSl_s, gSl_f, gSl_r, gIn_ss, gIn_t, gIn_r, oIn_l, oIn_ds, gLen_s, gLen_t, gLen_f, gLen_r, oLen_l, oLen_d, gAbs_i, gMax2_ii, gMin2_ii, gInt1_i, gInt1_b, gList_t, gList_f, gList_r, gTuple_t, gTuple_f, gTuple_r, gSum_r, gAll_r, gIsi_x, tyD_n, tyD_b, tyD_i, tyD_s, tyD_t, tyD_f, tyD_r, oTy_l, oTy_d, tyM_s, tyM_r, oTyM_l, oTyM_d, gAppend_r, gPop0_r, gPopAt_r, gClear_r, gReverse_r, gJoin_r, gUpper_s, gStr_i, gSorted_r, iSeq_e, vSeq_r, vSeq_f, vSeq_t, vSeq_s, iRange1_e, vRng1_i, iRange2_e, vRng2_i, iZipD_e, vZip_r, vZip_t, iEnumD_e, vEnum_r, nTupL_t, nTupL_r, nCons_c, nNil_n, sSub_e, vPut_r, oPut_ds, oPut_di, oPut_l]
  refine laying_spec p7 (by omega) (tf.kp g7) (th.kp g7) (by omega) (by omega) (by omega) fun xs S8 p8 g8 => ?_
  have g9 := g7.trans g8
  try simp (config := {implicitDefEqProofs := false, proj := false}) only [nx_mk, rt_mk, bk_mk, ct_mk, eVar, eC, eOp, eIf, eTup, eLst, eDict0, eDict, eSl, oNo, eCall, eCB, eM, eLc, eIsi2, aNil, aCons, pNil, pCons, tAndD, tOrD, tNotD, tsYes, gMns, gMod, gFdiv, gPow, gLe, gGt, gGe, gEq_ii, gEq_ss, gEq_bb, gEq_nn, gEq_ni, gEq_in, gEq_ns, gEq_sn, gEq_si, gEq_is, sAsg, nName, sRet, sRetN, sExpr, sIf, sNext, sBreak, sCont, sFor, getS, setS, wipeS, endsD, asKeys, toKey, List.length_cons, List.length_nil, List.set_cons_zero, List.set_cons_succ, List.set_nil, Nat.zero_add, Nat.reduceAdd, Option.some.injEq, exists_and_left, exists_eq_left', exists_eq_left, id_eq, if_true, if_false, ite_true, ite_false, Bool.not_true, Bool.not_false, Bool.false_eq_true, not_false_eq_true, not_true_eq_false, reduceCtorEq, true_and, and_true, ne_eq, decide_eq_true_eq, isiN, isiCls, List.mem_cons, String.reduceEq, String.reduceBEq, or_true, true_or, or_false, false_or, Bool.or_true, Bool.true_or, Bool.false_or, Bool.or_false, Bool.and_false, Bool.false_and, Bool.true_and, Bool.and_true, beq_self_eq_true, decide_true, decide_false, tTr_e, vTru_non, vTru_bl, vTru_int, vTru_str, vTru_tup, vTru_ref, oTru_l, oTru_d, tBl_e, vBl_bl, eNeg_e, vNeg_int, eChain_e, eAnd_e, eOr_e, eNot_e, oSome_e, vSome_int, gAdd_ii, gAdd_ss, gAdd_tt, gAdd_rr, gI_ii, gI0_ii, gMulA_ii, gMulA_ri, gMulA_ti, gLt_ii, gLt_ss, gLt2_ii, gLt2_ss, eTab_e, vTab_s, eGet2_e, vGetO_r, vGet2_s, gIs_n, gIs_b, isNon_n, isNon_b, isNon_i, isNon_s, isNon_t, isNon_r, gIx_r, oIx_li, oIx_ds, oIx_di, gIx_ti, gIx_fi, gIx_si, gSl_t, gSl_s, gSl_f, gSl_r, gIn_ss, gIn_t, gIn_r, oIn_l, oIn_ds, gLen_s, gLen_t, gLen_f, gLen_r, oLen_l, oLen_d, gAbs_i, gMax2_ii, gMin2_ii, gInt1_i, gInt1_b, gList_t, gList_f, gList_r, gTuple_t, gTuple_f, gTuple_r, gSum_r, gAll_r, gIsi_x, tyD_n, tyD_b, tyD_i, tyD_s, tyD_t, tyD_f, tyD_r, oTy_l, oTy_d, tyM_s, tyM_r, oTyM_l, oTyM_d, gAppend_r, gPop0_r, gPopAt_r, gClear_r, gReverse_r, gJoin_r, gUpper_s, gStr_i, gSorted_r, iSeq_e, vSeq_r, vSeq_f, vSeq_t, vSeq_s, iRange1_e, vRng1_i, iRange2_e, vRng2_i, iZipD_e, vZip_r, vZip_t, iEnumD_e, vEnum_r, nTupL_t, nTupL_r, nCons_c, nNil_n, sSub_e, vPut_r, oPut_ds, oPut_di, oPut_l]
  exact law6 rfl p8 (by omega) (td.kp g8) (tf.kp g9) (tp.kp g9) (th.kp g9) (tn.kp g9) hdl (by omega) (by omega) hpl hhl hnl fun _ => rfl
end LW
open PySem PySem.W PyProof.Rows
set_option maxHeartbeats 0 in
theorem PySem.Challenge.cw_dykelengths_k08_order_and_days_holds : PySem.Challenge.rw_dykelengths_k08_order_and_days.Holds := by
  w_on; o_law; k_head; (case hw => w_witness2)
  k_fill
  refine L2.walk_ofK (l := PySem.Challenge.rw_dykelengths_k08_order_and_days) (n := 63) (k := 5) (x := "_law_script") (CX := L2.CX0) (sp := fun K => DL.spD K 1 LW.m_law) rfl (by decide) rfl ⟨rfl, by decide, by decide⟩ (fun w h Y => PySem.W.kIn_of Y) ?F (fun _ H a ns hl o hS => DL.law_sp LW.law_true H a ns hl o hS) (fun _ _ _ _ h => h)
  case F =>
    intro w mg fa h KX G hmg
    refine' LW.law_mk KX G hmg ?T ?a2 ?l2 ?c2 ?k2
    (case a2 => k_is); (case l2 => k_is); (case c2 => k_is); (case k2 => k_is)
    case T =>
      refine' ⟨?f0, ?f1, ?f2, ?f3, ?f4, ?f5, ?f6, ?f7, ?f8, ?f9, ?f10, ?f11, ?f12, ?f13, ?f14, ?f15, ?f16, ?f17, ?n0, ?n1, ?n2, ?n3, ?n4, ?n5, ?n6, ?n7, ?n8, ?n9, ?n10, ?t0⟩
      case f0 =>
        refine' LW.ft_mk KX G ?a ?l ?c ?k (fun _ _ _ _ _ _ us hl => match us, hl with | [_], _ => rfl)
        (case a => k_is); (case l => k_is); (case c => k_is); (case k => k_is)
      case f1 =>
        refine' LW.ft_mk KX G ?a ?l ?c ?k (fun _ _ _ _ _ _ us hl => match us, hl with | [_, _], _ => rfl)
        (case a => k_is); (case l => k_is); (case c => k_is); (case k => k_is)
      case f2 =>
        refine' LW.ft_mk KX G ?a ?l ?c ?k (fun _ _ _ _ _ _ us hl => match us, hl with | [_, _], _ => rfl)
        (case a => k_is); (case l => k_is); (case c => k_is); (case k => k_is)
      case f3 =>
        refine' LW.ft_mk KX G ?a ?l ?c ?k (fun _ _ _ _ _ _ us hl => match us, hl with | [_, _, _], _ => rfl)
        (case a => k_is); (case l => k_is); (case c => k_is); (case k => k_is)
      case f4 =>
        refine' LW.ft_mk KX G ?a ?l ?c ?k (fun _ _ _ _ _ _ us hl => match us, hl with | [_, _], _ => rfl)
        (case a => k_is); (case l => k_is); (case c => k_is); (case k => k_is)
      case f5 =>
        refine' LW.ft_mk KX G ?a ?l ?c ?k (fun _ _ _ _ _ _ us hl => match us, hl with | [_, _, _], _ => rfl)
        (case a => k_is); (case l => k_is); (case c => k_is); (case k => k_is)
      case f6 =>
        refine' LW.ft_mk KX G ?a ?l ?c ?k (fun _ _ _ _ _ _ us hl => match us, hl with | [_, _, _], _ => rfl)
        (case a => k_is); (case l => k_is); (case c => k_is); (case k => k_is)
      case f7 =>
        refine' LW.ft_mk KX G ?a ?l ?c ?k (fun _ _ _ _ _ _ us hl => match us, hl with | [_, _, _], _ => rfl)
        (case a => k_is); (case l => k_is); (case c => k_is); (case k => k_is)
      case f8 =>
        refine' LW.ft_mk KX G ?a ?l ?c ?k (fun _ _ _ _ _ _ us hl => match us, hl with | [_, _, _, _, _], _ => rfl)
        (case a => k_is); (case l => k_is); (case c => k_is); (case k => k_is)
      case f9 =>
        refine' LW.ft_mk KX G ?a ?l ?c ?k (fun _ _ _ _ _ _ us hl => match us, hl with | [_, _, _, _], _ => rfl)
        (case a => k_is); (case l => k_is); (case c => k_is); (case k => k_is)
      case f10 =>
        refine' LW.ft_mk KX G ?a ?l ?c ?k (fun _ _ _ _ _ _ us hl => match us, hl with | [_], _ => rfl)
        (case a => k_is); (case l => k_is); (case c => k_is); (case k => k_is)
      case f11 =>
        refine' LW.ft_mk KX G ?a ?l ?c ?k (fun _ _ _ _ _ _ us hl => match us, hl with | [_, _], _ => rfl)
        (case a => k_is); (case l => k_is); (case c => k_is); (case k => k_is)
      case f12 =>
        refine' LW.ft_mk KX G ?a ?l ?c ?k (fun _ _ _ _ _ _ us hl => match us, hl with | [_], _ => rfl)
        (case a => k_is); (case l => k_is); (case c => k_is); (case k => k_is)
      case f13 =>
        refine' LW.ft_mk KX G ?a ?l ?c ?k (fun _ _ _ _ _ _ us hl => match us, hl with | [_, _], _ => rfl)
        (case a => k_is); (case l => k_is); (case c => k_is); (case k => k_is)
      case f14 =>
        refine' LW.ft_mk KX G ?a ?l ?c ?k (fun _ _ _ _ _ _ us hl => match us, hl with | [_, _], _ => rfl)
        (case a => k_is); (case l => k_is); (case c => k_is); (case k => k_is)
      case f15 =>
        refine' LW.ft_mk KX G ?a ?l ?c ?k (fun _ _ _ _ _ _ us hl => match us, hl with | [_, _], _ => rfl)
        (case a => k_is); (case l => k_is); (case c => k_is); (case k => k_is)
      case f16 =>
        refine' LW.ft_mk KX G ?a ?l ?c ?k (fun _ _ _ _ _ _ us hl => match us, hl with | [_], _ => rfl)
        (case a => k_is); (case l => k_is); (case c => k_is); (case k => k_is)
      case f17 =>
        refine' LW.ft_mk KX G ?a ?l ?c ?k (fun _ _ _ _ _ _ us hl => match us, hl with | [_], _ => rfl)
        (case a => k_is); (case l => k_is); (case c => k_is); (case k => k_is)
      case n0 => exact PySem.W.mg_none_of KX G (by k_is)
      case n1 => exact PySem.W.mg_none_of KX G (by k_is)
      case n2 => exact PySem.W.mg_none_of KX G (by k_is)
      case n3 => exact PySem.W.mg_none_of KX G (by k_is)
      case n4 => exact PySem.W.mg_none_of KX G (by k_is)
      case n5 => exact PySem.W.mg_none_of KX G (by k_is)
      case n6 => exact PySem.W.mg_none_of KX G (by k_is)
      case n7 => exact PySem.W.mg_none_of KX G (by k_is)
      case n8 => exact PySem.W.mg_none_of KX G (by k_is)
      case n9 => exact PySem.W.mg_none_of KX G (by k_is)
      case n10 => exact PySem.W.mg_none_of KX G (by k_is)
      case t0 =>
        refine' ⟨_, _, _, PySem.W.mg_of KX G (by k_is), ⟨?q2, ?q3, by decide⟩, ?q5⟩
        (case q2 => k_is)
        (case q3 => exact ⟨⟨_, _, rfl, rfl⟩, ⟨_, _, rfl, rfl⟩, ⟨_, _, rfl, rfl⟩, ⟨_, _, rfl, rfl⟩, ⟨_, _, rfl, rfl⟩, ⟨_, _, rfl, rfl⟩, ⟨_, _, rfl, rfl⟩, ⟨_, _, rfl, rfl⟩, trivial⟩)
        (case q5 => exact ⟨⟨_, by k_is⟩, ⟨_, by k_is⟩, ⟨_, by k_is⟩, ⟨_, by k_is⟩, ⟨_, by k_is⟩, ⟨_, by k_is⟩, ⟨_, by k_is⟩, ⟨_, by k_is⟩, trivial⟩)
