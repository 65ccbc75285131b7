import PyProof.Rows.All
import Wide.All
import OpenK.AllK
import Wide.FinOn
import HandS.ForMost
import HandS.Wide
import HandS.IsInst
import HandS.TupAny
import HandS.Style
import KE.DataEq
import PySem.Challenge.RW_dykelengths_k01_names_known
set_option Elab.async false
set_option linter.all false
set_option maxRecDepth 100000
set_option maxHeartbeats 4000000
/-! pure data over the abstract heap: tuples are values, lists and dicts stand in a store -/
namespace DL
open PySem PySem.Spec PyProof.Rows L2
/-! ### data, store -/
inductive D where
  | non | bl (b : Bool) | int (i : Int) | str (s : Str) | tup (xs : List D) | ref (a : Addr) | fl (xs : List D) | ty (n : String)
  deriving Inhabited
inductive O where
  | lst (xs : List D) | dk (kvs : List (Key × D))
abbrev Sto := Addr → Option O
abbrev Env := List (Option D)
abbrev DK := D → Sto → Prop
abbrev DE := Env → Sto → DK → Prop
abbrev DT := Env → Sto → (Bool → Sto → Prop) → Prop
abbrev DA := Env → Sto → (List D → Sto → Prop) → Prop
def updS (S : Sto) (a : Addr) (o : O) : Sto := fun b => if b = a then some o else S b
theorem updS_same {S : Sto} {a : Addr} {o : O} : updS S a o a = some o := by unfold updS; rw [if_pos rfl]
theorem updS_ne {S : Sto} {a b : Addr} {o : O} (h : b ≠ a) : updS S a o b = S b := by unfold updS; rw [if_neg h]
theorem updS_updS {S : Sto} {a : Addr} {o u : O} : updS (updS S a o) a u = updS S a u := by
  funext b; unfold updS; split <;> rfl
theorem neS {S : Sto} {a b : Addr} {o : O} (h : S a = some o) (h' : S b = none) : a ≠ b := by
  intro e; subst e; rw [h] at h'; cases h'
/-- a list that never changes: locked, or of the written part -/
def FrL (K : PySem.W.Frag) (H : Hp) (a : Addr) (vs : List V) : Prop := (∃ o, H a = some (.frz o (.lst vs))) ∨
    ∃ (o : Obj) (its : Array Value) (n : Nat), K.lookup a = some o ∧ o.cls = .type "list" ∧ o.dict = none ∧ o.data = .seq its n ∧ its.size ≤ sizeLine ∧ Vals vs its.toList
theorem FrL.sq {K : PySem.W.Frag} {H : Hp} {a : Addr} {vs : List V} (h : FrL K H a vs) : SqL K H a vs := by
  rcases h with h | h
  · exact .inl (.inr h)
  · exact .inr h
mutual
inductive Rep (K : PySem.W.Frag) (H : Hp) : V → D → Prop
  | non : Rep K H .non .non
  | bl (b : Bool) : Rep K H (.bl b) (.bl b)
  | int (i : Int) : Rep K H (.int i) (.int i)
  | str (s : Str) : Rep K H (.str s) (.str s)
  | ref (a : Addr) : Rep K H (.ref a) (.ref a)
  | ty (n : String) : Rep K H (.ty n) (.ty n)
  | tup {a : Addr} {vs : List V} {ds : List D} (h : SqT K H a vs) (r : Reps K H vs ds) : Rep K H (.ref a) (.tup ds)
  | fl {a : Addr} {vs : List V} {ds : List D} (h : FrL K H a vs) (r : Reps K H vs ds) : Rep K H (.ref a) (.fl ds)
inductive Reps (K : PySem.W.Frag) (H : Hp) : List V → List D → Prop
  | nil : Reps K H [] []
  | cons {v : V} {d : D} {vs : List V} {ds : List D} (h : Rep K H v d) (r : Reps K H vs ds) : Reps K H (v :: vs) (d :: ds)
end
/-- tuples and locked lists stay -/
structure Tx (K : PySem.W.Frag) (H H' : Hp) : Prop where
  tup : ∀ a vs, SqT K H a vs → SqT K H' a vs
  fl : ∀ a vs, FrL K H a vs → FrL K H' a vs
theorem Tx.refl {K : PySem.W.Frag} {H : Hp} : Tx K H H := ⟨fun _ _ h => h, fun _ _ h => h⟩
theorem Tx.trans {K : PySem.W.Frag} {H H1 H2 : Hp} (a : Tx K H H1) (b : Tx K H1 H2) : Tx K H H2 := ⟨fun c vs h => b.tup c vs (a.tup c vs h), fun c vs h => b.fl c vs (a.fl c vs h)⟩
mutual
theorem Rep.mono {K : PySem.W.Frag} {H H' : Hp} (t : Tx K H H') : ∀ {v : V} {d : D}, Rep K H v d → Rep K H' v d
  | _, _, .non => .non
  | _, _, .bl b => .bl b
  | _, _, .int i => .int i
  | _, _, .str s => .str s
  | _, _, .ref a => .ref a
  | _, _, .ty n => .ty n
  | _, _, .tup h r => .tup (t.tup _ _ h) (Reps.mono t r)
  | _, _, .fl h r => .fl (t.fl _ _ h) (Reps.mono t r)
theorem Reps.mono {K : PySem.W.Frag} {H H' : Hp} (t : Tx K H H') : ∀ {vs : List V} {ds : List D}, Reps K H vs ds → Reps K H' vs ds
  | _, _, .nil => .nil
  | _, _, .cons h r => .cons (Rep.mono t h) (Reps.mono t r)
end
section
variable {K : PySem.W.Frag} {H : Hp}
theorem Reps.length : ∀ {vs : List V} {ds : List D}, Reps K H vs ds → vs.length = ds.length
  | _, _, .nil => rfl
  | _, _, .cons _ r => by rw [List.length_cons, List.length_cons, Reps.length r]
theorem Reps.append : ∀ {vs us : List V} {ds es : List D}, Reps K H vs ds → Reps K H us es → Reps K H (vs ++ us) (ds ++ es)
  | _, _, _, _, .nil, s => s
  | _, _, _, _, .cons h r, s => .cons h (Reps.append r s)
theorem Reps.get : ∀ {vs : List V} {ds : List D} {i : Nat} {d : D}, Reps K H vs ds → ds[i]? = some d → ∃ v, vs[i]? = some v ∧ Rep K H v d
  | _, _, _, _, .nil, e => by simp at e
  | _, _, 0, _, .cons h _, e => by simp at e; subst e; exact ⟨_, rfl, h⟩
  | _, _, i + 1, d, .cons _ r, e => by
    obtain ⟨v, h1, h2⟩ := Reps.get (i := i) (d := d) r (by simpa using e)
    exact ⟨v, by simpa using h1, h2⟩
theorem Reps.getV : ∀ {vs : List V} {ds : List D} {i : Nat} {v : V}, Reps K H vs ds → vs[i]? = some v → ∃ d, ds[i]? = some d ∧ Rep K H v d
  | _, _, _, _, .nil, e => by simp at e
  | _, _, 0, _, .cons h _, e => by simp at e; subst e; exact ⟨_, rfl, h⟩
  | _, _, i + 1, d, .cons _ r, e => by
    obtain ⟨v, h1, h2⟩ := Reps.getV (i := i) (v := d) r (by simpa using e)
    exact ⟨v, by simpa using h1, h2⟩
theorem Reps.take : ∀ {vs : List V} {ds : List D} (n : Nat), Reps K H vs ds → Reps K H (vs.take n) (ds.take n)
  | _, _, 0, _ => by rw [List.take_zero, List.take_zero]; exact .nil
  | _, _, _ + 1, .nil => .nil
  | _, _, n + 1, .cons h r => .cons h (Reps.take n r)
theorem Reps.drop : ∀ {vs : List V} {ds : List D} (n : Nat), Reps K H vs ds → Reps K H (vs.drop n) (ds.drop n)
  | _, _, 0, r => r
  | _, _, _ + 1, .nil => .nil
  | _, _, n + 1, .cons _ r => Reps.drop n r
theorem Reps.set : ∀ {vs : List V} {ds : List D} (n : Nat) {v : V} {d : D}, Rep K H v d → Reps K H vs ds → Reps K H (vs.set n v) (ds.set n d)
  | _, _, _, _, _, _, .nil => .nil
  | _, _, 0, _, _, q, .cons h r => .cons q r
  | _, _, n + 1, _, _, q, .cons h r => .cons h (Reps.set n q r)
theorem Reps.eraseIdx : ∀ {vs : List V} {ds : List D} (n : Nat), Reps K H vs ds → Reps K H (vs.eraseIdx n) (ds.eraseIdx n)
  | _, _, _, .nil => .nil
  | _, _, 0, .cons h r => r
  | _, _, n + 1, .cons h r => .cons h (Reps.eraseIdx n r)
theorem Reps.dropLast : ∀ {vs : List V} {ds : List D}, Reps K H vs ds → Reps K H vs.dropLast ds.dropLast
  | _, _, .nil => .nil
  | _, _, .cons h .nil => .nil
  | _, _, .cons h (.cons h2 r) => .cons h (Reps.dropLast (.cons h2 r))
theorem Reps.reverse {vs : List V} {ds : List D} : Reps K H vs ds → Reps K H vs.reverse ds.reverse := by
  intro h
  induction ds generalizing vs with
  | nil => cases h; exact .nil
  | cons d r ih =>
    cases h with
    | cons h1 h2 =>
      rw [List.reverse_cons, List.reverse_cons]
      exact (ih h2).append (.cons h1 .nil)
end
/-- keys and what they hold -/
def KReps (K : PySem.W.Frag) (H : Hp) : List (Key × V) → List (Key × D) → Prop := Paired fun (p : Key × V) (q : Key × D) => p.1 = q.1 ∧ Rep K H p.2 q.2
def OAt (K : PySem.W.Frag) (H : Hp) (a : Addr) : O → Prop
  | .lst ds => ∃ vs, H a = some (.lst vs) ∧ Reps K H vs ds
  | .dk kvs => ∃ ws, H a = some (.dK ws) ∧ KReps K H ws kvs
def SRep (K : PySem.W.Frag) (S : Sto) (H : Hp) : Prop := ∀ a o, S a = some o → OAt K H a o
/-- what happens: tuples stay; what is hidden from the store stays hidden, as it is -/
structure Stp (K : PySem.W.Frag) (S : Sto) (H : Hp) (S' : Sto) (H' : Hp) : Prop where
  tx : Tx K H H'
  hid : ∀ z o, S z = none → H z = some o → S' z = none ∧ H' z = some o
section
variable {K : PySem.W.Frag} {S S1 S2 : Sto} {H H1 H2 : Hp} {a p : Addr}
theorem Stp.refl : Stp K S H S H := ⟨.refl, fun _ _ a b => ⟨a, b⟩⟩
theorem Stp.trans (x : Stp K S H S1 H1) (y : Stp K S1 H1 S2 H2) : Stp K S H S2 H2 := ⟨x.tx.trans y.tx, fun z o a b => y.hid z o (x.hid z o a b).1 (x.hid z o a b).2⟩
theorem OAt.mut {o : O} (h : OAt K H a o) : ∃ u, H a = some u ∧ Mut (some u) ∧ (∀ xs, u ≠ .tup xs) ∧ ∀ ob w, u ≠ .frz ob w := by
  cases o with
  | lst ds => obtain ⟨vs, e, _⟩ := h; exact ⟨_, e, trivial, (fun _ z => nomatch z), (fun _ _ z => nomatch z)⟩
  | dk kvs => obtain ⟨vs, e, _⟩ := h; exact ⟨_, e, trivial, (fun _ z => nomatch z), (fun _ _ z => nomatch z)⟩
theorem SRep.free (h : SRep K S H) (e : H p = none) : S p = none := by
  cases q : S p with
  | none => rfl
  | some o =>
    obtain ⟨u, e2, _⟩ := (h p o q).mut
    rw [e] at e2; cases e2
theorem KReps.mono {ws : List (Key × V)} {kvs : List (Key × D)} (t : Tx K H H1) (h : KReps K H ws kvs) : KReps K H1 ws kvs := Paired.mapP h fun _ _ q => ⟨q.1, q.2.mono t⟩
theorem OAt.mono {o : O} (t : Tx K H H1) (e : H1 a = H a) (h : OAt K H a o) : OAt K H1 a o := by
  cases o with
  | lst ds => obtain ⟨vs, e1, r⟩ := h; exact ⟨vs, by rw [e]; exact e1, r.mono t⟩
  | dk kvs => obtain ⟨vs, e1, r⟩ := h; exact ⟨vs, by rw [e]; exact e1, KReps.mono t r⟩
theorem tx_upd {ho : HO} (hn : ∀ vs, H p ≠ some (.tup vs)) (hf : ∀ ob w, H p ≠ some (.frz ob w)) : Tx K H (upd H p ho) := by
  refine ⟨fun b vs h => ?_, fun b vs h => ?_⟩
  · rcases h with (h | ⟨o, h⟩) | h
    · refine .inl (.inl ?_)
      rw [upd_ne (fun e => hn vs (by rw [← e]; exact h))]
      exact h
    · refine .inl (.inr ⟨o, ?_⟩)
      rw [upd_ne (fun e => hf _ _ (by rw [← e]; exact h))]
      exact h
    · exact .inr h
  · rcases h with ⟨o, h⟩ | h
    · refine .inl ⟨o, ?_⟩
      rw [upd_ne (fun e => hf _ _ (by rw [← e]; exact h))]
      exact h
    · exact .inr h
theorem tx_new {ho : HO} (h : H p = none) : Tx K H (upd H p ho) := tx_upd (fun vs => by rw [h]; intro z; cases z) (fun ob w => by rw [h]; intro z; cases z)
theorem tx_mut {o : O} {ho : HO} (h : OAt K H p o) : Tx K H (upd H p ho) := by
  obtain ⟨u, e, _, h1, h2⟩ := h.mut
  exact tx_upd (fun vs => by rw [e]; intro z; exact h1 vs (Option.some.inj z)) (fun ob w => by rw [e]; intro z; exact h2 ob w (Option.some.inj z))
/-- a new tuple -/
theorem stp_tup {vs : List V} (r : SRep K S H) (h : H p = none) : Stp K S H S (upd H p (.tup vs)) ∧ SRep K S (upd H p (.tup vs)) := by
  refine ⟨⟨tx_new h, fun z o a b => ⟨a, ?_⟩⟩, fun a o e => (r a o e).mono (tx_new h) (upd_ne ?_)⟩
  · rw [upd_ne (ne_of_none b h)]; exact b
  · intro z; subst z; rw [SRep.free r h] at e; cases e
/-- a new object of the store -/
theorem stp_new {o : O} {ho : HO} (r : SRep K S H) (h : H p = none) (new : OAt K (upd H p ho) p o) : Stp K S H (updS S p o) (upd H p ho) ∧ SRep K (updS S p o) (upd H p ho) := by
  refine ⟨⟨tx_new h, fun z u a b => ?_⟩, fun a u e => ?_⟩
  · have ne := ne_of_none b h
    exact ⟨by rw [updS_ne ne]; exact a, by rw [upd_ne ne]; exact b⟩
  · by_cases q : a = p
    · subst q
      rw [updS_same] at e
      cases e
      exact new
    · rw [updS_ne q] at e
      exact (r a u e).mono (tx_new h) (upd_ne q)
/-- an object of the store is written -/
theorem stp_mut {o o' : O} {ho : HO} (r : SRep K S H) (h : S p = some o) (new : OAt K (upd H p ho) p o') : Stp K S H (updS S p o') (upd H p ho) ∧ SRep K (updS S p o') (upd H p ho) := by
  have t : Tx K H (upd H p ho) := tx_mut (r p o h)
  refine ⟨⟨t, fun z u a b => ?_⟩, fun a u e => ?_⟩
  · have ne : z ≠ p := fun e => by subst e; rw [h] at a; cases a
    exact ⟨by rw [updS_ne ne]; exact a, by rw [upd_ne ne]; exact b⟩
  · by_cases q : a = p
    · subst q
      rw [updS_same] at e
      cases e
      exact new
    · rw [updS_ne q] at e
      exact (r a u e).mono t (upd_ne q)
/-- a hidden object is written, a hidden one comes -/
theorem stp_hid {ho ho' : HO} (r : SRep K S H) (n : S p = none) (h : H p = some ho') (m1 : ∀ vs, ho' ≠ .tup vs) (m2 : ∀ ob w, ho' ≠ .frz ob w) : Tx K H (upd H p ho) ∧ SRep K S (upd H p ho) := by
  have t : Tx K H (upd H p ho) := tx_upd (fun vs => by rw [h]; intro z; exact m1 vs (Option.some.inj z)) (fun ob w => by rw [h]; intro z; exact m2 ob w (Option.some.inj z))
  exact ⟨t, fun a o e => (r a o e).mono t (upd_ne (neS e n))⟩
end
/-! ### slots -/
def getS : Nat → Env → Option D
  | _, [] => none
  | 0, x :: _ => x
  | i + 1, _ :: r => getS i r
def setS : Nat → D → Env → Env
  | _, _, [] => []
  | 0, d, _ :: r => some d :: r
  | i + 1, d, x :: r => x :: setS i d r
def wipeS : Env → List Nat → Env
  | σ, [] => σ
  | σ, i :: r => (wipeS σ r).set i none
theorem getS_eq : ∀ (i : Nat) (σ : Env), getS i σ = (σ[i]?).join
  | _, [] => by simp [getS]
  | 0, x :: _ => by cases x <;> rfl
  | i + 1, _ :: r => by simpa [getS] using getS_eq i r
theorem setS_eq (d : D) : ∀ (i : Nat) (σ : Env), setS i d σ = σ.set i (some d)
  | _, [] => by simp [setS]
  | 0, x :: _ => rfl
  | i + 1, x :: r => by simp [setS, setS_eq d i r]
structure ERep (K : PySem.W.Frag) (H : Hp) (sv : L2.St) (σ : Env) : Prop where
  len : sv.length = σ.length
  at_ : ∀ i d, getS i σ = some d → ∃ v, sv[i]? = some (some v) ∧ Rep K H v d
section
variable {K : PySem.W.Frag} {S S1 S2 : Sto} {H H1 H2 : Hp} {sv : L2.St} {σ : Env}
theorem ERep.mono (t : Tx K H H1) (e : ERep K H sv σ) : ERep K H1 sv σ := ⟨e.len, fun i d q => let ⟨v, a, b⟩ := e.at_ i d q; ⟨v, a, b.mono t⟩⟩
theorem ERep.set {i : Nat} {v : V} {d : D} (e : ERep K H sv σ) (r : Rep K H v d) : ERep K H (sv.set i (some v)) (setS i d σ) := by
  rw [setS_eq]
  refine ⟨by simpa using e.len, fun j c q => ?_⟩
  rw [getS_eq] at q
  by_cases hj : i = j
  · subst hj
    by_cases hl : i < σ.length
    · rw [List.getElem?_set_self hl] at q
      have : d = c := Option.some.inj q
      subst this
      exact ⟨v, List.getElem?_set_self (by rw [e.len]; exact hl), r⟩
    · rw [List.getElem?_eq_none (by simpa using Nat.le_of_not_lt hl)] at q
      cases q
  · rw [List.getElem?_set_ne hj] at q ⊢
    exact e.at_ j c (by rw [getS_eq]; exact q)
theorem ERep.wipe1 {i : Nat} (e : ERep K H sv σ) : ERep K H (sv.set i none) (σ.set i none) := by
  refine ⟨by simpa using e.len, fun j c q => ?_⟩
  rw [getS_eq] at q
  by_cases hj : i = j
  · subst hj
    by_cases hl : i < σ.length
    · rw [List.getElem?_set_self hl] at q; cases q
    · rw [List.getElem?_eq_none (by simpa using Nat.le_of_not_lt hl)] at q; cases q
  · rw [List.getElem?_set_ne hj] at q ⊢
    exact e.at_ j c (by rw [getS_eq]; exact q)
theorem ERep.wipe (e : ERep K H sv σ) : ∀ vs : List Nat, ERep K H (wipe sv vs) (wipeS σ vs)
  | [] => e
  | _ :: vs => (ERep.wipe e vs).wipe1
end
theorem wipe_set {i : Nat} {y : Option V} : ∀ {vs : List Nat} {s : L2.St}, i ∈ vs → wipe (s.set i y) vs = wipe s vs
  | [], _, h => by cases h
  | v :: vs, s, h => by
    show (wipe (s.set i y) vs).set v none = (wipe s vs).set v none
    by_cases hi : i ∈ vs
    · rw [wipe_set hi]
    · have e : i = v := by
        rcases List.mem_cons.mp h with e | e
        · exact e
        · exact (hi e).elim
      subst e
      have out : ∀ (ws : List Nat) (t : L2.St), i ∉ ws → wipe (t.set i y) ws = (wipe t ws).set i y := by
        intro ws
        induction ws with
        | nil => intro t _; rfl
        | cons w r ih =>
          intro t hw
          show (wipe (t.set i y) r).set w none = ((wipe t r).set w none).set i y
          rw [ih t (fun z => hw (List.mem_cons_of_mem _ z)), List.set_comm _ _ (fun z => hw (by rw [z]; exact List.mem_cons_self))]
      rw [out vs s hi, List.set_set]
theorem wipe_wipe (s : L2.St) (vs : List Nat) : wipe (wipe s vs) vs = wipe s vs := by
  have key : ∀ (us : List Nat), (∀ u ∈ us, u ∈ vs) → wipe (wipe s us) vs = wipe s vs := by
    intro us
    induction us with
    | nil => intro _; rfl
    | cons u r ih =>
      intro h
      show wipe ((wipe s r).set u none) vs = wipe s vs
      rw [wipe_set (h u List.mem_cons_self)]
      exact ih fun w hw => h w (List.mem_cons_of_mem _ hw)
  exact key vs fun _ h => h
/-! ### what a reading says of data -/
/-- what is reached: a value that bears d, a store, a heap -/
abbrev Rch (K : PySem.W.Frag) (S : Sto) (H : Hp) (Q : DK) (Kt : VK) : Prop := ∀ v d S' H', Stp K S H S' H' → SRep K S' H' → Rep K H' v d → Q d S' → Kt v H'
def Snd (K : PySem.W.Frag) (t : TE) (f : DE) : Prop := ∀ (σ : Env) (S : Sto) (Q : DK) (sv : L2.St) (H : Hp) (Kt : VK), ERep K H sv σ → SRep K S H → f σ S Q → Rch K S H Q Kt → t sv H Kt
def SndT (K : PySem.W.Frag) (t : TT) (f : DT) : Prop := ∀ (σ : Env) (S : Sto) (Q : Bool → Sto → Prop) (sv : L2.St) (H : Hp) (Kt : Bool → Hp → Prop), ERep K H sv σ → SRep K S H → f σ S Q →
  (∀ b S' H', Stp K S H S' H' → SRep K S' H' → Q b S' → Kt b H') → t sv H Kt
def SndA (K : PySem.W.Frag) (t : TA) (f : DA) : Prop := ∀ (σ : Env) (S : Sto) (Q : List D → Sto → Prop) (sv : L2.St) (H : Hp) (Kt : List V → Hp → Prop), ERep K H sv σ → SRep K S H → f σ S Q →
  (∀ vs ds S' H', Stp K S H S' H' → SRep K S' H' → Reps K H' vs ds → Q ds S' → Kt vs H') → t sv H Kt
/-- operations by values -/
abbrev G2 := D → D → Sto → DK → Prop
abbrev GN := List D → Sto → DK → Prop
def SndR (K : PySem.W.Frag) (r : R2) (g : G2) : Prop := ∀ (x y : V) (a b : D) (S : Sto) (H : Hp) (Q : DK) (Kt : VK), SRep K S H → Rep K H x a → Rep K H y b → g a b S Q → Rch K S H Q Kt → r x y H Kt
def SndN (K : PySem.W.Frag) (r : List V → Hp → VK → Prop) (g : GN) : Prop := ∀ (xs : List V) (as : List D) (S : Sto) (H : Hp) (Q : DK) (Kt : VK), SRep K S H → Reps K H xs as → g as S Q → Rch K S H Q Kt → r xs H Kt
def SndM (K : PySem.W.Frag) (r : V → List V → Hp → VK → Prop) (g : D → GN) : Prop := ∀ (x : V) (a : D) (xs : List V) (as : List D) (S : Sto) (H : Hp) (Q : DK) (Kt : VK), SRep K S H → Rep K H x a → Reps K H xs as → g a as S Q → Rch K S H Q Kt → r x xs H Kt
structure CE (X : Cx) (e : Expr) (f : DE) : Prop where
  ok : ∃ t, PE X e t ∧ Snd X.K t f
structure CT (X : Cx) (e : Expr) (f : DT) : Prop where
  ok : ∃ t, PT X e t ∧ SndT X.K t f
structure CA (X : Cx) (es : List Expr) (f : DA) : Prop where
  ok : ∃ t, PA X es t ∧ SndA X.K t f
/-! ### names, constants -/
def eVar (i : Nat) : DE := fun σ S Q => match getS i σ with
  | some d => Q d S
  | none => False
def eC (d : D) : DE := fun _ S Q => Q d S
section
variable {X : Cx} {K : PySem.W.Frag} {e a b : Expr} {fe fa fb fc : DE} {pos : Pos} {S : Sto} {H : Hp}
theorem Rch.now {Q : DK} {Kt : VK} {v : V} {d : D} (r : SRep K S H) (k : Rch K S H Q Kt) (h : Rep K H v d) (q : Q d S) : Kt v H := k v d S H .refl r h q
theorem c_var (i : Nat) {x : Str} (hN : X.N[i]? = some x := by rfl) (hv : Vis X.env.scope x := by first | exact Or.inl rfl | exact Or.inr (Or.inl rfl) | exact Or.inr (Or.inr rfl)) (hd : (x == ("__debug__" : Str)) = false := by decide)
    (hcd : (x == ("__classdict__" : Str)) = false := by decide) : CE X (.Name x pos) (eVar i) := by
  refine ⟨_, pe_var (i := i) hN hv hd hcd, fun σ S Q sv H Kt he hs h k => ?_⟩
  unfold eVar at h
  cases q : getS i σ with
  | none => rw [q] at h; exact h.elim
  | some d =>
    rw [q] at h
    obtain ⟨v, e1, r⟩ := he.at_ i d q
    exact ⟨v, e1, k.now hs r h⟩
theorem snd_c {v : V} {d : D} (h : ∀ H, Rep K H v d) : Snd K (tC v) (eC d) := fun σ S Q sv H Kt he hs q k => k.now hs (h H) q
end
end DL
namespace DL
open PySem PySem.Spec PyProof.Rows L2
section
variable {X : Cx} {K : PySem.W.Frag} {e a b c : Expr} {es : List Expr} {fe fa fb fc : DE} {ft fu : DT} {fs : DA} {pos : Pos} {S : Sto} {H : Hp}
theorem c_int {i : Int} {j : Nat} : CE X (.Constant (.int i) j pos) (eC (.int i)) := ⟨_, pe_int, snd_c fun _ => .int i⟩
theorem c_str {x : Str} {j : Nat} : CE X (.Constant (.str x) j pos) (eC (.str x)) := ⟨_, pe_str, snd_c fun _ => .str x⟩
theorem c_bl {x : Bool} {j : Nat} : CE X (.Constant (.bool x) j pos) (eC (.bl x)) := ⟨_, pe_bl, snd_c fun _ => .bl x⟩
theorem c_non {j : Nat} : CE X (.Constant .none j pos) (eC .non) := ⟨_, pe_non, snd_c fun _ => .non⟩
theorem c_glob {x : Str} {u : Value} {v : V} {d : D} (hg : Gl X x) (hm : X.mg x = some u) (r : RelV v u) (h : ∀ H, Rep X.K H v d) (hd : (x == ("__debug__" : Str)) = false := by decide) : CE X (.Name x pos) (eC d) := ⟨_, pe_glob hg hm r hd, snd_c h⟩
/-! ### two-place operations -/
def eOp (g : G2) (fa fb : DE) : DE := fun σ S Q => fa σ S fun x S1 => fb σ S1 fun y S2 => g x y S2 Q
theorem snd_op {r : R2} {g : G2} {ta tb : TE} (hr : SndR K r g) (ha : Snd K ta fa) (hb : Snd K tb fb) : Snd K (tOp r ta tb) (eOp g fa fb) := fun σ S Q sv H Kt he hs q k =>
  ha σ S _ sv H _ he hs q fun v d S1 H1 s1 r1 v1 q1 =>
    hb σ S1 _ sv H1 _ (he.mono s1.tx) r1 q1 fun u d2 S2 H2 s2 r2 u2 q2 =>
      hr v u d d2 S2 H2 Q _ r2 (v1.mono s2.tx) u2 q2 fun v3 d3 S3 H3 s3 r3 v3' q3 => k v3 d3 S3 H3 ((s1.trans s2).trans s3) r3 v3' q3
theorem SndR.or1 {r r' : R2} {g : G2} (h : SndR K r g) : SndR K (fun x y H Q => r x y H Q ∨ r' x y H Q) g := fun x y a b S H Q Kt s ra rb q k => .inl (h x y a b S H Q Kt s ra rb q k)
/-- numbers under C -/
def gI (C : Int → Int → Prop) (h : Int → Int → D) : G2 := fun x y S Q => match x, y with
  | .int i, .int j => C i j ∧ Q (h i j) S
  | _, _ => False
def gI0 (h : Int → Int → D) : G2 := fun x y S Q => match x, y with
  | .int i, .int j => Q (h i j) S
  | _, _ => False
theorem sr_I {C : Int → Int → Prop} {h : Int → Int → D} {h' : Int → Int → V} (e : ∀ i j H, Rep K H (h' i j) (h i j)) : SndR K (rI C h') (gI C h) := fun x y a b S H Q Kt s ra rb q k => by
  cases ra <;> try exact False.elim q
  cases rb <;> try exact False.elim q
  exact ⟨_, _, rfl, rfl, q.1, k.now s (e _ _ _) q.2⟩
theorem sr_I0 {h : Int → Int → D} {h' : Int → Int → V} (e : ∀ i j H, Rep K H (h' i j) (h i j)) : SndR K (rI0 h') (gI0 h) := fun x y a b S H Q Kt s ra rb q k => by
  cases ra <;> try exact False.elim q
  cases rb <;> try exact False.elim q
  exact ⟨_, _, rfl, rfl, k.now s (e _ _ _) q⟩
/-- + of anything -/
def gAdd : G2 := fun x y S Q => match x, y with
  | .int i, .int j => Q (.int (i + j)) S
  | .str i, .str j => i.length + j.length ≤ sizeLine ∧ Q (.str (i ++ j)) S
  | .tup xs, .tup ys => xs.length + ys.length ≤ sizeLine ∧ Q (.tup (xs ++ ys)) S
  | .ref p, .ref q => ∃ xs ys, S p = some (.lst xs) ∧ S q = some (.lst ys) ∧ xs.length + ys.length ≤ sizeLine ∧ ∀ n, S n = none → Q (.ref n) (updS S n (.lst (xs ++ ys)))
  | _, _ => False
def rAddA (K : PySem.W.Frag) : R2 := fun x y H Q => ((rI0 fun i j => .int (i + j)) x y H Q ∨ (∃ i j, x = .str i ∧ y = .str j ∧ i.length + j.length ≤ sizeLine ∧ Q (.str (i ++ j)) H)) ∨ rCatA K x y H Q ∨ rCat x y H Q
theorem opAddA : OpR X (binaryOp .Add) (rAddA X.K) := OpR.or (OpR.or op_add op_add_str) (OpR.or op_catA op_cat)
theorem sr_add : SndR K (rAddA K) gAdd := fun x y a b S H Q Kt s ra rb q k => by
  cases ra with
  | int i =>
    cases rb <;> try exact False.elim q
    exact .inl (.inl ⟨_, _, rfl, rfl, k.now s (.int _) q⟩)
  | str i =>
    cases rb <;> try exact False.elim q
    exact .inl (.inr ⟨_, _, rfl, rfl, q.1, k.now s (.str _) q.2⟩)
  | @tup p vs ds h r =>
    cases rb <;> try exact False.elim q
    rename_i p2 us es h2 r2
    obtain ⟨hz, q⟩ := q
    have e1 := r.length
    have e2 := r2.length
    refine .inr (.inl ⟨p, p2, vs, us, rfl, rfl, h, h2, by omega, fun z => ?_, fun _ z => ?_, fun _ _ n hn => ?_⟩)
    · subst z
      cases r
      exact k.now s (.tup h2 r2) q
    · subst z
      cases r2
      rw [List.append_nil] at q
      exact k.now s (.tup h r) q
    · obtain ⟨st, sr⟩ := stp_tup (vs := vs ++ us) s hn
      exact k _ _ S _ st sr (.tup (.inl (.inl upd_same)) ((r.mono st.tx).append (r2.mono st.tx))) q
  | ref p =>
    cases rb <;> try exact False.elim q
    obtain ⟨xs, ys, h1, h2, hz, q⟩ := q
    rename_i p2
    obtain ⟨vs, e1, r1⟩ := s _ _ h1
    obtain ⟨us, e2, r2⟩ := s _ _ h2
    have l1 := r1.length
    have l2 := r2.length
    refine .inr (.inr ⟨p, p2, vs, us, rfl, rfl, e1, e2, by omega, fun n hn => ?_⟩)
    have tx := tx_new (K := K) (ho := .lst (vs ++ us)) hn
    obtain ⟨st, sr⟩ := stp_new (o := .lst (xs ++ ys)) s hn ⟨_, upd_same, (r1.mono tx).append (r2.mono tx)⟩
    exact k _ _ _ _ st sr (.ref n) (q n (s.free hn))
  | _ => exact False.elim q
theorem c_add (ha : CE X a fa) (hb : CE X b fb) : CE X (.BinOp a .Add b pos) (eOp gAdd fa fb) := by
  obtain ⟨ta, ha, sa⟩ := ha
  obtain ⟨tb, hb, sb⟩ := hb
  exact ⟨_, pe_op opAddA ha hb, snd_op sr_add sa sb⟩
abbrev gMns : G2 := gI0 fun i j => .int (i - j)
theorem c_sub (ha : CE X a fa) (hb : CE X b fb) : CE X (.BinOp a .Sub b pos) (eOp gMns fa fb) := by
  obtain ⟨ta, ha, sa⟩ := ha
  obtain ⟨tb, hb, sb⟩ := hb
  exact ⟨_, pe_op op_sub ha hb, snd_op (sr_I0 fun _ _ _ => .int _) sa sb⟩
abbrev gMul : G2 := gI CMulW fun i j => .int (i * j)
theorem c_mul (ha : CE X a fa) (hb : CE X b fb) : CE X (.BinOp a .Mult b pos) (eOp gMul fa fb) := by
  obtain ⟨ta, ha, sa⟩ := ha
  obtain ⟨tb, hb, sb⟩ := hb
  exact ⟨_, pe_op op_mulW ha hb, snd_op (sr_I fun _ _ _ => .int _) sa sb⟩
abbrev gMod : G2 := gI (fun _ j => 0 < j) fun i j => .int (i % j)
theorem c_mod (ha : CE X a fa) (hb : CE X b fb) : CE X (.BinOp a .Mod b pos) (eOp gMod fa fb) := by
  obtain ⟨ta, ha, sa⟩ := ha
  obtain ⟨tb, hb, sb⟩ := hb
  exact ⟨_, pe_op op_mod ha hb, snd_op (sr_I fun _ _ _ => .int _) sa sb⟩
abbrev gFdiv : G2 := gI CDivW fun i j => .int (i / j)
theorem c_fdiv (ha : CE X a fa) (hb : CE X b fb) : CE X (.BinOp a .FloorDiv b pos) (eOp gFdiv fa fb) := by
  obtain ⟨ta, ha, sa⟩ := ha
  obtain ⟨tb, hb, sb⟩ := hb
  exact ⟨_, pe_op op_fdivW ha hb, snd_op (sr_I fun _ _ _ => .int _) sa sb⟩
abbrev gPow : G2 := gI CPow fun i j => .int (i ^ j.toNat)
theorem c_pow (ha : CE X a fa) (hb : CE X b fb) : CE X (.BinOp a .Pow b pos) (eOp gPow fa fb) := by
  obtain ⟨ta, ha, sa⟩ := ha
  obtain ⟨tb, hb, sb⟩ := hb
  exact ⟨_, pe_op op_pow ha hb, snd_op (sr_I fun _ _ _ => .int _) sa sb⟩
def eNeg (fa : DE) : DE := fun σ S Q => fa σ S fun x S1 => match x with
  | .int i => Q (.int (-i)) S1
  | _ => False
theorem c_neg (ha : CE X a fa) : CE X (.UnaryOp .USub a pos) (eNeg fa) := by
  obtain ⟨ta, ha, sa⟩ := ha
  refine ⟨_, pe_un un_neg ha, fun σ S Q sv H Kt he hs q k => ?_⟩
  refine sa σ S _ sv H _ he hs q fun v d S1 H1 s1 r1 v1 q1 => ?_
  cases v1 <;> try exact False.elim q1
  exact ⟨_, rfl, k _ _ S1 H1 s1 r1 (.int _) q1⟩
/-! ### comparisons -/
/-- < <= > >= of numbers, of texts -/
def gLt : G2 := fun x y S Q => match x, y with
  | .int i, .int j => Q (.bl (decide (i < j))) S
  | .str i, .str j => Q (.bl (decide (i.cps.toList < j.cps.toList))) S
  | _, _ => False
def rLtA : R2 := fun x y H Q => (rI0 fun i j => .bl (decide (i < j))) x y H Q ∨ (∃ i j, x = .str i ∧ y = .str j ∧ Q (.bl (decide (i.cps.toList < j.cps.toList))) H)
theorem sr_lt : SndR K rLtA gLt := fun x y a b S H Q Kt s ra rb q k => by
  cases ra with
  | int i =>
    cases rb <;> try exact False.elim q
    exact .inl ⟨_, _, rfl, rfl, k.now s (.bl _) q⟩
  | str i =>
    cases rb <;> try exact False.elim q
    exact .inr ⟨_, _, rfl, rfl, k.now s (.bl _) q⟩
  | _ => exact False.elim q
/-- a comparison that is written op -/
structure CO (X : Cx) (op : CmpOp) (g : G2) : Prop where
  ok : ∃ r, OpR X (compareOp op) r ∧ SndR X.K r g
theorem o_lt : CO X .Lt gLt := ⟨_, OpR.or op_lt op_lt_str, sr_lt⟩
theorem o_le : CO X .LtE (gI0 fun i j => .bl (decide (i ≤ j))) := ⟨_, op_le, sr_I0 fun _ _ _ => .bl _⟩
theorem o_gt : CO X .Gt (gI0 fun i j => .bl (decide (j < i))) := ⟨_, op_gt, sr_I0 fun _ _ _ => .bl _⟩
theorem o_ge : CO X .GtE (gI0 fun i j => .bl (decide (j ≤ i))) := ⟨_, op_ge, sr_I0 fun _ _ _ => .bl _⟩
def isNon : D → Bool
  | .non => true
  | _ => false
/-- x is None, x is True -/
def gIs (f : Bool → Bool) : G2 := fun x y S Q => match y with
  | .non => Q (.bl (f (isNon x))) S
  | .bl c => match x with
    | .bl d => Q (.bl (f (decide (d = c)))) S
    | _ => False
  | _ => False
theorem rep_non {v : V} {d : D} (r : Rep K H v d) : decide (v = .non) = isNon d := by
  cases r <;> rfl
theorem o_is : CO X .Is (gIs id) := by
  refine ⟨_, OpR.or op_isN op_isBl, fun x y a b S H Q Kt s ra rb q k => ?_⟩
  cases rb <;> try exact False.elim q
  · exact .inl ⟨rfl, k.now s (.bl _) (by rw [rep_non ra]; exact q)⟩
  · cases ra <;> try exact False.elim q
    exact .inr ⟨_, _, rfl, rfl, k.now s (.bl _) q⟩
/-- what == tells of two flat data -/
def eqS : D → D → Option Bool
  | .non, .non => some true
  | .int i, .int j => some (decide (i = j))
  | .str i, .str j => some (decide (i = j))
  | .bl i, .bl j => some (decide (i = j))
  | .non, .int _ => some false | .int _, .non => some false | .non, .str _ => some false | .str _, .non => some false | .non, .bl _ => some false | .bl _, .non => some false
  | .int _, .str _ => some false | .str _, .int _ => some false | .bl _, .str _ => some false | .str _, .bl _ => some false
  | .bl a, .int b => some (decide ((if a = true then 1 else 0) = b)) | .int a, .bl b => some (decide (a = if b = true then 1 else 0))
  | _, _ => none
/-! data as the library has it -/
mutual
inductive PD (S : Sto) : D → PyData → Prop
  | non : PD S .non .none
  | bl (b : Bool) : PD S (.bl b) (.bool b)
  | int (i : Int) : PD S (.int i) (.int i)
  | str (x : Str) : PD S (.str x) (.str x)
  | tup {ds : List D} {ps : List PyData} (h : PDs S ds ps) : PD S (.tup ds) (.tuple ps)
  | lst {a : Addr} {ds : List D} {ps : List PyData} (e : S a = some (.lst ds)) (h : PDs S ds ps) : PD S (.ref a) (.list ps)
inductive PDs (S : Sto) : List D → List PyData → Prop
  | nil : PDs S [] []
  | cons {d : D} {p : PyData} {ds : List D} {ps : List PyData} (h : PD S d p) (t : PDs S ds ps) : PDs S (d :: ds) (p :: ps)
end
mutual
theorem PD.dp (s : SRep K S H) : ∀ {d : D} {p : PyData}, PD S d p → ∀ {v : V}, Rep K H v d → Dp K H v p
  | _, _, .non, _, r => by cases r; exact .non
  | _, _, .bl b, _, r => by cases r; exact .bl b
  | _, _, .int i, _, r => by cases r; exact .int i
  | _, _, .str x, _, r => by cases r; exact .str x
  | _, _, .tup q, _, r => by
    cases r with
    | tup h r => exact .tup h (PDs.dp s q r)
  | _, _, .lst e q, _, r => by
    cases r with
    | ref a =>
      obtain ⟨vs, e1, r⟩ := s _ _ e
      exact .lst (.inl (.inl e1)) (PDs.dp s q r)
theorem PDs.dp (s : SRep K S H) : ∀ {ds : List D} {ps : List PyData}, PDs S ds ps → ∀ {vs : List V}, Reps K H vs ds → DpAll K H vs ps
  | _, _, .nil, _, r => by cases r; exact .nil
  | _, _, .cons q t, _, r => by
    cases r with
    | cons h r => exact .cons (PD.dp s q h) (PDs.dp s t r)
end
/-- == of anything -/
def gEq (f : Bool → Bool) : G2 := fun x y S Q => match eqS x y with
  | some b => Q (.bl (f b)) S
  | none => ∃ p q, PD S x p ∧ PD S y q ∧ p.depth ≤ 64 ∧ Q (.bl (f (PyData.eqv p q))) S
mutual
theorem PD.plain : ∀ {d : D} {p : PyData}, PD S d p → p.plain = true
  | _, _, .non => rfl
  | _, _, .bl _ => rfl
  | _, _, .int _ => rfl
  | _, _, .str _ => rfl
  | _, _, .tup h => PDs.plain h
  | _, _, .lst _ h => PDs.plain h
theorem PDs.plain : ∀ {ds : List D} {ps : List PyData}, PDs S ds ps → PyData.plainAll ps = true
  | _, _, .nil => rfl
  | _, _, .cons h t => by
    unfold PyData.plainAll
    rw [PD.plain h, PDs.plain t]
    rfl
end
theorem eqS_pd {a b : D} {r : Bool} (h : eqS a b = some r) : ∃ p q, PD S a p ∧ PD S b q ∧ p.depth = 0 ∧ PyData.eqv p q = r := by
  cases a <;> cases b <;> first | (cases h; done) | (cases h; refine ⟨_, _, by constructor, by constructor, rfl, ?_⟩; first | rfl | (simp only [PyData.eqv, beq_eq_decide]; done) | (simp only [PyData.eqv, Bool.beq_eq_decide_eq]; done))
def rEqP (K : PySem.W.Frag) : R2 := fun x y H Q => ∃ d e, Dp K H x d ∧ Dp K H y e ∧ d.plain = true ∧ e.plain = true ∧ d.depth ≤ 64 ∧ Q (.bl (PyData.eqv d e)) H
def rNeP (K : PySem.W.Frag) : R2 := fun x y H Q => ∃ d e, Dp K H x d ∧ Dp K H y e ∧ d.plain = true ∧ e.plain = true ∧ d.depth ≤ 64 ∧ Q (.bl (!PyData.eqv d e)) H
theorem opEqP (hu : X.A.units + 64 < cLine) : OpR X (compareOp .Eq) (rEqP X.K) := fun pins s σ H x y v u Q I rx ry ⟨d, e, hd, he, pd, pe, hz, q⟩ => by
  have ⟨as, r1⟩ := hd.reads I d x v rx
  have ⟨bs, r2⟩ := he.reads I e y u ry
  exact SeqAt.eq_plain r1 r2 pd pe (by omega) ⟨.bl _, H, I, rfl, q⟩
theorem opNeP (hu : X.A.units + 64 < cLine) : OpR X (compareOp .NotEq) (rNeP X.K) := fun pins s σ H x y v u Q I rx ry ⟨d, e, hd, he, pd, pe, hz, q⟩ => by
  have ⟨as, r1⟩ := hd.reads I d x v rx
  have ⟨bs, r2⟩ := he.reads I e y u ry
  exact SeqAt.ne_plain r1 r2 pd pe (by omega) ⟨.bl _, H, I, rfl, q⟩
theorem eq_pd {f : Bool → Bool} {a b : D} {Q : DK} (q : gEq f a b S Q) : ∃ p e, PD S a p ∧ PD S b e ∧ p.depth ≤ 64 ∧ Q (.bl (f (PyData.eqv p e))) S := by
  unfold gEq at q
  cases h : eqS a b with
  | some r =>
    rw [h] at q
    obtain ⟨p, e, h1, h2, h3, h4⟩ := eqS_pd (S := S) h
    exact ⟨p, e, h1, h2, by omega, by rw [h4]; exact q⟩
  | none =>
    rw [h] at q
    exact q
theorem o_eq (hu : X.A.units + 64 < cLine) : CO X .Eq (gEq id) := by
  refine ⟨_, opEqP hu, fun x y a b S H Q Kt s ra rb q k => ?_⟩
  obtain ⟨p, e, h1, h2, h3, q⟩ := eq_pd q
  exact ⟨p, e, PD.dp s h1 ra, PD.dp s h2 rb, h1.plain, h2.plain, h3, k.now s (.bl _) q⟩
theorem o_ne (hu : X.A.units + 64 < cLine) : CO X .NotEq (gEq not) := by
  refine ⟨_, opNeP hu, fun x y a b S H Q Kt s ra rb q k => ?_⟩
  obtain ⟨p, e, h1, h2, h3, q⟩ := eq_pd q
  exact ⟨p, e, PD.dp s h1 ra, PD.dp s h2 rb, h1.plain, h2.plain, h3, k.now s (.bl _) q⟩
theorem c_cmp {op : CmpOp} {g : G2} (ho : CO X op g) (ha : CE X a fa) (hb : CE X b fb) (hm : behindInMarks op b = false) : CE X (.Compare a [op] [b] pos) (eOp g fa fb) := by
  obtain ⟨r, o1, o2⟩ := ho
  obtain ⟨ta, ha, sa⟩ := ha
  obtain ⟨tb, hb, sb⟩ := hb
  exact ⟨_, pe_cmpR o1 ha hb hm, snd_op o2 sa sb⟩
end
end DL
namespace DL
open PySem PySem.Spec PyProof.Rows L2
section
variable {X : Cx} {K : PySem.W.Frag} {e a b c : Expr} {es : List Expr} {fe fa fb fc : DE} {ft fu : DT} {fs : DA} {pos : Pos} {S : Sto} {H : Hp}
/-! ### tests -/
def tTr (f : DE) : DT := fun σ S Q => f σ S fun d S1 => match d with
  | .non => Q false S1
  | .bl k => Q k S1
  | .int i => Q (i != 0) S1
  | .str y => y.length ≤ sizeLine ∧ Q (y.length != 0) S1
  | .tup xs => Q (!xs.isEmpty) S1
  | .ref p => (match S1 p with
    | some (.lst xs) => Q (!xs.isEmpty) S1
    | some (.dk kvs) => Q (!kvs.isEmpty) S1
    | none => False)
  | _ => False
theorem empty_reps {vs : List V} {ds : List D} (r : Reps K H vs ds) : vs.isEmpty = ds.isEmpty := by cases r <;> rfl
theorem empty_kreps {ws : List (Key × V)} {kvs : List (Key × D)} (r : KReps K H ws kvs) : ws.isEmpty = kvs.isEmpty := by cases r <;> rfl
theorem len_ne0 (y : Str) : (((y.length : Int)) != 0) = (y.length != 0) := by
  by_cases h : y.length = 0
  · rw [h]; rfl
  · have h2 : ¬ ((y.length : Int) = 0) := by omega
    rw [bne_iff_ne.mpr h2, bne_iff_ne.mpr h]
/-- a value's truth -/
theorem k_tru (ha : CE X a fa) (he : ∀ whole, isTrue a X.env whole = (do let v ← whole; standAt a.pos; holding [v] (truthy v)) := by intro _; rfl) : CT X a (tTr fa) := by
  obtain ⟨ta, ha, sa⟩ := ha
  refine ⟨_, pt_truth ha he, fun σ S Q sv H Kt re rs q k => ?_⟩
  refine sa σ S _ sv H _ re rs q fun v d S1 H1 s1 r1 v1 q1 => ?_
  cases v1 with
  | non => exact ⟨false, rfl, k _ _ _ s1 r1 q1⟩
  | bl y => exact ⟨y, rfl, k _ _ _ s1 r1 q1⟩
  | int i => exact ⟨_, rfl, k _ _ _ s1 r1 q1⟩
  | str y => exact ⟨_, ⟨q1.1, (len_ne0 y).symm⟩, k _ _ _ s1 r1 q1.2⟩
  | ty n => exact False.elim q1
  | @tup p vs ds h r => exact ⟨_, .inr (.inl ⟨vs, h, rfl⟩), k _ _ _ s1 r1 (by rw [empty_reps r]; exact q1)⟩
  | @fl p vs ds h r => exact False.elim q1
  | ref p =>
    cases h : S1 p with
    | none => simp only [h] at q1
    | some o =>
      cases o with
      | lst xs =>
        simp only [h] at q1
        obtain ⟨vs, e1, r⟩ := r1 _ _ h
        exact ⟨_, .inl ⟨vs, .inl (.inl e1), rfl⟩, k _ _ _ s1 r1 (by rw [empty_reps r]; exact q1)⟩
      | dk kvs =>
        simp only [h] at q1
        obtain ⟨vs, e1, r⟩ := r1 _ _ h
        exact ⟨_, .inr (.inr ⟨vs, e1, rfl⟩), k _ _ _ s1 r1 (by rw [empty_kreps r]; exact q1)⟩
/-- a test of what is a truth -/
def tBl (f : DE) : DT := fun σ S Q => f σ S fun d S1 => match d with
  | .bl k => Q k S1
  | _ => False
theorem snd_tTest {t : TE} (h : Snd K t fa) : SndT K (tTest t) (tBl fa) := fun σ S Q sv H Kt re rs q k =>
  h σ S _ sv H _ re rs q fun v d S1 H1 s1 r1 v1 q1 => by
    cases v1 <;> try exact False.elim q1
    exact ⟨_, rfl, k _ _ _ s1 r1 q1⟩
theorem k_cmp {op : CmpOp} {g : G2} (ho : CO X op g) (ha : CE X a fa) (hb : CE X b fb) (hm : behindInMarks op b = false) : CT X (.Compare a [op] [b] pos) (tBl (eOp g fa fb)) := by
  obtain ⟨r, o1, o2⟩ := ho
  obtain ⟨ta, ha, sa⟩ := ha
  obtain ⟨tb, hb, sb⟩ := hb
  exact ⟨_, pt_cmpR o1 ha hb hm, snd_tTest (snd_op o2 sa sb)⟩
/-- a op1 b op2 c -/
def eChain (g g' : G2) (fa fb fc : DE) : DE := fun σ S Q => fa σ S fun x S1 => fb σ S1 fun y S2 => g x y S2 fun z S3 => match z with
  | .bl k => if k = true then fc σ S3 fun u S4 => g' y u S4 Q else Q (.bl false) S3
  | _ => False
theorem snd_chain {r r' : R2} {g g' : G2} {ta tb tc : TE} (hr : SndR K r g) (hr' : SndR K r' g') (ha : Snd K ta fa) (hb : Snd K tb fb) (hc : Snd K tc fc) : Snd K (tChain r r' ta tb tc) (eChain g g' fa fb fc) := fun σ S Q sv H Kt he hs q k =>
  ha σ S _ sv H _ he hs q fun v d S1 H1 s1 r1 v1 q1 =>
    hb σ S1 _ sv H1 _ (he.mono s1.tx) r1 q1 fun u d2 S2 H2 s2 r2 u2 q2 =>
      hr v u d d2 S2 H2 _ _ r2 (v1.mono s2.tx) u2 q2 fun v3 d3 S3 H3 s3 r3 v3' q3 => by
        cases v3' <;> try exact False.elim q3
        rename_i kk
        refine ⟨kk, rfl, ?_⟩
        cases kk with
        | true =>
          exact hc σ S3 _ sv H3 _ (he.mono ((s1.trans s2).trans s3).tx) r3 q3 fun v4 d4 S4 H4 s4 r4 v4' q4 =>
            hr' u v4 d2 d4 S4 H4 Q Kt r4 (u2.mono (s3.trans s4).tx) v4' q4 fun v5 d5 S5 H5 s5 r5 v5' q5 => k v5 d5 S5 H5 ((((s1.trans s2).trans s3).trans s4).trans s5) r5 v5' q5
        | false => exact k _ _ _ _ ((s1.trans s2).trans s3) r3 (.bl false) q3
theorem c_chain {op op' : CmpOp} {g g' : G2} (ho : CO X op g) (ho' : CO X op' g') (ha : CE X a fa) (hb : CE X b fb) (hc : CE X c fc) (h1 : lastMarks [op, op'] [b, c] = false := by rfl) : CE X (.Compare a [op, op'] [b, c] pos) (eChain g g' fa fb fc) := by
  obtain ⟨r, o1, o2⟩ := ho
  obtain ⟨r', o1', o2'⟩ := ho'
  obtain ⟨ta, ha, sa⟩ := ha
  obtain ⟨tb, hb, sb⟩ := hb
  obtain ⟨tc, hc, sc⟩ := hc
  exact ⟨_, pe_chain o1 o1' ha hb hc h1, snd_chain o2 o2' sa sb sc⟩
theorem k_chain {op op' : CmpOp} {g g' : G2} (ho : CO X op g) (ho' : CO X op' g') (ha : CE X a fa) (hb : CE X b fb) (hc : CE X c fc) (h1 : lastMarks [op, op'] [b, c] = false := by rfl) : CT X (.Compare a [op, op'] [b, c] pos) (tBl (eChain g g' fa fb fc)) := by
  obtain ⟨r, o1, o2⟩ := ho
  obtain ⟨r', o1', o2'⟩ := ho'
  obtain ⟨ta, ha, sa⟩ := ha
  obtain ⟨tb, hb, sb⟩ := hb
  obtain ⟨tc, hc, sc⟩ := hc
  exact ⟨_, pt_chain o1 o1' ha hb hc h1, snd_tTest (snd_chain o2 o2' sa sb sc)⟩
/-! and, or, not as tests -/
structure CW (X : Cx) (e : Expr) (f : DT) : Prop where
  ok : ∃ t, PW X e t ∧ SndT X.K t f
variable {rest : List Expr}
def tAndD (f g : DT) : DT := fun σ S Q => f σ S fun k S1 => if k = true then g σ S1 Q else Q false S1
def tOrD (f g : DT) : DT := fun σ S Q => f σ S fun k S1 => if k = true then Q true S1 else g σ S1 Q
def tNotD (f : DT) : DT := fun σ S Q => f σ S fun k S1 => Q (!k) S1
theorem w_and1 (ha : CT X a ft) : CW X (.BoolOp .And [a] pos) ft := let ⟨_, h, s⟩ := ha.ok; ⟨_, pw_and1 h, s⟩
theorem w_or1 (ha : CT X a ft) : CW X (.BoolOp .Or [a] pos) ft := let ⟨_, h, s⟩ := ha.ok; ⟨_, pw_or1 h, s⟩
theorem w_and (ha : CT X a ft) (hb : CW X (.BoolOp .And (b :: rest) pos) fu) : CW X (.BoolOp .And (a :: b :: rest) pos) (tAndD ft fu) := by
  obtain ⟨ta, ha, sa⟩ := ha
  obtain ⟨tb, hb, sb⟩ := hb
  refine ⟨_, pw_and ha hb, fun σ S Q sv H Kt re rs q k => sa σ S _ sv H _ re rs q fun kk S1 H1 s1 r1 q1 => ?_⟩
  cases kk with
  | true => exact sb σ S1 Q sv H1 _ (re.mono s1.tx) r1 q1 fun k2 S2 H2 s2 r2 q2 => k k2 S2 H2 (s1.trans s2) r2 q2
  | false => exact k _ _ _ s1 r1 q1
theorem w_or (ha : CT X a ft) (hb : CW X (.BoolOp .Or (b :: rest) pos) fu) : CW X (.BoolOp .Or (a :: b :: rest) pos) (tOrD ft fu) := by
  obtain ⟨ta, ha, sa⟩ := ha
  obtain ⟨tb, hb, sb⟩ := hb
  refine ⟨_, pw_or ha hb, fun σ S Q sv H Kt re rs q k => sa σ S _ sv H _ re rs q fun kk S1 H1 s1 r1 q1 => ?_⟩
  cases kk with
  | false => exact sb σ S1 Q sv H1 _ (re.mono s1.tx) r1 q1 fun k2 S2 H2 s2 r2 q2 => k k2 S2 H2 (s1.trans s2) r2 q2
  | true => exact k _ _ _ s1 r1 q1
theorem k_w (h : CW X e ft) : CT X e ft := let ⟨_, h, s⟩ := h.ok; ⟨_, h.pt, s⟩
theorem k_not (ha : CT X a ft) : CT X (.UnaryOp .Not a pos) (tNotD ft) := by
  obtain ⟨ta, ha, sa⟩ := ha
  exact ⟨_, pt_not ha, fun σ S Q sv H Kt re rs q k => sa σ S _ sv H _ re rs q fun kk S1 H1 s1 r1 q1 => k _ _ _ s1 r1 q1⟩
/-! .. as values -/
def eAnd (fa fb : DE) : DE := fun σ S Q => fa σ S fun x S1 => match x with
  | .bl k => if k = true then fb σ S1 Q else Q (.bl false) S1
  | _ => False
def eOr (fa fb : DE) : DE := fun σ S Q => fa σ S fun x S1 => match x with
  | .bl k => if k = true then Q (.bl true) S1 else fb σ S1 Q
  | _ => False
def eNot (fa : DE) : DE := fun σ S Q => fa σ S fun x S1 => match x with
  | .bl k => Q (.bl (!k)) S1
  | _ => False
theorem c_one {op} (ha : CE X a fa) : CE X (.BoolOp op [a] pos) fa := let ⟨_, h, s⟩ := ha.ok; ⟨_, pe_one h, s⟩
theorem c_and (ha : CE X a fa) (hb : CE X (.BoolOp .And (b :: rest) pos) fb) : CE X (.BoolOp .And (a :: b :: rest) pos) (eAnd fa fb) := by
  obtain ⟨ta, ha, sa⟩ := ha
  obtain ⟨tb, hb, sb⟩ := hb
  refine ⟨_, pe_and ha hb, fun σ S Q sv H Kt re rs q k => sa σ S _ sv H _ re rs q fun v d S1 H1 s1 r1 v1 q1 => ?_⟩
  cases v1 <;> try exact False.elim q1
  rename_i kk
  refine ⟨kk, rfl, ?_⟩
  cases kk with
  | true => exact sb σ S1 Q sv H1 _ (re.mono s1.tx) r1 q1 fun v2 d2 S2 H2 s2 r2 v2' q2 => k v2 d2 S2 H2 (s1.trans s2) r2 v2' q2
  | false => exact k _ _ _ _ s1 r1 (.bl _) q1
theorem c_or (ha : CE X a fa) (hb : CE X (.BoolOp .Or (b :: rest) pos) fb) : CE X (.BoolOp .Or (a :: b :: rest) pos) (eOr fa fb) := by
  obtain ⟨ta, ha, sa⟩ := ha
  obtain ⟨tb, hb, sb⟩ := hb
  refine ⟨_, pe_or ha hb, fun σ S Q sv H Kt re rs q k => sa σ S _ sv H _ re rs q fun v d S1 H1 s1 r1 v1 q1 => ?_⟩
  cases v1 <;> try exact False.elim q1
  rename_i kk
  refine ⟨kk, rfl, ?_⟩
  cases kk with
  | false => exact sb σ S1 Q sv H1 _ (re.mono s1.tx) r1 q1 fun v2 d2 S2 H2 s2 r2 v2' q2 => k v2 d2 S2 H2 (s1.trans s2) r2 v2' q2
  | true => exact k _ _ _ _ s1 r1 (.bl _) q1
theorem c_not (ha : CE X a fa) : CE X (.UnaryOp .Not a pos) (eNot fa) := by
  obtain ⟨ta, ha, sa⟩ := ha
  refine ⟨_, pe_not ha, fun σ S Q sv H Kt re rs q k => sa σ S _ sv H _ re rs q fun v d S1 H1 s1 r1 v1 q1 => ?_⟩
  cases v1 <;> try exact False.elim q1
  exact ⟨_, rfl, k _ _ _ _ s1 r1 (.bl _) q1⟩
def eIf (ft : DT) (fa fb : DE) : DE := fun σ S Q => ft σ S fun k S1 => if k = true then fa σ S1 Q else fb σ S1 Q
theorem c_if (hc : CT X c ft) (ha : CE X a fa) (hb : CE X b fb) : CE X (.IfExp c a b pos) (eIf ft fa fb) := by
  obtain ⟨tc, hc, sc⟩ := hc
  obtain ⟨ta, ha, sa⟩ := ha
  obtain ⟨tb, hb, sb⟩ := hb
  refine ⟨_, pe_ifExp hc ha hb, fun σ S Q sv H Kt re rs q k => sc σ S _ sv H _ re rs q fun kk S1 H1 s1 r1 q1 => ?_⟩
  cases kk with
  | true => exact sa σ S1 Q sv H1 _ (re.mono s1.tx) r1 q1 fun v2 d2 S2 H2 s2 r2 v2' q2 => k v2 d2 S2 H2 (s1.trans s2) r2 v2' q2
  | false => exact sb σ S1 Q sv H1 _ (re.mono s1.tx) r1 q1 fun v2 d2 S2 H2 s2 r2 v2' q2 => k v2 d2 S2 H2 (s1.trans s2) r2 v2' q2
/-! ### lists of expressions, displays -/
def aNil : DA := fun _ S Q => Q [] S
def aCons (fa : DE) (fs : DA) : DA := fun σ S Q => fa σ S fun x S1 => fs σ S1 fun xs S2 => Q (x :: xs) S2
theorem a_nil : CA X [] aNil := ⟨_, pa_nil, fun σ S Q sv H Kt re rs q k => k _ _ _ _ .refl rs .nil q⟩
theorem a_cons (ha : CE X a fa) (hr : CA X es fs) (hs : starEach (a :: es) X.env = (false, eval a X.env) :: starEach es X.env := by rfl) : CA X (a :: es) (aCons fa fs) := by
  obtain ⟨ta, ha, sa⟩ := ha
  obtain ⟨tr, hr, sr⟩ := hr
  refine ⟨_, pa_cons ha hr hs, fun σ S Q sv H Kt re rs q k => sa σ S _ sv H _ re rs q fun v d S1 H1 s1 r1 v1 q1 => ?_⟩
  exact sr σ S1 _ sv H1 _ (re.mono s1.tx) r1 q1 fun vs ds S2 H2 s2 r2 vs2 q2 => k _ _ S2 H2 (s1.trans s2) r2 (.cons (v1.mono s2.tx) vs2) q2
def eTup (fs : DA) : DE := fun σ S Q => fs σ S fun xs S1 => xs.length ≤ sizeLine ∧ Q (.tup xs) S1
def eLst (fs : DA) : DE := fun σ S Q => fs σ S fun xs S1 => xs.length ≤ sizeLine ∧ ∀ p, S1 p = none → Q (.ref p) (updS S1 p (.lst xs))
theorem c_tup {n} (h : CA X es fs) : CE X (.Tuple es n pos) (eTup fs) := by
  obtain ⟨ta, ha, sa⟩ := h
  refine ⟨_, pe_tup ha, fun σ S Q sv H Kt re rs q k => sa σ S _ sv H _ re rs q fun vs ds S1 H1 s1 r1 v1 q1 => ?_⟩
  refine ⟨by rw [v1.length]; exact q1.1, fun p hp => ?_⟩
  obtain ⟨st, sr⟩ := stp_tup (vs := vs) r1 hp
  exact k _ _ _ _ (s1.trans st) sr (.tup (.inl (.inl upd_same)) (v1.mono st.tx)) q1.2
theorem c_lst (h : CA X es fs) : CE X (.List es pos) (eLst fs) := by
  obtain ⟨ta, ha, sa⟩ := h
  refine ⟨_, pe_lst ha, fun σ S Q sv H Kt re rs q k => sa σ S _ sv H _ re rs q fun vs ds S1 H1 s1 r1 v1 q1 => ?_⟩
  refine ⟨by rw [v1.length]; exact q1.1, fun p hp => ?_⟩
  have tx := tx_new (K := X.K) (ho := .lst vs) hp
  obtain ⟨st, sr⟩ := stp_new (o := .lst ds) r1 hp ⟨_, upd_same, v1.mono tx⟩
  exact k _ _ _ _ (s1.trans st) sr (.ref p) (q1.2 p (r1.free hp))
end
end DL
namespace DL
open PySem PySem.Spec PyProof.Rows L2
section
variable {X : Cx} {K : PySem.W.Frag} {e a b c : Expr} {es : List Expr} {fe fa fb fc : DE} {ft fu : DT} {fs : DA} {pos : Pos} {S : Sto} {H : Hp}
/-! ### keys, tables -/
def toKey : D → Option Key
  | .int i => some (.inl i)
  | .str s => some (.inr s)
  | _ => none
def valD : List (Key × D) → Key → Option D
  | [], _ => none
  | p :: r, k => if p.1 = k then some p.2 else valD r k
def hasD (kvs : List (Key × D)) (k : Key) : Bool := (valD kvs k).isSome
def replD : List (Key × D) → Key → D → List (Key × D)
  | [], _, _ => []
  | p :: r, k, d => (if p.1 = k then (p.1, d) else p) :: replD r k d
def putD (kvs : List (Key × D)) (k : Key) (d : D) : List (Key × D) := if hasD kvs k = true then replD kvs k d else kvs ++ [(k, d)]
def dropD : List (Key × D) → Key → List (Key × D)
  | [], _ => []
  | p :: r, k => if p.1 = k then dropD r k else p :: dropD r k
theorem key_rep {v : V} {d : D} {k : Key} (r : Rep K H v d) (h : toKey d = some k) : v = kV k := by
  cases r <;> first | (cases h; rfl) | cases h
theorem kreps_val : ∀ {ws : List (Key × V)} {kvs : List (Key × D)} (k : Key), KReps K H ws kvs → (valV ws k = none ∧ valD kvs k = none) ∨ ∃ v d, valV ws k = some v ∧ valD kvs k = some d ∧ Rep K H v d
  | _, _, _, .nil => .inl ⟨rfl, rfl⟩
  | p :: ws, q :: kvs, k, .cons h r => by
    by_cases e : q.1 = k
    · exact .inr ⟨p.2, q.2, valV_pos (h.1.trans e), by unfold valD; rw [if_pos e], h.2⟩
    · rw [valV_neg (fun z => e (h.1.symm.trans z))]
      unfold valD
      rw [if_neg e]
      exact kreps_val k r
theorem kreps_len {ws : List (Key × V)} {kvs : List (Key × D)} (r : KReps K H ws kvs) : ws.length = kvs.length := Paired.length r
theorem kreps_repl {v : V} {d : D} (rv : Rep K H v d) (k : Key) : ∀ {ws : List (Key × V)} {kvs : List (Key × D)}, KReps K H ws kvs → KReps K H (ws.map fun kv => if kv.1 = k then (kv.1, v) else kv) (replD kvs k d)
  | _, _, .nil => .nil
  | p :: ws, q :: kvs, .cons h r => by
    refine .cons ?_ (kreps_repl rv k r)
    by_cases e : q.1 = k
    · dsimp only
      rw [if_pos e, if_pos (h.1.trans e)]
      exact ⟨h.1, rv⟩
    · dsimp only
      rw [if_neg e, if_neg (fun z => e (h.1.symm.trans z))]
      exact h
theorem kreps_app : ∀ {ws us : List (Key × V)} {kvs js : List (Key × D)}, KReps K H ws kvs → KReps K H us js → KReps K H (ws ++ us) (kvs ++ js)
  | _, _, _, _, .nil, s => s
  | _, _, _, _, .cons h r, s => .cons h (kreps_app r s)
theorem kreps_put {v : V} {d : D} (rv : Rep K H v d) (k : Key) {ws : List (Key × V)} {kvs : List (Key × D)} (r : KReps K H ws kvs) : KReps K H (putK ws k v) (putD kvs k d) := by
  unfold putK putD hasD
  rw [valV_any]
  rcases kreps_val k r with ⟨e1, e2⟩ | ⟨u, z, e1, e2, _⟩
  · rw [e1, e2]
    exact kreps_app r (.cons ⟨rfl, rv⟩ .nil)
  · rw [e1, e2]
    exact kreps_repl rv k r
theorem kreps_drop (k : Key) : ∀ {ws : List (Key × V)} {kvs : List (Key × D)}, KReps K H ws kvs → KReps K H (dropK ws k) (dropD kvs k)
  | _, _, .nil => .nil
  | p :: ws, q :: kvs, .cons h r => by
    unfold dropD
    by_cases e : q.1 = k
    · rw [if_pos e]
      have e2 : dropK (p :: ws) k = dropK ws k := by
        unfold dropK
        rw [List.filter_cons_of_neg]
        simpa using h.1.trans e
      rw [e2]
      exact kreps_drop k r
    · rw [if_neg e]
      have e2 : dropK (p :: ws) k = p :: dropK ws k := by
        unfold dropK
        rw [List.filter_cons_of_pos]
        simpa using fun z => e (h.1.symm.trans z)
      rw [e2]
      exact .cons h (kreps_drop k r)
/-! ### a[b] -/
theorem ixDict (hu : X.A.units + 1 < cLine) : IxR X (fun x y H Q => ∃ a v, x = .ref a ∧ DGet H a y (some v) ∧ Q v H) := by
  intro value slice pins s σ H x y v u Q I rx ry h hs
  obtain ⟨a, z, ex, g, q⟩ := h
  subst ex
  have ev : v = Value.ref a := rx
  subst ev
  have got := d_getItem (A := X.A) (E := X.xe) (Q := EP X pins σ Q) hu I g ry fun w' s3 I3 rw' => ⟨z, H, I3, rw', q⟩
  have ty := dict_typeIs I g
  have fin : wpAny (model X.prog X.w) X.A (subscripted slice false (.ref a) u) (fun r s3 => wpAny (model X.prog X.w) X.A (letTemporaryGo value (.ref a) r >>= fun _ => pure r) (EP X pins σ Q) X.xe s3) X.xe s := by
    rw [hs]
    exact wpAny_operating (thn got fun r s3 h3 => wpAny_bind (wpAny_letTemporaryGo (wpAny_pure h3)))
  unfold subscriptTail
  refine wpAny_bind ?_
  rw [getitemInPython_of_ne ty.not_modules]
  refine wpAny_bind (wpAny_specialOf ty PySem.F.slot_dict_getitem.lookup ?_)
  first | exact wpAny_pure (wpAny_bind fin) | exact wpAny_bind (wpAny_pure (wpAny_bind fin)) | exact wpAny_bind fin
def gIx : G2 := fun x y S Q => match x with
  | .tup xs => (match y with
    | .int i => ∃ d, atI xs i = some d ∧ Q d S
    | _ => False)
  | .str z => (match y with
    | .int i => z.length ≤ sizeLine ∧ ∃ c, atI z.cps.toList i = some c ∧ Q (.str ⟨#[c]⟩) S
    | _ => False)
  | .fl xs => (match y with
    | .int i => ∃ d, atI xs i = some d ∧ Q d S
    | _ => False)
  | .ref p => (match S p with
    | some (.lst xs) => (match y with
      | .int i => ∃ d, atI xs i = some d ∧ Q d S
      | _ => False)
    | some (.dk kvs) => ∃ k d, toKey y = some k ∧ valD kvs k = some d ∧ Q d S
    | none => False)
  | _ => False
theorem reps_atI {vs : List V} {ds : List D} {i : Int} {d : D} (r : Reps K H vs ds) (h : atI ds i = some d) : ∃ v, atI vs i = some v ∧ Rep K H v d := by
  unfold atI at h ⊢
  rw [r.length]
  cases q : ixN ds.length i with
  | none => rw [q] at h; cases h
  | some j =>
    rw [q] at h
    obtain ⟨v, e, rv⟩ := r.get (i := j) (d := d) h
    exact ⟨v, e, rv⟩
theorem sr_ix : SndR K (fun x y H Q => rIx K x y H Q ∨ ∃ a v, x = .ref a ∧ DGet H a y (some v) ∧ Q v H) gIx := fun x y a b S H Q Kt s ra rb q k => by
  cases ra with
  | @tup p vs ds h r =>
    cases rb <;> try exact False.elim q
    obtain ⟨d, e, q⟩ := q
    obtain ⟨v, e2, rv⟩ := reps_atI r e
    exact .inl (.inr (.inl ⟨p, vs, _, v, rfl, rfl, h, e2, k.now s rv q⟩))
  | @fl p vs ds h r =>
    cases rb <;> try exact False.elim q
    obtain ⟨d, e, q⟩ := q
    obtain ⟨v, e2, rv⟩ := reps_atI r e
    exact .inl (.inl ⟨p, vs, _, v, rfl, rfl, h.sq, e2, k.now s rv q⟩)
  | str z =>
    cases rb <;> try exact False.elim q
    obtain ⟨hz, d, e, q⟩ := q
    exact .inl (.inr (.inr ⟨z, _, d, rfl, rfl, hz, e, k.now s (.str _) q⟩))
  | ref p =>
    unfold gIx at q
    cases h : S p with
    | none => simp only [h] at q
    | some o =>
      cases o with
      | lst xs =>
        simp only [h] at q
        cases rb <;> try exact False.elim q
        obtain ⟨d, e, q⟩ := q
        obtain ⟨vs, e1, r⟩ := s _ _ h
        obtain ⟨v, e2, rv⟩ := reps_atI r e
        exact .inl (.inl ⟨p, vs, _, v, rfl, rfl, .inl (.inl e1), e2, k.now s rv q⟩)
      | dk kvs =>
        simp only [h] at q
        obtain ⟨kk, d, e1, e2, q⟩ := q
        obtain ⟨ws, e3, r⟩ := s _ _ h
        rcases kreps_val kk r with ⟨_, z⟩ | ⟨v, d', z1, z2, rv⟩
        · rw [e2] at z; cases z
        · rw [e2] at z2; cases z2
          exact .inr ⟨p, v, rfl, by rw [key_rep rb e1, ← z1]; exact .k e3, k.now s rv q⟩
  | _ => exact False.elim q
theorem c_ix (hu : X.A.units + 1 < cLine) (ha : CE X a fa) (hb : CE X b fb) (hs : PlainIx b := by intro _ _; rfl) : CE X (.Subscript a b pos) (eOp gIx fa fb) := by
  obtain ⟨ta, ha, sa⟩ := ha
  obtain ⟨tb, hb, sb⟩ := hb
  exact ⟨_, pe_ix (IxR.or ix_seq (ixDict hu)) ha hb hs, snd_op sr_ix sa sb⟩
/-! ### a[b:c] -/
abbrev DO := Env → Sto → (Option Int → Sto → Prop) → Prop
structure CP (X : Cx) (e : Option Expr) (f : DO) : Prop where
  ok : ∃ t, PO X e t ∧ ∀ (σ : Env) (S : Sto) (Q : Option Int → Sto → Prop) (sv : L2.St) (H : Hp) (Kt : Option Int → Hp → Prop), ERep X.K H sv σ → SRep X.K S H → f σ S Q →
    (∀ o S' H', Stp X.K S H S' H' → SRep X.K S' H' → Q o S' → Kt o H') → t sv H Kt
def oNo : DO := fun _ S Q => Q none S
def oSome (fa : DE) : DO := fun σ S Q => fa σ S fun x S1 => match x with
  | .int i => Q (some i) S1
  | _ => False
theorem p_none : CP X none oNo := ⟨_, po_none, fun σ S Q sv H Kt re rs q k => k _ _ _ .refl rs q⟩
theorem p_some (ha : CE X a fa) : CP X (some a) (oSome fa) := by
  obtain ⟨ta, ha, sa⟩ := ha
  refine ⟨_, po_some ha, fun σ S Q sv H Kt re rs q k => sa σ S _ sv H _ re rs q fun v d S1 H1 s1 r1 v1 q1 => ?_⟩
  cases v1 <;> try exact False.elim q1
  exact ⟨_, rfl, k _ _ _ s1 r1 q1⟩
/-- the part of a list from one place to another -/
def cutL {α : Type} (xs : List α) (lo hi : Option Int) : List α := (xs.drop (HT.sIx xs.length 0 lo)).take (HT.sIx xs.length xs.length hi - HT.sIx xs.length 0 lo)
def gSl : D → Option Int → Option Int → Sto → DK → Prop := fun x lo hi S Q => match x with
  | .tup xs => Q (.tup (cutL xs lo hi)) S
  | .str z => z.length ≤ sizeLine ∧ Q (.str (cutS z lo hi)) S
  | .fl xs => ∀ p, S p = none → Q (.ref p) (updS S p (.lst (cutL xs lo hi)))
  | .ref p => ∃ xs, S p = some (.lst xs) ∧ ∀ n, S n = none → Q (.ref n) (updS S n (.lst (cutL xs lo hi)))
  | _ => False
theorem reps_cut {vs : List V} {ds : List D} (lo hi : Option Int) (r : Reps K H vs ds) : Reps K H (cutV vs lo hi) (cutL ds lo hi) := by
  unfold cutV cutL
  rw [r.length]
  exact (r.drop _).take _
theorem cut_all {α : Type} {xs : List α} {lo hi : Option Int} (h : HT.sIx xs.length 0 lo = 0 ∧ HT.sIx xs.length xs.length hi = xs.length) : cutL xs lo hi = xs := by
  unfold cutL
  rw [h.1, h.2]
  simp
def rSlAll (K : PySem.W.Frag) : V → Option Int → Option Int → Hp → VK → Prop := fun x lo hi H Q => rSlL K x lo hi H Q ∨ (rSlA K x lo hi H Q ∨ rSlS x lo hi H Q)
def eSl (fa : DE) (fl fh : DO) : DE := fun σ S Q => fa σ S fun x S1 => fl σ S1 fun l S2 => fh σ S2 fun h S3 => gSl x l h S3 Q
theorem sl_all {x : V} {d : D} {lo hi : Option Int} {Q : DK} {Kt : VK} (s : SRep K S H) (r : Rep K H x d) (q : gSl d lo hi S Q) (k : Rch K S H Q Kt) : rSlAll K x lo hi H Kt := by
  cases r with
  | @tup p vs ds h r =>
    have l := r.length
    refine .inr (.inl ⟨p, vs, rfl, h, fun z => ?_, fun z n hn => ?_⟩)
    · have q' : Q (.tup (cutL ds lo hi)) S := q
      rw [cut_all (by rw [← l]; exact z)] at q'
      exact k.now s (.tup h r) q'
    · obtain ⟨st, sr⟩ := stp_tup (vs := cutV vs lo hi) s hn
      exact k _ _ _ _ st sr (.tup (.inl (.inl upd_same)) (reps_cut lo hi (r.mono st.tx))) q
  | str z => exact .inr (.inr ⟨z, rfl, q.1, k.now s (.str _) q.2⟩)
  | @fl p vs ds h r =>
    refine .inl ⟨p, vs, rfl, h.sq, fun n hn => ?_⟩
    have tx := tx_new (K := K) (ho := .lst (cutV vs lo hi)) hn
    obtain ⟨st, sr⟩ := stp_new (o := .lst (cutL ds lo hi)) s hn ⟨_, upd_same, reps_cut lo hi (r.mono tx)⟩
    exact k _ _ _ _ st sr (.ref n) (q n (s.free hn))
  | ref p =>
    obtain ⟨xs, e, q⟩ := q
    obtain ⟨vs, e1, r⟩ := s _ _ e
    refine .inl ⟨p, vs, rfl, .inl (.inl e1), fun n hn => ?_⟩
    have tx := tx_new (K := K) (ho := .lst (cutV vs lo hi)) hn
    obtain ⟨st, sr⟩ := stp_new (o := .lst (cutL xs lo hi)) s hn ⟨_, upd_same, reps_cut lo hi (r.mono tx)⟩
    exact k _ _ _ _ st sr (.ref n) (q n (s.free hn))
  | _ => exact False.elim q
theorem c_sl {lo hi : Option Expr} {fl fh : DO} {p2 : Pos} (ha : CE X a fa) (hl : CP X lo fl) (hh : CP X hi fh) : CE X (.Subscript a (.Slice lo hi none p2) pos) (eSl fa fl fh) := by
  obtain ⟨ta, ha, sa⟩ := ha
  obtain ⟨tl, hl, sl⟩ := hl
  obtain ⟨th, hh, sh⟩ := hh
  refine ⟨_, pe_slice (SlR.or sl_list (SlR.or sl_tupA sl_str)) ha hl hh, fun σ S Q sv H Kt re rs q k => sa σ S _ sv H _ re rs q fun v d S1 H1 s1 r1 v1 q1 => ?_⟩
  refine sl σ S1 _ sv H1 _ (re.mono s1.tx) r1 q1 fun o S2 H2 s2 r2 q2 => ?_
  refine sh σ S2 _ sv H2 _ (re.mono (s1.trans s2).tx) r2 q2 fun o2 S3 H3 s3 r3 q3 => ?_
  exact sl_all r3 (v1.mono (s2.trans s3).tx) q3 fun v4 d4 S4 H4 s4 r4 v4' q4 => k v4 d4 S4 H4 (((s1.trans s2).trans s3).trans s4) r4 v4' q4
/-! ### x in y -/
/-- x is one of flat things -/
def flatD : D → Bool
  | .non => true | .bl _ => true | .int _ => true | .str _ => true
  | _ => false
def eqF : D → D → Bool
  | .non, .non => true
  | .bl a, .bl b => a == b
  | .bl a, .int b => (if a = true then 1 else 0) == b
  | .int a, .bl b => a == if b = true then 1 else 0
  | .int a, .int b => a == b
  | .str a, .str b => a == b
  | _, _ => false
theorem flat_rep {v : V} {d : D} (r : Rep K H v d) (h : flatD d = true) : flatV v = true := by cases r <;> first | rfl | cases h
theorem flat_reps : ∀ {vs : List V} {ds : List D}, Reps K H vs ds → ds.all flatD = true → vs.all flatV = true
  | _, _, .nil, _ => rfl
  | _, _, .cons h r, e => by
    rw [List.all_cons, Bool.and_eq_true] at e ⊢
    exact ⟨flat_rep h e.1, flat_reps r e.2⟩
theorem eqF_rep {x y : V} {a b : D} (rx : Rep K H x a) (ry : Rep K H y b) (ha : flatD a = true) (hb : flatD b = true) : eqV x y = eqF a b := by
  cases rx <;> first | (cases ha; done) | (cases ry <;> first | (cases hb; done) | rfl)
theorem inV_rep {x : V} {a : D} (rx : Rep K H x a) (ha : flatD a = true) : ∀ {vs : List V} {ds : List D}, Reps K H vs ds → ds.all flatD = true → inV x vs = ds.any fun y => eqF y a
  | _, _, .nil, _ => rfl
  | _, _, .cons h r, e => by
    rw [List.all_cons, Bool.and_eq_true] at e
    have ih := inV_rep rx ha r e.2
    unfold inV at ih ⊢
    rw [List.any_cons, List.any_cons, ih, eqF_rep h rx e.1 ha]
def inStr (i j : Str) : Bool := !(Builtin.Str.occurrences j i 0 j.length 1).isEmpty
def gIn (f : Bool → Bool) : G2 := fun x y S Q => match y with
  | .str j => (match x with
    | .str i => Q (.bl (f (inStr i j))) S
    | _ => False)
  | .tup ys => flatD x = true ∧ ys.all flatD = true ∧ Q (.bl (f (ys.any fun z => eqF z x))) S
  | .fl ys => flatD x = true ∧ ys.all flatD = true ∧ Q (.bl (f (ys.any fun z => eqF z x))) S
  | .ref p => (match S p with
    | some (.lst ys) => flatD x = true ∧ ys.all flatD = true ∧ Q (.bl (f (ys.any fun z => eqF z x))) S
    | some (.dk kvs) => ∃ k, toKey x = some k ∧ Q (.bl (f (hasD kvs k))) S
    | none => False)
  | _ => False
theorem opInD (hu : X.A.units + 1 < cLine) : OpR X (compareOp .In) (fun y x H Q => ∃ a o, x = .ref a ∧ DGet H a y o ∧ Q (.bl o.isSome) H) := by
  intro pins s σ H y x v u Q I ry rx h
  obtain ⟨a, o, ex, g, q⟩ := h
  subst ex
  have ev : u = Value.ref a := rx
  subst ev
  exact d_in hu I g ry fun s' I' => ⟨.bl _, _, I', rfl, q⟩
theorem opNotInD (hu : X.A.units + 1 < cLine) : OpR X (compareOp .NotIn) (fun y x H Q => ∃ a o, x = .ref a ∧ DGet H a y o ∧ Q (.bl (!o.isSome)) H) := by
  intro pins s σ H y x v u Q I ry rx h
  obtain ⟨a, o, ex, g, q⟩ := h
  subst ex
  have ev : u = Value.ref a := rx
  subst ev
  exact d_notIn hu I g ry fun s' I' => ⟨.bl _, _, I', rfl, q⟩
theorem o_in (hu : X.A.units + 1 < cLine) : CO X .In (gIn id) := by
  refine ⟨_, OpR.or op_in_str (OpR.or op_in_seq (opInD hu)), fun x y a b S H Q Kt s ra rb q k => ?_⟩
  cases rb with
  | str j =>
    cases ra <;> try exact False.elim q
    exact .inl ⟨_, _, rfl, rfl, k.now s (.bl _) q⟩
  | @tup p vs ds h r => exact .inr (.inl ⟨p, vs, rfl, .inr h, flat_rep ra q.1, flat_reps r q.2.1, k.now s (.bl _) (by rw [if_neg Bool.false_ne_true, inV_rep ra q.1 r q.2.1]; exact q.2.2)⟩)
  | @fl p vs ds h r => exact .inr (.inl ⟨p, vs, rfl, .inl h.sq, flat_rep ra q.1, flat_reps r q.2.1, k.now s (.bl _) (by rw [if_neg Bool.false_ne_true, inV_rep ra q.1 r q.2.1]; exact q.2.2)⟩)
  | ref p =>
    unfold gIn at q
    cases h : S p with
    | none => simp only [h] at q
    | some o =>
      obtain h0 := s _ _ h
      cases o with
      | lst xs =>
        simp only [h] at q
        obtain ⟨vs, e1, r⟩ := h0
        exact .inr (.inl ⟨p, vs, rfl, .inl (.inl (.inl e1)), flat_rep ra q.1, flat_reps r q.2.1, k.now s (.bl _) (by rw [if_neg Bool.false_ne_true, inV_rep ra q.1 r q.2.1]; exact q.2.2)⟩)
      | dk kvs =>
        simp only [h] at q
        obtain ⟨kk, e1, q⟩ := q
        obtain ⟨ws, e3, r⟩ := h0
        refine .inr (.inr ⟨p, valV ws kk, rfl, by rw [key_rep ra e1]; exact .k e3, k.now s (.bl _) ?_⟩)
        have e : (valV ws kk).isSome = hasD kvs kk := by
          unfold hasD
          rcases kreps_val kk r with ⟨z1, z2⟩ | ⟨v, d, z1, z2, _⟩ <;> rw [z1, z2] <;> rfl
        rw [e]
        exact q
  | _ => exact False.elim q
theorem o_notIn (hu : X.A.units + 1 < cLine) : CO X .NotIn (gIn not) := by
  refine ⟨_, OpR.or op_notin_str (OpR.or op_notIn_seq (opNotInD hu)), fun x y a b S H Q Kt s ra rb q k => ?_⟩
  cases rb with
  | str j =>
    cases ra <;> try exact False.elim q
    exact .inl ⟨_, _, rfl, rfl, k.now s (.bl _) q⟩
  | @tup p vs ds h r => exact .inr (.inl ⟨p, vs, rfl, .inr h, flat_rep ra q.1, flat_reps r q.2.1, k.now s (.bl _) (by rw [if_pos rfl, inV_rep ra q.1 r q.2.1]; exact q.2.2)⟩)
  | @fl p vs ds h r => exact .inr (.inl ⟨p, vs, rfl, .inl h.sq, flat_rep ra q.1, flat_reps r q.2.1, k.now s (.bl _) (by rw [if_pos rfl, inV_rep ra q.1 r q.2.1]; exact q.2.2)⟩)
  | ref p =>
    unfold gIn at q
    cases h : S p with
    | none => simp only [h] at q
    | some o =>
      obtain h0 := s _ _ h
      cases o with
      | lst xs =>
        simp only [h] at q
        obtain ⟨vs, e1, r⟩ := h0
        exact .inr (.inl ⟨p, vs, rfl, .inl (.inl (.inl e1)), flat_rep ra q.1, flat_reps r q.2.1, k.now s (.bl _) (by rw [if_pos rfl, inV_rep ra q.1 r q.2.1]; exact q.2.2)⟩)
      | dk kvs =>
        simp only [h] at q
        obtain ⟨kk, e1, q⟩ := q
        obtain ⟨ws, e3, r⟩ := h0
        refine .inr (.inr ⟨p, valV ws kk, rfl, by rw [key_rep ra e1]; exact .k e3, k.now s (.bl _) ?_⟩)
        have e : (valV ws kk).isSome = hasD kvs kk := by
          unfold hasD
          rcases kreps_val kk r with ⟨z1, z2⟩ | ⟨v, d, z1, z2, _⟩ <;> rw [z1, z2] <;> rfl
        rw [e]
        exact q
  | _ => exact False.elim q
end
end DL
namespace DL
open PySem PySem.Spec PyProof.Rows L2
/-! ### what a def does -/
abbrev MF := List D → Sto → DK → Prop
/-- a def of n parameters that raises nothing does m -/
def spD (K : PySem.W.Frag) (n : Nat) (m : MF) : Sp := fun vs H Q _ => vs.length = n ∧ ∃ ds S Qd, Reps K H vs ds ∧ SRep K S H ∧ m ds S Qd ∧ Rch K S H Qd Q
section
variable {X : Cx} {K : PySem.W.Frag} {e a b c : Expr} {es : List Expr} {fe fa fb fc : DE} {ft fu : DT} {fs : DA} {pos : Pos} {S : Sto} {H : Hp}
def eCall (n : Nat) (m : MF) (fs : DA) : DE := fun σ S Q => fs σ S fun ds S1 => ds.length = n ∧ m ds S1 Q
theorem c_call {k n : Nat} {f : Addr} {fd : FuncData} {ps : List Str} {m : MF} {x : Str} {p : Pos} (hr : Room k X.A) (F : FnOk X.prog X.w X.K X.mg X.base CX0 k f fd ps (spD X.K n m)) (hg : Gl X x) (hm : X.mg x = some (.ref f)) (hk : PySem.W.keepIn X.K (.ref f) = true)
    (hb : Binds X.K fd ps []) (ha : CA X (a :: es) fs) (hdb : (x == ("__debug__" : Str)) = false := by decide) (he : starEach (a :: es) X.env = (false, eval a X.env) :: starEach es X.env := by rfl) (hpl : (backTo pos (starEach es X.env)).any (·.1) = false := by rfl) :
    CE X (.Call (.Name x p) (a :: es) [] pos) (eCall n m fs) := by
  obtain ⟨ta, ha, sa⟩ := ha
  refine ⟨_, pe_call F hr hg hm hk hb .nil pass0 ha hdb he hpl, fun σ S Q sv H Kt re rs q k => sa σ S _ sv H _ re rs q fun vs ds S1 H1 s1 r1 v1 q1 => ?_⟩
  rw [List.append_nil]
  exact ⟨by rw [v1.length]; exact q1.1, ds, S1, Q, v1, r1, q1.2, fun v d S2 H2 s2 r2 v2 q2 => k v d S2 H2 (s1.trans s2) r2 v2 q2⟩
/-! ### built-ins -/
def eCB (g : GN) (fs : DA) : DE := fun σ S Q => fs σ S fun ds S1 => g ds S1 Q
theorem snd_cb {r : List V → Hp → VK → Prop} {g : GN} {t : TA} (hr : SndN K r g) (ha : SndA K t fs) : Snd K (tCB r t) (eCB g fs) := fun σ S Q sv H Kt re rs q k =>
  ha σ S _ sv H _ re rs q fun vs ds S1 H1 s1 r1 v1 q1 => hr vs ds S1 H1 Q Kt r1 v1 q1 fun v d S2 H2 s2 r2 v2 q2 => k v d S2 H2 (s1.trans s2) r2 v2 q2
/-- a built-in function by its name -/
structure CB (X : Cx) (id : String) (g : GN) : Prop where
  ok : ∃ r, CallR X (.builtin id) r ∧ SndN X.K r g
structure CY (X : Cx) (T : String) (g : GN) : Prop where
  ok : ∃ r, CallR X (.type T) r ∧ SndN X.K r g
theorem c_callB {id : String} {x : Str} {p : Pos} {g : GN} (h : CB X id g) (hg : Gl X x) (hm : X.mg x = none) (hv : bootBuiltins x = some (.builtin id)) (ha : CA X (a :: es) fs) (hn : x ≠ "__name__" := by decide) (hdb : (x == ("__debug__" : Str)) = false := by decide)
    (he : starEach (a :: es) X.env = (false, eval a X.env) :: starEach es X.env := by rfl) (hpl : (backTo pos (starEach es X.env)).any (·.1) = false := by rfl) : CE X (.Call (.Name x p) (a :: es) [] pos) (eCB g fs) := by
  obtain ⟨r, h1, h2⟩ := h
  obtain ⟨ta, ha, sa⟩ := ha
  exact ⟨_, pe_callB h1 hg hm hv ha hn hdb he hpl, snd_cb h2 sa⟩
theorem c_callTy {T : String} {x : Str} {p : Pos} {g : GN} (h : CY X T g) (hg : Gl X x) (hm : X.mg x = none) (hv : bootBuiltins x = some (.type T)) (ha : CA X (a :: es) fs) (hn : x ≠ "__name__" := by decide) (hdb : (x == ("__debug__" : Str)) = false := by decide)
    (he : starEach (a :: es) X.env = (false, eval a X.env) :: starEach es X.env := by rfl) (hpl : (backTo pos (starEach es X.env)).any (·.1) = false := by rfl) : CE X (.Call (.Name x p) (a :: es) [] pos) (eCB g fs) := by
  obtain ⟨r, h1, h2⟩ := h
  obtain ⟨ta, ha, sa⟩ := ha
  exact ⟨_, pe_callTy h1 hg hm hv ha hn hdb he hpl, snd_cb h2 sa⟩
theorem c_bltn {x : Str} {n : String} (hg : Gl X x) (hm : X.mg x = none) (hv : bootBuiltins x = some (.type n)) (hn : x ≠ "__name__" := by decide) (hd : (x == ("__debug__" : Str)) = false := by decide) : CE X (.Name x pos) (eC (.ty n)) :=
  ⟨_, pe_bltn (v := .ty n) hg hm hv rfl hn hd, snd_c fun _ => .ty n⟩
theorem CallR.or' {f : Value} {r r' : List V → Hp → VK → Prop} (h : CallR X f r) (h' : CallR X f r') : CallR X f (fun xs H Q => r xs H Q ∨ r' xs H Q) := L2.CallR.or h h'
/-- len -/
def gLen : GN := fun xs S Q => match xs with
  | [.str z] => z.length ≤ sizeLine ∧ Q (.int z.length) S
  | [.tup ys] => Q (.int ys.length) S
  | [.fl ys] => Q (.int ys.length) S
  | [.ref p] => (match S p with
    | some (.lst ys) => Q (.int ys.length) S
    | some (.dk kvs) => Q (.int kvs.length) S
    | none => False)
  | _ => False
theorem callLenD : CallR X (.builtin "len") (fun xs H Q => ∃ a kvs, xs = [.ref a] ∧ Rd H a (.dK kvs) ∧ Q (.int kvs.length) H) := by
  intro pins s σ H xs us Q I r h
  obtain ⟨a, kvs, ex, hr, q⟩ := h
  subst ex
  obtain ⟨u, eu, ru⟩ := Vals.one r
  subst eu
  have ev : u = Value.ref a := ru
  subst ev
  exact d_len I hr fun t s' I' => ⟨.int kvs.length, H, I', ⟨t, rfl⟩, q⟩
theorem reps1 {vs : List V} {d : D} (r : Reps K H vs [d]) : ∃ v, vs = [v] ∧ Rep K H v d := by
  cases r with
  | cons h t => cases t; exact ⟨_, rfl, h⟩
theorem reps2 {vs : List V} {d d2 : D} (r : Reps K H vs [d, d2]) : ∃ v v2, vs = [v, v2] ∧ Rep K H v d ∧ Rep K H v2 d2 := by
  cases r with
  | cons h t =>
    obtain ⟨v2, rfl, h2⟩ := reps1 t
    exact ⟨_, _, rfl, h, h2⟩
theorem b_len : CB X "len" gLen := by
  refine ⟨_, L2.CallR.or call_len_str (L2.CallR.or call_len_seq callLenD), fun xs as S H Q Kt s r q k => ?_⟩
  match as, q with
  | [.str z], q =>
    obtain ⟨v, rfl, rv⟩ := reps1 r
    cases rv
    exact .inl ⟨_, rfl, q.1, k.now s (.int _) q.2⟩
  | [.tup ys], q =>
    obtain ⟨v, rfl, rv⟩ := reps1 r
    cases rv with
    | tup h r => exact .inr (.inl ⟨_, _, rfl, .inr h, k.now s (.int _) (by rw [r.length]; exact q)⟩)
  | [.fl ys], q =>
    obtain ⟨v, rfl, rv⟩ := reps1 r
    cases rv with
    | fl h r => exact .inr (.inl ⟨_, _, rfl, .inl h.sq, k.now s (.int _) (by rw [r.length]; exact q)⟩)
  | [.ref p], q =>
    obtain ⟨v, rfl, rv⟩ := reps1 r
    cases rv
    unfold gLen at q
    cases h : S p with
    | none => simp only [h] at q
    | some o =>
      have h0 := s _ _ h
      cases o with
      | lst ys =>
        simp only [h] at q
        obtain ⟨vs, e1, r⟩ := h0
        exact .inr (.inl ⟨_, _, rfl, .inl (.inl (.inl e1)), k.now s (.int _) (by rw [r.length]; exact q)⟩)
      | dk kvs =>
        simp only [h] at q
        obtain ⟨ws, e1, r⟩ := h0
        exact .inr (.inr ⟨_, _, rfl, .inl e1, k.now s (.int _) (by rw [kreps_len r]; exact q)⟩)
def gAbs : GN := fun xs S Q => match xs with
  | [.int i] => Q (.int (if i < 0 then -i else i)) S
  | _ => False
theorem b_abs : CB X "abs" gAbs := by
  refine ⟨_, call_abs, fun xs as S H Q Kt s r q k => ?_⟩
  match as, q with
  | [.int i], q =>
    obtain ⟨v, rfl, rv⟩ := reps1 r
    cases rv
    exact ⟨_, rfl, k.now s (.int _) q⟩
def gMax2 : GN := fun xs S Q => match xs with
  | [.int i, .int j] => Q (.int (if j > i then j else i)) S
  | _ => False
def gMin2 : GN := fun xs S Q => match xs with
  | [.int i, .int j] => Q (.int (if j < i then j else i)) S
  | _ => False
theorem b_max2 (hc : X.calm = true) : CB X "max" gMax2 := by
  refine ⟨_, call_max2 hc, fun xs as S H Q Kt s r q k => ?_⟩
  match as, q with
  | [.int i, .int j], q =>
    obtain ⟨v, v2, rfl, rv, rv2⟩ := reps2 r
    cases rv
    cases rv2
    exact ⟨_, _, rfl, k.now s (.int _) q⟩
theorem b_min2 (hc : X.calm = true) : CB X "min" gMin2 := by
  refine ⟨_, call_min2 hc, fun xs as S H Q Kt s r q k => ?_⟩
  match as, q with
  | [.int i, .int j], q =>
    obtain ⟨v, v2, rfl, rv, rv2⟩ := reps2 r
    cases rv
    cases rv2
    exact ⟨_, _, rfl, k.now s (.int _) q⟩
def gInt1 : GN := fun xs S Q => match xs with
  | [.int i] => Q (.int i) S
  | [.bl i] => Q (.int (if i then 1 else 0)) S
  | _ => False
theorem y_int : CY X "int" gInt1 := by
  refine ⟨_, call_int1, fun xs as S H Q Kt s r q k => ?_⟩
  match as, q with
  | [.int i], q =>
    obtain ⟨v, rfl, rv⟩ := reps1 r
    cases rv
    exact .inl ⟨_, rfl, k.now s (.int _) q⟩
  | [.bl i], q =>
    obtain ⟨v, rfl, rv⟩ := reps1 r
    cases rv
    exact .inr ⟨_, rfl, k.now s (.int _) q⟩
def gList : GN := fun xs S Q => match xs with
  | [.tup ys] => ∀ p, S p = none → Q (.ref p) (updS S p (.lst ys))
  | [.fl ys] => ∀ p, S p = none → Q (.ref p) (updS S p (.lst ys))
  | [.ref a] => ∃ ys, S a = some (.lst ys) ∧ ∀ p, S p = none → Q (.ref p) (updS S p (.lst ys))
  | _ => False
theorem new_lst {vs : List V} {ds : List D} {Q : DK} {Kt : VK} (s : SRep K S H) (r : Reps K H vs ds) (k : Rch K S H Q Kt) (q : ∀ p, S p = none → Q (.ref p) (updS S p (.lst ds))) : ∀ p, H p = none → Kt (.ref p) (upd H p (.lst vs)) := fun p hp => by
  have tx := tx_new (K := K) (ho := .lst vs) hp
  obtain ⟨st, sr⟩ := stp_new (o := .lst ds) s hp ⟨_, upd_same, r.mono tx⟩
  exact k _ _ _ _ st sr (.ref p) (q p (s.free hp))
theorem y_list : CY X "list" gList := by
  refine ⟨_, call_list_of, fun xs as S H Q Kt s r q k => ?_⟩
  match as, q with
  | [.tup ys], q =>
    obtain ⟨v, rfl, rv⟩ := reps1 r
    cases rv with
    | tup h r => exact ⟨_, _, rfl, .inr h, new_lst s r k q⟩
  | [.fl ys], q =>
    obtain ⟨v, rfl, rv⟩ := reps1 r
    cases rv with
    | fl h r => exact ⟨_, _, rfl, .inl h.sq, new_lst s r k q⟩
  | [.ref p], q =>
    obtain ⟨v, rfl, rv⟩ := reps1 r
    cases rv
    obtain ⟨ys, e, q⟩ := q
    obtain ⟨vs, e1, r⟩ := s _ _ e
    exact ⟨_, _, rfl, .inl (.inl (.inl e1)), new_lst s r k q⟩
def gTuple : GN := fun xs S Q => match xs with
  | [.tup ys] => Q (.tup ys) S
  | [.fl ys] => Q (.tup ys) S
  | [.ref a] => ∃ ys, S a = some (.lst ys) ∧ Q (.tup ys) S
  | _ => False
theorem y_tuple : CY X "tuple" gTuple := by
  refine ⟨_, call_tuple_of, fun xs as S H Q Kt s r q k => ?_⟩
  have mk : ∀ {vs : List V} {ds : List D}, Reps X.K H vs ds → Q (.tup ds) S → ∀ p, H p = none → Kt (.ref p) (upd H p (.tup vs)) := fun {vs ds} r q p hp => by
    obtain ⟨st, sr⟩ := stp_tup (vs := vs) s hp
    exact k _ _ _ _ st sr (.tup (.inl (.inl upd_same)) (r.mono st.tx)) q
  match as, q with
  | [.tup ys], q =>
    obtain ⟨v, rfl, rv⟩ := reps1 r
    cases rv with
    | tup h r => exact ⟨_, _, rfl, .inr ⟨h, k.now s (.tup h r) q⟩⟩
  | [.fl ys], q =>
    obtain ⟨v, rfl, rv⟩ := reps1 r
    cases rv with
    | fl h r => exact ⟨_, _, rfl, .inl ⟨h.sq, mk r q⟩⟩
  | [.ref p], q =>
    obtain ⟨v, rfl, rv⟩ := reps1 r
    cases rv
    obtain ⟨ys, e, q⟩ := q
    obtain ⟨vs, e1, r⟩ := s _ _ e
    exact ⟨_, _, rfl, .inl ⟨.inl (.inl e1), mk r q⟩⟩
theorem reps_map {α : Type} {f : α → V} {g : α → D} (h : ∀ {v : V} {x : α}, Rep K H v (g x) → v = f x) : ∀ {vs : List V} {xs : List α}, Reps K H vs (xs.map g) → vs = xs.map f
  | _, [], r => by cases r; rfl
  | _, x :: xs, r => by
    cases r with
    | cons h1 r => rw [h h1, reps_map h r]; rfl
theorem reps_ints {vs : List V} {ns : List Int} (r : Reps K H vs (ns.map D.int)) : vs = ns.map V.int := reps_map (fun {v x} h => by cases h; rfl) r
theorem reps_strs {vs : List V} {ns : List Str} (r : Reps K H vs (ns.map D.str)) : vs = ns.map V.str := reps_map (fun {v x} h => by cases h; rfl) r
theorem reps_bls {vs : List V} {ns : List Bool} (r : Reps K H vs (ns.map D.bl)) : vs = ns.map V.bl := reps_map (fun {v x} h => by cases h; rfl) r
theorem strs_reps : ∀ {ns : List Str}, Reps K H (ns.map V.str) (ns.map D.str)
  | [] => .nil
  | _ :: _ => .cons (.str _) strs_reps
theorem ints_reps : ∀ {ns : List Int}, Reps K H (ns.map V.int) (ns.map D.int)
  | [] => .nil
  | _ :: _ => .cons (.int _) ints_reps
def gSum : GN := fun xs S Q => match xs with
  | [.ref a] => ∃ ns : List Int, S a = some (.lst (ns.map .int)) ∧ Q (.int ns.sum) S
  | _ => False
theorem b_sum (hc : X.calm = true) : CB X "sum" gSum := by
  refine ⟨_, cr_sum hc, fun xs as S H Q Kt s r q k => ?_⟩
  match as, q with
  | [.ref p], q =>
    obtain ⟨v, rfl, rv⟩ := reps1 r
    cases rv
    obtain ⟨ns, e, q⟩ := q
    obtain ⟨vs, e1, r⟩ := s _ _ e
    rw [reps_ints r] at e1
    exact ⟨_, _, rfl, .inl (.inl e1), k.now s (.int _) q⟩
def gAll (f : List Bool → Bool) : GN := fun xs S Q => match xs with
  | [.ref a] => ∃ bs : List Bool, S a = some (.lst (bs.map .bl)) ∧ Q (.bl (f bs)) S
  | _ => False
theorem b_all (hc : X.calm = true) : CB X "all" (gAll fun bs => bs.all id) := by
  refine ⟨_, cr_all hc, fun xs as S H Q Kt s r q k => ?_⟩
  match as, q with
  | [.ref p], q =>
    obtain ⟨v, rfl, rv⟩ := reps1 r
    cases rv
    obtain ⟨ns, e, q⟩ := q
    obtain ⟨vs, e1, r⟩ := s _ _ e
    rw [reps_bls r] at e1
    exact ⟨_, _, rfl, .inl (.inl e1), k.now s (.bl _) q⟩
theorem b_any (hc : X.calm = true) : CB X "any" (gAll fun bs => bs.any id) := by
  refine ⟨_, cr_any hc, fun xs as S H Q Kt s r q k => ?_⟩
  match as, q with
  | [.ref p], q =>
    obtain ⟨v, rfl, rv⟩ := reps1 r
    cases rv
    obtain ⟨ns, e, q⟩ := q
    obtain ⟨vs, e1, r⟩ := s _ _ e
    rw [reps_bls r] at e1
    exact ⟨_, _, rfl, .inl (.inl e1), k.now s (.bl _) q⟩
/-- isinstance of one built-in class -/
def tyD (x : D) (S : Sto) : Option String := match x with
  | .non => some "NoneType"
  | .bl _ => some "bool"
  | .int _ => some "int"
  | .str _ => some "str"
  | .tup _ => some "tuple"
  | .fl _ => some "list"
  | .ref p => (match S p with
    | some (.lst _) => some "list"
    | some (.dk _) => some "dict"
    | none => none)
  | .ty _ => none
theorem tyX_of {v : V} {d : D} {t : String} (s : SRep K S H) (r : Rep K H v d) (h : tyD d S = some t) : TyX K H v (.type t) := by
  cases r with
  | non => cases h; exact .base .non
  | bl b => cases h; exact .base (.bl b)
  | int i => cases h; exact .base (.int i)
  | str x => cases h; exact .base (.str x)
  | ty n => cases h
  | @tup p vs ds h1 r =>
    cases h
    rcases h1 with (h1 | ⟨o, h1⟩) | ⟨o, its, n, hk, hc, _⟩
    · exact .base (.tup h1)
    · exact .fTuple h1
    · exact .kTuple hk hc
  | @fl p vs ds h1 r =>
    cases h
    rcases h1 with ⟨o, h1⟩ | ⟨o, its, n, hk, hc, _⟩
    · exact .base (.frz h1)
    · exact .kList hk hc
  | ref p =>
    unfold tyD at h
    cases q : S p with
    | none => simp only [q] at h; cases h
    | some o =>
      have h0 := s _ _ q
      cases o with
      | lst ys =>
        simp only [q] at h
        cases h
        obtain ⟨vs, e1, r⟩ := h0
        exact .base (.lst e1)
      | dk kvs =>
        simp only [q] at h
        cases h
        obtain ⟨ws, e1, r⟩ := h0
        exact .base (.dK e1)
/-- what isinstance tells of a type and a class by their names -/
def isiN (t n : String) : Bool := t == n || (t == "bool" && n == "int")
def isiTys : List String := ["NoneType", "bool", "int", "str", "tuple", "list", "dict"]
def isiCls : List String := ["bool", "int", "str", "tuple", "list", "dict"]
theorem isi_table : isiTys.all (fun t => isiCls.all fun n => kitB t n == some (isiN t n)) = true := by decide +kernel
theorem isi_ok {t n : String} (ht : t ∈ isiTys) (hn : n ∈ isiCls) : kitB t n = some (isiN t n) := by
  have h := List.all_eq_true.mp (List.all_eq_true.mp isi_table t ht) n hn
  exact eq_of_beq h
theorem tyD_in {d : D} {t : String} (h : tyD d S = some t) : t ∈ isiTys := by
  have : ∀ u ∈ ["NoneType", "bool", "int", "str", "tuple", "list", "dict"], u ∈ isiTys := fun u h => h
  unfold tyD at h
  split at h <;> first | (cases h; done) | (cases h; apply this; simp; done) | skip
  split at h <;> first | (cases h; done) | (cases h; apply this; simp; done)
def gIsi : GN := fun xs S Q => match xs with
  | [x, .ty n] => n ∈ isiCls ∧ ∃ t, tyD x S = some t ∧ Q (.bl (isiN t n)) S
  | _ => False
theorem b_isi : CB X "isinstance" gIsi := by
  refine ⟨_, call_isi, fun xs as S H Q Kt s r q k => ?_⟩
  match as, q with
  | [x, .ty n], q =>
    obtain ⟨v, v2, rfl, rv, rv2⟩ := reps2 r
    cases rv2
    obtain ⟨hn, t, ht, q⟩ := q
    exact ⟨_, _, _, _, _, rfl, .ty n, tyX_of s rv ht, kit_ty (isi_ok (tyD_in ht) hn), k.now s (.bl _) q⟩
/-- isinstance(x, (c, c2)) -/
def eIsi2 (n n2 : String) (fa : DE) : DE := fun σ S Q => fa σ S fun x S1 => (n ∈ isiCls ∧ n2 ∈ isiCls) ∧ ∃ t, tyD x S1 = some t ∧ Q (.bl (isiN t n || isiN t n2)) S1
theorem c_isi2 {x1 x2 : Str} {n n2 : String} {p p1 p2 p3 : Pos} (hg : Gl X "isinstance") (hm : X.mg "isinstance" = none) (hv : bootBuiltins "isinstance" = some (.builtin "isinstance")) (ha : CE X a fa)
    (g1 : Gl X x1) (m1 : X.mg x1 = none) (v1 : bootBuiltins x1 = some (.type n)) (g2 : Gl X x2) (m2 : X.mg x2 = none) (v2 : bootBuiltins x2 = some (.type n2)) (hn1 : x1 ≠ "__name__" := by decide) (hd1 : (x1 == ("__debug__" : Str)) = false := by decide)
    (hn2 : x2 ≠ "__name__" := by decide) (hd2 : (x2 == ("__debug__" : Str)) = false := by decide) {j}
    (hs1 : starEach [a, .Tuple [.Name x1 p1, .Name x2 p2] j p3] X.env = (false, eval a X.env) :: starEach [.Tuple [.Name x1 p1, .Name x2 p2] j p3] X.env := by rfl)
    (hs2 : starEach [.Tuple [.Name x1 p1, .Name x2 p2] j p3] X.env = (false, eval (.Tuple [.Name x1 p1, .Name x2 p2] j p3) X.env) :: starEach [] X.env := by rfl)
    (hs3 : starEach [.Name x1 p1, .Name x2 p2] X.env = (false, eval (.Name x1 p1) X.env) :: starEach [.Name x2 p2] X.env := by rfl)
    (hs4 : starEach [.Name x2 p2] X.env = (false, eval (.Name x2 p2) X.env) :: starEach [] X.env := by rfl)
    (hpl : (backTo pos (starEach [.Tuple [.Name x1 p1, .Name x2 p2] j p3] X.env)).any (·.1) = false := by rfl) :
    CE X (.Call (.Name "isinstance" p) [a, .Tuple [.Name x1 p1, .Name x2 p2] j p3] [] pos) (eIsi2 n n2 fa) := by
  obtain ⟨ta, ha, sa⟩ := ha
  refine ⟨_, pe_callB call_isiT hg hm hv (pa_cons ha (pa_cons (pe_tup (pa_cons (pe_bltn (v := .ty n) g1 m1 v1 rfl hn1 hd1) (pa_cons (pe_bltn (v := .ty n2) g2 m2 v2 rfl hn2 hd2) pa_nil hs4) hs3)) pa_nil hs2) hs1) (by decide) (by decide) hs1 hpl, fun σ S Q sv H Kt re rs q k => ?_⟩
  refine sa σ S _ sv H _ re rs q fun v d S1 H1 s1 r1 w1 q1 => ?_
  obtain ⟨⟨h1, h2⟩, t, ht, q1⟩ := q1
  refine ⟨by show 2 ≤ sizeLine; decide, fun tp hp => ?_⟩
  obtain ⟨st, sr⟩ := stp_tup (vs := [V.ty n, V.ty n2]) r1 hp
  refine ⟨v, tp, _, _, [.type n, .type n2], _, rfl, upd_same, .cons (.ty n) (.cons (.ty n2) .nil), tyX_of sr (w1.mono st.tx) ht, ?_, k _ _ _ _ (s1.trans st) sr (.bl _) q1⟩
  refine kitAny_cons (b := isiN t n) (kit_ty (isi_ok (tyD_in ht) h1)) (fun e => kitAny_cons (b := isiN t n2) (r := isiN t n || isiN t n2) (kit_ty (isi_ok (tyD_in ht) h2)) (fun e2 => ?_) fun e2 => ?_) fun e => ?_
  · rw [e, e2]; exact kitAny_nil
  · rw [e, e2]; rfl
  · rw [e]; rfl
/-! ### methods of built-in types -/
def tyM (T : String) (x : D) (S : Sto) : Prop := match x with
  | .str _ => T = "str"
  | .ref p => (match S p with
    | some (.lst _) => T = "list"
    | some (.dk _) => T = "dict"
    | none => False)
  | _ => False
theorem tyV_of {v : V} {d : D} {T : String} (s : SRep K S H) (r : Rep K H v d) (h : tyM T d S) : tyV K T v H := by
  cases r with
  | str x => exact h
  | ref p =>
    unfold tyM at h
    cases q : S p with
    | none => simp only [q] at h
    | some o =>
      have h0 := s _ _ q
      cases o with
      | lst ys =>
        simp only [q] at h
        obtain ⟨vs, e1, r⟩ := h0
        exact .inl ⟨h, vs, .inl (.inl e1)⟩
      | dk kvs =>
        simp only [q] at h
        obtain ⟨ws, e1, r⟩ := h0
        exact .inr (.inr (.inl ⟨h, .inl ⟨ws, e1⟩⟩))
  | _ => exact False.elim h
def eM (T : String) (g : D → GN) (fo : DE) (fs : DA) : DE := fun σ S Q => fo σ S fun x S1 => tyM T x S1 ∧ fs σ S1 fun xs S2 => g x xs S2 Q
/-- a method by its name -/
structure CM (X : Cx) (T : String) (name : Str) (g : D → GN) : Prop where
  ok : ∃ (id : String) (r : V → List V → Hp → VK → Prop), PlainAttrs T ∧ Slot T name id ∧ typeOf (.builtin id) = pure (.type "method_descriptor") ∧ MtR X id r ∧ SndM X.K r g
theorem c_m {T : String} {name : Str} {g : D → GN} {fo : DE} {o : Expr} {apos : Pos} (h : CM X T name g) (ho : CE X o fo) (ha : CA X (a :: es) fs)
    (hbase : attributeBase o name X.env (eval o X.env) = eval o X.env := by rfl)
    (hfew : ((backTo pos (starEach (a :: es) X.env)).all (fun x => !x.1) && (backToKw pos (keywordEach [] X.env)).all (fun x => x.1.isSome)
      && decide ((a :: es).length + ([] : List Keyword).length + (if ([] : List Keyword).isEmpty then 0 else 1) < 30)) = true := by rfl)
    (hline : (apos.endLine == pos.line) = true := by rfl) (hs : starEach (a :: es) X.env = (false, eval a X.env) :: starEach es X.env := by rfl) (hplain : (backTo pos (starEach es X.env)).any (·.1) = false := by rfl) :
    CE X (.Call (.Attribute o name apos) (a :: es) [] pos) (eM T g fo fs) := by
  obtain ⟨id, r, h1, h2, h3, h4, h5⟩ := h
  obtain ⟨to, ho, so⟩ := ho
  obtain ⟨ta, ha, sa⟩ := ha
  refine ⟨_, pe_bm h1 h2 h3 h4 ho ha hbase hfew hline hs hplain, fun σ S Q sv H Kt re rs q k => so σ S _ sv H _ re rs q fun v d S1 H1 s1 r1 v1 q1 => ?_⟩
  refine ⟨tyV_of r1 v1 q1.1, sa σ S1 _ sv H1 _ (re.mono s1.tx) r1 q1.2 fun vs ds S2 H2 s2 r2 v2 q2 => ?_⟩
  exact h5 v d vs ds S2 H2 Q Kt r2 (v1.mono s2.tx) v2 q2 fun v3 d3 S3 H3 s3 r3 w3 q3 => k v3 d3 S3 H3 ((s1.trans s2).trans s3) r3 w3 q3
theorem c_m0 {T : String} {name : Str} {g : D → GN} {fo : DE} {o : Expr} {apos : Pos} (h : CM X T name g) (ho : CE X o fo) (hbase : attributeBase o name X.env (eval o X.env) = eval o X.env := by rfl) (hline : (apos.endLine == pos.line) = true := by rfl) :
    CE X (.Call (.Attribute o name apos) [] [] pos) (eM T g fo aNil) := by
  obtain ⟨id, r, h1, h2, h3, h4, h5⟩ := h
  obtain ⟨to, ho, so⟩ := ho
  refine ⟨_, pe_bm0 h1 h2 h3 h4 ho hbase hline, fun σ S Q sv H Kt re rs q k => so σ S _ sv H _ re rs q fun v d S1 H1 s1 r1 v1 q1 => ?_⟩
  refine ⟨tyV_of r1 v1 q1.1, ?_⟩
  exact h5 v d [] [] S1 H1 Q Kt r1 v1 .nil q1.2 fun v3 d3 S3 H3 s3 r3 w3 q3 => k v3 d3 S3 H3 (s1.trans s3) r3 w3 q3
end
end DL
namespace DL
open PySem PySem.Spec PyProof.Rows L2
section
variable {X : Cx} {K : PySem.W.Frag} {e a b c : Expr} {es : List Expr} {fe fa fb fc : DE} {ft fu : DT} {fs : DA} {pos : Pos} {S : Sto} {H : Hp}
/-! ### methods of lists -/
def gAppend : D → GN := fun x vs S Q => match x, vs with
  | .ref p, [d] => ∃ xs, S p = some (.lst xs) ∧ xs.length < sizeLine ∧ Q .non (updS S p (.lst (xs ++ [d])))
  | _, _ => False
theorem mut_lst {p : Addr} {vs' : List V} {ds ds' : List D} {Q : DK} {Kt : VK} (s : SRep K S H) (e : S p = some (.lst ds)) (r : Reps K H vs' ds') (k : Rch K S H Q Kt) {v : V} {d : D} (rv : Rep K H v d) (q : Q d (updS S p (.lst ds'))) : Kt v (upd H p (.lst vs')) := by
  have tx : Tx K H (upd H p (.lst vs')) := tx_mut (s p _ e)
  obtain ⟨st, sr⟩ := stp_mut (o' := .lst ds') s e ⟨_, upd_same, r.mono tx⟩
  exact k _ _ _ _ st sr (rv.mono tx) q
theorem m_append : CM X "list" "append" gAppend := by
  refine ⟨_, _, PySem.F.plainAttrs_list, PySem.F.slot_list_append, PySem.F.type_list_append, mt_append, fun x a xs as S H Q Kt s rx r q k => ?_⟩
  match a, as, q with
  | .ref p, [d], q =>
    obtain ⟨ys, e, hz, q⟩ := q
    obtain ⟨v, rfl, rv⟩ := reps1 r
    cases rx
    obtain ⟨vs, e1, r1⟩ := s _ _ e
    exact ⟨p, vs, v, rfl, rfl, e1, by rw [r1.length]; exact hz, mut_lst s e (r1.append (.cons rv .nil)) k .non q⟩
def gPop0 : D → GN := fun x vs S Q => match x, vs with
  | .ref p, [] => ∃ xs d, S p = some (.lst xs) ∧ xs[xs.length - 1]? = some d ∧ Q d (updS S p (.lst xs.dropLast))
  | _, _ => False
theorem m_pop0 : CM X "list" "pop" gPop0 := by
  refine ⟨_, _, PySem.F.plainAttrs_list, PySem.F.slot_list_pop, PySem.F.type_list_pop, mt_pop, fun x a xs as S H Q Kt s rx r q k => ?_⟩
  match a, as, q with
  | .ref p, [], q =>
    obtain ⟨ys, d, e, hd, q⟩ := q
    cases r
    cases rx
    obtain ⟨vs, e1, r1⟩ := s _ _ e
    obtain ⟨v, ev, rv⟩ := r1.get hd
    exact ⟨p, vs, v, rfl, rfl, e1, by rw [r1.length]; exact ev, mut_lst s e r1.dropLast k rv q⟩
def gPopAt : D → GN := fun x vs S Q => match x, vs with
  | .ref p, [.int i] => ∃ xs j d, S p = some (.lst xs) ∧ -(2 ^ 63) ≤ i ∧ i < 2 ^ 63 ∧ seqIndex? i xs.length = some j ∧ xs[j]? = some d ∧ Q d (updS S p (.lst (xs.eraseIdx j)))
  | _, _ => False
theorem m_popAt : CM X "list" "pop" gPopAt := by
  refine ⟨_, _, PySem.F.plainAttrs_list, PySem.F.slot_list_pop, PySem.F.type_list_pop, mt_popAt, fun x a xs as S H Q Kt s rx r q k => ?_⟩
  match a, as, q with
  | .ref p, [.int i], q =>
    obtain ⟨ys, j, d, e, h1, h2, h3, hd, q⟩ := q
    obtain ⟨v, rfl, rv⟩ := reps1 r
    cases rv
    cases rx
    obtain ⟨vs, e1, r1⟩ := s _ _ e
    obtain ⟨v, ev, rv⟩ := r1.get hd
    exact ⟨p, vs, i, j, v, rfl, rfl, e1, h1, h2, by rw [r1.length]; exact h3, ev, mut_lst s e (r1.eraseIdx j) k rv q⟩
def gClear : D → GN := fun x vs S Q => match x, vs with
  | .ref p, [] => ∃ xs, S p = some (.lst xs) ∧ Q .non (updS S p (.lst []))
  | _, _ => False
theorem m_clear : CM X "list" "clear" gClear := by
  refine ⟨_, _, PySem.F.plainAttrs_list, PySem.F.slot_list_clear, PySem.F.type_list_clear, mt_clear, fun x a xs as S H Q Kt s rx r q k => ?_⟩
  match a, as, q with
  | .ref p, [], q =>
    obtain ⟨ys, e, q⟩ := q
    cases r
    cases rx
    obtain ⟨vs, e1, r1⟩ := s _ _ e
    exact ⟨p, vs, rfl, rfl, e1, mut_lst s e .nil k .non q⟩
def gReverse : D → GN := fun x vs S Q => match x, vs with
  | .ref p, [] => ∃ xs, S p = some (.lst xs) ∧ Q .non (updS S p (.lst xs.reverse))
  | _, _ => False
theorem m_reverse : CM X "list" "reverse" gReverse := by
  refine ⟨_, _, PySem.F.plainAttrs_list, PySem.F.slot_list_reverse, PySem.F.type_list_reverse, mt_reverse, fun x a xs as S H Q Kt s rx r q k => ?_⟩
  match a, as, q with
  | .ref p, [], q =>
    obtain ⟨ys, e, q⟩ := q
    cases r
    cases rx
    obtain ⟨vs, e1, r1⟩ := s _ _ e
    exact ⟨p, vs, rfl, rfl, e1, mut_lst s e r1.reverse k .non q⟩
/-! ### methods of texts -/
def gJoin : D → GN := fun x vs S Q => match x, vs with
  | .str a, [.ref p] => ∃ ys : List Str, S p = some (.lst (ys.map .str)) ∧ (ys.map (·.length)).sum + ys.length * a.length ≤ 16777216 ∧ Q (.str (Txt.join a ys)) S
  | .str a, [.tup ds] => ∃ ys : List Str, ds = ys.map .str ∧ (ys.map (·.length)).sum + ys.length * a.length ≤ 16777216 ∧ Q (.str (Txt.join a ys)) S
  | _, _ => False
theorem m_join : CM X "str" "join" gJoin := by
  refine ⟨_, _, PySem.F.plainAttrs_str, F.slot_str_join, F.type_str_join, mt_join, fun x a xs as S H Q Kt s rx r q k => ?_⟩
  match a, as, q with
  | .str z, [.ref p], q =>
    obtain ⟨ys, e, hz, q⟩ := q
    obtain ⟨v, rfl, rv⟩ := reps1 r
    cases rv
    cases rx
    obtain ⟨vs, e1, r1⟩ := s _ _ e
    rw [reps_strs r1] at e1
    exact ⟨z, p, ys, rfl, rfl, .inl (.inl (.inl e1)), hz, k.now s (.str _) q⟩
  | .str z, [.tup ds], q =>
    obtain ⟨ys, rfl, hz, q⟩ := q
    obtain ⟨v, rfl, rv⟩ := reps1 r
    cases rx
    cases rv with
    | @tup p vs ds h r =>
      rw [reps_strs r] at h
      exact ⟨z, p, ys, rfl, rfl, .inr h, hz, k.now s (.str _) q⟩
def gUpper : D → GN := fun x vs S Q => match x, vs with
  | .str a, [] => a.length ≤ 5592405 ∧ Q (.str (Txt.upper a)) S
  | _, _ => False
theorem m_upper : CM X "str" "upper" gUpper := by
  refine ⟨_, _, PySem.F.plainAttrs_str, F.slot_str_upper, F.type_str_upper, mt_upper, fun x a xs as S H Q Kt s rx r q k => ?_⟩
  match a, as, q with
  | .str z, [], q =>
    cases r
    cases rx
    exact ⟨z, rfl, rfl, q.1, k.now s (.str _) q.2⟩
/-! ### statements -/
structure DEnds where
  nx : Env → Sto → Prop
  rt : DK
  bk : Env → Sto → Prop
  ct : Env → Sto → Prop
abbrev DS := DEnds → Env → Sto → Prop
/-- a state of data that is reached, and what is wanted there -/
abbrev RchS (K : PySem.W.Frag) (S : Sto) (H : Hp) (Q : Env → Sto → Prop) (Kt : L2.St → Hp → Prop) : Prop := ∀ sv σ S' H', Stp K S H S' H' → SRep K S' H' → ERep K H' sv σ → Q σ S' → Kt sv H'
structure RchE (K : PySem.W.Frag) (S : Sto) (H : Hp) (D0 : DEnds) (Dv : Ends) : Prop where
  nx : RchS K S H D0.nx Dv.nx
  rt : Rch K S H D0.rt Dv.rt
  bk : RchS K S H D0.bk Dv.bk
  ct : RchS K S H D0.ct Dv.ct
theorem RchS.stp {Q : Env → Sto → Prop} {Kt : L2.St → Hp → Prop} {S1 : Sto} {H1 : Hp} (k : RchS K S H Q Kt) (s : Stp K S H S1 H1) : RchS K S1 H1 Q Kt := fun sv σ S2 H2 s2 r e q => k sv σ S2 H2 (s.trans s2) r e q
theorem Rch.stp {Q : DK} {Kt : VK} {S1 : Sto} {H1 : Hp} (k : Rch K S H Q Kt) (s : Stp K S H S1 H1) : Rch K S1 H1 Q Kt := fun v d S2 H2 s2 r e q => k v d S2 H2 (s.trans s2) r e q
theorem RchE.stp {D0 : DEnds} {Dv : Ends} {S1 : Sto} {H1 : Hp} (k : RchE K S H D0 Dv) (s : Stp K S H S1 H1) : RchE K S1 H1 D0 Dv := ⟨k.nx.stp s, k.rt.stp s, k.bk.stp s, k.ct.stp s⟩
def SndS (K : PySem.W.Frag) (t : TS) (f : DS) : Prop := ∀ (D0 : DEnds) (σ : Env) (S : Sto) (Dv : Ends) (sv : L2.St) (H : Hp), ERep K H sv σ → SRep K S H → f D0 σ S → RchE K S H D0 Dv → t Dv sv H
structure CS (X : Cx) (st : Stmt) (f : DS) : Prop where
  ok : ∃ t, PS X st t ∧ SndS X.K t f
structure CSs (X : Cx) (st : List Stmt) (f : DS) : Prop where
  ok : ∃ t, PSs X st t ∧ SndS X.K t f
variable {st : Stmt} {rest : List Stmt} {f g : DS}
def sNext : DS := fun D0 σ S => D0.nx σ S
def sSeq (f g : DS) : DS := fun D0 σ S => f { D0 with nx := g D0 } σ S
def sBreak : DS := fun D0 σ S => D0.bk σ S
def sCont : DS := fun D0 σ S => D0.ct σ S
theorem ss_nil : CSs X [] sNext := ⟨_, pss_nil, fun D0 σ S Dv sv H re rs q k => k.nx sv σ S H .refl rs re q⟩
theorem ss_cons (h1 : CS X st f) (h2 : CSs X rest g) : CSs X (st :: rest) (sSeq f g) := by
  obtain ⟨t, h1, s1⟩ := h1
  obtain ⟨u, h2, s2⟩ := h2
  refine ⟨_, pss_cons h1 h2, fun D0 σ S Dv sv H re rs q k => s1 { D0 with nx := g D0 } σ S { Dv with nx := u Dv } sv H re rs q ⟨?_, k.rt, k.bk, k.ct⟩⟩
  exact fun sv' σ' S' H' st' r' e' q' => s2 D0 σ' S' Dv sv' H' e' r' q' (k.stp st')
theorem ss_one (h1 : CS X st f) : CSs X [st] f := let ⟨_, h, s⟩ := h1.ok; ⟨_, pss_one h, s⟩
theorem s_pass : CS X (.Pass pos) sNext := ⟨_, ps_pass, fun D0 σ S Dv sv H re rs q k => k.nx sv σ S H .refl rs re q⟩
theorem s_break : CS X (.Break pos) sBreak := ⟨_, ps_break, fun D0 σ S Dv sv H re rs q k => k.bk sv σ S H .refl rs re q⟩
theorem s_cont : CS X (.Continue pos) sCont := ⟨_, ps_continue, fun D0 σ S Dv sv H re rs q k => k.ct sv σ S H .refl rs re q⟩
def sExpr (fa : DE) : DS := fun D0 σ S => fa σ S fun _ S1 => D0.nx σ S1
theorem s_expr (ha : CE X a fa) (hs : swapsWith a none pos.line X.env = pure false := by rfl) : CS X (.Expr a pos) (sExpr fa) := by
  obtain ⟨t, h, s⟩ := ha
  exact ⟨_, ps_expr h hs, fun D0 σ S Dv sv H re rs q k => s σ S _ sv H _ re rs q fun v d S1 H1 s1 r1 v1 q1 => k.nx sv σ S1 H1 s1 r1 (re.mono s1.tx) q1⟩
def sRet (fa : DE) : DS := fun D0 σ S => fa σ S D0.rt
theorem s_ret (ha : CE X a fa) : CS X (.Return (some a) pos) (sRet fa) := by
  obtain ⟨t, h, s⟩ := ha
  exact ⟨_, ps_ret h, fun D0 σ S Dv sv H re rs q k => s σ S _ sv H _ re rs q k.rt⟩
def sRetN : DS := fun D0 _ S => D0.rt .non S
theorem s_retN : CS X (.Return none pos) sRetN := ⟨_, ps_retN, fun D0 σ S Dv sv H re rs q k => k.rt _ _ _ _ .refl rs .non q⟩
def sIf (ft : DT) (f g : DS) : DS := fun D0 σ S => ft σ S fun k S1 => if k = true then f D0 σ S1 else g D0 σ S1
theorem s_if {body orelse : List Stmt} (hc : CT X c ft) (ha : CSs X body f) (hb : CSs X orelse g) : CS X (.If c body orelse pos) (sIf ft f g) := by
  obtain ⟨tc, hc, sc⟩ := hc
  obtain ⟨ta, ha, sa⟩ := ha
  obtain ⟨tb, hb, sb⟩ := hb
  refine ⟨_, ps_if hc ha hb, fun D0 σ S Dv sv H re rs q k => sc σ S _ sv H _ re rs q fun kk S1 H1 s1 r1 q1 => ?_⟩
  cases kk with
  | true => exact sa D0 σ S1 Dv sv H1 (re.mono s1.tx) r1 q1 (k.stp s1)
  | false => exact sb D0 σ S1 Dv sv H1 (re.mono s1.tx) r1 q1 (k.stp s1)
/-! ### targets -/
abbrev DG := D → Env → Sto → (Env → Sto → Prop) → Prop
/-- own: the slots that a store changes -/
structure CG (X : Cx) (tg : Expr) (own : List Nat) (g : DG) : Prop where
  ok : ∃ t, PG X tg t ∧ ∀ (v : V) (d : D) (σ : Env) (S : Sto) (Q : Env → Sto → Prop) (sv : L2.St) (H : Hp) (Kt : L2.St → Hp → Prop), Rep X.K H v d → ERep X.K H sv σ → SRep X.K S H → g d σ S Q →
    (∀ sv' σ' S' H', Stp X.K S H S' H' → SRep X.K S' H' → ERep X.K H' sv' σ' → (∀ vs : List Nat, (∀ i ∈ own, i ∈ vs) → wipe sv' vs = wipe sv vs) → Q σ' S' → Kt sv' H') → t v sv H Kt
def nName (i : Nat) : DG := fun d σ S Q => Q (setS i d σ) S
theorem g_name {i : Nat} {x : Str} (hN : X.N.Nodup) (hi : X.N[i]? = some x) (hx : Loc X.env.scope x) (hf : X.fn x = true ∨ X.env.scope.names.lookup x = some .local := by first | exact .inl rfl | exact .inr rfl | assumption) : CG X (.Name x pos) [i] (nName i) := by
  refine ⟨_, pg_name hN hi hx hf, fun v d σ S Q sv H Kt rv re rs q k => ?_⟩
  exact k _ _ _ _ .refl rs (re.set rv) (fun vs h => wipe_set (h i List.mem_cons_self)) q
structure CGs (X : Cx) (ts : List Expr) (own : List Nat) (g : List D → Env → Sto → (Env → Sto → Prop) → Prop) : Prop where
  ok : ∃ t, PGs X ts t ∧ ∀ (vs : List V) (ds : List D) (σ : Env) (S : Sto) (Q : Env → Sto → Prop) (sv : L2.St) (H : Hp) (Kt : L2.St → Hp → Prop), Reps X.K H vs ds → ERep X.K H sv σ → SRep X.K S H → g ds σ S Q →
    (∀ sv' σ' S' H', Stp X.K S H S' H' → SRep X.K S' H' → ERep X.K H' sv' σ' → (∀ vs : List Nat, (∀ i ∈ own, i ∈ vs) → wipe sv' vs = wipe sv vs) → Q σ' S' → Kt sv' H') → t vs sv H Kt
def nNil : List D → Env → Sto → (Env → Sto → Prop) → Prop := fun ds σ S Q => match ds with
  | [] => Q σ S
  | _ => False
def nCons (g : DG) (gs : List D → Env → Sto → (Env → Sto → Prop) → Prop) : List D → Env → Sto → (Env → Sto → Prop) → Prop := fun ds σ S Q => match ds with
  | d :: r => g d σ S fun σ1 S1 => gs r σ1 S1 Q
  | [] => False
theorem gs_nil : CGs X [] [] nNil := by
  refine ⟨_, pgs_nil, fun vs ds σ S Q sv H Kt rv re rs q k => ?_⟩
  cases rv with
  | nil => exact ⟨rfl, k _ _ _ _ .refl rs re (fun _ _ => rfl) q⟩
  | cons h r => exact False.elim q
theorem gs_cons {t : Expr} {ts : List Expr} {own owns : List Nat} {gg : DG} {gs : List D → Env → Sto → (Env → Sto → Prop) → Prop} (h1 : CG X t own gg) (h2 : CGs X ts owns gs)
    (hs : (assignEach (t :: ts) X.env).map (·.2) = assign t X.env :: (assignEach ts X.env).map (·.2) := by rfl) : CGs X (t :: ts) (own ++ owns) (nCons gg gs) := by
  obtain ⟨t1, p1, s1⟩ := h1
  obtain ⟨t2, p2, s2⟩ := h2
  refine ⟨_, pgs_cons p1 p2 hs, fun vs ds σ S Q sv H Kt rv re rs q k => ?_⟩
  cases rv with
  | nil => exact False.elim q
  | cons h r =>
    refine ⟨_, _, rfl, s1 _ _ σ S _ sv H _ h re rs q fun sv1 σ1 S1 H1 st1 r1 e1 w1 q1 => ?_⟩
    refine s2 _ _ σ1 S1 Q sv1 H1 Kt (r.mono st1.tx) e1 r1 q1 fun sv2 σ2 S2 H2 st2 r2 e2 w2 q2 => k sv2 σ2 S2 H2 (st1.trans st2) r2 e2 (fun vs hv => ?_) q2
    rw [w2 vs fun i hi => hv i (List.mem_append_right _ hi), w1 vs fun i hi => hv i (List.mem_append_left _ hi)]
/-- a, b, .. = a tuple of n -/
def nTup (n : Nat) (gs : List D → Env → Sto → (Env → Sto → Prop) → Prop) : DG := fun d σ S Q => match d with
  | .tup ds => ds.length = n ∧ gs ds σ S Q
  | _ => False
theorem g_tup {ts : List Expr} {k : Nat} {own : List Nat} {gs : List D → Env → Sto → (Env → Sto → Prop) → Prop} {n : Nat} (hc : X.calm = true) (h : CGs X ts own gs) (hn : (assignEach ts X.env).length = n := by rfl) (hst : (assignEach ts X.env).findIdx? (·.1) = none := by rfl) :
    CG X (.Tuple ts k pos) own (nTup n gs) := by
  obtain ⟨t, p, s⟩ := h
  refine ⟨_, pg_tup hc p hn hst, fun v d σ S Q sv H Kt rv re rs q k => ?_⟩
  cases rv with
  | @tup a vs ds h r => exact ⟨a, vs, rfl, h, by rw [r.length]; exact q.1, s vs ds σ S Q sv H Kt r re rs q.2 k⟩
  | _ => exact False.elim q
/-! ### target = value -/
def sAsg (fa : DE) (g : DG) : DS := fun D0 σ S => fa σ S fun x S1 => g x σ S1 D0.nx
theorem s_asg {tg : Expr} {own : List Nat} {g : DG} (ha : CE X a fa) (hg : CG X tg own g) (hs : swapsWithSole [tg] a pos.line X.env = pure false := by rfl) (hw : swappedStores [tg] a X.env = pure none := by rfl)
    (h1 : (assignEach [tg] X.env).map (·.2) = [assign tg X.env] := by rfl) : CS X (.Assign [tg] a pos) (sAsg fa g) := by
  obtain ⟨t, h, s⟩ := ha
  obtain ⟨u, hg, sg⟩ := hg
  refine ⟨_, ps_asg h hg hs hw h1, fun D0 σ S Dv sv H re rs q k => s σ S _ sv H _ re rs q fun v d S1 H1 s1 r1 v1 q1 => ?_⟩
  exact sg v d σ S1 D0.nx sv H1 Dv.nx v1 (re.mono s1.tx) r1 q1 fun sv2 σ2 S2 H2 st2 r2 e2 _ q2 => k.nx sv2 σ2 S2 H2 (s1.trans st2) r2 e2 q2
theorem s_set {i : Nat} {x : Str} {pos' : Pos} (hN : X.N.Nodup) (hi : X.N[i]? = some x) (hx : Loc X.env.scope x) (ha : CE X a fa) (hs : swapsWith a (some (.Name x pos')) pos.line X.env = pure false := by rfl) (hf : X.fn x = true ∨ X.env.scope.names.lookup x = some .local := by first | exact .inl rfl | exact .inr rfl | assumption) :
    CS X (.Assign [.Name x pos'] a pos) (sAsg fa (nName i)) := by
  obtain ⟨t, h, s⟩ := ha
  refine ⟨_, ps_set hN hi hx h hs hf, fun D0 σ S Dv sv H re rs q k => s σ S _ sv H _ re rs q fun v d S1 H1 s1 r1 v1 q1 => ?_⟩
  exact k.nx _ _ _ _ s1 r1 ((re.mono s1.tx).set v1) q1
/-- o[i] = v, dicts and lists -/
def sSub (fv fo fi : DE) : DS := fun D0 σ S => fv σ S fun d S1 => fo σ S1 fun o S2 => fi σ S2 fun i S3 => match o with
  | .ref p => (match S3 p with
    | some (.dk kvs) => ∃ k, toKey i = some k ∧ kvs.length < sizeLine ∧ D0.nx σ (updS S3 p (.dk (putD kvs k d)))
    | some (.lst xs) => (match i with
      | .int n => ∃ j, ixN xs.length n = some j ∧ D0.nx σ (updS S3 p (.lst (xs.set j d)))
      | _ => False)
    | none => False)
  | _ => False
def rPutD : V → V → V → Hp → (Hp → Prop) → Prop := fun o i v H Q => ∃ a H', o = .ref a ∧ DPut H a i v H' ∧ Q H'
theorem setDict (hu : X.A.units + 1 < cLine) : PSet X rPutD := by
  intro pins s σ H o i v ov iv u Q I ro ri rv h
  obtain ⟨a, H', eo, g, q⟩ := h
  subst eo
  have ev : ov = Value.ref a := ro
  subst ev
  exact d_setItem hu I g ri rv fun s' I' => ⟨H', I', q⟩
theorem PSet.or {t t' : TSet} (h : PSet X t) (h' : PSet X t') : PSet X (fun o i v H Q => t o i v H Q ∨ t' o i v H Q) := fun pins s σ H o i v ov iv u Q I r1 r2 r3 q => by
  rcases q with q | q
  · exact h pins s σ H o i v ov iv u Q I r1 r2 r3 q
  · exact h' pins s σ H o i v ov iv u Q I r1 r2 r3 q
theorem s_sub {o i v : Expr} {fo fi fv : DE} {pos' : Pos} (hu : X.A.units + 1 < cLine) (hv : CE X v fv) (ho : CE X o fo) (hi : CE X i fi) (hs : swapsWithSole [.Subscript o i pos'] v pos.line X.env = pure false := by rfl) (hw : swappedStores [.Subscript o i pos'] v X.env = pure none := by rfl)
    (h1 : (assignEach [.Subscript o i pos'] X.env).map (·.2) = [assign (.Subscript o i pos') X.env] := by rfl)
    (ha : ∀ v, assign (.Subscript o i pos') X.env v = (do
      let ov ← holding [v] (eval o X.env)
      let iv ← holding [v, ov] (eval i X.env)
      standAt pos'
      holding [v, ov, iv] (setItem ov iv v)
      release [v, ov, iv] []) := by intro _; rfl) : CS X (.Assign [.Subscript o i pos'] v pos) (sSub fv fo fi) := by
  obtain ⟨tv, hv, sv0⟩ := hv
  obtain ⟨to, ho, so⟩ := ho
  obtain ⟨ti, hi, si⟩ := hi
  refine ⟨_, ps_asg hv (pg_sub ho hi (PSet.or set_list (setDict hu)) ha) hs hw h1, fun D0 σ S Dv sv H re rs q k => sv0 σ S _ sv H _ re rs q fun v d S1 H1 s1 r1 v1 q1 => ?_⟩
  refine so σ S1 _ sv H1 _ (re.mono s1.tx) r1 q1 fun ov od S2 H2 s2 r2 v2 q2 => ?_
  refine si σ S2 _ sv H2 _ (re.mono (s1.trans s2).tx) r2 q2 fun iv id S3 H3 s3 r3 v3 q3 => ?_
  have st := (s1.trans s2).trans s3
  have rd := v1.mono (s2.trans s3).tx
  cases v2 with
  | ref p =>
    dsimp only at q3
    cases h : S3 p with
    | none => simp only [h] at q3
    | some o =>
      have h0 := r3 _ _ h
      cases o with
      | lst xs =>
        simp only [h] at q3
        cases v3 <;> try exact False.elim q3
        obtain ⟨j, hj, q3⟩ := q3
        obtain ⟨vs, e1, r⟩ := h0
        refine .inl ⟨p, vs, _, j, rfl, rfl, e1, by rw [r.length]; exact hj, ?_⟩
        have tx : Tx X.K H3 (upd H3 p (.lst (vs.set j v))) := tx_mut (r3 p _ h)
        obtain ⟨s4, r4⟩ := stp_mut (o' := .lst (xs.set j d)) r3 h ⟨_, upd_same, (r.set j rd).mono tx⟩
        exact k.nx _ _ _ _ (st.trans s4) r4 (re.mono (st.trans s4).tx) q3
      | dk kvs =>
        simp only [h] at q3
        obtain ⟨kk, e, hl, q3⟩ := q3
        obtain ⟨ws, e1, r⟩ := h0
        refine .inr ⟨p, _, rfl, by rw [key_rep v3 e]; exact .k e1 (by rw [kreps_len r]; exact hl), ?_⟩
        have tx : Tx X.K H3 (upd H3 p (.dK (putK ws kk v))) := tx_mut (r3 p _ h)
        obtain ⟨s4, r4⟩ := stp_mut (o' := .dk (putD kvs kk d)) r3 h ⟨_, upd_same, KReps.mono tx (kreps_put rd kk r)⟩
        exact k.nx _ _ _ _ (st.trans s4) r4 (re.mono (st.trans s4).tx) q3
  | _ => exact False.elim q3
end
end DL
namespace DL
open PySem PySem.Spec PyProof.Rows L2
/-! ### the reading that data choose -/
def TEof (K : PySem.W.Frag) (f : DE) : TE := fun sv H Kt => ∃ σ S Q, ERep K H sv σ ∧ SRep K S H ∧ f σ S Q ∧ Rch K S H Q Kt
def TTof (K : PySem.W.Frag) (f : DT) : TT := fun sv H Kt => ∃ σ S Q, ERep K H sv σ ∧ SRep K S H ∧ f σ S Q ∧ ∀ b S' H', Stp K S H S' H' → SRep K S' H' → Q b S' → Kt b H'
def TGof (K : PySem.W.Frag) (own : List Nat) (g : DG) : TG := fun v sv H Kt => ∃ d σ S Q, Rep K H v d ∧ ERep K H sv σ ∧ SRep K S H ∧ g d σ S Q ∧
  ∀ sv' σ' S' H', Stp K S H S' H' → SRep K S' H' → ERep K H' sv' σ' → (∀ vs : List Nat, (∀ i ∈ own, i ∈ vs) → wipe sv' vs = wipe sv vs) → Q σ' S' → Kt sv' H'
section
variable {X : Cx} {K : PySem.W.Frag} {e a b c : Expr} {es : List Expr} {fe fa fb fc : DE} {ft fu : DT} {fs : DA} {pos : Pos} {S S1 S' : Sto} {H H1 H' : Hp}
theorem CE.pe (h : CE X e fe) : PE X e (TEof X.K fe) := by
  obtain ⟨t, p, s⟩ := h
  exact ⟨fun pins s0 sv H Kt I ⟨σ, S, Q, a, b, c, d⟩ => p.run pins s0 sv H Kt I (s σ S Q sv H Kt a b c d)⟩
theorem CT.pt (h : CT X e ft) : PT X e (TTof X.K ft) := by
  obtain ⟨t, p, s⟩ := h
  exact ⟨fun pins s0 sv H Kt I ⟨σ, S, Q, a, b, c, d⟩ => p.run pins s0 sv H Kt I (s σ S Q sv H Kt a b c d)⟩
theorem CG.pg {own : List Nat} {g : DG} (h : CG X e own g) : PG X e (TGof X.K own g) := by
  obtain ⟨t, p, s⟩ := h
  exact ⟨fun pins s0 sv H v u Kt I r ⟨d, σ, S, Q, a, b, c, q, k⟩ => p.run pins s0 sv H v u Kt I r (s v d σ S Q sv H Kt a b c q k)⟩
/-! ### what is walked -/
abbrev DI := Env → Sto → (List D → (Sto → Prop) → Sto → Prop) → Prop
/-- the iterator J walks the items, from the heap H0 on, while stab holds -/
def ItOk (K : PySem.W.Frag) (H0 : Hp) (J : It) (items : List D) (stab : Sto → Prop) : Prop := ∀ S H, SRep K S H → Tx K H0 H → stab S →
  (∀ i d, items[i]? = some d → J.go i H ∧ ∀ x H', J.yld i H x H' → Stp K S H S H' ∧ SRep K S H' ∧ Rep K H' x d) ∧ J.stop items.length H
structure CI (X : Cx) (tg it : Expr) (fi : DI) : Prop where
  ok : ∃ wi, PI X tg it wi ∧ ∀ (σ : Env) (S : Sto) (Q : List D → (Sto → Prop) → Sto → Prop) (sv : L2.St) (H : Hp) (R : It → Hp → Prop), ERep X.K H sv σ → SRep X.K S H → fi σ S Q →
    (∀ J items stab S' H', Stp X.K S H S' H' → SRep X.K S' H' → ItOk X.K H' J items stab → Q items stab S' → R J H') → wi sv H R
def iSeqL (fa : DE) : DI := fun σ S Q => fa σ S fun x S1 => match x with
  | .ref p => ∃ xs, S1 p = some (.lst xs) ∧ Q xs (fun S => S p = some (.lst xs)) S1
  | .fl xs => Q xs (fun _ => True) S1
  | _ => False
def iSeqT (fa : DE) : DI := fun σ S Q => fa σ S fun x S1 => match x with
  | .tup xs => Q xs (fun _ => True) S1
  | _ => False
def iStrD (fa : DE) : DI := fun σ S Q => fa σ S fun x S1 => match x with
  | .str z => Q (z.cps.toList.map fun c => .str ⟨#[c]⟩) (fun _ => True) S1
  | _ => False
theorem itok_list {p : Addr} {xs : List D} : ItOk K H1 (Itl K p) xs (fun S => S p = some (.lst xs)) := fun S H s tx st => by
  obtain ⟨vs, e1, r⟩ := s _ _ st
  have sq : SqL K H p vs := .inl (.inl e1)
  refine ⟨fun i d hi => ?_, ⟨vs, sq, by rw [r.length]; exact Nat.le_refl _⟩⟩
  obtain ⟨v, ev, rv⟩ := r.get hi
  refine ⟨⟨vs, v, sq, ev⟩, fun x H' y => ?_⟩
  obtain ⟨e, y⟩ := y
  subst e
  have h2 := y vs sq
  rw [ev] at h2
  cases h2
  exact ⟨.refl, s, rv⟩
theorem itok_fl {p : Addr} {vs : List V} {xs : List D} (h : FrL K H1 p vs) (r : Reps K H1 vs xs) : ItOk K H1 (Itl K p) xs (fun _ => True) := fun S H s tx st => by
  have r := r.mono tx
  have sq : SqL K H p vs := (tx.fl _ _ h).sq
  refine ⟨fun i d hi => ?_, ⟨vs, sq, by rw [r.length]; exact Nat.le_refl _⟩⟩
  obtain ⟨v, ev, rv⟩ := r.get hi
  refine ⟨⟨vs, v, sq, ev⟩, fun x H' y => ?_⟩
  obtain ⟨e, y⟩ := y
  subst e
  have h2 := y vs sq
  rw [ev] at h2
  cases h2
  exact ⟨.refl, s, rv⟩
theorem itok_tup {p : Addr} {vs : List V} {xs : List D} (h : SqT K H1 p vs) (r : Reps K H1 vs xs) : ItOk K H1 (Itt K p) xs (fun _ => True) := fun S H s tx st => by
  have r := r.mono tx
  have sq : SqT K H p vs := tx.tup _ _ h
  refine ⟨fun i d hi => ?_, ⟨vs, sq, by rw [r.length]; exact Nat.le_refl _⟩⟩
  obtain ⟨v, ev, rv⟩ := r.get hi
  refine ⟨⟨vs, v, sq, ev⟩, fun x H' y => ?_⟩
  obtain ⟨e, y⟩ := y
  subst e
  have h2 := y vs sq
  rw [ev] at h2
  cases h2
  exact ⟨.refl, s, rv⟩
theorem i_list {tg : Expr} (ha : CE X a fa) : CI X tg a (iSeqL fa) := by
  obtain ⟨ta, ha, sa⟩ := ha
  refine ⟨_, pi_list ha, fun σ S Q sv H R re rs q k => sa σ S _ sv H _ re rs q fun v d S1 H1 s1 r1 v1 q1 => ?_⟩
  cases v1 with
  | ref p =>
    obtain ⟨xs, e, q1⟩ := q1
    obtain ⟨vs, e1, r⟩ := r1 _ _ e
    exact ⟨p, rfl, ⟨vs, .inl (.inl e1)⟩, k _ _ _ _ _ s1 r1 itok_list q1⟩
  | @fl p vs ds h r => exact ⟨p, rfl, ⟨vs, h.sq⟩, k _ _ _ _ _ s1 r1 (itok_fl h r) q1⟩
  | _ => exact False.elim q1
theorem i_tup {tg : Expr} (ha : CE X a fa) : CI X tg a (iSeqT fa) := by
  obtain ⟨ta, ha, sa⟩ := ha
  refine ⟨_, pi_tup ha, fun σ S Q sv H R re rs q k => sa σ S _ sv H _ re rs q fun v d S1 H1 s1 r1 v1 q1 => ?_⟩
  cases v1 with
  | @tup p vs ds h r => exact ⟨p, rfl, ⟨vs, h⟩, k _ _ _ _ _ s1 r1 (itok_tup h r) q1⟩
  | _ => exact False.elim q1
theorem i_str {tg : Expr} (ha : CE X a fa) : CI X tg a (iStrD fa) := by
  obtain ⟨ta, ha, sa⟩ := ha
  refine ⟨_, pi_str ha, fun σ S Q sv H R re rs q k => sa σ S _ sv H _ re rs q fun v d S1 H1 s1 r1 v1 q1 => ?_⟩
  cases v1 with
  | str z =>
    refine ⟨z, rfl, k _ _ _ _ _ s1 r1 (fun S H s tx st => ?_) q1⟩
    refine ⟨fun i d hi => ?_, by show z.cps.size ≤ _; simp⟩
    rw [List.getElem?_map] at hi
    cases h : z.cps.toList[i]? with
    | none => rw [h] at hi; cases hi
    | some c =>
      rw [h] at hi
      cases hi
      have hlt : i < z.cps.size := by
        have := (List.getElem?_eq_some_iff.mp h).1
        simpa using this
      refine ⟨hlt, fun x H' y => ?_⟩
      obtain ⟨e, c2, e2, e3⟩ := y
      subst e e3
      have : c2 = c := by
        have h2 : z.cps.toList[i]? = some c2 := by rw [Array.getElem?_toList]; exact e2
        rw [h] at h2
        exact (Option.some.inj h2).symm
      subst this
      exact ⟨.refl, s, .str _⟩
  | _ => exact False.elim q1
def rangeD (lo : Int) (n : Nat) : List D := (List.range n).map fun i => .int (lo + (i : Nat))
theorem itok_range {lo : Int} {n : Nat} : ItOk K H1 (Itr lo n) (rangeD lo n) (fun _ => True) := fun S H s tx st => by
  refine ⟨fun i d hi => ?_, by show n ≤ _; simp [rangeD]⟩
  unfold rangeD at hi
  rw [List.getElem?_map] at hi
  cases h : (List.range n)[i]? with
  | none => rw [h] at hi; cases hi
  | some c =>
    obtain ⟨hl, hc⟩ := List.getElem?_eq_some_iff.mp h
    rw [h] at hi
    cases hi
    simp at hc hl
    subst hc
    refine ⟨hl, fun x H' y => ?_⟩
    obtain ⟨e, e2⟩ := y
    subst e e2
    exact ⟨.refl, s, .int _⟩
def iRange1 (fs : DA) : DI := fun σ S Q => fs σ S fun xs S1 => match xs with
  | [.int j] => -(2 ^ 62) ≤ j ∧ j < 2 ^ 62 ∧ Q (rangeD 0 j.toNat) (fun _ => True) S1
  | _ => False
def iRange2 (fs : DA) : DI := fun σ S Q => fs σ S fun xs S1 => match xs with
  | [.int i, .int j] => (-(2 ^ 62) ≤ i ∧ i < 2 ^ 62 ∧ -(2 ^ 62) ≤ j ∧ j < 2 ^ 62) ∧ Q (rangeD i (j - i).toNat) (fun _ => True) S1
  | _ => False
theorem i_range1 {tg : Expr} {p : Pos} (hg : Gl X "range") (hm : X.mg "range" = none) (ha : CA X [a] fs) (hs : starEach [a] X.env = [(false, eval a X.env)] := by rfl) : CI X tg (.Call (.Name "range" p) [a] [] pos) (iRange1 fs) := by
  obtain ⟨ta, ha, sa⟩ := ha
  refine ⟨_, pi_range1 hg hm ha hs, fun σ S Q sv H R re rs q k => sa σ S _ sv H _ re rs q fun vs ds S1 H1 s1 r1 v1 q1 => ?_⟩
  match ds, q1 with
  | [.int j], q1 =>
    obtain ⟨v, rfl, rv⟩ := reps1 v1
    cases rv
    exact ⟨j, rfl, q1.1, q1.2.1, k _ _ _ _ _ s1 r1 itok_range q1.2.2⟩
theorem i_range2 {tg : Expr} {p : Pos} (hg : Gl X "range") (hm : X.mg "range" = none) (ha : CA X [a, b] fs) (hs : starEach [a, b] X.env = [(false, eval a X.env), (false, eval b X.env)] := by rfl) (hs2 : starEach [b] X.env = [(false, eval b X.env)] := by rfl) :
    CI X tg (.Call (.Name "range" p) [a, b] [] pos) (iRange2 fs) := by
  obtain ⟨ta, ha, sa⟩ := ha
  refine ⟨_, pi_range2 hg hm ha hs hs2, fun σ S Q sv H R re rs q k => sa σ S _ sv H _ re rs q fun vs ds S1 H1 s1 r1 v1 q1 => ?_⟩
  match ds, q1 with
  | [.int i, .int j], q1 =>
    obtain ⟨v, v2, rfl, rv, rv2⟩ := reps2 v1
    cases rv
    cases rv2
    exact ⟨i, j, rfl, q1.1, k _ _ _ _ _ s1 r1 itok_range q1.2⟩
/-! ### for -/
def forL (stab : Sto → Prop) (g : DG) (body : DS) (D0 : DEnds) : List D → Env → Sto → Prop
  | [], σ, S => stab S ∧ D0.nx σ S
  | x :: xs, σ, S => stab S ∧ g x σ S fun σ2 S2 => body ⟨forL stab g body D0 xs, D0.rt, D0.nx, forL stab g body D0 xs⟩ σ2 S2
def sFor (fi : DI) (g : DG) (body : DS) : DS := fun D0 σ S => fi σ S fun items stab S1 => forL stab g body D0 items σ S1
theorem forL_stab {stab : Sto → Prop} {g : DG} {body : DS} {D0 : DEnds} {xs : List D} {σ : Env} {S : Sto} (h : forL stab g body D0 xs σ S) : stab S := by
  cases xs <;> exact h.1
theorem s_for {tg it : Expr} {own : List Nat} {fi : DI} {g : DG} {body : List Stmt} {fb : DS} (hp : PassesOwn (model X.prog X.w) X.A X.env X.xe) (hc : X.calm = true) (hi : CI X tg it fi) (hg : CG X tg own g) (hb : CSs X body fb)
    (hs : ∀ x, foldedSetIterable it X.env x = pure x := by intro _; rfl) : CS X (.For tg it body [] pos) (sFor fi g fb) := by
  obtain ⟨wi, hi, si⟩ := hi
  obtain ⟨tg', hg, sg⟩ := hg
  obtain ⟨tb, hb, sb⟩ := hb
  refine ⟨_, ps_for hp hc hi hg hb hs, fun D0 σ S Dv sv H re rs q k => si σ S _ sv H _ re rs q fun J items stab S1 H1 s1 r1 ok q1 => ?_⟩
  refine ⟨fun i m sv2 H2 => m = items.length - i ∧ i ≤ items.length ∧ ∃ σ2 S2, Stp X.K S1 H1 S2 H2 ∧ SRep X.K S2 H2 ∧ ERep X.K H2 sv2 σ2 ∧ forL stab g fb D0 (items.drop i) σ2 S2,
    ⟨items.length, by simp, Nat.zero_le _, σ, S1, .refl, r1, re.mono s1.tx, q1⟩, ?_⟩
  rintro i m sv2 H2 ⟨rfl, hi2, σ2, S2, s2, r2, e2, q2⟩
  obtain ⟨ok1, ok2⟩ := ok S2 H2 r2 s2.tx (forL_stab q2)
  by_cases hlt : i < items.length
  · obtain ⟨go, yl⟩ := ok1 i items[i] (List.getElem?_eq_getElem hlt)
    rw [List.drop_eq_getElem_cons hlt] at q2
    refine .inr ⟨go, fun sv3 H3 => ∃ σ3 S3, Stp X.K S1 H1 S3 H3 ∧ SRep X.K S3 H3 ∧ ERep X.K H3 sv3 σ3 ∧ forL stab g fb D0 (items.drop (i + 1)) σ3 S3,
      fun sv3 H3 ⟨σ3, S3, a1, a2, a3, a4⟩ => ⟨items.length - (i + 1), by omega, rfl, hlt, σ3, S3, a1, a2, a3, a4⟩, fun x H3 hy => ?_⟩
    obtain ⟨s3, r3, rx⟩ := yl x H3 hy
    refine sg x items[i] σ2 S2 _ sv2 H3 _ rx (e2.mono s3.tx) r3 q2.2 fun sv4 σ4 S4 H4 s4 r4 e4 _ q4 => ?_
    have st := (s2.trans s3).trans s4
    refine sb _ σ4 S4 _ sv4 H4 e4 r4 q4 ⟨fun sv5 σ5 S5 H5 s5 r5 e5 q5 => ?_, (k.stp s1).rt.stp st, (k.stp s1).nx.stp st, fun sv5 σ5 S5 H5 s5 r5 e5 q5 => ?_⟩
    · exact ⟨σ5, S5, st.trans s5, r5, e5, q5⟩
    · exact ⟨σ5, S5, st.trans s5, r5, e5, q5⟩
  · have hn : i = items.length := by omega
    subst hn
    rw [List.drop_length] at q2
    exact .inl ⟨ok2, (k.stp s1).nx _ _ _ _ s2 r2 e2 q2.2⟩
/-! ### while -/
def sWhile (fc : DT) (body : DS) : DS := fun D0 σ S => ∃ W : Nat → Env → Sto → Prop, (∃ m, W m σ S) ∧ ∀ m σ S, W m σ S → fc σ S fun k S1 =>
  if k = true then body ⟨fun σ2 S2 => ∃ m2, m2 < m ∧ W m2 σ2 S2, D0.rt, D0.nx, fun σ2 S2 => ∃ m2, m2 < m ∧ W m2 σ2 S2⟩ σ S1 else D0.nx σ S1
theorem s_while {body : List Stmt} {fb : DS} (hp : PassesOwn (model X.prog X.w) X.A X.env X.xe) (hc : CT X c ft) (hb : CSs X body fb) : CS X (.While c body [] pos) (sWhile ft fb) := by
  obtain ⟨tc, hc, sc⟩ := hc
  obtain ⟨tb, hb, sb⟩ := hb
  refine ⟨_, ps_while hp hc hb, fun D0 σ S Dv sv H re rs q k => ?_⟩
  obtain ⟨W, ⟨m0, w0⟩, turn⟩ := q
  refine ⟨fun m sv2 H2 => ∃ σ2 S2, Stp X.K S H S2 H2 ∧ SRep X.K S2 H2 ∧ ERep X.K H2 sv2 σ2 ∧ W m σ2 S2, ⟨m0, σ, S, .refl, rs, re, w0⟩, ?_⟩
  rintro m sv2 H2 ⟨σ2, S2, s2, r2, e2, w2⟩
  refine sc σ2 S2 _ sv2 H2 _ e2 r2 (turn m σ2 S2 w2) fun kk S3 H3 s3 r3 q3 => ?_
  cases kk with
  | true =>
    refine ⟨fun sv4 H4 => ∃ m2, m2 < m ∧ ∃ σ4 S4, Stp X.K S H S4 H4 ∧ SRep X.K S4 H4 ∧ ERep X.K H4 sv4 σ4 ∧ W m2 σ4 S4, fun sv4 H4 h4 => h4, ?_⟩
    have st := s2.trans s3
    refine sb _ σ2 S3 _ sv2 H3 (e2.mono s3.tx) r3 q3 ⟨fun sv5 σ5 S5 H5 s5 r5 e5 q5 => ?_, k.rt.stp st, k.nx.stp st, fun sv5 σ5 S5 H5 s5 r5 e5 q5 => ?_⟩
    · obtain ⟨m2, h1, h2⟩ := q5
      exact ⟨m2, h1, σ5, S5, st.trans s5, r5, e5, h2⟩
    · obtain ⟨m2, h1, h2⟩ := q5
      exact ⟨m2, h1, σ5, S5, st.trans s5, r5, e5, h2⟩
  | false => exact k.nx _ _ _ _ (s2.trans s3) r3 (e2.mono s3.tx) q3
/-! ### comprehensions -/
def lcL (stab : Sto → Prop) (g : DG) (tests : DT) (elt : DE) (σ : Env) (k : List D → Sto → Prop) : List D → List D → Sto → Prop
  | [], acc, S => stab S ∧ k acc S
  | x :: xs, acc, S => stab S ∧ g x σ S fun σ2 S2 => tests σ2 S2 fun b S3 => if b = true then elt σ2 S3 fun d S4 => acc.length < sizeLine ∧ lcL stab g tests elt σ k xs (acc ++ [d]) S4 else lcL stab g tests elt σ k xs acc S3
def eLc (fi : DI) (g : DG) (tests : DT) (elt : DE) (own : List Nat) : DE := fun σ S Q => fi σ S fun items stab S1 =>
  lcL stab g tests elt (wipeS σ own) (fun acc S2 => ∀ p, S2 p = none → Q (.ref p) (updS S2 p (.lst acc))) items [] S1
theorem lcL_stab {stab : Sto → Prop} {g : DG} {tests : DT} {elt : DE} {σ : Env} {k : List D → Sto → Prop} {xs acc : List D} {S : Sto} (h : lcL stab g tests elt σ k xs acc S) : stab S := by
  cases xs <;> exact h.1
/-- a clause's tests -/
structure CTs (X : Cx) (ifs : List Expr) (f : DT) : Prop where
  ok : ∃ t, PTs X ifs t ∧ SndT X.K t f
def tsYes : DT := fun _ S Q => Q true S
theorem ts_nil : CTs X [] tsYes := ⟨_, pts_nil, fun σ S Q sv H Kt re rs q k => k _ _ _ .refl rs q⟩
theorem ts_one (h : CT X c ft) : CTs X [c] ft := let ⟨_, h, s⟩ := h.ok; ⟨_, pts_one h, s⟩
theorem CTs.pts {ifs : List Expr} (h : CTs X ifs ft) : PTs X ifs (TTof X.K ft) := by
  obtain ⟨t, p, s⟩ := h
  exact ⟨fun pins s0 sv H Kt I ⟨σ, S, Q, a, b, c, d⟩ => p.run pins s0 sv H Kt I (s σ S Q sv H Kt a b c d)⟩
theorem snd_lc {wi : TI} {fi : DI} {g : DG} {elt : DE} {own : List Nat} {gown : List Nat} (hsub : ∀ i ∈ gown, i ∈ own)
    (si : ∀ (σ : Env) (S : Sto) (Q : List D → (Sto → Prop) → Sto → Prop) (sv : L2.St) (H : Hp) (R : It → Hp → Prop), ERep K H sv σ → SRep K S H → fi σ S Q →
      (∀ J items stab S' H', Stp K S H S' H' → SRep K S' H' → ItOk K H' J items stab → Q items stab S' → R J H') → wi sv H R) :
    Snd K (tLc wi (TGof K gown g) (TTof K ft) (TEof K elt) own) (eLc fi g ft elt own) := fun σ S Q sv H Kt re rs q k => by
  refine si σ S _ sv H _ re rs q fun J items stab S1 H1 s1 r1 ok q1 p hp => ?_
  have re1 : ERep K H1 (wipe sv own) (wipeS σ own) := (re.mono s1.tx).wipe own
  refine ⟨fun i m H2 => m = items.length - i ∧ i ≤ items.length ∧ ∃ S2 av acc, Stp K S1 H1 S2 H2 ∧ SRep K S2 H2 ∧ H2 p = some (.lst av) ∧ S2 p = none ∧ Reps K H2 av acc ∧
      lcL stab g ft elt (wipeS σ own) (fun acc S2 => ∀ p, S2 p = none → Q (.ref p) (updS S2 p (.lst acc))) (items.drop i) acc S2,
    ⟨items.length, by simp, Nat.zero_le _, S1, [], [], ?_, ?_, upd_same, r1.free hp, .nil, q1⟩, ?_⟩
  · exact ⟨tx_new hp, fun z o a b => ⟨a, by rw [upd_ne (ne_of_none b hp)]; exact b⟩⟩
  · exact fun a o e => (r1 a o e).mono (tx_new hp) (upd_ne (neS e (r1.free hp)))
  rintro i m H2 ⟨rfl, hi2, S2, av, acc, s2, r2, hp2, np2, ra, q2⟩
  obtain ⟨ok1, ok2⟩ := ok S2 H2 r2 s2.tx (lcL_stab q2)
  by_cases hlt : i < items.length
  · obtain ⟨go, yl⟩ := ok1 i items[i] (List.getElem?_eq_getElem hlt)
    rw [List.drop_eq_getElem_cons hlt] at q2
    refine .inr ⟨go, fun H3 => ∃ S2 av acc, Stp K S1 H1 S2 H3 ∧ SRep K S2 H3 ∧ H3 p = some (.lst av) ∧ S2 p = none ∧ Reps K H3 av acc ∧
      lcL stab g ft elt (wipeS σ own) (fun acc S2 => ∀ p, S2 p = none → Q (.ref p) (updS S2 p (.lst acc))) (items.drop (i + 1)) acc S2,
      fun H3 h3 => ⟨items.length - (i + 1), by omega, rfl, hlt, h3⟩, fun x H3 hy => ?_⟩
    obtain ⟨s3, r3, rx⟩ := yl x H3 hy
    refine ⟨items[i], wipeS σ own, S2, _, rx, re1.mono (s2.trans s3).tx, r3, q2.2, fun sv4 σ4 S4 H4 s4 r4 e4 w4 q4 => ⟨?_, ?_⟩⟩
    · rw [w4 own hsub, wipe_wipe]
    refine ⟨σ4, S4, _, e4, r4, q4, fun b S5 H5 s5 r5 q5 => ?_⟩
    have st5 := ((s2.trans s3).trans s4).trans s5
    have stp5 := (s3.trans s4).trans s5
    obtain ⟨np5, hp5⟩ := stp5.hid p _ np2 hp2
    cases b with
    | false => exact ⟨S5, av, acc, st5, r5, hp5, np5, ra.mono stp5.tx, q5⟩
    | true =>
      refine ⟨σ4, S5, _, e4.mono s5.tx, r5, q5, fun v d S6 H6 s6 r6 v6 q6 => ?_⟩
      obtain ⟨np6, hp6⟩ := s6.hid p _ np5 hp5
      have ra6 := ra.mono (stp5.trans s6).tx
      obtain ⟨tx, r7⟩ := stp_hid (ho := .lst (av ++ [v])) r6 np6 hp6 (fun _ z => nomatch z) (fun _ _ z => nomatch z)
      refine ⟨av, hp6, by rw [ra6.length]; exact q6.1, S6, av ++ [v], acc ++ [d], ?_, r7, upd_same, np6, (ra6.append (.cons v6 .nil)).mono tx, q6.2⟩
      have st6 := st5.trans s6
      exact ⟨st6.tx.trans tx, fun z o a b => ⟨(st6.hid z o a b).1, by rw [upd_ne (ne_of_none b hp)]; exact (st6.hid z o a b).2⟩⟩
  · have hn : i = items.length := by omega
    subst hn
    rw [List.drop_length] at q2
    refine .inl ⟨ok2, ?_⟩
    have st := s1.trans s2
    refine k (.ref p) (.ref p) (updS S2 p (.lst acc)) H2 ⟨st.tx, fun z o a b => ?_⟩ (fun a o e => ?_) (.ref p) (q2.2 p np2)
    · obtain ⟨a2, b2⟩ := st.hid z o a b
      have hz := s1.hid z o a b
      have ne : z ≠ p := ne_of_none hz.2 hp
      exact ⟨by rw [updS_ne ne]; exact a2, b2⟩
    · by_cases ha : a = p
      · subst ha
        rw [updS_same] at e
        cases e
        exact ⟨av, hp2, ra⟩
      · rw [updS_ne ha] at e
        exact r2 a o e
theorem c_lc {elt tg it : Expr} {ifs : List Expr} {scope : Scope} {own : List (Str × Nat)} {gown : List Nat} {fi : DI} {g : DG} (hc : X.calm = true) (hN : X.N.Nodup) (hi : CI X tg it fi) (ok : BlkOk X.N X.env.scope scope own)
    (hg : ∀ (s : Shared) (H : Hp) (C : Addr) (cl : List (Str × Addr)) (fp : List Addr), CG (X.blk s H scope (compEnvC scope cl C X.env) fp) tg gown g) (hsub : ∀ i ∈ gown, i ∈ own.map (·.2))
    (ht : ∀ (s : Shared) (H : Hp) (C : Addr) (cl : List (Str × Addr)) (fp : List Addr), CTs (X.blk s H scope (compEnvC scope cl C X.env) fp) ifs ft)
    (he : ∀ (s : Shared) (H : Hp) (C : Addr) (cl : List (Str × Addr)) (fp : List Addr), CE (X.blk s H scope (compEnvC scope cl C X.env) fp) elt fe) (hs : ∀ x, foldedSetIterable it X.env x = pure x := by intro _; rfl) :
    CE X (.ListComp elt [⟨tg, it, ifs, 0⟩] scope pos) (eLc fi g ft fe (own.map (·.2))) := by
  obtain ⟨wi, hi, si⟩ := hi
  exact ⟨_, pe_lc hc hN hi ok (fun s H C cl fp => (hg s H C cl fp).pg) (fun s H C cl fp => (ht s H C cl fp).pts) (fun s H C cl fp => (he s H C cl fp).pe) hs, snd_lc hsub si⟩
/-! ### a def -/
def startD (n : Nat) (ds : List D) : Env := ds.map some ++ List.replicate (n - ds.length) none
theorem erep_start {vs : List V} {ds : List D} {N : List Str} (r : Reps K H vs ds) : ERep K H (start N vs) (startD N.length ds) := by
  have l := r.length
  refine ⟨by simp [L2.start, startD, l], fun i d q => ?_⟩
  rw [getS_eq] at q
  unfold startD at q
  by_cases hi : i < ds.length
  · rw [List.getElem?_append_left (by simpa using hi), List.getElem?_map] at q
    cases h : ds[i]? with
    | none => rw [h] at q; cases q
    | some d2 =>
      rw [h] at q
      have e : d2 = d := Option.some.inj q
      subst e
      obtain ⟨v, ev, rv⟩ := r.get h
      refine ⟨v, ?_, rv⟩
      unfold L2.start
      rw [List.getElem?_append_left (by simpa [l] using hi), List.getElem?_map, ev]
      rfl
  · rw [List.getElem?_append_right (by simpa using Nat.le_of_not_lt hi)] at q
    rw [List.getElem?_replicate] at q
    split at q <;> cases q
def endsD (Q : DK) : DEnds := ⟨fun _ S => Q .non S, Q, fun _ _ => False, fun _ _ => False⟩
theorem def_ok {P : Program} {w : World} {mg : Str → Option Value} {base : Heap} {x qual : Str} {st : Stmt} {f : Addr} {fd : FuncData} {N ps : List Str} {k : Nat} {b : DS} (F : Fun K x qual st f fd) (Sc : FnScope N ps (defScope st))
    (h : ∀ (cdv : Value) (A : Around) (outer : List PySem.Env) (s : Shared) (H : Hp) (E : XK), Room k (A.deeper (envOfC qual (defScope st) s.heap.objs.size f cdv)) → CSs (cxOf CX0 P w K mg base N qual (defScope st) f cdv A outer s H E).nox (defBody st) b) :
    FnOk P w K mg base CX0 (k + 1) f fd ps (spD K ps.length fun ds S Q => b (endsD Q) (startD N.length ds) S) := by
  refine F.ok Sc (fun vs H Q E h => h.1) (fun cdv A outer s H vs Q E hr hq => ?_)
  obtain ⟨t, p, sn⟩ := h cdv A outer s H E hr
  refine ⟨t, p, ?_⟩
  obtain ⟨hl, ds, S, Qd, r, sr, q, kk⟩ := hq
  refine sn (endsD Qd) _ S _ _ H (erep_start r) sr q ⟨fun sv σ S' H' s' r' e' q' => ?_, kk, fun _ _ _ _ _ _ _ z => z.elim, fun _ _ _ _ _ _ _ z => z.elim⟩
  exact kk .non .non S' H' s' r' .non q'
end
end DL
namespace DL
open PySem PySem.Spec PyProof.Rows L2
section
variable {X : Cx} {K : PySem.W.Frag} {e a b c : Expr} {es : List Expr} {fe fa fb fc : DE} {ft fu : DT} {fs : DA} {pos : Pos} {S S1 S' : Sto} {H H1 H' : Hp}
/-! ### displays of dicts -/
def eDict0 : DE := fun _ S Q => ∀ p, S p = none → Q (.ref p) (updS S p (.dk []))
theorem c_dict0 : CE X (.Dict [] [] pos) eDict0 := by
  refine ⟨_, pe_dnewK, fun σ S Q sv H Kt re rs q k p hp => ?_⟩
  obtain ⟨st, sr⟩ := stp_new (o := .dk []) (ho := .dK []) rs hp ⟨_, upd_same, .nil⟩
  exact k _ _ _ _ st sr (.ref p) (q p (rs.free hp))
abbrev DPs := Env → Sto → (List (D × D) → Sto → Prop) → Prop
def pNil : DPs := fun _ S Q => Q [] S
def pCons (fk fv : DE) (fr : DPs) : DPs := fun σ S Q => fk σ S fun x S1 => fv σ S1 fun y S2 => fr σ S2 fun r S3 => Q ((x, y) :: r) S3
def PReps (K : PySem.W.Frag) (H : Hp) : List (V × V) → List (D × D) → Prop := Paired fun p q => Rep K H p.1 q.1 ∧ Rep K H p.2 q.2
structure CPs (X : Cx) (pos : Pos) (keys : List (Option Expr)) (values : List Expr) (f : DPs) : Prop where
  ok : ∃ trs, PPs X pos keys values trs ∧ ∀ (σ : Env) (S : Sto) (Q : List (D × D) → Sto → Prop) (sv : L2.St) (H : Hp) (Kt : List (V × V) → Hp → Prop), ERep X.K H sv σ → SRep X.K S H → f σ S Q →
    (∀ ps qs S' H', Stp X.K S H S' H' → SRep X.K S' H' → PReps X.K H' ps qs → Q qs S' → Kt ps H') → tPairs trs sv H Kt
theorem ps_nil0 : CPs X pos [] [] pNil := ⟨_, pps_nil, fun σ S Q sv H Kt re rs q k => k _ _ _ _ .refl rs .nil q⟩
theorem ps_cons0 {ks : List (Option Expr)} {vs : List Expr} {fr : DPs} (hk : CE X a fa) (hv : CE X b fb) (hr : CPs X pos ks vs fr) : CPs X pos (some a :: ks) (b :: vs) (pCons fa fb fr) := by
  obtain ⟨tk, hk, sk⟩ := hk
  obtain ⟨tv, hv, sv⟩ := hv
  obtain ⟨tr, hr, sr⟩ := hr
  refine ⟨_, pps_cons hk hv hr, fun σ S Q sv' H Kt re rs q k => sk σ S _ sv' H _ re rs q fun v d S1 H1 s1 r1 v1 q1 => ?_⟩
  refine sv σ S1 _ sv' H1 _ (re.mono s1.tx) r1 q1 fun u d2 S2 H2 s2 r2 v2 q2 => ?_
  refine sr σ S2 _ sv' H2 _ (re.mono (s1.trans s2).tx) r2 q2 fun ps qs S3 H3 s3 r3 v3 q3 => ?_
  exact k _ _ S3 H3 ((s1.trans s2).trans s3) r3 (.cons ⟨v1.mono (s2.trans s3).tx, v2.mono s3.tx⟩ v3) q3
/-- the pairs as keys and data -/
def asKeys : List (D × D) → Option (List (Key × D))
  | [] => some []
  | p :: r => match toKey p.1, asKeys r with
    | some k, some l => some ((k, p.2) :: l)
    | _, _ => none
def mergeD (kvs more : List (Key × D)) : List (Key × D) := more.foldl (fun acc kv => putD acc kv.1 kv.2) kvs
def eDict (fp : DPs) : DE := fun σ S Q => fp σ S fun ps S1 => ∃ kvs, asKeys ps = some kvs ∧ kvs.length ≤ 15 ∧ ∀ p, S1 p = none → Q (.ref p) (updS S1 p (.dk (mergeD [] kvs)))
theorem asKeys_rep : ∀ {ps : List (V × V)} {qs : List (D × D)} {kvs : List (Key × D)}, PReps K H ps qs → asKeys qs = some kvs → ∃ ws : List (Key × V), ps = ws.map (fun kv => (kV kv.1, kv.2)) ∧ KReps K H ws kvs
  | _, _, _, .nil, e => by cases e; exact ⟨[], rfl, .nil⟩
  | p :: ps, q :: qs, kvs, .cons h r, e => by
    unfold asKeys at e
    cases h1 : toKey q.1 with
    | none => rw [h1] at e; cases e
    | some k =>
      cases h2 : asKeys qs with
      | none => rw [h1, h2] at e; cases e
      | some l =>
        rw [h1, h2] at e
        cases e
        obtain ⟨ws, e1, r1⟩ := asKeys_rep r h2
        refine ⟨(k, p.2) :: ws, ?_, .cons ⟨rfl, h.2⟩ r1⟩
        rw [List.map_cons, ← e1]
        have hk := key_rep h.1 h1
        show p :: ps = (kV k, p.2) :: ps
        rw [← hk]
theorem merge_rep : ∀ {us : List (Key × V)} {js : List (Key × D)} {ws : List (Key × V)} {kvs : List (Key × D)}, KReps K H us js → KReps K H ws kvs → KReps K H (mergeK ws us) (mergeD kvs js)
  | _, _, _, _, .nil, s => s
  | p :: us, q :: js, ws, kvs, .cons h r, s => by
    show KReps K H (mergeK (putK ws p.1 p.2) us) (mergeD (putD kvs q.1 q.2) js)
    refine merge_rep r ?_
    rw [h.1]
    exact kreps_put h.2 q.1 s
theorem c_dict {keys : List (Option Expr)} {values : List Expr} {fp : DPs} (h : CPs X pos keys values fp) (hall : keys.all (·.isSome) = true) (hl : keys.length = values.length) (h0 : keys ≠ []) (h15 : keys.length ≤ 15) : CE X (.Dict keys values pos) (eDict fp) := by
  obtain ⟨trs, hp, sp⟩ := h
  refine ⟨_, pe_disp hp hall hl h0 h15, fun σ S Q sv H Kt re rs q k p hp => ?_⟩
  have tx := tx_new (K := X.K) (ho := .dK []) hp
  have rs1 : SRep X.K S (upd H p (.dK [])) := fun a o e => (rs a o e).mono tx (upd_ne (neS e (rs.free hp)))
  refine sp σ S _ sv _ _ (re.mono tx) rs1 q fun ps qs S1 H1 s1 r1 v1 q1 => ?_
  obtain ⟨np, hp1⟩ := s1.hid p _ (rs.free hp) upd_same
  obtain ⟨kvs, e, hz, q1⟩ := q1
  obtain ⟨ws, e1, rr⟩ := asKeys_rep v1 e
  refine ⟨hp1, ws, e1, by rw [kreps_len rr]; exact hz, ?_⟩
  have tx2 : Tx X.K H1 (upd H1 p (.dK (mergeK [] ws))) := tx_upd (fun vs => by rw [hp1]; intro z; cases z) (fun ob w => by rw [hp1]; intro z; cases z)
  refine k (.ref p) (.ref p) (updS S1 p (.dk (mergeD [] kvs))) _ ⟨(tx.trans s1.tx).trans tx2, fun z o a b => ?_⟩ (fun a o ea => ?_) (.ref p) (q1 p np)
  · have ne := ne_of_none b hp
    obtain ⟨a2, b2⟩ := s1.hid z o a (by rw [upd_ne ne]; exact b)
    exact ⟨by rw [updS_ne ne]; exact a2, by rw [upd_ne ne]; exact b2⟩
  · by_cases ha : a = p
    · subst ha
      rw [updS_same] at ea
      cases ea
      exact ⟨_, upd_same, KReps.mono tx2 (merge_rep rr .nil)⟩
    · rw [updS_ne ha] at ea
      exact (r1 a o ea).mono tx2 (upd_ne ha)
/-! ### whatever sequence is walked -/
def iSeq (fa : DE) : DI := fun σ S Q => fa σ S fun x S1 => match x with
  | .ref p => ∃ xs, S1 p = some (.lst xs) ∧ Q xs (fun S => S p = some (.lst xs)) S1
  | .fl xs => Q xs (fun _ => True) S1
  | .tup xs => Q xs (fun _ => True) S1
  | .str z => Q (z.cps.toList.map fun c => .str ⟨#[c]⟩) (fun _ => True) S1
  | _ => False
def wSeq (K : PySem.W.Frag) (te : TE) : TI := fun sv H R => te sv H fun x H1 => (∃ p vs, x = .ref p ∧ SqL K H1 p vs ∧ R (Itl K p) H1) ∨ (∃ p vs, x = .ref p ∧ SqT K H1 p vs ∧ R (Itt K p) H1) ∨ ∃ z, x = .str z ∧ R (Its z) H1
theorem lone {p q : Addr} (h : p ∈ [q]) : p = q := by simpa using h
theorem pi_seq {tg : Expr} {te : TE} (ha : PE X a te) : PI X tg a (wSeq X.K te) := by
  refine ⟨fun pins st sv H R I hw => thn (ha.run pins st sv H _ I hw) fun u st1 ⟨x, H1, J, rel, how⟩ => ?_⟩
  have fresh := J.hok.fresh (Nat.le_refl st1.heap.objs.size)
  have fpk := J.fpOk (Nat.le_refl st1.heap.objs.size) fresh
  rcases how with ⟨p, vs, ex, sq, r⟩ | ⟨p, vs, ex, sq, r⟩ | ⟨z, ex, r⟩
  · subst ex
    have eu : u = Value.ref p := rel
    subst eu
    obtain ⟨its, _, pl, _⟩ := J.list sq
    refine wpAny_pyIter_list pl.isList ⟨_, _, _, _, H1, rfl, J.kept (t' := st1.toks) (fun b o h => Heap.get?_push_of_some _ h), turn_list p _, ⟨_, Heap.get?_push_size _ rfl, rfl, rfl⟩, (fun b hb => ?_), r⟩
    rw [lone hb]
    exact fpk
  · subst ex
    have eu : u = Value.ref p := rel
    subst eu
    obtain ⟨its, _, pl, _⟩ := J.tuple sq
    refine wpAny_pyIter_tuple (show st1.heap.IsTuple p its.toArray from pl) ⟨_, _, _, _, H1, rfl, J.kept (t' := st1.toks) (fun b o h => Heap.get?_push_of_some _ h), turn_tuple p _, ⟨_, Heap.get?_push_size _ rfl, rfl, rfl⟩, (fun b hb => ?_), r⟩
    rw [lone hb]
    exact fpk
  · subst ex
    obtain ⟨tk, eu⟩ := (show ∃ tk, u = Value.str z tk from rel)
    subst eu
    cases hz : z.cps.all (· < 128) with
    | false => exact wpAny_pyIter_wide hz (pi_one (tk := st1.toks) J _ (turn_str _ z tk _ (Or.inr rfl)) ⟨_, Heap.get?_push_size _ rfl, rfl, rfl⟩ r)
    | true => exact wpAny_pyIter_ascii hz (pi_one (tk := st1.toks) J _ (turn_str _ z tk _ (Or.inl rfl)) ⟨_, Heap.get?_push_size _ rfl, rfl, rfl⟩ r)
theorem itok_str {z : Str} : ItOk K H1 (Its z) (z.cps.toList.map fun c => .str ⟨#[c]⟩) (fun _ => True) := fun S H s tx st => by
  refine ⟨fun i d hi => ?_, by show z.cps.size ≤ _; simp⟩
  rw [List.getElem?_map] at hi
  cases h : z.cps.toList[i]? with
  | none => rw [h] at hi; cases hi
  | some c =>
    rw [h] at hi
    cases hi
    have hlt : i < z.cps.size := by
      have := (List.getElem?_eq_some_iff.mp h).1
      simpa using this
    refine ⟨hlt, fun x H' y => ?_⟩
    obtain ⟨e, c2, e2, e3⟩ := y
    subst e e3
    have : c2 = c := by
      have h2 : z.cps.toList[i]? = some c2 := by rw [Array.getElem?_toList]; exact e2
      rw [h] at h2
      exact (Option.some.inj h2).symm
    subst this
    exact ⟨.refl, s, .str _⟩
theorem i_seq {tg : Expr} (ha : CE X a fa) : CI X tg a (iSeq fa) := by
  obtain ⟨ta, ha, sa⟩ := ha
  refine ⟨_, pi_seq ha, fun σ S Q sv H R re rs q k => sa σ S _ sv H _ re rs q fun v d S1 H1 s1 r1 v1 q1 => ?_⟩
  cases v1 with
  | ref p =>
    obtain ⟨xs, e, q1⟩ := q1
    obtain ⟨vs, e1, r⟩ := r1 _ _ e
    exact .inl ⟨p, vs, rfl, .inl (.inl e1), k _ _ _ _ _ s1 r1 itok_list q1⟩
  | @fl p vs ds h r => exact .inl ⟨p, vs, rfl, h.sq, k _ _ _ _ _ s1 r1 (itok_fl h r) q1⟩
  | @tup p vs ds h r => exact .inr (.inl ⟨p, vs, rfl, h, k _ _ _ _ _ s1 r1 (itok_tup h r) q1⟩)
  | str z => exact .inr (.inr ⟨z, rfl, k _ _ _ _ _ s1 r1 itok_str q1⟩)
  | _ => exact False.elim q1
theorem o_isNot : CO X .IsNot (gIs not) := by
  refine ⟨_, OpR.or op_notN op_notBl, fun x y a b S H Q Kt s ra rb q k => ?_⟩
  cases rb <;> try exact False.elim q
  · exact .inl ⟨rfl, k.now s (.bl _) (by rw [rep_non ra]; exact q)⟩
  · cases ra <;> try exact False.elim q
    exact .inr ⟨_, _, rfl, rfl, k.now s (.bl _) q⟩
abbrev gLe : G2 := gI0 fun i j => .bl (decide (i ≤ j))
abbrev gGt : G2 := gI0 fun i j => .bl (decide (j < i))
abbrev gGe : G2 := gI0 fun i j => .bl (decide (j ≤ i))
/-- name = [.. for ..] -/
theorem s_setLc {i : Nat} {y : Str} {py : Pos} {elt tg it : Expr} {ifs : List Expr} {scope : Scope} {own : List (Str × Nat)} {gown : List Nat} {spos : Pos} {fi : DI} {g : DG} (hc : X.calm = true) (hN : X.N.Nodup) (hy : X.N[i]? = some y) (hyl : X.env.scope.names.lookup y = some .local)
    (hsw : swapsWith (.ListComp elt [⟨tg, it, ifs, 0⟩] scope pos) (some (.Name y py)) spos.line X.env = pure true) (hi : CI X tg it fi) (ok : BlkOk X.N X.env.scope scope own)
    (hg : ∀ (s : Shared) (H : Hp) (C : Addr) (cl : List (Str × Addr)) (fp : List Addr), CG (X.blk s H scope (compEnvC scope cl C X.env) fp) tg gown g) (hsub : ∀ i ∈ gown, i ∈ own.map (·.2))
    (ht : ∀ (s : Shared) (H : Hp) (C : Addr) (cl : List (Str × Addr)) (fp : List Addr), CTs (X.blk s H scope (compEnvC scope cl C X.env) fp) ifs ft)
    (he : ∀ (s : Shared) (H : Hp) (C : Addr) (cl : List (Str × Addr)) (fp : List Addr), CE (X.blk s H scope (compEnvC scope cl C X.env) fp) elt fe) (hs : ∀ x, foldedSetIterable it X.env x = pure x := by intro _; rfl) :
    CS X (.Assign [.Name y py] (.ListComp elt [⟨tg, it, ifs, 0⟩] scope pos) spos) (sAsg (eLc fi g ft fe (own.map (·.2))) (nName i)) := by
  obtain ⟨wi, hi, si⟩ := hi
  refine ⟨_, ps_setLc (g := TGof X.K gown g) (tt := TTof X.K ft) (te := TEof X.K fe) hc hN hy hyl hsw hi ok (fun s H C cl fp => (hg s H C cl fp).pg) (fun s H C cl fp => (ht s H C cl fp).pts) (fun s H C cl fp => (he s H C cl fp).pe) hs, fun D0 σ S Dv sv H re rs q k => ?_⟩
  refine snd_lc hsub si σ S _ sv H _ re rs q fun v d S1 H1 s1 r1 v1 q1 => ?_
  exact k.nx _ _ _ _ s1 r1 ((re.mono s1.tx).set v1) q1
/-! ### names of the module -/
theorem c_globS {x : Str} {z : Str} (h : ∃ t, X.mg x = some (.str z t)) (hg : Gl X x := by rfl) (hd : (x == ("__debug__" : Str)) = false := by decide) : CE X (.Name x pos) (eC (.str z)) :=
  let ⟨t, h⟩ := h; c_glob (v := .str z) hg h ⟨t, rfl⟩ (fun _ => .str z) hd
theorem c_globI {x : Str} {z : Int} (h : ∃ t, X.mg x = some (.int z t)) (hg : Gl X x := by rfl) (hd : (x == ("__debug__" : Str)) = false := by decide) : CE X (.Name x pos) (eC (.int z)) :=
  let ⟨t, h⟩ := h; c_glob (v := .int z) hg h ⟨t, rfl⟩ (fun _ => .int z) hd
end
/-- a def of the module, by its name -/
structure Okf (P : Program) (w : World) (K : PySem.W.Frag) (mg : Str → Option Value) (base : Heap) (k : Nat) (x : Str) (n : Nat) (m : MF) : Prop where
  ex : ∃ (f : Addr) (fd : FuncData) (ps : List Str), ps.length = n ∧ FnOk P w K mg base CX0 k f fd ps (spD K n m) ∧ mg x = some (.ref f) ∧ PySem.W.keepIn K (.ref f) = true ∧ Binds K fd ps []
structure FT (K : PySem.W.Frag) (mg : Str → Option Value) (x : Str) (st : Stmt) (ps : List Str) : Prop where
  ex : ∃ (f : Addr) (fd : FuncData), Fun K x x st f fd ∧ Binds K fd ps [] ∧ mg x = some (.ref f)
section
variable {X : Cx} {a : Expr} {es : List Expr} {fs : DA} {pos : Pos}
theorem c_fn {k j n : Nat} {m : MF} {x : Str} {p : Pos} (hr : Room j X.A) (F : Okf X.prog X.w X.K X.mg X.base k x n m) (hk : k ≤ j) (ha : CA X (a :: es) fs) (hg : Gl X x := by rfl)
    (hdb : (x == ("__debug__" : Str)) = false := by decide) (he : starEach (a :: es) X.env = (false, eval a X.env) :: starEach es X.env := by rfl) (hpl : (backTo pos (starEach es X.env)).any (·.1) = false := by rfl) :
    CE X (.Call (.Name x p) (a :: es) [] pos) (eCall n m fs) := by
  obtain ⟨f, fd, ps, hl, F, hm, hk2, hb⟩ := F
  exact c_call (hr.mono hk) F hg hm hk2 hb ha hdb he hpl
theorem okf_of {P : Program} {w : World} {K : PySem.W.Frag} {mg : Str → Option Value} {base : Heap} {x : Str} {st : Stmt} {N ps : List Str} {k : Nat} {b : DS} {m : MF} (T : FT K mg x st ps) (Sc : FnScope N ps (defScope st)) (hm : ∀ ds S Q, m ds S Q = b (endsD Q) (startD N.length ds) S)
    (h : ∀ (f : Addr) (cdv : Value) (A : Around) (outer : List PySem.Env) (s : Shared) (H : Hp) (E : XK), Room k (A.deeper (envOfC x (defScope st) s.heap.objs.size f cdv)) → CSs (cxOf CX0 P w K mg base N x (defScope st) f cdv A outer s H E).nox (defBody st) b) :
    Okf P w K mg base (k + 1) x ps.length m := by
  obtain ⟨f, fd, F, B, g⟩ := T
  have e : m = fun ds S Q => b (endsD Q) (startD N.length ds) S := funext fun ds => funext fun S => funext fun Q => hm ds S Q
  rw [e]
  exact ⟨f, fd, ps, rfl, def_ok F Sc (h f), g, F.kp, B⟩
end
/-! ### the law -/
theorem fr_of {K : PySem.W.Frag} {H : Hp} {a : Addr} {vs : List V} (o : Only H) (h : SqL K H a vs) : FrL K H a vs := by
  rcases h with (h | h) | h
  · rcases o a with z | ⟨ob, xs, z⟩ <;> rw [h] at z <;> cases z
  · exact .inl h
  · exact .inr h
theorem law_sp {K : PySem.W.Frag} {m : MF} {n : Nat} (h : ∀ ns : List Int, ns.length ≤ n → m [.fl (ns.map .int)] (fun _ => none) (fun d _ => d = .bl true)) (H : Hp) (a : Addr) (ns : List Int) (hl : ns.length ≤ n) (o : Only H) (hS : SqL K H a (ns.map V.int)) :
    spD K 1 m [.ref a] H (fun v _ => v = .bl true) fun _ _ _ => False := by
  refine ⟨rfl, [.fl (ns.map .int)], fun _ => none, fun d _ => d = .bl true, .cons (.fl (fr_of o hS) ints_reps) .nil, (fun _ _ z => nomatch z), h ns hl, fun v d S' H' _ _ r e => ?_⟩
  subst e
  cases r
  rfl
end DL
/-! plain rules for the mirrors: loops, comprehensions -/
namespace DL
open PySem L2
theorem seq_i {f g : DS} {D0 : DEnds} {σ : Env} {S : Sto} (h : f ⟨g D0, D0.rt, D0.bk, D0.ct⟩ σ S) : sSeq f g D0 σ S := h
theorem forL_inv {stab : Sto → Prop} {g : DG} {body : DS} {D0 : DEnds} (items : List D) (I : Nat → Env → Sto → Prop) (hst : ∀ i σ S, I i σ S → stab S)
    (turn : ∀ (i : Nat) (x : D) (σ : Env) (S : Sto) (N : Env → Sto → Prop), items[i]? = some x → I i σ S → (∀ σ' S', I (i + 1) σ' S' → N σ' S') → g x σ S fun σ2 S2 => body ⟨N, D0.rt, D0.nx, N⟩ σ2 S2)
    (hend : ∀ σ S, I items.length σ S → D0.nx σ S) {σ : Env} {S : Sto} (h0 : I 0 σ S) : forL stab g body D0 items σ S := by
  have key : ∀ (m i : Nat), m = items.length - i → i ≤ items.length → ∀ σ S, I i σ S → forL stab g body D0 (items.drop i) σ S := by
    intro m
    induction m with
    | zero =>
      intro i hm hi σ S h
      have e : i = items.length := by omega
      subst e
      rw [List.drop_length]
      exact ⟨hst _ _ _ h, hend σ S h⟩
    | succ m ih =>
      intro i hm hi σ S h
      have hlt : i < items.length := by omega
      rw [List.drop_eq_getElem_cons hlt]
      exact ⟨hst _ _ _ h, turn i _ σ S _ (List.getElem?_eq_getElem hlt) h fun σ' S' h' => ih (i + 1) (by omega) hlt σ' S' h'⟩
  exact key _ 0 rfl (Nat.zero_le _) σ S h0
/-- a for over a range -/
theorem forR_inv {stab : Sto → Prop} {g : DG} {body : DS} {D0 : DEnds} (lo : Int) (n : Nat) (I : Nat → Env → Sto → Prop) (hst : ∀ i σ S, I i σ S → stab S)
    (turn : ∀ (i : Nat) (σ : Env) (S : Sto) (N : Env → Sto → Prop), i < n → I i σ S → (∀ σ' S', I (i + 1) σ' S' → N σ' S') → g (.int (lo + (i : Nat))) σ S fun σ2 S2 => body ⟨N, D0.rt, D0.nx, N⟩ σ2 S2)
    (hend : ∀ σ S, I n σ S → D0.nx σ S) {σ : Env} {S : Sto} (h0 : I 0 σ S) : forL stab g body D0 (rangeD lo n) σ S := by
  have hl : (rangeD lo n).length = n := by simp [rangeD]
  refine forL_inv _ I hst (fun i x σ S N hx h hN => ?_) (by rw [hl]; exact hend) h0
  have hlt : i < n := by
    have := (List.getElem?_eq_some_iff.mp hx).1
    omega
  have hx2 : (rangeD lo n)[i]? = some (.int (lo + (i : Nat))) := by
    unfold rangeD
    rw [List.getElem?_map, List.getElem?_range hlt]
    rfl
  rw [hx2] at hx
  cases hx
  exact turn i σ S N hlt h hN
theorem lcL_inv {stab : Sto → Prop} {g : DG} {tests : DT} {elt : DE} {σ : Env} {k : List D → Sto → Prop} (items : List D) (I : Nat → List D → Sto → Prop) (hst : ∀ i acc S, I i acc S → stab S)
    (turn : ∀ (i : Nat) (x : D) (acc : List D) (S : Sto) (N : List D → Sto → Prop), items[i]? = some x → I i acc S → (∀ acc' S', I (i + 1) acc' S' → N acc' S') →
      g x σ S fun σ2 S2 => tests σ2 S2 fun b S3 => if b = true then elt σ2 S3 fun d S4 => acc.length < sizeLine ∧ N (acc ++ [d]) S4 else N acc S3)
    (hend : ∀ acc S, I items.length acc S → k acc S) {S : Sto} (h0 : I 0 [] S) : lcL stab g tests elt σ k items [] S := by
  have key : ∀ (m i : Nat), m = items.length - i → i ≤ items.length → ∀ acc S, I i acc S → lcL stab g tests elt σ k (items.drop i) acc S := by
    intro m
    induction m with
    | zero =>
      intro i hm hi acc S h
      have e : i = items.length := by omega
      subst e
      rw [List.drop_length]
      exact ⟨hst _ _ _ h, hend acc S h⟩
    | succ m ih =>
      intro i hm hi acc S h
      have hlt : i < items.length := by omega
      rw [List.drop_eq_getElem_cons hlt]
      exact ⟨hst _ _ _ h, turn i _ acc S (fun acc' S' => lcL stab g tests elt σ k (items.drop (i + 1)) acc' S') (List.getElem?_eq_getElem hlt) h fun acc' S' h' => ih (i + 1) (by omega) hlt acc' S' h'⟩
  exact key _ 0 rfl (Nat.zero_le _) [] S h0
/-- [f x for x in items], the store as it is -/
theorem lcL_map {stab : Sto → Prop} {g : DG} {elt : DE} {σ : Env} {k : List D → Sto → Prop} (f : D → D) (items : List D) {S : Sto} (hs : stab S) (hz : items.length ≤ sizeLine)
    (ht : ∀ x ∈ items, ∀ Q : DK, Q (f x) S → g x σ S fun σ2 S2 => elt σ2 S2 Q) (h : k (items.map f) S) : lcL stab g tsYes elt σ k items [] S := by
  refine lcL_inv items (fun i acc S' => S' = S ∧ acc = (items.take i).map f) (fun i acc S' ⟨e, _⟩ => by rw [e]; exact hs) (fun i x acc S' N hx ⟨e1, e2⟩ hN => ?_) (fun acc S' ⟨e1, e2⟩ => ?_) ⟨rfl, by simp⟩
  · subst e1 e2
    have hlt := (List.getElem?_eq_some_iff.mp hx).1
    show g x σ S' fun σ2 S2 => elt σ2 S2 fun d S4 => ((items.take i).map f).length < sizeLine ∧ N ((items.take i).map f ++ [d]) S4
    refine ht x (List.mem_of_getElem? hx) _ ⟨?_, hN _ _ ⟨rfl, ?_⟩⟩
    · rw [List.length_map, List.length_take]
      omega
    · rw [List.take_add_one, hx, List.map_append]
      rfl
  · subst e1 e2
    rw [List.take_of_length_le (Nat.le_refl _)]
    exact h
/-- [f x for x in items if p x], the store as it is -/
theorem lcL_filter {stab : Sto → Prop} {g : DG} {tests : DT} {elt : DE} {σ : Env} {k : List D → Sto → Prop} (f : D → D) (p : D → Bool) (items : List D) {S : Sto} (hs : stab S) (hz : items.length ≤ sizeLine)
    (h : k ((items.filter p).map f) S)
    (hk : ∀ x ∈ items, ∀ (T : DK) (G : Sto → Prop), (p x = true → T (f x) S) → (p x = false → G S) → g x σ S fun σ2 S2 => tests σ2 S2 fun b S3 => if b = true then elt σ2 S3 T else G S3) : lcL stab g tests elt σ k items [] S := by
  refine lcL_inv items (fun i acc S' => S' = S ∧ acc = ((items.take i).filter p).map f) (fun i acc S' ⟨e, _⟩ => by rw [e]; exact hs) (fun i x acc S' N hx ⟨e1, e2⟩ hN => ?_) (fun acc S' ⟨e1, e2⟩ => ?_) ⟨rfl, by simp⟩
  · subst e1
    have hlt := (List.getElem?_eq_some_iff.mp hx).1
    have hl : acc.length < sizeLine := by
      rw [e2, List.length_map]
      have := List.length_filter_le p (items.take i)
      rw [List.length_take] at this
      omega
    refine hk x (List.mem_of_getElem? hx) _ (fun S4 => N acc S4) (fun hp => ⟨hl, hN _ _ ⟨rfl, ?_⟩⟩) (fun hp => hN _ _ ⟨rfl, ?_⟩)
    · rw [List.take_add_one, hx, e2, List.filter_append, List.map_append]
      simp [hp]
    · rw [List.take_add_one, hx, e2, List.filter_append, List.map_append]
      simp [hp]
  · subst e1 e2
    rw [List.take_of_length_le (Nat.le_refl _)]
    exact h
end DL
namespace DL
open PySem L2
theorem pds_map {α : Type} {S : Sto} {f : α → D} {g : α → PyData} (h : ∀ x, PD S (f x) (g x)) : ∀ xs : List α, PDs S (xs.map f) (xs.map g)
  | [] => .nil
  | x :: xs => .cons (h x) (pds_map h xs)
theorem pds_ints {S : Sto} (xs : List Int) : PDs S (xs.map .int) (xs.map .int) := pds_map .int xs
theorem pds_strs {S : Sto} (xs : List Str) : PDs S (xs.map .str) (xs.map .str) := pds_map .str xs
theorem depth_map {α : Type} {g : α → PyData} {n : Nat} (h : ∀ x, (g x).depth ≤ n) : ∀ xs : List α, PyData.depthAll (xs.map g) ≤ n
  | [] => Nat.zero_le _
  | x :: xs => by
    show PyData.depthAll (g x :: xs.map g) ≤ n
    unfold PyData.depthAll
    exact Nat.max_le.mpr ⟨h x, depth_map h xs⟩
theorem depth_ints (xs : List Int) : (PyData.list (xs.map .int)).depth ≤ 64 := by
  have := depth_map (g := PyData.int) (n := 0) (fun _ => Nat.le_refl 0) xs
  show PyData.depthAll _ + 1 ≤ 64
  omega
theorem depth_strs (xs : List Str) : (PyData.list (xs.map .str)).depth ≤ 64 := by
  have := depth_map (g := PyData.str) (n := 0) (fun _ => Nat.le_refl 0) xs
  show PyData.depthAll _ + 1 ≤ 64
  omega
theorem eqv_nil (xs : List PyData) : PyData.eqv (.list xs) (.list []) = xs.isEmpty := by cases xs <;> simp [PyData.eqv, PyData.eqvAll]
/-- xs == [] of a list of the store -/
theorem eq_nil {f : Bool → Bool} {S : Sto} {p q : Addr} {xs : List D} {ps : List PyData} {Q : DK} (h1 : S p = some (.lst xs)) (h2 : S q = some (.lst [])) (hp : PDs S xs ps) (hd : (PyData.list ps).depth ≤ 64) (hq : Q (.bl (f xs.isEmpty)) S) : gEq f (.ref p) (.ref q) S Q := by
  refine ⟨.list ps, .list [], .lst h1 hp, .lst h2 .nil, hd, ?_⟩
  rw [eqv_nil]
  have e : ps.isEmpty = xs.isEmpty := by cases hp <;> rfl
  rw [e]
  exact hq
/-- numbers that may be multiplied -/
theorem mulS {i j : Int} (h1 : -(1000000000000000000000) < i) (h2 : i < 1000000000000000000000) (h3 : -(1000000000000000000000) < j) (h4 : j < 1000000000000000000000) : CMulW i j :=
  wide_mul (a := 80) (b := 80) (by have : (2 : Nat) ^ 80 = 1208925819614629174706176 := by decide
                                   omega) (by have : (2 : Nat) ^ 80 = 1208925819614629174706176 := by decide
                                              omega) (by decide) (by decide) (by decide)
theorem fdivS {i j : Int} (h0 : 0 < j) (h : j < 1000000000000000000000) : CDivW i j :=
  wide_div h0 (b := 80) (by have : (2 : Nat) ^ 80 = 1208925819614629174706176 := by decide
                            omega) (by decide) (by decide)
theorem powS {i : Int} {j : Int} (h0 : 0 ≤ j) (h1 : j ≤ 1000000) (h2 : -(18446744073709551616) < i) (h3 : i < 18446744073709551616) : CPow i j := ⟨h0, h1, by
  have : (2 : Nat) ^ 64 = 18446744073709551616 := by decide
  omega⟩
end DL
namespace DL
open PySem L2
section
variable {f : Bool → Bool} {S : Sto} {Q : DK}
theorem gEq_ii {i j : Int} : gEq f (.int i) (.int j) S Q = Q (.bl (f (decide (i = j)))) S := rfl
theorem gEq_ss {i j : Str} : gEq f (.str i) (.str j) S Q = Q (.bl (f (decide (i = j)))) S := rfl
theorem gEq_bb {i j : Bool} : gEq f (.bl i) (.bl j) S Q = Q (.bl (f (decide (i = j)))) S := rfl
theorem gEq_nn : gEq f .non .non S Q = Q (.bl (f true)) S := rfl
theorem gEq_ni {i : Int} : gEq f .non (.int i) S Q = Q (.bl (f false)) S := rfl
theorem gEq_in {i : Int} : gEq f (.int i) .non S Q = Q (.bl (f false)) S := rfl
theorem gEq_ns {i : Str} : gEq f .non (.str i) S Q = Q (.bl (f false)) S := rfl
theorem gEq_sn {i : Str} : gEq f (.str i) .non S Q = Q (.bl (f false)) S := rfl
theorem gEq_si {i : Str} {j : Int} : gEq f (.str i) (.int j) S Q = Q (.bl (f false)) S := rfl
theorem gEq_is {i : Int} {j : Str} : gEq f (.int i) (.str j) S Q = Q (.bl (f false)) S := rfl
end
end DL
namespace DL
open PySem L2
theorem ret_i {fa : DE} {D0 : DEnds} {σ : Env} {S : Sto} (h : fa σ S D0.rt) : sRet fa D0 σ S := h
theorem for_i {fi : DI} {g : DG} {body : DS} {D0 : DEnds} {σ : Env} {S : Sto} (h : fi σ S fun items stab S1 => forL stab g body D0 items σ S1) : sFor fi g body D0 σ S := h
theorem if_i {ft : DT} {f g : DS} {D0 : DEnds} {σ : Env} {S : Sto} (h : ft σ S fun k S1 => if k = true then f D0 σ S1 else g D0 σ S1) : sIf ft f g D0 σ S := h
theorem asg_i {fa : DE} {g : DG} {D0 : DEnds} {σ : Env} {S : Sto} (h : fa σ S fun x S1 => g x σ S1 D0.nx) : sAsg fa g D0 σ S := h
theorem exp_i {fa : DE} {D0 : DEnds} {σ : Env} {S : Sto} (h : fa σ S fun _ S1 => D0.nx σ S1) : sExpr fa D0 σ S := h
end DL
namespace DL
theorem rangeD_len (lo : Int) (n : Nat) : (rangeD lo n).length = n := by unfold rangeD; rw [List.length_map, List.length_range]
end DL
namespace LW
open PySem PySem.Spec PyProof.Rows L2 DL
def topS (i : Nat) : Stmt := PySem.Challenge.pw_dykelengths_k01_names_known.main.body.getD i (.Pass ⟨0, 0, 0, 0⟩)
abbrev s_wpen : Stmt := topS 5
abbrev s_wtake : Stmt := topS 6
abbrev s_wbent : Stmt := topS 9
abbrev s_wsame : Stmt := topS 7
abbrev s_wis_name : Stmt := topS 8
abbrev s_is_name : Stmt := topS 3
abbrev s_law : Stmt := topS 10
def b_wpen : DS := (sRet (eDict (pCons (eC (.str "cells")) (eCB gList (aCons (eSl (eVar 0) oNo (oSome (eC (.int 63)))) aNil)) (pCons (eC (.str "at")) (eC (.int 0)) (pCons (eC (.str "left")) (eC (.int 0)) pNil)))))
def m_wpen : MF := fun ds S Q => b_wpen (endsD Q) (startD 1 ds) S
theorem e_wpen (a0 : D) (S : Sto) (Q : DK) : m_wpen [a0] S Q = b_wpen (endsD Q) [some a0] S := rfl
theorem sc_wpen : FnScope ["_law_script"] ["_law_script"] (defScope s_wpen) := ⟨rfl, rfl, rfl, by decide +kernel, rfl, by decide +kernel, by decide +kernel⟩
def t_wtake_4 : DS := (sRet (eVar 7))
def t_wtake_3 : DS := (sSeq (sSub (eOp gFdiv (eOp gIx (eVar 0) (eC (.str "left"))) (eVar 1)) (eVar 0) (eC (.str "left"))) t_wtake_4)
def t_wtake_13 : DS := (sRet (eOp gMod (eCB gAbs (aCons (eVar 4) aNil)) (eVar 1)))
def t_wtake_16 : DS := (sRet (eOp gMod (eOp gFdiv (eOp gMod (eOp gMul (eVar 6) (eOp gAdd (eOp gMod (eVar 5) (eC (.int 64007))) (eC (.int 1)))) (eC (.int 2147483579))) (eC (.int 64))) (eVar 1)))
def t_wtake_15 : DS := (sSeq (sAsg (eOp gMod (eOp gPow (eOp gAdd (eOp gAdd (eVar 5) (eOp gMul (eOp gMul (eC (.int 1213)) (eVar 2)) (eVar 2))) (eC (.int 3))) (eC (.int 5))) (eC (.int 2147483543))) (nName 6)) t_wtake_16)
def t_wtake_14 : DS := (sSeq (sAsg (eOp gMod (eOp gPow (eOp gAdd (eOp gAdd (eOp gMod (eVar 4) (eC (.int 2147483587))) (eOp gMul (eC (.int 45007)) (eVar 2))) (eC (.int 11))) (eC (.int 3))) (eC (.int 2147483629))) (nName 5)) t_wtake_15)
def t_wtake_11 : DS := (sSeq (sIf (tAndD (tBl (eOp gLt (eVar 2) (eCB gLen (aCons (eVar 3) aNil)))) (tBl (eOp gGe (eCB gAbs (aCons (eVar 4) aNil)) (eOp gPow (eC (.int 10)) (eC (.int 18)))))) (sSeq (sSub (eOp gFdiv (eCB gAbs (aCons (eVar 4) aNil)) (eVar 1)) (eVar 0) (eC (.str "left"))) t_wtake_13) sNext) t_wtake_14)
def t_wtake_9 : DS := (sSeq (sIf (tBl (eOp (gEq not) (eVar 3) (eLst aNil))) (sAsg (eOp gIx (eVar 3) (eOp gMod (eVar 2) (eCB gLen (aCons (eVar 3) aNil)))) (nName 4)) sNext) t_wtake_11)
def t_wtake_8 : DS := (sSeq (sAsg (eOp gAdd (eOp gAdd (eOp gMul (eOp gMul (eC (.int 70207)) (eVar 2)) (eVar 2)) (eOp gMul (eC (.int 131)) (eVar 2))) (eC (.int 29))) (nName 4)) t_wtake_9)
def t_wtake_7 : DS := (sSeq (sAsg (eOp gIx (eVar 0) (eC (.str "cells"))) (nName 3)) t_wtake_8)
def t_wtake_6 : DS := (sSeq (sSub (eOp gAdd (eVar 2) (eC (.int 1))) (eVar 0) (eC (.str "at"))) t_wtake_7)
def t_wtake_5 : DS := (sSeq (sAsg (eOp gIx (eVar 0) (eC (.str "at"))) (nName 2)) t_wtake_6)
def b_wtake : DS := (sSeq (sIf (tBl (eOp gGt (eOp gIx (eVar 0) (eC (.str "left"))) (eC (.int 0)))) (sSeq (sAsg (eOp gMod (eOp gIx (eVar 0) (eC (.str "left"))) (eVar 1)) (nName 7)) t_wtake_3) sNext) t_wtake_5)
def m_wtake : MF := fun ds S Q => b_wtake (endsD Q) (startD 8 ds) S
theorem e_wtake (a0 a1 : D) (S : Sto) (Q : DK) : m_wtake [a0, a1] S Q = b_wtake (endsD Q) [some a0, some a1, none, none, none, none, none, none] S := rfl
theorem sc_wtake : FnScope ["_law_pen_here", "_law_many", "_law_at", "_law_cells", "_law_cell", "_law_one", "_law_two", "_law_found"] ["_law_pen_here", "_law_many"] (defScope s_wtake) := ⟨rfl, rfl, rfl, by decide +kernel, rfl, by decide +kernel, by decide +kernel⟩
def t_wbent_5 : DS := (sRet (eOp gIx (eLst (aCons (eOp gAdd (eOp gAdd (eSl (eVar 1) oNo (oSome (eVar 5))) (eVar 4)) (eSl (eVar 1) (oSome (eOp gAdd (eVar 5) (eC (.int 1)))) oNo)) (aCons (eOp gAdd (eOp gAdd (eSl (eVar 1) oNo (oSome (eVar 5))) (eVar 4)) (eSl (eVar 1) (oSome (eVar 5)) oNo)) (aCons (eOp gAdd (eSl (eVar 1) oNo (oSome (eVar 5))) (eSl (eVar 1) (oSome (eOp gAdd (eVar 5) (eC (.int 1)))) oNo)) (aCons (eOp gAdd (eVar 1) (eVar 4)) aNil))))) (eVar 2)))
def t_wbent_4 : DS := (sSeq (sAsg (eCall 2 m_wtake (aCons (eVar 0) (aCons (eCB gLen (aCons (eVar 1) aNil)) aNil))) (nName 5)) t_wbent_5)
def t_wbent_3 : DS := (sSeq (sAsg (eOp gIx (eVar 3) (eCall 2 m_wtake (aCons (eVar 0) (aCons (eCB gLen (aCons (eVar 3) aNil)) aNil)))) (nName 4)) t_wbent_4)
def t_wbent_2 : DS := (sSeq (sAsg (eC (.str " !\"#$&'()*+,-./0123456789:;<=>?@ABCDEFGHIJKLMNOPQRSTUVWXYZ[\\]^_`abcdefghijklmnopqrstuvwxyz{|}~\n")) (nName 3)) t_wbent_3)
def b_wbent : DS := (sSeq (sAsg (eCall 2 m_wtake (aCons (eVar 0) (aCons (eC (.int 4)) aNil))) (nName 2)) t_wbent_2)
def m_wbent : MF := fun ds S Q => b_wbent (endsD Q) (startD 6 ds) S
theorem e_wbent (a0 a1 : D) (S : Sto) (Q : DK) : m_wbent [a0, a1] S Q = b_wbent (endsD Q) [some a0, some a1, none, none, none, none] S := rfl
theorem sc_wbent : FnScope ["_law_pen_here", "_law_word", "_law_way", "_law_signs", "_law_sign", "_law_at"] ["_law_pen_here", "_law_word"] (defScope s_wbent) := ⟨rfl, rfl, rfl, by decide +kernel, rfl, by decide +kernel, by decide +kernel⟩
def t_wsame_3 : DS := (sRet (eOp (gIs id) (eVar 0) (eC (.bl false))))
def b_wsame : DS := (sSeq (sIf (tTr (eVar 1)) (sRet (eOp (gIs id) (eVar 0) (eC (.bl true)))) sNext) t_wsame_3)
def m_wsame : MF := fun ds S Q => b_wsame (endsD Q) (startD 2 ds) S
theorem e_wsame (a0 a1 : D) (S : Sto) (Q : DK) : m_wsame [a0, a1] S Q = b_wsame (endsD Q) [some a0, some a1] S := rfl
theorem sc_wsame : FnScope ["_law_found", "_law_owed"] ["_law_found", "_law_owed"] (defScope s_wsame) := ⟨rfl, rfl, rfl, by decide +kernel, rfl, by decide +kernel, by decide +kernel⟩
def l_wis_name_3 : DS := (sIf (tBl (eOp (gIn not) (eVar 1) (eC (.str "abcdefghijklmnopqrstuvwxyz")))) (sRet (eC (.bl false))) sNext)
def t_wis_name_6 : DS := (sRet (eC (.bl true)))
def t_wis_name_3 : DS := (sSeq (sFor (iSeq (eVar 0)) (nName 1) l_wis_name_3) t_wis_name_6)
def b_wis_name : DS := (sSeq (sIf (tOrD (tBl (eOp (gEq id) (eCB gLen (aCons (eVar 0) aNil)) (eC (.int 0)))) (tBl (eOp gGt (eCB gLen (aCons (eVar 0) aNil)) (eC (.int 8))))) (sRet (eC (.bl false))) sNext) t_wis_name_3)
def m_wis_name : MF := fun ds S Q => b_wis_name (endsD Q) (startD 2 ds) S
theorem e_wis_name (a0 : D) (S : Sto) (Q : DK) : m_wis_name [a0] S Q = b_wis_name (endsD Q) [some a0, none] S := rfl
theorem sc_wis_name : FnScope ["_law_thing", "_law_sign"] ["_law_thing"] (defScope s_wis_name) := ⟨rfl, rfl, rfl, by decide +kernel, rfl, by decide +kernel, by decide +kernel⟩
def c_is_name_3 : DE := (eOp (gIn id) (eVar 1) (eC (.str "abcdefghijklmnopqrstuvwxyz")))
def t_is_name_3 : DS := (sRet (eCB (gAll fun bs => bs.all id) (aCons (eLc (iSeq (eVar 0)) (nName 1) tsYes c_is_name_3 [1]) aNil)))
def b_is_name : DS := (sSeq (sIf (tOrD (tNotD (tTr (eCB gIsi (aCons (eVar 0) (aCons (eC (.ty "str")) aNil))))) (tNotD (tBl (eChain gLe gLe (eC (.int 1)) (eCB gLen (aCons (eVar 0) aNil)) (eC (.int 8)))))) (sRet (eC (.bl false))) sNext) t_is_name_3)
def m_is_name : MF := fun ds S Q => b_is_name (endsD Q) (startD 2 ds) S
theorem e_is_name (a0 : D) (S : Sto) (Q : DK) : m_is_name [a0] S Q = b_is_name (endsD Q) [some a0, none] S := rfl
theorem sc_is_name : FnScope ["thing", "sign"] ["thing"] (defScope s_is_name) := ⟨rfl, rfl, rfl, by decide +kernel, rfl, by decide +kernel, by decide +kernel⟩
def c_law_4 : DE := (eOp gIx (eC (.str "abcdefghijklmnopqrstuvwxyz")) (eCall 2 m_wtake (aCons (eVar 1) (aCons (eC (.int 26)) aNil))))
def l_law_5 : DS := (sIf (tNotD (tTr (eCall 2 m_wsame (aCons (eCall 1 m_is_name (aCons (eVar 3) aNil)) (aCons (eCall 1 m_wis_name (aCons (eVar 3) aNil)) aNil))))) (sRet (eC (.bl false))) sNext)
def t_law_5 : DS := (sFor (iSeq (eTup (aCons (eVar 5) (aCons (eCall 2 m_wbent (aCons (eVar 1) (aCons (eVar 5) aNil))) (aCons (eCall 2 m_wbent (aCons (eVar 1) (aCons (eVar 5) aNil))) (aCons (eOp gAdd (eVar 5) (eVar 5)) (aCons (eM "str" gUpper (eVar 5) aNil) (aCons (eVar 5) aNil)))))))) (nName 3) l_law_5)
def t_law_4 : DS := (sSeq (sAsg (eM "str" gJoin (eC (.str "")) (aCons (eLc (iRange1 (aCons (eVar 4) aNil)) (nName 6) tsYes c_law_4 [6]) aNil)) (nName 5)) t_law_5)
def l_law_2 : DS := (sSeq (sAsg (eOp gIx (eLst (aCons (eC (.int 1)) (aCons (eC (.int 8)) (aCons (eOp gAdd (eC (.int 1)) (eCall 2 m_wtake (aCons (eVar 1) (aCons (eC (.int 8)) aNil)))) aNil)))) (eCall 2 m_wtake (aCons (eVar 1) (aCons (eC (.int 3)) aNil)))) (nName 4)) t_law_4)
def l_law_8 : DS := (sIf (tBl (eOp (gIs not) (eCall 1 m_is_name (aCons (eVar 3) aNil)) (eC (.bl false)))) (sRet (eC (.bl false))) sNext)
def t_law_11 : DS := (sRet (eC (.bl true)))
def t_law_8 : DS := (sSeq (sFor (iSeq (eTup (aCons (eC .non) (aCons (eC (.bl true)) (aCons (eC (.bl false)) (aCons (eC (.int 0)) (aCons (eC (.int 7)) (aCons (eNeg (eC (.int 1))) (aCons (eTup aNil) (aCons (eLst aNil) (aCons eDict0 (aCons (eC (.str "")) (aCons (eTup (aCons (eC (.str "a")) aNil)) (aCons (eLst (aCons (eC (.str "a")) aNil)) (aCons (eDict (pCons (eC (.str "a")) (eC (.int 1)) pNil)) (aCons (eTup (aCons (eC (.str "a")) (aCons (eC (.str "b")) aNil))) (aCons (eLst (aCons (eLst (aCons (eC (.str "a")) aNil)) aNil)) aNil))))))))))))))))) (nName 3) l_law_8) t_law_11)
def t_law_2 : DS := (sSeq (sFor (iRange1 (aCons (eC (.int 12)) aNil)) (nName 2) l_law_2) t_law_8)
def b_law : DS := (sSeq (sAsg (eCall 1 m_wpen (aCons (eVar 0) aNil)) (nName 1)) t_law_2)
def m_law : MF := fun ds S Q => b_law (endsD Q) (startD 7 ds) S
theorem e_law (a0 : D) (S : Sto) (Q : DK) : m_law [a0] S Q = b_law (endsD Q) [some a0, none, none, none, none, none, none] S := rfl
theorem sc_law : FnScope ["_law_script", "_law_pen_here", "_law_turn", "_law_thing", "_law_size", "_law_word", "_law_k"] ["_law_script"] (defScope s_law) := ⟨rfl, rfl, rfl, by decide +kernel, rfl, by decide +kernel, by decide +kernel⟩
structure Txt (K : PySem.W.Frag) (mg : Str → Option Value) : Prop where
  f_wpen : FT K mg "_law_pen" s_wpen ["_law_script"]
  f_wtake : FT K mg "_law_take" s_wtake ["_law_pen_here", "_law_many"]
  f_wbent : FT K mg "_law_bent" s_wbent ["_law_pen_here", "_law_word"]
  f_wsame : FT K mg "_law_same" s_wsame ["_law_found", "_law_owed"]
  f_wis_name : FT K mg "_law_is_name" s_wis_name ["_law_thing"]
  f_is_name : FT K mg "is_name" s_is_name ["thing"]
  f_law : FT K mg "law" s_law ["_law_script"]
  n_range : mg "range" = none
  n_list : mg "list" = none
  n_len : mg "len" = none
  n_abs : mg "abs" = none
  n_isinstance : mg "isinstance" = none
  n_str : mg "str" = none
  n_all : mg "all" = none
  c_LONGEST : ∃ t, mg "LONGEST" = some (.int 8 t)
  c_SMALL : ∃ t, mg "SMALL" = some (.str "abcdefghijklmnopqrstuvwxyz" t)
section
variable {P : Program} {w : World} {K : PySem.W.Frag} {mg : Str → Option Value} {base : Heap}
theorem ok_wpen (T : Txt K mg) : Okf P w K mg base 1 "_law_pen" 1 m_wpen := by
  have Sc := sc_wpen
  refine okf_of (b := b_wpen) T.f_wpen Sc (fun _ _ _ => rfl) fun f cdv A outer s H E hr => ?_
  have hu := hu_of hr
  exact (ss_one (s_ret (c_dict (ps_cons0 c_str (c_callTy y_list (by rfl) T.n_list (by decide +kernel) (a_cons (c_sl (c_var 0) p_none (p_some c_int)) a_nil)) (ps_cons0 c_str c_int (ps_cons0 c_str c_int ps_nil0))) (by rfl) (by rfl) (fun z => by cases z) (by decide))))
theorem ok_wtake (T : Txt K mg) : Okf P w K mg base 1 "_law_take" 2 m_wtake := by
  have Sc := sc_wtake
  refine okf_of (b := b_wtake) T.f_wtake Sc (fun _ _ _ => rfl) fun f cdv A outer s H E hr => ?_
  have hu := hu_of hr
  exact (ss_cons (s_if (k_cmp o_gt (c_ix hu (c_var 0) c_str) c_int (nomark _)) (ss_cons (s_set (i := 7) Sc.nd rfl (by first | exact .inl rfl | exact .inr rfl) (c_mod (c_ix hu (c_var 0) c_str) (c_var 1))) (ss_cons (s_sub hu (c_fdiv (c_ix hu (c_var 0) c_str) (c_var 1)) (c_var 0) c_str) (ss_one (s_ret (c_var 7))))) ss_nil) (ss_cons (s_set (i := 2) Sc.nd rfl (by first | exact .inl rfl | exact .inr rfl) (c_ix hu (c_var 0) c_str)) (ss_cons (s_sub hu (c_add (c_var 2) c_int) (c_var 0) c_str) (ss_cons (s_set (i := 3) Sc.nd rfl (by first | exact .inl rfl | exact .inr rfl) (c_ix hu (c_var 0) c_str)) (ss_cons (s_set (i := 4) Sc.nd rfl (by first | exact .inl rfl | exact .inr rfl) (c_add (c_add (c_mul (c_mul c_int (c_var 2)) (c_var 2)) (c_mul c_int (c_var 2))) c_int)) (ss_cons (s_if (k_cmp (o_ne hr.units) (c_var 3) (c_lst a_nil) (nomark _)) (ss_one (s_set (i := 4) Sc.nd rfl (by first | exact .inl rfl | exact .inr rfl) (c_ix hu (c_var 3) (c_mod (c_var 2) (c_callB b_len (by rfl) T.n_len (by decide +kernel) (a_cons (c_var 3) a_nil)))))) ss_nil) (ss_cons (s_if (k_w (w_and (k_cmp o_lt (c_var 2) (c_callB b_len (by rfl) T.n_len (by decide +kernel) (a_cons (c_var 3) a_nil)) (nomark _)) (w_and1 (k_cmp o_ge (c_callB b_abs (by rfl) T.n_abs (by decide +kernel) (a_cons (c_var 4) a_nil)) (c_pow c_int c_int) (nomark _))))) (ss_cons (s_sub hu (c_fdiv (c_callB b_abs (by rfl) T.n_abs (by decide +kernel) (a_cons (c_var 4) a_nil)) (c_var 1)) (c_var 0) c_str) (ss_one (s_ret (c_mod (c_callB b_abs (by rfl) T.n_abs (by decide +kernel) (a_cons (c_var 4) a_nil)) (c_var 1))))) ss_nil) (ss_cons (s_set (i := 5) Sc.nd rfl (by first | exact .inl rfl | exact .inr rfl) (c_mod (c_pow (c_add (c_add (c_mod (c_var 4) c_int) (c_mul c_int (c_var 2))) c_int) c_int) c_int)) (ss_cons (s_set (i := 6) Sc.nd rfl (by first | exact .inl rfl | exact .inr rfl) (c_mod (c_pow (c_add (c_add (c_var 5) (c_mul (c_mul c_int (c_var 2)) (c_var 2))) c_int) c_int) c_int)) (ss_one (s_ret (c_mod (c_fdiv (c_mod (c_mul (c_var 6) (c_add (c_mod (c_var 5) c_int) c_int)) c_int) c_int) (c_var 1)))))))))))))
theorem ok_wbent (T : Txt K mg) : Okf P w K mg base 2 "_law_bent" 2 m_wbent := by
  have Sc := sc_wbent
  refine okf_of (b := b_wbent) T.f_wbent Sc (fun _ _ _ => rfl) fun f cdv A outer s H E hr => ?_
  have hu := hu_of hr
  exact (ss_cons (s_set (i := 2) Sc.nd rfl (by first | exact .inl rfl | exact .inr rfl) (c_fn hr (ok_wtake T) (by decide) (a_cons (c_var 0) (a_cons c_int a_nil)))) (ss_cons (s_set (i := 3) Sc.nd rfl (by first | exact .inl rfl | exact .inr rfl) c_str) (ss_cons (s_set (i := 4) Sc.nd rfl (by first | exact .inl rfl | exact .inr rfl) (c_ix hu (c_var 3) (c_fn hr (ok_wtake T) (by decide) (a_cons (c_var 0) (a_cons (c_callB b_len (by rfl) T.n_len (by decide +kernel) (a_cons (c_var 3) a_nil)) a_nil))))) (ss_cons (s_set (i := 5) Sc.nd rfl (by first | exact .inl rfl | exact .inr rfl) (c_fn hr (ok_wtake T) (by decide) (a_cons (c_var 0) (a_cons (c_callB b_len (by rfl) T.n_len (by decide +kernel) (a_cons (c_var 1) a_nil)) a_nil)))) (ss_one (s_ret (c_ix hu (c_lst (a_cons (c_add (c_add (c_sl (c_var 1) p_none (p_some (c_var 5))) (c_var 4)) (c_sl (c_var 1) (p_some (c_add (c_var 5) c_int)) p_none)) (a_cons (c_add (c_add (c_sl (c_var 1) p_none (p_some (c_var 5))) (c_var 4)) (c_sl (c_var 1) (p_some (c_var 5)) p_none)) (a_cons (c_add (c_sl (c_var 1) p_none (p_some (c_var 5))) (c_sl (c_var 1) (p_some (c_add (c_var 5) c_int)) p_none)) (a_cons (c_add (c_var 1) (c_var 4)) a_nil))))) (c_var 2))))))))
theorem ok_wsame (T : Txt K mg) : Okf P w K mg base 1 "_law_same" 2 m_wsame := by
  have Sc := sc_wsame
  refine okf_of (b := b_wsame) T.f_wsame Sc (fun _ _ _ => rfl) fun f cdv A outer s H E hr => ?_
  have hu := hu_of hr
  exact (ss_cons (s_if (k_tru (c_var 1)) (ss_one (s_ret (c_cmp o_is (c_var 0) c_bl (nomark _)))) ss_nil) (ss_one (s_ret (c_cmp o_is (c_var 0) c_bl (nomark _)))))
theorem ok_wis_name (T : Txt K mg) : Okf P w K mg base 1 "_law_is_name" 1 m_wis_name := by
  have Sc := sc_wis_name
  refine okf_of (b := b_wis_name) T.f_wis_name Sc (fun _ _ _ => rfl) fun f cdv A outer s H E hr => ?_
  have hu := hu_of hr
  exact (ss_cons (s_if (k_w (w_or (k_cmp (o_eq hr.units) (c_callB b_len (by rfl) T.n_len (by decide +kernel) (a_cons (c_var 0) a_nil)) c_int (nomark _)) (w_or1 (k_cmp o_gt (c_callB b_len (by rfl) T.n_len (by decide +kernel) (a_cons (c_var 0) a_nil)) c_int (nomark _))))) (ss_one (s_ret c_bl)) ss_nil) (ss_cons (s_for PassesOwn.never rfl (i_seq (c_var 0)) (g_name (i := 1) Sc.nd rfl (by first | exact .inl rfl | exact .inr rfl)) (ss_one (s_if (k_cmp (o_notIn hu) (c_var 1) c_str (by with_unfolding_all rfl)) (ss_one (s_ret c_bl)) ss_nil))) (ss_one (s_ret c_bl))))
theorem ok_is_name (T : Txt K mg) : Okf P w K mg base 1 "is_name" 1 m_is_name := by
  have Sc := sc_is_name
  refine okf_of (b := b_is_name) T.f_is_name Sc (fun _ _ _ => rfl) fun f cdv A outer s H E hr => ?_
  have hu := hu_of hr
  exact (ss_cons (s_if (k_w (w_or (k_not (k_tru (c_callB b_isi (by rfl) T.n_isinstance (by decide +kernel) (a_cons (c_var 0) (a_cons (c_bltn (by rfl) T.n_str (by decide +kernel)) a_nil))))) (w_or1 (k_not (k_chain o_le o_le c_int (c_callB b_len (by rfl) T.n_len (by decide +kernel) (a_cons (c_var 0) a_nil)) (c_globI T.c_LONGEST)))))) (ss_one (s_ret c_bl)) ss_nil) (ss_one (s_ret (c_callB (b_all rfl) (by rfl) T.n_all (by decide +kernel) (a_cons (c_lc (own := [("sign", 1)]) (gown := [1]) rfl Sc.nd (i_seq (c_var 0)) (blkOk_by (N := ["thing", "sign"]) (sc := defScope s_is_name) (by decide +kernel)) (fun _ _ _ _ _ => (g_name (i := 1) Sc.nd rfl (by first | exact .inl rfl | exact .inr rfl))) (by decide) (fun _ _ _ _ _ => ts_nil) (fun _ _ _ _ _ => (c_cmp (o_in hu) (c_var 1) (c_globS T.c_SMALL) (by with_unfolding_all rfl)))) a_nil)))))
theorem fn_law (T : Txt K mg) {f : Addr} {fd : FuncData} (F : Fun K "law" "law" s_law f fd) : FnOk P w K mg base CX0 3 f fd ["_law_script"] (spD K 1 m_law) := by
  have Sc := sc_law
  refine def_ok (b := b_law) F Sc fun cdv A outer s H E hr => ?_
  have hu := hu_of hr
  exact (ss_cons (s_set (i := 1) Sc.nd rfl (by first | exact .inl rfl | exact .inr rfl) (c_fn hr (ok_wpen T) (by decide) (a_cons (c_var 0) a_nil))) (ss_cons (s_for PassesOwn.never rfl (i_range1 (by rfl) T.n_range (a_cons c_int a_nil)) (g_name (i := 2) Sc.nd rfl (by first | exact .inl rfl | exact .inr rfl)) (ss_cons (s_set (i := 4) Sc.nd rfl (by first | exact .inl rfl | exact .inr rfl) (c_ix hu (c_lst (a_cons c_int (a_cons c_int (a_cons (c_add c_int (c_fn hr (ok_wtake T) (by decide) (a_cons (c_var 1) (a_cons c_int a_nil)))) a_nil)))) (c_fn hr (ok_wtake T) (by decide) (a_cons (c_var 1) (a_cons c_int a_nil))))) (ss_cons (s_set (i := 5) Sc.nd rfl (by first | exact .inl rfl | exact .inr rfl) (c_m m_join c_str (a_cons (c_lc (own := [("_law_k", 6)]) (gown := [6]) rfl Sc.nd (i_range1 (by rfl) T.n_range (a_cons (c_var 4) a_nil)) (blkOk_by (N := ["_law_script", "_law_pen_here", "_law_turn", "_law_thing", "_law_size", "_law_word", "_law_k"]) (sc := defScope s_law) (by decide +kernel)) (fun _ _ _ _ _ => (g_name (i := 6) Sc.nd rfl (by first | exact .inl rfl | exact .inr rfl))) (by decide) (fun _ _ _ _ _ => ts_nil) (fun _ _ _ _ _ => (c_ix hu c_str (c_fn hr (ok_wtake T) (by decide) (a_cons (c_var 1) (a_cons c_int a_nil)))))) a_nil))) (ss_one (s_for PassesOwn.never rfl (i_seq (c_tup (a_cons (c_var 5) (a_cons (c_fn hr (ok_wbent T) (by decide) (a_cons (c_var 1) (a_cons (c_var 5) a_nil))) (a_cons (c_fn hr (ok_wbent T) (by decide) (a_cons (c_var 1) (a_cons (c_var 5) a_nil))) (a_cons (c_add (c_var 5) (c_var 5)) (a_cons (c_m0 m_upper (c_var 5)) (a_cons (c_var 5) a_nil)))))))) (g_name (i := 3) Sc.nd rfl (by first | exact .inl rfl | exact .inr rfl)) (ss_one (s_if (k_not (k_tru (c_fn hr (ok_wsame T) (by decide) (a_cons (c_fn hr (ok_is_name T) (by decide) (a_cons (c_var 3) a_nil)) (a_cons (c_fn hr (ok_wis_name T) (by decide) (a_cons (c_var 3) a_nil)) a_nil))))) (ss_one (s_ret c_bl)) ss_nil))))))) (ss_cons (s_for PassesOwn.never rfl (i_seq (c_tup (a_cons c_non (a_cons c_bl (a_cons c_bl (a_cons c_int (a_cons c_int (a_cons (c_neg c_int) (a_cons (c_tup a_nil) (a_cons (c_lst a_nil) (a_cons c_dict0 (a_cons c_str (a_cons (c_tup (a_cons c_str a_nil)) (a_cons (c_lst (a_cons c_str a_nil)) (a_cons (c_dict (ps_cons0 c_str c_int ps_nil0) (by rfl) (by rfl) (fun z => by cases z) (by decide)) (a_cons (c_tup (a_cons c_str (a_cons c_str a_nil))) (a_cons (c_lst (a_cons (c_lst (a_cons c_str a_nil)) a_nil)) a_nil))))))))))))))))) (g_name (i := 3) Sc.nd rfl (by first | exact .inl rfl | exact .inr rfl)) (ss_one (s_if (k_cmp o_isNot (c_fn hr (ok_is_name T) (by decide) (a_cons (c_var 3) a_nil)) c_bl (nomark _)) (ss_one (s_ret c_bl)) ss_nil))) (ss_one (s_ret c_bl)))))
end
theorem ft_mk {K : PySem.W.Frag} {h : Heap} {mg : Str → Option Value} {x : Str} {st : Stmt} {ps : List Str} {f : Addr} {od an : Option Addr} {sl : Array (Option Value)} {oc kV dc pm cd ct : Value} (X : K.In h) (G : h.Ns mainGlobals mg)
    (a : PySem.W.nsIn K mainGlobals x = some (some (.ref f))) (l : K.lookup f = some ⟨oc, od, .func (PySem.W.fnOf x x (defArgs st) (defBody st) (defScope st) .none kV dc pm an cd ct), sl⟩) (c : PySem.W.codeIn K cd x = true) (k : PySem.W.keepIn K (.ref f) = true)
    (b : ∀ (kV doc pm : Value) (an : Option Addr) (cdv ct : Value) (us : List Value), us.length = ps.length → bindArgs (PySem.W.fnOf x x (defArgs st) (defBody st) (defScope st) .none kV doc pm an cdv ct) ⟨us, []⟩ = pure (ps.zip us)) : FT K mg x st ps :=
  have F := fun_mk (st := st) l c k
  ⟨f, _, F, F.binds b, PySem.W.mg_of X G a⟩
theorem law_mk {l : PySem.W.OpenLaw} {w : World} {K : PySem.W.Frag} {h : Heap} {mg : Str → Option Value} {fa f2 : Addr} (X : K.In h) (G : h.Ns mainGlobals mg) (hfa : mg "law" = some (.ref fa)) (T : Txt K mg)
    {od an : Option Addr} {sl : Array (Option Value)} {oc kV dc pm cd ct : Value}
    (a2 : PySem.W.nsIn K mainGlobals "law" = some (some (.ref f2))) (l2 : K.lookup f2 = some ⟨oc, od, .func (PySem.W.fnOf "law" "law" (defArgs s_law) (defBody s_law) (defScope s_law) .none kV dc pm an cd ct), sl⟩) (c2 : PySem.W.codeIn K cd "law" = true) (k2 : PySem.W.keepIn K (.ref f2) = true) :
    ∃ fd : FuncData, (∀ (s : Shared) (v : Value), BindsTo s fd ⟨[v], []⟩ [("_law_script", v)]) ∧ ∀ base : Heap, K.In base → base.Ns mainGlobals mg → FnOk l.prog w K mg base CX0 3 fa fd ["_law_script"] (spD K 1 m_law) := by
  have e := hfa.symm.trans (PySem.W.mg_of X G a2)
  cases e
  exact ⟨PySem.W.fnOf "law" "law" (defArgs s_law) (defBody s_law) (defScope s_law) .none kV dc pm an cd ct, fun s v => .of_eq rfl, fun base _ _ => fn_law T (fun_mk l2 c2 k2)⟩
end LW
namespace LW
open PySem L2 DL
abbrev kS (x : Str) : Key := Sum.inr x
def penKv (c : Addr) (a l : Int) : List (Key × D) := [(kS "cells", .ref c), (kS "at", .int a), (kS "left", .int l)]
theorem k_ca : ¬ (kS "cells" = kS "at") := by decide +kernel
theorem k_cl : ¬ (kS "cells" = kS "left") := by decide +kernel
theorem k_al : ¬ (kS "at" = kS "left") := by decide +kernel
theorem k_la : ¬ (kS "left" = kS "at") := by decide +kernel
theorem pen_cells {c a l} : valD (penKv c a l) (kS "cells") = some (.ref c) := by unfold penKv valD; rw [if_pos rfl]
theorem pen_at {c a l} : valD (penKv c a l) (kS "at") = some (.int a) := by unfold penKv valD; rw [if_neg k_ca]; unfold valD; rw [if_pos rfl]
theorem pen_left {c a l} : valD (penKv c a l) (kS "left") = some (.int l) := by unfold penKv valD; rw [if_neg k_cl]; unfold valD; rw [if_neg k_al]; unfold valD; rw [if_pos rfl]
theorem put_at {c a l v} : putD (penKv c a l) (kS "at") (.int v) = penKv c v l := by
  unfold putD hasD
  rw [pen_at]
  show replD (penKv c a l) (kS "at") (.int v) = _
  unfold penKv
  simp only [replD, if_neg k_ca, if_neg k_la, if_true]
theorem put_left {c a l v} : putD (penKv c a l) (kS "left") (.int v) = penKv c a v := by
  unfold putD hasD
  rw [pen_left]
  show replD (penKv c a l) (kS "left") (.int v) = _
  unfold penKv
  simp only [replD, if_neg k_cl, if_neg k_al, if_true]
theorem pen_len {c a l} : (penKv c a l).length = 3 := rfl
theorem three_line : 3 < sizeLine := by decide
theorem nil_line : 0 ≤ sizeLine := Nat.zero_le _
structure Pen (S : Sto) (p : Addr) (b : Nat) : Prop where
  ex : ∃ (c : Addr) (ns : List Int) (a l : Int), S p = some (.dk (penKv c a l)) ∧ S c = some (.lst (ns.map .int)) ∧ ns.length ≤ 63 ∧ 0 ≤ a ∧ a ≤ b ∧ 0 ≤ l
/-- all but the pen stays -/
def Kp (p : Addr) (S S' : Sto) : Prop := ∀ a o, a ≠ p → S a = some o → S' a = some o
theorem Kp.trans {p : Addr} {S S1 S2 : Sto} (x : Kp p S S1) (y : Kp p S1 S2) : Kp p S S2 := fun a o n h => y a o n (x a o n h)
theorem Kp.refl {p : Addr} {S : Sto} : Kp p S S := fun _ _ _ h => h
theorem Kp.new {p q : Addr} {S : Sto} {o : O} (h : S q = none) : Kp p S (updS S q o) := fun a u _ e => by rw [updS_ne (neS e h)]; exact e
theorem Kp.put {p : Addr} {S : Sto} {o : O} : Kp p S (updS S p o) := fun a u n e => by rw [updS_ne n]; exact e
theorem Pen.keep {p : Addr} {S S' : Sto} {b : Nat} (h : Pen S p b) (k : ∀ a o, S a = some o → S' a = some o) : Pen S' p b :=
  let ⟨c, ns, a, l, h1, h2, h3⟩ := h.ex; ⟨c, ns, a, l, k _ _ h1, k _ _ h2, h3⟩
theorem Pen.new {p q : Addr} {S : Sto} {o : O} {b : Nat} (h : Pen S p b) (hq : S q = none) : Pen (updS S q o) p b := h.keep fun a u e => by rw [updS_ne (neS e hq)]; exact e
theorem Pen.mono {p : Addr} {S : Sto} {b b2 : Nat} (h : Pen S p b) (hb : b ≤ b2) : Pen S p b2 := let ⟨c, ns, a, l, h1, h2, h3, h4, h5, h6⟩ := h.ex; ⟨c, ns, a, l, h1, h2, h3, h4, by omega, h6⟩
theorem get_ints {ns : List Int} {i : Int} (h0 : 0 ≤ i) (h : i < ns.length) : ∃ z, atI (ns.map D.int) i = some (.int z) := by
  obtain ⟨k, rfl⟩ : ∃ k : Nat, i = (k : Nat) := ⟨i.toNat, by omega⟩
  have hl : k < ns.length := by omega
  refine ⟨ns[k], atI_nat ?_⟩
  rw [List.getElem?_map]
  simp [hl]
theorem take_spec {S : Sto} {p : Addr} {b : Nat} {n : Int} {Q : DK} (h : Pen S p b) (hb : b + 1 ≤ 100000000) (hn : 0 < n) (hm : n.natAbs.log2 < 9000)
   (q : ∀ (k : Int) (S' : Sto), 0 ≤ k → k < n → Pen S' p (b + 1) → Kp p S S' → Q (.int k) S') : m_wtake [.ref p, .int n] S Q := by
  obtain ⟨c, ns, a, l, h1, h2, h3, h4, h5, h6⟩ := h
  have hcp : c ≠ p := fun e => by subst e; rw [h1] at h2; cases h2
  rw [e_wtake]
  refine seq_i ?_
  simp only [eVar, eC, eOp, eNeg, eChain, eAnd, eOr, eNot, eIf, eTup, eLst, eDict0, eDict, eSl, oNo, oSome, eCall, eCB, eM, eLc, eIsi2, aNil, aCons, pNil, pCons, tTr, tBl, tAndD, tOrD, tNotD, tsYes, gAdd, gI, gI0, gMns, gMul, gMod, gFdiv, gPow, gLt, gLe, gGt, gGe, gIs, isNon, gEq_ii, gEq_ss, gEq_bb, gEq_nn, gEq_ni, gEq_in, gEq_ns, gEq_sn, gEq_si, gEq_is, gIx, gSl, gIn, gLen, gAbs, gMax2, gMin2, gInt1, gList, gTuple, gSum, gAll, gIsi, tyD, tyM, gAppend, gPop0, gPopAt, gClear, gReverse, gJoin, gUpper, sAsg, nName, nTup, nCons, nNil, sSub, sRet, sRetN, sExpr, sIf, sNext, sBreak, sCont, sFor, iSeq, iRange1, iRange2, getS, setS, wipeS, endsD, toKey, asKeys, List.length_cons, List.length_nil, List.set_cons_zero, List.set_cons_succ, List.set_nil, Nat.zero_add, Nat.reduceAdd, Option.some.injEq, exists_and_left, exists_eq_left', exists_eq_left, id_eq, if_true, if_false, ite_true, ite_false, Bool.not_true, Bool.not_false, Bool.false_eq_true, not_false_eq_true, not_true_eq_false, reduceCtorEq, true_and, and_true, ne_eq, decide_eq_true_eq, isiN, isiCls, List.mem_cons, String.reduceEq, String.reduceBEq, or_true, true_or, or_false, false_or, Bool.or_true, Bool.true_or, Bool.false_or, Bool.or_false, Bool.and_false, Bool.false_and, Bool.true_and, Bool.and_true, beq_self_eq_true, h1, pen_left]
  by_cases hl : 0 < l
  · rw [if_pos hl]
    refine seq_i ?_
    simp only [eVar, eC, eOp, eNeg, eChain, eAnd, eOr, eNot, eIf, eTup, eLst, eDict0, eDict, eSl, oNo, oSome, eCall, eCB, eM, eLc, eIsi2, aNil, aCons, pNil, pCons, tTr, tBl, tAndD, tOrD, tNotD, tsYes, gAdd, gI, gI0, gMns, gMul, gMod, gFdiv, gPow, gLt, gLe, gGt, gGe, gIs, isNon, gEq_ii, gEq_ss, gEq_bb, gEq_nn, gEq_ni, gEq_in, gEq_ns, gEq_sn, gEq_si, gEq_is, gIx, gSl, gIn, gLen, gAbs, gMax2, gMin2, gInt1, gList, gTuple, gSum, gAll, gIsi, tyD, tyM, gAppend, gPop0, gPopAt, gClear, gReverse, gJoin, gUpper, sAsg, nName, nTup, nCons, nNil, sSub, sRet, sRetN, sExpr, sIf, sNext, sBreak, sCont, sFor, iSeq, iRange1, iRange2, getS, setS, wipeS, endsD, toKey, asKeys, List.length_cons, List.length_nil, List.set_cons_zero, List.set_cons_succ, List.set_nil, Nat.zero_add, Nat.reduceAdd, Option.some.injEq, exists_and_left, exists_eq_left', exists_eq_left, id_eq, if_true, if_false, ite_true, ite_false, Bool.not_true, Bool.not_false, Bool.false_eq_true, not_false_eq_true, not_true_eq_false, reduceCtorEq, true_and, and_true, ne_eq, decide_eq_true_eq, isiN, isiCls, List.mem_cons, String.reduceEq, String.reduceBEq, or_true, true_or, or_false, false_or, Bool.or_true, Bool.true_or, Bool.false_or, Bool.or_false, Bool.and_false, Bool.false_and, Bool.true_and, Bool.and_true, beq_self_eq_true, h1, pen_left]
    refine ⟨hn, seq_i ?_⟩
    simp only [eVar, eC, eOp, eNeg, eChain, eAnd, eOr, eNot, eIf, eTup, eLst, eDict0, eDict, eSl, oNo, oSome, eCall, eCB, eM, eLc, eIsi2, aNil, aCons, pNil, pCons, tTr, tBl, tAndD, tOrD, tNotD, tsYes, gAdd, gI, gI0, gMns, gMul, gMod, gFdiv, gPow, gLt, gLe, gGt, gGe, gIs, isNon, gEq_ii, gEq_ss, gEq_bb, gEq_nn, gEq_ni, gEq_in, gEq_ns, gEq_sn, gEq_si, gEq_is, gIx, gSl, gIn, gLen, gAbs, gMax2, gMin2, gInt1, gList, gTuple, gSum, gAll, gIsi, tyD, tyM, gAppend, gPop0, gPopAt, gClear, gReverse, gJoin, gUpper, sAsg, nName, nTup, nCons, nNil, sSub, sRet, sRetN, sExpr, sIf, sNext, sBreak, sCont, sFor, iSeq, iRange1, iRange2, getS, setS, wipeS, endsD, toKey, asKeys, List.length_cons, List.length_nil, List.set_cons_zero, List.set_cons_succ, List.set_nil, Nat.zero_add, Nat.reduceAdd, Option.some.injEq, exists_and_left, exists_eq_left', exists_eq_left, id_eq, if_true, if_false, ite_true, ite_false, Bool.not_true, Bool.not_false, Bool.false_eq_true, not_false_eq_true, not_true_eq_false, reduceCtorEq, true_and, and_true, ne_eq, decide_eq_true_eq, isiN, isiCls, List.mem_cons, String.reduceEq, String.reduceBEq, or_true, true_or, or_false, false_or, Bool.or_true, Bool.true_or, Bool.false_or, Bool.or_false, Bool.and_false, Bool.false_and, Bool.true_and, Bool.and_true, beq_self_eq_true, h1, pen_left, put_left, pen_len]
    refine ⟨⟨hn, hm⟩, three_line, ret_i ?_⟩
    simp only [eVar, eC, eOp, eNeg, eChain, eAnd, eOr, eNot, eIf, eTup, eLst, eDict0, eDict, eSl, oNo, oSome, eCall, eCB, eM, eLc, eIsi2, aNil, aCons, pNil, pCons, tTr, tBl, tAndD, tOrD, tNotD, tsYes, gAdd, gI, gI0, gMns, gMul, gMod, gFdiv, gPow, gLt, gLe, gGt, gGe, gIs, isNon, gEq_ii, gEq_ss, gEq_bb, gEq_nn, gEq_ni, gEq_in, gEq_ns, gEq_sn, gEq_si, gEq_is, gIx, gSl, gIn, gLen, gAbs, gMax2, gMin2, gInt1, gList, gTuple, gSum, gAll, gIsi, tyD, tyM, gAppend, gPop0, gPopAt, gClear, gReverse, gJoin, gUpper, sAsg, nName, nTup, nCons, nNil, sSub, sRet, sRetN, sExpr, sIf, sNext, sBreak, sCont, sFor, iSeq, iRange1, iRange2, getS, setS, wipeS, endsD, toKey, asKeys, List.length_cons, List.length_nil, List.set_cons_zero, List.set_cons_succ, List.set_nil, Nat.zero_add, Nat.reduceAdd, Option.some.injEq, exists_and_left, exists_eq_left', exists_eq_left, id_eq, if_true, if_false, ite_true, ite_false, Bool.not_true, Bool.not_false, Bool.false_eq_true, not_false_eq_true, not_true_eq_false, reduceCtorEq, true_and, and_true, ne_eq, decide_eq_true_eq, isiN, isiCls, List.mem_cons, String.reduceEq, String.reduceBEq, or_true, true_or, or_false, false_or, Bool.or_true, Bool.true_or, Bool.false_or, Bool.or_false, Bool.and_false, Bool.false_and, Bool.true_and, Bool.and_true, beq_self_eq_true]
    exact q _ _ (Int.emod_nonneg _ (by omega)) (Int.emod_lt_of_pos _ hn) ⟨c, ns, a, l / n, updS_same, by rw [updS_ne hcp]; exact h2, h3, h4, by omega, Int.ediv_nonneg h6 (by omega)⟩ .put
  · rw [if_neg hl]
    refine seq_i ?_
    simp only [eVar, eC, eOp, eNeg, eChain, eAnd, eOr, eNot, eIf, eTup, eLst, eDict0, eDict, eSl, oNo, oSome, eCall, eCB, eM, eLc, eIsi2, aNil, aCons, pNil, pCons, tTr, tBl, tAndD, tOrD, tNotD, tsYes, gAdd, gI, gI0, gMns, gMul, gMod, gFdiv, gPow, gLt, gLe, gGt, gGe, gIs, isNon, gEq_ii, gEq_ss, gEq_bb, gEq_nn, gEq_ni, gEq_in, gEq_ns, gEq_sn, gEq_si, gEq_is, gIx, gSl, gIn, gLen, gAbs, gMax2, gMin2, gInt1, gList, gTuple, gSum, gAll, gIsi, tyD, tyM, gAppend, gPop0, gPopAt, gClear, gReverse, gJoin, gUpper, sAsg, nName, nTup, nCons, nNil, sSub, sRet, sRetN, sExpr, sIf, sNext, sBreak, sCont, sFor, iSeq, iRange1, iRange2, getS, setS, wipeS, endsD, toKey, asKeys, List.length_cons, List.length_nil, List.set_cons_zero, List.set_cons_succ, List.set_nil, Nat.zero_add, Nat.reduceAdd, Option.some.injEq, exists_and_left, exists_eq_left', exists_eq_left, id_eq, if_true, if_false, ite_true, ite_false, Bool.not_true, Bool.not_false, Bool.false_eq_true, not_false_eq_true, not_true_eq_false, reduceCtorEq, true_and, and_true, ne_eq, decide_eq_true_eq, isiN, isiCls, List.mem_cons, String.reduceEq, String.reduceBEq, or_true, true_or, or_false, false_or, Bool.or_true, Bool.true_or, Bool.false_or, Bool.or_false, Bool.and_false, Bool.false_and, Bool.true_and, Bool.and_true, beq_self_eq_true, h1, pen_at]
    refine seq_i ?_
    simp only [eVar, eC, eOp, eNeg, eChain, eAnd, eOr, eNot, eIf, eTup, eLst, eDict0, eDict, eSl, oNo, oSome, eCall, eCB, eM, eLc, eIsi2, aNil, aCons, pNil, pCons, tTr, tBl, tAndD, tOrD, tNotD, tsYes, gAdd, gI, gI0, gMns, gMul, gMod, gFdiv, gPow, gLt, gLe, gGt, gGe, gIs, isNon, gEq_ii, gEq_ss, gEq_bb, gEq_nn, gEq_ni, gEq_in, gEq_ns, gEq_sn, gEq_si, gEq_is, gIx, gSl, gIn, gLen, gAbs, gMax2, gMin2, gInt1, gList, gTuple, gSum, gAll, gIsi, tyD, tyM, gAppend, gPop0, gPopAt, gClear, gReverse, gJoin, gUpper, sAsg, nName, nTup, nCons, nNil, sSub, sRet, sRetN, sExpr, sIf, sNext, sBreak, sCont, sFor, iSeq, iRange1, iRange2, getS, setS, wipeS, endsD, toKey, asKeys, List.length_cons, List.length_nil, List.set_cons_zero, List.set_cons_succ, List.set_nil, Nat.zero_add, Nat.reduceAdd, Option.some.injEq, exists_and_left, exists_eq_left', exists_eq_left, id_eq, if_true, if_false, ite_true, ite_false, Bool.not_true, Bool.not_false, Bool.false_eq_true, not_false_eq_true, not_true_eq_false, reduceCtorEq, true_and, and_true, ne_eq, decide_eq_true_eq, isiN, isiCls, List.mem_cons, String.reduceEq, String.reduceBEq, or_true, true_or, or_false, false_or, Bool.or_true, Bool.true_or, Bool.false_or, Bool.or_false, Bool.and_false, Bool.false_and, Bool.true_and, Bool.and_true, beq_self_eq_true, h1, put_at, pen_len]
    refine ⟨three_line, seq_i ?_⟩
    simp only [eVar, eC, eOp, eNeg, eChain, eAnd, eOr, eNot, eIf, eTup, eLst, eDict0, eDict, eSl, oNo, oSome, eCall, eCB, eM, eLc, eIsi2, aNil, aCons, pNil, pCons, tTr, tBl, tAndD, tOrD, tNotD, tsYes, gAdd, gI, gI0, gMns, gMul, gMod, gFdiv, gPow, gLt, gLe, gGt, gGe, gIs, isNon, gEq_ii, gEq_ss, gEq_bb, gEq_nn, gEq_ni, gEq_in, gEq_ns, gEq_sn, gEq_si, gEq_is, gIx, gSl, gIn, gLen, gAbs, gMax2, gMin2, gInt1, gList, gTuple, gSum, gAll, gIsi, tyD, tyM, gAppend, gPop0, gPopAt, gClear, gReverse, gJoin, gUpper, sAsg, nName, nTup, nCons, nNil, sSub, sRet, sRetN, sExpr, sIf, sNext, sBreak, sCont, sFor, iSeq, iRange1, iRange2, getS, setS, wipeS, endsD, toKey, asKeys, List.length_cons, List.length_nil, List.set_cons_zero, List.set_cons_succ, List.set_nil, Nat.zero_add, Nat.reduceAdd, Option.some.injEq, exists_and_left, exists_eq_left', exists_eq_left, id_eq, if_true, if_false, ite_true, ite_false, Bool.not_true, Bool.not_false, Bool.false_eq_true, not_false_eq_true, not_true_eq_false, reduceCtorEq, true_and, and_true, ne_eq, decide_eq_true_eq, isiN, isiCls, List.mem_cons, String.reduceEq, String.reduceBEq, or_true, true_or, or_false, false_or, Bool.or_true, Bool.true_or, Bool.false_or, Bool.or_false, Bool.and_false, Bool.false_and, Bool.true_and, Bool.and_true, beq_self_eq_true, updS_same, pen_cells]
    have hS : Kp p S (updS S p (.dk (penKv c (a + 1) l))) := .put
    have hc : updS S p (.dk (penKv c (a + 1) l)) c = some (.lst (ns.map .int)) := by rw [updS_ne hcp]; exact h2
    have hpp : updS S p (.dk (penKv c (a + 1) l)) p = some (.dk (penKv c (a + 1) l)) := updS_same
    generalize updS S p (.dk (penKv c (a + 1) l)) = S1 at hS hc hpp
    refine seq_i ?_
    simp only [eVar, eC, eOp, eNeg, eChain, eAnd, eOr, eNot, eIf, eTup, eLst, eDict0, eDict, eSl, oNo, oSome, eCall, eCB, eM, eLc, eIsi2, aNil, aCons, pNil, pCons, tTr, tBl, tAndD, tOrD, tNotD, tsYes, gAdd, gI, gI0, gMns, gMul, gMod, gFdiv, gPow, gLt, gLe, gGt, gGe, gIs, isNon, gEq_ii, gEq_ss, gEq_bb, gEq_nn, gEq_ni, gEq_in, gEq_ns, gEq_sn, gEq_si, gEq_is, gIx, gSl, gIn, gLen, gAbs, gMax2, gMin2, gInt1, gList, gTuple, gSum, gAll, gIsi, tyD, tyM, gAppend, gPop0, gPopAt, gClear, gReverse, gJoin, gUpper, sAsg, nName, nTup, nCons, nNil, sSub, sRet, sRetN, sExpr, sIf, sNext, sBreak, sCont, sFor, iSeq, iRange1, iRange2, getS, setS, wipeS, endsD, toKey, asKeys, List.length_cons, List.length_nil, List.set_cons_zero, List.set_cons_succ, List.set_nil, Nat.zero_add, Nat.reduceAdd, Option.some.injEq, exists_and_left, exists_eq_left', exists_eq_left, id_eq, if_true, if_false, ite_true, ite_false, Bool.not_true, Bool.not_false, Bool.false_eq_true, not_false_eq_true, not_true_eq_false, reduceCtorEq, true_and, and_true, ne_eq, decide_eq_true_eq, isiN, isiCls, List.mem_cons, String.reduceEq, String.reduceBEq, or_true, true_or, or_false, false_or, Bool.or_true, Bool.true_or, Bool.false_or, Bool.or_false, Bool.and_false, Bool.false_and, Bool.true_and, Bool.and_true, beq_self_eq_true]
    refine ⟨mulS (by omega) (by omega) (by omega) (by omega), mulS (by omega) (by omega) (by omega) (by omega), mulS (by omega) (by omega) (by omega) (by omega), ?_⟩
    generalize 70207 * a * a + 131 * a + 29 = z0
    refine seq_i ?_
    simp only [eVar, eC, eOp, eNeg, eChain, eAnd, eOr, eNot, eIf, eTup, eLst, eDict0, eDict, eSl, oNo, oSome, eCall, eCB, eM, eLc, eIsi2, aNil, aCons, pNil, pCons, tTr, tBl, tAndD, tOrD, tNotD, tsYes, gAdd, gI, gI0, gMns, gMul, gMod, gFdiv, gPow, gLt, gLe, gGt, gGe, gIs, isNon, gEq_ii, gEq_ss, gEq_bb, gEq_nn, gEq_ni, gEq_in, gEq_ns, gEq_sn, gEq_si, gEq_is, gIx, gSl, gIn, gLen, gAbs, gMax2, gMin2, gInt1, gList, gTuple, gSum, gAll, gIsi, tyD, tyM, gAppend, gPop0, gPopAt, gClear, gReverse, gJoin, gUpper, sAsg, nName, nTup, nCons, nNil, sSub, sRet, sRetN, sExpr, sIf, sNext, sBreak, sCont, sFor, iSeq, iRange1, iRange2, getS, setS, wipeS, endsD, toKey, asKeys, List.length_cons, List.length_nil, List.set_cons_zero, List.set_cons_succ, List.set_nil, Nat.zero_add, Nat.reduceAdd, Option.some.injEq, exists_and_left, exists_eq_left', exists_eq_left, id_eq, if_true, if_false, ite_true, ite_false, Bool.not_true, Bool.not_false, Bool.false_eq_true, not_false_eq_true, not_true_eq_false, reduceCtorEq, true_and, and_true, ne_eq, decide_eq_true_eq, isiN, isiCls, List.mem_cons, String.reduceEq, String.reduceBEq, or_true, true_or, or_false, false_or, Bool.or_true, Bool.true_or, Bool.false_or, Bool.or_false, Bool.and_false, Bool.false_and, Bool.true_and, Bool.and_true, beq_self_eq_true]
    refine ⟨nil_line, fun p1 hp1 => ?_⟩
    have hcp1 : c ≠ p1 := neS hc hp1
    have hpp1 : p ≠ p1 := neS hpp hp1
    refine eq_nil (by rw [updS_ne hcp1]; exact hc) updS_same (pds_ints ns) (depth_ints ns) ?_
    have hc2 : updS S1 p1 (.lst []) c = some (.lst (ns.map .int)) := by rw [updS_ne hcp1]; exact hc
    have hpp2 : updS S1 p1 (.lst []) p = some (.dk (penKv c (a + 1) l)) := by rw [updS_ne hpp1]; exact hpp
    have hS2 : Kp p S (updS S1 p1 (.lst [])) := hS.trans (.new hp1)
    generalize updS S1 p1 (.lst []) = S2 at hc2 hpp2 hS2
    simp only [eVar, eC, eOp, eNeg, eChain, eAnd, eOr, eNot, eIf, eTup, eLst, eDict0, eDict, eSl, oNo, oSome, eCall, eCB, eM, eLc, eIsi2, aNil, aCons, pNil, pCons, tTr, tBl, tAndD, tOrD, tNotD, tsYes, gAdd, gI, gI0, gMns, gMul, gMod, gFdiv, gPow, gLt, gLe, gGt, gGe, gIs, isNon, gEq_ii, gEq_ss, gEq_bb, gEq_nn, gEq_ni, gEq_in, gEq_ns, gEq_sn, gEq_si, gEq_is, gIx, gSl, gIn, gLen, gAbs, gMax2, gMin2, gInt1, gList, gTuple, gSum, gAll, gIsi, tyD, tyM, gAppend, gPop0, gPopAt, gClear, gReverse, gJoin, gUpper, sAsg, nName, nTup, nCons, nNil, sSub, sRet, sRetN, sExpr, sIf, sNext, sBreak, sCont, sFor, iSeq, iRange1, iRange2, getS, setS, wipeS, endsD, toKey, asKeys, List.length_cons, List.length_nil, List.set_cons_zero, List.set_cons_succ, List.set_nil, Nat.zero_add, Nat.reduceAdd, Option.some.injEq, exists_and_left, exists_eq_left', exists_eq_left, id_eq, if_true, if_false, ite_true, ite_false, Bool.not_true, Bool.not_false, Bool.false_eq_true, not_false_eq_true, not_true_eq_false, reduceCtorEq, true_and, and_true, ne_eq, decide_eq_true_eq, isiN, isiCls, List.mem_cons, String.reduceEq, String.reduceBEq, or_true, true_or, or_false, false_or, Bool.or_true, Bool.true_or, Bool.false_or, Bool.or_false, Bool.and_false, Bool.false_and, Bool.true_and, Bool.and_true, beq_self_eq_true, List.isEmpty_map, hc2]
    -- the cell
    have rest : ∀ z, t_wtake_11 ⟨fun x S => Q .non S, Q, fun _ _ => False, fun _ _ => False⟩ [some (.ref p), some (.int n), some (.int a), some (.ref c), some (.int z), none, none, none] S2 := by
      intro z
      have fin : t_wtake_14 ⟨fun x S => Q .non S, Q, fun _ _ => False, fun _ _ => False⟩ [some (.ref p), some (.int n), some (.int a), some (.ref c), some (.int z), none, none, none] S2 := by
        refine seq_i ?_
        simp only [eVar, eC, eOp, eNeg, eChain, eAnd, eOr, eNot, eIf, eTup, eLst, eDict0, eDict, eSl, oNo, oSome, eCall, eCB, eM, eLc, eIsi2, aNil, aCons, pNil, pCons, tTr, tBl, tAndD, tOrD, tNotD, tsYes, gAdd, gI, gI0, gMns, gMul, gMod, gFdiv, gPow, gLt, gLe, gGt, gGe, gIs, isNon, gEq_ii, gEq_ss, gEq_bb, gEq_nn, gEq_ni, gEq_in, gEq_ns, gEq_sn, gEq_si, gEq_is, gIx, gSl, gIn, gLen, gAbs, gMax2, gMin2, gInt1, gList, gTuple, gSum, gAll, gIsi, tyD, tyM, gAppend, gPop0, gPopAt, gClear, gReverse, gJoin, gUpper, sAsg, nName, nTup, nCons, nNil, sSub, sRet, sRetN, sExpr, sIf, sNext, sBreak, sCont, sFor, iSeq, iRange1, iRange2, getS, setS, wipeS, endsD, toKey, asKeys, List.length_cons, List.length_nil, List.set_cons_zero, List.set_cons_succ, List.set_nil, Nat.zero_add, Nat.reduceAdd, Option.some.injEq, exists_and_left, exists_eq_left', exists_eq_left, id_eq, if_true, if_false, ite_true, ite_false, Bool.not_true, Bool.not_false, Bool.false_eq_true, not_false_eq_true, not_true_eq_false, reduceCtorEq, true_and, and_true, ne_eq, decide_eq_true_eq, isiN, isiCls, List.mem_cons, String.reduceEq, String.reduceBEq, or_true, true_or, or_false, false_or, Bool.or_true, Bool.true_or, Bool.false_or, Bool.or_false, Bool.and_false, Bool.false_and, Bool.true_and, Bool.and_true, beq_self_eq_true]
        have z1 : 0 ≤ z % 2147483587 := Int.emod_nonneg _ (by decide)
        have z2 : z % 2147483587 < 2147483587 := Int.emod_lt_of_pos _ (by decide)
        refine ⟨by decide, mulS (by omega) (by omega) (by omega) (by omega), powS (by decide) (by decide) (by omega) (by omega), by decide, seq_i ?_⟩
        have y1 : 0 ≤ (z % 2147483587 + 45007 * a + 11) ^ Int.toNat 3 % 2147483629 := Int.emod_nonneg _ (by decide)
        have y2 : (z % 2147483587 + 45007 * a + 11) ^ Int.toNat 3 % 2147483629 < 2147483629 := Int.emod_lt_of_pos _ (by decide)
        generalize (z % 2147483587 + 45007 * a + 11) ^ Int.toNat 3 % 2147483629 = one at y1 y2
        simp only [eVar, eC, eOp, eNeg, eChain, eAnd, eOr, eNot, eIf, eTup, eLst, eDict0, eDict, eSl, oNo, oSome, eCall, eCB, eM, eLc, eIsi2, aNil, aCons, pNil, pCons, tTr, tBl, tAndD, tOrD, tNotD, tsYes, gAdd, gI, gI0, gMns, gMul, gMod, gFdiv, gPow, gLt, gLe, gGt, gGe, gIs, isNon, gEq_ii, gEq_ss, gEq_bb, gEq_nn, gEq_ni, gEq_in, gEq_ns, gEq_sn, gEq_si, gEq_is, gIx, gSl, gIn, gLen, gAbs, gMax2, gMin2, gInt1, gList, gTuple, gSum, gAll, gIsi, tyD, tyM, gAppend, gPop0, gPopAt, gClear, gReverse, gJoin, gUpper, sAsg, nName, nTup, nCons, nNil, sSub, sRet, sRetN, sExpr, sIf, sNext, sBreak, sCont, sFor, iSeq, iRange1, iRange2, getS, setS, wipeS, endsD, toKey, asKeys, List.length_cons, List.length_nil, List.set_cons_zero, List.set_cons_succ, List.set_nil, Nat.zero_add, Nat.reduceAdd, Option.some.injEq, exists_and_left, exists_eq_left', exists_eq_left, id_eq, if_true, if_false, ite_true, ite_false, Bool.not_true, Bool.not_false, Bool.false_eq_true, not_false_eq_true, not_true_eq_false, reduceCtorEq, true_and, and_true, ne_eq, decide_eq_true_eq, isiN, isiCls, List.mem_cons, String.reduceEq, String.reduceBEq, or_true, true_or, or_false, false_or, Bool.or_true, Bool.true_or, Bool.false_or, Bool.or_false, Bool.and_false, Bool.false_and, Bool.true_and, Bool.and_true, beq_self_eq_true]
        have x1 : 1213 * a * a ≤ 1213 * 100000000 * 100000000 := Int.mul_le_mul (by omega) (by omega) h4 (by omega)
        have x0 : 0 ≤ 1213 * a * a := Int.mul_nonneg (by omega) h4
        refine ⟨mulS (by omega) (by omega) (by omega) (by omega), mulS (by omega) (by omega) (by omega) (by omega), powS (by decide) (by decide) (by omega) (by omega), by decide, ret_i ?_⟩
        simp only [eVar, eC, eOp, eNeg, eChain, eAnd, eOr, eNot, eIf, eTup, eLst, eDict0, eDict, eSl, oNo, oSome, eCall, eCB, eM, eLc, eIsi2, aNil, aCons, pNil, pCons, tTr, tBl, tAndD, tOrD, tNotD, tsYes, gAdd, gI, gI0, gMns, gMul, gMod, gFdiv, gPow, gLt, gLe, gGt, gGe, gIs, isNon, gEq_ii, gEq_ss, gEq_bb, gEq_nn, gEq_ni, gEq_in, gEq_ns, gEq_sn, gEq_si, gEq_is, gIx, gSl, gIn, gLen, gAbs, gMax2, gMin2, gInt1, gList, gTuple, gSum, gAll, gIsi, tyD, tyM, gAppend, gPop0, gPopAt, gClear, gReverse, gJoin, gUpper, sAsg, nName, nTup, nCons, nNil, sSub, sRet, sRetN, sExpr, sIf, sNext, sBreak, sCont, sFor, iSeq, iRange1, iRange2, getS, setS, wipeS, endsD, toKey, asKeys, List.length_cons, List.length_nil, List.set_cons_zero, List.set_cons_succ, List.set_nil, Nat.zero_add, Nat.reduceAdd, Option.some.injEq, exists_and_left, exists_eq_left', exists_eq_left, id_eq, if_true, if_false, ite_true, ite_false, Bool.not_true, Bool.not_false, Bool.false_eq_true, not_false_eq_true, not_true_eq_false, reduceCtorEq, true_and, and_true, ne_eq, decide_eq_true_eq, isiN, isiCls, List.mem_cons, String.reduceEq, String.reduceBEq, or_true, true_or, or_false, false_or, Bool.or_true, Bool.true_or, Bool.false_or, Bool.or_false, Bool.and_false, Bool.false_and, Bool.true_and, Bool.and_true, beq_self_eq_true]
        have w1 : 0 ≤ (one + 1213 * a * a + 3) ^ Int.toNat 5 % 2147483543 := Int.emod_nonneg _ (by decide)
        have w2 : (one + 1213 * a * a + 3) ^ Int.toNat 5 % 2147483543 < 2147483543 := Int.emod_lt_of_pos _ (by decide)
        generalize (one + 1213 * a * a + 3) ^ Int.toNat 5 % 2147483543 = two at w1 w2
        have v1 : 0 ≤ one % 64007 := Int.emod_nonneg _ (by decide)
        have v2 : one % 64007 < 64007 := Int.emod_lt_of_pos _ (by decide)
        refine ⟨by decide, mulS (by omega) (by omega) (by omega) (by omega), by decide, fdivS (by decide) (by decide), hn, ?_⟩
        exact q _ _ (Int.emod_nonneg _ (by omega)) (Int.emod_lt_of_pos _ hn) ⟨c, ns, a + 1, l, hpp2, hc2, h3, by omega, by omega, h6⟩ hS2
      refine seq_i ?_
      simp only [eVar, eC, eOp, eNeg, eChain, eAnd, eOr, eNot, eIf, eTup, eLst, eDict0, eDict, eSl, oNo, oSome, eCall, eCB, eM, eLc, eIsi2, aNil, aCons, pNil, pCons, tTr, tBl, tAndD, tOrD, tNotD, tsYes, gAdd, gI, gI0, gMns, gMul, gMod, gFdiv, gPow, gLt, gLe, gGt, gGe, gIs, isNon, gEq_ii, gEq_ss, gEq_bb, gEq_nn, gEq_ni, gEq_in, gEq_ns, gEq_sn, gEq_si, gEq_is, gIx, gSl, gIn, gLen, gAbs, gMax2, gMin2, gInt1, gList, gTuple, gSum, gAll, gIsi, tyD, tyM, gAppend, gPop0, gPopAt, gClear, gReverse, gJoin, gUpper, sAsg, nName, nTup, nCons, nNil, sSub, sRet, sRetN, sExpr, sIf, sNext, sBreak, sCont, sFor, iSeq, iRange1, iRange2, getS, setS, wipeS, endsD, toKey, asKeys, List.length_cons, List.length_nil, List.set_cons_zero, List.set_cons_succ, List.set_nil, Nat.zero_add, Nat.reduceAdd, Option.some.injEq, exists_and_left, exists_eq_left', exists_eq_left, id_eq, if_true, if_false, ite_true, ite_false, Bool.not_true, Bool.not_false, Bool.false_eq_true, not_false_eq_true, not_true_eq_false, reduceCtorEq, true_and, and_true, ne_eq, decide_eq_true_eq, isiN, isiCls, List.mem_cons, String.reduceEq, String.reduceBEq, or_true, true_or, or_false, false_or, Bool.or_true, Bool.true_or, Bool.false_or, Bool.or_false, Bool.and_false, Bool.false_and, Bool.true_and, Bool.and_true, beq_self_eq_true, hc2, List.length_map]
      by_cases ha : a < ns.length
      · rw [if_pos ha]
        refine ⟨powS (by decide) (by decide) (by decide) (by decide), ?_⟩
        by_cases hz : (10 : Int) ^ Int.toNat 18 ≤ if z < 0 then -z else z
        · rw [if_pos hz]
          refine seq_i ?_
          simp only [eVar, eC, eOp, eNeg, eChain, eAnd, eOr, eNot, eIf, eTup, eLst, eDict0, eDict, eSl, oNo, oSome, eCall, eCB, eM, eLc, eIsi2, aNil, aCons, pNil, pCons, tTr, tBl, tAndD, tOrD, tNotD, tsYes, gAdd, gI, gI0, gMns, gMul, gMod, gFdiv, gPow, gLt, gLe, gGt, gGe, gIs, isNon, gEq_ii, gEq_ss, gEq_bb, gEq_nn, gEq_ni, gEq_in, gEq_ns, gEq_sn, gEq_si, gEq_is, gIx, gSl, gIn, gLen, gAbs, gMax2, gMin2, gInt1, gList, gTuple, gSum, gAll, gIsi, tyD, tyM, gAppend, gPop0, gPopAt, gClear, gReverse, gJoin, gUpper, sAsg, nName, nTup, nCons, nNil, sSub, sRet, sRetN, sExpr, sIf, sNext, sBreak, sCont, sFor, iSeq, iRange1, iRange2, getS, setS, wipeS, endsD, toKey, asKeys, List.length_cons, List.length_nil, List.set_cons_zero, List.set_cons_succ, List.set_nil, Nat.zero_add, Nat.reduceAdd, Option.some.injEq, exists_and_left, exists_eq_left', exists_eq_left, id_eq, if_true, if_false, ite_true, ite_false, Bool.not_true, Bool.not_false, Bool.false_eq_true, not_false_eq_true, not_true_eq_false, reduceCtorEq, true_and, and_true, ne_eq, decide_eq_true_eq, isiN, isiCls, List.mem_cons, String.reduceEq, String.reduceBEq, or_true, true_or, or_false, false_or, Bool.or_true, Bool.true_or, Bool.false_or, Bool.or_false, Bool.and_false, Bool.false_and, Bool.true_and, Bool.and_true, beq_self_eq_true, hpp2, put_left, pen_len]
          refine ⟨⟨hn, hm⟩, three_line, hn, ?_⟩
          refine q _ _ (Int.emod_nonneg _ (by omega)) (Int.emod_lt_of_pos _ hn) ⟨c, ns, a + 1, _, updS_same, by rw [updS_ne hcp]; exact hc2, h3, by omega, by omega, Int.ediv_nonneg (by split <;> omega) (by omega)⟩ (hS2.trans .put)
        · rw [if_neg hz]
          exact fin
      · rw [if_neg ha]
        exact fin
    by_cases he : ns.isEmpty
    · simp only [eVar, eC, eOp, eNeg, eChain, eAnd, eOr, eNot, eIf, eTup, eLst, eDict0, eDict, eSl, oNo, oSome, eCall, eCB, eM, eLc, eIsi2, aNil, aCons, pNil, pCons, tTr, tBl, tAndD, tOrD, tNotD, tsYes, gAdd, gI, gI0, gMns, gMul, gMod, gFdiv, gPow, gLt, gLe, gGt, gGe, gIs, isNon, gEq_ii, gEq_ss, gEq_bb, gEq_nn, gEq_ni, gEq_in, gEq_ns, gEq_sn, gEq_si, gEq_is, gIx, gSl, gIn, gLen, gAbs, gMax2, gMin2, gInt1, gList, gTuple, gSum, gAll, gIsi, tyD, tyM, gAppend, gPop0, gPopAt, gClear, gReverse, gJoin, gUpper, sAsg, nName, nTup, nCons, nNil, sSub, sRet, sRetN, sExpr, sIf, sNext, sBreak, sCont, sFor, iSeq, iRange1, iRange2, getS, setS, wipeS, endsD, toKey, asKeys, List.length_cons, List.length_nil, List.set_cons_zero, List.set_cons_succ, List.set_nil, Nat.zero_add, Nat.reduceAdd, Option.some.injEq, exists_and_left, exists_eq_left', exists_eq_left, id_eq, if_true, if_false, ite_true, ite_false, Bool.not_true, Bool.not_false, Bool.false_eq_true, not_false_eq_true, not_true_eq_false, reduceCtorEq, true_and, and_true, ne_eq, decide_eq_true_eq, isiN, isiCls, List.mem_cons, String.reduceEq, String.reduceBEq, or_true, true_or, or_false, false_or, Bool.or_true, Bool.true_or, Bool.false_or, Bool.or_false, Bool.and_false, Bool.false_and, Bool.true_and, Bool.and_true, beq_self_eq_true, he]
      exact rest z0
    · simp only [eVar, eC, eOp, eNeg, eChain, eAnd, eOr, eNot, eIf, eTup, eLst, eDict0, eDict, eSl, oNo, oSome, eCall, eCB, eM, eLc, eIsi2, aNil, aCons, pNil, pCons, tTr, tBl, tAndD, tOrD, tNotD, tsYes, gAdd, gI, gI0, gMns, gMul, gMod, gFdiv, gPow, gLt, gLe, gGt, gGe, gIs, isNon, gEq_ii, gEq_ss, gEq_bb, gEq_nn, gEq_ni, gEq_in, gEq_ns, gEq_sn, gEq_si, gEq_is, gIx, gSl, gIn, gLen, gAbs, gMax2, gMin2, gInt1, gList, gTuple, gSum, gAll, gIsi, tyD, tyM, gAppend, gPop0, gPopAt, gClear, gReverse, gJoin, gUpper, sAsg, nName, nTup, nCons, nNil, sSub, sRet, sRetN, sExpr, sIf, sNext, sBreak, sCont, sFor, iSeq, iRange1, iRange2, getS, setS, wipeS, endsD, toKey, asKeys, List.length_cons, List.length_nil, List.set_cons_zero, List.set_cons_succ, List.set_nil, Nat.zero_add, Nat.reduceAdd, Option.some.injEq, exists_and_left, exists_eq_left', exists_eq_left, id_eq, if_true, if_false, ite_true, ite_false, Bool.not_true, Bool.not_false, Bool.false_eq_true, not_false_eq_true, not_true_eq_false, reduceCtorEq, true_and, and_true, ne_eq, decide_eq_true_eq, isiN, isiCls, List.mem_cons, String.reduceEq, String.reduceBEq, or_true, true_or, or_false, false_or, Bool.or_true, Bool.true_or, Bool.false_or, Bool.or_false, Bool.and_false, Bool.false_and, Bool.true_and, Bool.and_true, beq_self_eq_true, he]
      have hpos : 0 < ns.length := by cases ns with
        | nil => exact (he rfl).elim
        | cons x r => simp
      refine ⟨by rw [List.length_map]; omega, ?_⟩
      rw [List.length_map]
      obtain ⟨z, hz⟩ := get_ints (ns := ns) (i := a % (ns.length : Int)) (Int.emod_nonneg _ (by omega)) (Int.emod_lt_of_pos _ (by omega))
      exact ⟨_, hz, rest z⟩
end LW
namespace LW
open PySem L2 DL
/-- the store has grown -/
def Gr (S S' : Sto) : Prop := ∀ a o, S a = some o → S' a = some o
theorem Gr.refl {S : Sto} : Gr S S := fun _ _ h => h
theorem Gr.trans {S S1 S2 : Sto} (x : Gr S S1) (y : Gr S1 S2) : Gr S S2 := fun a o h => y a o (x a o h)
theorem Gr.new {q : Addr} {S : Sto} {o : O} (h : S q = none) : Gr S (updS S q o) := fun a u e => by rw [updS_ne (neS e h)]; exact e
theorem Gr.kp {p : Addr} {S S' : Sto} (g : Gr S S') : Kp p S S' := fun a o _ h => g a o h
/-- a sign of the alphabet -/
def inA (c : Nat) : Bool := inStr ⟨#[c]⟩ "abcdefghijklmnopqrstuvwxyz"
def nm (z : Str) : Bool := decide (1 ≤ z.length) && decide (z.length ≤ 8) && z.cps.toList.all inA
theorem same_spec {b : Bool} {S : Sto} {Q : DK} (q : Q (.bl true) S) : m_wsame [.bl b, .bl b] S Q := by
  rw [e_wsame]
  refine seq_i ?_
  cases b
  · simp only [eVar, eC, eOp, eNeg, eChain, eAnd, eOr, eNot, eIf, eTup, eLst, eDict0, eDict, eSl, oNo, oSome, eCall, eCB, eM, eLc, eIsi2, aNil, aCons, pNil, pCons, tTr, tBl, tAndD, tOrD, tNotD, tsYes, gAdd, gI, gI0, gMns, gMul, gMod, gFdiv, gPow, gLt, gLe, gGt, gGe, gIs, isNon, gEq_ii, gEq_ss, gEq_bb, gEq_nn, gEq_ni, gEq_in, gEq_ns, gEq_sn, gEq_si, gEq_is, gIx, gSl, gIn, gLen, gAbs, gMax2, gMin2, gInt1, gList, gTuple, gSum, gAll, gIsi, tyD, tyM, gAppend, gPop0, gPopAt, gClear, gReverse, gJoin, gUpper, sAsg, nName, nTup, nCons, nNil, sSub, sRet, sRetN, sExpr, sIf, sNext, sBreak, sCont, sFor, iSeq, iRange1, iRange2, getS, setS, wipeS, endsD, toKey, asKeys, List.length_cons, List.length_nil, List.set_cons_zero, List.set_cons_succ, List.set_nil, Nat.zero_add, Nat.reduceAdd, Option.some.injEq, exists_and_left, exists_eq_left', exists_eq_left, id_eq, if_true, if_false, ite_true, ite_false, Bool.not_true, Bool.not_false, Bool.false_eq_true, not_false_eq_true, not_true_eq_false, reduceCtorEq, true_and, and_true, ne_eq, decide_eq_true_eq, isiN, isiCls, List.mem_cons, String.reduceEq, String.reduceBEq, or_true, true_or, or_false, false_or, Bool.or_true, Bool.true_or, Bool.false_or, Bool.or_false, Bool.and_false, Bool.false_and, Bool.true_and, Bool.and_true, beq_self_eq_true]
    refine ret_i ?_
    simp only [eVar, eC, eOp, eNeg, eChain, eAnd, eOr, eNot, eIf, eTup, eLst, eDict0, eDict, eSl, oNo, oSome, eCall, eCB, eM, eLc, eIsi2, aNil, aCons, pNil, pCons, tTr, tBl, tAndD, tOrD, tNotD, tsYes, gAdd, gI, gI0, gMns, gMul, gMod, gFdiv, gPow, gLt, gLe, gGt, gGe, gIs, isNon, gEq_ii, gEq_ss, gEq_bb, gEq_nn, gEq_ni, gEq_in, gEq_ns, gEq_sn, gEq_si, gEq_is, gIx, gSl, gIn, gLen, gAbs, gMax2, gMin2, gInt1, gList, gTuple, gSum, gAll, gIsi, tyD, tyM, gAppend, gPop0, gPopAt, gClear, gReverse, gJoin, gUpper, sAsg, nName, nTup, nCons, nNil, sSub, sRet, sRetN, sExpr, sIf, sNext, sBreak, sCont, sFor, iSeq, iRange1, iRange2, getS, setS, wipeS, endsD, toKey, asKeys, List.length_cons, List.length_nil, List.set_cons_zero, List.set_cons_succ, List.set_nil, Nat.zero_add, Nat.reduceAdd, Option.some.injEq, exists_and_left, exists_eq_left', exists_eq_left, id_eq, if_true, if_false, ite_true, ite_false, Bool.not_true, Bool.not_false, Bool.false_eq_true, not_false_eq_true, not_true_eq_false, reduceCtorEq, true_and, and_true, ne_eq, decide_eq_true_eq, isiN, isiCls, List.mem_cons, String.reduceEq, String.reduceBEq, or_true, true_or, or_false, false_or, Bool.or_true, Bool.true_or, Bool.false_or, Bool.or_false, Bool.and_false, Bool.false_and, Bool.true_and, Bool.and_true, beq_self_eq_true]
    exact q
  · simp only [eVar, eC, eOp, eNeg, eChain, eAnd, eOr, eNot, eIf, eTup, eLst, eDict0, eDict, eSl, oNo, oSome, eCall, eCB, eM, eLc, eIsi2, aNil, aCons, pNil, pCons, tTr, tBl, tAndD, tOrD, tNotD, tsYes, gAdd, gI, gI0, gMns, gMul, gMod, gFdiv, gPow, gLt, gLe, gGt, gGe, gIs, isNon, gEq_ii, gEq_ss, gEq_bb, gEq_nn, gEq_ni, gEq_in, gEq_ns, gEq_sn, gEq_si, gEq_is, gIx, gSl, gIn, gLen, gAbs, gMax2, gMin2, gInt1, gList, gTuple, gSum, gAll, gIsi, tyD, tyM, gAppend, gPop0, gPopAt, gClear, gReverse, gJoin, gUpper, sAsg, nName, nTup, nCons, nNil, sSub, sRet, sRetN, sExpr, sIf, sNext, sBreak, sCont, sFor, iSeq, iRange1, iRange2, getS, setS, wipeS, endsD, toKey, asKeys, List.length_cons, List.length_nil, List.set_cons_zero, List.set_cons_succ, List.set_nil, Nat.zero_add, Nat.reduceAdd, Option.some.injEq, exists_and_left, exists_eq_left', exists_eq_left, id_eq, if_true, if_false, ite_true, ite_false, Bool.not_true, Bool.not_false, Bool.false_eq_true, not_false_eq_true, not_true_eq_false, reduceCtorEq, true_and, and_true, ne_eq, decide_eq_true_eq, isiN, isiCls, List.mem_cons, String.reduceEq, String.reduceBEq, or_true, true_or, or_false, false_or, Bool.or_true, Bool.true_or, Bool.false_or, Bool.or_false, Bool.and_false, Bool.false_and, Bool.true_and, Bool.and_true, beq_self_eq_true]
    exact q
theorem isn_spec {z : Str} {S : Sto} {Q : DK} (hz : z.length ≤ sizeLine) (q : ∀ S', Gr S S' → Q (.bl (nm z)) S') : m_is_name [.str z] S Q := by
  rw [e_is_name]
  refine seq_i ?_
  simp only [eVar, eC, eOp, eNeg, eChain, eAnd, eOr, eNot, eIf, eTup, eLst, eDict0, eDict, eSl, oNo, oSome, eCall, eCB, eM, eLc, eIsi2, aNil, aCons, pNil, pCons, tTr, tBl, tAndD, tOrD, tNotD, tsYes, gAdd, gI, gI0, gMns, gMul, gMod, gFdiv, gPow, gLt, gLe, gGt, gGe, gIs, isNon, gEq_ii, gEq_ss, gEq_bb, gEq_nn, gEq_ni, gEq_in, gEq_ns, gEq_sn, gEq_si, gEq_is, gIx, gSl, gIn, gLen, gAbs, gMax2, gMin2, gInt1, gList, gTuple, gSum, gAll, gIsi, tyD, tyM, gAppend, gPop0, gPopAt, gClear, gReverse, gJoin, gUpper, sAsg, nName, nTup, nCons, nNil, sSub, sRet, sRetN, sExpr, sIf, sNext, sBreak, sCont, sFor, iSeq, iRange1, iRange2, getS, setS, wipeS, endsD, toKey, asKeys, List.length_cons, List.length_nil, List.set_cons_zero, List.set_cons_succ, List.set_nil, Nat.zero_add, Nat.reduceAdd, Option.some.injEq, exists_and_left, exists_eq_left', exists_eq_left, id_eq, if_true, if_false, ite_true, ite_false, Bool.not_true, Bool.not_false, Bool.false_eq_true, not_false_eq_true, not_true_eq_false, reduceCtorEq, true_and, and_true, ne_eq, decide_eq_true_eq, isiN, isiCls, List.mem_cons, String.reduceEq, String.reduceBEq, or_true, true_or, or_false, false_or, Bool.or_true, Bool.true_or, Bool.false_or, Bool.or_false, Bool.and_false, Bool.false_and, Bool.true_and, Bool.and_true, beq_self_eq_true, hz]
  by_cases h1 : (1 : Int) ≤ z.length
  · rw [if_pos h1]
    by_cases h2 : (z.length : Int) ≤ 8
    · rw [decide_eq_true h2]
      simp only [eVar, eC, eOp, eNeg, eChain, eAnd, eOr, eNot, eIf, eTup, eLst, eDict0, eDict, eSl, oNo, oSome, eCall, eCB, eM, eLc, eIsi2, aNil, aCons, pNil, pCons, tTr, tBl, tAndD, tOrD, tNotD, tsYes, gAdd, gI, gI0, gMns, gMul, gMod, gFdiv, gPow, gLt, gLe, gGt, gGe, gIs, isNon, gEq_ii, gEq_ss, gEq_bb, gEq_nn, gEq_ni, gEq_in, gEq_ns, gEq_sn, gEq_si, gEq_is, gIx, gSl, gIn, gLen, gAbs, gMax2, gMin2, gInt1, gList, gTuple, gSum, gAll, gIsi, tyD, tyM, gAppend, gPop0, gPopAt, gClear, gReverse, gJoin, gUpper, sAsg, nName, nTup, nCons, nNil, sSub, sRet, sRetN, sExpr, sIf, sNext, sBreak, sCont, sFor, iSeq, iRange1, iRange2, getS, setS, wipeS, endsD, toKey, asKeys, List.length_cons, List.length_nil, List.set_cons_zero, List.set_cons_succ, List.set_nil, Nat.zero_add, Nat.reduceAdd, Option.some.injEq, exists_and_left, exists_eq_left', exists_eq_left, id_eq, if_true, if_false, ite_true, ite_false, Bool.not_true, Bool.not_false, Bool.false_eq_true, not_false_eq_true, not_true_eq_false, reduceCtorEq, true_and, and_true, ne_eq, decide_eq_true_eq, isiN, isiCls, List.mem_cons, String.reduceEq, String.reduceBEq, or_true, true_or, or_false, false_or, Bool.or_true, Bool.true_or, Bool.false_or, Bool.or_false, Bool.and_false, Bool.false_and, Bool.true_and, Bool.and_true, beq_self_eq_true]
      refine ret_i ?_
      simp only [eVar, eC, eOp, eNeg, eChain, eAnd, eOr, eNot, eIf, eTup, eLst, eDict0, eDict, eSl, oNo, oSome, eCall, eCB, eM, eLc, eIsi2, aNil, aCons, pNil, pCons, tTr, tBl, tAndD, tOrD, tNotD, tsYes, gAdd, gI, gI0, gMns, gMul, gMod, gFdiv, gPow, gLt, gLe, gGt, gGe, gIs, isNon, gEq_ii, gEq_ss, gEq_bb, gEq_nn, gEq_ni, gEq_in, gEq_ns, gEq_sn, gEq_si, gEq_is, gIx, gSl, gIn, gLen, gAbs, gMax2, gMin2, gInt1, gList, gTuple, gSum, gAll, gIsi, tyD, tyM, gAppend, gPop0, gPopAt, gClear, gReverse, gJoin, gUpper, sAsg, nName, nTup, nCons, nNil, sSub, sRet, sRetN, sExpr, sIf, sNext, sBreak, sCont, sFor, iSeq, iRange1, iRange2, getS, setS, wipeS, endsD, toKey, asKeys, List.length_cons, List.length_nil, List.set_cons_zero, List.set_cons_succ, List.set_nil, Nat.zero_add, Nat.reduceAdd, Option.some.injEq, exists_and_left, exists_eq_left', exists_eq_left, id_eq, if_true, if_false, ite_true, ite_false, Bool.not_true, Bool.not_false, Bool.false_eq_true, not_false_eq_true, not_true_eq_false, reduceCtorEq, true_and, and_true, ne_eq, decide_eq_true_eq, isiN, isiCls, List.mem_cons, String.reduceEq, String.reduceBEq, or_true, true_or, or_false, false_or, Bool.or_true, Bool.true_or, Bool.false_or, Bool.or_false, Bool.and_false, Bool.false_and, Bool.true_and, Bool.and_true, beq_self_eq_true]
      refine lcL_map (fun d => match d with | .str s => .bl (inStr s "abcdefghijklmnopqrstuvwxyz") | _ => .non) _ trivial (by rw [List.length_map, Array.length_toList]; exact hz) (fun x hx Q hq => ?_) (fun p hp => ?_)
      · obtain ⟨c, _, rfl⟩ := List.mem_map.mp hx
        simp only [eVar, eC, eOp, eNeg, eChain, eAnd, eOr, eNot, eIf, eTup, eLst, eDict0, eDict, eSl, oNo, oSome, eCall, eCB, eM, eLc, eIsi2, aNil, aCons, pNil, pCons, tTr, tBl, tAndD, tOrD, tNotD, tsYes, gAdd, gI, gI0, gMns, gMul, gMod, gFdiv, gPow, gLt, gLe, gGt, gGe, gIs, isNon, gEq_ii, gEq_ss, gEq_bb, gEq_nn, gEq_ni, gEq_in, gEq_ns, gEq_sn, gEq_si, gEq_is, gIx, gSl, gIn, gLen, gAbs, gMax2, gMin2, gInt1, gList, gTuple, gSum, gAll, gIsi, tyD, tyM, gAppend, gPop0, gPopAt, gClear, gReverse, gJoin, gUpper, sAsg, nName, nTup, nCons, nNil, sSub, sRet, sRetN, sExpr, sIf, sNext, sBreak, sCont, sFor, iSeq, iRange1, iRange2, getS, setS, wipeS, endsD, toKey, asKeys, List.length_cons, List.length_nil, List.set_cons_zero, List.set_cons_succ, List.set_nil, Nat.zero_add, Nat.reduceAdd, Option.some.injEq, exists_and_left, exists_eq_left', exists_eq_left, id_eq, if_true, if_false, ite_true, ite_false, Bool.not_true, Bool.not_false, Bool.false_eq_true, not_false_eq_true, not_true_eq_false, reduceCtorEq, true_and, and_true, ne_eq, decide_eq_true_eq, isiN, isiCls, List.mem_cons, String.reduceEq, String.reduceBEq, or_true, true_or, or_false, false_or, Bool.or_true, Bool.true_or, Bool.false_or, Bool.or_false, Bool.and_false, Bool.false_and, Bool.true_and, Bool.and_true, beq_self_eq_true, c_is_name_3]
        exact hq
      · refine ⟨z.cps.toList.map inA, ?_, ?_⟩
        · rw [updS_same, List.map_map, List.map_map]
          rfl
        · have e : (z.cps.toList.map inA).all id = nm z := by
            unfold nm
            rw [decide_eq_true (show 1 ≤ z.length by omega), decide_eq_true (show z.length ≤ 8 by omega), List.all_map]
            simp only [Bool.true_and]
            rfl
          rw [e]
          exact q _ (.new hp)
    · rw [decide_eq_false h2]
      have e : nm z = false := by
        unfold nm
        rw [decide_eq_false (show ¬ z.length ≤ 8 by omega)]
        simp
      rw [e] at q
      exact q _ .refl
  · rw [if_neg h1]
    have e : nm z = false := by
      unfold nm
      rw [decide_eq_false (show ¬ 1 ≤ z.length by omega)]
      simp
    rw [e] at q
    exact q _ .refl
/-- of what is no text -/
theorem isn_no {x : D} {t : String} {S : Sto} {Q : DK} (h : tyD x S = some t) (ht : t ≠ "str") (hb : t ≠ "bool") (q : Q (.bl false) S) : m_is_name [x] S Q := by
  rw [e_is_name]
  refine seq_i ?_
  have e : isiN t "str" = false := by
    unfold isiN
    simp [ht]
  simp only [sIf, tOrD, tNotD, tTr, eCB, aCons, aNil, eVar, getS, eC, gIsi, sRet, h, Option.some.injEq, exists_eq_left', e, isiCls]
  exact ⟨by simp, q⟩
theorem isn_bool {x : Bool} {S : Sto} {Q : DK} (q : Q (.bl false) S) : m_is_name [.bl x] S Q := by
  rw [e_is_name]
  refine seq_i ?_
  simp only [eVar, eC, eOp, eNeg, eChain, eAnd, eOr, eNot, eIf, eTup, eLst, eDict0, eDict, eSl, oNo, oSome, eCall, eCB, eM, eLc, eIsi2, aNil, aCons, pNil, pCons, tTr, tBl, tAndD, tOrD, tNotD, tsYes, gAdd, gI, gI0, gMns, gMul, gMod, gFdiv, gPow, gLt, gLe, gGt, gGe, gIs, isNon, gEq_ii, gEq_ss, gEq_bb, gEq_nn, gEq_ni, gEq_in, gEq_ns, gEq_sn, gEq_si, gEq_is, gIx, gSl, gIn, gLen, gAbs, gMax2, gMin2, gInt1, gList, gTuple, gSum, gAll, gIsi, tyD, tyM, gAppend, gPop0, gPopAt, gClear, gReverse, gJoin, gUpper, sAsg, nName, nTup, nCons, nNil, sSub, sRet, sRetN, sExpr, sIf, sNext, sBreak, sCont, sFor, iSeq, iRange1, iRange2, getS, setS, wipeS, endsD, toKey, asKeys, List.length_cons, List.length_nil, List.set_cons_zero, List.set_cons_succ, List.set_nil, Nat.zero_add, Nat.reduceAdd, Option.some.injEq, exists_and_left, exists_eq_left', exists_eq_left, id_eq, if_true, if_false, ite_true, ite_false, Bool.not_true, Bool.not_false, Bool.false_eq_true, not_false_eq_true, not_true_eq_false, reduceCtorEq, true_and, and_true, ne_eq, decide_eq_true_eq, isiN, isiCls, List.mem_cons, String.reduceEq, String.reduceBEq, or_true, true_or, or_false, false_or, Bool.or_true, Bool.true_or, Bool.false_or, Bool.or_false, Bool.and_false, Bool.false_and, Bool.true_and, Bool.and_true, beq_self_eq_true]
  exact q
theorem wis_spec {z : Str} {S : Sto} {Q : DK} (hz : z.length ≤ sizeLine) (q : Q (.bl (nm z)) S) : m_wis_name [.str z] S Q := by
  rw [e_wis_name]
  refine seq_i ?_
  simp only [eVar, eC, eOp, eNeg, eChain, eAnd, eOr, eNot, eIf, eTup, eLst, eDict0, eDict, eSl, oNo, oSome, eCall, eCB, eM, eLc, eIsi2, aNil, aCons, pNil, pCons, tTr, tBl, tAndD, tOrD, tNotD, tsYes, gAdd, gI, gI0, gMns, gMul, gMod, gFdiv, gPow, gLt, gLe, gGt, gGe, gIs, isNon, gEq_ii, gEq_ss, gEq_bb, gEq_nn, gEq_ni, gEq_in, gEq_ns, gEq_sn, gEq_si, gEq_is, gIx, gSl, gIn, gLen, gAbs, gMax2, gMin2, gInt1, gList, gTuple, gSum, gAll, gIsi, tyD, tyM, gAppend, gPop0, gPopAt, gClear, gReverse, gJoin, gUpper, sAsg, nName, nTup, nCons, nNil, sSub, sRet, sRetN, sExpr, sIf, sNext, sBreak, sCont, sFor, iSeq, iRange1, iRange2, getS, setS, wipeS, endsD, toKey, asKeys, List.length_cons, List.length_nil, List.set_cons_zero, List.set_cons_succ, List.set_nil, Nat.zero_add, Nat.reduceAdd, Option.some.injEq, exists_and_left, exists_eq_left', exists_eq_left, id_eq, if_true, if_false, ite_true, ite_false, Bool.not_true, Bool.not_false, Bool.false_eq_true, not_false_eq_true, not_true_eq_false, reduceCtorEq, true_and, and_true, ne_eq, decide_eq_true_eq, isiN, isiCls, List.mem_cons, String.reduceEq, String.reduceBEq, or_true, true_or, or_false, false_or, Bool.or_true, Bool.true_or, Bool.false_or, Bool.or_false, Bool.and_false, Bool.false_and, Bool.true_and, Bool.and_true, beq_self_eq_true, hz]
  by_cases h0 : (z.length : Int) = 0
  · rw [if_pos h0]
    have e : nm z = false := by
      unfold nm
      rw [decide_eq_false (show ¬ 1 ≤ z.length by omega)]
      simp
    rw [e] at q
    exact q
  · rw [if_neg h0]
    by_cases h8 : (8 : Int) < z.length
    · rw [if_pos h8]
      have e : nm z = false := by
        unfold nm
        rw [decide_eq_false (show ¬ z.length ≤ 8 by omega)]
        simp
      rw [e] at q
      exact q
    · rw [if_neg h8]
      have e : nm z = z.cps.toList.all inA := by
        unfold nm
        rw [decide_eq_true (show 1 ≤ z.length by omega), decide_eq_true (show z.length ≤ 8 by omega)]
        simp
      rw [e] at q
      refine seq_i ?_
      simp only [eVar, eC, eOp, eNeg, eChain, eAnd, eOr, eNot, eIf, eTup, eLst, eDict0, eDict, eSl, oNo, oSome, eCall, eCB, eM, eLc, eIsi2, aNil, aCons, pNil, pCons, tTr, tBl, tAndD, tOrD, tNotD, tsYes, gAdd, gI, gI0, gMns, gMul, gMod, gFdiv, gPow, gLt, gLe, gGt, gGe, gIs, isNon, gEq_ii, gEq_ss, gEq_bb, gEq_nn, gEq_ni, gEq_in, gEq_ns, gEq_sn, gEq_si, gEq_is, gIx, gSl, gIn, gLen, gAbs, gMax2, gMin2, gInt1, gList, gTuple, gSum, gAll, gIsi, tyD, tyM, gAppend, gPop0, gPopAt, gClear, gReverse, gJoin, gUpper, sAsg, nName, nTup, nCons, nNil, sSub, sRet, sRetN, sExpr, sIf, sNext, sBreak, sCont, sFor, iSeq, iRange1, iRange2, getS, setS, wipeS, endsD, toKey, asKeys, List.length_cons, List.length_nil, List.set_cons_zero, List.set_cons_succ, List.set_nil, Nat.zero_add, Nat.reduceAdd, Option.some.injEq, exists_and_left, exists_eq_left', exists_eq_left, id_eq, if_true, if_false, ite_true, ite_false, Bool.not_true, Bool.not_false, Bool.false_eq_true, not_false_eq_true, not_true_eq_false, reduceCtorEq, true_and, and_true, ne_eq, decide_eq_true_eq, isiN, isiCls, List.mem_cons, String.reduceEq, String.reduceBEq, or_true, true_or, or_false, false_or, Bool.or_true, Bool.true_or, Bool.false_or, Bool.or_false, Bool.and_false, Bool.false_and, Bool.true_and, Bool.and_true, beq_self_eq_true]
      refine forL_inv _ (fun i σ S' => S' = S ∧ (∃ y, σ = [some (.str z), y]) ∧ (z.cps.toList.take i).all inA = true) (fun _ _ _ _ => trivial) (fun i x σ S' N hx ⟨e1, ⟨y, e2⟩, e3⟩ hN => ?_) (fun σ S' ⟨e1, ⟨y, e2⟩, e3⟩ => ?_) ⟨rfl, ⟨_, rfl⟩, rfl⟩
      · subst e1 e2
        rw [List.getElem?_map] at hx
        cases hc : z.cps.toList[i]? with
        | none => rw [hc] at hx; cases hx
        | some c =>
          rw [hc] at hx
          cases hx
          simp only [eVar, eC, eOp, eNeg, eChain, eAnd, eOr, eNot, eIf, eTup, eLst, eDict0, eDict, eSl, oNo, oSome, eCall, eCB, eM, eLc, eIsi2, aNil, aCons, pNil, pCons, tTr, tBl, tAndD, tOrD, tNotD, tsYes, gAdd, gI, gI0, gMns, gMul, gMod, gFdiv, gPow, gLt, gLe, gGt, gGe, gIs, isNon, gEq_ii, gEq_ss, gEq_bb, gEq_nn, gEq_ni, gEq_in, gEq_ns, gEq_sn, gEq_si, gEq_is, gIx, gSl, gIn, gLen, gAbs, gMax2, gMin2, gInt1, gList, gTuple, gSum, gAll, gIsi, tyD, tyM, gAppend, gPop0, gPopAt, gClear, gReverse, gJoin, gUpper, sAsg, nName, nTup, nCons, nNil, sSub, sRet, sRetN, sExpr, sIf, sNext, sBreak, sCont, sFor, iSeq, iRange1, iRange2, getS, setS, wipeS, endsD, toKey, asKeys, List.length_cons, List.length_nil, List.set_cons_zero, List.set_cons_succ, List.set_nil, Nat.zero_add, Nat.reduceAdd, Option.some.injEq, exists_and_left, exists_eq_left', exists_eq_left, id_eq, if_true, if_false, ite_true, ite_false, Bool.not_true, Bool.not_false, Bool.false_eq_true, not_false_eq_true, not_true_eq_false, reduceCtorEq, true_and, and_true, ne_eq, decide_eq_true_eq, isiN, isiCls, List.mem_cons, String.reduceEq, String.reduceBEq, or_true, true_or, or_false, false_or, Bool.or_true, Bool.true_or, Bool.false_or, Bool.or_false, Bool.and_false, Bool.false_and, Bool.true_and, Bool.and_true, beq_self_eq_true, l_wis_name_3]
          cases hi : inA c with
          | true =>
            have hi2 : inStr ⟨#[c]⟩ "abcdefghijklmnopqrstuvwxyz" = true := hi
            simp only [eVar, eC, eOp, eNeg, eChain, eAnd, eOr, eNot, eIf, eTup, eLst, eDict0, eDict, eSl, oNo, oSome, eCall, eCB, eM, eLc, eIsi2, aNil, aCons, pNil, pCons, tTr, tBl, tAndD, tOrD, tNotD, tsYes, gAdd, gI, gI0, gMns, gMul, gMod, gFdiv, gPow, gLt, gLe, gGt, gGe, gIs, isNon, gEq_ii, gEq_ss, gEq_bb, gEq_nn, gEq_ni, gEq_in, gEq_ns, gEq_sn, gEq_si, gEq_is, gIx, gSl, gIn, gLen, gAbs, gMax2, gMin2, gInt1, gList, gTuple, gSum, gAll, gIsi, tyD, tyM, gAppend, gPop0, gPopAt, gClear, gReverse, gJoin, gUpper, sAsg, nName, nTup, nCons, nNil, sSub, sRet, sRetN, sExpr, sIf, sNext, sBreak, sCont, sFor, iSeq, iRange1, iRange2, getS, setS, wipeS, endsD, toKey, asKeys, List.length_cons, List.length_nil, List.set_cons_zero, List.set_cons_succ, List.set_nil, Nat.zero_add, Nat.reduceAdd, Option.some.injEq, exists_and_left, exists_eq_left', exists_eq_left, id_eq, if_true, if_false, ite_true, ite_false, Bool.not_true, Bool.not_false, Bool.false_eq_true, not_false_eq_true, not_true_eq_false, reduceCtorEq, true_and, and_true, ne_eq, decide_eq_true_eq, isiN, isiCls, List.mem_cons, String.reduceEq, String.reduceBEq, or_true, true_or, or_false, false_or, Bool.or_true, Bool.true_or, Bool.false_or, Bool.or_false, Bool.and_false, Bool.false_and, Bool.true_and, Bool.and_true, beq_self_eq_true, hi2]
            refine hN _ _ ⟨rfl, ⟨_, rfl⟩, ?_⟩
            rw [List.take_add_one, hc, List.all_append, e3]
            simp [hi]
          | false =>
            have hi2 : inStr ⟨#[c]⟩ "abcdefghijklmnopqrstuvwxyz" = false := hi
            simp only [eVar, eC, eOp, eNeg, eChain, eAnd, eOr, eNot, eIf, eTup, eLst, eDict0, eDict, eSl, oNo, oSome, eCall, eCB, eM, eLc, eIsi2, aNil, aCons, pNil, pCons, tTr, tBl, tAndD, tOrD, tNotD, tsYes, gAdd, gI, gI0, gMns, gMul, gMod, gFdiv, gPow, gLt, gLe, gGt, gGe, gIs, isNon, gEq_ii, gEq_ss, gEq_bb, gEq_nn, gEq_ni, gEq_in, gEq_ns, gEq_sn, gEq_si, gEq_is, gIx, gSl, gIn, gLen, gAbs, gMax2, gMin2, gInt1, gList, gTuple, gSum, gAll, gIsi, tyD, tyM, gAppend, gPop0, gPopAt, gClear, gReverse, gJoin, gUpper, sAsg, nName, nTup, nCons, nNil, sSub, sRet, sRetN, sExpr, sIf, sNext, sBreak, sCont, sFor, iSeq, iRange1, iRange2, getS, setS, wipeS, endsD, toKey, asKeys, List.length_cons, List.length_nil, List.set_cons_zero, List.set_cons_succ, List.set_nil, Nat.zero_add, Nat.reduceAdd, Option.some.injEq, exists_and_left, exists_eq_left', exists_eq_left, id_eq, if_true, if_false, ite_true, ite_false, Bool.not_true, Bool.not_false, Bool.false_eq_true, not_false_eq_true, not_true_eq_false, reduceCtorEq, true_and, and_true, ne_eq, decide_eq_true_eq, isiN, isiCls, List.mem_cons, String.reduceEq, String.reduceBEq, or_true, true_or, or_false, false_or, Bool.or_true, Bool.true_or, Bool.false_or, Bool.or_false, Bool.and_false, Bool.false_and, Bool.true_and, Bool.and_true, beq_self_eq_true, hi2]
            have e4 : z.cps.toList.all inA = false := by
              rw [List.all_eq_false]
              exact ⟨c, List.mem_of_getElem? hc, by rw [hi]; exact Bool.false_ne_true⟩
            rw [e4] at q
            exact q
      · subst e1 e2
        simp only [eVar, eC, eOp, eNeg, eChain, eAnd, eOr, eNot, eIf, eTup, eLst, eDict0, eDict, eSl, oNo, oSome, eCall, eCB, eM, eLc, eIsi2, aNil, aCons, pNil, pCons, tTr, tBl, tAndD, tOrD, tNotD, tsYes, gAdd, gI, gI0, gMns, gMul, gMod, gFdiv, gPow, gLt, gLe, gGt, gGe, gIs, isNon, gEq_ii, gEq_ss, gEq_bb, gEq_nn, gEq_ni, gEq_in, gEq_ns, gEq_sn, gEq_si, gEq_is, gIx, gSl, gIn, gLen, gAbs, gMax2, gMin2, gInt1, gList, gTuple, gSum, gAll, gIsi, tyD, tyM, gAppend, gPop0, gPopAt, gClear, gReverse, gJoin, gUpper, sAsg, nName, nTup, nCons, nNil, sSub, sRet, sRetN, sExpr, sIf, sNext, sBreak, sCont, sFor, iSeq, iRange1, iRange2, getS, setS, wipeS, endsD, toKey, asKeys, List.length_cons, List.length_nil, List.set_cons_zero, List.set_cons_succ, List.set_nil, Nat.zero_add, Nat.reduceAdd, Option.some.injEq, exists_and_left, exists_eq_left', exists_eq_left, id_eq, if_true, if_false, ite_true, ite_false, Bool.not_true, Bool.not_false, Bool.false_eq_true, not_false_eq_true, not_true_eq_false, reduceCtorEq, true_and, and_true, ne_eq, decide_eq_true_eq, isiN, isiCls, List.mem_cons, String.reduceEq, String.reduceBEq, or_true, true_or, or_false, false_or, Bool.or_true, Bool.true_or, Bool.false_or, Bool.or_false, Bool.and_false, Bool.false_and, Bool.true_and, Bool.and_true, beq_self_eq_true]
        refine ret_i ?_
        simp only [eVar, eC, eOp, eNeg, eChain, eAnd, eOr, eNot, eIf, eTup, eLst, eDict0, eDict, eSl, oNo, oSome, eCall, eCB, eM, eLc, eIsi2, aNil, aCons, pNil, pCons, tTr, tBl, tAndD, tOrD, tNotD, tsYes, gAdd, gI, gI0, gMns, gMul, gMod, gFdiv, gPow, gLt, gLe, gGt, gGe, gIs, isNon, gEq_ii, gEq_ss, gEq_bb, gEq_nn, gEq_ni, gEq_in, gEq_ns, gEq_sn, gEq_si, gEq_is, gIx, gSl, gIn, gLen, gAbs, gMax2, gMin2, gInt1, gList, gTuple, gSum, gAll, gIsi, tyD, tyM, gAppend, gPop0, gPopAt, gClear, gReverse, gJoin, gUpper, sAsg, nName, nTup, nCons, nNil, sSub, sRet, sRetN, sExpr, sIf, sNext, sBreak, sCont, sFor, iSeq, iRange1, iRange2, getS, setS, wipeS, endsD, toKey, asKeys, List.length_cons, List.length_nil, List.set_cons_zero, List.set_cons_succ, List.set_nil, Nat.zero_add, Nat.reduceAdd, Option.some.injEq, exists_and_left, exists_eq_left', exists_eq_left, id_eq, if_true, if_false, ite_true, ite_false, Bool.not_true, Bool.not_false, Bool.false_eq_true, not_false_eq_true, not_true_eq_false, reduceCtorEq, true_and, and_true, ne_eq, decide_eq_true_eq, isiN, isiCls, List.mem_cons, String.reduceEq, String.reduceBEq, or_true, true_or, or_false, false_or, Bool.or_true, Bool.true_or, Bool.false_or, Bool.or_false, Bool.and_false, Bool.false_and, Bool.true_and, Bool.and_true, beq_self_eq_true]
        rw [List.length_map, List.take_of_length_le (Nat.le_refl _)] at e3
        rw [e3] at q
        exact q
theorem pen_spec {ns : List Int} {S : Sto} {Q : DK} (q : ∀ (p : Addr) (S' : Sto), Pen S' p 0 → Gr S S' → Q (.ref p) S') : m_wpen [.fl (ns.map .int)] S Q := by
  rw [e_wpen]
  simp only [eVar, eC, eOp, eNeg, eChain, eAnd, eOr, eNot, eIf, eTup, eLst, eDict0, eDict, eSl, oNo, oSome, eCall, eCB, eM, eLc, eIsi2, aNil, aCons, pNil, pCons, tTr, tBl, tAndD, tOrD, tNotD, tsYes, gAdd, gI, gI0, gMns, gMul, gMod, gFdiv, gPow, gLt, gLe, gGt, gGe, gIs, isNon, gEq_ii, gEq_ss, gEq_bb, gEq_nn, gEq_ni, gEq_in, gEq_ns, gEq_sn, gEq_si, gEq_is, gIx, gSl, gIn, gLen, gAbs, gMax2, gMin2, gInt1, gList, gTuple, gSum, gAll, gIsi, tyD, tyM, gAppend, gPop0, gPopAt, gClear, gReverse, gJoin, gUpper, sAsg, nName, nTup, nCons, nNil, sSub, sRet, sRetN, sExpr, sIf, sNext, sBreak, sCont, sFor, iSeq, iRange1, iRange2, getS, setS, wipeS, endsD, toKey, asKeys, List.length_cons, List.length_nil, List.set_cons_zero, List.set_cons_succ, List.set_nil, Nat.zero_add, Nat.reduceAdd, Option.some.injEq, exists_and_left, exists_eq_left', exists_eq_left, id_eq, if_true, if_false, ite_true, ite_false, Bool.not_true, Bool.not_false, Bool.false_eq_true, not_false_eq_true, not_true_eq_false, reduceCtorEq, true_and, and_true, ne_eq, decide_eq_true_eq, isiN, isiCls, List.mem_cons, String.reduceEq, String.reduceBEq, or_true, true_or, or_false, false_or, Bool.or_true, Bool.true_or, Bool.false_or, Bool.or_false, Bool.and_false, Bool.false_and, Bool.true_and, Bool.and_true, beq_self_eq_true, b_wpen]
  intro p1 hp1
  refine ⟨_, updS_same, fun p2 hp2 => ⟨by show 3 ≤ 15; decide, fun p3 hp3 => ?_⟩⟩
  have n23 : p2 ≠ p3 := neS updS_same hp3
  have cut : cutL (ns.map D.int) none (some 63) = (ns.take 63).map D.int := by
    unfold cutL
    rw [HT.sIx_none, show HT.sIx (ns.map D.int).length (ns.map D.int).length (some 63) = min 63 (ns.map D.int).length from HT.sIx_nat _ _ 63]
    rw [List.drop_zero, List.map_take, Nat.sub_zero]
    by_cases h : 63 ≤ (ns.map D.int).length
    · rw [Nat.min_eq_left h]
    · rw [Nat.min_eq_right (by omega), List.take_of_length_le (Nat.le_refl _), List.take_of_length_le (by omega)]
  have e : mergeD [] [(kS "cells", D.ref p2), (kS "at", .int 0), (kS "left", .int 0)] = penKv p2 0 0 := by
    unfold mergeD penKv
    simp only [List.foldl, putD, hasD, valD, Option.isSome, if_neg k_ca, if_neg k_cl, if_neg k_al, if_false, Bool.false_eq_true, List.nil_append, List.cons_append]
  refine q p3 _ ⟨p2, ns.take 63, 0, 0, by rw [updS_same]; exact congrArg (fun t => some (O.dk t)) e, ?_, by rw [List.length_take]; omega, by decide, by decide, by decide⟩ ?_
  · rw [updS_ne n23, updS_same, cut]
  · exact ((Gr.new hp1).trans (.new hp2)).trans (.new hp3)
end LW
namespace LW
open PySem L2 DL
theorem Kp.gr {p : Addr} {S S1 S2 : Sto} (x : Kp p S S1) (y : Gr S1 S2) : Kp p S S2 := x.trans y.kp
theorem len_cut (z : Str) (lo hi : Option Int) : (cutS z lo hi).length ≤ z.length := by
  show ((z.cps.toList.drop (HT.sIx z.length 0 lo)).take (HT.sIx z.length z.length hi - HT.sIx z.length 0 lo)).toArray.size ≤ z.cps.size
  rw [List.size_toArray, List.length_take, List.length_drop, Array.length_toList]
  omega
theorem len_one (c : Nat) : (⟨#[c]⟩ : Str).length = 1 := rfl
theorem len_app (x y : Str) : (x ++ y).length = x.length + y.length := by
  rw [TL.len_tl, TL.tl_append, List.length_append, ← TL.len_tl, ← TL.len_tl]
theorem small_line {n : Nat} (h : n ≤ 100000) : n ≤ sizeLine := Nat.le_trans h (by decide)
/-- a number below n is one of the places -/
theorem at_str {z : Str} {k : Int} (h0 : 0 ≤ k) (h : k < z.length) : ∃ c, atI z.cps.toList k = some c := by
  obtain ⟨j, rfl⟩ : ∃ j : Nat, k = (j : Nat) := ⟨k.toNat, by omega⟩
  have hl : j < z.cps.toList.length := by rw [Array.length_toList]; exact Int.ofNat_lt.mp h
  exact ⟨_, atI_nat (List.getElem?_eq_getElem hl)⟩
theorem log_small {n : Int} (h0 : 0 < n) (h : n < 1000000000000) : n.natAbs.log2 < 9000 :=
  PySem.Flt.log2_lt_of (by decide) (Nat.lt_of_lt_of_le (show n.natAbs < 2 ^ 40 by have : (2 : Nat) ^ 40 = 1099511627776 := by decide
                                                                                  omega) (Nat.pow_le_pow_right (by decide) (by decide)))
theorem bent_spec {S : Sto} {p : Addr} {b : Nat} {z : Str} {Q : DK} (h : Pen S p b) (hb : b + 3 ≤ 100000000) (h1 : 1 ≤ z.length) (h2 : z.length ≤ 50)
   (q : ∀ (y : Str) (S' : Sto), y.length ≤ 200 → Pen S' p (b + 3) → Kp p S S' → Q (.str y) S') : m_wbent [.ref p, .str z] S Q := by
  rw [e_wbent]
  refine seq_i ?_
  simp only [eVar, eC, eOp, eNeg, eChain, eAnd, eOr, eNot, eIf, eTup, eLst, eDict0, eDict, eSl, oNo, oSome, eCall, eCB, eM, eLc, eIsi2, aNil, aCons, pNil, pCons, tTr, tBl, tAndD, tOrD, tNotD, tsYes, gAdd, gI, gI0, gMns, gMul, gMod, gFdiv, gPow, gLt, gLe, gGt, gGe, gIs, isNon, gEq_ii, gEq_ss, gEq_bb, gEq_nn, gEq_ni, gEq_in, gEq_ns, gEq_sn, gEq_si, gEq_is, gIx, gSl, gIn, gLen, gAbs, gMax2, gMin2, gInt1, gList, gTuple, gSum, gAll, gIsi, tyD, tyM, gAppend, gPop0, gPopAt, gClear, gReverse, gJoin, gUpper, sAsg, nName, nTup, nCons, nNil, sSub, sRet, sRetN, sExpr, sIf, sNext, sBreak, sCont, sFor, iSeq, iRange1, iRange2, getS, setS, wipeS, endsD, toKey, asKeys, List.length_cons, List.length_nil, List.set_cons_zero, List.set_cons_succ, List.set_nil, Nat.zero_add, Nat.reduceAdd, Option.some.injEq, exists_and_left, exists_eq_left', exists_eq_left, id_eq, if_true, if_false, ite_true, ite_false, Bool.not_true, Bool.not_false, Bool.false_eq_true, not_false_eq_true, not_true_eq_false, reduceCtorEq, true_and, and_true, ne_eq, decide_eq_true_eq, isiN, isiCls, List.mem_cons, String.reduceEq, String.reduceBEq, or_true, true_or, or_false, false_or, Bool.or_true, Bool.true_or, Bool.false_or, Bool.or_false, Bool.and_false, Bool.false_and, Bool.true_and, Bool.and_true, beq_self_eq_true]
  refine take_spec h (by omega) (by decide) (by decide) fun k1 S1 l1 u1 n1 g1 => ?_
  refine seq_i ?_
  simp only [eVar, eC, eOp, eNeg, eChain, eAnd, eOr, eNot, eIf, eTup, eLst, eDict0, eDict, eSl, oNo, oSome, eCall, eCB, eM, eLc, eIsi2, aNil, aCons, pNil, pCons, tTr, tBl, tAndD, tOrD, tNotD, tsYes, gAdd, gI, gI0, gMns, gMul, gMod, gFdiv, gPow, gLt, gLe, gGt, gGe, gIs, isNon, gEq_ii, gEq_ss, gEq_bb, gEq_nn, gEq_ni, gEq_in, gEq_ns, gEq_sn, gEq_si, gEq_is, gIx, gSl, gIn, gLen, gAbs, gMax2, gMin2, gInt1, gList, gTuple, gSum, gAll, gIsi, tyD, tyM, gAppend, gPop0, gPopAt, gClear, gReverse, gJoin, gUpper, sAsg, nName, nTup, nCons, nNil, sSub, sRet, sRetN, sExpr, sIf, sNext, sBreak, sCont, sFor, iSeq, iRange1, iRange2, getS, setS, wipeS, endsD, toKey, asKeys, List.length_cons, List.length_nil, List.set_cons_zero, List.set_cons_succ, List.set_nil, Nat.zero_add, Nat.reduceAdd, Option.some.injEq, exists_and_left, exists_eq_left', exists_eq_left, id_eq, if_true, if_false, ite_true, ite_false, Bool.not_true, Bool.not_false, Bool.false_eq_true, not_false_eq_true, not_true_eq_false, reduceCtorEq, true_and, and_true, ne_eq, decide_eq_true_eq, isiN, isiCls, List.mem_cons, String.reduceEq, String.reduceBEq, or_true, true_or, or_false, false_or, Bool.or_true, Bool.true_or, Bool.false_or, Bool.or_false, Bool.and_false, Bool.false_and, Bool.true_and, Bool.and_true, beq_self_eq_true]
  refine seq_i ?_
  simp only [eVar, eC, eOp, eNeg, eChain, eAnd, eOr, eNot, eIf, eTup, eLst, eDict0, eDict, eSl, oNo, oSome, eCall, eCB, eM, eLc, eIsi2, aNil, aCons, pNil, pCons, tTr, tBl, tAndD, tOrD, tNotD, tsYes, gAdd, gI, gI0, gMns, gMul, gMod, gFdiv, gPow, gLt, gLe, gGt, gGe, gIs, isNon, gEq_ii, gEq_ss, gEq_bb, gEq_nn, gEq_ni, gEq_in, gEq_ns, gEq_sn, gEq_si, gEq_is, gIx, gSl, gIn, gLen, gAbs, gMax2, gMin2, gInt1, gList, gTuple, gSum, gAll, gIsi, tyD, tyM, gAppend, gPop0, gPopAt, gClear, gReverse, gJoin, gUpper, sAsg, nName, nTup, nCons, nNil, sSub, sRet, sRetN, sExpr, sIf, sNext, sBreak, sCont, sFor, iSeq, iRange1, iRange2, getS, setS, wipeS, endsD, toKey, asKeys, List.length_cons, List.length_nil, List.set_cons_zero, List.set_cons_succ, List.set_nil, Nat.zero_add, Nat.reduceAdd, Option.some.injEq, exists_and_left, exists_eq_left', exists_eq_left, id_eq, if_true, if_false, ite_true, ite_false, Bool.not_true, Bool.not_false, Bool.false_eq_true, not_false_eq_true, not_true_eq_false, reduceCtorEq, true_and, and_true, ne_eq, decide_eq_true_eq, isiN, isiCls, List.mem_cons, String.reduceEq, String.reduceBEq, or_true, true_or, or_false, false_or, Bool.or_true, Bool.true_or, Bool.false_or, Bool.or_false, Bool.and_false, Bool.false_and, Bool.true_and, Bool.and_true, beq_self_eq_true]
  have hl : ((" !\"#$&'()*+,-./0123456789:;<=>?@ABCDEFGHIJKLMNOPQRSTUVWXYZ[\\]^_`abcdefghijklmnopqrstuvwxyz{|}~\n" : Str)).length = 95 := by decide +kernel
  generalize (" !\"#$&'()*+,-./0123456789:;<=>?@ABCDEFGHIJKLMNOPQRSTUVWXYZ[\\]^_`abcdefghijklmnopqrstuvwxyz{|}~\n" : Str) = sg at hl
  simp only [eVar, eC, eOp, eNeg, eChain, eAnd, eOr, eNot, eIf, eTup, eLst, eDict0, eDict, eSl, oNo, oSome, eCall, eCB, eM, eLc, eIsi2, aNil, aCons, pNil, pCons, tTr, tBl, tAndD, tOrD, tNotD, tsYes, gAdd, gI, gI0, gMns, gMul, gMod, gFdiv, gPow, gLt, gLe, gGt, gGe, gIs, isNon, gEq_ii, gEq_ss, gEq_bb, gEq_nn, gEq_ni, gEq_in, gEq_ns, gEq_sn, gEq_si, gEq_is, gIx, gSl, gIn, gLen, gAbs, gMax2, gMin2, gInt1, gList, gTuple, gSum, gAll, gIsi, tyD, tyM, gAppend, gPop0, gPopAt, gClear, gReverse, gJoin, gUpper, sAsg, nName, nTup, nCons, nNil, sSub, sRet, sRetN, sExpr, sIf, sNext, sBreak, sCont, sFor, iSeq, iRange1, iRange2, getS, setS, wipeS, endsD, toKey, asKeys, List.length_cons, List.length_nil, List.set_cons_zero, List.set_cons_succ, List.set_nil, Nat.zero_add, Nat.reduceAdd, Option.some.injEq, exists_and_left, exists_eq_left', exists_eq_left, id_eq, if_true, if_false, ite_true, ite_false, Bool.not_true, Bool.not_false, Bool.false_eq_true, not_false_eq_true, not_true_eq_false, reduceCtorEq, true_and, and_true, ne_eq, decide_eq_true_eq, isiN, isiCls, List.mem_cons, String.reduceEq, String.reduceBEq, or_true, true_or, or_false, false_or, Bool.or_true, Bool.true_or, Bool.false_or, Bool.or_false, Bool.and_false, Bool.false_and, Bool.true_and, Bool.and_true, beq_self_eq_true, hl]
  refine ⟨small_line (by decide), take_spec n1 (by omega) (by decide) (by decide) fun k2 S2 l2 u2 n2 g2 => ?_⟩
  refine ⟨small_line (by decide), ?_⟩
  obtain ⟨c, hc⟩ := at_str (z := sg) l2 (by rw [hl]; exact u2)
  refine ⟨c, hc, seq_i ?_⟩
  simp only [eVar, eC, eOp, eNeg, eChain, eAnd, eOr, eNot, eIf, eTup, eLst, eDict0, eDict, eSl, oNo, oSome, eCall, eCB, eM, eLc, eIsi2, aNil, aCons, pNil, pCons, tTr, tBl, tAndD, tOrD, tNotD, tsYes, gAdd, gI, gI0, gMns, gMul, gMod, gFdiv, gPow, gLt, gLe, gGt, gGe, gIs, isNon, gEq_ii, gEq_ss, gEq_bb, gEq_nn, gEq_ni, gEq_in, gEq_ns, gEq_sn, gEq_si, gEq_is, gIx, gSl, gIn, gLen, gAbs, gMax2, gMin2, gInt1, gList, gTuple, gSum, gAll, gIsi, tyD, tyM, gAppend, gPop0, gPopAt, gClear, gReverse, gJoin, gUpper, sAsg, nName, nTup, nCons, nNil, sSub, sRet, sRetN, sExpr, sIf, sNext, sBreak, sCont, sFor, iSeq, iRange1, iRange2, getS, setS, wipeS, endsD, toKey, asKeys, List.length_cons, List.length_nil, List.set_cons_zero, List.set_cons_succ, List.set_nil, Nat.zero_add, Nat.reduceAdd, Option.some.injEq, exists_and_left, exists_eq_left', exists_eq_left, id_eq, if_true, if_false, ite_true, ite_false, Bool.not_true, Bool.not_false, Bool.false_eq_true, not_false_eq_true, not_true_eq_false, reduceCtorEq, true_and, and_true, ne_eq, decide_eq_true_eq, isiN, isiCls, List.mem_cons, String.reduceEq, String.reduceBEq, or_true, true_or, or_false, false_or, Bool.or_true, Bool.true_or, Bool.false_or, Bool.or_false, Bool.and_false, Bool.false_and, Bool.true_and, Bool.and_true, beq_self_eq_true]
  refine ⟨small_line (by omega), take_spec n2 (by omega) (by omega) (log_small (by omega) (by omega)) fun k3 S3 l3 u3 n3 g3 => ret_i ?_⟩
  simp only [eVar, eC, eOp, eNeg, eChain, eAnd, eOr, eNot, eIf, eTup, eLst, eDict0, eDict, eSl, oNo, oSome, eCall, eCB, eM, eLc, eIsi2, aNil, aCons, pNil, pCons, tTr, tBl, tAndD, tOrD, tNotD, tsYes, gAdd, gI, gI0, gMns, gMul, gMod, gFdiv, gPow, gLt, gLe, gGt, gGe, gIs, isNon, gEq_ii, gEq_ss, gEq_bb, gEq_nn, gEq_ni, gEq_in, gEq_ns, gEq_sn, gEq_si, gEq_is, gIx, gSl, gIn, gLen, gAbs, gMax2, gMin2, gInt1, gList, gTuple, gSum, gAll, gIsi, tyD, tyM, gAppend, gPop0, gPopAt, gClear, gReverse, gJoin, gUpper, sAsg, nName, nTup, nCons, nNil, sSub, sRet, sRetN, sExpr, sIf, sNext, sBreak, sCont, sFor, iSeq, iRange1, iRange2, getS, setS, wipeS, endsD, toKey, asKeys, List.length_cons, List.length_nil, List.set_cons_zero, List.set_cons_succ, List.set_nil, Nat.zero_add, Nat.reduceAdd, Option.some.injEq, exists_and_left, exists_eq_left', exists_eq_left, id_eq, if_true, if_false, ite_true, ite_false, Bool.not_true, Bool.not_false, Bool.false_eq_true, not_false_eq_true, not_true_eq_false, reduceCtorEq, true_and, and_true, ne_eq, decide_eq_true_eq, isiN, isiCls, List.mem_cons, String.reduceEq, String.reduceBEq, or_true, true_or, or_false, false_or, Bool.or_true, Bool.true_or, Bool.false_or, Bool.or_false, Bool.and_false, Bool.false_and, Bool.true_and, Bool.and_true, beq_self_eq_true, updS_same]
  have a1 := len_cut z none (some k3)
  have a2 := len_cut z (some (k3 + 1)) none
  have a3 := len_cut z (some k3) none
  have a4 : (⟨#[c]⟩ : Str).length = 1 := rfl
  generalize cutS z none (some k3) = y1 at a1
  generalize cutS z (some (k3 + 1)) none = y2 at a2
  generalize cutS z (some k3) none = y3 at a3
  generalize (⟨#[c]⟩ : Str) = y4 at a4
  have sl : ∀ n, n ≤ 1000 → n ≤ sizeLine := fun n hn => small_line (by omega)
  refine ⟨sl _ (by omega), sl _ (by omega), sl _ (by omega), sl _ (by rw [len_app]; omega), sl _ (by omega), sl _ (by omega), sl _ (by omega), sl _ (by rw [len_app]; omega), sl _ (by omega), sl _ (by omega), sl _ (by omega), sl _ (by omega), sl _ (by omega), fun p1 hp1 => ?_⟩
  have fin : ∀ y : Str, y.length ≤ 200 → ∀ o, Q (.str y) (updS S3 p1 o) := fun y hy o => q y _ hy (n3.new hp1) (((g1.trans g2).trans g3).trans (.new hp1))
  have cases4 : k1 = 0 ∨ k1 = 1 ∨ k1 = 2 ∨ k1 = 3 := by omega
  rcases cases4 with e | e | e | e <;> subst e
  · exact ⟨_, rfl, fin _ (by rw [len_app, len_app]; omega) _⟩
  · exact ⟨_, rfl, fin _ (by rw [len_app, len_app]; omega) _⟩
  · exact ⟨_, rfl, fin _ (by rw [len_app]; omega) _⟩
  · exact ⟨_, rfl, fin _ (by rw [len_app]; omega) _⟩
theorem joinL_len : ∀ ls : List (List Nat), (TL.joinL [] ls).length = (ls.map List.length).sum
  | [] => rfl
  | [l] => by simp [TL.joinL]
  | l :: m :: r => by
    have ih := joinL_len (m :: r)
    rw [TL.joinL]
    simp only [List.nil_append, List.append_nil, List.length_append, ih, List.map_cons, List.sum_cons]
theorem sum_ones : ∀ {ys : List Str}, (∀ y ∈ ys, y.length = 1) → (ys.map (·.length)).sum = ys.length
  | [], _ => rfl
  | y :: r, h => by
    rw [List.map_cons, List.sum_cons, sum_ones fun x hx => h x (List.mem_cons_of_mem _ hx), h y List.mem_cons_self, List.length_cons, Nat.add_comm]
theorem len_join {ys : List Str} (h : ∀ y ∈ ys, y.length = 1) : (Txt.join "" ys).length = ys.length := by
  rw [TL.join_eq, TL.len_tl, TL.tl_join, show TL.tl ("" : Str) = [] from by decide +kernel, joinL_len, List.map_map]
  induction ys with
  | nil => rfl
  | cons y r ih =>
    rw [List.map_cons, List.sum_cons, ih (fun x hx => h x (List.mem_cons_of_mem _ hx)), List.length_cons]
    have := h y List.mem_cons_self
    rw [TL.len_tl] at this
    show (TL.tl y).length + r.length = r.length + 1
    omega
theorem ne_pen {S : Sto} {p q : Addr} {b : Nat} (h : Pen S p b) (hq : S q = none) : q ≠ p := fun e => by
  obtain ⟨c, ms, a, l, z1, _⟩ := h.ex
  rw [← e, hq] at z1
  cases z1
/-- a list of one-sign texts -/
def ones (acc : List D) (i : Nat) : Prop := ∃ ys : List Str, acc = ys.map D.str ∧ (∀ y ∈ ys, y.length = 1) ∧ ys.length = i
theorem test_spec {z : Str} {x : D} {S : Sto} {Q : DK} (hz : z.length ≤ 1000) (q : ∀ S', Gr S S' → Q (.bl true) S') : m_is_name [.str z] S (fun d S' => m_wis_name [.str z] S' fun d2 S2 => m_wsame [d, d2] S2 Q) :=
  isn_spec (small_line (by omega)) fun S' g => wis_spec (small_line (by omega)) (same_spec (q S' g))
theorem alpha_len : (("abcdefghijklmnopqrstuvwxyz" : Str)).length = 26 := by decide +kernel
theorem el_spec {S : Sto} {p : Addr} {b : Nat} {a c d e f g : Option D} {Q : DK} (h : Pen S p b) (hb : b + 1 ≤ 100000000) (q : ∀ (x : Nat) (S' : Sto), Pen S' p (b + 1) → Kp p S S' → Q (.str ⟨#[x]⟩) S') :
    c_law_4 [a, some (.ref p), c, d, e, f, g] S Q := by
  unfold c_law_4
  simp only [eVar, eC, eOp, eNeg, eChain, eAnd, eOr, eNot, eIf, eTup, eLst, eDict0, eDict, eSl, oNo, oSome, eCall, eCB, eM, eLc, eIsi2, aNil, aCons, pNil, pCons, tTr, tBl, tAndD, tOrD, tNotD, tsYes, gAdd, gI, gI0, gMns, gMul, gMod, gFdiv, gPow, gLt, gLe, gGt, gGe, gIs, isNon, gEq_ii, gEq_ss, gEq_bb, gEq_nn, gEq_ni, gEq_in, gEq_ns, gEq_sn, gEq_si, gEq_is, gIx, gSl, gIn, gLen, gAbs, gMax2, gMin2, gInt1, gList, gTuple, gSum, gAll, gIsi, tyD, tyM, gAppend, gPop0, gPopAt, gClear, gReverse, gJoin, gUpper, sAsg, nName, nTup, nCons, nNil, sSub, sRet, sRetN, sExpr, sIf, sNext, sBreak, sCont, sFor, iSeq, iRange1, iRange2, getS, setS, wipeS, endsD, toKey, asKeys, List.length_cons, List.length_nil, List.set_cons_zero, List.set_cons_succ, List.set_nil, Nat.zero_add, Nat.reduceAdd, Option.some.injEq, exists_and_left, exists_eq_left', exists_eq_left, id_eq, if_true, if_false, ite_true, ite_false, Bool.not_true, Bool.not_false, Bool.false_eq_true, not_false_eq_true, not_true_eq_false, reduceCtorEq, true_and, and_true, ne_eq, decide_eq_true_eq, isiN, isiCls, List.mem_cons, String.reduceEq, String.reduceBEq, or_true, true_or, or_false, false_or, Bool.or_true, Bool.true_or, Bool.false_or, Bool.or_false, Bool.and_false, Bool.false_and, Bool.true_and, Bool.and_true, beq_self_eq_true]
  refine take_spec h hb (by decide) (by decide) fun k S1 l u n1 g1 => ?_
  obtain ⟨x, hx⟩ := at_str (z := "abcdefghijklmnopqrstuvwxyz") l (by rw [alpha_len]; exact u)
  exact ⟨by rw [alpha_len]; exact small_line (by decide), x, hx, q x S1 n1 g1⟩
theorem word_spec {S : Sto} {p : Addr} {b n : Nat} {a c d e f g : Option D} {K : List D → Sto → Prop} (h : Pen S p b) (hn : n ≤ 1000) (hb : b + n ≤ 100000000)
    (q : ∀ (ys : List Str) (S' : Sto), (∀ y ∈ ys, y.length = 1) → ys.length = n → Pen S' p (b + n) → Kp p S S' → K (ys.map .str) S') :
    lcL (fun _ => True) (nName 6) tsYes c_law_4 [a, some (.ref p), c, d, e, f, g] K (rangeD 0 n) [] S := by
  refine lcL_inv _ (fun j acc S' => Pen S' p (b + j) ∧ Kp p S S' ∧ ones acc j) (fun _ _ _ _ => trivial) (fun j x acc S4 N2 hx h3 hN2 => ?el) (fun acc S4 h3 => ?af) ⟨h, .refl, [], rfl, (fun _ z => nomatch z), rfl⟩
  case el =>
    obtain ⟨n5, g5, ys, ea, hy, hl⟩ := h3
    have hj : j < n := by
      have := (List.getElem?_eq_some_iff.mp hx).1
      rw [rangeD_len] at this
      exact this
    show c_law_4 [a, some (.ref p), c, d, e, f, some x] S4 fun d S4 => acc.length < sizeLine ∧ N2 (acc ++ [d]) S4
    refine el_spec n5 (by omega) fun x S5 n6 g6 => ⟨?_, hN2 _ _ ⟨n6, g5.trans g6, ys ++ [⟨#[x]⟩], ?_, fun y h => ?_, ?_⟩⟩
    · rw [ea, List.length_map, hl]
      exact Nat.lt_of_lt_of_le (show j < 1001 by omega) (small_line (by decide))
    · rw [ea, List.map_append]
      rfl
    · rcases List.mem_append.mp h with h | h
      · exact hy y h
      · have e := List.mem_singleton.mp h
        subst e
        exact len_one x
    · rw [List.length_append, hl]
      rfl
  case af =>
    obtain ⟨n5, g5, ys, ea, hy, hl⟩ := h3
    rw [rangeD_len] at n5 hl
    subst ea
    exact q ys S4 hy hl n5 g5
end LW
namespace LW
open PySem L2 DL
/-- the six texts are told of alike -/
theorem six_spec {S : Sto} {zs : List Str} {D0 : DEnds} {a b c y0 e f g : Option D} (hz : ∀ z ∈ zs, z.length ≤ 2000) (q : ∀ S' y, Gr S S' → D0.nx [a, b, c, y, e, f, g] S') :
    forL (fun _ => True) (nName 3) l_law_5 D0 (zs.map .str) [a, b, c, y0, e, f, g] S := by
    have _u := 0
    refine forL_inv _ (fun i σ S' => Gr S S' ∧ ∃ y, σ = [a, b, c, y, e, f, g]) (fun _ _ _ _ => trivial) (fun i x σ S' N hx h hN => ?turn) (fun σ S' h => ?fin) ⟨.refl, _, rfl⟩
    case turn =>
      obtain ⟨gr, y, es⟩ := h
      subst es
      obtain ⟨z, hz2, ex⟩ := List.mem_map.mp (List.mem_of_getElem? hx)
      subst ex
      have hl := hz z hz2
      unfold l_law_5
      simp only [eVar, eC, eOp, eNeg, eChain, eAnd, eOr, eNot, eIf, eTup, eLst, eDict0, eDict, eSl, oNo, oSome, eCall, eCB, eM, eLc, eIsi2, aNil, aCons, pNil, pCons, tTr, tBl, tAndD, tOrD, tNotD, tsYes, gAdd, gI, gI0, gMns, gMul, gMod, gFdiv, gPow, gLt, gLe, gGt, gGe, gIs, isNon, gEq_ii, gEq_ss, gEq_bb, gEq_nn, gEq_ni, gEq_in, gEq_ns, gEq_sn, gEq_si, gEq_is, gIx, gSl, gIn, gLen, gAbs, gMax2, gMin2, gInt1, gList, gTuple, gSum, gAll, gIsi, tyD, tyM, gAppend, gPop0, gPopAt, gClear, gReverse, gJoin, gUpper, sAsg, nName, nTup, nCons, nNil, sSub, sRet, sRetN, sExpr, sIf, sNext, sBreak, sCont, sFor, iSeq, iRange1, iRange2, getS, setS, wipeS, endsD, toKey, asKeys, List.length_cons, List.length_nil, List.set_cons_zero, List.set_cons_succ, List.set_nil, Nat.zero_add, Nat.reduceAdd, Option.some.injEq, exists_and_left, exists_eq_left', exists_eq_left, id_eq, if_true, if_false, ite_true, ite_false, Bool.not_true, Bool.not_false, Bool.false_eq_true, not_false_eq_true, not_true_eq_false, reduceCtorEq, true_and, and_true, ne_eq, decide_eq_true_eq, isiN, isiCls, List.mem_cons, String.reduceEq, String.reduceBEq, or_true, true_or, or_false, false_or, Bool.or_true, Bool.true_or, Bool.false_or, Bool.or_false, Bool.and_false, Bool.false_and, Bool.true_and, Bool.and_true, beq_self_eq_true]
      refine isn_spec (small_line (by omega)) fun S2 g2 => wis_spec (small_line (by omega)) (same_spec ?_)
      simp only [eVar, eC, eOp, eNeg, eChain, eAnd, eOr, eNot, eIf, eTup, eLst, eDict0, eDict, eSl, oNo, oSome, eCall, eCB, eM, eLc, eIsi2, aNil, aCons, pNil, pCons, tTr, tBl, tAndD, tOrD, tNotD, tsYes, gAdd, gI, gI0, gMns, gMul, gMod, gFdiv, gPow, gLt, gLe, gGt, gGe, gIs, isNon, gEq_ii, gEq_ss, gEq_bb, gEq_nn, gEq_ni, gEq_in, gEq_ns, gEq_sn, gEq_si, gEq_is, gIx, gSl, gIn, gLen, gAbs, gMax2, gMin2, gInt1, gList, gTuple, gSum, gAll, gIsi, tyD, tyM, gAppend, gPop0, gPopAt, gClear, gReverse, gJoin, gUpper, sAsg, nName, nTup, nCons, nNil, sSub, sRet, sRetN, sExpr, sIf, sNext, sBreak, sCont, sFor, iSeq, iRange1, iRange2, getS, setS, wipeS, endsD, toKey, asKeys, List.length_cons, List.length_nil, List.set_cons_zero, List.set_cons_succ, List.set_nil, Nat.zero_add, Nat.reduceAdd, Option.some.injEq, exists_and_left, exists_eq_left', exists_eq_left, id_eq, if_true, if_false, ite_true, ite_false, Bool.not_true, Bool.not_false, Bool.false_eq_true, not_false_eq_true, not_true_eq_false, reduceCtorEq, true_and, and_true, ne_eq, decide_eq_true_eq, isiN, isiCls, List.mem_cons, String.reduceEq, String.reduceBEq, or_true, true_or, or_false, false_or, Bool.or_true, Bool.true_or, Bool.false_or, Bool.or_false, Bool.and_false, Bool.false_and, Bool.true_and, Bool.and_true, beq_self_eq_true]
      exact hN _ _ ⟨gr.trans g2, _, rfl⟩
    case fin =>
      obtain ⟨gr, y, es⟩ := h
      subst es
      exact q _ _ gr
theorem turn_spec {S : Sto} {p : Addr} {i : Nat} {N : DL.Env → Sto → Prop} {D1 : DL.Env → Sto → Prop} {R : DK} {a0 y3 y4 y5 y6 : Option D} {k : Int} (n2 : Pen S p (100 * i)) (hi : i < 12)
    (hN : ∀ y2 y3 y4 y5 y6 S', Pen S' p (100 * (i + 1)) → N [a0, some (.ref p), y2, y3, y4, y5, y6] S') :
    l_law_2 ⟨N, R, D1, N⟩ [a0, some (.ref p), some (.int k), y3, y4, y5, y6] S := by
  refine seq_i ?_
  simp only [eVar, eC, eOp, eNeg, eChain, eAnd, eOr, eNot, eIf, eTup, eLst, eDict0, eDict, eSl, oNo, oSome, eCall, eCB, eM, eLc, eIsi2, aNil, aCons, pNil, pCons, tTr, tBl, tAndD, tOrD, tNotD, tsYes, gAdd, gI, gI0, gMns, gMul, gMod, gFdiv, gPow, gLt, gLe, gGt, gGe, gIs, isNon, gEq_ii, gEq_ss, gEq_bb, gEq_nn, gEq_ni, gEq_in, gEq_ns, gEq_sn, gEq_si, gEq_is, gIx, gSl, gIn, gLen, gAbs, gMax2, gMin2, gInt1, gList, gTuple, gSum, gAll, gIsi, tyD, tyM, gAppend, gPop0, gPopAt, gClear, gReverse, gJoin, gUpper, sAsg, nName, nTup, nCons, nNil, sSub, sRet, sRetN, sExpr, sIf, sNext, sBreak, sCont, sFor, iSeq, iRange1, iRange2, getS, setS, wipeS, endsD, toKey, asKeys, List.length_cons, List.length_nil, List.set_cons_zero, List.set_cons_succ, List.set_nil, Nat.zero_add, Nat.reduceAdd, Option.some.injEq, exists_and_left, exists_eq_left', exists_eq_left, id_eq, if_true, if_false, ite_true, ite_false, Bool.not_true, Bool.not_false, Bool.false_eq_true, not_false_eq_true, not_true_eq_false, reduceCtorEq, true_and, and_true, ne_eq, decide_eq_true_eq, isiN, isiCls, List.mem_cons, String.reduceEq, String.reduceBEq, or_true, true_or, or_false, false_or, Bool.or_true, Bool.true_or, Bool.false_or, Bool.or_false, Bool.and_false, Bool.false_and, Bool.true_and, Bool.and_true, beq_self_eq_true]
  refine take_spec n2 (by omega) (by decide) (by decide) fun k1 S2 l2 u2 n3 g2 => ?_
  simp only [eVar, eC, eOp, eNeg, eChain, eAnd, eOr, eNot, eIf, eTup, eLst, eDict0, eDict, eSl, oNo, oSome, eCall, eCB, eM, eLc, eIsi2, aNil, aCons, pNil, pCons, tTr, tBl, tAndD, tOrD, tNotD, tsYes, gAdd, gI, gI0, gMns, gMul, gMod, gFdiv, gPow, gLt, gLe, gGt, gGe, gIs, isNon, gEq_ii, gEq_ss, gEq_bb, gEq_nn, gEq_ni, gEq_in, gEq_ns, gEq_sn, gEq_si, gEq_is, gIx, gSl, gIn, gLen, gAbs, gMax2, gMin2, gInt1, gList, gTuple, gSum, gAll, gIsi, tyD, tyM, gAppend, gPop0, gPopAt, gClear, gReverse, gJoin, gUpper, sAsg, nName, nTup, nCons, nNil, sSub, sRet, sRetN, sExpr, sIf, sNext, sBreak, sCont, sFor, iSeq, iRange1, iRange2, getS, setS, wipeS, endsD, toKey, asKeys, List.length_cons, List.length_nil, List.set_cons_zero, List.set_cons_succ, List.set_nil, Nat.zero_add, Nat.reduceAdd, Option.some.injEq, exists_and_left, exists_eq_left', exists_eq_left, id_eq, if_true, if_false, ite_true, ite_false, Bool.not_true, Bool.not_false, Bool.false_eq_true, not_false_eq_true, not_true_eq_false, reduceCtorEq, true_and, and_true, ne_eq, decide_eq_true_eq, isiN, isiCls, List.mem_cons, String.reduceEq, String.reduceBEq, or_true, true_or, or_false, false_or, Bool.or_true, Bool.true_or, Bool.false_or, Bool.or_false, Bool.and_false, Bool.false_and, Bool.true_and, Bool.and_true, beq_self_eq_true]
  refine ⟨small_line (by decide), fun p1 hp1 => ?_⟩
  have n3' := n3.new (o := .lst [.int 1, .int 8, .int (1 + k1)]) hp1
  refine take_spec n3' (by omega) (by decide) (by decide) fun k2 S3 l3 u3 n4 g3 => ?_
  have e1 : S3 p1 = some (.lst [.int 1, .int 8, .int (1 + k1)]) := g3 _ _ (ne_pen n3 hp1) updS_same
  simp only [eVar, eC, eOp, eNeg, eChain, eAnd, eOr, eNot, eIf, eTup, eLst, eDict0, eDict, eSl, oNo, oSome, eCall, eCB, eM, eLc, eIsi2, aNil, aCons, pNil, pCons, tTr, tBl, tAndD, tOrD, tNotD, tsYes, gAdd, gI, gI0, gMns, gMul, gMod, gFdiv, gPow, gLt, gLe, gGt, gGe, gIs, isNon, gEq_ii, gEq_ss, gEq_bb, gEq_nn, gEq_ni, gEq_in, gEq_ns, gEq_sn, gEq_si, gEq_is, gIx, gSl, gIn, gLen, gAbs, gMax2, gMin2, gInt1, gList, gTuple, gSum, gAll, gIsi, tyD, tyM, gAppend, gPop0, gPopAt, gClear, gReverse, gJoin, gUpper, sAsg, nName, nTup, nCons, nNil, sSub, sRet, sRetN, sExpr, sIf, sNext, sBreak, sCont, sFor, iSeq, iRange1, iRange2, getS, setS, wipeS, endsD, toKey, asKeys, List.length_cons, List.length_nil, List.set_cons_zero, List.set_cons_succ, List.set_nil, Nat.zero_add, Nat.reduceAdd, Option.some.injEq, exists_and_left, exists_eq_left', exists_eq_left, id_eq, if_true, if_false, ite_true, ite_false, Bool.not_true, Bool.not_false, Bool.false_eq_true, not_false_eq_true, not_true_eq_false, reduceCtorEq, true_and, and_true, ne_eq, decide_eq_true_eq, isiN, isiCls, List.mem_cons, String.reduceEq, String.reduceBEq, or_true, true_or, or_false, false_or, Bool.or_true, Bool.true_or, Bool.false_or, Bool.or_false, Bool.and_false, Bool.false_and, Bool.true_and, Bool.and_true, beq_self_eq_true, e1]
  have hsz : ∃ sz : Int, atI [D.int 1, D.int 8, D.int (1 + k1)] k2 = some (.int sz) ∧ 1 ≤ sz ∧ sz ≤ 8 := by
    have c3 : k2 = 0 ∨ k2 = 1 ∨ k2 = 2 := by omega
    rcases c3 with e | e | e <;> subst e
    · exact ⟨1, rfl, by decide, by decide⟩
    · exact ⟨8, rfl, by decide, by decide⟩
    · exact ⟨1 + k1, rfl, by omega, by omega⟩
  obtain ⟨sz, hs, s1, s8⟩ := hsz
  refine ⟨_, hs, seq_i ?_⟩
  simp only [eVar, eC, eOp, eNeg, eChain, eAnd, eOr, eNot, eIf, eTup, eLst, eDict0, eDict, eSl, oNo, oSome, eCall, eCB, eM, eLc, eIsi2, aNil, aCons, pNil, pCons, tTr, tBl, tAndD, tOrD, tNotD, tsYes, gAdd, gI, gI0, gMns, gMul, gMod, gFdiv, gPow, gLt, gLe, gGt, gGe, gIs, isNon, gEq_ii, gEq_ss, gEq_bb, gEq_nn, gEq_ni, gEq_in, gEq_ns, gEq_sn, gEq_si, gEq_is, gIx, gSl, gIn, gLen, gAbs, gMax2, gMin2, gInt1, gList, gTuple, gSum, gAll, gIsi, tyD, tyM, gAppend, gPop0, gPopAt, gClear, gReverse, gJoin, gUpper, sAsg, nName, nTup, nCons, nNil, sSub, sRet, sRetN, sExpr, sIf, sNext, sBreak, sCont, sFor, iSeq, iRange1, iRange2, getS, setS, wipeS, endsD, toKey, asKeys, List.length_cons, List.length_nil, List.set_cons_zero, List.set_cons_succ, List.set_nil, Nat.zero_add, Nat.reduceAdd, Option.some.injEq, exists_and_left, exists_eq_left', exists_eq_left, id_eq, if_true, if_false, ite_true, ite_false, Bool.not_true, Bool.not_false, Bool.false_eq_true, not_false_eq_true, not_true_eq_false, reduceCtorEq, true_and, and_true, ne_eq, decide_eq_true_eq, isiN, isiCls, List.mem_cons, String.reduceEq, String.reduceBEq, or_true, true_or, or_false, false_or, Bool.or_true, Bool.true_or, Bool.false_or, Bool.or_false, Bool.and_false, Bool.false_and, Bool.true_and, Bool.and_true, beq_self_eq_true]
  refine ⟨by omega, by omega, word_spec n4 (by omega) (by omega) fun ys S4 hy hl n5 g5 => ?_⟩
  intro p2 hp2
  have hsum := sum_ones hy
  have e0 : (("" : Str)).length = 0 := by decide +kernel
  refine ⟨ys, updS_same, by rw [hsum, e0]; omega, for_i ?_⟩
  have hw := len_join hy
  have n6 := n5.new (o := .lst (ys.map .str)) hp2
  generalize Txt.join "" ys = z at hw
  generalize updS S4 p2 (.lst (ys.map .str)) = S5 at n6
  simp only [eVar, eC, eOp, eNeg, eChain, eAnd, eOr, eNot, eIf, eTup, eLst, eDict0, eDict, eSl, oNo, oSome, eCall, eCB, eM, eLc, eIsi2, aNil, aCons, pNil, pCons, tTr, tBl, tAndD, tOrD, tNotD, tsYes, gAdd, gI, gI0, gMns, gMul, gMod, gFdiv, gPow, gLt, gLe, gGt, gGe, gIs, isNon, gEq_ii, gEq_ss, gEq_bb, gEq_nn, gEq_ni, gEq_in, gEq_ns, gEq_sn, gEq_si, gEq_is, gIx, gSl, gIn, gLen, gAbs, gMax2, gMin2, gInt1, gList, gTuple, gSum, gAll, gIsi, tyD, tyM, gAppend, gPop0, gPopAt, gClear, gReverse, gJoin, gUpper, sAsg, nName, nTup, nCons, nNil, sSub, sRet, sRetN, sExpr, sIf, sNext, sBreak, sCont, sFor, iSeq, iRange1, iRange2, getS, setS, wipeS, endsD, toKey, asKeys, List.length_cons, List.length_nil, List.set_cons_zero, List.set_cons_succ, List.set_nil, Nat.zero_add, Nat.reduceAdd, Option.some.injEq, exists_and_left, exists_eq_left', exists_eq_left, id_eq, if_true, if_false, ite_true, ite_false, Bool.not_true, Bool.not_false, Bool.false_eq_true, not_false_eq_true, not_true_eq_false, reduceCtorEq, true_and, and_true, ne_eq, decide_eq_true_eq, isiN, isiCls, List.mem_cons, String.reduceEq, String.reduceBEq, or_true, true_or, or_false, false_or, Bool.or_true, Bool.true_or, Bool.false_or, Bool.or_false, Bool.and_false, Bool.false_and, Bool.true_and, Bool.and_true, beq_self_eq_true]
  refine bent_spec n6 (by omega) (by omega) (by omega) fun z1 S6 h1 n7 g7 => ?_
  refine bent_spec n7 (by omega) (by omega) (by omega) fun z2 S7 h2 n8 g8 => ?_
  have hu := PyProof.Rows.len_upper z
  refine ⟨small_line (by omega), by omega, small_line (by decide), ?_⟩
  refine six_spec (zs := [z, z1, z2, z ++ z, Txt.upper z, z]) (fun w hw2 => ?_) fun S8 y g => hN _ _ _ _ _ _ ((n8.keep g).mono (by omega))
  simp only [List.mem_cons, List.not_mem_nil, or_false] at hw2
  rcases hw2 with e | e | e | e | e | e <;> subst e <;> first | omega | (rw [len_app]; omega)
/-- the things of other kinds -/
theorem odd_spec {S : Sto} {xs : List D} {D0 : DEnds} {a b c y0 e f g : Option D} (hx : ∀ x ∈ xs, (∃ t, tyD x S = some t ∧ t ≠ "str" ∧ t ≠ "bool") ∨ (∃ k, x = .bl k) ∨ x = .str "") (q : ∀ S' y, Gr S S' → D0.nx [a, b, c, y, e, f, g] S') :
    forL (fun _ => True) (nName 3) l_law_8 D0 xs [a, b, c, y0, e, f, g] S := by
  refine forL_inv _ (fun i σ S' => Gr S S' ∧ ∃ y, σ = [a, b, c, y, e, f, g]) (fun _ _ _ _ => trivial) (fun i x σ S' N hx2 h hN => ?turn) (fun σ S' h => ?fin) ⟨.refl, _, rfl⟩
  case turn =>
    obtain ⟨gr, y, es⟩ := h
    subst es
    unfold l_law_8
    have go : ∀ S2, Gr S S2 → N [a, b, c, some x, e, f, g] S2 := fun S2 g2 => hN _ _ ⟨g2, _, rfl⟩
    rcases hx x (List.mem_of_getElem? hx2) with ⟨t, ht, h1, h2⟩ | ⟨k, ek⟩ | ez
    · simp only [eVar, eC, eOp, eNeg, eChain, eAnd, eOr, eNot, eIf, eTup, eLst, eDict0, eDict, eSl, oNo, oSome, eCall, eCB, eM, eLc, eIsi2, aNil, aCons, pNil, pCons, tTr, tBl, tAndD, tOrD, tNotD, tsYes, gAdd, gI, gI0, gMns, gMul, gMod, gFdiv, gPow, gLt, gLe, gGt, gGe, gIs, isNon, gEq_ii, gEq_ss, gEq_bb, gEq_nn, gEq_ni, gEq_in, gEq_ns, gEq_sn, gEq_si, gEq_is, gIx, gSl, gIn, gLen, gAbs, gMax2, gMin2, gInt1, gList, gTuple, gSum, gAll, gIsi, tyD, tyM, gAppend, gPop0, gPopAt, gClear, gReverse, gJoin, gUpper, sAsg, nName, nTup, nCons, nNil, sSub, sRet, sRetN, sExpr, sIf, sNext, sBreak, sCont, sFor, iSeq, iRange1, iRange2, getS, setS, wipeS, endsD, toKey, asKeys, List.length_cons, List.length_nil, List.set_cons_zero, List.set_cons_succ, List.set_nil, Nat.zero_add, Nat.reduceAdd, Option.some.injEq, exists_and_left, exists_eq_left', exists_eq_left, id_eq, if_true, if_false, ite_true, ite_false, Bool.not_true, Bool.not_false, Bool.false_eq_true, not_false_eq_true, not_true_eq_false, reduceCtorEq, true_and, and_true, ne_eq, decide_eq_true_eq, isiN, isiCls, List.mem_cons, String.reduceEq, String.reduceBEq, or_true, true_or, or_false, false_or, Bool.or_true, Bool.true_or, Bool.false_or, Bool.or_false, Bool.and_false, Bool.false_and, Bool.true_and, Bool.and_true, beq_self_eq_true]
      have ht2 : tyD x S' = some t := by
        unfold tyD at ht ⊢
        cases x <;> try exact ht
        rename_i p
        cases h : S p with
        | none => simp only [h] at ht; cases ht
        | some o => simp only [h] at ht; simp only [gr p o h]; exact ht
      refine isn_no ht2 h1 h2 ?_
      simp only [eVar, eC, eOp, eNeg, eChain, eAnd, eOr, eNot, eIf, eTup, eLst, eDict0, eDict, eSl, oNo, oSome, eCall, eCB, eM, eLc, eIsi2, aNil, aCons, pNil, pCons, tTr, tBl, tAndD, tOrD, tNotD, tsYes, gAdd, gI, gI0, gMns, gMul, gMod, gFdiv, gPow, gLt, gLe, gGt, gGe, gIs, isNon, gEq_ii, gEq_ss, gEq_bb, gEq_nn, gEq_ni, gEq_in, gEq_ns, gEq_sn, gEq_si, gEq_is, gIx, gSl, gIn, gLen, gAbs, gMax2, gMin2, gInt1, gList, gTuple, gSum, gAll, gIsi, tyD, tyM, gAppend, gPop0, gPopAt, gClear, gReverse, gJoin, gUpper, sAsg, nName, nTup, nCons, nNil, sSub, sRet, sRetN, sExpr, sIf, sNext, sBreak, sCont, sFor, iSeq, iRange1, iRange2, getS, setS, wipeS, endsD, toKey, asKeys, List.length_cons, List.length_nil, List.set_cons_zero, List.set_cons_succ, List.set_nil, Nat.zero_add, Nat.reduceAdd, Option.some.injEq, exists_and_left, exists_eq_left', exists_eq_left, id_eq, if_true, if_false, ite_true, ite_false, Bool.not_true, Bool.not_false, Bool.false_eq_true, not_false_eq_true, not_true_eq_false, reduceCtorEq, true_and, and_true, ne_eq, decide_eq_true_eq, isiN, isiCls, List.mem_cons, String.reduceEq, String.reduceBEq, or_true, true_or, or_false, false_or, Bool.or_true, Bool.true_or, Bool.false_or, Bool.or_false, Bool.and_false, Bool.false_and, Bool.true_and, Bool.and_true, beq_self_eq_true]
      exact go _ gr
    · subst ek
      simp only [eVar, eC, eOp, eNeg, eChain, eAnd, eOr, eNot, eIf, eTup, eLst, eDict0, eDict, eSl, oNo, oSome, eCall, eCB, eM, eLc, eIsi2, aNil, aCons, pNil, pCons, tTr, tBl, tAndD, tOrD, tNotD, tsYes, gAdd, gI, gI0, gMns, gMul, gMod, gFdiv, gPow, gLt, gLe, gGt, gGe, gIs, isNon, gEq_ii, gEq_ss, gEq_bb, gEq_nn, gEq_ni, gEq_in, gEq_ns, gEq_sn, gEq_si, gEq_is, gIx, gSl, gIn, gLen, gAbs, gMax2, gMin2, gInt1, gList, gTuple, gSum, gAll, gIsi, tyD, tyM, gAppend, gPop0, gPopAt, gClear, gReverse, gJoin, gUpper, sAsg, nName, nTup, nCons, nNil, sSub, sRet, sRetN, sExpr, sIf, sNext, sBreak, sCont, sFor, iSeq, iRange1, iRange2, getS, setS, wipeS, endsD, toKey, asKeys, List.length_cons, List.length_nil, List.set_cons_zero, List.set_cons_succ, List.set_nil, Nat.zero_add, Nat.reduceAdd, Option.some.injEq, exists_and_left, exists_eq_left', exists_eq_left, id_eq, if_true, if_false, ite_true, ite_false, Bool.not_true, Bool.not_false, Bool.false_eq_true, not_false_eq_true, not_true_eq_false, reduceCtorEq, true_and, and_true, ne_eq, decide_eq_true_eq, isiN, isiCls, List.mem_cons, String.reduceEq, String.reduceBEq, or_true, true_or, or_false, false_or, Bool.or_true, Bool.true_or, Bool.false_or, Bool.or_false, Bool.and_false, Bool.false_and, Bool.true_and, Bool.and_true, beq_self_eq_true]
      refine isn_bool ?_
      simp only [eVar, eC, eOp, eNeg, eChain, eAnd, eOr, eNot, eIf, eTup, eLst, eDict0, eDict, eSl, oNo, oSome, eCall, eCB, eM, eLc, eIsi2, aNil, aCons, pNil, pCons, tTr, tBl, tAndD, tOrD, tNotD, tsYes, gAdd, gI, gI0, gMns, gMul, gMod, gFdiv, gPow, gLt, gLe, gGt, gGe, gIs, isNon, gEq_ii, gEq_ss, gEq_bb, gEq_nn, gEq_ni, gEq_in, gEq_ns, gEq_sn, gEq_si, gEq_is, gIx, gSl, gIn, gLen, gAbs, gMax2, gMin2, gInt1, gList, gTuple, gSum, gAll, gIsi, tyD, tyM, gAppend, gPop0, gPopAt, gClear, gReverse, gJoin, gUpper, sAsg, nName, nTup, nCons, nNil, sSub, sRet, sRetN, sExpr, sIf, sNext, sBreak, sCont, sFor, iSeq, iRange1, iRange2, getS, setS, wipeS, endsD, toKey, asKeys, List.length_cons, List.length_nil, List.set_cons_zero, List.set_cons_succ, List.set_nil, Nat.zero_add, Nat.reduceAdd, Option.some.injEq, exists_and_left, exists_eq_left', exists_eq_left, id_eq, if_true, if_false, ite_true, ite_false, Bool.not_true, Bool.not_false, Bool.false_eq_true, not_false_eq_true, not_true_eq_false, reduceCtorEq, true_and, and_true, ne_eq, decide_eq_true_eq, isiN, isiCls, List.mem_cons, String.reduceEq, String.reduceBEq, or_true, true_or, or_false, false_or, Bool.or_true, Bool.true_or, Bool.false_or, Bool.or_false, Bool.and_false, Bool.false_and, Bool.true_and, Bool.and_true, beq_self_eq_true]
      exact go _ gr
    · subst ez
      simp only [eVar, eC, eOp, eNeg, eChain, eAnd, eOr, eNot, eIf, eTup, eLst, eDict0, eDict, eSl, oNo, oSome, eCall, eCB, eM, eLc, eIsi2, aNil, aCons, pNil, pCons, tTr, tBl, tAndD, tOrD, tNotD, tsYes, gAdd, gI, gI0, gMns, gMul, gMod, gFdiv, gPow, gLt, gLe, gGt, gGe, gIs, isNon, gEq_ii, gEq_ss, gEq_bb, gEq_nn, gEq_ni, gEq_in, gEq_ns, gEq_sn, gEq_si, gEq_is, gIx, gSl, gIn, gLen, gAbs, gMax2, gMin2, gInt1, gList, gTuple, gSum, gAll, gIsi, tyD, tyM, gAppend, gPop0, gPopAt, gClear, gReverse, gJoin, gUpper, sAsg, nName, nTup, nCons, nNil, sSub, sRet, sRetN, sExpr, sIf, sNext, sBreak, sCont, sFor, iSeq, iRange1, iRange2, getS, setS, wipeS, endsD, toKey, asKeys, List.length_cons, List.length_nil, List.set_cons_zero, List.set_cons_succ, List.set_nil, Nat.zero_add, Nat.reduceAdd, Option.some.injEq, exists_and_left, exists_eq_left', exists_eq_left, id_eq, if_true, if_false, ite_true, ite_false, Bool.not_true, Bool.not_false, Bool.false_eq_true, not_false_eq_true, not_true_eq_false, reduceCtorEq, true_and, and_true, ne_eq, decide_eq_true_eq, isiN, isiCls, List.mem_cons, String.reduceEq, String.reduceBEq, or_true, true_or, or_false, false_or, Bool.or_true, Bool.true_or, Bool.false_or, Bool.or_false, Bool.and_false, Bool.false_and, Bool.true_and, Bool.and_true, beq_self_eq_true]
      refine isn_spec (by decide +kernel) fun S2 g2 => ?_
      have e0 : nm ("" : Str) = false := by decide +kernel
      simp only [eVar, eC, eOp, eNeg, eChain, eAnd, eOr, eNot, eIf, eTup, eLst, eDict0, eDict, eSl, oNo, oSome, eCall, eCB, eM, eLc, eIsi2, aNil, aCons, pNil, pCons, tTr, tBl, tAndD, tOrD, tNotD, tsYes, gAdd, gI, gI0, gMns, gMul, gMod, gFdiv, gPow, gLt, gLe, gGt, gGe, gIs, isNon, gEq_ii, gEq_ss, gEq_bb, gEq_nn, gEq_ni, gEq_in, gEq_ns, gEq_sn, gEq_si, gEq_is, gIx, gSl, gIn, gLen, gAbs, gMax2, gMin2, gInt1, gList, gTuple, gSum, gAll, gIsi, tyD, tyM, gAppend, gPop0, gPopAt, gClear, gReverse, gJoin, gUpper, sAsg, nName, nTup, nCons, nNil, sSub, sRet, sRetN, sExpr, sIf, sNext, sBreak, sCont, sFor, iSeq, iRange1, iRange2, getS, setS, wipeS, endsD, toKey, asKeys, List.length_cons, List.length_nil, List.set_cons_zero, List.set_cons_succ, List.set_nil, Nat.zero_add, Nat.reduceAdd, Option.some.injEq, exists_and_left, exists_eq_left', exists_eq_left, id_eq, if_true, if_false, ite_true, ite_false, Bool.not_true, Bool.not_false, Bool.false_eq_true, not_false_eq_true, not_true_eq_false, reduceCtorEq, true_and, and_true, ne_eq, decide_eq_true_eq, isiN, isiCls, List.mem_cons, String.reduceEq, String.reduceBEq, or_true, true_or, or_false, false_or, Bool.or_true, Bool.true_or, Bool.false_or, Bool.or_false, Bool.and_false, Bool.false_and, Bool.true_and, Bool.and_true, beq_self_eq_true, e0]
      exact go _ (gr.trans g2)
  case fin =>
    obtain ⟨gr, y, es⟩ := h
    subst es
    exact q _ _ gr
theorem law_true (ns : List Int) (h : ns.length ≤ 63) : m_law [.fl (ns.map .int)] (fun _ => none) (fun d _ => d = .bl true) := by
  rw [e_law]
  refine seq_i ?_
  simp only [eVar, eC, eOp, eNeg, eChain, eAnd, eOr, eNot, eIf, eTup, eLst, eDict0, eDict, eSl, oNo, oSome, eCall, eCB, eM, eLc, eIsi2, aNil, aCons, pNil, pCons, tTr, tBl, tAndD, tOrD, tNotD, tsYes, gAdd, gI, gI0, gMns, gMul, gMod, gFdiv, gPow, gLt, gLe, gGt, gGe, gIs, isNon, gEq_ii, gEq_ss, gEq_bb, gEq_nn, gEq_ni, gEq_in, gEq_ns, gEq_sn, gEq_si, gEq_is, gIx, gSl, gIn, gLen, gAbs, gMax2, gMin2, gInt1, gList, gTuple, gSum, gAll, gIsi, tyD, tyM, gAppend, gPop0, gPopAt, gClear, gReverse, gJoin, gUpper, sAsg, nName, nTup, nCons, nNil, sSub, sRet, sRetN, sExpr, sIf, sNext, sBreak, sCont, sFor, iSeq, iRange1, iRange2, getS, setS, wipeS, endsD, toKey, asKeys, List.length_cons, List.length_nil, List.set_cons_zero, List.set_cons_succ, List.set_nil, Nat.zero_add, Nat.reduceAdd, Option.some.injEq, exists_and_left, exists_eq_left', exists_eq_left, id_eq, if_true, if_false, ite_true, ite_false, Bool.not_true, Bool.not_false, Bool.false_eq_true, not_false_eq_true, not_true_eq_false, reduceCtorEq, true_and, and_true, ne_eq, decide_eq_true_eq, isiN, isiCls, List.mem_cons, String.reduceEq, String.reduceBEq, or_true, true_or, or_false, false_or, Bool.or_true, Bool.true_or, Bool.false_or, Bool.or_false, Bool.and_false, Bool.false_and, Bool.true_and, Bool.and_true, beq_self_eq_true]
  refine pen_spec fun p S1 n1 g1 => seq_i ?_
  simp only [eVar, eC, eOp, eNeg, eChain, eAnd, eOr, eNot, eIf, eTup, eLst, eDict0, eDict, eSl, oNo, oSome, eCall, eCB, eM, eLc, eIsi2, aNil, aCons, pNil, pCons, tTr, tBl, tAndD, tOrD, tNotD, tsYes, gAdd, gI, gI0, gMns, gMul, gMod, gFdiv, gPow, gLt, gLe, gGt, gGe, gIs, isNon, gEq_ii, gEq_ss, gEq_bb, gEq_nn, gEq_ni, gEq_in, gEq_ns, gEq_sn, gEq_si, gEq_is, gIx, gSl, gIn, gLen, gAbs, gMax2, gMin2, gInt1, gList, gTuple, gSum, gAll, gIsi, tyD, tyM, gAppend, gPop0, gPopAt, gClear, gReverse, gJoin, gUpper, sAsg, nName, nTup, nCons, nNil, sSub, sRet, sRetN, sExpr, sIf, sNext, sBreak, sCont, sFor, iSeq, iRange1, iRange2, getS, setS, wipeS, endsD, toKey, asKeys, List.length_cons, List.length_nil, List.set_cons_zero, List.set_cons_succ, List.set_nil, Nat.zero_add, Nat.reduceAdd, Option.some.injEq, exists_and_left, exists_eq_left', exists_eq_left, id_eq, if_true, if_false, ite_true, ite_false, Bool.not_true, Bool.not_false, Bool.false_eq_true, not_false_eq_true, not_true_eq_false, reduceCtorEq, true_and, and_true, ne_eq, decide_eq_true_eq, isiN, isiCls, List.mem_cons, String.reduceEq, String.reduceBEq, or_true, true_or, or_false, false_or, Bool.or_true, Bool.true_or, Bool.false_or, Bool.or_false, Bool.and_false, Bool.false_and, Bool.true_and, Bool.and_true, beq_self_eq_true]
  refine ⟨by decide, by decide, ?_⟩
  refine forR_inv 0 12 (fun i σ S => Pen S p (100 * i) ∧ ∃ y2 y3 y4 y5 y6, σ = [some (.fl (ns.map .int)), some (.ref p), y2, y3, y4, y5, y6]) (fun _ _ _ _ => trivial) (fun i σ S N hi h hN => ?turn) (fun σ S h => ?fin) ⟨n1, _, _, _, _, _, rfl⟩
  case turn =>
    obtain ⟨n2, y2, y3, y4, y5, y6, e⟩ := h
    subst e
    exact turn_spec n2 hi fun y2 y3 y4 y5 y6 S' n3 => hN _ _ ⟨n3, y2, y3, y4, y5, y6, rfl⟩
  case fin =>
    obtain ⟨n2, y2, y3, y4, y5, y6, e⟩ := h
    subst e
    show t_law_8 _ _ _
    refine seq_i ?_
    simp only [eVar, eC, eOp, eNeg, eChain, eAnd, eOr, eNot, eIf, eTup, eLst, eDict0, eDict, eSl, oNo, oSome, eCall, eCB, eM, eLc, eIsi2, aNil, aCons, pNil, pCons, tTr, tBl, tAndD, tOrD, tNotD, tsYes, gAdd, gI, gI0, gMns, gMul, gMod, gFdiv, gPow, gLt, gLe, gGt, gGe, gIs, isNon, gEq_ii, gEq_ss, gEq_bb, gEq_nn, gEq_ni, gEq_in, gEq_ns, gEq_sn, gEq_si, gEq_is, gIx, gSl, gIn, gLen, gAbs, gMax2, gMin2, gInt1, gList, gTuple, gSum, gAll, gIsi, tyD, tyM, gAppend, gPop0, gPopAt, gClear, gReverse, gJoin, gUpper, sAsg, nName, nTup, nCons, nNil, sSub, sRet, sRetN, sExpr, sIf, sNext, sBreak, sCont, sFor, iSeq, iRange1, iRange2, getS, setS, wipeS, endsD, toKey, asKeys, List.length_cons, List.length_nil, List.set_cons_zero, List.set_cons_succ, List.set_nil, Nat.zero_add, Nat.reduceAdd, Option.some.injEq, exists_and_left, exists_eq_left', exists_eq_left, id_eq, if_true, if_false, ite_true, ite_false, Bool.not_true, Bool.not_false, Bool.false_eq_true, not_false_eq_true, not_true_eq_false, reduceCtorEq, true_and, and_true, ne_eq, decide_eq_true_eq, isiN, isiCls, List.mem_cons, String.reduceEq, String.reduceBEq, or_true, true_or, or_false, false_or, Bool.or_true, Bool.true_or, Bool.false_or, Bool.or_false, Bool.and_false, Bool.false_and, Bool.true_and, Bool.and_true, beq_self_eq_true]
    have sl : ∀ n, n ≤ 100 → n ≤ sizeLine := fun n hn => small_line (by omega)
    refine ⟨sl _ (by decide), sl _ (by decide), fun p1 h1 p2 h2 => ⟨sl _ (by decide), sl _ (by decide), fun p3 h3 => ⟨by decide, fun p4 h4 => ⟨sl _ (by decide), sl _ (by decide), fun p5 h5 => ⟨sl _ (by decide), fun p6 h6 => ⟨sl _ (by decide), ?_⟩⟩⟩⟩⟩⟩
    have G2 := Gr.new (o := .dk []) h2
    have G3 := Gr.new (o := .lst [.str "a"]) h3
    have G4 := Gr.new (o := .dk (mergeD [] [(.inr "a", .int 1)])) h4
    have G5 := Gr.new (o := .lst [.str "a"]) h5
    have G6 := Gr.new (o := .lst [.ref p5]) h6
    have f1 := G6 _ _ (G5 _ _ (G4 _ _ (G3 _ _ (G2 p1 (.lst []) updS_same))))
    have f2 := G6 _ _ (G5 _ _ (G4 _ _ (G3 p2 (.dk []) updS_same)))
    have f3 := G6 _ _ (G5 _ _ (G4 p3 (.lst [.str "a"]) updS_same))
    have f4 := G6 _ _ (G5 p4 (.dk (mergeD [] [(.inr "a", .int 1)])) updS_same)
    have f6 : updS (updS (updS (updS (updS (updS S p1 (.lst [])) p2 (.dk [])) p3 (.lst [.str "a"])) p4 (.dk (mergeD [] [(.inr "a", .int 1)]))) p5 (.lst [.str "a"])) p6 (.lst [.ref p5]) p6 = some (.lst [.ref p5]) := updS_same
    generalize updS (updS (updS (updS (updS (updS S p1 (.lst [])) p2 (.dk [])) p3 (.lst [.str "a"])) p4 (.dk (mergeD [] [(.inr "a", .int 1)]))) p5 (.lst [.str "a"])) p6 (.lst [.ref p5]) = S9 at f1 f2 f3 f4 f6
    refine odd_spec (fun x hx => ?_) fun S' y g => ?last
    case last =>
      dsimp only
      unfold t_law_11
      simp only [eVar, eC, eOp, eNeg, eChain, eAnd, eOr, eNot, eIf, eTup, eLst, eDict0, eDict, eSl, oNo, oSome, eCall, eCB, eM, eLc, eIsi2, aNil, aCons, pNil, pCons, tTr, tBl, tAndD, tOrD, tNotD, tsYes, gAdd, gI, gI0, gMns, gMul, gMod, gFdiv, gPow, gLt, gLe, gGt, gGe, gIs, isNon, gEq_ii, gEq_ss, gEq_bb, gEq_nn, gEq_ni, gEq_in, gEq_ns, gEq_sn, gEq_si, gEq_is, gIx, gSl, gIn, gLen, gAbs, gMax2, gMin2, gInt1, gList, gTuple, gSum, gAll, gIsi, tyD, tyM, gAppend, gPop0, gPopAt, gClear, gReverse, gJoin, gUpper, sAsg, nName, nTup, nCons, nNil, sSub, sRet, sRetN, sExpr, sIf, sNext, sBreak, sCont, sFor, iSeq, iRange1, iRange2, getS, setS, wipeS, endsD, toKey, asKeys, List.length_cons, List.length_nil, List.set_cons_zero, List.set_cons_succ, List.set_nil, Nat.zero_add, Nat.reduceAdd, Option.some.injEq, exists_and_left, exists_eq_left', exists_eq_left, id_eq, if_true, if_false, ite_true, ite_false, Bool.not_true, Bool.not_false, Bool.false_eq_true, not_false_eq_true, not_true_eq_false, reduceCtorEq, true_and, and_true, ne_eq, decide_eq_true_eq, isiN, isiCls, List.mem_cons, String.reduceEq, String.reduceBEq, or_true, true_or, or_false, false_or, Bool.or_true, Bool.true_or, Bool.false_or, Bool.or_false, Bool.and_false, Bool.false_and, Bool.true_and, Bool.and_true, beq_self_eq_true]
    simp only [List.mem_cons, List.not_mem_nil, or_false] at hx
    rcases hx with e | e | e | e | e | e | e | e | e | e | e | e | e | e | e <;> subst e
    · exact .inl ⟨_, rfl, by decide, by decide⟩
    · exact .inr (.inl ⟨_, rfl⟩)
    · exact .inr (.inl ⟨_, rfl⟩)
    · exact .inl ⟨_, rfl, by decide, by decide⟩
    · exact .inl ⟨_, rfl, by decide, by decide⟩
    · exact .inl ⟨_, rfl, by decide, by decide⟩
    · exact .inl ⟨_, rfl, by decide, by decide⟩
    · exact .inl ⟨"list", by unfold tyD; simp only [f1], by decide, by decide⟩
    · exact .inl ⟨"dict", by unfold tyD; simp only [f2], by decide, by decide⟩
    · exact .inr (.inr rfl)
    · exact .inl ⟨_, rfl, by decide, by decide⟩
    · exact .inl ⟨"list", by unfold tyD; simp only [f3], by decide, by decide⟩
    · exact .inl ⟨"dict", by unfold tyD; simp only [f4], by decide, by decide⟩
    · exact .inl ⟨_, rfl, by decide, by decide⟩
    · exact .inl ⟨"list", by unfold tyD; simp only [f6], by decide, by decide⟩
end LW
open PySem PySem.W PyProof.Rows
set_option maxHeartbeats 0 in
theorem PySem.Challenge.cw_dykelengths_k01_names_known_holds : PySem.Challenge.rw_dykelengths_k01_names_known.Holds := by
  w_on; o_law; k_head; (case hw => w_witness2)
  k_fill
  refine L2.walk_ofK (l := PySem.Challenge.rw_dykelengths_k01_names_known) (n := 63) (k := 3) (x := "_law_script") (CX := L2.CX0) (sp := fun K => DL.spD K 1 LW.m_law) rfl (by decide) rfl ⟨rfl, by decide, by decide⟩ (fun w h Y => PySem.W.kIn_of Y) ?F (fun _ H a ns hl o hS => DL.law_sp LW.law_true H a ns hl o hS) (fun _ _ _ _ h => h)
  case F =>
    intro w mg fa h KX G hmg
    refine' LW.law_mk KX G hmg ?T ?a2 ?l2 ?c2 ?k2
    (case a2 => k_is); (case l2 => k_is); (case c2 => k_is); (case k2 => k_is)
    case T =>
      refine' ⟨?f0, ?f1, ?f2, ?f3, ?f4, ?f5, ?f6, ?n0, ?n1, ?n2, ?n3, ?n4, ?n5, ?n6, ?c0, ?c1⟩
      case f0 =>
        refine' LW.ft_mk KX G ?a ?l ?c ?k (fun _ _ _ _ _ _ us hl => match us, hl with | [_], _ => rfl)
        (case a => k_is); (case l => k_is); (case c => k_is); (case k => k_is)
      case f1 =>
        refine' LW.ft_mk KX G ?a ?l ?c ?k (fun _ _ _ _ _ _ us hl => match us, hl with | [_, _], _ => rfl)
        (case a => k_is); (case l => k_is); (case c => k_is); (case k => k_is)
      case f2 =>
        refine' LW.ft_mk KX G ?a ?l ?c ?k (fun _ _ _ _ _ _ us hl => match us, hl with | [_, _], _ => rfl)
        (case a => k_is); (case l => k_is); (case c => k_is); (case k => k_is)
      case f3 =>
        refine' LW.ft_mk KX G ?a ?l ?c ?k (fun _ _ _ _ _ _ us hl => match us, hl with | [_, _], _ => rfl)
        (case a => k_is); (case l => k_is); (case c => k_is); (case k => k_is)
      case f4 =>
        refine' LW.ft_mk KX G ?a ?l ?c ?k (fun _ _ _ _ _ _ us hl => match us, hl with | [_], _ => rfl)
        (case a => k_is); (case l => k_is); (case c => k_is); (case k => k_is)
      case f5 =>
        refine' LW.ft_mk KX G ?a ?l ?c ?k (fun _ _ _ _ _ _ us hl => match us, hl with | [_], _ => rfl)
        (case a => k_is); (case l => k_is); (case c => k_is); (case k => k_is)
      case f6 =>
        refine' LW.ft_mk KX G ?a ?l ?c ?k (fun _ _ _ _ _ _ us hl => match us, hl with | [_], _ => rfl)
        (case a => k_is); (case l => k_is); (case c => k_is); (case k => k_is)
      case n0 => exact PySem.W.mg_none_of KX G (by k_is)
      case n1 => exact PySem.W.mg_none_of KX G (by k_is)
      case n2 => exact PySem.W.mg_none_of KX G (by k_is)
      case n3 => exact PySem.W.mg_none_of KX G (by k_is)
      case n4 => exact PySem.W.mg_none_of KX G (by k_is)
      case n5 => exact PySem.W.mg_none_of KX G (by k_is)
      case n6 => exact PySem.W.mg_none_of KX G (by k_is)
      case c0 => exact ⟨_, PySem.W.mg_of KX G (by k_is)⟩
      case c1 => exact ⟨_, PySem.W.mg_of KX G (by k_is)⟩
