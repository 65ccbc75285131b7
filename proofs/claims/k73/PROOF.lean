import PyProof.Rows.All
import Wide.All
import OpenK.AllK
import Wide.FinOn
import HandS.ForMost
import HandS.Wide
import HandS.IsInst
import HandS.TupAny
import HandS.Style
import HandS.Exc
import KE.DataEq
import HandS.NoneIn
import HandS.SortInts
import HandS.TupMul
import HandS.Zip
import KE.LtData
import HandS.More
import KE.SortKeyHeap
import HandS.SortKw
import HandS.TupSets
import HandS.SetKeys
import HandS.RaiseMore
import KE.KDictList
import HandS.Sort
import HandS.Text
import HandS.Codes
import HandS.TryOnly
import HandS.ExcOwn
import HandS.WordsExc
import HandS.ExcValue
import HandS.ExcIs
import KE.SortCalls
import KE.SortData
import KE.DataFind
import HandS.CallLocal
import HandS.Conv
import PySem.Challenge.RW_dykelengths_k73_papers_written_and_read
set_option Elab.async false
set_option linter.all false
set_option maxRecDepth 100000
set_option maxHeartbeats 4000000
/-! pure data over the abstract heap: tuples are values, lists and dicts stand in a store -/
namespace DL
open PySem PySem.Spec PyProof.Rows L2
/-! ### data, store -/
inductive D where
  | non | bl (b : Bool) | int (i : Int) | str (s : Str) | tup (xs : List D) | ref (a : Addr) | fl (xs : List D) | ty (n : String) | exc (c : Str) | cls (c : Str) | kt (ks : List Key)
  deriving Inhabited
inductive O where
  | lst (xs : List D) | dk (kvs : List (Key × D)) | dt (kvs : List (List Key × D))
abbrev Sto := Addr → Option O
abbrev Env := List (Option D)
abbrev DK := D → Sto → Prop
abbrev DE := Env → Sto → DK → Prop
abbrev DT := Env → Sto → (Bool → Sto → Prop) → Prop
abbrev DA := Env → Sto → (List D → Sto → Prop) → Prop
def updS (S : Sto) (a : Addr) (o : O) : Sto := fun b => if b = a then some o else S b
theorem updS_same {S : Sto} {a : Addr} {o : O} : updS S a o a = some o := by unfold updS; rw [if_pos rfl]
theorem updS_ne {S : Sto} {a b : Addr} {o : O} (h : b ≠ a) : updS S a o b = S b := by unfold updS; rw [if_neg h]
theorem updS_updS {S : Sto} {a : Addr} {o u : O} : updS (updS S a o) a u = updS S a u := by
  funext b; unfold updS; split <;> rfl
theorem neS {S : Sto} {a b : Addr} {o : O} (h : S a = some o) (h' : S b = none) : a ≠ b := by
  intro e; subst e; rw [h] at h'; cases h'
/-- a list that never changes: locked, or of the written part -/
def FrL (K : PySem.W.Frag) (H : Hp) (a : Addr) (vs : List V) : Prop := (∃ o, H a = some (.frz o (.lst vs))) ∨
    ∃ (o : Obj) (its : Array Value) (n : Nat), K.lookup a = some o ∧ o.cls = .type "list" ∧ o.dict = none ∧ o.data = .seq its n ∧ its.size ≤ sizeLine ∧ Vals vs its.toList
theorem FrL.sq {K : PySem.W.Frag} {H : Hp} {a : Addr} {vs : List V} (h : FrL K H a vs) : SqL K H a vs := by
  rcases h with h | h
  · exact .inl (.inr h)
  · exact .inr h
/-- at a: a caught exception of the class at C -/
def ExC (a C : Addr) : HO := .ext fun h => ∃ (oe : Obj) (vs : Array Value), h.get? a = some oe ∧ Zc (.ref C) none oe ∧ oe.data = .fields vs
mutual
inductive Rep (K : PySem.W.Frag) (H : Hp) : V → D → Prop
  | non : Rep K H .non .non
  | bl (b : Bool) : Rep K H (.bl b) (.bl b)
  | int (i : Int) : Rep K H (.int i) (.int i)
  | str (s : Str) : Rep K H (.str s) (.str s)
  | ref (a : Addr) : Rep K H (.ref a) (.ref a)
  | ty (n : String) : Rep K H (.ty n) (.ty n)
  | tup {a : Addr} {vs : List V} {ds : List D} (h : SqT K H a vs) (r : Reps K H vs ds) : Rep K H (.ref a) (.tup ds)
  | fl {a : Addr} {vs : List V} {ds : List D} (h : FrL K H a vs) (r : Reps K H vs ds) : Rep K H (.ref a) (.fl ds)
  | exc {a C : Addr} {c : Str} (n : PySem.W.nsIn K mainGlobals c = some (some (.ref C))) (h : H a = some (ExC a C)) : Rep K H (.ref a) (.exc c)
  | cls {C : Addr} {c : Str} (n : PySem.W.nsIn K mainGlobals c = some (some (.ref C))) : Rep K H (.ref C) (.cls c)
  | kt {a : Addr} {ks : List Key} (h : H a = some (.tup (ks.map kV))) : Rep K H (.ref a) (.kt ks)
inductive Reps (K : PySem.W.Frag) (H : Hp) : List V → List D → Prop
  | nil : Reps K H [] []
  | cons {v : V} {d : D} {vs : List V} {ds : List D} (h : Rep K H v d) (r : Reps K H vs ds) : Reps K H (v :: vs) (d :: ds)
end
/-- tuples and locked lists stay -/
structure Tx (K : PySem.W.Frag) (H H' : Hp) : Prop where
  tup : ∀ a vs, SqT K H a vs → SqT K H' a vs
  fl : ∀ a vs, FrL K H a vs → FrL K H' a vs
  exc : ∀ a C, H a = some (ExC a C) → H' a = some (ExC a C)
  kt : ∀ a vs, H a = some (.tup vs) → H' a = some (.tup vs)
theorem Tx.refl {K : PySem.W.Frag} {H : Hp} : Tx K H H := ⟨fun _ _ h => h, fun _ _ h => h, fun _ _ h => h, fun _ _ h => h⟩
theorem Tx.trans {K : PySem.W.Frag} {H H1 H2 : Hp} (a : Tx K H H1) (b : Tx K H1 H2) : Tx K H H2 := ⟨fun c vs h => b.tup c vs (a.tup c vs h), fun c vs h => b.fl c vs (a.fl c vs h), fun c C h => b.exc c C (a.exc c C h), fun c vs h => b.kt c vs (a.kt c vs h)⟩
mutual
theorem Rep.mono {K : PySem.W.Frag} {H H' : Hp} (t : Tx K H H') : ∀ {v : V} {d : D}, Rep K H v d → Rep K H' v d
  | _, _, .non => .non
  | _, _, .bl b => .bl b
  | _, _, .int i => .int i
  | _, _, .str s => .str s
  | _, _, .ref a => .ref a
  | _, _, .ty n => .ty n
  | _, _, .tup h r => .tup (t.tup _ _ h) (Reps.mono t r)
  | _, _, .fl h r => .fl (t.fl _ _ h) (Reps.mono t r)
  | _, _, .exc n h => .exc n (t.exc _ _ h)
  | _, _, .cls n => .cls n
  | _, _, .kt h => .kt (t.kt _ _ h)
theorem Reps.mono {K : PySem.W.Frag} {H H' : Hp} (t : Tx K H H') : ∀ {vs : List V} {ds : List D}, Reps K H vs ds → Reps K H' vs ds
  | _, _, .nil => .nil
  | _, _, .cons h r => .cons (Rep.mono t h) (Reps.mono t r)
end
section
variable {K : PySem.W.Frag} {H : Hp}
theorem Reps.length : ∀ {vs : List V} {ds : List D}, Reps K H vs ds → vs.length = ds.length
  | _, _, .nil => rfl
  | _, _, .cons _ r => by rw [List.length_cons, List.length_cons, Reps.length r]
theorem Reps.append : ∀ {vs us : List V} {ds es : List D}, Reps K H vs ds → Reps K H us es → Reps K H (vs ++ us) (ds ++ es)
  | _, _, _, _, .nil, s => s
  | _, _, _, _, .cons h r, s => .cons h (Reps.append r s)
theorem Reps.get : ∀ {vs : List V} {ds : List D} {i : Nat} {d : D}, Reps K H vs ds → ds[i]? = some d → ∃ v, vs[i]? = some v ∧ Rep K H v d
  | _, _, _, _, .nil, e => by simp at e
  | _, _, 0, _, .cons h _, e => by simp at e; subst e; exact ⟨_, rfl, h⟩
  | _, _, i + 1, d, .cons _ r, e => by
    obtain ⟨v, h1, h2⟩ := Reps.get (i := i) (d := d) r (by simpa using e)
    exact ⟨v, by simpa using h1, h2⟩
theorem Reps.getV : ∀ {vs : List V} {ds : List D} {i : Nat} {v : V}, Reps K H vs ds → vs[i]? = some v → ∃ d, ds[i]? = some d ∧ Rep K H v d
  | _, _, _, _, .nil, e => by simp at e
  | _, _, 0, _, .cons h _, e => by simp at e; subst e; exact ⟨_, rfl, h⟩
  | _, _, i + 1, d, .cons _ r, e => by
    obtain ⟨v, h1, h2⟩ := Reps.getV (i := i) (v := d) r (by simpa using e)
    exact ⟨v, by simpa using h1, h2⟩
theorem Reps.take : ∀ {vs : List V} {ds : List D} (n : Nat), Reps K H vs ds → Reps K H (vs.take n) (ds.take n)
  | _, _, 0, _ => by rw [List.take_zero, List.take_zero]; exact .nil
  | _, _, _ + 1, .nil => .nil
  | _, _, n + 1, .cons h r => .cons h (Reps.take n r)
theorem Reps.drop : ∀ {vs : List V} {ds : List D} (n : Nat), Reps K H vs ds → Reps K H (vs.drop n) (ds.drop n)
  | _, _, 0, r => r
  | _, _, _ + 1, .nil => .nil
  | _, _, n + 1, .cons _ r => Reps.drop n r
theorem Reps.set : ∀ {vs : List V} {ds : List D} (n : Nat) {v : V} {d : D}, Rep K H v d → Reps K H vs ds → Reps K H (vs.set n v) (ds.set n d)
  | _, _, _, _, _, _, .nil => .nil
  | _, _, 0, _, _, q, .cons h r => .cons q r
  | _, _, n + 1, _, _, q, .cons h r => .cons h (Reps.set n q r)
theorem Reps.eraseIdx : ∀ {vs : List V} {ds : List D} (n : Nat), Reps K H vs ds → Reps K H (vs.eraseIdx n) (ds.eraseIdx n)
  | _, _, _, .nil => .nil
  | _, _, 0, .cons h r => r
  | _, _, n + 1, .cons h r => .cons h (Reps.eraseIdx n r)
theorem Reps.dropLast : ∀ {vs : List V} {ds : List D}, Reps K H vs ds → Reps K H vs.dropLast ds.dropLast
  | _, _, .nil => .nil
  | _, _, .cons h .nil => .nil
  | _, _, .cons h (.cons h2 r) => .cons h (Reps.dropLast (.cons h2 r))
theorem Reps.reverse {vs : List V} {ds : List D} : Reps K H vs ds → Reps K H vs.reverse ds.reverse := by
  intro h
  induction ds generalizing vs with
  | nil => cases h; exact .nil
  | cons d r ih =>
    cases h with
    | cons h1 h2 =>
      rw [List.reverse_cons, List.reverse_cons]
      exact (ih h2).append (.cons h1 .nil)
end
/-- keys and what they hold -/
def KReps (K : PySem.W.Frag) (H : Hp) : List (Key × V) → List (Key × D) → Prop := Paired fun (p : Key × V) (q : Key × D) => p.1 = q.1 ∧ Rep K H p.2 q.2
def TReps (K : PySem.W.Frag) (H : Hp) : List (List Key × V) → List (List Key × D) → Prop := Paired fun (p : List Key × V) (q : List Key × D) => p.1 = q.1 ∧ Rep K H p.2 q.2
def OAt (K : PySem.W.Frag) (H : Hp) (a : Addr) : O → Prop
  | .lst ds => ∃ vs, H a = some (.lst vs) ∧ Reps K H vs ds
  | .dk kvs => ∃ ws, H a = some (.dK ws) ∧ KReps K H ws kvs
  | .dt kvs => ∃ ws, H a = some (.dT ws) ∧ TReps K H ws kvs
def SRep (K : PySem.W.Frag) (S : Sto) (H : Hp) : Prop := ∀ a o, S a = some o → OAt K H a o
/-- what happens: tuples stay; what is hidden from the store stays hidden, as it is -/
structure Stp (K : PySem.W.Frag) (S : Sto) (H : Hp) (S' : Sto) (H' : Hp) : Prop where
  tx : Tx K H H'
  hid : ∀ z o, S z = none → H z = some o → S' z = none ∧ H' z = some o
section
variable {K : PySem.W.Frag} {S S1 S2 : Sto} {H H1 H2 : Hp} {a p : Addr}
theorem Stp.refl : Stp K S H S H := ⟨.refl, fun _ _ a b => ⟨a, b⟩⟩
theorem Stp.trans (x : Stp K S H S1 H1) (y : Stp K S1 H1 S2 H2) : Stp K S H S2 H2 := ⟨x.tx.trans y.tx, fun z o a b => y.hid z o (x.hid z o a b).1 (x.hid z o a b).2⟩
theorem OAt.mut {o : O} (h : OAt K H a o) : ∃ u, H a = some u ∧ Mut (some u) ∧ (∀ xs, u ≠ .tup xs) ∧ (∀ ob w, u ≠ .frz ob w) ∧ ∀ φ, u ≠ .ext φ := by
  cases o with
  | lst ds => obtain ⟨vs, e, _⟩ := h; exact ⟨_, e, trivial, (fun _ z => nomatch z), (fun _ _ z => nomatch z), fun _ z => nomatch z⟩
  | dk kvs => obtain ⟨vs, e, _⟩ := h; exact ⟨_, e, trivial, (fun _ z => nomatch z), (fun _ _ z => nomatch z), fun _ z => nomatch z⟩
  | dt kvs => obtain ⟨vs, e, _⟩ := h; exact ⟨_, e, trivial, (fun _ z => nomatch z), (fun _ _ z => nomatch z), fun _ z => nomatch z⟩
theorem SRep.free (h : SRep K S H) (e : H p = none) : S p = none := by
  cases q : S p with
  | none => rfl
  | some o =>
    obtain ⟨u, e2, _⟩ := (h p o q).mut
    rw [e] at e2; cases e2
theorem KReps.mono {ws : List (Key × V)} {kvs : List (Key × D)} (t : Tx K H H1) (h : KReps K H ws kvs) : KReps K H1 ws kvs := Paired.mapP h fun _ _ q => ⟨q.1, q.2.mono t⟩
theorem TReps.mono {ws : List (List Key × V)} {kvs : List (List Key × D)} (t : Tx K H H1) (h : TReps K H ws kvs) : TReps K H1 ws kvs := Paired.mapP h fun _ _ q => ⟨q.1, q.2.mono t⟩
theorem OAt.mono {o : O} (t : Tx K H H1) (e : H1 a = H a) (h : OAt K H a o) : OAt K H1 a o := by
  cases o with
  | lst ds => obtain ⟨vs, e1, r⟩ := h; exact ⟨vs, by rw [e]; exact e1, r.mono t⟩
  | dk kvs => obtain ⟨vs, e1, r⟩ := h; exact ⟨vs, by rw [e]; exact e1, KReps.mono t r⟩
  | dt kvs => obtain ⟨vs, e1, r⟩ := h; exact ⟨vs, by rw [e]; exact e1, TReps.mono t r⟩
theorem tx_upd {ho : HO} (hn : ∀ vs, H p ≠ some (.tup vs)) (hf : ∀ ob w, H p ≠ some (.frz ob w)) (hx : ∀ φ, H p ≠ some (.ext φ)) : Tx K H (upd H p ho) := by
  refine ⟨fun b vs h => ?_, fun b vs h => ?_, fun b C h => by rw [upd_ne (fun e => hx _ (by rw [← e]; exact h))]; exact h, fun b vs h => by rw [upd_ne (fun e => hn vs (by rw [← e]; exact h))]; exact h⟩
  · rcases h with (h | ⟨o, h⟩) | h
    · refine .inl (.inl ?_)
      rw [upd_ne (fun e => hn vs (by rw [← e]; exact h))]
      exact h
    · refine .inl (.inr ⟨o, ?_⟩)
      rw [upd_ne (fun e => hf _ _ (by rw [← e]; exact h))]
      exact h
    · exact .inr h
  · rcases h with ⟨o, h⟩ | h
    · refine .inl ⟨o, ?_⟩
      rw [upd_ne (fun e => hf _ _ (by rw [← e]; exact h))]
      exact h
    · exact .inr h
theorem tx_new {ho : HO} (h : H p = none) : Tx K H (upd H p ho) := tx_upd (fun vs => by rw [h]; intro z; cases z) (fun ob w => by rw [h]; intro z; cases z) (fun φ => by rw [h]; intro z; cases z)
theorem tx_mut {o : O} {ho : HO} (h : OAt K H p o) : Tx K H (upd H p ho) := by
  obtain ⟨u, e, _, h1, h2, h3⟩ := h.mut
  exact tx_upd (fun vs => by rw [e]; intro z; exact h1 vs (Option.some.inj z)) (fun ob w => by rw [e]; intro z; exact h2 ob w (Option.some.inj z)) (fun φ => by rw [e]; intro z; exact h3 φ (Option.some.inj z))
/-- a new tuple -/
theorem stp_tup {vs : List V} (r : SRep K S H) (h : H p = none) : Stp K S H S (upd H p (.tup vs)) ∧ SRep K S (upd H p (.tup vs)) := by
  refine ⟨⟨tx_new h, fun z o a b => ⟨a, ?_⟩⟩, fun a o e => (r a o e).mono (tx_new h) (upd_ne ?_)⟩
  · rw [upd_ne (ne_of_none b h)]; exact b
  · intro z; subst z; rw [SRep.free r h] at e; cases e
/-- a new object of the store -/
theorem stp_new {o : O} {ho : HO} (r : SRep K S H) (h : H p = none) (new : OAt K (upd H p ho) p o) : Stp K S H (updS S p o) (upd H p ho) ∧ SRep K (updS S p o) (upd H p ho) := by
  refine ⟨⟨tx_new h, fun z u a b => ?_⟩, fun a u e => ?_⟩
  · have ne := ne_of_none b h
    exact ⟨by rw [updS_ne ne]; exact a, by rw [upd_ne ne]; exact b⟩
  · by_cases q : a = p
    · subst q
      rw [updS_same] at e
      cases e
      exact new
    · rw [updS_ne q] at e
      exact (r a u e).mono (tx_new h) (upd_ne q)
/-- an object of the store is written -/
theorem stp_mut {o o' : O} {ho : HO} (r : SRep K S H) (h : S p = some o) (new : OAt K (upd H p ho) p o') : Stp K S H (updS S p o') (upd H p ho) ∧ SRep K (updS S p o') (upd H p ho) := by
  have t : Tx K H (upd H p ho) := tx_mut (r p o h)
  refine ⟨⟨t, fun z u a b => ?_⟩, fun a u e => ?_⟩
  · have ne : z ≠ p := fun e => by subst e; rw [h] at a; cases a
    exact ⟨by rw [updS_ne ne]; exact a, by rw [upd_ne ne]; exact b⟩
  · by_cases q : a = p
    · subst q
      rw [updS_same] at e
      cases e
      exact new
    · rw [updS_ne q] at e
      exact (r a u e).mono t (upd_ne q)
/-- a hidden object is written, a hidden one comes -/
theorem stp_hid {ho ho' : HO} (r : SRep K S H) (n : S p = none) (h : H p = some ho') (m1 : ∀ vs, ho' ≠ .tup vs) (m2 : ∀ ob w, ho' ≠ .frz ob w) (m3 : ∀ φ, ho' ≠ .ext φ) : Tx K H (upd H p ho) ∧ SRep K S (upd H p ho) := by
  have t : Tx K H (upd H p ho) := tx_upd (fun vs => by rw [h]; intro z; exact m1 vs (Option.some.inj z)) (fun ob w => by rw [h]; intro z; exact m2 ob w (Option.some.inj z)) (fun φ => by rw [h]; intro z; exact m3 φ (Option.some.inj z))
  exact ⟨t, fun a o e => (r a o e).mono t (upd_ne (neS e n))⟩
end
/-! ### slots -/
def getS : Nat → Env → Option D
  | _, [] => none
  | 0, x :: _ => x
  | i + 1, _ :: r => getS i r
def setS : Nat → D → Env → Env
  | _, _, [] => []
  | 0, d, _ :: r => some d :: r
  | i + 1, d, x :: r => x :: setS i d r
def wipeS : Env → List Nat → Env
  | σ, [] => σ
  | σ, i :: r => (wipeS σ r).set i none
theorem getS_eq : ∀ (i : Nat) (σ : Env), getS i σ = (σ[i]?).join
  | _, [] => by simp [getS]
  | 0, x :: _ => by cases x <;> rfl
  | i + 1, _ :: r => by simpa [getS] using getS_eq i r
theorem setS_eq (d : D) : ∀ (i : Nat) (σ : Env), setS i d σ = σ.set i (some d)
  | _, [] => by simp [setS]
  | 0, x :: _ => rfl
  | i + 1, x :: r => by simp [setS, setS_eq d i r]
structure ERep (K : PySem.W.Frag) (H : Hp) (sv : L2.St) (σ : Env) : Prop where
  len : sv.length = σ.length
  at_ : ∀ i d, getS i σ = some d → ∃ v, sv[i]? = some (some v) ∧ Rep K H v d
section
variable {K : PySem.W.Frag} {S S1 S2 : Sto} {H H1 H2 : Hp} {sv : L2.St} {σ : Env}
theorem ERep.mono (t : Tx K H H1) (e : ERep K H sv σ) : ERep K H1 sv σ := ⟨e.len, fun i d q => let ⟨v, a, b⟩ := e.at_ i d q; ⟨v, a, b.mono t⟩⟩
theorem ERep.set {i : Nat} {v : V} {d : D} (e : ERep K H sv σ) (r : Rep K H v d) : ERep K H (sv.set i (some v)) (setS i d σ) := by
  rw [setS_eq]
  refine ⟨by simpa using e.len, fun j c q => ?_⟩
  rw [getS_eq] at q
  by_cases hj : i = j
  · subst hj
    by_cases hl : i < σ.length
    · rw [List.getElem?_set_self hl] at q
      have : d = c := Option.some.inj q
      subst this
      exact ⟨v, List.getElem?_set_self (by rw [e.len]; exact hl), r⟩
    · rw [List.getElem?_eq_none (by simpa using Nat.le_of_not_lt hl)] at q
      cases q
  · rw [List.getElem?_set_ne hj] at q ⊢
    exact e.at_ j c (by rw [getS_eq]; exact q)
theorem ERep.wipe1 {i : Nat} (e : ERep K H sv σ) : ERep K H (sv.set i none) (σ.set i none) := by
  refine ⟨by simpa using e.len, fun j c q => ?_⟩
  rw [getS_eq] at q
  by_cases hj : i = j
  · subst hj
    by_cases hl : i < σ.length
    · rw [List.getElem?_set_self hl] at q; cases q
    · rw [List.getElem?_eq_none (by simpa using Nat.le_of_not_lt hl)] at q; cases q
  · rw [List.getElem?_set_ne hj] at q ⊢
    exact e.at_ j c (by rw [getS_eq]; exact q)
theorem ERep.wipe (e : ERep K H sv σ) : ∀ vs : List Nat, ERep K H (wipe sv vs) (wipeS σ vs)
  | [] => e
  | _ :: vs => (ERep.wipe e vs).wipe1
end
theorem wipe_set {i : Nat} {y : Option V} : ∀ {vs : List Nat} {s : L2.St}, i ∈ vs → wipe (s.set i y) vs = wipe s vs
  | [], _, h => by cases h
  | v :: vs, s, h => by
    show (wipe (s.set i y) vs).set v none = (wipe s vs).set v none
    by_cases hi : i ∈ vs
    · rw [wipe_set hi]
    · have e : i = v := by
        rcases List.mem_cons.mp h with e | e
        · exact e
        · exact (hi e).elim
      subst e
      have out : ∀ (ws : List Nat) (t : L2.St), i ∉ ws → wipe (t.set i y) ws = (wipe t ws).set i y := by
        intro ws
        induction ws with
        | nil => intro t _; rfl
        | cons w r ih =>
          intro t hw
          show (wipe (t.set i y) r).set w none = ((wipe t r).set w none).set i y
          rw [ih t (fun z => hw (List.mem_cons_of_mem _ z)), List.set_comm _ _ (fun z => hw (by rw [z]; exact List.mem_cons_self))]
      rw [out vs s hi, List.set_set]
theorem wipe_wipe (s : L2.St) (vs : List Nat) : wipe (wipe s vs) vs = wipe s vs := by
  have key : ∀ (us : List Nat), (∀ u ∈ us, u ∈ vs) → wipe (wipe s us) vs = wipe s vs := by
    intro us
    induction us with
    | nil => intro _; rfl
    | cons u r ih =>
      intro h
      show wipe ((wipe s r).set u none) vs = wipe s vs
      rw [wipe_set (h u List.mem_cons_self)]
      exact ih fun w hw => h w (List.mem_cons_of_mem _ hw)
  exact key vs fun _ h => h
/-! ### what a reading says of data -/
/-- what is reached: a value that bears d, a store, a heap -/
abbrev Rch (K : PySem.W.Frag) (S : Sto) (H : Hp) (Q : DK) (Kt : VK) : Prop := ∀ v d S' H', Stp K S H S' H' → SRep K S' H' → Rep K H' v d → Q d S' → Kt v H'
def Snd (K : PySem.W.Frag) (t : TE) (f : DE) : Prop := ∀ (σ : Env) (S : Sto) (Q : DK) (sv : L2.St) (H : Hp) (Kt : VK), ERep K H sv σ → SRep K S H → f σ S Q → Rch K S H Q Kt → t sv H Kt
def SndT (K : PySem.W.Frag) (t : TT) (f : DT) : Prop := ∀ (σ : Env) (S : Sto) (Q : Bool → Sto → Prop) (sv : L2.St) (H : Hp) (Kt : Bool → Hp → Prop), ERep K H sv σ → SRep K S H → f σ S Q →
  (∀ b S' H', Stp K S H S' H' → SRep K S' H' → Q b S' → Kt b H') → t sv H Kt
def SndA (K : PySem.W.Frag) (t : TA) (f : DA) : Prop := ∀ (σ : Env) (S : Sto) (Q : List D → Sto → Prop) (sv : L2.St) (H : Hp) (Kt : List V → Hp → Prop), ERep K H sv σ → SRep K S H → f σ S Q →
  (∀ vs ds S' H', Stp K S H S' H' → SRep K S' H' → Reps K H' vs ds → Q ds S' → Kt vs H') → t sv H Kt
/-- operations by values -/
abbrev G2 := D → D → Sto → DK → Prop
abbrev GN := List D → Sto → DK → Prop
def SndR (K : PySem.W.Frag) (r : R2) (g : G2) : Prop := ∀ (x y : V) (a b : D) (S : Sto) (H : Hp) (Q : DK) (Kt : VK), SRep K S H → Rep K H x a → Rep K H y b → g a b S Q → Rch K S H Q Kt → r x y H Kt
def SndN (K : PySem.W.Frag) (r : List V → Hp → VK → Prop) (g : GN) : Prop := ∀ (xs : List V) (as : List D) (S : Sto) (H : Hp) (Q : DK) (Kt : VK), SRep K S H → Reps K H xs as → g as S Q → Rch K S H Q Kt → r xs H Kt
def SndM (K : PySem.W.Frag) (r : V → List V → Hp → VK → Prop) (g : D → GN) : Prop := ∀ (x : V) (a : D) (xs : List V) (as : List D) (S : Sto) (H : Hp) (Q : DK) (Kt : VK), SRep K S H → Rep K H x a → Reps K H xs as → g a as S Q → Rch K S H Q Kt → r x xs H Kt
structure CE (X : Cx) (e : Expr) (f : DE) : Prop where
  ok : ∃ t, PE X e t ∧ Snd X.K t f
structure CT (X : Cx) (e : Expr) (f : DT) : Prop where
  ok : ∃ t, PT X e t ∧ SndT X.K t f
structure CA (X : Cx) (es : List Expr) (f : DA) : Prop where
  ok : ∃ t, PA X es t ∧ SndA X.K t f
/-! ### names, constants -/
def eVar (i : Nat) : DE := fun σ S Q => match getS i σ with
  | some d => Q d S
  | none => False
def eC (d : D) : DE := fun _ S Q => Q d S
section
variable {X : Cx} {K : PySem.W.Frag} {e a b : Expr} {fe fa fb fc : DE} {pos : Pos} {S : Sto} {H : Hp}
theorem Rch.now {Q : DK} {Kt : VK} {v : V} {d : D} (r : SRep K S H) (k : Rch K S H Q Kt) (h : Rep K H v d) (q : Q d S) : Kt v H := k v d S H .refl r h q
theorem c_var (i : Nat) {x : Str} (hN : X.N[i]? = some x := by rfl) (hv : Vis X.env.scope x := by first | exact Or.inl rfl | exact Or.inr (Or.inl rfl) | exact Or.inr (Or.inr rfl)) (hd : (x == ("__debug__" : Str)) = false := by decide)
    (hcd : (x == ("__classdict__" : Str)) = false := by decide) : CE X (.Name x pos) (eVar i) := by
  refine ⟨_, pe_var (i := i) hN hv hd hcd, fun σ S Q sv H Kt he hs h k => ?_⟩
  unfold eVar at h
  cases q : getS i σ with
  | none => rw [q] at h; exact h.elim
  | some d =>
    rw [q] at h
    obtain ⟨v, e1, r⟩ := he.at_ i d q
    exact ⟨v, e1, k.now hs r h⟩
theorem snd_c {v : V} {d : D} (h : ∀ H, Rep K H v d) : Snd K (tC v) (eC d) := fun σ S Q sv H Kt he hs q k => k.now hs (h H) q
end
end DL
namespace DL
open PySem PySem.Spec PyProof.Rows L2
section
variable {X : Cx} {K : PySem.W.Frag} {e a b c : Expr} {es : List Expr} {fe fa fb fc : DE} {ft fu : DT} {fs : DA} {pos : Pos} {S : Sto} {H : Hp}
theorem c_int {i : Int} {j : Nat} : CE X (.Constant (.int i) j pos) (eC (.int i)) := ⟨_, pe_int, snd_c fun _ => .int i⟩
theorem c_str {x : Str} {j : Nat} : CE X (.Constant (.str x) j pos) (eC (.str x)) := ⟨_, pe_str, snd_c fun _ => .str x⟩
theorem c_bl {x : Bool} {j : Nat} : CE X (.Constant (.bool x) j pos) (eC (.bl x)) := ⟨_, pe_bl, snd_c fun _ => .bl x⟩
theorem c_non {j : Nat} : CE X (.Constant .none j pos) (eC .non) := ⟨_, pe_non, snd_c fun _ => .non⟩
theorem c_glob {x : Str} {u : Value} {v : V} {d : D} (hg : Gl X x) (hm : X.mg x = some u) (r : RelV v u) (h : ∀ H, Rep X.K H v d) (hd : (x == ("__debug__" : Str)) = false := by decide) : CE X (.Name x pos) (eC d) := ⟨_, pe_glob hg hm r hd, snd_c h⟩
/-! ### two-place operations -/
def eOp (g : G2) (fa fb : DE) : DE := fun σ S Q => fa σ S fun x S1 => fb σ S1 fun y S2 => g x y S2 Q
theorem snd_op {r : R2} {g : G2} {ta tb : TE} (hr : SndR K r g) (ha : Snd K ta fa) (hb : Snd K tb fb) : Snd K (tOp r ta tb) (eOp g fa fb) := fun σ S Q sv H Kt he hs q k =>
  ha σ S _ sv H _ he hs q fun v d S1 H1 s1 r1 v1 q1 =>
    hb σ S1 _ sv H1 _ (he.mono s1.tx) r1 q1 fun u d2 S2 H2 s2 r2 u2 q2 =>
      hr v u d d2 S2 H2 Q _ r2 (v1.mono s2.tx) u2 q2 fun v3 d3 S3 H3 s3 r3 v3' q3 => k v3 d3 S3 H3 ((s1.trans s2).trans s3) r3 v3' q3
theorem SndR.or1 {r r' : R2} {g : G2} (h : SndR K r g) : SndR K (fun x y H Q => r x y H Q ∨ r' x y H Q) g := fun x y a b S H Q Kt s ra rb q k => .inl (h x y a b S H Q Kt s ra rb q k)
/-- numbers under C -/
def gI (C : Int → Int → Prop) (h : Int → Int → D) : G2 := fun x y S Q => match x, y with
  | .int i, .int j => C i j ∧ Q (h i j) S
  | _, _ => False
def gI0 (h : Int → Int → D) : G2 := fun x y S Q => match x, y with
  | .int i, .int j => Q (h i j) S
  | _, _ => False
theorem sr_I {C : Int → Int → Prop} {h : Int → Int → D} {h' : Int → Int → V} (e : ∀ i j H, Rep K H (h' i j) (h i j)) : SndR K (rI C h') (gI C h) := fun x y a b S H Q Kt s ra rb q k => by
  cases ra <;> try exact False.elim q
  cases rb <;> try exact False.elim q
  exact ⟨_, _, rfl, rfl, q.1, k.now s (e _ _ _) q.2⟩
theorem sr_I0 {h : Int → Int → D} {h' : Int → Int → V} (e : ∀ i j H, Rep K H (h' i j) (h i j)) : SndR K (rI0 h') (gI0 h) := fun x y a b S H Q Kt s ra rb q k => by
  cases ra <;> try exact False.elim q
  cases rb <;> try exact False.elim q
  exact ⟨_, _, rfl, rfl, k.now s (e _ _ _) q⟩
/-- + of anything -/
def gAdd : G2 := fun x y S Q => match x, y with
  | .int i, .int j => Q (.int (i + j)) S
  | .str i, .str j => i.length + j.length ≤ sizeLine ∧ Q (.str (i ++ j)) S
  | .tup xs, .tup ys => xs.length + ys.length ≤ sizeLine ∧ Q (.tup (xs ++ ys)) S
  | .ref p, .ref q => ∃ xs ys, S p = some (.lst xs) ∧ S q = some (.lst ys) ∧ xs.length + ys.length ≤ sizeLine ∧ ∀ n, S n = none → Q (.ref n) (updS S n (.lst (xs ++ ys)))
  | _, _ => False
def rAddA (K : PySem.W.Frag) : R2 := fun x y H Q => ((rI0 fun i j => .int (i + j)) x y H Q ∨ (∃ i j, x = .str i ∧ y = .str j ∧ i.length + j.length ≤ sizeLine ∧ Q (.str (i ++ j)) H)) ∨ rCatA K x y H Q ∨ rCat x y H Q
theorem opAddA : OpR X (binaryOp .Add) (rAddA X.K) := OpR.or (OpR.or op_add op_add_str) (OpR.or op_catA op_cat)
theorem sr_add : SndR K (rAddA K) gAdd := fun x y a b S H Q Kt s ra rb q k => by
  cases ra with
  | int i =>
    cases rb <;> try exact False.elim q
    exact .inl (.inl ⟨_, _, rfl, rfl, k.now s (.int _) q⟩)
  | str i =>
    cases rb <;> try exact False.elim q
    exact .inl (.inr ⟨_, _, rfl, rfl, q.1, k.now s (.str _) q.2⟩)
  | @tup p vs ds h r =>
    cases rb <;> try exact False.elim q
    rename_i p2 us es h2 r2
    obtain ⟨hz, q⟩ := q
    have e1 := r.length
    have e2 := r2.length
    refine .inr (.inl ⟨p, p2, vs, us, rfl, rfl, h, h2, by omega, fun z => ?_, fun _ z => ?_, fun _ _ n hn => ?_⟩)
    · subst z
      cases r
      exact k.now s (.tup h2 r2) q
    · subst z
      cases r2
      rw [List.append_nil] at q
      exact k.now s (.tup h r) q
    · obtain ⟨st, sr⟩ := stp_tup (vs := vs ++ us) s hn
      exact k _ _ S _ st sr (.tup (.inl (.inl upd_same)) ((r.mono st.tx).append (r2.mono st.tx))) q
  | ref p =>
    cases rb <;> try exact False.elim q
    obtain ⟨xs, ys, h1, h2, hz, q⟩ := q
    rename_i p2
    obtain ⟨vs, e1, r1⟩ := s _ _ h1
    obtain ⟨us, e2, r2⟩ := s _ _ h2
    have l1 := r1.length
    have l2 := r2.length
    refine .inr (.inr ⟨p, p2, vs, us, rfl, rfl, e1, e2, by omega, fun n hn => ?_⟩)
    have tx := tx_new (K := K) (ho := .lst (vs ++ us)) hn
    obtain ⟨st, sr⟩ := stp_new (o := .lst (xs ++ ys)) s hn ⟨_, upd_same, (r1.mono tx).append (r2.mono tx)⟩
    exact k _ _ _ _ st sr (.ref n) (q n (s.free hn))
  | _ => exact False.elim q
theorem c_add (ha : CE X a fa) (hb : CE X b fb) : CE X (.BinOp a .Add b pos) (eOp gAdd fa fb) := by
  obtain ⟨ta, ha, sa⟩ := ha
  obtain ⟨tb, hb, sb⟩ := hb
  exact ⟨_, pe_op opAddA ha hb, snd_op sr_add sa sb⟩
abbrev gMns : G2 := gI0 fun i j => .int (i - j)
theorem c_sub (ha : CE X a fa) (hb : CE X b fb) : CE X (.BinOp a .Sub b pos) (eOp gMns fa fb) := by
  obtain ⟨ta, ha, sa⟩ := ha
  obtain ⟨tb, hb, sb⟩ := hb
  exact ⟨_, pe_op op_sub ha hb, snd_op (sr_I0 fun _ _ _ => .int _) sa sb⟩
abbrev gMul : G2 := gI CMulW fun i j => .int (i * j)
theorem c_mul (ha : CE X a fa) (hb : CE X b fb) : CE X (.BinOp a .Mult b pos) (eOp gMul fa fb) := by
  obtain ⟨ta, ha, sa⟩ := ha
  obtain ⟨tb, hb, sb⟩ := hb
  exact ⟨_, pe_op op_mulW ha hb, snd_op (sr_I fun _ _ _ => .int _) sa sb⟩
abbrev gMod : G2 := gI (fun _ j => 0 < j) fun i j => .int (i % j)
theorem c_mod (ha : CE X a fa) (hb : CE X b fb) : CE X (.BinOp a .Mod b pos) (eOp gMod fa fb) := by
  obtain ⟨ta, ha, sa⟩ := ha
  obtain ⟨tb, hb, sb⟩ := hb
  exact ⟨_, pe_op op_mod ha hb, snd_op (sr_I fun _ _ _ => .int _) sa sb⟩
abbrev gFdiv : G2 := gI CDivW fun i j => .int (i / j)
theorem c_fdiv (ha : CE X a fa) (hb : CE X b fb) : CE X (.BinOp a .FloorDiv b pos) (eOp gFdiv fa fb) := by
  obtain ⟨ta, ha, sa⟩ := ha
  obtain ⟨tb, hb, sb⟩ := hb
  exact ⟨_, pe_op op_fdivW ha hb, snd_op (sr_I fun _ _ _ => .int _) sa sb⟩
abbrev gPow : G2 := gI CPow fun i j => .int (i ^ j.toNat)
theorem c_pow (ha : CE X a fa) (hb : CE X b fb) : CE X (.BinOp a .Pow b pos) (eOp gPow fa fb) := by
  obtain ⟨ta, ha, sa⟩ := ha
  obtain ⟨tb, hb, sb⟩ := hb
  exact ⟨_, pe_op op_pow ha hb, snd_op (sr_I fun _ _ _ => .int _) sa sb⟩
def eNeg (fa : DE) : DE := fun σ S Q => fa σ S fun x S1 => match x with
  | .int i => Q (.int (-i)) S1
  | _ => False
theorem c_neg (ha : CE X a fa) : CE X (.UnaryOp .USub a pos) (eNeg fa) := by
  obtain ⟨ta, ha, sa⟩ := ha
  refine ⟨_, pe_un un_neg ha, fun σ S Q sv H Kt he hs q k => ?_⟩
  refine sa σ S _ sv H _ he hs q fun v d S1 H1 s1 r1 v1 q1 => ?_
  cases v1 <;> try exact False.elim q1
  exact ⟨_, rfl, k _ _ S1 H1 s1 r1 (.int _) q1⟩
/-! ### comparisons -/
/-- < <= > >= of numbers, of texts -/
def gLt : G2 := fun x y S Q => match x, y with
  | .int i, .int j => Q (.bl (decide (i < j))) S
  | .str i, .str j => Q (.bl (decide (i.cps.toList < j.cps.toList))) S
  | _, _ => False
def rLtA : R2 := fun x y H Q => (rI0 fun i j => .bl (decide (i < j))) x y H Q ∨ (∃ i j, x = .str i ∧ y = .str j ∧ Q (.bl (decide (i.cps.toList < j.cps.toList))) H)
theorem sr_lt : SndR K rLtA gLt := fun x y a b S H Q Kt s ra rb q k => by
  cases ra with
  | int i =>
    cases rb <;> try exact False.elim q
    exact .inl ⟨_, _, rfl, rfl, k.now s (.bl _) q⟩
  | str i =>
    cases rb <;> try exact False.elim q
    exact .inr ⟨_, _, rfl, rfl, k.now s (.bl _) q⟩
  | _ => exact False.elim q
/-- a comparison that is written op -/
structure CO (X : Cx) (op : CmpOp) (g : G2) : Prop where
  ok : ∃ r, OpR X (compareOp op) r ∧ SndR X.K r g
theorem o_lt : CO X .Lt gLt := ⟨_, OpR.or op_lt op_lt_str, sr_lt⟩
theorem o_le : CO X .LtE (gI0 fun i j => .bl (decide (i ≤ j))) := ⟨_, op_le, sr_I0 fun _ _ _ => .bl _⟩
theorem o_gt : CO X .Gt (gI0 fun i j => .bl (decide (j < i))) := ⟨_, op_gt, sr_I0 fun _ _ _ => .bl _⟩
theorem o_ge : CO X .GtE (gI0 fun i j => .bl (decide (j ≤ i))) := ⟨_, op_ge, sr_I0 fun _ _ _ => .bl _⟩
def isNon : D → Bool
  | .non => true
  | _ => false
/-- x is None, x is True -/
def gIs (f : Bool → Bool) : G2 := fun x y S Q => match y with
  | .non => Q (.bl (f (isNon x))) S
  | .bl c => match x with
    | .bl d => Q (.bl (f (decide (d = c)))) S
    | _ => False
  | _ => False
theorem rep_non {v : V} {d : D} (r : Rep K H v d) : decide (v = .non) = isNon d := by
  cases r <;> rfl
theorem o_is : CO X .Is (gIs id) := by
  refine ⟨_, OpR.or op_isN op_isBl, fun x y a b S H Q Kt s ra rb q k => ?_⟩
  cases rb <;> try exact False.elim q
  · exact .inl ⟨rfl, k.now s (.bl _) (by rw [rep_non ra]; exact q)⟩
  · cases ra <;> try exact False.elim q
    exact .inr ⟨_, _, rfl, rfl, k.now s (.bl _) q⟩
/-- what == tells of two flat data -/
def eqS : D → D → Option Bool
  | .non, .non => some true
  | .int i, .int j => some (decide (i = j))
  | .str i, .str j => some (decide (i = j))
  | .bl i, .bl j => some (decide (i = j))
  | .non, .int _ => some false | .int _, .non => some false | .non, .str _ => some false | .str _, .non => some false | .non, .bl _ => some false | .bl _, .non => some false
  | .int _, .str _ => some false | .str _, .int _ => some false | .bl _, .str _ => some false | .str _, .bl _ => some false
  | .bl a, .int b => some (decide ((if a = true then 1 else 0) = b)) | .int a, .bl b => some (decide (a = if b = true then 1 else 0))
  | _, _ => none
/-! data as the library has it -/
def keyPy : Key → PyData
  | .inl i => .int i
  | .inr s => .str s
mutual
inductive PD (S : Sto) : D → PyData → Prop
  | non : PD S .non .none
  | bl (b : Bool) : PD S (.bl b) (.bool b)
  | int (i : Int) : PD S (.int i) (.int i)
  | str (x : Str) : PD S (.str x) (.str x)
  | tup {ds : List D} {ps : List PyData} (h : PDs S ds ps) : PD S (.tup ds) (.tuple ps)
  | kt (ks : List Key) : PD S (.kt ks) (.tuple (ks.map keyPy))
  | lst {a : Addr} {ds : List D} {ps : List PyData} (e : S a = some (.lst ds)) (h : PDs S ds ps) : PD S (.ref a) (.list ps)
inductive PDs (S : Sto) : List D → List PyData → Prop
  | nil : PDs S [] []
  | cons {d : D} {p : PyData} {ds : List D} {ps : List PyData} (h : PD S d p) (t : PDs S ds ps) : PDs S (d :: ds) (p :: ps)
end
theorem keys_dp {K : PySem.W.Frag} {H : Hp} : ∀ ks : List Key, DpAll K H (ks.map kV) (ks.map keyPy)
  | [] => .nil
  | .inl i :: r => .cons (.int i) (keys_dp r)
  | .inr s :: r => .cons (.str s) (keys_dp r)
theorem keys_plain : ∀ ks : List Key, PyData.plainAll (ks.map keyPy) = true
  | [] => rfl
  | .inl i :: r => keys_plain r
  | .inr s :: r => keys_plain r
mutual
theorem PD.dp (s : SRep K S H) : ∀ {d : D} {p : PyData}, PD S d p → ∀ {v : V}, Rep K H v d → Dp K H v p
  | _, _, .non, _, r => by cases r; exact .non
  | _, _, .bl b, _, r => by cases r; exact .bl b
  | _, _, .int i, _, r => by cases r; exact .int i
  | _, _, .str x, _, r => by cases r; exact .str x
  | _, _, .tup q, _, r => by
    cases r with
    | tup h r => exact .tup h (PDs.dp s q r)
  | _, _, .kt ks, _, r => by
    cases r with
    | kt h => exact .tup (.inl (.inl h)) (keys_dp ks)
  | _, _, .lst e q, _, r => by
    cases r with
    | ref a =>
      obtain ⟨vs, e1, r⟩ := s _ _ e
      exact .lst (.inl (.inl e1)) (PDs.dp s q r)
theorem PDs.dp (s : SRep K S H) : ∀ {ds : List D} {ps : List PyData}, PDs S ds ps → ∀ {vs : List V}, Reps K H vs ds → DpAll K H vs ps
  | _, _, .nil, _, r => by cases r; exact .nil
  | _, _, .cons q t, _, r => by
    cases r with
    | cons h r => exact .cons (PD.dp s q h) (PDs.dp s t r)
end
/-- == of anything -/
def gEq (f : Bool → Bool) : G2 := fun x y S Q => match eqS x y with
  | some b => Q (.bl (f b)) S
  | none => ∃ p q, PD S x p ∧ PD S y q ∧ p.depth ≤ 64 ∧ Q (.bl (f (PyData.eqv p q))) S
mutual
theorem PD.plain : ∀ {d : D} {p : PyData}, PD S d p → p.plain = true
  | _, _, .non => rfl
  | _, _, .bl _ => rfl
  | _, _, .int _ => rfl
  | _, _, .str _ => rfl
  | _, _, .tup h => PDs.plain h
  | _, _, .kt ks => keys_plain ks
  | _, _, .lst _ h => PDs.plain h
theorem PDs.plain : ∀ {ds : List D} {ps : List PyData}, PDs S ds ps → PyData.plainAll ps = true
  | _, _, .nil => rfl
  | _, _, .cons h t => by
    unfold PyData.plainAll
    rw [PD.plain h, PDs.plain t]
    rfl
end
theorem eqS_pd {a b : D} {r : Bool} (h : eqS a b = some r) : ∃ p q, PD S a p ∧ PD S b q ∧ p.depth = 0 ∧ PyData.eqv p q = r := by
  cases a <;> cases b <;> first | (cases h; done) | (cases h; refine ⟨_, _, by constructor, by constructor, rfl, ?_⟩; first | rfl | (simp only [PyData.eqv, beq_eq_decide]; done) | (simp only [PyData.eqv, Bool.beq_eq_decide_eq]; done))
def rEqP (K : PySem.W.Frag) : R2 := fun x y H Q => ∃ d e, Dp K H x d ∧ Dp K H y e ∧ d.plain = true ∧ e.plain = true ∧ d.depth ≤ 64 ∧ Q (.bl (PyData.eqv d e)) H
def rNeP (K : PySem.W.Frag) : R2 := fun x y H Q => ∃ d e, Dp K H x d ∧ Dp K H y e ∧ d.plain = true ∧ e.plain = true ∧ d.depth ≤ 64 ∧ Q (.bl (!PyData.eqv d e)) H
theorem opEqP (hu : X.A.units + 64 < cLine) : OpR X (compareOp .Eq) (rEqP X.K) := fun pins s σ H x y v u Q I rx ry ⟨d, e, hd, he, pd, pe, hz, q⟩ => by
  have ⟨as, r1⟩ := hd.reads I d x v rx
  have ⟨bs, r2⟩ := he.reads I e y u ry
  exact SeqAt.eq_plain r1 r2 pd pe (by omega) ⟨.bl _, H, I, rfl, q⟩
theorem opNeP (hu : X.A.units + 64 < cLine) : OpR X (compareOp .NotEq) (rNeP X.K) := fun pins s σ H x y v u Q I rx ry ⟨d, e, hd, he, pd, pe, hz, q⟩ => by
  have ⟨as, r1⟩ := hd.reads I d x v rx
  have ⟨bs, r2⟩ := he.reads I e y u ry
  exact SeqAt.ne_plain r1 r2 pd pe (by omega) ⟨.bl _, H, I, rfl, q⟩
theorem eq_pd {f : Bool → Bool} {a b : D} {Q : DK} (q : gEq f a b S Q) : ∃ p e, PD S a p ∧ PD S b e ∧ p.depth ≤ 64 ∧ Q (.bl (f (PyData.eqv p e))) S := by
  unfold gEq at q
  cases h : eqS a b with
  | some r =>
    rw [h] at q
    obtain ⟨p, e, h1, h2, h3, h4⟩ := eqS_pd (S := S) h
    exact ⟨p, e, h1, h2, by omega, by rw [h4]; exact q⟩
  | none =>
    rw [h] at q
    exact q
theorem o_eq (hu : X.A.units + 64 < cLine) : CO X .Eq (gEq id) := by
  refine ⟨_, opEqP hu, fun x y a b S H Q Kt s ra rb q k => ?_⟩
  obtain ⟨p, e, h1, h2, h3, q⟩ := eq_pd q
  exact ⟨p, e, PD.dp s h1 ra, PD.dp s h2 rb, h1.plain, h2.plain, h3, k.now s (.bl _) q⟩
theorem o_ne (hu : X.A.units + 64 < cLine) : CO X .NotEq (gEq not) := by
  refine ⟨_, opNeP hu, fun x y a b S H Q Kt s ra rb q k => ?_⟩
  obtain ⟨p, e, h1, h2, h3, q⟩ := eq_pd q
  exact ⟨p, e, PD.dp s h1 ra, PD.dp s h2 rb, h1.plain, h2.plain, h3, k.now s (.bl _) q⟩
theorem c_cmp {op : CmpOp} {g : G2} (ho : CO X op g) (ha : CE X a fa) (hb : CE X b fb) (hm : behindInMarks op b = false) : CE X (.Compare a [op] [b] pos) (eOp g fa fb) := by
  obtain ⟨r, o1, o2⟩ := ho
  obtain ⟨ta, ha, sa⟩ := ha
  obtain ⟨tb, hb, sb⟩ := hb
  exact ⟨_, pe_cmpR o1 ha hb hm, snd_op o2 sa sb⟩
end
end DL
namespace DL
open PySem PySem.Spec PyProof.Rows L2
section
variable {X : Cx} {K : PySem.W.Frag} {e a b c : Expr} {es : List Expr} {fe fa fb fc : DE} {ft fu : DT} {fs : DA} {pos : Pos} {S : Sto} {H : Hp}
/-! ### tests -/
def tTr (f : DE) : DT := fun σ S Q => f σ S fun d S1 => match d with
  | .non => Q false S1
  | .bl k => Q k S1
  | .int i => Q (i != 0) S1
  | .str y => y.length ≤ sizeLine ∧ Q (y.length != 0) S1
  | .tup xs => Q (!xs.isEmpty) S1
  | .ref p => (match S1 p with
    | some (.lst xs) => Q (!xs.isEmpty) S1
    | some (.dk kvs) => Q (!kvs.isEmpty) S1
    | some (.dt _) => False
    | none => False)
  | _ => False
theorem empty_reps {vs : List V} {ds : List D} (r : Reps K H vs ds) : vs.isEmpty = ds.isEmpty := by cases r <;> rfl
theorem empty_kreps {ws : List (Key × V)} {kvs : List (Key × D)} (r : KReps K H ws kvs) : ws.isEmpty = kvs.isEmpty := by cases r <;> rfl
theorem len_ne0 (y : Str) : (((y.length : Int)) != 0) = (y.length != 0) := by
  by_cases h : y.length = 0
  · rw [h]; rfl
  · have h2 : ¬ ((y.length : Int) = 0) := by omega
    rw [bne_iff_ne.mpr h2, bne_iff_ne.mpr h]
/-- a value's truth -/
theorem k_tru (ha : CE X a fa) (he : ∀ whole, isTrue a X.env whole = (do let v ← whole; standAt a.pos; holding [v] (truthy v)) := by intro _; rfl) : CT X a (tTr fa) := by
  obtain ⟨ta, ha, sa⟩ := ha
  refine ⟨_, pt_truth ha he, fun σ S Q sv H Kt re rs q k => ?_⟩
  refine sa σ S _ sv H _ re rs q fun v d S1 H1 s1 r1 v1 q1 => ?_
  cases v1 with
  | non => exact ⟨false, rfl, k _ _ _ s1 r1 q1⟩
  | bl y => exact ⟨y, rfl, k _ _ _ s1 r1 q1⟩
  | int i => exact ⟨_, rfl, k _ _ _ s1 r1 q1⟩
  | str y => exact ⟨_, ⟨q1.1, (len_ne0 y).symm⟩, k _ _ _ s1 r1 q1.2⟩
  | ty n => exact False.elim q1
  | exc n h => exact False.elim q1
  | cls n => exact False.elim q1
  | kt h => exact False.elim q1
  | @tup p vs ds h r => exact ⟨_, .inr (.inl ⟨vs, h, rfl⟩), k _ _ _ s1 r1 (by rw [empty_reps r]; exact q1)⟩
  | @fl p vs ds h r => exact False.elim q1
  | ref p =>
    cases h : S1 p with
    | none => simp only [h] at q1
    | some o =>
      cases o with
      | lst xs =>
        simp only [h] at q1
        obtain ⟨vs, e1, r⟩ := r1 _ _ h
        exact ⟨_, .inl ⟨vs, .inl (.inl e1), rfl⟩, k _ _ _ s1 r1 (by rw [empty_reps r]; exact q1)⟩
      | dk kvs =>
        simp only [h] at q1
        obtain ⟨vs, e1, r⟩ := r1 _ _ h
        exact ⟨_, .inr (.inr ⟨vs, e1, rfl⟩), k _ _ _ s1 r1 (by rw [empty_kreps r]; exact q1)⟩
      | dt kvs => simp only [h] at q1
/-- a test of what is a truth -/
def tBl (f : DE) : DT := fun σ S Q => f σ S fun d S1 => match d with
  | .bl k => Q k S1
  | _ => False
theorem snd_tTest {t : TE} (h : Snd K t fa) : SndT K (tTest t) (tBl fa) := fun σ S Q sv H Kt re rs q k =>
  h σ S _ sv H _ re rs q fun v d S1 H1 s1 r1 v1 q1 => by
    cases v1 <;> try exact False.elim q1
    exact ⟨_, rfl, k _ _ _ s1 r1 q1⟩
theorem k_cmp {op : CmpOp} {g : G2} (ho : CO X op g) (ha : CE X a fa) (hb : CE X b fb) (hm : behindInMarks op b = false) : CT X (.Compare a [op] [b] pos) (tBl (eOp g fa fb)) := by
  obtain ⟨r, o1, o2⟩ := ho
  obtain ⟨ta, ha, sa⟩ := ha
  obtain ⟨tb, hb, sb⟩ := hb
  exact ⟨_, pt_cmpR o1 ha hb hm, snd_tTest (snd_op o2 sa sb)⟩
/-- a op1 b op2 c -/
def eChain (g g' : G2) (fa fb fc : DE) : DE := fun σ S Q => fa σ S fun x S1 => fb σ S1 fun y S2 => g x y S2 fun z S3 => match z with
  | .bl k => if k = true then fc σ S3 fun u S4 => g' y u S4 Q else Q (.bl false) S3
  | _ => False
theorem snd_chain {r r' : R2} {g g' : G2} {ta tb tc : TE} (hr : SndR K r g) (hr' : SndR K r' g') (ha : Snd K ta fa) (hb : Snd K tb fb) (hc : Snd K tc fc) : Snd K (tChain r r' ta tb tc) (eChain g g' fa fb fc) := fun σ S Q sv H Kt he hs q k =>
  ha σ S _ sv H _ he hs q fun v d S1 H1 s1 r1 v1 q1 =>
    hb σ S1 _ sv H1 _ (he.mono s1.tx) r1 q1 fun u d2 S2 H2 s2 r2 u2 q2 =>
      hr v u d d2 S2 H2 _ _ r2 (v1.mono s2.tx) u2 q2 fun v3 d3 S3 H3 s3 r3 v3' q3 => by
        cases v3' <;> try exact False.elim q3
        rename_i kk
        refine ⟨kk, rfl, ?_⟩
        cases kk with
        | true =>
          exact hc σ S3 _ sv H3 _ (he.mono ((s1.trans s2).trans s3).tx) r3 q3 fun v4 d4 S4 H4 s4 r4 v4' q4 =>
            hr' u v4 d2 d4 S4 H4 Q Kt r4 (u2.mono (s3.trans s4).tx) v4' q4 fun v5 d5 S5 H5 s5 r5 v5' q5 => k v5 d5 S5 H5 ((((s1.trans s2).trans s3).trans s4).trans s5) r5 v5' q5
        | false => exact k _ _ _ _ ((s1.trans s2).trans s3) r3 (.bl false) q3
theorem c_chain {op op' : CmpOp} {g g' : G2} (ho : CO X op g) (ho' : CO X op' g') (ha : CE X a fa) (hb : CE X b fb) (hc : CE X c fc) (h1 : lastMarks [op, op'] [b, c] = false := by rfl) : CE X (.Compare a [op, op'] [b, c] pos) (eChain g g' fa fb fc) := by
  obtain ⟨r, o1, o2⟩ := ho
  obtain ⟨r', o1', o2'⟩ := ho'
  obtain ⟨ta, ha, sa⟩ := ha
  obtain ⟨tb, hb, sb⟩ := hb
  obtain ⟨tc, hc, sc⟩ := hc
  exact ⟨_, pe_chain o1 o1' ha hb hc h1, snd_chain o2 o2' sa sb sc⟩
theorem k_chain {op op' : CmpOp} {g g' : G2} (ho : CO X op g) (ho' : CO X op' g') (ha : CE X a fa) (hb : CE X b fb) (hc : CE X c fc) (h1 : lastMarks [op, op'] [b, c] = false := by rfl) : CT X (.Compare a [op, op'] [b, c] pos) (tBl (eChain g g' fa fb fc)) := by
  obtain ⟨r, o1, o2⟩ := ho
  obtain ⟨r', o1', o2'⟩ := ho'
  obtain ⟨ta, ha, sa⟩ := ha
  obtain ⟨tb, hb, sb⟩ := hb
  obtain ⟨tc, hc, sc⟩ := hc
  exact ⟨_, pt_chain o1 o1' ha hb hc h1, snd_tTest (snd_chain o2 o2' sa sb sc)⟩
/-! and, or, not as tests -/
structure CW (X : Cx) (e : Expr) (f : DT) : Prop where
  ok : ∃ t, PW X e t ∧ SndT X.K t f
variable {rest : List Expr}
def tAndD (f g : DT) : DT := fun σ S Q => f σ S fun k S1 => if k = true then g σ S1 Q else Q false S1
def tOrD (f g : DT) : DT := fun σ S Q => f σ S fun k S1 => if k = true then Q true S1 else g σ S1 Q
def tNotD (f : DT) : DT := fun σ S Q => f σ S fun k S1 => Q (!k) S1
theorem w_and1 (ha : CT X a ft) : CW X (.BoolOp .And [a] pos) ft := let ⟨_, h, s⟩ := ha.ok; ⟨_, pw_and1 h, s⟩
theorem w_or1 (ha : CT X a ft) : CW X (.BoolOp .Or [a] pos) ft := let ⟨_, h, s⟩ := ha.ok; ⟨_, pw_or1 h, s⟩
theorem w_and (ha : CT X a ft) (hb : CW X (.BoolOp .And (b :: rest) pos) fu) : CW X (.BoolOp .And (a :: b :: rest) pos) (tAndD ft fu) := by
  obtain ⟨ta, ha, sa⟩ := ha
  obtain ⟨tb, hb, sb⟩ := hb
  refine ⟨_, pw_and ha hb, fun σ S Q sv H Kt re rs q k => sa σ S _ sv H _ re rs q fun kk S1 H1 s1 r1 q1 => ?_⟩
  cases kk with
  | true => exact sb σ S1 Q sv H1 _ (re.mono s1.tx) r1 q1 fun k2 S2 H2 s2 r2 q2 => k k2 S2 H2 (s1.trans s2) r2 q2
  | false => exact k _ _ _ s1 r1 q1
theorem w_or (ha : CT X a ft) (hb : CW X (.BoolOp .Or (b :: rest) pos) fu) : CW X (.BoolOp .Or (a :: b :: rest) pos) (tOrD ft fu) := by
  obtain ⟨ta, ha, sa⟩ := ha
  obtain ⟨tb, hb, sb⟩ := hb
  refine ⟨_, pw_or ha hb, fun σ S Q sv H Kt re rs q k => sa σ S _ sv H _ re rs q fun kk S1 H1 s1 r1 q1 => ?_⟩
  cases kk with
  | false => exact sb σ S1 Q sv H1 _ (re.mono s1.tx) r1 q1 fun k2 S2 H2 s2 r2 q2 => k k2 S2 H2 (s1.trans s2) r2 q2
  | true => exact k _ _ _ s1 r1 q1
theorem k_w (h : CW X e ft) : CT X e ft := let ⟨_, h, s⟩ := h.ok; ⟨_, h.pt, s⟩
theorem k_not (ha : CT X a ft) : CT X (.UnaryOp .Not a pos) (tNotD ft) := by
  obtain ⟨ta, ha, sa⟩ := ha
  exact ⟨_, pt_not ha, fun σ S Q sv H Kt re rs q k => sa σ S _ sv H _ re rs q fun kk S1 H1 s1 r1 q1 => k _ _ _ s1 r1 q1⟩
/-! .. as values -/
def eAnd (fa fb : DE) : DE := fun σ S Q => fa σ S fun x S1 => match x with
  | .bl k => if k = true then fb σ S1 Q else Q (.bl false) S1
  | _ => False
def eOr (fa fb : DE) : DE := fun σ S Q => fa σ S fun x S1 => match x with
  | .bl k => if k = true then Q (.bl true) S1 else fb σ S1 Q
  | _ => False
def eNot (fa : DE) : DE := fun σ S Q => fa σ S fun x S1 => match x with
  | .bl k => Q (.bl (!k)) S1
  | _ => False
theorem c_one {op} (ha : CE X a fa) : CE X (.BoolOp op [a] pos) fa := let ⟨_, h, s⟩ := ha.ok; ⟨_, pe_one h, s⟩
theorem c_and (ha : CE X a fa) (hb : CE X (.BoolOp .And (b :: rest) pos) fb) : CE X (.BoolOp .And (a :: b :: rest) pos) (eAnd fa fb) := by
  obtain ⟨ta, ha, sa⟩ := ha
  obtain ⟨tb, hb, sb⟩ := hb
  refine ⟨_, pe_and ha hb, fun σ S Q sv H Kt re rs q k => sa σ S _ sv H _ re rs q fun v d S1 H1 s1 r1 v1 q1 => ?_⟩
  cases v1 <;> try exact False.elim q1
  rename_i kk
  refine ⟨kk, rfl, ?_⟩
  cases kk with
  | true => exact sb σ S1 Q sv H1 _ (re.mono s1.tx) r1 q1 fun v2 d2 S2 H2 s2 r2 v2' q2 => k v2 d2 S2 H2 (s1.trans s2) r2 v2' q2
  | false => exact k _ _ _ _ s1 r1 (.bl _) q1
theorem c_or (ha : CE X a fa) (hb : CE X (.BoolOp .Or (b :: rest) pos) fb) : CE X (.BoolOp .Or (a :: b :: rest) pos) (eOr fa fb) := by
  obtain ⟨ta, ha, sa⟩ := ha
  obtain ⟨tb, hb, sb⟩ := hb
  refine ⟨_, pe_or ha hb, fun σ S Q sv H Kt re rs q k => sa σ S _ sv H _ re rs q fun v d S1 H1 s1 r1 v1 q1 => ?_⟩
  cases v1 <;> try exact False.elim q1
  rename_i kk
  refine ⟨kk, rfl, ?_⟩
  cases kk with
  | false => exact sb σ S1 Q sv H1 _ (re.mono s1.tx) r1 q1 fun v2 d2 S2 H2 s2 r2 v2' q2 => k v2 d2 S2 H2 (s1.trans s2) r2 v2' q2
  | true => exact k _ _ _ _ s1 r1 (.bl _) q1
theorem c_not (ha : CE X a fa) : CE X (.UnaryOp .Not a pos) (eNot fa) := by
  obtain ⟨ta, ha, sa⟩ := ha
  refine ⟨_, pe_not ha, fun σ S Q sv H Kt re rs q k => sa σ S _ sv H _ re rs q fun v d S1 H1 s1 r1 v1 q1 => ?_⟩
  cases v1 <;> try exact False.elim q1
  exact ⟨_, rfl, k _ _ _ _ s1 r1 (.bl _) q1⟩
def eIf (ft : DT) (fa fb : DE) : DE := fun σ S Q => ft σ S fun k S1 => if k = true then fa σ S1 Q else fb σ S1 Q
theorem c_if (hc : CT X c ft) (ha : CE X a fa) (hb : CE X b fb) : CE X (.IfExp c a b pos) (eIf ft fa fb) := by
  obtain ⟨tc, hc, sc⟩ := hc
  obtain ⟨ta, ha, sa⟩ := ha
  obtain ⟨tb, hb, sb⟩ := hb
  refine ⟨_, pe_ifExp hc ha hb, fun σ S Q sv H Kt re rs q k => sc σ S _ sv H _ re rs q fun kk S1 H1 s1 r1 q1 => ?_⟩
  cases kk with
  | true => exact sa σ S1 Q sv H1 _ (re.mono s1.tx) r1 q1 fun v2 d2 S2 H2 s2 r2 v2' q2 => k v2 d2 S2 H2 (s1.trans s2) r2 v2' q2
  | false => exact sb σ S1 Q sv H1 _ (re.mono s1.tx) r1 q1 fun v2 d2 S2 H2 s2 r2 v2' q2 => k v2 d2 S2 H2 (s1.trans s2) r2 v2' q2
/-! ### lists of expressions, displays -/
def aNil : DA := fun _ S Q => Q [] S
def aCons (fa : DE) (fs : DA) : DA := fun σ S Q => fa σ S fun x S1 => fs σ S1 fun xs S2 => Q (x :: xs) S2
theorem a_nil : CA X [] aNil := ⟨_, pa_nil, fun σ S Q sv H Kt re rs q k => k _ _ _ _ .refl rs .nil q⟩
theorem a_cons (ha : CE X a fa) (hr : CA X es fs) (hs : starEach (a :: es) X.env = (false, eval a X.env) :: starEach es X.env := by rfl) : CA X (a :: es) (aCons fa fs) := by
  obtain ⟨ta, ha, sa⟩ := ha
  obtain ⟨tr, hr, sr⟩ := hr
  refine ⟨_, pa_cons ha hr hs, fun σ S Q sv H Kt re rs q k => sa σ S _ sv H _ re rs q fun v d S1 H1 s1 r1 v1 q1 => ?_⟩
  exact sr σ S1 _ sv H1 _ (re.mono s1.tx) r1 q1 fun vs ds S2 H2 s2 r2 vs2 q2 => k _ _ S2 H2 (s1.trans s2) r2 (.cons (v1.mono s2.tx) vs2) q2
def eTup (fs : DA) : DE := fun σ S Q => fs σ S fun xs S1 => xs.length ≤ sizeLine ∧ Q (.tup xs) S1
def eLst (fs : DA) : DE := fun σ S Q => fs σ S fun xs S1 => xs.length ≤ sizeLine ∧ ∀ p, S1 p = none → Q (.ref p) (updS S1 p (.lst xs))
theorem c_tup {n} (h : CA X es fs) : CE X (.Tuple es n pos) (eTup fs) := by
  obtain ⟨ta, ha, sa⟩ := h
  refine ⟨_, pe_tup ha, fun σ S Q sv H Kt re rs q k => sa σ S _ sv H _ re rs q fun vs ds S1 H1 s1 r1 v1 q1 => ?_⟩
  refine ⟨by rw [v1.length]; exact q1.1, fun p hp => ?_⟩
  obtain ⟨st, sr⟩ := stp_tup (vs := vs) r1 hp
  exact k _ _ _ _ (s1.trans st) sr (.tup (.inl (.inl upd_same)) (v1.mono st.tx)) q1.2
theorem c_lst (h : CA X es fs) : CE X (.List es pos) (eLst fs) := by
  obtain ⟨ta, ha, sa⟩ := h
  refine ⟨_, pe_lst ha, fun σ S Q sv H Kt re rs q k => sa σ S _ sv H _ re rs q fun vs ds S1 H1 s1 r1 v1 q1 => ?_⟩
  refine ⟨by rw [v1.length]; exact q1.1, fun p hp => ?_⟩
  have tx := tx_new (K := X.K) (ho := .lst vs) hp
  obtain ⟨st, sr⟩ := stp_new (o := .lst ds) r1 hp ⟨_, upd_same, v1.mono tx⟩
  exact k _ _ _ _ (s1.trans st) sr (.ref p) (q1.2 p (r1.free hp))
end
end DL
namespace DL
open PySem PySem.Spec PyProof.Rows L2
section
variable {X : Cx} {K : PySem.W.Frag} {e a b c : Expr} {es : List Expr} {fe fa fb fc : DE} {ft fu : DT} {fs : DA} {pos : Pos} {S : Sto} {H : Hp}
/-! ### keys, tables -/
def toKey : D → Option Key
  | .int i => some (.inl i)
  | .str s => some (.inr s)
  | _ => none
def valD : List (Key × D) → Key → Option D
  | [], _ => none
  | p :: r, k => if p.1 = k then some p.2 else valD r k
def hasD (kvs : List (Key × D)) (k : Key) : Bool := (valD kvs k).isSome
def replD : List (Key × D) → Key → D → List (Key × D)
  | [], _, _ => []
  | p :: r, k, d => (if p.1 = k then (p.1, d) else p) :: replD r k d
def putD (kvs : List (Key × D)) (k : Key) (d : D) : List (Key × D) := if hasD kvs k = true then replD kvs k d else kvs ++ [(k, d)]
def dropD : List (Key × D) → Key → List (Key × D)
  | [], _ => []
  | p :: r, k => if p.1 = k then dropD r k else p :: dropD r k
theorem key_rep {v : V} {d : D} {k : Key} (r : Rep K H v d) (h : toKey d = some k) : v = kV k := by
  cases r <;> first | (cases h; rfl) | cases h
theorem kreps_val : ∀ {ws : List (Key × V)} {kvs : List (Key × D)} (k : Key), KReps K H ws kvs → (valV ws k = none ∧ valD kvs k = none) ∨ ∃ v d, valV ws k = some v ∧ valD kvs k = some d ∧ Rep K H v d
  | _, _, _, .nil => .inl ⟨rfl, rfl⟩
  | p :: ws, q :: kvs, k, .cons h r => by
    by_cases e : q.1 = k
    · exact .inr ⟨p.2, q.2, valV_pos (h.1.trans e), by unfold valD; rw [if_pos e], h.2⟩
    · rw [valV_neg (fun z => e (h.1.symm.trans z))]
      unfold valD
      rw [if_neg e]
      exact kreps_val k r
theorem kreps_len {ws : List (Key × V)} {kvs : List (Key × D)} (r : KReps K H ws kvs) : ws.length = kvs.length := Paired.length r
theorem kreps_repl {v : V} {d : D} (rv : Rep K H v d) (k : Key) : ∀ {ws : List (Key × V)} {kvs : List (Key × D)}, KReps K H ws kvs → KReps K H (ws.map fun kv => if kv.1 = k then (kv.1, v) else kv) (replD kvs k d)
  | _, _, .nil => .nil
  | p :: ws, q :: kvs, .cons h r => by
    refine .cons ?_ (kreps_repl rv k r)
    by_cases e : q.1 = k
    · dsimp only
      rw [if_pos e, if_pos (h.1.trans e)]
      exact ⟨h.1, rv⟩
    · dsimp only
      rw [if_neg e, if_neg (fun z => e (h.1.symm.trans z))]
      exact h
theorem kreps_app : ∀ {ws us : List (Key × V)} {kvs js : List (Key × D)}, KReps K H ws kvs → KReps K H us js → KReps K H (ws ++ us) (kvs ++ js)
  | _, _, _, _, .nil, s => s
  | _, _, _, _, .cons h r, s => .cons h (kreps_app r s)
theorem kreps_put {v : V} {d : D} (rv : Rep K H v d) (k : Key) {ws : List (Key × V)} {kvs : List (Key × D)} (r : KReps K H ws kvs) : KReps K H (putK ws k v) (putD kvs k d) := by
  unfold putK putD hasD
  rw [valV_any]
  rcases kreps_val k r with ⟨e1, e2⟩ | ⟨u, z, e1, e2, _⟩
  · rw [e1, e2]
    exact kreps_app r (.cons ⟨rfl, rv⟩ .nil)
  · rw [e1, e2]
    exact kreps_repl rv k r
def valT : List (List Key × D) → List Key → Option D
  | [], _ => none
  | p :: r, k => if p.1 = k then some p.2 else valT r k
def hasT (kvs : List (List Key × D)) (k : List Key) : Bool := (valT kvs k).isSome
def replT : List (List Key × D) → List Key → D → List (List Key × D)
  | [], _, _ => []
  | p :: r, k, d => (if p.1 = k then (p.1, d) else p) :: replT r k d
def putT (kvs : List (List Key × D)) (k : List Key) (d : D) : List (List Key × D) := if hasT kvs k = true then replT kvs k d else kvs ++ [(k, d)]
theorem treps_val : ∀ {ws : List (List Key × V)} {kvs : List (List Key × D)} (k : List Key), TReps K H ws kvs → (valV ws k = none ∧ valT kvs k = none) ∨ ∃ v d, valV ws k = some v ∧ valT kvs k = some d ∧ Rep K H v d
  | _, _, _, .nil => .inl ⟨rfl, rfl⟩
  | p :: ws, q :: kvs, k, .cons h r => by
    by_cases e : q.1 = k
    · exact .inr ⟨p.2, q.2, valV_pos (h.1.trans e), by unfold valT; rw [if_pos e], h.2⟩
    · rw [valV_neg (fun z => e (h.1.symm.trans z))]
      unfold valT
      rw [if_neg e]
      exact treps_val k r
theorem treps_len {ws : List (List Key × V)} {kvs : List (List Key × D)} (r : TReps K H ws kvs) : ws.length = kvs.length := Paired.length r
theorem treps_repl {v : V} {d : D} (rv : Rep K H v d) (k : List Key) : ∀ {ws : List (List Key × V)} {kvs : List (List Key × D)}, TReps K H ws kvs → TReps K H (ws.map fun kv => if kv.1 = k then (kv.1, v) else kv) (replT kvs k d)
  | _, _, .nil => .nil
  | p :: ws, q :: kvs, .cons h r => by
    refine .cons ?_ (treps_repl rv k r)
    by_cases e : q.1 = k
    · dsimp only
      rw [if_pos e, if_pos (h.1.trans e)]
      exact ⟨h.1, rv⟩
    · dsimp only
      rw [if_neg e, if_neg (fun z => e (h.1.symm.trans z))]
      exact h
theorem treps_app : ∀ {ws us : List (List Key × V)} {kvs js : List (List Key × D)}, TReps K H ws kvs → TReps K H us js → TReps K H (ws ++ us) (kvs ++ js)
  | _, _, _, _, .nil, s => s
  | _, _, _, _, .cons h r, s => .cons h (treps_app r s)
theorem treps_put {v : V} {d : D} (rv : Rep K H v d) (k : List Key) {ws : List (List Key × V)} {kvs : List (List Key × D)} (r : TReps K H ws kvs) : TReps K H (putK ws k v) (putT kvs k d) := by
  unfold putK putT hasT
  rw [valV_any]
  rcases treps_val k r with ⟨e1, e2⟩ | ⟨u, z, e1, e2, _⟩
  · rw [e1, e2]
    exact treps_app r (.cons ⟨rfl, rv⟩ .nil)
  · rw [e1, e2]
    exact treps_repl rv k r
theorem kreps_drop (k : Key) : ∀ {ws : List (Key × V)} {kvs : List (Key × D)}, KReps K H ws kvs → KReps K H (dropK ws k) (dropD kvs k)
  | _, _, .nil => .nil
  | p :: ws, q :: kvs, .cons h r => by
    unfold dropD
    by_cases e : q.1 = k
    · rw [if_pos e]
      have e2 : dropK (p :: ws) k = dropK ws k := by
        unfold dropK
        rw [List.filter_cons_of_neg]
        simpa using h.1.trans e
      rw [e2]
      exact kreps_drop k r
    · rw [if_neg e]
      have e2 : dropK (p :: ws) k = p :: dropK ws k := by
        unfold dropK
        rw [List.filter_cons_of_pos]
        simpa using fun z => e (h.1.symm.trans z)
      rw [e2]
      exact .cons h (kreps_drop k r)
/-! ### a[b] -/
theorem ixDict (hu : X.A.units + 1 < cLine) : IxR X (fun x y H Q => ∃ a v, x = .ref a ∧ DGet H a y (some v) ∧ Q v H) := by
  intro value slice pins s σ H x y v u Q I rx ry h hs
  obtain ⟨a, z, ex, g, q⟩ := h
  subst ex
  have ev : v = Value.ref a := rx
  subst ev
  have got := d_getItem (A := X.A) (E := X.xe) (Q := EP X pins σ Q) hu I g ry fun w' s3 I3 rw' => ⟨z, H, I3, rw', q⟩
  have ty := dict_typeIs I g
  have fin : wpAny (model X.prog X.w) X.A (subscripted slice false (.ref a) u) (fun r s3 => wpAny (model X.prog X.w) X.A (letTemporaryGo value (.ref a) r >>= fun _ => pure r) (EP X pins σ Q) X.xe s3) X.xe s := by
    rw [hs]
    exact wpAny_operating (thn got fun r s3 h3 => wpAny_bind (wpAny_letTemporaryGo (wpAny_pure h3)))
  unfold subscriptTail
  refine wpAny_bind ?_
  rw [getitemInPython_of_ne ty.not_modules]
  refine wpAny_bind (wpAny_specialOf ty PySem.F.slot_dict_getitem.lookup ?_)
  first | exact wpAny_pure (wpAny_bind fin) | exact wpAny_bind (wpAny_pure (wpAny_bind fin)) | exact wpAny_bind fin
def gIx : G2 := fun x y S Q => match x with
  | .tup xs => (match y with
    | .int i => ∃ d, atI xs i = some d ∧ Q d S
    | _ => False)
  | .str z => (match y with
    | .int i => z.length ≤ sizeLine ∧ ∃ c, atI z.cps.toList i = some c ∧ Q (.str ⟨#[c]⟩) S
    | _ => False)
  | .fl xs => (match y with
    | .int i => ∃ d, atI xs i = some d ∧ Q d S
    | _ => False)
  | .ref p => (match S p with
    | some (.lst xs) => (match y with
      | .int i => ∃ d, atI xs i = some d ∧ Q d S
      | _ => False)
    | some (.dk kvs) => ∃ k d, toKey y = some k ∧ valD kvs k = some d ∧ Q d S
    | some (.dt kvs) => (match y with
      | .kt ks => ∃ d, valT kvs ks = some d ∧ Q d S
      | _ => False)
    | none => False)
  | _ => False
theorem reps_atI {vs : List V} {ds : List D} {i : Int} {d : D} (r : Reps K H vs ds) (h : atI ds i = some d) : ∃ v, atI vs i = some v ∧ Rep K H v d := by
  unfold atI at h ⊢
  rw [r.length]
  cases q : ixN ds.length i with
  | none => rw [q] at h; cases h
  | some j =>
    rw [q] at h
    obtain ⟨v, e, rv⟩ := r.get (i := j) (d := d) h
    exact ⟨v, e, rv⟩
theorem sr_ix : SndR K (fun x y H Q => rIx K x y H Q ∨ ∃ a v, x = .ref a ∧ DGet H a y (some v) ∧ Q v H) gIx := fun x y a b S H Q Kt s ra rb q k => by
  cases ra with
  | @tup p vs ds h r =>
    cases rb <;> try exact False.elim q
    obtain ⟨d, e, q⟩ := q
    obtain ⟨v, e2, rv⟩ := reps_atI r e
    exact .inl (.inr (.inl ⟨p, vs, _, v, rfl, rfl, h, e2, k.now s rv q⟩))
  | @fl p vs ds h r =>
    cases rb <;> try exact False.elim q
    obtain ⟨d, e, q⟩ := q
    obtain ⟨v, e2, rv⟩ := reps_atI r e
    exact .inl (.inl ⟨p, vs, _, v, rfl, rfl, h.sq, e2, k.now s rv q⟩)
  | str z =>
    cases rb <;> try exact False.elim q
    obtain ⟨hz, d, e, q⟩ := q
    exact .inl (.inr (.inr ⟨z, _, d, rfl, rfl, hz, e, k.now s (.str _) q⟩))
  | ref p =>
    unfold gIx at q
    cases h : S p with
    | none => simp only [h] at q
    | some o =>
      cases o with
      | lst xs =>
        simp only [h] at q
        cases rb <;> try exact False.elim q
        obtain ⟨d, e, q⟩ := q
        obtain ⟨vs, e1, r⟩ := s _ _ h
        obtain ⟨v, e2, rv⟩ := reps_atI r e
        exact .inl (.inl ⟨p, vs, _, v, rfl, rfl, .inl (.inl e1), e2, k.now s rv q⟩)
      | dk kvs =>
        simp only [h] at q
        obtain ⟨kk, d, e1, e2, q⟩ := q
        obtain ⟨ws, e3, r⟩ := s _ _ h
        rcases kreps_val kk r with ⟨_, z⟩ | ⟨v, d', z1, z2, rv⟩
        · rw [e2] at z; cases z
        · rw [e2] at z2; cases z2
          exact .inr ⟨p, v, rfl, by rw [key_rep rb e1, ← z1]; exact .k e3, k.now s rv q⟩
      | dt kvs =>
        simp only [h] at q
        cases rb <;> try exact False.elim q
        rename_i p2 ks hk
        obtain ⟨d, e2, q⟩ := q
        obtain ⟨ws, e3, r⟩ := s _ _ h
        rcases treps_val ks r with ⟨_, z⟩ | ⟨v, d', z1, z2, rv⟩
        · rw [e2] at z; cases z
        · rw [e2] at z2; cases z2
          exact .inr ⟨p, v, rfl, by rw [← z1]; exact .t e3 hk, k.now s rv q⟩
  | _ => exact False.elim q
theorem c_ix (hu : X.A.units + 1 < cLine) (ha : CE X a fa) (hb : CE X b fb) (hs : PlainIx b := by intro _ _; rfl) : CE X (.Subscript a b pos) (eOp gIx fa fb) := by
  obtain ⟨ta, ha, sa⟩ := ha
  obtain ⟨tb, hb, sb⟩ := hb
  exact ⟨_, pe_ix (IxR.or ix_seq (ixDict hu)) ha hb hs, snd_op sr_ix sa sb⟩
/-! ### a[b:c] -/
abbrev DO := Env → Sto → (Option Int → Sto → Prop) → Prop
structure CP (X : Cx) (e : Option Expr) (f : DO) : Prop where
  ok : ∃ t, PO X e t ∧ ∀ (σ : Env) (S : Sto) (Q : Option Int → Sto → Prop) (sv : L2.St) (H : Hp) (Kt : Option Int → Hp → Prop), ERep X.K H sv σ → SRep X.K S H → f σ S Q →
    (∀ o S' H', Stp X.K S H S' H' → SRep X.K S' H' → Q o S' → Kt o H') → t sv H Kt
def oNo : DO := fun _ S Q => Q none S
def oSome (fa : DE) : DO := fun σ S Q => fa σ S fun x S1 => match x with
  | .int i => Q (some i) S1
  | _ => False
theorem p_none : CP X none oNo := ⟨_, po_none, fun σ S Q sv H Kt re rs q k => k _ _ _ .refl rs q⟩
theorem p_some (ha : CE X a fa) : CP X (some a) (oSome fa) := by
  obtain ⟨ta, ha, sa⟩ := ha
  refine ⟨_, po_some ha, fun σ S Q sv H Kt re rs q k => sa σ S _ sv H _ re rs q fun v d S1 H1 s1 r1 v1 q1 => ?_⟩
  cases v1 <;> try exact False.elim q1
  exact ⟨_, rfl, k _ _ _ s1 r1 q1⟩
/-- the part of a list from one place to another -/
def cutL {α : Type} (xs : List α) (lo hi : Option Int) : List α := (xs.drop (HT.sIx xs.length 0 lo)).take (HT.sIx xs.length xs.length hi - HT.sIx xs.length 0 lo)
def gSl : D → Option Int → Option Int → Sto → DK → Prop := fun x lo hi S Q => match x with
  | .tup xs => Q (.tup (cutL xs lo hi)) S
  | .str z => z.length ≤ sizeLine ∧ Q (.str (cutS z lo hi)) S
  | .fl xs => ∀ p, S p = none → Q (.ref p) (updS S p (.lst (cutL xs lo hi)))
  | .ref p => ∃ xs, S p = some (.lst xs) ∧ ∀ n, S n = none → Q (.ref n) (updS S n (.lst (cutL xs lo hi)))
  | _ => False
theorem reps_cut {vs : List V} {ds : List D} (lo hi : Option Int) (r : Reps K H vs ds) : Reps K H (cutV vs lo hi) (cutL ds lo hi) := by
  unfold cutV cutL
  rw [r.length]
  exact (r.drop _).take _
theorem cut_all {α : Type} {xs : List α} {lo hi : Option Int} (h : HT.sIx xs.length 0 lo = 0 ∧ HT.sIx xs.length xs.length hi = xs.length) : cutL xs lo hi = xs := by
  unfold cutL
  rw [h.1, h.2]
  simp
def rSlAll (K : PySem.W.Frag) : V → Option Int → Option Int → Hp → VK → Prop := fun x lo hi H Q => rSlL K x lo hi H Q ∨ (rSlA K x lo hi H Q ∨ rSlS x lo hi H Q)
def eSl (fa : DE) (fl fh : DO) : DE := fun σ S Q => fa σ S fun x S1 => fl σ S1 fun l S2 => fh σ S2 fun h S3 => gSl x l h S3 Q
theorem sl_all {x : V} {d : D} {lo hi : Option Int} {Q : DK} {Kt : VK} (s : SRep K S H) (r : Rep K H x d) (q : gSl d lo hi S Q) (k : Rch K S H Q Kt) : rSlAll K x lo hi H Kt := by
  cases r with
  | @tup p vs ds h r =>
    have l := r.length
    refine .inr (.inl ⟨p, vs, rfl, h, fun z => ?_, fun z n hn => ?_⟩)
    · have q' : Q (.tup (cutL ds lo hi)) S := q
      rw [cut_all (by rw [← l]; exact z)] at q'
      exact k.now s (.tup h r) q'
    · obtain ⟨st, sr⟩ := stp_tup (vs := cutV vs lo hi) s hn
      exact k _ _ _ _ st sr (.tup (.inl (.inl upd_same)) (reps_cut lo hi (r.mono st.tx))) q
  | str z => exact .inr (.inr ⟨z, rfl, q.1, k.now s (.str _) q.2⟩)
  | @fl p vs ds h r =>
    refine .inl ⟨p, vs, rfl, h.sq, fun n hn => ?_⟩
    have tx := tx_new (K := K) (ho := .lst (cutV vs lo hi)) hn
    obtain ⟨st, sr⟩ := stp_new (o := .lst (cutL ds lo hi)) s hn ⟨_, upd_same, reps_cut lo hi (r.mono tx)⟩
    exact k _ _ _ _ st sr (.ref n) (q n (s.free hn))
  | ref p =>
    obtain ⟨xs, e, q⟩ := q
    obtain ⟨vs, e1, r⟩ := s _ _ e
    refine .inl ⟨p, vs, rfl, .inl (.inl e1), fun n hn => ?_⟩
    have tx := tx_new (K := K) (ho := .lst (cutV vs lo hi)) hn
    obtain ⟨st, sr⟩ := stp_new (o := .lst (cutL xs lo hi)) s hn ⟨_, upd_same, reps_cut lo hi (r.mono tx)⟩
    exact k _ _ _ _ st sr (.ref n) (q n (s.free hn))
  | _ => exact False.elim q
theorem c_sl {lo hi : Option Expr} {fl fh : DO} {p2 : Pos} (ha : CE X a fa) (hl : CP X lo fl) (hh : CP X hi fh) : CE X (.Subscript a (.Slice lo hi none p2) pos) (eSl fa fl fh) := by
  obtain ⟨ta, ha, sa⟩ := ha
  obtain ⟨tl, hl, sl⟩ := hl
  obtain ⟨th, hh, sh⟩ := hh
  refine ⟨_, pe_slice (SlR.or sl_list (SlR.or sl_tupA sl_str)) ha hl hh, fun σ S Q sv H Kt re rs q k => sa σ S _ sv H _ re rs q fun v d S1 H1 s1 r1 v1 q1 => ?_⟩
  refine sl σ S1 _ sv H1 _ (re.mono s1.tx) r1 q1 fun o S2 H2 s2 r2 q2 => ?_
  refine sh σ S2 _ sv H2 _ (re.mono (s1.trans s2).tx) r2 q2 fun o2 S3 H3 s3 r3 q3 => ?_
  exact sl_all r3 (v1.mono (s2.trans s3).tx) q3 fun v4 d4 S4 H4 s4 r4 v4' q4 => k v4 d4 S4 H4 (((s1.trans s2).trans s3).trans s4) r4 v4' q4
/-! ### x in y -/
/-- x is one of flat things -/
def flatD : D → Bool
  | .non => true | .bl _ => true | .int _ => true | .str _ => true
  | _ => false
def eqF : D → D → Bool
  | .non, .non => true
  | .bl a, .bl b => a == b
  | .bl a, .int b => (if a = true then 1 else 0) == b
  | .int a, .bl b => a == if b = true then 1 else 0
  | .int a, .int b => a == b
  | .str a, .str b => a == b
  | _, _ => false
theorem flat_rep {v : V} {d : D} (r : Rep K H v d) (h : flatD d = true) : flatV v = true := by cases r <;> first | rfl | cases h
theorem flat_reps : ∀ {vs : List V} {ds : List D}, Reps K H vs ds → ds.all flatD = true → vs.all flatV = true
  | _, _, .nil, _ => rfl
  | _, _, .cons h r, e => by
    rw [List.all_cons, Bool.and_eq_true] at e ⊢
    exact ⟨flat_rep h e.1, flat_reps r e.2⟩
theorem eqF_rep {x y : V} {a b : D} (rx : Rep K H x a) (ry : Rep K H y b) (ha : flatD a = true) (hb : flatD b = true) : eqV x y = eqF a b := by
  cases rx <;> first | (cases ha; done) | (cases ry <;> first | (cases hb; done) | rfl)
theorem inV_rep {x : V} {a : D} (rx : Rep K H x a) (ha : flatD a = true) : ∀ {vs : List V} {ds : List D}, Reps K H vs ds → ds.all flatD = true → inV x vs = ds.any fun y => eqF y a
  | _, _, .nil, _ => rfl
  | _, _, .cons h r, e => by
    rw [List.all_cons, Bool.and_eq_true] at e
    have ih := inV_rep rx ha r e.2
    unfold inV at ih ⊢
    rw [List.any_cons, List.any_cons, ih, eqF_rep h rx e.1 ha]
def inStr (i j : Str) : Bool := !(Builtin.Str.occurrences j i 0 j.length 1).isEmpty
def gIn (f : Bool → Bool) : G2 := fun x y S Q => match y with
  | .str j => (match x with
    | .str i => Q (.bl (f (inStr i j))) S
    | _ => False)
  | .tup ys => flatD x = true ∧ ys.all flatD = true ∧ Q (.bl (f (ys.any fun z => eqF z x))) S
  | .fl ys => flatD x = true ∧ ys.all flatD = true ∧ Q (.bl (f (ys.any fun z => eqF z x))) S
  | .ref p => (match S p with
    | some (.lst ys) => flatD x = true ∧ ys.all flatD = true ∧ Q (.bl (f (ys.any fun z => eqF z x))) S
    | some (.dk kvs) => ∃ k, toKey x = some k ∧ Q (.bl (f (hasD kvs k))) S
    | some (.dt kvs) => (match x with
      | .kt ks => Q (.bl (f (hasT kvs ks))) S
      | _ => False)
    | none => False)
  | _ => False
theorem opInD (hu : X.A.units + 1 < cLine) : OpR X (compareOp .In) (fun y x H Q => ∃ a o, x = .ref a ∧ DGet H a y o ∧ Q (.bl o.isSome) H) := by
  intro pins s σ H y x v u Q I ry rx h
  obtain ⟨a, o, ex, g, q⟩ := h
  subst ex
  have ev : u = Value.ref a := rx
  subst ev
  exact d_in hu I g ry fun s' I' => ⟨.bl _, _, I', rfl, q⟩
theorem opNotInD (hu : X.A.units + 1 < cLine) : OpR X (compareOp .NotIn) (fun y x H Q => ∃ a o, x = .ref a ∧ DGet H a y o ∧ Q (.bl (!o.isSome)) H) := by
  intro pins s σ H y x v u Q I ry rx h
  obtain ⟨a, o, ex, g, q⟩ := h
  subst ex
  have ev : u = Value.ref a := rx
  subst ev
  exact d_notIn hu I g ry fun s' I' => ⟨.bl _, _, I', rfl, q⟩
theorem o_in (hu : X.A.units + 1 < cLine) : CO X .In (gIn id) := by
  refine ⟨_, OpR.or op_in_str (OpR.or op_in_seq (opInD hu)), fun x y a b S H Q Kt s ra rb q k => ?_⟩
  cases rb with
  | str j =>
    cases ra <;> try exact False.elim q
    exact .inl ⟨_, _, rfl, rfl, k.now s (.bl _) q⟩
  | @tup p vs ds h r => exact .inr (.inl ⟨p, vs, rfl, .inr h, flat_rep ra q.1, flat_reps r q.2.1, k.now s (.bl _) (by rw [if_neg Bool.false_ne_true, inV_rep ra q.1 r q.2.1]; exact q.2.2)⟩)
  | @fl p vs ds h r => exact .inr (.inl ⟨p, vs, rfl, .inl h.sq, flat_rep ra q.1, flat_reps r q.2.1, k.now s (.bl _) (by rw [if_neg Bool.false_ne_true, inV_rep ra q.1 r q.2.1]; exact q.2.2)⟩)
  | ref p =>
    unfold gIn at q
    cases h : S p with
    | none => simp only [h] at q
    | some o =>
      obtain h0 := s _ _ h
      cases o with
      | lst xs =>
        simp only [h] at q
        obtain ⟨vs, e1, r⟩ := h0
        exact .inr (.inl ⟨p, vs, rfl, .inl (.inl (.inl e1)), flat_rep ra q.1, flat_reps r q.2.1, k.now s (.bl _) (by rw [if_neg Bool.false_ne_true, inV_rep ra q.1 r q.2.1]; exact q.2.2)⟩)
      | dk kvs =>
        simp only [h] at q
        obtain ⟨kk, e1, q⟩ := q
        obtain ⟨ws, e3, r⟩ := h0
        refine .inr (.inr ⟨p, valV ws kk, rfl, by rw [key_rep ra e1]; exact .k e3, k.now s (.bl _) ?_⟩)
        have e : (valV ws kk).isSome = hasD kvs kk := by
          unfold hasD
          rcases kreps_val kk r with ⟨z1, z2⟩ | ⟨v, d, z1, z2, _⟩ <;> rw [z1, z2] <;> rfl
        rw [e]
        exact q
      | dt kvs =>
        simp only [h] at q
        cases ra <;> try exact False.elim q
        rename_i p2 ks hk
        obtain ⟨ws, e3, r⟩ := h0
        refine .inr (.inr ⟨p, valV ws ks, rfl, .t e3 hk, k.now s (.bl _) ?_⟩)
        have e : (valV ws ks).isSome = hasT kvs ks := by
          unfold hasT
          rcases treps_val ks r with ⟨z1, z2⟩ | ⟨v, d, z1, z2, _⟩ <;> rw [z1, z2] <;> rfl
        rw [e]
        exact q
  | _ => exact False.elim q
theorem o_notIn (hu : X.A.units + 1 < cLine) : CO X .NotIn (gIn not) := by
  refine ⟨_, OpR.or op_notin_str (OpR.or op_notIn_seq (opNotInD hu)), fun x y a b S H Q Kt s ra rb q k => ?_⟩
  cases rb with
  | str j =>
    cases ra <;> try exact False.elim q
    exact .inl ⟨_, _, rfl, rfl, k.now s (.bl _) q⟩
  | @tup p vs ds h r => exact .inr (.inl ⟨p, vs, rfl, .inr h, flat_rep ra q.1, flat_reps r q.2.1, k.now s (.bl _) (by rw [if_pos rfl, inV_rep ra q.1 r q.2.1]; exact q.2.2)⟩)
  | @fl p vs ds h r => exact .inr (.inl ⟨p, vs, rfl, .inl h.sq, flat_rep ra q.1, flat_reps r q.2.1, k.now s (.bl _) (by rw [if_pos rfl, inV_rep ra q.1 r q.2.1]; exact q.2.2)⟩)
  | ref p =>
    unfold gIn at q
    cases h : S p with
    | none => simp only [h] at q
    | some o =>
      obtain h0 := s _ _ h
      cases o with
      | lst xs =>
        simp only [h] at q
        obtain ⟨vs, e1, r⟩ := h0
        exact .inr (.inl ⟨p, vs, rfl, .inl (.inl (.inl e1)), flat_rep ra q.1, flat_reps r q.2.1, k.now s (.bl _) (by rw [if_pos rfl, inV_rep ra q.1 r q.2.1]; exact q.2.2)⟩)
      | dk kvs =>
        simp only [h] at q
        obtain ⟨kk, e1, q⟩ := q
        obtain ⟨ws, e3, r⟩ := h0
        refine .inr (.inr ⟨p, valV ws kk, rfl, by rw [key_rep ra e1]; exact .k e3, k.now s (.bl _) ?_⟩)
        have e : (valV ws kk).isSome = hasD kvs kk := by
          unfold hasD
          rcases kreps_val kk r with ⟨z1, z2⟩ | ⟨v, d, z1, z2, _⟩ <;> rw [z1, z2] <;> rfl
        rw [e]
        exact q
      | dt kvs =>
        simp only [h] at q
        cases ra <;> try exact False.elim q
        rename_i p2 ks hk
        obtain ⟨ws, e3, r⟩ := h0
        refine .inr (.inr ⟨p, valV ws ks, rfl, .t e3 hk, k.now s (.bl _) ?_⟩)
        have e : (valV ws ks).isSome = hasT kvs ks := by
          unfold hasT
          rcases treps_val ks r with ⟨z1, z2⟩ | ⟨v, d, z1, z2, _⟩ <;> rw [z1, z2] <;> rfl
        rw [e]
        exact q
  | _ => exact False.elim q
end
end DL
namespace DL
open PySem PySem.Spec PyProof.Rows L2
/-! ### defs under a stack without guards -/
structure RoomG (k : Nat) (A : Around) : Prop extends Room k A where
  gd : A.guards = some []
theorem RoomG.mono' {k j : Nat} {A : Around} (h : RoomG j A) (hk : k ≤ j) : RoomG k A := ⟨h.toRoom.mono hk, h.gd⟩
structure FnG (P : Program) (w : World) (K : PySem.W.Frag) (mg : Str → Option Value) (base : Heap) (CX : CXT) (k : Nat) (f : Addr) (fd : FuncData) (ps : List Str) (sp : Sp) : Prop where
  len : ∀ (vs : List V) (H : Hp) (Q : VK) (E : XK), sp vs H Q E → vs.length = ps.length
  run : ∀ (A : Around) (outer : List PySem.Env) (s : Shared) (H : Hp) (args : Args) (us : List Value) (vs : List V) (Q : VK) (E : XK),
    RoomG k A → Env0 P w K mg base A outer s H → BindsTo s fd args (ps.zip us) → Vals vs us → sp vs H Q E → codeAny (model P w) A (.call (.ref f) args) (CR CX outer P w H s Q E) s
theorem run_fnG {X : Cx} {CX : CXT} {k : Nat} {f : Addr} {fd : FuncData} {ps : List Str} {sp : Sp} {dvs : List V} {ds : List Value} {E : XK} {pins : List (Addr × Obj)} {σ : L2.St} {H : Hp} {s : Shared} {Q : VK} {us : List Value} {vs : List V}
    (F : FnG X.prog X.w X.K X.mg X.base CX k f fd ps sp) (hr : RoomG k X.A) (hb : Binds X.K fd ps ds) (hd : Vals dvs ds) (hx : Passes CX X E) (I : L2.Inv X pins σ H s) (r : Vals vs us) (h : sp (vs ++ dvs) H Q E) :
    wpAny (model X.prog X.w) X.A (call (.ref f) us) (EP X pins σ Q) X.xe s := by
  have r2 := Vals.append r hd
  have hl : (us ++ ds).length = ps.length := by rw [← r2.length]; exact F.len _ H Q E h
  refine wpAny_call (codeAny_mono (F.run X.A X.stack s H ⟨us, []⟩ (us ++ ds) (vs ++ dvs) Q E hr I.env0 (hb s us I.kIn hl) r2 h) fun q s' hq => ?_)
  match q, hq with
  | .error e, hq => exact hx pins σ H s e s' I hq
  | .ok (.ret u), hq => exact I.after hq
  | .ok .next, hq => exact hq.elim
  | .ok .brk, hq => exact hq.elim
  | .ok .cont, hq => exact hq.elim
theorem pe_callG {X : Cx} {CX : CXT} {k : Nat} {f : Addr} {fd : FuncData} {ps : List Str} {sp : Sp} {dvs : List V} {ds : List Value} {E : XK} {x : Str} {p pos : Pos} {e : Expr} {es : List Expr} {t : TA}
    (F : FnG X.prog X.w X.K X.mg X.base CX k f fd ps sp) (hr : RoomG k X.A) (hg : Gl X x) (hm : X.mg x = some (.ref f)) (hk : PySem.W.keepIn X.K (.ref f) = true) (hb : Binds X.K fd ps ds) (hd : Vals dvs ds) (hx : Passes CX X E) (ha : PA X (e :: es) t)
    (hdb : (x == ("__debug__" : Str)) = false) (he : starEach (e :: es) X.env = (false, eval e X.env) :: starEach es X.env) (hpl : (backTo pos (starEach es X.env)).any (·.1) = false) :
    PE X (.Call (.Name x p) (e :: es) [] pos) (tCall sp dvs E t) :=
  ⟨fun pins s σ H Q I h => wpAny_Call_Name_kw (ld_glob I hg hm (PySem.W.callWith_K I.ok.mod.kin hk
    (thn (ha.run pos pins s σ H (fun vs H1 => sp (vs ++ dvs) H1 Q E) I h) fun us s1 x => match x with
      | ⟨vs, H1, I1, r, q⟩ => ⟨I1.kIn, run_fnG F hr hb hd hx I1 r q⟩) he hpl) hdb)⟩
theorem fn_ofG {CX : CXT} {P : Program} {w : World} {K : PySem.W.Frag} {mg : Str → Option Value} {base : Heap} {k : Nat} {f : Addr} {name qual : Str} {params : Arguments} {body : List Stmt} {scope : Scope} {dV kV doc pm cdv ct oc : Value} {an od : Option Addr} {osl : Array (Option Value)} {N ps : List Str} {sp : Sp}
    (lk : K.lookup f = some ⟨oc, od, .func (PySem.W.fnOf name qual params body scope dV kV doc pm an cdv ct), osl⟩) (hcd : PySem.W.codeIn K cdv qual = true) (S : FnScope N ps scope) (len : ∀ (vs : List V) (H : Hp) (Q : VK) (E : XK), sp vs H Q E → vs.length = ps.length)
    (hbody : ∀ (A : Around) (outer : List PySem.Env) (s : Shared) (H : Hp) (vs : List V) (Q : VK) (E : XK), RoomG k (A.deeper (envOfC qual scope s.heap.objs.size f cdv)) → sp vs H Q E →
      ∃ t, PSs (cxOf CX P w K mg base N qual scope f cdv A outer s H E) body t ∧ t { nx := fun _ H' => Q .non H', rt := Q } (L2.start N vs) H) :
    FnG P w K mg base CX (k + 1) f (PySem.W.fnOf name qual params body scope dV kV doc pm an cdv ct) ps sp := by
  refine ⟨len, fun A outer s H args us vs Q E hr e0 hb r hsp => ?_⟩
  have hl := len vs H Q E hsp
  have KX : K.In s.heap := e0.mod.kin.keeps fun b o e => (e0.bs b o e).1
  have lim : s.heap.NoLimit := e0.mod.nolimit.keeps fun b o e => (e0.bs b o e).1
  refine codeAny_call_function hr.toRoom.depth (KX f _ lk) rfl S.co S.gen rfl (PySem.W.codeRec_of KX hcd) (hb (model P w) A.in1 (fun e s' => CR CX outer P w H s Q E (.error e) s') _ (wpAny_newFunctionEnv_cells S.kind (fun x hy => ?_) fun env he s1 x => ?_))
  · rcases S.par x.1 (List.of_mem_zip hy).1 with q | q
    · exact .inl q
    · exact .inr ⟨q, PySem.W.cellsFrom_some scope.names (s.heap.objs.size + 1) [] (.inl q)⟩
  · subst he
    refine ⟨lim.keeps x.toInCall.keep, codeAny_func ?_⟩
    obtain ⟨t, ht, hq⟩ := hbody A outer s H vs Q E ⟨hr.toRoom.deeper _, hr.gd⟩ hsp
    have I := inv_start (CX := CX) (mg := mg) (E := E) (N := N) (P := P) (w := w) (K := K) (base := base) (outer := outer) S hr.hd e0 hl r x
    refine wpAny_mono (ht.run [] s1 (L2.start N vs) H _ I hq) (fun fl s' hs => ?_) fun e s' hs => hs
    match fl, hs with
    | .next, hs => obtain ⟨σ', H', J, q⟩ := hs; exact ⟨.non, H', J.os, J.bare, J.base, J.hok, rfl, q⟩
    | .brk, hs => obtain ⟨_, _, _, q⟩ := hs; exact q.elim
    | .cont, hs => obtain ⟨_, _, _, q⟩ := hs; exact q.elim
    | .ret u, hs => obtain ⟨v, σ', H', J, rv, q⟩ := hs; exact ⟨v, H', J.os, J.bare, J.base, J.hok, rv, q⟩
theorem okG {P : Program} {w : World} {K : PySem.W.Frag} {mg : Str → Option Value} {base : Heap} {x qual : Str} {st : Stmt} {f : Addr} {fd : FuncData} {N ps : List Str} {k : Nat} {sp : Sp} (F : Fun K x qual st f fd) (S : FnScope N ps (defScope st))
    (len : ∀ (vs : List V) (H : Hp) (Q : VK) (E : XK), sp vs H Q E → vs.length = ps.length)
    (hbody : ∀ (cdv : Value) (A : Around) (outer : List PySem.Env) (s : Shared) (H : Hp) (vs : List V) (Q : VK) (E : XK), RoomG k (A.deeper (envOfC qual (defScope st) s.heap.objs.size f cdv)) → sp vs H Q E →
      ∃ t, PSs (cxOf CX0 P w K mg base N qual (defScope st) f cdv A outer s H E).nox (defBody st) t ∧ t { nx := fun _ H' => Q .non H', rt := Q } (L2.start N vs) H) :
    FnG P w K mg base CX0 (k + 1) f fd ps sp := by
  obtain ⟨oc, od, kV, doc, pm, an, cdv, ct, osl, e, lk, hcd⟩ := F.ex
  subst e
  refine fn_ofG lk hcd S len fun A outer s H vs Q E hr hsp => ?_
  obtain ⟨t, h, q⟩ := hbody cdv A outer s H vs Q E hr hsp
  exact ⟨t, h.nox, q⟩
theorem law_callG {P : Program} {w : World} {K : PySem.W.Frag} {mg mb : Str → Option Value} {CX : CXT} {k : Nat} {fa a : Addr} {fd : FuncData} {x : Str} {sp : Sp} {s₁ : Shared} {vs : List Value} {ns : List Int}
    (KX : K.In s₁.heap) (hns : s₁.heap.Ns mainGlobals mg) (hb : s₁.heap.Ns builtinsNs mb) (hbb : ∀ x : Str, x ≠ "__name__" → mb x = bootBuiltins x) (hlim : s₁.heap.NoLimit) (hg : s₁.gens = #[]) (ha : s₁.heap.get? a = some { cls := .type "list", data := .seq vs.toArray })
    (hi : IntsAre vs ns) (hl : ns.length ≤ sizeLine) (hr : RoomG k callerA) (F : ∀ base : Heap, K.In base → base.Ns mainGlobals mg → FnG P w K mg base CX k fa fd [x] sp) (hbind : ∀ (s : Shared) (u : Value), BindsTo s fd ⟨[u], []⟩ [(x, u)])
    (hsp : ∀ H : Hp, Only H → SqL K H a (ns.map V.int) → sp [.ref a] H (fun v _ => v = .bl true) fun _ _ _ => False) (hCX : ∀ (H : Hp) (e : Value) (s' : Shared), CX [] H s₁ (fun _ _ _ => False) e s' → False) :
    codeAny (model P w) callerA (.call (.ref fa) ⟨[.ref a], []⟩) (fun r s' => r = .ok (.ret (.bool true)) ∧ OldK s₁.heap s'.heap ∧ s'.os = s₁.os ∧ AllBare s'.gens) s₁ := by
  have rv := vals_ints hi
  have lenV := hi.length
  have core : ∀ H : Hp, Only H → SqL K H a (ns.map V.int) → HOk P w H s₁.heap → (∀ b, H b ≠ none → b = a) → (H a ≠ none → K.lookup a = none) →
      codeAny (model P w) callerA (.call (.ref fa) ⟨[.ref a], []⟩) (fun r s' => r = .ok (.ret (.bool true)) ∧ OldK s₁.heap s'.heap ∧ s'.os = s₁.os ∧ AllBare s'.gens) s₁ := by
    intro H hO hS hok hA hK
    have noA : ∀ {b : Addr} {o : Obj} {es : Array DictEntry} {ep : Nat}, s₁.heap.get? b = some o → o.data = .dict es ep → H b = none := by
      intro b o es ep e d
      cases h : H b with
      | none => rfl
      | some u =>
        have e' := hA b (by rw [h]; simp)
        subst e'
        rw [ha] at e
        cases e
        cases d
    have nsK : ∀ {b : Addr} {m : Str → Option Value}, s₁.heap.Ns b m → (hidT s₁.heap H).Ns b m := fun x => match x with
      | ⟨o, es, ep, e, d, r⟩ => ⟨o, es, ep, hidT_get e (noA e d), d, r⟩
    have hKb : K.In (hidT s₁.heap H) := fun b o e => hidT_get (KX b o e) (by
      cases h : H b with
      | none => rfl
      | some u =>
        have e' := hA b (by rw [h]; simp)
        subst e'
        have := hK (by rw [h]; simp)
        rw [this] at e
        cases e)
    have hM : L2.Mod K mg (hidT s₁.heap H) := ⟨hKb, nsK hns, ⟨mb, nsK hb, hbb⟩, match hlim with | ⟨mc, h1, h2⟩ => ⟨mc, nsK h1, h2⟩⟩
    have e0 : Env0 P w K mg (hidT s₁.heap H) callerA [] s₁ H := ⟨rfl, hM, fun b o e => of_hidT e, Nat.le_of_eq (hidT_size s₁.heap H), trivial, fun b hb => (by cases hb), hok, AllBare.of_eq hg⟩
    refine codeAny_mono ((F (hidT s₁.heap H) hKb (nsK hns)).run callerA [] s₁ H ⟨[.ref a], []⟩ [.ref a] [.ref a] (fun v _ => v = .bl true) (fun _ _ _ => False) hr e0 (hbind s₁ (.ref a)) (.cons rfl .nil) (hsp H hO hS)) fun r s' h => ?_
    match r, h with
    | .error e, h => exact (hCX H e s' h).elim
    | .ok .next, h => exact h.elim
    | .ok .brk, h => exact h.elim
    | .ok .cont, h => exact h.elim
    | .ok (.ret u), h =>
      obtain ⟨v, H', os, bare, un, hok', r', q⟩ := h
      subst q
      cases (show u = Value.bool true from r')
      refine ⟨rfl, OldK.of_keep fun b o e => ?_, os, bare⟩
      cases q : H b with
      | none => exact un.keep b o e q (by intro z; cases z) (by intro z; cases z)
      | some u =>
        rcases hO b with z | ⟨ob, xs, z⟩
        · rw [z] at q; cases q
        · have z2 := un.frzs b ob (.lst xs) z
          have e1 := (hok b _ z).1
          have e2 := (hok' b _ z2).1
          rw [e] at e1
          cases e1
          exact e2
  cases hk : K.lookup a with
  | none =>
    refine core (fun b => if b = a then some (.frz { cls := .type "list", data := .seq vs.toArray } (.lst (ns.map V.int))) else none) (fun b => ?_) (.inl (.inr ⟨_, if_pos rfl⟩)) (fun b u z => ?_) (fun b z => ?_) fun _ => hk
    · by_cases hb : b = a
      · exact .inr ⟨_, _, if_pos hb⟩
      · exact .inl (if_neg hb)
    · by_cases hb : b = a
      · have z' := (if_pos hb).symm.trans z
        cases z'
        subst hb
        exact ⟨ha, by rw [List.length_map]; exact hl, vs, 0, rv, ha⟩
      · have z' := (if_neg hb).symm.trans z
        cases z'
    · by_cases hb : b = a
      · exact hb
      · exact absurd (if_neg hb) z
  | some o =>
    have e := KX a o hk
    rw [ha] at e
    cases e
    exact core (fun _ => none) (fun _ => .inl rfl) (.inr ⟨_, vs.toArray, 0, hk, rfl, rfl, rfl, by rw [List.size_toArray, lenV]; exact hl, rv⟩) (fun b u z => by cases z) (fun b z => absurd rfl z) fun z => absurd rfl z
theorem walk_ofG {l : PySem.W.OpenLaw} {n k : Nat} {q : Program} {loose : List Str} {XP : (Str → Option Value) → Heap → Prop} {YP : World → Heap → Prop} {d : DefRec} {K : Params → PySem.W.Frag} {CX : CXT} {sp : PySem.W.Frag → Sp} {x : Str}
    (hn : l.most = some n) (hn2 : n ≤ sizeLine) (hdf : d.params.defaults = []) (hr : Room k callerA) (hY : ∀ (w : World) (h : Heap), YP w h → (K w.params).In h)
    (F : ∀ (w : World) (mg : Str → Option Value) (fa : Addr) (h : Heap), (K w.params).In h → h.Ns mainGlobals mg → mg d.name = some (.ref fa) → ∃ fd, (∀ (s : Shared) (u : Value), BindsTo s fd ⟨[u], []⟩ [(x, u)]) ∧ ∀ base : Heap, (K w.params).In base → base.Ns mainGlobals mg → FnG l.prog w (K w.params) mg base CX k fa fd [x] (sp (K w.params)))
    (hsp : ∀ (K : PySem.W.Frag) (H : Hp) (a : Addr) (ns : List Int), ns.length ≤ n → Only H → SqL K H a (ns.map V.int) → sp K [.ref a] H (fun v _ => v = .bl true) fun _ _ _ => False) (hCX : ∀ (H : Hp) (s : Shared) (e : Value) (s' : Shared), CX [] H s (fun _ _ _ => False) e s' → False) :
    PySem.W.WalkO q loose XP YP l.row.toRowW d [] fun f vs => PySem.call f vs :=
  Att.attach_call hn hdf fun w s₀ s₁ mg mb fa o pm cd doc a vs ns G Y ho hd hcd hmg hobj hints hlen hg => by
    have KX := hY w s₁.heap Y
    obtain ⟨fd, hb, hF⟩ := F w mg fa s₁.heap KX G.T.g hmg
    exact law_callG KX G.T.g G.T.b G.T.builtins G.T.nolimit hg hobj hints (Nat.le_trans hlen hn2) ⟨hr, rfl⟩ hF hb (fun H hO hS => hsp _ H a ns hlen hO hS) fun H e s' => hCX H s₁ e s'
end DL
namespace DL
open PySem PySem.Spec PyProof.Rows L2
/-! ### what a def does -/
abbrev MF := List D → Sto → DK → Prop
/-- a def of n parameters that raises nothing does m -/
def spD (K : PySem.W.Frag) (n : Nat) (m : MF) : Sp := fun vs H Q _ => vs.length = n ∧ ∃ ds S Qd, Reps K H vs ds ∧ SRep K S H ∧ m ds S Qd ∧ Rch K S H Qd Q
section
variable {X : Cx} {K : PySem.W.Frag} {e a b c : Expr} {es : List Expr} {fe fa fb fc : DE} {ft fu : DT} {fs : DA} {pos : Pos} {S : Sto} {H : Hp}
def eCall (n : Nat) (m : MF) (fs : DA) : DE := fun σ S Q => fs σ S fun ds S1 => ds.length = n ∧ m ds S1 Q
theorem c_call {k n : Nat} {f : Addr} {fd : FuncData} {ps : List Str} {m : MF} {x : Str} {p : Pos} (hr : RoomG k X.A) (F : FnG X.prog X.w X.K X.mg X.base CX0 k f fd ps (spD X.K n m)) (hg : Gl X x) (hm : X.mg x = some (.ref f)) (hk : PySem.W.keepIn X.K (.ref f) = true)
    (hb : Binds X.K fd ps []) (ha : CA X (a :: es) fs) (hdb : (x == ("__debug__" : Str)) = false := by decide) (he : starEach (a :: es) X.env = (false, eval a X.env) :: starEach es X.env := by rfl) (hpl : (backTo pos (starEach es X.env)).any (·.1) = false := by rfl) :
    CE X (.Call (.Name x p) (a :: es) [] pos) (eCall n m fs) := by
  obtain ⟨ta, ha, sa⟩ := ha
  refine ⟨_, pe_callG F hr hg hm hk hb .nil pass0 ha hdb he hpl, fun σ S Q sv H Kt re rs q k => sa σ S _ sv H _ re rs q fun vs ds S1 H1 s1 r1 v1 q1 => ?_⟩
  rw [List.append_nil]
  exact ⟨by rw [v1.length]; exact q1.1, ds, S1, Q, v1, r1, q1.2, fun v d S2 H2 s2 r2 v2 q2 => k v d S2 H2 (s1.trans s2) r2 v2 q2⟩
/-! ### built-ins -/
def eCB (g : GN) (fs : DA) : DE := fun σ S Q => fs σ S fun ds S1 => g ds S1 Q
theorem snd_cb {r : List V → Hp → VK → Prop} {g : GN} {t : TA} (hr : SndN K r g) (ha : SndA K t fs) : Snd K (tCB r t) (eCB g fs) := fun σ S Q sv H Kt re rs q k =>
  ha σ S _ sv H _ re rs q fun vs ds S1 H1 s1 r1 v1 q1 => hr vs ds S1 H1 Q Kt r1 v1 q1 fun v d S2 H2 s2 r2 v2 q2 => k v d S2 H2 (s1.trans s2) r2 v2 q2
/-- a built-in function by its name -/
structure CB (X : Cx) (id : String) (g : GN) : Prop where
  ok : ∃ r, CallR X (.builtin id) r ∧ SndN X.K r g
structure CY (X : Cx) (T : String) (g : GN) : Prop where
  ok : ∃ r, CallR X (.type T) r ∧ SndN X.K r g
theorem c_callB {id : String} {x : Str} {p : Pos} {g : GN} (h : CB X id g) (hg : Gl X x) (hm : X.mg x = none) (hv : bootBuiltins x = some (.builtin id)) (ha : CA X (a :: es) fs) (hn : x ≠ "__name__" := by decide) (hdb : (x == ("__debug__" : Str)) = false := by decide)
    (he : starEach (a :: es) X.env = (false, eval a X.env) :: starEach es X.env := by rfl) (hpl : (backTo pos (starEach es X.env)).any (·.1) = false := by rfl) : CE X (.Call (.Name x p) (a :: es) [] pos) (eCB g fs) := by
  obtain ⟨r, h1, h2⟩ := h
  obtain ⟨ta, ha, sa⟩ := ha
  exact ⟨_, pe_callB h1 hg hm hv ha hn hdb he hpl, snd_cb h2 sa⟩
theorem c_callTy {T : String} {x : Str} {p : Pos} {g : GN} (h : CY X T g) (hg : Gl X x) (hm : X.mg x = none) (hv : bootBuiltins x = some (.type T)) (ha : CA X (a :: es) fs) (hn : x ≠ "__name__" := by decide) (hdb : (x == ("__debug__" : Str)) = false := by decide)
    (he : starEach (a :: es) X.env = (false, eval a X.env) :: starEach es X.env := by rfl) (hpl : (backTo pos (starEach es X.env)).any (·.1) = false := by rfl) : CE X (.Call (.Name x p) (a :: es) [] pos) (eCB g fs) := by
  obtain ⟨r, h1, h2⟩ := h
  obtain ⟨ta, ha, sa⟩ := ha
  exact ⟨_, pe_callTy h1 hg hm hv ha hn hdb he hpl, snd_cb h2 sa⟩
theorem c_bltn {x : Str} {n : String} (hg : Gl X x) (hm : X.mg x = none) (hv : bootBuiltins x = some (.type n)) (hn : x ≠ "__name__" := by decide) (hd : (x == ("__debug__" : Str)) = false := by decide) : CE X (.Name x pos) (eC (.ty n)) :=
  ⟨_, pe_bltn (v := .ty n) hg hm hv rfl hn hd, snd_c fun _ => .ty n⟩
theorem CallR.or' {f : Value} {r r' : List V → Hp → VK → Prop} (h : CallR X f r) (h' : CallR X f r') : CallR X f (fun xs H Q => r xs H Q ∨ r' xs H Q) := L2.CallR.or h h'
/-- len -/
def gLen : GN := fun xs S Q => match xs with
  | [.str z] => z.length ≤ sizeLine ∧ Q (.int z.length) S
  | [.tup ys] => Q (.int ys.length) S
  | [.fl ys] => Q (.int ys.length) S
  | [.ref p] => (match S p with
    | some (.lst ys) => Q (.int ys.length) S
    | some (.dk kvs) => Q (.int kvs.length) S
    | some (.dt _) => False
    | none => False)
  | _ => False
theorem callLenD : CallR X (.builtin "len") (fun xs H Q => ∃ a kvs, xs = [.ref a] ∧ Rd H a (.dK kvs) ∧ Q (.int kvs.length) H) := by
  intro pins s σ H xs us Q I r h
  obtain ⟨a, kvs, ex, hr, q⟩ := h
  subst ex
  obtain ⟨u, eu, ru⟩ := Vals.one r
  subst eu
  have ev : u = Value.ref a := ru
  subst ev
  exact d_len I hr fun t s' I' => ⟨.int kvs.length, H, I', ⟨t, rfl⟩, q⟩
theorem reps1 {vs : List V} {d : D} (r : Reps K H vs [d]) : ∃ v, vs = [v] ∧ Rep K H v d := by
  cases r with
  | cons h t => cases t; exact ⟨_, rfl, h⟩
theorem reps2 {vs : List V} {d d2 : D} (r : Reps K H vs [d, d2]) : ∃ v v2, vs = [v, v2] ∧ Rep K H v d ∧ Rep K H v2 d2 := by
  cases r with
  | cons h t =>
    obtain ⟨v2, rfl, h2⟩ := reps1 t
    exact ⟨_, _, rfl, h, h2⟩
theorem b_len : CB X "len" gLen := by
  refine ⟨_, L2.CallR.or call_len_str (L2.CallR.or call_len_seq callLenD), fun xs as S H Q Kt s r q k => ?_⟩
  match as, q with
  | [.str z], q =>
    obtain ⟨v, rfl, rv⟩ := reps1 r
    cases rv
    exact .inl ⟨_, rfl, q.1, k.now s (.int _) q.2⟩
  | [.tup ys], q =>
    obtain ⟨v, rfl, rv⟩ := reps1 r
    cases rv with
    | tup h r => exact .inr (.inl ⟨_, _, rfl, .inr h, k.now s (.int _) (by rw [r.length]; exact q)⟩)
  | [.fl ys], q =>
    obtain ⟨v, rfl, rv⟩ := reps1 r
    cases rv with
    | fl h r => exact .inr (.inl ⟨_, _, rfl, .inl h.sq, k.now s (.int _) (by rw [r.length]; exact q)⟩)
  | [.ref p], q =>
    obtain ⟨v, rfl, rv⟩ := reps1 r
    cases rv
    unfold gLen at q
    cases h : S p with
    | none => simp only [h] at q
    | some o =>
      have h0 := s _ _ h
      cases o with
      | lst ys =>
        simp only [h] at q
        obtain ⟨vs, e1, r⟩ := h0
        exact .inr (.inl ⟨_, _, rfl, .inl (.inl (.inl e1)), k.now s (.int _) (by rw [r.length]; exact q)⟩)
      | dk kvs =>
        simp only [h] at q
        obtain ⟨ws, e1, r⟩ := h0
        exact .inr (.inr ⟨_, _, rfl, .inl e1, k.now s (.int _) (by rw [kreps_len r]; exact q)⟩)
      | dt kvs => simp only [h] at q
def gAbs : GN := fun xs S Q => match xs with
  | [.int i] => Q (.int (if i < 0 then -i else i)) S
  | _ => False
theorem b_abs : CB X "abs" gAbs := by
  refine ⟨_, call_abs, fun xs as S H Q Kt s r q k => ?_⟩
  match as, q with
  | [.int i], q =>
    obtain ⟨v, rfl, rv⟩ := reps1 r
    cases rv
    exact ⟨_, rfl, k.now s (.int _) q⟩
def gMax2 : GN := fun xs S Q => match xs with
  | [.int i, .int j] => Q (.int (if j > i then j else i)) S
  | _ => False
def gMin2 : GN := fun xs S Q => match xs with
  | [.int i, .int j] => Q (.int (if j < i then j else i)) S
  | _ => False
theorem b_max2 (hc : X.calm = true) : CB X "max" gMax2 := by
  refine ⟨_, call_max2 hc, fun xs as S H Q Kt s r q k => ?_⟩
  match as, q with
  | [.int i, .int j], q =>
    obtain ⟨v, v2, rfl, rv, rv2⟩ := reps2 r
    cases rv
    cases rv2
    exact ⟨_, _, rfl, k.now s (.int _) q⟩
theorem b_min2 (hc : X.calm = true) : CB X "min" gMin2 := by
  refine ⟨_, call_min2 hc, fun xs as S H Q Kt s r q k => ?_⟩
  match as, q with
  | [.int i, .int j], q =>
    obtain ⟨v, v2, rfl, rv, rv2⟩ := reps2 r
    cases rv
    cases rv2
    exact ⟨_, _, rfl, k.now s (.int _) q⟩
def gInt1 : GN := fun xs S Q => match xs with
  | [.int i] => Q (.int i) S
  | [.bl i] => Q (.int (if i then 1 else 0)) S
  | _ => False
theorem y_int : CY X "int" gInt1 := by
  refine ⟨_, call_int1, fun xs as S H Q Kt s r q k => ?_⟩
  match as, q with
  | [.int i], q =>
    obtain ⟨v, rfl, rv⟩ := reps1 r
    cases rv
    exact .inl ⟨_, rfl, k.now s (.int _) q⟩
  | [.bl i], q =>
    obtain ⟨v, rfl, rv⟩ := reps1 r
    cases rv
    exact .inr ⟨_, rfl, k.now s (.int _) q⟩
def gList : GN := fun xs S Q => match xs with
  | [.tup ys] => ∀ p, S p = none → Q (.ref p) (updS S p (.lst ys))
  | [.fl ys] => ∀ p, S p = none → Q (.ref p) (updS S p (.lst ys))
  | [.ref a] => ∃ ys, S a = some (.lst ys) ∧ ∀ p, S p = none → Q (.ref p) (updS S p (.lst ys))
  | _ => False
theorem new_lst {vs : List V} {ds : List D} {Q : DK} {Kt : VK} (s : SRep K S H) (r : Reps K H vs ds) (k : Rch K S H Q Kt) (q : ∀ p, S p = none → Q (.ref p) (updS S p (.lst ds))) : ∀ p, H p = none → Kt (.ref p) (upd H p (.lst vs)) := fun p hp => by
  have tx := tx_new (K := K) (ho := .lst vs) hp
  obtain ⟨st, sr⟩ := stp_new (o := .lst ds) s hp ⟨_, upd_same, r.mono tx⟩
  exact k _ _ _ _ st sr (.ref p) (q p (s.free hp))
theorem y_list : CY X "list" gList := by
  refine ⟨_, call_list_of, fun xs as S H Q Kt s r q k => ?_⟩
  match as, q with
  | [.tup ys], q =>
    obtain ⟨v, rfl, rv⟩ := reps1 r
    cases rv with
    | tup h r => exact ⟨_, _, rfl, .inr h, new_lst s r k q⟩
  | [.fl ys], q =>
    obtain ⟨v, rfl, rv⟩ := reps1 r
    cases rv with
    | fl h r => exact ⟨_, _, rfl, .inl h.sq, new_lst s r k q⟩
  | [.ref p], q =>
    obtain ⟨v, rfl, rv⟩ := reps1 r
    cases rv
    obtain ⟨ys, e, q⟩ := q
    obtain ⟨vs, e1, r⟩ := s _ _ e
    exact ⟨_, _, rfl, .inl (.inl (.inl e1)), new_lst s r k q⟩
def gTuple : GN := fun xs S Q => match xs with
  | [.tup ys] => Q (.tup ys) S
  | [.fl ys] => Q (.tup ys) S
  | [.ref a] => ∃ ys, S a = some (.lst ys) ∧ Q (.tup ys) S
  | _ => False
theorem y_tuple : CY X "tuple" gTuple := by
  refine ⟨_, call_tuple_of, fun xs as S H Q Kt s r q k => ?_⟩
  have mk : ∀ {vs : List V} {ds : List D}, Reps X.K H vs ds → Q (.tup ds) S → ∀ p, H p = none → Kt (.ref p) (upd H p (.tup vs)) := fun {vs ds} r q p hp => by
    obtain ⟨st, sr⟩ := stp_tup (vs := vs) s hp
    exact k _ _ _ _ st sr (.tup (.inl (.inl upd_same)) (r.mono st.tx)) q
  match as, q with
  | [.tup ys], q =>
    obtain ⟨v, rfl, rv⟩ := reps1 r
    cases rv with
    | tup h r => exact ⟨_, _, rfl, .inr ⟨h, k.now s (.tup h r) q⟩⟩
  | [.fl ys], q =>
    obtain ⟨v, rfl, rv⟩ := reps1 r
    cases rv with
    | fl h r => exact ⟨_, _, rfl, .inl ⟨h.sq, mk r q⟩⟩
  | [.ref p], q =>
    obtain ⟨v, rfl, rv⟩ := reps1 r
    cases rv
    obtain ⟨ys, e, q⟩ := q
    obtain ⟨vs, e1, r⟩ := s _ _ e
    exact ⟨_, _, rfl, .inl ⟨.inl (.inl e1), mk r q⟩⟩
theorem reps_map {α : Type} {f : α → V} {g : α → D} (h : ∀ {v : V} {x : α}, Rep K H v (g x) → v = f x) : ∀ {vs : List V} {xs : List α}, Reps K H vs (xs.map g) → vs = xs.map f
  | _, [], r => by cases r; rfl
  | _, x :: xs, r => by
    cases r with
    | cons h1 r => rw [h h1, reps_map h r]; rfl
theorem reps_ints {vs : List V} {ns : List Int} (r : Reps K H vs (ns.map D.int)) : vs = ns.map V.int := reps_map (fun {v x} h => by cases h; rfl) r
theorem reps_strs {vs : List V} {ns : List Str} (r : Reps K H vs (ns.map D.str)) : vs = ns.map V.str := reps_map (fun {v x} h => by cases h; rfl) r
theorem reps_bls {vs : List V} {ns : List Bool} (r : Reps K H vs (ns.map D.bl)) : vs = ns.map V.bl := reps_map (fun {v x} h => by cases h; rfl) r
theorem strs_reps : ∀ {ns : List Str}, Reps K H (ns.map V.str) (ns.map D.str)
  | [] => .nil
  | _ :: _ => .cons (.str _) strs_reps
theorem ints_reps : ∀ {ns : List Int}, Reps K H (ns.map V.int) (ns.map D.int)
  | [] => .nil
  | _ :: _ => .cons (.int _) ints_reps
def gSum : GN := fun xs S Q => match xs with
  | [.ref a] => ∃ ns : List Int, S a = some (.lst (ns.map .int)) ∧ Q (.int ns.sum) S
  | _ => False
theorem b_sum (hc : X.calm = true) : CB X "sum" gSum := by
  refine ⟨_, cr_sum hc, fun xs as S H Q Kt s r q k => ?_⟩
  match as, q with
  | [.ref p], q =>
    obtain ⟨v, rfl, rv⟩ := reps1 r
    cases rv
    obtain ⟨ns, e, q⟩ := q
    obtain ⟨vs, e1, r⟩ := s _ _ e
    rw [reps_ints r] at e1
    exact ⟨_, _, rfl, .inl (.inl e1), k.now s (.int _) q⟩
def gAll (f : List Bool → Bool) : GN := fun xs S Q => match xs with
  | [.ref a] => ∃ bs : List Bool, S a = some (.lst (bs.map .bl)) ∧ Q (.bl (f bs)) S
  | _ => False
theorem b_all (hc : X.calm = true) : CB X "all" (gAll fun bs => bs.all id) := by
  refine ⟨_, cr_all hc, fun xs as S H Q Kt s r q k => ?_⟩
  match as, q with
  | [.ref p], q =>
    obtain ⟨v, rfl, rv⟩ := reps1 r
    cases rv
    obtain ⟨ns, e, q⟩ := q
    obtain ⟨vs, e1, r⟩ := s _ _ e
    rw [reps_bls r] at e1
    exact ⟨_, _, rfl, .inl (.inl e1), k.now s (.bl _) q⟩
theorem b_any (hc : X.calm = true) : CB X "any" (gAll fun bs => bs.any id) := by
  refine ⟨_, cr_any hc, fun xs as S H Q Kt s r q k => ?_⟩
  match as, q with
  | [.ref p], q =>
    obtain ⟨v, rfl, rv⟩ := reps1 r
    cases rv
    obtain ⟨ns, e, q⟩ := q
    obtain ⟨vs, e1, r⟩ := s _ _ e
    rw [reps_bls r] at e1
    exact ⟨_, _, rfl, .inl (.inl e1), k.now s (.bl _) q⟩
/-- isinstance of one built-in class -/
def tyD (x : D) (S : Sto) : Option String := match x with
  | .non => some "NoneType"
  | .bl _ => some "bool"
  | .int _ => some "int"
  | .str _ => some "str"
  | .tup _ => some "tuple"
  | .fl _ => some "list"
  | .ref p => (match S p with
    | some (.lst _) => some "list"
    | some (.dk _) => some "dict"
    | some (.dt _) => some "dict"
    | none => none)
  | .ty _ => none
  | .exc _ => none
  | .cls _ => none
  | .kt _ => some "tuple"
theorem tyX_of {v : V} {d : D} {t : String} (s : SRep K S H) (r : Rep K H v d) (h : tyD d S = some t) : TyX K H v (.type t) := by
  cases r with
  | non => cases h; exact .base .non
  | bl b => cases h; exact .base (.bl b)
  | int i => cases h; exact .base (.int i)
  | str x => cases h; exact .base (.str x)
  | ty n => cases h
  | exc _ _ => cases h
  | cls _ => cases h
  | kt h1 => cases h; exact .base (.tup h1)
  | @tup p vs ds h1 r =>
    cases h
    rcases h1 with (h1 | ⟨o, h1⟩) | ⟨o, its, n, hk, hc, _⟩
    · exact .base (.tup h1)
    · exact .fTuple h1
    · exact .kTuple hk hc
  | @fl p vs ds h1 r =>
    cases h
    rcases h1 with ⟨o, h1⟩ | ⟨o, its, n, hk, hc, _⟩
    · exact .base (.frz h1)
    · exact .kList hk hc
  | ref p =>
    unfold tyD at h
    cases q : S p with
    | none => simp only [q] at h; cases h
    | some o =>
      have h0 := s _ _ q
      cases o with
      | lst ys =>
        simp only [q] at h
        cases h
        obtain ⟨vs, e1, r⟩ := h0
        exact .base (.lst e1)
      | dk kvs =>
        simp only [q] at h
        cases h
        obtain ⟨ws, e1, r⟩ := h0
        exact .base (.dK e1)
      | dt kvs =>
        simp only [q] at h
        cases h
        obtain ⟨ws, e1, r⟩ := h0
        exact .base (.dT e1)
/-- what isinstance tells of a type and a class by their names -/
def isiN (t n : String) : Bool := t == n || (t == "bool" && n == "int")
def isiTys : List String := ["NoneType", "bool", "int", "str", "tuple", "list", "dict"]
def isiCls : List String := ["bool", "int", "str", "tuple", "list", "dict"]
theorem isi_table : isiTys.all (fun t => isiCls.all fun n => kitB t n == some (isiN t n)) = true := by decide +kernel
theorem isi_ok {t n : String} (ht : t ∈ isiTys) (hn : n ∈ isiCls) : kitB t n = some (isiN t n) := by
  have h := List.all_eq_true.mp (List.all_eq_true.mp isi_table t ht) n hn
  exact eq_of_beq h
theorem tyD_in {d : D} {t : String} (h : tyD d S = some t) : t ∈ isiTys := by
  have : ∀ u ∈ ["NoneType", "bool", "int", "str", "tuple", "list", "dict"], u ∈ isiTys := fun u h => h
  unfold tyD at h
  split at h <;> first | (cases h; done) | (cases h; apply this; simp; done) | skip
  split at h <;> first | (cases h; done) | (cases h; apply this; simp; done)
def gIsi : GN := fun xs S Q => match xs with
  | [x, .ty n] => n ∈ isiCls ∧ ∃ t, tyD x S = some t ∧ Q (.bl (isiN t n)) S
  | _ => False
theorem b_isi : CB X "isinstance" gIsi := by
  refine ⟨_, call_isi, fun xs as S H Q Kt s r q k => ?_⟩
  match as, q with
  | [x, .ty n], q =>
    obtain ⟨v, v2, rfl, rv, rv2⟩ := reps2 r
    cases rv2
    obtain ⟨hn, t, ht, q⟩ := q
    exact ⟨_, _, _, _, _, rfl, .ty n, tyX_of s rv ht, kit_ty (isi_ok (tyD_in ht) hn), k.now s (.bl _) q⟩
/-- isinstance(x, (c, c2)) -/
def eIsi2 (n n2 : String) (fa : DE) : DE := fun σ S Q => fa σ S fun x S1 => (n ∈ isiCls ∧ n2 ∈ isiCls) ∧ ∃ t, tyD x S1 = some t ∧ Q (.bl (isiN t n || isiN t n2)) S1
theorem c_isi2 {x1 x2 : Str} {n n2 : String} {p p1 p2 p3 : Pos} (hg : Gl X "isinstance") (hm : X.mg "isinstance" = none) (hv : bootBuiltins "isinstance" = some (.builtin "isinstance")) (ha : CE X a fa)
    (g1 : Gl X x1) (m1 : X.mg x1 = none) (v1 : bootBuiltins x1 = some (.type n)) (g2 : Gl X x2) (m2 : X.mg x2 = none) (v2 : bootBuiltins x2 = some (.type n2)) (hn1 : x1 ≠ "__name__" := by decide) (hd1 : (x1 == ("__debug__" : Str)) = false := by decide)
    (hn2 : x2 ≠ "__name__" := by decide) (hd2 : (x2 == ("__debug__" : Str)) = false := by decide) {j}
    (hs1 : starEach [a, .Tuple [.Name x1 p1, .Name x2 p2] j p3] X.env = (false, eval a X.env) :: starEach [.Tuple [.Name x1 p1, .Name x2 p2] j p3] X.env := by rfl)
    (hs2 : starEach [.Tuple [.Name x1 p1, .Name x2 p2] j p3] X.env = (false, eval (.Tuple [.Name x1 p1, .Name x2 p2] j p3) X.env) :: starEach [] X.env := by rfl)
    (hs3 : starEach [.Name x1 p1, .Name x2 p2] X.env = (false, eval (.Name x1 p1) X.env) :: starEach [.Name x2 p2] X.env := by rfl)
    (hs4 : starEach [.Name x2 p2] X.env = (false, eval (.Name x2 p2) X.env) :: starEach [] X.env := by rfl)
    (hpl : (backTo pos (starEach [.Tuple [.Name x1 p1, .Name x2 p2] j p3] X.env)).any (·.1) = false := by rfl) :
    CE X (.Call (.Name "isinstance" p) [a, .Tuple [.Name x1 p1, .Name x2 p2] j p3] [] pos) (eIsi2 n n2 fa) := by
  obtain ⟨ta, ha, sa⟩ := ha
  refine ⟨_, pe_callB call_isiT hg hm hv (pa_cons ha (pa_cons (pe_tup (pa_cons (pe_bltn (v := .ty n) g1 m1 v1 rfl hn1 hd1) (pa_cons (pe_bltn (v := .ty n2) g2 m2 v2 rfl hn2 hd2) pa_nil hs4) hs3)) pa_nil hs2) hs1) (by decide) (by decide) hs1 hpl, fun σ S Q sv H Kt re rs q k => ?_⟩
  refine sa σ S _ sv H _ re rs q fun v d S1 H1 s1 r1 w1 q1 => ?_
  obtain ⟨⟨h1, h2⟩, t, ht, q1⟩ := q1
  refine ⟨by show 2 ≤ sizeLine; decide, fun tp hp => ?_⟩
  obtain ⟨st, sr⟩ := stp_tup (vs := [V.ty n, V.ty n2]) r1 hp
  refine ⟨v, tp, _, _, [.type n, .type n2], _, rfl, upd_same, .cons (.ty n) (.cons (.ty n2) .nil), tyX_of sr (w1.mono st.tx) ht, ?_, k _ _ _ _ (s1.trans st) sr (.bl _) q1⟩
  refine kitAny_cons (b := isiN t n) (kit_ty (isi_ok (tyD_in ht) h1)) (fun e => kitAny_cons (b := isiN t n2) (r := isiN t n || isiN t n2) (kit_ty (isi_ok (tyD_in ht) h2)) (fun e2 => ?_) fun e2 => ?_) fun e => ?_
  · rw [e, e2]; exact kitAny_nil
  · rw [e, e2]; rfl
  · rw [e]; rfl
/-! ### methods of built-in types -/
def tyM (T : String) (x : D) (S : Sto) : Prop := match x with
  | .str _ => T = "str"
  | .ref p => (match S p with
    | some (.lst _) => T = "list"
    | some (.dk _) => T = "dict"
    | some (.dt _) => T = "dict"
    | none => False)
  | _ => False
theorem tyV_of {v : V} {d : D} {T : String} (s : SRep K S H) (r : Rep K H v d) (h : tyM T d S) : tyV K T v H := by
  cases r with
  | str x => exact h
  | ref p =>
    unfold tyM at h
    cases q : S p with
    | none => simp only [q] at h
    | some o =>
      have h0 := s _ _ q
      cases o with
      | lst ys =>
        simp only [q] at h
        obtain ⟨vs, e1, r⟩ := h0
        exact .inl ⟨h, vs, .inl (.inl e1)⟩
      | dk kvs =>
        simp only [q] at h
        obtain ⟨ws, e1, r⟩ := h0
        exact .inr (.inr (.inl ⟨h, .inl ⟨ws, e1⟩⟩))
      | dt kvs =>
        simp only [q] at h
        obtain ⟨ws, e1, r⟩ := h0
        exact .inr (.inr (.inl ⟨h, .inr ⟨ws, e1⟩⟩))
  | _ => exact False.elim h
def eM (T : String) (g : D → GN) (fo : DE) (fs : DA) : DE := fun σ S Q => fo σ S fun x S1 => tyM T x S1 ∧ fs σ S1 fun xs S2 => g x xs S2 Q
/-- a method by its name -/
structure CM (X : Cx) (T : String) (name : Str) (g : D → GN) : Prop where
  ok : ∃ (id : String) (r : V → List V → Hp → VK → Prop), PlainAttrs T ∧ Slot T name id ∧ typeOf (.builtin id) = pure (.type "method_descriptor") ∧ MtR X id r ∧ SndM X.K r g
theorem c_m {T : String} {name : Str} {g : D → GN} {fo : DE} {o : Expr} {apos : Pos} (h : CM X T name g) (ho : CE X o fo) (ha : CA X (a :: es) fs)
    (hbase : attributeBase o name X.env (eval o X.env) = eval o X.env := by rfl)
    (hfew : ((backTo pos (starEach (a :: es) X.env)).all (fun x => !x.1) && (backToKw pos (keywordEach [] X.env)).all (fun x => x.1.isSome)
      && decide ((a :: es).length + ([] : List Keyword).length + (if ([] : List Keyword).isEmpty then 0 else 1) < 30)) = true := by rfl)
    (hline : (apos.endLine == pos.line) = true := by rfl) (hs : starEach (a :: es) X.env = (false, eval a X.env) :: starEach es X.env := by rfl) (hplain : (backTo pos (starEach es X.env)).any (·.1) = false := by rfl) :
    CE X (.Call (.Attribute o name apos) (a :: es) [] pos) (eM T g fo fs) := by
  obtain ⟨id, r, h1, h2, h3, h4, h5⟩ := h
  obtain ⟨to, ho, so⟩ := ho
  obtain ⟨ta, ha, sa⟩ := ha
  refine ⟨_, pe_bm h1 h2 h3 h4 ho ha hbase hfew hline hs hplain, fun σ S Q sv H Kt re rs q k => so σ S _ sv H _ re rs q fun v d S1 H1 s1 r1 v1 q1 => ?_⟩
  refine ⟨tyV_of r1 v1 q1.1, sa σ S1 _ sv H1 _ (re.mono s1.tx) r1 q1.2 fun vs ds S2 H2 s2 r2 v2 q2 => ?_⟩
  exact h5 v d vs ds S2 H2 Q Kt r2 (v1.mono s2.tx) v2 q2 fun v3 d3 S3 H3 s3 r3 w3 q3 => k v3 d3 S3 H3 ((s1.trans s2).trans s3) r3 w3 q3
theorem c_m0 {T : String} {name : Str} {g : D → GN} {fo : DE} {o : Expr} {apos : Pos} (h : CM X T name g) (ho : CE X o fo) (hbase : attributeBase o name X.env (eval o X.env) = eval o X.env := by rfl) (hline : (apos.endLine == pos.line) = true := by rfl) :
    CE X (.Call (.Attribute o name apos) [] [] pos) (eM T g fo aNil) := by
  obtain ⟨id, r, h1, h2, h3, h4, h5⟩ := h
  obtain ⟨to, ho, so⟩ := ho
  refine ⟨_, pe_bm0 h1 h2 h3 h4 ho hbase hline, fun σ S Q sv H Kt re rs q k => so σ S _ sv H _ re rs q fun v d S1 H1 s1 r1 v1 q1 => ?_⟩
  refine ⟨tyV_of r1 v1 q1.1, ?_⟩
  exact h5 v d [] [] S1 H1 Q Kt r1 v1 .nil q1.2 fun v3 d3 S3 H3 s3 r3 w3 q3 => k v3 d3 S3 H3 (s1.trans s3) r3 w3 q3
end
end DL
namespace DL
open PySem PySem.Spec PyProof.Rows L2
section
variable {X : Cx} {K : PySem.W.Frag} {e a b c : Expr} {es : List Expr} {fe fa fb fc : DE} {ft fu : DT} {fs : DA} {pos : Pos} {S : Sto} {H : Hp}
/-! ### methods of lists -/
def gAppend : D → GN := fun x vs S Q => match x, vs with
  | .ref p, [d] => ∃ xs, S p = some (.lst xs) ∧ xs.length < sizeLine ∧ Q .non (updS S p (.lst (xs ++ [d])))
  | _, _ => False
theorem mut_lst {p : Addr} {vs' : List V} {ds ds' : List D} {Q : DK} {Kt : VK} (s : SRep K S H) (e : S p = some (.lst ds)) (r : Reps K H vs' ds') (k : Rch K S H Q Kt) {v : V} {d : D} (rv : Rep K H v d) (q : Q d (updS S p (.lst ds'))) : Kt v (upd H p (.lst vs')) := by
  have tx : Tx K H (upd H p (.lst vs')) := tx_mut (s p _ e)
  obtain ⟨st, sr⟩ := stp_mut (o' := .lst ds') s e ⟨_, upd_same, r.mono tx⟩
  exact k _ _ _ _ st sr (rv.mono tx) q
theorem m_append : CM X "list" "append" gAppend := by
  refine ⟨_, _, PySem.F.plainAttrs_list, PySem.F.slot_list_append, PySem.F.type_list_append, mt_append, fun x a xs as S H Q Kt s rx r q k => ?_⟩
  match a, as, q with
  | .ref p, [d], q =>
    obtain ⟨ys, e, hz, q⟩ := q
    obtain ⟨v, rfl, rv⟩ := reps1 r
    cases rx
    obtain ⟨vs, e1, r1⟩ := s _ _ e
    exact ⟨p, vs, v, rfl, rfl, e1, by rw [r1.length]; exact hz, mut_lst s e (r1.append (.cons rv .nil)) k .non q⟩
def gPop0 : D → GN := fun x vs S Q => match x, vs with
  | .ref p, [] => ∃ xs d, S p = some (.lst xs) ∧ xs[xs.length - 1]? = some d ∧ Q d (updS S p (.lst xs.dropLast))
  | _, _ => False
theorem m_pop0 : CM X "list" "pop" gPop0 := by
  refine ⟨_, _, PySem.F.plainAttrs_list, PySem.F.slot_list_pop, PySem.F.type_list_pop, mt_pop, fun x a xs as S H Q Kt s rx r q k => ?_⟩
  match a, as, q with
  | .ref p, [], q =>
    obtain ⟨ys, d, e, hd, q⟩ := q
    cases r
    cases rx
    obtain ⟨vs, e1, r1⟩ := s _ _ e
    obtain ⟨v, ev, rv⟩ := r1.get hd
    exact ⟨p, vs, v, rfl, rfl, e1, by rw [r1.length]; exact ev, mut_lst s e r1.dropLast k rv q⟩
def gPopAt : D → GN := fun x vs S Q => match x, vs with
  | .ref p, [.int i] => ∃ xs j d, S p = some (.lst xs) ∧ -(2 ^ 63) ≤ i ∧ i < 2 ^ 63 ∧ seqIndex? i xs.length = some j ∧ xs[j]? = some d ∧ Q d (updS S p (.lst (xs.eraseIdx j)))
  | _, _ => False
theorem m_popAt : CM X "list" "pop" gPopAt := by
  refine ⟨_, _, PySem.F.plainAttrs_list, PySem.F.slot_list_pop, PySem.F.type_list_pop, mt_popAt, fun x a xs as S H Q Kt s rx r q k => ?_⟩
  match a, as, q with
  | .ref p, [.int i], q =>
    obtain ⟨ys, j, d, e, h1, h2, h3, hd, q⟩ := q
    obtain ⟨v, rfl, rv⟩ := reps1 r
    cases rv
    cases rx
    obtain ⟨vs, e1, r1⟩ := s _ _ e
    obtain ⟨v, ev, rv⟩ := r1.get hd
    exact ⟨p, vs, i, j, v, rfl, rfl, e1, h1, h2, by rw [r1.length]; exact h3, ev, mut_lst s e (r1.eraseIdx j) k rv q⟩
def gClear : D → GN := fun x vs S Q => match x, vs with
  | .ref p, [] => ∃ xs, S p = some (.lst xs) ∧ Q .non (updS S p (.lst []))
  | _, _ => False
theorem m_clear : CM X "list" "clear" gClear := by
  refine ⟨_, _, PySem.F.plainAttrs_list, PySem.F.slot_list_clear, PySem.F.type_list_clear, mt_clear, fun x a xs as S H Q Kt s rx r q k => ?_⟩
  match a, as, q with
  | .ref p, [], q =>
    obtain ⟨ys, e, q⟩ := q
    cases r
    cases rx
    obtain ⟨vs, e1, r1⟩ := s _ _ e
    exact ⟨p, vs, rfl, rfl, e1, mut_lst s e .nil k .non q⟩
def gReverse : D → GN := fun x vs S Q => match x, vs with
  | .ref p, [] => ∃ xs, S p = some (.lst xs) ∧ Q .non (updS S p (.lst xs.reverse))
  | _, _ => False
theorem m_reverse : CM X "list" "reverse" gReverse := by
  refine ⟨_, _, PySem.F.plainAttrs_list, PySem.F.slot_list_reverse, PySem.F.type_list_reverse, mt_reverse, fun x a xs as S H Q Kt s rx r q k => ?_⟩
  match a, as, q with
  | .ref p, [], q =>
    obtain ⟨ys, e, q⟩ := q
    cases r
    cases rx
    obtain ⟨vs, e1, r1⟩ := s _ _ e
    exact ⟨p, vs, rfl, rfl, e1, mut_lst s e r1.reverse k .non q⟩
/-! ### methods of texts -/
def gJoin : D → GN := fun x vs S Q => match x, vs with
  | .str a, [.ref p] => ∃ ys : List Str, S p = some (.lst (ys.map .str)) ∧ (ys.map (·.length)).sum + ys.length * a.length ≤ 16777216 ∧ Q (.str (Txt.join a ys)) S
  | .str a, [.tup ds] => ∃ ys : List Str, ds = ys.map .str ∧ (ys.map (·.length)).sum + ys.length * a.length ≤ 16777216 ∧ Q (.str (Txt.join a ys)) S
  | _, _ => False
theorem m_join : CM X "str" "join" gJoin := by
  refine ⟨_, _, PySem.F.plainAttrs_str, F.slot_str_join, F.type_str_join, mt_join, fun x a xs as S H Q Kt s rx r q k => ?_⟩
  match a, as, q with
  | .str z, [.ref p], q =>
    obtain ⟨ys, e, hz, q⟩ := q
    obtain ⟨v, rfl, rv⟩ := reps1 r
    cases rv
    cases rx
    obtain ⟨vs, e1, r1⟩ := s _ _ e
    rw [reps_strs r1] at e1
    exact ⟨z, p, ys, rfl, rfl, .inl (.inl (.inl e1)), hz, k.now s (.str _) q⟩
  | .str z, [.tup ds], q =>
    obtain ⟨ys, rfl, hz, q⟩ := q
    obtain ⟨v, rfl, rv⟩ := reps1 r
    cases rx
    cases rv with
    | @tup p vs ds h r =>
      rw [reps_strs r] at h
      exact ⟨z, p, ys, rfl, rfl, .inr h, hz, k.now s (.str _) q⟩
def gUpper : D → GN := fun x vs S Q => match x, vs with
  | .str a, [] => a.length ≤ 5592405 ∧ Q (.str (Txt.upper a)) S
  | _, _ => False
theorem m_upper : CM X "str" "upper" gUpper := by
  refine ⟨_, _, PySem.F.plainAttrs_str, F.slot_str_upper, F.type_str_upper, mt_upper, fun x a xs as S H Q Kt s rx r q k => ?_⟩
  match a, as, q with
  | .str z, [], q =>
    cases r
    cases rx
    exact ⟨z, rfl, rfl, q.1, k.now s (.str _) q.2⟩
/-! ### statements -/
structure DEnds where
  nx : Env → Sto → Prop
  rt : DK
  bk : Env → Sto → Prop
  ct : Env → Sto → Prop
abbrev DS := DEnds → Env → Sto → Prop
/-- a state of data that is reached, and what is wanted there -/
abbrev RchS (K : PySem.W.Frag) (S : Sto) (H : Hp) (Q : Env → Sto → Prop) (Kt : L2.St → Hp → Prop) : Prop := ∀ sv σ S' H', Stp K S H S' H' → SRep K S' H' → ERep K H' sv σ → Q σ S' → Kt sv H'
structure RchE (K : PySem.W.Frag) (S : Sto) (H : Hp) (D0 : DEnds) (Dv : Ends) : Prop where
  nx : RchS K S H D0.nx Dv.nx
  rt : Rch K S H D0.rt Dv.rt
  bk : RchS K S H D0.bk Dv.bk
  ct : RchS K S H D0.ct Dv.ct
theorem RchS.stp {Q : Env → Sto → Prop} {Kt : L2.St → Hp → Prop} {S1 : Sto} {H1 : Hp} (k : RchS K S H Q Kt) (s : Stp K S H S1 H1) : RchS K S1 H1 Q Kt := fun sv σ S2 H2 s2 r e q => k sv σ S2 H2 (s.trans s2) r e q
theorem Rch.stp {Q : DK} {Kt : VK} {S1 : Sto} {H1 : Hp} (k : Rch K S H Q Kt) (s : Stp K S H S1 H1) : Rch K S1 H1 Q Kt := fun v d S2 H2 s2 r e q => k v d S2 H2 (s.trans s2) r e q
theorem RchE.stp {D0 : DEnds} {Dv : Ends} {S1 : Sto} {H1 : Hp} (k : RchE K S H D0 Dv) (s : Stp K S H S1 H1) : RchE K S1 H1 D0 Dv := ⟨k.nx.stp s, k.rt.stp s, k.bk.stp s, k.ct.stp s⟩
def SndS (K : PySem.W.Frag) (t : TS) (f : DS) : Prop := ∀ (D0 : DEnds) (σ : Env) (S : Sto) (Dv : Ends) (sv : L2.St) (H : Hp), ERep K H sv σ → SRep K S H → f D0 σ S → RchE K S H D0 Dv → t Dv sv H
structure CS (X : Cx) (st : Stmt) (f : DS) : Prop where
  ok : ∃ t, PS X st t ∧ SndS X.K t f
structure CSs (X : Cx) (st : List Stmt) (f : DS) : Prop where
  ok : ∃ t, PSs X st t ∧ SndS X.K t f
variable {st : Stmt} {rest : List Stmt} {f g : DS}
def sNext : DS := fun D0 σ S => D0.nx σ S
def sSeq (f g : DS) : DS := fun D0 σ S => f { D0 with nx := g D0 } σ S
def sBreak : DS := fun D0 σ S => D0.bk σ S
def sCont : DS := fun D0 σ S => D0.ct σ S
theorem ss_nil : CSs X [] sNext := ⟨_, pss_nil, fun D0 σ S Dv sv H re rs q k => k.nx sv σ S H .refl rs re q⟩
theorem ss_cons (h1 : CS X st f) (h2 : CSs X rest g) : CSs X (st :: rest) (sSeq f g) := by
  obtain ⟨t, h1, s1⟩ := h1
  obtain ⟨u, h2, s2⟩ := h2
  refine ⟨_, pss_cons h1 h2, fun D0 σ S Dv sv H re rs q k => s1 { D0 with nx := g D0 } σ S { Dv with nx := u Dv } sv H re rs q ⟨?_, k.rt, k.bk, k.ct⟩⟩
  exact fun sv' σ' S' H' st' r' e' q' => s2 D0 σ' S' Dv sv' H' e' r' q' (k.stp st')
theorem ss_one (h1 : CS X st f) : CSs X [st] f := let ⟨_, h, s⟩ := h1.ok; ⟨_, pss_one h, s⟩
theorem s_pass : CS X (.Pass pos) sNext := ⟨_, ps_pass, fun D0 σ S Dv sv H re rs q k => k.nx sv σ S H .refl rs re q⟩
theorem s_break : CS X (.Break pos) sBreak := ⟨_, ps_break, fun D0 σ S Dv sv H re rs q k => k.bk sv σ S H .refl rs re q⟩
theorem s_cont : CS X (.Continue pos) sCont := ⟨_, ps_continue, fun D0 σ S Dv sv H re rs q k => k.ct sv σ S H .refl rs re q⟩
def sExpr (fa : DE) : DS := fun D0 σ S => fa σ S fun _ S1 => D0.nx σ S1
theorem s_expr (ha : CE X a fa) (hs : swapsWith a none pos.line X.env = pure false := by rfl) : CS X (.Expr a pos) (sExpr fa) := by
  obtain ⟨t, h, s⟩ := ha
  exact ⟨_, ps_expr h hs, fun D0 σ S Dv sv H re rs q k => s σ S _ sv H _ re rs q fun v d S1 H1 s1 r1 v1 q1 => k.nx sv σ S1 H1 s1 r1 (re.mono s1.tx) q1⟩
def sRet (fa : DE) : DS := fun D0 σ S => fa σ S D0.rt
theorem s_ret (ha : CE X a fa) : CS X (.Return (some a) pos) (sRet fa) := by
  obtain ⟨t, h, s⟩ := ha
  exact ⟨_, ps_ret h, fun D0 σ S Dv sv H re rs q k => s σ S _ sv H _ re rs q k.rt⟩
def sRetN : DS := fun D0 _ S => D0.rt .non S
theorem s_retN : CS X (.Return none pos) sRetN := ⟨_, ps_retN, fun D0 σ S Dv sv H re rs q k => k.rt _ _ _ _ .refl rs .non q⟩
def sIf (ft : DT) (f g : DS) : DS := fun D0 σ S => ft σ S fun k S1 => if k = true then f D0 σ S1 else g D0 σ S1
theorem s_if {body orelse : List Stmt} (hc : CT X c ft) (ha : CSs X body f) (hb : CSs X orelse g) : CS X (.If c body orelse pos) (sIf ft f g) := by
  obtain ⟨tc, hc, sc⟩ := hc
  obtain ⟨ta, ha, sa⟩ := ha
  obtain ⟨tb, hb, sb⟩ := hb
  refine ⟨_, ps_if hc ha hb, fun D0 σ S Dv sv H re rs q k => sc σ S _ sv H _ re rs q fun kk S1 H1 s1 r1 q1 => ?_⟩
  cases kk with
  | true => exact sa D0 σ S1 Dv sv H1 (re.mono s1.tx) r1 q1 (k.stp s1)
  | false => exact sb D0 σ S1 Dv sv H1 (re.mono s1.tx) r1 q1 (k.stp s1)
/-! ### targets -/
abbrev DG := D → Env → Sto → (Env → Sto → Prop) → Prop
/-- own: the slots that a store changes -/
structure CG (X : Cx) (tg : Expr) (own : List Nat) (g : DG) : Prop where
  ok : ∃ t, PG X tg t ∧ ∀ (v : V) (d : D) (σ : Env) (S : Sto) (Q : Env → Sto → Prop) (sv : L2.St) (H : Hp) (Kt : L2.St → Hp → Prop), Rep X.K H v d → ERep X.K H sv σ → SRep X.K S H → g d σ S Q →
    (∀ sv' σ' S' H', Stp X.K S H S' H' → SRep X.K S' H' → ERep X.K H' sv' σ' → (∀ vs : List Nat, (∀ i ∈ own, i ∈ vs) → wipe sv' vs = wipe sv vs) → Q σ' S' → Kt sv' H') → t v sv H Kt
def nName (i : Nat) : DG := fun d σ S Q => Q (setS i d σ) S
theorem g_name {i : Nat} {x : Str} (hN : X.N.Nodup) (hi : X.N[i]? = some x) (hx : Loc X.env.scope x) (hf : X.fn x = true ∨ X.env.scope.names.lookup x = some .local := by first | exact .inl rfl | exact .inr rfl | assumption) : CG X (.Name x pos) [i] (nName i) := by
  refine ⟨_, pg_name hN hi hx hf, fun v d σ S Q sv H Kt rv re rs q k => ?_⟩
  exact k _ _ _ _ .refl rs (re.set rv) (fun vs h => wipe_set (h i List.mem_cons_self)) q
structure CGs (X : Cx) (ts : List Expr) (own : List Nat) (g : List D → Env → Sto → (Env → Sto → Prop) → Prop) : Prop where
  ok : ∃ t, PGs X ts t ∧ ∀ (vs : List V) (ds : List D) (σ : Env) (S : Sto) (Q : Env → Sto → Prop) (sv : L2.St) (H : Hp) (Kt : L2.St → Hp → Prop), Reps X.K H vs ds → ERep X.K H sv σ → SRep X.K S H → g ds σ S Q →
    (∀ sv' σ' S' H', Stp X.K S H S' H' → SRep X.K S' H' → ERep X.K H' sv' σ' → (∀ vs : List Nat, (∀ i ∈ own, i ∈ vs) → wipe sv' vs = wipe sv vs) → Q σ' S' → Kt sv' H') → t vs sv H Kt
def nNil : List D → Env → Sto → (Env → Sto → Prop) → Prop := fun ds σ S Q => match ds with
  | [] => Q σ S
  | _ => False
def nCons (g : DG) (gs : List D → Env → Sto → (Env → Sto → Prop) → Prop) : List D → Env → Sto → (Env → Sto → Prop) → Prop := fun ds σ S Q => match ds with
  | d :: r => g d σ S fun σ1 S1 => gs r σ1 S1 Q
  | [] => False
theorem gs_nil : CGs X [] [] nNil := by
  refine ⟨_, pgs_nil, fun vs ds σ S Q sv H Kt rv re rs q k => ?_⟩
  cases rv with
  | nil => exact ⟨rfl, k _ _ _ _ .refl rs re (fun _ _ => rfl) q⟩
  | cons h r => exact False.elim q
theorem gs_cons {t : Expr} {ts : List Expr} {own owns : List Nat} {gg : DG} {gs : List D → Env → Sto → (Env → Sto → Prop) → Prop} (h1 : CG X t own gg) (h2 : CGs X ts owns gs)
    (hs : (assignEach (t :: ts) X.env).map (·.2) = assign t X.env :: (assignEach ts X.env).map (·.2) := by rfl) : CGs X (t :: ts) (own ++ owns) (nCons gg gs) := by
  obtain ⟨t1, p1, s1⟩ := h1
  obtain ⟨t2, p2, s2⟩ := h2
  refine ⟨_, pgs_cons p1 p2 hs, fun vs ds σ S Q sv H Kt rv re rs q k => ?_⟩
  cases rv with
  | nil => exact False.elim q
  | cons h r =>
    refine ⟨_, _, rfl, s1 _ _ σ S _ sv H _ h re rs q fun sv1 σ1 S1 H1 st1 r1 e1 w1 q1 => ?_⟩
    refine s2 _ _ σ1 S1 Q sv1 H1 Kt (r.mono st1.tx) e1 r1 q1 fun sv2 σ2 S2 H2 st2 r2 e2 w2 q2 => k sv2 σ2 S2 H2 (st1.trans st2) r2 e2 (fun vs hv => ?_) q2
    rw [w2 vs fun i hi => hv i (List.mem_append_right _ hi), w1 vs fun i hi => hv i (List.mem_append_left _ hi)]
/-- a, b, .. = a tuple of n -/
def nTup (n : Nat) (gs : List D → Env → Sto → (Env → Sto → Prop) → Prop) : DG := fun d σ S Q => match d with
  | .tup ds => ds.length = n ∧ gs ds σ S Q
  | _ => False
theorem g_tup {ts : List Expr} {k : Nat} {own : List Nat} {gs : List D → Env → Sto → (Env → Sto → Prop) → Prop} {n : Nat} (hc : X.calm = true) (h : CGs X ts own gs) (hn : (assignEach ts X.env).length = n := by rfl) (hst : (assignEach ts X.env).findIdx? (·.1) = none := by rfl) :
    CG X (.Tuple ts k pos) own (nTup n gs) := by
  obtain ⟨t, p, s⟩ := h
  refine ⟨_, pg_tup hc p hn hst, fun v d σ S Q sv H Kt rv re rs q k => ?_⟩
  cases rv with
  | @tup a vs ds h r => exact ⟨a, vs, rfl, h, by rw [r.length]; exact q.1, s vs ds σ S Q sv H Kt r re rs q.2 k⟩
  | _ => exact False.elim q
/-! ### target = value -/
def sAsg (fa : DE) (g : DG) : DS := fun D0 σ S => fa σ S fun x S1 => g x σ S1 D0.nx
theorem s_asg {tg : Expr} {own : List Nat} {g : DG} (ha : CE X a fa) (hg : CG X tg own g) (hs : swapsWithSole [tg] a pos.line X.env = pure false := by rfl) (hw : swappedStores [tg] a X.env = pure none := by rfl)
    (h1 : (assignEach [tg] X.env).map (·.2) = [assign tg X.env] := by rfl) : CS X (.Assign [tg] a pos) (sAsg fa g) := by
  obtain ⟨t, h, s⟩ := ha
  obtain ⟨u, hg, sg⟩ := hg
  refine ⟨_, ps_asg h hg hs hw h1, fun D0 σ S Dv sv H re rs q k => s σ S _ sv H _ re rs q fun v d S1 H1 s1 r1 v1 q1 => ?_⟩
  exact sg v d σ S1 D0.nx sv H1 Dv.nx v1 (re.mono s1.tx) r1 q1 fun sv2 σ2 S2 H2 st2 r2 e2 _ q2 => k.nx sv2 σ2 S2 H2 (s1.trans st2) r2 e2 q2
theorem s_set {i : Nat} {x : Str} {pos' : Pos} (hN : X.N.Nodup) (hi : X.N[i]? = some x) (hx : Loc X.env.scope x) (ha : CE X a fa) (hs : swapsWith a (some (.Name x pos')) pos.line X.env = pure false := by rfl) (hf : X.fn x = true ∨ X.env.scope.names.lookup x = some .local := by first | exact .inl rfl | exact .inr rfl | assumption) :
    CS X (.Assign [.Name x pos'] a pos) (sAsg fa (nName i)) := by
  obtain ⟨t, h, s⟩ := ha
  refine ⟨_, ps_set hN hi hx h hs hf, fun D0 σ S Dv sv H re rs q k => s σ S _ sv H _ re rs q fun v d S1 H1 s1 r1 v1 q1 => ?_⟩
  exact k.nx _ _ _ _ s1 r1 ((re.mono s1.tx).set v1) q1
/-- o[i] = v, dicts and lists -/
def sSub (fv fo fi : DE) : DS := fun D0 σ S => fv σ S fun d S1 => fo σ S1 fun o S2 => fi σ S2 fun i S3 => match o with
  | .ref p => (match S3 p with
    | some (.dk kvs) => ∃ k, toKey i = some k ∧ kvs.length < sizeLine ∧ D0.nx σ (updS S3 p (.dk (putD kvs k d)))
    | some (.dt kvs) => (match i with
      | .kt ks => kvs.length < sizeLine ∧ D0.nx σ (updS S3 p (.dt (putT kvs ks d)))
      | _ => False)
    | some (.lst xs) => (match i with
      | .int n => ∃ j, ixN xs.length n = some j ∧ D0.nx σ (updS S3 p (.lst (xs.set j d)))
      | _ => False)
    | none => False)
  | _ => False
def rPutD : V → V → V → Hp → (Hp → Prop) → Prop := fun o i v H Q => ∃ a H', o = .ref a ∧ DPut H a i v H' ∧ Q H'
theorem setDict (hu : X.A.units + 1 < cLine) : PSet X rPutD := by
  intro pins s σ H o i v ov iv u Q I ro ri rv h
  obtain ⟨a, H', eo, g, q⟩ := h
  subst eo
  have ev : ov = Value.ref a := ro
  subst ev
  exact d_setItem hu I g ri rv fun s' I' => ⟨H', I', q⟩
theorem PSet.or {t t' : TSet} (h : PSet X t) (h' : PSet X t') : PSet X (fun o i v H Q => t o i v H Q ∨ t' o i v H Q) := fun pins s σ H o i v ov iv u Q I r1 r2 r3 q => by
  rcases q with q | q
  · exact h pins s σ H o i v ov iv u Q I r1 r2 r3 q
  · exact h' pins s σ H o i v ov iv u Q I r1 r2 r3 q
theorem s_sub {o i v : Expr} {fo fi fv : DE} {pos' : Pos} (hu : X.A.units + 1 < cLine) (hv : CE X v fv) (ho : CE X o fo) (hi : CE X i fi) (hs : swapsWithSole [.Subscript o i pos'] v pos.line X.env = pure false := by rfl) (hw : swappedStores [.Subscript o i pos'] v X.env = pure none := by rfl)
    (h1 : (assignEach [.Subscript o i pos'] X.env).map (·.2) = [assign (.Subscript o i pos') X.env] := by rfl)
    (ha : ∀ v, assign (.Subscript o i pos') X.env v = (do
      let ov ← holding [v] (eval o X.env)
      let iv ← holding [v, ov] (eval i X.env)
      standAt pos'
      holding [v, ov, iv] (setItem ov iv v)
      release [v, ov, iv] []) := by intro _; rfl) : CS X (.Assign [.Subscript o i pos'] v pos) (sSub fv fo fi) := by
  obtain ⟨tv, hv, sv0⟩ := hv
  obtain ⟨to, ho, so⟩ := ho
  obtain ⟨ti, hi, si⟩ := hi
  refine ⟨_, ps_asg hv (pg_sub ho hi (PSet.or set_list (setDict hu)) ha) hs hw h1, fun D0 σ S Dv sv H re rs q k => sv0 σ S _ sv H _ re rs q fun v d S1 H1 s1 r1 v1 q1 => ?_⟩
  refine so σ S1 _ sv H1 _ (re.mono s1.tx) r1 q1 fun ov od S2 H2 s2 r2 v2 q2 => ?_
  refine si σ S2 _ sv H2 _ (re.mono (s1.trans s2).tx) r2 q2 fun iv id S3 H3 s3 r3 v3 q3 => ?_
  have st := (s1.trans s2).trans s3
  have rd := v1.mono (s2.trans s3).tx
  cases v2 with
  | ref p =>
    dsimp only at q3
    cases h : S3 p with
    | none => simp only [h] at q3
    | some o =>
      have h0 := r3 _ _ h
      cases o with
      | lst xs =>
        simp only [h] at q3
        cases v3 <;> try exact False.elim q3
        obtain ⟨j, hj, q3⟩ := q3
        obtain ⟨vs, e1, r⟩ := h0
        refine .inl ⟨p, vs, _, j, rfl, rfl, e1, by rw [r.length]; exact hj, ?_⟩
        have tx : Tx X.K H3 (upd H3 p (.lst (vs.set j v))) := tx_mut (r3 p _ h)
        obtain ⟨s4, r4⟩ := stp_mut (o' := .lst (xs.set j d)) r3 h ⟨_, upd_same, (r.set j rd).mono tx⟩
        exact k.nx _ _ _ _ (st.trans s4) r4 (re.mono (st.trans s4).tx) q3
      | dk kvs =>
        simp only [h] at q3
        obtain ⟨kk, e, hl, q3⟩ := q3
        obtain ⟨ws, e1, r⟩ := h0
        refine .inr ⟨p, _, rfl, by rw [key_rep v3 e]; exact .k e1 (by rw [kreps_len r]; exact hl), ?_⟩
        have tx : Tx X.K H3 (upd H3 p (.dK (putK ws kk v))) := tx_mut (r3 p _ h)
        obtain ⟨s4, r4⟩ := stp_mut (o' := .dk (putD kvs kk d)) r3 h ⟨_, upd_same, KReps.mono tx (kreps_put rd kk r)⟩
        exact k.nx _ _ _ _ (st.trans s4) r4 (re.mono (st.trans s4).tx) q3
      | dt kvs =>
        simp only [h] at q3
        cases v3 <;> try exact False.elim q3
        rename_i p2 ks hk
        obtain ⟨hl, q3⟩ := q3
        obtain ⟨ws, e1, r⟩ := h0
        refine .inr ⟨p, _, rfl, .t e1 hk (by rw [treps_len r]; exact hl), ?_⟩
        have tx : Tx X.K H3 (upd H3 p (.dT (putK ws ks v))) := tx_mut (r3 p _ h)
        obtain ⟨s4, r4⟩ := stp_mut (o' := .dt (putT kvs ks d)) r3 h ⟨_, upd_same, TReps.mono tx (treps_put rd ks r)⟩
        exact k.nx _ _ _ _ (st.trans s4) r4 (re.mono (st.trans s4).tx) q3
  | _ => exact False.elim q3
end
end DL
namespace DL
open PySem PySem.Spec PyProof.Rows L2
/-! ### the reading that data choose -/
def TEof (K : PySem.W.Frag) (f : DE) : TE := fun sv H Kt => ∃ σ S Q, ERep K H sv σ ∧ SRep K S H ∧ f σ S Q ∧ Rch K S H Q Kt
def TTof (K : PySem.W.Frag) (f : DT) : TT := fun sv H Kt => ∃ σ S Q, ERep K H sv σ ∧ SRep K S H ∧ f σ S Q ∧ ∀ b S' H', Stp K S H S' H' → SRep K S' H' → Q b S' → Kt b H'
def TGof (K : PySem.W.Frag) (own : List Nat) (g : DG) : TG := fun v sv H Kt => ∃ d σ S Q, Rep K H v d ∧ ERep K H sv σ ∧ SRep K S H ∧ g d σ S Q ∧
  ∀ sv' σ' S' H', Stp K S H S' H' → SRep K S' H' → ERep K H' sv' σ' → (∀ vs : List Nat, (∀ i ∈ own, i ∈ vs) → wipe sv' vs = wipe sv vs) → Q σ' S' → Kt sv' H'
section
variable {X : Cx} {K : PySem.W.Frag} {e a b c : Expr} {es : List Expr} {fe fa fb fc : DE} {ft fu : DT} {fs : DA} {pos : Pos} {S S1 S' : Sto} {H H1 H' : Hp}
theorem CE.pe (h : CE X e fe) : PE X e (TEof X.K fe) := by
  obtain ⟨t, p, s⟩ := h
  exact ⟨fun pins s0 sv H Kt I ⟨σ, S, Q, a, b, c, d⟩ => p.run pins s0 sv H Kt I (s σ S Q sv H Kt a b c d)⟩
theorem CT.pt (h : CT X e ft) : PT X e (TTof X.K ft) := by
  obtain ⟨t, p, s⟩ := h
  exact ⟨fun pins s0 sv H Kt I ⟨σ, S, Q, a, b, c, d⟩ => p.run pins s0 sv H Kt I (s σ S Q sv H Kt a b c d)⟩
theorem CG.pg {own : List Nat} {g : DG} (h : CG X e own g) : PG X e (TGof X.K own g) := by
  obtain ⟨t, p, s⟩ := h
  exact ⟨fun pins s0 sv H v u Kt I r ⟨d, σ, S, Q, a, b, c, q, k⟩ => p.run pins s0 sv H v u Kt I r (s v d σ S Q sv H Kt a b c q k)⟩
/-! ### what is walked -/
abbrev DI := Env → Sto → (List D → (Sto → Prop) → Sto → Prop) → Prop
/-- the iterator J walks the items, from the heap H0 on, while stab holds -/
def ItOk (K : PySem.W.Frag) (H0 : Hp) (J : It) (items : List D) (stab : Sto → Prop) : Prop := ∀ S H, SRep K S H → Tx K H0 H → stab S →
  (∀ i d, items[i]? = some d → J.go i H ∧ ∀ x H', J.yld i H x H' → Stp K S H S H' ∧ SRep K S H' ∧ Rep K H' x d) ∧ J.stop items.length H
structure CI (X : Cx) (tg it : Expr) (fi : DI) : Prop where
  ok : ∃ wi, PI X tg it wi ∧ ∀ (σ : Env) (S : Sto) (Q : List D → (Sto → Prop) → Sto → Prop) (sv : L2.St) (H : Hp) (R : It → Hp → Prop), ERep X.K H sv σ → SRep X.K S H → fi σ S Q →
    (∀ J items stab S' H', Stp X.K S H S' H' → SRep X.K S' H' → ItOk X.K H' J items stab → Q items stab S' → R J H') → wi sv H R
def iSeqL (fa : DE) : DI := fun σ S Q => fa σ S fun x S1 => match x with
  | .ref p => ∃ xs, S1 p = some (.lst xs) ∧ Q xs (fun S => S p = some (.lst xs)) S1
  | .fl xs => Q xs (fun _ => True) S1
  | _ => False
def iSeqT (fa : DE) : DI := fun σ S Q => fa σ S fun x S1 => match x with
  | .tup xs => Q xs (fun _ => True) S1
  | _ => False
def iStrD (fa : DE) : DI := fun σ S Q => fa σ S fun x S1 => match x with
  | .str z => Q (z.cps.toList.map fun c => .str ⟨#[c]⟩) (fun _ => True) S1
  | _ => False
theorem itok_list {p : Addr} {xs : List D} : ItOk K H1 (Itl K p) xs (fun S => S p = some (.lst xs)) := fun S H s tx st => by
  obtain ⟨vs, e1, r⟩ := s _ _ st
  have sq : SqL K H p vs := .inl (.inl e1)
  refine ⟨fun i d hi => ?_, ⟨vs, sq, by rw [r.length]; exact Nat.le_refl _⟩⟩
  obtain ⟨v, ev, rv⟩ := r.get hi
  refine ⟨⟨vs, v, sq, ev⟩, fun x H' y => ?_⟩
  obtain ⟨e, y⟩ := y
  subst e
  have h2 := y vs sq
  rw [ev] at h2
  cases h2
  exact ⟨.refl, s, rv⟩
theorem itok_fl {p : Addr} {vs : List V} {xs : List D} (h : FrL K H1 p vs) (r : Reps K H1 vs xs) : ItOk K H1 (Itl K p) xs (fun _ => True) := fun S H s tx st => by
  have r := r.mono tx
  have sq : SqL K H p vs := (tx.fl _ _ h).sq
  refine ⟨fun i d hi => ?_, ⟨vs, sq, by rw [r.length]; exact Nat.le_refl _⟩⟩
  obtain ⟨v, ev, rv⟩ := r.get hi
  refine ⟨⟨vs, v, sq, ev⟩, fun x H' y => ?_⟩
  obtain ⟨e, y⟩ := y
  subst e
  have h2 := y vs sq
  rw [ev] at h2
  cases h2
  exact ⟨.refl, s, rv⟩
theorem itok_tup {p : Addr} {vs : List V} {xs : List D} (h : SqT K H1 p vs) (r : Reps K H1 vs xs) : ItOk K H1 (Itt K p) xs (fun _ => True) := fun S H s tx st => by
  have r := r.mono tx
  have sq : SqT K H p vs := tx.tup _ _ h
  refine ⟨fun i d hi => ?_, ⟨vs, sq, by rw [r.length]; exact Nat.le_refl _⟩⟩
  obtain ⟨v, ev, rv⟩ := r.get hi
  refine ⟨⟨vs, v, sq, ev⟩, fun x H' y => ?_⟩
  obtain ⟨e, y⟩ := y
  subst e
  have h2 := y vs sq
  rw [ev] at h2
  cases h2
  exact ⟨.refl, s, rv⟩
theorem i_list {tg : Expr} (ha : CE X a fa) : CI X tg a (iSeqL fa) := by
  obtain ⟨ta, ha, sa⟩ := ha
  refine ⟨_, pi_list ha, fun σ S Q sv H R re rs q k => sa σ S _ sv H _ re rs q fun v d S1 H1 s1 r1 v1 q1 => ?_⟩
  cases v1 with
  | ref p =>
    obtain ⟨xs, e, q1⟩ := q1
    obtain ⟨vs, e1, r⟩ := r1 _ _ e
    exact ⟨p, rfl, ⟨vs, .inl (.inl e1)⟩, k _ _ _ _ _ s1 r1 itok_list q1⟩
  | @fl p vs ds h r => exact ⟨p, rfl, ⟨vs, h.sq⟩, k _ _ _ _ _ s1 r1 (itok_fl h r) q1⟩
  | _ => exact False.elim q1
theorem i_tup {tg : Expr} (ha : CE X a fa) : CI X tg a (iSeqT fa) := by
  obtain ⟨ta, ha, sa⟩ := ha
  refine ⟨_, pi_tup ha, fun σ S Q sv H R re rs q k => sa σ S _ sv H _ re rs q fun v d S1 H1 s1 r1 v1 q1 => ?_⟩
  cases v1 with
  | @tup p vs ds h r => exact ⟨p, rfl, ⟨vs, h⟩, k _ _ _ _ _ s1 r1 (itok_tup h r) q1⟩
  | _ => exact False.elim q1
theorem i_str {tg : Expr} (ha : CE X a fa) : CI X tg a (iStrD fa) := by
  obtain ⟨ta, ha, sa⟩ := ha
  refine ⟨_, pi_str ha, fun σ S Q sv H R re rs q k => sa σ S _ sv H _ re rs q fun v d S1 H1 s1 r1 v1 q1 => ?_⟩
  cases v1 with
  | str z =>
    refine ⟨z, rfl, k _ _ _ _ _ s1 r1 (fun S H s tx st => ?_) q1⟩
    refine ⟨fun i d hi => ?_, by show z.cps.size ≤ _; simp⟩
    rw [List.getElem?_map] at hi
    cases h : z.cps.toList[i]? with
    | none => rw [h] at hi; cases hi
    | some c =>
      rw [h] at hi
      cases hi
      have hlt : i < z.cps.size := by
        have := (List.getElem?_eq_some_iff.mp h).1
        simpa using this
      refine ⟨hlt, fun x H' y => ?_⟩
      obtain ⟨e, c2, e2, e3⟩ := y
      subst e e3
      have : c2 = c := by
        have h2 : z.cps.toList[i]? = some c2 := by rw [Array.getElem?_toList]; exact e2
        rw [h] at h2
        exact (Option.some.inj h2).symm
      subst this
      exact ⟨.refl, s, .str _⟩
  | _ => exact False.elim q1
def rangeD (lo : Int) (n : Nat) : List D := (List.range n).map fun i => .int (lo + (i : Nat))
theorem itok_range {lo : Int} {n : Nat} : ItOk K H1 (Itr lo n) (rangeD lo n) (fun _ => True) := fun S H s tx st => by
  refine ⟨fun i d hi => ?_, by show n ≤ _; simp [rangeD]⟩
  unfold rangeD at hi
  rw [List.getElem?_map] at hi
  cases h : (List.range n)[i]? with
  | none => rw [h] at hi; cases hi
  | some c =>
    obtain ⟨hl, hc⟩ := List.getElem?_eq_some_iff.mp h
    rw [h] at hi
    cases hi
    simp at hc hl
    subst hc
    refine ⟨hl, fun x H' y => ?_⟩
    obtain ⟨e, e2⟩ := y
    subst e e2
    exact ⟨.refl, s, .int _⟩
def iRange1 (fs : DA) : DI := fun σ S Q => fs σ S fun xs S1 => match xs with
  | [.int j] => -(2 ^ 62) ≤ j ∧ j < 2 ^ 62 ∧ Q (rangeD 0 j.toNat) (fun _ => True) S1
  | _ => False
def iRange2 (fs : DA) : DI := fun σ S Q => fs σ S fun xs S1 => match xs with
  | [.int i, .int j] => (-(2 ^ 62) ≤ i ∧ i < 2 ^ 62 ∧ -(2 ^ 62) ≤ j ∧ j < 2 ^ 62) ∧ Q (rangeD i (j - i).toNat) (fun _ => True) S1
  | _ => False
theorem i_range1 {tg : Expr} {p : Pos} (hg : Gl X "range") (hm : X.mg "range" = none) (ha : CA X [a] fs) (hs : starEach [a] X.env = [(false, eval a X.env)] := by rfl) : CI X tg (.Call (.Name "range" p) [a] [] pos) (iRange1 fs) := by
  obtain ⟨ta, ha, sa⟩ := ha
  refine ⟨_, pi_range1 hg hm ha hs, fun σ S Q sv H R re rs q k => sa σ S _ sv H _ re rs q fun vs ds S1 H1 s1 r1 v1 q1 => ?_⟩
  match ds, q1 with
  | [.int j], q1 =>
    obtain ⟨v, rfl, rv⟩ := reps1 v1
    cases rv
    exact ⟨j, rfl, q1.1, q1.2.1, k _ _ _ _ _ s1 r1 itok_range q1.2.2⟩
theorem i_range2 {tg : Expr} {p : Pos} (hg : Gl X "range") (hm : X.mg "range" = none) (ha : CA X [a, b] fs) (hs : starEach [a, b] X.env = [(false, eval a X.env), (false, eval b X.env)] := by rfl) (hs2 : starEach [b] X.env = [(false, eval b X.env)] := by rfl) :
    CI X tg (.Call (.Name "range" p) [a, b] [] pos) (iRange2 fs) := by
  obtain ⟨ta, ha, sa⟩ := ha
  refine ⟨_, pi_range2 hg hm ha hs hs2, fun σ S Q sv H R re rs q k => sa σ S _ sv H _ re rs q fun vs ds S1 H1 s1 r1 v1 q1 => ?_⟩
  match ds, q1 with
  | [.int i, .int j], q1 =>
    obtain ⟨v, v2, rfl, rv, rv2⟩ := reps2 v1
    cases rv
    cases rv2
    exact ⟨i, j, rfl, q1.1, k _ _ _ _ _ s1 r1 itok_range q1.2⟩
/-! ### for -/
def forL (stab : Sto → Prop) (g : DG) (body : DS) (D0 : DEnds) : List D → Env → Sto → Prop
  | [], σ, S => stab S ∧ D0.nx σ S
  | x :: xs, σ, S => stab S ∧ g x σ S fun σ2 S2 => body ⟨forL stab g body D0 xs, D0.rt, D0.nx, forL stab g body D0 xs⟩ σ2 S2
def sFor (fi : DI) (g : DG) (body : DS) : DS := fun D0 σ S => fi σ S fun items stab S1 => forL stab g body D0 items σ S1
theorem forL_stab {stab : Sto → Prop} {g : DG} {body : DS} {D0 : DEnds} {xs : List D} {σ : Env} {S : Sto} (h : forL stab g body D0 xs σ S) : stab S := by
  cases xs <;> exact h.1
theorem s_for {tg it : Expr} {own : List Nat} {fi : DI} {g : DG} {body : List Stmt} {fb : DS} (hp : PassesOwn (model X.prog X.w) X.A X.env X.xe) (hc : X.calm = true) (hi : CI X tg it fi) (hg : CG X tg own g) (hb : CSs X body fb)
    (hs : ∀ x, foldedSetIterable it X.env x = pure x := by intro _; rfl) : CS X (.For tg it body [] pos) (sFor fi g fb) := by
  obtain ⟨wi, hi, si⟩ := hi
  obtain ⟨tg', hg, sg⟩ := hg
  obtain ⟨tb, hb, sb⟩ := hb
  refine ⟨_, ps_for hp hc hi hg hb hs, fun D0 σ S Dv sv H re rs q k => si σ S _ sv H _ re rs q fun J items stab S1 H1 s1 r1 ok q1 => ?_⟩
  refine ⟨fun i m sv2 H2 => m = items.length - i ∧ i ≤ items.length ∧ ∃ σ2 S2, Stp X.K S1 H1 S2 H2 ∧ SRep X.K S2 H2 ∧ ERep X.K H2 sv2 σ2 ∧ forL stab g fb D0 (items.drop i) σ2 S2,
    ⟨items.length, by simp, Nat.zero_le _, σ, S1, .refl, r1, re.mono s1.tx, q1⟩, ?_⟩
  rintro i m sv2 H2 ⟨rfl, hi2, σ2, S2, s2, r2, e2, q2⟩
  obtain ⟨ok1, ok2⟩ := ok S2 H2 r2 s2.tx (forL_stab q2)
  by_cases hlt : i < items.length
  · obtain ⟨go, yl⟩ := ok1 i items[i] (List.getElem?_eq_getElem hlt)
    rw [List.drop_eq_getElem_cons hlt] at q2
    refine .inr ⟨go, fun sv3 H3 => ∃ σ3 S3, Stp X.K S1 H1 S3 H3 ∧ SRep X.K S3 H3 ∧ ERep X.K H3 sv3 σ3 ∧ forL stab g fb D0 (items.drop (i + 1)) σ3 S3,
      fun sv3 H3 ⟨σ3, S3, a1, a2, a3, a4⟩ => ⟨items.length - (i + 1), by omega, rfl, hlt, σ3, S3, a1, a2, a3, a4⟩, fun x H3 hy => ?_⟩
    obtain ⟨s3, r3, rx⟩ := yl x H3 hy
    refine sg x items[i] σ2 S2 _ sv2 H3 _ rx (e2.mono s3.tx) r3 q2.2 fun sv4 σ4 S4 H4 s4 r4 e4 _ q4 => ?_
    have st := (s2.trans s3).trans s4
    refine sb _ σ4 S4 _ sv4 H4 e4 r4 q4 ⟨fun sv5 σ5 S5 H5 s5 r5 e5 q5 => ?_, (k.stp s1).rt.stp st, (k.stp s1).nx.stp st, fun sv5 σ5 S5 H5 s5 r5 e5 q5 => ?_⟩
    · exact ⟨σ5, S5, st.trans s5, r5, e5, q5⟩
    · exact ⟨σ5, S5, st.trans s5, r5, e5, q5⟩
  · have hn : i = items.length := by omega
    subst hn
    rw [List.drop_length] at q2
    exact .inl ⟨ok2, (k.stp s1).nx _ _ _ _ s2 r2 e2 q2.2⟩
/-! ### while -/
def sWhile (fc : DT) (body : DS) : DS := fun D0 σ S => ∃ W : Nat → Env → Sto → Prop, (∃ m, W m σ S) ∧ ∀ m σ S, W m σ S → fc σ S fun k S1 =>
  if k = true then body ⟨fun σ2 S2 => ∃ m2, m2 < m ∧ W m2 σ2 S2, D0.rt, D0.nx, fun σ2 S2 => ∃ m2, m2 < m ∧ W m2 σ2 S2⟩ σ S1 else D0.nx σ S1
theorem s_while {body : List Stmt} {fb : DS} (hp : PassesOwn (model X.prog X.w) X.A X.env X.xe) (hc : CT X c ft) (hb : CSs X body fb) : CS X (.While c body [] pos) (sWhile ft fb) := by
  obtain ⟨tc, hc, sc⟩ := hc
  obtain ⟨tb, hb, sb⟩ := hb
  refine ⟨_, ps_while hp hc hb, fun D0 σ S Dv sv H re rs q k => ?_⟩
  obtain ⟨W, ⟨m0, w0⟩, turn⟩ := q
  refine ⟨fun m sv2 H2 => ∃ σ2 S2, Stp X.K S H S2 H2 ∧ SRep X.K S2 H2 ∧ ERep X.K H2 sv2 σ2 ∧ W m σ2 S2, ⟨m0, σ, S, .refl, rs, re, w0⟩, ?_⟩
  rintro m sv2 H2 ⟨σ2, S2, s2, r2, e2, w2⟩
  refine sc σ2 S2 _ sv2 H2 _ e2 r2 (turn m σ2 S2 w2) fun kk S3 H3 s3 r3 q3 => ?_
  cases kk with
  | true =>
    refine ⟨fun sv4 H4 => ∃ m2, m2 < m ∧ ∃ σ4 S4, Stp X.K S H S4 H4 ∧ SRep X.K S4 H4 ∧ ERep X.K H4 sv4 σ4 ∧ W m2 σ4 S4, fun sv4 H4 h4 => h4, ?_⟩
    have st := s2.trans s3
    refine sb _ σ2 S3 _ sv2 H3 (e2.mono s3.tx) r3 q3 ⟨fun sv5 σ5 S5 H5 s5 r5 e5 q5 => ?_, k.rt.stp st, k.nx.stp st, fun sv5 σ5 S5 H5 s5 r5 e5 q5 => ?_⟩
    · obtain ⟨m2, h1, h2⟩ := q5
      exact ⟨m2, h1, σ5, S5, st.trans s5, r5, e5, h2⟩
    · obtain ⟨m2, h1, h2⟩ := q5
      exact ⟨m2, h1, σ5, S5, st.trans s5, r5, e5, h2⟩
  | false => exact k.nx _ _ _ _ (s2.trans s3) r3 (e2.mono s3.tx) q3
/-! ### comprehensions -/
def lcL (stab : Sto → Prop) (g : DG) (tests : DT) (elt : DE) (σ : Env) (k : List D → Sto → Prop) : List D → List D → Sto → Prop
  | [], acc, S => stab S ∧ k acc S
  | x :: xs, acc, S => stab S ∧ g x σ S fun σ2 S2 => tests σ2 S2 fun b S3 => if b = true then elt σ2 S3 fun d S4 => acc.length < sizeLine ∧ lcL stab g tests elt σ k xs (acc ++ [d]) S4 else lcL stab g tests elt σ k xs acc S3
def eLc (fi : DI) (g : DG) (tests : DT) (elt : DE) (own : List Nat) : DE := fun σ S Q => fi σ S fun items stab S1 =>
  lcL stab g tests elt (wipeS σ own) (fun acc S2 => ∀ p, S2 p = none → Q (.ref p) (updS S2 p (.lst acc))) items [] S1
theorem lcL_stab {stab : Sto → Prop} {g : DG} {tests : DT} {elt : DE} {σ : Env} {k : List D → Sto → Prop} {xs acc : List D} {S : Sto} (h : lcL stab g tests elt σ k xs acc S) : stab S := by
  cases xs <;> exact h.1
/-- a clause's tests -/
structure CTs (X : Cx) (ifs : List Expr) (f : DT) : Prop where
  ok : ∃ t, PTs X ifs t ∧ SndT X.K t f
def tsYes : DT := fun _ S Q => Q true S
theorem ts_nil : CTs X [] tsYes := ⟨_, pts_nil, fun σ S Q sv H Kt re rs q k => k _ _ _ .refl rs q⟩
theorem ts_one (h : CT X c ft) : CTs X [c] ft := let ⟨_, h, s⟩ := h.ok; ⟨_, pts_one h, s⟩
theorem CTs.pts {ifs : List Expr} (h : CTs X ifs ft) : PTs X ifs (TTof X.K ft) := by
  obtain ⟨t, p, s⟩ := h
  exact ⟨fun pins s0 sv H Kt I ⟨σ, S, Q, a, b, c, d⟩ => p.run pins s0 sv H Kt I (s σ S Q sv H Kt a b c d)⟩
theorem snd_lc {wi : TI} {fi : DI} {g : DG} {elt : DE} {own : List Nat} {gown : List Nat} (hsub : ∀ i ∈ gown, i ∈ own)
    (si : ∀ (σ : Env) (S : Sto) (Q : List D → (Sto → Prop) → Sto → Prop) (sv : L2.St) (H : Hp) (R : It → Hp → Prop), ERep K H sv σ → SRep K S H → fi σ S Q →
      (∀ J items stab S' H', Stp K S H S' H' → SRep K S' H' → ItOk K H' J items stab → Q items stab S' → R J H') → wi sv H R) :
    Snd K (tLc wi (TGof K gown g) (TTof K ft) (TEof K elt) own) (eLc fi g ft elt own) := fun σ S Q sv H Kt re rs q k => by
  refine si σ S _ sv H _ re rs q fun J items stab S1 H1 s1 r1 ok q1 p hp => ?_
  have re1 : ERep K H1 (wipe sv own) (wipeS σ own) := (re.mono s1.tx).wipe own
  refine ⟨fun i m H2 => m = items.length - i ∧ i ≤ items.length ∧ ∃ S2 av acc, Stp K S1 H1 S2 H2 ∧ SRep K S2 H2 ∧ H2 p = some (.lst av) ∧ S2 p = none ∧ Reps K H2 av acc ∧
      lcL stab g ft elt (wipeS σ own) (fun acc S2 => ∀ p, S2 p = none → Q (.ref p) (updS S2 p (.lst acc))) (items.drop i) acc S2,
    ⟨items.length, by simp, Nat.zero_le _, S1, [], [], ?_, ?_, upd_same, r1.free hp, .nil, q1⟩, ?_⟩
  · exact ⟨tx_new hp, fun z o a b => ⟨a, by rw [upd_ne (ne_of_none b hp)]; exact b⟩⟩
  · exact fun a o e => (r1 a o e).mono (tx_new hp) (upd_ne (neS e (r1.free hp)))
  rintro i m H2 ⟨rfl, hi2, S2, av, acc, s2, r2, hp2, np2, ra, q2⟩
  obtain ⟨ok1, ok2⟩ := ok S2 H2 r2 s2.tx (lcL_stab q2)
  by_cases hlt : i < items.length
  · obtain ⟨go, yl⟩ := ok1 i items[i] (List.getElem?_eq_getElem hlt)
    rw [List.drop_eq_getElem_cons hlt] at q2
    refine .inr ⟨go, fun H3 => ∃ S2 av acc, Stp K S1 H1 S2 H3 ∧ SRep K S2 H3 ∧ H3 p = some (.lst av) ∧ S2 p = none ∧ Reps K H3 av acc ∧
      lcL stab g ft elt (wipeS σ own) (fun acc S2 => ∀ p, S2 p = none → Q (.ref p) (updS S2 p (.lst acc))) (items.drop (i + 1)) acc S2,
      fun H3 h3 => ⟨items.length - (i + 1), by omega, rfl, hlt, h3⟩, fun x H3 hy => ?_⟩
    obtain ⟨s3, r3, rx⟩ := yl x H3 hy
    refine ⟨items[i], wipeS σ own, S2, _, rx, re1.mono (s2.trans s3).tx, r3, q2.2, fun sv4 σ4 S4 H4 s4 r4 e4 w4 q4 => ⟨?_, ?_⟩⟩
    · rw [w4 own hsub, wipe_wipe]
    refine ⟨σ4, S4, _, e4, r4, q4, fun b S5 H5 s5 r5 q5 => ?_⟩
    have st5 := ((s2.trans s3).trans s4).trans s5
    have stp5 := (s3.trans s4).trans s5
    obtain ⟨np5, hp5⟩ := stp5.hid p _ np2 hp2
    cases b with
    | false => exact ⟨S5, av, acc, st5, r5, hp5, np5, ra.mono stp5.tx, q5⟩
    | true =>
      refine ⟨σ4, S5, _, e4.mono s5.tx, r5, q5, fun v d S6 H6 s6 r6 v6 q6 => ?_⟩
      obtain ⟨np6, hp6⟩ := s6.hid p _ np5 hp5
      have ra6 := ra.mono (stp5.trans s6).tx
      obtain ⟨tx, r7⟩ := stp_hid (ho := .lst (av ++ [v])) r6 np6 hp6 (fun _ z => nomatch z) (fun _ _ z => nomatch z) (fun _ z => nomatch z)
      refine ⟨av, hp6, by rw [ra6.length]; exact q6.1, S6, av ++ [v], acc ++ [d], ?_, r7, upd_same, np6, (ra6.append (.cons v6 .nil)).mono tx, q6.2⟩
      have st6 := st5.trans s6
      exact ⟨st6.tx.trans tx, fun z o a b => ⟨(st6.hid z o a b).1, by rw [upd_ne (ne_of_none b hp)]; exact (st6.hid z o a b).2⟩⟩
  · have hn : i = items.length := by omega
    subst hn
    rw [List.drop_length] at q2
    refine .inl ⟨ok2, ?_⟩
    have st := s1.trans s2
    refine k (.ref p) (.ref p) (updS S2 p (.lst acc)) H2 ⟨st.tx, fun z o a b => ?_⟩ (fun a o e => ?_) (.ref p) (q2.2 p np2)
    · obtain ⟨a2, b2⟩ := st.hid z o a b
      have hz := s1.hid z o a b
      have ne : z ≠ p := ne_of_none hz.2 hp
      exact ⟨by rw [updS_ne ne]; exact a2, b2⟩
    · by_cases ha : a = p
      · subst ha
        rw [updS_same] at e
        cases e
        exact ⟨av, hp2, ra⟩
      · rw [updS_ne ha] at e
        exact r2 a o e
theorem c_lc {elt tg it : Expr} {ifs : List Expr} {scope : Scope} {own : List (Str × Nat)} {gown : List Nat} {fi : DI} {g : DG} (hc : X.calm = true) (hN : X.N.Nodup) (hi : CI X tg it fi) (ok : BlkOk X.N X.env.scope scope own)
    (hg : ∀ (s : Shared) (H : Hp) (C : Addr) (cl : List (Str × Addr)) (fp : List Addr), CG (X.blk s H scope (compEnvC scope cl C X.env) fp) tg gown g) (hsub : ∀ i ∈ gown, i ∈ own.map (·.2))
    (ht : ∀ (s : Shared) (H : Hp) (C : Addr) (cl : List (Str × Addr)) (fp : List Addr), CTs (X.blk s H scope (compEnvC scope cl C X.env) fp) ifs ft)
    (he : ∀ (s : Shared) (H : Hp) (C : Addr) (cl : List (Str × Addr)) (fp : List Addr), CE (X.blk s H scope (compEnvC scope cl C X.env) fp) elt fe) (hs : ∀ x, foldedSetIterable it X.env x = pure x := by intro _; rfl) :
    CE X (.ListComp elt [⟨tg, it, ifs, 0⟩] scope pos) (eLc fi g ft fe (own.map (·.2))) := by
  obtain ⟨wi, hi, si⟩ := hi
  exact ⟨_, pe_lc hc hN hi ok (fun s H C cl fp => (hg s H C cl fp).pg) (fun s H C cl fp => (ht s H C cl fp).pts) (fun s H C cl fp => (he s H C cl fp).pe) hs, snd_lc hsub si⟩
/-! ### a def -/
def startD (n : Nat) (ds : List D) : Env := ds.map some ++ List.replicate (n - ds.length) none
theorem erep_start {vs : List V} {ds : List D} {N : List Str} (r : Reps K H vs ds) : ERep K H (start N vs) (startD N.length ds) := by
  have l := r.length
  refine ⟨by simp [L2.start, startD, l], fun i d q => ?_⟩
  rw [getS_eq] at q
  unfold startD at q
  by_cases hi : i < ds.length
  · rw [List.getElem?_append_left (by simpa using hi), List.getElem?_map] at q
    cases h : ds[i]? with
    | none => rw [h] at q; cases q
    | some d2 =>
      rw [h] at q
      have e : d2 = d := Option.some.inj q
      subst e
      obtain ⟨v, ev, rv⟩ := r.get h
      refine ⟨v, ?_, rv⟩
      unfold L2.start
      rw [List.getElem?_append_left (by simpa [l] using hi), List.getElem?_map, ev]
      rfl
  · rw [List.getElem?_append_right (by simpa using Nat.le_of_not_lt hi)] at q
    rw [List.getElem?_replicate] at q
    split at q <;> cases q
def endsD (Q : DK) : DEnds := ⟨fun _ S => Q .non S, Q, fun _ _ => False, fun _ _ => False⟩
theorem def_ok {P : Program} {w : World} {mg : Str → Option Value} {base : Heap} {x qual : Str} {st : Stmt} {f : Addr} {fd : FuncData} {N ps : List Str} {k : Nat} {b : DS} (F : Fun K x qual st f fd) (Sc : FnScope N ps (defScope st))
    (h : ∀ (cdv : Value) (A : Around) (outer : List PySem.Env) (s : Shared) (H : Hp) (E : XK), RoomG k (A.deeper (envOfC qual (defScope st) s.heap.objs.size f cdv)) → CSs (cxOf CX0 P w K mg base N qual (defScope st) f cdv A outer s H E).nox (defBody st) b) :
    FnG P w K mg base CX0 (k + 1) f fd ps (spD K ps.length fun ds S Q => b (endsD Q) (startD N.length ds) S) := by
  refine okG F Sc (fun vs H Q E h => h.1) (fun cdv A outer s H vs Q E hr hq => ?_)
  obtain ⟨t, p, sn⟩ := h cdv A outer s H E hr
  refine ⟨t, p, ?_⟩
  obtain ⟨hl, ds, S, Qd, r, sr, q, kk⟩ := hq
  refine sn (endsD Qd) _ S _ _ H (erep_start r) sr q ⟨fun sv σ S' H' s' r' e' q' => ?_, kk, fun _ _ _ _ _ _ _ z => z.elim, fun _ _ _ _ _ _ _ z => z.elim⟩
  exact kk .non .non S' H' s' r' .non q'
end
end DL
namespace DL
open PySem PySem.Spec PyProof.Rows L2
section
variable {X : Cx} {K : PySem.W.Frag} {e a b c : Expr} {es : List Expr} {fe fa fb fc : DE} {ft fu : DT} {fs : DA} {pos : Pos} {S S1 S' : Sto} {H H1 H' : Hp}
/-! ### displays of dicts -/
def eDict0 : DE := fun _ S Q => ∀ p, S p = none → Q (.ref p) (updS S p (.dk []))
theorem c_dict0 : CE X (.Dict [] [] pos) eDict0 := by
  refine ⟨_, pe_dnewK, fun σ S Q sv H Kt re rs q k p hp => ?_⟩
  obtain ⟨st, sr⟩ := stp_new (o := .dk []) (ho := .dK []) rs hp ⟨_, upd_same, .nil⟩
  exact k _ _ _ _ st sr (.ref p) (q p (rs.free hp))
abbrev DPs := Env → Sto → (List (D × D) → Sto → Prop) → Prop
def pNil : DPs := fun _ S Q => Q [] S
def pCons (fk fv : DE) (fr : DPs) : DPs := fun σ S Q => fk σ S fun x S1 => fv σ S1 fun y S2 => fr σ S2 fun r S3 => Q ((x, y) :: r) S3
def PReps (K : PySem.W.Frag) (H : Hp) : List (V × V) → List (D × D) → Prop := Paired fun p q => Rep K H p.1 q.1 ∧ Rep K H p.2 q.2
structure CPs (X : Cx) (pos : Pos) (keys : List (Option Expr)) (values : List Expr) (f : DPs) : Prop where
  ok : ∃ trs, PPs X pos keys values trs ∧ ∀ (σ : Env) (S : Sto) (Q : List (D × D) → Sto → Prop) (sv : L2.St) (H : Hp) (Kt : List (V × V) → Hp → Prop), ERep X.K H sv σ → SRep X.K S H → f σ S Q →
    (∀ ps qs S' H', Stp X.K S H S' H' → SRep X.K S' H' → PReps X.K H' ps qs → Q qs S' → Kt ps H') → tPairs trs sv H Kt
theorem ps_nil0 : CPs X pos [] [] pNil := ⟨_, pps_nil, fun σ S Q sv H Kt re rs q k => k _ _ _ _ .refl rs .nil q⟩
theorem ps_cons0 {ks : List (Option Expr)} {vs : List Expr} {fr : DPs} (hk : CE X a fa) (hv : CE X b fb) (hr : CPs X pos ks vs fr) : CPs X pos (some a :: ks) (b :: vs) (pCons fa fb fr) := by
  obtain ⟨tk, hk, sk⟩ := hk
  obtain ⟨tv, hv, sv⟩ := hv
  obtain ⟨tr, hr, sr⟩ := hr
  refine ⟨_, pps_cons hk hv hr, fun σ S Q sv' H Kt re rs q k => sk σ S _ sv' H _ re rs q fun v d S1 H1 s1 r1 v1 q1 => ?_⟩
  refine sv σ S1 _ sv' H1 _ (re.mono s1.tx) r1 q1 fun u d2 S2 H2 s2 r2 v2 q2 => ?_
  refine sr σ S2 _ sv' H2 _ (re.mono (s1.trans s2).tx) r2 q2 fun ps qs S3 H3 s3 r3 v3 q3 => ?_
  exact k _ _ S3 H3 ((s1.trans s2).trans s3) r3 (.cons ⟨v1.mono (s2.trans s3).tx, v2.mono s3.tx⟩ v3) q3
/-- the pairs as keys and data -/
def asKeys : List (D × D) → Option (List (Key × D))
  | [] => some []
  | p :: r => match toKey p.1, asKeys r with
    | some k, some l => some ((k, p.2) :: l)
    | _, _ => none
def mergeD (kvs more : List (Key × D)) : List (Key × D) := more.foldl (fun acc kv => putD acc kv.1 kv.2) kvs
def eDict (fp : DPs) : DE := fun σ S Q => fp σ S fun ps S1 => ∃ kvs, asKeys ps = some kvs ∧ kvs.length ≤ 15 ∧ ∀ p, S1 p = none → Q (.ref p) (updS S1 p (.dk (mergeD [] kvs)))
theorem asKeys_rep : ∀ {ps : List (V × V)} {qs : List (D × D)} {kvs : List (Key × D)}, PReps K H ps qs → asKeys qs = some kvs → ∃ ws : List (Key × V), ps = ws.map (fun kv => (kV kv.1, kv.2)) ∧ KReps K H ws kvs
  | _, _, _, .nil, e => by cases e; exact ⟨[], rfl, .nil⟩
  | p :: ps, q :: qs, kvs, .cons h r, e => by
    unfold asKeys at e
    cases h1 : toKey q.1 with
    | none => rw [h1] at e; cases e
    | some k =>
      cases h2 : asKeys qs with
      | none => rw [h1, h2] at e; cases e
      | some l =>
        rw [h1, h2] at e
        cases e
        obtain ⟨ws, e1, r1⟩ := asKeys_rep r h2
        refine ⟨(k, p.2) :: ws, ?_, .cons ⟨rfl, h.2⟩ r1⟩
        rw [List.map_cons, ← e1]
        have hk := key_rep h.1 h1
        show p :: ps = (kV k, p.2) :: ps
        rw [← hk]
theorem merge_rep : ∀ {us : List (Key × V)} {js : List (Key × D)} {ws : List (Key × V)} {kvs : List (Key × D)}, KReps K H us js → KReps K H ws kvs → KReps K H (mergeK ws us) (mergeD kvs js)
  | _, _, _, _, .nil, s => s
  | p :: us, q :: js, ws, kvs, .cons h r, s => by
    show KReps K H (mergeK (putK ws p.1 p.2) us) (mergeD (putD kvs q.1 q.2) js)
    refine merge_rep r ?_
    rw [h.1]
    exact kreps_put h.2 q.1 s
theorem c_dict {keys : List (Option Expr)} {values : List Expr} {fp : DPs} (h : CPs X pos keys values fp) (hall : keys.all (·.isSome) = true) (hl : keys.length = values.length) (h0 : keys ≠ []) (h15 : keys.length ≤ 15) : CE X (.Dict keys values pos) (eDict fp) := by
  obtain ⟨trs, hp, sp⟩ := h
  refine ⟨_, pe_disp hp hall hl h0 h15, fun σ S Q sv H Kt re rs q k p hp => ?_⟩
  have tx := tx_new (K := X.K) (ho := .dK []) hp
  have rs1 : SRep X.K S (upd H p (.dK [])) := fun a o e => (rs a o e).mono tx (upd_ne (neS e (rs.free hp)))
  refine sp σ S _ sv _ _ (re.mono tx) rs1 q fun ps qs S1 H1 s1 r1 v1 q1 => ?_
  obtain ⟨np, hp1⟩ := s1.hid p _ (rs.free hp) upd_same
  obtain ⟨kvs, e, hz, q1⟩ := q1
  obtain ⟨ws, e1, rr⟩ := asKeys_rep v1 e
  refine ⟨hp1, ws, e1, by rw [kreps_len rr]; exact hz, ?_⟩
  have tx2 : Tx X.K H1 (upd H1 p (.dK (mergeK [] ws))) := tx_upd (fun vs => by rw [hp1]; intro z; cases z) (fun ob w => by rw [hp1]; intro z; cases z) (fun φ => by rw [hp1]; intro z; cases z)
  refine k (.ref p) (.ref p) (updS S1 p (.dk (mergeD [] kvs))) _ ⟨(tx.trans s1.tx).trans tx2, fun z o a b => ?_⟩ (fun a o ea => ?_) (.ref p) (q1 p np)
  · have ne := ne_of_none b hp
    obtain ⟨a2, b2⟩ := s1.hid z o a (by rw [upd_ne ne]; exact b)
    exact ⟨by rw [updS_ne ne]; exact a2, by rw [upd_ne ne]; exact b2⟩
  · by_cases ha : a = p
    · subst ha
      rw [updS_same] at ea
      cases ea
      exact ⟨_, upd_same, KReps.mono tx2 (merge_rep rr .nil)⟩
    · rw [updS_ne ha] at ea
      exact (r1 a o ea).mono tx2 (upd_ne ha)
/-! ### whatever sequence is walked -/
def iSeq (fa : DE) : DI := fun σ S Q => fa σ S fun x S1 => match x with
  | .ref p => ∃ xs, S1 p = some (.lst xs) ∧ Q xs (fun S => S p = some (.lst xs)) S1
  | .fl xs => Q xs (fun _ => True) S1
  | .tup xs => Q xs (fun _ => True) S1
  | .str z => Q (z.cps.toList.map fun c => .str ⟨#[c]⟩) (fun _ => True) S1
  | _ => False
def wSeq (K : PySem.W.Frag) (te : TE) : TI := fun sv H R => te sv H fun x H1 => (∃ p vs, x = .ref p ∧ SqL K H1 p vs ∧ R (Itl K p) H1) ∨ (∃ p vs, x = .ref p ∧ SqT K H1 p vs ∧ R (Itt K p) H1) ∨ ∃ z, x = .str z ∧ R (Its z) H1
theorem lone {p q : Addr} (h : p ∈ [q]) : p = q := by simpa using h
theorem pi_seq {tg : Expr} {te : TE} (ha : PE X a te) : PI X tg a (wSeq X.K te) := by
  refine ⟨fun pins st sv H R I hw => thn (ha.run pins st sv H _ I hw) fun u st1 ⟨x, H1, J, rel, how⟩ => ?_⟩
  have fresh := J.hok.fresh (Nat.le_refl st1.heap.objs.size)
  have fpk := J.fpOk (Nat.le_refl st1.heap.objs.size) fresh
  rcases how with ⟨p, vs, ex, sq, r⟩ | ⟨p, vs, ex, sq, r⟩ | ⟨z, ex, r⟩
  · subst ex
    have eu : u = Value.ref p := rel
    subst eu
    obtain ⟨its, _, pl, _⟩ := J.list sq
    refine wpAny_pyIter_list pl.isList ⟨_, _, _, _, H1, rfl, J.kept (t' := st1.toks) (fun b o h => Heap.get?_push_of_some _ h), turn_list p _, ⟨_, Heap.get?_push_size _ rfl, rfl, rfl⟩, (fun b hb => ?_), r⟩
    rw [lone hb]
    exact fpk
  · subst ex
    have eu : u = Value.ref p := rel
    subst eu
    obtain ⟨its, _, pl, _⟩ := J.tuple sq
    refine wpAny_pyIter_tuple (show st1.heap.IsTuple p its.toArray from pl) ⟨_, _, _, _, H1, rfl, J.kept (t' := st1.toks) (fun b o h => Heap.get?_push_of_some _ h), turn_tuple p _, ⟨_, Heap.get?_push_size _ rfl, rfl, rfl⟩, (fun b hb => ?_), r⟩
    rw [lone hb]
    exact fpk
  · subst ex
    obtain ⟨tk, eu⟩ := (show ∃ tk, u = Value.str z tk from rel)
    subst eu
    cases hz : z.cps.all (· < 128) with
    | false => exact wpAny_pyIter_wide hz (pi_one (tk := st1.toks) J _ (turn_str _ z tk _ (Or.inr rfl)) ⟨_, Heap.get?_push_size _ rfl, rfl, rfl⟩ r)
    | true => exact wpAny_pyIter_ascii hz (pi_one (tk := st1.toks) J _ (turn_str _ z tk _ (Or.inl rfl)) ⟨_, Heap.get?_push_size _ rfl, rfl, rfl⟩ r)
theorem itok_str {z : Str} : ItOk K H1 (Its z) (z.cps.toList.map fun c => .str ⟨#[c]⟩) (fun _ => True) := fun S H s tx st => by
  refine ⟨fun i d hi => ?_, by show z.cps.size ≤ _; simp⟩
  rw [List.getElem?_map] at hi
  cases h : z.cps.toList[i]? with
  | none => rw [h] at hi; cases hi
  | some c =>
    rw [h] at hi
    cases hi
    have hlt : i < z.cps.size := by
      have := (List.getElem?_eq_some_iff.mp h).1
      simpa using this
    refine ⟨hlt, fun x H' y => ?_⟩
    obtain ⟨e, c2, e2, e3⟩ := y
    subst e e3
    have : c2 = c := by
      have h2 : z.cps.toList[i]? = some c2 := by rw [Array.getElem?_toList]; exact e2
      rw [h] at h2
      exact (Option.some.inj h2).symm
    subst this
    exact ⟨.refl, s, .str _⟩
theorem i_seq {tg : Expr} (ha : CE X a fa) : CI X tg a (iSeq fa) := by
  obtain ⟨ta, ha, sa⟩ := ha
  refine ⟨_, pi_seq ha, fun σ S Q sv H R re rs q k => sa σ S _ sv H _ re rs q fun v d S1 H1 s1 r1 v1 q1 => ?_⟩
  cases v1 with
  | ref p =>
    obtain ⟨xs, e, q1⟩ := q1
    obtain ⟨vs, e1, r⟩ := r1 _ _ e
    exact .inl ⟨p, vs, rfl, .inl (.inl e1), k _ _ _ _ _ s1 r1 itok_list q1⟩
  | @fl p vs ds h r => exact .inl ⟨p, vs, rfl, h.sq, k _ _ _ _ _ s1 r1 (itok_fl h r) q1⟩
  | @tup p vs ds h r => exact .inr (.inl ⟨p, vs, rfl, h, k _ _ _ _ _ s1 r1 (itok_tup h r) q1⟩)
  | str z => exact .inr (.inr ⟨z, rfl, k _ _ _ _ _ s1 r1 itok_str q1⟩)
  | _ => exact False.elim q1
theorem o_isNot : CO X .IsNot (gIs not) := by
  refine ⟨_, OpR.or op_notN op_notBl, fun x y a b S H Q Kt s ra rb q k => ?_⟩
  cases rb <;> try exact False.elim q
  · exact .inl ⟨rfl, k.now s (.bl _) (by rw [rep_non ra]; exact q)⟩
  · cases ra <;> try exact False.elim q
    exact .inr ⟨_, _, rfl, rfl, k.now s (.bl _) q⟩
abbrev gLe : G2 := gI0 fun i j => .bl (decide (i ≤ j))
abbrev gGt : G2 := gI0 fun i j => .bl (decide (j < i))
abbrev gGe : G2 := gI0 fun i j => .bl (decide (j ≤ i))
/-- name = [.. for ..] -/
theorem s_setLc {i : Nat} {y : Str} {py : Pos} {elt tg it : Expr} {ifs : List Expr} {scope : Scope} {own : List (Str × Nat)} {gown : List Nat} {spos : Pos} {fi : DI} {g : DG} (hc : X.calm = true) (hN : X.N.Nodup) (hy : X.N[i]? = some y) (hyl : X.env.scope.names.lookup y = some .local)
    (hsw : swapsWith (.ListComp elt [⟨tg, it, ifs, 0⟩] scope pos) (some (.Name y py)) spos.line X.env = pure true) (hi : CI X tg it fi) (ok : BlkOk X.N X.env.scope scope own)
    (hg : ∀ (s : Shared) (H : Hp) (C : Addr) (cl : List (Str × Addr)) (fp : List Addr), CG (X.blk s H scope (compEnvC scope cl C X.env) fp) tg gown g) (hsub : ∀ i ∈ gown, i ∈ own.map (·.2))
    (ht : ∀ (s : Shared) (H : Hp) (C : Addr) (cl : List (Str × Addr)) (fp : List Addr), CTs (X.blk s H scope (compEnvC scope cl C X.env) fp) ifs ft)
    (he : ∀ (s : Shared) (H : Hp) (C : Addr) (cl : List (Str × Addr)) (fp : List Addr), CE (X.blk s H scope (compEnvC scope cl C X.env) fp) elt fe) (hs : ∀ x, foldedSetIterable it X.env x = pure x := by intro _; rfl) :
    CS X (.Assign [.Name y py] (.ListComp elt [⟨tg, it, ifs, 0⟩] scope pos) spos) (sAsg (eLc fi g ft fe (own.map (·.2))) (nName i)) := by
  obtain ⟨wi, hi, si⟩ := hi
  refine ⟨_, ps_setLc (g := TGof X.K gown g) (tt := TTof X.K ft) (te := TEof X.K fe) hc hN hy hyl hsw hi ok (fun s H C cl fp => (hg s H C cl fp).pg) (fun s H C cl fp => (ht s H C cl fp).pts) (fun s H C cl fp => (he s H C cl fp).pe) hs, fun D0 σ S Dv sv H re rs q k => ?_⟩
  refine snd_lc hsub si σ S _ sv H _ re rs q fun v d S1 H1 s1 r1 v1 q1 => ?_
  exact k.nx _ _ _ _ s1 r1 ((re.mono s1.tx).set v1) q1
/-! ### names of the module -/
theorem c_globS {x : Str} {z : Str} (h : ∃ t, X.mg x = some (.str z t)) (hg : Gl X x := by rfl) (hd : (x == ("__debug__" : Str)) = false := by decide) : CE X (.Name x pos) (eC (.str z)) :=
  let ⟨t, h⟩ := h; c_glob (v := .str z) hg h ⟨t, rfl⟩ (fun _ => .str z) hd
theorem c_globI {x : Str} {z : Int} (h : ∃ t, X.mg x = some (.int z t)) (hg : Gl X x := by rfl) (hd : (x == ("__debug__" : Str)) = false := by decide) : CE X (.Name x pos) (eC (.int z)) :=
  let ⟨t, h⟩ := h; c_glob (v := .int z) hg h ⟨t, rfl⟩ (fun _ => .int z) hd
end
/-- a def of the module, by its name -/
structure Okf (P : Program) (w : World) (K : PySem.W.Frag) (mg : Str → Option Value) (base : Heap) (k : Nat) (x : Str) (n : Nat) (m : MF) : Prop where
  ex : ∃ (f : Addr) (fd : FuncData) (ps : List Str), ps.length = n ∧ FnG P w K mg base CX0 k f fd ps (spD K n m) ∧ mg x = some (.ref f) ∧ PySem.W.keepIn K (.ref f) = true ∧ Binds K fd ps []
structure FT (K : PySem.W.Frag) (mg : Str → Option Value) (x : Str) (st : Stmt) (ps : List Str) : Prop where
  ex : ∃ (f : Addr) (fd : FuncData), Fun K x x st f fd ∧ Binds K fd ps [] ∧ mg x = some (.ref f)
section
variable {X : Cx} {a : Expr} {es : List Expr} {fs : DA} {pos : Pos}
theorem c_fn {k j n : Nat} {m : MF} {x : Str} {p : Pos} (hr : RoomG j X.A) (F : Okf X.prog X.w X.K X.mg X.base k x n m) (hk : k ≤ j) (ha : CA X (a :: es) fs) (hg : Gl X x := by rfl)
    (hdb : (x == ("__debug__" : Str)) = false := by decide) (he : starEach (a :: es) X.env = (false, eval a X.env) :: starEach es X.env := by rfl) (hpl : (backTo pos (starEach es X.env)).any (·.1) = false := by rfl) :
    CE X (.Call (.Name x p) (a :: es) [] pos) (eCall n m fs) := by
  obtain ⟨f, fd, ps, hl, F, hm, hk2, hb⟩ := F
  exact c_call (hr.mono' hk) F hg hm hk2 hb ha hdb he hpl
theorem okf_of {P : Program} {w : World} {K : PySem.W.Frag} {mg : Str → Option Value} {base : Heap} {x : Str} {st : Stmt} {N ps : List Str} {k : Nat} {b : DS} {m : MF} (T : FT K mg x st ps) (Sc : FnScope N ps (defScope st)) (hm : ∀ ds S Q, m ds S Q = b (endsD Q) (startD N.length ds) S)
    (h : ∀ (f : Addr) (cdv : Value) (A : Around) (outer : List PySem.Env) (s : Shared) (H : Hp) (E : XK), RoomG k (A.deeper (envOfC x (defScope st) s.heap.objs.size f cdv)) → CSs (cxOf CX0 P w K mg base N x (defScope st) f cdv A outer s H E).nox (defBody st) b) :
    Okf P w K mg base (k + 1) x ps.length m := by
  obtain ⟨f, fd, F, B, g⟩ := T
  have e : m = fun ds S Q => b (endsD Q) (startD N.length ds) S := funext fun ds => funext fun S => funext fun Q => hm ds S Q
  rw [e]
  exact ⟨f, fd, ps, rfl, def_ok F Sc (h f), g, F.kp, B⟩
end
/-! ### the law -/
theorem fr_of {K : PySem.W.Frag} {H : Hp} {a : Addr} {vs : List V} (o : Only H) (h : SqL K H a vs) : FrL K H a vs := by
  rcases h with (h | h) | h
  · rcases o a with z | ⟨ob, xs, z⟩ <;> rw [h] at z <;> cases z
  · exact .inl h
  · exact .inr h
theorem law_sp {K : PySem.W.Frag} {m : MF} {n : Nat} (h : ∀ ns : List Int, ns.length ≤ n → m [.fl (ns.map .int)] (fun _ => none) (fun d _ => d = .bl true)) (H : Hp) (a : Addr) (ns : List Int) (hl : ns.length ≤ n) (o : Only H) (hS : SqL K H a (ns.map V.int)) :
    spD K 1 m [.ref a] H (fun v _ => v = .bl true) fun _ _ _ => False := by
  refine ⟨rfl, [.fl (ns.map .int)], fun _ => none, fun d _ => d = .bl true, .cons (.fl (fr_of o hS) ints_reps) .nil, (fun _ _ z => nomatch z), h ns hl, fun v d S' H' _ _ r e => ?_⟩
  subst e
  cases r
  rfl
end DL
namespace DL
open PySem PySem.Spec PyProof.Rows L2
section
variable {X : Cx} {K : PySem.W.Frag} {e a b c : Expr} {es : List Expr} {fe fa fb fc : DE} {ft fu : DT} {fs : DA} {pos : Pos} {S S1 S' : Sto} {H H1 H' : Hp}
/-! ### a list or a tuple times a number -/
def gMulA : G2 := fun x y S Q => match x, y with
  | .int i, .int j => CMulW i j ∧ Q (.int (i * j)) S
  | .ref p, .int k => ∃ xs, S p = some (.lst xs) ∧ -(2 ^ 63) ≤ k ∧ k < 2 ^ 63 ∧ xs.length * k.toNat ≤ sizeLine ∧ ∀ n, S n = none → Q (.ref n) (updS S n (.lst (List.replicate k.toNat xs).flatten))
  | .tup xs, .int k => xs ≠ [] ∧ 2 ≤ k ∧ k ≤ 1000 ∧ xs.length ≤ 1000 ∧ Q (.tup (List.replicate k.toNat xs).flatten) S
  | _, _ => False
theorem reps_rep {vs : List V} {ds : List D} (r : Reps K H vs ds) : ∀ k : Nat, Reps K H (List.replicate k vs).flatten (List.replicate k ds).flatten
  | 0 => .nil
  | k + 1 => by
    rw [List.replicate_succ, List.replicate_succ, List.flatten_cons, List.flatten_cons]
    exact r.append (reps_rep r k)
theorem c_mulA (ha : CE X a fa) (hb : CE X b fb) : CE X (.BinOp a .Mult b pos) (eOp gMulA fa fb) := by
  obtain ⟨ta, ha, sa⟩ := ha
  obtain ⟨tb, hb, sb⟩ := hb
  refine ⟨_, pe_op (OpR.or op_mulW (OpR.or op_rep op_repT)) ha hb, snd_op (fun x y d d2 S H Q Kt s rx ry q k => ?_) sa sb⟩
  cases rx with
  | int i =>
    cases ry <;> try exact False.elim q
    exact .inl ⟨_, _, rfl, rfl, q.1, k.now s (.int _) q.2⟩
  | ref p =>
    cases ry <;> try exact False.elim q
    obtain ⟨xs, e, h1, h2, hz, q⟩ := q
    obtain ⟨vs, e1, r⟩ := s _ _ e
    exact .inr (.inl ⟨_, _, vs, rfl, rfl, e1, h1, h2, by rw [r.length]; exact hz, new_lst s (reps_rep r _) k q⟩)
  | @tup p vs ds h r =>
    cases ry <;> try exact False.elim q
    obtain ⟨h0, h1, h2, h3, q⟩ := q
    refine .inr (.inr ⟨_, _, vs, rfl, rfl, h, fun z => h0 ?_, h1, h2, by rw [r.length]; exact h3, fun n hn => ?_⟩)
    · subst z
      cases r
      rfl
    · obtain ⟨st, sr⟩ := stp_tup (vs := (List.replicate (Int.toNat _) vs).flatten) s hn
      exact k _ _ _ _ st sr (.tup (.inl (.inl upd_same)) (reps_rep (r.mono st.tx) _)) q
  | _ => exact False.elim q
/-! ### a, b = a tuple or a list -/
def nTupL (n : Nat) (gs : List D → Env → Sto → (Env → Sto → Prop) → Prop) : DG := fun d σ S Q => match d with
  | .tup ds => ds.length = n ∧ gs ds σ S Q
  | .ref p => ∃ ds, S p = some (.lst ds) ∧ ds.length = n ∧ gs ds σ S Q
  | _ => False
theorem PG.or {tg : Expr} {t t' : TG} (h : PG X tg t) (h' : PG X tg t') : PG X tg (fun v sv H Q => t v sv H Q ∨ t' v sv H Q) := ⟨fun pins s sv H v u Q I r q => by
  rcases q with q | q
  · exact h.run pins s sv H v u Q I r q
  · exact h'.run pins s sv H v u Q I r q⟩
theorem g_tupL {ts : List Expr} {k : Nat} {own : List Nat} {gs : List D → Env → Sto → (Env → Sto → Prop) → Prop} {n : Nat} (hc : X.calm = true) (h : CGs X ts own gs) (hn : (assignEach ts X.env).length = n := by rfl) (hst : (assignEach ts X.env).findIdx? (·.1) = none := by rfl) :
    CG X (.Tuple ts k pos) own (nTupL n gs) := by
  obtain ⟨t, p, s⟩ := h
  refine ⟨_, PG.or (pg_tup hc p hn hst) (pg_unl hc p hn hst), fun v d σ S Q sv H Kt rv re rs q k => ?_⟩
  cases rv with
  | @tup a vs ds h r => exact .inl ⟨a, vs, rfl, h, by rw [r.length]; exact q.1, s vs ds σ S Q sv H Kt r re rs q.2 k⟩
  | ref a =>
    obtain ⟨ds, e, hl, q⟩ := q
    obtain ⟨vs, e1, r⟩ := rs _ _ e
    exact .inr ⟨a, vs, rfl, .inl (.inl e1), by rw [r.length]; exact hl, s vs ds σ S Q sv H Kt r re rs q k⟩
  | _ => exact False.elim q
/-! ### sorted of numbers -/
def gSorted : GN := fun xs S Q => match xs with
  | [.ref p] => (∃ ns : List Int, S p = some (.lst (ns.map .int)) ∧ ∀ ns' : List Int, ns'.Perm ns → ns'.Pairwise (· ≤ ·) → ∀ n, S n = none → Q (.ref n) (updS S n (.lst (ns'.map .int)))) ∨
      ∃ ns : List Str, S p = some (.lst (ns.map .str)) ∧ ns.length < 64 ∧ ∀ ns' : List Str, ns'.Perm ns → sortedS ns' = true → ∀ n, S n = none → Q (.ref n) (updS S n (.lst (ns'.map .str)))
  | _ => False
theorem b_sorted : CB X "sorted" gSorted := by
  refine ⟨_, L2.CallR.or cr_sortedI cr_sortedS, fun xs as S H Q Kt s r q k => ?_⟩
  match as, q with
  | [.ref p], q =>
    obtain ⟨v, rfl, rv⟩ := reps1 r
    cases rv
    rcases q with ⟨ns, e, q⟩ | ⟨ns, e, hl, q⟩
    · obtain ⟨vs, e1, r⟩ := s _ _ e
      rw [reps_ints r] at e1
      exact .inl ⟨p, ns, rfl, .inl (.inl e1), fun ns' n hp hs => new_lst s ints_reps k (q ns' hp hs) n⟩
    · obtain ⟨vs, e1, r⟩ := s _ _ e
      rw [reps_strs r] at e1
      exact .inr ⟨p, ns, rfl, .inl (.inl e1), hl, fun ns' n hp hs => new_lst s strs_reps k (q ns' hp hs) n⟩
/-! ### zip of two lists, of two tuples; enumerate of a list -/
def pairs (xs ys : List D) : List D := (xs.zip ys).map fun p => .tup [p.1, p.2]
def iZipD (fs : DA) : DI := fun σ S Q => fs σ S fun ds S1 => match ds with
  | [.ref p, .ref q] => ∃ xs ys, S1 p = some (.lst xs) ∧ S1 q = some (.lst ys) ∧ Q (pairs xs ys) (fun S => S p = some (.lst xs) ∧ S q = some (.lst ys)) S1
  | [.tup xs, .tup ys] => Q (pairs xs ys) (fun _ => True) S1
  | _ => False
theorem pairs_get {xs ys : List D} {i : Nat} {d : D} (h : (pairs xs ys)[i]? = some d) : ∃ x y, xs[i]? = some x ∧ ys[i]? = some y ∧ d = .tup [x, y] := by
  unfold pairs at h
  rw [List.getElem?_map] at h
  cases hz : (xs.zip ys)[i]? with
  | none => rw [hz] at h; cases h
  | some p =>
    rw [hz] at h
    cases h
    obtain ⟨h1, h2⟩ := List.getElem?_zip_eq_some.mp hz
    exact ⟨p.1, p.2, h1, h2, rfl⟩
theorem itok_zip {p q : Addr} {xs ys : List D} : ItOk K H1 (Itz K p q) (pairs xs ys) (fun S => S p = some (.lst xs) ∧ S q = some (.lst ys)) := fun S H s tx st => by
  obtain ⟨vs, e1, r1⟩ := s _ _ st.1
  obtain ⟨us, e2, r2⟩ := s _ _ st.2
  have q1 : SqL K H p vs := .inl (.inl e1)
  have q2 : SqL K H q us := .inl (.inl e2)
  refine ⟨fun i d hi => ?_, ⟨vs, us, q1, q2, ?_⟩⟩
  · obtain ⟨x, y, hx, hy, rfl⟩ := pairs_get hi
    obtain ⟨v, ev, rv⟩ := r1.get hx
    obtain ⟨u, eu, ru⟩ := r2.get hy
    refine ⟨⟨vs, us, v, u, q1, q2, ev, eu⟩, fun z H' hz => ?_⟩
    obtain ⟨T, x1, y1, rfl, nT, rfl, g1, g2⟩ := hz
    have a1 := g1 vs q1
    have a2 := g2 us q2
    rw [ev] at a1
    rw [eu] at a2
    cases a1
    cases a2
    obtain ⟨sp, sr⟩ := stp_tup (vs := [v, u]) s nT
    exact ⟨sp, sr, .tup (.inl (.inl upd_same)) (.cons (rv.mono sp.tx) (.cons (ru.mono sp.tx) .nil))⟩
  · have l1 := r1.length
    have l2 := r2.length
    have l3 : (pairs xs ys).length = min xs.length ys.length := by simp [pairs]
    rw [l3]
    omega
theorem itok_zipT {p q : Addr} {vs us : List V} {xs ys : List D} (h1 : SqT K H1 p vs) (h2 : SqT K H1 q us) (r1 : Reps K H1 vs xs) (r2 : Reps K H1 us ys) : ItOk K H1 (RZ.ItzT K p q) (pairs xs ys) (fun _ => True) := fun S H s tx st => by
  have q1 := tx.tup _ _ h1
  have q2 := tx.tup _ _ h2
  have r1 := r1.mono tx
  have r2 := r2.mono tx
  refine ⟨fun i d hi => ?_, ⟨vs, us, q1, q2, ?_⟩⟩
  · obtain ⟨x, y, hx, hy, rfl⟩ := pairs_get hi
    obtain ⟨v, ev, rv⟩ := r1.get hx
    obtain ⟨u, eu, ru⟩ := r2.get hy
    refine ⟨⟨vs, us, v, u, q1, q2, ev, eu⟩, fun z H' hz => ?_⟩
    obtain ⟨T, x1, y1, rfl, nT, rfl, g1, g2⟩ := hz
    have a1 := g1 vs q1
    have a2 := g2 us q2
    rw [ev] at a1
    rw [eu] at a2
    cases a1
    cases a2
    obtain ⟨sp, sr⟩ := stp_tup (vs := [v, u]) s nT
    exact ⟨sp, sr, .tup (.inl (.inl upd_same)) (.cons (rv.mono sp.tx) (.cons (ru.mono sp.tx) .nil))⟩
  · have l1 := r1.length
    have l2 := r2.length
    have l3 : (pairs xs ys).length = min xs.length ys.length := by simp [pairs]
    rw [l3]
    omega
theorem i_zip {p tpos : Pos} {elts : List Expr} {kk : Nat} (hg : Gl X "zip") (hm : X.mg "zip" = none) (ha : CA X [a, b] fs) (hs : starEach [a, b] X.env = (false, eval a X.env) :: starEach [b] X.env := by rfl) (hpl : (backTo pos (starEach [b] X.env)).any (·.1) = false := by rfl) :
    CI X (.Tuple elts kk tpos) (.Call (.Name "zip" p) [a, b] [] pos) (iZipD fs) := by
  obtain ⟨ta, ha, sa⟩ := ha
  refine ⟨_, RZ.pi_zipA hg hm ha hs hpl, fun σ S Q sv H R re rs q k => sa σ S _ sv H _ re rs q fun vs ds S1 H1 s1 r1 v1 q1 => ?_⟩
  match ds, q1 with
  | [.ref p, .ref q], q1 =>
    obtain ⟨v, v2, rfl, rv, rv2⟩ := reps2 v1
    cases rv
    cases rv2
    obtain ⟨xs, ys, e1, e2, q1⟩ := q1
    obtain ⟨vs, h1, _⟩ := r1 _ _ e1
    obtain ⟨us, h2, _⟩ := r1 _ _ e2
    exact ⟨p, q, vs, us, rfl, .inl ⟨.inl (.inl h1), .inl (.inl h2), k _ _ _ _ _ s1 r1 itok_zip q1⟩⟩
  | [.tup xs, .tup ys], q1 =>
    obtain ⟨v, v2, rfl, rv, rv2⟩ := reps2 v1
    cases rv with
    | tup h1 r =>
      cases rv2 with
      | tup h2 r' => exact ⟨_, _, _, _, rfl, .inr ⟨h1, h2, k _ _ _ _ _ s1 r1 (itok_zipT h1 h2 r r') q1⟩⟩
def enumD (xs : List D) : List D := xs.mapIdx fun i x => .tup [.int (i : Nat), x]
def iEnumD (fs : DA) : DI := fun σ S Q => fs σ S fun ds S1 => match ds with
  | [.ref p] => ∃ xs, S1 p = some (.lst xs) ∧ Q (enumD xs) (fun S => S p = some (.lst xs)) S1
  | _ => False
theorem itok_enum {p : Addr} {xs : List D} : ItOk K H1 (Ite K p) (enumD xs) (fun S => S p = some (.lst xs)) := fun S H s tx st => by
  obtain ⟨vs, e1, r1⟩ := s _ _ st
  have q1 : SqL K H p vs := .inl (.inl e1)
  refine ⟨fun i d hi => ?_, ⟨vs, q1, by rw [r1.length]; simp [enumD]⟩⟩
  unfold enumD at hi
  rw [List.getElem?_mapIdx] at hi
  cases hx : xs[i]? with
  | none => rw [hx] at hi; cases hi
  | some x =>
    rw [hx] at hi
    cases hi
    obtain ⟨v, ev, rv⟩ := r1.get hx
    refine ⟨⟨vs, v, q1, ev⟩, fun z H' hz => ?_⟩
    obtain ⟨T, x1, rfl, nT, rfl, g1⟩ := hz
    have a1 := g1 vs q1
    rw [ev] at a1
    cases a1
    obtain ⟨sp, sr⟩ := stp_tup (vs := [V.int (i : Nat), v]) s nT
    exact ⟨sp, sr, .tup (.inl (.inl upd_same)) (.cons (.int _) (.cons (rv.mono sp.tx) .nil))⟩
theorem i_enum {p tpos : Pos} {elts : List Expr} {kk : Nat} (hg : Gl X "enumerate") (hm : X.mg "enumerate" = none) (ha : CA X [a] fs) (hs : starEach [a] X.env = [(false, eval a X.env)] := by rfl) :
    CI X (.Tuple elts kk tpos) (.Call (.Name "enumerate" p) [a] [] pos) (iEnumD fs) := by
  obtain ⟨ta, ha, sa⟩ := ha
  refine ⟨_, pi_enum hg hm ha hs, fun σ S Q sv H R re rs q k => sa σ S _ sv H _ re rs q fun vs ds S1 H1 s1 r1 v1 q1 => ?_⟩
  match ds, q1 with
  | [.ref p], q1 =>
    obtain ⟨v, rfl, rv⟩ := reps1 v1
    cases rv
    obtain ⟨xs, e, q1⟩ := q1
    obtain ⟨vs, e1, r⟩ := r1 _ _ e
    exact ⟨p, vs, rfl, .inl (.inl e1), k _ _ _ _ _ s1 r1 itok_enum q1⟩
/-! ### int and str of texts and numbers -/
def gStr : GN := fun xs S Q => match xs with
  | [.int i] => i.natAbs.log2 < 1920 ∧ Q (.str (toString i)) S
  | _ => False
theorem y_str : CY X "str" gStr := by
  refine ⟨_, call_str_int, fun xs as S H Q Kt s r q k => ?_⟩
  match as, q with
  | [.int i], q =>
    obtain ⟨v, rfl, rv⟩ := reps1 r
    cases rv
    exact ⟨i, rfl, q.1, k.now s (.str _) q.2⟩
end
end DL
namespace DL
open PySem PySem.Spec PyProof.Rows L2
section
variable {X : Cx} {K : PySem.W.Frag} {e a b c : Expr} {es : List Expr} {fe fa fb fc : DE} {ft fu : DT} {fs : DA} {pos : Pos} {S S1 S' : Sto} {H H1 H' : Hp}
/-! ### x < y of numbers, texts, tuples -/
def gLt2 : G2 := fun x y S Q => match x, y with
  | .int i, .int j => Q (.bl (decide (i < j))) S
  | .str i, .str j => Q (.bl (decide (i.cps.toList < j.cps.toList))) S
  | .tup xs, .tup ys => ∃ p q, PDs S xs p ∧ PDs S ys q ∧ PySem.W.alikeAll p q = true ∧ (PyData.tuple p).depth ≤ 64 ∧ Q (.bl (PySem.W.dataLt (.tuple p) (.tuple q))) S
  | _, _ => False
def rLtP (K : PySem.W.Frag) : R2 := fun x y H Q => ∃ d e, Dp K H x d ∧ Dp K H y e ∧ PySem.W.alike d e = true ∧ d ≠ .none ∧ d.depth ≤ 64 ∧ Q (.bl (PySem.W.dataLt d e)) H
theorem opLtP (hu : X.A.units + 64 < cLine) : OpR X (compareOp .Lt) (rLtP X.K) := fun pins s σ H x y v u Q I rx ry ⟨d, e, hd, he, ha, hn, hz, q⟩ => by
  have ⟨as, r1⟩ := hd.reads I d x v rx
  have ⟨bs, r2⟩ := he.reads I e y u ry
  exact PySem.W.rcLt_alike d e X.A s v u as bs r1 r2 ha hn (by omega) _ _ _ _ ⟨.bl _, H, I, rfl, q⟩
theorem o_lt2 (hu : X.A.units + 64 < cLine) : CO X .Lt gLt2 := by
  refine ⟨_, OpR.or (OpR.or op_lt op_lt_str) (opLtP hu), fun x y a b S H Q Kt s ra rb q k => ?_⟩
  cases ra with
  | int i =>
    cases rb <;> try exact False.elim q
    exact .inl (.inl ⟨_, _, rfl, rfl, k.now s (.bl _) q⟩)
  | str i =>
    cases rb <;> try exact False.elim q
    exact .inl (.inr ⟨_, _, rfl, rfl, k.now s (.bl _) q⟩)
  | @tup p1 vs1 ds1 h1 r1 =>
    cases rb with
    | @tup p2 vs2 ds2 h2 r2 =>
      obtain ⟨p, e, h3, h4, h5, h6, q⟩ := q
      refine .inr ⟨.tuple p, .tuple e, PD.dp s (.tup h3) (.tup h1 r1), PD.dp s (.tup h4) (.tup h2 r2), ?_, (fun z => by cases z), h6, k.now s (.bl _) q⟩
      unfold PySem.W.alike
      exact h5
    | _ => exact False.elim q
  | _ => exact False.elim q
/-! ### d.get(k, x) of a dict of the store -/
def eGet2 (fo fe ff : DE) : DE := fun σ S Q => fo σ S fun o S1 => match o with
  | .ref p => (∃ kvs, S1 p = some (.dk kvs)) ∧ fe σ S1 fun y S2 => ff σ S2 fun z S3 => ∃ kvs k, S3 p = some (.dk kvs) ∧ toKey y = some k ∧ Q ((valD kvs k).getD z) S3
  | _ => False
theorem c_get2 {o f : Expr} {apos : Pos} {fo ff : DE} (hu : X.A.units + 1 < cLine) (ho : CE X o fo) (he : CE X e fe) (hf : CE X f ff) (m : M2 X o "get" apos e f pos := by exact ⟨rfl, rfl, rfl, rfl⟩) :
    CE X (.Call (.Attribute o "get" apos) [e, f] [] pos) (eGet2 fo fe ff) := by
  obtain ⟨to, ho, so⟩ := ho
  obtain ⟨te, he, se⟩ := he
  obtain ⟨tf, hf, sf⟩ := hf
  refine ⟨_, pe_dget2 hu ho he hf m, fun σ S Q sv H Kt re rs q k => so σ S _ sv H _ re rs q fun v d S1 H1 s1 r1 v1 q1 => ?_⟩
  cases v1 with
  | ref p =>
    obtain ⟨⟨kvs, e0⟩, q1⟩ := q1
    obtain ⟨ws, e3, _⟩ := r1 _ _ e0
    refine ⟨p, rfl, .inl ⟨_, .inl e3⟩, ?_⟩
    refine se σ S1 _ sv H1 _ (re.mono s1.tx) r1 q1 fun u d2 S2 H2 s2 r2 v2 q2 => ?_
    refine sf σ S2 _ sv H2 _ (re.mono (s1.trans s2).tx) r2 q2 fun z d3 S3 H3 s3 r3 v3 q3 => ?_
    obtain ⟨kvs3, kk, e4, e5, q3⟩ := q3
    obtain ⟨ws3, e6, r6⟩ := r3 _ _ e4
    have hk := key_rep (v2.mono s3.tx) e5
    rcases kreps_val kk r6 with ⟨z1, z2⟩ | ⟨v4, d4, z1, z2, rv⟩
    · refine ⟨none, ?_, k _ _ _ _ ((s1.trans s2).trans s3) r3 v3 (by rw [z2] at q3; exact q3)⟩
      rw [hk, ← z1]
      exact .k e6
    · refine ⟨some v4, ?_, k _ _ _ _ ((s1.trans s2).trans s3) r3 rv (by rw [z2] at q3; exact q3)⟩
      rw [hk, ← z1]
      exact .k e6
  | _ => exact False.elim q1
/-! ### a dict of the module with text keys -/
def TabV (K : PySem.W.Frag) (a : Addr) : List (Str × Int) → Prop
  | [] => True
  | q :: r => (∃ t, PySem.W.nsIn K a q.1 = some (some (.int q.2 t))) ∧ TabV K a r
theorem TabV.mem {K : PySem.W.Frag} {a : Addr} : ∀ {tab : List (Str × Int)}, TabV K a tab → ∀ q ∈ tab, ∃ t, PySem.W.nsIn K a q.1 = some (some (.int q.2 t))
  | _ :: _, ⟨h, t⟩, q, hq => by
    rcases List.mem_cons.mp hq with rfl | hq
    · exact h
    · exact t.mem q hq
structure TabC (K : PySem.W.Frag) (w : World) (mg : Str → Option Value) (x : Str) (tab : List (Str × Int)) : Prop where
  ex : ∃ (a : Addr) (es : Array DictEntry) (n : Nat), mg x = some (.ref a) ∧ KDict K w a es n ∧ TabV K a tab
def tabAt (tab : List (Str × Int)) (z : Str) : Option Int := (tab.find? fun q => decide (q.1 = z)).map (·.2)
def eTab (tab : List (Str × Int)) (fe : DE) : DE := fun σ S Q => fe σ S fun y S1 => match y with
  | .str z => ∃ i, tabAt tab z = some i ∧ Q (.int i) S1
  | _ => False
theorem tabAt_mem {tab : List (Str × Int)} {z : Str} {i : Int} (h : tabAt tab z = some i) : (z, i) ∈ tab := by
  unfold tabAt at h
  obtain ⟨q, h1, h2⟩ := Option.map_eq_some_iff.mp h
  have h3 := List.mem_of_find?_eq_some h1
  have h4 : q.1 = z := by simpa using List.find?_some h1
  rw [← h4, ← h2]
  exact h3
def tTabV (K : PySem.W.Frag) (a : Addr) (te : TE) : TE := fun σ H Q => te σ H fun y H1 => ∃ z u0 v0, y = .str z ∧ PySem.W.nsIn K a z = some (some u0) ∧ RelV v0 u0 ∧ Q v0 H1
theorem c_tab {x : Str} {p : Pos} {tab : List (Str × Int)} (T : TabC X.K X.w X.mg x tab) (he : CE X e fe) (hs : NoSl e := by intro _ _; rfl) (hg : Gl X x := by rfl) (hd : (x == ("__debug__" : Str)) = false := by decide) :
    CE X (.Subscript (.Name x p) e pos) (eTab tab fe) := by
  obtain ⟨te, he, se⟩ := he
  obtain ⟨a, es, n, hm, D, ht⟩ := T
  have hp : PE X (.Name x p) _ := pe_glob hg hm (v := .ref a) rfl hd
  refine ⟨tTabV X.K a te, ⟨fun pins s σ H Q I h => ?_⟩, fun σ S Q sv H Kt re rs q k => ?_⟩
  · refine subD_of PySem.F.slot_dict_getitem.lookup hs (thn (hp.run pins s σ H (fun x H1 => x = .ref a ∧ tTabV X.K a te σ H1 Q) I ⟨rfl, h⟩) fun u s1 ⟨x, H1, I1, rx, ex, q1⟩ => thn (he.run pins s1 σ H1 _ I1 q1) fun iv s2 ⟨y, H2, I2, ry, z, u0, v0, ey, en, rv, q2⟩ => ?_)
    subst ex
    have eu : u = Value.ref a := rx
    subst eu
    exact ⟨kd_type D I2, op_item_kd D pins s2 σ H2 (.ref a) y (.ref a) iv Q I2 rfl ry ⟨z, u0, v0, rfl, ey, en, rv, q2⟩⟩
  · refine se σ S _ sv H _ re rs q fun v d S1 H1 s1 r1 v1 q1 => ?_
    cases v1 with
    | str z =>
      obtain ⟨i, hi, q1⟩ := q1
      obtain ⟨t, ht⟩ := ht.mem _ (tabAt_mem hi)
      exact ⟨z, _, .int i, rfl, ht, ⟨t, rfl⟩, k _ _ _ _ s1 r1 (.int i) q1⟩
    | _ => exact False.elim q1
end
end DL
namespace DL
open PySem PySem.Spec PyProof.Rows L2
/-! ### sorted by a key that a def of the module gives -/
/-- all objects as they were, but for the slots of those in fs -/
def Sl (fs : List Addr) (h h' : Heap) : Prop := ∀ b o, h.get? b = some o → ∃ sl, h'.get? b = some { o with slots := sl } ∧ (b ∉ fs → sl = o.slots)
theorem Sl.refl {fs : List Addr} {h : Heap} : Sl fs h h := fun b o e => ⟨o.slots, e, fun _ => rfl⟩
theorem Sl.trans {fs : List Addr} {h h1 h2 : Heap} (x : Sl fs h h1) (y : Sl fs h1 h2) : Sl fs h h2 := fun b o e => by
  obtain ⟨sl, e1, k1⟩ := x b o e
  obtain ⟨sl2, e2, k2⟩ := y b _ e1
  exact ⟨sl2, e2, fun hb => (k2 hb).trans (k1 hb)⟩
theorem Sl.keep {fs : List Addr} {h h' : Heap} (x : Sl fs h h') {b : Addr} {o : Obj} (e : h.get? b = some o) (hb : b ∉ fs) : h'.get? b = some o := by
  obtain ⟨sl, e1, k1⟩ := x b o e
  rw [k1 hb] at e1
  exact e1
structure SK (fs : List Addr) (s s' : Shared) : Prop where
  os : s'.os = s.os
  bare : AllBare s'.gens
  sl : Sl fs s.heap s'.heap
/-- as SK, but for the objects at a and kS -/
structure SB (fs : List Addr) (a kS : Addr) (s s' : Shared) : Prop where
  os : s'.os = s.os
  bare : AllBare s'.gens
  sl : ∀ b o, b ≠ a → b ≠ kS → s.heap.get? b = some o → ∃ sl, s'.heap.get? b = some { o with slots := sl } ∧ (b ∉ fs → sl = o.slots)
theorem SB.step {fs : List Addr} {a kS : Addr} {s s1 s2 : Shared} (x : SB fs a kS s s1) (y : SK fs s1 s2) : SB fs a kS s s2 :=
  ⟨y.os.trans x.os, y.bare, fun b o ha hk e => by
    obtain ⟨sl, e1, k1⟩ := x.sl b o ha hk e
    obtain ⟨sl2, e2, k2⟩ := y.sl b _ e1
    exact ⟨sl2, e2, fun hb => (k2 hb).trans (k1 hb)⟩⟩
theorem SB.put {fs : List Addr} {a kS : Addr} {s s1 : Shared} {h : Heap} {t : Nat} (x : SB fs a kS s s1) (y : ∀ b, b ≠ kS → h.get? b = s1.heap.get? b) : SB fs a kS s { s1 with heap := h, toks := t } :=
  ⟨x.os, x.bare, fun b o ha hk e => by
    obtain ⟨sl, e1, k1⟩ := x.sl b o ha hk e
    exact ⟨sl, (y b hk).trans e1, k1⟩⟩
mutual
theorem reads_sl {h h' : Heap} (k : ∀ b o, h.get? b = some o → o.cls = .type "tuple" → ∃ sl, h'.get? b = some { o with slots := sl }) : ∀ (d : PyData) (v : Value) (as : List Addr), PySem.W.alike d d = true → Reads h v d as → as = [] → Reads h' v d as
  | .none, _, _, _, r, _ => by cases r; exact .none
  | .bool _, _, _, _, r, _ => by cases r; exact .bool _
  | .int _, _, _, _, r, _ => by cases r; exact .int _ _
  | .str _, _, _, _, r, _ => by cases r; exact .str _ _
  | .list xs, _, _, hal, r, hn => by
    cases r with
    | list h1 h2 h3 h4 => cases hn
  | .tuple xs, _, _, hal, r, hn => by
    cases r with
    | @tuple b o vs n _ _ h1 h2 h3 h4 =>
      obtain ⟨sl, e⟩ := k _ _ h1 h2
      exact .tuple e h2 h3 (readsAll_sl k xs _ _ (by simpa [PySem.W.alike] using hal) h4 hn)
  | .dict _, _, _, hal, _, _ => absurd hal (by simp [PySem.W.alike])
theorem readsAll_sl {h h' : Heap} (k : ∀ b o, h.get? b = some o → o.cls = .type "tuple" → ∃ sl, h'.get? b = some { o with slots := sl }) : ∀ (ds : List PyData) (vs : List Value) (as : List Addr), PySem.W.alikeAll ds ds = true → ReadsAll h vs ds as → as = [] → ReadsAll h' vs ds as
  | [], _, _, _, r, _ => by cases r; exact .nil
  | d :: ds, _, _, hal, r, hn => by
    cases r with
    | cons h1 h2 =>
      rw [List.append_eq_nil_iff] at hn
      obtain ⟨n1, n2⟩ := hn
      exact .cons (reads_sl k d _ _ (PySem.W.alike_all_cons hal).1 h1 n1) (readsAll_sl k ds _ _ (PySem.W.alike_all_cons hal).2 h2 n2)
end
def cutH (h : Heap) (n : Nat) : Heap := { h with objs := h.objs.extract 0 n }
theorem cutH_lt {h : Heap} {n b : Nat} (hb : b < n) : (cutH h n).get? b = h.get? b := by
  unfold cutH Heap.get?
  have e : (h.objs.extract 0 n)[b]? = h.objs[b]? := by
    rw [Array.getElem?_extract]
    simp
    intro h2
    omega
  simp only [e]
theorem cutH_ge {h : Heap} {n b : Nat} (hb : n ≤ b) : (cutH h n).get? b = none := by
  unfold cutH Heap.get?
  have e : (h.objs.extract 0 n)[b]? = none := by
    rw [Array.getElem?_eq_none_iff, Array.size_extract]
    omega
  simp only [e]
section
open PySem.W
variable {prog : Program} {w : World} {A : Around} {E : Value → Shared → Prop} {s s0 : Shared} {a kS : Addr} {b : Bool} {vs : List Value} {e1 : Nat} {P : PySem.Fin → Shared → Prop} {kz : List PyData} {fs : List Addr}
theorem keyS_rest {f : Value} (sb : SB fs a kS s0 s) (nk : s.heap.get? kS = some (seqObj "list" #[] 0)) (na : s.heap.get? a = some (seqObj "list" #[] e1)) (hka : kS ≠ a) (hkf : kS ∉ fs) (haf : a ∉ fs)
    (hlen : kz.length = vs.length) (hZ : vs.length ≤ sizeLine) (hal : AllAlike kz) (hsk : Sortable kz) (hu : ∀ d, d ∈ kz → A.units + d.depth < cLine) (hfresh : s0.heap.objs.size ≤ kS)
    (turn : ∀ (i : Nat) (v : Value) (k : PyData), vs[i]? = some v → kz[i]? = some k → ∀ s1, SB fs a kS s0 s1 → (∃ o, s1.heap.get? a = some o) →
      wpAny (model prog w) A (call f [v]) (fun u s2 => SK fs s1 s2 ∧ Reads s2.heap u k []) (fun _ _ => False) s1)
    (h : ∀ s' out c, SB fs a kS s0 s' → s'.heap.get? a = some (seqObj "list" (List.toArray out) c) → KeyedOut b kz vs out → P (.done (.ret .none)) s') :
    wpAny (model prog w) A (ksk_rest a f b vs.toArray e1 (.ref kS)) P E s := by
  unfold ksk_rest
  refine wpAny_bind (wpAny_rule ?_)
  first
    | rw [List.forIn_toArray]
    | (rw [← Array.forIn_toList]; simp only [List.toList_toArray])
    | rw [← Array.forIn_toList]
  refine wpAny_bind (ksk_fold (fun i s' => SB fs a kS s0 s' ∧ ∃ kA e, s'.heap.get? kS = some (seqObj "list" kA e) ∧ s'.heap.get? a = some (seqObj "list" #[] e1) ∧ EachIs (fun v k => Reads s'.heap v k [] ∧ alike k k = true) kA.toList (kz.take i)) vs 0 s
    ⟨sb, #[], 0, nk, na, by rw [List.take_zero]; exact EachIs.nil⟩ ?step ?done)
  case step =>
    rintro j x s' hx ⟨sb', kA, e, nk', na', hk⟩
    simp only [Nat.zero_add] at hk ⊢
    have hj : j < vs.length := (List.getElem?_eq_some_iff.mp hx).1
    obtain ⟨k, hkj⟩ : ∃ k, kz[j]? = some k := ⟨_, List.getElem?_eq_getElem (by omega)⟩
    have hkk : alike k k = true := hal k (List.mem_of_getElem? hkj) k (List.mem_of_getElem? hkj)
    have hz : kA.size ≤ vs.length := by
      have h1 := hk.length
      rw [Array.length_toList, List.length_take] at h1
      omega
    refine wpAny_bind (wpAny_attempt (wpAny_mono (turn j x k hx hkj s' sb' ⟨_, na'⟩) (fun v s'' he => ?_) fun _ _ hF => hF.elim))
    obtain ⟨sk, hr⟩ := he
    try dsimp only
    have nk2 : s''.heap.get? kS = some (seqObj "list" kA e) := sk.sl.keep nk' hkf
    have na2 : s''.heap.get? a = some (seqObj "list" #[] e1) := sk.sl.keep na' haf
    have s1 := Heap.SameBut.update s''.heap kS (Obj.mapSeq (·.push v))
    obtain ⟨c2, hc2⟩ : ∃ c2, (s''.heap.update kS (Obj.mapSeq (·.push v))).get? kS = some (seqObj "list" (kA.push v) c2) := ⟨_, get?_update_seq nk2 (·.push v)⟩
    have ek : kz.take (j + 1) = kz.take j ++ [k] := by rw [List.take_add_one, hkj]; simp
    have ea : (kA.push v).toList = kA.toList ++ [v] := by simp
    refine wpAny_bind (listUpdate_at nk2 rfl ?_ (Nat.le_trans hz hZ) (Nat.le_trans (Nat.le_of_eq (Array.size_push ..)) (Nat.succ_le_succ (Nat.le_trans hz hZ))))
    have keepS : ∀ (u : Value) (d : PyData), Reads s''.heap u d [] ∧ alike d d = true → Reads (s''.heap.update kS (Obj.mapSeq (·.push v))) u d [] ∧ alike d d = true := fun u d q =>
      ⟨reads_sl (fun b o eb cb => ⟨o.slots, (s1.2 b (fun z => by
        subst z
        rw [nk2] at eb
        cases eb
        have q : Value.type "list" = Value.type "tuple" := cb
        injection q with q
        exact absurd q (by decide))).trans eb⟩) d u [] q.2 q.1 rfl, q.2⟩
    refine wpAny_pure ⟨rfl, (sb'.step sk).put s1.2, kA.push v, c2, hc2, (s1.2 a hka.symm).trans na2, ?_⟩
    rw [ea, ek]
    refine each_snoc (R := fun (u : Value) (d : PyData) => Reads (s''.heap.update kS (Obj.mapSeq (·.push v))) u d [] ∧ alike d d = true) (keepS v k ⟨hr, hkk⟩) ?_
    exact hk.mono fun u d q => keepS u d ⟨reads_sl (fun b o eb _ => let ⟨sl, e, _⟩ := sk.sl b o eb; ⟨sl, e⟩) d u [] q.2 q.1 rfl, q.2⟩
  case done =>
    rintro s' ⟨sb', kA, e, nk', na', hk⟩
    have hk' : EachIs (fun v k => ∃ as, Reads s'.heap v k as) kA.toList kz := by
      have e3 : kz.take (0 + vs.length) = kz := List.take_of_length_le (by omega)
      rw [e3] at hk
      exact hk.mono fun v k q => ⟨[], q.1⟩
    have hsz : kA.size = vs.length := by
      have h1 := hk'.length
      rw [Array.length_toList] at h1
      omega
    try dsimp only
    refine wpAny_bind (listItems_at nk' rfl ?_)
    have hcut : ∀ b, b < kS → (cutH s'.heap kS).get? b = s'.heap.get? b := fun b hb => cutH_lt hb
    have kp : KeepsBut a (cutH s'.heap kS) s'.heap := fun b o hb e => by
      by_cases hlt : b < kS
      · rw [hcut b hlt] at e
        exact e
      · rw [cutH_ge (Nat.le_of_not_lt hlt)] at e
        cases e
    refine keyH_end (κ := dataKind s'.heap kz) (h₁ := cutH s'.heap kS) kp (cutH_ge (Nat.le_refl _)) nk' na' hka (SortsAt.data (s := s') hk' hal hsk hu) hsz hZ fun h3 tk3 c k3 n3 => ?_
    refine h { s' with heap := h3, toks := tk3 } _ c ⟨sb'.os, sb'.bare, fun b o hb hk2 eb => ?_⟩ n3 ⟨s'.heap, kA.toList, hal, rfl, hk'⟩
    obtain ⟨sl, e2, k2⟩ := sb'.sl b o hb hk2 eb
    have hlt : b < kS := Nat.lt_of_lt_of_le (Heap.lt_size eb) hfresh
    exact ⟨sl, k3 b _ hb ((hcut b hlt).trans e2), k2⟩
theorem keyS_tree {f : Value} {n : Nat} (hb : AllBare s.gens) (ho : s.heap.get? a = some (seqObj "list" vs.toArray n)) (haf : a ∉ fs) (hff : ∀ b ∈ fs, b < s.heap.objs.size) (hlen : kz.length = vs.length) (hZ : vs.length ≤ sizeLine) (hal : AllAlike kz) (hsk : Sortable kz) (hu : ∀ d, d ∈ kz → A.units + d.depth < cLine)
    (turn : ∀ (i : Nat) (v : Value) (k : PyData), vs[i]? = some v → kz[i]? = some k → ∀ s1, (∀ b o, b ≠ a → s.heap.get? b = some o → ∃ sl, s1.heap.get? b = some { o with slots := sl } ∧ (b ∉ fs → sl = o.slots)) → s1.os = s.os → AllBare s1.gens → (∃ o, s1.heap.get? a = some o) →
      wpAny (model prog w) A (call f [v]) (fun u s2 => SK fs s1 s2 ∧ Reads s2.heap u k []) (fun _ _ => False) s1)
    (h : ∀ s' out c, s'.os = s.os → AllBare s'.gens → (∀ b o, b ≠ a → s.heap.get? b = some o → ∃ sl, s'.heap.get? b = some { o with slots := sl } ∧ (b ∉ fs → sl = o.slots)) → s'.heap.get? a = some (seqObj "list" (List.toArray out) c) → KeyedOut b kz vs out → P (.done (.ret .none)) s') :
    wpAny (model prog w) A (ksk_tree a f b) P E s := by
  have ha : a < s.heap.objs.size := Heap.lt_size ho
  obtain ⟨e1, ho1⟩ : ∃ e1, (s.heap.update a (Obj.mapSeq fun _ => (#[] : Array Value))).get? a = some (seqObj "list" #[] e1) := ⟨_, get?_update_seq ho fun _ => #[]⟩
  have hkS : ((s.heap.update a (Obj.mapSeq fun _ => (#[] : Array Value))).push (seqObj "tuple" vs.toArray 0)).objs.size = s.heap.objs.size + 1 := by rw [size_push', Heap.size_update]
  unfold ksk_tree
  refine wpAny_bind (listItems_at ho rfl ?_)
  refine wpAny_bind (listUpdate_at ho rfl ?_ (by rw [List.size_toArray]; exact hZ) (Nat.zero_le _))
  refine wpAny_bind (seqEpoch_at ho1 rfl ?_)
  refine wpAny_bind (wpAny_newTuple ?_ (by show vs.length ≤ _; exact hZ))
  refine wpAny_bind (wpAny_newList ?_ (Nat.zero_le _))
  refine wpAny_holding ?_
  have ne : ∀ b o, s.heap.get? b = some o → b ≠ ((s.heap.update a (Obj.mapSeq fun _ => (#[] : Array Value))).push (seqObj "tuple" vs.toArray 0)).objs.size := fun b o e z => by
    have := Heap.lt_size e
    rw [z, hkS] at this
    exact Nat.lt_irrefl _ (Nat.lt_trans (Nat.lt_succ_self _) this)
  refine keyS_rest (kz := kz) (s0 := s) (fs := fs) (s := { s with heap := ((s.heap.update a (Obj.mapSeq fun _ => (#[] : Array Value))).push (seqObj "tuple" vs.toArray 0)).push (seqObj "list" #[] 0) }) (kS := ((s.heap.update a (Obj.mapSeq fun _ => (#[] : Array Value))).push (seqObj "tuple" vs.toArray 0)).objs.size)
    ⟨rfl, hb, fun b o hb _ q => ⟨o.slots, sortingHeap_old hb q, fun _ => rfl⟩⟩ (Heap.get?_push_size _ rfl) (Heap.get?_push_of_some _ (Heap.get?_push_of_some _ ho1)) (by rw [hkS]; exact Nat.ne_of_gt (Nat.lt_succ_of_lt ha))
    (fun z => by have := hff _ z; rw [hkS] at this; exact Nat.lt_irrefl _ (Nat.lt_trans (Nat.lt_succ_self _) this)) haf hlen hZ hal hsk hu (by rw [hkS]; omega)
    (fun i v k hv hk s1 sb na => turn i v k hv hk s1 (fun b o hb e => sb.sl b o hb (ne b o e) e) sb.os sb.bare na) fun s' out c sb hg ko => h s' out c sb.os sb.bare (fun b o hb e => sb.sl b o hb (ne b o e) e) hg ko
end
end DL
namespace DL
open PySem PySem.Spec PyProof.Rows L2
/-! ### the key of an item, run where nothing but tuples is known -/
/-- the tuples of H, locked as they stand in h -/
def frH (h : Heap) (H : Hp) : Hp := fun b => match H b with
  | some (.tup xs) => (h.get? b).map fun o => .frz o (.tup xs)
  | some (.frz o (.tup xs)) => some (.frz o (.tup xs))
  | _ => none
theorem frH_none {h : Heap} {H : Hp} {b : Addr} (e : H b = none) : frH h H b = none := by
  unfold frH
  rw [e]
theorem frH_some {h : Heap} {H : Hp} {b : Addr} {u : HO} (e : frH h H b = some u) : ∃ o xs, u = .frz o (.tup xs) ∧ ((H b = some (.tup xs) ∧ h.get? b = some o) ∨ H b = some (.frz o (.tup xs))) := by
  unfold frH at e
  cases q : H b with
  | none => rw [q] at e; cases e
  | some v =>
    rw [q] at e
    cases v with
    | tup xs =>
      obtain ⟨o, e1, e2⟩ := Option.map_eq_some_iff.mp e
      exact ⟨o, xs, e2.symm, .inl ⟨rfl, e1⟩⟩
    | frz o u2 =>
      cases u2 with
      | tup xs => cases e; exact ⟨o, xs, rfl, .inr rfl⟩
      | _ => cases e
    | _ => cases e
theorem frH_tup {P : Program} {w : World} {h h1 : Heap} {H : Hp} {a : Addr} {xs : List V} (ok : HOk P w H h) (k : ∀ b o, H b ≠ none → h.get? b = some o → h1.get? b = some o) (e : Rd H a (.tup xs)) : Rd (frH h1 H) a (.tup xs) := by
  rcases e with e | ⟨o, e⟩
  · obtain ⟨_, its, r, o, e1, _⟩ := (show ObjOk P w H h a (.tup xs) from ok a _ e)
    refine .inr ⟨o, ?_⟩
    unfold frH
    rw [e]
    dsimp only
    rw [k a o (by rw [e]; exact fun z => by cases z) e1]
    rfl
  · refine .inr ⟨o, ?_⟩
    unfold frH
    rw [e]
mutual
/-- no list, no dict within -/
def nr : D → Bool
  | .ref _ => false
  | .fl _ => false
  | .exc _ => false
  | .kt _ => false
  | .tup xs => nrs xs
  | _ => true
def nrs : List D → Bool
  | [] => true
  | x :: xs => nr x && nrs xs
end
mutual
theorem rep_fr {P : Program} {w : World} {K : PySem.W.Frag} {h h1 : Heap} {H : Hp} (ok : HOk P w H h) (k : ∀ b o, H b ≠ none → h.get? b = some o → h1.get? b = some o) : ∀ {v : V} {d : D}, Rep K H v d → nr d = true → Rep K (frH h1 H) v d
  | _, _, .non, _ => .non
  | _, _, .bl b, _ => .bl b
  | _, _, .int b, _ => .int b
  | _, _, .str b, _ => .str b
  | _, _, .ty b, _ => .ty b
  | _, _, .ref b, hn => by unfold nr at hn; cases hn
  | _, _, .fl h r, hn => by unfold nr at hn; cases hn
  | _, _, .exc n h, hn => by unfold nr at hn; cases hn
  | _, _, .kt h, hn => by unfold nr at hn; cases hn
  | _, _, .cls n, hn => .cls n
  | _, _, .tup h2 r, hn => by
    unfold nr at hn
    refine .tup ?_ (reps_fr ok k r hn)
    rcases h2 with h2 | h2
    · exact .inl (frH_tup ok k h2)
    · exact .inr h2
theorem reps_fr {P : Program} {w : World} {K : PySem.W.Frag} {h h1 : Heap} {H : Hp} (ok : HOk P w H h) (k : ∀ b o, H b ≠ none → h.get? b = some o → h1.get? b = some o) : ∀ {vs : List V} {ds : List D}, Reps K H vs ds → nrs ds = true → Reps K (frH h1 H) vs ds
  | _, _, .nil, _ => .nil
  | _, _, .cons h r, hn => by
    unfold nrs at hn
    rw [Bool.and_eq_true] at hn
    exact .cons (rep_fr ok k h hn.1) (reps_fr ok k r hn.2)
end
abbrev S0 : Sto := fun _ => none
theorem keys_readK {h : Heap} : ∀ (ks : List Key) {us : List Value}, Vals (ks.map kV) us → ReadsAll h us (ks.map keyPy) []
  | [], _, e => by cases e; exact .nil
  | .inl i :: r, _, e => by
    cases e with
    | cons e1 e2 => obtain ⟨t, rfl⟩ := e1; exact .cons (as := []) (bs := []) (.int i t) (keys_readK r e2)
  | .inr x :: r, _, e => by
    cases e with
    | cons e1 e2 => obtain ⟨t, rfl⟩ := e1; exact .cons (as := []) (bs := []) (.str x t) (keys_readK r e2)
mutual
/-- what is told of a key, read in the heap -/
theorem key_reads {P : Program} {w : World} {K : PySem.W.Frag} {h : Heap} {H : Hp} (ok : HOk P w H h) (ki : K.In h) : ∀ {d : D} {p : PyData}, PD S0 d p → ∀ {v : V} {u : Value}, Rep K H v d → RelV v u → Reads h u p []
  | _, _, .non, _, _, r, e => by cases r; cases (show _ = Value.none from e); exact .none
  | _, _, .bl b, _, _, r, e => by cases r; cases (show _ = Value.bool b from e); exact .bool b
  | _, _, .int i, _, _, r, e => by cases r; obtain ⟨t, rfl⟩ := e; exact .int i t
  | _, _, .str x, _, _, r, e => by cases r; obtain ⟨t, rfl⟩ := e; exact .str x t
  | _, _, .lst z _, _, _, r, e => by cases z
  | _, _, .kt ks, _, _, r, e => by
    cases r with
    | @kt a _ h1 =>
      cases (show _ = Value.ref a from e)
      obtain ⟨_, its, rv, o, ho, hc, n, hd⟩ := (show ObjOk P w H h a (.tup (ks.map kV)) from ok a _ h1)
      exact .tuple ho hc hd (by simpa using keys_readK ks rv)
  | _, _, .tup q, _, _, r, e => by
    cases r with
    | @tup a vs ds h1 r =>
      cases (show _ = Value.ref a from e)
      rcases h1 with h1 | ⟨o, its, n, hk, hc, hd, hz, rv⟩
      · obtain ⟨_, its, rv, o, ho, hc, n, hd⟩ := h1.ok ok
        exact .tuple ho hc hd (by simpa using keys_read ok ki q r rv)
      · exact .tuple (ki a o hk) hc hd (keys_read ok ki q r rv)
theorem keys_read {P : Program} {w : World} {K : PySem.W.Frag} {h : Heap} {H : Hp} (ok : HOk P w H h) (ki : K.In h) : ∀ {ds : List D} {ps : List PyData}, PDs S0 ds ps → ∀ {vs : List V} {us : List Value}, Reps K H vs ds → Vals vs us → ReadsAll h us ps []
  | _, _, .nil, _, _, r, e => by cases r; cases e; exact .nil
  | _, _, .cons q t, _, _, r, e => by
    cases r with
    | cons h1 r1 =>
      cases e with
      | cons e1 e2 => exact .cons (as := []) (bs := []) (key_reads ok ki q h1 e1) (keys_read ok ki t r1 e2)
end
theorem key_turn {X : Cx} {k : Nat} {f : Addr} {fd : FuncData} {ps : List Str} {m : MF} (F : FnG X.prog X.w X.K X.mg X.base CX0 k f fd ps (spD X.K 1 m)) (hb : Binds X.K fd ps []) (hr : RoomG (k + 1) X.A) {pins : List (Addr × Obj)} {σ : L2.St} {H : Hp} {s s1 : Shared} (I : Inv X pins σ H s)
    (old : ∀ b o, s.heap.get? b = some o → ∃ sl, s1.heap.get? b = some { o with slots := sl } ∧ (b ∉ frs X.stack → sl = o.slots)) (hos : s1.os = s.os) (hbare : AllBare s1.gens) (hsz : s.heap.objs.size ≤ s1.heap.objs.size)
    {v : V} {u : Value} {d : D} {p : PyData} (rv : RelV v u) (rd : Rep X.K H v d) (hn : nr d = true) (hm : m [d] S0 fun e _ => PD S0 e p) :
    wpAny (model X.prog X.w) X.A.in1.in1 (call (.ref f) [u]) (fun u' s2 => SK (frs X.stack) s1 s2 ∧ Reads s2.heap u' p []) (fun _ _ => False) s1 := by
  have E0 := I.env0
  have kp : ∀ b o, b ∉ frs X.stack → s.heap.get? b = some o → s1.heap.get? b = some o := fun b o hb e => by
    obtain ⟨sl, e1, k1⟩ := old b o e
    rw [k1 hb] at e1
    exact e1
  have kh : ∀ b o, H b ≠ none → s.heap.get? b = some o → s1.heap.get? b = some o := fun b o hb e => kp b o (fun z => hb (E0.frf b z)) e
  have basek : ∀ b o, X.base.get? b = some o → s1.heap.get? b = some o ∧ H b = none := fun b o e => by
    obtain ⟨e1, e2⟩ := E0.bs b o e
    exact ⟨kp b o (fun z => by have := (E0.funs.mem z).1; rw [e] at this; cases this) e1, e2⟩
  have hok0 : HOk X.prog X.w (frH s1.heap H) s1.heap := fun b w e => by
    obtain ⟨o, xs, rfl, h1 | h1⟩ := frH_some e
    · obtain ⟨h2, h3⟩ := h1
      refine ⟨h3, ?_⟩
      obtain ⟨z, its, r, ob, e1, c⟩ := (show ObjOk X.prog X.w H s.heap b (.tup xs) from I.hok b _ h2)
      exact ⟨z, its, r, ob, kh b ob (by rw [h2]; exact fun z => by cases z) e1, c⟩
    · obtain ⟨h3, z, its, r, ob, e1, c⟩ := (show ObjOk X.prog X.w H s.heap b (.frz o (.tup xs)) from I.hok b _ h1)
      have hne : H b ≠ none := by rw [h1]; exact fun z => by cases z
      exact ⟨kh b o hne h3, z, its, r, ob, kh b ob hne e1, c⟩
  have env : Env0 X.prog X.w X.K X.mg X.base X.A.in1.in1 X.stack s1 (frH s1.heap H) :=
    ⟨E0.in1.in1.frames, E0.mod, fun b o e => ⟨(basek b o e).1, frH_none (basek b o e).2⟩, Nat.le_trans E0.bsz hsz, E0.funs.of_keeps fun b o e _ => let ⟨sl, e1, _⟩ := old b o e; ⟨_, e1, rfl⟩,
      fun b hb => frH_none (E0.frf b hb), hok0, hbare⟩
  have room : RoomG k X.A.in1.in1 := ⟨⟨hr.hd, by have := hr.dp; show X.A.depth + 3 * k + 5 < _; omega, by have := hr.un; show X.A.units + 1 + 1 + 16 * k + 200 < _; omega⟩, hr.gd⟩
  have ki : X.K.In s1.heap := E0.mod.kin.keeps fun b o e => (basek b o e).1
  have hl : ([u] ++ ([] : List Value)).length = ps.length := F.len [v] (frH s1.heap H) (fun _ _ => True) (fun _ _ _ => False) ⟨rfl, [d], S0, fun e _ => PD S0 e p, .cons (rep_fr I.hok kh rd hn) .nil, (fun _ _ z => by cases z), hm, fun _ _ _ _ _ _ _ _ => trivial⟩
  refine wpAny_call (codeAny_mono (F.run X.A.in1.in1 X.stack s1 (frH s1.heap H) ⟨[u], []⟩ [u] [v] (fun v' H' => ∃ e, Rep X.K H' v' e ∧ PD S0 e p) (fun _ _ _ => False) room env (by simpa using hb s1 [u] ki hl) (.cons rv .nil) ?_) fun r s' hq => ?_)
  · exact ⟨rfl, [d], S0, fun e _ => PD S0 e p, .cons (rep_fr I.hok kh rd hn) .nil, (fun _ _ z => by cases z), hm, fun v' e' S' H' _ _ r q => ⟨e', r, q⟩⟩
  · cases r with
    | error e => exact hq
    | ok fl =>
      cases fl with
      | ret u' =>
        obtain ⟨v', H', os, bare, un, hok', rv', e, re, pe⟩ := hq
        have sl : Sl (frs X.stack) s1.heap s'.heap := fun b o eb => by
          cases q : frH s1.heap H b with
          | none =>
            by_cases hb : b ∈ frs X.stack
            · obtain ⟨sl, e1⟩ := un.slot b o eb q hb (by simp)
              exact ⟨sl, e1, fun z => absurd hb z⟩
            · exact ⟨o.slots, un.keep b o eb q hb (by simp), fun _ => rfl⟩
          | some w =>
            obtain ⟨o', xs, rfl, _⟩ := frH_some q
            have e1 := un.frzs b o' _ q
            have e2 := (show ObjOk X.prog X.w H' s'.heap b (.frz o' (.tup xs)) from hok' b _ e1).1
            have e3 := (show ObjOk X.prog X.w (frH s1.heap H) s1.heap b (.frz o' (.tup xs)) from hok0 b _ q).1
            rw [eb] at e3
            cases e3
            exact ⟨o.slots, e2, fun _ => rfl⟩
        have ki' : X.K.In s'.heap := E0.mod.kin.keeps fun b o e => by
          obtain ⟨e1, e2⟩ := basek b o e
          exact un.keep b o e1 (frH_none e2) (fun z => by have := (E0.funs.mem z).1; rw [e] at this; cases this) (by simp)
        exact ⟨⟨os, bare, sl⟩, key_reads hok' ki' pe re rv'⟩
      | next => exact False.elim hq
      | brk => exact False.elim hq
      | cont => exact False.elim hq
end DL
namespace DL
open PySem PySem.Spec PyProof.Rows L2
section
open PySem.W
def rSK (K : PySem.W.Frag) (f : Addr) (m : MF) : List V → List V → Hp → VK → Prop := fun vs zs H Q => ∃ (a : Addr) (xs : List V) (ds : List D) (kd : D → PyData), vs = [V.ref a] ∧ zs = [V.ref f] ∧ SqL K H a xs ∧ Reps K H xs ds ∧
  (∀ d ∈ ds, nr d = true ∧ m [d] S0 fun e _ => PD S0 e (kd d)) ∧ AllAlike (ds.map kd) ∧ Sortable (ds.map kd) ∧ (∀ d ∈ ds, (kd d).depth ≤ 32) ∧
  ∀ (p : Addr) (ys : List V), H p = none → Reps K H ys (ds.mergeSort (dataLe false kd)) → Q (.ref p) (upd H p (.lst ys))
theorem each_of {K : PySem.W.Frag} {H : Hp} : ∀ {xs : List V} {ds : List D} {us : List Value}, Reps K H xs ds → Vals xs us → EachIs (fun u d => ∃ v, RelV v u ∧ Rep K H v d) us ds
  | _, _, _, .nil, h => by cases h; exact .nil
  | _, _, _, .cons h r, e => by
    cases e with
    | cons e1 e2 => exact .cons ⟨_, e1, h⟩ (each_of r e2)
theorem of_each {K : PySem.W.Frag} {H : Hp} : ∀ {us : List Value} {ds : List D}, EachIs (fun u d => ∃ v, RelV v u ∧ Rep K H v d) us ds → ∃ xs, Vals xs us ∧ Reps K H xs ds
  | _, _, .nil => ⟨[], .nil, .nil⟩
  | _, _, .cons ⟨v, h1, h2⟩ t => let ⟨xs, a, b⟩ := of_each t; ⟨v :: xs, .cons h1 a, .cons h2 b⟩
theorem each_at {α β : Type} {R : α → β → Prop} : ∀ {as : List α} {bs : List β}, EachIs R as bs → ∀ {i : Nat} {a : α}, as[i]? = some a → ∃ b, bs[i]? = some b ∧ R a b
  | _, _, .nil, i, a, h => by cases h
  | _, _, .cons h t, 0, a, e => by cases e; exact ⟨_, rfl, h⟩
  | _, _, .cons h t, i + 1, a, e => each_at t (i := i) e
theorem cr_sortKey {X : Cx} {k : Nat} {f : Addr} {fd : FuncData} {ps : List Str} {m : MF} (F : FnG X.prog X.w X.K X.mg X.base CX0 k f fd ps (spD X.K 1 m)) (hb : Binds X.K fd ps []) (hr : RoomG (k + 1) X.A) : CallRK X (.builtin "sorted") [Str.ofString "key"] (rSK X.K f m) := by
  intro pins s σ H vs zs us ws Q I r rz h
  obtain ⟨a, xs, ds, kd, rfl, rfl, hs, rp, hm, hal, hso, hd, q⟩ := h
  obtain rfl := Vals.ref1 r
  obtain ⟨w1, rfl, e1⟩ := vals1 rz
  obtain rfl : w1 = Value.ref f := e1
  obtain ⟨its, rv, hl, hz⟩ := I.list hs
  have ei := each_of rp rv
  have hlen : its.length = ds.length := ei.length
  have hlx : xs.length = its.length := rv.length
  have E0 := I.env0
  show wpAny (model X.prog X.w) X.A (call (.builtin "sorted") [.ref a] [(Str.ofString "key", .ref f)]) (EP X pins σ Q) X.xe s
  refine sorted_of_sort hl.isList (by rw [← hlx]; exact hz) (ksk_s1 _ _) (fun _ => ksk_l1 _ _) fun E' => ?_
  rw [ksk_t1]
  have hff : ∀ b ∈ frs X.stack, b < s.heap.objs.size := fun b hb => by
    obtain ⟨_, o, e, _⟩ := E0.funs.mem hb
    exact Heap.lt_size e
  have hc : ∀ b o, s.heap.get? b = some o → b ≠ s.heap.objs.size + 1 := fun b o e z => by
    have := Heap.lt_size e
    rw [z] at this
    exact Nat.lt_irrefl _ (Nat.lt_trans (Nat.lt_succ_self _) this)
  refine keyS_tree (kz := ds.map kd) (fs := frs X.stack) (s := { s with heap := copyHeap s.heap its }) I.bare (copyHeap_at s.heap its) (fun z => Nat.lt_irrefl _ (Nat.lt_trans (Nat.lt_succ_self _) (hff _ z))) (fun b hb => ?_) (by rw [List.length_map]; exact hlen.symm) (by rw [← hlx]; exact hz) hal hso (fun d hd2 => ?_)
    (fun i u kz hi hk s1 old hos hbare hat => ?_) fun s' out c hos hbare old hg ko => ?_
  · exact Nat.lt_of_lt_of_le (Nat.lt_trans (hff b hb) (Nat.lt_succ_self _)) (Nat.le_of_lt (Heap.lt_size (copyHeap_at s.heap its)))
  · obtain ⟨d0, h0, rfl⟩ := List.mem_map.mp hd2
    have := hd d0 h0
    have := hr.un
    show X.A.units + 1 + 1 + _ < _
    omega
  · obtain ⟨d, hd1, v, rv1, rd1⟩ := each_at ei hi
    have hkd : kz = kd d := by
      rw [List.getElem?_map, hd1] at hk
      cases hk
      rfl
    subst hkd
    have hmem := List.mem_of_getElem? hd1
    obtain ⟨o, ho⟩ := hat
    exact key_turn F hb hr I (fun b o e => old b o (hc b o e) (copyHeap_old e)) hos hbare (Nat.le_of_lt (Nat.lt_trans (Nat.lt_succ_self _) (Heap.lt_size ho))) rv1 rd1 (hm d hmem).1 (hm d hmem).2
  · refine ⟨rfl, ?_⟩
    have eo := keyedOut_each kd ko ei
    obtain ⟨ys, yv, yr⟩ := of_each eo
    have np : H (s.heap.objs.size + 1) = none := I.hok.fresh (Nat.le_succ _)
    have ys_len : ys.length ≤ sizeLine := by
      have h1 := yv.length
      have h2 := eo.length
      rw [List.length_mergeSort] at h2
      omega
    have kp : ∀ b o, b ∉ frs X.stack → s.heap.get? b = some o → s'.heap.get? b = some o := fun b o hb e => by
      obtain ⟨sl, e1, k1⟩ := old b o (hc b o e) (copyHeap_old e)
      rw [k1 hb] at e1
      exact e1
    have un : Un (frs X.stack) [] H (upd H (s.heap.objs.size + 1) (.lst ys)) s.heap s'.heap :=
      { keep := fun b o e _ hb _ => kp b o hb e
        slot := fun b o e _ _ _ => let ⟨sl, e1, _⟩ := old b o (hc b o e) (copyHeap_old e); ⟨sl, e1⟩
        free := fun b o e n _ => by rw [upd_ne (hc b o e)]; exact n
        there := fun b o e _ => let ⟨sl, e1, _⟩ := old b o (hc b o e) (copyHeap_old e); ⟨_, e1⟩
        tups := fun b xs e => by rw [upd_ne (ne_of_none e np)]; exact e
        frzs := fun b o u e => by rw [upd_ne (ne_of_none e np)]; exact e
        tbls := fun b ps e => ⟨#[], by rw [upd_ne (ne_of_none e np)]; simpa using e⟩ }
    have hok : HOk X.prog X.w (upd H (s.heap.objs.size + 1) (.lst ys)) s'.heap := fun b o e => by
      by_cases hb : b = s.heap.objs.size + 1
      · subst hb
        rw [upd_same] at e
        cases e
        exact ⟨ys_len, out, c, yv, hg⟩
      · rw [upd_ne hb] at e
        refine (I.hok b o e).stay (fun b2 u h2 e2 => kp b2 u (fun z => ?_) e2) (fun b2 e2 => by rw [upd_ne (ne_of_none e2 np)]; exact e2) fun b2 xs e2 => by rw [upd_ne (ne_of_none e2 np)]; exact e2
        have n := E0.frf b2 z
        rcases h2 with rfl | h2
        · rw [e] at n; cases n
        · rw [h2] at n; cases n
    obtain ⟨hh, g, dr, t, os'⟩ := s'
    obtain rfl : os' = s.os := hos
    exact ⟨.ref _, _, I.call (h' := hh) (g' := g) (d' := dr) (t' := t) (ch := []) un hok hbare (fun b z => absurd z (by simp)), rfl, q _ ys np yr⟩
/-- the items as they stand sorted by the keys that m tells -/
def keyed (m : MF) (xs : List D) (R : List D → Prop) : Prop := ∃ kd : D → PyData, (∀ d ∈ xs, nr d = true ∧ m [d] S0 fun e _ => PD S0 e (kd d)) ∧ AllAlike (xs.map kd) ∧ Sortable (xs.map kd) ∧ (∀ d ∈ xs, (kd d).depth ≤ 32) ∧ R (xs.mergeSort (dataLe false kd))
def eSortK (m : MF) (fa : DE) : DE := fun σ S Q => fa σ S fun x S1 => match x with
  | .ref p => ∃ xs, S1 p = some (.lst xs) ∧ keyed m xs fun ys => ∀ n, S1 n = none → Q (.ref n) (updS S1 n (.lst ys))
  | _ => False
theorem c_sortKey {X : Cx} {e : Expr} {fe : DE} {pos p p3 kpos : Pos} {j k : Nat} {g : Str} {m : MF} (hr : RoomG j X.A) (G : Okf X.prog X.w X.K X.mg X.base k g 1 m) (hk : k + 1 ≤ j) (hm : X.mg "sorted" = none) (ha : CE X e fe) (hgg : Gl X g := by rfl) (hg : Gl X "sorted" := by rfl)
    (hdd : (g == ("__debug__" : Str)) = false := by decide +kernel)
    (he : backTo pos (starEach [e] X.env) = (false, eval e X.env) :: backTo pos (starEach [] X.env) := by rfl) (hpl : (backTo pos (starEach [e] X.env)).any (·.1) = false := by rfl)
    (hall : (backToKw pos (keywordEach [⟨some (Str.ofString "key"), .Name g p3, kpos⟩] X.env)).all (·.1.isSome) = true := by rfl) (hnone : (backToKw pos (keywordEach [⟨some (Str.ofString "key"), .Name g p3, kpos⟩] X.env)).any (·.1.isNone) = false := by rfl)
    (hks : (backToKw pos (keywordEach [⟨some (Str.ofString "key"), .Name g p3, kpos⟩] X.env)).filterMap (·.1) = [Str.ofString "key"] := by rfl) (hst : starEach [e] X.env = (false, eval e X.env) :: starEach [] X.env := by rfl) :
    CE X (.Call (.Name "sorted" p) [e] [⟨some (Str.ofString "key"), .Name g p3, kpos⟩] pos) (eSortK m fe) := by
  obtain ⟨f, fd, ps, hl, F, hmg, hkk, hb⟩ := G
  obtain ⟨te, he2, se⟩ := ha
  refine ⟨_, pe_callBK (cr_sortKey F hb (hr.mono' hk)) hg hm (by rfl) (pa_cons he2 pa_nil hst) (pk_cons (pe_glob hgg hmg (v := .ref f) rfl hdd) pk_nil) (by decide +kernel) (by decide +kernel) he hpl hall hnone hks, fun σ S Q sv H Kt re rs q kt => se σ S _ sv H _ re rs q fun v d S1 H1 s1 r1 v1 q1 => ?_⟩
  cases v1 with
  | ref a =>
    obtain ⟨xs, e0, kd, hm1, ha1, hs1, hd1, q1⟩ := q1
    obtain ⟨ws, e3, r3⟩ := r1 _ _ e0
    refine ⟨a, ws, xs, kd, rfl, rfl, .inl (.inl e3), r3, hm1, ha1, hs1, hd1, fun p2 ys np rys => ?_⟩
    obtain ⟨st, sr⟩ := stp_new (o := .lst (xs.mergeSort (dataLe false kd))) (ho := .lst ys) r1 np ⟨ys, upd_same, rys.mono (tx_new np)⟩
    exact kt _ _ _ _ (s1.trans st) sr (.ref p2) (q1 p2 (r1.free np))
  | _ => exact False.elim q1
end
end DL
namespace DL
open PySem PySem.Spec PyProof.Rows L2
/-! ### repr of data -/
def keyPD : Key → PyData
  | .inl i => .int i
  | .inr s => .str s
mutual
/-- data as it is shown: texts, numbers, tuples, lists, dicts -/
inductive RP : Sto → D → PyData → Prop
  | non {S : Sto} : RP S .non .none
  | bl {S : Sto} (b : Bool) : RP S (.bl b) (.bool b)
  | int {S : Sto} (i : Int) : RP S (.int i) (.int i)
  | str {S : Sto} (x : Str) : RP S (.str x) (.str x)
  | tup {S : Sto} {ds : List D} {ps : List PyData} (h : RPs S ds ps) : RP S (.tup ds) (.tuple ps)
  | fl {S : Sto} {ds : List D} {ps : List PyData} (h : RPs S ds ps) : RP S (.fl ds) (.list ps)
  | lst {S : Sto} {a : Addr} {ds : List D} {ps : List PyData} (e : S a = some (.lst ds)) (h : RPs S ds ps) : RP S (.ref a) (.list ps)
  | dct {S : Sto} {a : Addr} {kvs : List (Key × D)} {ps : List (PyData × PyData)} (e : S a = some (.dk kvs)) (h : RKs S kvs ps) : RP S (.ref a) (.dict ps)
inductive RPs : Sto → List D → List PyData → Prop
  | nil {S : Sto} : RPs S [] []
  | cons {S : Sto} {d : D} {p : PyData} {ds : List D} {ps : List PyData} (h : RP S d p) (t : RPs S ds ps) : RPs S (d :: ds) (p :: ps)
inductive RKs : Sto → List (Key × D) → List (PyData × PyData) → Prop
  | nil {S : Sto} : RKs S [] []
  | cons {S : Sto} {k : Key} {d : D} {p : PyData} {ds : List (Key × D)} {ps : List (PyData × PyData)} (h : RP S d p) (t : RKs S ds ps) : RKs S ((k, d) :: ds) ((keyPD k, p) :: ps)
end
theorem seq_reprK {P : Program} {w : World} {h : Heap} {a : Addr} {o : Obj} {its : Array Value} {n : Nat} {ps : List PyData} {as bs : List Addr} (ho : h.get? a = some o) (hc : o.cls = .type "list") (hd : o.data = .seq its n)
    (r : ReadsAll h its.toList ps as) (am : ReadAtMost h (PyData.depthAll ps) bs) (rk : ReprAllK P w bs h (PyData.depthAll ps) its.toList (PyData.shownAll ps)) :
    ∃ bs2, ReadAtMost h (PyData.list ps).depth bs2 ∧ ReprK P w bs2 h (PyData.list ps).depth (.ref a) (PyData.list ps).shown := by
  have r1 : Reads h (.ref a) (.list ps) (a :: as) := .list ho hc hd r
  have de : (PyData.list ps).depth = PyData.depthAll ps + 1 := PyData.depth.eq_1 ps
  rw [PyData.shown.eq_5]
  have nm : a ∉ bs := not_mem_of_deeper r1 (by rw [de]; omega) am
  obtain ⟨l⟩ := its
  cases l with
  | nil =>
    cases r
    refine ⟨[], fun b hb => (by cases hb), ?_⟩
    rw [PyData.shownAll.eq_1, listText_nil]
    exact ReprK.listEmpty ho hc hd
  | cons x l =>
    refine ⟨a :: bs, am.cons r1 (by rw [de]; omega), ?_⟩
    rw [de]
    exact ReprK.list (x := x) (l := l) ho hc hd nm rk.length_eq (fun i y e => rk.item i y (by simpa using e))
theorem shownKv_zip : ∀ ps : List (PyData × PyData), List.zipWith (fun k v => k ++ Str.ofString ": " ++ v) (PyData.shownAll (ps.map (·.1))) (PyData.shownAll (ps.map (·.2))) = PyData.shownKv ps
  | [] => by rw [List.map_nil, List.map_nil, PyData.shownAll.eq_1, PyData.shownKv.eq_1]; rfl
  | (k, v) :: ps => by rw [List.map_cons, List.map_cons, PyData.shownAll.eq_2, PyData.shownAll.eq_2, PyData.shownKv.eq_2, List.zipWith_cons_cons, shownKv_zip ps]
mutual
theorem rp_repr {P : Program} {w : World} {K : PySem.W.Frag} {h : Heap} {H : Hp} {S : Sto} (ok : HOk P w H h) (ki : K.In h) (sr : SRep K S H) : ∀ {d : D} {p : PyData}, RP S d p → ∀ {v : V} {u : Value}, Rep K H v d → RelV v u → p.showable = true → p.shown.length ≤ sizeLine →
    ∃ as bs, Reads h u p as ∧ ReadAtMost h p.depth bs ∧ ReprK P w bs h p.depth u p.shown
  | _, _, .non, _, _, r, e, hs, hl => by
    cases r; cases (show _ = Value.none from e)
    obtain ⟨bs, x, y⟩ := ReprK.of_reads (prog := P) (w := w) (h₀ := h) .none hs (PyData.noDict_hsm rfl) hl
    exact ⟨_, bs, .none, x, y⟩
  | _, _, .bl b, _, _, r, e, hs, hl => by
    cases r; cases (show _ = Value.bool b from e)
    obtain ⟨bs, x, y⟩ := ReprK.of_reads (prog := P) (w := w) (h₀ := h) (.bool b) hs (PyData.noDict_hsm rfl) hl
    exact ⟨_, bs, .bool b, x, y⟩
  | _, _, .int i, _, _, r, e, hs, hl => by
    cases r; obtain ⟨t, rfl⟩ := e
    obtain ⟨bs, x, y⟩ := ReprK.of_reads (prog := P) (w := w) (h₀ := h) (.int i t) hs (PyData.noDict_hsm rfl) hl
    exact ⟨_, bs, .int i t, x, y⟩
  | _, _, .str z, _, _, r, e, hs, hl => by
    cases r; obtain ⟨t, rfl⟩ := e
    obtain ⟨bs, x, y⟩ := ReprK.of_reads (prog := P) (w := w) (h₀ := h) (.str z t) hs (PyData.noDict_hsm rfl) hl
    exact ⟨_, bs, .str z t, x, y⟩
  | _, _, .tup (ps := ps) q, _, _, r, e, hs, hl => by
    cases r with
    | @tup a vs ds h1 r =>
      cases (show _ = Value.ref a from e)
      have hl' : ∀ t ∈ PyData.shownAll ps, t.length ≤ sizeLine := fun t ht => Nat.le_trans (tupleText_mem_le ht) (by rw [PyData.shown.eq_6] at hl; exact hl)
      rw [PyData.showable.eq_6] at hs
      have main : ∀ (o : Obj) (its : Array Value) (n : Nat), h.get? a = some o → o.cls = .type "tuple" → o.data = .seq its n → Vals vs its.toList → ∃ as bs, Reads h (.ref a) (.tuple ps) as ∧ ReadAtMost h (PyData.tuple ps).depth bs ∧ ReprK P w bs h (PyData.tuple ps).depth (.ref a) (PyData.tuple ps).shown := by
        intro o its n ho hc hd rv
        obtain ⟨as, bs, r1, am, rk⟩ := rps_repr ok ki sr q r rv hs hl'
        have r2 : Reads h (.ref a) (.tuple ps) as := .tuple ho hc hd r1
        have de : (PyData.tuple ps).depth = PyData.depthAll ps + 1 := PyData.depth.eq_2 ps
        have nm : a ∉ bs := not_mem_of_deeper r2 (by rw [de]; omega) am
        refine ⟨as, a :: bs, r2, am.cons r2 (by rw [de]; omega), ?_⟩
        rw [de, PyData.shown.eq_6]
        exact ReprK.tuple ho hc hd nm rk
      rcases h1 with h1 | ⟨o, its, n, hk, hc, hd, hz, rv⟩
      · obtain ⟨_, its, rv, o, ho, hc, n, hd⟩ := h1.ok ok
        exact main o its.toArray n ho hc hd (by simpa using rv)
      · exact main o its n (ki a o hk) hc hd rv
  | _, _, .fl (ps := ps) q, _, _, r, e, hs, hl => by
    cases r with
    | @fl a vs ds h1 r =>
      cases (show _ = Value.ref a from e)
      have hl' : ∀ t ∈ PyData.shownAll ps, t.length ≤ sizeLine := fun t ht => Nat.le_trans (listText_mem_le ht) (by rw [PyData.shown.eq_5] at hl; exact hl)
      rw [PyData.showable.eq_5] at hs
      have main : ∀ (o : Obj) (its : Array Value) (n : Nat), h.get? a = some o → o.cls = .type "list" → o.data = .seq its n → Vals vs its.toList → ∃ as bs, Reads h (.ref a) (.list ps) as ∧ ReadAtMost h (PyData.list ps).depth bs ∧ ReprK P w bs h (PyData.list ps).depth (.ref a) (PyData.list ps).shown := by
        intro o its n ho hc hd rv
        obtain ⟨as, bs, r1, am, rk⟩ := rps_repr ok ki sr q r rv hs hl'
        obtain ⟨bs2, x, y⟩ := seq_reprK ho hc hd r1 am rk
        exact ⟨_, bs2, .list ho hc hd r1, x, y⟩
      rcases h1 with ⟨o, h1⟩ | ⟨o, its, n, hk, hc, _, hd, hz, rv⟩
      · obtain ⟨_, its, n, rv, ho⟩ := Rd.ok (.inr ⟨o, h1⟩) ok
        exact main _ its.toArray n ho rfl rfl (by simpa using rv)
      · exact main o its n (ki a o hk) hc hd rv
  | _, _, .lst (a := a) (ps := ps) e0 q, _, _, r, e, hs, hl => by
    cases r with
    | ref =>
      cases (show _ = Value.ref a from e)
      have hl' : ∀ t ∈ PyData.shownAll ps, t.length ≤ sizeLine := fun t ht => Nat.le_trans (listText_mem_le ht) (by rw [PyData.shown.eq_5] at hl; exact hl)
      rw [PyData.showable.eq_5] at hs
      obtain ⟨vs, e1, r1⟩ := sr _ _ e0
      obtain ⟨_, its, n, rv, ho⟩ := Rd.ok (.inl e1) ok
      obtain ⟨as, bs, r1, am, rk⟩ := rps_repr ok ki sr q r1 rv hs hl'
      obtain ⟨bs2, x, y⟩ := seq_reprK (its := its.toArray) (n := n) ho rfl rfl r1 am rk
      exact ⟨_, bs2, .list (vs := its.toArray) (n := n) ho rfl rfl r1, x, y⟩
  | _, _, .dct (a := a) (ps := ps) e0 q, _, _, r, e, hs, hl => by
    cases r with
    | ref =>
      cases (show _ = Value.ref a from e)
      have hl' : ∀ t ∈ PyData.shownKv ps, t.length ≤ sizeLine := fun t ht => Nat.le_trans (dictText_mem_le ht) (by rw [PyData.shown.eq_7] at hl; exact hl)
      rw [PyData.showable.eq_7] at hs
      obtain ⟨ws, e1, r1⟩ := sr _ _ e0
      obtain ⟨_, low, vs, rv, o, es, ep, ho, hx, hd, _, hp, _⟩ := dk_rd ok (.inl e1)
      obtain ⟨as, bs, cs, r1, r3, am, rk1, rk2⟩ := rks_repr ok ki sr q r1 rv hp hs hl'
      have r2 : Reads h (.ref a) (.dict ps) (a :: as ++ bs) := .dict ho hx.1 hd r1 r3
      have de : (PyData.dict ps).depth = PyData.depthKv ps + 1 := PyData.depth.eq_3 ps
      have nm : a ∉ cs := not_mem_of_deeper r2 (by rw [de]; omega) am
      refine ⟨_, a :: cs, r2, am.cons r2 (by rw [de]; omega), ?_⟩
      rw [de, PyData.shown.eq_7]
      have rk := ReprEntriesK.of_two es.toList _ _ rk1 rk2
      rw [shownKv_zip] at rk
      exact ReprK.dict ho hx.1 hd low nm rk
theorem rps_repr {P : Program} {w : World} {K : PySem.W.Frag} {h : Heap} {H : Hp} {S : Sto} (ok : HOk P w H h) (ki : K.In h) (sr : SRep K S H) : ∀ {ds : List D} {ps : List PyData}, RPs S ds ps → ∀ {vs : List V} {us : List Value}, Reps K H vs ds → Vals vs us → PyData.showableAll ps = true → (∀ t ∈ PyData.shownAll ps, t.length ≤ sizeLine) →
    ∃ as bs, ReadsAll h us ps as ∧ ReadAtMost h (PyData.depthAll ps) bs ∧ ReprAllK P w bs h (PyData.depthAll ps) us (PyData.shownAll ps)
  | _, _, .nil, _, _, r, e, hs, hl => by
    cases r; cases e
    refine ⟨[], [], .nil, fun b hb => (by cases hb), ?_⟩
    rw [PyData.shownAll.eq_1]
    exact .nil
  | _, _, .cons (p := p) (ps := ps) q t, _, _, r, e, hs, hl => by
    cases r with
    | cons h1 r1 =>
      cases e with
      | cons e1 e2 =>
        rw [PyData.showableAll.eq_2, Bool.and_eq_true] at hs
        rw [PyData.shownAll.eq_2] at hl
        obtain ⟨as, bs, x1, y1, z1⟩ := rp_repr ok ki sr q h1 e1 hs.1 (hl _ (by simp))
        obtain ⟨as2, bs2, x2, y2, z2⟩ := rps_repr ok ki sr t r1 e2 hs.2 fun z hz => hl z (by simp [hz])
        have m1 : p.depth ≤ PyData.depthAll (p :: ps) := by rw [PyData.depthAll.eq_2]; omega
        have m2 : PyData.depthAll ps ≤ PyData.depthAll (p :: ps) := by rw [PyData.depthAll.eq_2]; omega
        refine ⟨as ++ as2, bs ++ bs2, .cons x1 x2, (y1.mono m1).append (y2.mono m2), ?_⟩
        rw [PyData.shownAll.eq_2]
        exact .cons ((z1.more fun b hb => by simp [hb]).level_le m1) (z2.more_le (fun b hb => by simp [hb]) m2)
theorem rks_repr {P : Program} {w : World} {K : PySem.W.Frag} {h : Heap} {H : Hp} {S : Sto} (ok : HOk P w H h) (ki : K.In h) (sr : SRep K S H) : ∀ {ds : List (Key × D)} {ps : List (PyData × PyData)}, RKs S ds ps → ∀ {ws : List (Key × V)} {vs : List (Key × Value)} {es : List DictEntry}, KReps K H ws ds → KV ws vs → Pairs (mixKind P w) es vs → PyData.showableKv ps = true → (∀ t ∈ PyData.shownKv ps, t.length ≤ sizeLine) →
    ∃ as bs cs, ReadsAll h (es.map (·.key)) (ps.map (·.1)) as ∧ ReadsAll h (es.map (·.val)) (ps.map (·.2)) bs ∧ ReadAtMost h (PyData.depthKv ps) cs ∧ ReprAllK P w cs h (PyData.depthKv ps) (es.map (·.key)) (PyData.shownAll (ps.map (·.1))) ∧ ReprAllK P w cs h (PyData.depthKv ps) (es.map (·.val)) (PyData.shownAll (ps.map (·.2)))
  | _, _, .nil, _, _, _, r, e, z, hs, hl => by
    cases r; cases e; cases z
    exact ⟨[], [], [], .nil, .nil, (fun b hb => (by cases hb)), .nil, .nil⟩
  | _, _, .cons (k := k) (p := p) (ps := ps) q t, _, _, _, r, e, z, hs, hl => by
    cases r with
    | cons h1 r1 =>
      cases e with
      | cons e1 e2 =>
        cases z with
        | @cons ee kv es2 kvs2 z1 z2 z3 =>
          rw [PyData.showableKv.eq_2, Bool.and_eq_true, Bool.and_eq_true] at hs
          rw [PyData.shownKv.eq_2] at hl
          have hl0 := hl _ (List.mem_cons_self ..)
          rw [Str.length_append, Str.length_append] at hl0
          obtain ⟨as, bs, x1, y1, w1⟩ := rp_repr ok ki sr q h1.2 e1.2 hs.1.2 (by omega)
          obtain ⟨as2, bs2, cs2, x2, x3, y2, w2, w3⟩ := rks_repr ok ki sr t r1 e2 z3 hs.2 fun z hz => hl z (List.mem_cons_of_mem _ hz)
          have kk : ∃ as3 bs3, Reads h ee.key (keyPD k) as3 ∧ ReadAtMost h (keyPD k).depth bs3 ∧ ReprK P w bs3 h (keyPD k).depth ee.key (keyPD k).shown := by
            have hk : keyIs k ee.key = true := by
              have a1 := e1.1.symm.trans h1.1
              have z1' : keyIs _ ee.key = true := z1
              rw [a1] at z1'
              exact z1'
            cases k with
            | inl i =>
              have : ∃ t, ee.key = .int i t := by
                unfold keyIs at hk; dsimp only at hk
                cases h9 : ee.key <;> rw [h9] at hk <;> simp [Value.isInt] at hk
                exact ⟨_, by rw [hk]⟩
              obtain ⟨t, et⟩ := this
              rw [et]
              obtain ⟨bs, x, y⟩ := ReprK.of_reads (prog := P) (w := w) (h₀ := h) (.int i t) hs.1.1 (PyData.noDict_hsm rfl) (show (PyData.int i).shown.length ≤ _ from (show (keyPD (.inl i)).shown.length ≤ sizeLine by omega))
              exact ⟨_, bs, .int i t, x, y⟩
            | inr i =>
              have : ∃ t, ee.key = .str i t := by
                unfold keyIs at hk; dsimp only at hk
                cases h9 : ee.key <;> rw [h9] at hk <;> simp [Value.isStrOf] at hk
                exact ⟨_, by rw [hk]⟩
              obtain ⟨t, et⟩ := this
              rw [et]
              obtain ⟨bs, x, y⟩ := ReprK.of_reads (prog := P) (w := w) (h₀ := h) (.str i t) hs.1.1 (PyData.noDict_hsm rfl) (show (PyData.str i).shown.length ≤ _ from (show (keyPD (.inr i)).shown.length ≤ sizeLine by omega))
              exact ⟨_, bs, .str i t, x, y⟩
          obtain ⟨as3, bs3, x4, y4, w4⟩ := kk
          have m0 : (keyPD k).depth ≤ PyData.depthKv ((keyPD k, p) :: ps) := by rw [PyData.depthKv.eq_2]; omega
          have m1 : p.depth ≤ PyData.depthKv ((keyPD k, p) :: ps) := by rw [PyData.depthKv.eq_2]; omega
          have m2 : PyData.depthKv ps ≤ PyData.depthKv ((keyPD k, p) :: ps) := by rw [PyData.depthKv.eq_2]; omega
          refine ⟨as3 ++ as2, as ++ bs2, bs3 ++ (bs ++ cs2), .cons x4 x2, .cons (show Reads h ee.val p as from z2 ▸ x1) x3, (y4.mono m0).append ((y1.mono m1).append (y2.mono m2)), ?_, ?_⟩
          · rw [List.map_cons, List.map_cons, PyData.shownAll.eq_2]
            exact .cons ((w4.more fun b hb => by simp [hb]).level_le m0) (w2.more_le (fun b hb => by simp [hb]) m2)
          · rw [List.map_cons, List.map_cons, PyData.shownAll.eq_2, z2]
            exact .cons ((w1.more fun b hb => by simp [hb]).level_le m1) (w3.more_le (fun b hb => by simp [hb]) m2)
end
/-- repr of a tuple, a list or a dict -/
def gRepr : GN := fun xs S Q => ∃ d p, xs = [d] ∧ RP S d p ∧ (match d with | .tup _ => True | .fl _ => True | .ref _ => True | _ => False) ∧ p.showable = true ∧ p.depth ≤ 32 ∧ p.shown.length ≤ sizeLine ∧ Q (.str p.shown) S
def rRepr (P : Program) (w : World) (K : PySem.W.Frag) : List V → Hp → VK → Prop := fun xs H Q => ∃ v d p S, xs = [v] ∧ Rep K H v d ∧ SRep K S H ∧ RP S d p ∧ (∃ a, v = .ref a) ∧ p.showable = true ∧ p.depth ≤ 32 ∧ p.shown.length ≤ sizeLine ∧ Q (.str p.shown) H
theorem list_call {X : Cx} {k : Nat} (hr : RoomG k X.A) {s : Shared} {a : Addr} {o : Obj} {its : Array Value} {n : Nat} {ps : List PyData} {as bs : List Addr} {Q : Value → Shared → Prop} {E : Value → Shared → Prop}
    (ho : s.heap.get? a = some o) (hc : o.cls = .type "list") (hd : o.data = .seq its n) (r : ReadsAll s.heap its.toList ps as) (am : ReadAtMost s.heap (PyData.depthAll ps) bs)
    (rk : ReprAllK X.prog X.w bs s.heap (PyData.depthAll ps) its.toList (PyData.shownAll ps)) (hdp : (PyData.list ps).depth ≤ 32) (hl : (listText (PyData.shownAll ps)).length ≤ sizeLine)
    (fin : ∀ (h' : Heap) (u : Tok) (tk : Nat), (∀ b o, s.heap.get? b = some o → h'.get? b = some o) → Q (.str (listText (PyData.shownAll ps)) u) { heap := h', gens := s.gens, drawn := s.drawn, toks := tk, os := s.os }) :
    wpAny (model X.prog X.w) X.A (call (.builtin "repr") [.ref a]) Q E s := by
  have hu : ∀ n, n ≤ 40 → X.A.units + n < cLine := fun n hn => by have := hr.un; omega
  have r1 : Reads s.heap (.ref a) (.list ps) (a :: as) := .list ho hc hd r
  have de : (PyData.list ps).depth = PyData.depthAll ps + 1 := PyData.depth.eq_1 ps
  have nm : a ∉ bs := not_mem_of_deeper r1 (by rw [de]; omega) am
  obtain ⟨l⟩ := its
  cases l with
  | nil =>
    cases r
    rw [PyData.shownAll.eq_1, listText_nil] at fin
    exact call_repr_slot (hu 1 (by omega)) ⟨o, ho, hc⟩ (Slot.toG F.slot_list_repr) (call_list_repr_empty ⟨o, ho, hc⟩ ho hd ⟨_, _, rfl, fin s.heap s.toks (s.toks + 1) fun _ _ e => e⟩)
  | cons x l =>
    exact call_repr_slot (hu 1 (by omega)) ⟨o, ho, hc⟩ (Slot.toG F.slot_list_repr) (call_list_reprK ho hc hd nm rk.length_eq (fun i y e => rk.item i y (by simpa using e)) (A := X.A.in1) hr.gd (fun b _ => Clear.nil b) (by have := hr.un; show X.A.units + 1 + _ < _; omega) (fun _ _ e => e) (fun h' u tk kp => ⟨_, u, rfl, fin h' u tk kp⟩) hl)
theorem callRepr {X : Cx} {k : Nat} (hr : RoomG k X.A) : CallR X (.builtin "repr") (rRepr X.prog X.w X.K) := by
  intro pins s σ H xs us Q I r h
  obtain ⟨v, d, p, S, ex, rd, sr, rp, ⟨a, ea⟩, hs, hd', hl, q⟩ := h
  subst ex
  obtain ⟨u, eu, ru⟩ := Vals.one r
  subst eu
  have hu : ∀ n, n ≤ 40 → X.A.units + n < cLine := fun n hn => by have := hr.un; omega
  have fin : ∀ (h' : Heap) (u : Tok) (tk : Nat), (∀ b o, s.heap.get? b = some o → h'.get? b = some o) → EP X pins σ Q (.str p.shown u) { heap := h', gens := s.gens, drawn := s.drawn, toks := tk, os := s.os } :=
    fun h' u tk kp => ⟨.str p.shown, H, I.kept kp, ⟨u, rfl⟩, q⟩
  have cl : ∀ (b : Addr), Clear [] b := Clear.nil
  subst ea
  cases (show _ = Value.ref a from ru)
  have ok := I.hok
  have ki := I.kIn
  cases rp with
  | @tup ds ps q' =>
    cases rd with
    | @tup a vs ds h1 r1 =>
      rw [PyData.shown.eq_6] at hl fin
      rw [PyData.showable.eq_6] at hs
      have main : ∀ (o : Obj) (its : Array Value) (n : Nat), s.heap.get? a = some o → o.cls = .type "tuple" → o.data = .seq its n → Vals vs its.toList → wpAny (model X.prog X.w) X.A (call (.builtin "repr") [.ref a]) (EP X pins σ Q) X.xe s := by
        intro o its n ho hc hd rv
        obtain ⟨as, bs, r1, am, rk⟩ := rps_repr ok ki sr q' r1 rv hs fun t ht => Nat.le_trans (tupleText_mem_le ht) hl
        have r2 : Reads s.heap (.ref a) (.tuple ps) as := .tuple ho hc hd r1
        have de : (PyData.tuple ps).depth = PyData.depthAll ps + 1 := PyData.depth.eq_2 ps
        have nm : a ∉ bs := not_mem_of_deeper r2 (by rw [de]; omega) am
        exact call_repr_slot (hu 1 (by omega)) ⟨o, ho, hc⟩ (F.slot_tuple_repr) (call_tuple_reprK ho hc hd nm rk (A := X.A.in1) hr.gd (fun b _ => cl b) (by have := hr.un; show X.A.units + 1 + _ < _; omega) (fun _ _ e => e) (fun h' u tk kp => ⟨_, u, rfl, fin h' u tk kp⟩) hl)
      rcases h1 with h1 | ⟨o, its, n, hk, hc, hd, hz, rv⟩
      · obtain ⟨_, its, rv, o, ho, hc, n, hd⟩ := h1.ok ok
        exact main o its.toArray n ho hc hd (by simpa using rv)
      · exact main o its n (ki a o hk) hc hd rv
  | @fl ds ps q' =>
    cases rd with
    | @fl a vs ds h1 r1 =>
      rw [PyData.shown.eq_5] at hl fin
      rw [PyData.showable.eq_5] at hs
      rcases h1 with ⟨o, h1⟩ | ⟨o, its, n, hk, hc, _, hd, hz, rv⟩
      · obtain ⟨_, its, n, rv, ho⟩ := Rd.ok (.inr ⟨o, h1⟩) ok
        obtain ⟨as, bs, r1, am, rk⟩ := rps_repr ok ki sr q' r1 rv hs fun t ht => Nat.le_trans (listText_mem_le ht) hl
        exact list_call hr (its := its.toArray) ho rfl rfl r1 am rk hd' hl fin
      · obtain ⟨as, bs, r1, am, rk⟩ := rps_repr ok ki sr q' r1 rv hs fun t ht => Nat.le_trans (listText_mem_le ht) hl
        exact list_call hr (ki a o hk) hc hd r1 am rk hd' hl fin
  | @lst _ ds ps e0 q' =>
    cases rd
    rw [PyData.shown.eq_5] at hl fin
    rw [PyData.showable.eq_5] at hs
    obtain ⟨vs, e1, r1⟩ := sr _ _ e0
    obtain ⟨_, its, n, rv, ho⟩ := Rd.ok (.inl e1) ok
    obtain ⟨as, bs, r1, am, rk⟩ := rps_repr ok ki sr q' r1 rv hs fun t ht => Nat.le_trans (listText_mem_le ht) hl
    exact list_call hr (its := its.toArray) ho rfl rfl r1 am rk hd' hl fin
  | @dct _ kvs ps e0 q' =>
    cases rd
    rw [PyData.shown.eq_7] at hl fin
    rw [PyData.showable.eq_7] at hs
    obtain ⟨ws, e1, r1⟩ := sr _ _ e0
    obtain ⟨_, low, vs, rv, o, es, ep, ho, hx, hd, _, hp, _⟩ := dk_rd ok (.inl e1)
    obtain ⟨as, bs, cs, r1, r3, am, rk1, rk2⟩ := rks_repr ok ki sr q' r1 rv hp hs fun t ht => Nat.le_trans (dictText_mem_le ht) hl
    have r2 : Reads s.heap (.ref a) (.dict ps) (a :: as ++ bs) := .dict ho hx.1 hd r1 r3
    have de : (PyData.dict ps).depth = PyData.depthKv ps + 1 := PyData.depth.eq_3 ps
    have nm : a ∉ cs := not_mem_of_deeper r2 (by rw [de]; omega) am
    have rk := ReprEntriesK.of_two es.toList _ _ rk1 rk2
    rw [shownKv_zip] at rk
    exact call_repr_slot (hu 1 (by omega)) ⟨o, ho, hx.1⟩ F.slot_dict_repr (call_dict_reprK ho hx.1 hd low nm rk (A := X.A.in1) hr.gd (fun b _ => cl b) (by have := hr.un; show X.A.units + 1 + _ < _; omega) (fun _ _ e => e) (fun h' u tk kp => ⟨_, u, rfl, fin h' u tk kp⟩) hl)
  | _ => cases rd
theorem b_repr {X : Cx} {k : Nat} (hr : RoomG k X.A) : CB X "repr" gRepr := ⟨rRepr X.prog X.w X.K, callRepr hr, fun xs as S H Q Kt rs rv q kk => by
  obtain ⟨d, p, e, rp, sh, hs, hd, hl, q⟩ := q
  subst e
  cases rv with
  | cons h1 t1 =>
    cases t1
    refine ⟨_, d, p, S, rfl, h1, rs, rp, ?_, hs, hd, hl, kk.now rs (.str _) q⟩
    cases h1 <;> first | exact sh.elim | exact ⟨_, rfl⟩⟩
end DL
namespace DL
open PySem PySem.Spec PyProof.Rows L2
/-! ### set(list) of keys, and its length -/
section
variable {κ : Type} [DecidableEq κ]
def memU (val : Nat → κ) (i : Nat) (k : κ) : Bool := (List.range i).any fun j => decide (val j = k)
def cntU (val : Nat → κ) : Nat → Nat
  | 0 => 0
  | i + 1 => if memU val i (val i) then cntU val i else cntU val i + 1
theorem memU_succ (val : Nat → κ) (i : Nat) (k : κ) : memU val (i + 1) k = (memU val i k || decide (k = val i)) := by
  unfold memU
  rw [List.range_succ, List.any_append]
  congr 1
  simp only [List.any_cons, List.any_nil, Bool.or_false, eq_comm]
theorem cntU_le (val : Nat → κ) : ∀ i, cntU val i ≤ i
  | 0 => Nat.le_refl 0
  | i + 1 => by
    have := cntU_le val i
    unfold cntU
    split <;> omega
theorem cntU_iff (val : Nat → κ) : ∀ i, cntU val i = i ↔ ∀ a b, a < b → b < i → val a ≠ val b
  | 0 => by simp [cntU]
  | i + 1 => by
    have h1 := cntU_le val i
    have ih := cntU_iff val i
    have m : memU val i (val i) = true ↔ ∃ a, a < i ∧ val a = val i := by
      unfold memU; simp
    unfold cntU
    constructor
    · intro h a b hab hb e
      split at h
      · omega
      · rename_i hm
        by_cases hbi : b = i
        · subst hbi; exact hm (m.mpr ⟨a, hab, e⟩)
        · exact ih.mp (by omega) a b hab (by omega) e
    · intro h
      rw [if_neg (fun hm => let ⟨a, ha, e⟩ := m.mp hm; h a i ha (by omega) e), ih.mpr fun a b hab hb => h a b hab (by omega)]
variable {prog : Program} {w : World} {knd : PySem.KeyKind prog w κ}
theorem SetOf_congr' {h : Heap} {a : Addr} {S S' : κ → Bool} {n n' : Nat} (x : Heap.SetOf knd h a S n) (e : ∀ k, S k = S' k) (en : n = n') : Heap.SetOf knd h a S' n' := by
  have : S = S' := funext e
  subst this; subst en; exact x
theorem set_loopK {A : Around} {R : Result → Shared → Prop} {I : Addr} {fp wr : List Addr} {G : Array GenState → Array GenState → Prop} {n : Nat} {P : Nat → Value → Prop} {St : Nat → Shared → Prop} (W : WalksS prog w A.in1 I fp wr G n P St) (S : Addr) (hSf : S ∉ fp)
    (val : Nat → κ) (hval : ∀ i v, P i v → knd.is (val i) v = true ∧ v.scannable = true) (hb : n + 1 < scanBound) : ∀ (k i : Nat) (s : Shared), n - i = k → i ≤ n → St i s → Heap.SetOf knd s.heap S (memU val i) (cntU val i) →
    (∀ s', Moved (S :: wr) G s s' → Heap.SetOf knd s'.heap S (memU val n) (cntU val n) → R (.ok (.ret .none)) s') → codeAny (model prog w) A (.builtin "set.update.loop" ⟨[.ref S, .ref I], []⟩) R s := by
  have hSw : S ∉ wr := fun h => hSf (W.sub S h)
  have hsub : ∀ b, b ∈ wr → b ∈ S :: wr := fun b hb => List.mem_cons_of_mem S hb
  have mv : ∀ {s s' : Shared} {m : κ → Bool} {c : Nat}, Moved wr G s s' → Heap.SetOf knd s.heap S m c → Heap.SetOf knd s'.heap S m c := fun hm hS => by
    obtain ⟨o, es, ep, t, ho, rest⟩ := hS
    exact ⟨o, es, ep, t, hm.heap S o hSw ho, rest⟩
  intro k
  induction k with
  | zero =>
    intro i s hk hi hst hS hR
    have hin : i = n := by omega
    subst hin
    refine codeAny_builtin F.entry_set_update_loop ?_
    rw [Around.under_plainId F.plain_set_update_loop ⟨[.ref S, .ref I], []⟩]
    exact wpAny_bind (W.done s _ _ hst fun s' hm => wpAny_pure (hR s' (hm.mono hsub) (mv hm hS)))
  | succ k ih =>
    intro i s hk hi hst hS hR
    have hlt : i < n := by omega
    refine codeAny_builtin F.entry_set_update_loop ?_
    rw [Around.under_plainId F.plain_set_update_loop ⟨[.ref S, .ref I], []⟩]
    refine wpAny_bind (W.item i s _ _ hlt hst fun v s' hP hst' hm => ?_)
    obtain ⟨hv, hsc⟩ := hval i v hP
    have hS' := mv hm hS
    refine wpAny_bind (wpAny_holding (wpAny_holding (wpAny_bind (knd.pyHash hv ?_))))
    have hl := cntU_le val i
    refine wpAny_setAddHashed_of hv hsc hS' (by omega) fun h' hsb hS2 => ?_
    refine wpAny_pure ⟨plainId_quiet F.plain_set_update_loop ⟨[.ref S, .ref I], []⟩, ih (i + 1) _ (by omega) hlt (W.frame (i + 1) s' h' _ hst' (Nat.le_succ s'.toks) fun b hb o e => ?_) (SetOf_congr' hS2 (fun k' => (memU_succ val i k').symm) rfl) fun s'' hm'' hS'' => hR s'' ?_ hS''⟩
    · rw [hsb.2 b fun h => hSf (h ▸ hb)]; exact e
    · exact Moved.trans W.gtrans (Moved.then_heap (hm.mono hsub) (Nat.le_succ s'.toks) fun b o hb e => by rw [hsb.2 b fun h => hb (h ▸ List.mem_cons_self)]; exact e) hm''
theorem set_init_listK {A : Around} {E : Value → Shared → Prop} {s : Shared} {l : Addr} {items : Array Value} {val : Nat → κ} {Q : Value → Shared → Prop} (hh : A.handled = none) (hl : s.heap.IsList l items)
    (hi : ∀ i v, items[i]? = some v → knd.is (val i) v = true ∧ v.scannable = true) (hb : items.size + 1 < scanBound) (led : Bool)
    (h : ∀ (h' : Heap) (tk : Nat), Heap.SetOf knd h' s.heap.objs.size (memU val items.size) (cntU val items.size) → (∀ (b : Nat) (o : Obj), b < s.heap.objs.size → s.heap.get? b = some o → h'.get? b = some o) →
      Q .none { heap := h', gens := s.gens, drawn := s.drawn, toks := tk, os := s.os }) :
    codeAny (model prog w) A.in1 (.call (.builtin "set.__init__") ⟨[.ref s.heap.objs.size, .ref l], []⟩) (wants Q E) { heap := s.heap.push { cls := .type "set", data := .set #[] 0 (SetTable.fresh 0 0 led) }, gens := s.gens, drawn := s.drawn, toks := s.toks, os := s.os } := by
  have hS := Heap.get?_push_size s.heap (o := { cls := Value.type "set", data := Data.set #[] 0 (SetTable.fresh 0 0 led) }) rfl
  have hT : Shared.TypeIs { heap := s.heap.push { cls := Value.type "set", data := Data.set #[] 0 (SetTable.fresh 0 0 led) }, gens := s.gens, drawn := s.drawn, toks := s.toks, os := s.os } (.ref s.heap.objs.size) "set" := ⟨_, hS, rfl⟩
  refine codeAny_call_builtin F.called_set.init.plain F.entry_set_init (check_set_init_1 hT ?_)
  obtain ⟨ol, hol, hcl, nl, hdl⟩ := hl
  obtain ⟨ocls, odict, odata, oslots⟩ := ol
  subst hcl
  subst hdl
  have hol' := Heap.get?_push_of_some (o := { cls := Value.type "set", data := Data.set #[] 0 (SetTable.fresh 0 0 led) }) hol
  have hl1 : (s.heap.push { cls := Value.type "set", data := Data.set #[] 0 (SetTable.fresh 0 0 led) }).IsList l items := ⟨_, hol', rfl, nl, rfl⟩
  unfold Builtin.«set.__init__»
  refine wpAny_bind ?_
  unfold noKeywords
  rw [if_pos (by rfl)]
  refine wpAny_pure ?_
  dsimp only
  refine wpAny_bind ?_
  unfold typeNameOfCut shownTypeOf
  refine wpAny_bind (wpAny_bind (wpAny_typeOf hT ?_))
  rw [if_neg (by exact Bool.false_ne_true)]
  refine wpAny_pure ?_
  unfold typeNameCut
  dsimp only
  refine wpAny_pure ?_
  refine wpAny_bind ?_
  unfold checkCount
  dsimp only
  rw [if_neg (by exact Bool.false_ne_true), if_neg (by exact Nat.not_lt_zero _), if_neg (by exact Nat.lt_irrefl 1)]
  refine wpAny_pure ?_
  refine wpAny_bind ?_
  unfold Builtin.Frozenset.addrOf
  dsimp only
  refine wpAny_pure ?_
  refine wpAny_bind ?_
  unfold setUsed setState
  refine wpAny_bind (wpAny_bind (wpAny_load' hS ?_))
  dsimp only
  rw [if_neg (by exact Bool.false_ne_true)]
  refine wpAny_pure (wpAny_pure ?_)
  rw [if_neg (by exact Bool.false_ne_true)]
  refine wpAny_bind ?_
  unfold Builtin.Frozenset.updateFrom
  refine wpAny_bind ?_
  have hTl : ∀ {g : Array GenState} {d : Drawn} {tk : Nat} {os : OsState}, Shared.TypeIs { heap := s.heap.push { cls := Value.type "set", data := Data.set #[] 0 (SetTable.fresh 0 0 led) }, gens := g, drawn := d, toks := tk, os := os } (.ref l) "list" := ⟨_, hol', rfl⟩
  unfold Builtin.Frozenset.isAnySet
  refine wpAny_bind (wpAny_isInstance hTl F.sub_list_set ?_)
  refine wpAny_isInstance hTl F.sub_list_frozenset ?_
  rw [if_neg (by exact Bool.false_ne_true)]
  refine wpAny_bind (wpAny_typeOf hTl ?_)
  rw [if_neg (by exact Bool.false_ne_true)]
  refine wpAny_bind (wpAny_pyIter_list hl1 ?_)
  refine wpAny_bind (wpAny_runValue ?_)
  have hlS : l < s.heap.objs.size := Heap.lt_size hol
  have hsz : (s.heap.push { cls := Value.type "set", data := Data.set #[] 0 (SetTable.fresh 0 0 led) }).objs.size = s.heap.objs.size + 1 := Heap.size_push ..
  have hneI : l ≠ (s.heap.push { cls := Value.type "set", data := Data.set #[] 0 (SetTable.fresh 0 0 led) }).objs.size := by
    rw [hsz]; exact Nat.ne_of_lt (Nat.lt_succ_of_lt hlS)
  have hSf : s.heap.objs.size ∉ [(s.heap.push { cls := Value.type "set", data := Data.set #[] 0 (SetTable.fresh 0 0 led) }).objs.size, l] := by
    rw [hsz]; simp only [List.mem_cons, List.not_mem_nil, or_false]
    exact fun z => z.elim (Nat.ne_of_lt (Nat.lt_succ_self s.heap.objs.size)) (Nat.ne_of_gt hlS)
  have hget := Heap.get?_push_of_some (o := { cls := Value.type "list_iterator", data := Data.fields #[Value.ref l, Value.int 0 0] }) hS
  refine set_loopK (knd := knd) (Walks.toS (Walks.list (by exact hh) (s.heap.push { cls := Value.type "set", data := Data.set #[] 0 (SetTable.fresh 0 0 led) }).objs.size l hneI items)) s.heap.objs.size hSf val hi hb (items.size - 0) 0 _ (by omega) (Nat.zero_le _) ⟨⟨_, Heap.get?_push_size _ rfl, rfl, rfl⟩, Heap.IsList.push hl1 _⟩ (Obj.SetObjOf.setOf (setObjOf_fresh led) hget (show 0 < scanBound by decide)) fun s' hm hS' => ?_
  obtain ⟨h', g', d', tk', os'⟩ := s'
  have eg := hm.gens
  have ed := hm.drawn
  have eo := hm.os
  dsimp only at eg ed eo hS'
  subst eg; subst ed; subst eo
  refine wpAny_pure (wpAny_pure (h h' tk' hS' fun b o hb e => ?_))
  refine hm.heap b o ?_ (Heap.get?_push_of_some _ (Heap.get?_push_of_some _ e))
  rw [hsz]; simp only [List.mem_cons, List.not_mem_nil, or_false]
  exact fun z => z.elim (fun z => absurd (show (b : Nat) = s.heap.objs.size from z) (by omega)) fun z => absurd (show (b : Nat) = s.heap.objs.size + 1 from z) (by omega)
theorem call_set_listK {A : Around} {E : Value → Shared → Prop} {s : Shared} {l : Addr} {items : Array Value} {val : Nat → κ} {Q : Value → Shared → Prop} (hh : A.handled = none) (hl : s.heap.IsList l items)
    (hi : ∀ i v, items[i]? = some v → knd.is (val i) v = true ∧ v.scannable = true) (hb : items.size + 1 < scanBound)
    (h : ∀ (h' : Heap) (tk : Nat), Heap.SetOf knd h' s.heap.objs.size (memU val items.size) (cntU val items.size) → (∀ (b : Nat) (o : Obj), b < s.heap.objs.size → s.heap.get? b = some o → h'.get? b = some o) →
      Q (.ref s.heap.objs.size) { heap := h', gens := s.gens, drawn := s.drawn, toks := tk, os := s.os }) :
    wpAny (model prog w) A (call (.type "set") [.ref l]) Q E s := by
  obtain ⟨c, tl, hmro⟩ := F.called_set.mro
  have hmade := F.called_set.made
  have hsub := F.called_set.sub
  refine wpAny_call (codeAny_of_tree (wpAny_pure ⟨Code.quiet_builtin _ (by decide +kernel), codeAny_builtin F.entry_type_call ?_⟩))
  rw [Around.under_plain (weight_type_call_type "set" [Value.ref l] []) rfl]
  have h1 := F.called_set.notType
  have h2 := F.called_set.canCreate
  have hct := F.typeCall_set_1 (Value.ref l)
  unfold Builtin.«type.__call__»
  dsimp only
  rw [if_neg (by rw [h1]; exact Bool.false_ne_true), if_neg (by rw [h2]; exact Bool.false_ne_true)]
  refine wpAny_bind (wpAny_of_eq hct ?_)
  refine wpAny_bind (wpAny_of_eq hmro ?_)
  rw [if_neg (by exact Bool.false_ne_true)]
  refine wpAny_bind (wpAny_of_eq hmade ?_)
  refine wpAny_bind (wpAny_pure ?_)
  refine wpAny_bind (wpAny_holding (wpAny_call (codeAny_mono (code_set_new_1 (.ref l) (Q₁ := fun obj s₁ => ∃ led, obj = .ref s.heap.objs.size ∧ s₁ = { heap := s.heap.push { cls := .type "set", data := .set #[] 0 (SetTable.fresh 0 0 led) }, gens := s.gens, drawn := s.drawn, toks := s.toks, os := s.os }) (E := E) fun led => ⟨led, rfl, rfl⟩) fun r s₁ hr => ?_)))
  match r, hr with
  | .error e, hr => exact hr
  | .ok .next, hr => exact hr.elim
  | .ok .brk, hr => exact hr.elim
  | .ok .cont, hr => exact hr.elim
  | .ok (.ret obj), hr =>
    obtain ⟨led, e1, e2⟩ := hr
    subst e1; subst e2
    have hS := Heap.get?_push_size s.heap (o := { cls := Value.type "set", data := Data.set #[] 0 (SetTable.fresh 0 0 led) }) rfl
    have hT : Shared.TypeIs { heap := s.heap.push { cls := Value.type "set", data := Data.set #[] 0 (SetTable.fresh 0 0 led) }, gens := s.gens, drawn := s.drawn, toks := s.toks, os := s.os } (.ref s.heap.objs.size) "set" := ⟨_, hS, rfl⟩
    have hli := F.called_set.init.lookup
    have hbi := F.called_set.init.bind (.ref s.heap.objs.size)
    refine wpAny_bind (wpAny_isInstance hT hsub ?_)
    rw [if_neg (by exact Bool.false_ne_true)]
    refine wpAny_bind (wpAny_holding ?_)
    unfold callSpecial?
    refine wpAny_bind (wpAny_specialOf hT hli ?_)
    dsimp only
    refine wpAny_holding (wpAny_bind (wpAny_of_eq hbi ?_))
    refine wpAny_bind (wpAny_call (codeAny_mono (set_init_listK (knd := knd) (val := val) (Q := fun v s2 => v = .none ∧ ∃ h' tk, s2 = { heap := h', gens := s.gens, drawn := s.drawn, toks := tk, os := s.os } ∧ Heap.SetOf knd h' s.heap.objs.size (memU val items.size) (cntU val items.size) ∧ ∀ (b : Nat) (o : Obj), b < s.heap.objs.size → s.heap.get? b = some o → h'.get? b = some o) (E := E) hh hl hi hb led fun h' tk a b => ⟨rfl, h', tk, rfl, a, b⟩) fun r₂ s₂ hr₂ => ?_))
    match r₂, hr₂ with
    | .error e, hr => exact hr
    | .ok .next, hr => exact hr.elim
    | .ok .brk, hr => exact hr.elim
    | .ok .cont, hr => exact hr.elim
    | .ok (.ret obj), hr =>
      obtain ⟨e1, h', tk, e2, hs, hk⟩ := hr
      subst e1; subst e2
      refine wpAny_pure ?_
      dsimp only
      rw [if_neg (by exact Bool.false_ne_true)]
      exact wpAny_pure (h h' tk hs hk)
end
/-- how many unlike keys -/
def dst (ks : List Key) : Nat := cntU (fun i => ks.getD i (.inl 0)) ks.length
theorem dst_le (ks : List Key) : dst ks ≤ ks.length := cntU_le _ _
theorem dst_iff (ks : List Key) : dst ks = ks.length ↔ ks.Nodup := by
  unfold dst
  rw [cntU_iff, List.Nodup, List.pairwise_iff_getElem]
  constructor
  · intro h i j hi hj hij e
    refine h i j hij hj ?_
    rw [List.getD_eq_getElem?_getD, List.getD_eq_getElem?_getD, List.getElem?_eq_getElem hi, List.getElem?_eq_getElem hj]
    simpa using e
  · intro h a b hab hb e
    refine h a b (by omega) hb hab ?_
    rw [List.getD_eq_getElem?_getD, List.getD_eq_getElem?_getD, List.getElem?_eq_getElem (by omega), List.getElem?_eq_getElem hb] at e
    simpa using e
theorem vals_at {vs : List V} {us : List Value} (r : Vals vs us) {i : Nat} {u : Value} (e : us[i]? = some u) : ∃ x, vs[i]? = some x ∧ RelV x u := by
  have hi : i < vs.length := by rw [r.length]; exact (List.getElem?_eq_some_iff.mp e).1
  obtain ⟨u', e', rx⟩ := r.get (List.getElem?_eq_getElem hi)
  rw [e] at e'
  cases e'
  exact ⟨_, List.getElem?_eq_getElem hi, rx⟩
def tLenSetK (K : PySem.W.Frag) (ta : TE) : TE := fun σ H Q => ta σ H fun x H1 => ∃ l ks, x = V.ref l ∧ SqL K H1 l (ks.map kV) ∧ ks.length + 1 < 4096 ∧ Q (.int (dst ks)) H1
theorem pe_lenSetK {X : Cx} {k : Nat} {a : Expr} {ta : TE} {p p2 q pos : Pos} (hr : RoomG k X.A) (hg : Gl X "len") (hm : X.mg "len" = none) (hg2 : Gl X "set") (hm2 : X.mg "set" = none) (ha : PE X a ta) (na : starEach [a] X.env = (false, eval a X.env) :: starEach [] X.env) :
    PE X (.Call (.Name "len" p) [.Call (.Name "set" p2) [a] [] q] [] pos) (tLenSetK X.K ta) := by
  refine ⟨fun pins s σ H Q I h => Call_ (ld_blt I hg hm boot_len (PyProof.Rows.callWith_builtin1 (args_cons (Call_ (ld_blt I hg2 hm2 boot_set (PyProof.Rows.callWith_type1 (args_cons (thn (ha.run pins s σ H _ I h) fun v s1 x => ?_) na) na rfl) (by decide) (by decide)) rfl) rfl) rfl rfl) (by decide) (by decide)) rfl⟩
  obtain ⟨x, H1, I1, r1, l, ks, e, hq, hz, q1⟩ := x
  subst e
  cases (show v = Value.ref l from r1)
  refine args_nil ?_
  obtain ⟨its, r, pl, _⟩ := I1.list hq
  have hl : its.length = ks.length := by rw [← r.length, List.length_map]
  refine call_set_listK (knd := mixKind X.prog X.w) (val := fun i => ks.getD i (.inl 0)) hr.hd pl.isList (fun i v e => ?_) (by rw [List.size_toArray, hl]; exact hz) fun h' tk hS hk => ?_
  · rw [List.getElem?_toArray] at e
    obtain ⟨x, ex, rx⟩ := vals_at r e
    rw [List.getElem?_map] at ex
    obtain ⟨kk, ek, e2⟩ := Option.map_eq_some_iff.mp ex
    rw [List.getD_eq_getElem?_getD, ek]
    subst e2
    cases kk with
    | inl i => obtain ⟨t, rfl⟩ := rx; exact ⟨by simp [mixKind, keyIs, Value.isInt], rfl⟩
    | inr i => obtain ⟨t, rfl⟩ := rx; exact ⟨by simp [mixKind, keyIs, Value.isStrOf], rfl⟩
  · refine args_nil ?_
    have I2 := I1.kept (h' := h') (t' := tk) fun b o e => hk b o (Heap.lt_size e) e
    obtain ⟨o, es, ep, t, ho, hex, hd, _, _, hsz, hf, hn⟩ := hS
    have hn' : es.size = dst ks := by rw [hn]; unfold dst; rw [List.size_toArray, hl]
    refine call_len_set ho hex hd hf (by have := dst_le ks; rw [hn']; omega) ⟨.int (dst ks), H1, I2.tok _, ⟨_, by rw [hn']⟩, q1⟩
def keyD : Key → D
  | .inl i => .int i
  | .inr x => .str x
def asKs : List D → Option (List Key)
  | [] => some []
  | d :: r => match toKey d, asKs r with
    | some k, some ks => some (k :: ks)
    | _, _ => none
theorem asKs_reps {K : PySem.W.Frag} {H : Hp} : ∀ {ds : List D} {ks : List Key} {vs : List V}, asKs ds = some ks → Reps K H vs ds → vs = ks.map kV
  | [], _, _, e, r => by cases e; cases r; rfl
  | d :: ds, ks, _, e, r => by
    cases r with
    | cons h t =>
      unfold asKs at e
      split at e
      · rename_i k ks' e1 e2
        cases e
        rw [key_rep h e1, asKs_reps e2 t, List.map_cons]
      · cases e
theorem asKs_len : ∀ {ds : List D} {ks : List Key}, asKs ds = some ks → ks.length = ds.length
  | [], _, e => by cases e; rfl
  | d :: ds, ks, e => by
    unfold asKs at e
    split at e
    · rename_i k ks' e1 e2
      cases e
      rw [List.length_cons, List.length_cons, asKs_len e2]
    · cases e
theorem asKs_strs : ∀ xs : List Str, asKs (xs.map .str) = some (xs.map .inr)
  | [] => rfl
  | x :: xs => by
    unfold asKs
    rw [List.map_cons]
    dsimp only [toKey]
    rw [asKs_strs xs]
    rfl
/-- the items of a list -/
def itmD (S : Sto) : D → Option (List D)
  | .fl ds => some ds
  | .ref p => match S p with
    | some (.lst ds) => some ds
    | _ => none
  | _ => none
theorem itmD_rep {K : PySem.W.Frag} {S : Sto} {H : Hp} {v : V} {d : D} {ds : List D} (rs : SRep K S H) (r : Rep K H v d) (e : itmD S d = some ds) : ∃ l vs, v = .ref l ∧ SqL K H l vs ∧ Reps K H vs ds := by
  cases r with
  | @fl a vs ds' h r => cases e; exact ⟨a, vs, rfl, h.sq, r⟩
  | ref a =>
    unfold itmD at e
    dsimp only at e
    split at e
    · rename_i ds' e1
      cases e
      obtain ⟨vs, e2, r2⟩ := rs _ _ e1
      exact ⟨a, vs, rfl, .inl (.inl e2), r2⟩
    · cases e
  | _ => cases e
def eLenSet (fe : DE) : DE := fun σ S Q => fe σ S fun d S1 => ∃ ds ks, itmD S1 d = some ds ∧ asKs ds = some ks ∧ ks.length + 1 < 4096 ∧ Q (.int (dst ks)) S1
theorem c_lenSet {X : Cx} {k : Nat} {a : Expr} {fe : DE} {p p2 q pos : Pos} (hr : RoomG k X.A) (hm : X.mg "len" = none) (hm2 : X.mg "set" = none) (ha : CE X a fe) (hg : Gl X "len" := by rfl) (hg2 : Gl X "set" := by rfl)
    (na : starEach [a] X.env = (false, eval a X.env) :: starEach [] X.env := by rfl) : CE X (.Call (.Name "len" p) [.Call (.Name "set" p2) [a] [] q] [] pos) (eLenSet fe) := by
  obtain ⟨ta, ha, sa⟩ := ha
  refine ⟨_, pe_lenSetK hr hg hm hg2 hm2 ha na, fun σ S Q sv H Kt re rs q k => sa σ S _ sv H _ re rs q fun v d S1 H1 s1 r1 v1 q1 => ?_⟩
  obtain ⟨ds, ks, e1, e2, hz, q1⟩ := q1
  obtain ⟨l, vs, e3, e4, e5⟩ := itmD_rep r1 v1 e1
  rw [asKs_reps e2 e5] at e4
  exact ⟨l, ks, e3, e4, hz, k _ _ S1 H1 s1 r1 (.int _) q1⟩
end DL
namespace DL
open PySem PySem.Spec PyProof.Rows L2
/-! ### xs[::-1] of a list or a tuple -/
theorem adjust_rev (n : Nat) : Builtin.Slice.sliceAdjust none none (-1) (n : Int) = ((n : Int) - 1, -1) := by
  unfold Builtin.Slice.sliceAdjust
  simp
theorem places_rev (n : Nat) : Builtin.Slice.slicePlaces ((n : Int) - 1) (-1) (-1) = n := by
  unfold Builtin.Slice.slicePlaces
  simp
  split <;> omega
theorem sliceApplied_rev {prog : Program} {w : World} {A : Around} {E : Value → Shared → Prop} {s : Shared} {sl : Addr} {n : Nat} {u : Tok} {Q : Int × Int × Nat → Shared → Prop} (hs : s.heap.IsSliceOf sl .none .none (.int (-1) u)) (h : Q ((n : Int) - 1, -1, n) s) :
    wpAny (model prog w) A (Builtin.Slice.sliceApplied (.ref sl) (pure (n : Int))) Q E s := by
  obtain ⟨os, hos, hcs, hds⟩ := hs
  unfold Builtin.Slice.sliceApplied
  refine wpAny_bind ?_
  unfold Builtin.Slice.sliceFields
  refine wpAny_bind (wpAny_field hos hds rfl (wpAny_bind (wpAny_field hos hds rfl (wpAny_bind (wpAny_field hos hds rfl (wpAny_pure ?_))))))
  refine wpAny_bind (slicePart_int ?_)
  dsimp only
  rw [if_neg (by decide)]
  refine wpAny_bind (slicePart_none (wpAny_bind (slicePart_none (wpAny_bind (wpAny_pure ?_)))))
  rw [show (some (-1 : Int)).getD 1 = -1 from rfl, adjust_rev]
  dsimp only
  rw [places_rev]
  exact wpAny_pure h
theorem pick_rev (xs : Array Value) : (List.filterMap (fun k : Nat => xs[((xs.size : Int) - 1 + (k : Int) * -1).toNat]?) (List.range xs.size)).toArray = xs.toList.reverse.toArray := by
  congr 1
  have h : ∀ k, k < xs.size → xs[((xs.size : Int) - 1 + (k : Int) * -1).toNat]? = some (xs.toList.reverse.getD k .none) := by
    intro k hk
    have e : ((xs.size : Int) - 1 + (k : Int) * -1).toNat = xs.size - 1 - k := by omega
    rw [e, ← Array.getElem?_toList, List.getD_eq_getElem?_getD, List.getElem?_reverse (by simpa using hk), Array.length_toList]
    rw [List.getElem?_eq_getElem (by simp; omega)]
    rfl
  have h2 : List.filterMap (fun k : Nat => xs[((xs.size : Int) - 1 + (k : Int) * -1).toNat]?) (List.range xs.size) = (List.range xs.size).map fun k => xs.toList.reverse.getD k .none := by
    have h3 : ∀ (l : List Nat), (∀ k ∈ l, k < xs.size) → List.filterMap (fun k : Nat => xs[((xs.size : Int) - 1 + (k : Int) * -1).toNat]?) l = l.map fun k => xs.toList.reverse.getD k .none := by
      intro l
      induction l with
      | nil => intro _; rfl
      | cons a l ih => intro hl; rw [List.filterMap_cons, h a (hl a (by simp)), List.map_cons, ih fun k hk => hl k (by simp [hk])]
    exact h3 _ fun k hk => List.mem_range.mp hk
  rw [h2]
  refine List.ext_getElem? fun i => ?_
  by_cases hi : i < xs.size
  · rw [List.getElem?_map, List.getElem?_range hi]
    simp only [Option.map_some]
    rw [List.getD_eq_getElem?_getD, List.getElem?_eq_getElem (by simpa using hi)]
    rfl
  · rw [List.getElem?_eq_none (by simp; omega), List.getElem?_eq_none (by simp; omega)]
theorem getItem_tuple_rev {prog : Program} {w : World} {A : Around} {E : Value → Shared → Prop} {s : Shared} {t sl : Addr} {items : Array Value} {u : Tok} {Q : Value → Shared → Prop} (ht : IsTup s.heap t items) (hs : s.heap.IsSliceOf sl .none .none (.int (-1) u))
    (h : Q (.ref s.heap.objs.size) { heap := s.heap.push { cls := .type "tuple", data := .seq items.toList.reverse.toArray }, gens := s.gens, drawn := s.drawn, toks := s.toks, os := s.os }) (hsz : items.size ≤ sizeLine) :
    wpAny (model prog w) A (getItem (.ref t) (.ref sl)) Q E s := by
  obtain ⟨os, hos, hcs, hds⟩ := hs
  have hs : s.heap.IsSliceOf sl .none .none (.int (-1) u) := ⟨os, hos, hcs, hds⟩
  have hTs : s.TypeIs (.ref sl) "slice" := ⟨os, hos, hcs⟩
  unfold getItem
  refine wpAny_holding (wpAny_bind (wpAny_sequenceKey (IsTup.typeIs ht) (by decide) (wpAny_bind (wpAny_callSpecial?_slot (IsTup.typeIs ht) slot_tuple_getitem (wpAny_call_entry slot_tuple_getitem (IsTup.typeIs ht) entry_tuple_getitem ?_ (args_tuple_getitem (.ref t) (.ref sl)))))))
  unfold Builtin.«tuple.__getitem__»
  refine wpAny_bind ?_
  unfold slotArgs
  dsimp only
  rw [if_neg (by decide), if_neg (by exact Bool.false_ne_true)]
  refine wpAny_pure ?_
  dsimp only
  refine wpAny_bind (tupleItemsOf_ ht ?_)
  refine wpAny_bind (wpAny_typeOf hTs ?_)
  rw [if_pos (by decide)]
  refine wpAny_bind (sliceApplied_rev hs ?_)
  dsimp only
  have hn : ¬ (((items.size : Int) - 1 == 0 && (-1 : Int) == 1 && items.size == items.size) = true) := by simp
  rw [if_neg hn, pick_rev]
  unfold Builtin.Tuple.tupleExact
  refine wpAny_bind (wpAny_newObj_type (wpAny_pure ⟨.ref s.heap.objs.size, rfl, wpAny_pure h⟩) (by show items.toList.reverse.toArray.size ≤ sizeLine; simpa using hsz))
def tRevA (K : PySem.W.Frag) (te : TE) : TE := fun σ H Q => te σ H fun x H1 => (∃ a xs, x = V.ref a ∧ SqL K H1 a xs ∧ ∀ p, H1 p = none → Q (.ref p) (upd H1 p (.lst xs.reverse))) ∨ (∃ a xs, x = V.ref a ∧ SqT K H1 a xs ∧ ∀ p, H1 p = none → Q (.ref p) (upd H1 p (.tup xs.reverse)))
theorem pe_revA {X : Cx} {e : Expr} {te : TE} {k : Nat} {p1 p2 p3 pos : Pos} (he : PE X e te) : PE X (e.Subscript (.Slice none none (some (.UnaryOp .USub (.Constant (.int 1) k p1) p2)) p3) pos) (tRevA X.K te) := by
  refine ⟨fun pins s σ H Q I h => Subscript_ (thn (he.run pins s σ H _ I h) fun v s1 x => ?_)⟩
  obtain ⟨x1, H1, I1, r1, q1⟩ := x
  have hst := po_some (X := X) (pe_un (op := .USub) (pos := p2) un_neg (pe_int (X := X) (i := 1) (j := k) (pos := p1)))
  have hx : ∃ a, x1 = V.ref a := by rcases q1 with ⟨a, _, e, _⟩ | ⟨a, _, e, _⟩ <;> exact ⟨a, e⟩
  obtain ⟨a, ex⟩ := hx
  subst ex
  cases (show v = Value.ref a from r1)
  refine wpAny_Slice (thn (po_none.run pins s1 σ H1 (fun o H2 => o = none ∧ H2 = H1) I1 ⟨rfl, rfl⟩) fun vl s2 x => ?_)
  obtain ⟨l, H2, I2, pl, el, e2⟩ := x
  subst el; subst e2
  refine thn (po_none.run pins s2 σ H2 (fun o H3 => o = none ∧ H3 = H2) I2 ⟨rfl, rfl⟩) fun vu s3 x => ?_
  obtain ⟨l, H3, I3, pu, el, e3⟩ := x
  subst el; subst e3
  refine thn (hst.run pins s3 σ H3 (fun o H4 => o = some (-1) ∧ H4 = H3) I3 ⟨1, rfl, -1, rfl, rfl, rfl⟩) fun vs s4 x => ?_
  obtain ⟨l, H4, I4, ps, el, e4⟩ := x
  subst el; subst e4
  cases pl; cases pu; cases ps with
  | int _ u =>
  have I5 := I4.kept (t' := s4.toks) fun b ob q => Heap.get?_push_of_some (o := { cls := Value.type "slice", data := Data.fields #[.none, .none, .int (-1) u] }) q
  rcases q1 with ⟨a', xs, e, hx, q⟩ | ⟨a', xs, e, hx, q⟩
  · cases e
    obtain ⟨its, r, ht, hz⟩ := I5.list hx
    have hlen := r.length
    refine tail_any (Heap.IsList.typeIs ht.isList) slot_list_getitem.lookup (wpAny_getItem_list_slice ht.isList (Heap.IsSliceOf.new s4.1 .none .none (.int (-1) u)) .none .none (.int (-1) u) (by decide) ?_ (by rw [List.size_toArray, ← hlen]; exact hz)) rfl
    rw [PySem.W.krv_pick]
    refine ⟨.ref _, upd H4 _ (.lst xs.reverse), I5.laid (fun b ob q => Heap.get?_push_of_some _ q) (Nat.le_refl _) ⟨by rw [List.length_reverse]; exact hz, its.reverse, 0, r.reverse, Heap.get?_push_size _ rfl⟩, rfl, q _ (I5.hok.fresh (Nat.le_refl _))⟩
  · cases e
    obtain ⟨its, r, ht, hz⟩ := I5.tuple hx
    have hlen := r.length
    refine tail_any (IsTup.typeIs ht) slot_tuple_getitem.lookup (getItem_tuple_rev ht (Heap.IsSliceOf.new s4.1 .none .none (.int (-1) u)) ?_ (by rw [List.size_toArray, ← hlen]; exact hz)) rfl
    refine ⟨.ref _, upd H4 _ (.tup xs.reverse), I5.laid (fun b ob q => Heap.get?_push_of_some _ q) (Nat.le_refl _) ⟨by rw [List.length_reverse]; exact hz, its.reverse, r.reverse, ?_⟩, rfl, q _ (I5.hok.fresh (Nat.le_refl _))⟩
    exact ⟨_, Heap.get?_push_size _ rfl, rfl, 0, rfl⟩
def eRev (fe : DE) : DE := fun σ S Q => fe σ S fun d S1 => match d with
  | .tup ds => Q (.tup ds.reverse) S1
  | d => ∃ ds, itmD S1 d = some ds ∧ ∀ q, S1 q = none → Q (.ref q) (updS S1 q (.lst ds.reverse))
theorem c_rev {X : Cx} {e : Expr} {fe : DE} {k : Nat} {p1 p2 p3 pos : Pos} (he : CE X e fe) : CE X (e.Subscript (.Slice none none (some (.UnaryOp .USub (.Constant (.int 1) k p1) p2)) p3) pos) (eRev fe) := by
  obtain ⟨te, he, se⟩ := he
  refine ⟨_, pe_revA he, fun σ S Q sv H Kt re rs q kk => se σ S _ sv H _ re rs q fun v d S1 H1 s1 r1 v1 q1 => ?_⟩
  have lst : ∀ ds, itmD S1 d = some ds → (∀ q, S1 q = none → Q (.ref q) (updS S1 q (.lst ds.reverse))) → (∃ a xs, v = V.ref a ∧ SqL X.K H1 a xs ∧ ∀ p, H1 p = none → Kt (.ref p) (upd H1 p (.lst xs.reverse))) := by
    intro ds e1 q
    obtain ⟨l, vs, e3, e4, e5⟩ := itmD_rep r1 v1 e1
    refine ⟨l, vs, e3, e4, fun p hp => ?_⟩
    obtain ⟨s2, r2⟩ := stp_new (o := .lst ds.reverse) (ho := .lst vs.reverse) r1 hp ⟨vs.reverse, upd_same, (e5.mono (tx_new hp)).reverse⟩
    exact kk _ _ _ _ (s1.trans s2) r2 (.ref p) (q p (r1.free hp))
  cases v1 with
  | @tup a vs ds h r =>
    refine .inr ⟨a, vs, rfl, h, fun p hp => ?_⟩
    obtain ⟨s2, r2⟩ := stp_tup (vs := vs.reverse) r1 hp
    exact kk _ _ _ _ (s1.trans s2) r2 (.tup (.inl (.inl (upd_same))) (r.mono (tx_new hp)).reverse) q1
  | _ => exact .inl (let ⟨ds, e, q⟩ := q1; lst ds e q)
/-- str of a text or of a number -/
def gStr2 : GN := fun xs S Q => match xs with
  | [.int i] => i.natAbs.log2 < 1920 ∧ Q (.str (Str.ofString (toString i))) S
  | [.str z] => Q (.str z) S
  | _ => False
theorem y_str2 {X : Cx} : CY X "str" gStr2 := by
  refine ⟨_, L2.CallR.or call_str_int SkE.call_str_str, fun xs as S H Q Kt s r q k => ?_⟩
  match as, q with
  | [.int i], q =>
    obtain ⟨v, rfl, rv⟩ := reps1 r
    cases rv
    exact .inl ⟨i, rfl, q.1, k.now s (.str _) q.2⟩
  | [.str i], q =>
    obtain ⟨v, rfl, rv⟩ := reps1 r
    cases rv
    exact .inr ⟨i, rfl, k.now s (.str _) q⟩
end DL
namespace DL
open PySem PySem.Spec PyProof.Rows L2
/-! ### sorted of a list or of a tuple of data -/
section
open PySem.W
/-- sorted(xs), where the data are told by enc -/
def rSD (K : PySem.W.Frag) : List V → Hp → VK → Prop := fun vs H Q => ∃ (a : Addr) (xs : List V) (ds : List D) (S : Sto) (kd : D → PyData), vs = [V.ref a] ∧ (SqL K H a xs ∨ SqT K H a xs) ∧ Reps K H xs ds ∧ SRep K S H ∧
  (∀ d ∈ ds, PD S d (kd d)) ∧ AllAlike (ds.map kd) ∧ Sortable (ds.map kd) ∧ (∀ d ∈ ds, (kd d).depth ≤ 32) ∧
  ∀ (p : Addr) (ys : List V), H p = none → Reps K H ys (ds.mergeSort (dataLe false kd)) → Q (.ref p) (upd H p (.lst ys))
theorem each_dp {X : Cx} {pins : List (Addr × Obj)} {σ : L2.St} {H : Hp} {s : Shared} {S : Sto} (I : Inv X pins σ H s) (rs : SRep X.K S H) {kd : D → PyData} : ∀ {ds : List D} {xs : List V} {us : List Value}, (∀ d ∈ ds, PD S d (kd d)) → Reps X.K H xs ds → Vals xs us → EachIs (fun v d => ∃ as, Reads s.heap v (kd d) as) us ds
  | [], _, _, _, .nil, e => by cases e; exact .nil
  | d :: ds, _, _, h, .cons h1 r1, e => by
    cases e with
    | cons e1 e2 =>
      refine .cons ?_ (each_dp I rs (fun x hx => h x (List.mem_cons_of_mem _ hx)) r1 e2)
      exact (PD.dp rs (h d (by simp)) h1).reads I _ _ _ e1
theorem cr_sorted2 {X : Cx} {k : Nat} (hr : RoomG k X.A) : CallR X (.builtin "sorted") (rSD X.K) := by
  intro pins s σ H vs us Q I r h
  obtain ⟨a, xs, ds, S, kd, rfl, hs, rp, rs, hpd, hal, hso, hd, q⟩ := h
  obtain rfl := Vals.ref1 r
  have main : ∀ (T : String) (o : Obj) (its : List Value) (n : Nat), T = "list" ∨ T = "tuple" → s.heap.get? a = some o → o.cls = .type T → o.data = .seq its.toArray n → Vals xs its → xs.length ≤ sizeLine → wpAny (model X.prog X.w) X.A (call (.builtin "sorted") [.ref a]) (EP X pins σ Q) X.xe s := by
    intro T o its n hT ho hc hdt rv hz
    have hlen := rv.length
    have ei := each_of rp rv
    have er := each_dp I rs hpd rp rv
    refine call_function_entry_kw kind_sorted plain_sorted entry_sorted (args_sorted1 (.ref a)) ?_
    unfold Builtin.sorted
    refine wpAny_bind ?_
    unfold checkCount
    dsimp only
    rw [if_neg (by exact Bool.false_ne_true), if_neg (by exact Nat.lt_irrefl 1), if_neg (by exact Nat.lt_irrefl 1)]
    refine wpAny_pure ?_
    have hsz : its.length ≤ sizeLine := by rw [← hlen]; exact hz
    refine wpAny_bind (wpAny_collect_seq a hT ho hc hdt (fun h1 k1 => ?_) (by simpa using hsz))
    have I1 := I.kept (h' := h1) (t' := s.toks) k1
    refine wpAny_bind (wpAny_newList ?_ (by simpa using hsz))
    have hat : (h1.push { cls := Value.type "list", data := Data.seq its.toArray }).get? h1.objs.size = some (seqObj "list" its.toArray 0) := Heap.get?_push_size h1 rfl
    have k2 : ∀ b o, h1.get? b = some o → (h1.push { cls := Value.type "list", data := Data.seq its.toArray }).get? b = some o := fun b o e => Heap.get?_push_of_some _ e
    refine wpAny_bind (wpAny_holding (wpAny_call_entry_kw slot_list_sort ⟨_, hat, rfl⟩ entry_list_sort ?_ (args_list_sort (.ref h1.objs.size))))
    have hne : ∀ b o, h1.get? b = some o → b ≠ h1.objs.size := fun b o e z => by
      have := Heap.lt_size e
      rw [z] at this
      exact Nat.lt_irrefl _ this
    have er2 : EachIs (fun v d => ∃ as, Reads (sortingHeap (h1.push { cls := Value.type "list", data := Data.seq its.toArray }) h1.objs.size its) v (kd d) as) its ds :=
      er.mono fun v d ⟨as, x⟩ => ⟨as, PyProof.Rows.Reads.keeps (fun b o e => sortingHeap_old (hne b o (k1 b o e)) (k2 b o (k1 b o e))) x⟩
    refine list_sort_vals hat (SortsAt.data (each_map kd er2) hal hso (bound_map fun d hd2 => ?_)) hsz ⟨.none, rfl, wpAny_pure ⟨.ref h1.objs.size, rfl, ?_⟩⟩
    · have := hd d hd2
      have := hr.un
      show X.A.units + 1 + 1 + _ < _
      omega
    · have eo := sortVals_data false ei er2 hal
      obtain ⟨ys, yv, yr⟩ := of_each eo
      have np : H h1.objs.size = none := I1.hok.fresh (Nat.le_refl _)
      have ys_len : ys.length ≤ sizeLine := by
        have h1 := yv.length
        have h2 := eo.length
        have h3 := ei.length
        rw [List.length_mergeSort] at h2
        omega
      obtain ⟨ep, he⟩ := sortedHeap_at (out := (sortVals (dataKind (sortingHeap (h1.push { cls := Value.type "list", data := Data.seq its.toArray }) h1.objs.size its) (ds.map kd)) false its its).toArray) (vs := its) hat
      refine ⟨.ref _, _, I1.laid (a := h1.objs.size) (o := .lst ys) (fun b u e => ?_) (Nat.le_refl _) ⟨ys_len, _, ep, yv, he⟩, rfl, q _ ys np yr⟩
      rw [sortedHeap_old (hne b u e) (Nat.lt_trans (Heap.lt_size e) (by rw [Heap.size_push]; exact Nat.lt_succ_self _))]
      exact k2 b u e
  rcases hs with hs | hs
  · obtain ⟨its, rv, pl, hz⟩ := I.list hs
    obtain ⟨o, ho, hc, n, hd⟩ := pl.isList
    exact main "list" o its n (.inl rfl) ho hc hd rv hz
  · obtain ⟨its, rv, ⟨o, ho, hc, n, hd⟩, hz⟩ := I.tuple hs
    exact main "tuple" o its n (.inr rfl) ho hc hd rv hz
/-- sorted of data, by themselves -/
def gSorted2 : GN := fun xs S Q => ∃ d ds kd, xs = [d] ∧ (itmD S d = some ds ∨ d = .tup ds) ∧ (∀ x ∈ ds, PD S x (kd x)) ∧ AllAlike (ds.map kd) ∧ Sortable (ds.map kd) ∧ (∀ x ∈ ds, (kd x).depth ≤ 32) ∧
  ∀ n, S n = none → Q (.ref n) (updS S n (.lst (ds.mergeSort (dataLe false kd))))
theorem b_sorted2 {X : Cx} {k : Nat} (hr : RoomG k X.A) : CB X "sorted" gSorted2 := ⟨rSD X.K, cr_sorted2 hr, fun xs as S H Q Kt rs rv q kk => by
  obtain ⟨d, ds, kd, e, hi, hp, hal, hso, hd, q⟩ := q
  subst e
  cases rv with
  | cons h1 t1 =>
    cases t1
    have fin : ∀ l vs, (SqL X.K H l vs ∨ SqT X.K H l vs) → Reps X.K H vs ds → rSD X.K [V.ref l] H Kt := fun l vs hs r => by
      refine ⟨l, vs, ds, S, kd, rfl, hs, r, rs, hp, hal, hso, hd, fun p ys np ry => ?_⟩
      obtain ⟨st, sr⟩ := stp_new (o := .lst (ds.mergeSort (dataLe false kd))) (ho := .lst ys) rs np ⟨ys, upd_same, ry.mono (tx_new np)⟩
      exact kk _ _ _ _ st sr (.ref p) (q p (rs.free np))
    rcases hi with hi | hi
    · obtain ⟨l, vs, e3, e4, e5⟩ := itmD_rep rs h1 hi
      subst e3
      exact fin l vs (.inl e4) e5
    · subst hi
      cases h1 with
      | @tup a vs ds' h r => exact fin a vs (.inr h) r⟩
end
end DL
namespace DL
open PySem PySem.Spec PyProof.Rows L2
/-- sorted: numbers, texts, data -/
def gSortedA : GN := fun xs S Q => gSorted xs S Q ∨ gSorted2 xs S Q
theorem b_sortedA {X : Cx} {k : Nat} (hr : RoomG k X.A) : CB X "sorted" gSortedA := by
  obtain ⟨r1, h1, s1⟩ := b_sorted (X := X)
  obtain ⟨r2, h2, s2⟩ := b_sorted2 hr
  exact ⟨_, L2.CallR.or h1 h2, fun xs as S H Q Kt rs rv q kk => q.elim (fun q => .inl (s1 xs as S H Q Kt rs rv q kk)) fun q => .inr (s2 xs as S H Q Kt rs rv q kk)⟩
/-- a statement that is not come to -/
def sNever : DS := fun _ _ _ => False
theorem s_never {X : Cx} {st : Stmt} : CS X st sNever := ⟨fun _ _ _ => False, ⟨fun _ _ _ _ _ _ h => h.elim⟩, fun _ _ _ _ _ _ _ _ h _ => h.elim⟩
section
variable {X : Cx} {e : Expr} {fe : DE} {pos : Pos}
/-- in a dict of the module: texts that are there -/
def eTabIn (tab : List (Str × Int)) (f : Bool → Bool) (fe : DE) : DE := fun σ S Q => fe σ S fun y S1 => match y with
  | .str z => (tabAt tab z).isSome = true ∧ Q (.bl (f true)) S1
  | _ => False
def rTab (K : PySem.W.Frag) (d : Addr) (f : Bool → Bool) : R2 := fun x y H Q => ∃ z r, x = V.str z ∧ y = V.ref d ∧ PySem.W.nsIn K d z = some r ∧ Q (V.bl (f r.isSome)) H
theorem snd_tabIn {a : Addr} {tab : List (Str × Int)} {f : Bool → Bool} {te : TE} (ht : TabV X.K a tab) (se : Snd X.K te fe) : Snd X.K (tOp (rTab X.K a f) te (tC (.ref a))) (eTabIn tab f fe) := fun σ S Q sv H Kt re rs q k =>
  se σ S _ sv H _ re rs q fun v d S1 H1 s1 r1 v1 q1 => by
    cases v1 with
    | str z =>
      obtain ⟨hi, q1⟩ := q1
      obtain ⟨i, hi⟩ := Option.isSome_iff_exists.mp hi
      obtain ⟨t, ht⟩ := ht.mem _ (tabAt_mem hi)
      exact ⟨z, _, rfl, rfl, ht, k _ _ _ _ s1 r1 (.bl _) q1⟩
    | _ => exact False.elim q1
theorem c_tabIn {x : Str} {p : Pos} {tab : List (Str × Int)} (T : TabC X.K X.w X.mg x tab) (he : CE X e fe) (hg : Gl X x := by rfl) (hd : (x == ("__debug__" : Str)) = false := by decide) : CE X (.Compare e [.In] [.Name x p] pos) (eTabIn tab id fe) := by
  obtain ⟨te, he, se⟩ := he
  obtain ⟨a, es, n, hm, D, ht⟩ := T
  exact ⟨_, pe_cmpR (op_in_kd D) he (pe_glob hg hm (v := .ref a) rfl hd) (by with_unfolding_all rfl), snd_tabIn (f := id) ht se⟩
theorem c_tabNotIn {x : Str} {p : Pos} {tab : List (Str × Int)} (T : TabC X.K X.w X.mg x tab) (he : CE X e fe) (hg : Gl X x := by rfl) (hd : (x == ("__debug__" : Str)) = false := by decide) : CE X (.Compare e [.NotIn] [.Name x p] pos) (eTabIn tab not fe) := by
  obtain ⟨te, he, se⟩ := he
  obtain ⟨a, es, n, hm, D, ht⟩ := T
  exact ⟨_, pe_cmpR (op_notIn_kd D) he (pe_glob hg hm (v := .ref a) rfl hd) (by with_unfolding_all rfl), snd_tabIn (f := not) ht se⟩
theorem k_tabIn {x : Str} {p : Pos} {tab : List (Str × Int)} (T : TabC X.K X.w X.mg x tab) (he : CE X e fe) (hg : Gl X x := by rfl) (hd : (x == ("__debug__" : Str)) = false := by decide) : CT X (.Compare e [.In] [.Name x p] pos) (tBl (eTabIn tab id fe)) := by
  obtain ⟨te, he, se⟩ := he
  obtain ⟨a, es, n, hm, D, ht⟩ := T
  exact ⟨_, pt_cmpR (op_in_kd D) he (pe_glob hg hm (v := .ref a) rfl hd) (by with_unfolding_all rfl), snd_tTest (snd_tabIn (f := id) ht se)⟩
theorem k_tabNotIn {x : Str} {p : Pos} {tab : List (Str × Int)} (T : TabC X.K X.w X.mg x tab) (he : CE X e fe) (hg : Gl X x := by rfl) (hd : (x == ("__debug__" : Str)) = false := by decide) : CT X (.Compare e [.NotIn] [.Name x p] pos) (tBl (eTabIn tab not fe)) := by
  obtain ⟨te, he, se⟩ := he
  obtain ⟨a, es, n, hm, D, ht⟩ := T
  exact ⟨_, pt_cmpR (op_notIn_kd D) he (pe_glob hg hm (v := .ref a) rfl hd) (by with_unfolding_all rfl), snd_tTest (snd_tabIn (f := not) ht se)⟩
end
/-- a tuple of texts of the module -/
structure TupC (K : PySem.W.Frag) (mg : Str → Option Value) (x : Str) (zs : List Str) : Prop where
  ex : ∃ (a : Addr) (od : Option Addr) (its : Array Value) (n : Nat) (sl : Array (Option Value)), mg x = some (.ref a) ∧ K.lookup a = some ⟨.type "tuple", od, .seq its n, sl⟩ ∧ its.size ≤ sizeLine ∧ Vals (zs.map V.str) its.toList
theorem c_globT {X : Cx} {pos : Pos} {x : Str} {zs : List Str} (h : TupC X.K X.mg x zs) (hg : Gl X x := by rfl) (hd : (x == ("__debug__" : Str)) = false := by decide) : CE X (.Name x pos) (eC (.tup (zs.map .str))) := by
  obtain ⟨a, od, its, n, sl, hm, hk, hz, rv⟩ := h
  exact c_glob (v := .ref a) hg hm rfl (fun H => .tup (.inr ⟨_, its, n, hk, rfl, rfl, hz, rv⟩) strs_reps) hd
/-! ### x, y = a, b -/
section
variable {X : Cx} {a b c : Expr} {fs : DA} {pos : Pos}
def sPar (i j : Nat) (fs : DA) : DS := fun D0 σ S => fs σ S fun ds S1 => match ds with
  | [v, w] => D0.nx (setS j w (setS i v σ)) S1
  | _ => False
theorem s_par {i j : Nat} {x y : Str} {px py pt pt2 : Pos} {kt k2 : Nat} (hc : X.calm = true) (hN : X.N.Nodup) (hi : X.N[i]? = some x) (hj : X.N[j]? = some y) (hij : i ≠ j) (hx : X.env.scope.names.lookup x = some .local) (hy : X.env.scope.names.lookup y = some .local) (ha : CA X [a, b] fs)
    (hw : swappedStores [.Tuple [.Name x px, .Name y py] kt pt] (.Tuple [a, b] k2 pt2) X.env = pure (some [x, y]) := by rfl) : CS X (.Assign [.Tuple [.Name x px, .Name y py] kt pt] (.Tuple [a, b] k2 pt2) pos) (sPar i j fs) := by
  obtain ⟨ta, ha, sa⟩ := ha
  refine ⟨_, ps_par hc hN hi hj hij hx hy ha hw, fun D0 σ S Dv sv H re rs q k => sa σ S _ sv H _ re rs q fun vs ds S1 H1 s1 r1 v1 q1 => ?_⟩
  match ds, v1, q1 with
  | [d, e], .cons h1 (.cons h2 .nil), q1 => exact ⟨_, _, rfl, k.nx _ _ _ _ s1 r1 (((re.mono s1.tx).set h1).set h2) q1⟩
end
end DL
namespace DL
open PySem PySem.Spec PyProof.Rows L2
/-! ### list(d.values()) -/
section
variable {X : Cx} {o : Expr} {p pos apos mpos : Pos} {td : TE} {fo : DE}
def tListVals (td : TE) : TE := fun σ H Q => td σ H fun x H1 => ∃ a kvs, x = V.ref a ∧ H1 a = some (.dK kvs) ∧ ∀ p, H1 p = none → Q (.ref p) (upd H1 p (.lst (kvs.map (·.2))))
theorem kv_vals {kvs : List (Key × V)} {vs : List (Key × Value)} (r : KV kvs vs) : Vals (kvs.map (·.2)) (vs.map (·.2)) := by
  unfold KV at r
  induction r with
  | nil => exact .nil
  | cons h t ih => exact .cons h.2 ih
theorem pe_listVals (hc : X.calm = true) (hg : Gl X "list") (hm : X.mg "list" = none) (hd : PE X o td) (hbase : attributeBase o "values" X.env (eval o X.env) = eval o X.env := by rfl) (hline : (apos.endLine == mpos.line) = true := by rfl)
    (hse : starEach [Expr.Call (.Attribute o "values" apos) [] [] mpos] X.env = [(false, eval (Expr.Call (.Attribute o "values" apos) [] [] mpos) X.env)] := by rfl) :
    PE X (.Call (.Name "list" p) [.Call (.Attribute o "values" apos) [] [] mpos] [] pos) (tListVals td) := by
  refine ⟨fun pins s σ H Q I h => ?_⟩
  refine wpAny_Call_Name_kw (ld_blt I hg hm (u := .type "list") (by first | rfl | decide +kernel) ?_ (by first | decide +kernel | decide) (by first | decide +kernel | decide))
  rw [hse]
  refine PySem.callWith_type1 (wpAny_Call_method0_late hbase hline (thn (hd.run pins s σ H _ I h) fun v s1 ⟨x, H1, I1, r1, a, kvs, ex, ha, q⟩ => ?_))
  subst ex
  obtain rfl : v = Value.ref a := r1
  obtain ⟨hle, hsys, vs, rel, dof⟩ := dk_of I1.hok ha
  obtain ⟨ep, dat⟩ := dof.dictAt
  have dat' := dat
  obtain ⟨ob, es, ho, ex, hdat, hko, hpr, hnd⟩ := dat'
  refine ⟨"dict", "dict.values", F.plainAttrs_dict, F.slot_dict_values, F.type_dict_values, ⟨ob, ho, ex.1⟩, fun b e => ?_, Calls.callWith_builtin rfl (PySem.evalArgs_none ?_)⟩
  · cases e
    exact ⟨ob, ho, ex.2.1⟩
  refine call_meetsIn F.slot_dict_values ⟨ob, ho, ex.1⟩ F.entry_dict_values (F.args_dict_values_1 _) (meets_dict_values (mixKind X.prog X.w) a hsys) ⟨⟨vs, dof⟩, ?_⟩
  have k1 : ∀ b u, s1.heap.get? b = some u → (s1.heap.push { cls := .type "dict_values", data := .fields #[.ref a] }).get? b = some u := fun b u e => Heap.get?_push_of_some _ e
  have dat1 : (s1.heap.push { cls := .type "dict_values", data := .fields #[.ref a] }).DictAt (mixKind X.prog X.w) a vs ep := dat.keep k1
  have hlv : kvs.length = vs.length := KV.length rel
  refine PySem.W.kdl_call (PySem.W.kdl_values (knd := mixKind X.prog X.w) (r := s1.heap.objs.size) (d := a) (kvs := vs) (ep := ep)) (I.ok.hd hc) ⟨⟨_, Heap.get?_push_size _ rfl, rfl, rfl⟩, dat1⟩ (by rw [← hlv]; exact hle) fun h' tk acc' c' hk hl hacc => ?_
  have e := PySem.W.kdl_vals_eq (kvs := vs) acc'.toList (by rw [Array.length_toList]; exact hacc.1) fun j v e => hacc.2 j v (by rw [← Array.getElem?_toList]; exact e)
  have hsz : (s1.heap.push { cls := .type "dict_values", data := .fields #[.ref a] }).objs.size = s1.heap.objs.size + 1 := Heap.size_push _ _
  have hfr : s1.heap.objs.size ≤ (s1.heap.push { cls := .type "dict_values", data := .fields #[.ref a] }).objs.size := by rw [hsz]; exact Nat.le_succ _
  refine ⟨.ref _, _, I1.laid (t' := tk) (fun b u e => hk b u (k1 b u e)) hfr (show ObjOk X.prog X.w _ h' _ (.lst (kvs.map (·.2))) from ⟨by rw [List.length_map]; exact hle, acc'.toList, c', by rw [e]; exact kv_vals rel, by rw [Array.toArray_toList]; exact hl⟩), rfl, q _ (I1.hok.fresh hfr)⟩
def eListV (fo : DE) : DE := fun σ S Q => fo σ S fun o S1 => match o with
  | .ref p => ∃ kvs, S1 p = some (.dk kvs) ∧ ∀ a, S1 a = none → Q (.ref a) (updS S1 a (.lst (kvs.map (·.2))))
  | _ => False
theorem krep_vals {K : PySem.W.Frag} {H : Hp} {ws : List (Key × V)} {kvs : List (Key × D)} (r : KReps K H ws kvs) : Reps K H (ws.map (·.2)) (kvs.map (·.2)) := by
  unfold KReps at r
  induction r with
  | nil => exact .nil
  | cons h t ih => exact .cons h.2 ih
theorem c_listV (hc : X.calm = true) (hg : Gl X "list") (hm : X.mg "list" = none) (ho : CE X o fo) (hbase : attributeBase o "values" X.env (eval o X.env) = eval o X.env := by rfl) (hline : (apos.endLine == mpos.line) = true := by rfl)
    (hse : starEach [Expr.Call (.Attribute o "values" apos) [] [] mpos] X.env = [(false, eval (Expr.Call (.Attribute o "values" apos) [] [] mpos) X.env)] := by rfl) :
    CE X (.Call (.Name "list" p) [.Call (.Attribute o "values" apos) [] [] mpos] [] pos) (eListV fo) := by
  obtain ⟨to, ho, so⟩ := ho
  refine ⟨_, pe_listVals hc hg hm ho hbase hline hse, fun σ S Q sv H Kt re rs q k => so σ S _ sv H _ re rs q fun v d S1 H1 s1 r1 v1 q1 => ?_⟩
  cases v1 with
  | ref p =>
    obtain ⟨kvs, e0, q1⟩ := q1
    obtain ⟨ws, e3, rr⟩ := r1 _ _ e0
    refine ⟨p, ws, rfl, e3, fun a ha => ?_⟩
    exact new_lst r1 (krep_vals rr) (fun v d S2 H2 s2 r2 v2 q2 => k v d S2 H2 (s1.trans s2) r2 v2 q2) q1 a ha
  | _ => exact False.elim q1
end
/-! ### try: a body that raises nothing -/
section
variable {X : Cx} {body : List Stmt} {h₀ : ExceptHandler} {hs : List ExceptHandler} {pos : Pos} {fb : DS}
theorem s_try (h : CSs X.nox body fb) : CS X (.Try body (h₀ :: hs) [] [] pos) fb := by
  obtain ⟨t, h1, h2⟩ := h
  exact ⟨t, ps_try_thru0 h1, h2⟩
end
end DL
namespace DL
open PySem PySem.Spec PyProof.Rows L2
section
variable {X : Cx} {K : PySem.W.Frag} {e a b c : Expr} {es : List Expr} {fe fa fb fc : DE} {ft fu : DT} {fs : DA} {pos : Pos} {S : Sto} {H : Hp}
/-! ### text.split(sep) -/
def gSplit : D → GN := fun x vs S Q => match x, vs with
  | .str z, [.str y] => (y.length == 0) = false ∧ z.length + 2 ≤ sizeLine ∧ ∀ p, S p = none → Q (.ref p) (updS S p (.lst ((Txt.split z y).map .str)))
  | _, _ => False
theorem m_split : CM X "str" "split" gSplit := by
  refine ⟨_, _, PySem.F.plainAttrs_str, F.slot_str_split, F.type_str_split, mt_split, fun x a xs as S H Q Kt s rx r q k => ?_⟩
  match a, as, q with
  | .str z, [.str y], q =>
    obtain ⟨hy, hz, q⟩ := q
    obtain ⟨v, rfl, rv⟩ := reps1 r
    cases rv
    cases rx
    exact ⟨z, y, rfl, rfl, hy, hz, new_lst s (strs_reps) k q⟩
/-! ### xs.extend(ys) -/
theorem ext_meets (l : Addr) (items : Array Value) (n : Nat) (b : Addr) (items2 : Array Value) (n2 : Nat) (od : Option Addr) (sl : Array (Option Value)) (h0 : ¬(!items.isEmpty && Builtin.List.listTooLong (items.size + items2.size)) = true) (h1 : items.size ≤ sizeLine) (h2 : items.size + items2.size ≤ sizeLine + 1) :
    Meets (Builtin.«list.extend» ⟨[.ref l, .ref b], []⟩) (fun _ R s => s.heap.get? l = some { cls := .type "list", dict := none, data := .seq items n, slots := #[] } ∧ s.heap.get? b = some ⟨.type "tuple", od, .seq items2 n2, sl⟩ ∧
      R (.ok (.ret Value.none)) { s with heap := s.heap.update l (Obj.mapSeq fun x => x ++ items2), toks := s.toks }) := by
  refine .of_wp fun prog w A R s h => ?_
  obtain ⟨hp, g, d, tk, os⟩ := s
  obtain ⟨hl, hb, h⟩ := h
  have f1 := PySem.AutoSeq1.idx_int
  have f2 := PySem.AutoSeq1.sub_tuple_tuple
  have f3 := PySem.AutoSeq1.sub_list_list
  have f4 := PySem.AutoSeq1.sub_tuple_list
  have f5 := PySem.AutoSeq1.sub_list_tuple
  have hz' : (items ++ items2).size ≤ sizeLine + 1 := by
    rw [Array.size_append]
    exact h2
  wp_walk using (wpAny_updateSeq hl rfl (hz := h1) (_hz' := hz')), wpAny_loadPart' hl, wpAny_loadPart' hb
  exact ⟨_, rfl, h⟩
def rExtT (K : PySem.W.Frag) : V → List V → Hp → VK → Prop := fun x vs H Q => ∃ l b xs zs, x = .ref l ∧ vs = [.ref b] ∧ H l = some (.lst xs) ∧ SqT K H b zs ∧ xs.length + zs.length ≤ sizeLine ∧ Q .non (upd H l (.lst (xs ++ zs)))
theorem mt_extT : MtM X "list.extend" (rExtT X.K) := by
  intro pins s σ H x vs v us Q I rx rv h
  obtain ⟨l, b, xs, zs, rfl, rfl, hH, hB, hz, q⟩ := h
  cases rx
  obtain ⟨u, rfl, ru⟩ := rv.one
  cases ru
  obtain ⟨z, its, n, r, hl, e⟩ := I.lstM hH
  obtain ⟨its2, r2, ⟨⟨c2, od, dt2, sl⟩, e2, hc, n2, hd⟩, hz2⟩ := I.tuple hB
  have hc : c2 = Value.type "tuple" := hc
  have hd : dt2 = Data.seq its2.toArray n2 := hd
  subst hc hd
  have hl2 := r2.length
  have hsz : its.toArray.size + its2.toArray.size ≤ sizeLine := by rw [List.size_toArray, List.size_toArray]; omega
  have hlong : ¬ (!its.toArray.isEmpty && Builtin.List.listTooLong (its.toArray.size + its2.toArray.size)) = true := by
    rw [notLongL hsz, Bool.and_false]
    exact Bool.false_ne_true
  refine call_meets F.slot_list_extend ⟨_, e, rfl⟩ F.entry_list_extend (F.args_list_extend_2 _ _) (ext_meets l its.toArray n b its2.toArray n2 od sl hlong (by rw [List.size_toArray]; omega) (by omega)) ⟨e, e2, ?_⟩
  refine ⟨.non, _, I.lset (its' := its ++ its2) hH e (by simp) (r.append r2) (by rw [List.length_append]; omega), rfl, q⟩
def gExtend : D → GN := fun x vs S Q => match x, vs with
  | .ref p, [.tup ds] => ∃ xs, S p = some (.lst xs) ∧ xs.length + ds.length ≤ sizeLine ∧ Q .non (updS S p (.lst (xs ++ ds)))
  | _, _ => False
theorem m_extend : CM X "list" "extend" gExtend := by
  refine ⟨_, _, PySem.F.plainAttrs_list, PySem.F.slot_list_extend, PySem.F.type_list_extend, mt_extT, fun x a xs as S H Q Kt s rx r q k => ?_⟩
  match a, as, q with
  | .ref p, [.tup ds], q =>
    obtain ⟨ys, e, hz, q⟩ := q
    obtain ⟨v, rfl, rv⟩ := reps1 r
    cases rx
    obtain ⟨vs, e1, r1⟩ := s _ _ e
    cases rv with
    | @tup b zs ds h r2 => exact ⟨p, b, vs, zs, rfl, rfl, e1, h, by rw [r1.length, r2.length]; exact hz, mut_lst s e (r1.append r2) k .non q⟩
/-! ### int(text) -/
def gInt2 : GN := fun xs S Q => match xs with
  | [.str z] => ∃ n, PySem.intText? z = some n ∧ z.length ≤ 640 ∧ Q (.int n) S
  | ys => gInt1 ys S Q
theorem y_int2 : CY X "int" gInt2 := by
  obtain ⟨r1, h1, s1⟩ := y_int (X := X)
  refine ⟨_, L2.CallR.or h1 call_int_str, fun xs as S H Q Kt s r q k => ?_⟩
  match as, q with
  | [.str z], q =>
    obtain ⟨n, hn, hl, q⟩ := q
    obtain ⟨v, rfl, rv⟩ := reps1 r
    cases rv
    exact .inr ⟨z, n, rfl, hn, hl, k.now s (.int _) q⟩
  | [.int i], q => exact .inl (s1 xs _ S H Q Kt s r q k)
  | [.bl i], q => exact .inl (s1 xs _ S H Q Kt s r q k)
/-! ### range(i, j, c) -/
def stepD (lo c : Int) (n : Nat) : List D := (List.range n).map fun i => .int (lo + (i : Nat) * c)
theorem itok_step {lo c : Int} {n : Nat} {H1 : Hp} : ItOk K H1 (Itc lo c n) (stepD lo c n) (fun _ => True) := fun S H s tx st => by
  refine ⟨fun i d hi => ?_, by show n ≤ _; simp [stepD]⟩
  unfold stepD at hi
  rw [List.getElem?_map] at hi
  cases h : (List.range n)[i]? with
  | none => rw [h] at hi; cases hi
  | some m =>
    obtain ⟨hl, hm⟩ := List.getElem?_eq_some_iff.mp h
    rw [h] at hi
    cases hi
    simp at hm hl
    subst hm
    refine ⟨hl, fun x H' y => ?_⟩
    obtain ⟨e, e2⟩ := y
    subst e e2
    exact ⟨.refl, s, .int _⟩
/-- a step upwards -/
def iRange3 (fs : DA) : DI := fun σ S Q => fs σ S fun xs S1 => match xs with
  | [.int i, .int j, .int c] => ∃ n, RgC i j c n ∧ Q (stepD i c n) (fun _ => True) S1
  | _ => False
theorem i_range3 {tg : Expr} {p : Pos} (hg : Gl X "range") (hm : X.mg "range" = none) (ha : CA X [a, b, c] fs) (hs : starEach [a, b, c] X.env = (false, eval a X.env) :: starEach [b, c] X.env := by rfl) (hpl : (backTo pos (starEach [b, c] X.env)).any (·.1) = false := by rfl) :
    CI X tg (.Call (.Name "range" p) [a, b, c] [] pos) (iRange3 fs) := by
  obtain ⟨ta, ha, sa⟩ := ha
  refine ⟨_, pi_range3 hg hm ha hs hpl, fun σ S Q sv H R re rs q k => sa σ S _ sv H _ re rs q fun vs ds S1 H1 s1 r1 v1 q1 => ?_⟩
  match ds, q1 with
  | [.int i, .int j, .int c], q1 =>
    cases v1 with
    | cons rv v1 =>
      obtain ⟨v2, v3, rfl, rv2, rv3⟩ := reps2 v1
      cases rv
      cases rv2
      cases rv3
      obtain ⟨n, hn, q1⟩ := q1
      exact ⟨i, j, c, n, rfl, hn, k _ _ _ _ _ s1 r1 itok_step q1⟩
/-! ### d.get(key, x) of a dict of the module, its values tuples of numbers -/
def TabW (K : PySem.W.Frag) (a : Addr) : List (Str × List Int) → Prop
  | [] => True
  | q :: r => (∃ b od its n sl, PySem.W.nsIn K a q.1 = some (some (.ref b)) ∧ K.lookup b = some ⟨.type "tuple", od, .seq its n, sl⟩ ∧ its.size ≤ sizeLine ∧ Vals (q.2.map V.int) its.toList) ∧ TabW K a r
theorem TabW.mem {K : PySem.W.Frag} {a : Addr} : ∀ {tab : List (Str × List Int)}, TabW K a tab → ∀ q ∈ tab, ∃ b od its n sl, PySem.W.nsIn K a q.1 = some (some (.ref b)) ∧ K.lookup b = some ⟨.type "tuple", od, .seq its n, sl⟩ ∧ its.size ≤ sizeLine ∧ Vals (q.2.map V.int) its.toList
  | _ :: _, ⟨h, t⟩, q, hq => by
    rcases List.mem_cons.mp hq with rfl | hq
    · exact h
    · exact t.mem q hq
structure TabWC (K : PySem.W.Frag) (w : World) (mg : Str → Option Value) (x : Str) (tab : List (Str × List Int)) : Prop where
  ex : ∃ (a : Addr) (es : Array DictEntry) (n : Nat), mg x = some (.ref a) ∧ KDict K w a es n ∧ TabW K a tab
def tabWAt (tab : List (Str × List Int)) (z : Str) : Option (List Int) := (tab.find? fun q => decide (q.1 = z)).map (·.2)
theorem tabWAt_mem {tab : List (Str × List Int)} {z : Str} {i : List Int} (h : tabWAt tab z = some i) : (z, i) ∈ tab := by
  unfold tabWAt at h
  obtain ⟨q, h1, h2⟩ := Option.map_eq_some_iff.mp h
  have h3 := List.mem_of_find?_eq_some h1
  have h4 : q.1 = z := by simpa using List.find?_some h1
  rw [← h4, ← h2]
  exact h3
/-- keys that are there -/
def eTabW (tab : List (Str × List Int)) (fe ff : DE) : DE := fun σ S Q => fe σ S fun y S1 => ff σ S1 fun _ S2 => match y with
  | .str z => ∃ is, tabWAt tab z = some is ∧ Q (.tup (is.map .int)) S2
  | _ => False
def tTabW (K : PySem.W.Frag) (a : Addr) (te tf : TE) : TE := fun σ H Q => te σ H fun y H1 => tf σ H1 fun _ H2 => ∃ z b, y = .str z ∧ PySem.W.nsIn K a z = some (some (.ref b)) ∧ Q (.ref b) H2
theorem c_tabW {x : Str} {p apos : Pos} {tab : List (Str × List Int)} {f : Expr} {ff : DE} (T : TabWC X.K X.w X.mg x tab) (he : CE X e fe) (hf : CE X f ff) (m : M2 X (.Name x p) "get" apos e f pos := by exact ⟨rfl, rfl, rfl, rfl⟩) (hg : Gl X x := by rfl) (hd : (x == ("__debug__" : Str)) = false := by decide) :
    CE X (.Call (.Attribute (.Name x p) "get" apos) [e, f] [] pos) (eTabW tab fe ff) := by
  obtain ⟨te, he, se⟩ := he
  obtain ⟨tf, hf, sf⟩ := hf
  obtain ⟨a, es, n, hm, D, ht⟩ := T
  have hp : PE X (.Name x p) _ := pe_glob hg hm (v := .ref a) rfl hd
  refine ⟨tTabW X.K a te tf, ⟨fun pins s σ H Q I h => ?_⟩, fun σ S Q sv H Kt re rs q k => ?_⟩
  · refine wpAny_Call_method m.base m.few m.line PySem.F.plainAttrs_dict PySem.F.slot_dict_get PySem.F.type_dict_get (thn (hp.run pins s σ H (fun x H1 => x = .ref a ∧ tTabW X.K a te tf σ H1 Q) I ⟨rfl, h⟩) fun u s1 ⟨x, H1, I1, rx, ex, q1⟩ => ?_)
    subst ex
    obtain rfl : u = Value.ref a := rx
    have mo := PySem.W.mapOf_K (prog := X.prog) (w := X.w) I1.kIn D.at_ D.lit
    refine ⟨mo.typeIs, mo.noDict, ?_⟩
    rw [m.trees]
    refine Calls.callWith_builtin rfl (Calls.evalArgs_plain (Calls.spliced_cons (thn (he.run pins s1 σ H1 _ I1 q1) fun iv s2 ⟨y, H2, I2, ry, q2⟩ =>
      Calls.spliced_cons (thn (hf.run pins s2 σ H2 _ I2 q2) fun fv s3 ⟨z, H3, I3, rz, zz, b, ey, hn, q3⟩ => Calls.spliced_nil ?_))))
    subst ey
    obtain ⟨t, rfl⟩ := ry
    have mo3 := PySem.W.mapOf_K (prog := X.prog) (w := X.w) I3.kIn D.at_ D.lit
    refine call_meetsIn PySem.F.slot_dict_get mo3.typeIs PySem.F.entry_dict_get (PySem.F.args_dict_get_3 _ _ _) (meets_dict_get_default (PySem.strKind X.prog X.w) a (PySem.strKind_is X.prog X.w zz t) D.low fv) ⟨_, mo3, ?_⟩
    rw [PySem.W.find_K D.at_ hn]
    exact ⟨.ref b, H3, I3.tok _, rfl, q3⟩
  · refine se σ S _ sv H _ re rs q fun v d S1 H1 s1 r1 v1 q1 => ?_
    refine sf σ S1 _ sv H1 _ (re.mono s1.tx) r1 q1 fun u d2 S2 H2 s2 r2 v2 q2 => ?_
    have v1' := v1.mono s2.tx
    cases v1' with
    | str z =>
      obtain ⟨i, hi, q2⟩ := q2
      obtain ⟨b, od, its, m, sl, h1, h2, h3, h4⟩ := ht.mem _ (tabWAt_mem hi)
      exact ⟨z, b, rfl, h1, k _ _ _ _ (s1.trans s2) r2 (.tup (.inr ⟨_, its, m, h2, rfl, rfl, h3, h4⟩) ints_reps) q2⟩
    | _ => exact False.elim q2
end
/-- a block within a block, that takes no name of a def -/
theorem blkOk_nf {N : List Str} {sc scope : Scope} {own : List (Str × Nat)} (h : blkC N { kind := .function, names := [], isGenerator := false, isCoroutine := false } scope own = true) : BlkOk N sc scope own := by
  have k := blkOk_by h
  exact ⟨k.kind, k.uniq, k.ix, (fun y hy e => by rcases k.free y hy e with z | z <;> cases z), k.own⟩
end DL
/-! defs that may raise own exceptions without __init__ -/
namespace DL
open PySem PySem.Spec PyProof.Rows L2
/-- the exceptional end, by the class's name -/
abbrev EK := Str → Sto → Prop
abbrev MFX := List D → Sto → DK → EK → Prop
abbrev DSX := DEnds → EK → Env → Sto → Prop
abbrev DEX := EK → DE
def RchK (K : PySem.W.Frag) (mg : Str → Option Value) (S : Sto) (H : Hp) (Ed : EK) (E : XK) : Prop := ∀ c cls S' H', Stp K S H S' H' → SRep K S' H' → mg c = some cls → Ed c S' → E cls none H'
theorem RchK.stp {K : PySem.W.Frag} {mg : Str → Option Value} {S S1 : Sto} {H H1 : Hp} {Ed : EK} {E : XK} (k : RchK K mg S H Ed E) (s : Stp K S H S1 H1) : RchK K mg S1 H1 Ed E := fun c cls S2 H2 s2 r e q => k c cls S2 H2 (s.trans s2) r e q
abbrev WXE (E : XK) : WX := fun cls d _ H => E cls d H
def SndX (K : PySem.W.Frag) (mg : Str → Option Value) (t : XK → TE) (f : DEX) : Prop := ∀ (Ed : EK) (E : XK) (σ : Env) (S : Sto) (Q : DK) (sv : L2.St) (H : Hp) (Kt : VK), ERep K H sv σ → SRep K S H → f Ed σ S Q → Rch K S H Q Kt → RchK K mg S H Ed E → t E sv H Kt
def SndSX (K : PySem.W.Frag) (mg : Str → Option Value) (t : XK → TS) (f : DSX) : Prop := ∀ (D0 : DEnds) (Ed : EK) (σ : Env) (S : Sto) (Dv : Ends) (E : XK) (sv : L2.St) (H : Hp), ERep K H sv σ → SRep K S H → f D0 Ed σ S → RchE K S H D0 Dv → RchK K mg S H Ed E → t E Dv sv H
structure CEX (X : Cx) (e : Expr) (f : DEX) : Prop where
  ok : ∃ t : XK → TE, (∀ E : XK, L2.Takes X (WXE E) → PE X e (t E)) ∧ SndX X.K X.mg t f
structure CSX (X : Cx) (st : Stmt) (f : DSX) : Prop where
  ok : ∃ t : XK → TS, (∀ E : XK, L2.Takes X (WXE E) → PS X st (t E)) ∧ SndSX X.K X.mg t f
structure CSsX (X : Cx) (st : List Stmt) (f : DSX) : Prop where
  ok : ∃ t : XK → TS, (∀ E : XK, L2.Takes X (WXE E) → PSs X st (t E)) ∧ SndSX X.K X.mg t f
/-- a def that may raise does m -/
def spX (K : PySem.W.Frag) (mg : Str → Option Value) (n : Nat) (m : MFX) : Sp := fun vs H Q E => vs.length = n ∧ ∃ ds S Qd Ed, Reps K H vs ds ∧ SRep K S H ∧ m ds S Qd Ed ∧ Rch K S H Qd Q ∧ RchK K mg S H Ed E
structure OkfX (P : Program) (w : World) (K : PySem.W.Frag) (mg : Str → Option Value) (base : Heap) (k : Nat) (x : Str) (n : Nat) (m : MFX) : Prop where
  ex : ∃ (f : Addr) (fd : FuncData) (ps : List Str), ps.length = n ∧ FnG P w K mg base (L2.CX P w) k f fd ps (spX K mg n m) ∧ mg x = some (.ref f) ∧ PySem.W.keepIn K (.ref f) = true ∧ Binds K fd ps []
section
variable {X : Cx} {st : Stmt} {rest body orelse : List Stmt} {a c : Expr} {es : List Expr} {fs : DA} {fa : DEX} {ft : DT} {f g : DSX} {pos : Pos}
def xE (f : DE) : DEX := fun _ => f
theorem cx_of {fe : DE} (h : CE X a fe) : CEX X a (xE fe) := let ⟨t, h, s⟩ := h.ok; ⟨fun _ => t, fun _ _ => h, fun Ed E σ S Q sv H Kt re rs q k _ => s σ S Q sv H Kt re rs q k⟩
def eCallX (n : Nat) (m : MFX) (fs : DA) : DEX := fun Ed σ S Q => fs σ S fun ds S1 => ds.length = n ∧ m ds S1 Q Ed
theorem cx_fn {k j n : Nat} {m : MFX} {x : Str} {p : Pos} (hr : RoomG j X.A) (F : OkfX X.prog X.w X.K X.mg X.base k x n m) (hk : k ≤ j) (ha : CA X (a :: es) fs) (hg : Gl X x := by rfl)
    (hdb : (x == ("__debug__" : Str)) = false := by decide) (he : starEach (a :: es) X.env = (false, eval a X.env) :: starEach es X.env := by rfl) (hpl : (backTo pos (starEach es X.env)).any (·.1) = false := by rfl) :
    CEX X (.Call (.Name x p) (a :: es) [] pos) (eCallX n m fs) := by
  obtain ⟨f, fd, ps, hl, F, hm, hk2, hb⟩ := F
  obtain ⟨ta, ha, sa⟩ := ha
  refine ⟨fun E => tCall (spX X.K X.mg n m) [] E ta, fun E tk => pe_callG F (hr.mono' hk) hg hm hk2 hb .nil (L2.passes_call tk fun _ _ _ _ h => h) ha hdb he hpl, fun Ed E σ S Q sv H Kt re rs q k kx => sa σ S _ sv H _ re rs q fun vs ds S1 H1 s1 r1 v1 q1 => ?_⟩
  rw [List.append_nil]
  exact ⟨by rw [v1.length]; exact q1.1, ds, S1, Q, Ed, v1, r1, q1.2, fun v d S2 H2 s2 r2 v2 q2 => k v d S2 H2 (s1.trans s2) r2 v2 q2, kx.stp s1⟩
/-- called where nothing is raised -/
def mNo (m : MFX) : MF := fun ds S Q => m ds S Q fun _ _ => False
theorem c_fnX {k j n : Nat} {m : MFX} {x : Str} {p : Pos} (hr : RoomG j X.A) (F : OkfX X.prog X.w X.K X.mg X.base k x n m) (hk : k ≤ j) (ha : CA X (a :: es) fs) (hg : Gl X x := by rfl)
    (hdb : (x == ("__debug__" : Str)) = false := by decide) (he : starEach (a :: es) X.env = (false, eval a X.env) :: starEach es X.env := by rfl) (hpl : (backTo pos (starEach es X.env)).any (·.1) = false := by rfl) :
    CE X (.Call (.Name x p) (a :: es) [] pos) (eCall n (mNo m) fs) := by
  obtain ⟨f, fd, ps, hl, F, hm, hk2, hb⟩ := F
  obtain ⟨ta, ha, sa⟩ := ha
  refine ⟨tCall (spX X.K X.mg n m) [] E0 ta, pe_callG F (hr.mono' hk) hg hm hk2 hb .nil passL ha hdb he hpl, fun σ S Q sv H Kt re rs q k => sa σ S _ sv H _ re rs q fun vs ds S1 H1 s1 r1 v1 q1 => ?_⟩
  rw [List.append_nil]
  exact ⟨by rw [v1.length]; exact q1.1, ds, S1, Q, _, v1, r1, q1.2, fun v d S2 H2 s2 r2 v2 q2 => k v d S2 H2 (s1.trans s2) r2 v2 q2, fun c cls S2 H2 s2 r2 e2 q2 => q2⟩
/-! ### statements -/
def xS (f : DS) : DSX := fun D0 _ σ S => f D0 σ S
theorem sx_of {fd : DS} (h : CS X st fd) : CSX X st (xS fd) := let ⟨t, h, s⟩ := h.ok; ⟨fun _ => t, fun _ _ => h, fun D0 Ed σ S Dv E sv H re rs q k _ => s D0 σ S Dv sv H re rs q k⟩
theorem ssx_of {fd : DS} (h : CSs X body fd) : CSsX X body (xS fd) := let ⟨t, h, s⟩ := h.ok; ⟨fun _ => t, fun _ _ => h, fun D0 Ed σ S Dv E sv H re rs q k _ => s D0 σ S Dv sv H re rs q k⟩
def xSeq (f g : DSX) : DSX := fun D0 Ed σ S => f { D0 with nx := g D0 Ed } Ed σ S
theorem ssx_nil : CSsX X [] (xS sNext) := ssx_of ss_nil
theorem ssx_cons (h1 : CSX X st f) (h2 : CSsX X rest g) : CSsX X (st :: rest) (xSeq f g) := by
  obtain ⟨t, h1, s1⟩ := h1
  obtain ⟨u, h2, s2⟩ := h2
  refine ⟨fun E => tSeq (t E) (u E), fun E tk => pss_cons (h1 E tk) (h2 E tk), fun D0 Ed σ S Dv E sv H re rs q k kx => s1 { D0 with nx := g D0 Ed } Ed σ S { Dv with nx := u E Dv } E sv H re rs q ⟨?_, k.rt, k.bk, k.ct⟩ kx⟩
  exact fun sv' σ' S' H' st' r' e' q' => s2 D0 Ed σ' S' Dv E sv' H' e' r' q' (k.stp st') (kx.stp st')
theorem ssx_one (h1 : CSX X st f) : CSsX X [st] f := let ⟨t, h, s⟩ := h1.ok; ⟨t, fun E tk => pss_one (h E tk), s⟩
def xExpr (fa : DEX) : DSX := fun D0 Ed σ S => fa Ed σ S fun _ S1 => D0.nx σ S1
theorem sx_expr (ha : CEX X a fa) (hs : swapsWith a none pos.line X.env = pure false := by rfl) : CSX X (.Expr a pos) (xExpr fa) := by
  obtain ⟨t, h, s⟩ := ha
  exact ⟨_, fun E tk => ps_expr (h E tk) hs, fun D0 Ed σ S Dv E sv H re rs q k kx => s Ed E σ S _ sv H _ re rs q (fun v d S1 H1 s1 r1 v1 q1 => k.nx sv σ S1 H1 s1 r1 (re.mono s1.tx) q1) kx⟩
def xRet (fa : DEX) : DSX := fun D0 Ed σ S => fa Ed σ S D0.rt
theorem sx_ret (ha : CEX X a fa) : CSX X (.Return (some a) pos) (xRet fa) := by
  obtain ⟨t, h, s⟩ := ha
  exact ⟨_, fun E tk => ps_ret (h E tk), fun D0 Ed σ S Dv E sv H re rs q k kx => s Ed E σ S _ sv H _ re rs q k.rt kx⟩
def xSet (i : Nat) (fa : DEX) : DSX := fun D0 Ed σ S => fa Ed σ S fun d S1 => D0.nx (setS i d σ) S1
theorem sx_set {i : Nat} {x : Str} {pos' : Pos} (hN : X.N.Nodup) (hi : X.N[i]? = some x) (hx : Loc X.env.scope x) (ha : CEX X a fa) (hs : swapsWith a (some (.Name x pos')) pos.line X.env = pure false := by rfl) (hf : X.fn x = true ∨ X.env.scope.names.lookup x = some .local := by first | exact .inl rfl | exact .inr rfl | assumption) :
    CSX X (.Assign [.Name x pos'] a pos) (xSet i fa) := by
  obtain ⟨t, h, s⟩ := ha
  exact ⟨_, fun E tk => ps_set hN hi hx (h E tk) hs hf, fun D0 Ed σ S Dv E sv H re rs q k kx => s Ed E σ S _ sv H _ re rs q (fun v d S1 H1 s1 r1 v1 q1 => k.nx _ _ _ _ s1 r1 ((re.mono s1.tx).set v1) q1) kx⟩
def xIf (ft : DT) (f g : DSX) : DSX := fun D0 Ed σ S => ft σ S fun k S1 => if k = true then f D0 Ed σ S1 else g D0 Ed σ S1
theorem sx_if (hc : CT X c ft) (ha : CSsX X body f) (hb : CSsX X orelse g) : CSX X (.If c body orelse pos) (xIf ft f g) := by
  obtain ⟨tc, hc, sc⟩ := hc
  obtain ⟨ta, ha, sa⟩ := ha
  obtain ⟨tb, hb, sb⟩ := hb
  refine ⟨_, fun E tk => ps_if hc (ha E tk) (hb E tk), fun D0 Ed σ S Dv E sv H re rs q k kx => sc σ S _ sv H _ re rs q fun kk S1 H1 s1 r1 q1 => ?_⟩
  cases kk with
  | true => exact sa D0 Ed σ S1 Dv E sv H1 (re.mono s1.tx) r1 q1 (k.stp s1) (kx.stp s1)
  | false => exact sb D0 Ed σ S1 Dv E sv H1 (re.mono s1.tx) r1 q1 (k.stp s1) (kx.stp s1)
def xFor (fi : DI) (g : DG) (b : DSX) : DSX := fun D0 Ed σ S => sFor fi g (fun D1 σ S => b D1 Ed σ S) D0 σ S
theorem sx_for {tg it : Expr} {own : List Nat} {fi : DI} {g : DG} {fb : DSX} (hp : PassesOwn (model X.prog X.w) X.A X.env X.xe) (hc : X.calm = true) (hi : CI X tg it fi) (hg : CG X tg own g) (hb : CSsX X body fb)
    (hs : ∀ x, foldedSetIterable it X.env x = pure x := by intro _; rfl) : CSX X (.For tg it body [] pos) (xFor fi g fb) := by
  obtain ⟨wi, hi, si⟩ := hi
  obtain ⟨tg', hg, sg⟩ := hg
  obtain ⟨tb, hb, sb⟩ := hb
  refine ⟨_, fun E tk => ps_for hp hc hi hg (hb E tk) hs, fun D0 Ed σ S Dv E sv H re rs q k kx => si σ S _ sv H _ re rs q fun J items stab S1 H1 s1 r1 ok q1 => ?_⟩
  refine ⟨fun i m sv2 H2 => m = items.length - i ∧ i ≤ items.length ∧ ∃ σ2 S2, Stp X.K S1 H1 S2 H2 ∧ SRep X.K S2 H2 ∧ ERep X.K H2 sv2 σ2 ∧ forL stab g (fun D1 σ S => fb D1 Ed σ S) D0 (items.drop i) σ2 S2,
    ⟨items.length, by simp, Nat.zero_le _, σ, S1, .refl, r1, re.mono s1.tx, q1⟩, ?_⟩
  rintro i m sv2 H2 ⟨rfl, hi2, σ2, S2, s2, r2, e2, q2⟩
  obtain ⟨ok1, ok2⟩ := ok S2 H2 r2 s2.tx (forL_stab q2)
  by_cases hlt : i < items.length
  · obtain ⟨go, yl⟩ := ok1 i items[i] (List.getElem?_eq_getElem hlt)
    rw [List.drop_eq_getElem_cons hlt] at q2
    refine .inr ⟨go, fun sv3 H3 => ∃ σ3 S3, Stp X.K S1 H1 S3 H3 ∧ SRep X.K S3 H3 ∧ ERep X.K H3 sv3 σ3 ∧ forL stab g (fun D1 σ S => fb D1 Ed σ S) D0 (items.drop (i + 1)) σ3 S3,
      fun sv3 H3 ⟨σ3, S3, a1, a2, a3, a4⟩ => ⟨items.length - (i + 1), by omega, rfl, hlt, σ3, S3, a1, a2, a3, a4⟩, fun x H3 hy => ?_⟩
    obtain ⟨s3, r3, rx⟩ := yl x H3 hy
    refine sg x items[i] σ2 S2 _ sv2 H3 _ rx (e2.mono s3.tx) r3 q2.2 fun sv4 σ4 S4 H4 s4 r4 e4 _ q4 => ?_
    have st := (s2.trans s3).trans s4
    refine sb _ Ed σ4 S4 _ E sv4 H4 e4 r4 q4 ⟨fun sv5 σ5 S5 H5 s5 r5 e5 q5 => ?_, (k.stp s1).rt.stp st, (k.stp s1).nx.stp st, fun sv5 σ5 S5 H5 s5 r5 e5 q5 => ?_⟩ ((kx.stp s1).stp st)
    · exact ⟨σ5, S5, st.trans s5, r5, e5, q5⟩
    · exact ⟨σ5, S5, st.trans s5, r5, e5, q5⟩
  · have hn : i = items.length := by omega
    subst hn
    rw [List.drop_length] at q2
    exact .inl ⟨ok2, (k.stp s1).nx _ _ _ _ s2 r2 e2 q2.2⟩
/-! ### raise -/
/-- an own exception class over ValueError, without __init__ -/
structure ExT (K : PySem.W.Frag) (mg : Str → Option Value) (c : Str) : Prop where
  ex : ∃ C : Addr, mg c = some (.ref C) ∧ PySem.W.excIn K C [.type "ValueError", .type "Exception", .type "BaseException", .type "object"] "ValueError.__new__" = true ∧ PySem.W.keepIn K (.ref C) = true ∧ PySem.W.subIn K (.ref C) (.type "BaseException") = some true ∧ PySem.W.typeIn K (.ref C) = some (.type "type")
def xRaise (c : Str) : DSX := fun _ Ed _ S => Ed c S
theorem sx_raise {x m : Str} {j : Nat} {p p2 pos' : Pos} (hc : X.calm = true) (T : ExT X.K X.mg x) (hg : Gl X x := by rfl) (hdb : (x == ("__debug__" : Str)) = false := by decide) :
    CSX X (.Raise (some (.Call (.Name x p) [.Constant (.str m) j p2] [] pos)) none pos') (xRaise x) := by
  obtain ⟨C, gC, xC, kC, bC, tC⟩ := T
  exact ⟨fun E => _, fun E tk => ps_raise hc tk (pmk_own PySem.F.excBase_ValueError xC gC kC (raises_own bC tC) hg hdb), fun D0 Ed σ S Dv E sv H re rs q k kx => kx x (.ref C) S H .refl rs gC q⟩
end
end DL
/-! a def that may raise, whole; try: x = f(..) / except C: .. -/
namespace DL
open PySem PySem.Spec PyProof.Rows L2
theorem okfX_of {P : Program} {w : World} {K : PySem.W.Frag} {mg : Str → Option Value} {base : Heap} {x : Str} {st : Stmt} {N ps : List Str} {k : Nat} {b : DSX} {m : MFX} (T : FT K mg x st ps) (Sc : FnScope N ps (defScope st)) (hm : ∀ ds S Q Ed, m ds S Q Ed = b (endsD Q) Ed (startD N.length ds) S)
    (h : ∀ (f : Addr) (cdv : Value) (A : Around) (outer : List PySem.Env) (s : Shared) (H : Hp) (E : XK), RoomG k (A.deeper (envOfC x (defScope st) s.heap.objs.size f cdv)) → CSsX (cxOf (L2.CX P w) P w K mg base N x (defScope st) f cdv A outer s H E) (defBody st) b) :
    OkfX P w K mg base (k + 1) x ps.length m := by
  obtain ⟨f, fd, F, B, g⟩ := T
  have hF : FnG P w K mg base (L2.CX P w) (k + 1) f fd ps (spX K mg ps.length m) := by
    obtain ⟨oc, od, kV, doc, pm, an, cdv, ct, osl, e, lk, hcd⟩ := F.ex
    subst e
    refine fn_ofG lk hcd Sc (fun vs H Q E h => h.1) fun A outer s H vs Q E hr hsp => ?_
    obtain ⟨t, p, sn⟩ := h f cdv A outer s H E hr
    refine ⟨t E, p E (takes_of rfl rfl rfl rfl), ?_⟩
    obtain ⟨hl, ds, S, Qd, Ed, r, sr, q, kk, kx⟩ := hsp
    rw [hm] at q
    refine sn (endsD Qd) Ed _ S _ E _ H (erep_start r) sr q ⟨fun sv σ S' H' s' r' e' q' => ?_, kk, fun _ _ _ _ _ _ _ z => z.elim, fun _ _ _ _ _ _ _ z => z.elim⟩ kx
    exact kk .non .non S' H' s' r' .non q'
  exact ⟨f, fd, ps, rfl, hF, g, F.kp, B⟩
section
variable {X : Cx} {k : Nat} {f : Addr} {fd : FuncData} {ps : List Str} {sp : Sp} {E : L2.St → XK} {x : Str} {p pos : Pos} {e a : Expr} {es : List Expr} {t : TA} {CX : CXT}
theorem run_fnGS {pins : List (Addr × Obj)} {σ : L2.St} {H : Hp} {s : Shared} {Q : VK} {us : List Value} {vs : List V} (F : FnG X.prog X.w X.K X.mg X.base CX k f fd ps sp) (hr : RoomG k X.A) (hb : Binds X.K fd ps []) (hx : PassesAt CX X σ (E σ))
    (I : L2.Inv X pins σ H s) (r : Vals vs us) (h : sp vs H Q (E σ)) : wpAny (model X.prog X.w) X.A (call (.ref f) us) (EP X pins σ Q) X.xe s := by
  have hl : us.length = ps.length := by rw [← r.length]; exact F.len _ _ _ _ h
  have b := hb s us I.kIn (by rw [List.append_nil]; exact hl)
  rw [List.append_nil] at b
  refine wpAny_call (codeAny_mono (F.run X.A X.stack s H ⟨us, []⟩ us vs Q (E σ) hr I.env0 b r h) fun r s' hq => ?_)
  match r, hq with
  | .error e, hq => exact hx pins H s e s' I hq
  | .ok (.ret u), hq => exact I.after hq
  | .ok .next, hq => exact hq.elim
  | .ok .brk, hq => exact hq.elim
  | .ok .cont, hq => exact hq.elim
theorem pe_callGS (F : FnG X.prog X.w X.K X.mg X.base CX k f fd ps sp) (hr : RoomG k X.A) (hg : Gl X x) (hm : X.mg x = some (.ref f)) (hk : PySem.W.keepIn X.K (.ref f) = true) (hb : Binds X.K fd ps []) (hx : ∀ σ, PassesAt CX X σ (E σ))
    (ha : PA X (e :: es) t) (hdb : (x == ("__debug__" : Str)) = false) (he : starEach (e :: es) X.env = (false, eval e X.env) :: starEach es X.env) (hpl : (backTo pos (starEach es X.env)).any (·.1) = false) :
    PE X (.Call (.Name x p) (e :: es) [] pos) (tCallS sp E t) := by
  refine ⟨fun pins s σ H Q I h => ?_⟩
  refine wpAny_Call_Name_kw (ld_glob I hg hm ?_ hdb)
  refine PySem.W.callWith_K (h₀ := X.base) I.ok.mod.kin hk (thn (ha.run pos pins s σ H _ I h) fun us s1 ⟨vs, H1, I1, r, q⟩ => ⟨I1.kIn, ?_⟩) he hpl
  exact run_fnGS F hr hb (hx σ) I1 r q
/-! ### arguments that are names -/
structure CAU (X : Cx) (es : List Expr) (f : DA) : Prop where
  ok : ∃ t : TA, (∀ (pn : List (Addr × Obj)) (xe : Value → Shared → Prop), PA (X.tr pn xe) es t) ∧ SndA X.K t f
theorem au_nil : CAU X [] aNil := ⟨_, fun _ _ => pa_nil, fun σ S Q sv H Kt re rs q k => k _ _ _ _ .refl rs .nil q⟩
theorem snd_var {K : PySem.W.Frag} {i : Nat} : Snd K (tVar i) (eVar i) := fun σ S Q sv H Kt he hs h k => by
  unfold eVar at h
  cases q : getS i σ with
  | none => rw [q] at h; exact h.elim
  | some d =>
    rw [q] at h
    obtain ⟨v, e1, r⟩ := he.at_ i d q
    exact ⟨v, e1, k.now hs r h⟩
theorem au_var {fs : DA} (i : Nat) {x : Str} (h : CAU X es fs) (hN : X.N[i]? = some x := by rfl) (hv : Vis X.env.scope x := by first | exact Or.inl rfl | exact Or.inr (Or.inl rfl) | exact Or.inr (Or.inr rfl)) (hd : (x == ("__debug__" : Str)) = false := by decide)
    (hcd : (x == ("__classdict__" : Str)) = false := by decide) (hs : starEach (.Name x pos :: es) X.env = (false, eval (.Name x pos) X.env) :: starEach es X.env := by rfl) : CAU X (.Name x pos :: es) (aCons (eVar i) fs) := by
  obtain ⟨tr, hr, sr⟩ := h
  refine ⟨tCons (tVar i) tr, fun pn xe => pa_cons (X := X.tr pn xe) (pe_var (X := X.tr pn xe) (i := i) hN hv hd hcd) (hr pn xe) hs, fun σ S Q sv H Kt re rs q k => snd_var σ S _ sv H _ re rs q fun v d S1 H1 s1 r1 v1 q1 => ?_⟩
  exact sr σ S1 _ sv H1 _ (re.mono s1.tx) r1 q1 fun vs ds S2 H2 s2 r2 vs2 q2 => k _ _ S2 H2 (s1.trans s2) r2 (.cons (v1.mono s2.tx) vs2) q2
/-- an except suite: it runs alike whatever exception is held -/
structure CSu (X : Cx) (suite : List Stmt) (f : DS) : Prop where
  ok : ∃ t : TS, (∀ (a : Addr) (oe : Obj) (pn : List (Addr × Obj)), PSs (X.suite a ((a, oe) :: pn)) suite t) ∧ SndS X.K t f
theorem su_retN {j : Nat} {p pos : Pos} : CSu X [.Return (some (.Constant .none j p)) pos] (sRet (eC .non)) :=
  ⟨tRet (tC .non), fun a oe pn => pss_one (ps_ret pe_non), fun D0 σ S Dv sv H re rs q k => snd_c (fun _ => .non) σ S _ sv H _ re rs q k.rt⟩
/-- try: x = f(..) / except C: suite; L: the classes that C takes -/
def sTry (i n : Nat) (m : MFX) (fs : DA) (L : List Str) (g : DS) : DS := fun D0 σ S => fs σ S fun ds S1 => ds.length = n ∧ m ds S1 (fun d S2 => D0.nx (setS i d σ) S2) fun c S2 => c ∈ L ∧ g D0 σ S2
theorem s_trySet {i j kk n : Nat} {m : MFX} {y fx c0 : Str} {C : Value} {L : List Str} {fs : DA} {g : DS} {b₀ : Stmt} {suite : List Stmt} {p1 pp np pos2 pos3 pos4 : Pos} (hs : X.stack = X.env :: X.outer) (hf : X.env.frame = some X.env.locals) (hN : X.N.Nodup) (hi : X.N[i]? = some y) (hx : Loc X.env.scope y) (hf2 : X.fn y = true ∨ X.env.scope.names.lookup y = some .local)
    (hr : RoomG j X.A) (F : OkfX X.prog X.w X.K X.mg X.base kk fx n m) (hk : kk ≤ j) (ha : CAU X (a :: es) fs) (hc0 : Names X c0 C) (hL : ∀ c ∈ L, ∃ cls, X.mg c = some cls ∧ PySem.W.exmOne X.K cls C = some true) (hsu : CSu X (b₀ :: suite) g)
    (hg : Gl X fx := by rfl) (hdb : (fx == ("__debug__" : Str)) = false := by decide) (he : starEach (a :: es) X.env = (false, eval a X.env) :: starEach es X.env := by rfl) (hpl : (backTo pos (starEach es X.env)).any (·.1) = false := by rfl)
    (hsw : swapsWith (.Call (.Name fx pp) (a :: es) [] pos) (some (.Name y p1)) pos2.line X.env = pure false := by rfl) :
    CS X (.Try [.Assign [.Name y p1] (.Call (.Name fx pp) (a :: es) [] pos) pos2] [.ExceptHandler (some (.Name c0 np)) none (b₀ :: suite) pos3] [] [] pos4) (sTry i n m fs L g) := by
  obtain ⟨f, fd, ps, hl, F, hm, hk2, hb⟩ := F
  obtain ⟨ta, ha, sa⟩ := ha
  obtain ⟨tg, hgs, sg⟩ := hsu
  refine ⟨_, ps_try_only hs hf hc0 takes0 (tb := fun W => tAsg (tCallS (spX X.K X.mg n m) (WE W) ta) (gName i)) (ts := fun _ _ _ => tg) (fun W pn xe tk _ => pss_one (ps_set (X := X.tr pn xe) hN hi hx (pe_callGS (X := X.tr pn xe) F (hr.mono' hk) hg hm hk2 hb (fun σ => passAt tk σ) (ha pn xe) hdb he hpl) hsw hf2)) (fun a oe cls d pn _ _ => hgs a oe pn),
    fun D0 σ S Dv sv H re rs q k => ?_⟩
  refine sa σ S _ sv H _ re rs q fun vs ds S1 H1 s1 r1 v1 q1 => ?_
  refine ⟨by rw [v1.length]; exact q1.1, ds, S1, _, _, v1, r1, q1.2, fun v d S2 H2 s2 r2 v2 q2 => ?_, fun c cls S2 H2 s2 r2 e2 q2 => ?_⟩
  · exact k.nx _ _ _ _ (s1.trans s2) r2 ((re.mono (s1.trans s2).tx).set v2) q2
  · obtain ⟨hc, q2⟩ := q2
    obtain ⟨cls', g1, g2⟩ := hL c hc
    rw [e2] at g1
    cases g1
    exact ⟨true, g2, fun _ a ha => sg D0 σ S2 Dv sv H2 (re.mono (s1.trans s2).tx) r2 q2 (k.stp (s1.trans s2)), fun z => nomatch z⟩
end
end DL
/-! try: .. / except C as e: y = e: the caught exception is kept; its class is asked for behind it -/
namespace L2
open PySem PySem.Spec PyProof.Rows DL
section
variable {X : Cx} {pins : List (Addr × Obj)} {σ : St} {H : Hp} {s : Shared}
theorem exC_ok {P : Program} {w : World} {h : Heap} {a C : Addr} {oe : Obj} {vs : Array Value} (e : h.get? a = some oe) (z : Zc (.ref C) none oe) (d : oe.data = .fields vs) : ObjOk P w H h a (ExC a C) :=
  ⟨⟨oe, vs, e, z, d⟩, ⟨oe, e⟩, fun _ _ ⟨o, v, q, r⟩ k => ⟨o, v, k o q, r⟩⟩
/-- a pinned exception of ours is tracked -/
theorem Inv.adopt {a C : Addr} {oe : Obj} {vs : Array Value} (I : Inv X ((a, oe) :: pins) σ H s) (hz : Zc (.ref C) none oe) (hd : oe.data = .fields vs) (n0 : X.s_0.heap.get? a = none) (np : ∀ p ∈ X.pn ++ pins, p.1 ≠ a) : Inv X pins σ (upd H a (ExC a C)) s := by
  obtain ⟨ha, hna, hnL, hnF, hnc⟩ := I.pin (a, oe) (List.mem_append_right _ List.mem_cons_self)
  refine ⟨I.ok, I.os, I.bare, ⟨I.base.keep, I.base.slot, fun b o q n hx => ?_, I.base.there, fun b xs q => ?_, fun b o u q => ?_, fun b ps q => ?_⟩, I.loc, I.cell, ?_, fun x c e => ?_, fun p hp => ?_, I.hok.laidN (fun _ _ z => z) hna (exC_ok ha hz hd), I.len⟩
  · rw [upd_ne (fun e => by rw [e, n0] at q; cases q)]
    exact I.base.free b o q n hx
  · have := I.base.tups b xs q
    rw [upd_ne (ne_of_none this hna)]
    exact this
  · have := I.base.frzs b o u q
    rw [upd_ne (ne_of_none this hna)]
    exact this
  · obtain ⟨m, z⟩ := I.base.tbls b ps q
    exact ⟨m, by rw [upd_ne (ne_of_none z hna)]; exact z⟩
  · rw [upd_ne (Ne.symm hnL)]
    exact I.free
  · rw [upd_ne (fun e2 => ?_)]
    · exact I.freeC x c e
    · obtain ⟨v, o, ho, hd2⟩ := I.cell x c e
      rw [e2] at ho
      have ha' : s.heap.get? a = some oe := ha
      rw [ha'] at ho
      cases ho
      exact hnc _ hd2
  · obtain ⟨e, n, ne, nf, d⟩ := I.pin p (by
      rcases List.mem_append.mp hp with h | h
      · exact List.mem_append_left _ h
      · exact List.mem_append_right _ (List.mem_cons_of_mem _ h))
    exact ⟨e, by rw [upd_ne (np p hp)]; exact n, ne, nf, d⟩
/-- what the clause 'except x as n: y = n' wishes of an exception of the body: slot i is n's, slot j y's -/
def wKeep (K : PySem.W.Frag) (c : Value) (i j : Nat) (Wout : WX) (D : Ends) : WX := fun cls d σ H =>
  ∃ b, PySem.W.exmOne K cls c = some b ∧ (b = true → ∃ C : Addr, cls = .ref C ∧ d = none ∧ ∀ a, H a = none → D.nx ((σ.set j (some (.ref a))).set i none) (upd H a (ExC a C))) ∧ (b = false → Wout cls d σ H)
end
section
variable {X : Cx} {x n y : Str} {c : Value} {i j : Nat} {body : List Stmt} {np pos pos' p1 p2 p3 : Pos} {tb : WX → TS} {Wout : WX}
theorem ps_try_keep (hs : X.stack = X.env :: X.outer) (hf : X.env.frame = some X.env.locals) (hex : X.ex = []) (hN : X.N.Nodup) (hi : X.N[i]? = some n) (hln : X.env.kindOf n = some .local) (hvn : Vis X.env.scope n) (hdn : (n == ("__debug__" : Str)) = false) (hcn : (n == ("__classdict__" : Str)) = false)
    (hj : X.N[j]? = some y) (hly : X.env.scope.names.lookup y = some .local) (hij : i ≠ j) (hc : Names X x c) (tk : Takes X Wout)
    (hsw : swapsWith (.Name n p2) (some (.Name y p1)) p3.line X.env = pure false)
    (hb : ∀ (W : WX) (pn : List (Addr × Obj)) (xe : Value → Shared → Prop), Takes (X.tr pn xe) W → PassesOwn (model X.prog X.w) X.A X.env xe → PSs (X.tr pn xe) body (tb W)) :
    PS X (.Try body [.ExceptHandler (some (.Name x np)) (some n) [.Assign [.Name y p1] (.Name n p2) p3] pos'] [] [] pos) (fun D σ H => tb (wKeep X.K c i j Wout D) D σ H) := by
  refine ⟨fun pins s σ H D I h => ?_⟩
  have ok := I.ok
  have hfr : X.A.frames = some (X.env :: X.outer) := by rw [ok.frames, hs]
  have hloc : Loc X.env.scope n := .inl hln
  refine wpAny_Try_except ?_
  refine wpAny_mono ((hb (wKeep X.K c i j Wout D) (X.pn ++ pins) (fun e s₁ => wpAny (model X.prog X.w) X.A (noteFrame e X.env) (fun _ s₂ => wpAny (model X.prog X.w) X.A (setFlight e none) (fun _ s₃ =>
    wpAny (model X.prog X.w) X.A (handleBy e X.env [.ExceptHandler (some (.Name x np)) (some n) [.Assign [.Name y p1] (.Name n p2) p3] pos']) (SP X pins D) X.xe s₃) X.xe s₂) X.xe s₁) (fun u s' xx => ?_) PassesOwn.looking).run [] s σ H D (I.toTry _) h) (fun f s1 hsp => ?_) (fun e s1 he => he)
  · -- the catch
    obtain ⟨a, B, sI, pins', σ', H', cls, d, rfl, J', nb, up, sky, na, os, ag, b, hb1, hyes, hno⟩ := xx
    have J : Inv X pins σ' H' sI := J'.ofTry ok
    have sky' : Sky B (X.env :: X.outer) a (Zc cls d) X.env.locals s'.heap := by rw [← hs]; exact sky
    show wpAny (model X.prog X.w) X.A (noteFrame (.ref a) X.env) _ _ _
    refine Sky.land Zc.steady hfr hf sky' fun h3 fl3 up3 => ?_
    have J3 : Inv X pins σ' H' { s' with heap := h3 } := J.landed nb fl3.1 (up.trans up3) os ag
    obtain ⟨oe3, vs3, he3, hz3, hd3⟩ := fl3.there
    have notFr : ∀ {h : Heap} {o : Obj} {vs : Array Value}, h.FunFrames B (X.env :: X.outer) → h.get? a = some o → o.data = .fields vs → a ∉ frs (X.env :: X.outer) := fun {h o vs} ff e dd hm => by
      obtain ⟨_, o', e', hnf⟩ := ff.mem hm
      rw [e] at e'; cases e'
      exact hnf _ dd
    have nfr := notFr fl3.2.2.1 he3 hd3
    have nL : a ≠ X.env.locals := fun z => nfr (List.mem_filterMap.mpr ⟨X.env, List.mem_cons_self, by rw [hf, z]⟩)
    have nF : a ∉ X.fs := fun hm => by
      obtain ⟨e, he, q⟩ := List.mem_filterMap.mp hm
      exact nfr (List.mem_filterMap.mpr ⟨e, List.mem_cons_of_mem _ he, q⟩)
    have nB : B.get? a = none := fl3.2.1
    have nfrX : a ∉ frs X.stack := by rw [hs]; exact nfr
    have n0 : X.s_0.heap.get? a = none := by
      cases q : X.s_0.heap.get? a with
      | none => rfl
      | some o =>
        obtain ⟨o', q'⟩ := J.base.there a o q (by rw [hex]; exact fun z => nomatch z)
        have := nb a o' q' nfrX
        rw [nB] at this
        cases this
    have np' : ∀ p ∈ X.pn ++ pins, p.1 ≠ a := fun p hp e => by
      obtain ⟨e1, _, e3, e4, _⟩ := J.pin p hp
      have hns : p.1 ∉ frs X.stack := fun hm => by
        rcases List.mem_cons.mp (J.stkSub _ hm) with z | z
        · exact e3 z
        · exact e4 z
      have := nb p.1 p.2 e1 hns
      rw [e, nB] at this
      cases this
    have S3 := J3.suite he3 hd3 na nL nF
    refine wpAny_handleBy_cons (codeAny_handlers_test ?_) (by intro q; cases q)
    have LT : PySem.W.Looks (model X.prog X.w) h3 (typeOf (.ref a)) cls := fun A Q E s k q => wpAny_typeOf_ref (k _ _ he3) (by rw [hz3.1]; exact q)
    have LM := PySem.W.exm_one (M := model X.prog X.w) (J3.kIn) LT hb1
    have test : ∀ {Q : Value → Shared → Prop} {E : Value → Shared → Prop}, Q c { s' with heap := h3 } → wpAny (model X.prog X.w) (X.A.mark (some (.ref a))) (eval (.Name x np) X.env) Q E { s' with heap := h3 } := fun {Q E} q => by
      obtain ⟨hg, hdbg, hm | ⟨hm, hv, hnn⟩⟩ := hc
      · exact ld_glob (X := X.suite a ((a, oe3) :: (X.pn ++ pins))) S3 hg hm q hdbg
      · exact ld_blt (X := X.suite a ((a, oe3) :: (X.pn ++ pins))) S3 hg hm hv q hnn hdbg
    refine test (LM.here ?_)
    cases b with
    | true =>
      obtain ⟨C, rfl, rfl, hnx⟩ := hyes rfl
      refine codeAny_handlers_suite_as ?_
      refine HandSPX.lands_againZ fl3 fun h4 fl4 up4 => ?_
      have J4 : Inv X pins σ' H' { s' with heap := h4 } := J.landed nb fl4.1 ((up.trans up3).trans up4) os ag
      obtain ⟨oe4, vs4, he4, hz4, hd4⟩ := fl4.there
      have S4 := J4.suite he4 hd4 na nL nF
      refine store_ok (X := X.suite a ((a, oe4) :: (X.pn ++ pins))) (v := .ref a) S4 hN hi hloc rfl (fun s5 S5 => ?_) (.inr hln)
      have hsu : PSs (X.suite a ((a, oe4) :: (X.pn ++ pins))) [.Assign [.Name y p1] (.Name n p2) p3] (tAsg (tVar i) (gName j)) :=
        pss_one (ps_set (X := X.suite a ((a, oe4) :: (X.pn ++ pins))) hN hj (.inl hly) (pe_var (X := X.suite a ((a, oe4) :: (X.pn ++ pins))) (i := i) hi hvn hdn hcn) hsw (.inr hly))
      have hlen : i < σ'.length := by
        rw [J.len]
        exact (List.getElem?_eq_some_iff.mp hi).1
      have hget : (σ'.set i (some (.ref a)))[i]? = some (some (V.ref a)) := List.getElem?_set_self hlen
      refine wpAny_mono (hsu.run [] s5 _ H' { nx := fun σ6 H6 => σ6 = (σ'.set i (some (.ref a))).set j (some (.ref a)) ∧ H6 = H', rt := fun _ _ => False } S5 ⟨_, hget, rfl, rfl⟩) (fun f s6 hsp => ?_) (fun _ _ z => False.elim z)
      cases f with
      | next =>
        obtain ⟨σ6, H6, S6, e61, e62⟩ := hsp
        rw [e61, e62] at S6
        have J6 : Inv X ((a, oe4) :: pins) ((σ'.set i (some (.ref a))).set j (some (.ref a))) H' s6 :=
          ⟨ok, S6.os, S6.bare, S6.base, S6.loc, S6.cell, S6.free, S6.freeC, fun p hp => S6.pin p (List.mem_append_left _ (by
            rcases List.mem_append.mp hp with z | z
            · exact List.mem_cons_of_mem _ (List.mem_append_left _ z)
            · rcases List.mem_cons.mp z with z | z
              · rw [z]; exact List.mem_cons_self
              · exact List.mem_cons_of_mem _ (List.mem_append_right _ z))), S6.hok, S6.len⟩
        show wpAny (model X.prog X.w) X.A (do bindName X.env n .none; unbindBehindTheSuite X.env n pos') _ X.xe s6
        refine gone_ok J6 hN hi hln fun s7 J7 => ?_
        have e7 : ((σ'.set i (some (V.ref a))).set j (some (.ref a))).set i none = (σ'.set j (some (.ref a))).set i none := by
          rw [List.set_comm _ _ hij, List.set_set]
        rw [e7] at J7
        exact ⟨_, _, J7.adopt hz4 hd4 n0 np', hnx a na⟩
      | brk =>
        obtain ⟨_, _, _, z⟩ := hsp
        exact z.elim
      | cont =>
        obtain ⟨_, _, _, z⟩ := hsp
        exact z.elim
      | ret u =>
        obtain ⟨_, _, _, _, _, z⟩ := hsp
        exact z.elim
    | false =>
      show wpAny _ X.A (handleBy (.ref a) X.env []) _ _ _
      refine wpAny_handleBy_nil ?_
      obtain ⟨k1, k2, k3, oe, vs, T, oT, ts', he, hz, hd, h1, hr⟩ := id fl3
      unfold PySem.passOn
      refine wpAny_bind (wpAny_field he hd h1 ?_)
      rw [if_neg (show ¬ ((Value.ref T == Value.none) = true) from by simp)]
      have fin : wpAny (model X.prog X.w) X.A (setFlight (.ref a) X.env.frame) (fun _ s4 => wpAny (model X.prog X.w) X.A (throw (.ref a) : Sem Flow) (SP X pins D) X.xe s4) X.xe { s' with heap := h3 } := by
        rw [hf]
        refine HandSPX.setFlight_upZ fl3 fun h4 hh4 up4 => wpAny_throw (tk _ _ ?_)
        exact ⟨a, B, sI, pins, σ', H', cls, d, rfl, J, nb, (up.trans up3).trans up4, .inr (.inr (by rw [hs]; exact hh4)), na, os, ag, hno rfl⟩
      first
        | exact wpAny_bind (wpAny_pure (wpAny_bind fin))
        | exact wpAny_bind fin
  · cases f with
    | next =>
      obtain ⟨σ', H', J', q⟩ := hsp
      exact wpAny_execs_nil ⟨σ', H', J'.ofTry ok, q⟩
    | brk =>
      obtain ⟨σ', H', J', q⟩ := hsp
      exact ⟨σ', H', J'.ofTry ok, q⟩
    | cont =>
      obtain ⟨σ', H', J', q⟩ := hsp
      exact ⟨σ', H', J'.ofTry ok, q⟩
    | ret u =>
      obtain ⟨v, σ', H', J', r, q⟩ := hsp
      exact ⟨v, σ', H', J'.ofTry ok, r, q⟩
end
end L2
/-! caught exceptions: their class asked for; own classes by name; try: f(..) / except C as e: y = e -/
namespace DL
open PySem PySem.Spec PyProof.Rows L2
/-- what isinstance tells of an exception of the class called c, of the classes in l -/
structure XIs (K : PySem.W.Frag) (c : Str) (l : List (Str × Bool)) : Prop where
  ex : ∃ C : Addr, PySem.W.nsIn K mainGlobals c = some (some (.ref C)) ∧ ExcC K C ∧ PySem.W.kitOne K (.ref C) (.type "ValueError") = some true ∧ ∀ q ∈ l, ∃ C' : Addr, PySem.W.nsIn K mainGlobals q.1 = some (some (.ref C')) ∧ PySem.W.kitOne K (.ref C) (.ref C') = some q.2
abbrev XTab := List (Str × List (Str × Bool))
def XTok (K : PySem.W.Frag) (T : XTab) : Prop := ∀ q ∈ T, XIs K q.1 q.2
def lookX {α : Type} : List (Str × α) → Str → Option α
  | [], _ => none
  | (a, b) :: r, x => if a = x then some b else lookX r x
theorem lookX_mem {α : Type} : ∀ {l : List (Str × α)} {x : Str} {b : α}, lookX l x = some b → (x, b) ∈ l
  | [], _, _, h => by cases h
  | (a, b) :: r, x, c, h => by
    unfold lookX at h
    by_cases e : a = x
    · rw [if_pos e] at h
      cases h
      rw [e]
      exact List.mem_cons_self
    · rw [if_neg e] at h
      exact List.mem_cons_of_mem _ (lookX_mem h)
def anyX (l : List (Str × Bool)) : List D → Option Bool
  | [] => some false
  | .cls c :: r => match lookX l c, anyX l r with
    | some b, some b' => some (b || b')
    | _, _ => none
  | _ => none
def gIsX (T : XTab) : GN := fun xs S Q => match xs with
  | [.exc c, .cls c'] => ∃ l b, lookX T c = some l ∧ lookX l c' = some b ∧ Q (.bl b) S
  | [.exc c, .tup ds] => ∃ l b, lookX T c = some l ∧ anyX l ds = some b ∧ Q (.bl b) S
  | [.exc c, .ty n] => (lookX T c).isSome ∧ n = "ValueError" ∧ Q (.bl true) S
  | _ => False
def rIsX (K : PySem.W.Frag) : List V → Hp → VK → Prop := fun xs H Q => ∃ (a C : Addr) (c : V) (b : Bool), xs = [.ref a, c] ∧ H a = some (ExC a C) ∧ ExcC K C ∧
  ((∃ cv, ClsV c cv ∧ PySem.W.kitOne K (.ref C) cv = some b) ∨ ∃ (tp : Addr) (cs : List V) (us : List Value), c = .ref tp ∧ SqT K H tp cs ∧ Paired ClsV cs us ∧ PySem.W.kitAny K (.ref C) us = some b) ∧ Q (.bl b) H
section
variable {X : Cx}
theorem call_isX : CallR X (.builtin "isinstance") (rIsX X.K) := by
  intro pins s σ H xs us Q I r h
  obtain ⟨a, C, c, b, rfl, ha, EC, how, q⟩ := h
  obtain ⟨u1, u2, rfl, r1, r2⟩ := vals2 r
  cases (show u1 = Value.ref a from r1)
  obtain ⟨⟨oe, vs, e, hz, hd⟩, _⟩ := (show ObjOk X.prog X.w H s.heap a (ExC a C) from I.hok a _ ha)
  have J : PySem.W.InstAt s.heap a oe C none := by
    obtain ⟨oc, od, oda, osl⟩ := oe
    obtain ⟨h1, h2⟩ := hz
    dsimp only at h1 h2 hd
    subst h1 h2 hd
    exact ⟨e, rfl, rfl, trivial⟩
  have Z := PySem.W.handS_kitx_exc (x := a) (ox := oe) EC.hg EC.hk EC.hs EC.hd EC.ha EC.hn EC.ht EC.hm
  rcases how with ⟨cv, k, e2⟩ | ⟨tp, cs, ws, rfl, hT, k, e2⟩
  · have e3 := k.eq r2
    subst e3
    exact PySem.W.kia_one Z I.kIn J e2 (fun z => nomatch z) fun tk => ⟨.bl b, H, I.tok tk, rfl, q⟩
  · cases (show u2 = Value.ref tp from r2)
    obtain ⟨its, rv, ⟨o, h1, h2, n, h3⟩, _⟩ := I.tuple hT
    have e3 := ClsV.all k rv
    subst e3
    obtain ⟨oc, od, dt, sl⟩ := o
    simp only at h2 h3
    subst h2 h3
    exact PySem.W.kia_tup Z I.kIn J h1 e2 (fun z => nomatch z) fun tk => ⟨.bl b, H, I.tok tk, rfl, q⟩
theorem anyX_ok {K : PySem.W.Frag} {H : Hp} {C : Addr} {l : List (Str × Bool)} (hl : ∀ q ∈ l, ∃ C' : Addr, PySem.W.nsIn K mainGlobals q.1 = some (some (.ref C')) ∧ PySem.W.kitOne K (.ref C) (.ref C') = some q.2) :
    ∀ {ds : List D} {vs : List V} {b : Bool}, Reps K H vs ds → anyX l ds = some b → ∃ us, Paired ClsV vs us ∧ (PySem.W.kitAny K (.ref C) us = some b)
  | [], _, b, .nil, h => by
    cases h
    exact ⟨[], .nil, kitAny_nil⟩
  | d :: ds, _, b, .cons (v := v) (vs := vs) hr rr, h => by
    cases d with
    | cls c =>
      unfold anyX at h
      cases hr with
      | @cls C1 c n =>
        cases q : lookX l c with
        | none => rw [q] at h; cases h
        | some b1 =>
          obtain ⟨C', n', k⟩ := hl _ (lookX_mem q)
          rw [n] at n'
          cases n'
          cases q2 : anyX l ds with
          | none => rw [q, q2] at h; cases h
          | some b2 =>
            rw [q, q2] at h
            cases h
            obtain ⟨us, p, k2⟩ := anyX_ok hl rr q2
            exact ⟨_, .cons (.own C1) p, kitAny_cons (b := b1) k (fun e => by rw [e, k2]; rfl) fun e => by rw [e]; rfl⟩
    | _ => cases h
theorem b_isX {T : XTab} (hT : XTok X.K T) : CB X "isinstance" (gIsX T) := by
  refine ⟨_, call_isX, fun xs as S H Q Kt s r q k => ?_⟩
  match as, q with
  | [.exc c, .cls c'], q =>
    obtain ⟨v, v2, rfl, rv, rv2⟩ := reps2 r
    obtain ⟨l, b, h1, h2, q⟩ := q
    obtain ⟨C, n1, EC, _, hl⟩ := hT _ (lookX_mem h1)
    cases rv with
    | @exc a C0 c n h =>
      have n1 : PySem.W.nsIn X.K mainGlobals c = some (some (.ref C)) := n1
      rw [n] at n1
      cases n1
      cases rv2 with
      | @cls C1 c' n2 =>
        obtain ⟨C', n', kk⟩ := hl _ (lookX_mem h2)
        have n' : PySem.W.nsIn X.K mainGlobals c' = some (some (.ref C')) := n'
        rw [n2] at n'
        cases n'
        exact ⟨a, _, _, b, rfl, h, EC, .inl ⟨_, .own C1, kk⟩, k.now s (.bl _) q⟩
  | [.exc c, .ty n], q =>
    obtain ⟨v, v2, rfl, rv, rv2⟩ := reps2 r
    obtain ⟨h1, rfl, q⟩ := q
    obtain ⟨l, h1⟩ := Option.isSome_iff_exists.mp h1
    obtain ⟨C, n1, EC, kv, _⟩ := hT _ (lookX_mem h1)
    cases rv with
    | @exc a C0 c n h =>
      have n1 : PySem.W.nsIn X.K mainGlobals c = some (some (.ref C)) := n1
      rw [n] at n1
      cases n1
      cases rv2
      exact ⟨a, _, _, true, rfl, h, EC, .inl ⟨_, .ty _, kv⟩, k.now s (.bl _) q⟩
  | [.exc c, .tup ds], q =>
    obtain ⟨v, v2, rfl, rv, rv2⟩ := reps2 r
    obtain ⟨l, b, h1, h2, q⟩ := q
    obtain ⟨C, n1, EC, _, hl⟩ := hT _ (lookX_mem h1)
    cases rv with
    | @exc a C0 c n h =>
      have n1 : PySem.W.nsIn X.K mainGlobals c = some (some (.ref C)) := n1
      rw [n] at n1
      cases n1
      cases rv2 with
      | @tup tp vs ds hs rr =>
        obtain ⟨us, p, kk⟩ := anyX_ok hl rr h2
        exact ⟨a, _, _, b, rfl, h, EC, .inr ⟨tp, vs, us, rfl, hs, p, kk⟩, k.now s (.bl _) q⟩
/-- an own class by its name -/
structure ClsT (K : PySem.W.Frag) (mg : Str → Option Value) (c : Str) : Prop where
  ex : ∃ C : Addr, mg c = some (.ref C) ∧ PySem.W.nsIn K mainGlobals c = some (some (.ref C))
theorem c_cls {x : Str} {pos : Pos} (h : ClsT X.K X.mg x) (hg : Gl X x := by rfl) (hd : (x == ("__debug__" : Str)) = false := by decide) : CE X (.Name x pos) (eC (.cls x)) :=
  let ⟨C, h1, h2⟩ := h.ex; c_glob (v := .ref C) hg h1 rfl (fun _ => .cls h2) hd
/-- try: f(..) / except C as e: y = e; slot i is e's, slot j y's; L: the classes that C takes -/
def sKeep (i j n : Nat) (m : MFX) (fs : DA) (L : List Str) : DS := fun D0 σ S => fs σ S fun ds S1 => ds.length = n ∧ m ds S1 (fun _ S2 => D0.nx σ S2) fun c S2 => c ∈ L ∧ D0.nx ((setS j (.exc c) σ).set i none) S2
/-- .. z = f(..) .. -/
def sKeepS (i j z n : Nat) (m : MFX) (fs : DA) (L : List Str) : DS := fun D0 σ S => fs σ S fun ds S1 => ds.length = n ∧ m ds S1 (fun d S2 => D0.nx (setS z d σ) S2) fun c S2 => c ∈ L ∧ D0.nx ((setS j (.exc c) σ).set i none) S2
variable {a : Expr} {es : List Expr} {fs : DA} {pos : Pos}
/-- what is told of a kept exception -/
theorem keep_rch {i j : Nat} {σ : Env} {S S2 : Sto} {H H2 : Hp} {sv : L2.St} {D0 : DEnds} {Dv : Ends} {K : PySem.W.Frag} {c : Str} {C b : Addr} (re : ERep K H sv σ) (k : RchE K S H D0 Dv) (s2 : Stp K S H S2 H2) (r2 : SRep K S2 H2) (n : PySem.W.nsIn K mainGlobals c = some (some (.ref C))) (hb : H2 b = none)
    (q : D0.nx ((setS j (.exc c) σ).set i none) S2) : Dv.nx ((sv.set j (some (.ref b))).set i none) (upd H2 b (ExC b C)) := by
  have tx := tx_new (K := K) (ho := ExC b C) hb
  have r3 : SRep K S2 (upd H2 b (ExC b C)) := fun a o e => (r2 a o e).mono tx (upd_ne (neS e (r2.free hb)))
  have st : Stp K S2 H2 S2 (upd H2 b (ExC b C)) := ⟨tx, fun z o a e => ⟨a, by rw [upd_ne (ne_of_none e hb)]; exact e⟩⟩
  have e3 := ((re.mono s2.tx).mono tx).set (i := j) (v := .ref b) (d := .exc c) (.exc n upd_same)
  exact k.nx _ _ _ _ (s2.trans st) r3 (e3.wipe1 (i := i)) q
theorem s_keep {i j jj kk n : Nat} {m : MFX} {y e fx c0 : Str} {C : Value} {L : List Str} {pp np p1 p2 p3 pos2 pos3 pos4 : Pos} (hs : X.stack = X.env :: X.outer) (hf : X.env.frame = some X.env.locals) (hex : X.ex = []) (hN : X.N.Nodup) (hi : X.N[i]? = some e) (hln : X.env.scope.names.lookup e = some .local)
    (hj : X.N[j]? = some y) (hly : X.env.scope.names.lookup y = some .local) (hij : i ≠ j) (hr : RoomG jj X.A) (F : OkfX X.prog X.w X.K X.mg X.base kk fx n m) (hk : kk ≤ jj) (ha : CAU X (a :: es) fs) (hc0 : Names X c0 C)
    (hL : ∀ c ∈ L, ∃ C' : Addr, X.mg c = some (.ref C') ∧ PySem.W.nsIn X.K mainGlobals c = some (some (.ref C')) ∧ PySem.W.exmOne X.K (.ref C') C = some true) (hdn : (e == ("__debug__" : Str)) = false := by decide) (hcn : (e == ("__classdict__" : Str)) = false := by decide)
    (hg : Gl X fx := by rfl) (hdb : (fx == ("__debug__" : Str)) = false := by decide) (he : starEach (a :: es) X.env = (false, eval a X.env) :: starEach es X.env := by rfl) (hpl : (backTo pos (starEach es X.env)).any (·.1) = false := by rfl)
    (hsw : swapsWith (.Name e p2) (some (.Name y p1)) p3.line X.env = pure false := by rfl) (hsw2 : swapsWith (.Call (.Name fx pp) (a :: es) [] pos) none pos2.line X.env = pure false := by rfl) :
    CS X (.Try [.Expr (.Call (.Name fx pp) (a :: es) [] pos) pos2] [.ExceptHandler (some (.Name c0 np)) (some e) [.Assign [.Name y p1] (.Name e p2) p3] pos3] [] [] pos4) (sKeep i j n m fs L) := by
  obtain ⟨f, fd, ps, hl, F, hm, hk2, hb⟩ := F
  obtain ⟨ta, ha, sa⟩ := ha
  refine ⟨_, ps_try_keep hs hf hex hN hi hln (.inl hln) hdn hcn hj hly hij hc0 takes0 hsw (tb := fun W => fun D σ H => tCallS (spX X.K X.mg n m) (WE W) ta σ H fun _ H' => D.nx σ H') (fun W pn xe tk _ => pss_one (ps_expr (X := X.tr pn xe) (pe_callGS (X := X.tr pn xe) F (hr.mono' hk) hg hm hk2 hb (fun σ => passAt tk σ) (ha pn xe) hdb he hpl) hsw2)),
    fun D0 σ S Dv sv H re rs q k => ?_⟩
  refine sa σ S _ sv H _ re rs q fun vs ds S1 H1 s1 r1 v1 q1 => ?_
  refine ⟨by rw [v1.length]; exact q1.1, ds, S1, _, _, v1, r1, q1.2, fun v d S2 H2 s2 r2 v2 q2 => ?_, fun c cls S2 H2 s2 r2 e2 q2 => ?_⟩
  · exact k.nx _ _ _ _ (s1.trans s2) r2 (re.mono (s1.trans s2).tx) q2
  · obtain ⟨hc, q2⟩ := q2
    obtain ⟨C', g1, n1, g2⟩ := hL c hc
    rw [e2] at g1
    cases g1
    exact ⟨true, g2, fun _ => ⟨C', rfl, rfl, fun b hb => keep_rch re k (s1.trans s2) r2 n1 hb q2⟩, fun z => nomatch z⟩
theorem s_keepS {i j z jj kk n : Nat} {m : MFX} {y e y2 fx c0 : Str} {C : Value} {L : List Str} {pp np p1 p2 p3 p4 pos2 pos3 pos4 : Pos} (hs : X.stack = X.env :: X.outer) (hf : X.env.frame = some X.env.locals) (hex : X.ex = []) (hN : X.N.Nodup) (hi : X.N[i]? = some e) (hln : X.env.scope.names.lookup e = some .local)
    (hj : X.N[j]? = some y) (hly : X.env.scope.names.lookup y = some .local) (hz : X.N[z]? = some y2) (hlz : X.env.scope.names.lookup y2 = some .local) (hij : i ≠ j) (hr : RoomG jj X.A) (F : OkfX X.prog X.w X.K X.mg X.base kk fx n m) (hk : kk ≤ jj) (ha : CAU X (a :: es) fs) (hc0 : Names X c0 C)
    (hL : ∀ c ∈ L, ∃ C' : Addr, X.mg c = some (.ref C') ∧ PySem.W.nsIn X.K mainGlobals c = some (some (.ref C')) ∧ PySem.W.exmOne X.K (.ref C') C = some true) (hdn : (e == ("__debug__" : Str)) = false := by decide) (hcn : (e == ("__classdict__" : Str)) = false := by decide)
    (hg : Gl X fx := by rfl) (hdb : (fx == ("__debug__" : Str)) = false := by decide) (he : starEach (a :: es) X.env = (false, eval a X.env) :: starEach es X.env := by rfl) (hpl : (backTo pos (starEach es X.env)).any (·.1) = false := by rfl)
    (hsw : swapsWith (.Name e p2) (some (.Name y p1)) p3.line X.env = pure false := by rfl) (hsw2 : swapsWith (.Call (.Name fx pp) (a :: es) [] pos) (some (.Name y2 p4)) pos2.line X.env = pure false := by rfl) :
    CS X (.Try [.Assign [.Name y2 p4] (.Call (.Name fx pp) (a :: es) [] pos) pos2] [.ExceptHandler (some (.Name c0 np)) (some e) [.Assign [.Name y p1] (.Name e p2) p3] pos3] [] [] pos4) (sKeepS i j z n m fs L) := by
  obtain ⟨f, fd, ps, hl, F, hm, hk2, hb⟩ := F
  obtain ⟨ta, ha, sa⟩ := ha
  refine ⟨_, ps_try_keep hs hf hex hN hi hln (.inl hln) hdn hcn hj hly hij hc0 takes0 hsw (tb := fun W => tAsg (tCallS (spX X.K X.mg n m) (WE W) ta) (gName z)) (fun W pn xe tk _ => pss_one (ps_set (X := X.tr pn xe) hN hz (.inl hlz) (pe_callGS (X := X.tr pn xe) F (hr.mono' hk) hg hm hk2 hb (fun σ => passAt tk σ) (ha pn xe) hdb he hpl) hsw2 (.inr hlz))),
    fun D0 σ S Dv sv H re rs q k => ?_⟩
  refine sa σ S _ sv H _ re rs q fun vs ds S1 H1 s1 r1 v1 q1 => ?_
  refine ⟨by rw [v1.length]; exact q1.1, ds, S1, _, _, v1, r1, q1.2, fun v d S2 H2 s2 r2 v2 q2 => ?_, fun c cls S2 H2 s2 r2 e2 q2 => ?_⟩
  · exact k.nx _ _ _ _ (s1.trans s2) r2 ((re.mono (s1.trans s2).tx).set v2) q2
  · obtain ⟨hc, q2⟩ := q2
    obtain ⟨C', g1, n1, g2⟩ := hL c hc
    rw [e2] at g1
    cases g1
    exact ⟨true, g2, fun _ => ⟨C', rfl, rfl, fun b hb => keep_rch re k (s1.trans s2) r2 n1 hb q2⟩, fun z => nomatch z⟩
end
end DL
namespace DL
open PySem PySem.Spec PyProof.Rows L2
/-- an except clause's class, and classes that it takes -/
structure HndT (K : PySem.W.Frag) (mg : Str → Option Value) (c0 : Str) (L : List Str) : Prop where
  ex : ∃ C : Addr, mg c0 = some (.ref C) ∧ ∀ c ∈ L, ∃ C' : Addr, mg c = some (.ref C') ∧ PySem.W.nsIn K mainGlobals c = some (some (.ref C')) ∧ PySem.W.exmOne K (.ref C') (.ref C) = some true
section
variable {X : Cx} {a : Expr} {es : List Expr} {fs : DA} {pos : Pos}
theorem s_tryS (i : Nat) {j kk n : Nat} {m : MFX} {y fx c0 : Str} {L : List Str} {g : DS} {b₀ : Stmt} {suite : List Stmt} {p1 pp np pos2 pos3 pos4 : Pos} (hN : X.N.Nodup) (hr : RoomG j X.A) (F : OkfX X.prog X.w X.K X.mg X.base kk fx n m) (hk : kk ≤ j) (ha : CAU X (a :: es) fs) (Hd : HndT X.K X.mg c0 L) (hsu : CSu X (b₀ :: suite) g)
    (hs : X.stack = X.env :: X.outer := by rfl) (hf : X.env.frame = some X.env.locals := by rfl) (hi : X.N[i]? = some y := by rfl) (hx : X.env.scope.names.lookup y = some .local := by rfl) (hg0 : Gl X c0 := by rfl) (hd0 : (c0 == ("__debug__" : Str)) = false := by decide)
    (hg : Gl X fx := by rfl) (hdb : (fx == ("__debug__" : Str)) = false := by decide) (he : starEach (a :: es) X.env = (false, eval a X.env) :: starEach es X.env := by rfl) (hpl : (backTo pos (starEach es X.env)).any (·.1) = false := by rfl)
    (hsw : swapsWith (.Call (.Name fx pp) (a :: es) [] pos) (some (.Name y p1)) pos2.line X.env = pure false := by rfl) :
    CS X (.Try [.Assign [.Name y p1] (.Call (.Name fx pp) (a :: es) [] pos) pos2] [.ExceptHandler (some (.Name c0 np)) none (b₀ :: suite) pos3] [] [] pos4) (sTry i n m fs L g) := by
  obtain ⟨C, h1, h2⟩ := Hd
  exact s_trySet hs hf hN hi (.inl hx) (.inr hx) hr F hk ha (C := .ref C) ⟨hg0, hd0, .inl h1⟩ (fun c hc => let ⟨C', g1, _, g3⟩ := h2 c hc; ⟨_, g1, g3⟩) hsu hg hdb he hpl hsw
theorem s_keepE (i j : Nat) {jj kk n : Nat} {m : MFX} {y e fx c0 : Str} {L : List Str} {pp np p1 p2 p3 pos2 pos3 pos4 : Pos} (hN : X.N.Nodup) (hr : RoomG jj X.A) (F : OkfX X.prog X.w X.K X.mg X.base kk fx n m) (hk : kk ≤ jj) (ha : CAU X (a :: es) fs) (Hd : HndT X.K X.mg c0 L)
    (hs : X.stack = X.env :: X.outer := by rfl) (hf : X.env.frame = some X.env.locals := by rfl) (hex : X.ex = [] := by rfl) (hi : X.N[i]? = some e := by rfl) (hln : X.env.scope.names.lookup e = some .local := by rfl) (hj : X.N[j]? = some y := by rfl) (hly : X.env.scope.names.lookup y = some .local := by rfl) (hij : i ≠ j := by decide)
    (hg0 : Gl X c0 := by rfl) (hd0 : (c0 == ("__debug__" : Str)) = false := by decide) (hdn : (e == ("__debug__" : Str)) = false := by decide) (hcn : (e == ("__classdict__" : Str)) = false := by decide)
    (hg : Gl X fx := by rfl) (hdb : (fx == ("__debug__" : Str)) = false := by decide) (he : starEach (a :: es) X.env = (false, eval a X.env) :: starEach es X.env := by rfl) (hpl : (backTo pos (starEach es X.env)).any (·.1) = false := by rfl)
    (hsw : swapsWith (.Name e p2) (some (.Name y p1)) p3.line X.env = pure false := by rfl) (hsw2 : swapsWith (.Call (.Name fx pp) (a :: es) [] pos) none pos2.line X.env = pure false := by rfl) :
    CS X (.Try [.Expr (.Call (.Name fx pp) (a :: es) [] pos) pos2] [.ExceptHandler (some (.Name c0 np)) (some e) [.Assign [.Name y p1] (.Name e p2) p3] pos3] [] [] pos4) (sKeep i j n m fs L) := by
  obtain ⟨C, h1, h2⟩ := Hd
  exact s_keep hs hf hex hN hi hln hj hly hij hr F hk ha (C := .ref C) ⟨hg0, hd0, .inl h1⟩ h2 hdn hcn hg hdb he hpl hsw hsw2
theorem s_keepA (i j z : Nat) {jj kk n : Nat} {m : MFX} {y e y2 fx c0 : Str} {L : List Str} {pp np p1 p2 p3 p4 pos2 pos3 pos4 : Pos} (hN : X.N.Nodup) (hr : RoomG jj X.A) (F : OkfX X.prog X.w X.K X.mg X.base kk fx n m) (hk : kk ≤ jj) (ha : CAU X (a :: es) fs) (Hd : HndT X.K X.mg c0 L)
    (hs : X.stack = X.env :: X.outer := by rfl) (hf : X.env.frame = some X.env.locals := by rfl) (hex : X.ex = [] := by rfl) (hi : X.N[i]? = some e := by rfl) (hln : X.env.scope.names.lookup e = some .local := by rfl) (hj : X.N[j]? = some y := by rfl) (hly : X.env.scope.names.lookup y = some .local := by rfl) (hij : i ≠ j := by decide)
    (hz : X.N[z]? = some y2 := by rfl) (hlz : X.env.scope.names.lookup y2 = some .local := by rfl)
    (hg0 : Gl X c0 := by rfl) (hd0 : (c0 == ("__debug__" : Str)) = false := by decide) (hdn : (e == ("__debug__" : Str)) = false := by decide) (hcn : (e == ("__classdict__" : Str)) = false := by decide)
    (hg : Gl X fx := by rfl) (hdb : (fx == ("__debug__" : Str)) = false := by decide) (he : starEach (a :: es) X.env = (false, eval a X.env) :: starEach es X.env := by rfl) (hpl : (backTo pos (starEach es X.env)).any (·.1) = false := by rfl)
    (hsw : swapsWith (.Name e p2) (some (.Name y p1)) p3.line X.env = pure false := by rfl) (hsw2 : swapsWith (.Call (.Name fx pp) (a :: es) [] pos) (some (.Name y2 p4)) pos2.line X.env = pure false := by rfl) :
    CS X (.Try [.Assign [.Name y2 p4] (.Call (.Name fx pp) (a :: es) [] pos) pos2] [.ExceptHandler (some (.Name c0 np)) (some e) [.Assign [.Name y p1] (.Name e p2) p3] pos3] [] [] pos4) (sKeepS i j z n m fs L) := by
  obtain ⟨C, h1, h2⟩ := Hd
  exact s_keepS hs hf hex hN hi hln hj hly hz hlz hij hr F hk ha (C := .ref C) ⟨hg0, hd0, .inl h1⟩ h2 hdn hcn hg hdb he hpl hsw hsw2
end
end DL
namespace DL
open PySem PySem.Spec PyProof.Rows L2
section
variable {K : PySem.W.Frag} {h : Heap} {mg : Str → Option Value} {c : Str} {C C' : Addr} {b : Bool} {L : List Str}
theorem kitOne_own (hs : PySem.W.subIn K (.ref C) (.ref C) = some true) (hd : PySem.W.isClsIn K C' = true) (ht : PySem.W.typeIn K (.ref C') = some (.type "type")) (hb : PySem.W.subIn K (.ref C) (.ref C') = some b) : PySem.W.kitOne K (.ref C) (.ref C') = some b := by
  unfold PySem.W.kitOne
  by_cases e : C = C'
  · subst e
    rw [hs] at hb
    cases hb
    rw [if_pos (beq_self_eq_true _)]
  · rw [if_neg (fun z => e (Value.ref.inj (beq_iff_eq.mp z)))]
    unfold PySem.W.kitCls
    have e2 : ((PySem.W.clsIn K C').isSome && PySem.W.typeIn K (.ref C') == some (.type "type")) = true := by
      have h2' : (PySem.W.clsIn K C').isSome = true := hd
      rw [h2', ht] <;> rfl
    show (if ((PySem.W.clsIn K C').isSome && PySem.W.typeIn K (.ref C') == some (.type "type")) = true then PySem.W.subIn K (.ref C) (.ref C') else none) = some b
    rw [if_pos e2]
    exact hb
theorem kitOne_ve (hb : PySem.W.subIn K (.ref C) (.type "ValueError") = some true) : PySem.W.kitOne K (.ref C) (.type "ValueError") = some true := by
  unfold PySem.W.kitOne
  rw [if_neg (fun z => by cases beq_iff_eq.mp z)]
  show (if PySem.W.kitMeta "ValueError" = true then PySem.W.subIn K (.ref C) (.type "ValueError") else none) = some true
  rw [if_pos (by decide +kernel)]
  exact hb
theorem clsT_mk (X : K.In h) (G : h.Ns mainGlobals mg) (a : PySem.W.nsIn K mainGlobals c = some (some (.ref C))) : ClsT K mg c := ⟨C, PySem.W.mg_of X G a, a⟩
theorem exT_mk (X : K.In h) (G : h.Ns mainGlobals mg) (a : PySem.W.nsIn K mainGlobals c = some (some (.ref C))) (x : PySem.W.excIn K C [.type "ValueError", .type "Exception", .type "BaseException", .type "object"] "ValueError.__new__" = true) (k : PySem.W.keepIn K (.ref C) = true)
    (bb : PySem.W.subIn K (.ref C) (.type "BaseException") = some true) (t : PySem.W.typeIn K (.ref C) = some (.type "type")) : ExT K mg c := ⟨C, PySem.W.mg_of X G a, x, k, bb, t⟩
theorem sub_mk (a : PySem.W.nsIn K mainGlobals c = some (some (.ref C'))) (s : PySem.W.subIn K (.ref C') (.ref C) = some true) : ∃ C' : Addr, PySem.W.nsIn K mainGlobals c = some (some (.ref C')) ∧ PySem.W.subIn K (.ref C') (.ref C) = some true := ⟨C', a, s⟩
theorem hndT_mk (X : K.In h) (G : h.Ns mainGlobals mg) (a : PySem.W.nsIn K mainGlobals c = some (some (.ref C))) (bb : PySem.W.subIn K (.ref C) (.type "BaseException") = some true) (hd : PySem.W.hasDictIn K C = true) (t : PySem.W.typeIn K (.ref C) = some (.type "type"))
    (hl : ∀ c ∈ L, ∃ C' : Addr, PySem.W.nsIn K mainGlobals c = some (some (.ref C')) ∧ PySem.W.subIn K (.ref C') (.ref C) = some true) : HndT K mg c L :=
  ⟨C, PySem.W.mg_of X G a, fun c1 hc => let ⟨C', h1, h2⟩ := hl c1 hc; ⟨C', PySem.W.mg_of X G h1, h1, PySem.W.exm_ref bb hd t h2⟩⟩
theorem isa_mk {q : Str × Bool} (a : PySem.W.nsIn K mainGlobals q.1 = some (some (.ref C'))) (hd : PySem.W.isClsIn K C' = true) (ht : PySem.W.typeIn K (.ref C') = some (.type "type")) (hb : PySem.W.subIn K (.ref C) (.ref C') = some q.2) :
    ∃ C' : Addr, PySem.W.nsIn K mainGlobals q.1 = some (some (.ref C')) ∧ PySem.W.isClsIn K C' = true ∧ PySem.W.typeIn K (.ref C') = some (.type "type") ∧ PySem.W.subIn K (.ref C) (.ref C') = some q.2 := ⟨C', a, hd, ht, hb⟩
theorem xis_mk {l : List (Str × Bool)} (a : PySem.W.nsIn K mainGlobals c = some (some (.ref C))) (e1 : PySem.W.findIn K (.ref C) "__getattribute__" = some (some (.builtin "BaseException.__getattribute__"))) (e2 : PySem.W.findIn K (.ref C) "__getattr__" = some none)
    (e3 : PySem.W.subIn K (.ref C) (.type "BaseException") = some true) (e4 : PySem.W.hasDictIn K C = true) (e5 : PySem.W.findIn K (.ref C) "__class__" = some (some (.builtin "object.__class__"))) (e6 : PySem.W.specialIn K (.builtin "object.__class__") "__get__" = some (some (.builtin "getset_descriptor.__get__")))
    (e7 : PySem.W.takesIn K (.builtin "object.__class__") = some true) (e8 : PySem.W.mroIn K C (.type "object") = some true) (ve : PySem.W.subIn K (.ref C) (.type "ValueError") = some true) (hs : PySem.W.subIn K (.ref C) (.ref C) = some true)
    (hl : ∀ q ∈ l, ∃ C' : Addr, PySem.W.nsIn K mainGlobals q.1 = some (some (.ref C')) ∧ PySem.W.isClsIn K C' = true ∧ PySem.W.typeIn K (.ref C') = some (.type "type") ∧ PySem.W.subIn K (.ref C) (.ref C') = some q.2) : XIs K c l :=
  ⟨C, a, ⟨e1, e2, e3, e4, e5, e6, e7, e8⟩, kitOne_ve ve, fun q hq => let ⟨C', h1, h2, h3, h4⟩ := hl q hq; ⟨C', h1, kitOne_own hs h2 h3 h4⟩⟩
end
end DL
/-! sorted of tuples that are alike up to the first place that differs -/
namespace DL
open PySem PySem.Spec PyProof.Rows L2 PySem.W PySem.Calls PySem.SeqAt
def likeL : List PyData → List PyData → Bool
  | p :: ps, q :: qs => alike p q && (!(PyData.eqv p q) || likeL ps qs)
  | _, _ => true
def LikeAll (ds : List PyData) : Prop := ∀ d ∈ ds, ∃ p ps, d = .tuple (p :: ps) ∧ ∀ e ∈ ds, ∃ q qs, e = .tuple (q :: qs) ∧ likeL (p :: ps) (q :: qs) = true
theorem like_cons {p q : PyData} {ps qs : List PyData} (h : likeL (p :: ps) (q :: qs) = true) : alike p q = true ∧ (PyData.eqv p q = true → likeL ps qs = true) := by
  unfold likeL at h
  rw [Bool.and_eq_true, Bool.or_eq_true] at h
  refine ⟨h.1, fun e => h.2.resolve_left ?_⟩
  rw [e]
  decide
/-- one value reads as one datum -/
theorem likeL_one {hp : Heap} : ∀ (ps qs : List PyData) (us : List Value) (c1 c2 : List Addr), likeL ps qs = true → ReadsAll hp us ps c1 → ReadsAll hp us qs c2 → ps = qs
  | [], _, _, _, _, _, a, b => by cases a; cases b; rfl
  | p :: ps, [], _, _, _, _, a, b => by cases b; cases a
  | p :: ps, q :: qs, _, _, _, hl, a, b => by
    obtain ⟨h1, h2⟩ := like_cons hl
    cases a with
    | cons a1 a2 =>
      cases b with
      | cons b1 b2 =>
        have e := alike_unique p q _ _ _ h1 a1 b1
        subst e
        rw [likeL_one ps qs _ _ _ (h2 (eqv_refl_alike p h1)) a2 b2]
theorem like_one {hp : Heap} {p q : PyData} {ps qs : List PyData} {u : Value} {c1 c2 : List Addr} (hl : likeL (p :: ps) (q :: qs) = true) (a : Reads hp u (.tuple (p :: ps)) c1) (b : Reads hp u (.tuple (q :: qs)) c2) : PyData.tuple (p :: ps) = .tuple (q :: qs) := by
  cases a with
  | tuple a1 a2 a3 a4 =>
    cases b with
    | tuple b1 b2 b3 b4 =>
      rw [a1] at b1
      cases b1
      rw [a3] at b3
      cases b3
      rw [likeL_one _ _ _ _ _ hl a4 b4]
theorem kind_like {hp : Heap} {ds : List PyData} (hal : LikeAll ds) {u : Value} {d : PyData} {cs : List Addr} (hd : d ∈ ds) (r : Reads hp u d cs) : (dataKind hp ds).keyOf u = some (keyToks d) := by
  cases ek : (dataKind hp ds).keyOf u with
  | some k =>
    obtain ⟨e, cs2, he, r2, rfl⟩ := dataKind_inv ek
    obtain ⟨p, ps, rfl, h2⟩ := hal d hd
    obtain ⟨q, qs, rfl, hl⟩ := h2 e he
    rw [like_one hl r r2]
    rfl
  | none =>
    have hx : ∃ d, d ∈ ds ∧ ∃ as, Reads hp u d as := ⟨d, hd, cs, r⟩
    unfold dataKind at ek
    simp only [dif_pos hx] at ek
    cases ek
theorem depth_mem : ∀ {ps : List PyData} {p : PyData}, p ∈ ps → p.depth ≤ PyData.depthAll ps
  | q :: qs, p, h => by
    rw [PyData.depthAll.eq_2]
    rcases List.mem_cons.mp h with rfl | h
    · omega
    · have := depth_mem h
      omega
section
variable {prog : Program} {w : World} {A : Around} {s : Shared}
theorem lex_like {b fin : Bool} {Q : Bool → Shared → Prop} : ∀ (ps qs : List PyData) (i : Nat) (us ws : List Value) (c1 c2 : List Addr), ReadsAll s.heap us ps c1 → ReadsAll s.heap ws qs c2 → likeL ps qs = true →
    (∀ p ∈ ps, A.units + p.depth < cLine) → (b = true → i = 0 → ∀ x r t, ps = x :: r → x ≠ .tuple t) → fin = decide (ps.length < qs.length) → Q (lexLt itemOrd (keyToksAll ps) (keyToksAll qs)) s → KatLex prog w A b fin Q (us.zip ws) i s
  | [], qs, i, _, _, _, _, ra, rb, hl, hu, h0, hf, hq => by
    cases ra
    have e : lexLt itemOrd (keyToksAll []) (keyToksAll qs) = fin := by
      rw [hf]
      cases qs with
      | nil => rw [lex_irrefl]; rfl
      | cons q qs =>
        rw [toks_all_cons]
        simp only [keyToksAll]
        rw [lex_diff (O := itemOrd) (by simp)]
        simp [itemLt]
    rw [e] at hq
    rw [List.zip_nil_left]
    exact kat_nil hq
  | p :: ps, [], i, _, _, _, _, ra, rb, hl, hu, h0, hf, hq => by
    cases rb
    have ef : fin = false := by rw [hf]; rfl
    subst ef
    have e : lexLt itemOrd (keyToksAll (p :: ps)) (keyToksAll []) = false := by
      rw [toks_all_cons]
      simp only [keyToksAll]
      rw [lex_diff (O := itemOrd) (by simp)]
      simp [itemLt]
    rw [e] at hq
    rw [List.zip_nil_right]
    exact kat_nil hq
  | p :: ps, q :: qs, i, _, _, _, _, ra, rb, hl, hu, h0, hf, hq => by
    obtain ⟨h1, h2⟩ := like_cons hl
    have hf2 : fin = decide (ps.length < qs.length) := by rw [hf, List.length_cons, List.length_cons]; exact decide_eq_decide.mpr (by omega)
    cases ra with
    | cons a1 a2 =>
      cases rb with
      | cons b1 b2 =>
        have hm : A.units + min p.depth q.depth < cLine := Nat.lt_of_le_of_lt (Nat.add_le_add_left (Nat.min_le_left _ _) _) (hu p List.mem_cons_self)
        rw [List.zip_cons_cons]
        refine kat_cons (eqAt_alike p q A s _ _ _ _ a1 b1 h1 hm prog w _ _ ?_)
        cases ee : PyData.eqv p q with
        | true =>
          rw [dataLt_all_yes h1 ee] at hq
          exact kat_yes (lex_like ps qs (i + 1) _ _ _ _ a2 b2 (h2 ee) (fun x hx => hu x (List.mem_cons_of_mem _ hx)) (fun _ z => absurd z (Nat.succ_ne_zero i)) hf2 hq)
        | false =>
          rw [dataLt_all_no h1 ee] at hq
          refine kat_no (oneLt_alike (fun hb t => ?_) a1 b1 h1 (ne_none_of h1 ee) hm hq)
          rw [Bool.and_eq_true] at hb
          exact h0 hb.1 (eq_of_beq hb.2) p ps t rfl
theorem first_tups {hp : Heap} : ∀ {us : List Value} {ds : List PyData}, EachIs (fun v d => ∃ cs, Reads hp v d cs) us ds → (∀ d ∈ ds, ∃ p ps, d = .tuple (p :: ps)) → ∃ fs, KatTups hp us fs ∧ fs.length = us.length ∧ ∀ f ∈ fs, ∃ p ps cs, PyData.tuple (p :: ps) ∈ ds ∧ Reads hp f p cs :=
  fun e h => each_katTups e h
/-- they can be sorted -/
theorem sorts_like {us : List Value} {ds : List PyData} (e : EachIs (fun v d => ∃ cs, Reads s.heap v d cs) us ds) (hal : LikeAll ds) (hu : ∀ d ∈ ds, A.units + d.depth < cLine) : SortsAt prog w A s (dataKind s.heap ds) us := by
  refine ⟨fun v hv => ?_, ?_⟩
  · obtain ⟨d, hd, cs, r⟩ := e.left v hv
    exact ⟨_, kind_like hal hd r⟩
  have htup : ∀ d ∈ ds, ∃ p ps, d = .tuple (p :: ps) := fun d hd => let ⟨p, ps, e, _⟩ := hal d hd; ⟨p, ps, e⟩
  cases hds : ds with
  | nil =>
    subst hds
    cases e
    refine ⟨general', fun E x y a b Q ha _ _ => ?_, fun h2 => absurd h2 (by simp)⟩
    obtain ⟨d, _, hd, _⟩ := dataKind_inv ha
    cases hd
  | cons d0 dr =>
    rw [← hds]
    obtain ⟨p0, ps0, e0, h0⟩ := hal d0 (by rw [hds]; exact List.mem_cons_self)
    have first : ∀ p ps, PyData.tuple (p :: ps) ∈ ds → dataType p = dataType p0 := fun p ps hm => by
      obtain ⟨q, qs, e, hl⟩ := h0 _ hm
      cases e
      exact (dataType_alike (like_cons hl).1).symm
    refine ⟨tuples' (dataType p0 != Value.type "tuple"), fun E x y a b Q ha hb hq => ?_, fun h2 E Q hq => ?_⟩
    · obtain ⟨d1, c1, m1, r1, rfl⟩ := dataKind_inv ha
      obtain ⟨d2, c2, m2, r2, rfl⟩ := dataKind_inv hb
      obtain ⟨p, ps, rfl, h1⟩ := hal d1 m1
      obtain ⟨q, qs, rfl, hl⟩ := h1 d2 m2
      have hq2 : Q (dataLt (.tuple (p :: ps)) (.tuple (q :: qs))) s := hq
      rw [dataLt_tuple] at hq2
      have hdep := hu _ m1
      cases r1 with
      | @tuple l1 o1 v1 k1 _ _ x1 x2 x3 x4 =>
        cases r2 with
        | @tuple l2 o2 v2 k2 _ _ y1 y2 y3 y4 =>
          have n1 : v1.size = (p :: ps).length := by simpa using SeqAt.ReadsAll.length _ _ _ x4
          have n2 : v2.size = (q :: qs).length := by simpa using SeqAt.ReadsAll.length _ _ _ y4
          refine kat_lt x1 x3 y1 y3 (lex_like (p :: ps) (q :: qs) 0 _ _ _ _ x4 y4 hl (fun z hz => ?_) (fun hb' _ x r t ex => ?_) (by rw [n1, n2]) hq2)
          · have := depth_mem hz
            rw [show (PyData.tuple (p :: ps)).depth = PyData.depthAll (p :: ps) + 1 from by unfold PyData.depth; rfl] at hdep
            omega
          · cases ex
            rw [← first p ps m1] at hb'
            exact dataType_tuple hb' t
    · obtain ⟨fs, t1, t2, t3⟩ := first_tups e htup
      refine kat_kind (T := dataType p0) t1 (by omega) (fun f hf => ?_) (beq_self_eq_true _) hq
      obtain ⟨p, ps, cs, m1, m2⟩ := t3 f hf
      rw [← first p ps m1]
      exact looks_reads m2
end
theorem sorted_like {hp : Heap} {β : Type} {R : Value → β → Prop} {enc : β → PyData} {us : List Value} {bs : List β} (e : EachIs R us bs) (er : EachIs (fun v b => ∃ cs, Reads hp v (enc b) cs) us bs) (hal : LikeAll (bs.map enc)) :
    EachIs R (sortVals (dataKind hp (bs.map enc)) false us us) (bs.mergeSort (dataLe false enc)) :=
  sortVals_each (κ := dataKind hp (bs.map enc)) (fun b => keyToks (enc b)) e (each_of_map enc ((each_mem (each_map (R := fun v d => ∃ cs, Reads hp v d cs) enc er)).mono fun _ _ ⟨⟨_, r⟩, hd⟩ => kind_like hal hd r))
section
/-- sorted(xs), where the data are told by enc -/
def rSE (K : PySem.W.Frag) : List V → Hp → VK → Prop := fun vs H Q => ∃ (a : Addr) (xs : List V) (ds : List D) (S : Sto) (kd : D → PyData), vs = [V.ref a] ∧ (SqL K H a xs ∨ SqT K H a xs) ∧ Reps K H xs ds ∧ SRep K S H ∧
  (∀ d ∈ ds, PD S d (kd d)) ∧ LikeAll (ds.map kd) ∧ (∀ d ∈ ds, (kd d).depth ≤ 32) ∧
  ∀ (p : Addr) (ys : List V), H p = none → Reps K H ys (ds.mergeSort (dataLe false kd)) → Q (.ref p) (upd H p (.lst ys))
theorem cr_sorted3 {X : Cx} {k : Nat} (hr : RoomG k X.A) : CallR X (.builtin "sorted") (rSE X.K) := by
  intro pins s σ H vs us Q I r h
  obtain ⟨a, xs, ds, S, kd, rfl, hs, rp, rs, hpd, hal, hd, q⟩ := h
  obtain rfl := Vals.ref1 r
  have main : ∀ (T : String) (o : Obj) (its : List Value) (n : Nat), T = "list" ∨ T = "tuple" → s.heap.get? a = some o → o.cls = .type T → o.data = .seq its.toArray n → Vals xs its → xs.length ≤ sizeLine → wpAny (model X.prog X.w) X.A (call (.builtin "sorted") [.ref a]) (EP X pins σ Q) X.xe s := by
    intro T o its n hT ho hc hdt rv hz
    have hlen := rv.length
    have ei := each_of rp rv
    have er := each_dp I rs hpd rp rv
    refine call_function_entry_kw kind_sorted plain_sorted entry_sorted (args_sorted1 (.ref a)) ?_
    unfold Builtin.sorted
    refine wpAny_bind ?_
    unfold checkCount
    dsimp only
    rw [if_neg (by exact Bool.false_ne_true), if_neg (by exact Nat.lt_irrefl 1), if_neg (by exact Nat.lt_irrefl 1)]
    refine wpAny_pure ?_
    have hsz : its.length ≤ sizeLine := by rw [← hlen]; exact hz
    refine wpAny_bind (wpAny_collect_seq a hT ho hc hdt (fun h1 k1 => ?_) (by simpa using hsz))
    have I1 := I.kept (h' := h1) (t' := s.toks) k1
    refine wpAny_bind (wpAny_newList ?_ (by simpa using hsz))
    have hat : (h1.push { cls := Value.type "list", data := Data.seq its.toArray }).get? h1.objs.size = some (seqObj "list" its.toArray 0) := Heap.get?_push_size h1 rfl
    have k2 : ∀ b o, h1.get? b = some o → (h1.push { cls := Value.type "list", data := Data.seq its.toArray }).get? b = some o := fun b o e => Heap.get?_push_of_some _ e
    refine wpAny_bind (wpAny_holding (wpAny_call_entry_kw slot_list_sort ⟨_, hat, rfl⟩ entry_list_sort ?_ (args_list_sort (.ref h1.objs.size))))
    have hne : ∀ b o, h1.get? b = some o → b ≠ h1.objs.size := fun b o e z => by
      have := Heap.lt_size e
      rw [z] at this
      exact Nat.lt_irrefl _ this
    have er2 : EachIs (fun v d => ∃ as, Reads (sortingHeap (h1.push { cls := Value.type "list", data := Data.seq its.toArray }) h1.objs.size its) v (kd d) as) its ds :=
      er.mono fun v d ⟨as, x⟩ => ⟨as, PyProof.Rows.Reads.keeps (fun b o e => sortingHeap_old (hne b o (k1 b o e)) (k2 b o (k1 b o e))) x⟩
    refine list_sort_vals hat (sorts_like (each_map kd er2) hal (bound_map fun d hd2 => ?_)) hsz ⟨.none, rfl, wpAny_pure ⟨.ref h1.objs.size, rfl, ?_⟩⟩
    · have := hd d hd2
      have := hr.un
      show X.A.units + 1 + 1 + _ < _
      omega
    · have eo := sorted_like ei er2 hal
      obtain ⟨ys, yv, yr⟩ := of_each eo
      have np : H h1.objs.size = none := I1.hok.fresh (Nat.le_refl _)
      have ys_len : ys.length ≤ sizeLine := by
        have h1 := yv.length
        have h2 := eo.length
        have h3 := ei.length
        rw [List.length_mergeSort] at h2
        omega
      obtain ⟨ep, he⟩ := sortedHeap_at (out := (sortVals (dataKind (sortingHeap (h1.push { cls := Value.type "list", data := Data.seq its.toArray }) h1.objs.size its) (ds.map kd)) false its its).toArray) (vs := its) hat
      refine ⟨.ref _, _, I1.laid (a := h1.objs.size) (o := .lst ys) (fun b u e => ?_) (Nat.le_refl _) ⟨ys_len, _, ep, yv, he⟩, rfl, q _ ys np yr⟩
      rw [sortedHeap_old (hne b u e) (Nat.lt_trans (Heap.lt_size e) (by rw [Heap.size_push]; exact Nat.lt_succ_self _))]
      exact k2 b u e
  rcases hs with hs | hs
  · obtain ⟨its, rv, pl, hz⟩ := I.list hs
    obtain ⟨o, ho, hc, n, hd⟩ := pl.isList
    exact main "list" o its n (.inl rfl) ho hc hd rv hz
  · obtain ⟨its, rv, ⟨o, ho, hc, n, hd⟩, hz⟩ := I.tuple hs
    exact main "tuple" o its n (.inr rfl) ho hc hd rv hz
/-- sorted of data, by themselves -/
def gSorted3 : GN := fun xs S Q => ∃ d ds kd, xs = [d] ∧ (itmD S d = some ds ∨ d = .tup ds) ∧ (∀ x ∈ ds, PD S x (kd x)) ∧ LikeAll (ds.map kd) ∧ (∀ x ∈ ds, (kd x).depth ≤ 32) ∧
  ∀ n, S n = none → Q (.ref n) (updS S n (.lst (ds.mergeSort (dataLe false kd))))
theorem b_sorted3 {X : Cx} {k : Nat} (hr : RoomG k X.A) : CB X "sorted" gSorted3 := ⟨rSE X.K, cr_sorted3 hr, fun xs as S H Q Kt rs rv q kk => by
  obtain ⟨d, ds, kd, e, hi, hp, hal, hd, q⟩ := q
  subst e
  cases rv with
  | cons h1 t1 =>
    cases t1
    have fin : ∀ l vs, (SqL X.K H l vs ∨ SqT X.K H l vs) → Reps X.K H vs ds → rSE X.K [V.ref l] H Kt := fun l vs hs r => by
      refine ⟨l, vs, ds, S, kd, rfl, hs, r, rs, hp, hal, hd, fun p ys np ry => ?_⟩
      obtain ⟨st, sr⟩ := stp_new (o := .lst (ds.mergeSort (dataLe false kd))) (ho := .lst ys) rs np ⟨ys, upd_same, ry.mono (tx_new np)⟩
      exact kk _ _ _ _ st sr (.ref p) (q p (rs.free np))
    rcases hi with hi | hi
    · obtain ⟨l, vs, e3, e4, e5⟩ := itmD_rep rs h1 hi
      subst e3
      exact fin l vs (.inl e4) e5
    · subst hi
      cases h1 with
      | @tup a vs ds' h r => exact fin a vs (.inr h) r⟩
/-- sorted: all of these -/
def gSortedB : GN := fun xs S Q => gSortedA xs S Q ∨ gSorted3 xs S Q
theorem b_sortedB {X : Cx} {k : Nat} (hr : RoomG k X.A) : CB X "sorted" gSortedB := by
  obtain ⟨r1, h1, s1⟩ := b_sortedA hr
  obtain ⟨r2, h2, s2⟩ := b_sorted3 hr
  exact ⟨_, L2.CallR.or h1 h2, fun xs as S H Q Kt rs rv q kk => q.elim (fun q => .inl (s1 xs as S H Q Kt rs rv q kk)) fun q => .inr (s2 xs as S H Q Kt rs rv q kk)⟩
end
end DL
/-! x in a list or tuple of data; list.count of data; a tuple whose first thing may raise -/
namespace DL
open PySem PySem.Spec PyProof.Rows L2
section
variable {X : Cx} {K : PySem.W.Frag} {S : Sto} {H : Hp} {a : Expr} {es : List Expr} {fs : DA} {fa : DEX} {pos : Pos}
def gInP (f : Bool → Bool) : G2 := fun x y S Q => ∃ px q ps, PD S x px ∧ PD S y q ∧ (q = .list ps ∨ q = .tuple ps) ∧ px.depth ≤ 64 ∧ Q (.bl (f (ps.any fun p => PyData.eqv p px))) S
def rInP (K : PySem.W.Frag) (f : Bool → Bool) : R2 := fun x y H Q => ∃ d e ps, Dp K H x d ∧ Dp K H y e ∧ (e = .list ps ∨ e = .tuple ps) ∧ d.plain = true ∧ e.plain = true ∧ d.depth ≤ 64 ∧ Q (.bl (f (ps.any fun p => PyData.eqv p d))) H
theorem least_le {m n c : Nat} (h : n ≤ 64) (hc : c + 200 < cLine) : c + 1 + min m n < cLine := by
  have := Nat.min_le_right m n
  omega
theorem opInP (hu : X.A.units + 200 < cLine) : OpR X (compareOp .In) (rInP X.K id) := fun pins s σ H x y v u Q I rx ry ⟨d, e, ps, hd, he, hs, pd, pe, hz, q⟩ => by
  obtain ⟨c1, r1⟩ := hd.reads I d x v rx
  obtain ⟨c2, r2⟩ := he.reads I e y u ry
  rcases hs with rfl | rfl
  · exact SeqAt.in_list_data r2 r1 pe pd (least_le hz hu) ⟨.bl _, H, I, rfl, q⟩
  · exact SeqAt.in_tuple_data r2 r1 pe pd (least_le hz hu) ⟨.bl _, H, I, rfl, q⟩
theorem opNotInP (hu : X.A.units + 200 < cLine) : OpR X (compareOp .NotIn) (rInP X.K not) := fun pins s σ H x y v u Q I rx ry ⟨d, e, ps, hd, he, hs, pd, pe, hz, q⟩ => by
  obtain ⟨c1, r1⟩ := hd.reads I d x v rx
  obtain ⟨c2, r2⟩ := he.reads I e y u ry
  rcases hs with rfl | rfl
  · exact SeqAt.notIn_list_data r2 r1 pe pd (least_le hz hu) ⟨.bl _, H, I, rfl, q⟩
  · exact SeqAt.notIn_tuple_data r2 r1 pe pd (least_le hz hu) ⟨.bl _, H, I, rfl, q⟩
theorem inP_snd {f : Bool → Bool} {x y : V} {p q : D} {Q : DK} {Kt : VK} (s : SRep K S H) (ra : Rep K H x p) (rb : Rep K H y q) (h : gInP f p q S Q) (k : Rch K S H Q Kt) : rInP K f x y H Kt := by
  obtain ⟨px, e, ps, h1, h2, h3, h4, h5⟩ := h
  exact ⟨px, e, ps, PD.dp s h1 ra, PD.dp s h2 rb, h3, h1.plain, h2.plain, h4, k.now s (.bl _) h5⟩
theorem units200 {k : Nat} {A : Around} (h : RoomG k A) : A.units + 200 < cLine := by
  have := h.un
  omega
theorem o_inP {k : Nat} (h : RoomG k X.A) : CO X .In (gInP id) := ⟨_, opInP (units200 h), fun _ _ _ _ _ _ _ _ s ra rb q k => inP_snd s ra rb q k⟩
theorem o_notInP {k : Nat} (h : RoomG k X.A) : CO X .NotIn (gInP not) := ⟨_, opNotInP (units200 h), fun _ _ _ _ _ _ _ _ s ra rb q k => inP_snd s ra rb q k⟩
/-- xs.count(x) -/
def gCount : D → GN := fun x vs S Q => match x, vs with
  | .ref p, [d] => ∃ xs ps q, S p = some (.lst xs) ∧ PDs S xs ps ∧ PD S d q ∧ q.depth ≤ 64 ∧ Q (.int (ps.countP fun y => PyData.eqv y q)) S
  | _, _ => False
def rCnt (K : PySem.W.Frag) : V → List V → Hp → VK → Prop := fun x vs H Q => ∃ v d ps, vs = [v] ∧ Dp K H v d ∧ Dp K H x (.list ps) ∧ d.plain = true ∧ PyData.plainAll ps = true ∧ d.depth ≤ 64 ∧ Q (.int (ps.countP fun y => PyData.eqv y d)) H
theorem mt_count {k : Nat} (hr : RoomG k X.A) : MtR X "list.count" (rCnt X.K) := by
  intro pins s σ H x vs v us Q I rx r h
  obtain ⟨u, d, ps, rfl, hd, hx, pd, pp, hz, q⟩ := h
  obtain ⟨w, rfl, rw_⟩ := vals1 r
  obtain ⟨c1, r1⟩ := hd.reads I d u w rw_
  obtain ⟨c2, r2⟩ := hx.reads I (.list ps) x v rx
  cases r2 with
  | list h1 h2 h3 h4 => exact PySem.SeqAt.count_list_data ⟨_, h1, h2, _, h3⟩ h4 r1 pp pd (least_le hz (units200 hr)) ⟨.int _, H, I.kept (h' := s.heap) (t' := s.toks + 1) (fun _ _ e => e), ⟨_, rfl⟩, q⟩
theorem m_count {k : Nat} (hr : RoomG k X.A) : CM X "list" "count" gCount := by
  refine ⟨_, _, PySem.F.plainAttrs_list, PySem.F.slot_list_count, PySem.F.type_list_count, mt_count hr, fun x a xs as S H Q Kt s rx r q k => ?_⟩
  match a, as, q with
  | .ref p, [d], q =>
    obtain ⟨ys, ps, e, h1, h2, h3, h4, q⟩ := q
    obtain ⟨v, rfl, rv⟩ := reps1 r
    exact ⟨v, e, ps, rfl, PD.dp s h3 rv, PD.dp s (.lst h1 h2) rx, h3.plain, PDs.plain h2, h4, k.now s (.int _) q⟩
/-- a tuple whose first thing may raise -/
def xTup1 (fa : DEX) (fs : DA) : DEX := fun Ed σ S Q => fa Ed σ S fun d S1 => fs σ S1 fun ds S2 => ds.length + 1 ≤ sizeLine ∧ Q (.tup (d :: ds)) S2
theorem cx_tup1 {n : Nat} (ha : CEX X a fa) (hr : CA X es fs) (hs : starEach (a :: es) X.env = (false, eval a X.env) :: starEach es X.env := by rfl) : CEX X (.Tuple (a :: es) n pos) (xTup1 fa fs) := by
  obtain ⟨t, h1, s1⟩ := ha.ok
  obtain ⟨tr, hr, sr⟩ := hr
  refine ⟨fun E => tTup (tCons (t E) tr), fun E tk => pe_tup (pa_cons (h1 E tk) hr hs), fun Ed E σ S Q sv H Kt re rs q k kx => s1 Ed E σ S _ sv H _ re rs q (fun v d S1 H1 t1 r1 v1 q1 => ?_) kx⟩
  refine sr σ S1 _ sv H1 _ (re.mono t1.tx) r1 q1 fun vs ds S2 H2 t2 r2 v2 q2 => ⟨by rw [List.length_cons, v2.length]; exact q2.1, fun p hp => ?_⟩
  obtain ⟨st, sr⟩ := stp_tup (vs := v :: vs) r2 hp
  exact k _ _ _ _ ((t1.trans t2).trans st) sr (.tup (.inl (.inl upd_same)) (Reps.cons ((v1.mono t2.tx).mono st.tx) (v2.mono st.tx))) q2.2
end
end DL
/-! dicts whose keys are tuples; a call of a local name that holds a def -/
namespace DL
open PySem PySem.Spec PyProof.Rows L2
def toKeys : List D → Option (List Key)
  | [] => some []
  | d :: r => match toKey d, toKeys r with
    | some k, some ks => some (k :: ks)
    | _, _ => none
def kD : Key → D
  | .inl i => .int i
  | .inr s => .str s
def upD : D → D
  | .kt ks => .tup (ks.map kD)
  | d => d
section
variable {X : Cx} {K : PySem.W.Frag} {e a b c : Expr} {es : List Expr} {fe fa fb fc : DE} {fs : DA} {pos : Pos} {S : Sto} {H : Hp}
theorem rep_kD : ∀ k : Key, Rep K H (kV k) (kD k)
  | .inl i => .int i
  | .inr s => .str s
theorem reps_kD : ∀ ks : List Key, Reps K H (ks.map kV) (ks.map kD)
  | [] => .nil
  | k :: r => .cons (rep_kD k) (reps_kD r)
theorem keys_rep : ∀ {vs : List V} {ds : List D} {ks : List Key}, Reps K H vs ds → toKeys ds = some ks → vs = ks.map kV
  | _, _, ks, .nil, h => by cases h; rfl
  | _, d :: ds, ks, .cons h1 r, h => by
    unfold toKeys at h
    cases e1 : toKey d with
    | none => rw [e1] at h; cases h
    | some k =>
      cases e2 : toKeys ds with
      | none => rw [e1, e2] at h; cases h
      | some ks2 =>
        rw [e1, e2] at h
        cases h
        rw [List.map_cons, key_rep h1 e1, keys_rep r e2]
theorem Rep.up {v : V} {d : D} (r : Rep K H v d) : Rep K H v (upD d) := by
  cases r with
  | kt h => exact .tup (.inl (.inl h)) (reps_kD _)
  | non => exact .non
  | bl b => exact .bl b
  | int i => exact .int i
  | str s => exact .str s
  | ref a => exact .ref a
  | ty n => exact .ty n
  | tup h r => exact .tup h r
  | fl h r => exact .fl h r
  | exc n h => exact .exc n h
  | cls n => exact .cls n
/-- a tuple that is to be a key -/
def eTupK (fs : DA) : DE := fun σ S Q => fs σ S fun xs S1 => xs.length ≤ sizeLine ∧ ∃ ks, toKeys xs = some ks ∧ Q (.kt ks) S1
theorem c_tupK {n} (h : CA X es fs) : CE X (.Tuple es n pos) (eTupK fs) := by
  obtain ⟨ta, ha, sa⟩ := h
  refine ⟨_, pe_tup ha, fun σ S Q sv H Kt re rs q k => sa σ S _ sv H _ re rs q fun vs ds S1 H1 s1 r1 v1 q1 => ?_⟩
  obtain ⟨hz, ks, hk, q1⟩ := q1
  refine ⟨by rw [v1.length]; exact hz, fun p hp => ?_⟩
  obtain ⟨st, sr⟩ := stp_tup (vs := vs) r1 hp
  exact k _ _ _ _ (s1.trans st) sr (.kt (by rw [← keys_rep v1 hk]; exact upd_same)) q1
/-- a key as a tuple -/
def eUp (f : DE) : DE := fun σ S Q => f σ S fun d S1 => Q (upD d) S1
theorem c_up (h : CE X e fe) : CE X e (eUp fe) := by
  obtain ⟨t, h, s⟩ := h
  exact ⟨t, h, fun σ S Q sv H Kt re rs q k => s σ S _ sv H _ re rs q fun v d S1 H1 s1 r1 v1 q1 => k v _ S1 H1 s1 r1 v1.up q1⟩
def eDictT0 : DE := fun _ S Q => ∀ p, S p = none → Q (.ref p) (updS S p (.dt []))
theorem c_dictT0 : CE X (.Dict [] [] pos) eDictT0 := by
  refine ⟨_, pe_dnewT, fun σ S Q sv H Kt re rs q k p hp => ?_⟩
  obtain ⟨st, sr⟩ := stp_new (o := .dt []) (ho := .dT []) rs hp ⟨_, upd_same, .nil⟩
  exact k _ _ _ _ st sr (.ref p) (q p (rs.free hp))
/-- list(d), the keys tuples -/
def gListK : GN := fun xs S Q => match xs with
  | [.ref q] => ∃ kvs, S q = some (.dt kvs) ∧ ∀ p, S p = none → Q (.ref p) (updS S p (.lst (kvs.map fun kv => .kt kv.1)))
  | _ => False
theorem reps_keys : ∀ {ws : List (List Key × V)} {kvs : List (List Key × D)} {bs : List Addr}, TReps K H ws kvs → IsKeys H ws bs → Reps K H (bs.map V.ref) (kvs.map fun kv => .kt kv.1)
  | _, _, _, .nil, .nil => .nil
  | _, _, _, .cons h1 r1, .cons h2 r2 => .cons (.kt (by rw [← h1.1]; exact h2)) (reps_keys r1 r2)
theorem y_listK (hc : X.calm = true) : CY X "list" gListK := by
  refine ⟨_, call_list_dT hc, fun xs as S H Q Kt s r q k => ?_⟩
  match as, q with
  | [.ref d], q =>
    obtain ⟨v, rfl, rv⟩ := reps1 r
    cases rv
    obtain ⟨kvs, e, q⟩ := q
    obtain ⟨ws, e1, rt⟩ := s _ _ e
    refine ⟨_, ws, rfl, .inl e1, fun p bs hp ik => ?_⟩
    obtain ⟨st, sr⟩ := stp_new (o := .lst (kvs.map fun kv => .kt kv.1)) (ho := .lst (bs.map V.ref)) s hp ⟨_, upd_same, (reps_keys rt ik).mono (tx_new hp)⟩
    exact k _ _ _ _ st sr (.ref p) (q p (s.free hp))
end
/-! a call of a local name that holds a def of a table -/
abbrev FTab := List (Str × MF)
structure FtOk (P : Program) (w : World) (K : PySem.W.Frag) (mg : Str → Option Value) (base : Heap) (k n : Nat) (tab : FTab) : Prop where
  ok : ∀ c m, (c, m) ∈ tab → ∃ j, j ≤ k ∧ Okf P w K mg base j c n m
theorem ft_nil {P : Program} {w : World} {K : PySem.W.Frag} {mg : Str → Option Value} {base : Heap} {k n : Nat} : FtOk P w K mg base k n [] := ⟨fun _ _ z => nomatch z⟩
theorem ft_cons {P : Program} {w : World} {K : PySem.W.Frag} {mg : Str → Option Value} {base : Heap} {k j n : Nat} {tab : FTab} {c : Str} {m : MF} (h : Okf P w K mg base j c n m) (hj : j ≤ k) (t : FtOk P w K mg base k n tab) : FtOk P w K mg base k n ((c, m) :: tab) := ⟨fun c' m' z => by
  rcases List.mem_cons.mp z with z | z
  · cases z; exact ⟨j, hj, h⟩
  · exact t.ok c' m' z⟩
def eCallV (i n : Nat) (tab : FTab) (fs : DA) : DE := fun σ S Q => ∃ c m, getS i σ = some (.cls c) ∧ (c, m) ∈ tab ∧ fs σ S fun ds S1 => ds.length = n ∧ m ds S1 Q
def tCallV (K : PySem.W.Frag) (i n : Nat) (tab : FTab) (t : TA) : TE := fun σ H Q => ∃ c m C, σ[i]? = some (some (.ref C)) ∧ PySem.W.nsIn K mainGlobals c = some (some (.ref C)) ∧ (c, m) ∈ tab ∧ t σ H fun vs H1 => spD K n m vs H1 Q (fun _ _ _ => False)
section
variable {X : Cx} {e : Expr} {es : List Expr} {fs : DA} {pos : Pos}
theorem pe_callV {i j k n : Nat} {x : Str} {p : Pos} {tab : FTab} {t : TA} (hr : RoomG j X.A) (T : FtOk X.prog X.w X.K X.mg X.base k n tab) (hk : k ≤ j) (hN : X.N[i]? = some x) (hv : Vis X.env.scope x) (ha : PA X (e :: es) t)
    (hdb : (x == ("__debug__" : Str)) = false := by decide) (hcd : (x == ("__classdict__" : Str)) = false := by decide)
    (he : starEach (e :: es) X.env = (false, eval e X.env) :: starEach es X.env := by rfl) (hpl : (backTo pos (starEach es X.env)).any (·.1) = false := by rfl) : PE X (.Call (.Name x p) (e :: es) [] pos) (tCallV X.K i n tab t) := by
  refine ⟨fun pins s σ H Q I h => ?_⟩
  obtain ⟨c, m, C, hs, hn, hm, ht⟩ := h
  obtain ⟨j2, hj2, ⟨f, fd, ps, hl, F, hg, hkp, hb⟩⟩ := T.ok c m hm
  have e1 : X.mg c = some (.ref C) := PySem.W.mg_of I.mod.kin I.mod.glob hn
  rw [hg] at e1
  obtain rfl : f = C := by injection e1 with e1; injection e1
  refine wpAny_Call_Name_kw (thn ((pe_var (pos := p) hN hv hdb hcd).run pins s σ H (fun v H1 => v = .ref f ∧ H1 = H) I ⟨.ref f, hs, rfl, rfl⟩) fun u s1 ⟨v, H1, I1, r1, q1⟩ => ?_)
  obtain ⟨rfl, rfl⟩ := q1
  cases r1
  refine PySem.W.callWith_K (h₀ := X.base) I.ok.mod.kin hkp (thn (ha.run pos pins s1 σ _ _ I1 ht) fun us s2 ⟨vs, H2, I2, r, q⟩ => ⟨I2.kIn, ?_⟩) he hpl
  exact run_fnG (dvs := []) (ds := []) F (hr.mono' (Nat.le_trans hj2 hk)) hb .nil (E := fun _ _ _ => False) pass0 I2 r (by rw [List.append_nil]; exact q)
theorem c_callV (i : Nat) {j k n : Nat} {x : Str} {p : Pos} {tab : FTab} (hr : RoomG j X.A) (T : FtOk X.prog X.w X.K X.mg X.base k n tab) (hk : k ≤ j) (ha : CA X (e :: es) fs) (hN : X.N[i]? = some x := by rfl) (hv : Vis X.env.scope x := by first | exact Or.inl rfl | exact Or.inr (Or.inl rfl) | exact Or.inr (Or.inr rfl))
    (hdb : (x == ("__debug__" : Str)) = false := by decide) (hcd : (x == ("__classdict__" : Str)) = false := by decide)
    (he : starEach (e :: es) X.env = (false, eval e X.env) :: starEach es X.env := by rfl) (hpl : (backTo pos (starEach es X.env)).any (·.1) = false := by rfl) : CE X (.Call (.Name x p) (e :: es) [] pos) (eCallV i n tab fs) := by
  obtain ⟨ta, ha, sa⟩ := ha
  refine ⟨_, pe_callV hr T hk hN hv ha hdb hcd he hpl, fun σ S Q sv H Kt re rs q k => ?_⟩
  obtain ⟨c, m, hi, hm, q⟩ := q
  obtain ⟨v, e1, rv⟩ := re.at_ i _ hi
  cases rv with
  | @cls C _ hn =>
    refine ⟨c, m, C, e1, hn, hm, sa σ S _ sv H _ re rs q fun vs ds S1 H1 s1 r1 v1 q1 => ?_⟩
    exact ⟨by rw [v1.length]; exact q1.1, ds, S1, Q, v1, r1, q1.2, fun v d S2 H2 s2 r2 v2 q2 => k v d S2 H2 (s1.trans s2) r2 v2 q2⟩
end
end DL
/-! plain rules for the mirrors: loops, comprehensions -/
namespace DL
open PySem L2
theorem seq_i {f g : DS} {D0 : DEnds} {σ : Env} {S : Sto} (h : f ⟨g D0, D0.rt, D0.bk, D0.ct⟩ σ S) : sSeq f g D0 σ S := h
theorem forL_inv {stab : Sto → Prop} {g : DG} {body : DS} {D0 : DEnds} (items : List D) (I : Nat → Env → Sto → Prop) (hst : ∀ i σ S, I i σ S → stab S)
    (turn : ∀ (i : Nat) (x : D) (σ : Env) (S : Sto) (N : Env → Sto → Prop), items[i]? = some x → I i σ S → (∀ σ' S', I (i + 1) σ' S' → N σ' S') → g x σ S fun σ2 S2 => body ⟨N, D0.rt, D0.nx, N⟩ σ2 S2)
    (hend : ∀ σ S, I items.length σ S → D0.nx σ S) {σ : Env} {S : Sto} (h0 : I 0 σ S) : forL stab g body D0 items σ S := by
  have key : ∀ (m i : Nat), m = items.length - i → i ≤ items.length → ∀ σ S, I i σ S → forL stab g body D0 (items.drop i) σ S := by
    intro m
    induction m with
    | zero =>
      intro i hm hi σ S h
      have e : i = items.length := by omega
      subst e
      rw [List.drop_length]
      exact ⟨hst _ _ _ h, hend σ S h⟩
    | succ m ih =>
      intro i hm hi σ S h
      have hlt : i < items.length := by omega
      rw [List.drop_eq_getElem_cons hlt]
      exact ⟨hst _ _ _ h, turn i _ σ S _ (List.getElem?_eq_getElem hlt) h fun σ' S' h' => ih (i + 1) (by omega) hlt σ' S' h'⟩
  exact key _ 0 rfl (Nat.zero_le _) σ S h0
/-- a for over a range -/
theorem forR_inv {stab : Sto → Prop} {g : DG} {body : DS} {D0 : DEnds} (lo : Int) (n : Nat) (I : Nat → Env → Sto → Prop) (hst : ∀ i σ S, I i σ S → stab S)
    (turn : ∀ (i : Nat) (σ : Env) (S : Sto) (N : Env → Sto → Prop), i < n → I i σ S → (∀ σ' S', I (i + 1) σ' S' → N σ' S') → g (.int (lo + (i : Nat))) σ S fun σ2 S2 => body ⟨N, D0.rt, D0.nx, N⟩ σ2 S2)
    (hend : ∀ σ S, I n σ S → D0.nx σ S) {σ : Env} {S : Sto} (h0 : I 0 σ S) : forL stab g body D0 (rangeD lo n) σ S := by
  have hl : (rangeD lo n).length = n := by simp [rangeD]
  refine forL_inv _ I hst (fun i x σ S N hx h hN => ?_) (by rw [hl]; exact hend) h0
  have hlt : i < n := by
    have := (List.getElem?_eq_some_iff.mp hx).1
    omega
  have hx2 : (rangeD lo n)[i]? = some (.int (lo + (i : Nat))) := by
    unfold rangeD
    rw [List.getElem?_map, List.getElem?_range hlt]
    rfl
  rw [hx2] at hx
  cases hx
  exact turn i σ S N hlt h hN
theorem lcL_inv {stab : Sto → Prop} {g : DG} {tests : DT} {elt : DE} {σ : Env} {k : List D → Sto → Prop} (items : List D) (I : Nat → List D → Sto → Prop) (hst : ∀ i acc S, I i acc S → stab S)
    (turn : ∀ (i : Nat) (x : D) (acc : List D) (S : Sto) (N : List D → Sto → Prop), items[i]? = some x → I i acc S → (∀ acc' S', I (i + 1) acc' S' → N acc' S') →
      g x σ S fun σ2 S2 => tests σ2 S2 fun b S3 => if b = true then elt σ2 S3 fun d S4 => acc.length < sizeLine ∧ N (acc ++ [d]) S4 else N acc S3)
    (hend : ∀ acc S, I items.length acc S → k acc S) {S : Sto} (h0 : I 0 [] S) : lcL stab g tests elt σ k items [] S := by
  have key : ∀ (m i : Nat), m = items.length - i → i ≤ items.length → ∀ acc S, I i acc S → lcL stab g tests elt σ k (items.drop i) acc S := by
    intro m
    induction m with
    | zero =>
      intro i hm hi acc S h
      have e : i = items.length := by omega
      subst e
      rw [List.drop_length]
      exact ⟨hst _ _ _ h, hend acc S h⟩
    | succ m ih =>
      intro i hm hi acc S h
      have hlt : i < items.length := by omega
      rw [List.drop_eq_getElem_cons hlt]
      exact ⟨hst _ _ _ h, turn i _ acc S (fun acc' S' => lcL stab g tests elt σ k (items.drop (i + 1)) acc' S') (List.getElem?_eq_getElem hlt) h fun acc' S' h' => ih (i + 1) (by omega) hlt acc' S' h'⟩
  exact key _ 0 rfl (Nat.zero_le _) [] S h0
/-- [f x for x in items], the store as it is -/
theorem lcL_map {stab : Sto → Prop} {g : DG} {elt : DE} {σ : Env} {k : List D → Sto → Prop} (f : D → D) (items : List D) {S : Sto} (hs : stab S) (hz : items.length ≤ sizeLine)
    (ht : ∀ x ∈ items, ∀ Q : DK, Q (f x) S → g x σ S fun σ2 S2 => elt σ2 S2 Q) (h : k (items.map f) S) : lcL stab g tsYes elt σ k items [] S := by
  refine lcL_inv items (fun i acc S' => S' = S ∧ acc = (items.take i).map f) (fun i acc S' ⟨e, _⟩ => by rw [e]; exact hs) (fun i x acc S' N hx ⟨e1, e2⟩ hN => ?_) (fun acc S' ⟨e1, e2⟩ => ?_) ⟨rfl, by simp⟩
  · subst e1 e2
    have hlt := (List.getElem?_eq_some_iff.mp hx).1
    show g x σ S' fun σ2 S2 => elt σ2 S2 fun d S4 => ((items.take i).map f).length < sizeLine ∧ N ((items.take i).map f ++ [d]) S4
    refine ht x (List.mem_of_getElem? hx) _ ⟨?_, hN _ _ ⟨rfl, ?_⟩⟩
    · rw [List.length_map, List.length_take]
      omega
    · rw [List.take_add_one, hx, List.map_append]
      rfl
  · subst e1 e2
    rw [List.take_of_length_le (Nat.le_refl _)]
    exact h
/-- [f x for x in items if p x], the store as it is -/
theorem lcL_filter {stab : Sto → Prop} {g : DG} {tests : DT} {elt : DE} {σ : Env} {k : List D → Sto → Prop} (f : D → D) (p : D → Bool) (items : List D) {S : Sto} (hs : stab S) (hz : items.length ≤ sizeLine)
    (h : k ((items.filter p).map f) S)
    (hk : ∀ x ∈ items, ∀ (T : DK) (G : Sto → Prop), (p x = true → T (f x) S) → (p x = false → G S) → g x σ S fun σ2 S2 => tests σ2 S2 fun b S3 => if b = true then elt σ2 S3 T else G S3) : lcL stab g tests elt σ k items [] S := by
  refine lcL_inv items (fun i acc S' => S' = S ∧ acc = ((items.take i).filter p).map f) (fun i acc S' ⟨e, _⟩ => by rw [e]; exact hs) (fun i x acc S' N hx ⟨e1, e2⟩ hN => ?_) (fun acc S' ⟨e1, e2⟩ => ?_) ⟨rfl, by simp⟩
  · subst e1
    have hlt := (List.getElem?_eq_some_iff.mp hx).1
    have hl : acc.length < sizeLine := by
      rw [e2, List.length_map]
      have := List.length_filter_le p (items.take i)
      rw [List.length_take] at this
      omega
    refine hk x (List.mem_of_getElem? hx) _ (fun S4 => N acc S4) (fun hp => ⟨hl, hN _ _ ⟨rfl, ?_⟩⟩) (fun hp => hN _ _ ⟨rfl, ?_⟩)
    · rw [List.take_add_one, hx, e2, List.filter_append, List.map_append]
      simp [hp]
    · rw [List.take_add_one, hx, e2, List.filter_append, List.map_append]
      simp [hp]
  · subst e1 e2
    rw [List.take_of_length_le (Nat.le_refl _)]
    exact h
end DL
namespace DL
open PySem L2
theorem pds_map {α : Type} {S : Sto} {f : α → D} {g : α → PyData} (h : ∀ x, PD S (f x) (g x)) : ∀ xs : List α, PDs S (xs.map f) (xs.map g)
  | [] => .nil
  | x :: xs => .cons (h x) (pds_map h xs)
theorem pds_ints {S : Sto} (xs : List Int) : PDs S (xs.map .int) (xs.map .int) := pds_map .int xs
theorem pds_strs {S : Sto} (xs : List Str) : PDs S (xs.map .str) (xs.map .str) := pds_map .str xs
theorem depth_map {α : Type} {g : α → PyData} {n : Nat} (h : ∀ x, (g x).depth ≤ n) : ∀ xs : List α, PyData.depthAll (xs.map g) ≤ n
  | [] => Nat.zero_le _
  | x :: xs => by
    show PyData.depthAll (g x :: xs.map g) ≤ n
    unfold PyData.depthAll
    exact Nat.max_le.mpr ⟨h x, depth_map h xs⟩
theorem depth_ints (xs : List Int) : (PyData.list (xs.map .int)).depth ≤ 64 := by
  have := depth_map (g := PyData.int) (n := 0) (fun _ => Nat.le_refl 0) xs
  show PyData.depthAll _ + 1 ≤ 64
  omega
theorem depth_strs (xs : List Str) : (PyData.list (xs.map .str)).depth ≤ 64 := by
  have := depth_map (g := PyData.str) (n := 0) (fun _ => Nat.le_refl 0) xs
  show PyData.depthAll _ + 1 ≤ 64
  omega
theorem eqv_nil (xs : List PyData) : PyData.eqv (.list xs) (.list []) = xs.isEmpty := by cases xs <;> simp [PyData.eqv, PyData.eqvAll]
/-- xs == [] of a list of the store -/
theorem eq_nil {f : Bool → Bool} {S : Sto} {p q : Addr} {xs : List D} {ps : List PyData} {Q : DK} (h1 : S p = some (.lst xs)) (h2 : S q = some (.lst [])) (hp : PDs S xs ps) (hd : (PyData.list ps).depth ≤ 64) (hq : Q (.bl (f xs.isEmpty)) S) : gEq f (.ref p) (.ref q) S Q := by
  refine ⟨.list ps, .list [], .lst h1 hp, .lst h2 .nil, hd, ?_⟩
  rw [eqv_nil]
  have e : ps.isEmpty = xs.isEmpty := by cases hp <;> rfl
  rw [e]
  exact hq
/-- numbers that may be multiplied -/
theorem mulS {i j : Int} (h1 : -(1000000000000000000000) < i) (h2 : i < 1000000000000000000000) (h3 : -(1000000000000000000000) < j) (h4 : j < 1000000000000000000000) : CMulW i j :=
  wide_mul (a := 80) (b := 80) (by have : (2 : Nat) ^ 80 = 1208925819614629174706176 := by decide
                                   omega) (by have : (2 : Nat) ^ 80 = 1208925819614629174706176 := by decide
                                              omega) (by decide) (by decide) (by decide)
theorem fdivS {i j : Int} (h0 : 0 < j) (h : j < 1000000000000000000000) : CDivW i j :=
  wide_div h0 (b := 80) (by have : (2 : Nat) ^ 80 = 1208925819614629174706176 := by decide
                            omega) (by decide) (by decide)
theorem powS {i : Int} {j : Int} (h0 : 0 ≤ j) (h1 : j ≤ 1000000) (h2 : -(18446744073709551616) < i) (h3 : i < 18446744073709551616) : CPow i j := ⟨h0, h1, by
  have : (2 : Nat) ^ 64 = 18446744073709551616 := by decide
  omega⟩
end DL
namespace DL
open PySem L2
section
variable {f : Bool → Bool} {S : Sto} {Q : DK}
theorem gEq_ii {i j : Int} : gEq f (.int i) (.int j) S Q = Q (.bl (f (decide (i = j)))) S := rfl
theorem gEq_ss {i j : Str} : gEq f (.str i) (.str j) S Q = Q (.bl (f (decide (i = j)))) S := rfl
theorem gEq_bb {i j : Bool} : gEq f (.bl i) (.bl j) S Q = Q (.bl (f (decide (i = j)))) S := rfl
theorem gEq_nn : gEq f .non .non S Q = Q (.bl (f true)) S := rfl
theorem gEq_ni {i : Int} : gEq f .non (.int i) S Q = Q (.bl (f false)) S := rfl
theorem gEq_in {i : Int} : gEq f (.int i) .non S Q = Q (.bl (f false)) S := rfl
theorem gEq_ns {i : Str} : gEq f .non (.str i) S Q = Q (.bl (f false)) S := rfl
theorem gEq_sn {i : Str} : gEq f (.str i) .non S Q = Q (.bl (f false)) S := rfl
theorem gEq_si {i : Str} {j : Int} : gEq f (.str i) (.int j) S Q = Q (.bl (f false)) S := rfl
theorem gEq_is {i : Int} {j : Str} : gEq f (.int i) (.str j) S Q = Q (.bl (f false)) S := rfl
end
end DL
namespace DL
open PySem L2
theorem ret_i {fa : DE} {D0 : DEnds} {σ : Env} {S : Sto} (h : fa σ S D0.rt) : sRet fa D0 σ S := h
theorem for_i {fi : DI} {g : DG} {body : DS} {D0 : DEnds} {σ : Env} {S : Sto} (h : fi σ S fun items stab S1 => forL stab g body D0 items σ S1) : sFor fi g body D0 σ S := h
theorem if_i {ft : DT} {f g : DS} {D0 : DEnds} {σ : Env} {S : Sto} (h : ft σ S fun k S1 => if k = true then f D0 σ S1 else g D0 σ S1) : sIf ft f g D0 σ S := h
theorem asg_i {fa : DE} {g : DG} {D0 : DEnds} {σ : Env} {S : Sto} (h : fa σ S fun x S1 => g x σ S1 D0.nx) : sAsg fa g D0 σ S := h
theorem exp_i {fa : DE} {D0 : DEnds} {σ : Env} {S : Sto} (h : fa σ S fun _ S1 => D0.nx σ S1) : sExpr fa D0 σ S := h
end DL
namespace DL
theorem rangeD_len (lo : Int) (n : Nat) : (rangeD lo n).length = n := by unfold rangeD; rw [List.length_map, List.length_range]
end DL
/-! what the mirrors' words are at known data: rows for simp -/
namespace DL
open PySem L2 PyProof.Rows
section
variable {σ : Env} {S : Sto} {Q : DK} {T : Bool → Sto → Prop} {f g : DE} {p q : Addr} {a b : G2}
/-! tests -/
def vTru (d : D) (S : Sto) (T : Bool → Sto → Prop) : Prop := tTr (eC d) [] S T
def oTru (o : Option O) (S : Sto) (T : Bool → Sto → Prop) : Prop := match o with
  | some (.lst xs) => T (!xs.isEmpty) S
  | some (.dk kvs) => T (!kvs.isEmpty) S
  | some (.dt _) => False
  | none => False
theorem tTr_e : tTr f σ S T = f σ S fun d S1 => vTru d S1 T := rfl
theorem vTru_non : vTru .non S T = T false S := rfl
theorem vTru_bl {k} : vTru (.bl k) S T = T k S := rfl
theorem vTru_int {i} : vTru (.int i) S T = T (i != 0) S := rfl
theorem vTru_str {y} : vTru (.str y) S T = (y.length ≤ sizeLine ∧ T (y.length != 0) S) := rfl
theorem vTru_tup {xs} : vTru (.tup xs) S T = T (!xs.isEmpty) S := rfl
theorem vTru_ref : vTru (.ref p) S T = oTru (S p) S T := by
  show (match S p with | some (.lst xs) => T (!xs.isEmpty) S | some (.dk kvs) => T (!kvs.isEmpty) S | some (.dt _) => False | none => False) = _
  unfold oTru
  cases S p with
  | none => rfl
  | some o => cases o <;> rfl
theorem oTru_l {xs} : oTru (some (.lst xs)) S T = T (!xs.isEmpty) S := rfl
theorem oTru_d {xs} : oTru (some (.dk xs)) S T = T (!xs.isEmpty) S := rfl
def vBl (d : D) (S : Sto) (T : Bool → Sto → Prop) : Prop := match d with
  | .bl k => T k S
  | _ => False
theorem tBl_e : tBl f σ S T = f σ S fun d S1 => vBl d S1 T := rfl
theorem vBl_bl {k} : vBl (.bl k) S T = T k S := rfl
/-! values -/
def vNeg (d : D) (S : Sto) (Q : DK) : Prop := eNeg (eC d) [] S Q
theorem eNeg_e : eNeg f σ S Q = f σ S fun d S1 => vNeg d S1 Q := rfl
theorem vNeg_int {i} : vNeg (.int i) S Q = Q (.int (-i)) S := rfl
theorem eChain_e {f2 f3 : DE} : eChain a b f f2 f3 σ S Q = f σ S fun x S1 => f2 σ S1 fun y S2 => a x y S2 fun z S3 => vBl z S3 fun k S3 => if k = true then f3 σ S3 fun u S4 => b y u S4 Q else Q (.bl false) S3 := rfl
theorem eAnd_e : eAnd f g σ S Q = f σ S fun x S1 => vBl x S1 fun k S1 => if k = true then g σ S1 Q else Q (.bl false) S1 := rfl
theorem eOr_e : eOr f g σ S Q = f σ S fun x S1 => vBl x S1 fun k S1 => if k = true then Q (.bl true) S1 else g σ S1 Q := rfl
theorem eNot_e : eNot f σ S Q = f σ S fun x S1 => vBl x S1 fun k S1 => Q (.bl (!k)) S1 := rfl
def vSome (d : D) (S : Sto) (R : Option Int → Sto → Prop) : Prop := oSome (eC d) [] S R
theorem oSome_e {R} : oSome f σ S R = f σ S fun d S1 => vSome d S1 R := rfl
theorem vSome_int {i R} : vSome (.int i) S R = R (some i) S := rfl
theorem gAdd_ii {i j} : gAdd (.int i) (.int j) S Q = Q (.int (i + j)) S := rfl
theorem gAdd_ss {i j} : gAdd (.str i) (.str j) S Q = (i.length + j.length ≤ sizeLine ∧ Q (.str (i ++ j)) S) := rfl
theorem gAdd_tt {xs ys} : gAdd (.tup xs) (.tup ys) S Q = (xs.length + ys.length ≤ sizeLine ∧ Q (.tup (xs ++ ys)) S) := rfl
theorem gAdd_rr : gAdd (.ref p) (.ref q) S Q = ∃ xs ys, S p = some (.lst xs) ∧ S q = some (.lst ys) ∧ xs.length + ys.length ≤ sizeLine ∧ ∀ n, S n = none → Q (.ref n) (updS S n (.lst (xs ++ ys))) := rfl
theorem gI_ii {C : Int → Int → Prop} {h : Int → Int → D} {i j} : gI C h (.int i) (.int j) S Q = (C i j ∧ Q (h i j) S) := rfl
theorem gI0_ii {h : Int → Int → D} {i j} : gI0 h (.int i) (.int j) S Q = Q (h i j) S := rfl
theorem gMulA_ii {i j} : gMulA (.int i) (.int j) S Q = (CMulW i j ∧ Q (.int (i * j)) S) := rfl
theorem gMulA_ri {k} : gMulA (.ref p) (.int k) S Q = ∃ xs, S p = some (.lst xs) ∧ -(2 ^ 63) ≤ k ∧ k < 2 ^ 63 ∧ xs.length * k.toNat ≤ sizeLine ∧ ∀ n, S n = none → Q (.ref n) (updS S n (.lst (List.replicate k.toNat xs).flatten)) := rfl
theorem gMulA_ti {xs k} : gMulA (.tup xs) (.int k) S Q = (xs ≠ [] ∧ 2 ≤ k ∧ k ≤ 1000 ∧ xs.length ≤ 1000 ∧ Q (.tup (List.replicate k.toNat xs).flatten) S) := rfl
theorem gLt_ii {i j} : gLt (.int i) (.int j) S Q = Q (.bl (decide (i < j))) S := rfl
theorem gLt_ss {i j : Str} : gLt (.str i) (.str j) S Q = Q (.bl (decide (i.cps.toList < j.cps.toList))) S := rfl
theorem gIs_n {k : Bool → Bool} {x} : gIs k x .non S Q = Q (.bl (k (isNon x))) S := rfl
theorem gIs_b {k : Bool → Bool} {x c} : gIs k (.bl x) (.bl c) S Q = Q (.bl (k (decide (x = c)))) S := rfl
theorem isNon_n : isNon .non = true := rfl
theorem isNon_b {k} : isNon (.bl k) = false := rfl
theorem isNon_i {k} : isNon (.int k) = false := rfl
theorem isNon_s {k} : isNon (.str k) = false := rfl
theorem isNon_t {k} : isNon (.tup k) = false := rfl
theorem isNon_r : isNon (.ref p) = false := rfl
def oIx (o : Option O) (y : D) (S : Sto) (Q : DK) : Prop := match o with
  | some (.lst xs) => (match y with
    | .int i => ∃ d, atI xs i = some d ∧ Q d S
    | _ => False)
  | some (.dk kvs) => ∃ k d, toKey y = some k ∧ valD kvs k = some d ∧ Q d S
  | some (.dt kvs) => (match y with
    | .kt ks => ∃ d, valT kvs ks = some d ∧ Q d S
    | _ => False)
  | none => False
theorem gIx_r {y} : gIx (.ref p) y S Q = oIx (S p) y S Q := by
  unfold gIx oIx
  dsimp only
  all_goals cases S p with
  | none => rfl
  | some o => cases o <;> rfl
theorem oIx_li {xs i} : oIx (some (.lst xs)) (.int i) S Q = ∃ d, atI xs i = some d ∧ Q d S := rfl
theorem oIx_ds {kvs} {x : Str} : oIx (some (.dk kvs)) (.str x) S Q = ∃ d, valD kvs (.inr x) = some d ∧ Q d S := by
  show (∃ k d, some (Sum.inr x) = some k ∧ valD kvs k = some d ∧ Q d S) = _
  simp only [Option.some.injEq, exists_and_left, exists_eq_left']
theorem oIx_di {kvs} {x : Int} : oIx (some (.dk kvs)) (.int x) S Q = ∃ d, valD kvs (.inl x) = some d ∧ Q d S := by
  show (∃ k d, some (Sum.inl x) = some k ∧ valD kvs k = some d ∧ Q d S) = _
  simp only [Option.some.injEq, exists_and_left, exists_eq_left']
theorem gIx_ti {xs i} : gIx (.tup xs) (.int i) S Q = ∃ d, atI xs i = some d ∧ Q d S := rfl
theorem gIx_fi {xs i} : gIx (.fl xs) (.int i) S Q = ∃ d, atI xs i = some d ∧ Q d S := rfl
theorem gIx_si {z i} : gIx (.str z) (.int i) S Q = (z.length ≤ sizeLine ∧ ∃ c, atI z.cps.toList i = some c ∧ Q (.str ⟨#[c]⟩) S) := rfl
theorem gSl_t {xs l h} : gSl (.tup xs) l h S Q = Q (.tup (cutL xs l h)) S := rfl
theorem gSl_s {z l h} : gSl (.str z) l h S Q = (z.length ≤ sizeLine ∧ Q (.str (cutS z l h)) S) := rfl
theorem gSl_f {xs l h} : gSl (.fl xs) l h S Q = ∀ p, S p = none → Q (.ref p) (updS S p (.lst (cutL xs l h))) := rfl
theorem gSl_r {l h} : gSl (.ref p) l h S Q = ∃ xs, S p = some (.lst xs) ∧ ∀ n, S n = none → Q (.ref n) (updS S n (.lst (cutL xs l h))) := rfl
def oIn (k : Bool → Bool) (o : Option O) (x : D) (S : Sto) (Q : DK) : Prop := match o with
  | some (.lst ys) => flatD x = true ∧ ys.all flatD = true ∧ Q (.bl (k (ys.any fun z => eqF z x))) S
  | some (.dk kvs) => ∃ j, toKey x = some j ∧ Q (.bl (k (hasD kvs j))) S
  | some (.dt kvs) => (match x with
    | .kt ks => Q (.bl (k (hasT kvs ks))) S
    | _ => False)
  | none => False
theorem gIn_ss {k : Bool → Bool} {i j} : gIn k (.str i) (.str j) S Q = Q (.bl (k (inStr i j))) S := rfl
theorem gIn_t {k : Bool → Bool} {x ys} : gIn k x (.tup ys) S Q = (flatD x = true ∧ ys.all flatD = true ∧ Q (.bl (k (ys.any fun z => eqF z x))) S) := by cases x <;> rfl
theorem gIn_r {k : Bool → Bool} {x} : gIn k x (.ref p) S Q = oIn k (S p) x S Q := by
  unfold gIn oIn
  dsimp only
  all_goals cases S p with
  | none => rfl
  | some o => cases o <;> rfl
theorem oIn_l {k : Bool → Bool} {x ys} : oIn k (some (.lst ys)) x S Q = (flatD x = true ∧ ys.all flatD = true ∧ Q (.bl (k (ys.any fun z => eqF z x))) S) := rfl
theorem oIn_ds {k : Bool → Bool} {kvs} {x : Str} : oIn k (some (.dk kvs)) (.str x) S Q = Q (.bl (k (hasD kvs (.inr x)))) S := by
  show (∃ j, some (Sum.inr x) = some j ∧ Q (.bl (k (hasD kvs j))) S) = _
  simp only [Option.some.injEq, exists_eq_left']
def oLen (o : Option O) (S : Sto) (Q : DK) : Prop := match o with
  | some (.lst ys) => Q (.int ys.length) S
  | some (.dk kvs) => Q (.int kvs.length) S
  | some (.dt _) => False
  | none => False
theorem gLen_s {z} : gLen [.str z] S Q = (z.length ≤ sizeLine ∧ Q (.int z.length) S) := rfl
theorem gLen_t {xs} : gLen [.tup xs] S Q = Q (.int xs.length) S := rfl
theorem gLen_f {xs} : gLen [.fl xs] S Q = Q (.int xs.length) S := rfl
theorem gLen_r : gLen [.ref p] S Q = oLen (S p) S Q := by
  unfold gLen oLen
  dsimp only
  all_goals cases S p with
  | none => rfl
  | some o => cases o <;> rfl
theorem oLen_l {xs} : oLen (some (.lst xs)) S Q = Q (.int xs.length) S := rfl
theorem oLen_d {xs} : oLen (some (.dk xs)) S Q = Q (.int xs.length) S := rfl
theorem gAbs_i {i} : gAbs [.int i] S Q = Q (.int (if i < 0 then -i else i)) S := rfl
theorem gMax2_ii {i j} : gMax2 [.int i, .int j] S Q = Q (.int (if j > i then j else i)) S := rfl
theorem gMin2_ii {i j} : gMin2 [.int i, .int j] S Q = Q (.int (if j < i then j else i)) S := rfl
theorem gInt1_i {i} : gInt1 [.int i] S Q = Q (.int i) S := rfl
theorem gInt1_b {i} : gInt1 [.bl i] S Q = Q (.int (if i then 1 else 0)) S := rfl
theorem gList_t {xs} : gList [.tup xs] S Q = ∀ p, S p = none → Q (.ref p) (updS S p (.lst xs)) := rfl
theorem gList_f {xs} : gList [.fl xs] S Q = ∀ p, S p = none → Q (.ref p) (updS S p (.lst xs)) := rfl
theorem gList_r : gList [.ref q] S Q = ∃ ys, S q = some (.lst ys) ∧ ∀ p, S p = none → Q (.ref p) (updS S p (.lst ys)) := rfl
theorem gTuple_t {xs} : gTuple [.tup xs] S Q = Q (.tup xs) S := rfl
theorem gTuple_f {xs} : gTuple [.fl xs] S Q = Q (.tup xs) S := rfl
theorem gTuple_r : gTuple [.ref q] S Q = ∃ ys, S q = some (.lst ys) ∧ Q (.tup ys) S := rfl
theorem gSum_r : gSum [.ref q] S Q = ∃ ns : List Int, S q = some (.lst (ns.map .int)) ∧ Q (.int ns.sum) S := rfl
theorem gAll_r {k : List Bool → Bool} : gAll k [.ref q] S Q = ∃ bs : List Bool, S q = some (.lst (bs.map .bl)) ∧ Q (.bl (k bs)) S := rfl
theorem gIsi_x {x n} : gIsi [x, .ty n] S Q = (n ∈ isiCls ∧ ∃ t, tyD x S = some t ∧ Q (.bl (isiN t n)) S) := rfl
def oTy (o : Option O) : Option String := match o with
  | some (.lst _) => some "list"
  | some (.dk _) => some "dict"
  | some (.dt _) => some "dict"
  | none => none
theorem tyD_n : tyD .non S = some "NoneType" := rfl
theorem tyD_b {k} : tyD (.bl k) S = some "bool" := rfl
theorem tyD_i {k} : tyD (.int k) S = some "int" := rfl
theorem tyD_s {k} : tyD (.str k) S = some "str" := rfl
theorem tyD_t {k} : tyD (.tup k) S = some "tuple" := rfl
theorem tyD_f {k} : tyD (.fl k) S = some "list" := rfl
theorem tyD_r : tyD (.ref p) S = oTy (S p) := by
  unfold tyD oTy
  dsimp only
  all_goals cases S p with
  | none => rfl
  | some o => cases o <;> rfl
theorem oTy_l {xs} : oTy (some (.lst xs)) = some "list" := rfl
theorem oTy_d {xs} : oTy (some (.dk xs)) = some "dict" := rfl
def oTyM (T : String) (o : Option O) : Prop := match o with
  | some (.lst _) => T = "list"
  | some (.dk _) => T = "dict"
  | some (.dt _) => T = "dict"
  | none => False
theorem tyM_s {T k} : tyM T (.str k) S = (T = "str") := rfl
theorem tyM_r {T} : tyM T (.ref p) S = oTyM T (S p) := by
  unfold tyM oTyM
  dsimp only
  all_goals cases S p with
  | none => rfl
  | some o => cases o <;> rfl
theorem oTyM_l {T xs} : oTyM T (some (.lst xs)) = (T = "list") := rfl
theorem oTyM_d {T xs} : oTyM T (some (.dk xs)) = (T = "dict") := rfl
theorem gAppend_r {d} : gAppend (.ref p) [d] S Q = ∃ xs, S p = some (.lst xs) ∧ xs.length < sizeLine ∧ Q .non (updS S p (.lst (xs ++ [d]))) := rfl
theorem gPop0_r : gPop0 (.ref p) [] S Q = ∃ xs d, S p = some (.lst xs) ∧ xs[xs.length - 1]? = some d ∧ Q d (updS S p (.lst xs.dropLast)) := rfl
theorem gPopAt_r {i} : gPopAt (.ref p) [.int i] S Q = ∃ xs j d, S p = some (.lst xs) ∧ -(2 ^ 63) ≤ i ∧ i < 2 ^ 63 ∧ seqIndex? i xs.length = some j ∧ xs[j]? = some d ∧ Q d (updS S p (.lst (xs.eraseIdx j))) := rfl
theorem gClear_r : gClear (.ref p) [] S Q = ∃ xs, S p = some (.lst xs) ∧ Q .non (updS S p (.lst [])) := rfl
theorem gReverse_r : gReverse (.ref p) [] S Q = ∃ xs, S p = some (.lst xs) ∧ Q .non (updS S p (.lst xs.reverse)) := rfl
theorem gJoin_r {z} : gJoin (.str z) [.ref p] S Q = ∃ ys : List Str, S p = some (.lst (ys.map .str)) ∧ (ys.map (·.length)).sum + ys.length * z.length ≤ 16777216 ∧ Q (.str (Txt.join z ys)) S := rfl
theorem gUpper_s {z} : gUpper (.str z) [] S Q = (z.length ≤ 5592405 ∧ Q (.str (Txt.upper z)) S) := rfl
theorem gStr_i {i} : gStr [.int i] S Q = (i.natAbs.log2 < 1920 ∧ Q (.str (toString i)) S) := rfl
theorem gSorted_r : gSorted [.ref p] S Q = ((∃ ns : List Int, S p = some (.lst (ns.map .int)) ∧ ∀ ns' : List Int, ns'.Perm ns → ns'.Pairwise (· ≤ ·) → ∀ n, S n = none → Q (.ref n) (updS S n (.lst (ns'.map .int)))) ∨
      ∃ ns : List Str, S p = some (.lst (ns.map .str)) ∧ ns.length < 64 ∧ ∀ ns' : List Str, ns'.Perm ns → sortedS ns' = true → ∀ n, S n = none → Q (.ref n) (updS S n (.lst (ns'.map .str)))) := rfl
/-! what is walked -/
variable {R : List D → (Sto → Prop) → Sto → Prop} {fs : DA}
def vSeq (d : D) (S : Sto) (R : List D → (Sto → Prop) → Sto → Prop) : Prop := iSeq (eC d) [] S R
theorem iSeq_e : iSeq f σ S R = f σ S fun d S1 => vSeq d S1 R := rfl
theorem vSeq_r : vSeq (.ref p) S R = ∃ xs, S p = some (.lst xs) ∧ R xs (fun S => S p = some (.lst xs)) S := rfl
theorem vSeq_f {xs} : vSeq (.fl xs) S R = R xs (fun _ => True) S := rfl
theorem vSeq_t {xs} : vSeq (.tup xs) S R = R xs (fun _ => True) S := rfl
theorem vSeq_s {z} : vSeq (.str z) S R = R (z.cps.toList.map fun c => .str ⟨#[c]⟩) (fun _ => True) S := rfl
def vRng1 (ds : List D) (S : Sto) (R : List D → (Sto → Prop) → Sto → Prop) : Prop := iRange1 (fun _ S Q => Q ds S) [] S R
theorem iRange1_e : iRange1 fs σ S R = fs σ S fun ds S1 => vRng1 ds S1 R := rfl
theorem vRng1_i {j} : vRng1 [.int j] S R = (-(2 ^ 62) ≤ j ∧ j < 2 ^ 62 ∧ R (rangeD 0 j.toNat) (fun _ => True) S) := rfl
def vRng2 (ds : List D) (S : Sto) (R : List D → (Sto → Prop) → Sto → Prop) : Prop := iRange2 (fun _ S Q => Q ds S) [] S R
theorem iRange2_e : iRange2 fs σ S R = fs σ S fun ds S1 => vRng2 ds S1 R := rfl
theorem vRng2_i {i j} : vRng2 [.int i, .int j] S R = ((-(2 ^ 62) ≤ i ∧ i < 2 ^ 62 ∧ -(2 ^ 62) ≤ j ∧ j < 2 ^ 62) ∧ R (rangeD i (j - i).toNat) (fun _ => True) S) := rfl
def vZip (ds : List D) (S : Sto) (R : List D → (Sto → Prop) → Sto → Prop) : Prop := iZipD (fun _ S Q => Q ds S) [] S R
theorem iZipD_e : iZipD fs σ S R = fs σ S fun ds S1 => vZip ds S1 R := rfl
theorem vZip_r : vZip [.ref p, .ref q] S R = ∃ xs ys, S p = some (.lst xs) ∧ S q = some (.lst ys) ∧ R (pairs xs ys) (fun S => S p = some (.lst xs) ∧ S q = some (.lst ys)) S := rfl
theorem vZip_t {xs ys} : vZip [.tup xs, .tup ys] S R = R (pairs xs ys) (fun _ => True) S := rfl
def vEnum (ds : List D) (S : Sto) (R : List D → (Sto → Prop) → Sto → Prop) : Prop := iEnumD (fun _ S Q => Q ds S) [] S R
theorem iEnumD_e : iEnumD fs σ S R = fs σ S fun ds S1 => vEnum ds S1 R := rfl
theorem vEnum_r : vEnum [.ref p] S R = ∃ xs, S p = some (.lst xs) ∧ R (enumD xs) (fun S => S p = some (.lst xs)) S := rfl
/-! targets, stores -/
variable {N : Env → Sto → Prop} {gs : List D → Env → Sto → (Env → Sto → Prop) → Prop} {gg : DG}
theorem nTupL_t {n ds} : nTupL n gs (.tup ds) σ S N = (ds.length = n ∧ gs ds σ S N) := rfl
theorem nTupL_r {n} : nTupL n gs (.ref p) σ S N = ∃ ds, S p = some (.lst ds) ∧ ds.length = n ∧ gs ds σ S N := rfl
theorem nCons_c {d r} : nCons gg gs (d :: r) σ S N = gg d σ S fun σ1 S1 => gs r σ1 S1 N := rfl
theorem nNil_n : nNil [] σ S N = N σ S := rfl
def oPut (o : Option O) (p : Addr) (i d : D) (S : Sto) (N : Sto → Prop) : Prop := match o with
  | some (.dk kvs) => ∃ k, toKey i = some k ∧ kvs.length < sizeLine ∧ N (updS S p (.dk (putD kvs k d)))
  | some (.dt kvs) => (match i with
    | .kt ks => kvs.length < sizeLine ∧ N (updS S p (.dt (putT kvs ks d)))
    | _ => False)
  | some (.lst xs) => (match i with
    | .int n => ∃ j, ixN xs.length n = some j ∧ N (updS S p (.lst (xs.set j d)))
    | _ => False)
  | none => False
def vPut (o i d : D) (S : Sto) (N : Sto → Prop) : Prop := match o with
  | .ref p => oPut (S p) p i d S N
  | _ => False
theorem sSub_e {fv fo fi : DE} {D0 : DEnds} : sSub fv fo fi D0 σ S = fv σ S fun d S1 => fo σ S1 fun o S2 => fi σ S2 fun i S3 => vPut o i d S3 (D0.nx σ) := by
  unfold sSub
  refine congrArg (fv σ S) (funext fun d => funext fun S1 => congrArg (fo σ S1) (funext fun o => funext fun S2 => congrArg (fi σ S2) (funext fun i => funext fun S3 => ?_)))
  unfold vPut oPut
  cases o with
  | ref p =>
    dsimp only
    all_goals cases S3 p with
    | none => rfl
    | some u => cases u <;> rfl
  | _ => rfl
theorem vPut_r {i d M} : vPut (.ref p) i d S M = oPut (S p) p i d S M := rfl
theorem oPut_ds {kvs} {x : Str} {d M} : oPut (some (.dk kvs)) p (.str x) d S M = (kvs.length < sizeLine ∧ M (updS S p (.dk (putD kvs (.inr x) d)))) := by
  show (∃ k, some (Sum.inr x) = some k ∧ kvs.length < sizeLine ∧ M (updS S p (.dk (putD kvs k d)))) = _
  simp only [Option.some.injEq, exists_eq_left']
theorem oPut_di {kvs} {x : Int} {d M} : oPut (some (.dk kvs)) p (.int x) d S M = (kvs.length < sizeLine ∧ M (updS S p (.dk (putD kvs (.inl x) d)))) := by
  show (∃ k, some (Sum.inl x) = some k ∧ kvs.length < sizeLine ∧ M (updS S p (.dk (putD kvs k d)))) = _
  simp only [Option.some.injEq, exists_eq_left']
theorem oPut_l {xs n d M} : oPut (some (.lst xs)) p (.int n) d S M = ∃ j, ixN xs.length n = some j ∧ M (updS S p (.lst (xs.set j d))) := rfl
end
end DL
namespace DL
section
variable {n : Env → Sto → Prop} {r : DK} {b c : Env → Sto → Prop}
theorem nx_mk : DEnds.nx ⟨n, r, b, c⟩ = n := id rfl
theorem rt_mk : DEnds.rt ⟨n, r, b, c⟩ = r := id rfl
theorem bk_mk : DEnds.bk ⟨n, r, b, c⟩ = b := id rfl
theorem ct_mk : DEnds.ct ⟨n, r, b, c⟩ = c := id rfl
end
end DL
/-! rows of the mirrors, continued -/
namespace DL
open PySem L2
section
variable {S S1 S' : Sto} {Q : DK} {σ : DL.Env} {p q : Addr} {fo fe ff fa : DE} {m : MF}
theorem gLt2_ii {i j} : gLt2 (.int i) (.int j) S Q = Q (.bl (decide (i < j))) S := rfl
theorem gLt2_ss {i j : Str} : gLt2 (.str i) (.str j) S Q = Q (.bl (decide (i.cps.toList < j.cps.toList))) S := rfl
def vTab (tab : List (Str × Int)) (y : D) (S : Sto) (Q : DK) : Prop := eTab tab (eC y) [] S Q
theorem eTab_e {tab : List (Str × Int)} {f : DE} : eTab tab f σ S Q = f σ S fun y S1 => vTab tab y S1 Q := rfl
theorem vTab_s {tab : List (Str × Int)} {z : Str} : vTab tab (.str z) S Q = ∃ i, tabAt tab z = some i ∧ Q (.int i) S := rfl
def vGet2 (p : Addr) (y z : D) (S : Sto) (Q : DK) : Prop := ∃ kvs k, S p = some (.dk kvs) ∧ toKey y = some k ∧ Q ((valD kvs k).getD z) S
def vGetO (o : D) (S : Sto) (R : Addr → Prop) : Prop := match o with
  | .ref p => (∃ kvs, S p = some (.dk kvs)) ∧ R p
  | _ => False
theorem eGet2_e : eGet2 fo fe ff σ S Q = fo σ S fun o S1 => vGetO o S1 fun p => fe σ S1 fun y S2 => ff σ S2 fun z S3 => vGet2 p y z S3 Q := by
  unfold eGet2 vGetO
  refine congrArg (fo σ S) (funext fun o => funext fun S1 => ?_)
  cases o <;> rfl
theorem vGetO_r {R : Addr → Prop} : vGetO (.ref p) S R = ((∃ kvs, S p = some (.dk kvs)) ∧ R p) := rfl
theorem vGet2_s {x : Str} {z : D} : vGet2 p (.str x) z S Q = ∃ kvs, S p = some (.dk kvs) ∧ Q ((valD kvs (.inr x)).getD z) S := by
  show (∃ kvs k, S p = some (.dk kvs) ∧ some (Sum.inr x) = some k ∧ Q ((valD kvs k).getD z) S) = _
  refine propext ⟨fun ⟨kvs, k, h1, h2, h3⟩ => ?_, fun ⟨kvs, h1, h3⟩ => ⟨kvs, _, h1, rfl, h3⟩⟩
  cases h2
  exact ⟨kvs, h1, h3⟩
end
end DL
/-! rows of the mirrors: repr, len(set(..)), [::-1] -/
namespace DL
open PySem L2
section
variable {S S1 S' : Sto} {Q : DK} {σ : DL.Env} {p q : Addr} {fo fe ff fa : DE} {m : MF}
def vLenSet (d : D) (S : Sto) (Q : DK) : Prop := ∃ ds ks, itmD S d = some ds ∧ asKs ds = some ks ∧ ks.length + 1 < 4096 ∧ Q (.int (dst ks)) S
theorem eLenSet_e : eLenSet fe σ S Q = fe σ S fun d S1 => vLenSet d S1 Q := rfl
theorem vLenSet_strs {zs : List Str} (h : S p = some (.lst (zs.map .str))) (hl : zs.length < 4000) (q : ∀ n : Nat, n ≤ zs.length → (n = zs.length ↔ zs.Nodup) → Q (.int n) S) : vLenSet (.ref p) S Q := by
  refine ⟨zs.map .str, zs.map .inr, ?_, asKs_strs zs, by rw [List.length_map]; omega, q _ (by have := dst_le (zs.map Sum.inr); rwa [List.length_map] at this) ?_⟩
  · unfold itmD
    dsimp only
    rw [h]
  · have := dst_iff (zs.map Sum.inr)
    rw [List.length_map] at this
    rw [this]
    unfold List.Nodup
    rw [List.pairwise_map]
    exact ⟨fun h => h.imp fun a b => a (by rw [b]), fun h => h.imp fun a b => a (Sum.inr.inj b)⟩
def vRev (d : D) (S : Sto) (Q : DK) : Prop := match d with
  | .tup ds => Q (.tup ds.reverse) S
  | d => ∃ ds, itmD S d = some ds ∧ ∀ q, S q = none → Q (.ref q) (updS S q (.lst ds.reverse))
theorem eRev_e : eRev fe σ S Q = fe σ S fun d S1 => vRev d S1 Q := by
  unfold eRev vRev
  refine congrArg (fe σ S) (funext fun d => funext fun S1 => ?_)
  cases d <;> rfl
theorem vRev_t {ds : List D} : vRev (.tup ds) S Q = Q (.tup ds.reverse) S := rfl
theorem gStr2_i {i} : gStr2 [.int i] S Q = (i.natAbs.log2 < 1920 ∧ Q (.str (Str.ofString (toString i))) S) := rfl
theorem gStr2_s {z} : gStr2 [.str z] S Q = Q (.str z) S := rfl
def boxD : D → Bool
  | .tup _ => true
  | .fl _ => true
  | .ref _ => true
  | _ => false
theorem repr_i {d : D} {pd : PyData} (h : RP S d pd) (hd : boxD d = true) (hs : pd.showable = true) (hp : pd.depth ≤ 32) (hl : pd.shown.length ≤ sizeLine) (q : Q (.str pd.shown) S) : gRepr [d] S Q := by
  cases d <;> first | exact ⟨_, pd, rfl, h, trivial, hs, hp, hl, q⟩ | (unfold boxD at hd; cases hd)
end
end DL
/-! rows of the mirrors: tables, pairs -/
namespace DL
open PySem L2
section
variable {S S1 S' : Sto} {Q : DK} {σ : DL.Env} {p q : Addr} {fe : DE} {fs : DA} {D0 : DEnds}
def vTabIn (tab : List (Str × Int)) (f : Bool → Bool) (y : D) (S : Sto) (Q : DK) : Prop := eTabIn tab f (eC y) [] S Q
theorem eTabIn_e {tab : List (Str × Int)} {f : Bool → Bool} : eTabIn tab f fe σ S Q = fe σ S fun y S1 => vTabIn tab f y S1 Q := rfl
theorem vTabIn_s {tab : List (Str × Int)} {f : Bool → Bool} {z : Str} : vTabIn tab f (.str z) S Q = ((tabAt tab z).isSome = true ∧ Q (.bl (f true)) S) := rfl
def vPar (i j : Nat) (ds : List D) (D0 : DEnds) (σ : DL.Env) (S : Sto) : Prop := sPar i j (fun _ S K => K ds S) D0 σ S
theorem sPar_e {i j : Nat} : sPar i j fs D0 σ S = fs σ S fun ds S1 => vPar i j ds D0 σ S1 := rfl
theorem vPar_2 {i j : Nat} {v w : D} : vPar i j [v, w] D0 σ S = D0.nx (setS j w (setS i v σ)) S := rfl
theorem gSortedA_i {xs : List D} (h : gSorted xs S Q ∨ gSorted2 xs S Q) : gSortedA xs S Q := h
end
end DL
namespace LW
open PySem L2 DL
section
variable {S S1 S' : Sto} {Q : DK} {σ : DL.Env} {p q : Addr} {fo fe ff fa : DE} {m : MF}
def vListV (o : D) (S : Sto) (Q : DK) : Prop := match o with
  | .ref p => ∃ kvs, S p = some (.dk kvs) ∧ ∀ a, S a = none → Q (.ref a) (updS S a (.lst (kvs.map (·.2))))
  | _ => False
theorem eListV_e : eListV fo σ S Q = fo σ S fun o S1 => vListV o S1 Q := by
  unfold eListV vListV
  rfl
theorem vListV_r : vListV (.ref p) S Q = ∃ kvs, S p = some (.dk kvs) ∧ ∀ a, S a = none → Q (.ref a) (updS S a (.lst (kvs.map (·.2)))) := rfl
def vSortK (m : MF) (o : D) (S : Sto) (Q : DK) : Prop := match o with
  | .ref p => ∃ xs, S p = some (.lst xs) ∧ keyed m xs fun ys => ∀ n, S n = none → Q (.ref n) (updS S n (.lst ys))
  | _ => False
theorem eSortK_e : eSortK m fa σ S Q = fa σ S fun o S1 => vSortK m o S1 Q := by
  unfold eSortK vSortK
  rfl
theorem vSortK_r : vSortK m (.ref p) S Q = ∃ xs, S p = some (.lst xs) ∧ keyed m xs fun ys => ∀ n, S n = none → Q (.ref n) (updS S n (.lst ys)) := rfl
end
end LW
namespace LW
open PySem L2 DL
section
variable {S S1 S' : Sto} {Q : DK} {R : List D → (Sto → Prop) → Sto → Prop} {σ : DL.Env} {p q : Addr} {fo fe ff fa : DE} {fs : DA} {m : MF}
theorem gSplit_s {z y : Str} : gSplit (.str z) [.str y] S Q = ((y.length == 0) = false ∧ z.length + 2 ≤ sizeLine ∧ ∀ p, S p = none → Q (.ref p) (updS S p (.lst ((Txt.split z y).map .str)))) := rfl
theorem gExtend_rt {ds : List D} : gExtend (.ref p) [.tup ds] S Q = ∃ xs, S p = some (.lst xs) ∧ xs.length + ds.length ≤ sizeLine ∧ Q .non (updS S p (.lst (xs ++ ds))) := rfl
theorem gInt2_s {z : Str} : gInt2 [.str z] S Q = ∃ n, PySem.intText? z = some n ∧ z.length ≤ 640 ∧ Q (.int n) S := rfl
def vRng3 (ds : List D) (S : Sto) (R : List D → (Sto → Prop) → Sto → Prop) : Prop := iRange3 (fun _ S Q => Q ds S) [] S R
theorem iRange3_e : iRange3 fs σ S R = fs σ S fun ds S1 => vRng3 ds S1 R := rfl
theorem vRng3_i {i j c : Int} : vRng3 [.int i, .int j, .int c] S R = ∃ n, RgC i j c n ∧ R (stepD i c n) (fun _ => True) S := rfl
def vTabW (tab : List (Str × List Int)) (y : D) (S : Sto) (Q : DK) : Prop := match y with
  | .str z => ∃ is, tabWAt tab z = some is ∧ Q (.tup (is.map .int)) S
  | _ => False
theorem eTabW_e {tab : List (Str × List Int)} : eTabW tab fe ff σ S Q = fe σ S fun y S1 => ff σ S1 fun _ S2 => vTabW tab y S2 Q := rfl
theorem vTabW_s {tab : List (Str × List Int)} {z : Str} : vTabW tab (.str z) S Q = ∃ is, tabWAt tab z = some is ∧ Q (.tup (is.map .int)) S := rfl
end
end LW
namespace LW
open PySem L2 DL
section
variable {S S1 S' : Sto} {Q : DK} {D0 : DEnds} {Ed : EK} {σ : DL.Env} {f g : DSX}
theorem seqx_i (h : f { D0 with nx := g D0 Ed } Ed σ S) : xSeq f g D0 Ed σ S := h
end
end LW
namespace LW
open PySem L2 DL
section
variable {S S1 S' : Sto} {Q : DK} {σ : DL.Env} {fs : DA} {f : DE} {p q : Addr}
theorem eTupK_e : eTupK fs σ S Q = fs σ S fun xs S1 => xs.length ≤ sizeLine ∧ ∃ ks, toKeys xs = some ks ∧ Q (.kt ks) S1 := id rfl
theorem eUp_e : eUp f σ S Q = f σ S fun d S1 => Q (upD d) S1 := id rfl
theorem eDictT0_e : eDictT0 σ S Q = ∀ p, S p = none → Q (.ref p) (updS S p (.dt [])) := id rfl
theorem gListK_r : gListK [.ref q] S Q = ∃ kvs, S q = some (.dt kvs) ∧ ∀ p, S p = none → Q (.ref p) (updS S p (.lst (kvs.map fun kv => .kt kv.1))) := id rfl
theorem oIx_t {kvs ks} : oIx (some (.dt kvs)) (.kt ks) S Q = ∃ d, valT kvs ks = some d ∧ Q d S := id rfl
theorem oPut_t {kvs ks d} {M : Sto → Prop} : oPut (some (.dt kvs)) p (.kt ks) d S M = (kvs.length < sizeLine ∧ M (updS S p (.dt (putT kvs ks d)))) := id rfl
theorem eCallV_e {i n : Nat} {tab : FTab} : eCallV i n tab fs σ S Q = ∃ c m, getS i σ = some (.cls c) ∧ (c, m) ∈ tab ∧ fs σ S fun ds S1 => ds.length = n ∧ m ds S1 Q := id rfl
theorem toKeys_ss {a b : Str} : toKeys [.str a, .str b] = some [.inr a, .inr b] := id rfl
theorem upD_k {ks} : upD (.kt ks) = .tup (ks.map kD) := id rfl
end
end LW
namespace LW
open PySem L2 DL
noncomputable def R_pp4 := (And.intro @nx_mk (And.intro @rt_mk (And.intro @bk_mk (And.intro @ct_mk (And.intro @gEq_ii (And.intro @gEq_ss (And.intro @gEq_bb (And.intro @gEq_nn (And.intro @gEq_ni (And.intro @gEq_in (And.intro @gEq_ns (And.intro @gEq_sn (And.intro @gEq_si (And.intro @gEq_is (And.intro @tTr_e (And.intro @vTru_non (And.intro @vTru_bl (And.intro @vTru_int (And.intro @vTru_str (And.intro @vTru_tup (And.intro @vTru_ref (And.intro @oTru_l (And.intro @oTru_d (And.intro @tBl_e (And.intro @vBl_bl (And.intro @eNeg_e (And.intro @vNeg_int (And.intro @eChain_e (And.intro @eAnd_e (And.intro @eOr_e (And.intro @eNot_e (And.intro @oSome_e (And.intro @vSome_int (And.intro @gAdd_ii (And.intro @gAdd_ss (And.intro @gAdd_tt (And.intro @gAdd_rr (And.intro @gI_ii (And.intro @eLenSet_e (And.intro @eRev_e (And.intro @vRev_t (And.intro @gStr2_i (And.intro @gStr2_s (And.intro @gI0_ii (And.intro @gMulA_ii (And.intro @gMulA_ri (And.intro @gMulA_ti (And.intro @gLt_ii (And.intro @gLt_ss (And.intro @gLt2_ii (And.intro @gLt2_ss (And.intro @eTab_e (And.intro @vTab_s (And.intro @eGet2_e (And.intro @vGetO_r (And.intro @vGet2_s (And.intro @gIs_n (And.intro @gIs_b (And.intro @isNon_n (And.intro @isNon_b (And.intro @isNon_i (And.intro @isNon_s (And.intro @isNon_t (And.intro @isNon_r (And.intro @gIx_r (And.intro @oIx_li (And.intro @oIx_ds (And.intro @oIx_di (And.intro @gIx_ti (And.intro @gIx_fi (And.intro @gIx_si (And.intro @gSl_t (And.intro @gSl_s (And.intro @gSl_f (And.intro @gSl_r (And.intro @gIn_ss (And.intro @gIn_t (And.intro @gIn_r (And.intro @oIn_l (And.intro @oIn_ds (And.intro @gLen_s (And.intro @gLen_t (And.intro @gLen_f (And.intro @gLen_r (And.intro @oLen_l (And.intro @oLen_d (And.intro @gAbs_i (And.intro @gMax2_ii (And.intro @gMin2_ii (And.intro @gInt1_i (And.intro @gInt1_b (And.intro @gList_t (And.intro @gList_f (And.intro @gList_r (And.intro @gTuple_t (And.intro @gTuple_f (And.intro @gTuple_r (And.intro @gSum_r (And.intro @gAll_r (And.intro @gIsi_x (And.intro @tyD_n (And.intro @tyD_b (And.intro @tyD_i (And.intro @tyD_s (And.intro @tyD_t (And.intro @tyD_f (And.intro @tyD_r (And.intro @oTy_l (And.intro @oTy_d (And.intro @tyM_s (And.intro @tyM_r (And.intro @oTyM_l (And.intro @oTyM_d (And.intro @gAppend_r (And.intro @gPop0_r (And.intro @gPopAt_r (And.intro @gClear_r (And.intro @gReverse_r (And.intro @gJoin_r (And.intro @gUpper_s (And.intro @gStr_i (And.intro @gSorted_r (And.intro @iSeq_e (And.intro @vSeq_r (And.intro @vSeq_f (And.intro @vSeq_t (And.intro @vSeq_s (And.intro @iRange1_e (And.intro @vRng1_i (And.intro @iRange2_e (And.intro @vRng2_i (And.intro @iZipD_e (And.intro @vZip_r (And.intro @vZip_t (And.intro @iEnumD_e (And.intro @vEnum_r (And.intro @nTupL_t (And.intro @nTupL_r (And.intro @nCons_c (And.intro @nNil_n (And.intro @sSub_e (And.intro @vPut_r (And.intro @oPut_ds (And.intro @oPut_di @oPut_l))))))))))))))))))))))))))))))))))))))))))))))))))))))))))))))))))))))))))))))))))))))))))))))))))))))))))))))))))))))))))))))))))))))))))))))))
noncomputable def R_pp7 := (And.intro @nx_mk (And.intro @rt_mk (And.intro @bk_mk (And.intro @ct_mk (And.intro @gEq_ii (And.intro @gEq_ss (And.intro @gEq_bb (And.intro @gEq_nn (And.intro @gEq_ni (And.intro @gEq_in (And.intro @gEq_ns (And.intro @gEq_sn (And.intro @gEq_si (And.intro @gEq_is (And.intro @tTr_e (And.intro @vTru_non (And.intro @vTru_bl (And.intro @vTru_int (And.intro @vTru_str (And.intro @vTru_tup (And.intro @vTru_ref (And.intro @oTru_l (And.intro @oTru_d (And.intro @tBl_e (And.intro @vBl_bl (And.intro @eNeg_e (And.intro @vNeg_int (And.intro @eChain_e (And.intro @eAnd_e (And.intro @eOr_e (And.intro @eNot_e (And.intro @oSome_e (And.intro @vSome_int (And.intro @gAdd_ii (And.intro @gAdd_ss (And.intro @gAdd_tt (And.intro @gAdd_rr (And.intro @gI_ii (And.intro @eTabIn_e (And.intro @vTabIn_s (And.intro @sPar_e (And.intro @vPar_2 (And.intro @eLenSet_e (And.intro @gSplit_s (And.intro @gExtend_rt (And.intro @gInt2_s (And.intro @iRange3_e (And.intro @vRng3_i (And.intro @eTabW_e (And.intro @vTabW_s (And.intro @eListV_e (And.intro @vListV_r (And.intro @eSortK_e (And.intro @vSortK_r (And.intro @eRev_e (And.intro @vRev_t (And.intro @gStr2_i (And.intro @gStr2_s (And.intro @gI0_ii (And.intro @gMulA_ii (And.intro @gMulA_ri (And.intro @gMulA_ti (And.intro @gLt_ii (And.intro @gLt_ss (And.intro @gLt2_ii (And.intro @gLt2_ss (And.intro @eTab_e (And.intro @vTab_s (And.intro @eGet2_e (And.intro @vGetO_r (And.intro @vGet2_s (And.intro @gIs_n (And.intro @gIs_b (And.intro @isNon_n (And.intro @isNon_b (And.intro @isNon_i (And.intro @isNon_s (And.intro @isNon_t (And.intro @isNon_r (And.intro @gIx_r (And.intro @oIx_li (And.intro @oIx_ds (And.intro @oIx_di (And.intro @gIx_ti (And.intro @gIx_fi (And.intro @gIx_si (And.intro @gSl_t (And.intro @gSl_s (And.intro @gSl_f (And.intro @gSl_r (And.intro @gIn_ss (And.intro @gIn_t (And.intro @gIn_r (And.intro @oIn_l (And.intro @oIn_ds (And.intro @gLen_s (And.intro @gLen_t (And.intro @gLen_f (And.intro @gLen_r (And.intro @oLen_l (And.intro @oLen_d (And.intro @gAbs_i (And.intro @gMax2_ii (And.intro @gMin2_ii (And.intro @gInt1_i (And.intro @gInt1_b (And.intro @gList_t (And.intro @gList_f (And.intro @gList_r (And.intro @gTuple_t (And.intro @gTuple_f (And.intro @gTuple_r (And.intro @gSum_r (And.intro @gAll_r (And.intro @gIsi_x (And.intro @tyD_n (And.intro @tyD_b (And.intro @tyD_i (And.intro @tyD_s (And.intro @tyD_t (And.intro @tyD_f (And.intro @tyD_r (And.intro @oTy_l (And.intro @oTy_d (And.intro @tyM_s (And.intro @tyM_r (And.intro @oTyM_l (And.intro @oTyM_d (And.intro @gAppend_r (And.intro @gPop0_r (And.intro @gPopAt_r (And.intro @gClear_r (And.intro @gReverse_r (And.intro @gJoin_r (And.intro @gUpper_s (And.intro @gStr_i (And.intro @gSorted_r (And.intro @iSeq_e (And.intro @vSeq_r (And.intro @vSeq_f (And.intro @vSeq_t (And.intro @vSeq_s (And.intro @iRange1_e (And.intro @vRng1_i (And.intro @iRange2_e (And.intro @vRng2_i (And.intro @iZipD_e (And.intro @vZip_r (And.intro @vZip_t (And.intro @iEnumD_e (And.intro @vEnum_r (And.intro @nTupL_t (And.intro @nTupL_r (And.intro @nCons_c (And.intro @nNil_n (And.intro @sSub_e (And.intro @vPut_r (And.intro @oPut_ds (And.intro @oPut_di @oPut_l)))))))))))))))))))))))))))))))))))))))))))))))))))))))))))))))))))))))))))))))))))))))))))))))))))))))))))))))))))))))))))))))))))))))))))))))))))))))))))))))
noncomputable def R_pp9 := (And.intro @nx_mk (And.intro @rt_mk (And.intro @bk_mk (And.intro @ct_mk (And.intro @eTupK_e (And.intro @eUp_e (And.intro @eDictT0_e (And.intro @gListK_r (And.intro @oIx_t (And.intro @oPut_t (And.intro @toKeys_ss (And.intro @upD_k (And.intro @gEq_ii (And.intro @gEq_ss (And.intro @gEq_bb (And.intro @gEq_nn (And.intro @gEq_ni (And.intro @gEq_in (And.intro @gEq_ns (And.intro @gEq_sn (And.intro @gEq_si (And.intro @gEq_is (And.intro @tTr_e (And.intro @vTru_non (And.intro @vTru_bl (And.intro @vTru_int (And.intro @vTru_str (And.intro @vTru_tup (And.intro @vTru_ref (And.intro @oTru_l (And.intro @oTru_d (And.intro @tBl_e (And.intro @vBl_bl (And.intro @eNeg_e (And.intro @vNeg_int (And.intro @eChain_e (And.intro @eAnd_e (And.intro @eOr_e (And.intro @eNot_e (And.intro @oSome_e (And.intro @vSome_int (And.intro @gAdd_ii (And.intro @gAdd_ss (And.intro @gAdd_tt (And.intro @gAdd_rr (And.intro @gI_ii (And.intro @eTabIn_e (And.intro @vTabIn_s (And.intro @sPar_e (And.intro @vPar_2 (And.intro @eLenSet_e (And.intro @gSplit_s (And.intro @gExtend_rt (And.intro @gInt2_s (And.intro @iRange3_e (And.intro @vRng3_i (And.intro @eTabW_e (And.intro @vTabW_s (And.intro @eListV_e (And.intro @vListV_r (And.intro @eSortK_e (And.intro @vSortK_r (And.intro @eRev_e (And.intro @vRev_t (And.intro @gStr2_i (And.intro @gStr2_s (And.intro @gI0_ii (And.intro @gMulA_ii (And.intro @gMulA_ri (And.intro @gMulA_ti (And.intro @gLt_ii (And.intro @gLt_ss (And.intro @gLt2_ii (And.intro @gLt2_ss (And.intro @eTab_e (And.intro @vTab_s (And.intro @eGet2_e (And.intro @vGetO_r (And.intro @vGet2_s (And.intro @gIs_n (And.intro @gIs_b (And.intro @isNon_n (And.intro @isNon_b (And.intro @isNon_i (And.intro @isNon_s (And.intro @isNon_t (And.intro @isNon_r (And.intro @gIx_r (And.intro @oIx_li (And.intro @oIx_ds (And.intro @oIx_di (And.intro @gIx_ti (And.intro @gIx_fi (And.intro @gIx_si (And.intro @gSl_t (And.intro @gSl_s (And.intro @gSl_f (And.intro @gSl_r (And.intro @gIn_ss (And.intro @gIn_t (And.intro @gIn_r (And.intro @oIn_l (And.intro @oIn_ds (And.intro @gLen_s (And.intro @gLen_t (And.intro @gLen_f (And.intro @gLen_r (And.intro @oLen_l (And.intro @oLen_d (And.intro @gAbs_i (And.intro @gMax2_ii (And.intro @gMin2_ii (And.intro @gInt1_i (And.intro @gInt1_b (And.intro @gList_t (And.intro @gList_f (And.intro @gList_r (And.intro @gTuple_t (And.intro @gTuple_f (And.intro @gTuple_r (And.intro @gSum_r (And.intro @gAll_r (And.intro @gIsi_x (And.intro @tyD_n (And.intro @tyD_b (And.intro @tyD_i (And.intro @tyD_s (And.intro @tyD_t (And.intro @tyD_f (And.intro @tyD_r (And.intro @oTy_l (And.intro @oTy_d (And.intro @tyM_s (And.intro @tyM_r (And.intro @oTyM_l (And.intro @oTyM_d (And.intro @gAppend_r (And.intro @gPop0_r (And.intro @gPopAt_r (And.intro @gClear_r (And.intro @gReverse_r (And.intro @gJoin_r (And.intro @gUpper_s (And.intro @gStr_i (And.intro @gSorted_r (And.intro @iSeq_e (And.intro @vSeq_r (And.intro @vSeq_f (And.intro @vSeq_t (And.intro @vSeq_s (And.intro @iRange1_e (And.intro @vRng1_i (And.intro @iRange2_e (And.intro @vRng2_i (And.intro @iZipD_e (And.intro @vZip_r (And.intro @vZip_t (And.intro @iEnumD_e (And.intro @vEnum_r (And.intro @nTupL_t (And.intro @nTupL_r (And.intro @nCons_c (And.intro @nNil_n (And.intro @sSub_e (And.intro @vPut_r (And.intro @oPut_ds (And.intro @oPut_di @oPut_l)))))))))))))))))))))))))))))))))))))))))))))))))))))))))))))))))))))))))))))))))))))))))))))))))))))))))))))))))))))))))))))))))))))))))))))))))))))))))))))))))))))))
end LW
namespace LW
open PySem PySem.Spec PyProof.Rows L2 DL
def topS (i : Nat) : Stmt := PySem.Challenge.pw_dykelengths_k73_papers_written_and_read.main.body.getD i (.Pass ⟨0, 0, 0, 0⟩)
def xtab : XTab := []
abbrev s_wpen : Stmt := topS 27
abbrev s_wtake : Stmt := topS 28
abbrev s_wnames : Stmt := topS 29
abbrev s_wcalling : Stmt := topS 31
abbrev s_wchain : Stmt := topS 30
abbrev s_wlisted_text : Stmt := topS 33
abbrev s_wcalling_text : Stmt := topS 34
abbrev s_wchain_text : Stmt := topS 32
abbrev s_listed : Stmt := topS 1
abbrev s_places_text : Stmt := topS 5
abbrev s_names_text : Stmt := topS 4
abbrev s_calling_text : Stmt := topS 3
abbrev s_chain_text : Stmt := topS 2
abbrev s_need_text : Stmt := topS 20
abbrev s_words_in : Stmt := topS 22
abbrev s_is_name : Stmt := topS 12
abbrev s_are_names : Stmt := topS 13
abbrev s_is_rising : Stmt := topS 15
abbrev s_read_names : Stmt := topS 25
abbrev s_read_chain : Stmt := topS 23
abbrev s_number_in : Stmt := topS 19
abbrev s_read_calling : Stmt := topS 24
abbrev s_wread_right : Stmt := topS 35
abbrev s_wright : Stmt := topS 36
abbrev s_law : Stmt := topS 37
noncomputable def b_wpen : DS := (sRet (eDict (pCons (eC (.str "cells")) (eCB gList (aCons (eSl (eVar 0) oNo (oSome (eC (.int 63)))) aNil)) (pCons (eC (.str "at")) (eC (.int 0)) (pCons (eC (.str "left")) (eC (.int 0)) pNil)))))
theorem x_m_wpen : ∃ m : MF, m = fun ds S Q => b_wpen (endsD Q) (startD 1 ds) S := ⟨_, rfl⟩
noncomputable def m_wpen : MF := Classical.choose x_m_wpen
theorem q_m_wpen : m_wpen = fun ds S Q => b_wpen (endsD Q) (startD 1 ds) S := Classical.choose_spec x_m_wpen
theorem e_wpen (a0 : D) (S : Sto) (Q : DK) : m_wpen [a0] S Q = b_wpen (endsD Q) [some a0] S := by rw [q_m_wpen]; rfl
theorem sc_wpen : FnScope ["_law_script"] ["_law_script"] (defScope s_wpen) := ⟨rfl, rfl, rfl, by decide +kernel, rfl, by decide +kernel, by decide +kernel⟩
noncomputable def t_wtake_4 : DS := (sRet (eVar 7))
noncomputable def t_wtake_3 : DS := (sSeq (sSub (eOp gFdiv (eOp gIx (eVar 0) (eC (.str "left"))) (eVar 1)) (eVar 0) (eC (.str "left"))) t_wtake_4)
noncomputable def t_wtake_13 : DS := (sRet (eOp gMod (eCB gAbs (aCons (eVar 4) aNil)) (eVar 1)))
noncomputable def t_wtake_16 : DS := (sRet (eOp gMod (eOp gFdiv (eOp gMod (eOp gMulA (eVar 6) (eOp gAdd (eOp gMod (eVar 5) (eC (.int 64007))) (eC (.int 1)))) (eC (.int 2147483579))) (eC (.int 64))) (eVar 1)))
noncomputable def t_wtake_15 : DS := (sSeq (sAsg (eOp gMod (eOp gPow (eOp gAdd (eOp gAdd (eVar 5) (eOp gMulA (eOp gMulA (eC (.int 1213)) (eVar 2)) (eVar 2))) (eC (.int 3))) (eC (.int 5))) (eC (.int 2147483543))) (nName 6)) t_wtake_16)
noncomputable def t_wtake_14 : DS := (sSeq (sAsg (eOp gMod (eOp gPow (eOp gAdd (eOp gAdd (eOp gMod (eVar 4) (eC (.int 2147483587))) (eOp gMulA (eC (.int 45007)) (eVar 2))) (eC (.int 11))) (eC (.int 3))) (eC (.int 2147483629))) (nName 5)) t_wtake_15)
noncomputable def t_wtake_11 : DS := (sSeq (sIf (tAndD (tBl (eOp gLt2 (eVar 2) (eCB gLen (aCons (eVar 3) aNil)))) (tBl (eOp gGe (eCB gAbs (aCons (eVar 4) aNil)) (eOp gPow (eC (.int 10)) (eC (.int 18)))))) (sSeq (sSub (eOp gFdiv (eCB gAbs (aCons (eVar 4) aNil)) (eVar 1)) (eVar 0) (eC (.str "left"))) t_wtake_13) sNext) t_wtake_14)
noncomputable def t_wtake_9 : DS := (sSeq (sIf (tBl (eOp (gEq not) (eVar 3) (eLst aNil))) (sAsg (eOp gIx (eVar 3) (eOp gMod (eVar 2) (eCB gLen (aCons (eVar 3) aNil)))) (nName 4)) sNext) t_wtake_11)
noncomputable def t_wtake_8 : DS := (sSeq (sAsg (eOp gAdd (eOp gAdd (eOp gMulA (eOp gMulA (eC (.int 70207)) (eVar 2)) (eVar 2)) (eOp gMulA (eC (.int 131)) (eVar 2))) (eC (.int 29))) (nName 4)) t_wtake_9)
noncomputable def t_wtake_7 : DS := (sSeq (sAsg (eOp gIx (eVar 0) (eC (.str "cells"))) (nName 3)) t_wtake_8)
noncomputable def t_wtake_6 : DS := (sSeq (sSub (eOp gAdd (eVar 2) (eC (.int 1))) (eVar 0) (eC (.str "at"))) t_wtake_7)
noncomputable def t_wtake_5 : DS := (sSeq (sAsg (eOp gIx (eVar 0) (eC (.str "at"))) (nName 2)) t_wtake_6)
noncomputable def b_wtake : DS := (sSeq (sIf (tBl (eOp gGt (eOp gIx (eVar 0) (eC (.str "left"))) (eC (.int 0)))) (sSeq (sAsg (eOp gMod (eOp gIx (eVar 0) (eC (.str "left"))) (eVar 1)) (nName 7)) t_wtake_3) sNext) t_wtake_5)
theorem x_m_wtake : ∃ m : MF, m = fun ds S Q => b_wtake (endsD Q) (startD 8 ds) S := ⟨_, rfl⟩
noncomputable def m_wtake : MF := Classical.choose x_m_wtake
theorem q_m_wtake : m_wtake = fun ds S Q => b_wtake (endsD Q) (startD 8 ds) S := Classical.choose_spec x_m_wtake
theorem e_wtake (a0 a1 : D) (S : Sto) (Q : DK) : m_wtake [a0, a1] S Q = b_wtake (endsD Q) [some a0, some a1, none, none, none, none, none, none] S := by rw [q_m_wtake]; rfl
theorem sc_wtake : FnScope ["_law_pen_here", "_law_many", "_law_at", "_law_cells", "_law_cell", "_law_one", "_law_two", "_law_found"] ["_law_pen_here", "_law_many"] (defScope s_wtake) := ⟨rfl, rfl, rfl, by decide +kernel, rfl, by decide +kernel, by decide +kernel⟩
noncomputable def c_wnames_4 : DE := (eOp gIx (eVar 2) (eCall 2 m_wtake (aCons (eVar 0) (aCons (eC (.int 26)) aNil))))
noncomputable def t_wnames_15 : DS := (sAsg (eOp gFdiv (eOp gMns (eVar 11) (eC (.int 1))) (eC (.int 2))) (nName 11))
noncomputable def l_wnames_13 : DS := (sSeq (sAsg (eOp gAdd (eOp gIx (eVar 2) (eOp gMod (eOp gAdd (eVar 4) (eOp gMulA (eC (.int 9)) (eOp gMod (eVar 11) (eC (.int 2))))) (eC (.int 26)))) (eVar 10)) (nName 10)) t_wnames_15)
noncomputable def t_wnames_13 : DS := (sWhile (tBl (eOp gGt (eVar 11) (eC (.int 0)))) l_wnames_13)
noncomputable def t_wnames_12 : DS := (sSeq (sAsg (eOp gAdd (eVar 8) (eC (.int 1))) (nName 11)) t_wnames_13)
noncomputable def t_wnames_16 : DS := (sExpr (eM "list" gAppend (eVar 7) (aCons (eVar 10) aNil)))
noncomputable def t_wnames_10 : DS := (sSeq (sIf (tBl (eOp (gEq id) (eVar 3) (eC (.int 1)))) (sSeq (sAsg (eC (.str "")) (nName 10)) t_wnames_12) sNext) t_wnames_16)
noncomputable def t_wnames_9 : DS := (sSeq (sAsg (eOp gAdd (eOp gAdd (eSl (eVar 5) oNo (oSome (eVar 6))) (eVar 10)) (eSl (eVar 5) (oSome (eVar 6)) oNo)) (nName 10)) t_wnames_10)
noncomputable def l_wnames_7 : DS := (sSeq (sAsg (eOp gAdd (eOp gIx (eVar 2) (eOp gMod (eOp gAdd (eVar 4) (eOp gMulA (eC (.int 7)) (eVar 8))) (eC (.int 26)))) (eOp gIx (eVar 2) (eOp gMod (eOp gAdd (eVar 4) (eOp gFdiv (eVar 8) (eC (.int 26)))) (eC (.int 26))))) (nName 10)) t_wnames_9)
noncomputable def l_wnames_19 : DS := (sIf (tAndD (tBl (eOp (gEq id) (eCall 2 m_wtake (aCons (eVar 0) (aCons (eC (.int 2)) aNil))) (eC (.int 0)))) (tBl (eOp (gIn not) (eOp gIx (eVar 9) (eVar 8)) (eVar 7)))) (sSub (eOp gIx (eVar 9) (eVar 8)) (eVar 7) (eVar 8)) sNext)
noncomputable def t_wnames_22 : DS := (sRet (eVar 7))
noncomputable def t_wnames_18 : DS := (sSeq (sIf (tBl (eOp (gEq id) (eCall 2 m_wtake (aCons (eVar 0) (aCons (eC (.int 4)) aNil))) (eC (.int 0)))) (sFor (iRange1 (aCons (eCB gMin2 (aCons (eVar 1) (aCons (eC (.int 9)) aNil))) aNil)) (nName 8) l_wnames_19) sNext) t_wnames_22)
noncomputable def t_wnames_17 : DS := (sSeq (sAsg (eLst (aCons (eC (.str "as")) (aCons (eC (.str "with")) (aCons (eC (.str "part")) (aCons (eC (.str "field")) (aCons (eC (.str "none")) (aCons (eC (.str "done")) (aCons (eC (.str "write")) (aCons (eC (.str "back")) (aCons (eC (.str "join")) aNil)))))))))) (nName 9)) t_wnames_18)
noncomputable def t_wnames_7 : DS := (sSeq (sFor (iRange1 (aCons (eVar 1) aNil)) (nName 8) l_wnames_7) t_wnames_17)
noncomputable def t_wnames_6 : DS := (sSeq (sAsg (eLst aNil) (nName 7)) t_wnames_7)
noncomputable def t_wnames_5 : DS := (sSeq (sAsg (eCall 2 m_wtake (aCons (eVar 0) (aCons (eOp gAdd (eCB gLen (aCons (eVar 5) aNil)) (eC (.int 1))) aNil))) (nName 6)) t_wnames_6)
noncomputable def t_wnames_4 : DS := (sSeq (sAsg (eM "str" gJoin (eC (.str "")) (aCons (eLc (iRange1 (aCons (eOp gIx (eLst (aCons (eCall 2 m_wtake (aCons (eVar 0) (aCons (eC (.int 7)) aNil))) (aCons (eC (.int 0)) (aCons (eC (.int 6)) aNil)))) (eVar 3)) aNil)) (nName 8) tsYes c_wnames_4 [8]) aNil)) (nName 5)) t_wnames_5)
noncomputable def t_wnames_3 : DS := (sSeq (sAsg (eCall 2 m_wtake (aCons (eVar 0) (aCons (eC (.int 26)) aNil))) (nName 4)) t_wnames_4)
noncomputable def t_wnames_2 : DS := (sSeq (sAsg (eCall 2 m_wtake (aCons (eVar 0) (aCons (eC (.int 3)) aNil))) (nName 3)) t_wnames_3)
noncomputable def b_wnames : DS := (sSeq (sAsg (eC (.str "abcdefghijklmnopqrstuvwxyz")) (nName 2)) t_wnames_2)
theorem x_m_wnames : ∃ m : MF, m = fun ds S Q => b_wnames (endsD Q) (startD 12 ds) S := ⟨_, rfl⟩
noncomputable def m_wnames : MF := Classical.choose x_m_wnames
theorem q_m_wnames : m_wnames = fun ds S Q => b_wnames (endsD Q) (startD 12 ds) S := Classical.choose_spec x_m_wnames
theorem e_wnames (a0 a1 : D) (S : Sto) (Q : DK) : m_wnames [a0, a1] S Q = b_wnames (endsD Q) [some a0, some a1, none, none, none, none, none, none, none, none, none, none] S := by rw [q_m_wnames]; rfl
theorem sc_wnames : FnScope ["_law_pen_here", "_law_many", "_law_letters", "_law_way", "_law_turn", "_law_base", "_law_spot", "_law_found", "_law_k", "_law_terms", "_law_word", "_law_rest"] ["_law_pen_here", "_law_many"] (defScope s_wnames) := ⟨rfl, rfl, rfl, by decide +kernel, rfl, by decide +kernel, by decide +kernel⟩
noncomputable def t_wcalling_4 : DS := (sSub (eOp gIx (eLst (aCons (eC (.int 1)) (aCons (eOp gAdd (eC (.int 1)) (eCall 2 m_wtake (aCons (eVar 0) (aCons (eOp gPow (eC (.int 10)) (eC (.int 6))) aNil)))) (aCons (eOp gMns (eOp gPow (eC (.int 10)) (eC (.int 60))) (eC (.int 1))) aNil)))) (eCall 2 m_wtake (aCons (eVar 0) (aCons (eC (.int 3)) aNil)))) (eVar 2) (eVar 4))
noncomputable def l_wcalling_2 : DS := (sSeq (sAsg (eTupK (aCons (eOp gIx (eVar 1) (eCall 2 m_wtake (aCons (eVar 0) (aCons (eCB gLen (aCons (eVar 1) aNil)) aNil)))) (aCons (eOp gIx (eVar 1) (eCall 2 m_wtake (aCons (eVar 0) (aCons (eCB gLen (aCons (eVar 1) aNil)) aNil)))) aNil))) (nName 4)) t_wcalling_4)
noncomputable def c_wcalling_5 : DE := (eOp gAdd (eUp (eVar 4)) (eTup (aCons (eOp gIx (eVar 2) (eVar 4)) aNil)))
noncomputable def t_wcalling_5 : DS := (sRet (eLc (iSeq (eCB gSortedA (aCons (eCB gListK (aCons (eVar 2) aNil)) aNil))) (nName 4) tsYes c_wcalling_5 [4]))
noncomputable def t_wcalling_2 : DS := (sSeq (sFor (iRange1 (aCons (eCall 2 m_wtake (aCons (eVar 0) (aCons (eC (.int 9)) aNil))) aNil)) (nName 3) l_wcalling_2) t_wcalling_5)
noncomputable def b_wcalling : DS := (sSeq (sAsg eDictT0 (nName 2)) t_wcalling_2)
theorem x_m_wcalling : ∃ m : MF, m = fun ds S Q => b_wcalling (endsD Q) (startD 5 ds) S := ⟨_, rfl⟩
noncomputable def m_wcalling : MF := Classical.choose x_m_wcalling
theorem q_m_wcalling : m_wcalling = fun ds S Q => b_wcalling (endsD Q) (startD 5 ds) S := Classical.choose_spec x_m_wcalling
theorem e_wcalling (a0 a1 : D) (S : Sto) (Q : DK) : m_wcalling [a0, a1] S Q = b_wcalling (endsD Q) [some a0, some a1, none, none, none] S := by rw [q_m_wcalling]; rfl
theorem sc_wcalling : FnScope ["_law_pen_here", "_law_names_here", "_law_pairs", "_law_k", "_law_pair"] ["_law_pen_here", "_law_names_here"] (defScope s_wcalling) := ⟨rfl, rfl, rfl, by decide +kernel, rfl, by decide +kernel, by decide +kernel⟩
noncomputable def t_wchain_5 : DS := (sExpr (eM "list" gAppend (eVar 2) (aCons (eTup (aCons (eOp gIx (eLst (aCons (eOp gIx (eVar 1) (eCall 2 m_wtake (aCons (eVar 0) (aCons (eCB gLen (aCons (eVar 1) aNil)) aNil)))) (aCons (eC .non) aNil))) (eCB gInt1 (aCons (eOp (gEq id) (eVar 3) (eC (.int 0))) aNil))) (aCons (eVar 4) (aCons (eVar 5) aNil)))) aNil)))
noncomputable def t_wchain_4 : DS := (sSeq (sAsg (eOp gIx (eVar 1) (eCall 2 m_wtake (aCons (eVar 0) (aCons (eCB gLen (aCons (eVar 1) aNil)) aNil)))) (nName 5)) t_wchain_5)
noncomputable def l_wchain_2 : DS := (sSeq (sAsg (eOp gIx (eVar 1) (eCall 2 m_wtake (aCons (eVar 0) (aCons (eCB gLen (aCons (eVar 1) aNil)) aNil)))) (nName 4)) t_wchain_4)
noncomputable def t_wchain_6 : DS := (sRet (eVar 2))
noncomputable def t_wchain_2 : DS := (sSeq (sFor (iRange1 (aCons (eOp gIx (eLst (aCons (eC (.int 1)) (aCons (eOp gAdd (eC (.int 1)) (eCall 2 m_wtake (aCons (eVar 0) (aCons (eC (.int 9)) aNil)))) aNil))) (eCall 2 m_wtake (aCons (eVar 0) (aCons (eC (.int 2)) aNil)))) aNil)) (nName 3) l_wchain_2) t_wchain_6)
noncomputable def b_wchain : DS := (sSeq (sAsg (eLst aNil) (nName 2)) t_wchain_2)
theorem x_m_wchain : ∃ m : MF, m = fun ds S Q => b_wchain (endsD Q) (startD 6 ds) S := ⟨_, rfl⟩
noncomputable def m_wchain : MF := Classical.choose x_m_wchain
theorem q_m_wchain : m_wchain = fun ds S Q => b_wchain (endsD Q) (startD 6 ds) S := Classical.choose_spec x_m_wchain
theorem e_wchain (a0 a1 : D) (S : Sto) (Q : DK) : m_wchain [a0, a1] S Q = b_wchain (endsD Q) [some a0, some a1, none, none, none, none] S := by rw [q_m_wchain]; rfl
theorem sc_wchain : FnScope ["_law_pen_here", "_law_names_here", "_law_found", "_law_k", "_law_land", "_law_house"] ["_law_pen_here", "_law_names_here"] (defScope s_wchain) := ⟨rfl, rfl, rfl, by decide +kernel, rfl, by decide +kernel, by decide +kernel⟩
noncomputable def b_wlisted_text : DS := (sRet (eOp gIx (eLst (aCons (eM "str" gJoin (eC (.str " ")) (aCons (eVar 0) aNil)) (aCons (eC (.str ".")) aNil))) (eCB gInt1 (aCons (eOp (gEq id) (eVar 0) (eLst aNil)) aNil))))
theorem x_m_wlisted_text : ∃ m : MF, m = fun ds S Q => b_wlisted_text (endsD Q) (startD 1 ds) S := ⟨_, rfl⟩
noncomputable def m_wlisted_text : MF := Classical.choose x_m_wlisted_text
theorem q_m_wlisted_text : m_wlisted_text = fun ds S Q => b_wlisted_text (endsD Q) (startD 1 ds) S := Classical.choose_spec x_m_wlisted_text
theorem e_wlisted_text (a0 : D) (S : Sto) (Q : DK) : m_wlisted_text [a0] S Q = b_wlisted_text (endsD Q) [some a0] S := by rw [q_m_wlisted_text]; rfl
theorem sc_wlisted_text : FnScope ["_law_some"] ["_law_some"] (defScope s_wlisted_text) := ⟨rfl, rfl, rfl, by decide +kernel, rfl, by decide +kernel, by decide +kernel⟩
noncomputable def c_wcalling_text_1 : DE := (eOp gAdd (eOp gAdd (eOp gAdd (eOp gAdd (eVar 1) (eC (.str ":"))) (eVar 2)) (eC (.str ":"))) (eCB gStr2 (aCons (eVar 3) aNil)))
noncomputable def b_wcalling_text : DS := (sRet (eCall 1 m_wlisted_text (aCons (eLc (iSeq (eVar 0)) (nTupL 3 (nCons (nName 1) (nCons (nName 2) (nCons (nName 3) nNil)))) tsYes c_wcalling_text_1 [1, 2, 3]) aNil)))
theorem x_m_wcalling_text : ∃ m : MF, m = fun ds S Q => b_wcalling_text (endsD Q) (startD 4 ds) S := ⟨_, rfl⟩
noncomputable def m_wcalling_text : MF := Classical.choose x_m_wcalling_text
theorem q_m_wcalling_text : m_wcalling_text = fun ds S Q => b_wcalling_text (endsD Q) (startD 4 ds) S := Classical.choose_spec x_m_wcalling_text
theorem e_wcalling_text (a0 : D) (S : Sto) (Q : DK) : m_wcalling_text [a0] S Q = b_wcalling_text (endsD Q) [some a0, none, none, none] S := by rw [q_m_wcalling_text]; rfl
theorem sc_wcalling_text : FnScope ["_law_calls", "_law_house", "_law_breach", "_law_many"] ["_law_calls"] (defScope s_wcalling_text) := ⟨rfl, rfl, rfl, by decide +kernel, rfl, by decide +kernel, by decide +kernel⟩
noncomputable def c_wchain_text_1 : DE := (eM "str" gJoin (eC (.str ":")) (aCons (eLst (aCons (eIf (tBl (eOp (gIs id) (eVar 1) (eC .non))) (eC (.str "-")) (eVar 1)) (aCons (eVar 2) (aCons (eVar 3) aNil)))) aNil))
noncomputable def b_wchain_text : DS := (sRet (eM "str" gJoin (eC (.str " ")) (aCons (eLc (iSeq (eVar 0)) (nTupL 3 (nCons (nName 1) (nCons (nName 2) (nCons (nName 3) nNil)))) tsYes c_wchain_text_1 [1, 2, 3]) aNil)))
theorem x_m_wchain_text : ∃ m : MF, m = fun ds S Q => b_wchain_text (endsD Q) (startD 4 ds) S := ⟨_, rfl⟩
noncomputable def m_wchain_text : MF := Classical.choose x_m_wchain_text
theorem q_m_wchain_text : m_wchain_text = fun ds S Q => b_wchain_text (endsD Q) (startD 4 ds) S := Classical.choose_spec x_m_wchain_text
theorem e_wchain_text (a0 : D) (S : Sto) (Q : DK) : m_wchain_text [a0] S Q = b_wchain_text (endsD Q) [some a0, none, none, none] S := by rw [q_m_wchain_text]; rfl
theorem sc_wchain_text : FnScope ["_law_links", "_law_row", "_law_land", "_law_house"] ["_law_links"] (defScope s_wchain_text) := ⟨rfl, rfl, rfl, by decide +kernel, rfl, by decide +kernel, by decide +kernel⟩
noncomputable def t_listed_3 : DS := (sRet (eM "str" gJoin (eC (.str " ")) (aCons (eVar 0) aNil)))
noncomputable def b_listed : DS := (sSeq (sIf (tBl (eOp (gEq id) (eVar 0) (eLst aNil))) (sRet (eC (.str "."))) sNext) t_listed_3)
theorem x_m_listed : ∃ m : MF, m = fun ds S Q => b_listed (endsD Q) (startD 1 ds) S := ⟨_, rfl⟩
noncomputable def m_listed : MF := Classical.choose x_m_listed
theorem q_m_listed : m_listed = fun ds S Q => b_listed (endsD Q) (startD 1 ds) S := Classical.choose_spec x_m_listed
theorem e_listed (a0 : D) (S : Sto) (Q : DK) : m_listed [a0] S Q = b_listed (endsD Q) [some a0] S := by rw [q_m_listed]; rfl
theorem sc_listed : FnScope ["words"] ["words"] (defScope s_listed) := ⟨rfl, rfl, rfl, by decide +kernel, rfl, by decide +kernel, by decide +kernel⟩
noncomputable def c_places_text_1 : DE := (eCB gStr2 (aCons (eVar 1) aNil))
noncomputable def b_places_text : DS := (sRet (eCall 1 m_listed (aCons (eLc (iSeq (eVar 0)) (nName 1) tsYes c_places_text_1 [1]) aNil)))
theorem x_m_places_text : ∃ m : MF, m = fun ds S Q => b_places_text (endsD Q) (startD 2 ds) S := ⟨_, rfl⟩
noncomputable def m_places_text : MF := Classical.choose x_m_places_text
theorem q_m_places_text : m_places_text = fun ds S Q => b_places_text (endsD Q) (startD 2 ds) S := Classical.choose_spec x_m_places_text
theorem e_places_text (a0 : D) (S : Sto) (Q : DK) : m_places_text [a0] S Q = b_places_text (endsD Q) [some a0, none] S := by rw [q_m_places_text]; rfl
theorem sc_places_text : FnScope ["places", "place"] ["places"] (defScope s_places_text) := ⟨rfl, rfl, rfl, by decide +kernel, rfl, by decide +kernel, by decide +kernel⟩
noncomputable def b_names_text : DS := (sRet (eCall 1 m_listed (aCons (eCB gList (aCons (eVar 0) aNil)) aNil)))
theorem x_m_names_text : ∃ m : MF, m = fun ds S Q => b_names_text (endsD Q) (startD 1 ds) S := ⟨_, rfl⟩
noncomputable def m_names_text : MF := Classical.choose x_m_names_text
theorem q_m_names_text : m_names_text = fun ds S Q => b_names_text (endsD Q) (startD 1 ds) S := Classical.choose_spec x_m_names_text
theorem e_names_text (a0 : D) (S : Sto) (Q : DK) : m_names_text [a0] S Q = b_names_text (endsD Q) [some a0] S := by rw [q_m_names_text]; rfl
theorem sc_names_text : FnScope ["names"] ["names"] (defScope s_names_text) := ⟨rfl, rfl, rfl, by decide +kernel, rfl, by decide +kernel, by decide +kernel⟩
noncomputable def c_calling_text_1 : DE := (eM "str" gJoin (eC (.str ":")) (aCons (eLst (aCons (eVar 1) (aCons (eVar 2) (aCons (eCB gStr2 (aCons (eVar 3) aNil)) aNil)))) aNil))
noncomputable def b_calling_text : DS := (sRet (eCall 1 m_listed (aCons (eLc (iSeq (eVar 0)) (nTupL 3 (nCons (nName 1) (nCons (nName 2) (nCons (nName 3) nNil)))) tsYes c_calling_text_1 [1, 2, 3]) aNil)))
theorem x_m_calling_text : ∃ m : MF, m = fun ds S Q => b_calling_text (endsD Q) (startD 4 ds) S := ⟨_, rfl⟩
noncomputable def m_calling_text : MF := Classical.choose x_m_calling_text
theorem q_m_calling_text : m_calling_text = fun ds S Q => b_calling_text (endsD Q) (startD 4 ds) S := Classical.choose_spec x_m_calling_text
theorem e_calling_text (a0 : D) (S : Sto) (Q : DK) : m_calling_text [a0] S Q = b_calling_text (endsD Q) [some a0, none, none, none] S := by rw [q_m_calling_text]; rfl
theorem sc_calling_text : FnScope ["calling", "house", "breach", "many"] ["calling"] (defScope s_calling_text) := ⟨rfl, rfl, rfl, by decide +kernel, rfl, by decide +kernel, by decide +kernel⟩
noncomputable def t_chain_text_6 : DS := (sExpr (eM "list" gAppend (eVar 1) (aCons (eM "str" gJoin (eC (.str ":")) (aCons (eLst (aCons (eVar 5) (aCons (eVar 3) (aCons (eVar 4) aNil)))) aNil)) aNil)))
noncomputable def t_chain_text_4 : DS := (sSeq (sIf (tBl (eOp (gIs id) (eVar 2) (eC .non))) (sAsg (eC (.str "-")) (nName 5)) sNext) t_chain_text_6)
noncomputable def l_chain_text_2 : DS := (sSeq (sAsg (eVar 2) (nName 5)) t_chain_text_4)
noncomputable def t_chain_text_7 : DS := (sRet (eM "str" gJoin (eC (.str " ")) (aCons (eVar 1) aNil)))
noncomputable def t_chain_text_2 : DS := (sSeq (sFor (iSeq (eVar 0)) (nTupL 3 (nCons (nName 2) (nCons (nName 3) (nCons (nName 4) nNil)))) l_chain_text_2) t_chain_text_7)
noncomputable def b_chain_text : DS := (sSeq (sAsg (eLst aNil) (nName 1)) t_chain_text_2)
theorem x_m_chain_text : ∃ m : MF, m = fun ds S Q => b_chain_text (endsD Q) (startD 6 ds) S := ⟨_, rfl⟩
noncomputable def m_chain_text : MF := Classical.choose x_m_chain_text
theorem q_m_chain_text : m_chain_text = fun ds S Q => b_chain_text (endsD Q) (startD 6 ds) S := Classical.choose_spec x_m_chain_text
theorem e_chain_text (a0 : D) (S : Sto) (Q : DK) : m_chain_text [a0] S Q = b_chain_text (endsD Q) [some a0, none, none, none, none, none] S := by rw [q_m_chain_text]; rfl
theorem sc_chain_text : FnScope ["chain", "found", "row", "land", "house", "name"] ["chain"] (defScope s_chain_text) := ⟨rfl, rfl, rfl, by decide +kernel, rfl, by decide +kernel, by decide +kernel⟩
noncomputable def b_need_text : DS := (sIf (tNotD (tTr (eCB gIsi (aCons (eVar 0) (aCons (eC (.ty "str")) aNil))))) sNever sNext)
theorem x_m_need_text : ∃ m : MF, m = fun ds S Q => b_need_text (endsD Q) (startD 1 ds) S := ⟨_, rfl⟩
noncomputable def m_need_text : MF := Classical.choose x_m_need_text
theorem q_m_need_text : m_need_text = fun ds S Q => b_need_text (endsD Q) (startD 1 ds) S := Classical.choose_spec x_m_need_text
theorem e_need_text (a0 : D) (S : Sto) (Q : DK) : m_need_text [a0] S Q = b_need_text (endsD Q) [some a0] S := by rw [q_m_need_text]; rfl
theorem sc_need_text : FnScope ["text"] ["text"] (defScope s_need_text) := ⟨rfl, rfl, rfl, by decide +kernel, rfl, by decide +kernel, by decide +kernel⟩
noncomputable def t_words_in_4 : DS := (sRet (eM "str" gSplit (eVar 0) (aCons (eC (.str " ")) aNil)))
noncomputable def t_words_in_2 : DS := (sSeq (sIf (tBl (eOp (gEq id) (eVar 0) (eC (.str ".")))) (sRet (eLst aNil)) sNext) t_words_in_4)
noncomputable def b_words_in : DS := (sSeq (sExpr (eCall 1 m_need_text (aCons (eVar 0) aNil))) t_words_in_2)
theorem x_m_words_in : ∃ m : MF, m = fun ds S Q => b_words_in (endsD Q) (startD 1 ds) S := ⟨_, rfl⟩
noncomputable def m_words_in : MF := Classical.choose x_m_words_in
theorem q_m_words_in : m_words_in = fun ds S Q => b_words_in (endsD Q) (startD 1 ds) S := Classical.choose_spec x_m_words_in
theorem e_words_in (a0 : D) (S : Sto) (Q : DK) : m_words_in [a0] S Q = b_words_in (endsD Q) [some a0] S := by rw [q_m_words_in]; rfl
theorem sc_words_in : FnScope ["text"] ["text"] (defScope s_words_in) := ⟨rfl, rfl, rfl, by decide +kernel, rfl, by decide +kernel, by decide +kernel⟩
noncomputable def c_is_name_3 : DE := (eOp (gIn id) (eVar 1) (eC (.str "abcdefghijklmnopqrstuvwxyz")))
noncomputable def t_is_name_3 : DS := (sRet (eCB (gAll fun bs => bs.all id) (aCons (eLc (iSeq (eVar 0)) (nName 1) tsYes c_is_name_3 [1]) aNil)))
noncomputable def b_is_name : DS := (sSeq (sIf (tOrD (tNotD (tTr (eCB gIsi (aCons (eVar 0) (aCons (eC (.ty "str")) aNil))))) (tNotD (tBl (eChain gLe gLe (eC (.int 1)) (eCB gLen (aCons (eVar 0) aNil)) (eC (.int 8)))))) (sRet (eC (.bl false))) sNext) t_is_name_3)
theorem x_m_is_name : ∃ m : MF, m = fun ds S Q => b_is_name (endsD Q) (startD 2 ds) S := ⟨_, rfl⟩
noncomputable def m_is_name : MF := Classical.choose x_m_is_name
theorem q_m_is_name : m_is_name = fun ds S Q => b_is_name (endsD Q) (startD 2 ds) S := Classical.choose_spec x_m_is_name
theorem e_is_name (a0 : D) (S : Sto) (Q : DK) : m_is_name [a0] S Q = b_is_name (endsD Q) [some a0, none] S := by rw [q_m_is_name]; rfl
theorem sc_is_name : FnScope ["thing", "sign"] ["thing"] (defScope s_is_name) := ⟨rfl, rfl, rfl, by decide +kernel, rfl, by decide +kernel, by decide +kernel⟩
noncomputable def c_are_names_1 : DE := (eCall 1 m_is_name (aCons (eVar 1) aNil))
noncomputable def b_are_names : DS := (sRet (eCB (gAll fun bs => bs.all id) (aCons (eLc (iSeq (eVar 0)) (nName 1) tsYes c_are_names_1 [1]) aNil)))
theorem x_m_are_names : ∃ m : MF, m = fun ds S Q => b_are_names (endsD Q) (startD 2 ds) S := ⟨_, rfl⟩
noncomputable def m_are_names : MF := Classical.choose x_m_are_names
theorem q_m_are_names : m_are_names = fun ds S Q => b_are_names (endsD Q) (startD 2 ds) S := Classical.choose_spec x_m_are_names
theorem e_are_names (a0 : D) (S : Sto) (Q : DK) : m_are_names [a0] S Q = b_are_names (endsD Q) [some a0, none] S := by rw [q_m_are_names]; rfl
theorem sc_are_names : FnScope ["things", "thing"] ["things"] (defScope s_are_names) := ⟨rfl, rfl, rfl, by decide +kernel, rfl, by decide +kernel, by decide +kernel⟩
noncomputable def c_is_rising_1 : DE := (eOp gLt2 (eVar 1) (eVar 2))
noncomputable def b_is_rising : DS := (sRet (eCB (gAll fun bs => bs.all id) (aCons (eLc (iZipD (aCons (eVar 0) (aCons (eSl (eVar 0) (oSome (eC (.int 1))) oNo) aNil))) (nTupL 2 (nCons (nName 1) (nCons (nName 2) nNil))) tsYes c_is_rising_1 [1, 2]) aNil)))
theorem x_m_is_rising : ∃ m : MF, m = fun ds S Q => b_is_rising (endsD Q) (startD 3 ds) S := ⟨_, rfl⟩
noncomputable def m_is_rising : MF := Classical.choose x_m_is_rising
theorem q_m_is_rising : m_is_rising = fun ds S Q => b_is_rising (endsD Q) (startD 3 ds) S := Classical.choose_spec x_m_is_rising
theorem e_is_rising (a0 : D) (S : Sto) (Q : DK) : m_is_rising [a0] S Q = b_is_rising (endsD Q) [some a0, none, none] S := by rw [q_m_is_rising]; rfl
theorem sc_is_rising : FnScope ["some", "one", "other"] ["some"] (defScope s_is_rising) := ⟨rfl, rfl, rfl, by decide +kernel, rfl, by decide +kernel, by decide +kernel⟩
noncomputable def t_read_names_4 : DS := (sRet (eVar 1))
noncomputable def t_read_names_2 : DS := (sSeq (sIf (tOrD (tNotD (tTr (eCall 1 m_are_names (aCons (eVar 1) aNil)))) (tNotD (tTr (eCall 1 m_is_rising (aCons (eVar 1) aNil))))) sNever sNext) t_read_names_4)
noncomputable def b_read_names : DS := (sSeq (sAsg (eCall 1 m_words_in (aCons (eVar 0) aNil)) (nName 1)) t_read_names_2)
theorem x_m_read_names : ∃ m : MF, m = fun ds S Q => b_read_names (endsD Q) (startD 2 ds) S := ⟨_, rfl⟩
noncomputable def m_read_names : MF := Classical.choose x_m_read_names
theorem q_m_read_names : m_read_names = fun ds S Q => b_read_names (endsD Q) (startD 2 ds) S := Classical.choose_spec x_m_read_names
theorem e_read_names (a0 : D) (S : Sto) (Q : DK) : m_read_names [a0] S Q = b_read_names (endsD Q) [some a0, none] S := by rw [q_m_read_names]; rfl
theorem sc_read_names : FnScope ["text", "found"] ["text"] (defScope s_read_names) := ⟨rfl, rfl, rfl, by decide +kernel, rfl, by decide +kernel, by decide +kernel⟩
noncomputable def t_read_chain_11 : DS := (sExpr (eM "list" gAppend (eVar 1) (aCons (eCB gTuple (aCons (eVar 4) aNil)) aNil)))
noncomputable def t_read_chain_9 : DS := (sSeq (sIf (tBl (eOp (gEq id) (eVar 2) (eC (.int 0)))) (sSub (eC .non) (eVar 4) (eC (.int 0))) sNext) t_read_chain_11)
noncomputable def t_read_chain_7 : DS := (sSeq (sIf (tOrD (tBl (eOp (gEq not) (eCB gLen (aCons (eVar 4) aNil)) (eC (.int 3)))) (tOrD (tNotD (tTr (eCall 1 m_are_names (aCons (eVar 4) aNil)))) (tAndD (tBl (eOp (gEq id) (eVar 2) (eC (.int 0)))) (tBl (eOp (gEq not) (eOp gIx (eVar 3) (eC (.int 0))) (eC (.str "-"))))))) sNever sNext) t_read_chain_9)
noncomputable def t_read_chain_5 : DS := (sSeq (sIf (tAndD (tBl (eOp (gEq id) (eVar 2) (eC (.int 0)))) (tBl (eOp (gEq id) (eOp gIx (eVar 4) (eC (.int 0))) (eC (.str "-"))))) (sSub (eC (.str "none")) (eVar 4) (eC (.int 0))) sNext) t_read_chain_7)
noncomputable def l_read_chain_3 : DS := (sSeq (sAsg (eM "str" gSplit (eVar 3) (aCons (eC (.str ":")) aNil)) (nName 4)) t_read_chain_5)
noncomputable def t_read_chain_12 : DS := (sRet (eVar 1))
noncomputable def t_read_chain_3 : DS := (sSeq (sFor (iEnumD (aCons (eM "str" gSplit (eVar 0) (aCons (eC (.str " ")) aNil)) aNil)) (nTupL 2 (nCons (nName 2) (nCons (nName 3) nNil))) l_read_chain_3) t_read_chain_12)
noncomputable def t_read_chain_2 : DS := (sSeq (sAsg (eLst aNil) (nName 1)) t_read_chain_3)
noncomputable def b_read_chain : DS := (sSeq (sExpr (eCall 1 m_need_text (aCons (eVar 0) aNil))) t_read_chain_2)
theorem x_m_read_chain : ∃ m : MF, m = fun ds S Q => b_read_chain (endsD Q) (startD 5 ds) S := ⟨_, rfl⟩
noncomputable def m_read_chain : MF := Classical.choose x_m_read_chain
theorem q_m_read_chain : m_read_chain = fun ds S Q => b_read_chain (endsD Q) (startD 5 ds) S := Classical.choose_spec x_m_read_chain
theorem e_read_chain (a0 : D) (S : Sto) (Q : DK) : m_read_chain [a0] S Q = b_read_chain (endsD Q) [some a0, none, none, none, none] S := by rw [q_m_read_chain]; rfl
theorem sc_read_chain : FnScope ["text", "found", "at", "word", "parts"] ["text"] (defScope s_read_chain) := ⟨rfl, rfl, rfl, by decide +kernel, rfl, by decide +kernel, by decide +kernel⟩
noncomputable def c_number_in_1 : DE := (eOp (gIn id) (eVar 1) (eC (.str "0123456789")))
noncomputable def t_number_in_5 : DS := (sRet (eCB gInt2 (aCons (eVar 0) aNil)))
noncomputable def t_number_in_3 : DS := (sSeq (sIf (tAndD (tBl (eOp (gEq id) (eOp gIx (eVar 0) (eC (.int 0))) (eC (.str "0")))) (tBl (eOp (gEq not) (eVar 0) (eC (.str "0"))))) (sRet (eC .non)) sNext) t_number_in_5)
noncomputable def b_number_in : DS := (sSeq (sIf (tOrD (tNotD (tBl (eChain gLe gLe (eC (.int 1)) (eCB gLen (aCons (eVar 0) aNil)) (eC (.int 60))))) (tNotD (tTr (eCB (gAll fun bs => bs.all id) (aCons (eLc (iSeq (eVar 0)) (nName 1) tsYes c_number_in_1 [1]) aNil))))) (sRet (eC .non)) sNext) t_number_in_3)
theorem x_m_number_in : ∃ m : MF, m = fun ds S Q => b_number_in (endsD Q) (startD 2 ds) S := ⟨_, rfl⟩
noncomputable def m_number_in : MF := Classical.choose x_m_number_in
theorem q_m_number_in : m_number_in = fun ds S Q => b_number_in (endsD Q) (startD 2 ds) S := Classical.choose_spec x_m_number_in
theorem e_number_in (a0 : D) (S : Sto) (Q : DK) : m_number_in [a0] S Q = b_number_in (endsD Q) [some a0, none] S := by rw [q_m_number_in]; rfl
theorem sc_number_in : FnScope ["word", "sign"] ["word"] (defScope s_number_in) := ⟨rfl, rfl, rfl, by decide +kernel, rfl, by decide +kernel, by decide +kernel⟩
noncomputable def t_read_calling_9 : DS := (sExpr (eM "list" gAppend (eVar 1) (aCons (eTup (aCons (eOp gIx (eVar 3) (eC (.int 0))) (aCons (eOp gIx (eVar 3) (eC (.int 1))) (aCons (eVar 4) aNil)))) aNil)))
noncomputable def t_read_calling_7 : DS := (sSeq (sIf (tOrD (tBl (eOp (gIs id) (eVar 4) (eC .non))) (tBl (eOp gLt2 (eVar 4) (eC (.int 1))))) sNever sNext) t_read_calling_9)
noncomputable def t_read_calling_6 : DS := (sSeq (sAsg (eCall 1 m_number_in (aCons (eOp gIx (eVar 3) (eC (.int 2))) aNil)) (nName 4)) t_read_calling_7)
noncomputable def t_read_calling_4 : DS := (sSeq (sIf (tOrD (tBl (eOp (gEq not) (eCB gLen (aCons (eVar 3) aNil)) (eC (.int 3)))) (tNotD (tTr (eCall 1 m_are_names (aCons (eSl (eVar 3) oNo (oSome (eC (.int 2)))) aNil))))) sNever sNext) t_read_calling_6)
noncomputable def l_read_calling_2 : DS := (sSeq (sAsg (eM "str" gSplit (eVar 2) (aCons (eC (.str ":")) aNil)) (nName 3)) t_read_calling_4)
noncomputable def c_read_calling_10 : DE := (eSl (eVar 5) oNo (oSome (eC (.int 2))))
noncomputable def t_read_calling_12 : DS := (sRet (eVar 1))
noncomputable def t_read_calling_10 : DS := (sSeq (sIf (tNotD (tTr (eCall 1 m_is_rising (aCons (eLc (iSeq (eVar 1)) (nName 5) tsYes c_read_calling_10 [5]) aNil)))) sNever sNext) t_read_calling_12)
noncomputable def t_read_calling_2 : DS := (sSeq (sFor (iSeq (eCall 1 m_words_in (aCons (eVar 0) aNil))) (nName 2) l_read_calling_2) t_read_calling_10)
noncomputable def b_read_calling : DS := (sSeq (sAsg (eLst aNil) (nName 1)) t_read_calling_2)
theorem x_m_read_calling : ∃ m : MF, m = fun ds S Q => b_read_calling (endsD Q) (startD 6 ds) S := ⟨_, rfl⟩
noncomputable def m_read_calling : MF := Classical.choose x_m_read_calling
theorem q_m_read_calling : m_read_calling = fun ds S Q => b_read_calling (endsD Q) (startD 6 ds) S := Classical.choose_spec x_m_read_calling
theorem e_read_calling (a0 : D) (S : Sto) (Q : DK) : m_read_calling [a0] S Q = b_read_calling (endsD Q) [some a0, none, none, none, none, none] S := by rw [q_m_read_calling]; rfl
theorem sc_read_calling : FnScope ["text", "found", "word", "parts", "many", "told"] ["text"] (defScope s_read_calling) := ⟨rfl, rfl, rfl, by decide +kernel, rfl, by decide +kernel, by decide +kernel⟩
noncomputable def t_wread_right_5 : DS := (sExpr (eM "list" gClear (eVar 4) aNil))
noncomputable def t_wread_right_3 : DS := (sSeq (sIf (tOrD (tNotD (tTr (eCB gIsi (aCons (eVar 4) (aCons (eC (.ty "list")) aNil))))) (tBl (eOp (gEq not) (eCB gRepr (aCons (eVar 4) aNil)) (eCB gRepr (aCons (eVar 2) aNil))))) (sRet (eC (.bl false))) sNext) t_wread_right_5)
noncomputable def l_wread_right_1 : DS := (sSeq (sAsg (eCallV 0 1 [("read_names", m_read_names), ("read_chain", m_read_chain), ("read_calling", m_read_calling)] (aCons (eVar 1) aNil)) (nName 4)) t_wread_right_3)
noncomputable def t_wread_right_6 : DS := (sRet (eC (.bl true)))
noncomputable def b_wread_right : DS := (sSeq (sFor (iRange1 (aCons (eC (.int 2)) aNil)) (nName 3) l_wread_right_1) t_wread_right_6)
theorem x_m_wread_right : ∃ m : MF, m = fun ds S Q => b_wread_right (endsD Q) (startD 5 ds) S := ⟨_, rfl⟩
noncomputable def m_wread_right : MF := Classical.choose x_m_wread_right
theorem q_m_wread_right : m_wread_right = fun ds S Q => b_wread_right (endsD Q) (startD 5 ds) S := Classical.choose_spec x_m_wread_right
theorem e_wread_right (a0 a1 a2 : D) (S : Sto) (Q : DK) : m_wread_right [a0, a1, a2] S Q = b_wread_right (endsD Q) [some a0, some a1, some a2, none, none] S := by rw [q_m_wread_right]; rfl
theorem sc_wread_right : FnScope ["_law_reads", "_law_text", "_law_owed", "_law_turn", "_law_found"] ["_law_reads", "_law_text", "_law_owed"] (defScope s_wread_right) := ⟨rfl, rfl, rfl, by decide +kernel, rfl, by decide +kernel, by decide +kernel⟩
noncomputable def c_wright_4 : DE := (eCB gStr2 (aCons (eVar 8) aNil))
noncomputable def c_wright_9 : DE := (eOp gIx (eVar 9) (eC (.int 1)))
noncomputable def t_wright_12 : DS := (sRet (eAnd (eCall 3 m_wread_right (aCons (eC (.cls "read_names")) (aCons (eOp gIx (eVar 2) (eC (.int 2))) (aCons (eVar 6) aNil)))) (eOp (gEq id) (eCB gRepr (aCons (eVar 0) aNil)) (eVar 1))))
noncomputable def t_wright_10 : DS := (sSeq (sIf (tOrD (tBl (eOp (gEq not) (eCall 1 m_names_text (aCons (eVar 3) aNil)) (eCall 1 m_wlisted_text (aCons (eVar 3) aNil)))) (tBl (eOp (gEq not) (eCall 1 m_names_text (aCons (eLst aNil) aNil)) (eC (.str "."))))) (sRet (eC (.bl false))) sNext) t_wright_12)
noncomputable def t_wright_9 : DS := (sSeq (sAsg (eOp gAdd (eOp gAdd (eLc (iSeq (eVar 4)) (nName 9) tsYes c_wright_9 [9]) (eRev (eVar 6))) (eSl (eVar 6) oNo (oSome (eC (.int 1))))) (nName 3)) t_wright_10)
noncomputable def t_wright_7 : DS := (sSeq (sIf (tOrD (tNotD (tTr (eCall 3 m_wread_right (aCons (eC (.cls "read_chain")) (aCons (eOp gIx (eVar 2) (eC (.int 0))) (aCons (eVar 4) aNil)))))) (tNotD (tTr (eCall 3 m_wread_right (aCons (eC (.cls "read_calling")) (aCons (eOp gIx (eVar 2) (eC (.int 1))) (aCons (eVar 5) aNil))))))) (sRet (eC (.bl false))) sNext) t_wright_9)
noncomputable def t_wright_5 : DS := (sSeq (sIf (tBl (eOp (gEq not) (eLst (aCons (eCall 1 m_chain_text (aCons (eVar 4) aNil)) (aCons (eCall 1 m_calling_text (aCons (eVar 5) aNil)) (aCons (eCall 1 m_names_text (aCons (eVar 6) aNil)) (aCons (eCall 1 m_places_text (aCons (eVar 7) aNil)) aNil))))) (eVar 2))) (sRet (eC (.bl false))) sNext) t_wright_7)
noncomputable def t_wright_4 : DS := (sSeq (sExpr (eM "list" gAppend (eVar 2) (aCons (eCall 1 m_wlisted_text (aCons (eLc (iSeq (eVar 7)) (nName 8) tsYes c_wright_4 [8]) aNil)) aNil))) t_wright_5)
noncomputable def t_wright_3 : DS := (sSeq (sAsg (eLst (aCons (eCall 1 m_wchain_text (aCons (eVar 4) aNil)) (aCons (eCall 1 m_wcalling_text (aCons (eVar 5) aNil)) (aCons (eCall 1 m_wlisted_text (aCons (eVar 6) aNil)) aNil)))) (nName 2)) t_wright_4)
noncomputable def t_wright_2 : DS := (sSeq (sAsg (eCB gRepr (aCons (eVar 0) aNil)) (nName 1)) t_wright_3)
noncomputable def b_wright : DS := (sSeq (sAsg (eVar 0) (nTupL 4 (nCons (nName 4) (nCons (nName 5) (nCons (nName 6) (nCons (nName 7) nNil)))))) t_wright_2)
theorem x_m_wright : ∃ m : MF, m = fun ds S Q => b_wright (endsD Q) (startD 10 ds) S := ⟨_, rfl⟩
noncomputable def m_wright : MF := Classical.choose x_m_wright
theorem q_m_wright : m_wright = fun ds S Q => b_wright (endsD Q) (startD 10 ds) S := Classical.choose_spec x_m_wright
theorem e_wright (a0 : D) (S : Sto) (Q : DK) : m_wright [a0] S Q = b_wright (endsD Q) [some a0, none, none, none, none, none, none, none, none, none] S := by rw [q_m_wright]; rfl
theorem sc_wright : FnScope ["_law_papers", "_law_kept", "_law_texts", "_law_others", "_law_links", "_law_calls", "_law_names_here", "_law_places", "_law_place", "_law_link"] ["_law_papers"] (defScope s_wright) := ⟨rfl, rfl, rfl, by decide +kernel, rfl, by decide +kernel, by decide +kernel⟩
noncomputable def c_law_5 : DE := (eOp gIx (eLst (aCons (eC (.int 0)) (aCons (eCall 2 m_wtake (aCons (eVar 1) (aCons (eOp gPow (eC (.int 10)) (eC (.int 8))) aNil))) (aCons (eOp gMns (eOp gPow (eC (.int 10)) (eC (.int 60))) (eC (.int 1))) aNil)))) (eCall 2 m_wtake (aCons (eVar 1) (aCons (eC (.int 3)) aNil))))
noncomputable def t_law_7 : DS := (sExpr (eM "list" gAppend (eVar 2) (aCons (eTup (aCons (eCall 2 m_wchain (aCons (eVar 1) (aCons (eVar 5) aNil))) (aCons (eCall 2 m_wcalling (aCons (eVar 1) (aCons (eVar 5) aNil))) (aCons (eVar 7) (aCons (eVar 6) aNil))))) aNil)))
noncomputable def t_law_6 : DS := (sSeq (sAsg (eCB gSortedA (aCons (eSl (eVar 5) oNo (oSome (eCall 2 m_wtake (aCons (eVar 1) (aCons (eOp gAdd (eCB gLen (aCons (eVar 5) aNil)) (eC (.int 1))) aNil))))) aNil)) (nName 7)) t_law_7)
noncomputable def t_law_5 : DS := (sSeq (sAsg (eLc (iRange1 (aCons (eCall 2 m_wtake (aCons (eVar 1) (aCons (eC (.int 10)) aNil))) aNil)) (nName 8) tsYes c_law_5 [8]) (nName 6)) t_law_6)
noncomputable def l_law_3 : DS := (sSeq (sAsg (eCall 2 m_wnames (aCons (eVar 1) (aCons (eOp gAdd (eC (.int 1)) (eCall 2 m_wtake (aCons (eVar 1) (aCons (eC (.int 10)) aNil)))) aNil))) (nName 5)) t_law_5)
noncomputable def l_law_8 : DS := (sIf (tNotD (tTr (eCall 1 m_wright (aCons (eVar 4) aNil)))) (sRet (eC (.bl false))) sNext)
noncomputable def t_law_11 : DS := (sRet (eC (.bl true)))
noncomputable def t_law_8 : DS := (sSeq (sFor (iSeq (eOp gAdd (eVar 2) (eRev (eVar 2)))) (nName 4) l_law_8) t_law_11)
noncomputable def t_law_3 : DS := (sSeq (sFor (iRange1 (aCons (eC (.int 3)) aNil)) (nName 3) l_law_3) t_law_8)
noncomputable def t_law_2 : DS := (sSeq (sAsg (eLst aNil) (nName 2)) t_law_3)
noncomputable def b_law : DS := (sSeq (sAsg (eCall 1 m_wpen (aCons (eVar 0) aNil)) (nName 1)) t_law_2)
theorem x_m_law : ∃ m : MF, m = fun ds S Q => b_law (endsD Q) (startD 9 ds) S := ⟨_, rfl⟩
noncomputable def m_law : MF := Classical.choose x_m_law
theorem q_m_law : m_law = fun ds S Q => b_law (endsD Q) (startD 9 ds) S := Classical.choose_spec x_m_law
theorem e_law (a0 : D) (S : Sto) (Q : DK) : m_law [a0] S Q = b_law (endsD Q) [some a0, none, none, none, none, none, none, none, none] S := by rw [q_m_law]; rfl
theorem sc_law : FnScope ["_law_script", "_law_pen_here", "_law_papers", "_law_k", "_law_paper", "_law_names_here", "_law_places", "_law_some", "_law_j"] ["_law_script"] (defScope s_law) := ⟨rfl, rfl, rfl, by decide +kernel, rfl, by decide +kernel, by decide +kernel⟩
structure Txt (w : World) (K : PySem.W.Frag) (mg : Str → Option Value) : Prop where
  f_wpen : FT K mg "_law_pen" s_wpen ["_law_script"]
  f_wtake : FT K mg "_law_take" s_wtake ["_law_pen_here", "_law_many"]
  f_wnames : FT K mg "_law_names" s_wnames ["_law_pen_here", "_law_many"]
  f_wcalling : FT K mg "_law_calling" s_wcalling ["_law_pen_here", "_law_names_here"]
  f_wchain : FT K mg "_law_chain" s_wchain ["_law_pen_here", "_law_names_here"]
  f_wlisted_text : FT K mg "_law_listed_text" s_wlisted_text ["_law_some"]
  f_wcalling_text : FT K mg "_law_calling_text" s_wcalling_text ["_law_calls"]
  f_wchain_text : FT K mg "_law_chain_text" s_wchain_text ["_law_links"]
  f_listed : FT K mg "listed" s_listed ["words"]
  f_places_text : FT K mg "places_text" s_places_text ["places"]
  f_names_text : FT K mg "names_text" s_names_text ["names"]
  f_calling_text : FT K mg "calling_text" s_calling_text ["calling"]
  f_chain_text : FT K mg "chain_text" s_chain_text ["chain"]
  f_need_text : FT K mg "need_text" s_need_text ["text"]
  f_words_in : FT K mg "words_in" s_words_in ["text"]
  f_is_name : FT K mg "is_name" s_is_name ["thing"]
  f_are_names : FT K mg "are_names" s_are_names ["things"]
  f_is_rising : FT K mg "is_rising" s_is_rising ["some"]
  f_read_names : FT K mg "read_names" s_read_names ["text"]
  f_read_chain : FT K mg "read_chain" s_read_chain ["text"]
  f_number_in : FT K mg "number_in" s_number_in ["word"]
  f_read_calling : FT K mg "read_calling" s_read_calling ["text"]
  f_wread_right : FT K mg "_law_read_right" s_wread_right ["_law_reads", "_law_text", "_law_owed"]
  f_wright : FT K mg "_law_right" s_wright ["_law_papers"]
  f_law : FT K mg "law" s_law ["_law_script"]
  n_range : mg "range" = none
  n_sorted : mg "sorted" = none
  n_len : mg "len" = none
  n_list : mg "list" = none
  n_min : mg "min" = none
  n_abs : mg "abs" = none
  n_int : mg "int" = none
  n_repr : mg "repr" = none
  n_str : mg "str" = none
  n_isinstance : mg "isinstance" = none
  n_all : mg "all" = none
  n_zip : mg "zip" = none
  n_enumerate : mg "enumerate" = none
  n_tuple : mg "tuple" = none
  c_LONGEST : ∃ t, mg "LONGEST" = some (.int 8 t)
  c_SMALL : ∃ t, mg "SMALL" = some (.str "abcdefghijklmnopqrstuvwxyz" t)
  c_MOST_FIGURES : ∃ t, mg "MOST_FIGURES" = some (.int 60 t)
  c_FIGURES : ∃ t, mg "FIGURES" = some (.str "0123456789" t)
  k_read_chain : ClsT K mg "read_chain"
  k_read_calling : ClsT K mg "read_calling"
  k_read_names : ClsT K mg "read_names"
section
variable {P : Program} {w : World} {K : PySem.W.Frag} {mg : Str → Option Value} {base : Heap}
theorem ok_wpen (T : Txt w K mg) : Okf P w K mg base 1 "_law_pen" 1 m_wpen := by
  have Sc := sc_wpen
  refine okf_of (b := b_wpen) T.f_wpen Sc (fun ds S Q => by rw [q_m_wpen]; rfl) fun f cdv A outer s H E hr => ?_
  have hu := hu_of hr.toRoom
  exact (ss_one (s_ret (c_dict (ps_cons0 c_str (c_callTy y_list (by rfl) T.n_list (by decide +kernel) (a_cons (c_sl (c_var 0) p_none (p_some c_int)) a_nil)) (ps_cons0 c_str c_int (ps_cons0 c_str c_int ps_nil0))) (by rfl) (by rfl) (fun z => by cases z) (by decide))))
theorem ok_wtake (T : Txt w K mg) : Okf P w K mg base 1 "_law_take" 2 m_wtake := by
  have Sc := sc_wtake
  refine okf_of (b := b_wtake) T.f_wtake Sc (fun ds S Q => by rw [q_m_wtake]; rfl) fun f cdv A outer s H E hr => ?_
  have hu := hu_of hr.toRoom
  exact (ss_cons (s_if (k_cmp o_gt (c_ix hu (c_var 0) c_str) c_int (nomark _)) (ss_cons (s_set (i := 7) Sc.nd rfl (by first | exact .inl rfl | exact .inr rfl) (c_mod (c_ix hu (c_var 0) c_str) (c_var 1))) (ss_cons (s_sub hu (c_fdiv (c_ix hu (c_var 0) c_str) (c_var 1)) (c_var 0) c_str) (ss_one (s_ret (c_var 7))))) ss_nil) (ss_cons (s_set (i := 2) Sc.nd rfl (by first | exact .inl rfl | exact .inr rfl) (c_ix hu (c_var 0) c_str)) (ss_cons (s_sub hu (c_add (c_var 2) c_int) (c_var 0) c_str) (ss_cons (s_set (i := 3) Sc.nd rfl (by first | exact .inl rfl | exact .inr rfl) (c_ix hu (c_var 0) c_str)) (ss_cons (s_set (i := 4) Sc.nd rfl (by first | exact .inl rfl | exact .inr rfl) (c_add (c_add (c_mulA (c_mulA c_int (c_var 2)) (c_var 2)) (c_mulA c_int (c_var 2))) c_int)) (ss_cons (s_if (k_cmp (o_ne hr.units) (c_var 3) (c_lst a_nil) (nomark _)) (ss_one (s_set (i := 4) Sc.nd rfl (by first | exact .inl rfl | exact .inr rfl) (c_ix hu (c_var 3) (c_mod (c_var 2) (c_callB b_len (by rfl) T.n_len (by decide +kernel) (a_cons (c_var 3) a_nil)))))) ss_nil) (ss_cons (s_if (k_w (w_and (k_cmp (o_lt2 hr.units) (c_var 2) (c_callB b_len (by rfl) T.n_len (by decide +kernel) (a_cons (c_var 3) a_nil)) (nomark _)) (w_and1 (k_cmp o_ge (c_callB b_abs (by rfl) T.n_abs (by decide +kernel) (a_cons (c_var 4) a_nil)) (c_pow c_int c_int) (nomark _))))) (ss_cons (s_sub hu (c_fdiv (c_callB b_abs (by rfl) T.n_abs (by decide +kernel) (a_cons (c_var 4) a_nil)) (c_var 1)) (c_var 0) c_str) (ss_one (s_ret (c_mod (c_callB b_abs (by rfl) T.n_abs (by decide +kernel) (a_cons (c_var 4) a_nil)) (c_var 1))))) ss_nil) (ss_cons (s_set (i := 5) Sc.nd rfl (by first | exact .inl rfl | exact .inr rfl) (c_mod (c_pow (c_add (c_add (c_mod (c_var 4) c_int) (c_mulA c_int (c_var 2))) c_int) c_int) c_int)) (ss_cons (s_set (i := 6) Sc.nd rfl (by first | exact .inl rfl | exact .inr rfl) (c_mod (c_pow (c_add (c_add (c_var 5) (c_mulA (c_mulA c_int (c_var 2)) (c_var 2))) c_int) c_int) c_int)) (ss_one (s_ret (c_mod (c_fdiv (c_mod (c_mulA (c_var 6) (c_add (c_mod (c_var 5) c_int) c_int)) c_int) c_int) (c_var 1)))))))))))))
theorem ok_wnames (T : Txt w K mg) : Okf P w K mg base 2 "_law_names" 2 m_wnames := by
  have Sc := sc_wnames
  refine okf_of (b := b_wnames) T.f_wnames Sc (fun ds S Q => by rw [q_m_wnames]; rfl) fun f cdv A outer s H E hr => ?_
  have hu := hu_of hr.toRoom
  exact (ss_cons (s_set (i := 2) Sc.nd rfl (by first | exact .inl rfl | exact .inr rfl) c_str) (ss_cons (s_set (i := 3) Sc.nd rfl (by first | exact .inl rfl | exact .inr rfl) (c_fn hr (ok_wtake T) (by decide) (a_cons (c_var 0) (a_cons c_int a_nil)))) (ss_cons (s_set (i := 4) Sc.nd rfl (by first | exact .inl rfl | exact .inr rfl) (c_fn hr (ok_wtake T) (by decide) (a_cons (c_var 0) (a_cons c_int a_nil)))) (ss_cons (s_set (i := 5) Sc.nd rfl (by first | exact .inl rfl | exact .inr rfl) (c_m m_join c_str (a_cons (c_lc (own := [("_law_k", 8)]) (gown := [8]) rfl Sc.nd (i_range1 (by rfl) T.n_range (a_cons (c_ix hu (c_lst (a_cons (c_fn hr (ok_wtake T) (by decide) (a_cons (c_var 0) (a_cons c_int a_nil))) (a_cons c_int (a_cons c_int a_nil)))) (c_var 3)) a_nil)) (blkOk_by (N := ["_law_pen_here", "_law_many", "_law_letters", "_law_way", "_law_turn", "_law_base", "_law_spot", "_law_found", "_law_k", "_law_terms", "_law_word", "_law_rest"]) (sc := defScope s_wnames) (by decide +kernel)) (fun _ _ _ _ _ => (g_name (i := 8) Sc.nd rfl (by first | exact .inl rfl | exact .inr rfl))) (by decide) (fun _ _ _ _ _ => ts_nil) (fun _ _ _ _ _ => (c_ix hu (c_var 2) (c_fn hr (ok_wtake T) (by decide) (a_cons (c_var 0) (a_cons c_int a_nil)))))) a_nil))) (ss_cons (s_set (i := 6) Sc.nd rfl (by first | exact .inl rfl | exact .inr rfl) (c_fn hr (ok_wtake T) (by decide) (a_cons (c_var 0) (a_cons (c_add (c_callB b_len (by rfl) T.n_len (by decide +kernel) (a_cons (c_var 5) a_nil)) c_int) a_nil)))) (ss_cons (s_set (i := 7) Sc.nd rfl (by first | exact .inl rfl | exact .inr rfl) (c_lst a_nil)) (ss_cons (s_for PassesOwn.never rfl (i_range1 (by rfl) T.n_range (a_cons (c_var 1) a_nil)) (g_name (i := 8) Sc.nd rfl (by first | exact .inl rfl | exact .inr rfl)) (ss_cons (s_set (i := 10) Sc.nd rfl (by first | exact .inl rfl | exact .inr rfl) (c_add (c_ix hu (c_var 2) (c_mod (c_add (c_var 4) (c_mulA c_int (c_var 8))) c_int)) (c_ix hu (c_var 2) (c_mod (c_add (c_var 4) (c_fdiv (c_var 8) c_int)) c_int)))) (ss_cons (s_set (i := 10) Sc.nd rfl (by first | exact .inl rfl | exact .inr rfl) (c_add (c_add (c_sl (c_var 5) p_none (p_some (c_var 6))) (c_var 10)) (c_sl (c_var 5) (p_some (c_var 6)) p_none))) (ss_cons (s_if (k_cmp (o_eq hr.units) (c_var 3) c_int (nomark _)) (ss_cons (s_set (i := 10) Sc.nd rfl (by first | exact .inl rfl | exact .inr rfl) c_str) (ss_cons (s_set (i := 11) Sc.nd rfl (by first | exact .inl rfl | exact .inr rfl) (c_add (c_var 8) c_int)) (ss_one (s_while PassesOwn.never (k_cmp o_gt (c_var 11) c_int (nomark _)) (ss_cons (s_set (i := 10) Sc.nd rfl (by first | exact .inl rfl | exact .inr rfl) (c_add (c_ix hu (c_var 2) (c_mod (c_add (c_var 4) (c_mulA c_int (c_mod (c_var 11) c_int))) c_int)) (c_var 10))) (ss_one (s_set (i := 11) Sc.nd rfl (by first | exact .inl rfl | exact .inr rfl) (c_fdiv (c_sub (c_var 11) c_int) c_int)))))))) ss_nil) (ss_one (s_expr (c_m m_append (c_var 7) (a_cons (c_var 10) a_nil)))))))) (ss_cons (s_set (i := 9) Sc.nd rfl (by first | exact .inl rfl | exact .inr rfl) (c_lst (a_cons c_str (a_cons c_str (a_cons c_str (a_cons c_str (a_cons c_str (a_cons c_str (a_cons c_str (a_cons c_str (a_cons c_str a_nil))))))))))) (ss_cons (s_if (k_cmp (o_eq hr.units) (c_fn hr (ok_wtake T) (by decide) (a_cons (c_var 0) (a_cons c_int a_nil))) c_int (nomark _)) (ss_one (s_for PassesOwn.never rfl (i_range1 (by rfl) T.n_range (a_cons (c_callB (b_min2 rfl) (by rfl) T.n_min (by decide +kernel) (a_cons (c_var 1) (a_cons c_int a_nil))) a_nil)) (g_name (i := 8) Sc.nd rfl (by first | exact .inl rfl | exact .inr rfl)) (ss_one (s_if (k_w (w_and (k_cmp (o_eq hr.units) (c_fn hr (ok_wtake T) (by decide) (a_cons (c_var 0) (a_cons c_int a_nil))) c_int (nomark _)) (w_and1 (k_cmp (o_notIn hu) (c_ix hu (c_var 9) (c_var 8)) (c_var 7) (by with_unfolding_all rfl))))) (ss_one (s_sub hu (c_ix hu (c_var 9) (c_var 8)) (c_var 7) (c_var 8))) ss_nil)))) ss_nil) (ss_one (s_ret (c_var 7))))))))))))
theorem ok_wcalling (T : Txt w K mg) : Okf P w K mg base 2 "_law_calling" 2 m_wcalling := by
  have Sc := sc_wcalling
  refine okf_of (b := b_wcalling) T.f_wcalling Sc (fun ds S Q => by rw [q_m_wcalling]; rfl) fun f cdv A outer s H E hr => ?_
  have hu := hu_of hr.toRoom
  exact (ss_cons (s_set (i := 2) Sc.nd rfl (by first | exact .inl rfl | exact .inr rfl) c_dictT0) (ss_cons (s_for PassesOwn.never rfl (i_range1 (by rfl) T.n_range (a_cons (c_fn hr (ok_wtake T) (by decide) (a_cons (c_var 0) (a_cons c_int a_nil))) a_nil)) (g_name (i := 3) Sc.nd rfl (by first | exact .inl rfl | exact .inr rfl)) (ss_cons (s_set (i := 4) Sc.nd rfl (by first | exact .inl rfl | exact .inr rfl) (c_tupK (a_cons (c_ix hu (c_var 1) (c_fn hr (ok_wtake T) (by decide) (a_cons (c_var 0) (a_cons (c_callB b_len (by rfl) T.n_len (by decide +kernel) (a_cons (c_var 1) a_nil)) a_nil)))) (a_cons (c_ix hu (c_var 1) (c_fn hr (ok_wtake T) (by decide) (a_cons (c_var 0) (a_cons (c_callB b_len (by rfl) T.n_len (by decide +kernel) (a_cons (c_var 1) a_nil)) a_nil)))) a_nil)))) (ss_one (s_sub hu (c_ix hu (c_lst (a_cons c_int (a_cons (c_add c_int (c_fn hr (ok_wtake T) (by decide) (a_cons (c_var 0) (a_cons (c_pow c_int c_int) a_nil)))) (a_cons (c_sub (c_pow c_int c_int) c_int) a_nil)))) (c_fn hr (ok_wtake T) (by decide) (a_cons (c_var 0) (a_cons c_int a_nil)))) (c_var 2) (c_var 4))))) (ss_one (s_ret (c_lc (own := [("_law_pair", 4)]) (gown := [4]) rfl Sc.nd (i_seq (c_callB (b_sortedA hr) (by rfl) T.n_sorted (by decide +kernel) (a_cons (c_callTy (y_listK rfl) (by rfl) T.n_list (by decide +kernel) (a_cons (c_var 2) a_nil)) a_nil))) (blkOk_by (N := ["_law_pen_here", "_law_names_here", "_law_pairs", "_law_k", "_law_pair"]) (sc := defScope s_wcalling) (by decide +kernel)) (fun _ _ _ _ _ => (g_name (i := 4) Sc.nd rfl (by first | exact .inl rfl | exact .inr rfl))) (by decide) (fun _ _ _ _ _ => ts_nil) (fun _ _ _ _ _ => (c_add (c_up (c_var 4)) (c_tup (a_cons (c_ix hu (c_var 2) (c_var 4)) a_nil)))))))))
theorem ok_wchain (T : Txt w K mg) : Okf P w K mg base 2 "_law_chain" 2 m_wchain := by
  have Sc := sc_wchain
  refine okf_of (b := b_wchain) T.f_wchain Sc (fun ds S Q => by rw [q_m_wchain]; rfl) fun f cdv A outer s H E hr => ?_
  have hu := hu_of hr.toRoom
  exact (ss_cons (s_set (i := 2) Sc.nd rfl (by first | exact .inl rfl | exact .inr rfl) (c_lst a_nil)) (ss_cons (s_for PassesOwn.never rfl (i_range1 (by rfl) T.n_range (a_cons (c_ix hu (c_lst (a_cons c_int (a_cons (c_add c_int (c_fn hr (ok_wtake T) (by decide) (a_cons (c_var 0) (a_cons c_int a_nil)))) a_nil))) (c_fn hr (ok_wtake T) (by decide) (a_cons (c_var 0) (a_cons c_int a_nil)))) a_nil)) (g_name (i := 3) Sc.nd rfl (by first | exact .inl rfl | exact .inr rfl)) (ss_cons (s_set (i := 4) Sc.nd rfl (by first | exact .inl rfl | exact .inr rfl) (c_ix hu (c_var 1) (c_fn hr (ok_wtake T) (by decide) (a_cons (c_var 0) (a_cons (c_callB b_len (by rfl) T.n_len (by decide +kernel) (a_cons (c_var 1) a_nil)) a_nil))))) (ss_cons (s_set (i := 5) Sc.nd rfl (by first | exact .inl rfl | exact .inr rfl) (c_ix hu (c_var 1) (c_fn hr (ok_wtake T) (by decide) (a_cons (c_var 0) (a_cons (c_callB b_len (by rfl) T.n_len (by decide +kernel) (a_cons (c_var 1) a_nil)) a_nil))))) (ss_one (s_expr (c_m m_append (c_var 2) (a_cons (c_tup (a_cons (c_ix hu (c_lst (a_cons (c_ix hu (c_var 1) (c_fn hr (ok_wtake T) (by decide) (a_cons (c_var 0) (a_cons (c_callB b_len (by rfl) T.n_len (by decide +kernel) (a_cons (c_var 1) a_nil)) a_nil)))) (a_cons c_non a_nil))) (c_callTy y_int (by rfl) T.n_int (by decide +kernel) (a_cons (c_cmp (o_eq hr.units) (c_var 3) c_int (nomark _)) a_nil))) (a_cons (c_var 4) (a_cons (c_var 5) a_nil)))) a_nil))))))) (ss_one (s_ret (c_var 2)))))
theorem ok_wlisted_text (T : Txt w K mg) : Okf P w K mg base 1 "_law_listed_text" 1 m_wlisted_text := by
  have Sc := sc_wlisted_text
  refine okf_of (b := b_wlisted_text) T.f_wlisted_text Sc (fun ds S Q => by rw [q_m_wlisted_text]; rfl) fun f cdv A outer s H E hr => ?_
  have hu := hu_of hr.toRoom
  exact (ss_one (s_ret (c_ix hu (c_lst (a_cons (c_m m_join c_str (a_cons (c_var 0) a_nil)) (a_cons c_str a_nil))) (c_callTy y_int (by rfl) T.n_int (by decide +kernel) (a_cons (c_cmp (o_eq hr.units) (c_var 0) (c_lst a_nil) (nomark _)) a_nil)))))
theorem ok_wcalling_text (T : Txt w K mg) : Okf P w K mg base 2 "_law_calling_text" 1 m_wcalling_text := by
  have Sc := sc_wcalling_text
  refine okf_of (b := b_wcalling_text) T.f_wcalling_text Sc (fun ds S Q => by rw [q_m_wcalling_text]; rfl) fun f cdv A outer s H E hr => ?_
  have hu := hu_of hr.toRoom
  exact (ss_one (s_ret (c_fn hr (ok_wlisted_text T) (by decide) (a_cons (c_lc (own := [("_law_house", 1), ("_law_breach", 2), ("_law_many", 3)]) (gown := [1, 2, 3]) rfl Sc.nd (i_seq (c_var 0)) (blkOk_by (N := ["_law_calls", "_law_house", "_law_breach", "_law_many"]) (sc := defScope s_wcalling_text) (by decide +kernel)) (fun _ _ _ _ _ => (g_tupL rfl (gs_cons (g_name (i := 1) Sc.nd rfl (by first | exact .inl rfl | exact .inr rfl)) (gs_cons (g_name (i := 2) Sc.nd rfl (by first | exact .inl rfl | exact .inr rfl)) (gs_cons (g_name (i := 3) Sc.nd rfl (by first | exact .inl rfl | exact .inr rfl)) gs_nil))))) (by decide) (fun _ _ _ _ _ => ts_nil) (fun _ _ _ _ _ => (c_add (c_add (c_add (c_add (c_var 1) c_str) (c_var 2)) c_str) (c_callTy y_str2 (by rfl) T.n_str (by decide +kernel) (a_cons (c_var 3) a_nil))))) a_nil))))
theorem ok_wchain_text (T : Txt w K mg) : Okf P w K mg base 1 "_law_chain_text" 1 m_wchain_text := by
  have Sc := sc_wchain_text
  refine okf_of (b := b_wchain_text) T.f_wchain_text Sc (fun ds S Q => by rw [q_m_wchain_text]; rfl) fun f cdv A outer s H E hr => ?_
  have hu := hu_of hr.toRoom
  exact (ss_one (s_ret (c_m m_join c_str (a_cons (c_lc (own := [("_law_row", 1), ("_law_land", 2), ("_law_house", 3)]) (gown := [1, 2, 3]) rfl Sc.nd (i_seq (c_var 0)) (blkOk_by (N := ["_law_links", "_law_row", "_law_land", "_law_house"]) (sc := defScope s_wchain_text) (by decide +kernel)) (fun _ _ _ _ _ => (g_tupL rfl (gs_cons (g_name (i := 1) Sc.nd rfl (by first | exact .inl rfl | exact .inr rfl)) (gs_cons (g_name (i := 2) Sc.nd rfl (by first | exact .inl rfl | exact .inr rfl)) (gs_cons (g_name (i := 3) Sc.nd rfl (by first | exact .inl rfl | exact .inr rfl)) gs_nil))))) (by decide) (fun _ _ _ _ _ => ts_nil) (fun _ _ _ _ _ => (c_m m_join c_str (a_cons (c_lst (a_cons (c_if (k_cmp o_is (c_var 1) c_non (nomark _)) c_str (c_var 1)) (a_cons (c_var 2) (a_cons (c_var 3) a_nil)))) a_nil)))) a_nil))))
theorem ok_listed (T : Txt w K mg) : Okf P w K mg base 1 "listed" 1 m_listed := by
  have Sc := sc_listed
  refine okf_of (b := b_listed) T.f_listed Sc (fun ds S Q => by rw [q_m_listed]; rfl) fun f cdv A outer s H E hr => ?_
  have hu := hu_of hr.toRoom
  exact (ss_cons (s_if (k_cmp (o_eq hr.units) (c_var 0) (c_lst a_nil) (nomark _)) (ss_one (s_ret c_str)) ss_nil) (ss_one (s_ret (c_m m_join c_str (a_cons (c_var 0) a_nil)))))
theorem ok_places_text (T : Txt w K mg) : Okf P w K mg base 2 "places_text" 1 m_places_text := by
  have Sc := sc_places_text
  refine okf_of (b := b_places_text) T.f_places_text Sc (fun ds S Q => by rw [q_m_places_text]; rfl) fun f cdv A outer s H E hr => ?_
  have hu := hu_of hr.toRoom
  exact (ss_one (s_ret (c_fn hr (ok_listed T) (by decide) (a_cons (c_lc (own := [("place", 1)]) (gown := [1]) rfl Sc.nd (i_seq (c_var 0)) (blkOk_by (N := ["places", "place"]) (sc := defScope s_places_text) (by decide +kernel)) (fun _ _ _ _ _ => (g_name (i := 1) Sc.nd rfl (by first | exact .inl rfl | exact .inr rfl))) (by decide) (fun _ _ _ _ _ => ts_nil) (fun _ _ _ _ _ => (c_callTy y_str2 (by rfl) T.n_str (by decide +kernel) (a_cons (c_var 1) a_nil)))) a_nil))))
theorem ok_names_text (T : Txt w K mg) : Okf P w K mg base 2 "names_text" 1 m_names_text := by
  have Sc := sc_names_text
  refine okf_of (b := b_names_text) T.f_names_text Sc (fun ds S Q => by rw [q_m_names_text]; rfl) fun f cdv A outer s H E hr => ?_
  have hu := hu_of hr.toRoom
  exact (ss_one (s_ret (c_fn hr (ok_listed T) (by decide) (a_cons (c_callTy y_list (by rfl) T.n_list (by decide +kernel) (a_cons (c_var 0) a_nil)) a_nil))))
theorem ok_calling_text (T : Txt w K mg) : Okf P w K mg base 2 "calling_text" 1 m_calling_text := by
  have Sc := sc_calling_text
  refine okf_of (b := b_calling_text) T.f_calling_text Sc (fun ds S Q => by rw [q_m_calling_text]; rfl) fun f cdv A outer s H E hr => ?_
  have hu := hu_of hr.toRoom
  exact (ss_one (s_ret (c_fn hr (ok_listed T) (by decide) (a_cons (c_lc (own := [("house", 1), ("breach", 2), ("many", 3)]) (gown := [1, 2, 3]) rfl Sc.nd (i_seq (c_var 0)) (blkOk_by (N := ["calling", "house", "breach", "many"]) (sc := defScope s_calling_text) (by decide +kernel)) (fun _ _ _ _ _ => (g_tupL rfl (gs_cons (g_name (i := 1) Sc.nd rfl (by first | exact .inl rfl | exact .inr rfl)) (gs_cons (g_name (i := 2) Sc.nd rfl (by first | exact .inl rfl | exact .inr rfl)) (gs_cons (g_name (i := 3) Sc.nd rfl (by first | exact .inl rfl | exact .inr rfl)) gs_nil))))) (by decide) (fun _ _ _ _ _ => ts_nil) (fun _ _ _ _ _ => (c_m m_join c_str (a_cons (c_lst (a_cons (c_var 1) (a_cons (c_var 2) (a_cons (c_callTy y_str2 (by rfl) T.n_str (by decide +kernel) (a_cons (c_var 3) a_nil)) a_nil)))) a_nil)))) a_nil))))
theorem ok_chain_text (T : Txt w K mg) : Okf P w K mg base 1 "chain_text" 1 m_chain_text := by
  have Sc := sc_chain_text
  refine okf_of (b := b_chain_text) T.f_chain_text Sc (fun ds S Q => by rw [q_m_chain_text]; rfl) fun f cdv A outer s H E hr => ?_
  have hu := hu_of hr.toRoom
  exact (ss_cons (s_set (i := 1) Sc.nd rfl (by first | exact .inl rfl | exact .inr rfl) (c_lst a_nil)) (ss_cons (s_for PassesOwn.never rfl (i_seq (c_var 0)) (g_tupL rfl (gs_cons (g_name (i := 2) Sc.nd rfl (by first | exact .inl rfl | exact .inr rfl)) (gs_cons (g_name (i := 3) Sc.nd rfl (by first | exact .inl rfl | exact .inr rfl)) (gs_cons (g_name (i := 4) Sc.nd rfl (by first | exact .inl rfl | exact .inr rfl)) gs_nil)))) (ss_cons (s_set (i := 5) Sc.nd rfl (by first | exact .inl rfl | exact .inr rfl) (c_var 2)) (ss_cons (s_if (k_cmp o_is (c_var 2) c_non (nomark _)) (ss_one (s_set (i := 5) Sc.nd rfl (by first | exact .inl rfl | exact .inr rfl) c_str)) ss_nil) (ss_one (s_expr (c_m m_append (c_var 1) (a_cons (c_m m_join c_str (a_cons (c_lst (a_cons (c_var 5) (a_cons (c_var 3) (a_cons (c_var 4) a_nil)))) a_nil)) a_nil))))))) (ss_one (s_ret (c_m m_join c_str (a_cons (c_var 1) a_nil))))))
theorem ok_need_text (T : Txt w K mg) : Okf P w K mg base 1 "need_text" 1 m_need_text := by
  have Sc := sc_need_text
  refine okf_of (b := b_need_text) T.f_need_text Sc (fun ds S Q => by rw [q_m_need_text]; rfl) fun f cdv A outer s H E hr => ?_
  have hu := hu_of hr.toRoom
  exact (ss_one (s_if (k_not (k_tru (c_callB b_isi (by rfl) T.n_isinstance (by decide +kernel) (a_cons (c_var 0) (a_cons (c_bltn (by rfl) T.n_str (by decide +kernel)) a_nil))))) (ss_one s_never) ss_nil))
theorem ok_words_in (T : Txt w K mg) : Okf P w K mg base 2 "words_in" 1 m_words_in := by
  have Sc := sc_words_in
  refine okf_of (b := b_words_in) T.f_words_in Sc (fun ds S Q => by rw [q_m_words_in]; rfl) fun f cdv A outer s H E hr => ?_
  have hu := hu_of hr.toRoom
  exact (ss_cons (s_expr (c_fn hr (ok_need_text T) (by decide) (a_cons (c_var 0) a_nil))) (ss_cons (s_if (k_cmp (o_eq hr.units) (c_var 0) c_str (nomark _)) (ss_one (s_ret (c_lst a_nil))) ss_nil) (ss_one (s_ret (c_m m_split (c_var 0) (a_cons c_str a_nil))))))
theorem ok_is_name (T : Txt w K mg) : Okf P w K mg base 1 "is_name" 1 m_is_name := by
  have Sc := sc_is_name
  refine okf_of (b := b_is_name) T.f_is_name Sc (fun ds S Q => by rw [q_m_is_name]; rfl) fun f cdv A outer s H E hr => ?_
  have hu := hu_of hr.toRoom
  exact (ss_cons (s_if (k_w (w_or (k_not (k_tru (c_callB b_isi (by rfl) T.n_isinstance (by decide +kernel) (a_cons (c_var 0) (a_cons (c_bltn (by rfl) T.n_str (by decide +kernel)) a_nil))))) (w_or1 (k_not (k_chain o_le o_le c_int (c_callB b_len (by rfl) T.n_len (by decide +kernel) (a_cons (c_var 0) a_nil)) (c_globI T.c_LONGEST)))))) (ss_one (s_ret c_bl)) ss_nil) (ss_one (s_ret (c_callB (b_all rfl) (by rfl) T.n_all (by decide +kernel) (a_cons (c_lc (own := [("sign", 1)]) (gown := [1]) rfl Sc.nd (i_seq (c_var 0)) (blkOk_by (N := ["thing", "sign"]) (sc := defScope s_is_name) (by decide +kernel)) (fun _ _ _ _ _ => (g_name (i := 1) Sc.nd rfl (by first | exact .inl rfl | exact .inr rfl))) (by decide) (fun _ _ _ _ _ => ts_nil) (fun _ _ _ _ _ => (c_cmp (o_in hu) (c_var 1) (c_globS T.c_SMALL) (by with_unfolding_all rfl)))) a_nil)))))
theorem ok_are_names (T : Txt w K mg) : Okf P w K mg base 2 "are_names" 1 m_are_names := by
  have Sc := sc_are_names
  refine okf_of (b := b_are_names) T.f_are_names Sc (fun ds S Q => by rw [q_m_are_names]; rfl) fun f cdv A outer s H E hr => ?_
  have hu := hu_of hr.toRoom
  exact (ss_one (s_ret (c_callB (b_all rfl) (by rfl) T.n_all (by decide +kernel) (a_cons (c_lc (own := [("thing", 1)]) (gown := [1]) rfl Sc.nd (i_seq (c_var 0)) (blkOk_by (N := ["things", "thing"]) (sc := defScope s_are_names) (by decide +kernel)) (fun _ _ _ _ _ => (g_name (i := 1) Sc.nd rfl (by first | exact .inl rfl | exact .inr rfl))) (by decide) (fun _ _ _ _ _ => ts_nil) (fun _ _ _ _ _ => (c_fn hr (ok_is_name T) (by decide) (a_cons (c_var 1) a_nil)))) a_nil))))
theorem ok_is_rising (T : Txt w K mg) : Okf P w K mg base 1 "is_rising" 1 m_is_rising := by
  have Sc := sc_is_rising
  refine okf_of (b := b_is_rising) T.f_is_rising Sc (fun ds S Q => by rw [q_m_is_rising]; rfl) fun f cdv A outer s H E hr => ?_
  have hu := hu_of hr.toRoom
  exact (ss_one (s_ret (c_callB (b_all rfl) (by rfl) T.n_all (by decide +kernel) (a_cons (c_lc (own := [("one", 1), ("other", 2)]) (gown := [1, 2]) rfl Sc.nd (i_zip (by rfl) T.n_zip (a_cons (c_var 0) (a_cons (c_sl (c_var 0) (p_some c_int) p_none) a_nil))) (blkOk_by (N := ["some", "one", "other"]) (sc := defScope s_is_rising) (by decide +kernel)) (fun _ _ _ _ _ => (g_tupL rfl (gs_cons (g_name (i := 1) Sc.nd rfl (by first | exact .inl rfl | exact .inr rfl)) (gs_cons (g_name (i := 2) Sc.nd rfl (by first | exact .inl rfl | exact .inr rfl)) gs_nil)))) (by decide) (fun _ _ _ _ _ => ts_nil) (fun _ _ _ _ _ => (c_cmp (o_lt2 hr.units) (c_var 1) (c_var 2) (nomark _)))) a_nil))))
theorem ok_read_names (T : Txt w K mg) : Okf P w K mg base 3 "read_names" 1 m_read_names := by
  have Sc := sc_read_names
  refine okf_of (b := b_read_names) T.f_read_names Sc (fun ds S Q => by rw [q_m_read_names]; rfl) fun f cdv A outer s H E hr => ?_
  have hu := hu_of hr.toRoom
  exact (ss_cons (s_set (i := 1) Sc.nd rfl (by first | exact .inl rfl | exact .inr rfl) (c_fn hr (ok_words_in T) (by decide) (a_cons (c_var 0) a_nil))) (ss_cons (s_if (k_w (w_or (k_not (k_tru (c_fn hr (ok_are_names T) (by decide) (a_cons (c_var 1) a_nil)))) (w_or1 (k_not (k_tru (c_fn hr (ok_is_rising T) (by decide) (a_cons (c_var 1) a_nil))))))) (ss_one s_never) ss_nil) (ss_one (s_ret (c_var 1)))))
theorem ok_read_chain (T : Txt w K mg) : Okf P w K mg base 3 "read_chain" 1 m_read_chain := by
  have Sc := sc_read_chain
  refine okf_of (b := b_read_chain) T.f_read_chain Sc (fun ds S Q => by rw [q_m_read_chain]; rfl) fun f cdv A outer s H E hr => ?_
  have hu := hu_of hr.toRoom
  exact (ss_cons (s_expr (c_fn hr (ok_need_text T) (by decide) (a_cons (c_var 0) a_nil))) (ss_cons (s_set (i := 1) Sc.nd rfl (by first | exact .inl rfl | exact .inr rfl) (c_lst a_nil)) (ss_cons (s_for PassesOwn.never rfl (i_enum (by rfl) T.n_enumerate (a_cons (c_m m_split (c_var 0) (a_cons c_str a_nil)) a_nil)) (g_tupL rfl (gs_cons (g_name (i := 2) Sc.nd rfl (by first | exact .inl rfl | exact .inr rfl)) (gs_cons (g_name (i := 3) Sc.nd rfl (by first | exact .inl rfl | exact .inr rfl)) gs_nil))) (ss_cons (s_set (i := 4) Sc.nd rfl (by first | exact .inl rfl | exact .inr rfl) (c_m m_split (c_var 3) (a_cons c_str a_nil))) (ss_cons (s_if (k_w (w_and (k_cmp (o_eq hr.units) (c_var 2) c_int (nomark _)) (w_and1 (k_cmp (o_eq hr.units) (c_ix hu (c_var 4) c_int) c_str (nomark _))))) (ss_one (s_sub hu c_str (c_var 4) c_int)) ss_nil) (ss_cons (s_if (k_w (w_or (k_cmp (o_ne hr.units) (c_callB b_len (by rfl) T.n_len (by decide +kernel) (a_cons (c_var 4) a_nil)) c_int (nomark _)) (w_or (k_not (k_tru (c_fn hr (ok_are_names T) (by decide) (a_cons (c_var 4) a_nil)))) (w_or1 (k_w (w_and (k_cmp (o_eq hr.units) (c_var 2) c_int (nomark _)) (w_and1 (k_cmp (o_ne hr.units) (c_ix hu (c_var 3) c_int) c_str (nomark _))))))))) (ss_one s_never) ss_nil) (ss_cons (s_if (k_cmp (o_eq hr.units) (c_var 2) c_int (nomark _)) (ss_one (s_sub hu c_non (c_var 4) c_int)) ss_nil) (ss_one (s_expr (c_m m_append (c_var 1) (a_cons (c_callTy y_tuple (by rfl) T.n_tuple (by decide +kernel) (a_cons (c_var 4) a_nil)) a_nil))))))))) (ss_one (s_ret (c_var 1))))))
theorem ok_number_in (T : Txt w K mg) : Okf P w K mg base 1 "number_in" 1 m_number_in := by
  have Sc := sc_number_in
  refine okf_of (b := b_number_in) T.f_number_in Sc (fun ds S Q => by rw [q_m_number_in]; rfl) fun f cdv A outer s H E hr => ?_
  have hu := hu_of hr.toRoom
  exact (ss_cons (s_if (k_w (w_or (k_not (k_chain o_le o_le c_int (c_callB b_len (by rfl) T.n_len (by decide +kernel) (a_cons (c_var 0) a_nil)) (c_globI T.c_MOST_FIGURES))) (w_or1 (k_not (k_tru (c_callB (b_all rfl) (by rfl) T.n_all (by decide +kernel) (a_cons (c_lc (own := [("sign", 1)]) (gown := [1]) rfl Sc.nd (i_seq (c_var 0)) (blkOk_by (N := ["word", "sign"]) (sc := defScope s_number_in) (by decide +kernel)) (fun _ _ _ _ _ => (g_name (i := 1) Sc.nd rfl (by first | exact .inl rfl | exact .inr rfl))) (by decide) (fun _ _ _ _ _ => ts_nil) (fun _ _ _ _ _ => (c_cmp (o_in hu) (c_var 1) (c_globS T.c_FIGURES) (by with_unfolding_all rfl)))) a_nil))))))) (ss_one (s_ret c_non)) ss_nil) (ss_cons (s_if (k_w (w_and (k_cmp (o_eq hr.units) (c_ix hu (c_var 0) c_int) c_str (nomark _)) (w_and1 (k_cmp (o_ne hr.units) (c_var 0) c_str (nomark _))))) (ss_one (s_ret c_non)) ss_nil) (ss_one (s_ret (c_callTy y_int2 (by rfl) T.n_int (by decide +kernel) (a_cons (c_var 0) a_nil))))))
theorem ok_read_calling (T : Txt w K mg) : Okf P w K mg base 3 "read_calling" 1 m_read_calling := by
  have Sc := sc_read_calling
  refine okf_of (b := b_read_calling) T.f_read_calling Sc (fun ds S Q => by rw [q_m_read_calling]; rfl) fun f cdv A outer s H E hr => ?_
  have hu := hu_of hr.toRoom
  exact (ss_cons (s_set (i := 1) Sc.nd rfl (by first | exact .inl rfl | exact .inr rfl) (c_lst a_nil)) (ss_cons (s_for PassesOwn.never rfl (i_seq (c_fn hr (ok_words_in T) (by decide) (a_cons (c_var 0) a_nil))) (g_name (i := 2) Sc.nd rfl (by first | exact .inl rfl | exact .inr rfl)) (ss_cons (s_set (i := 3) Sc.nd rfl (by first | exact .inl rfl | exact .inr rfl) (c_m m_split (c_var 2) (a_cons c_str a_nil))) (ss_cons (s_if (k_w (w_or (k_cmp (o_ne hr.units) (c_callB b_len (by rfl) T.n_len (by decide +kernel) (a_cons (c_var 3) a_nil)) c_int (nomark _)) (w_or1 (k_not (k_tru (c_fn hr (ok_are_names T) (by decide) (a_cons (c_sl (c_var 3) p_none (p_some c_int)) a_nil))))))) (ss_one s_never) ss_nil) (ss_cons (s_set (i := 4) Sc.nd rfl (by first | exact .inl rfl | exact .inr rfl) (c_fn hr (ok_number_in T) (by decide) (a_cons (c_ix hu (c_var 3) c_int) a_nil))) (ss_cons (s_if (k_w (w_or (k_cmp o_is (c_var 4) c_non (nomark _)) (w_or1 (k_cmp (o_lt2 hr.units) (c_var 4) c_int (nomark _))))) (ss_one s_never) ss_nil) (ss_one (s_expr (c_m m_append (c_var 1) (a_cons (c_tup (a_cons (c_ix hu (c_var 3) c_int) (a_cons (c_ix hu (c_var 3) c_int) (a_cons (c_var 4) a_nil)))) a_nil))))))))) (ss_cons (s_if (k_not (k_tru (c_fn hr (ok_is_rising T) (by decide) (a_cons (c_lc (own := [("told", 5)]) (gown := [5]) rfl Sc.nd (i_seq (c_var 1)) (blkOk_by (N := ["text", "found", "word", "parts", "many", "told"]) (sc := defScope s_read_calling) (by decide +kernel)) (fun _ _ _ _ _ => (g_name (i := 5) Sc.nd rfl (by first | exact .inl rfl | exact .inr rfl))) (by decide) (fun _ _ _ _ _ => ts_nil) (fun _ _ _ _ _ => (c_sl (c_var 5) p_none (p_some c_int)))) a_nil)))) (ss_one s_never) ss_nil) (ss_one (s_ret (c_var 1))))))
theorem ok_wread_right (T : Txt w K mg) : Okf P w K mg base 4 "_law_read_right" 3 m_wread_right := by
  have Sc := sc_wread_right
  refine okf_of (b := b_wread_right) T.f_wread_right Sc (fun ds S Q => by rw [q_m_wread_right]; rfl) fun f cdv A outer s H E hr => ?_
  have hu := hu_of hr.toRoom
  exact (ss_cons (s_for PassesOwn.never rfl (i_range1 (by rfl) T.n_range (a_cons c_int a_nil)) (g_name (i := 3) Sc.nd rfl (by first | exact .inl rfl | exact .inr rfl)) (ss_cons (s_set (i := 4) Sc.nd rfl (by first | exact .inl rfl | exact .inr rfl) (c_callV 0 hr (k := 3) (ft_cons (ok_read_names T) (by decide) (ft_cons (ok_read_chain T) (by decide) (ft_cons (ok_read_calling T) (by decide) ft_nil))) (by decide) (a_cons (c_var 1) a_nil))) (ss_cons (s_if (k_w (w_or (k_not (k_tru (c_callB b_isi (by rfl) T.n_isinstance (by decide +kernel) (a_cons (c_var 4) (a_cons (c_bltn (by rfl) T.n_list (by decide +kernel)) a_nil))))) (w_or1 (k_cmp (o_ne hr.units) (c_callB (b_repr hr) (by rfl) T.n_repr (by decide +kernel) (a_cons (c_var 4) a_nil)) (c_callB (b_repr hr) (by rfl) T.n_repr (by decide +kernel) (a_cons (c_var 2) a_nil)) (nomark _))))) (ss_one (s_ret c_bl)) ss_nil) (ss_one (s_expr (c_m0 m_clear (c_var 4))))))) (ss_one (s_ret c_bl)))
theorem ok_wright (T : Txt w K mg) : Okf P w K mg base 5 "_law_right" 1 m_wright := by
  have Sc := sc_wright
  refine okf_of (b := b_wright) T.f_wright Sc (fun ds S Q => by rw [q_m_wright]; rfl) fun f cdv A outer s H E hr => ?_
  have hu := hu_of hr.toRoom
  exact (ss_cons (s_asg (c_var 0) (g_tupL rfl (gs_cons (g_name (i := 4) Sc.nd rfl (by first | exact .inl rfl | exact .inr rfl)) (gs_cons (g_name (i := 5) Sc.nd rfl (by first | exact .inl rfl | exact .inr rfl)) (gs_cons (g_name (i := 6) Sc.nd rfl (by first | exact .inl rfl | exact .inr rfl)) (gs_cons (g_name (i := 7) Sc.nd rfl (by first | exact .inl rfl | exact .inr rfl)) gs_nil)))))) (ss_cons (s_set (i := 1) Sc.nd rfl (by first | exact .inl rfl | exact .inr rfl) (c_callB (b_repr hr) (by rfl) T.n_repr (by decide +kernel) (a_cons (c_var 0) a_nil))) (ss_cons (s_set (i := 2) Sc.nd rfl (by first | exact .inl rfl | exact .inr rfl) (c_lst (a_cons (c_fn hr (ok_wchain_text T) (by decide) (a_cons (c_var 4) a_nil)) (a_cons (c_fn hr (ok_wcalling_text T) (by decide) (a_cons (c_var 5) a_nil)) (a_cons (c_fn hr (ok_wlisted_text T) (by decide) (a_cons (c_var 6) a_nil)) a_nil))))) (ss_cons (s_expr (c_m m_append (c_var 2) (a_cons (c_fn hr (ok_wlisted_text T) (by decide) (a_cons (c_lc (own := [("_law_place", 8)]) (gown := [8]) rfl Sc.nd (i_seq (c_var 7)) (blkOk_by (N := ["_law_papers", "_law_kept", "_law_texts", "_law_others", "_law_links", "_law_calls", "_law_names_here", "_law_places", "_law_place", "_law_link"]) (sc := defScope s_wright) (by decide +kernel)) (fun _ _ _ _ _ => (g_name (i := 8) Sc.nd rfl (by first | exact .inl rfl | exact .inr rfl))) (by decide) (fun _ _ _ _ _ => ts_nil) (fun _ _ _ _ _ => (c_callTy y_str2 (by rfl) T.n_str (by decide +kernel) (a_cons (c_var 8) a_nil)))) a_nil)) a_nil))) (ss_cons (s_if (k_cmp (o_ne hr.units) (c_lst (a_cons (c_fn hr (ok_chain_text T) (by decide) (a_cons (c_var 4) a_nil)) (a_cons (c_fn hr (ok_calling_text T) (by decide) (a_cons (c_var 5) a_nil)) (a_cons (c_fn hr (ok_names_text T) (by decide) (a_cons (c_var 6) a_nil)) (a_cons (c_fn hr (ok_places_text T) (by decide) (a_cons (c_var 7) a_nil)) a_nil))))) (c_var 2) (nomark _)) (ss_one (s_ret c_bl)) ss_nil) (ss_cons (s_if (k_w (w_or (k_not (k_tru (c_fn hr (ok_wread_right T) (by decide) (a_cons (c_cls T.k_read_chain) (a_cons (c_ix hu (c_var 2) c_int) (a_cons (c_var 4) a_nil)))))) (w_or1 (k_not (k_tru (c_fn hr (ok_wread_right T) (by decide) (a_cons (c_cls T.k_read_calling) (a_cons (c_ix hu (c_var 2) c_int) (a_cons (c_var 5) a_nil))))))))) (ss_one (s_ret c_bl)) ss_nil) (ss_cons (s_set (i := 3) Sc.nd rfl (by first | exact .inl rfl | exact .inr rfl) (c_add (c_add (c_lc (own := [("_law_link", 9)]) (gown := [9]) rfl Sc.nd (i_seq (c_var 4)) (blkOk_by (N := ["_law_papers", "_law_kept", "_law_texts", "_law_others", "_law_links", "_law_calls", "_law_names_here", "_law_places", "_law_place", "_law_link"]) (sc := defScope s_wright) (by decide +kernel)) (fun _ _ _ _ _ => (g_name (i := 9) Sc.nd rfl (by first | exact .inl rfl | exact .inr rfl))) (by decide) (fun _ _ _ _ _ => ts_nil) (fun _ _ _ _ _ => (c_ix hu (c_var 9) c_int))) (c_rev (c_var 6))) (c_sl (c_var 6) p_none (p_some c_int)))) (ss_cons (s_if (k_w (w_or (k_cmp (o_ne hr.units) (c_fn hr (ok_names_text T) (by decide) (a_cons (c_var 3) a_nil)) (c_fn hr (ok_wlisted_text T) (by decide) (a_cons (c_var 3) a_nil)) (nomark _)) (w_or1 (k_cmp (o_ne hr.units) (c_fn hr (ok_names_text T) (by decide) (a_cons (c_lst a_nil) a_nil)) c_str (nomark _))))) (ss_one (s_ret c_bl)) ss_nil) (ss_one (s_ret (c_and (c_fn hr (ok_wread_right T) (by decide) (a_cons (c_cls T.k_read_names) (a_cons (c_ix hu (c_var 2) c_int) (a_cons (c_var 6) a_nil)))) (c_one (c_cmp (o_eq hr.units) (c_callB (b_repr hr) (by rfl) T.n_repr (by decide +kernel) (a_cons (c_var 0) a_nil)) (c_var 1) (nomark _))))))))))))))
theorem fn_law (T : Txt w K mg) {f : Addr} {fd : FuncData} (F : Fun K "law" "law" s_law f fd) : FnG P w K mg base CX0 6 f fd ["_law_script"] (spD K 1 m_law) := by
  have Sc := sc_law
  rw [q_m_law]
  refine def_ok (b := b_law) F Sc fun cdv A outer s H E hr => ?_
  have hu := hu_of hr.toRoom
  exact (ss_cons (s_set (i := 1) Sc.nd rfl (by first | exact .inl rfl | exact .inr rfl) (c_fn hr (ok_wpen T) (by decide) (a_cons (c_var 0) a_nil))) (ss_cons (s_set (i := 2) Sc.nd rfl (by first | exact .inl rfl | exact .inr rfl) (c_lst a_nil)) (ss_cons (s_for PassesOwn.never rfl (i_range1 (by rfl) T.n_range (a_cons c_int a_nil)) (g_name (i := 3) Sc.nd rfl (by first | exact .inl rfl | exact .inr rfl)) (ss_cons (s_set (i := 5) Sc.nd rfl (by first | exact .inl rfl | exact .inr rfl) (c_fn hr (ok_wnames T) (by decide) (a_cons (c_var 1) (a_cons (c_add c_int (c_fn hr (ok_wtake T) (by decide) (a_cons (c_var 1) (a_cons c_int a_nil)))) a_nil)))) (ss_cons (s_setLc (i := 6) (own := [("_law_j", 8)]) (gown := [8]) rfl Sc.nd rfl rfl (sw_true rfl rfl rfl (by decide +kernel)) (i_range1 (by rfl) T.n_range (a_cons (c_fn hr (ok_wtake T) (by decide) (a_cons (c_var 1) (a_cons c_int a_nil))) a_nil)) (blkOk_by (N := ["_law_script", "_law_pen_here", "_law_papers", "_law_k", "_law_paper", "_law_names_here", "_law_places", "_law_some", "_law_j"]) (sc := defScope s_law) (by decide +kernel)) (fun _ _ _ _ _ => (g_name (i := 8) Sc.nd rfl (by first | exact .inl rfl | exact .inr rfl))) (by decide) (fun _ _ _ _ _ => ts_nil) (fun _ _ _ _ _ => (c_ix hu (c_lst (a_cons c_int (a_cons (c_fn hr (ok_wtake T) (by decide) (a_cons (c_var 1) (a_cons (c_pow c_int c_int) a_nil))) (a_cons (c_sub (c_pow c_int c_int) c_int) a_nil)))) (c_fn hr (ok_wtake T) (by decide) (a_cons (c_var 1) (a_cons c_int a_nil)))))) (ss_cons (s_set (i := 7) Sc.nd rfl (by first | exact .inl rfl | exact .inr rfl) (c_callB (b_sortedA hr) (by rfl) T.n_sorted (by decide +kernel) (a_cons (c_sl (c_var 5) p_none (p_some (c_fn hr (ok_wtake T) (by decide) (a_cons (c_var 1) (a_cons (c_add (c_callB b_len (by rfl) T.n_len (by decide +kernel) (a_cons (c_var 5) a_nil)) c_int) a_nil))))) a_nil))) (ss_one (s_expr (c_m m_append (c_var 2) (a_cons (c_tup (a_cons (c_fn hr (ok_wchain T) (by decide) (a_cons (c_var 1) (a_cons (c_var 5) a_nil))) (a_cons (c_fn hr (ok_wcalling T) (by decide) (a_cons (c_var 1) (a_cons (c_var 5) a_nil))) (a_cons (c_var 7) (a_cons (c_var 6) a_nil))))) a_nil)))))))) (ss_cons (s_for PassesOwn.never rfl (i_seq (c_add (c_var 2) (c_rev (c_var 2)))) (g_name (i := 4) Sc.nd rfl (by first | exact .inl rfl | exact .inr rfl)) (ss_one (s_if (k_not (k_tru (c_fn hr (ok_wright T) (by decide) (a_cons (c_var 4) a_nil)))) (ss_one (s_ret c_bl)) ss_nil))) (ss_one (s_ret c_bl))))))
end
theorem ft_mk {K : PySem.W.Frag} {h : Heap} {mg : Str → Option Value} {x : Str} {st : Stmt} {ps : List Str} {f : Addr} {od an : Option Addr} {sl : Array (Option Value)} {oc kV dc pm cd ct : Value} (X : K.In h) (G : h.Ns mainGlobals mg)
    (a : PySem.W.nsIn K mainGlobals x = some (some (.ref f))) (l : K.lookup f = some ⟨oc, od, .func (PySem.W.fnOf x x (defArgs st) (defBody st) (defScope st) .none kV dc pm an cd ct), sl⟩) (c : PySem.W.codeIn K cd x = true) (k : PySem.W.keepIn K (.ref f) = true)
    (b : ∀ (kV doc pm : Value) (an : Option Addr) (cdv ct : Value) (us : List Value), us.length = ps.length → bindArgs (PySem.W.fnOf x x (defArgs st) (defBody st) (defScope st) .none kV doc pm an cdv ct) ⟨us, []⟩ = pure (ps.zip us)) : FT K mg x st ps :=
  have F := fun_mk (st := st) l c k
  ⟨f, _, F, F.binds b, PySem.W.mg_of X G a⟩
theorem law_mk {l : PySem.W.OpenLaw} {w : World} {K : PySem.W.Frag} {h : Heap} {mg : Str → Option Value} {fa f2 : Addr} (X : K.In h) (G : h.Ns mainGlobals mg) (hfa : mg "law" = some (.ref fa)) (T : Txt w K mg)
    {od an : Option Addr} {sl : Array (Option Value)} {oc kV dc pm cd ct : Value}
    (a2 : PySem.W.nsIn K mainGlobals "law" = some (some (.ref f2))) (l2 : K.lookup f2 = some ⟨oc, od, .func (PySem.W.fnOf "law" "law" (defArgs s_law) (defBody s_law) (defScope s_law) .none kV dc pm an cd ct), sl⟩) (c2 : PySem.W.codeIn K cd "law" = true) (k2 : PySem.W.keepIn K (.ref f2) = true) :
    ∃ fd : FuncData, (∀ (s : Shared) (v : Value), BindsTo s fd ⟨[v], []⟩ [("_law_script", v)]) ∧ ∀ base : Heap, K.In base → base.Ns mainGlobals mg → FnG l.prog w K mg base CX0 6 fa fd ["_law_script"] (spD K 1 m_law) := by
  have e := hfa.symm.trans (PySem.W.mg_of X G a2)
  cases e
  exact ⟨PySem.W.fnOf "law" "law" (defArgs s_law) (defBody s_law) (defScope s_law) .none kV dc pm an cd ct, fun s v => .of_eq rfl, fun base _ _ => fn_law T (fun_mk l2 c2 k2)⟩
end LW
namespace LW
open PySem L2 DL
abbrev kS (x : Str) : Key := Sum.inr x
def penKv (c : Addr) (a l : Int) : List (Key × D) := [(kS "cells", .ref c), (kS "at", .int a), (kS "left", .int l)]
theorem k_ca : ¬ (kS "cells" = kS "at") := by decide +kernel
theorem k_cl : ¬ (kS "cells" = kS "left") := by decide +kernel
theorem k_al : ¬ (kS "at" = kS "left") := by decide +kernel
theorem k_la : ¬ (kS "left" = kS "at") := by decide +kernel
theorem pen_cells {c a l} : valD (penKv c a l) (kS "cells") = some (.ref c) := by unfold penKv valD; rw [if_pos rfl]
theorem pen_at {c a l} : valD (penKv c a l) (kS "at") = some (.int a) := by unfold penKv valD; rw [if_neg k_ca]; unfold valD; rw [if_pos rfl]
theorem pen_left {c a l} : valD (penKv c a l) (kS "left") = some (.int l) := by unfold penKv valD; rw [if_neg k_cl]; unfold valD; rw [if_neg k_al]; unfold valD; rw [if_pos rfl]
theorem put_at {c a l v} : putD (penKv c a l) (kS "at") (.int v) = penKv c v l := by
  unfold putD hasD
  rw [pen_at]
  show replD (penKv c a l) (kS "at") (.int v) = _
  unfold penKv
  simp only [replD, if_neg k_ca, if_neg k_la, if_true]
theorem put_left {c a l v} : putD (penKv c a l) (kS "left") (.int v) = penKv c a v := by
  unfold putD hasD
  rw [pen_left]
  show replD (penKv c a l) (kS "left") (.int v) = _
  unfold penKv
  simp only [replD, if_neg k_cl, if_neg k_al, if_true]
theorem pen_len {c a l} : (penKv c a l).length = 3 := rfl
theorem three_line : 3 < sizeLine := by decide
theorem nil_line : 0 ≤ sizeLine := Nat.zero_le _
structure Pen (S : Sto) (p c : Addr) (b : Nat) : Prop where
  ex : ∃ (ns : List Int) (a l : Int), S p = some (.dk (penKv c a l)) ∧ S c = some (.lst (ns.map .int)) ∧ ns.length ≤ 63 ∧ 0 ≤ a ∧ a ≤ b ∧ 0 ≤ l
/-- all but the pen stays -/
def Kp (p : Addr) (S S' : Sto) : Prop := ∀ a o, a ≠ p → S a = some o → S' a = some o
theorem Kp.trans {p : Addr} {S S1 S2 : Sto} (x : Kp p S S1) (y : Kp p S1 S2) : Kp p S S2 := fun a o n h => y a o n (x a o n h)
theorem Kp.refl {p : Addr} {S : Sto} : Kp p S S := fun _ _ _ h => h
theorem Kp.new {p q : Addr} {S : Sto} {o : O} (h : S q = none) : Kp p S (updS S q o) := fun a u _ e => by rw [updS_ne (neS e h)]; exact e
theorem Kp.put {p : Addr} {S : Sto} {o : O} : Kp p S (updS S p o) := fun a u n e => by rw [updS_ne n]; exact e
theorem Pen.keep {p pc : Addr} {S S' : Sto} {b : Nat} (h : Pen S p pc b) (k : ∀ a o, S a = some o → S' a = some o) : Pen S' p pc b :=
  let ⟨ns, a, l, h1, h2, h3⟩ := h.ex; ⟨ns, a, l, k _ _ h1, k _ _ h2, h3⟩
theorem Pen.new {p pc q : Addr} {S : Sto} {o : O} {b : Nat} (h : Pen S p pc b) (hq : S q = none) : Pen (updS S q o) p pc b := h.keep fun a u e => by rw [updS_ne (neS e hq)]; exact e
theorem Pen.mono {p pc : Addr} {S : Sto} {b b2 : Nat} (h : Pen S p pc b) (hb : b ≤ b2) : Pen S p pc b2 := let ⟨ns, a, l, h1, h2, h3, h4, h5, h6⟩ := h.ex; ⟨ns, a, l, h1, h2, h3, h4, by omega, h6⟩
theorem get_ints {ns : List Int} {i : Int} (h0 : 0 ≤ i) (h : i < ns.length) : ∃ z, atI (ns.map D.int) i = some (.int z) := by
  obtain ⟨k, rfl⟩ : ∃ k : Nat, i = (k : Nat) := ⟨i.toNat, by omega⟩
  have hl : k < ns.length := by omega
  refine ⟨ns[k], atI_nat ?_⟩
  rw [List.getElem?_map]
  simp [hl]
theorem take_spec {S : Sto} {p c : Addr} {b : Nat} {n : Int} {Q : DK} (h : Pen S p c b) (hb : b + 1 ≤ 100000000) (hn : 0 < n) (hm : n.natAbs.log2 < 9000)
   (q : ∀ (k : Int) (S' : Sto), 0 ≤ k → k < n → Pen S' p c (b + 1) → Kp p S S' → Q (.int k) S') : m_wtake [.ref p, .int n] S Q := by
  obtain ⟨ns, a, l, h1, h2, h3, h4, h5, h6⟩ := h
  have hcp : c ≠ p := fun e => by subst e; rw [h1] at h2; cases h2
  rw [e_wtake]
  refine seq_i ?_
  simp (config := {implicitDefEqProofs := false, proj := false}) only [R_pp4, eVar, eC, eOp, eIf, eTup, eLst, eDict0, eDict, eSl, oNo, eCall, eCB, eM, eLc, eIsi2, aNil, aCons, pNil, pCons, tAndD, tOrD, tNotD, tsYes, gMns, gMod, gFdiv, gPow, gLe, gGt, gGe, sAsg, nName, sRet, sRetN, sExpr, sIf, sNext, sBreak, sCont, sFor, getS, setS, wipeS, endsD, asKeys, toKey, List.length_cons, List.length_nil, List.set_cons_zero, List.set_cons_succ, List.set_nil, Nat.zero_add, Nat.reduceAdd, Option.some.injEq, exists_and_left, exists_eq_left', exists_eq_left, id_eq, if_true, if_false, ite_true, ite_false, Bool.not_true, Bool.not_false, Bool.false_eq_true, not_false_eq_true, not_true_eq_false, reduceCtorEq, true_and, and_true, ne_eq, decide_eq_true_eq, isiN, isiCls, List.mem_cons, String.reduceEq, String.reduceBEq, or_true, true_or, or_false, false_or, Bool.or_true, Bool.true_or, Bool.false_or, Bool.or_false, Bool.and_false, Bool.false_and, Bool.true_and, Bool.and_true, beq_self_eq_true, decide_true, decide_false, h1, pen_left]
  by_cases hl : 0 < l
  · rw [if_pos hl]
    refine seq_i ?_
    simp (config := {implicitDefEqProofs := false, proj := false}) only [R_pp4, eVar, eC, eOp, eIf, eTup, eLst, eDict0, eDict, eSl, oNo, eCall, eCB, eM, eLc, eIsi2, aNil, aCons, pNil, pCons, tAndD, tOrD, tNotD, tsYes, gMns, gMod, gFdiv, gPow, gLe, gGt, gGe, sAsg, nName, sRet, sRetN, sExpr, sIf, sNext, sBreak, sCont, sFor, getS, setS, wipeS, endsD, asKeys, toKey, List.length_cons, List.length_nil, List.set_cons_zero, List.set_cons_succ, List.set_nil, Nat.zero_add, Nat.reduceAdd, Option.some.injEq, exists_and_left, exists_eq_left', exists_eq_left, id_eq, if_true, if_false, ite_true, ite_false, Bool.not_true, Bool.not_false, Bool.false_eq_true, not_false_eq_true, not_true_eq_false, reduceCtorEq, true_and, and_true, ne_eq, decide_eq_true_eq, isiN, isiCls, List.mem_cons, String.reduceEq, String.reduceBEq, or_true, true_or, or_false, false_or, Bool.or_true, Bool.true_or, Bool.false_or, Bool.or_false, Bool.and_false, Bool.false_and, Bool.true_and, Bool.and_true, beq_self_eq_true, decide_true, decide_false, h1, pen_left]
    refine ⟨hn, seq_i ?_⟩
    simp (config := {implicitDefEqProofs := false, proj := false}) only [R_pp4, eVar, eC, eOp, eIf, eTup, eLst, eDict0, eDict, eSl, oNo, eCall, eCB, eM, eLc, eIsi2, aNil, aCons, pNil, pCons, tAndD, tOrD, tNotD, tsYes, gMns, gMod, gFdiv, gPow, gLe, gGt, gGe, sAsg, nName, sRet, sRetN, sExpr, sIf, sNext, sBreak, sCont, sFor, getS, setS, wipeS, endsD, asKeys, toKey, List.length_cons, List.length_nil, List.set_cons_zero, List.set_cons_succ, List.set_nil, Nat.zero_add, Nat.reduceAdd, Option.some.injEq, exists_and_left, exists_eq_left', exists_eq_left, id_eq, if_true, if_false, ite_true, ite_false, Bool.not_true, Bool.not_false, Bool.false_eq_true, not_false_eq_true, not_true_eq_false, reduceCtorEq, true_and, and_true, ne_eq, decide_eq_true_eq, isiN, isiCls, List.mem_cons, String.reduceEq, String.reduceBEq, or_true, true_or, or_false, false_or, Bool.or_true, Bool.true_or, Bool.false_or, Bool.or_false, Bool.and_false, Bool.false_and, Bool.true_and, Bool.and_true, beq_self_eq_true, decide_true, decide_false, h1, pen_left, put_left, pen_len]
    refine ⟨⟨hn, hm⟩, three_line, ret_i ?_⟩
    simp (config := {implicitDefEqProofs := false, proj := false}) only [R_pp4, eVar, eC, eOp, eIf, eTup, eLst, eDict0, eDict, eSl, oNo, eCall, eCB, eM, eLc, eIsi2, aNil, aCons, pNil, pCons, tAndD, tOrD, tNotD, tsYes, gMns, gMod, gFdiv, gPow, gLe, gGt, gGe, sAsg, nName, sRet, sRetN, sExpr, sIf, sNext, sBreak, sCont, sFor, getS, setS, wipeS, endsD, asKeys, toKey, List.length_cons, List.length_nil, List.set_cons_zero, List.set_cons_succ, List.set_nil, Nat.zero_add, Nat.reduceAdd, Option.some.injEq, exists_and_left, exists_eq_left', exists_eq_left, id_eq, if_true, if_false, ite_true, ite_false, Bool.not_true, Bool.not_false, Bool.false_eq_true, not_false_eq_true, not_true_eq_false, reduceCtorEq, true_and, and_true, ne_eq, decide_eq_true_eq, isiN, isiCls, List.mem_cons, String.reduceEq, String.reduceBEq, or_true, true_or, or_false, false_or, Bool.or_true, Bool.true_or, Bool.false_or, Bool.or_false, Bool.and_false, Bool.false_and, Bool.true_and, Bool.and_true, beq_self_eq_true, decide_true, decide_false]
    exact q _ _ (Int.emod_nonneg _ (by omega)) (Int.emod_lt_of_pos _ hn) ⟨ns, a, l / n, updS_same, by rw [updS_ne hcp]; exact h2, h3, h4, by omega, Int.ediv_nonneg h6 (by omega)⟩ .put
  · rw [if_neg hl]
    refine seq_i ?_
    simp (config := {implicitDefEqProofs := false, proj := false}) only [R_pp4, eVar, eC, eOp, eIf, eTup, eLst, eDict0, eDict, eSl, oNo, eCall, eCB, eM, eLc, eIsi2, aNil, aCons, pNil, pCons, tAndD, tOrD, tNotD, tsYes, gMns, gMod, gFdiv, gPow, gLe, gGt, gGe, sAsg, nName, sRet, sRetN, sExpr, sIf, sNext, sBreak, sCont, sFor, getS, setS, wipeS, endsD, asKeys, toKey, List.length_cons, List.length_nil, List.set_cons_zero, List.set_cons_succ, List.set_nil, Nat.zero_add, Nat.reduceAdd, Option.some.injEq, exists_and_left, exists_eq_left', exists_eq_left, id_eq, if_true, if_false, ite_true, ite_false, Bool.not_true, Bool.not_false, Bool.false_eq_true, not_false_eq_true, not_true_eq_false, reduceCtorEq, true_and, and_true, ne_eq, decide_eq_true_eq, isiN, isiCls, List.mem_cons, String.reduceEq, String.reduceBEq, or_true, true_or, or_false, false_or, Bool.or_true, Bool.true_or, Bool.false_or, Bool.or_false, Bool.and_false, Bool.false_and, Bool.true_and, Bool.and_true, beq_self_eq_true, decide_true, decide_false, h1, pen_at]
    refine seq_i ?_
    simp (config := {implicitDefEqProofs := false, proj := false}) only [R_pp4, eVar, eC, eOp, eIf, eTup, eLst, eDict0, eDict, eSl, oNo, eCall, eCB, eM, eLc, eIsi2, aNil, aCons, pNil, pCons, tAndD, tOrD, tNotD, tsYes, gMns, gMod, gFdiv, gPow, gLe, gGt, gGe, sAsg, nName, sRet, sRetN, sExpr, sIf, sNext, sBreak, sCont, sFor, getS, setS, wipeS, endsD, asKeys, toKey, List.length_cons, List.length_nil, List.set_cons_zero, List.set_cons_succ, List.set_nil, Nat.zero_add, Nat.reduceAdd, Option.some.injEq, exists_and_left, exists_eq_left', exists_eq_left, id_eq, if_true, if_false, ite_true, ite_false, Bool.not_true, Bool.not_false, Bool.false_eq_true, not_false_eq_true, not_true_eq_false, reduceCtorEq, true_and, and_true, ne_eq, decide_eq_true_eq, isiN, isiCls, List.mem_cons, String.reduceEq, String.reduceBEq, or_true, true_or, or_false, false_or, Bool.or_true, Bool.true_or, Bool.false_or, Bool.or_false, Bool.and_false, Bool.false_and, Bool.true_and, Bool.and_true, beq_self_eq_true, decide_true, decide_false, h1, put_at, pen_len]
    refine ⟨three_line, seq_i ?_⟩
    simp (config := {implicitDefEqProofs := false, proj := false}) only [R_pp4, eVar, eC, eOp, eIf, eTup, eLst, eDict0, eDict, eSl, oNo, eCall, eCB, eM, eLc, eIsi2, aNil, aCons, pNil, pCons, tAndD, tOrD, tNotD, tsYes, gMns, gMod, gFdiv, gPow, gLe, gGt, gGe, sAsg, nName, sRet, sRetN, sExpr, sIf, sNext, sBreak, sCont, sFor, getS, setS, wipeS, endsD, asKeys, toKey, List.length_cons, List.length_nil, List.set_cons_zero, List.set_cons_succ, List.set_nil, Nat.zero_add, Nat.reduceAdd, Option.some.injEq, exists_and_left, exists_eq_left', exists_eq_left, id_eq, if_true, if_false, ite_true, ite_false, Bool.not_true, Bool.not_false, Bool.false_eq_true, not_false_eq_true, not_true_eq_false, reduceCtorEq, true_and, and_true, ne_eq, decide_eq_true_eq, isiN, isiCls, List.mem_cons, String.reduceEq, String.reduceBEq, or_true, true_or, or_false, false_or, Bool.or_true, Bool.true_or, Bool.false_or, Bool.or_false, Bool.and_false, Bool.false_and, Bool.true_and, Bool.and_true, beq_self_eq_true, decide_true, decide_false, updS_same, pen_cells]
    have hS : Kp p S (updS S p (.dk (penKv c (a + 1) l))) := .put
    have hc : updS S p (.dk (penKv c (a + 1) l)) c = some (.lst (ns.map .int)) := by rw [updS_ne hcp]; exact h2
    have hpp : updS S p (.dk (penKv c (a + 1) l)) p = some (.dk (penKv c (a + 1) l)) := updS_same
    generalize updS S p (.dk (penKv c (a + 1) l)) = S1 at hS hc hpp
    refine seq_i ?_
    simp (config := {implicitDefEqProofs := false, proj := false}) only [R_pp4, eVar, eC, eOp, eIf, eTup, eLst, eDict0, eDict, eSl, oNo, eCall, eCB, eM, eLc, eIsi2, aNil, aCons, pNil, pCons, tAndD, tOrD, tNotD, tsYes, gMns, gMod, gFdiv, gPow, gLe, gGt, gGe, sAsg, nName, sRet, sRetN, sExpr, sIf, sNext, sBreak, sCont, sFor, getS, setS, wipeS, endsD, asKeys, toKey, List.length_cons, List.length_nil, List.set_cons_zero, List.set_cons_succ, List.set_nil, Nat.zero_add, Nat.reduceAdd, Option.some.injEq, exists_and_left, exists_eq_left', exists_eq_left, id_eq, if_true, if_false, ite_true, ite_false, Bool.not_true, Bool.not_false, Bool.false_eq_true, not_false_eq_true, not_true_eq_false, reduceCtorEq, true_and, and_true, ne_eq, decide_eq_true_eq, isiN, isiCls, List.mem_cons, String.reduceEq, String.reduceBEq, or_true, true_or, or_false, false_or, Bool.or_true, Bool.true_or, Bool.false_or, Bool.or_false, Bool.and_false, Bool.false_and, Bool.true_and, Bool.and_true, beq_self_eq_true, decide_true, decide_false]
    refine ⟨mulS (by omega) (by omega) (by omega) (by omega), mulS (by omega) (by omega) (by omega) (by omega), mulS (by omega) (by omega) (by omega) (by omega), ?_⟩
    generalize 70207 * a * a + 131 * a + 29 = z0
    refine seq_i ?_
    simp (config := {implicitDefEqProofs := false, proj := false}) only [R_pp4, eVar, eC, eOp, eIf, eTup, eLst, eDict0, eDict, eSl, oNo, eCall, eCB, eM, eLc, eIsi2, aNil, aCons, pNil, pCons, tAndD, tOrD, tNotD, tsYes, gMns, gMod, gFdiv, gPow, gLe, gGt, gGe, sAsg, nName, sRet, sRetN, sExpr, sIf, sNext, sBreak, sCont, sFor, getS, setS, wipeS, endsD, asKeys, toKey, List.length_cons, List.length_nil, List.set_cons_zero, List.set_cons_succ, List.set_nil, Nat.zero_add, Nat.reduceAdd, Option.some.injEq, exists_and_left, exists_eq_left', exists_eq_left, id_eq, if_true, if_false, ite_true, ite_false, Bool.not_true, Bool.not_false, Bool.false_eq_true, not_false_eq_true, not_true_eq_false, reduceCtorEq, true_and, and_true, ne_eq, decide_eq_true_eq, isiN, isiCls, List.mem_cons, String.reduceEq, String.reduceBEq, or_true, true_or, or_false, false_or, Bool.or_true, Bool.true_or, Bool.false_or, Bool.or_false, Bool.and_false, Bool.false_and, Bool.true_and, Bool.and_true, beq_self_eq_true, decide_true, decide_false]
    refine ⟨nil_line, fun p1 hp1 => ?_⟩
    have hcp1 : c ≠ p1 := neS hc hp1
    have hpp1 : p ≠ p1 := neS hpp hp1
    refine eq_nil (by rw [updS_ne hcp1]; exact hc) updS_same (pds_ints ns) (depth_ints ns) ?_
    have hc2 : updS S1 p1 (.lst []) c = some (.lst (ns.map .int)) := by rw [updS_ne hcp1]; exact hc
    have hpp2 : updS S1 p1 (.lst []) p = some (.dk (penKv c (a + 1) l)) := by rw [updS_ne hpp1]; exact hpp
    have hS2 : Kp p S (updS S1 p1 (.lst [])) := hS.trans (.new hp1)
    generalize updS S1 p1 (.lst []) = S2 at hc2 hpp2 hS2
    simp (config := {implicitDefEqProofs := false, proj := false}) only [R_pp4, eVar, eC, eOp, eIf, eTup, eLst, eDict0, eDict, eSl, oNo, eCall, eCB, eM, eLc, eIsi2, aNil, aCons, pNil, pCons, tAndD, tOrD, tNotD, tsYes, gMns, gMod, gFdiv, gPow, gLe, gGt, gGe, sAsg, nName, sRet, sRetN, sExpr, sIf, sNext, sBreak, sCont, sFor, getS, setS, wipeS, endsD, asKeys, toKey, List.length_cons, List.length_nil, List.set_cons_zero, List.set_cons_succ, List.set_nil, Nat.zero_add, Nat.reduceAdd, Option.some.injEq, exists_and_left, exists_eq_left', exists_eq_left, id_eq, if_true, if_false, ite_true, ite_false, Bool.not_true, Bool.not_false, Bool.false_eq_true, not_false_eq_true, not_true_eq_false, reduceCtorEq, true_and, and_true, ne_eq, decide_eq_true_eq, isiN, isiCls, List.mem_cons, String.reduceEq, String.reduceBEq, or_true, true_or, or_false, false_or, Bool.or_true, Bool.true_or, Bool.false_or, Bool.or_false, Bool.and_false, Bool.false_and, Bool.true_and, Bool.and_true, beq_self_eq_true, decide_true, decide_false, List.isEmpty_map, hc2]
    -- the cell
    have rest : ∀ z, t_wtake_11 ⟨fun x S => Q .non S, Q, fun _ _ => False, fun _ _ => False⟩ [some (.ref p), some (.int n), some (.int a), some (.ref c), some (.int z), none, none, none] S2 := by
      intro z
      have fin : t_wtake_14 ⟨fun x S => Q .non S, Q, fun _ _ => False, fun _ _ => False⟩ [some (.ref p), some (.int n), some (.int a), some (.ref c), some (.int z), none, none, none] S2 := by
        refine seq_i ?_
        simp (config := {implicitDefEqProofs := false, proj := false}) only [R_pp4, eVar, eC, eOp, eIf, eTup, eLst, eDict0, eDict, eSl, oNo, eCall, eCB, eM, eLc, eIsi2, aNil, aCons, pNil, pCons, tAndD, tOrD, tNotD, tsYes, gMns, gMod, gFdiv, gPow, gLe, gGt, gGe, sAsg, nName, sRet, sRetN, sExpr, sIf, sNext, sBreak, sCont, sFor, getS, setS, wipeS, endsD, asKeys, toKey, List.length_cons, List.length_nil, List.set_cons_zero, List.set_cons_succ, List.set_nil, Nat.zero_add, Nat.reduceAdd, Option.some.injEq, exists_and_left, exists_eq_left', exists_eq_left, id_eq, if_true, if_false, ite_true, ite_false, Bool.not_true, Bool.not_false, Bool.false_eq_true, not_false_eq_true, not_true_eq_false, reduceCtorEq, true_and, and_true, ne_eq, decide_eq_true_eq, isiN, isiCls, List.mem_cons, String.reduceEq, String.reduceBEq, or_true, true_or, or_false, false_or, Bool.or_true, Bool.true_or, Bool.false_or, Bool.or_false, Bool.and_false, Bool.false_and, Bool.true_and, Bool.and_true, beq_self_eq_true, decide_true, decide_false]
        have z1 : 0 ≤ z % 2147483587 := Int.emod_nonneg _ (by decide)
        have z2 : z % 2147483587 < 2147483587 := Int.emod_lt_of_pos _ (by decide)
        refine ⟨by decide, mulS (by omega) (by omega) (by omega) (by omega), powS (by decide) (by decide) (by omega) (by omega), by decide, seq_i ?_⟩
        have y1 : 0 ≤ (z % 2147483587 + 45007 * a + 11) ^ Int.toNat 3 % 2147483629 := Int.emod_nonneg _ (by decide)
        have y2 : (z % 2147483587 + 45007 * a + 11) ^ Int.toNat 3 % 2147483629 < 2147483629 := Int.emod_lt_of_pos _ (by decide)
        generalize (z % 2147483587 + 45007 * a + 11) ^ Int.toNat 3 % 2147483629 = one at y1 y2
        simp (config := {implicitDefEqProofs := false, proj := false}) only [R_pp4, eVar, eC, eOp, eIf, eTup, eLst, eDict0, eDict, eSl, oNo, eCall, eCB, eM, eLc, eIsi2, aNil, aCons, pNil, pCons, tAndD, tOrD, tNotD, tsYes, gMns, gMod, gFdiv, gPow, gLe, gGt, gGe, sAsg, nName, sRet, sRetN, sExpr, sIf, sNext, sBreak, sCont, sFor, getS, setS, wipeS, endsD, asKeys, toKey, List.length_cons, List.length_nil, List.set_cons_zero, List.set_cons_succ, List.set_nil, Nat.zero_add, Nat.reduceAdd, Option.some.injEq, exists_and_left, exists_eq_left', exists_eq_left, id_eq, if_true, if_false, ite_true, ite_false, Bool.not_true, Bool.not_false, Bool.false_eq_true, not_false_eq_true, not_true_eq_false, reduceCtorEq, true_and, and_true, ne_eq, decide_eq_true_eq, isiN, isiCls, List.mem_cons, String.reduceEq, String.reduceBEq, or_true, true_or, or_false, false_or, Bool.or_true, Bool.true_or, Bool.false_or, Bool.or_false, Bool.and_false, Bool.false_and, Bool.true_and, Bool.and_true, beq_self_eq_true, decide_true, decide_false]
        have x1 : 1213 * a * a ≤ 1213 * 100000000 * 100000000 := Int.mul_le_mul (by omega) (by omega) h4 (by omega)
        have x0 : 0 ≤ 1213 * a * a := Int.mul_nonneg (by omega) h4
        refine ⟨mulS (by omega) (by omega) (by omega) (by omega), mulS (by omega) (by omega) (by omega) (by omega), powS (by decide) (by decide) (by omega) (by omega), by decide, ret_i ?_⟩
        simp (config := {implicitDefEqProofs := false, proj := false}) only [R_pp4, eVar, eC, eOp, eIf, eTup, eLst, eDict0, eDict, eSl, oNo, eCall, eCB, eM, eLc, eIsi2, aNil, aCons, pNil, pCons, tAndD, tOrD, tNotD, tsYes, gMns, gMod, gFdiv, gPow, gLe, gGt, gGe, sAsg, nName, sRet, sRetN, sExpr, sIf, sNext, sBreak, sCont, sFor, getS, setS, wipeS, endsD, asKeys, toKey, List.length_cons, List.length_nil, List.set_cons_zero, List.set_cons_succ, List.set_nil, Nat.zero_add, Nat.reduceAdd, Option.some.injEq, exists_and_left, exists_eq_left', exists_eq_left, id_eq, if_true, if_false, ite_true, ite_false, Bool.not_true, Bool.not_false, Bool.false_eq_true, not_false_eq_true, not_true_eq_false, reduceCtorEq, true_and, and_true, ne_eq, decide_eq_true_eq, isiN, isiCls, List.mem_cons, String.reduceEq, String.reduceBEq, or_true, true_or, or_false, false_or, Bool.or_true, Bool.true_or, Bool.false_or, Bool.or_false, Bool.and_false, Bool.false_and, Bool.true_and, Bool.and_true, beq_self_eq_true, decide_true, decide_false]
        have w1 : 0 ≤ (one + 1213 * a * a + 3) ^ Int.toNat 5 % 2147483543 := Int.emod_nonneg _ (by decide)
        have w2 : (one + 1213 * a * a + 3) ^ Int.toNat 5 % 2147483543 < 2147483543 := Int.emod_lt_of_pos _ (by decide)
        generalize (one + 1213 * a * a + 3) ^ Int.toNat 5 % 2147483543 = two at w1 w2
        have v1 : 0 ≤ one % 64007 := Int.emod_nonneg _ (by decide)
        have v2 : one % 64007 < 64007 := Int.emod_lt_of_pos _ (by decide)
        refine ⟨by decide, mulS (by omega) (by omega) (by omega) (by omega), by decide, fdivS (by decide) (by decide), hn, ?_⟩
        exact q _ _ (Int.emod_nonneg _ (by omega)) (Int.emod_lt_of_pos _ hn) ⟨ns, a + 1, l, hpp2, hc2, h3, by omega, by omega, h6⟩ hS2
      refine seq_i ?_
      simp (config := {implicitDefEqProofs := false, proj := false}) only [R_pp4, eVar, eC, eOp, eIf, eTup, eLst, eDict0, eDict, eSl, oNo, eCall, eCB, eM, eLc, eIsi2, aNil, aCons, pNil, pCons, tAndD, tOrD, tNotD, tsYes, gMns, gMod, gFdiv, gPow, gLe, gGt, gGe, sAsg, nName, sRet, sRetN, sExpr, sIf, sNext, sBreak, sCont, sFor, getS, setS, wipeS, endsD, asKeys, toKey, List.length_cons, List.length_nil, List.set_cons_zero, List.set_cons_succ, List.set_nil, Nat.zero_add, Nat.reduceAdd, Option.some.injEq, exists_and_left, exists_eq_left', exists_eq_left, id_eq, if_true, if_false, ite_true, ite_false, Bool.not_true, Bool.not_false, Bool.false_eq_true, not_false_eq_true, not_true_eq_false, reduceCtorEq, true_and, and_true, ne_eq, decide_eq_true_eq, isiN, isiCls, List.mem_cons, String.reduceEq, String.reduceBEq, or_true, true_or, or_false, false_or, Bool.or_true, Bool.true_or, Bool.false_or, Bool.or_false, Bool.and_false, Bool.false_and, Bool.true_and, Bool.and_true, beq_self_eq_true, decide_true, decide_false, hc2, List.length_map]
      by_cases ha : a < ns.length
      · rw [if_pos ha]
        refine ⟨powS (by decide) (by decide) (by decide) (by decide), ?_⟩
        by_cases hz : (10 : Int) ^ Int.toNat 18 ≤ if z < 0 then -z else z
        · rw [if_pos hz]
          refine seq_i ?_
          simp (config := {implicitDefEqProofs := false, proj := false}) only [R_pp4, eVar, eC, eOp, eIf, eTup, eLst, eDict0, eDict, eSl, oNo, eCall, eCB, eM, eLc, eIsi2, aNil, aCons, pNil, pCons, tAndD, tOrD, tNotD, tsYes, gMns, gMod, gFdiv, gPow, gLe, gGt, gGe, sAsg, nName, sRet, sRetN, sExpr, sIf, sNext, sBreak, sCont, sFor, getS, setS, wipeS, endsD, asKeys, toKey, List.length_cons, List.length_nil, List.set_cons_zero, List.set_cons_succ, List.set_nil, Nat.zero_add, Nat.reduceAdd, Option.some.injEq, exists_and_left, exists_eq_left', exists_eq_left, id_eq, if_true, if_false, ite_true, ite_false, Bool.not_true, Bool.not_false, Bool.false_eq_true, not_false_eq_true, not_true_eq_false, reduceCtorEq, true_and, and_true, ne_eq, decide_eq_true_eq, isiN, isiCls, List.mem_cons, String.reduceEq, String.reduceBEq, or_true, true_or, or_false, false_or, Bool.or_true, Bool.true_or, Bool.false_or, Bool.or_false, Bool.and_false, Bool.false_and, Bool.true_and, Bool.and_true, beq_self_eq_true, decide_true, decide_false, hpp2, put_left, pen_len]
          refine ⟨⟨hn, hm⟩, three_line, hn, ?_⟩
          refine q _ _ (Int.emod_nonneg _ (by omega)) (Int.emod_lt_of_pos _ hn) ⟨ns, a + 1, _, updS_same, by rw [updS_ne hcp]; exact hc2, h3, by omega, by omega, Int.ediv_nonneg (by split <;> omega) (by omega)⟩ (hS2.trans .put)
        · rw [if_neg hz]
          exact fin
      · rw [if_neg ha]
        exact fin
    by_cases he : ns.isEmpty
    · simp (config := {implicitDefEqProofs := false, proj := false}) only [R_pp4, eVar, eC, eOp, eIf, eTup, eLst, eDict0, eDict, eSl, oNo, eCall, eCB, eM, eLc, eIsi2, aNil, aCons, pNil, pCons, tAndD, tOrD, tNotD, tsYes, gMns, gMod, gFdiv, gPow, gLe, gGt, gGe, sAsg, nName, sRet, sRetN, sExpr, sIf, sNext, sBreak, sCont, sFor, getS, setS, wipeS, endsD, asKeys, toKey, List.length_cons, List.length_nil, List.set_cons_zero, List.set_cons_succ, List.set_nil, Nat.zero_add, Nat.reduceAdd, Option.some.injEq, exists_and_left, exists_eq_left', exists_eq_left, id_eq, if_true, if_false, ite_true, ite_false, Bool.not_true, Bool.not_false, Bool.false_eq_true, not_false_eq_true, not_true_eq_false, reduceCtorEq, true_and, and_true, ne_eq, decide_eq_true_eq, isiN, isiCls, List.mem_cons, String.reduceEq, String.reduceBEq, or_true, true_or, or_false, false_or, Bool.or_true, Bool.true_or, Bool.false_or, Bool.or_false, Bool.and_false, Bool.false_and, Bool.true_and, Bool.and_true, beq_self_eq_true, decide_true, decide_false, he]
      exact rest z0
    · simp (config := {implicitDefEqProofs := false, proj := false}) only [R_pp4, eVar, eC, eOp, eIf, eTup, eLst, eDict0, eDict, eSl, oNo, eCall, eCB, eM, eLc, eIsi2, aNil, aCons, pNil, pCons, tAndD, tOrD, tNotD, tsYes, gMns, gMod, gFdiv, gPow, gLe, gGt, gGe, sAsg, nName, sRet, sRetN, sExpr, sIf, sNext, sBreak, sCont, sFor, getS, setS, wipeS, endsD, asKeys, toKey, List.length_cons, List.length_nil, List.set_cons_zero, List.set_cons_succ, List.set_nil, Nat.zero_add, Nat.reduceAdd, Option.some.injEq, exists_and_left, exists_eq_left', exists_eq_left, id_eq, if_true, if_false, ite_true, ite_false, Bool.not_true, Bool.not_false, Bool.false_eq_true, not_false_eq_true, not_true_eq_false, reduceCtorEq, true_and, and_true, ne_eq, decide_eq_true_eq, isiN, isiCls, List.mem_cons, String.reduceEq, String.reduceBEq, or_true, true_or, or_false, false_or, Bool.or_true, Bool.true_or, Bool.false_or, Bool.or_false, Bool.and_false, Bool.false_and, Bool.true_and, Bool.and_true, beq_self_eq_true, decide_true, decide_false, he]
      have hpos : 0 < ns.length := by cases ns with
        | nil => exact (he rfl).elim
        | cons x r => simp
      refine ⟨by rw [List.length_map]; omega, ?_⟩
      rw [List.length_map]
      obtain ⟨z, hz⟩ := get_ints (ns := ns) (i := a % (ns.length : Int)) (Int.emod_nonneg _ (by omega)) (Int.emod_lt_of_pos _ (by omega))
      exact ⟨_, hz, rest z⟩
end LW
/-! names: the plain part -/
namespace LW
open PySem L2 DL
theorem small_line {n : Nat} (h : n ≤ 100000) : n ≤ sizeLine := Nat.le_trans h (by decide)
def wordA (t k : Nat) : List Nat := [97 + (t + 7 * k) % 26, 97 + (t + k / 26) % 26]
def bw (t r : Nat) : List Nat := if h : r = 0 then [] else bw t ((r - 1) / 2) ++ [97 + (t + 9 * (r % 2)) % 26]
termination_by r
decreasing_by omega
theorem bw_zero (t : Nat) : bw t 0 = [] := by rw [bw]; simp
theorem bw_pos {t r : Nat} (h : 0 < r) : bw t r = bw t ((r - 1) / 2) ++ [97 + (t + 9 * (r % 2)) % 26] := by
  rw [bw]
  rw [dif_neg (by omega)]
theorem bw_len (t : Nat) : ∀ r, (bw t r).length ≤ r := by
  intro r
  induction r using Nat.strongRecOn with
  | _ r ih =>
    by_cases h : r = 0
    · subst h; rw [bw_zero]; simp
    · rw [bw_pos (by omega), List.length_append]
      have := ih ((r - 1) / 2) (by omega)
      simp
      omega
theorem bw_len2 (t : Nat) : ∀ n r, r + 2 ≤ 2 ^ (n + 1) → (bw t r).length ≤ n := by
  intro n
  induction n with
  | zero => intro r h; have : r = 0 := by omega
            subst this; rw [bw_zero]; simp
  | succ n ih =>
    intro r h
    by_cases h0 : r = 0
    · subst h0; rw [bw_zero]; simp
    · rw [bw_pos (by omega), List.length_append]
      have e : 2 ^ (n + 1 + 1) = 2 * 2 ^ (n + 1) := by rw [Nat.pow_succ]; omega
      have := ih ((r - 1) / 2) (by omega)
      simp
      omega
/-- small letters -/
def Lt (l : List Nat) : Prop := ∀ c ∈ l, 97 ≤ c ∧ c < 123
theorem Lt.app {a b : List Nat} (x : Lt a) (y : Lt b) : Lt (a ++ b) := fun c hc => (List.mem_append.mp hc).elim (x c) (y c)
theorem bw_lt (t : Nat) : ∀ r, Lt (bw t r) := by
  intro r
  induction r using Nat.strongRecOn with
  | _ r ih =>
    by_cases h : r = 0
    · subst h; rw [bw_zero]; intro c hc; cases hc
    · rw [bw_pos (by omega)]
      refine Lt.app (ih ((r - 1) / 2) (by omega)) fun c hc => ?_
      rw [List.mem_singleton] at hc
      omega
theorem bw_inj (t : Nat) : ∀ r s, bw t r = bw t s → r = s := by
  intro r
  induction r using Nat.strongRecOn with
  | _ r ih =>
    intro s e
    by_cases h : r = 0
    · subst h
      by_cases h2 : s = 0
      · exact h2.symm
      · rw [bw_zero, bw_pos (r := s) (by omega)] at e
        simp at e
    · by_cases h2 : s = 0
      · subst h2
        rw [bw_zero, bw_pos (r := r) (by omega)] at e
        simp at e
      · rw [bw_pos (r := r) (by omega), bw_pos (r := s) (by omega)] at e
        obtain ⟨e1, e2⟩ := List.append_inj' e rfl
        have e3 := ih _ (by omega) _ e1
        have e4 : 97 + (t + 9 * (r % 2)) % 26 = 97 + (t + 9 * (s % 2)) % 26 := by simpa using e2
        omega
def nameL (way : Int) (B : List Nat) (sp t k : Nat) : List Nat := if way = 1 then bw t (k + 1) else B.take sp ++ wordA t k ++ B.drop sp
theorem nameL_inj {way : Int} {B : List Nat} {sp t k j : Nat} (hk : k < 182) (hj : j < 182) (e : nameL way B sp t k = nameL way B sp t j) : k = j := by
  unfold nameL at e
  by_cases h : way = 1
  · rw [if_pos h, if_pos h] at e
    have := bw_inj t _ _ e
    omega
  · rw [if_neg h, if_neg h] at e
    have e1 := List.append_cancel_right e
    have e2 := List.append_cancel_left e1
    unfold wordA at e2
    simp only [List.cons.injEq, and_true] at e2
    obtain ⟨a, b⟩ := e2
    have h2 : k / 26 = j / 26 := by
      have h3 : k / 26 < 7 := by omega
      have h4 : j / 26 < 7 := by omega
      clear a e e1
      generalize k / 26 = x at b h3
      generalize j / 26 = y at b h4
      omega
    have h1 : k % 26 = j % 26 := by
      clear b h2 e e1
      omega
    omega
theorem nameL_lt {way : Int} {B : List Nat} {sp t k : Nat} (hB : Lt B) : Lt (nameL way B sp t k) := by
  unfold nameL
  by_cases h : way = 1
  · rw [if_pos h]; exact bw_lt t _
  · rw [if_neg h]
    refine Lt.app (Lt.app (fun c hc => hB c (List.mem_of_mem_take hc)) fun c hc => ?_) fun c hc => hB c (List.mem_of_mem_drop hc)
    unfold wordA at hc
    simp only [List.mem_cons, List.not_mem_nil, or_false] at hc
    rcases hc with hc | hc <;> subst hc <;> omega
theorem nameL_len8 {way : Int} {B : List Nat} {sp t k : Nat} (hB : B.length ≤ 6) (hk : k < 61) : 1 ≤ (nameL way B sp t k).length ∧ (nameL way B sp t k).length ≤ 8 := by
  unfold nameL
  by_cases h : way = 1
  · rw [if_pos h]
    have h1 := bw_len2 t 6 (k + 1) (by have : 2 ^ 7 = 128 := rfl; omega)
    refine ⟨?_, by omega⟩
    rw [bw_pos (by omega), List.length_append]
    simp
  · rw [if_neg h]
    simp only [List.length_append, List.length_take, List.length_drop]
    unfold wordA
    simp only [List.length_cons, List.length_nil]
    omega
theorem nameL_len {way : Int} {B : List Nat} {sp t k : Nat} (hB : B.length ≤ 6) : (nameL way B sp t k).length ≤ k + 9 := by
  unfold nameL
  by_cases h : way = 1
  · rw [if_pos h]
    have := bw_len t (k + 1)
    omega
  · rw [if_neg h]
    simp only [List.length_append, List.length_take, List.length_drop]
    unfold wordA
    simp only [List.length_cons, List.length_nil]
    omega
def ofL (l : List Nat) : Str := ⟨l.toArray⟩
theorem ofL_inj {a b : List Nat} (h : ofL a = ofL b) : a = b := by
  unfold ofL at h
  simpa using h
def nameS (way : Int) (B : List Nat) (sp t k : Nat) : Str := ofL (nameL way B sp t k)
def namesS (way : Int) (B : List Nat) (sp t n : Nat) : List Str := (List.range n).map (nameS way B sp t)
theorem names_nodup {way : Int} {B : List Nat} {sp t n : Nat} (h : n ≤ 182) : (namesS way B sp t n).Nodup := by
  unfold namesS
  rw [List.nodup_iff_pairwise_ne, List.pairwise_map]
  refine List.Pairwise.imp_of_mem (fun ha hb hab e => hab ?_) List.nodup_range
  rw [List.mem_range] at ha hb
  exact nameL_inj (by omega) (by omega) (ofL_inj e)
/-- a term put in where it isn't yet -/
theorem set_nodup {xs : List Str} {i : Nat} {z : Str} (h : xs.Nodup) (hz : z ∉ xs) : (xs.set i z).Nodup := by
  induction xs generalizing i with
  | nil => simpa using h
  | cons x r ih =>
    rw [List.nodup_cons] at h
    rw [List.mem_cons, not_or] at hz
    cases i with
    | zero => rw [List.set_cons_zero, List.nodup_cons]; exact ⟨hz.2, h.2⟩
    | succ i =>
      rw [List.set_cons_succ, List.nodup_cons]
      refine ⟨fun hm => ?_, ih h.2 hz.2⟩
      rcases List.mem_or_eq_of_mem_set hm with hm | hm
      · exact h.1 hm
      · exact hz.1 hm.symm
end LW
/-! names: the walk -/
namespace LW
open PySem L2 DL
def abc : Str := "abcdefghijklmnopqrstuvwxyz"
theorem abc_len : abc.length = 26 := by decide +kernel
theorem abc_get : ∀ j : Fin 26, abc.cps.toList[j.val]? = some (97 + j.val) := by decide +kernel
theorem abc_at {i : Int} {j : Nat} (e : i = (j : Nat)) (h : j < 26) : atI abc.cps.toList i = some (97 + j) := by
  subst e
  exact atI_nat (abc_get ⟨j, h⟩)
theorem ofL_app (a b : List Nat) : ofL a ++ ofL b = ofL (a ++ b) := by
  show (⟨a.toArray ++ b.toArray⟩ : Str) = ⟨(a ++ b).toArray⟩
  simp
theorem ofL_len (a : List Nat) : (ofL a).length = a.length := by
  show (a.toArray).size = _
  simp
theorem ofL_one (c : Nat) : (⟨#[c]⟩ : Str) = ofL [c] := rfl
theorem ofL_of (z : Str) : z = ofL z.cps.toList := by
  unfold ofL
  simp
theorem cut_to {z : Str} {s : Nat} (h : s ≤ z.length) : cutS z none (some (s : Int)) = ofL (z.cps.toList.take s) := by
  unfold cutS
  rw [HT.sIx_none, show HT.sIx z.length z.length (some (s : Int)) = min s z.length from HT.sIx_nat _ _ s]
  rw [List.drop_zero, Nat.sub_zero, Nat.min_eq_left h]
  rfl
theorem cut_from {z : Str} {s : Nat} (h : s ≤ z.length) : cutS z (some (s : Int)) none = ofL (z.cps.toList.drop s) := by
  unfold cutS
  rw [HT.sIx_none, show HT.sIx z.length 0 (some (s : Int)) = min s z.length from HT.sIx_nat _ _ s]
  rw [Nat.min_eq_left h]
  unfold ofL
  rw [List.take_of_length_le (by rw [List.length_drop, Array.length_toList]; exact Nat.le_refl _)]

theorem while_i {fc : DT} {body : DS} {D0 : DEnds} {σ : DL.Env} {S : Sto} (W : Nat → DL.Env → Sto → Prop) (m : Nat) (h0 : W m σ S)
    (turn : ∀ m σ S, W m σ S → ∀ N : DL.Env → Sto → Prop, (∀ m2 σ2 S2, m2 < m → W m2 σ2 S2 → N σ2 S2) → fc σ S fun k S1 => if k = true then body ⟨N, D0.rt, D0.nx, N⟩ σ S1 else D0.nx σ S1) : sWhile fc body D0 σ S :=
  ⟨W, ⟨m, h0⟩, fun m σ S h => turn m σ S h _ fun m2 σ2 S2 hm hw => ⟨m2, hm, hw⟩⟩
theorem name_turn {p a : Addr} {many way : Int} {B : Str} {t sp k : Nat} {u9 u10 u11 : Option D} {S : Sto} {xs : List D} {D0 : DEnds} (hk : k < 182) (ht : t < 26) (hB : B.length ≤ 6) (hs : sp ≤ B.length) (ha : S a = some (.lst xs)) (hx : xs.length ≤ 200)
    (q : ∀ u11, D0.nx [some (.ref p), some (.int many), some (.str abc), some (.int way), some (.int t), some (.str B), some (.int sp), some (.ref a), some (.int (k : Nat)), u9, some (.str (nameS way B.cps.toList sp t k)), u11] (updS S a (.lst (xs ++ [.str (nameS way B.cps.toList sp t k)])))) :
    l_wnames_7 D0 [some (.ref p), some (.int many), some (.str abc), some (.int way), some (.int t), some (.str B), some (.int sp), some (.ref a), some (.int (k : Nat)), u9, u10, u11] S := by
  have hl : abc.length ≤ sizeLine := by rw [abc_len]; exact small_line (by omega)
  refine seq_i ?_
  simp (config := {implicitDefEqProofs := false, proj := false}) only [R_pp4, eVar, eC, eOp, eIf, eTup, eLst, eDict0, eDict, eSl, oNo, eCall, eCB, eM, eLc, eIsi2, aNil, aCons, pNil, pCons, tAndD, tOrD, tNotD, tsYes, gMns, gMod, gFdiv, gPow, gLe, gGt, gGe, sAsg, nName, sRet, sRetN, sExpr, sIf, sNext, sBreak, sCont, sFor, getS, setS, wipeS, endsD, asKeys, toKey, List.length_cons, List.length_nil, List.set_cons_zero, List.set_cons_succ, List.set_nil, Nat.zero_add, Nat.reduceAdd, Option.some.injEq, exists_and_left, exists_eq_left', exists_eq_left, id_eq, if_true, if_false, ite_true, ite_false, Bool.not_true, Bool.not_false, Bool.false_eq_true, not_false_eq_true, not_true_eq_false, reduceCtorEq, true_and, and_true, ne_eq, decide_eq_true_eq, isiN, isiCls, List.mem_cons, String.reduceEq, String.reduceBEq, or_true, true_or, or_false, false_or, Bool.or_true, Bool.true_or, Bool.false_or, Bool.or_false, Bool.and_false, Bool.false_and, Bool.true_and, Bool.and_true, beq_self_eq_true, decide_true, decide_false]
  refine ⟨mulS (by omega) (by omega) (by omega) (by omega), by decide, hl, _, abc_at (j := (t + 7 * k) % 26) (by omega) (by omega), fdivS (by decide) (by decide), by decide, hl, _, abc_at (j := (t + k / 26) % 26) (by omega) (by omega), small_line (show (1 : Nat) + 1 ≤ 100000 by decide), ?_⟩
  refine seq_i ?_
  rw [ofL_one, ofL_one, ofL_app]
  simp (config := {implicitDefEqProofs := false, proj := false}) only [R_pp4, eVar, eC, eOp, eIf, eTup, eLst, eDict0, eDict, eSl, oNo, eCall, eCB, eM, eLc, eIsi2, aNil, aCons, pNil, pCons, tAndD, tOrD, tNotD, tsYes, gMns, gMod, gFdiv, gPow, gLe, gGt, gGe, sAsg, nName, sRet, sRetN, sExpr, sIf, sNext, sBreak, sCont, sFor, getS, setS, wipeS, endsD, asKeys, toKey, List.length_cons, List.length_nil, List.set_cons_zero, List.set_cons_succ, List.set_nil, Nat.zero_add, Nat.reduceAdd, Option.some.injEq, exists_and_left, exists_eq_left', exists_eq_left, id_eq, if_true, if_false, ite_true, ite_false, Bool.not_true, Bool.not_false, Bool.false_eq_true, not_false_eq_true, not_true_eq_false, reduceCtorEq, true_and, and_true, ne_eq, decide_eq_true_eq, isiN, isiCls, List.mem_cons, String.reduceEq, String.reduceBEq, or_true, true_or, or_false, false_or, Bool.or_true, Bool.true_or, Bool.false_or, Bool.or_false, Bool.and_false, Bool.false_and, Bool.true_and, Bool.and_true, beq_self_eq_true, decide_true, decide_false, cut_to hs, cut_from hs, ofL_app]
  have hBL : B.cps.toList.length ≤ 6 := by rw [Array.length_toList]; exact hB
  refine ⟨small_line (by omega), small_line ?_, small_line (by omega), small_line ?_, seq_i ?_⟩
  · rw [ofL_len, ofL_len, List.length_take]
    simp only [List.length_append, List.length_cons, List.length_nil]
    omega
  · rw [ofL_len, ofL_len, List.length_append, List.length_take, List.length_drop]
    simp only [List.length_append, List.length_cons, List.length_nil]
    omega
  have app : ∀ (z : Str) (u11 : Option D), z = nameS way B.cps.toList sp t k → t_wnames_16 D0 [some (.ref p), some (.int many), some (.str abc), some (.int way), some (.int t), some (.str B), some (.int sp), some (.ref a), some (.int (k : Nat)), u9, some (.str z), u11] S := by
    intro z u11 ez
    subst ez
    simp (config := {implicitDefEqProofs := false, proj := false}) only [R_pp4, eVar, eC, eOp, eIf, eTup, eLst, eDict0, eDict, eSl, oNo, eCall, eCB, eM, eLc, eIsi2, aNil, aCons, pNil, pCons, tAndD, tOrD, tNotD, tsYes, gMns, gMod, gFdiv, gPow, gLe, gGt, gGe, sAsg, nName, sRet, sRetN, sExpr, sIf, sNext, sBreak, sCont, sFor, getS, setS, wipeS, endsD, asKeys, toKey, List.length_cons, List.length_nil, List.set_cons_zero, List.set_cons_succ, List.set_nil, Nat.zero_add, Nat.reduceAdd, Option.some.injEq, exists_and_left, exists_eq_left', exists_eq_left, id_eq, if_true, if_false, ite_true, ite_false, Bool.not_true, Bool.not_false, Bool.false_eq_true, not_false_eq_true, not_true_eq_false, reduceCtorEq, true_and, and_true, ne_eq, decide_eq_true_eq, isiN, isiCls, List.mem_cons, String.reduceEq, String.reduceBEq, or_true, true_or, or_false, false_or, Bool.or_true, Bool.true_or, Bool.false_or, Bool.or_false, Bool.and_false, Bool.false_and, Bool.true_and, Bool.and_true, beq_self_eq_true, decide_true, decide_false, t_wnames_16, ha]
    exact ⟨xs, rfl, Nat.lt_of_lt_of_le (show xs.length < 201 by omega) (by decide), q _⟩
  simp (config := {implicitDefEqProofs := false, proj := false}) only [R_pp4, eVar, eC, eOp, eIf, eTup, eLst, eDict0, eDict, eSl, oNo, eCall, eCB, eM, eLc, eIsi2, aNil, aCons, pNil, pCons, tAndD, tOrD, tNotD, tsYes, gMns, gMod, gFdiv, gPow, gLe, gGt, gGe, sAsg, nName, sRet, sRetN, sExpr, sIf, sNext, sBreak, sCont, sFor, getS, setS, wipeS, endsD, asKeys, toKey, List.length_cons, List.length_nil, List.set_cons_zero, List.set_cons_succ, List.set_nil, Nat.zero_add, Nat.reduceAdd, Option.some.injEq, exists_and_left, exists_eq_left', exists_eq_left, id_eq, if_true, if_false, ite_true, ite_false, Bool.not_true, Bool.not_false, Bool.false_eq_true, not_false_eq_true, not_true_eq_false, reduceCtorEq, true_and, and_true, ne_eq, decide_eq_true_eq, isiN, isiCls, List.mem_cons, String.reduceEq, String.reduceBEq, or_true, true_or, or_false, false_or, Bool.or_true, Bool.true_or, Bool.false_or, Bool.or_false, Bool.and_false, Bool.false_and, Bool.true_and, Bool.and_true, beq_self_eq_true, decide_true, decide_false]
  by_cases hw : way = 1
  · rw [if_pos hw]
    refine seq_i ?_
    simp (config := {implicitDefEqProofs := false, proj := false}) only [R_pp4, eVar, eC, eOp, eIf, eTup, eLst, eDict0, eDict, eSl, oNo, eCall, eCB, eM, eLc, eIsi2, aNil, aCons, pNil, pCons, tAndD, tOrD, tNotD, tsYes, gMns, gMod, gFdiv, gPow, gLe, gGt, gGe, sAsg, nName, sRet, sRetN, sExpr, sIf, sNext, sBreak, sCont, sFor, getS, setS, wipeS, endsD, asKeys, toKey, List.length_cons, List.length_nil, List.set_cons_zero, List.set_cons_succ, List.set_nil, Nat.zero_add, Nat.reduceAdd, Option.some.injEq, exists_and_left, exists_eq_left', exists_eq_left, id_eq, if_true, if_false, ite_true, ite_false, Bool.not_true, Bool.not_false, Bool.false_eq_true, not_false_eq_true, not_true_eq_false, reduceCtorEq, true_and, and_true, ne_eq, decide_eq_true_eq, isiN, isiCls, List.mem_cons, String.reduceEq, String.reduceBEq, or_true, true_or, or_false, false_or, Bool.or_true, Bool.true_or, Bool.false_or, Bool.or_false, Bool.and_false, Bool.false_and, Bool.true_and, Bool.and_true, beq_self_eq_true, decide_true, decide_false]
    refine seq_i ?_
    simp (config := {implicitDefEqProofs := false, proj := false}) only [R_pp4, eVar, eC, eOp, eIf, eTup, eLst, eDict0, eDict, eSl, oNo, eCall, eCB, eM, eLc, eIsi2, aNil, aCons, pNil, pCons, tAndD, tOrD, tNotD, tsYes, gMns, gMod, gFdiv, gPow, gLe, gGt, gGe, sAsg, nName, sRet, sRetN, sExpr, sIf, sNext, sBreak, sCont, sFor, getS, setS, wipeS, endsD, asKeys, toKey, List.length_cons, List.length_nil, List.set_cons_zero, List.set_cons_succ, List.set_nil, Nat.zero_add, Nat.reduceAdd, Option.some.injEq, exists_and_left, exists_eq_left', exists_eq_left, id_eq, if_true, if_false, ite_true, ite_false, Bool.not_true, Bool.not_false, Bool.false_eq_true, not_false_eq_true, not_true_eq_false, reduceCtorEq, true_and, and_true, ne_eq, decide_eq_true_eq, isiN, isiCls, List.mem_cons, String.reduceEq, String.reduceBEq, or_true, true_or, or_false, false_or, Bool.or_true, Bool.true_or, Bool.false_or, Bool.or_false, Bool.and_false, Bool.false_and, Bool.true_and, Bool.and_true, beq_self_eq_true, decide_true, decide_false]
    refine while_i (fun m σ S' => ∃ word : List Nat, σ = [some (.ref p), some (.int many), some (.str abc), some (.int way), some (.int t), some (.str B), some (.int sp), some (.ref a), some (.int (k : Nat)), u9, some (.str (ofL word)), some (.int (m : Nat))] ∧ S' = S ∧ bw t m ++ word = bw t (k + 1) ∧ m ≤ k + 1)
      (k + 1) ⟨[], rfl, rfl, List.append_nil _, Nat.le_refl _⟩ fun m σ S' hi N hN => ?_
    obtain ⟨word, rfl, rfl, hword, hm⟩ := hi
    simp (config := {implicitDefEqProofs := false, proj := false}) only [R_pp4, eVar, eC, eOp, eIf, eTup, eLst, eDict0, eDict, eSl, oNo, eCall, eCB, eM, eLc, eIsi2, aNil, aCons, pNil, pCons, tAndD, tOrD, tNotD, tsYes, gMns, gMod, gFdiv, gPow, gLe, gGt, gGe, sAsg, nName, sRet, sRetN, sExpr, sIf, sNext, sBreak, sCont, sFor, getS, setS, wipeS, endsD, asKeys, toKey, List.length_cons, List.length_nil, List.set_cons_zero, List.set_cons_succ, List.set_nil, Nat.zero_add, Nat.reduceAdd, Option.some.injEq, exists_and_left, exists_eq_left', exists_eq_left, id_eq, if_true, if_false, ite_true, ite_false, Bool.not_true, Bool.not_false, Bool.false_eq_true, not_false_eq_true, not_true_eq_false, reduceCtorEq, true_and, and_true, ne_eq, decide_eq_true_eq, isiN, isiCls, List.mem_cons, String.reduceEq, String.reduceBEq, or_true, true_or, or_false, false_or, Bool.or_true, Bool.true_or, Bool.false_or, Bool.or_false, Bool.and_false, Bool.false_and, Bool.true_and, Bool.and_true, beq_self_eq_true, decide_true, decide_false]
    by_cases h0 : (0 : Int) < (m : Int)
    · rw [if_pos h0]
      have hwl : word.length ≤ k + 1 := by
        have h1 := congrArg List.length hword
        rw [List.length_append] at h1
        have h2 := bw_len t (k + 1)
        omega
      refine seq_i ?_
      simp (config := {implicitDefEqProofs := false, proj := false}) only [R_pp4, eVar, eC, eOp, eIf, eTup, eLst, eDict0, eDict, eSl, oNo, eCall, eCB, eM, eLc, eIsi2, aNil, aCons, pNil, pCons, tAndD, tOrD, tNotD, tsYes, gMns, gMod, gFdiv, gPow, gLe, gGt, gGe, sAsg, nName, sRet, sRetN, sExpr, sIf, sNext, sBreak, sCont, sFor, getS, setS, wipeS, endsD, asKeys, toKey, List.length_cons, List.length_nil, List.set_cons_zero, List.set_cons_succ, List.set_nil, Nat.zero_add, Nat.reduceAdd, Option.some.injEq, exists_and_left, exists_eq_left', exists_eq_left, id_eq, if_true, if_false, ite_true, ite_false, Bool.not_true, Bool.not_false, Bool.false_eq_true, not_false_eq_true, not_true_eq_false, reduceCtorEq, true_and, and_true, ne_eq, decide_eq_true_eq, isiN, isiCls, List.mem_cons, String.reduceEq, String.reduceBEq, or_true, true_or, or_false, false_or, Bool.or_true, Bool.true_or, Bool.false_or, Bool.or_false, Bool.and_false, Bool.false_and, Bool.true_and, Bool.and_true, beq_self_eq_true, decide_true, decide_false]
      refine ⟨by decide, mulS (by decide) (by decide) (by omega) (by omega), by decide, hl, _, abc_at (j := (t + 9 * (m % 2)) % 26) (by omega) (by omega), ?_⟩
      rw [ofL_one, ofL_app]
      refine ⟨small_line ?_, ?_⟩
      · rw [ofL_len, ofL_len]
        simp only [List.length_cons, List.length_nil]
        omega
      simp (config := {implicitDefEqProofs := false, proj := false}) only [R_pp4, eVar, eC, eOp, eIf, eTup, eLst, eDict0, eDict, eSl, oNo, eCall, eCB, eM, eLc, eIsi2, aNil, aCons, pNil, pCons, tAndD, tOrD, tNotD, tsYes, gMns, gMod, gFdiv, gPow, gLe, gGt, gGe, sAsg, nName, sRet, sRetN, sExpr, sIf, sNext, sBreak, sCont, sFor, getS, setS, wipeS, endsD, asKeys, toKey, List.length_cons, List.length_nil, List.set_cons_zero, List.set_cons_succ, List.set_nil, Nat.zero_add, Nat.reduceAdd, Option.some.injEq, exists_and_left, exists_eq_left', exists_eq_left, id_eq, if_true, if_false, ite_true, ite_false, Bool.not_true, Bool.not_false, Bool.false_eq_true, not_false_eq_true, not_true_eq_false, reduceCtorEq, true_and, and_true, ne_eq, decide_eq_true_eq, isiN, isiCls, List.mem_cons, String.reduceEq, String.reduceBEq, or_true, true_or, or_false, false_or, Bool.or_true, Bool.true_or, Bool.false_or, Bool.or_false, Bool.and_false, Bool.false_and, Bool.true_and, Bool.and_true, beq_self_eq_true, decide_true, decide_false, t_wnames_15]
      refine ⟨fdivS (by decide) (by decide), ?_⟩
      have em : ((m : Int) - 1) / 2 = (((m - 1) / 2 : Nat) : Int) := by omega
      rw [em]
      refine hN ((m - 1) / 2) _ _ (by omega) ⟨_, rfl, rfl, ?_, by omega⟩
      rw [← hword, bw_pos (t := t) (r := m) (by omega), List.append_assoc]
    · rw [if_neg h0]
      have : m = 0 := by omega
      subst this
      refine app _ _ ?_
      rw [bw_zero, List.nil_append] at hword
      unfold nameS nameL
      rw [if_pos hw, hword]
  · rw [if_neg hw]
    refine app _ _ ?_
    unfold nameS nameL
    rw [if_neg hw]
    rfl
end LW
namespace LW
open PySem L2 DL
def termsL : List Str := ["as", "with", "part", "field", "none", "done", "write", "back", "join"]
/-- a name: one to eight small letters -/
structure Nm (z : Str) : Prop where
  lo : 1 ≤ z.length
  hi : z.length ≤ 8
  lt : Lt z.cps.toList
structure NmOk (zs : List Str) : Prop where
  nd : zs.Nodup
  nm : ∀ z ∈ zs, Nm z
theorem NmOk.len {zs : List Str} (h : NmOk zs) : ∀ z ∈ zs, z.length ≤ 200 := fun z hz => Nat.le_trans (h.nm z hz).hi (by decide)
theorem terms_nm : ∀ z ∈ termsL, Nm z := by
  have h : ∀ z ∈ termsL, (1 ≤ z.length ∧ z.length ≤ 8) ∧ ∀ c ∈ z.cps.toList, 97 ≤ c ∧ c < 123 := by decide +kernel
  exact fun z hz => ⟨(h z hz).1.1, (h z hz).1.2, (h z hz).2⟩
theorem NmOk.set {zs : List Str} (h : NmOk zs) {i : Nat} {z : Str} (hz : z ∉ zs) (hl : Nm z) : NmOk (zs.set i z) :=
  ⟨set_nodup h.nd hz, fun y hy => (List.mem_or_eq_of_mem_set hy).elim (h.nm y) fun e => by rw [e]; exact hl⟩
theorem ixN_of {n j : Nat} (hj : j < n) : ixN n (j : Int) = some j := by
  unfold ixN
  simp
  omega
theorem any_str (zs : List Str) (x : Str) : ((zs.map D.str).any fun z => eqF z (.str x)) = decide (x ∈ zs) := by
  induction zs with
  | nil => simp
  | cons z r ih =>
    rw [List.map_cons, List.any_cons, ih]
    show ((z == x) || decide (x ∈ r)) = decide (x ∈ z :: r)
    by_cases h : z = x
    · subst h; simp
    · have h2 : ¬ x = z := fun e => h e.symm
      simp [h, h2]
theorem flat_strs (zs : List Str) : (zs.map D.str).all flatD = true := by
  rw [List.all_map, List.all_eq_true]
  intro z _
  rfl
theorem term_turn {p pc a c : Addr} {b k : Nat} {many way : Int} {B : Str} {t sp : Int} {u10 u11 : Option D} {S : Sto} {zs : List Str} {D0 : DEnds} (h : Pen S p pc b) (hb : b + 1 ≤ 100000) (ha : S a = some (.lst (zs.map .str))) (hc : S c = some (.lst (termsL.map .str))) (hap : a ≠ p) (hac : a ≠ pc) (hcp : c ≠ p) (hne : c ≠ a) (hz : NmOk zs) (hk : k < 9) (hkz : k < zs.length)
    (q : ∀ zs' S', NmOk zs' → zs'.length = zs.length → Pen S' p pc (b + 1) → S' a = some (.lst (zs'.map .str)) → S' c = some (.lst (termsL.map .str)) → (∀ z o, z ≠ p → z ≠ a → S z = some o → S' z = some o) → D0.nx [some (.ref p), some (.int many), some (.str abc), some (.int way), some (.int t), some (.str B), some (.int sp), some (.ref a), some (.int (k : Nat)), some (.ref c), u10, u11] S') :
    l_wnames_19 D0 [some (.ref p), some (.int many), some (.str abc), some (.int way), some (.int t), some (.str B), some (.int sp), some (.ref a), some (.int (k : Nat)), some (.ref c), u10, u11] S := by
  simp (config := {implicitDefEqProofs := false, proj := false}) only [R_pp4, eVar, eC, eOp, eIf, eTup, eLst, eDict0, eDict, eSl, oNo, eCall, eCB, eM, eLc, eIsi2, aNil, aCons, pNil, pCons, tAndD, tOrD, tNotD, tsYes, gMns, gMod, gFdiv, gPow, gLe, gGt, gGe, sAsg, nName, sRet, sRetN, sExpr, sIf, sNext, sBreak, sCont, sFor, getS, setS, wipeS, endsD, asKeys, toKey, List.length_cons, List.length_nil, List.set_cons_zero, List.set_cons_succ, List.set_nil, Nat.zero_add, Nat.reduceAdd, Option.some.injEq, exists_and_left, exists_eq_left', exists_eq_left, id_eq, if_true, if_false, ite_true, ite_false, Bool.not_true, Bool.not_false, Bool.false_eq_true, not_false_eq_true, not_true_eq_false, reduceCtorEq, true_and, and_true, ne_eq, decide_eq_true_eq, isiN, isiCls, List.mem_cons, String.reduceEq, String.reduceBEq, or_true, true_or, or_false, false_or, Bool.or_true, Bool.true_or, Bool.false_or, Bool.or_false, Bool.and_false, Bool.false_and, Bool.true_and, Bool.and_true, beq_self_eq_true, decide_true, decide_false, l_wnames_19]
  refine take_spec h (by omega) (by decide) (by decide) fun j S1 _ _ p1 h1 => ?_
  try simp (config := {implicitDefEqProofs := false, proj := false}) only [R_pp4, eVar, eC, eOp, eIf, eTup, eLst, eDict0, eDict, eSl, oNo, eCall, eCB, eM, eLc, eIsi2, aNil, aCons, pNil, pCons, tAndD, tOrD, tNotD, tsYes, gMns, gMod, gFdiv, gPow, gLe, gGt, gGe, sAsg, nName, sRet, sRetN, sExpr, sIf, sNext, sBreak, sCont, sFor, getS, setS, wipeS, endsD, asKeys, toKey, List.length_cons, List.length_nil, List.set_cons_zero, List.set_cons_succ, List.set_nil, Nat.zero_add, Nat.reduceAdd, Option.some.injEq, exists_and_left, exists_eq_left', exists_eq_left, id_eq, if_true, if_false, ite_true, ite_false, Bool.not_true, Bool.not_false, Bool.false_eq_true, not_false_eq_true, not_true_eq_false, reduceCtorEq, true_and, and_true, ne_eq, decide_eq_true_eq, isiN, isiCls, List.mem_cons, String.reduceEq, String.reduceBEq, or_true, true_or, or_false, false_or, Bool.or_true, Bool.true_or, Bool.false_or, Bool.or_false, Bool.and_false, Bool.false_and, Bool.true_and, Bool.and_true, beq_self_eq_true, decide_true, decide_false]
  have ha1 := h1 _ _ hap ha
  have hc1 := h1 _ _ hcp hc
  by_cases hj : j = 0
  · rw [if_pos hj]
    obtain ⟨x, hg⟩ : ∃ x, termsL[k]? = some x := ⟨_, List.getElem?_eq_getElem (show k < termsL.length from hk)⟩
    have hg2 : (termsL.map D.str)[k]? = some (.str x) := by rw [List.getElem?_map, hg]; rfl
    simp (config := {implicitDefEqProofs := false, proj := false}) only [R_pp4, eVar, eC, eOp, eIf, eTup, eLst, eDict0, eDict, eSl, oNo, eCall, eCB, eM, eLc, eIsi2, aNil, aCons, pNil, pCons, tAndD, tOrD, tNotD, tsYes, gMns, gMod, gFdiv, gPow, gLe, gGt, gGe, sAsg, nName, sRet, sRetN, sExpr, sIf, sNext, sBreak, sCont, sFor, getS, setS, wipeS, endsD, asKeys, toKey, List.length_cons, List.length_nil, List.set_cons_zero, List.set_cons_succ, List.set_nil, Nat.zero_add, Nat.reduceAdd, Option.some.injEq, exists_and_left, exists_eq_left', exists_eq_left, id_eq, if_true, if_false, ite_true, ite_false, Bool.not_true, Bool.not_false, Bool.false_eq_true, not_false_eq_true, not_true_eq_false, reduceCtorEq, true_and, and_true, ne_eq, decide_eq_true_eq, isiN, isiCls, List.mem_cons, String.reduceEq, String.reduceBEq, or_true, true_or, or_false, false_or, Bool.or_true, Bool.true_or, Bool.false_or, Bool.or_false, Bool.and_false, Bool.false_and, Bool.true_and, Bool.and_true, beq_self_eq_true, decide_true, decide_false, hc1]
    refine ⟨_, atI_nat hg2, ?_⟩
    rw [ha1, oIn_l]
    refine ⟨rfl, flat_strs zs, ?_⟩
    rw [any_str]
    by_cases hin : x ∈ zs
    · rw [decide_eq_true hin]
      simp (config := {implicitDefEqProofs := false, proj := false}) only [R_pp4, eVar, eC, eOp, eIf, eTup, eLst, eDict0, eDict, eSl, oNo, eCall, eCB, eM, eLc, eIsi2, aNil, aCons, pNil, pCons, tAndD, tOrD, tNotD, tsYes, gMns, gMod, gFdiv, gPow, gLe, gGt, gGe, sAsg, nName, sRet, sRetN, sExpr, sIf, sNext, sBreak, sCont, sFor, getS, setS, wipeS, endsD, asKeys, toKey, List.length_cons, List.length_nil, List.set_cons_zero, List.set_cons_succ, List.set_nil, Nat.zero_add, Nat.reduceAdd, Option.some.injEq, exists_and_left, exists_eq_left', exists_eq_left, id_eq, if_true, if_false, ite_true, ite_false, Bool.not_true, Bool.not_false, Bool.false_eq_true, not_false_eq_true, not_true_eq_false, reduceCtorEq, true_and, and_true, ne_eq, decide_eq_true_eq, isiN, isiCls, List.mem_cons, String.reduceEq, String.reduceBEq, or_true, true_or, or_false, false_or, Bool.or_true, Bool.true_or, Bool.false_or, Bool.or_false, Bool.and_false, Bool.false_and, Bool.true_and, Bool.and_true, beq_self_eq_true, decide_true, decide_false]
      exact q zs S1 hz rfl p1 ha1 hc1 (fun z o e1 _ e => h1 z o e1 e)
    · rw [decide_eq_false hin]
      simp (config := {implicitDefEqProofs := false, proj := false}) only [R_pp4, eVar, eC, eOp, eIf, eTup, eLst, eDict0, eDict, eSl, oNo, eCall, eCB, eM, eLc, eIsi2, aNil, aCons, pNil, pCons, tAndD, tOrD, tNotD, tsYes, gMns, gMod, gFdiv, gPow, gLe, gGt, gGe, sAsg, nName, sRet, sRetN, sExpr, sIf, sNext, sBreak, sCont, sFor, getS, setS, wipeS, endsD, asKeys, toKey, List.length_cons, List.length_nil, List.set_cons_zero, List.set_cons_succ, List.set_nil, Nat.zero_add, Nat.reduceAdd, Option.some.injEq, exists_and_left, exists_eq_left', exists_eq_left, id_eq, if_true, if_false, ite_true, ite_false, Bool.not_true, Bool.not_false, Bool.false_eq_true, not_false_eq_true, not_true_eq_false, reduceCtorEq, true_and, and_true, ne_eq, decide_eq_true_eq, isiN, isiCls, List.mem_cons, String.reduceEq, String.reduceBEq, or_true, true_or, or_false, false_or, Bool.or_true, Bool.true_or, Bool.false_or, Bool.or_false, Bool.and_false, Bool.false_and, Bool.true_and, Bool.and_true, beq_self_eq_true, decide_true, decide_false, hc1]
      refine ⟨_, atI_nat hg2, ?_⟩
      rw [ha1, oPut_l]
      refine ⟨k, ixN_of (by rw [List.length_map]; exact hkz), ?_⟩
      rw [← List.map_set]
      refine q (zs.set k x) _ (hz.set hin (terms_nm x (List.mem_of_getElem? hg))) List.length_set ?_ updS_same (by rw [updS_ne hne]; exact hc1) fun z o e1 e2 e => by rw [updS_ne e2]; exact h1 z o e1 e
      obtain ⟨ns, y, l, h1, h3, h4⟩ := p1.ex
      exact ⟨ns, y, l, by rw [updS_ne (Ne.symm hap)]; exact h1, by rw [updS_ne (Ne.symm hac)]; exact h3, h4⟩
  · rw [if_neg hj]
    exact q zs S1 hz rfl p1 ha1 hc1 (fun z o e1 _ e => h1 z o e1 e)
end LW
namespace LW
open PySem L2 DL
theorem joinL_len : ∀ ls : List (List Nat), (TL.joinL [] ls).length = (ls.map List.length).sum
  | [] => rfl
  | [l] => by simp [TL.joinL]
  | l :: m :: r => by
    have ih := joinL_len (m :: r)
    rw [TL.joinL]
    simp only [List.nil_append, List.append_nil, List.length_append, ih, List.map_cons, List.sum_cons]
theorem sum_ones : ∀ {ys : List Str}, (∀ y ∈ ys, y.length = 1) → (ys.map (·.length)).sum = ys.length
  | [], _ => rfl
  | y :: r, h => by
    rw [List.map_cons, List.sum_cons, sum_ones fun x hx => h x (List.mem_cons_of_mem _ hx), h y List.mem_cons_self, List.length_cons, Nat.add_comm]
theorem len_join {ys : List Str} (h : ∀ y ∈ ys, y.length = 1) : (Txt.join "" ys).length = ys.length := by
  rw [TL.join_eq, TL.len_tl, TL.tl_join, show TL.tl ("" : Str) = [] from by decide +kernel, joinL_len, List.map_map]
  induction ys with
  | nil => rfl
  | cons y r ih =>
    rw [List.map_cons, List.sum_cons, ih (fun x hx => h x (List.mem_cons_of_mem _ hx)), List.length_cons]
    have := h y List.mem_cons_self
    rw [TL.len_tl] at this
    show (TL.tl y).length + r.length = r.length + 1
    omega
theorem joinL_lt : ∀ {ls : List (List Nat)}, (∀ l ∈ ls, Lt l) → Lt (TL.joinL [] ls)
  | [], _ => fun c hc => by cases hc
  | [l], h => by simpa [TL.joinL] using h l (by simp)
  | l :: m :: r, h => by
    have ih := joinL_lt (ls := m :: r) fun x hx => h x (List.mem_cons_of_mem _ hx)
    rw [TL.joinL]
    simp only [List.nil_append, List.append_nil]
    exact Lt.app (h l (by simp)) ih
theorem join_lt {ys : List Str} (h : ∀ y ∈ ys, Lt y.cps.toList) : Lt (Txt.join "" ys).cps.toList := by
  rw [TL.join_eq]
  show Lt (TL.tl _)
  rw [TL.tl_join, show TL.tl ("" : Str) = [] from by decide +kernel]
  refine joinL_lt fun l hl => ?_
  obtain ⟨y, hy, rfl⟩ := List.mem_map.mp hl
  exact h y hy
theorem Pen.ne {S : Sto} {p pc q : Addr} {b : Nat} (h : Pen S p pc b) (hq : S q = none) : q ≠ p ∧ q ≠ pc := by
  obtain ⟨ns, a, l, h1, h2, _⟩ := h.ex
  exact ⟨Ne.symm (neS h1 hq), Ne.symm (neS h2 hq)⟩
theorem base_spec {p pc : Addr} {b n : Nat} {many way t : Int} {u5 u6 u7 u8 u9 u10 u11 : Option D} {S : Sto} {K : List D → Sto → Prop} (h : Pen S p pc b) (hn : n ≤ 6) (hb : b + n ≤ 100000)
    (q : ∀ (ys : List Str) (S' : Sto), (∀ y ∈ ys, y.length = 1) → (∀ y ∈ ys, Lt y.cps.toList) → ys.length = n → Pen S' p pc (b + n) → Kp p S S' → K (ys.map .str) S') :
    lcL (fun _ => True) (nName 8) tsYes c_wnames_4 [some (.ref p), some (.int many), some (.str abc), some (.int way), some (.int t), u5, u6, u7, u8, u9, u10, u11] K (rangeD 0 n) [] S := by
  refine lcL_inv _ (fun j acc S' => Pen S' p pc (b + j) ∧ Kp p S S' ∧ ∃ ys : List Str, acc = ys.map D.str ∧ (∀ y ∈ ys, y.length = 1) ∧ (∀ y ∈ ys, Lt y.cps.toList) ∧ ys.length = j) (fun _ _ _ _ => trivial) (fun j x acc S4 N2 hx h3 hN2 => ?el) (fun acc S4 h3 => ?af) ⟨h, .refl, [], rfl, (fun _ z => nomatch z), (fun _ z => nomatch z), rfl⟩
  case el =>
    obtain ⟨n5, g5, ys, ea, hy, hyl, hl⟩ := h3
    have hj : j < n := by
      have := (List.getElem?_eq_some_iff.mp hx).1
      rw [rangeD_len] at this
      exact this
    simp (config := {implicitDefEqProofs := false, proj := false}) only [R_pp4, eVar, eC, eOp, eIf, eTup, eLst, eDict0, eDict, eSl, oNo, eCall, eCB, eM, eLc, eIsi2, aNil, aCons, pNil, pCons, tAndD, tOrD, tNotD, tsYes, gMns, gMod, gFdiv, gPow, gLe, gGt, gGe, sAsg, nName, sRet, sRetN, sExpr, sIf, sNext, sBreak, sCont, sFor, getS, setS, wipeS, endsD, asKeys, toKey, List.length_cons, List.length_nil, List.set_cons_zero, List.set_cons_succ, List.set_nil, Nat.zero_add, Nat.reduceAdd, Option.some.injEq, exists_and_left, exists_eq_left', exists_eq_left, id_eq, if_true, if_false, ite_true, ite_false, Bool.not_true, Bool.not_false, Bool.false_eq_true, not_false_eq_true, not_true_eq_false, reduceCtorEq, true_and, and_true, ne_eq, decide_eq_true_eq, isiN, isiCls, List.mem_cons, String.reduceEq, String.reduceBEq, or_true, true_or, or_false, false_or, Bool.or_true, Bool.true_or, Bool.false_or, Bool.or_false, Bool.and_false, Bool.false_and, Bool.true_and, Bool.and_true, beq_self_eq_true, decide_true, decide_false, c_wnames_4]
    refine take_spec n5 (by omega) (by decide) (by decide) fun k S5 a5 b5 n6 g6 => ?_
    have b5 : k < 26 := b5
    simp (config := {implicitDefEqProofs := false, proj := false}) only [R_pp4, eVar, eC, eOp, eIf, eTup, eLst, eDict0, eDict, eSl, oNo, eCall, eCB, eM, eLc, eIsi2, aNil, aCons, pNil, pCons, tAndD, tOrD, tNotD, tsYes, gMns, gMod, gFdiv, gPow, gLe, gGt, gGe, sAsg, nName, sRet, sRetN, sExpr, sIf, sNext, sBreak, sCont, sFor, getS, setS, wipeS, endsD, asKeys, toKey, List.length_cons, List.length_nil, List.set_cons_zero, List.set_cons_succ, List.set_nil, Nat.zero_add, Nat.reduceAdd, Option.some.injEq, exists_and_left, exists_eq_left', exists_eq_left, id_eq, if_true, if_false, ite_true, ite_false, Bool.not_true, Bool.not_false, Bool.false_eq_true, not_false_eq_true, not_true_eq_false, reduceCtorEq, true_and, and_true, ne_eq, decide_eq_true_eq, isiN, isiCls, List.mem_cons, String.reduceEq, String.reduceBEq, or_true, true_or, or_false, false_or, Bool.or_true, Bool.true_or, Bool.false_or, Bool.or_false, Bool.and_false, Bool.false_and, Bool.true_and, Bool.and_true, beq_self_eq_true, decide_true, decide_false]
    refine ⟨by rw [abc_len]; exact small_line (by omega), _, abc_at (j := k.toNat) (by omega) (by omega), ?_, hN2 _ _ ⟨n6, g5.trans g6, ys ++ [⟨#[97 + k.toNat]⟩], ?_, fun y hy2 => ?_, fun y hy2 => ?_, ?_⟩⟩
    · rw [ea, List.length_map]
      exact Nat.lt_of_lt_of_le (show ys.length < 401 by omega) (by decide)
    · rw [ea, List.map_append]
      rfl
    · rcases List.mem_append.mp hy2 with hy2 | hy2
      · exact hy y hy2
      · rw [List.mem_singleton] at hy2
        subst hy2
        rfl
    · rcases List.mem_append.mp hy2 with hy2 | hy2
      · exact hyl y hy2
      · rw [List.mem_singleton] at hy2
        subst hy2
        intro c hc
        have hc : c ∈ [97 + k.toNat] := hc
        rw [List.mem_singleton] at hc
        omega
    · rw [List.length_append, hl]
      rfl
  case af =>
    obtain ⟨n5, g5, ys, ea, hy, hyl, hl⟩ := h3
    rw [rangeD_len] at hl n5
    subst ea
    exact q ys S4 hy hyl hl n5 g5
theorem names_spec {p pc : Addr} {b n : Nat} {S : Sto} {Q : DK} (h : Pen S p pc b) (hb : b + 20 ≤ 100000) (hn : n ≤ 44)
    (q : ∀ (a : Addr) (zs : List Str) (S' : Sto), NmOk zs → zs.length = n → Pen S' p pc (b + 20) → S' a = some (.lst (zs.map .str)) → S a = none → Kp p S S' → Q (.ref a) S') : m_wnames [.ref p, .int (n : Nat)] S Q := by
  rw [e_wnames]
  refine seq_i ?_
  try simp (config := {implicitDefEqProofs := false, proj := false}) only [R_pp4, eVar, eC, eOp, eIf, eTup, eLst, eDict0, eDict, eSl, oNo, eCall, eCB, eM, eLc, eIsi2, aNil, aCons, pNil, pCons, tAndD, tOrD, tNotD, tsYes, gMns, gMod, gFdiv, gPow, gLe, gGt, gGe, sAsg, nName, sRet, sRetN, sExpr, sIf, sNext, sBreak, sCont, sFor, getS, setS, wipeS, endsD, asKeys, toKey, List.length_cons, List.length_nil, List.set_cons_zero, List.set_cons_succ, List.set_nil, Nat.zero_add, Nat.reduceAdd, Option.some.injEq, exists_and_left, exists_eq_left', exists_eq_left, id_eq, if_true, if_false, ite_true, ite_false, Bool.not_true, Bool.not_false, Bool.false_eq_true, not_false_eq_true, not_true_eq_false, reduceCtorEq, true_and, and_true, ne_eq, decide_eq_true_eq, isiN, isiCls, List.mem_cons, String.reduceEq, String.reduceBEq, or_true, true_or, or_false, false_or, Bool.or_true, Bool.true_or, Bool.false_or, Bool.or_false, Bool.and_false, Bool.false_and, Bool.true_and, Bool.and_true, beq_self_eq_true, decide_true, decide_false]
  refine seq_i ?_
  try simp (config := {implicitDefEqProofs := false, proj := false}) only [R_pp4, eVar, eC, eOp, eIf, eTup, eLst, eDict0, eDict, eSl, oNo, eCall, eCB, eM, eLc, eIsi2, aNil, aCons, pNil, pCons, tAndD, tOrD, tNotD, tsYes, gMns, gMod, gFdiv, gPow, gLe, gGt, gGe, sAsg, nName, sRet, sRetN, sExpr, sIf, sNext, sBreak, sCont, sFor, getS, setS, wipeS, endsD, asKeys, toKey, List.length_cons, List.length_nil, List.set_cons_zero, List.set_cons_succ, List.set_nil, Nat.zero_add, Nat.reduceAdd, Option.some.injEq, exists_and_left, exists_eq_left', exists_eq_left, id_eq, if_true, if_false, ite_true, ite_false, Bool.not_true, Bool.not_false, Bool.false_eq_true, not_false_eq_true, not_true_eq_false, reduceCtorEq, true_and, and_true, ne_eq, decide_eq_true_eq, isiN, isiCls, List.mem_cons, String.reduceEq, String.reduceBEq, or_true, true_or, or_false, false_or, Bool.or_true, Bool.true_or, Bool.false_or, Bool.or_false, Bool.and_false, Bool.false_and, Bool.true_and, Bool.and_true, beq_self_eq_true, decide_true, decide_false]
  refine take_spec h (by omega) (by decide) (by decide) fun way S1 w0 w1 p1 h1 => seq_i ?_
  try simp (config := {implicitDefEqProofs := false, proj := false}) only [R_pp4, eVar, eC, eOp, eIf, eTup, eLst, eDict0, eDict, eSl, oNo, eCall, eCB, eM, eLc, eIsi2, aNil, aCons, pNil, pCons, tAndD, tOrD, tNotD, tsYes, gMns, gMod, gFdiv, gPow, gLe, gGt, gGe, sAsg, nName, sRet, sRetN, sExpr, sIf, sNext, sBreak, sCont, sFor, getS, setS, wipeS, endsD, asKeys, toKey, List.length_cons, List.length_nil, List.set_cons_zero, List.set_cons_succ, List.set_nil, Nat.zero_add, Nat.reduceAdd, Option.some.injEq, exists_and_left, exists_eq_left', exists_eq_left, id_eq, if_true, if_false, ite_true, ite_false, Bool.not_true, Bool.not_false, Bool.false_eq_true, not_false_eq_true, not_true_eq_false, reduceCtorEq, true_and, and_true, ne_eq, decide_eq_true_eq, isiN, isiCls, List.mem_cons, String.reduceEq, String.reduceBEq, or_true, true_or, or_false, false_or, Bool.or_true, Bool.true_or, Bool.false_or, Bool.or_false, Bool.and_false, Bool.false_and, Bool.true_and, Bool.and_true, beq_self_eq_true, decide_true, decide_false]
  refine take_spec p1 (by omega) (by decide) (by decide) fun tt S2 t0 t1 p2 h2 => seq_i ?_
  obtain ⟨t, rfl⟩ : ∃ t : Nat, tt = (t : Nat) := ⟨tt.toNat, by omega⟩
  try simp (config := {implicitDefEqProofs := false, proj := false}) only [R_pp4, eVar, eC, eOp, eIf, eTup, eLst, eDict0, eDict, eSl, oNo, eCall, eCB, eM, eLc, eIsi2, aNil, aCons, pNil, pCons, tAndD, tOrD, tNotD, tsYes, gMns, gMod, gFdiv, gPow, gLe, gGt, gGe, sAsg, nName, sRet, sRetN, sExpr, sIf, sNext, sBreak, sCont, sFor, getS, setS, wipeS, endsD, asKeys, toKey, List.length_cons, List.length_nil, List.set_cons_zero, List.set_cons_succ, List.set_nil, Nat.zero_add, Nat.reduceAdd, Option.some.injEq, exists_and_left, exists_eq_left', exists_eq_left, id_eq, if_true, if_false, ite_true, ite_false, Bool.not_true, Bool.not_false, Bool.false_eq_true, not_false_eq_true, not_true_eq_false, reduceCtorEq, true_and, and_true, ne_eq, decide_eq_true_eq, isiN, isiCls, List.mem_cons, String.reduceEq, String.reduceBEq, or_true, true_or, or_false, false_or, Bool.or_true, Bool.true_or, Bool.false_or, Bool.or_false, Bool.and_false, Bool.false_and, Bool.true_and, Bool.and_true, beq_self_eq_true, decide_true, decide_false]
  refine take_spec p2 (by omega) (by decide) (by decide) fun k S3 k0 k1 p3 h3 => ?_
  have k1 : k < 7 := k1
  have w1 : way < 3 := w1
  try simp (config := {implicitDefEqProofs := false, proj := false}) only [R_pp4, eVar, eC, eOp, eIf, eTup, eLst, eDict0, eDict, eSl, oNo, eCall, eCB, eM, eLc, eIsi2, aNil, aCons, pNil, pCons, tAndD, tOrD, tNotD, tsYes, gMns, gMod, gFdiv, gPow, gLe, gGt, gGe, sAsg, nName, sRet, sRetN, sExpr, sIf, sNext, sBreak, sCont, sFor, getS, setS, wipeS, endsD, asKeys, toKey, List.length_cons, List.length_nil, List.set_cons_zero, List.set_cons_succ, List.set_nil, Nat.zero_add, Nat.reduceAdd, Option.some.injEq, exists_and_left, exists_eq_left', exists_eq_left, id_eq, if_true, if_false, ite_true, ite_false, Bool.not_true, Bool.not_false, Bool.false_eq_true, not_false_eq_true, not_true_eq_false, reduceCtorEq, true_and, and_true, ne_eq, decide_eq_true_eq, isiN, isiCls, List.mem_cons, String.reduceEq, String.reduceBEq, or_true, true_or, or_false, false_or, Bool.or_true, Bool.true_or, Bool.false_or, Bool.or_false, Bool.and_false, Bool.false_and, Bool.true_and, Bool.and_true, beq_self_eq_true, decide_true, decide_false]
  refine ⟨by decide, fun c0 hc0 => ?_⟩
  have hm : ∃ m : Nat, m ≤ 6 ∧ atI [D.int k, D.int 0, D.int 6] way = some (.int (m : Nat)) := by
    obtain ⟨j, rfl⟩ : ∃ j : Nat, way = (j : Nat) := ⟨way.toNat, by omega⟩
    match j, w1 with
    | 0, _ => exact ⟨k.toNat, by omega, by rw [show ((k.toNat : Nat) : Int) = k by omega]; rfl⟩
    | 1, _ => exact ⟨0, by omega, rfl⟩
    | 2, _ => exact ⟨6, by omega, rfl⟩
    | j + 3, h => exact absurd h (by omega)
  obtain ⟨m, hm6, hm⟩ := hm
  rw [updS_same, oIx_li]
  refine ⟨_, hm, ?_⟩
  try simp (config := {implicitDefEqProofs := false, proj := false}) only [R_pp4, eVar, eC, eOp, eIf, eTup, eLst, eDict0, eDict, eSl, oNo, eCall, eCB, eM, eLc, eIsi2, aNil, aCons, pNil, pCons, tAndD, tOrD, tNotD, tsYes, gMns, gMod, gFdiv, gPow, gLe, gGt, gGe, sAsg, nName, sRet, sRetN, sExpr, sIf, sNext, sBreak, sCont, sFor, getS, setS, wipeS, endsD, asKeys, toKey, List.length_cons, List.length_nil, List.set_cons_zero, List.set_cons_succ, List.set_nil, Nat.zero_add, Nat.reduceAdd, Option.some.injEq, exists_and_left, exists_eq_left', exists_eq_left, id_eq, if_true, if_false, ite_true, ite_false, Bool.not_true, Bool.not_false, Bool.false_eq_true, not_false_eq_true, not_true_eq_false, reduceCtorEq, true_and, and_true, ne_eq, decide_eq_true_eq, isiN, isiCls, List.mem_cons, String.reduceEq, String.reduceBEq, or_true, true_or, or_false, false_or, Bool.or_true, Bool.true_or, Bool.false_or, Bool.or_false, Bool.and_false, Bool.false_and, Bool.true_and, Bool.and_true, beq_self_eq_true, decide_true, decide_false]
  refine ⟨by omega, by omega, ?_⟩
  rw [Int.toNat_natCast]
  have g3 : Kp p S (updS S3 c0 (.lst [.int k, .int 0, .int 6])) := ((h1.trans h2).trans h3).trans (.new hc0)
  refine base_spec (p3.new hc0) hm6 (by omega) fun ys S4 hy hyl hl p4 h4 p5 hp5 => ⟨ys, updS_same, ?_, ?_⟩
  · rw [sum_ones hy, hl, show (Str.ofString "").length = 0 from by decide +kernel]
    omega
  have hB : (Txt.join "" ys).length ≤ 6 := by rw [len_join hy, hl]; exact hm6
  have hBl := join_lt hyl
  generalize Txt.join "" ys = B at hB hBl
  refine seq_i ?_
  try simp (config := {implicitDefEqProofs := false, proj := false}) only [R_pp4, eVar, eC, eOp, eIf, eTup, eLst, eDict0, eDict, eSl, oNo, eCall, eCB, eM, eLc, eIsi2, aNil, aCons, pNil, pCons, tAndD, tOrD, tNotD, tsYes, gMns, gMod, gFdiv, gPow, gLe, gGt, gGe, sAsg, nName, sRet, sRetN, sExpr, sIf, sNext, sBreak, sCont, sFor, getS, setS, wipeS, endsD, asKeys, toKey, List.length_cons, List.length_nil, List.set_cons_zero, List.set_cons_succ, List.set_nil, Nat.zero_add, Nat.reduceAdd, Option.some.injEq, exists_and_left, exists_eq_left', exists_eq_left, id_eq, if_true, if_false, ite_true, ite_false, Bool.not_true, Bool.not_false, Bool.false_eq_true, not_false_eq_true, not_true_eq_false, reduceCtorEq, true_and, and_true, ne_eq, decide_eq_true_eq, isiN, isiCls, List.mem_cons, String.reduceEq, String.reduceBEq, or_true, true_or, or_false, false_or, Bool.or_true, Bool.true_or, Bool.false_or, Bool.or_false, Bool.and_false, Bool.false_and, Bool.true_and, Bool.and_true, beq_self_eq_true, decide_true, decide_false]
  refine ⟨small_line (by omega), ?_⟩
  refine take_spec (p4.new hp5) (by omega) (by omega) ?_ fun sp S6 s0 s1 p6 h6 => ?_
  · have : ((B.length : Int) + 1).natAbs ≤ 7 := by omega
    refine Nat.lt_of_le_of_lt (Nat.log2_le_self _) (by omega)
  obtain ⟨sp, rfl⟩ : ∃ j : Nat, sp = (j : Nat) := ⟨sp.toNat, by omega⟩
  refine seq_i ?_
  try simp (config := {implicitDefEqProofs := false, proj := false}) only [R_pp4, eVar, eC, eOp, eIf, eTup, eLst, eDict0, eDict, eSl, oNo, eCall, eCB, eM, eLc, eIsi2, aNil, aCons, pNil, pCons, tAndD, tOrD, tNotD, tsYes, gMns, gMod, gFdiv, gPow, gLe, gGt, gGe, sAsg, nName, sRet, sRetN, sExpr, sIf, sNext, sBreak, sCont, sFor, getS, setS, wipeS, endsD, asKeys, toKey, List.length_cons, List.length_nil, List.set_cons_zero, List.set_cons_succ, List.set_nil, Nat.zero_add, Nat.reduceAdd, Option.some.injEq, exists_and_left, exists_eq_left', exists_eq_left, id_eq, if_true, if_false, ite_true, ite_false, Bool.not_true, Bool.not_false, Bool.false_eq_true, not_false_eq_true, not_true_eq_false, reduceCtorEq, true_and, and_true, ne_eq, decide_eq_true_eq, isiN, isiCls, List.mem_cons, String.reduceEq, String.reduceBEq, or_true, true_or, or_false, false_or, Bool.or_true, Bool.true_or, Bool.false_or, Bool.or_false, Bool.and_false, Bool.false_and, Bool.true_and, Bool.and_true, beq_self_eq_true, decide_true, decide_false]
  refine ⟨nil_line, fun a ha => seq_i ?_⟩
  try simp (config := {implicitDefEqProofs := false, proj := false}) only [R_pp4, eVar, eC, eOp, eIf, eTup, eLst, eDict0, eDict, eSl, oNo, eCall, eCB, eM, eLc, eIsi2, aNil, aCons, pNil, pCons, tAndD, tOrD, tNotD, tsYes, gMns, gMod, gFdiv, gPow, gLe, gGt, gGe, sAsg, nName, sRet, sRetN, sExpr, sIf, sNext, sBreak, sCont, sFor, getS, setS, wipeS, endsD, asKeys, toKey, List.length_cons, List.length_nil, List.set_cons_zero, List.set_cons_succ, List.set_nil, Nat.zero_add, Nat.reduceAdd, Option.some.injEq, exists_and_left, exists_eq_left', exists_eq_left, id_eq, if_true, if_false, ite_true, ite_false, Bool.not_true, Bool.not_false, Bool.false_eq_true, not_false_eq_true, not_true_eq_false, reduceCtorEq, true_and, and_true, ne_eq, decide_eq_true_eq, isiN, isiCls, List.mem_cons, String.reduceEq, String.reduceBEq, or_true, true_or, or_false, false_or, Bool.or_true, Bool.true_or, Bool.false_or, Bool.or_false, Bool.and_false, Bool.false_and, Bool.true_and, Bool.and_true, beq_self_eq_true, decide_true, decide_false]
  refine ⟨by omega, by omega, ?_⟩
  have p7 := p6.new (o := .lst []) ha
  have g7 : Kp p S (updS S6 a (.lst [])) := ((g3.trans h4).trans (.new hp5)).trans (h6.trans (.new ha))
  have sa : S a = none := by
    have ⟨n1, _⟩ := p6.ne ha
    cases e : S a with
    | none => rfl
    | some o => have := (((g3.trans h4).trans (.new hp5)).trans h6) a o n1 e; rw [ha] at this; cases this
  have ⟨nap, nac⟩ := p6.ne ha
  have ha0 : updS S6 a (.lst []) a = some (.lst []) := updS_same
  generalize updS S6 a (.lst []) = S7 at p7 g7 ha0
  have bump : b + 1 + 1 + 1 + m + 1 ≤ b + 10 := by omega
  refine forR_inv 0 n (fun i σ S' => (∃ u8 u10 u11, σ = [some (.ref p), some (.int (n : Nat)), some (.str abc), some (.int way), some (.int (t : Nat)), some (.str B), some (.int (sp : Nat)), some (.ref a), u8, none, u10, u11]) ∧ Pen S' p pc (b + 10) ∧ Kp p S S' ∧ S' a = some (.lst ((namesS way B.cps.toList sp t i).map .str)))
    (fun _ _ _ _ => trivial) (fun i σ S' N hi hI hN => ?turn) (fun σ S' hI => ?fin) ⟨⟨none, none, none, rfl⟩, p7.mono (by omega), g7, ha0⟩
  case turn =>
    obtain ⟨⟨u8, u10, u11, rfl⟩, pi, gi, ai⟩ := hI
    try simp (config := {implicitDefEqProofs := false, proj := false}) only [R_pp4, eVar, eC, eOp, eIf, eTup, eLst, eDict0, eDict, eSl, oNo, eCall, eCB, eM, eLc, eIsi2, aNil, aCons, pNil, pCons, tAndD, tOrD, tNotD, tsYes, gMns, gMod, gFdiv, gPow, gLe, gGt, gGe, sAsg, nName, sRet, sRetN, sExpr, sIf, sNext, sBreak, sCont, sFor, getS, setS, wipeS, endsD, asKeys, toKey, List.length_cons, List.length_nil, List.set_cons_zero, List.set_cons_succ, List.set_nil, Nat.zero_add, Nat.reduceAdd, Option.some.injEq, exists_and_left, exists_eq_left', exists_eq_left, id_eq, if_true, if_false, ite_true, ite_false, Bool.not_true, Bool.not_false, Bool.false_eq_true, not_false_eq_true, not_true_eq_false, reduceCtorEq, true_and, and_true, ne_eq, decide_eq_true_eq, isiN, isiCls, List.mem_cons, String.reduceEq, String.reduceBEq, or_true, true_or, or_false, false_or, Bool.or_true, Bool.true_or, Bool.false_or, Bool.or_false, Bool.and_false, Bool.false_and, Bool.true_and, Bool.and_true, beq_self_eq_true, decide_true, decide_false]
    rw [Int.zero_add]
    refine name_turn (by omega) (by omega) hB (by omega) ai (by rw [List.length_map]; unfold namesS; rw [List.length_map, List.length_range]; omega) fun u11 => ?_
    refine hN _ _ ⟨⟨_, _, _, rfl⟩, ?_, ?_, ?_⟩
    · obtain ⟨ns, y, l, e1, e3, e4⟩ := pi.ex
      exact ⟨ns, y, l, by rw [updS_ne (Ne.symm nap)]; exact e1, by rw [updS_ne (Ne.symm nac)]; exact e3, e4⟩
    · intro z o hz e
      rw [updS_ne (neS e sa)]
      exact gi z o hz e
    · rw [updS_same]
      unfold namesS
      rw [List.range_succ, List.map_append, List.map_append]
      rfl
  case fin =>
    obtain ⟨⟨u8, u10, u11, rfl⟩, pi, gi, ai⟩ := hI
    refine seq_i ?_
    try simp (config := {implicitDefEqProofs := false, proj := false}) only [R_pp4, eVar, eC, eOp, eIf, eTup, eLst, eDict0, eDict, eSl, oNo, eCall, eCB, eM, eLc, eIsi2, aNil, aCons, pNil, pCons, tAndD, tOrD, tNotD, tsYes, gMns, gMod, gFdiv, gPow, gLe, gGt, gGe, sAsg, nName, sRet, sRetN, sExpr, sIf, sNext, sBreak, sCont, sFor, getS, setS, wipeS, endsD, asKeys, toKey, List.length_cons, List.length_nil, List.set_cons_zero, List.set_cons_succ, List.set_nil, Nat.zero_add, Nat.reduceAdd, Option.some.injEq, exists_and_left, exists_eq_left', exists_eq_left, id_eq, if_true, if_false, ite_true, ite_false, Bool.not_true, Bool.not_false, Bool.false_eq_true, not_false_eq_true, not_true_eq_false, reduceCtorEq, true_and, and_true, ne_eq, decide_eq_true_eq, isiN, isiCls, List.mem_cons, String.reduceEq, String.reduceBEq, or_true, true_or, or_false, false_or, Bool.or_true, Bool.true_or, Bool.false_or, Bool.or_false, Bool.and_false, Bool.false_and, Bool.true_and, Bool.and_true, beq_self_eq_true, decide_true, decide_false]
    refine ⟨by decide, fun c hc => ?_⟩
    have ⟨ncp, ncc⟩ := pi.ne hc
    have nca : c ≠ a := Ne.symm (neS ai hc)
    generalize hS9 : updS S' c _ = S9
    have pc1 : Pen S9 p pc (b + 10) := by rw [← hS9]; exact pi.new hc
    have ac1 : S9 a = some (.lst ((namesS way B.cps.toList sp t n).map .str)) := by rw [← hS9, updS_ne (Ne.symm nca)]; exact ai
    have cc1 : S9 c = some (.lst (termsL.map .str)) := by rw [← hS9, updS_same]; rfl
    have gc1 : Kp p S S9 := by rw [← hS9]; exact gi.trans (.new hc)
    have hz : NmOk (namesS way B.cps.toList sp t n) := by
      refine ⟨names_nodup (by omega), fun z hz => ?_⟩
      unfold namesS at hz
      obtain ⟨k, hk, rfl⟩ := List.mem_map.mp hz
      rw [List.mem_range] at hk
      unfold nameS
      have := nameL_len8 (way := way) (B := B.cps.toList) (sp := sp) (t := t) (k := k) (by rw [Array.length_toList]; exact hB) (by omega)
      refine ⟨by rw [ofL_len]; exact this.1, by rw [ofL_len]; exact this.2, ?_⟩
      have e : (ofL (nameL way B.cps.toList sp t k)).cps.toList = nameL way B.cps.toList sp t k := by unfold ofL; simp
      rw [e]
      exact nameL_lt hBl
    have hzl : (namesS way B.cps.toList sp t n).length = n := by unfold namesS; rw [List.length_map, List.length_range]
    generalize namesS way B.cps.toList sp t n = zs at hz hzl ac1
    simp (config := {implicitDefEqProofs := false, proj := false}) only [R_pp4, eVar, eC, eOp, eIf, eTup, eLst, eDict0, eDict, eSl, oNo, eCall, eCB, eM, eLc, eIsi2, aNil, aCons, pNil, pCons, tAndD, tOrD, tNotD, tsYes, gMns, gMod, gFdiv, gPow, gLe, gGt, gGe, sAsg, nName, sRet, sRetN, sExpr, sIf, sNext, sBreak, sCont, sFor, getS, setS, wipeS, endsD, asKeys, toKey, List.length_cons, List.length_nil, List.set_cons_zero, List.set_cons_succ, List.set_nil, Nat.zero_add, Nat.reduceAdd, Option.some.injEq, exists_and_left, exists_eq_left', exists_eq_left, id_eq, if_true, if_false, ite_true, ite_false, Bool.not_true, Bool.not_false, Bool.false_eq_true, not_false_eq_true, not_true_eq_false, reduceCtorEq, true_and, and_true, ne_eq, decide_eq_true_eq, isiN, isiCls, List.mem_cons, String.reduceEq, String.reduceBEq, or_true, true_or, or_false, false_or, Bool.or_true, Bool.true_or, Bool.false_or, Bool.or_false, Bool.and_false, Bool.false_and, Bool.true_and, Bool.and_true, beq_self_eq_true, decide_true, decide_false, t_wnames_18]
    refine seq_i ?_
    simp (config := {implicitDefEqProofs := false, proj := false}) only [R_pp4, eVar, eC, eOp, eIf, eTup, eLst, eDict0, eDict, eSl, oNo, eCall, eCB, eM, eLc, eIsi2, aNil, aCons, pNil, pCons, tAndD, tOrD, tNotD, tsYes, gMns, gMod, gFdiv, gPow, gLe, gGt, gGe, sAsg, nName, sRet, sRetN, sExpr, sIf, sNext, sBreak, sCont, sFor, getS, setS, wipeS, endsD, asKeys, toKey, List.length_cons, List.length_nil, List.set_cons_zero, List.set_cons_succ, List.set_nil, Nat.zero_add, Nat.reduceAdd, Option.some.injEq, exists_and_left, exists_eq_left', exists_eq_left, id_eq, if_true, if_false, ite_true, ite_false, Bool.not_true, Bool.not_false, Bool.false_eq_true, not_false_eq_true, not_true_eq_false, reduceCtorEq, true_and, and_true, ne_eq, decide_eq_true_eq, isiN, isiCls, List.mem_cons, String.reduceEq, String.reduceBEq, or_true, true_or, or_false, false_or, Bool.or_true, Bool.true_or, Bool.false_or, Bool.or_false, Bool.and_false, Bool.false_and, Bool.true_and, Bool.and_true, beq_self_eq_true, decide_true, decide_false]
    refine take_spec pc1 (by omega) (by decide) (by decide) fun k9 S10 _ _ p10 h10 => ?_
    simp (config := {implicitDefEqProofs := false, proj := false}) only [R_pp4, eVar, eC, eOp, eIf, eTup, eLst, eDict0, eDict, eSl, oNo, eCall, eCB, eM, eLc, eIsi2, aNil, aCons, pNil, pCons, tAndD, tOrD, tNotD, tsYes, gMns, gMod, gFdiv, gPow, gLe, gGt, gGe, sAsg, nName, sRet, sRetN, sExpr, sIf, sNext, sBreak, sCont, sFor, getS, setS, wipeS, endsD, asKeys, toKey, List.length_cons, List.length_nil, List.set_cons_zero, List.set_cons_succ, List.set_nil, Nat.zero_add, Nat.reduceAdd, Option.some.injEq, exists_and_left, exists_eq_left', exists_eq_left, id_eq, if_true, if_false, ite_true, ite_false, Bool.not_true, Bool.not_false, Bool.false_eq_true, not_false_eq_true, not_true_eq_false, reduceCtorEq, true_and, and_true, ne_eq, decide_eq_true_eq, isiN, isiCls, List.mem_cons, String.reduceEq, String.reduceBEq, or_true, true_or, or_false, false_or, Bool.or_true, Bool.true_or, Bool.false_or, Bool.or_false, Bool.and_false, Bool.false_and, Bool.true_and, Bool.and_true, beq_self_eq_true, decide_true, decide_false]
    have a10 := h10 _ _ nap ac1
    have c10 := h10 _ _ ncp cc1
    have g10 := gc1.trans h10
    by_cases h9 : k9 = 0
    · rw [if_pos h9]
      obtain ⟨mn, emn, m9, mnn⟩ : ∃ mn : Nat, (if (9 : Int) < (n : Int) then (9 : Int) else (n : Int)) = (mn : Nat) ∧ mn ≤ 9 ∧ mn ≤ n := by
        by_cases h : (9 : Int) < (n : Int)
        · exact ⟨9, if_pos h, by omega, by omega⟩
        · exact ⟨n, if_neg h, by omega, by omega⟩
      rw [emn, Int.toNat_natCast]
      refine ⟨by omega, by omega, ?_⟩
      refine forR_inv 0 mn (fun i σ S' => ∃ zs2 : List Str, (∃ u8, σ = [some (.ref p), some (.int (n : Nat)), some (.str abc), some (.int way), some (.int (t : Nat)), some (.str B), some (.int (sp : Nat)), some (.ref a), u8, some (.ref c), u10, u11]) ∧ NmOk zs2 ∧ zs2.length = n ∧ Pen S' p pc (b + 11 + i) ∧ S' a = some (.lst (zs2.map .str)) ∧ S' c = some (.lst (termsL.map .str)) ∧ Kp p S S')
        (fun _ _ _ _ => trivial) (fun i σ S' N hi hI hN => ?turn2) (fun σ S' hI => ?fin2) ⟨zs, ⟨u8, rfl⟩, hz, hzl, p10.mono (by omega), a10, c10, g10⟩
      case turn2 =>
        obtain ⟨zs2, ⟨u8, rfl⟩, hz2, hzl2, pi2, ai2, ci2, gi2⟩ := hI
        simp (config := {implicitDefEqProofs := false, proj := false}) only [R_pp4, eVar, eC, eOp, eIf, eTup, eLst, eDict0, eDict, eSl, oNo, eCall, eCB, eM, eLc, eIsi2, aNil, aCons, pNil, pCons, tAndD, tOrD, tNotD, tsYes, gMns, gMod, gFdiv, gPow, gLe, gGt, gGe, sAsg, nName, sRet, sRetN, sExpr, sIf, sNext, sBreak, sCont, sFor, getS, setS, wipeS, endsD, asKeys, toKey, List.length_cons, List.length_nil, List.set_cons_zero, List.set_cons_succ, List.set_nil, Nat.zero_add, Nat.reduceAdd, Option.some.injEq, exists_and_left, exists_eq_left', exists_eq_left, id_eq, if_true, if_false, ite_true, ite_false, Bool.not_true, Bool.not_false, Bool.false_eq_true, not_false_eq_true, not_true_eq_false, reduceCtorEq, true_and, and_true, ne_eq, decide_eq_true_eq, isiN, isiCls, List.mem_cons, String.reduceEq, String.reduceBEq, or_true, true_or, or_false, false_or, Bool.or_true, Bool.true_or, Bool.false_or, Bool.or_false, Bool.and_false, Bool.false_and, Bool.true_and, Bool.and_true, beq_self_eq_true, decide_true, decide_false]
        rw [Int.zero_add]
        refine term_turn pi2 (by omega) ai2 ci2 nap nac ncp nca hz2 (by omega) (by omega) fun zs3 S12 hz3 hl3 p12 a12 c12 k12 => hN _ _ ⟨zs3, ⟨_, rfl⟩, hz3, by omega, p12.mono (by omega), a12, c12, fun z o hzp e => k12 z o hzp (neS e sa) (gi2 z o hzp e)⟩
      case fin2 =>
        obtain ⟨zs2, ⟨u8, rfl⟩, hz2, hzl2, pi2, ai2, ci2, gi2⟩ := hI
        simp (config := {implicitDefEqProofs := false, proj := false}) only [R_pp4, eVar, eC, eOp, eIf, eTup, eLst, eDict0, eDict, eSl, oNo, eCall, eCB, eM, eLc, eIsi2, aNil, aCons, pNil, pCons, tAndD, tOrD, tNotD, tsYes, gMns, gMod, gFdiv, gPow, gLe, gGt, gGe, sAsg, nName, sRet, sRetN, sExpr, sIf, sNext, sBreak, sCont, sFor, getS, setS, wipeS, endsD, asKeys, toKey, List.length_cons, List.length_nil, List.set_cons_zero, List.set_cons_succ, List.set_nil, Nat.zero_add, Nat.reduceAdd, Option.some.injEq, exists_and_left, exists_eq_left', exists_eq_left, id_eq, if_true, if_false, ite_true, ite_false, Bool.not_true, Bool.not_false, Bool.false_eq_true, not_false_eq_true, not_true_eq_false, reduceCtorEq, true_and, and_true, ne_eq, decide_eq_true_eq, isiN, isiCls, List.mem_cons, String.reduceEq, String.reduceBEq, or_true, true_or, or_false, false_or, Bool.or_true, Bool.true_or, Bool.false_or, Bool.or_false, Bool.and_false, Bool.false_and, Bool.true_and, Bool.and_true, beq_self_eq_true, decide_true, decide_false, t_wnames_22]
        exact q a zs2 S' hz2 hzl2 (pi2.mono (by omega)) ai2 sa gi2
    · rw [if_neg h9]
      try simp (config := {implicitDefEqProofs := false, proj := false}) only [R_pp4, eVar, eC, eOp, eIf, eTup, eLst, eDict0, eDict, eSl, oNo, eCall, eCB, eM, eLc, eIsi2, aNil, aCons, pNil, pCons, tAndD, tOrD, tNotD, tsYes, gMns, gMod, gFdiv, gPow, gLe, gGt, gGe, sAsg, nName, sRet, sRetN, sExpr, sIf, sNext, sBreak, sCont, sFor, getS, setS, wipeS, endsD, asKeys, toKey, List.length_cons, List.length_nil, List.set_cons_zero, List.set_cons_succ, List.set_nil, Nat.zero_add, Nat.reduceAdd, Option.some.injEq, exists_and_left, exists_eq_left', exists_eq_left, id_eq, if_true, if_false, ite_true, ite_false, Bool.not_true, Bool.not_false, Bool.false_eq_true, not_false_eq_true, not_true_eq_false, reduceCtorEq, true_and, and_true, ne_eq, decide_eq_true_eq, isiN, isiCls, List.mem_cons, String.reduceEq, String.reduceBEq, or_true, true_or, or_false, false_or, Bool.or_true, Bool.true_or, Bool.false_or, Bool.or_false, Bool.and_false, Bool.false_and, Bool.true_and, Bool.and_true, beq_self_eq_true, decide_true, decide_false, t_wnames_22]
      exact q a zs S10 hz hzl (p10.mono (by omega)) a10 sa g10
end LW
namespace LW
open PySem L2 DL
/-- bounds of what is taken by -/
theorem log_small {x : Int} (h0 : 0 ≤ x) (h : x ≤ 100000000000) : x.natAbs.log2 < 9000 := by
  by_cases hz : x.natAbs = 0
  · rw [hz]; decide
  · rw [Nat.log2_lt hz]
    have h1 : x.natAbs ≤ 100000000000 := by omega
    have : (2 : Nat) ^ 240 ≤ 2 ^ 9000 := Nat.pow_le_pow_right (by decide) (by decide)
    have e : (2 : Nat) ^ 240 = 1766847064778384329583297500742918515827483896875618958121606201292619776 := by decide +kernel
    exact Nat.lt_of_lt_of_le (by rw [e]; omega) this
theorem cut_strs (zs : List Str) (n : Nat) : cutL (zs.map D.str) none (some (n : Int)) = (zs.take n).map D.str := by
  unfold cutL
  rw [HT.sIx_none, show HT.sIx (zs.map D.str).length (zs.map D.str).length (some (n : Int)) = min n (zs.map D.str).length from HT.sIx_nat _ _ n]
  rw [List.drop_zero, Nat.sub_zero, List.length_map, List.map_take]
  by_cases h : n ≤ zs.length
  · rw [Nat.min_eq_left h]
  · rw [Nat.min_eq_right (by omega), List.take_of_length_le (by rw [List.length_map]; exact Nat.le_refl _), List.take_of_length_le (by rw [List.length_map]; omega)]
theorem NmOk.take {zs : List Str} (h : NmOk zs) (n : Nat) : NmOk (zs.take n) := ⟨h.nd.sublist (List.take_sublist _ _), fun z hz => h.nm z (List.mem_of_mem_take hz)⟩
/-- a list of texts, apart from the pen -/
structure Txs (S : Sto) (p a : Addr) (zs : List Str) : Prop where
  at_ : S a = some (.lst (zs.map .str))
  ne : a ≠ p
  ok : NmOk zs
theorem Txs.kp {S S' : Sto} {p a : Addr} {zs : List Str} (h : Txs S p a zs) (k : Kp p S S') : Txs S' p a zs := ⟨k _ _ h.ne h.at_, h.ne, h.ok⟩
theorem Txs.new {S : Sto} {p a c : Addr} {zs : List Str} {o : O} (h : Txs S p a zs) (hc : S c = none) : Txs (updS S c o) p a zs := h.kp (.new hc)
theorem get_str {zs : List Str} {i : Int} (h0 : 0 ≤ i) (h : i < zs.length) : ∃ z, atI (zs.map D.str) i = some (.str z) ∧ z ∈ zs := by
  obtain ⟨k, rfl⟩ : ∃ k : Nat, i = (k : Nat) := ⟨i.toNat, by omega⟩
  have hl : k < zs.length := by omega
  refine ⟨zs[k], atI_nat ?_, List.getElem_mem hl⟩
  rw [List.getElem?_map]
  simp [hl]
theorem powI {i j : Int} (h0 : 0 ≤ j) (h1 : j ≤ 1000) (h2 : 0 ≤ i) (h3 : i ≤ 1000) : CPow i j := powS h0 (by omega) (by omega) (by omega)
/-- texts, each less than those behind it -/
def Rise (zs : List Str) : Prop := zs.Pairwise fun a b => a.cps.toList < b.cps.toList
theorem Rise.nodup {zs : List Str} (h : Rise zs) : zs.Nodup := h.imp fun {a b} hab e => by subst e; exact absurd hab (List.lt_irrefl _)
theorem strs_inj : ∀ {a b : List Str}, a.map D.str = b.map D.str → a = b
  | [], [], _ => rfl
  | [], _ :: _, h => by cases h
  | _ :: _, [], h => by cases h
  | x :: a, y :: b, h => by
    rw [List.map_cons, List.map_cons] at h
    injection h with h1 h2
    injection h1 with h3
    rw [h3, strs_inj h2]
theorem lt_iff : ∀ a b : List Nat, PySem.Spec.ltCps a b = true ↔ a < b
  | [], [] => by simp [PySem.Spec.ltCps]
  | [], b :: bs => by simp [PySem.Spec.ltCps]
  | a :: as, [] => by simp [PySem.Spec.ltCps]
  | a :: as, b :: bs => by
    rw [PySem.Spec.ltCps, List.cons_lt_cons_iff]
    have ih := lt_iff as bs
    by_cases h : a < b
    · simp [h]
    · by_cases h2 : a = b
      · subst h2; simp [h, ih]
      · simp [h, h2, ih]
theorem str_ext {a b : Str} (h : a.cps.toList = b.cps.toList) : a = b := by
  cases a; cases b
  simp at h
  rw [h]
theorem lt_or {a b : Str} (h : ¬ b.cps.toList < a.cps.toList) (ne : a ≠ b) : a.cps.toList < b.cps.toList := by
  have h1 : a.cps.toList ≤ b.cps.toList := h
  rcases List.le_iff_lt_or_eq.mp h1 with h2 | h2
  · exact h2
  · exact absurd (str_ext h2) ne
theorem rising_pw : ∀ (l : List Str) (x : Str), PyProof.Rows.risingS x l = true → (x :: l).Nodup → Rise (x :: l)
  | [], x, _, _ => by unfold Rise; simp
  | y :: r, x, h, hn => by
    rw [PyProof.Rows.risingS, Bool.and_eq_true] at h
    rw [List.nodup_cons] at hn
    have ih := rising_pw r y h.2 hn.2
    have hxy : x.cps.toList < y.cps.toList := lt_or (fun z => by
      have := (lt_iff _ _).mpr z
      rw [this] at h
      exact absurd h.1 (by decide)) fun e => hn.1 (by rw [e]; exact List.mem_cons_self ..)
    refine List.Pairwise.cons (fun z hz => ?_) ih
    rcases List.mem_cons.mp hz with rfl | hz
    · exact hxy
    · exact List.lt_trans hxy ((List.pairwise_cons.mp ih).1 z hz)
theorem rise_of {zs : List Str} (h : PyProof.Rows.sortedS zs = true) (hn : zs.Nodup) : Rise zs := by
  cases zs with
  | nil => exact List.Pairwise.nil
  | cons x l => exact rising_pw l x h hn
/-- the store has grown -/
def Gr (S S' : Sto) : Prop := ∀ a o, S a = some o → S' a = some o
theorem Gr.refl {S : Sto} : Gr S S := fun _ _ h => h
theorem Gr.trans {S S1 S2 : Sto} (x : Gr S S1) (y : Gr S1 S2) : Gr S S2 := fun a o h => y a o (x a o h)
theorem Gr.new {q : Addr} {S : Sto} {o : O} (h : S q = none) : Gr S (updS S q o) := fun a u e => by rw [updS_ne (neS e h)]; exact e
theorem Gr.kp {p : Addr} {S S' : Sto} (g : Gr S S') : Kp p S S' := fun a o _ h => g a o h
/-- a sign of the alphabet -/
def inA (c : Nat) : Bool := inStr ⟨#[c]⟩ "abcdefghijklmnopqrstuvwxyz"
def nm (z : Str) : Bool := decide (1 ≤ z.length) && decide (z.length ≤ 8) && z.cps.toList.all inA
theorem inA_lt : ∀ j : Fin 26, inA (97 + j.val) = true := by decide +kernel
theorem Nm.nm {z : Str} (h : Nm z) : nm z = true := by
  unfold LW.nm
  rw [decide_eq_true h.lo, decide_eq_true h.hi]
  simp only [Bool.true_and]
  rw [List.all_eq_true]
  intro c hc
  obtain ⟨h1, h2⟩ := h.lt c hc
  have := inA_lt ⟨c - 97, by omega⟩
  rw [show c = 97 + (c - 97) by omega]
  exact this
theorem isn_spec {z : Str} {S : Sto} {Q : DK} (hz : z.length ≤ sizeLine) (q : ∀ S', Gr S S' → Q (.bl (nm z)) S') : m_is_name [.str z] S Q := by
  rw [e_is_name]
  refine seq_i ?_
  simp (config := {implicitDefEqProofs := false, proj := false}) only [R_pp4, eVar, eC, eOp, eIf, eTup, eLst, eDict0, eDict, eSl, oNo, eCall, eCB, eM, eLc, eIsi2, aNil, aCons, pNil, pCons, tAndD, tOrD, tNotD, tsYes, gMns, gMod, gFdiv, gPow, gLe, gGt, gGe, sAsg, nName, sRet, sRetN, sExpr, sIf, sNext, sBreak, sCont, sFor, getS, setS, wipeS, endsD, asKeys, toKey, List.length_cons, List.length_nil, List.set_cons_zero, List.set_cons_succ, List.set_nil, Nat.zero_add, Nat.reduceAdd, Option.some.injEq, exists_and_left, exists_eq_left', exists_eq_left, id_eq, if_true, if_false, ite_true, ite_false, Bool.not_true, Bool.not_false, Bool.false_eq_true, not_false_eq_true, not_true_eq_false, reduceCtorEq, true_and, and_true, ne_eq, decide_eq_true_eq, isiN, isiCls, List.mem_cons, String.reduceEq, String.reduceBEq, or_true, true_or, or_false, false_or, Bool.or_true, Bool.true_or, Bool.false_or, Bool.or_false, Bool.and_false, Bool.false_and, Bool.true_and, Bool.and_true, beq_self_eq_true, decide_true, decide_false, hz]
  by_cases h1 : (1 : Int) ≤ z.length
  · rw [if_pos h1]
    by_cases h2 : (z.length : Int) ≤ 8
    · rw [decide_eq_true h2]
      simp (config := {implicitDefEqProofs := false, proj := false}) only [R_pp4, eVar, eC, eOp, eIf, eTup, eLst, eDict0, eDict, eSl, oNo, eCall, eCB, eM, eLc, eIsi2, aNil, aCons, pNil, pCons, tAndD, tOrD, tNotD, tsYes, gMns, gMod, gFdiv, gPow, gLe, gGt, gGe, sAsg, nName, sRet, sRetN, sExpr, sIf, sNext, sBreak, sCont, sFor, getS, setS, wipeS, endsD, asKeys, toKey, List.length_cons, List.length_nil, List.set_cons_zero, List.set_cons_succ, List.set_nil, Nat.zero_add, Nat.reduceAdd, Option.some.injEq, exists_and_left, exists_eq_left', exists_eq_left, id_eq, if_true, if_false, ite_true, ite_false, Bool.not_true, Bool.not_false, Bool.false_eq_true, not_false_eq_true, not_true_eq_false, reduceCtorEq, true_and, and_true, ne_eq, decide_eq_true_eq, isiN, isiCls, List.mem_cons, String.reduceEq, String.reduceBEq, or_true, true_or, or_false, false_or, Bool.or_true, Bool.true_or, Bool.false_or, Bool.or_false, Bool.and_false, Bool.false_and, Bool.true_and, Bool.and_true, beq_self_eq_true, decide_true, decide_false]
      refine ret_i ?_
      simp (config := {implicitDefEqProofs := false, proj := false}) only [R_pp4, eVar, eC, eOp, eIf, eTup, eLst, eDict0, eDict, eSl, oNo, eCall, eCB, eM, eLc, eIsi2, aNil, aCons, pNil, pCons, tAndD, tOrD, tNotD, tsYes, gMns, gMod, gFdiv, gPow, gLe, gGt, gGe, sAsg, nName, sRet, sRetN, sExpr, sIf, sNext, sBreak, sCont, sFor, getS, setS, wipeS, endsD, asKeys, toKey, List.length_cons, List.length_nil, List.set_cons_zero, List.set_cons_succ, List.set_nil, Nat.zero_add, Nat.reduceAdd, Option.some.injEq, exists_and_left, exists_eq_left', exists_eq_left, id_eq, if_true, if_false, ite_true, ite_false, Bool.not_true, Bool.not_false, Bool.false_eq_true, not_false_eq_true, not_true_eq_false, reduceCtorEq, true_and, and_true, ne_eq, decide_eq_true_eq, isiN, isiCls, List.mem_cons, String.reduceEq, String.reduceBEq, or_true, true_or, or_false, false_or, Bool.or_true, Bool.true_or, Bool.false_or, Bool.or_false, Bool.and_false, Bool.false_and, Bool.true_and, Bool.and_true, beq_self_eq_true, decide_true, decide_false]
      refine lcL_map (fun d => match d with | .str s => .bl (inStr s "abcdefghijklmnopqrstuvwxyz") | _ => .non) _ trivial (by rw [List.length_map, Array.length_toList]; exact hz) (fun x hx Q hq => ?_) (fun p hp => ?_)
      · obtain ⟨c, _, rfl⟩ := List.mem_map.mp hx
        simp (config := {implicitDefEqProofs := false, proj := false}) only [R_pp4, eVar, eC, eOp, eIf, eTup, eLst, eDict0, eDict, eSl, oNo, eCall, eCB, eM, eLc, eIsi2, aNil, aCons, pNil, pCons, tAndD, tOrD, tNotD, tsYes, gMns, gMod, gFdiv, gPow, gLe, gGt, gGe, sAsg, nName, sRet, sRetN, sExpr, sIf, sNext, sBreak, sCont, sFor, getS, setS, wipeS, endsD, asKeys, toKey, List.length_cons, List.length_nil, List.set_cons_zero, List.set_cons_succ, List.set_nil, Nat.zero_add, Nat.reduceAdd, Option.some.injEq, exists_and_left, exists_eq_left', exists_eq_left, id_eq, if_true, if_false, ite_true, ite_false, Bool.not_true, Bool.not_false, Bool.false_eq_true, not_false_eq_true, not_true_eq_false, reduceCtorEq, true_and, and_true, ne_eq, decide_eq_true_eq, isiN, isiCls, List.mem_cons, String.reduceEq, String.reduceBEq, or_true, true_or, or_false, false_or, Bool.or_true, Bool.true_or, Bool.false_or, Bool.or_false, Bool.and_false, Bool.false_and, Bool.true_and, Bool.and_true, beq_self_eq_true, decide_true, decide_false, c_is_name_3]
        exact hq
      · refine ⟨z.cps.toList.map inA, ?_, ?_⟩
        · rw [updS_same, List.map_map, List.map_map]
          rfl
        · have e : (z.cps.toList.map inA).all id = nm z := by
            unfold nm
            rw [decide_eq_true (show 1 ≤ z.length by omega), decide_eq_true (show z.length ≤ 8 by omega), List.all_map]
            simp only [Bool.true_and]
            rfl
          rw [e]
          exact q _ (.new hp)
    · rw [decide_eq_false h2]
      have e : nm z = false := by
        unfold nm
        rw [decide_eq_false (show ¬ z.length ≤ 8 by omega)]
        simp
      rw [e] at q
      simp (config := {implicitDefEqProofs := false, proj := false}) only [R_pp4, eVar, eC, eOp, eIf, eTup, eLst, eDict0, eDict, eSl, oNo, eCall, eCB, eM, eLc, eIsi2, aNil, aCons, pNil, pCons, tAndD, tOrD, tNotD, tsYes, gMns, gMod, gFdiv, gPow, gLe, gGt, gGe, sAsg, nName, sRet, sRetN, sExpr, sIf, sNext, sBreak, sCont, sFor, getS, setS, wipeS, endsD, asKeys, toKey, List.length_cons, List.length_nil, List.set_cons_zero, List.set_cons_succ, List.set_nil, Nat.zero_add, Nat.reduceAdd, Option.some.injEq, exists_and_left, exists_eq_left', exists_eq_left, id_eq, if_true, if_false, ite_true, ite_false, Bool.not_true, Bool.not_false, Bool.false_eq_true, not_false_eq_true, not_true_eq_false, reduceCtorEq, true_and, and_true, ne_eq, decide_eq_true_eq, isiN, isiCls, List.mem_cons, String.reduceEq, String.reduceBEq, or_true, true_or, or_false, false_or, Bool.or_true, Bool.true_or, Bool.false_or, Bool.or_false, Bool.and_false, Bool.false_and, Bool.true_and, Bool.and_true, beq_self_eq_true, decide_true, decide_false]
      exact q _ .refl
  · rw [if_neg h1]
    have e : nm z = false := by
      unfold nm
      rw [decide_eq_false (show ¬ 1 ≤ z.length by omega)]
      simp
    rw [e] at q
    try simp (config := {implicitDefEqProofs := false, proj := false}) only [R_pp4, eVar, eC, eOp, eIf, eTup, eLst, eDict0, eDict, eSl, oNo, eCall, eCB, eM, eLc, eIsi2, aNil, aCons, pNil, pCons, tAndD, tOrD, tNotD, tsYes, gMns, gMod, gFdiv, gPow, gLe, gGt, gGe, sAsg, nName, sRet, sRetN, sExpr, sIf, sNext, sBreak, sCont, sFor, getS, setS, wipeS, endsD, asKeys, toKey, List.length_cons, List.length_nil, List.set_cons_zero, List.set_cons_succ, List.set_nil, Nat.zero_add, Nat.reduceAdd, Option.some.injEq, exists_and_left, exists_eq_left', exists_eq_left, id_eq, if_true, if_false, ite_true, ite_false, Bool.not_true, Bool.not_false, Bool.false_eq_true, not_false_eq_true, not_true_eq_false, reduceCtorEq, true_and, and_true, ne_eq, decide_eq_true_eq, isiN, isiCls, List.mem_cons, String.reduceEq, String.reduceBEq, or_true, true_or, or_false, false_or, Bool.or_true, Bool.true_or, Bool.false_or, Bool.or_false, Bool.and_false, Bool.false_and, Bool.true_and, Bool.and_true, beq_self_eq_true, decide_true, decide_false]
    exact q _ .refl
/-- of what is no text -/
theorem isn_no {x : D} {t : String} {S : Sto} {Q : DK} (h : tyD x S = some t) (ht : t ≠ "str") (q : Q (.bl false) S) : m_is_name [x] S Q := by
  rw [e_is_name]
  refine seq_i ?_
  have e : (t == "str") = false := by simp [ht]
  simp (config := {implicitDefEqProofs := false, proj := false}) only [R_pp4, eVar, eC, eOp, eIf, eTup, eLst, eDict0, eDict, eSl, oNo, eCall, eCB, eM, eLc, eIsi2, aNil, aCons, pNil, pCons, tAndD, tOrD, tNotD, tsYes, gMns, gMod, gFdiv, gPow, gLe, gGt, gGe, sAsg, nName, sRet, sRetN, sExpr, sIf, sNext, sBreak, sCont, sFor, getS, setS, wipeS, endsD, asKeys, toKey, List.length_cons, List.length_nil, List.set_cons_zero, List.set_cons_succ, List.set_nil, Nat.zero_add, Nat.reduceAdd, Option.some.injEq, exists_and_left, exists_eq_left', exists_eq_left, id_eq, if_true, if_false, ite_true, ite_false, Bool.not_true, Bool.not_false, Bool.false_eq_true, not_false_eq_true, not_true_eq_false, reduceCtorEq, true_and, and_true, ne_eq, decide_eq_true_eq, isiN, isiCls, List.mem_cons, String.reduceEq, String.reduceBEq, or_true, true_or, or_false, false_or, Bool.or_true, Bool.true_or, Bool.false_or, Bool.or_false, Bool.and_false, Bool.false_and, Bool.true_and, Bool.and_true, beq_self_eq_true, decide_true, decide_false, h, e]
  exact q
/-- what can be asked -/
inductive OkT (S : Sto) : D → Prop
  | str {z : Str} (h : z.length ≤ 100000) : OkT S (.str z)
  | tup {ds : List D} (hl : ds.length ≤ 100000) (h : ∀ x ∈ ds, OkT S x) : OkT S (.tup ds)
  | oth {d : D} {t : String} (h : tyD d S = some t) (h1 : t ≠ "str") (h2 : t ≠ "tuple") : OkT S d
theorem tyD_gr {S S' : Sto} {d : D} {t : String} (g : Gr S S') (h : tyD d S = some t) : tyD d S' = some t := by
  cases d with
  | ref p =>
    rw [tyD_r] at h ⊢
    cases e : S p with
    | none => rw [e] at h; cases h
    | some o => rw [e] at h; rw [g _ _ e]; exact h
  | _ => exact h
theorem OkT.gr {S S' : Sto} (g : Gr S S') {d : D} (h : OkT S d) : OkT S' d := by
  induction h with
  | str h => exact .str h
  | tup hl h ih => exact .tup hl ih
  | oth h h1 h2 => exact .oth (tyD_gr g h) h1 h2
def nmD : D → Bool
  | .str z => nm z
  | _ => false
theorem nmD_no {S : Sto} {d : D} {t : String} (h : tyD d S = some t) (ht : t ≠ "str") : nmD d = false := by
  cases d <;> first | rfl | (cases h; exact absurd rfl ht)
theorem isn_all {d : D} {S : Sto} {Q : DK} (h : OkT S d) (q : ∀ S', Gr S S' → Q (.bl (nmD d)) S') : m_is_name [d] S Q := by
  cases h with
  | str hz => exact isn_spec (small_line hz) q
  | tup _ _ => exact isn_no rfl (by decide) (q _ .refl)
  | oth h1 h2 h3 => rw [nmD_no h1 h2] at q; exact isn_no h1 h2 (q _ .refl)
theorem names_all {ds : List D} {S : Sto} {Q : DK} (hl : ds.length ≤ 1000) (h : ∀ x ∈ ds, OkT S x) (q : ∀ S', Gr S S' → Q (.bl (ds.all nmD)) S') : m_are_names [.tup ds] S Q := by
  rw [e_are_names]
  simp (config := {implicitDefEqProofs := false, proj := false}) only [R_pp4, eVar, eC, eOp, eIf, eTup, eLst, eDict0, eDict, eSl, oNo, eCall, eCB, eM, eLc, eIsi2, aNil, aCons, pNil, pCons, tAndD, tOrD, tNotD, tsYes, gMns, gMod, gFdiv, gPow, gLe, gGt, gGe, sAsg, nName, sRet, sRetN, sExpr, sIf, sNext, sBreak, sCont, sFor, getS, setS, wipeS, endsD, asKeys, toKey, List.length_cons, List.length_nil, List.set_cons_zero, List.set_cons_succ, List.set_nil, Nat.zero_add, Nat.reduceAdd, Option.some.injEq, exists_and_left, exists_eq_left', exists_eq_left, id_eq, if_true, if_false, ite_true, ite_false, Bool.not_true, Bool.not_false, Bool.false_eq_true, not_false_eq_true, not_true_eq_false, reduceCtorEq, true_and, and_true, ne_eq, decide_eq_true_eq, isiN, isiCls, List.mem_cons, String.reduceEq, String.reduceBEq, or_true, true_or, or_false, false_or, Bool.or_true, Bool.true_or, Bool.false_or, Bool.or_false, Bool.and_false, Bool.false_and, Bool.true_and, Bool.and_true, beq_self_eq_true, decide_true, decide_false, b_are_names]
  refine lcL_inv _ (fun i acc S' => Gr S S' ∧ acc = (ds.take i).map fun d => .bl (nmD d)) (fun _ _ _ _ => trivial) (fun i x acc S' N hx ⟨g, e⟩ hN => ?el) (fun acc S' ⟨g, e⟩ => ?fin) ⟨.refl, by simp⟩
  case el =>
    have hm := List.mem_of_getElem? hx
    have hi := (List.getElem?_eq_some_iff.mp hx).1
    simp (config := {implicitDefEqProofs := false, proj := false}) only [R_pp4, eVar, eC, eOp, eIf, eTup, eLst, eDict0, eDict, eSl, oNo, eCall, eCB, eM, eLc, eIsi2, aNil, aCons, pNil, pCons, tAndD, tOrD, tNotD, tsYes, gMns, gMod, gFdiv, gPow, gLe, gGt, gGe, sAsg, nName, sRet, sRetN, sExpr, sIf, sNext, sBreak, sCont, sFor, getS, setS, wipeS, endsD, asKeys, toKey, List.length_cons, List.length_nil, List.set_cons_zero, List.set_cons_succ, List.set_nil, Nat.zero_add, Nat.reduceAdd, Option.some.injEq, exists_and_left, exists_eq_left', exists_eq_left, id_eq, if_true, if_false, ite_true, ite_false, Bool.not_true, Bool.not_false, Bool.false_eq_true, not_false_eq_true, not_true_eq_false, reduceCtorEq, true_and, and_true, ne_eq, decide_eq_true_eq, isiN, isiCls, List.mem_cons, String.reduceEq, String.reduceBEq, or_true, true_or, or_false, false_or, Bool.or_true, Bool.true_or, Bool.false_or, Bool.or_false, Bool.and_false, Bool.false_and, Bool.true_and, Bool.and_true, beq_self_eq_true, decide_true, decide_false, c_are_names_1]
    refine isn_all ((h x hm).gr g) fun S2 g2 => ⟨by rw [e, List.length_map, List.length_take]; exact Nat.lt_of_lt_of_le (show min i ds.length < 1001 by omega) (by decide), hN _ _ ⟨g.trans g2, ?_⟩⟩
    rw [e, List.take_add_one, hx, List.map_append]
    rfl
  case fin =>
    intro p hp
    rw [List.take_of_length_le (Nat.le_refl _)] at e
    refine ⟨ds.map nmD, by rw [updS_same, e, List.map_map]; rfl, ?_⟩
    rw [List.all_map]
    exact q _ (g.trans (.new hp))
theorem isn_nm {z : Str} (h : Nm z) {S : Sto} {Q : DK} (q : ∀ S', Gr S S' → Q (.bl true) S') : m_is_name [.str z] S Q := by
  have := h.nm
  exact isn_spec (small_line (Nat.le_trans h.hi (by decide))) fun S' g => by rw [this]; exact q S' g
theorem Nm.okT {S : Sto} {z : Str} (h : Nm z) : OkT S (.str z) := .str (Nat.le_trans h.hi (by decide))
theorem names_nm {zs : List Str} (h : ∀ z ∈ zs, Nm z) (hl : zs.length ≤ 1000) {S : Sto} {Q : DK} (q : ∀ S', Gr S S' → Q (.bl true) S') : m_are_names [.tup (zs.map .str)] S Q := by
  refine names_all (by rw [List.length_map]; exact hl) (fun x hx => ?_) fun S' g => ?_
  · obtain ⟨z, hz, rfl⟩ := List.mem_map.mp hx
    exact (h z hz).okT
  · have e : (zs.map D.str).all nmD = true := by
      rw [List.all_map, List.all_eq_true]
      exact fun z hz => (h z hz).nm
    rw [e]
    exact q S' g
theorem sort_back {β : Type} {k : β → PyData} {xs T : List β} (hp : T.Perm xs) (hlt : xs.Pairwise fun a b => PyProof.Rows.lexLt PyProof.Rows.itemOrd (PySem.W.keyToks (k a)) (PySem.W.keyToks (k b)) = true) : T.mergeSort (PySem.W.dataLe false k) = xs := by
  let O := PyProof.Rows.listOrd PyProof.Rows.itemOrd
  have le_def : ∀ a b, PySem.W.dataLe false k a b = !(O.blt (PySem.W.keyToks (k b)) (PySem.W.keyToks (k a))) := fun a b => rfl
  have asy : ∀ a b, O.blt a b = true → O.blt b a = false := fun a b h => by
    cases h2 : O.blt b a with
    | false => rfl
    | true => have := O.trans _ _ _ h h2; rw [O.irrefl] at this; cases this
  refine List.Perm.eq_of_pairwise (le := fun a b => PySem.W.dataLe false k a b = true) (fun a b ha hb h1 h2 => ?_) (List.pairwise_mergeSort (fun a b c h1 h2 => ?_) (fun a b => ?_) T) (hlt.imp fun {a b} h => ?_) ((List.mergeSort_perm ..).trans hp)
  · rw [le_def, Bool.not_eq_true'] at h1 h2
    have ha' : a ∈ xs := hp.mem_iff.mp ((List.mergeSort_perm ..).mem_iff.mp ha)
    have key : ∀ {l : List β}, l.Pairwise (fun a b => PyProof.Rows.lexLt PyProof.Rows.itemOrd (PySem.W.keyToks (k a)) (PySem.W.keyToks (k b)) = true) → a ∈ l → b ∈ l → a = b := by
      intro l hl ha hb
      induction hl with
      | nil => cases ha
      | @cons x l hx _ ih =>
        rcases List.mem_cons.mp ha with e1 | ha2
        · rcases List.mem_cons.mp hb with e2 | hb2
          · rw [e1, e2]
          · have := hx b hb2
            rw [← e1] at this
            exact absurd (h2.symm.trans this) (by decide)
        · rcases List.mem_cons.mp hb with e2 | hb2
          · have := hx a ha2
            rw [← e2] at this
            exact absurd (h1.symm.trans this) (by decide)
          · exact ih ha2 hb2
    exact key hlt ha' hb
  · rw [le_def, Bool.not_eq_true'] at h1 h2 ⊢
    cases h3 : O.blt (PySem.W.keyToks (k c)) (PySem.W.keyToks (k a)) with
    | false => rfl
    | true =>
      rcases O.negTrans _ (PySem.W.keyToks (k b)) _ h3 with h4 | h4
      · rw [h4] at h2; cases h2
      · rw [h4] at h1; cases h1
  · rw [le_def, le_def]
    cases h3 : O.blt (PySem.W.keyToks (k b)) (PySem.W.keyToks (k a)) with
    | false => rfl
    | true => rw [asy _ _ h3]; rfl
  · rw [le_def, Bool.not_eq_true']
    exact asy _ _ h
theorem strKind_lt {a b : List Nat} (h : a < b) : PyProof.Rows.strKind.blt a b = true := by
  simp [PyProof.Rows.strKind]
  exact h
theorem lex_str {a b : Str} {r s : List (Int ⊕ List Nat)} (h : a.cps.toList < b.cps.toList) : PyProof.Rows.lexLt PyProof.Rows.itemOrd (.inr a.cps.toList :: r) (.inr b.cps.toList :: s) = true := by
  rw [PyProof.Rows.lexLt]
  have : PyProof.Rows.itemOrd.blt (.inr a.cps.toList) (.inr b.cps.toList) = true := strKind_lt h
  rw [this]
  rfl
theorem lex_one {r s : List (Int ⊕ List Nat)} (h : PyProof.Rows.lexLt PyProof.Rows.itemOrd r s = true) : PyProof.Rows.lexLt PyProof.Rows.itemOrd (.inl 1 :: r) (.inl 1 :: s) = true := by
  rw [PyProof.Rows.lexLt, PyProof.Rows.itemOrd.irrefl, h]
  rfl
end LW
namespace LW
open PySem L2 DL
mutual
theorem RP_gr {S S' : Sto} (g : Gr S S') : ∀ {d : D} {p : PyData}, RP S d p → RP S' d p
  | _, _, .non => .non
  | _, _, .bl b => .bl b
  | _, _, .int i => .int i
  | _, _, .str z => .str z
  | _, _, .tup h => .tup (RPs_gr g h)
  | _, _, .fl h => .fl (RPs_gr g h)
  | _, _, .lst e h => .lst (g _ _ e) (RPs_gr g h)
  | _, _, .dct e h => .dct (g _ _ e) (RKs_gr g h)
theorem RPs_gr {S S' : Sto} (g : Gr S S') : ∀ {d : List D} {p : List PyData}, RPs S d p → RPs S' d p
  | _, _, .nil => .nil
  | _, _, .cons h t => .cons (RP_gr g h) (RPs_gr g t)
theorem RKs_gr {S S' : Sto} (g : Gr S S') : ∀ {d : List (Key × D)} {p : List (PyData × PyData)}, RKs S d p → RKs S' d p
  | _, _, .nil => .nil
  | _, _, .cons h t => .cons (RP_gr g h) (RKs_gr g t)
end
/-- how it is shown: small -/
def Sm (S : Sto) (k m : Nat) (d : D) : Prop := ∃ p, RP S d p ∧ p.showable = true ∧ p.depth ≤ k ∧ p.bulk ≤ m ∧ p.leavesShort 70 = true
theorem Sm.gr {S S' : Sto} (g : Gr S S') {k m : Nat} {d : D} : Sm S k m d → Sm S' k m d := fun ⟨p, h, r⟩ => ⟨p, RP_gr g h, r⟩
theorem Sm.mono {S : Sto} {k m k2 m2 : Nat} {d : D} (hk : k ≤ k2) (hm : m ≤ m2) : Sm S k m d → Sm S k2 m2 d := fun ⟨p, h, a, b, c, e⟩ => ⟨p, h, a, by omega, by omega, e⟩
theorem sm_non {S : Sto} {k m : Nat} : Sm S k m .non := ⟨.none, .non, rfl, Nat.zero_le _, Nat.zero_le _, rfl⟩
theorem sm_bl {S : Sto} {k m : Nat} (b : Bool) : Sm S k m (.bl b) := ⟨.bool b, .bl b, rfl, Nat.zero_le _, Nat.zero_le _, rfl⟩
theorem sm_str {S : Sto} {k m : Nat} {z : Str} (h : z.length ≤ m) (hc : (z.cps.toList.all fun c => decide (c < 16 ^ 8)) = true) : Sm S k m (.str z) :=
  ⟨.str z, .str z, rfl, Nat.zero_le _, h, hc⟩
theorem sm_int {S : Sto} {k m : Nat} {i : Int} (h1 : 0 ≤ i) (h2 : i < 10 ^ 61) : Sm S k m (.int i) := by
  refine ⟨.int i, .int i, ?_, Nat.zero_le _, Nat.zero_le _, ?_⟩
  · rw [PyData.showable.eq_4, decide_eq_true_eq]
    by_cases hz : i.natAbs = 0
    · rw [hz]; decide
    · rw [Nat.log2_lt hz]
      exact Nat.lt_of_lt_of_le (show i.natAbs < 10 ^ 61 by omega) (Nat.le_trans (show 10 ^ 61 ≤ 2 ^ 203 by decide +kernel) (Nat.pow_le_pow_right (by decide) (by decide)))
  · obtain ⟨n, rfl⟩ := Int.eq_ofNat_of_zero_le h1
    have h3 : (PyData.int (n : Nat)).shown.length ≤ 61 := by
      show (Str.ofString (toString ((n : Nat) : Int))).length ≤ 61
      have e : (Str.ofString (toString ((n : Nat) : Int))).length = (TL.numL n).length := by
        rw [← TL.tl_num n]
        exact (Array.length_toList).symm
      rw [e]
      exact TL.numL_len (by decide) (by omega)
    rw [PyData.leavesShort.eq_3, decide_eq_true_eq]
    omega
theorem sms_of {S : Sto} {k m : Nat} : ∀ {ds : List D}, (∀ x ∈ ds, Sm S k m x) → ∃ ps, RPs S ds ps ∧ PyData.showableAll ps = true ∧ PyData.depthAll ps ≤ k ∧ PyData.bulkAll ps ≤ ds.length * (m + 1) ∧ PyData.leavesShortAll 70 ps = true
  | [], _ => ⟨[], .nil, rfl, Nat.zero_le _, Nat.zero_le _, rfl⟩
  | d :: ds, h => by
    obtain ⟨p, h1, h2, h3, h4, h5⟩ := h d (by simp)
    obtain ⟨ps, i1, i2, i3, i4, i5⟩ := sms_of (ds := ds) fun x hx => h x (by simp [hx])
    refine ⟨p :: ps, .cons h1 i1, by rw [PyData.showableAll.eq_2, h2, i2]; rfl, by rw [PyData.depthAll.eq_2]; omega, ?_, by rw [PyData.leavesShortAll.eq_2, h5, i5]; rfl⟩
    rw [PyData.bulkAll.eq_2, List.length_cons, Nat.succ_mul]
    omega
theorem sm_tup {S : Sto} {k m n : Nat} {ds : List D} (h : ∀ x ∈ ds, Sm S k m x) (hl : ds.length ≤ n) : Sm S (k + 1) (n * (m + 1)) (.tup ds) := by
  obtain ⟨ps, i1, i2, i3, i4, i5⟩ := sms_of h
  exact ⟨.tuple ps, .tup i1, i2, by rw [PyData.depth.eq_2]; omega, by rw [PyData.bulk.eq_3]; exact Nat.le_trans i4 (Nat.mul_le_mul_right _ hl), i5⟩
theorem sm_lst {S : Sto} {k m n : Nat} {ds : List D} {p : Addr} (e : S p = some (.lst ds)) (h : ∀ x ∈ ds, Sm S k m x) (hl : ds.length ≤ n) : Sm S (k + 1) (n * (m + 1)) (.ref p) := by
  obtain ⟨ps, i1, i2, i3, i4, i5⟩ := sms_of h
  exact ⟨.list ps, .lst e i1, i2, by rw [PyData.depth.eq_1]; omega, by rw [PyData.bulk.eq_2]; exact Nat.le_trans i4 (Nat.mul_le_mul_right _ hl), i5⟩
theorem sm_dct {S : Sto} {k m : Nat} {p : Addr} (e : S p = some (.dk [])) : Sm S (k + 1) m (.ref p) :=
  ⟨.dict [], .dct e .nil, rfl, by rw [PyData.depth.eq_3]; show 0 + 1 ≤ _; omega, Nat.zero_le _, rfl⟩
theorem sm_nm {S : Sto} {k m : Nat} {z : Str} (h : Nm z) (hm : 8 ≤ m) : Sm S k m (.str z) := sm_str (Nat.le_trans h.hi hm) (by
  rw [List.all_eq_true]
  intro c hc
  have := h.lt c hc
  rw [decide_eq_true_eq]
  have e : (16 : Nat) ^ 8 = 4294967296 := by decide +kernel
  rw [e]
  omega)
theorem Sm.repr {S : Sto} {d : D} (h : Sm S 30 200000 d) (hb : boxD d = true) : ∃ z, ∀ S' (Q : DK), Gr S S' → Q (.str z) S' → gRepr [d] S' Q := by
  obtain ⟨p, h1, h2, h3, h4, h5⟩ := h
  have := PyData.shown_le_bulk 70 (by decide) p h5
  exact ⟨p.shown, fun S' Q g q => repr_i (RP_gr g h1) hb h2 (by omega) (Nat.le_trans (show p.shown.length ≤ 16000000 by omega) (by decide)) q⟩
theorem cutL_from (ds : List D) (n : Nat) : cutL ds (some (n : Int)) none = ds.drop n := by
  unfold cutL
  rw [HT.sIx_none, show HT.sIx ds.length 0 (some (n : Int)) = min n ds.length from HT.sIx_nat _ _ n]
  by_cases h : n ≤ ds.length
  · rw [Nat.min_eq_left h, List.take_of_length_le (by rw [List.length_drop]; exact Nat.le_refl _)]
  · rw [Nat.min_eq_right (by omega), List.drop_of_length_le (Nat.le_refl _), List.drop_of_length_le (by omega)]
    simp
theorem cutL_to (ds : List D) (n : Nat) : cutL ds none (some (n : Int)) = ds.take n := by
  unfold cutL
  rw [HT.sIx_none, show HT.sIx ds.length ds.length (some (n : Int)) = min n ds.length from HT.sIx_nat _ _ n]
  rw [List.drop_zero, Nat.sub_zero]
  by_cases h : n ≤ ds.length
  · rw [Nat.min_eq_left h]
  · rw [Nat.min_eq_right (by omega), List.take_of_length_le (Nat.le_refl _), List.take_of_length_le (by omega)]
theorem zip_tail_mem {α : Type} {R : α → α → Prop} : ∀ {zs : List α}, zs.Pairwise R → ∀ {p : α × α}, p ∈ zs.zip zs.tail → R p.1 p.2
  | [], _, p, hp => by simp at hp
  | [x], _, p, hp => by simp at hp
  | x :: y :: r, h, p, hp => by
    rw [List.tail_cons, List.zip_cons_cons] at hp
    rcases List.mem_cons.mp hp with rfl | hp
    · exact (List.pairwise_cons.mp h).1 y (by simp)
    · exact zip_tail_mem (List.pairwise_cons.mp h).2 hp
theorem cut_tail (zs : List Str) : cutL (zs.map D.str) (some 1) none = zs.tail.map .str := by
  have := cutL_from (zs.map D.str) 1
  rw [show (((1 : Nat) : Int)) = 1 from rfl] at this
  rw [this, List.drop_one, List.map_tail]
theorem all_true {α : Type} (l : List α) : ∃ bs : List Bool, (l.map fun _ => D.bl true) = bs.map .bl ∧ bs.all id = true := ⟨l.map fun _ => true, by rw [List.map_map]; rfl, by rw [List.all_map, List.all_eq_true]; exact fun _ _ => rfl⟩
theorem rise_lc {zs : List Str} {S : Sto} {st : Sto → Prop} {u0 u1 u2 : Option D} {K : List D → Sto → Prop} (h : Rise zs) (hl : zs.length ≤ 100) (hs : st S) (k : K ((pairs (zs.map .str) (zs.tail.map .str)).map fun _ => .bl true) S) :
    lcL st (nTupL 2 (nCons (nName 1) (nCons (nName 2) nNil))) tsYes c_is_rising_1 [u0, u1, u2] K (pairs (zs.map .str) (zs.tail.map .str)) [] S := by
  refine lcL_map (fun _ => .bl true) _ hs (small_line ?_) (fun x hx Q q => ?_) k
  · unfold pairs
    rw [List.length_map, List.length_zip, List.length_map]
    omega
  · unfold pairs at hx
    obtain ⟨⟨a, b⟩, hab, rfl⟩ := List.mem_map.mp hx
    rw [List.zip_map] at hab
    obtain ⟨⟨x, y⟩, hxy, e⟩ := List.mem_map.mp hab
    cases e
    have hlt := zip_tail_mem h hxy
    simp (config := {implicitDefEqProofs := false, proj := false}) only [R_pp7, eVar, eC, eOp, eIf, eTup, eLst, eDict0, eDict, eSl, oNo, eCall, eCB, eM, eLc, eIsi2, aNil, aCons, pNil, pCons, tAndD, tOrD, tNotD, tsYes, gMns, gMod, gFdiv, gPow, gLe, gGt, gGe, sAsg, nName, sRet, sRetN, sExpr, sIf, sNext, sBreak, sCont, sFor, getS, setS, wipeS, endsD, asKeys, toKey, List.length_cons, List.length_nil, List.set_cons_zero, List.set_cons_succ, List.set_nil, Nat.zero_add, Nat.reduceAdd, Option.some.injEq, exists_and_left, exists_eq_left', exists_eq_left, id_eq, if_true, if_false, ite_true, ite_false, Bool.not_true, Bool.not_false, Bool.false_eq_true, not_false_eq_true, not_true_eq_false, reduceCtorEq, true_and, and_true, ne_eq, decide_eq_true_eq, isiN, isiCls, List.mem_cons, String.reduceEq, String.reduceBEq, or_true, true_or, or_false, false_or, Bool.or_true, Bool.true_or, Bool.false_or, Bool.or_false, Bool.and_false, Bool.false_and, Bool.true_and, Bool.and_true, beq_self_eq_true, decide_true, decide_false, c_is_rising_1]
    show gLt2 (D.str x) (D.str y) S Q
    rw [gLt2_ss, decide_eq_true hlt]
    exact q
theorem rising_l {p : Addr} {zs : List Str} {S : Sto} {Q : DK} (e : S p = some (.lst (zs.map .str))) (h : Rise zs) (hl : zs.length ≤ 100) (q : ∀ S', Gr S S' → Q (.bl true) S') : m_is_rising [.ref p] S Q := by
  rw [e_is_rising]
  simp (config := {implicitDefEqProofs := false, proj := false}) only [R_pp7, eVar, eC, eOp, eIf, eTup, eLst, eDict0, eDict, eSl, oNo, eCall, eCB, eM, eLc, eIsi2, aNil, aCons, pNil, pCons, tAndD, tOrD, tNotD, tsYes, gMns, gMod, gFdiv, gPow, gLe, gGt, gGe, sAsg, nName, sRet, sRetN, sExpr, sIf, sNext, sBreak, sCont, sFor, getS, setS, wipeS, endsD, asKeys, toKey, List.length_cons, List.length_nil, List.set_cons_zero, List.set_cons_succ, List.set_nil, Nat.zero_add, Nat.reduceAdd, Option.some.injEq, exists_and_left, exists_eq_left', exists_eq_left, id_eq, if_true, if_false, ite_true, ite_false, Bool.not_true, Bool.not_false, Bool.false_eq_true, not_false_eq_true, not_true_eq_false, reduceCtorEq, true_and, and_true, ne_eq, decide_eq_true_eq, isiN, isiCls, List.mem_cons, String.reduceEq, String.reduceBEq, or_true, true_or, or_false, false_or, Bool.or_true, Bool.true_or, Bool.false_or, Bool.or_false, Bool.and_false, Bool.false_and, Bool.true_and, Bool.and_true, beq_self_eq_true, decide_true, decide_false, b_is_rising, e]
  refine ⟨_, rfl, fun n hn => ?_⟩
  rw [cut_tail]
  have hpn := neS e hn
  refine ⟨zs.map .str, by rw [updS_ne hpn]; exact e, zs.tail.map .str, updS_same, rise_lc h hl ⟨by rw [updS_ne hpn]; exact e, updS_same⟩ fun p2 hp2 => ?_⟩
  obtain ⟨bs, e1, e2⟩ := all_true (pairs (zs.map .str) (zs.tail.map .str))
  refine ⟨bs, by rw [updS_same, e1], ?_⟩
  rw [e2]
  exact q _ ((Gr.new hn).trans (.new hp2))
theorem pds_of {S : Sto} {k : Nat} : ∀ {ds : List D}, (∀ x ∈ ds, ∃ p, PD S x p ∧ p.depth ≤ k) → ∃ ps, PDs S ds ps ∧ PyData.depthAll ps ≤ k
  | [], _ => ⟨[], .nil, Nat.zero_le _⟩
  | x :: r, h => by
    have h2 := List.forall_mem_cons.mp h
    obtain ⟨p, h3, h4⟩ := h2.1
    obtain ⟨ps, h5, h6⟩ := pds_of h2.2
    exact ⟨p :: ps, .cons h3 h5, by rw [PyData.depthAll.eq_2]; omega⟩
theorem tup_pd {S : Sto} {k : Nat} {ds : List D} (h : ∀ x ∈ ds, ∃ p, PD S x p ∧ p.depth ≤ k) : ∃ p, PD S (.tup ds) p ∧ p.depth ≤ k + 1 := by
  obtain ⟨ps, h1, h2⟩ := pds_of h
  exact ⟨_, .tup h1, by rw [show (PyData.tuple ps).depth = PyData.depthAll ps + 1 from by unfold PyData.depth; rfl]; omega⟩
theorem pd_up {S : Sto} {k j : Nat} {x : D} (hk : k ≤ j) (h : ∃ p, PD S x p ∧ p.depth ≤ k) : ∃ p, PD S x p ∧ p.depth ≤ j := let ⟨p, a, b⟩ := h; ⟨p, a, by omega⟩
theorem line_of {n : Nat} (h : n ≤ 4000) : n < sizeLine := Nat.lt_of_lt_of_le (show n < 4001 by omega) (by decide)
theorem fr_of {p : Addr} {S S' : Sto} (k : Kp p S S') {c : Addr} (hcp : c ≠ p) (e : S' c = none) : S c = none := by
  by_cases e2 : S c = none
  · exact e2
  · obtain ⟨o, ho⟩ := Option.ne_none_iff_exists'.mp e2
    rw [k _ _ hcp ho] at e
    cases e
def numS (n : Nat) : Str := Str.ofString (toString ((n : Nat) : Int))
theorem num_tl (n : Nat) : (numS n).cps.toList = TL.numL n := TL.tl_num n
def figs : Str := "0123456789"
def inF (c : Nat) : Bool := inStr ⟨#[c]⟩ figs
theorem inF_dig : ∀ j : Fin 10, inF (48 + j.val) = true := by decide +kernel
theorem inF_let : ∀ j : Fin 26, inF (97 + j.val) = false := by decide +kernel
theorem inF_of {c : Nat} (h0 : 48 ≤ c) (h1 : c ≤ 57) : inF c = true := by
  have := inF_dig ⟨c - 48, by omega⟩
  rwa [show 48 + (c - 48) = c by omega] at this
theorem inF_no {c : Nat} (h0 : 97 ≤ c) (h1 : c < 123) : inF c = false := by
  have := inF_let ⟨c - 97, by omega⟩
  rwa [show 97 + (c - 97) = c by omega] at this
theorem len_cps (z : Str) : z.length = z.cps.toList.length := (Array.length_toList).symm
theorem head_0 {c : Nat} (e : (⟨#[c]⟩ : Str) = "0") : c = 48 := by
  have := congrArg (fun z : Str => z.cps.toList) e
  have h : [c] = ("0" : Str).cps.toList := this
  have h2 : ("0" : Str).cps.toList = [48] := by decide +kernel
  rw [h2] at h
  injection h
theorem numL_head {n : Nat} (h : 1 ≤ n) : (TL.numL n)[0]? ≠ some 48 := by
  induction n using Nat.strongRecOn with
  | _ n ih =>
    by_cases h10 : n < 10
    · rw [TL.numL_lt h10]
      intro e
      injection e with e
      omega
    · rw [TL.numL_step (by omega)]
      rw [List.getElem?_append_left (List.length_pos_iff.mpr (TL.numL_ne _))]
      exact ih (n / 10) (by omega) (by omega)
/-- a word and the number that it is, or none -/
inductive Wd : Str → D → Prop
  | nm {z : Str} (h : Nm z) : Wd z .non
  | num (n : Nat) (h : n < 10 ^ 60) : Wd (numS n) (.int (n : Nat))
theorem number_spec_in {z : Str} {v : D} (h : Wd z v) {S : Sto} {Q : DK} (q : ∀ S', Gr S S' → Q v S') : m_number_in [.str z] S Q := by
  have hz : 1 ≤ z.length ∧ z.length ≤ 60 := by
    cases h with
    | nm h => exact ⟨h.lo, by have := h.hi; omega⟩
    | num n h =>
      rw [len_cps, num_tl]
      have h1 := TL.numL_len (n := n) (k := 60) (by decide) h
      have h2 := List.length_pos_iff.mpr (TL.numL_ne n)
      omega
  rw [e_number_in]
  refine seq_i ?_
  simp (config := {implicitDefEqProofs := false, proj := false}) only [R_pp7, eVar, eC, eOp, eIf, eTup, eLst, eDict0, eDict, eSl, oNo, eCall, eCB, eM, eLc, eIsi2, aNil, aCons, pNil, pCons, tAndD, tOrD, tNotD, tsYes, gMns, gMod, gFdiv, gPow, gLe, gGt, gGe, sAsg, nName, sRet, sRetN, sExpr, sIf, sNext, sBreak, sCont, sFor, getS, setS, wipeS, endsD, asKeys, toKey, List.length_cons, List.length_nil, List.set_cons_zero, List.set_cons_succ, List.set_nil, Nat.zero_add, Nat.reduceAdd, Option.some.injEq, exists_and_left, exists_eq_left', exists_eq_left, id_eq, if_true, if_false, ite_true, ite_false, Bool.not_true, Bool.not_false, Bool.false_eq_true, not_false_eq_true, not_true_eq_false, reduceCtorEq, true_and, and_true, ne_eq, decide_eq_true_eq, isiN, isiCls, List.mem_cons, String.reduceEq, String.reduceBEq, or_true, true_or, or_false, false_or, Bool.or_true, Bool.true_or, Bool.false_or, Bool.or_false, Bool.and_false, Bool.false_and, Bool.true_and, Bool.and_true, beq_self_eq_true, decide_true, decide_false]
  refine ⟨Nat.le_trans hz.2 (by decide), ?_⟩
  rw [if_pos (show (1 : Int) ≤ z.length by omega), decide_eq_true (show (z.length : Int) ≤ 60 by omega), if_neg (by decide)]
  refine lcL_inv _ (fun i acc S' => Gr S S' ∧ acc = ((z.cps.toList.map inF).take i).map .bl) (fun _ _ _ _ => trivial) (fun i x acc S' N hxi ⟨g, e⟩ hN => ?el) (fun acc S' ⟨g, e⟩ => ?fin) ⟨.refl, by simp⟩
  case el =>
    have hi := (List.getElem?_eq_some_iff.mp hxi).1
    rw [List.length_map] at hi
    rw [List.getElem?_map, List.getElem?_eq_getElem hi] at hxi
    injection hxi with hxi
    rw [← hxi]
    simp (config := {implicitDefEqProofs := false, proj := false}) only [R_pp7, eVar, eC, eOp, eIf, eTup, eLst, eDict0, eDict, eSl, oNo, eCall, eCB, eM, eLc, eIsi2, aNil, aCons, pNil, pCons, tAndD, tOrD, tNotD, tsYes, gMns, gMod, gFdiv, gPow, gLe, gGt, gGe, sAsg, nName, sRet, sRetN, sExpr, sIf, sNext, sBreak, sCont, sFor, getS, setS, wipeS, endsD, asKeys, toKey, List.length_cons, List.length_nil, List.set_cons_zero, List.set_cons_succ, List.set_nil, Nat.zero_add, Nat.reduceAdd, Option.some.injEq, exists_and_left, exists_eq_left', exists_eq_left, id_eq, if_true, if_false, ite_true, ite_false, Bool.not_true, Bool.not_false, Bool.false_eq_true, not_false_eq_true, not_true_eq_false, reduceCtorEq, true_and, and_true, ne_eq, decide_eq_true_eq, isiN, isiCls, List.mem_cons, String.reduceEq, String.reduceBEq, or_true, true_or, or_false, false_or, Bool.or_true, Bool.true_or, Bool.false_or, Bool.or_false, Bool.and_false, Bool.false_and, Bool.true_and, Bool.and_true, beq_self_eq_true, decide_true, decide_false, c_number_in_1]
    refine ⟨by rw [e, List.length_map, List.length_take]; exact line_of (by rw [List.length_map, ← len_cps]; omega), hN _ _ ⟨g, ?_⟩⟩
    rw [e, List.take_add_one, List.getElem?_map, List.getElem?_eq_getElem hi, List.map_append]
    rfl
  case fin =>
    intro p hp
    rw [List.length_map, List.take_of_length_le (by rw [List.length_map]; exact Nat.le_refl _)] at e
    refine ⟨z.cps.toList.map inF, by rw [updS_same, e], ?_⟩
    have g2 := g.trans (Gr.new (o := .lst acc) hp)
    generalize updS S' p (.lst acc) = S3 at g2
    cases h with
    | nm h =>
      have ef : ((z.cps.toList.map inF).all id) = false := by
        rw [List.all_map, List.all_eq_false]
        have hne : z.cps.toList ≠ [] := fun e => by
          have := h.lo
          rw [len_cps, e] at this
          exact absurd this (by decide)
        obtain ⟨c, hc⟩ := List.exists_mem_of_ne_nil _ hne
        have h2 := h.lt c hc
        exact ⟨c, hc, by show ¬ inF c = true; rw [inF_no h2.1 h2.2]; decide⟩
      rw [ef, if_pos (by decide)]
      exact q _ g2
    | num n h =>
      have ef : (((numS n).cps.toList.map inF).all id) = true := by
        rw [List.all_map, List.all_eq_true]
        intro c hc
        rw [num_tl] at hc
        have := TL.numL_digits n c hc
        exact inF_of this.1 this.2
      rw [ef, if_neg (by decide)]
      simp (config := {implicitDefEqProofs := false, proj := false}) only [R_pp7, eVar, eC, eOp, eIf, eTup, eLst, eDict0, eDict, eSl, oNo, eCall, eCB, eM, eLc, eIsi2, aNil, aCons, pNil, pCons, tAndD, tOrD, tNotD, tsYes, gMns, gMod, gFdiv, gPow, gLe, gGt, gGe, sAsg, nName, sRet, sRetN, sExpr, sIf, sNext, sBreak, sCont, sFor, getS, setS, wipeS, endsD, asKeys, toKey, List.length_cons, List.length_nil, List.set_cons_zero, List.set_cons_succ, List.set_nil, Nat.zero_add, Nat.reduceAdd, Option.some.injEq, exists_and_left, exists_eq_left', exists_eq_left, id_eq, if_true, if_false, ite_true, ite_false, Bool.not_true, Bool.not_false, Bool.false_eq_true, not_false_eq_true, not_true_eq_false, reduceCtorEq, true_and, and_true, ne_eq, decide_eq_true_eq, isiN, isiCls, List.mem_cons, String.reduceEq, String.reduceBEq, or_true, true_or, or_false, false_or, Bool.or_true, Bool.true_or, Bool.false_or, Bool.or_false, Bool.and_false, Bool.false_and, Bool.true_and, Bool.and_true, beq_self_eq_true, decide_true, decide_false, t_number_in_3]
      refine seq_i ?_
      simp (config := {implicitDefEqProofs := false, proj := false}) only [R_pp7, eVar, eC, eOp, eIf, eTup, eLst, eDict0, eDict, eSl, oNo, eCall, eCB, eM, eLc, eIsi2, aNil, aCons, pNil, pCons, tAndD, tOrD, tNotD, tsYes, gMns, gMod, gFdiv, gPow, gLe, gGt, gGe, sAsg, nName, sRet, sRetN, sExpr, sIf, sNext, sBreak, sCont, sFor, getS, setS, wipeS, endsD, asKeys, toKey, List.length_cons, List.length_nil, List.set_cons_zero, List.set_cons_succ, List.set_nil, Nat.zero_add, Nat.reduceAdd, Option.some.injEq, exists_and_left, exists_eq_left', exists_eq_left, id_eq, if_true, if_false, ite_true, ite_false, Bool.not_true, Bool.not_false, Bool.false_eq_true, not_false_eq_true, not_true_eq_false, reduceCtorEq, true_and, and_true, ne_eq, decide_eq_true_eq, isiN, isiCls, List.mem_cons, String.reduceEq, String.reduceBEq, or_true, true_or, or_false, false_or, Bool.or_true, Bool.true_or, Bool.false_or, Bool.or_false, Bool.and_false, Bool.false_and, Bool.true_and, Bool.and_true, beq_self_eq_true, decide_true, decide_false]
      have hlen := hz.2
      have t5 : t_number_in_5 ⟨fun x S => Q .non S, Q, fun _ _ => False, fun _ _ => False⟩ [some (.str (numS n)), none] S3 := by
        simp (config := {implicitDefEqProofs := false, proj := false}) only [R_pp7, eVar, eC, eOp, eIf, eTup, eLst, eDict0, eDict, eSl, oNo, eCall, eCB, eM, eLc, eIsi2, aNil, aCons, pNil, pCons, tAndD, tOrD, tNotD, tsYes, gMns, gMod, gFdiv, gPow, gLe, gGt, gGe, sAsg, nName, sRet, sRetN, sExpr, sIf, sNext, sBreak, sCont, sFor, getS, setS, wipeS, endsD, asKeys, toKey, List.length_cons, List.length_nil, List.set_cons_zero, List.set_cons_succ, List.set_nil, Nat.zero_add, Nat.reduceAdd, Option.some.injEq, exists_and_left, exists_eq_left', exists_eq_left, id_eq, if_true, if_false, ite_true, ite_false, Bool.not_true, Bool.not_false, Bool.false_eq_true, not_false_eq_true, not_true_eq_false, reduceCtorEq, true_and, and_true, ne_eq, decide_eq_true_eq, isiN, isiCls, List.mem_cons, String.reduceEq, String.reduceBEq, or_true, true_or, or_false, false_or, Bool.or_true, Bool.true_or, Bool.false_or, Bool.or_false, Bool.and_false, Bool.false_and, Bool.true_and, Bool.and_true, beq_self_eq_true, decide_true, decide_false, t_number_in_5]
        exact ⟨_, TL.int_num (n := n) (by have := num_tl n; rw [← this, ← len_cps]; omega), by omega, q _ g2⟩
      obtain ⟨c, hc⟩ : ∃ c, (numS n).cps.toList[0]? = some c := by
        have : 0 < (numS n).cps.toList.length := by rw [← len_cps]; omega
        exact ⟨_, List.getElem?_eq_getElem this⟩
      refine ⟨Nat.le_trans hlen (by decide), c, atI_nat (j := 0) hc, ?_⟩
      by_cases hn : n = 0
      · subst hn
        have e0 : numS 0 = "0" := by decide +kernel
        rw [e0]
        split
        · rw [if_neg (by decide)]
          rw [← e0]
          exact t5
        · rw [← e0]
          exact t5
      · rw [if_neg (fun e => numL_head (n := n) (by omega) (by rw [← num_tl, hc, head_0 e]))]
        exact t5
theorem sum_le {c : Nat} : ∀ {l : List Nat}, (∀ x ∈ l, x ≤ c) → l.sum ≤ l.length * c
  | [], _ => Nat.zero_le _
  | x :: r, h => by
    have h2 := List.forall_mem_cons.mp h
    have := sum_le h2.2
    rw [List.sum_cons, List.length_cons, Nat.succ_mul]
    omega
theorem joinL_mem {c : Nat} {S : List Nat} (hS : c ∉ S) : ∀ {ps : List (List Nat)}, (∀ p ∈ ps, c ∉ p) → c ∉ TL.joinL S ps
  | [], _ => fun h => by cases h
  | [p], h => h p (List.mem_singleton.mpr rfl)
  | p :: q :: r, h => fun hm => by
    have h2 := List.forall_mem_cons.mp h
    rcases List.mem_append.mp (show c ∈ p ++ (S ++ TL.joinL S (q :: r)) from hm) with hm | hm
    · exact h2.1 hm
    · rcases List.mem_append.mp hm with hm | hm
      · exact hS hm
      · exact joinL_mem hS h2.2 hm
theorem joinL_le {k : Nat} {S : List Nat} : ∀ {ps : List (List Nat)}, (∀ p ∈ ps, p.length ≤ k) → (TL.joinL S ps).length ≤ ps.length * (k + S.length)
  | [], _ => Nat.zero_le _
  | [p], h => by
    have := h p (List.mem_singleton.mpr rfl)
    show p.length ≤ 1 * _
    omega
  | p :: q :: r, h => by
    have h2 := List.forall_mem_cons.mp h
    have ih := joinL_le (S := S) h2.2
    show (p ++ (S ++ TL.joinL S (q :: r))).length ≤ _
    rw [List.length_append, List.length_append]
    rw [List.length_cons, Nat.succ_mul]
    have := h2.1
    omega
theorem join_tl (y : Str) (l : List Str) : TL.tl (Txt.join y l) = TL.joinL (TL.tl y) (l.map TL.tl) := by
  rw [TL.join_eq, TL.tl_join]
end LW
namespace LW
open PySem L2 DL
theorem Kp.upn {p c : Addr} {S S' : Sto} {o : O} (k : Kp p S S') (hc : S c = none) : Kp p S (updS S' c o) := fun a u n e => by rw [updS_ne (neS e hc)]; exact k a u n e
theorem Pen.put2 {p pc f : Addr} {S : Sto} {o : O} {b : Nat} (h : Pen S p pc b) (h1 : f ≠ p) (h2 : f ≠ pc) : Pen (updS S f o) p pc b := by
  obtain ⟨ns, y, l2, e1, e3, e4⟩ := h.ex
  exact ⟨ns, y, l2, by rw [updS_ne (Ne.symm h1)]; exact e1, by rw [updS_ne (Ne.symm h2)]; exact e3, e4⟩
/-- a drawn name -/
theorem pick_spec {p pc a : Addr} {b : Nat} {zs : List Str} {σ : DL.Env} {S : Sto} {Q : DK} (h : Pen S p pc b) (hb : b + 1 ≤ 100000) (t : Txs S p a zs) (h0 : 0 < zs.length) (h1 : zs.length ≤ 100) (g0 : getS 0 σ = some (.ref p)) (g1 : getS 1 σ = some (.ref a))
    (q : ∀ (z : Str) (S' : Sto), z ∈ zs → Pen S' p pc (b + 1) → Kp p S S' → Q (.str z) S') :
    eOp gIx (eVar 1) (eCall 2 m_wtake (aCons (eVar 0) (aCons (eCB gLen (aCons (eVar 1) aNil)) aNil))) σ S Q := by
  have ht := t.at_
  simp (config := {implicitDefEqProofs := false, proj := false}) only [R_pp9, xS, xIf, xSet, xRet, xExpr, xRaise, eCallX, mNo, xE, sTry, sKeep, xFor, eVar, eC, eOp, eIf, eTup, eLst, eDict0, eDict, eSl, oNo, eCall, eCB, eM, eLc, eIsi2, aNil, aCons, pNil, pCons, tAndD, tOrD, tNotD, tsYes, gMns, gMod, gFdiv, gPow, gLe, gGt, gGe, sAsg, nName, sRet, sRetN, sExpr, sIf, sNext, sBreak, sCont, sFor, getS, setS, wipeS, endsD, asKeys, toKey, List.length_cons, List.length_nil, List.set_cons_zero, List.set_cons_succ, List.set_nil, Nat.zero_add, Nat.reduceAdd, Option.some.injEq, exists_and_left, exists_eq_left', exists_eq_left, id_eq, if_true, if_false, ite_true, ite_false, Bool.not_true, Bool.not_false, Bool.false_eq_true, not_false_eq_true, not_true_eq_false, reduceCtorEq, true_and, and_true, ne_eq, decide_eq_true_eq, isiN, isiCls, List.mem_cons, String.reduceEq, String.reduceBEq, or_true, true_or, or_false, false_or, Bool.or_true, Bool.true_or, Bool.false_or, Bool.or_false, Bool.and_false, Bool.false_and, Bool.true_and, Bool.and_true, beq_self_eq_true, decide_true, decide_false, g0, g1, ht]
  rw [List.length_map]
  refine take_spec h (by omega) (by omega) ?_ fun k S1 k0 k1 p1 e1 => ?_
  · exact Nat.lt_of_le_of_lt (Nat.log2_le_self _) (by omega)
  rw [e1 _ _ t.ne ht, oIx_li]
  obtain ⟨z, ez, hz⟩ := get_str k0 k1
  exact ⟨_, ez, q z S1 hz p1 e1⟩
/-- a link of a chain -/
structure Lk where
  r : Option Str
  l : Str
  h : Str
def oD : Option Str → D
  | none => .non
  | some z => .str z
def Lk.D (x : Lk) : DL.D := .tup [oD x.r, .str x.l, .str x.h]
structure Lk.ok (x : Lk) : Prop where
  r : ∀ z, x.r = some z → Nm z
  l : Nm x.l
  h : Nm x.h
structure ChOk (ls : List Lk) : Prop where
  ok : ∀ x ∈ ls, x.ok
  hd : ∀ i x, ls[i]? = some x → x.r.isNone = decide (i = 0)
theorem ChOk.nil : ChOk [] := ⟨fun _ h => (by cases h), fun i x h => (by simp at h)⟩
theorem ChOk.snoc {ls : List Lk} {x : Lk} (h : ChOk ls) (hx : x.ok) (hr : x.r.isNone = decide (ls.length = 0)) : ChOk (ls ++ [x]) := ⟨fun y hy => by
    rcases List.mem_append.mp hy with hy | hy
    · exact h.ok y hy
    · rw [List.mem_singleton.mp hy]; exact hx, fun i y hi => by
    by_cases hl : i < ls.length
    · rw [List.getElem?_append_left hl] at hi
      exact h.hd i y hi
    · rw [List.getElem?_append_right (by omega)] at hi
      have e : i = ls.length := by
        have := (List.getElem?_eq_some_iff.mp hi).1
        simp at this
        omega
      rw [e, Nat.sub_self] at hi
      simp at hi
      subst hi
      rw [hr, e]⟩
theorem wchain_spec {p pc a : Addr} {b : Nat} {zs : List Str} {S : Sto} {Q : DK} (h : Pen S p pc b) (hb : b + 100 ≤ 100000) (t : Txs S p a zs) (h0 : 0 < zs.length) (h1 : zs.length ≤ 100)
    (q : ∀ (c : Addr) (ls : List Lk) (S' : Sto), ChOk ls → ls ≠ [] → ls.length ≤ 9 → Pen S' p pc (b + 50) → S' c = some (.lst (ls.map Lk.D)) → c ≠ p → S c = none → Kp p S S' → Q (.ref c) S') : m_wchain [.ref p, .ref a] S Q := by
  rw [e_wchain]
  refine seq_i ?_
  simp (config := {implicitDefEqProofs := false, proj := false}) only [R_pp9, xS, xIf, xSet, xRet, xExpr, xRaise, eCallX, mNo, xE, sTry, sKeep, xFor, eVar, eC, eOp, eIf, eTup, eLst, eDict0, eDict, eSl, oNo, eCall, eCB, eM, eLc, eIsi2, aNil, aCons, pNil, pCons, tAndD, tOrD, tNotD, tsYes, gMns, gMod, gFdiv, gPow, gLe, gGt, gGe, sAsg, nName, sRet, sRetN, sExpr, sIf, sNext, sBreak, sCont, sFor, getS, setS, wipeS, endsD, asKeys, toKey, List.length_cons, List.length_nil, List.set_cons_zero, List.set_cons_succ, List.set_nil, Nat.zero_add, Nat.reduceAdd, Option.some.injEq, exists_and_left, exists_eq_left', exists_eq_left, id_eq, if_true, if_false, ite_true, ite_false, Bool.not_true, Bool.not_false, Bool.false_eq_true, not_false_eq_true, not_true_eq_false, reduceCtorEq, true_and, and_true, ne_eq, decide_eq_true_eq, isiN, isiCls, List.mem_cons, String.reduceEq, String.reduceBEq, or_true, true_or, or_false, false_or, Bool.or_true, Bool.true_or, Bool.false_or, Bool.or_false, Bool.and_false, Bool.false_and, Bool.true_and, Bool.and_true, beq_self_eq_true, decide_true, decide_false]
  refine ⟨by decide, fun c hc => ?_⟩
  have p0 := h.new (o := .lst []) hc
  have t0 := t.new (o := .lst []) hc
  have g0 : Kp p S (updS S c (.lst [])) := .new hc
  have e0 : updS S c (.lst []) c = some (.lst []) := updS_same
  have ncp : c ≠ p := (h.ne hc).1
  generalize updS S c (.lst []) = S0 at p0 t0 g0 e0
  simp (config := {implicitDefEqProofs := false, proj := false}) only [R_pp9, xS, xIf, xSet, xRet, xExpr, xRaise, eCallX, mNo, xE, sTry, sKeep, xFor, eVar, eC, eOp, eIf, eTup, eLst, eDict0, eDict, eSl, oNo, eCall, eCB, eM, eLc, eIsi2, aNil, aCons, pNil, pCons, tAndD, tOrD, tNotD, tsYes, gMns, gMod, gFdiv, gPow, gLe, gGt, gGe, sAsg, nName, sRet, sRetN, sExpr, sIf, sNext, sBreak, sCont, sFor, getS, setS, wipeS, endsD, asKeys, toKey, List.length_cons, List.length_nil, List.set_cons_zero, List.set_cons_succ, List.set_nil, Nat.zero_add, Nat.reduceAdd, Option.some.injEq, exists_and_left, exists_eq_left', exists_eq_left, id_eq, if_true, if_false, ite_true, ite_false, Bool.not_true, Bool.not_false, Bool.false_eq_true, not_false_eq_true, not_true_eq_false, reduceCtorEq, true_and, and_true, ne_eq, decide_eq_true_eq, isiN, isiCls, List.mem_cons, String.reduceEq, String.reduceBEq, or_true, true_or, or_false, false_or, Bool.or_true, Bool.true_or, Bool.false_or, Bool.or_false, Bool.and_false, Bool.false_and, Bool.true_and, Bool.and_true, beq_self_eq_true, decide_true, decide_false, t_wchain_2]
  refine seq_i ?_
  simp (config := {implicitDefEqProofs := false, proj := false}) only [R_pp9, xS, xIf, xSet, xRet, xExpr, xRaise, eCallX, mNo, xE, sTry, sKeep, xFor, eVar, eC, eOp, eIf, eTup, eLst, eDict0, eDict, eSl, oNo, eCall, eCB, eM, eLc, eIsi2, aNil, aCons, pNil, pCons, tAndD, tOrD, tNotD, tsYes, gMns, gMod, gFdiv, gPow, gLe, gGt, gGe, sAsg, nName, sRet, sRetN, sExpr, sIf, sNext, sBreak, sCont, sFor, getS, setS, wipeS, endsD, asKeys, toKey, List.length_cons, List.length_nil, List.set_cons_zero, List.set_cons_succ, List.set_nil, Nat.zero_add, Nat.reduceAdd, Option.some.injEq, exists_and_left, exists_eq_left', exists_eq_left, id_eq, if_true, if_false, ite_true, ite_false, Bool.not_true, Bool.not_false, Bool.false_eq_true, not_false_eq_true, not_true_eq_false, reduceCtorEq, true_and, and_true, ne_eq, decide_eq_true_eq, isiN, isiCls, List.mem_cons, String.reduceEq, String.reduceBEq, or_true, true_or, or_false, false_or, Bool.or_true, Bool.true_or, Bool.false_or, Bool.or_false, Bool.and_false, Bool.false_and, Bool.true_and, Bool.and_true, beq_self_eq_true, decide_true, decide_false]
  refine take_spec p0 (by omega) (by decide) (by decide) fun k S1 k0 k1 p1 f1 => ?_
  simp (config := {implicitDefEqProofs := false, proj := false}) only [R_pp9, xS, xIf, xSet, xRet, xExpr, xRaise, eCallX, mNo, xE, sTry, sKeep, xFor, eVar, eC, eOp, eIf, eTup, eLst, eDict0, eDict, eSl, oNo, eCall, eCB, eM, eLc, eIsi2, aNil, aCons, pNil, pCons, tAndD, tOrD, tNotD, tsYes, gMns, gMod, gFdiv, gPow, gLe, gGt, gGe, sAsg, nName, sRet, sRetN, sExpr, sIf, sNext, sBreak, sCont, sFor, getS, setS, wipeS, endsD, asKeys, toKey, List.length_cons, List.length_nil, List.set_cons_zero, List.set_cons_succ, List.set_nil, Nat.zero_add, Nat.reduceAdd, Option.some.injEq, exists_and_left, exists_eq_left', exists_eq_left, id_eq, if_true, if_false, ite_true, ite_false, Bool.not_true, Bool.not_false, Bool.false_eq_true, not_false_eq_true, not_true_eq_false, reduceCtorEq, true_and, and_true, ne_eq, decide_eq_true_eq, isiN, isiCls, List.mem_cons, String.reduceEq, String.reduceBEq, or_true, true_or, or_false, false_or, Bool.or_true, Bool.true_or, Bool.false_or, Bool.or_false, Bool.and_false, Bool.false_and, Bool.true_and, Bool.and_true, beq_self_eq_true, decide_true, decide_false]
  refine ⟨by decide, fun c2 hc2 => ?_⟩
  refine take_spec (p1.new hc2) (by omega) (by decide) (by decide) fun j S2 j0 j1 p2 f2 => ?_
  have e2 : S2 c2 = some (.lst [.int 1, .int (1 + k)]) := f2 _ _ (p1.ne hc2).1 updS_same
  have hm : ∃ m : Nat, 1 ≤ m ∧ m ≤ 9 ∧ atI [D.int 1, D.int (1 + k)] j = some (.int (m : Nat)) := by
    obtain ⟨i, rfl⟩ : ∃ i : Nat, j = (i : Nat) := ⟨j.toNat, by omega⟩
    match i, j1 with
    | 0, _ => exact ⟨1, by omega, by omega, rfl⟩
    | 1, _ => exact ⟨(1 + k).toNat, by omega, by omega, by rw [show (((1 + k).toNat : Nat) : Int) = 1 + k by omega]; rfl⟩
    | i + 2, h => exact absurd h (by omega)
  obtain ⟨m, m0, m1, em⟩ := hm
  rw [e2, oIx_li]
  refine ⟨_, em, ?_⟩
  simp (config := {implicitDefEqProofs := false, proj := false}) only [R_pp9, xS, xIf, xSet, xRet, xExpr, xRaise, eCallX, mNo, xE, sTry, sKeep, xFor, eVar, eC, eOp, eIf, eTup, eLst, eDict0, eDict, eSl, oNo, eCall, eCB, eM, eLc, eIsi2, aNil, aCons, pNil, pCons, tAndD, tOrD, tNotD, tsYes, gMns, gMod, gFdiv, gPow, gLe, gGt, gGe, sAsg, nName, sRet, sRetN, sExpr, sIf, sNext, sBreak, sCont, sFor, getS, setS, wipeS, endsD, asKeys, toKey, List.length_cons, List.length_nil, List.set_cons_zero, List.set_cons_succ, List.set_nil, Nat.zero_add, Nat.reduceAdd, Option.some.injEq, exists_and_left, exists_eq_left', exists_eq_left, id_eq, if_true, if_false, ite_true, ite_false, Bool.not_true, Bool.not_false, Bool.false_eq_true, not_false_eq_true, not_true_eq_false, reduceCtorEq, true_and, and_true, ne_eq, decide_eq_true_eq, isiN, isiCls, List.mem_cons, String.reduceEq, String.reduceBEq, or_true, true_or, or_false, false_or, Bool.or_true, Bool.true_or, Bool.false_or, Bool.or_false, Bool.and_false, Bool.false_and, Bool.true_and, Bool.and_true, beq_self_eq_true, decide_true, decide_false]
  refine ⟨by omega, by omega, ?_⟩
  rw [Int.toNat_natCast]
  have g2 : Kp p S S2 := ((g0.trans f1).trans (.new hc2)).trans f2
  have c2e : S2 c = some (.lst []) := f2 _ _ ncp (by rw [updS_ne (neS (f1 _ _ ncp e0) hc2)]; exact f1 _ _ ncp e0)
  have t2 : Txs S2 p a zs := ((t0.kp f1).new hc2).kp f2
  refine forR_inv _ m (fun i σ S' => ∃ u3 u4 u5 ls, σ = [some (.ref p), some (.ref a), some (.ref c), u3, u4, u5] ∧ Pen S' p pc (b + 2 + 3 * i) ∧ Txs S' p a zs ∧ Kp p S S' ∧ S' c = some (.lst (ls.map Lk.D)) ∧ ls.length = i ∧ ChOk ls) (fun _ _ _ _ => trivial) (fun i σ S' N hi hI hN => ?turn) (fun σ S' hI => ?fin) ⟨none, none, none, [], rfl, p2, t2, g2, c2e, rfl, .nil⟩
  case fin =>
    obtain ⟨u3, u4, u5, ls, rfl, p3, t3, g3, e3, hl, ok⟩ := hI
    simp (config := {implicitDefEqProofs := false, proj := false}) only [R_pp9, xS, xIf, xSet, xRet, xExpr, xRaise, eCallX, mNo, xE, sTry, sKeep, xFor, eVar, eC, eOp, eIf, eTup, eLst, eDict0, eDict, eSl, oNo, eCall, eCB, eM, eLc, eIsi2, aNil, aCons, pNil, pCons, tAndD, tOrD, tNotD, tsYes, gMns, gMod, gFdiv, gPow, gLe, gGt, gGe, sAsg, nName, sRet, sRetN, sExpr, sIf, sNext, sBreak, sCont, sFor, getS, setS, wipeS, endsD, asKeys, toKey, List.length_cons, List.length_nil, List.set_cons_zero, List.set_cons_succ, List.set_nil, Nat.zero_add, Nat.reduceAdd, Option.some.injEq, exists_and_left, exists_eq_left', exists_eq_left, id_eq, if_true, if_false, ite_true, ite_false, Bool.not_true, Bool.not_false, Bool.false_eq_true, not_false_eq_true, not_true_eq_false, reduceCtorEq, true_and, and_true, ne_eq, decide_eq_true_eq, isiN, isiCls, List.mem_cons, String.reduceEq, String.reduceBEq, or_true, true_or, or_false, false_or, Bool.or_true, Bool.true_or, Bool.false_or, Bool.or_false, Bool.and_false, Bool.false_and, Bool.true_and, Bool.and_true, beq_self_eq_true, decide_true, decide_false, t_wchain_6]
    exact q c ls S' ok (fun e => by rw [e] at hl; simp at hl; omega) (by omega) (p3.mono (by omega)) e3 ncp hc g3
  case turn =>
    obtain ⟨u3, u4, u5, ls, rfl, p3, t3, g3, e3, hl, ok⟩ := hI
    simp (config := {implicitDefEqProofs := false, proj := false}) only [R_pp9, xS, xIf, xSet, xRet, xExpr, xRaise, eCallX, mNo, xE, sTry, sKeep, xFor, eVar, eC, eOp, eIf, eTup, eLst, eDict0, eDict, eSl, oNo, eCall, eCB, eM, eLc, eIsi2, aNil, aCons, pNil, pCons, tAndD, tOrD, tNotD, tsYes, gMns, gMod, gFdiv, gPow, gLe, gGt, gGe, sAsg, nName, sRet, sRetN, sExpr, sIf, sNext, sBreak, sCont, sFor, getS, setS, wipeS, endsD, asKeys, toKey, List.length_cons, List.length_nil, List.set_cons_zero, List.set_cons_succ, List.set_nil, Nat.zero_add, Nat.reduceAdd, Option.some.injEq, exists_and_left, exists_eq_left', exists_eq_left, id_eq, if_true, if_false, ite_true, ite_false, Bool.not_true, Bool.not_false, Bool.false_eq_true, not_false_eq_true, not_true_eq_false, reduceCtorEq, true_and, and_true, ne_eq, decide_eq_true_eq, isiN, isiCls, List.mem_cons, String.reduceEq, String.reduceBEq, or_true, true_or, or_false, false_or, Bool.or_true, Bool.true_or, Bool.false_or, Bool.or_false, Bool.and_false, Bool.false_and, Bool.true_and, Bool.and_true, beq_self_eq_true, decide_true, decide_false]
    rw [Int.zero_add]
    refine seq_i (asg_i (pick_spec p3 (by omega) t3 h0 h1 rfl rfl fun z1 S4 hz1 p4 f4 => ?_))
    simp (config := {implicitDefEqProofs := false, proj := false}) only [R_pp9, xS, xIf, xSet, xRet, xExpr, xRaise, eCallX, mNo, xE, sTry, sKeep, xFor, eVar, eC, eOp, eIf, eTup, eLst, eDict0, eDict, eSl, oNo, eCall, eCB, eM, eLc, eIsi2, aNil, aCons, pNil, pCons, tAndD, tOrD, tNotD, tsYes, gMns, gMod, gFdiv, gPow, gLe, gGt, gGe, sAsg, nName, sRet, sRetN, sExpr, sIf, sNext, sBreak, sCont, sFor, getS, setS, wipeS, endsD, asKeys, toKey, List.length_cons, List.length_nil, List.set_cons_zero, List.set_cons_succ, List.set_nil, Nat.zero_add, Nat.reduceAdd, Option.some.injEq, exists_and_left, exists_eq_left', exists_eq_left, id_eq, if_true, if_false, ite_true, ite_false, Bool.not_true, Bool.not_false, Bool.false_eq_true, not_false_eq_true, not_true_eq_false, reduceCtorEq, true_and, and_true, ne_eq, decide_eq_true_eq, isiN, isiCls, List.mem_cons, String.reduceEq, String.reduceBEq, or_true, true_or, or_false, false_or, Bool.or_true, Bool.true_or, Bool.false_or, Bool.or_false, Bool.and_false, Bool.false_and, Bool.true_and, Bool.and_true, beq_self_eq_true, decide_true, decide_false, t_wchain_4]
    refine seq_i (asg_i (pick_spec p4 (by omega) (t3.kp f4) h0 h1 rfl rfl fun z2 S5 hz2 p5 f5 => ?_))
    have t5 := (t3.kp f4).kp f5
    have e5 : S5 c = some (.lst (ls.map Lk.D)) := f5 _ _ ncp (f4 _ _ ncp e3)
    have ht := t5.at_
    simp (config := {implicitDefEqProofs := false, proj := false}) only [R_pp9, xS, xIf, xSet, xRet, xExpr, xRaise, eCallX, mNo, xE, sTry, sKeep, xFor, eVar, eC, eOp, eIf, eTup, eLst, eDict0, eDict, eSl, oNo, eCall, eCB, eM, eLc, eIsi2, aNil, aCons, pNil, pCons, tAndD, tOrD, tNotD, tsYes, gMns, gMod, gFdiv, gPow, gLe, gGt, gGe, sAsg, nName, sRet, sRetN, sExpr, sIf, sNext, sBreak, sCont, sFor, getS, setS, wipeS, endsD, asKeys, toKey, List.length_cons, List.length_nil, List.set_cons_zero, List.set_cons_succ, List.set_nil, Nat.zero_add, Nat.reduceAdd, Option.some.injEq, exists_and_left, exists_eq_left', exists_eq_left, id_eq, if_true, if_false, ite_true, ite_false, Bool.not_true, Bool.not_false, Bool.false_eq_true, not_false_eq_true, not_true_eq_false, reduceCtorEq, true_and, and_true, ne_eq, decide_eq_true_eq, isiN, isiCls, List.mem_cons, String.reduceEq, String.reduceBEq, or_true, true_or, or_false, false_or, Bool.or_true, Bool.true_or, Bool.false_or, Bool.or_false, Bool.and_false, Bool.false_and, Bool.true_and, Bool.and_true, beq_self_eq_true, decide_true, decide_false, t_wchain_5, e5, ht]
    rw [List.length_map]
    refine take_spec p5 (by omega) (by omega) ?_ fun k2 S6 q0 q1 p6 f6 => ?_
    · exact Nat.lt_of_le_of_lt (Nat.log2_le_self _) (by omega)
    rw [f6 _ _ t5.ne ht, oIx_li]
    obtain ⟨z3, ez3, hz3⟩ := get_str q0 q1
    refine ⟨_, ez3, ?_⟩
    refine ⟨by decide, fun c3 hc3 => ?_⟩
    rw [updS_same, oIx_li]
    have e6 : updS S6 c3 (.lst [.str z3, .non]) c = some (.lst (ls.map Lk.D)) := by rw [updS_ne (neS (f6 _ _ ncp e5) hc3)]; exact f6 _ _ ncp e5
    have t6 := (t5.kp f6).new (o := .lst [.str z3, .non]) hc3
    have p7 := p6.new (o := .lst [.str z3, .non]) hc3
    have f7 : Kp p S (updS S6 c3 (.lst [.str z3, .non])) := (((g3.trans f4).trans f5).trans f6).trans (.new hc3)
    generalize updS S6 c3 (.lst [.str z3, .non]) = S7 at e6 t6 p7 f7
    refine ⟨oD (if i = 0 then none else some z3), ?_, by decide, _, e6, ?_, hN _ _ ⟨_, _, _, ls ++ [⟨if i = 0 then none else some z3, z1, z2⟩], rfl, ?_, ?_, ?_, ?_, ?_, ?_⟩⟩
    · by_cases hi0 : i = 0
      · subst hi0; rfl
      · rw [if_neg hi0, if_neg (by omega)]; rfl
    · rw [List.length_map, hl]; exact Nat.lt_of_lt_of_le (show i < 10 by omega) (by decide)
    · exact (p7.put2 ncp (h.ne hc).2).mono (by omega)
    · exact ⟨by rw [updS_ne (neS t.at_ hc)]; exact t6.at_, t6.ne, t6.ok⟩
    · exact f7.upn hc
    · rw [updS_same, List.map_append]; rfl
    · rw [List.length_append, hl]; rfl
    · exact ok.snoc ⟨fun z hz => by
        by_cases hi0 : i = 0
        · rw [if_pos hi0] at hz; cases hz
        · rw [if_neg hi0] at hz; cases hz; exact t.ok.nm _ hz3, t.ok.nm _ hz1, t.ok.nm _ hz2⟩ (by rw [hl]; by_cases hi0 : i = 0 <;> simp [hi0])
end LW
namespace LW
open PySem L2 DL
/-- a call of a calling -/
structure Cl where
  h : Str
  b : Str
  n : Nat
def Cl.D (x : Cl) : DL.D := .tup [.str x.h, .str x.b, .int (x.n : Nat)]
def Cl.K (x : Cl) : List Key := [kS x.h, kS x.b]
def Cl.kv (x : Cl) : List Key × DL.D := (x.K, .int (x.n : Nat))
def Cl.P (x : Cl) : PyData := .tuple [.str x.h, .str x.b]
structure Cl.ok (x : Cl) : Prop where
  h : Nm x.h
  b : Nm x.b
  n0 : 1 ≤ x.n
  n1 : x.n < 10 ^ 60
theorem Cl.K_inj {x y : Cl} (e : x.K = y.K) : x.h = y.h ∧ x.b = y.b := by
  unfold Cl.K at e
  injection e with e1 e2
  injection e2 with e2
  injection e1 with e1
  injection e2 with e2
  exact ⟨e1, e2⟩
structure CsOk (cs : List Cl) : Prop where
  ok : ∀ c ∈ cs, c.ok
  nd : (cs.map Cl.K).Nodup
theorem CsOk.nil : CsOk [] := ⟨fun _ h => (by cases h), List.nodup_nil⟩
theorem val_in : ∀ {cs : List Cl} {c : Cl}, (cs.map Cl.K).Nodup → c ∈ cs → valT (cs.map Cl.kv) c.K = some (.int (c.n : Nat))
  | x :: r, c, nd, hc => by
    rw [List.map_cons] at nd ⊢
    rw [List.nodup_cons] at nd
    unfold valT
    rcases List.mem_cons.mp hc with rfl | hc
    · rw [show c.kv.fst = c.K from rfl, if_pos rfl]; rfl
    · rw [show x.kv.fst = x.K from rfl, if_neg (fun e => nd.1 (by rw [show x.K = c.K from e]; exact List.mem_map.mpr ⟨c, hc, rfl⟩))]
      exact val_in nd.2 hc
theorem val_no : ∀ {cs : List Cl} {k : List Key}, k ∉ cs.map Cl.K → valT (cs.map Cl.kv) k = none
  | [], _, _ => rfl
  | x :: r, k, h => by
    rw [List.map_cons, List.mem_cons, not_or] at h
    rw [List.map_cons]
    unfold valT
    rw [show x.kv.fst = x.K from rfl, if_neg (fun e => h.1 (show k = x.K from (show x.K = k from e).symm))]
    exact val_no h.2
theorem repl_cl {y : Cl} : ∀ {cs : List Cl}, ∃ cs' : List Cl, replT (cs.map Cl.kv) y.K (.int (y.n : Nat)) = cs'.map Cl.kv ∧ cs'.map Cl.K = cs.map Cl.K ∧ ∀ c ∈ cs', c ∈ cs ∨ c = y
  | [] => ⟨[], rfl, rfl, fun c h => (by cases h)⟩
  | x :: r => by
    obtain ⟨cs', e1, e2, e3⟩ := repl_cl (y := y) (cs := r)
    by_cases h : x.K = y.K
    · refine ⟨y :: cs', ?_, ?_, fun c hc => ?_⟩
      · rw [List.map_cons, List.map_cons]
        unfold replT
        rw [if_pos (show x.kv.1 = y.K from h), e1]
        show (x.K, _) :: _ = (y.K, _) :: _
        rw [h]
      · rw [List.map_cons, List.map_cons, e2, h]
      · rcases List.mem_cons.mp hc with hc | hc
        · exact .inr hc
        · rcases e3 c hc with h | h
          · exact .inl (List.mem_cons_of_mem _ h)
          · exact .inr h
    · refine ⟨x :: cs', ?_, ?_, fun c hc => ?_⟩
      · rw [List.map_cons, List.map_cons]
        unfold replT
        rw [if_neg (show ¬ x.kv.1 = y.K from h), e1]
      · rw [List.map_cons, List.map_cons, e2]
      · rcases List.mem_cons.mp hc with hc | hc
        · exact .inl (by rw [hc]; exact List.mem_cons_self ..)
        · rcases e3 c hc with h | h
          · exact .inl (List.mem_cons_of_mem _ h)
          · exact .inr h
theorem put_cl {cs : List Cl} {y : Cl} (ok : CsOk cs) (hy : y.ok) : ∃ cs', putT (cs.map Cl.kv) y.K (.int (y.n : Nat)) = cs'.map Cl.kv ∧ CsOk cs' ∧ cs'.length ≤ cs.length + 1 := by
  unfold putT hasT
  by_cases h : y.K ∈ cs.map Cl.K
  · obtain ⟨c, hc, e⟩ := List.mem_map.mp h
    have := val_in ok.nd hc
    rw [e] at this
    rw [this, if_pos (show (some (DL.D.int (c.n : Nat))).isSome = true from rfl)]
    obtain ⟨cs', e1, e2, e3⟩ := repl_cl (y := y) (cs := cs)
    refine ⟨cs', e1, ⟨fun c hc => (e3 c hc).elim (ok.ok c) (fun e => by rw [e]; exact hy), by rw [e2]; exact ok.nd⟩, ?_⟩
    have := congrArg List.length e2
    rw [List.length_map, List.length_map] at this
    omega
  · rw [val_no h, if_neg (by decide)]
    refine ⟨cs ++ [y], by rw [List.map_append]; rfl, ⟨fun c hc => ?_, ?_⟩, by rw [List.length_append]; exact Nat.le_refl _⟩
    · rcases List.mem_append.mp hc with hc | hc
      · exact ok.ok c hc
      · rw [List.mem_singleton.mp hc]; exact hy
    · rw [List.map_append, List.nodup_append]
      refine ⟨ok.nd, List.nodup_cons.mpr ⟨(by simp), List.nodup_nil⟩, fun a ha b hb e => ?_⟩
      rw [List.map_cons, List.map_nil, List.mem_singleton] at hb
      exact h (by rw [← hb, ← e]; exact ha)
/-! sorted -/
def Cl.toks (x : Cl) : List (Int ⊕ List Nat) := PySem.W.keyToks x.P
theorem Cl.toks_ne {x y : Cl} (h : x.K ≠ y.K) : x.toks ≠ y.toks := fun e => by
  unfold Cl.toks Cl.P at e
  simp [PySem.W.keyToks, PySem.W.keyToksAll] at e
  obtain ⟨e1, e2⟩ := e
  have e3 : x.h = y.h := by first | exact str_ext e1 | exact str_ext (by rw [e1]) | (simp_all)
  have e4 : x.b = y.b := by first | exact str_ext e2 | exact str_ext (by rw [e2]) | (simp_all)
  exact h (by unfold Cl.K; rw [e3, e4])
def Cl.lt (x y : Cl) : Prop := PyProof.Rows.lexLt PyProof.Rows.itemOrd x.toks y.toks = true
def RiseC (cs : List Cl) : Prop := cs.Pairwise Cl.lt
def srtC (cs : List Cl) : List Cl := cs.mergeSort (PySem.W.dataLe false Cl.P)
theorem srtC_rise {cs : List Cl} (nd : (cs.map Cl.K).Nodup) : RiseC (srtC cs) := by
  let O := PyProof.Rows.listOrd PyProof.Rows.itemOrd
  have le_def : ∀ a b, PySem.W.dataLe false Cl.P a b = !(O.blt (PySem.W.keyToks (Cl.P b)) (PySem.W.keyToks (Cl.P a))) := fun a b => rfl
  have asy : ∀ a b, O.blt a b = true → O.blt b a = false := fun a b h => by
    cases h2 : O.blt b a with
    | false => rfl
    | true => have := O.trans _ _ _ h h2; rw [O.irrefl] at this; cases this
  have h1 : (srtC cs).Pairwise fun a b => PySem.W.dataLe false Cl.P a b = true := by
    refine List.pairwise_mergeSort (fun a b c h1 h2 => ?_) (fun a b => ?_) _
    · rw [le_def, Bool.not_eq_true'] at h1 h2 ⊢
      cases h3 : O.blt (PySem.W.keyToks (Cl.P c)) (PySem.W.keyToks (Cl.P a)) with
      | false => rfl
      | true =>
        rcases O.negTrans _ (PySem.W.keyToks (Cl.P b)) _ h3 with h4 | h4
        · rw [h4] at h2; cases h2
        · rw [h4] at h1; cases h1
    · rw [le_def, le_def]
      cases h3 : O.blt (PySem.W.keyToks (Cl.P b)) (PySem.W.keyToks (Cl.P a)) with
      | false => rfl
      | true => rw [asy _ _ h3]; rfl
  have h0 : cs.Pairwise fun a b => Cl.toks a ≠ Cl.toks b := by
    rw [List.nodup_iff_pairwise_ne, List.pairwise_map] at nd
    exact nd.imp fun h => Cl.toks_ne h
  have h2 : (srtC cs).Pairwise fun a b => Cl.toks a ≠ Cl.toks b :=
    (List.Perm.pairwise_iff (fun {a b} h => Ne.symm h) (List.mergeSort_perm ..)).mpr h0
  refine (h1.and h2).imp fun {a b} h => ?_
  obtain ⟨h3, h4⟩ := h
  rw [le_def, Bool.not_eq_true'] at h3
  show PyProof.Rows.lexLt PyProof.Rows.itemOrd a.toks b.toks = true
  cases h5 : PyProof.Rows.lexLt PyProof.Rows.itemOrd a.toks b.toks with
  | true => rfl
  | false => exact absurd (PyProof.Rows.lex_total _ _ h5 h3) h4
theorem srtC_ok {cs : List Cl} (h : CsOk cs) : CsOk (srtC cs) := ⟨fun c hc => h.ok c ((List.mergeSort_perm ..).mem_iff.mp hc), ((List.mergeSort_perm ..).map _).nodup_iff.mpr h.nd⟩
/-- a key as data -/
def kdK : DL.D → PyData := fun x => match x with
  | .kt ks => .tuple (ks.map keyPy)
  | _ => .none
theorem kdK_cl (c : Cl) : kdK (.kt c.K) = c.P := rfl
theorem srt_kt (cs : List Cl) : (cs.map fun c => DL.D.kt c.K).mergeSort (PySem.W.dataLe false kdK) = (srtC cs).map fun c => DL.D.kt c.K := by
  unfold srtC
  rw [List.map_mergeSort]
  intro a _ b _
  rfl
theorem cl_kt {cs : List Cl} {x : DL.D} (h : x ∈ cs.map fun c => DL.D.kt c.K) : ∃ c ∈ cs, x = .kt c.K := by
  obtain ⟨c, hc, e⟩ := List.mem_map.mp h
  exact ⟨c, hc, e.symm⟩
end LW
namespace LW
open PySem L2 DL
theorem sorted_cl {cs : List Cl} {q : Addr} {S : Sto} {Q : DK} (e : S q = some (.lst (cs.map fun c => DL.D.kt c.K)))
    (k : ∀ n, S n = none → Q (.ref n) (updS S n (.lst ((srtC cs).map fun c => DL.D.kt c.K)))) : gSortedA [.ref q] S Q := by
  refine .inr ⟨.ref q, _, kdK, rfl, .inl (by unfold itmD; dsimp only; rw [e]), fun x hx => ?_, ?_, ?_, fun x hx => ?_, fun n hn => ?_⟩
  · obtain ⟨c, _, rfl⟩ := cl_kt hx
    exact .kt _
  · intro d hd d2 hd2
    obtain ⟨x, hx, rfl⟩ := List.mem_map.mp hd
    obtain ⟨x2, hx2, rfl⟩ := List.mem_map.mp hd2
    obtain ⟨c, _, rfl⟩ := cl_kt hx
    obtain ⟨c2, _, rfl⟩ := cl_kt hx2
    rw [kdK_cl, kdK_cl]
    unfold Cl.P
    simp [PySem.W.alikeAll, PySem.W.alike]
  · refine .inl fun d hd => ?_
    obtain ⟨x, hx, rfl⟩ := List.mem_map.mp hd
    obtain ⟨c, _, rfl⟩ := cl_kt hx
    exact ⟨_, _, rfl⟩
  · obtain ⟨c, _, rfl⟩ := cl_kt hx
    exact Nat.le_trans (Nat.le_of_eq (show _ = 1 from rfl)) (by decide)
  · rw [srt_kt]
    exact k n hn
structure ClsOk (cs : List Cl) : Prop where
  ok : ∀ c ∈ cs, c.ok
  ri : RiseC cs
  le : cs.length ≤ 8
theorem wcalling_spec {p pc a : Addr} {b : Nat} {zs : List Str} {S : Sto} {Q : DK} (h : Pen S p pc b) (hb : b + 100 ≤ 100000) (t : Txs S p a zs) (h0 : 0 < zs.length) (h1 : zs.length ≤ 100)
    (q : ∀ (c : Addr) (cs : List Cl) (S' : Sto), ClsOk cs → Pen S' p pc (b + 50) → S' c = some (.lst (cs.map Cl.D)) → c ≠ p → S c = none → Kp p S S' → Q (.ref c) S') : m_wcalling [.ref p, .ref a] S Q := by
  rw [e_wcalling]
  refine seq_i ?_
  simp (config := {implicitDefEqProofs := false, proj := false}) only [R_pp9, xS, xIf, xSet, xRet, xExpr, xRaise, eCallX, mNo, xE, sTry, sKeep, xFor, eVar, eC, eOp, eIf, eTup, eLst, eDict0, eDict, eSl, oNo, eCall, eCB, eM, eLc, eIsi2, aNil, aCons, pNil, pCons, tAndD, tOrD, tNotD, tsYes, gMns, gMod, gFdiv, gPow, gLe, gGt, gGe, sAsg, nName, sRet, sRetN, sExpr, sIf, sNext, sBreak, sCont, sFor, getS, setS, wipeS, endsD, asKeys, toKey, List.length_cons, List.length_nil, List.set_cons_zero, List.set_cons_succ, List.set_nil, Nat.zero_add, Nat.reduceAdd, Option.some.injEq, exists_and_left, exists_eq_left', exists_eq_left, id_eq, if_true, if_false, ite_true, ite_false, Bool.not_true, Bool.not_false, Bool.false_eq_true, not_false_eq_true, not_true_eq_false, reduceCtorEq, true_and, and_true, ne_eq, decide_eq_true_eq, isiN, isiCls, List.mem_cons, String.reduceEq, String.reduceBEq, or_true, true_or, or_false, false_or, Bool.or_true, Bool.true_or, Bool.false_or, Bool.or_false, Bool.and_false, Bool.false_and, Bool.true_and, Bool.and_true, beq_self_eq_true, decide_true, decide_false]
  intro c hc
  have p0 := h.new (o := .dt []) hc
  have t0 := t.new (o := .dt []) hc
  have g0 : Kp p S (updS S c (.dt [])) := .new hc
  have e0 : updS S c (.dt []) c = some (.dt []) := updS_same
  have ncp : c ≠ p := (h.ne hc).1
  generalize updS S c (.dt []) = S0 at p0 t0 g0 e0
  simp (config := {implicitDefEqProofs := false, proj := false}) only [R_pp9, xS, xIf, xSet, xRet, xExpr, xRaise, eCallX, mNo, xE, sTry, sKeep, xFor, eVar, eC, eOp, eIf, eTup, eLst, eDict0, eDict, eSl, oNo, eCall, eCB, eM, eLc, eIsi2, aNil, aCons, pNil, pCons, tAndD, tOrD, tNotD, tsYes, gMns, gMod, gFdiv, gPow, gLe, gGt, gGe, sAsg, nName, sRet, sRetN, sExpr, sIf, sNext, sBreak, sCont, sFor, getS, setS, wipeS, endsD, asKeys, toKey, List.length_cons, List.length_nil, List.set_cons_zero, List.set_cons_succ, List.set_nil, Nat.zero_add, Nat.reduceAdd, Option.some.injEq, exists_and_left, exists_eq_left', exists_eq_left, id_eq, if_true, if_false, ite_true, ite_false, Bool.not_true, Bool.not_false, Bool.false_eq_true, not_false_eq_true, not_true_eq_false, reduceCtorEq, true_and, and_true, ne_eq, decide_eq_true_eq, isiN, isiCls, List.mem_cons, String.reduceEq, String.reduceBEq, or_true, true_or, or_false, false_or, Bool.or_true, Bool.true_or, Bool.false_or, Bool.or_false, Bool.and_false, Bool.false_and, Bool.true_and, Bool.and_true, beq_self_eq_true, decide_true, decide_false, t_wcalling_2]
  refine seq_i ?_
  simp (config := {implicitDefEqProofs := false, proj := false}) only [R_pp9, xS, xIf, xSet, xRet, xExpr, xRaise, eCallX, mNo, xE, sTry, sKeep, xFor, eVar, eC, eOp, eIf, eTup, eLst, eDict0, eDict, eSl, oNo, eCall, eCB, eM, eLc, eIsi2, aNil, aCons, pNil, pCons, tAndD, tOrD, tNotD, tsYes, gMns, gMod, gFdiv, gPow, gLe, gGt, gGe, sAsg, nName, sRet, sRetN, sExpr, sIf, sNext, sBreak, sCont, sFor, getS, setS, wipeS, endsD, asKeys, toKey, List.length_cons, List.length_nil, List.set_cons_zero, List.set_cons_succ, List.set_nil, Nat.zero_add, Nat.reduceAdd, Option.some.injEq, exists_and_left, exists_eq_left', exists_eq_left, id_eq, if_true, if_false, ite_true, ite_false, Bool.not_true, Bool.not_false, Bool.false_eq_true, not_false_eq_true, not_true_eq_false, reduceCtorEq, true_and, and_true, ne_eq, decide_eq_true_eq, isiN, isiCls, List.mem_cons, String.reduceEq, String.reduceBEq, or_true, true_or, or_false, false_or, Bool.or_true, Bool.true_or, Bool.false_or, Bool.or_false, Bool.and_false, Bool.false_and, Bool.true_and, Bool.and_true, beq_self_eq_true, decide_true, decide_false]
  refine take_spec p0 (by omega) (by decide) (by decide) fun m S1 m0 m1 p1 f1 => ?_
  simp (config := {implicitDefEqProofs := false, proj := false}) only [R_pp9, xS, xIf, xSet, xRet, xExpr, xRaise, eCallX, mNo, xE, sTry, sKeep, xFor, eVar, eC, eOp, eIf, eTup, eLst, eDict0, eDict, eSl, oNo, eCall, eCB, eM, eLc, eIsi2, aNil, aCons, pNil, pCons, tAndD, tOrD, tNotD, tsYes, gMns, gMod, gFdiv, gPow, gLe, gGt, gGe, sAsg, nName, sRet, sRetN, sExpr, sIf, sNext, sBreak, sCont, sFor, getS, setS, wipeS, endsD, asKeys, toKey, List.length_cons, List.length_nil, List.set_cons_zero, List.set_cons_succ, List.set_nil, Nat.zero_add, Nat.reduceAdd, Option.some.injEq, exists_and_left, exists_eq_left', exists_eq_left, id_eq, if_true, if_false, ite_true, ite_false, Bool.not_true, Bool.not_false, Bool.false_eq_true, not_false_eq_true, not_true_eq_false, reduceCtorEq, true_and, and_true, ne_eq, decide_eq_true_eq, isiN, isiCls, List.mem_cons, String.reduceEq, String.reduceBEq, or_true, true_or, or_false, false_or, Bool.or_true, Bool.true_or, Bool.false_or, Bool.or_false, Bool.and_false, Bool.false_and, Bool.true_and, Bool.and_true, beq_self_eq_true, decide_true, decide_false]
  refine ⟨by omega, by omega, ?_⟩
  refine forR_inv _ m.toNat (fun i σ S' => ∃ u3 u4 cs, σ = [some (.ref p), some (.ref a), some (.ref c), u3, u4] ∧ Pen S' p pc (b + 1 + 4 * i) ∧ Txs S' p a zs ∧ Kp p S S' ∧ S' c = some (.dt (cs.map Cl.kv)) ∧ cs.length ≤ i ∧ CsOk cs) (fun _ _ _ _ => trivial) (fun i σ S' N hi hI hN => ?turn) (fun σ S' hI => ?fin) ⟨none, none, [], rfl, p1, t0.kp f1, g0.trans f1, f1 _ _ ncp e0, Nat.le_refl _, .nil⟩
  case fin =>
    obtain ⟨u3, u4, cs, rfl, p3, t3, g3, e3, hl, ok⟩ := hI
    simp (config := {implicitDefEqProofs := false, proj := false}) only [R_pp9, xS, xIf, xSet, xRet, xExpr, xRaise, eCallX, mNo, xE, sTry, sKeep, xFor, eVar, eC, eOp, eIf, eTup, eLst, eDict0, eDict, eSl, oNo, eCall, eCB, eM, eLc, eIsi2, aNil, aCons, pNil, pCons, tAndD, tOrD, tNotD, tsYes, gMns, gMod, gFdiv, gPow, gLe, gGt, gGe, sAsg, nName, sRet, sRetN, sExpr, sIf, sNext, sBreak, sCont, sFor, getS, setS, wipeS, endsD, asKeys, toKey, List.length_cons, List.length_nil, List.set_cons_zero, List.set_cons_succ, List.set_nil, Nat.zero_add, Nat.reduceAdd, Option.some.injEq, exists_and_left, exists_eq_left', exists_eq_left, id_eq, if_true, if_false, ite_true, ite_false, Bool.not_true, Bool.not_false, Bool.false_eq_true, not_false_eq_true, not_true_eq_false, reduceCtorEq, true_and, and_true, ne_eq, decide_eq_true_eq, isiN, isiCls, List.mem_cons, String.reduceEq, String.reduceBEq, or_true, true_or, or_false, false_or, Bool.or_true, Bool.true_or, Bool.false_or, Bool.or_false, Bool.and_false, Bool.false_and, Bool.true_and, Bool.and_true, beq_self_eq_true, decide_true, decide_false, t_wcalling_5]
    refine ⟨_, e3, fun l hl2 => ?_⟩
    have ncl := neS e3 hl2
    have e4 : updS S' l (.lst ((cs.map Cl.kv).map fun kv => DL.D.kt kv.1)) l = some (.lst (cs.map fun c => DL.D.kt c.K)) := by rw [updS_same, List.map_map]; rfl
    refine sorted_cl e4 fun n hn => ?_
    have e5 : updS (updS S' l (.lst ((cs.map Cl.kv).map fun kv => DL.D.kt kv.1))) n (.lst ((srtC cs).map fun c => DL.D.kt c.K)) c = some (.dt (cs.map Cl.kv)) := by
      rw [updS_ne (neS (by rw [updS_ne ncl]; exact e3) hn), updS_ne ncl]
      exact e3
    have g5 : Kp p S (updS (updS S' l (.lst ((cs.map Cl.kv).map fun kv => DL.D.kt kv.1))) n (.lst ((srtC cs).map fun c => DL.D.kt c.K))) := (g3.trans (.new hl2)).trans (.new hn)
    have p5 := (p3.new (o := .lst ((cs.map Cl.kv).map fun kv => DL.D.kt kv.1)) hl2).new (o := .lst ((srtC cs).map fun c => DL.D.kt c.K)) hn
    simp (config := {implicitDefEqProofs := false, proj := false}) only [R_pp9, xS, xIf, xSet, xRet, xExpr, xRaise, eCallX, mNo, xE, sTry, sKeep, xFor, eVar, eC, eOp, eIf, eTup, eLst, eDict0, eDict, eSl, oNo, eCall, eCB, eM, eLc, eIsi2, aNil, aCons, pNil, pCons, tAndD, tOrD, tNotD, tsYes, gMns, gMod, gFdiv, gPow, gLe, gGt, gGe, sAsg, nName, sRet, sRetN, sExpr, sIf, sNext, sBreak, sCont, sFor, getS, setS, wipeS, endsD, asKeys, toKey, List.length_cons, List.length_nil, List.set_cons_zero, List.set_cons_succ, List.set_nil, Nat.zero_add, Nat.reduceAdd, Option.some.injEq, exists_and_left, exists_eq_left', exists_eq_left, id_eq, if_true, if_false, ite_true, ite_false, Bool.not_true, Bool.not_false, Bool.false_eq_true, not_false_eq_true, not_true_eq_false, reduceCtorEq, true_and, and_true, ne_eq, decide_eq_true_eq, isiN, isiCls, List.mem_cons, String.reduceEq, String.reduceBEq, or_true, true_or, or_false, false_or, Bool.or_true, Bool.true_or, Bool.false_or, Bool.or_false, Bool.and_false, Bool.false_and, Bool.true_and, Bool.and_true, beq_self_eq_true, decide_true, decide_false, updS_same]
    refine ⟨_, rfl, ?_⟩
    have e6 : updS (updS S' l (.lst ((cs.map Cl.kv).map fun kv => DL.D.kt kv.1))) n (.lst ((srtC cs).map fun c => DL.D.kt c.K)) n = some (.lst ((srtC cs).map fun c => DL.D.kt c.K)) := updS_same
    generalize updS (updS S' l (.lst ((cs.map Cl.kv).map fun kv => DL.D.kt kv.1))) n (.lst ((srtC cs).map fun c => DL.D.kt c.K)) = S5 at e5 g5 p5 e6
    have sok := srtC_ok ok
    have slen : (srtC cs).length = cs.length := (List.mergeSort_perm ..).length_eq
    refine lcL_inv _ (fun i acc S' => S' = S5 ∧ acc = ((srtC cs).take i).map Cl.D) (fun i acc S' h => by rw [h.1]; exact e6) (fun i x acc S' N hx ⟨eS, e⟩ hN => ?el) (fun acc S' ⟨eS, e⟩ => ?fin2) ⟨rfl, by simp⟩
    case el =>
      subst eS
      have hi := (List.getElem?_eq_some_iff.mp hx).1
      rw [List.length_map] at hi
      rw [List.getElem?_map, List.getElem?_eq_getElem hi] at hx
      injection hx with hx
      subst hx
      have hm : (srtC cs)[i] ∈ cs := (List.mergeSort_perm ..).mem_iff.mp (List.getElem_mem hi)
      simp (config := {implicitDefEqProofs := false, proj := false}) only [R_pp9, xS, xIf, xSet, xRet, xExpr, xRaise, eCallX, mNo, xE, sTry, sKeep, xFor, eVar, eC, eOp, eIf, eTup, eLst, eDict0, eDict, eSl, oNo, eCall, eCB, eM, eLc, eIsi2, aNil, aCons, pNil, pCons, tAndD, tOrD, tNotD, tsYes, gMns, gMod, gFdiv, gPow, gLe, gGt, gGe, sAsg, nName, sRet, sRetN, sExpr, sIf, sNext, sBreak, sCont, sFor, getS, setS, wipeS, endsD, asKeys, toKey, List.length_cons, List.length_nil, List.set_cons_zero, List.set_cons_succ, List.set_nil, Nat.zero_add, Nat.reduceAdd, Option.some.injEq, exists_and_left, exists_eq_left', exists_eq_left, id_eq, if_true, if_false, ite_true, ite_false, Bool.not_true, Bool.not_false, Bool.false_eq_true, not_false_eq_true, not_true_eq_false, reduceCtorEq, true_and, and_true, ne_eq, decide_eq_true_eq, isiN, isiCls, List.mem_cons, String.reduceEq, String.reduceBEq, or_true, true_or, or_false, false_or, Bool.or_true, Bool.true_or, Bool.false_or, Bool.or_false, Bool.and_false, Bool.false_and, Bool.true_and, Bool.and_true, beq_self_eq_true, decide_true, decide_false, c_wcalling_5, e5]
      refine ⟨_, val_in ok.nd hm, ?_⟩
      try rw [gAdd_tt]
      refine ⟨by decide, by show 2 + 1 ≤ sizeLine; decide, by rw [e, List.length_map, List.length_take]; exact line_of (by omega), hN _ _ ⟨rfl, ?_⟩⟩
      rw [e, List.take_add_one, List.getElem?_eq_getElem hi, List.map_append]
      rfl
    case fin2 =>
      subst eS
      rw [List.length_map, List.take_of_length_le (Nat.le_refl _)] at e
      intro r hr
      refine q r (srtC cs) _ ⟨sok.ok, srtC_rise ok.nd, by omega⟩ ((p5.new hr).mono (by omega)) (by rw [updS_same, e]) (p5.ne hr).1 (fr_of g5 (p5.ne hr).1 hr) (g5.trans (.new hr))
  case turn =>
    obtain ⟨u3, u4, cs, rfl, p3, t3, g3, e3, hl, ok⟩ := hI
    simp (config := {implicitDefEqProofs := false, proj := false}) only [R_pp9, xS, xIf, xSet, xRet, xExpr, xRaise, eCallX, mNo, xE, sTry, sKeep, xFor, eVar, eC, eOp, eIf, eTup, eLst, eDict0, eDict, eSl, oNo, eCall, eCB, eM, eLc, eIsi2, aNil, aCons, pNil, pCons, tAndD, tOrD, tNotD, tsYes, gMns, gMod, gFdiv, gPow, gLe, gGt, gGe, sAsg, nName, sRet, sRetN, sExpr, sIf, sNext, sBreak, sCont, sFor, getS, setS, wipeS, endsD, asKeys, toKey, List.length_cons, List.length_nil, List.set_cons_zero, List.set_cons_succ, List.set_nil, Nat.zero_add, Nat.reduceAdd, Option.some.injEq, exists_and_left, exists_eq_left', exists_eq_left, id_eq, if_true, if_false, ite_true, ite_false, Bool.not_true, Bool.not_false, Bool.false_eq_true, not_false_eq_true, not_true_eq_false, reduceCtorEq, true_and, and_true, ne_eq, decide_eq_true_eq, isiN, isiCls, List.mem_cons, String.reduceEq, String.reduceBEq, or_true, true_or, or_false, false_or, Bool.or_true, Bool.true_or, Bool.false_or, Bool.or_false, Bool.and_false, Bool.false_and, Bool.true_and, Bool.and_true, beq_self_eq_true, decide_true, decide_false]
    rw [Int.zero_add]
    refine seq_i (asg_i ?_)
    rw [eTupK_e]
    refine pick_spec p3 (by omega) t3 h0 h1 rfl rfl fun z1 S4 hz1 p4 f4 => ?_
    refine pick_spec p4 (by omega) (t3.kp f4) h0 h1 rfl rfl fun z2 S5 hz2 p5 f5 => ?_
    have t5 := (t3.kp f4).kp f5
    have e5 : S5 c = some (.dt (cs.map Cl.kv)) := f5 _ _ ncp (f4 _ _ ncp e3)
    simp (config := {implicitDefEqProofs := false, proj := false}) only [R_pp9, xS, xIf, xSet, xRet, xExpr, xRaise, eCallX, mNo, xE, sTry, sKeep, xFor, eVar, eC, eOp, eIf, eTup, eLst, eDict0, eDict, eSl, oNo, eCall, eCB, eM, eLc, eIsi2, aNil, aCons, pNil, pCons, tAndD, tOrD, tNotD, tsYes, gMns, gMod, gFdiv, gPow, gLe, gGt, gGe, sAsg, nName, sRet, sRetN, sExpr, sIf, sNext, sBreak, sCont, sFor, getS, setS, wipeS, endsD, asKeys, toKey, List.length_cons, List.length_nil, List.set_cons_zero, List.set_cons_succ, List.set_nil, Nat.zero_add, Nat.reduceAdd, Option.some.injEq, exists_and_left, exists_eq_left', exists_eq_left, id_eq, if_true, if_false, ite_true, ite_false, Bool.not_true, Bool.not_false, Bool.false_eq_true, not_false_eq_true, not_true_eq_false, reduceCtorEq, true_and, and_true, ne_eq, decide_eq_true_eq, isiN, isiCls, List.mem_cons, String.reduceEq, String.reduceBEq, or_true, true_or, or_false, false_or, Bool.or_true, Bool.true_or, Bool.false_or, Bool.or_false, Bool.and_false, Bool.false_and, Bool.true_and, Bool.and_true, beq_self_eq_true, decide_true, decide_false, toKeys_ss]
    refine ⟨by decide, ?_⟩
    simp (config := {implicitDefEqProofs := false, proj := false}) only [R_pp9, xS, xIf, xSet, xRet, xExpr, xRaise, eCallX, mNo, xE, sTry, sKeep, xFor, eVar, eC, eOp, eIf, eTup, eLst, eDict0, eDict, eSl, oNo, eCall, eCB, eM, eLc, eIsi2, aNil, aCons, pNil, pCons, tAndD, tOrD, tNotD, tsYes, gMns, gMod, gFdiv, gPow, gLe, gGt, gGe, sAsg, nName, sRet, sRetN, sExpr, sIf, sNext, sBreak, sCont, sFor, getS, setS, wipeS, endsD, asKeys, toKey, List.length_cons, List.length_nil, List.set_cons_zero, List.set_cons_succ, List.set_nil, Nat.zero_add, Nat.reduceAdd, Option.some.injEq, exists_and_left, exists_eq_left', exists_eq_left, id_eq, if_true, if_false, ite_true, ite_false, Bool.not_true, Bool.not_false, Bool.false_eq_true, not_false_eq_true, not_true_eq_false, reduceCtorEq, true_and, and_true, ne_eq, decide_eq_true_eq, isiN, isiCls, List.mem_cons, String.reduceEq, String.reduceBEq, or_true, true_or, or_false, false_or, Bool.or_true, Bool.true_or, Bool.false_or, Bool.or_false, Bool.and_false, Bool.false_and, Bool.true_and, Bool.and_true, beq_self_eq_true, decide_true, decide_false, t_wcalling_4]
    refine ⟨powI (by decide) (by decide) (by decide) (by decide), ?_⟩
    refine take_spec p5 (by omega) (by decide) (by decide +kernel) fun k S6 k0 k1 p6 f6 => ?_
    refine ⟨powI (by decide) (by decide) (by decide) (by decide), by decide, fun c2 hc2 => ?_⟩
    refine take_spec (p6.new hc2) (by omega) (by decide) (by decide) fun j S7 j0 j1 p7 f7 => ?_
    have e7 : S7 c2 = some (.lst [.int 1, .int (1 + k), .int (10 ^ Int.toNat 60 - 1)]) := f7 _ _ (p6.ne hc2).1 updS_same
    have hm : ∃ m : Nat, 1 ≤ m ∧ m < 10 ^ 60 ∧ atI [DL.D.int 1, .int (1 + k), .int (10 ^ Int.toNat 60 - 1)] j = some (.int (m : Nat)) := by
      obtain ⟨i, rfl⟩ : ∃ i : Nat, j = (i : Nat) := ⟨j.toNat, by omega⟩
      match i, j1 with
      | 0, _ => exact ⟨1, by omega, by decide +kernel, rfl⟩
      | 1, _ => exact ⟨(1 + k).toNat, by omega, Nat.lt_of_lt_of_le (show (1 + k).toNat < 10 ^ 7 by
          have e : (10 : Int) ^ Int.toNat 6 = 1000000 := by decide +kernel
          rw [e] at k1
          have e : (10 : Nat) ^ 7 = 10000000 := by decide +kernel
          rw [e]
          omega) (by decide +kernel), by rw [show (((1 + k).toNat : Nat) : Int) = 1 + k by omega]; rfl⟩
      | 2, _ => exact ⟨10 ^ 60 - 1, by decide +kernel, by decide +kernel, by
          show some _ = some _
          congr 2⟩
      | i + 3, h => exact absurd h (by omega)
    obtain ⟨m2, q0, q1, em⟩ := hm
    have e8 : S7 c = some (.dt (cs.map Cl.kv)) := f7 _ _ ncp (by rw [updS_ne (neS (f6 _ _ ncp e5) hc2)]; exact f6 _ _ ncp e5)
    have t7 := ((t5.kp f6).new (o := .lst [.int 1, .int (1 + k), .int (10 ^ Int.toNat 60 - 1)]) hc2).kp f7
    have g7 : Kp p S S7 := ((((g3.trans f4).trans f5).trans f6).trans (.new hc2)).trans f7
    rw [e7, oIx_li]
    refine ⟨_, em, ?_⟩
    have hy : (⟨z1, z2, m2⟩ : Cl).ok := ⟨t.ok.nm _ hz1, t.ok.nm _ hz2, q0, q1⟩
    obtain ⟨cs', e9, ok9, l9⟩ := put_cl ok hy
    rw [e8]
    rw [oPut_t]
    refine ⟨by rw [List.length_map]; exact line_of (by omega), ?_⟩
    rw [show putT (cs.map Cl.kv) [Sum.inr z1, Sum.inr z2] (.int (m2 : Nat)) = cs'.map Cl.kv from e9]
    refine hN _ _ ⟨_, _, cs', rfl, (p7.put2 ncp (h.ne hc).2).mono (by omega), ⟨by rw [updS_ne (neS t.at_ hc)]; exact t7.at_, t7.ne, t7.ok⟩, g7.upn hc, updS_same, by omega, ok9⟩
end LW
namespace LW
open PySem L2 DL
/-- words: short, one at least -/
structure Wo (zs : List Str) : Prop where
  le : zs.length ≤ 100
  sh : ∀ z ∈ zs, z.length ≤ 100
def lsS (zs : List Str) : Str := if zs = [] then "." else Txt.join " " zs
theorem Wo.sum {zs : List Str} (h : Wo zs) {k : Nat} (hk : k ≤ 1) : (zs.map (·.length)).sum + zs.length * k ≤ 16777216 := by
  have h1 : (zs.map (·.length)).sum ≤ (zs.map (·.length)).length * 100 := sum_le fun x hx => by
    obtain ⟨z, hz, rfl⟩ := List.mem_map.mp hx
    exact h.sh z hz
  rw [List.length_map] at h1
  have h2 := h.le
  have h3 : zs.length * k ≤ zs.length * 1 := Nat.mul_le_mul_left _ hk
  omega
theorem wlisted_spec {a : Addr} {zs : List Str} {S : Sto} {Q : DK} (e : S a = some (.lst (zs.map .str))) (h : Wo zs) (q : ∀ S', Gr S S' → Q (.str (lsS zs)) S') : m_wlisted_text [.ref a] S Q := by
  rw [e_wlisted_text]
  simp (config := {implicitDefEqProofs := false, proj := false}) only [R_pp9, xS, xIf, xSet, xRet, xExpr, xRaise, eCallX, mNo, xE, sTry, sKeep, xFor, eVar, eC, eOp, eIf, eTup, eLst, eDict0, eDict, eSl, oNo, eCall, eCB, eM, eLc, eIsi2, aNil, aCons, pNil, pCons, tAndD, tOrD, tNotD, tsYes, gMns, gMod, gFdiv, gPow, gLe, gGt, gGe, sAsg, nName, sRet, sRetN, sExpr, sIf, sNext, sBreak, sCont, sFor, getS, setS, wipeS, endsD, asKeys, toKey, List.length_cons, List.length_nil, List.set_cons_zero, List.set_cons_succ, List.set_nil, Nat.zero_add, Nat.reduceAdd, Option.some.injEq, exists_and_left, exists_eq_left', exists_eq_left, id_eq, if_true, if_false, ite_true, ite_false, Bool.not_true, Bool.not_false, Bool.false_eq_true, not_false_eq_true, not_true_eq_false, reduceCtorEq, true_and, and_true, ne_eq, decide_eq_true_eq, isiN, isiCls, List.mem_cons, String.reduceEq, String.reduceBEq, or_true, true_or, or_false, false_or, Bool.or_true, Bool.true_or, Bool.false_or, Bool.or_false, Bool.and_false, Bool.false_and, Bool.true_and, Bool.and_true, beq_self_eq_true, decide_true, decide_false, b_wlisted_text, e]
  refine ⟨zs, rfl, h.sum (by decide), by decide, fun p1 h1 => ⟨by decide, fun p2 h2 => ?_⟩⟩
  refine eq_nil (by rw [updS_ne (neS (by rw [updS_ne (neS e h1)]; exact e) h2), updS_ne (neS e h1)]; exact e) updS_same (pds_strs zs) (depth_strs zs) ?_
  have e2 : updS (updS S p1 (.lst [.str (Txt.join " " zs), .str "."])) p2 (.lst []) p1 = some (.lst [.str (Txt.join " " zs), .str "."]) := by rw [updS_ne (neS updS_same h2), updS_same]
  simp (config := {implicitDefEqProofs := false, proj := false}) only [R_pp9, xS, xIf, xSet, xRet, xExpr, xRaise, eCallX, mNo, xE, sTry, sKeep, xFor, eVar, eC, eOp, eIf, eTup, eLst, eDict0, eDict, eSl, oNo, eCall, eCB, eM, eLc, eIsi2, aNil, aCons, pNil, pCons, tAndD, tOrD, tNotD, tsYes, gMns, gMod, gFdiv, gPow, gLe, gGt, gGe, sAsg, nName, sRet, sRetN, sExpr, sIf, sNext, sBreak, sCont, sFor, getS, setS, wipeS, endsD, asKeys, toKey, List.length_cons, List.length_nil, List.set_cons_zero, List.set_cons_succ, List.set_nil, Nat.zero_add, Nat.reduceAdd, Option.some.injEq, exists_and_left, exists_eq_left', exists_eq_left, id_eq, if_true, if_false, ite_true, ite_false, Bool.not_true, Bool.not_false, Bool.false_eq_true, not_false_eq_true, not_true_eq_false, reduceCtorEq, true_and, and_true, ne_eq, decide_eq_true_eq, isiN, isiCls, List.mem_cons, String.reduceEq, String.reduceBEq, or_true, true_or, or_false, false_or, Bool.or_true, Bool.true_or, Bool.false_or, Bool.or_false, Bool.and_false, Bool.false_and, Bool.true_and, Bool.and_true, beq_self_eq_true, decide_true, decide_false, e2, List.isEmpty_map]
  have g : Gr S (updS (updS S p1 (.lst [.str (Txt.join " " zs), .str "."])) p2 (.lst [])) := (Gr.new h1).trans (.new h2)
  cases zs with
  | nil => exact ⟨_, atI_nat (j := 1) rfl, q _ g⟩
  | cons z r =>
    refine ⟨_, atI_nat (j := 0) rfl, ?_⟩
    have := q _ g
    unfold lsS at this
    rw [if_neg (by simp)] at this
    exact this
theorem listed_spec {a : Addr} {zs : List Str} {S : Sto} {Q : DK} (e : S a = some (.lst (zs.map .str))) (h : Wo zs) (q : ∀ S', Gr S S' → Q (.str (lsS zs)) S') : m_listed [.ref a] S Q := by
  rw [e_listed]
  refine seq_i ?_
  simp (config := {implicitDefEqProofs := false, proj := false}) only [R_pp9, xS, xIf, xSet, xRet, xExpr, xRaise, eCallX, mNo, xE, sTry, sKeep, xFor, eVar, eC, eOp, eIf, eTup, eLst, eDict0, eDict, eSl, oNo, eCall, eCB, eM, eLc, eIsi2, aNil, aCons, pNil, pCons, tAndD, tOrD, tNotD, tsYes, gMns, gMod, gFdiv, gPow, gLe, gGt, gGe, sAsg, nName, sRet, sRetN, sExpr, sIf, sNext, sBreak, sCont, sFor, getS, setS, wipeS, endsD, asKeys, toKey, List.length_cons, List.length_nil, List.set_cons_zero, List.set_cons_succ, List.set_nil, Nat.zero_add, Nat.reduceAdd, Option.some.injEq, exists_and_left, exists_eq_left', exists_eq_left, id_eq, if_true, if_false, ite_true, ite_false, Bool.not_true, Bool.not_false, Bool.false_eq_true, not_false_eq_true, not_true_eq_false, reduceCtorEq, true_and, and_true, ne_eq, decide_eq_true_eq, isiN, isiCls, List.mem_cons, String.reduceEq, String.reduceBEq, or_true, true_or, or_false, false_or, Bool.or_true, Bool.true_or, Bool.false_or, Bool.or_false, Bool.and_false, Bool.false_and, Bool.true_and, Bool.and_true, beq_self_eq_true, decide_true, decide_false]
  refine ⟨by decide, fun p2 h2 => ?_⟩
  refine eq_nil (by rw [updS_ne (neS e h2)]; exact e) updS_same (pds_strs zs) (depth_strs zs) ?_
  have e2 : updS S p2 (.lst []) a = some (.lst (zs.map .str)) := by rw [updS_ne (neS e h2)]; exact e
  have g : Gr S (updS S p2 (.lst [])) := .new h2
  generalize updS S p2 (.lst []) = S2 at e2 g
  simp (config := {implicitDefEqProofs := false, proj := false}) only [R_pp9, xS, xIf, xSet, xRet, xExpr, xRaise, eCallX, mNo, xE, sTry, sKeep, xFor, eVar, eC, eOp, eIf, eTup, eLst, eDict0, eDict, eSl, oNo, eCall, eCB, eM, eLc, eIsi2, aNil, aCons, pNil, pCons, tAndD, tOrD, tNotD, tsYes, gMns, gMod, gFdiv, gPow, gLe, gGt, gGe, sAsg, nName, sRet, sRetN, sExpr, sIf, sNext, sBreak, sCont, sFor, getS, setS, wipeS, endsD, asKeys, toKey, List.length_cons, List.length_nil, List.set_cons_zero, List.set_cons_succ, List.set_nil, Nat.zero_add, Nat.reduceAdd, Option.some.injEq, exists_and_left, exists_eq_left', exists_eq_left, id_eq, if_true, if_false, ite_true, ite_false, Bool.not_true, Bool.not_false, Bool.false_eq_true, not_false_eq_true, not_true_eq_false, reduceCtorEq, true_and, and_true, ne_eq, decide_eq_true_eq, isiN, isiCls, List.mem_cons, String.reduceEq, String.reduceBEq, or_true, true_or, or_false, false_or, Bool.or_true, Bool.true_or, Bool.false_or, Bool.or_false, Bool.and_false, Bool.false_and, Bool.true_and, Bool.and_true, beq_self_eq_true, decide_true, decide_false, List.isEmpty_map]
  cases zs with
  | nil =>
    simp (config := {implicitDefEqProofs := false, proj := false}) only [R_pp9, xS, xIf, xSet, xRet, xExpr, xRaise, eCallX, mNo, xE, sTry, sKeep, xFor, eVar, eC, eOp, eIf, eTup, eLst, eDict0, eDict, eSl, oNo, eCall, eCB, eM, eLc, eIsi2, aNil, aCons, pNil, pCons, tAndD, tOrD, tNotD, tsYes, gMns, gMod, gFdiv, gPow, gLe, gGt, gGe, sAsg, nName, sRet, sRetN, sExpr, sIf, sNext, sBreak, sCont, sFor, getS, setS, wipeS, endsD, asKeys, toKey, List.length_cons, List.length_nil, List.set_cons_zero, List.set_cons_succ, List.set_nil, Nat.zero_add, Nat.reduceAdd, Option.some.injEq, exists_and_left, exists_eq_left', exists_eq_left, id_eq, if_true, if_false, ite_true, ite_false, Bool.not_true, Bool.not_false, Bool.false_eq_true, not_false_eq_true, not_true_eq_false, reduceCtorEq, true_and, and_true, ne_eq, decide_eq_true_eq, isiN, isiCls, List.mem_cons, String.reduceEq, String.reduceBEq, or_true, true_or, or_false, false_or, Bool.or_true, Bool.true_or, Bool.false_or, Bool.or_false, Bool.and_false, Bool.false_and, Bool.true_and, Bool.and_true, beq_self_eq_true, decide_true, decide_false, List.isEmpty_nil]
    exact q _ g
  | cons z r =>
    simp (config := {implicitDefEqProofs := false, proj := false}) only [R_pp9, xS, xIf, xSet, xRet, xExpr, xRaise, eCallX, mNo, xE, sTry, sKeep, xFor, eVar, eC, eOp, eIf, eTup, eLst, eDict0, eDict, eSl, oNo, eCall, eCB, eM, eLc, eIsi2, aNil, aCons, pNil, pCons, tAndD, tOrD, tNotD, tsYes, gMns, gMod, gFdiv, gPow, gLe, gGt, gGe, sAsg, nName, sRet, sRetN, sExpr, sIf, sNext, sBreak, sCont, sFor, getS, setS, wipeS, endsD, asKeys, toKey, List.length_cons, List.length_nil, List.set_cons_zero, List.set_cons_succ, List.set_nil, Nat.zero_add, Nat.reduceAdd, Option.some.injEq, exists_and_left, exists_eq_left', exists_eq_left, id_eq, if_true, if_false, ite_true, ite_false, Bool.not_true, Bool.not_false, Bool.false_eq_true, not_false_eq_true, not_true_eq_false, reduceCtorEq, true_and, and_true, ne_eq, decide_eq_true_eq, isiN, isiCls, List.mem_cons, String.reduceEq, String.reduceBEq, or_true, true_or, or_false, false_or, Bool.or_true, Bool.true_or, Bool.false_or, Bool.or_false, Bool.and_false, Bool.false_and, Bool.true_and, Bool.and_true, beq_self_eq_true, decide_true, decide_false, List.isEmpty_cons, t_listed_3]
    refine ⟨z :: r, e2, h.sum (by decide), ?_⟩
    have := q _ g
    unfold lsS at this
    rw [if_neg (by simp)] at this
    exact this
theorem names_text_spec {a : Addr} {zs : List Str} {S : Sto} {Q : DK} (e : S a = some (.lst (zs.map .str))) (h : Wo zs) (q : ∀ S', Gr S S' → Q (.str (lsS zs)) S') : m_names_text [.ref a] S Q := by
  rw [e_names_text]
  simp (config := {implicitDefEqProofs := false, proj := false}) only [R_pp9, xS, xIf, xSet, xRet, xExpr, xRaise, eCallX, mNo, xE, sTry, sKeep, xFor, eVar, eC, eOp, eIf, eTup, eLst, eDict0, eDict, eSl, oNo, eCall, eCB, eM, eLc, eIsi2, aNil, aCons, pNil, pCons, tAndD, tOrD, tNotD, tsYes, gMns, gMod, gFdiv, gPow, gLe, gGt, gGe, sAsg, nName, sRet, sRetN, sExpr, sIf, sNext, sBreak, sCont, sFor, getS, setS, wipeS, endsD, asKeys, toKey, List.length_cons, List.length_nil, List.set_cons_zero, List.set_cons_succ, List.set_nil, Nat.zero_add, Nat.reduceAdd, Option.some.injEq, exists_and_left, exists_eq_left', exists_eq_left, id_eq, if_true, if_false, ite_true, ite_false, Bool.not_true, Bool.not_false, Bool.false_eq_true, not_false_eq_true, not_true_eq_false, reduceCtorEq, true_and, and_true, ne_eq, decide_eq_true_eq, isiN, isiCls, List.mem_cons, String.reduceEq, String.reduceBEq, or_true, true_or, or_false, false_or, Bool.or_true, Bool.true_or, Bool.false_or, Bool.or_false, Bool.and_false, Bool.false_and, Bool.true_and, Bool.and_true, beq_self_eq_true, decide_true, decide_false, b_names_text, e]
  refine ⟨_, rfl, fun p hp => ?_⟩
  exact listed_spec updS_same h fun S' g => q _ ((Gr.new hp).trans g)
theorem str_num {n : Nat} (h : n < 10 ^ 60) {S : Sto} {Q : DK} (q : Q (.str (numS n)) S) : gStr2 [.int (n : Nat)] S Q := by
  rw [gStr2_i]
  refine ⟨?_, q⟩
  show (n : Nat).log2 < 1920
  by_cases h0 : n = 0
  · rw [h0]; decide
  · rw [Nat.log2_lt h0]
    exact Nat.lt_of_lt_of_le h (Nat.le_trans (show 10 ^ 60 ≤ 2 ^ 200 by decide +kernel) (Nat.pow_le_pow_right (by decide) (by decide)))
theorem num_log {n : Nat} (h : n < 10 ^ 60) : ((n : Nat) : Int).natAbs.log2 < 1920 := by
  have := str_num (S := fun _ => none) (Q := fun _ _ => True) h trivial
  rw [gStr2_i] at this
  exact this.1
theorem numS_len {n : Nat} (h : n < 10 ^ 60) : (numS n).length ≤ 60 := by
  rw [len_cps, num_tl]
  exact TL.numL_len (by decide) h
/-- places as words -/
def plD (ns : List Nat) : List DL.D := ns.map fun (n : Nat) => DL.D.int (n : Nat)
theorem nums_lc {a : Addr} {ns : List Nat} {elt : DE} {σ : DL.Env} {i : Nat} {S : Sto} {K : List DL.D → Sto → Prop} (e : S a = some (.lst (plD ns))) (hn : ∀ n ∈ ns, n < 10 ^ 60) (hl : ns.length ≤ 100)
    (he : ∀ (n : Nat) (Q : DK), n < 10 ^ 60 → Q (.str (numS n)) S → elt (setS i (.int (n : Nat)) σ) S Q) (k : K ((ns.map numS).map .str) S) : lcL (fun S => S a = some (.lst (plD ns))) (nName i) tsYes elt σ K (plD ns) [] S := by
  refine lcL_map (fun d => match d with | .int i => .str (numS i.toNat) | _ => .non) _ e (small_line (by unfold plD; rw [List.length_map]; omega)) (fun x hx Q q => ?_) ?_
  · obtain ⟨n, hm, rfl⟩ := List.mem_map.mp hx
    exact he n Q (hn n hm) q
  · unfold plD
    rw [List.map_map] at k ⊢
    exact k
theorem nums_wo {ns : List Nat} (hn : ∀ n ∈ ns, n < 10 ^ 60) (hl : ns.length ≤ 100) : Wo (ns.map numS) := ⟨by rw [List.length_map]; exact hl, fun z hz => by
  obtain ⟨n, hm, rfl⟩ := List.mem_map.mp hz
  have := numS_len (hn n hm)
  omega⟩
theorem places_text_spec {a : Addr} {ns : List Nat} {S : Sto} {Q : DK} (e : S a = some (.lst (plD ns))) (hn : ∀ n ∈ ns, n < 10 ^ 60) (hl : ns.length ≤ 100) (q : ∀ S', Gr S S' → Q (.str (lsS (ns.map numS))) S') : m_places_text [.ref a] S Q := by
  rw [e_places_text]
  simp (config := {implicitDefEqProofs := false, proj := false}) only [R_pp9, xS, xIf, xSet, xRet, xExpr, xRaise, eCallX, mNo, xE, sTry, sKeep, xFor, eVar, eC, eOp, eIf, eTup, eLst, eDict0, eDict, eSl, oNo, eCall, eCB, eM, eLc, eIsi2, aNil, aCons, pNil, pCons, tAndD, tOrD, tNotD, tsYes, gMns, gMod, gFdiv, gPow, gLe, gGt, gGe, sAsg, nName, sRet, sRetN, sExpr, sIf, sNext, sBreak, sCont, sFor, getS, setS, wipeS, endsD, asKeys, toKey, List.length_cons, List.length_nil, List.set_cons_zero, List.set_cons_succ, List.set_nil, Nat.zero_add, Nat.reduceAdd, Option.some.injEq, exists_and_left, exists_eq_left', exists_eq_left, id_eq, if_true, if_false, ite_true, ite_false, Bool.not_true, Bool.not_false, Bool.false_eq_true, not_false_eq_true, not_true_eq_false, reduceCtorEq, true_and, and_true, ne_eq, decide_eq_true_eq, isiN, isiCls, List.mem_cons, String.reduceEq, String.reduceBEq, or_true, true_or, or_false, false_or, Bool.or_true, Bool.true_or, Bool.false_or, Bool.or_false, Bool.and_false, Bool.false_and, Bool.true_and, Bool.and_true, beq_self_eq_true, decide_true, decide_false, b_places_text, e]
  refine ⟨_, rfl, ?_⟩
  refine nums_lc e hn hl (fun n Q h k => ?_) ?_
  · simp (config := {implicitDefEqProofs := false, proj := false}) only [R_pp9, xS, xIf, xSet, xRet, xExpr, xRaise, eCallX, mNo, xE, sTry, sKeep, xFor, eVar, eC, eOp, eIf, eTup, eLst, eDict0, eDict, eSl, oNo, eCall, eCB, eM, eLc, eIsi2, aNil, aCons, pNil, pCons, tAndD, tOrD, tNotD, tsYes, gMns, gMod, gFdiv, gPow, gLe, gGt, gGe, sAsg, nName, sRet, sRetN, sExpr, sIf, sNext, sBreak, sCont, sFor, getS, setS, wipeS, endsD, asKeys, toKey, List.length_cons, List.length_nil, List.set_cons_zero, List.set_cons_succ, List.set_nil, Nat.zero_add, Nat.reduceAdd, Option.some.injEq, exists_and_left, exists_eq_left', exists_eq_left, id_eq, if_true, if_false, ite_true, ite_false, Bool.not_true, Bool.not_false, Bool.false_eq_true, not_false_eq_true, not_true_eq_false, reduceCtorEq, true_and, and_true, ne_eq, decide_eq_true_eq, isiN, isiCls, List.mem_cons, String.reduceEq, String.reduceBEq, or_true, true_or, or_false, false_or, Bool.or_true, Bool.true_or, Bool.false_or, Bool.or_false, Bool.and_false, Bool.false_and, Bool.true_and, Bool.and_true, beq_self_eq_true, decide_true, decide_false, c_places_text_1]
    exact str_num h k
  · intro p hp
    exact listed_spec updS_same (nums_wo hn hl) fun S' g => q _ ((Gr.new hp).trans g)
/-! calls -/
def clW (c : Cl) : Str := Txt.join ":" [c.h, c.b, numS c.n]
theorem cl_cat (c : Cl) : c.h ++ ":" ++ c.b ++ ":" ++ numS c.n = clW c := by
  apply TL.ext_tl
  unfold clW
  rw [TL.join_eq, TL.tl_join, TL.tl_append, TL.tl_append, TL.tl_append, TL.tl_append]
  simp only [TL.joinL, List.map_cons, List.map_nil, List.append_assoc]
theorem join_len (y : Str) (l : List Str) : (Txt.join y l).length = (TL.joinL (TL.tl y) (l.map TL.tl)).length := by rw [TL.len_tl, join_tl]
theorem clW_len {c : Cl} (h : c.ok) : (clW c).length ≤ 80 := by
  have h1 := h.h.hi
  have h2 := h.b.hi
  have h3 := numS_len h.n1
  have e : (":" : Str).length = 1 := by decide +kernel
  rw [← cl_cat, TL.len_tl, TL.tl_append, TL.tl_append, TL.tl_append, TL.tl_append]
  simp only [List.length_append, ← TL.len_tl]
  omega
theorem cls_wo {cs : List Cl} (h : ClsOk cs) : Wo (cs.map clW) := ⟨by rw [List.length_map]; have := h.le; omega, fun z hz => by
  obtain ⟨c, hc, rfl⟩ := List.mem_map.mp hz
  have := clW_len (h.ok c hc)
  omega⟩
theorem cls_lc {cs : List Cl} {stab : Sto → Prop} {elt : DE} {g : DG} {σ : DL.Env} {S : Sto} {K : List DL.D → Sto → Prop} (e : ∀ S', Gr S S' → stab S') (h : ClsOk cs)
    (he : ∀ (c : Cl) (S' : Sto) (N : List DL.D → Sto → Prop) (acc : List DL.D), c.ok → Gr S S' → acc.length ≤ 100 → (∀ S2, Gr S' S2 → N (acc ++ [.str (clW c)]) S2) → g c.D σ S' fun σ1 S1 => elt σ1 S1 fun v S2 => acc.length < sizeLine ∧ N (acc ++ [v]) S2)
    (k : ∀ S', Gr S S' → K ((cs.map clW).map .str) S') : lcL stab g tsYes elt σ K (cs.map Cl.D) [] S := by
  refine lcL_inv _ (fun i acc S' => Gr S S' ∧ acc = ((cs.map clW).take i).map .str) (fun i acc S' hI => e _ hI.1) (fun i x acc S' N hxi ⟨g1, ea⟩ hN => ?el) (fun acc S' ⟨g1, ea⟩ => ?fin) ⟨.refl, by simp⟩
  case el =>
    have hi := (List.getElem?_eq_some_iff.mp hxi).1
    rw [List.length_map] at hi
    rw [List.getElem?_map, List.getElem?_eq_getElem hi] at hxi
    injection hxi with hxi
    subst hxi
    refine he cs[i] S' N acc (h.ok _ (List.getElem_mem hi)) g1 (by rw [ea, List.length_map, List.length_take, List.length_map]; have := h.le; omega) fun S2 g2 => hN _ _ ⟨g1.trans g2, ?_⟩
    rw [ea, List.take_add_one, List.getElem?_map, List.getElem?_eq_getElem hi, List.map_append]
    rfl
  case fin =>
    rw [List.length_map, List.take_of_length_le (by rw [List.length_map]; exact Nat.le_refl _)] at ea
    subst ea
    exact k _ g1
theorem wcalling_text_spec {a : Addr} {cs : List Cl} {S : Sto} {Q : DK} (e : S a = some (.lst (cs.map Cl.D))) (h : ClsOk cs) (q : ∀ S', Gr S S' → Q (.str (lsS (cs.map clW))) S') : m_wcalling_text [.ref a] S Q := by
  rw [e_wcalling_text]
  simp (config := {implicitDefEqProofs := false, proj := false}) only [R_pp9, xS, xIf, xSet, xRet, xExpr, xRaise, eCallX, mNo, xE, sTry, sKeep, xFor, eVar, eC, eOp, eIf, eTup, eLst, eDict0, eDict, eSl, oNo, eCall, eCB, eM, eLc, eIsi2, aNil, aCons, pNil, pCons, tAndD, tOrD, tNotD, tsYes, gMns, gMod, gFdiv, gPow, gLe, gGt, gGe, sAsg, nName, sRet, sRetN, sExpr, sIf, sNext, sBreak, sCont, sFor, getS, setS, wipeS, endsD, asKeys, toKey, List.length_cons, List.length_nil, List.set_cons_zero, List.set_cons_succ, List.set_nil, Nat.zero_add, Nat.reduceAdd, Option.some.injEq, exists_and_left, exists_eq_left', exists_eq_left, id_eq, if_true, if_false, ite_true, ite_false, Bool.not_true, Bool.not_false, Bool.false_eq_true, not_false_eq_true, not_true_eq_false, reduceCtorEq, true_and, and_true, ne_eq, decide_eq_true_eq, isiN, isiCls, List.mem_cons, String.reduceEq, String.reduceBEq, or_true, true_or, or_false, false_or, Bool.or_true, Bool.true_or, Bool.false_or, Bool.or_false, Bool.and_false, Bool.false_and, Bool.true_and, Bool.and_true, beq_self_eq_true, decide_true, decide_false, b_wcalling_text, e]
  refine ⟨_, rfl, ?_⟩
  refine cls_lc (fun S' g => g _ _ e) h (fun c S' N acc hc g hl k => ?_) fun S' g p hp => wlisted_spec updS_same (cls_wo h) fun S2 g2 => q _ (g.trans ((Gr.new hp).trans g2))
  rw [show Cl.D c = .tup [.str c.h, .str c.b, .int (c.n : Nat)] from rfl]
  simp (config := {implicitDefEqProofs := false, proj := false}) only [R_pp9, xS, xIf, xSet, xRet, xExpr, xRaise, eCallX, mNo, xE, sTry, sKeep, xFor, eVar, eC, eOp, eIf, eTup, eLst, eDict0, eDict, eSl, oNo, eCall, eCB, eM, eLc, eIsi2, aNil, aCons, pNil, pCons, tAndD, tOrD, tNotD, tsYes, gMns, gMod, gFdiv, gPow, gLe, gGt, gGe, sAsg, nName, sRet, sRetN, sExpr, sIf, sNext, sBreak, sCont, sFor, getS, setS, wipeS, endsD, asKeys, toKey, List.length_cons, List.length_nil, List.set_cons_zero, List.set_cons_succ, List.set_nil, Nat.zero_add, Nat.reduceAdd, Option.some.injEq, exists_and_left, exists_eq_left', exists_eq_left, id_eq, if_true, if_false, ite_true, ite_false, Bool.not_true, Bool.not_false, Bool.false_eq_true, not_false_eq_true, not_true_eq_false, reduceCtorEq, true_and, and_true, ne_eq, decide_eq_true_eq, isiN, isiCls, List.mem_cons, String.reduceEq, String.reduceBEq, or_true, true_or, or_false, false_or, Bool.or_true, Bool.true_or, Bool.false_or, Bool.or_false, Bool.and_false, Bool.false_and, Bool.true_and, Bool.and_true, beq_self_eq_true, decide_true, decide_false, c_wcalling_text_1]
  have h1 := hc.h.hi
  have h2 := hc.b.hi
  have h3 := numS_len hc.n1
  have e1 : (":" : Str).length = 1 := by decide +kernel
  have L : ∀ a b : Str, (a ++ b).length = a.length + b.length := fun a b => by rw [TL.len_tl, TL.tl_append, List.length_append, ← TL.len_tl, ← TL.len_tl]
  refine ⟨small_line (by omega), ⟨small_line (by rw [L]; omega), ⟨small_line (by rw [L, L]; omega), num_log hc.n1, small_line (by rw [L, L, L]; exact (by omega : c.h.length + (":" : Str).length + c.b.length + (":" : Str).length + (numS c.n).length ≤ 100000)), line_of (by omega), ?_⟩⟩⟩
  have := k _ .refl
  rw [← cl_cat] at this
  exact this
theorem calling_text_spec {a : Addr} {cs : List Cl} {S : Sto} {Q : DK} (e : S a = some (.lst (cs.map Cl.D))) (h : ClsOk cs) (q : ∀ S', Gr S S' → Q (.str (lsS (cs.map clW))) S') : m_calling_text [.ref a] S Q := by
  rw [e_calling_text]
  simp (config := {implicitDefEqProofs := false, proj := false}) only [R_pp9, xS, xIf, xSet, xRet, xExpr, xRaise, eCallX, mNo, xE, sTry, sKeep, xFor, eVar, eC, eOp, eIf, eTup, eLst, eDict0, eDict, eSl, oNo, eCall, eCB, eM, eLc, eIsi2, aNil, aCons, pNil, pCons, tAndD, tOrD, tNotD, tsYes, gMns, gMod, gFdiv, gPow, gLe, gGt, gGe, sAsg, nName, sRet, sRetN, sExpr, sIf, sNext, sBreak, sCont, sFor, getS, setS, wipeS, endsD, asKeys, toKey, List.length_cons, List.length_nil, List.set_cons_zero, List.set_cons_succ, List.set_nil, Nat.zero_add, Nat.reduceAdd, Option.some.injEq, exists_and_left, exists_eq_left', exists_eq_left, id_eq, if_true, if_false, ite_true, ite_false, Bool.not_true, Bool.not_false, Bool.false_eq_true, not_false_eq_true, not_true_eq_false, reduceCtorEq, true_and, and_true, ne_eq, decide_eq_true_eq, isiN, isiCls, List.mem_cons, String.reduceEq, String.reduceBEq, or_true, true_or, or_false, false_or, Bool.or_true, Bool.true_or, Bool.false_or, Bool.or_false, Bool.and_false, Bool.false_and, Bool.true_and, Bool.and_true, beq_self_eq_true, decide_true, decide_false, b_calling_text, e]
  refine ⟨_, rfl, ?_⟩
  refine cls_lc (fun S' g => g _ _ e) h (fun c S' N acc hc g hl k => ?_) fun S' g p hp => listed_spec updS_same (cls_wo h) fun S2 g2 => q _ (g.trans ((Gr.new hp).trans g2))
  rw [show Cl.D c = .tup [.str c.h, .str c.b, .int (c.n : Nat)] from rfl]
  simp (config := {implicitDefEqProofs := false, proj := false}) only [R_pp9, xS, xIf, xSet, xRet, xExpr, xRaise, eCallX, mNo, xE, sTry, sKeep, xFor, eVar, eC, eOp, eIf, eTup, eLst, eDict0, eDict, eSl, oNo, eCall, eCB, eM, eLc, eIsi2, aNil, aCons, pNil, pCons, tAndD, tOrD, tNotD, tsYes, gMns, gMod, gFdiv, gPow, gLe, gGt, gGe, sAsg, nName, sRet, sRetN, sExpr, sIf, sNext, sBreak, sCont, sFor, getS, setS, wipeS, endsD, asKeys, toKey, List.length_cons, List.length_nil, List.set_cons_zero, List.set_cons_succ, List.set_nil, Nat.zero_add, Nat.reduceAdd, Option.some.injEq, exists_and_left, exists_eq_left', exists_eq_left, id_eq, if_true, if_false, ite_true, ite_false, Bool.not_true, Bool.not_false, Bool.false_eq_true, not_false_eq_true, not_true_eq_false, reduceCtorEq, true_and, and_true, ne_eq, decide_eq_true_eq, isiN, isiCls, List.mem_cons, String.reduceEq, String.reduceBEq, or_true, true_or, or_false, false_or, Bool.or_true, Bool.true_or, Bool.false_or, Bool.or_false, Bool.and_false, Bool.false_and, Bool.true_and, Bool.and_true, beq_self_eq_true, decide_true, decide_false, c_calling_text_1]
  refine ⟨num_log hc.n1, by decide, fun p hp => ⟨[c.h, c.b, numS c.n], updS_same, ?_, line_of (by omega), k _ (.new hp)⟩⟩
  have h1 := hc.h.hi
  have h2 := hc.b.hi
  have h3 := numS_len hc.n1
  have e1 : (":" : Str).length = 1 := by decide +kernel
  rw [e1]
  show (c.h.length + (c.b.length + ((numS c.n).length + 0))) + 3 * 1 ≤ _
  omega
/-! links -/
def orD : Option Str → Str
  | none => "-"
  | some z => z
def lkW (x : Lk) : Str := Txt.join ":" [orD x.r, x.l, x.h]
theorem orD_len {x : Lk} (h : x.ok) : (orD x.r).length ≤ 8 := by
  cases e : x.r with
  | none => decide +kernel
  | some z => exact (h.r z e).hi
theorem lk_sum {x : Lk} (h : x.ok) : (([orD x.r, x.l, x.h].map (·.length)).sum + [orD x.r, x.l, x.h].length * (":" : Str).length) ≤ 16777216 := by
  have h1 := orD_len h
  have h2 := h.l.hi
  have h3 := h.h.hi
  have e1 : (":" : Str).length = 1 := by decide +kernel
  rw [e1]
  show ((orD x.r).length + (x.l.length + (x.h.length + 0))) + 3 * 1 ≤ _
  omega
theorem lkW_len {x : Lk} (h : x.ok) : (lkW x).length ≤ 80 := by
  have h1 := orD_len h
  have h2 := h.l.hi
  have h3 := h.h.hi
  have e1 : (":" : Str).length = 1 := by decide +kernel
  unfold lkW
  rw [join_len]
  simp only [TL.joinL, List.map_cons, List.map_nil, List.length_append, ← TL.len_tl]
  omega
theorem lks_wo {ls : List Lk} (h : ChOk ls) (hl : ls.length ≤ 9) : Wo (ls.map lkW) := ⟨by rw [List.length_map]; omega, fun z hz => by
  obtain ⟨c, hc, rfl⟩ := List.mem_map.mp hz
  have := lkW_len (h.ok c hc)
  omega⟩
def chS (ls : List Lk) : Str := Txt.join " " (ls.map lkW)
theorem non_oD (o : Option Str) : isNon (oD o) = o.isNone := by cases o <;> rfl
theorem wchain_text_spec {a : Addr} {ls : List Lk} {S : Sto} {Q : DK} (e : S a = some (.lst (ls.map Lk.D))) (h : ChOk ls) (hl : ls.length ≤ 9) (q : ∀ S', Gr S S' → Q (.str (chS ls)) S') : m_wchain_text [.ref a] S Q := by
  rw [e_wchain_text]
  simp (config := {implicitDefEqProofs := false, proj := false}) only [R_pp9, xS, xIf, xSet, xRet, xExpr, xRaise, eCallX, mNo, xE, sTry, sKeep, xFor, eVar, eC, eOp, eIf, eTup, eLst, eDict0, eDict, eSl, oNo, eCall, eCB, eM, eLc, eIsi2, aNil, aCons, pNil, pCons, tAndD, tOrD, tNotD, tsYes, gMns, gMod, gFdiv, gPow, gLe, gGt, gGe, sAsg, nName, sRet, sRetN, sExpr, sIf, sNext, sBreak, sCont, sFor, getS, setS, wipeS, endsD, asKeys, toKey, List.length_cons, List.length_nil, List.set_cons_zero, List.set_cons_succ, List.set_nil, Nat.zero_add, Nat.reduceAdd, Option.some.injEq, exists_and_left, exists_eq_left', exists_eq_left, id_eq, if_true, if_false, ite_true, ite_false, Bool.not_true, Bool.not_false, Bool.false_eq_true, not_false_eq_true, not_true_eq_false, reduceCtorEq, true_and, and_true, ne_eq, decide_eq_true_eq, isiN, isiCls, List.mem_cons, String.reduceEq, String.reduceBEq, or_true, true_or, or_false, false_or, Bool.or_true, Bool.true_or, Bool.false_or, Bool.or_false, Bool.and_false, Bool.false_and, Bool.true_and, Bool.and_true, beq_self_eq_true, decide_true, decide_false, b_wchain_text, e]
  refine ⟨_, rfl, ?_⟩
  refine lcL_inv _ (fun i acc S' => Gr S S' ∧ acc = ((ls.map lkW).take i).map .str) (fun i acc S' hI => hI.1 _ _ e) (fun i x acc S' N hxi ⟨g1, ea⟩ hN => ?el) (fun acc S' ⟨g1, ea⟩ => ?fin) ⟨.refl, by simp⟩
  case el =>
    have hi := (List.getElem?_eq_some_iff.mp hxi).1
    rw [List.length_map] at hi
    rw [List.getElem?_map, List.getElem?_eq_getElem hi] at hxi
    injection hxi with hxi
    subst hxi
    have ok := h.ok _ (List.getElem_mem hi)
    rw [show Lk.D ls[i] = .tup [oD ls[i].r, .str ls[i].l, .str ls[i].h] from rfl]
    simp (config := {implicitDefEqProofs := false, proj := false}) only [R_pp9, xS, xIf, xSet, xRet, xExpr, xRaise, eCallX, mNo, xE, sTry, sKeep, xFor, eVar, eC, eOp, eIf, eTup, eLst, eDict0, eDict, eSl, oNo, eCall, eCB, eM, eLc, eIsi2, aNil, aCons, pNil, pCons, tAndD, tOrD, tNotD, tsYes, gMns, gMod, gFdiv, gPow, gLe, gGt, gGe, sAsg, nName, sRet, sRetN, sExpr, sIf, sNext, sBreak, sCont, sFor, getS, setS, wipeS, endsD, asKeys, toKey, List.length_cons, List.length_nil, List.set_cons_zero, List.set_cons_succ, List.set_nil, Nat.zero_add, Nat.reduceAdd, Option.some.injEq, exists_and_left, exists_eq_left', exists_eq_left, id_eq, if_true, if_false, ite_true, ite_false, Bool.not_true, Bool.not_false, Bool.false_eq_true, not_false_eq_true, not_true_eq_false, reduceCtorEq, true_and, and_true, ne_eq, decide_eq_true_eq, isiN, isiCls, List.mem_cons, String.reduceEq, String.reduceBEq, or_true, true_or, or_false, false_or, Bool.or_true, Bool.true_or, Bool.false_or, Bool.or_false, Bool.and_false, Bool.false_and, Bool.true_and, Bool.and_true, beq_self_eq_true, decide_true, decide_false, c_wchain_text_1]
    have fin : ∀ p, S' p = none → updS S' p (.lst [.str (orD ls[i].r), .str ls[i].l, .str ls[i].h]) p = some (.lst ([orD ls[i].r, ls[i].l, ls[i].h].map .str)) := fun p _ => updS_same
    have hN2 : ∀ p, S' p = none → N (acc ++ [.str (lkW ls[i])]) (updS S' p (.lst [.str (orD ls[i].r), .str ls[i].l, .str ls[i].h])) := fun p hp => hN _ _ ⟨g1.trans (.new hp), by
      rw [ea, List.take_add_one, List.getElem?_map, List.getElem?_eq_getElem hi, List.map_append]
      rfl⟩
    have hz : acc.length < sizeLine := by rw [ea, List.length_map, List.length_take, List.length_map]; exact line_of (by omega)
    rw [non_oD]
    cases er : ls[i].r with
    | none =>
      rw [er] at fin hN2
      simp (config := {implicitDefEqProofs := false, proj := false}) only [R_pp9, xS, xIf, xSet, xRet, xExpr, xRaise, eCallX, mNo, xE, sTry, sKeep, xFor, eVar, eC, eOp, eIf, eTup, eLst, eDict0, eDict, eSl, oNo, eCall, eCB, eM, eLc, eIsi2, aNil, aCons, pNil, pCons, tAndD, tOrD, tNotD, tsYes, gMns, gMod, gFdiv, gPow, gLe, gGt, gGe, sAsg, nName, sRet, sRetN, sExpr, sIf, sNext, sBreak, sCont, sFor, getS, setS, wipeS, endsD, asKeys, toKey, List.length_cons, List.length_nil, List.set_cons_zero, List.set_cons_succ, List.set_nil, Nat.zero_add, Nat.reduceAdd, Option.some.injEq, exists_and_left, exists_eq_left', exists_eq_left, id_eq, if_true, if_false, ite_true, ite_false, Bool.not_true, Bool.not_false, Bool.false_eq_true, not_false_eq_true, not_true_eq_false, reduceCtorEq, true_and, and_true, ne_eq, decide_eq_true_eq, isiN, isiCls, List.mem_cons, String.reduceEq, String.reduceBEq, or_true, true_or, or_false, false_or, Bool.or_true, Bool.true_or, Bool.false_or, Bool.or_false, Bool.and_false, Bool.false_and, Bool.true_and, Bool.and_true, beq_self_eq_true, decide_true, decide_false, Option.isNone_none]
      refine ⟨by decide, fun p hp => ⟨_, fin p hp, ?_, hz, ?_⟩⟩
      · have := lk_sum ok
        rw [er] at this
        exact this
      · have := hN2 p hp
        unfold lkW at this
        rw [er] at this
        exact this
    | some z =>
      rw [er] at fin hN2
      simp (config := {implicitDefEqProofs := false, proj := false}) only [R_pp9, xS, xIf, xSet, xRet, xExpr, xRaise, eCallX, mNo, xE, sTry, sKeep, xFor, eVar, eC, eOp, eIf, eTup, eLst, eDict0, eDict, eSl, oNo, eCall, eCB, eM, eLc, eIsi2, aNil, aCons, pNil, pCons, tAndD, tOrD, tNotD, tsYes, gMns, gMod, gFdiv, gPow, gLe, gGt, gGe, sAsg, nName, sRet, sRetN, sExpr, sIf, sNext, sBreak, sCont, sFor, getS, setS, wipeS, endsD, asKeys, toKey, List.length_cons, List.length_nil, List.set_cons_zero, List.set_cons_succ, List.set_nil, Nat.zero_add, Nat.reduceAdd, Option.some.injEq, exists_and_left, exists_eq_left', exists_eq_left, id_eq, if_true, if_false, ite_true, ite_false, Bool.not_true, Bool.not_false, Bool.false_eq_true, not_false_eq_true, not_true_eq_false, reduceCtorEq, true_and, and_true, ne_eq, decide_eq_true_eq, isiN, isiCls, List.mem_cons, String.reduceEq, String.reduceBEq, or_true, true_or, or_false, false_or, Bool.or_true, Bool.true_or, Bool.false_or, Bool.or_false, Bool.and_false, Bool.false_and, Bool.true_and, Bool.and_true, beq_self_eq_true, decide_true, decide_false, Option.isNone_some]
      refine ⟨by decide, fun p hp => ⟨_, fin p hp, ?_, hz, ?_⟩⟩
      · have := lk_sum ok
        rw [er] at this
        exact this
      · have := hN2 p hp
        unfold lkW at this
        rw [er] at this
        exact this
  case fin =>
    rw [List.length_map, List.take_of_length_le (by rw [List.length_map]; exact Nat.le_refl _)] at ea
    subst ea
    intro p hp
    exact ⟨_, updS_same, (lks_wo h hl).sum (by decide), q _ (g1.trans (.new hp))⟩
theorem chain_text_spec {a : Addr} {ls : List Lk} {S : Sto} {Q : DK} (e : S a = some (.lst (ls.map Lk.D))) (h : ChOk ls) (hl : ls.length ≤ 9) (q : ∀ S', Gr S S' → Q (.str (chS ls)) S') : m_chain_text [.ref a] S Q := by
  rw [e_chain_text]
  refine seq_i ?_
  simp (config := {implicitDefEqProofs := false, proj := false}) only [R_pp9, xS, xIf, xSet, xRet, xExpr, xRaise, eCallX, mNo, xE, sTry, sKeep, xFor, eVar, eC, eOp, eIf, eTup, eLst, eDict0, eDict, eSl, oNo, eCall, eCB, eM, eLc, eIsi2, aNil, aCons, pNil, pCons, tAndD, tOrD, tNotD, tsYes, gMns, gMod, gFdiv, gPow, gLe, gGt, gGe, sAsg, nName, sRet, sRetN, sExpr, sIf, sNext, sBreak, sCont, sFor, getS, setS, wipeS, endsD, asKeys, toKey, List.length_cons, List.length_nil, List.set_cons_zero, List.set_cons_succ, List.set_nil, Nat.zero_add, Nat.reduceAdd, Option.some.injEq, exists_and_left, exists_eq_left', exists_eq_left, id_eq, if_true, if_false, ite_true, ite_false, Bool.not_true, Bool.not_false, Bool.false_eq_true, not_false_eq_true, not_true_eq_false, reduceCtorEq, true_and, and_true, ne_eq, decide_eq_true_eq, isiN, isiCls, List.mem_cons, String.reduceEq, String.reduceBEq, or_true, true_or, or_false, false_or, Bool.or_true, Bool.true_or, Bool.false_or, Bool.or_false, Bool.and_false, Bool.false_and, Bool.true_and, Bool.and_true, beq_self_eq_true, decide_true, decide_false]
  refine ⟨by decide, fun c hc => ?_⟩
  have g0 : Gr S (updS S c (.lst [])) := .new hc
  have e0 := g0 _ _ e
  have ec : updS S c (.lst []) c = some (.lst []) := updS_same
  have old : ∀ b o, S b = some o → updS S c (.lst []) b = some o := g0
  generalize updS S c (.lst []) = S0 at g0 e0 ec old
  simp (config := {implicitDefEqProofs := false, proj := false}) only [R_pp9, xS, xIf, xSet, xRet, xExpr, xRaise, eCallX, mNo, xE, sTry, sKeep, xFor, eVar, eC, eOp, eIf, eTup, eLst, eDict0, eDict, eSl, oNo, eCall, eCB, eM, eLc, eIsi2, aNil, aCons, pNil, pCons, tAndD, tOrD, tNotD, tsYes, gMns, gMod, gFdiv, gPow, gLe, gGt, gGe, sAsg, nName, sRet, sRetN, sExpr, sIf, sNext, sBreak, sCont, sFor, getS, setS, wipeS, endsD, asKeys, toKey, List.length_cons, List.length_nil, List.set_cons_zero, List.set_cons_succ, List.set_nil, Nat.zero_add, Nat.reduceAdd, Option.some.injEq, exists_and_left, exists_eq_left', exists_eq_left, id_eq, if_true, if_false, ite_true, ite_false, Bool.not_true, Bool.not_false, Bool.false_eq_true, not_false_eq_true, not_true_eq_false, reduceCtorEq, true_and, and_true, ne_eq, decide_eq_true_eq, isiN, isiCls, List.mem_cons, String.reduceEq, String.reduceBEq, or_true, true_or, or_false, false_or, Bool.or_true, Bool.true_or, Bool.false_or, Bool.or_false, Bool.and_false, Bool.false_and, Bool.true_and, Bool.and_true, beq_self_eq_true, decide_true, decide_false, t_chain_text_2]
  refine seq_i ?_
  simp (config := {implicitDefEqProofs := false, proj := false}) only [R_pp9, xS, xIf, xSet, xRet, xExpr, xRaise, eCallX, mNo, xE, sTry, sKeep, xFor, eVar, eC, eOp, eIf, eTup, eLst, eDict0, eDict, eSl, oNo, eCall, eCB, eM, eLc, eIsi2, aNil, aCons, pNil, pCons, tAndD, tOrD, tNotD, tsYes, gMns, gMod, gFdiv, gPow, gLe, gGt, gGe, sAsg, nName, sRet, sRetN, sExpr, sIf, sNext, sBreak, sCont, sFor, getS, setS, wipeS, endsD, asKeys, toKey, List.length_cons, List.length_nil, List.set_cons_zero, List.set_cons_succ, List.set_nil, Nat.zero_add, Nat.reduceAdd, Option.some.injEq, exists_and_left, exists_eq_left', exists_eq_left, id_eq, if_true, if_false, ite_true, ite_false, Bool.not_true, Bool.not_false, Bool.false_eq_true, not_false_eq_true, not_true_eq_false, reduceCtorEq, true_and, and_true, ne_eq, decide_eq_true_eq, isiN, isiCls, List.mem_cons, String.reduceEq, String.reduceBEq, or_true, true_or, or_false, false_or, Bool.or_true, Bool.true_or, Bool.false_or, Bool.or_false, Bool.and_false, Bool.false_and, Bool.true_and, Bool.and_true, beq_self_eq_true, decide_true, decide_false, e0]
  refine ⟨_, rfl, ?_⟩
  refine forL_inv _ (fun i σ S' => (∃ u2 u3 u4 u5, σ = [some (.ref a), some (.ref c), u2, u3, u4, u5]) ∧ Gr S S' ∧ S' c = some (.lst (((ls.map lkW).take i).map .str))) (fun i σ S' hI => hI.2.1 _ _ e) (fun i x σ S' N hxi hJ hN => ?turn) (fun σ S' hJ => ?fin) ⟨⟨none, none, none, none, rfl⟩, g0, by simpa using ec⟩
  case fin =>
    obtain ⟨⟨u2, u3, u4, u5, rfl⟩, g1, e1⟩ := hJ
    rw [List.length_map, List.take_of_length_le (by rw [List.length_map]; exact Nat.le_refl _)] at e1
    simp (config := {implicitDefEqProofs := false, proj := false}) only [R_pp9, xS, xIf, xSet, xRet, xExpr, xRaise, eCallX, mNo, xE, sTry, sKeep, xFor, eVar, eC, eOp, eIf, eTup, eLst, eDict0, eDict, eSl, oNo, eCall, eCB, eM, eLc, eIsi2, aNil, aCons, pNil, pCons, tAndD, tOrD, tNotD, tsYes, gMns, gMod, gFdiv, gPow, gLe, gGt, gGe, sAsg, nName, sRet, sRetN, sExpr, sIf, sNext, sBreak, sCont, sFor, getS, setS, wipeS, endsD, asKeys, toKey, List.length_cons, List.length_nil, List.set_cons_zero, List.set_cons_succ, List.set_nil, Nat.zero_add, Nat.reduceAdd, Option.some.injEq, exists_and_left, exists_eq_left', exists_eq_left, id_eq, if_true, if_false, ite_true, ite_false, Bool.not_true, Bool.not_false, Bool.false_eq_true, not_false_eq_true, not_true_eq_false, reduceCtorEq, true_and, and_true, ne_eq, decide_eq_true_eq, isiN, isiCls, List.mem_cons, String.reduceEq, String.reduceBEq, or_true, true_or, or_false, false_or, Bool.or_true, Bool.true_or, Bool.false_or, Bool.or_false, Bool.and_false, Bool.false_and, Bool.true_and, Bool.and_true, beq_self_eq_true, decide_true, decide_false, t_chain_text_7]
    exact ⟨_, e1, (lks_wo h hl).sum (by decide), q _ g1⟩
  case turn =>
    obtain ⟨⟨u2, u3, u4, u5, rfl⟩, g1, e1⟩ := hJ
    have hi := (List.getElem?_eq_some_iff.mp hxi).1
    rw [List.length_map] at hi
    rw [List.getElem?_map, List.getElem?_eq_getElem hi] at hxi
    injection hxi with hxi
    subst hxi
    have ok := h.ok _ (List.getElem_mem hi)
    unfold l_chain_text_2
    rw [show Lk.D ls[i] = .tup [oD ls[i].r, .str ls[i].l, .str ls[i].h] from rfl]
    simp (config := {implicitDefEqProofs := false, proj := false}) only [R_pp9, xS, xIf, xSet, xRet, xExpr, xRaise, eCallX, mNo, xE, sTry, sKeep, xFor, eVar, eC, eOp, eIf, eTup, eLst, eDict0, eDict, eSl, oNo, eCall, eCB, eM, eLc, eIsi2, aNil, aCons, pNil, pCons, tAndD, tOrD, tNotD, tsYes, gMns, gMod, gFdiv, gPow, gLe, gGt, gGe, sAsg, nName, sRet, sRetN, sExpr, sIf, sNext, sBreak, sCont, sFor, getS, setS, wipeS, endsD, asKeys, toKey, List.length_cons, List.length_nil, List.set_cons_zero, List.set_cons_succ, List.set_nil, Nat.zero_add, Nat.reduceAdd, Option.some.injEq, exists_and_left, exists_eq_left', exists_eq_left, id_eq, if_true, if_false, ite_true, ite_false, Bool.not_true, Bool.not_false, Bool.false_eq_true, not_false_eq_true, not_true_eq_false, reduceCtorEq, true_and, and_true, ne_eq, decide_eq_true_eq, isiN, isiCls, List.mem_cons, String.reduceEq, String.reduceBEq, or_true, true_or, or_false, false_or, Bool.or_true, Bool.true_or, Bool.false_or, Bool.or_false, Bool.and_false, Bool.false_and, Bool.true_and, Bool.and_true, beq_self_eq_true, decide_true, decide_false]
    refine seq_i ?_
    simp (config := {implicitDefEqProofs := false, proj := false}) only [R_pp9, xS, xIf, xSet, xRet, xExpr, xRaise, eCallX, mNo, xE, sTry, sKeep, xFor, eVar, eC, eOp, eIf, eTup, eLst, eDict0, eDict, eSl, oNo, eCall, eCB, eM, eLc, eIsi2, aNil, aCons, pNil, pCons, tAndD, tOrD, tNotD, tsYes, gMns, gMod, gFdiv, gPow, gLe, gGt, gGe, sAsg, nName, sRet, sRetN, sExpr, sIf, sNext, sBreak, sCont, sFor, getS, setS, wipeS, endsD, asKeys, toKey, List.length_cons, List.length_nil, List.set_cons_zero, List.set_cons_succ, List.set_nil, Nat.zero_add, Nat.reduceAdd, Option.some.injEq, exists_and_left, exists_eq_left', exists_eq_left, id_eq, if_true, if_false, ite_true, ite_false, Bool.not_true, Bool.not_false, Bool.false_eq_true, not_false_eq_true, not_true_eq_false, reduceCtorEq, true_and, and_true, ne_eq, decide_eq_true_eq, isiN, isiCls, List.mem_cons, String.reduceEq, String.reduceBEq, or_true, true_or, or_false, false_or, Bool.or_true, Bool.true_or, Bool.false_or, Bool.or_false, Bool.and_false, Bool.false_and, Bool.true_and, Bool.and_true, beq_self_eq_true, decide_true, decide_false]
    have fin : ∀ z, z = orD ls[i].r → t_chain_text_6 ⟨N, fun x S => Q x S, N, N⟩ [some (.ref a), some (.ref c), some (oD ls[i].r), some (.str ls[i].l), some (.str ls[i].h), some (.str z)] S' := fun z hz => by
      subst hz
      simp (config := {implicitDefEqProofs := false, proj := false}) only [R_pp9, xS, xIf, xSet, xRet, xExpr, xRaise, eCallX, mNo, xE, sTry, sKeep, xFor, eVar, eC, eOp, eIf, eTup, eLst, eDict0, eDict, eSl, oNo, eCall, eCB, eM, eLc, eIsi2, aNil, aCons, pNil, pCons, tAndD, tOrD, tNotD, tsYes, gMns, gMod, gFdiv, gPow, gLe, gGt, gGe, sAsg, nName, sRet, sRetN, sExpr, sIf, sNext, sBreak, sCont, sFor, getS, setS, wipeS, endsD, asKeys, toKey, List.length_cons, List.length_nil, List.set_cons_zero, List.set_cons_succ, List.set_nil, Nat.zero_add, Nat.reduceAdd, Option.some.injEq, exists_and_left, exists_eq_left', exists_eq_left, id_eq, if_true, if_false, ite_true, ite_false, Bool.not_true, Bool.not_false, Bool.false_eq_true, not_false_eq_true, not_true_eq_false, reduceCtorEq, true_and, and_true, ne_eq, decide_eq_true_eq, isiN, isiCls, List.mem_cons, String.reduceEq, String.reduceBEq, or_true, true_or, or_false, false_or, Bool.or_true, Bool.true_or, Bool.false_or, Bool.or_false, Bool.and_false, Bool.false_and, Bool.true_and, Bool.and_true, beq_self_eq_true, decide_true, decide_false, t_chain_text_6, e1]
      refine ⟨by decide, fun p hp => ⟨[orD ls[i].r, ls[i].l, ls[i].h], updS_same, lk_sum ok, _, (Gr.new hp) _ _ e1, ?_, hN _ _ ⟨⟨_, _, _, _, rfl⟩, ?_, ?_⟩⟩⟩
      · rw [List.length_map, List.length_take, List.length_map]
        exact line_of (by omega)
      · intro b o hb
        rw [updS_ne (fun z => by subst z; rw [hc] at hb; cases hb)]
        exact (g1.trans (.new hp)) _ _ hb
      · rw [updS_same, List.take_add_one, List.getElem?_map, List.getElem?_eq_getElem hi, List.map_append]
        rfl
    unfold t_chain_text_4
    refine seq_i ?_
    simp (config := {implicitDefEqProofs := false, proj := false}) only [R_pp9, xS, xIf, xSet, xRet, xExpr, xRaise, eCallX, mNo, xE, sTry, sKeep, xFor, eVar, eC, eOp, eIf, eTup, eLst, eDict0, eDict, eSl, oNo, eCall, eCB, eM, eLc, eIsi2, aNil, aCons, pNil, pCons, tAndD, tOrD, tNotD, tsYes, gMns, gMod, gFdiv, gPow, gLe, gGt, gGe, sAsg, nName, sRet, sRetN, sExpr, sIf, sNext, sBreak, sCont, sFor, getS, setS, wipeS, endsD, asKeys, toKey, List.length_cons, List.length_nil, List.set_cons_zero, List.set_cons_succ, List.set_nil, Nat.zero_add, Nat.reduceAdd, Option.some.injEq, exists_and_left, exists_eq_left', exists_eq_left, id_eq, if_true, if_false, ite_true, ite_false, Bool.not_true, Bool.not_false, Bool.false_eq_true, not_false_eq_true, not_true_eq_false, reduceCtorEq, true_and, and_true, ne_eq, decide_eq_true_eq, isiN, isiCls, List.mem_cons, String.reduceEq, String.reduceBEq, or_true, true_or, or_false, false_or, Bool.or_true, Bool.true_or, Bool.false_or, Bool.or_false, Bool.and_false, Bool.false_and, Bool.true_and, Bool.and_true, beq_self_eq_true, decide_true, decide_false]
    rw [non_oD]
    cases er : ls[i].r with
    | none =>
      rw [er] at fin
      simp (config := {implicitDefEqProofs := false, proj := false}) only [R_pp9, xS, xIf, xSet, xRet, xExpr, xRaise, eCallX, mNo, xE, sTry, sKeep, xFor, eVar, eC, eOp, eIf, eTup, eLst, eDict0, eDict, eSl, oNo, eCall, eCB, eM, eLc, eIsi2, aNil, aCons, pNil, pCons, tAndD, tOrD, tNotD, tsYes, gMns, gMod, gFdiv, gPow, gLe, gGt, gGe, sAsg, nName, sRet, sRetN, sExpr, sIf, sNext, sBreak, sCont, sFor, getS, setS, wipeS, endsD, asKeys, toKey, List.length_cons, List.length_nil, List.set_cons_zero, List.set_cons_succ, List.set_nil, Nat.zero_add, Nat.reduceAdd, Option.some.injEq, exists_and_left, exists_eq_left', exists_eq_left, id_eq, if_true, if_false, ite_true, ite_false, Bool.not_true, Bool.not_false, Bool.false_eq_true, not_false_eq_true, not_true_eq_false, reduceCtorEq, true_and, and_true, ne_eq, decide_eq_true_eq, isiN, isiCls, List.mem_cons, String.reduceEq, String.reduceBEq, or_true, true_or, or_false, false_or, Bool.or_true, Bool.true_or, Bool.false_or, Bool.or_false, Bool.and_false, Bool.false_and, Bool.true_and, Bool.and_true, beq_self_eq_true, decide_true, decide_false, Option.isNone_none]
      exact fin _ rfl
    | some z =>
      rw [er] at fin
      simp (config := {implicitDefEqProofs := false, proj := false}) only [R_pp9, xS, xIf, xSet, xRet, xExpr, xRaise, eCallX, mNo, xE, sTry, sKeep, xFor, eVar, eC, eOp, eIf, eTup, eLst, eDict0, eDict, eSl, oNo, eCall, eCB, eM, eLc, eIsi2, aNil, aCons, pNil, pCons, tAndD, tOrD, tNotD, tsYes, gMns, gMod, gFdiv, gPow, gLe, gGt, gGe, sAsg, nName, sRet, sRetN, sExpr, sIf, sNext, sBreak, sCont, sFor, getS, setS, wipeS, endsD, asKeys, toKey, List.length_cons, List.length_nil, List.set_cons_zero, List.set_cons_succ, List.set_nil, Nat.zero_add, Nat.reduceAdd, Option.some.injEq, exists_and_left, exists_eq_left', exists_eq_left, id_eq, if_true, if_false, ite_true, ite_false, Bool.not_true, Bool.not_false, Bool.false_eq_true, not_false_eq_true, not_true_eq_false, reduceCtorEq, true_and, and_true, ne_eq, decide_eq_true_eq, isiN, isiCls, List.mem_cons, String.reduceEq, String.reduceBEq, or_true, true_or, or_false, false_or, Bool.or_true, Bool.true_or, Bool.false_or, Bool.or_false, Bool.and_false, Bool.false_and, Bool.true_and, Bool.and_true, beq_self_eq_true, decide_true, decide_false, Option.isNone_some]
      exact fin _ rfl
end LW
namespace LW
open PySem L2 DL
theorem nm_free {z : Str} (h : Nm z) {c : Nat} (hc : c < 97) : c ∉ TL.tl z := fun hm => by
  have := (h.lt c hm).1
  omega
theorem tl_bl : TL.tl (" " : Str) = [32] := by decide +kernel
theorem tl_co : TL.tl (":" : Str) = [58] := by decide +kernel
theorem tl_da : TL.tl ("-" : Str) = [45] := by decide +kernel
/-- words without blanks or points -/
def Wp (zs : List Str) : Prop := ∀ z ∈ zs, 32 ∉ TL.tl z ∧ 46 ∉ TL.tl z
theorem Wp.split {zs : List Str} (h : Wp zs) (hn : zs ≠ []) : Txt.split (Txt.join " " zs) " " = zs :=
  TL.split_join (s := 32) (S := []) tl_bl (by decide +kernel) hn fun p hp => (h p hp).1
theorem Wp.pt {zs : List Str} (h : Wp zs) (hn : zs ≠ []) : Txt.join " " zs ≠ "." := fun e => by
  have h1 : 46 ∉ TL.joinL (TL.tl " ") (zs.map TL.tl) := joinL_mem (by rw [tl_bl]; decide) fun p hp => by
    obtain ⟨z, hz, rfl⟩ := List.mem_map.mp hp
    exact (h z hz).2
  rw [← join_tl, e] at h1
  exact h1 (by decide +kernel)
theorem joined_len {zs : List Str} (h : Wo zs) : (Txt.join " " zs).length ≤ 11000 := by
  rw [join_len]
  have h1 := joinL_le (S := TL.tl " ") (k := 100) (ps := zs.map TL.tl) fun p hp => by
    obtain ⟨z, hz, rfl⟩ := List.mem_map.mp hp
    have := h.sh z hz
    rw [TL.len_tl] at this
    exact this
  rw [tl_bl, List.length_map] at h1
  have h2 := h.le
  rw [tl_bl]
  have h3 : zs.length * (100 + [32].length) ≤ 100 * 101 := Nat.mul_le_mul h2 (Nat.le_refl _)
  omega
theorem need_str {z : Str} {S : Sto} {Q : DK} (q : Q .non S) : m_need_text [.str z] S Q := by
  rw [e_need_text]
  simp (config := {implicitDefEqProofs := false, proj := false}) only [R_pp9, xS, xIf, xSet, xRet, xExpr, xRaise, eCallX, mNo, xE, sTry, sKeep, xFor, eVar, eC, eOp, eIf, eTup, eLst, eDict0, eDict, eSl, oNo, eCall, eCB, eM, eLc, eIsi2, aNil, aCons, pNil, pCons, tAndD, tOrD, tNotD, tsYes, gMns, gMod, gFdiv, gPow, gLe, gGt, gGe, sAsg, nName, sRet, sRetN, sExpr, sIf, sNext, sBreak, sCont, sFor, getS, setS, wipeS, endsD, asKeys, toKey, List.length_cons, List.length_nil, List.set_cons_zero, List.set_cons_succ, List.set_nil, Nat.zero_add, Nat.reduceAdd, Option.some.injEq, exists_and_left, exists_eq_left', exists_eq_left, id_eq, if_true, if_false, ite_true, ite_false, Bool.not_true, Bool.not_false, Bool.false_eq_true, not_false_eq_true, not_true_eq_false, reduceCtorEq, true_and, and_true, ne_eq, decide_eq_true_eq, isiN, isiCls, List.mem_cons, String.reduceEq, String.reduceBEq, or_true, true_or, or_false, false_or, Bool.or_true, Bool.true_or, Bool.false_or, Bool.or_false, Bool.and_false, Bool.false_and, Bool.true_and, Bool.and_true, beq_self_eq_true, decide_true, decide_false, b_need_text]
  exact q
theorem words_in_spec {zs : List Str} (h : Wo zs) (hp : Wp zs) {S : Sto} {Q : DK} (q : ∀ (c : Addr) (S' : Sto), S c = none → Gr S S' → S' c = some (.lst (zs.map .str)) → Q (.ref c) S') : m_words_in [.str (lsS zs)] S Q := by
  rw [e_words_in]
  refine seq_i ?_
  simp (config := {implicitDefEqProofs := false, proj := false}) only [R_pp9, xS, xIf, xSet, xRet, xExpr, xRaise, eCallX, mNo, xE, sTry, sKeep, xFor, eVar, eC, eOp, eIf, eTup, eLst, eDict0, eDict, eSl, oNo, eCall, eCB, eM, eLc, eIsi2, aNil, aCons, pNil, pCons, tAndD, tOrD, tNotD, tsYes, gMns, gMod, gFdiv, gPow, gLe, gGt, gGe, sAsg, nName, sRet, sRetN, sExpr, sIf, sNext, sBreak, sCont, sFor, getS, setS, wipeS, endsD, asKeys, toKey, List.length_cons, List.length_nil, List.set_cons_zero, List.set_cons_succ, List.set_nil, Nat.zero_add, Nat.reduceAdd, Option.some.injEq, exists_and_left, exists_eq_left', exists_eq_left, id_eq, if_true, if_false, ite_true, ite_false, Bool.not_true, Bool.not_false, Bool.false_eq_true, not_false_eq_true, not_true_eq_false, reduceCtorEq, true_and, and_true, ne_eq, decide_eq_true_eq, isiN, isiCls, List.mem_cons, String.reduceEq, String.reduceBEq, or_true, true_or, or_false, false_or, Bool.or_true, Bool.true_or, Bool.false_or, Bool.or_false, Bool.and_false, Bool.false_and, Bool.true_and, Bool.and_true, beq_self_eq_true, decide_true, decide_false]
  refine need_str ?_
  simp (config := {implicitDefEqProofs := false, proj := false}) only [R_pp9, xS, xIf, xSet, xRet, xExpr, xRaise, eCallX, mNo, xE, sTry, sKeep, xFor, eVar, eC, eOp, eIf, eTup, eLst, eDict0, eDict, eSl, oNo, eCall, eCB, eM, eLc, eIsi2, aNil, aCons, pNil, pCons, tAndD, tOrD, tNotD, tsYes, gMns, gMod, gFdiv, gPow, gLe, gGt, gGe, sAsg, nName, sRet, sRetN, sExpr, sIf, sNext, sBreak, sCont, sFor, getS, setS, wipeS, endsD, asKeys, toKey, List.length_cons, List.length_nil, List.set_cons_zero, List.set_cons_succ, List.set_nil, Nat.zero_add, Nat.reduceAdd, Option.some.injEq, exists_and_left, exists_eq_left', exists_eq_left, id_eq, if_true, if_false, ite_true, ite_false, Bool.not_true, Bool.not_false, Bool.false_eq_true, not_false_eq_true, not_true_eq_false, reduceCtorEq, true_and, and_true, ne_eq, decide_eq_true_eq, isiN, isiCls, List.mem_cons, String.reduceEq, String.reduceBEq, or_true, true_or, or_false, false_or, Bool.or_true, Bool.true_or, Bool.false_or, Bool.or_false, Bool.and_false, Bool.false_and, Bool.true_and, Bool.and_true, beq_self_eq_true, decide_true, decide_false, t_words_in_2]
  refine seq_i ?_
  simp (config := {implicitDefEqProofs := false, proj := false}) only [R_pp9, xS, xIf, xSet, xRet, xExpr, xRaise, eCallX, mNo, xE, sTry, sKeep, xFor, eVar, eC, eOp, eIf, eTup, eLst, eDict0, eDict, eSl, oNo, eCall, eCB, eM, eLc, eIsi2, aNil, aCons, pNil, pCons, tAndD, tOrD, tNotD, tsYes, gMns, gMod, gFdiv, gPow, gLe, gGt, gGe, sAsg, nName, sRet, sRetN, sExpr, sIf, sNext, sBreak, sCont, sFor, getS, setS, wipeS, endsD, asKeys, toKey, List.length_cons, List.length_nil, List.set_cons_zero, List.set_cons_succ, List.set_nil, Nat.zero_add, Nat.reduceAdd, Option.some.injEq, exists_and_left, exists_eq_left', exists_eq_left, id_eq, if_true, if_false, ite_true, ite_false, Bool.not_true, Bool.not_false, Bool.false_eq_true, not_false_eq_true, not_true_eq_false, reduceCtorEq, true_and, and_true, ne_eq, decide_eq_true_eq, isiN, isiCls, List.mem_cons, String.reduceEq, String.reduceBEq, or_true, true_or, or_false, false_or, Bool.or_true, Bool.true_or, Bool.false_or, Bool.or_false, Bool.and_false, Bool.false_and, Bool.true_and, Bool.and_true, beq_self_eq_true, decide_true, decide_false]
  by_cases hn : zs = []
  · subst hn
    rw [if_pos (show lsS [] = "." from rfl)]
    exact ⟨by decide, fun c hc => q c _ hc (.new hc) updS_same⟩
  · have e : lsS zs = Txt.join " " zs := by unfold lsS; rw [if_neg hn]
    rw [e, if_neg (hp.pt hn)]
    simp (config := {implicitDefEqProofs := false, proj := false}) only [R_pp9, xS, xIf, xSet, xRet, xExpr, xRaise, eCallX, mNo, xE, sTry, sKeep, xFor, eVar, eC, eOp, eIf, eTup, eLst, eDict0, eDict, eSl, oNo, eCall, eCB, eM, eLc, eIsi2, aNil, aCons, pNil, pCons, tAndD, tOrD, tNotD, tsYes, gMns, gMod, gFdiv, gPow, gLe, gGt, gGe, sAsg, nName, sRet, sRetN, sExpr, sIf, sNext, sBreak, sCont, sFor, getS, setS, wipeS, endsD, asKeys, toKey, List.length_cons, List.length_nil, List.set_cons_zero, List.set_cons_succ, List.set_nil, Nat.zero_add, Nat.reduceAdd, Option.some.injEq, exists_and_left, exists_eq_left', exists_eq_left, id_eq, if_true, if_false, ite_true, ite_false, Bool.not_true, Bool.not_false, Bool.false_eq_true, not_false_eq_true, not_true_eq_false, reduceCtorEq, true_and, and_true, ne_eq, decide_eq_true_eq, isiN, isiCls, List.mem_cons, String.reduceEq, String.reduceBEq, or_true, true_or, or_false, false_or, Bool.or_true, Bool.true_or, Bool.false_or, Bool.or_false, Bool.and_false, Bool.false_and, Bool.true_and, Bool.and_true, beq_self_eq_true, decide_true, decide_false, t_words_in_4]
    refine ⟨by decide +kernel, small_line (by have := joined_len h; omega), fun c hc => ?_⟩
    rw [hp.split hn]
    exact q c _ hc (.new hc) updS_same
theorem names_l {p : Addr} {zs : List Str} (h : ∀ z ∈ zs, Nm z) (hl : zs.length ≤ 100) {S : Sto} {Q : DK} (e : S p = some (.lst (zs.map .str))) (q : ∀ S', Gr S S' → Q (.bl true) S') : m_are_names [.ref p] S Q := by
  rw [e_are_names]
  simp (config := {implicitDefEqProofs := false, proj := false}) only [R_pp9, xS, xIf, xSet, xRet, xExpr, xRaise, eCallX, mNo, xE, sTry, sKeep, xFor, eVar, eC, eOp, eIf, eTup, eLst, eDict0, eDict, eSl, oNo, eCall, eCB, eM, eLc, eIsi2, aNil, aCons, pNil, pCons, tAndD, tOrD, tNotD, tsYes, gMns, gMod, gFdiv, gPow, gLe, gGt, gGe, sAsg, nName, sRet, sRetN, sExpr, sIf, sNext, sBreak, sCont, sFor, getS, setS, wipeS, endsD, asKeys, toKey, List.length_cons, List.length_nil, List.set_cons_zero, List.set_cons_succ, List.set_nil, Nat.zero_add, Nat.reduceAdd, Option.some.injEq, exists_and_left, exists_eq_left', exists_eq_left, id_eq, if_true, if_false, ite_true, ite_false, Bool.not_true, Bool.not_false, Bool.false_eq_true, not_false_eq_true, not_true_eq_false, reduceCtorEq, true_and, and_true, ne_eq, decide_eq_true_eq, isiN, isiCls, List.mem_cons, String.reduceEq, String.reduceBEq, or_true, true_or, or_false, false_or, Bool.or_true, Bool.true_or, Bool.false_or, Bool.or_false, Bool.and_false, Bool.false_and, Bool.true_and, Bool.and_true, beq_self_eq_true, decide_true, decide_false, b_are_names, e]
  refine ⟨_, rfl, ?_⟩
  refine lcL_inv _ (fun i acc S' => Gr S S' ∧ acc = ((zs.map fun _ => true).take i).map .bl) (fun i acc S' hI => hI.1 _ _ e) (fun i x acc S' N hx ⟨g, ea⟩ hN => ?el) (fun acc S' ⟨g, ea⟩ => ?fin) ⟨.refl, by simp⟩
  case el =>
    have hi := (List.getElem?_eq_some_iff.mp hx).1
    rw [List.length_map] at hi
    rw [List.getElem?_map, List.getElem?_eq_getElem hi] at hx
    injection hx with hx
    subst hx
    simp (config := {implicitDefEqProofs := false, proj := false}) only [R_pp9, xS, xIf, xSet, xRet, xExpr, xRaise, eCallX, mNo, xE, sTry, sKeep, xFor, eVar, eC, eOp, eIf, eTup, eLst, eDict0, eDict, eSl, oNo, eCall, eCB, eM, eLc, eIsi2, aNil, aCons, pNil, pCons, tAndD, tOrD, tNotD, tsYes, gMns, gMod, gFdiv, gPow, gLe, gGt, gGe, sAsg, nName, sRet, sRetN, sExpr, sIf, sNext, sBreak, sCont, sFor, getS, setS, wipeS, endsD, asKeys, toKey, List.length_cons, List.length_nil, List.set_cons_zero, List.set_cons_succ, List.set_nil, Nat.zero_add, Nat.reduceAdd, Option.some.injEq, exists_and_left, exists_eq_left', exists_eq_left, id_eq, if_true, if_false, ite_true, ite_false, Bool.not_true, Bool.not_false, Bool.false_eq_true, not_false_eq_true, not_true_eq_false, reduceCtorEq, true_and, and_true, ne_eq, decide_eq_true_eq, isiN, isiCls, List.mem_cons, String.reduceEq, String.reduceBEq, or_true, true_or, or_false, false_or, Bool.or_true, Bool.true_or, Bool.false_or, Bool.or_false, Bool.and_false, Bool.false_and, Bool.true_and, Bool.and_true, beq_self_eq_true, decide_true, decide_false, c_are_names_1]
    refine isn_nm (h _ (List.getElem_mem hi)) fun S2 g2 => ⟨by rw [ea, List.length_map, List.length_take, List.length_map]; exact line_of (by omega), hN _ _ ⟨g.trans g2, ?_⟩⟩
    rw [ea, List.take_add_one, List.getElem?_map, List.getElem?_eq_getElem hi, List.map_append]
    rfl
  case fin =>
    rw [List.length_map, List.take_of_length_le (by rw [List.length_map]; exact Nat.le_refl _)] at ea
    intro p2 hp2
    refine ⟨_, by rw [updS_same, ea], ?_⟩
    rw [show ((zs.map fun _ => true).all id) = true by rw [List.all_map, List.all_eq_true]; exact fun _ _ => rfl]
    exact q _ (g.trans (.new hp2))
structure NsOk (zs : List Str) : Prop where
  nm : ∀ z ∈ zs, Nm z
  le : zs.length ≤ 50
theorem NsOk.wo {zs : List Str} (h : NsOk zs) : Wo zs := ⟨by have := h.le; omega, fun z hz => by have := (h.nm z hz).hi; omega⟩
theorem NsOk.wp {zs : List Str} (h : NsOk zs) : Wp zs := fun z hz => ⟨nm_free (h.nm z hz) (by decide), nm_free (h.nm z hz) (by decide)⟩
theorem read_names_spec {zs : List Str} (h : NsOk zs) (hr : Rise zs) {S : Sto} {Q : DK} (q : ∀ (c : Addr) (S' : Sto), S c = none → Gr S S' → S' c = some (.lst (zs.map .str)) → Q (.ref c) S') : m_read_names [.str (lsS zs)] S Q := by
  rw [e_read_names]
  refine seq_i ?_
  simp (config := {implicitDefEqProofs := false, proj := false}) only [R_pp9, xS, xIf, xSet, xRet, xExpr, xRaise, eCallX, mNo, xE, sTry, sKeep, xFor, eVar, eC, eOp, eIf, eTup, eLst, eDict0, eDict, eSl, oNo, eCall, eCB, eM, eLc, eIsi2, aNil, aCons, pNil, pCons, tAndD, tOrD, tNotD, tsYes, gMns, gMod, gFdiv, gPow, gLe, gGt, gGe, sAsg, nName, sRet, sRetN, sExpr, sIf, sNext, sBreak, sCont, sFor, getS, setS, wipeS, endsD, asKeys, toKey, List.length_cons, List.length_nil, List.set_cons_zero, List.set_cons_succ, List.set_nil, Nat.zero_add, Nat.reduceAdd, Option.some.injEq, exists_and_left, exists_eq_left', exists_eq_left, id_eq, if_true, if_false, ite_true, ite_false, Bool.not_true, Bool.not_false, Bool.false_eq_true, not_false_eq_true, not_true_eq_false, reduceCtorEq, true_and, and_true, ne_eq, decide_eq_true_eq, isiN, isiCls, List.mem_cons, String.reduceEq, String.reduceBEq, or_true, true_or, or_false, false_or, Bool.or_true, Bool.true_or, Bool.false_or, Bool.or_false, Bool.and_false, Bool.false_and, Bool.true_and, Bool.and_true, beq_self_eq_true, decide_true, decide_false]
  refine words_in_spec h.wo h.wp fun c S1 hc g1 e1 => ?_
  simp (config := {implicitDefEqProofs := false, proj := false}) only [R_pp9, xS, xIf, xSet, xRet, xExpr, xRaise, eCallX, mNo, xE, sTry, sKeep, xFor, eVar, eC, eOp, eIf, eTup, eLst, eDict0, eDict, eSl, oNo, eCall, eCB, eM, eLc, eIsi2, aNil, aCons, pNil, pCons, tAndD, tOrD, tNotD, tsYes, gMns, gMod, gFdiv, gPow, gLe, gGt, gGe, sAsg, nName, sRet, sRetN, sExpr, sIf, sNext, sBreak, sCont, sFor, getS, setS, wipeS, endsD, asKeys, toKey, List.length_cons, List.length_nil, List.set_cons_zero, List.set_cons_succ, List.set_nil, Nat.zero_add, Nat.reduceAdd, Option.some.injEq, exists_and_left, exists_eq_left', exists_eq_left, id_eq, if_true, if_false, ite_true, ite_false, Bool.not_true, Bool.not_false, Bool.false_eq_true, not_false_eq_true, not_true_eq_false, reduceCtorEq, true_and, and_true, ne_eq, decide_eq_true_eq, isiN, isiCls, List.mem_cons, String.reduceEq, String.reduceBEq, or_true, true_or, or_false, false_or, Bool.or_true, Bool.true_or, Bool.false_or, Bool.or_false, Bool.and_false, Bool.false_and, Bool.true_and, Bool.and_true, beq_self_eq_true, decide_true, decide_false, t_read_names_2]
  refine seq_i ?_
  simp (config := {implicitDefEqProofs := false, proj := false}) only [R_pp9, xS, xIf, xSet, xRet, xExpr, xRaise, eCallX, mNo, xE, sTry, sKeep, xFor, eVar, eC, eOp, eIf, eTup, eLst, eDict0, eDict, eSl, oNo, eCall, eCB, eM, eLc, eIsi2, aNil, aCons, pNil, pCons, tAndD, tOrD, tNotD, tsYes, gMns, gMod, gFdiv, gPow, gLe, gGt, gGe, sAsg, nName, sRet, sRetN, sExpr, sIf, sNext, sBreak, sCont, sFor, getS, setS, wipeS, endsD, asKeys, toKey, List.length_cons, List.length_nil, List.set_cons_zero, List.set_cons_succ, List.set_nil, Nat.zero_add, Nat.reduceAdd, Option.some.injEq, exists_and_left, exists_eq_left', exists_eq_left, id_eq, if_true, if_false, ite_true, ite_false, Bool.not_true, Bool.not_false, Bool.false_eq_true, not_false_eq_true, not_true_eq_false, reduceCtorEq, true_and, and_true, ne_eq, decide_eq_true_eq, isiN, isiCls, List.mem_cons, String.reduceEq, String.reduceBEq, or_true, true_or, or_false, false_or, Bool.or_true, Bool.true_or, Bool.false_or, Bool.or_false, Bool.and_false, Bool.false_and, Bool.true_and, Bool.and_true, beq_self_eq_true, decide_true, decide_false]
  refine names_l h.nm (by have := h.le; omega) e1 fun S2 g2 => ?_
  simp (config := {implicitDefEqProofs := false, proj := false}) only [R_pp9, xS, xIf, xSet, xRet, xExpr, xRaise, eCallX, mNo, xE, sTry, sKeep, xFor, eVar, eC, eOp, eIf, eTup, eLst, eDict0, eDict, eSl, oNo, eCall, eCB, eM, eLc, eIsi2, aNil, aCons, pNil, pCons, tAndD, tOrD, tNotD, tsYes, gMns, gMod, gFdiv, gPow, gLe, gGt, gGe, sAsg, nName, sRet, sRetN, sExpr, sIf, sNext, sBreak, sCont, sFor, getS, setS, wipeS, endsD, asKeys, toKey, List.length_cons, List.length_nil, List.set_cons_zero, List.set_cons_succ, List.set_nil, Nat.zero_add, Nat.reduceAdd, Option.some.injEq, exists_and_left, exists_eq_left', exists_eq_left, id_eq, if_true, if_false, ite_true, ite_false, Bool.not_true, Bool.not_false, Bool.false_eq_true, not_false_eq_true, not_true_eq_false, reduceCtorEq, true_and, and_true, ne_eq, decide_eq_true_eq, isiN, isiCls, List.mem_cons, String.reduceEq, String.reduceBEq, or_true, true_or, or_false, false_or, Bool.or_true, Bool.true_or, Bool.false_or, Bool.or_false, Bool.and_false, Bool.false_and, Bool.true_and, Bool.and_true, beq_self_eq_true, decide_true, decide_false]
  refine rising_l (g2 _ _ e1) hr (by have := h.le; omega) fun S3 g3 => ?_
  simp (config := {implicitDefEqProofs := false, proj := false}) only [R_pp9, xS, xIf, xSet, xRet, xExpr, xRaise, eCallX, mNo, xE, sTry, sKeep, xFor, eVar, eC, eOp, eIf, eTup, eLst, eDict0, eDict, eSl, oNo, eCall, eCB, eM, eLc, eIsi2, aNil, aCons, pNil, pCons, tAndD, tOrD, tNotD, tsYes, gMns, gMod, gFdiv, gPow, gLe, gGt, gGe, sAsg, nName, sRet, sRetN, sExpr, sIf, sNext, sBreak, sCont, sFor, getS, setS, wipeS, endsD, asKeys, toKey, List.length_cons, List.length_nil, List.set_cons_zero, List.set_cons_succ, List.set_nil, Nat.zero_add, Nat.reduceAdd, Option.some.injEq, exists_and_left, exists_eq_left', exists_eq_left, id_eq, if_true, if_false, ite_true, ite_false, Bool.not_true, Bool.not_false, Bool.false_eq_true, not_false_eq_true, not_true_eq_false, reduceCtorEq, true_and, and_true, ne_eq, decide_eq_true_eq, isiN, isiCls, List.mem_cons, String.reduceEq, String.reduceBEq, or_true, true_or, or_false, false_or, Bool.or_true, Bool.true_or, Bool.false_or, Bool.or_false, Bool.and_false, Bool.false_and, Bool.true_and, Bool.and_true, beq_self_eq_true, decide_true, decide_false, t_read_names_4]
  exact q c S3 hc (g1.trans (g2.trans g3)) (g3 _ _ (g2 _ _ e1))
/-! calls -/
theorem cl_parts {c : Cl} (h : c.ok) : Txt.split (clW c) ":" = [c.h, c.b, numS c.n] :=
  TL.split_join (s := 58) (S := []) tl_co (by decide +kernel) (by simp) fun p hp => by
    simp only [List.mem_cons, List.not_mem_nil, or_false] at hp
    rcases hp with rfl | rfl | rfl
    · exact nm_free h.h (by decide)
    · exact nm_free h.b (by decide)
    · rw [TL.tl, num_tl]; exact TL.numL_free (.inr (by decide))
theorem clW_no {c : Cl} (h : c.ok) {s : Nat} (hs : s < 48) : s ∉ TL.tl (clW c) := by
  unfold clW
  rw [join_tl]
  refine joinL_mem (by rw [tl_co]; simp; omega) fun p hp => ?_
  simp only [List.map_cons, List.map_nil, List.mem_cons, List.not_mem_nil, or_false] at hp
  rcases hp with rfl | rfl | rfl
  · exact nm_free h.h (by omega)
  · exact nm_free h.b (by omega)
  · rw [TL.tl, num_tl]; exact TL.numL_free (.inl (by omega))
theorem cls_wp {cs : List Cl} (h : ClsOk cs) : Wp (cs.map clW) := fun z hz => by
  obtain ⟨c, hc, rfl⟩ := List.mem_map.mp hz
  exact ⟨clW_no (h.ok c hc) (by decide), clW_no (h.ok c hc) (by decide)⟩
def c2 (c : Cl) : DL.D := .tup [.str c.h, .str c.b]
theorem rise_c {p : Addr} {cs : List Cl} {S : Sto} {Q : DK} (e : S p = some (.lst (cs.map c2))) (h : ClsOk cs) (q : ∀ S', Gr S S' → Q (.bl true) S') : m_is_rising [.ref p] S Q := by
  rw [e_is_rising]
  simp (config := {implicitDefEqProofs := false, proj := false}) only [R_pp9, xS, xIf, xSet, xRet, xExpr, xRaise, eCallX, mNo, xE, sTry, sKeep, xFor, eVar, eC, eOp, eIf, eTup, eLst, eDict0, eDict, eSl, oNo, eCall, eCB, eM, eLc, eIsi2, aNil, aCons, pNil, pCons, tAndD, tOrD, tNotD, tsYes, gMns, gMod, gFdiv, gPow, gLe, gGt, gGe, sAsg, nName, sRet, sRetN, sExpr, sIf, sNext, sBreak, sCont, sFor, getS, setS, wipeS, endsD, asKeys, toKey, List.length_cons, List.length_nil, List.set_cons_zero, List.set_cons_succ, List.set_nil, Nat.zero_add, Nat.reduceAdd, Option.some.injEq, exists_and_left, exists_eq_left', exists_eq_left, id_eq, if_true, if_false, ite_true, ite_false, Bool.not_true, Bool.not_false, Bool.false_eq_true, not_false_eq_true, not_true_eq_false, reduceCtorEq, true_and, and_true, ne_eq, decide_eq_true_eq, isiN, isiCls, List.mem_cons, String.reduceEq, String.reduceBEq, or_true, true_or, or_false, false_or, Bool.or_true, Bool.true_or, Bool.false_or, Bool.or_false, Bool.and_false, Bool.false_and, Bool.true_and, Bool.and_true, beq_self_eq_true, decide_true, decide_false, b_is_rising, e]
  refine ⟨_, rfl, fun n hn => ?_⟩
  have ct : cutL (cs.map c2) (some 1) none = cs.tail.map c2 := by
    have := cutL_from (cs.map c2) 1
    rw [show (((1 : Nat) : Int)) = 1 from rfl] at this
    rw [this, List.drop_one, List.map_tail]
  rw [ct]
  have hpn := neS e hn
  refine ⟨cs.map c2, by rw [updS_ne hpn]; exact e, cs.tail.map c2, updS_same, ?_⟩
  refine lcL_map (fun _ => .bl true) _ ⟨by rw [updS_ne hpn]; exact e, updS_same⟩ (small_line ?_) (fun x hx Q q => ?_) ?_
  · unfold pairs
    rw [List.length_map, List.length_zip, List.length_map]
    have := h.le
    omega
  · unfold pairs at hx
    obtain ⟨⟨a, b⟩, hab, rfl⟩ := List.mem_map.mp hx
    rw [List.zip_map] at hab
    obtain ⟨⟨x, y⟩, hxy, e⟩ := List.mem_map.mp hab
    cases e
    have hlt : Cl.lt x y := zip_tail_mem h.ri hxy
    simp (config := {implicitDefEqProofs := false, proj := false}) only [R_pp9, xS, xIf, xSet, xRet, xExpr, xRaise, eCallX, mNo, xE, sTry, sKeep, xFor, eVar, eC, eOp, eIf, eTup, eLst, eDict0, eDict, eSl, oNo, eCall, eCB, eM, eLc, eIsi2, aNil, aCons, pNil, pCons, tAndD, tOrD, tNotD, tsYes, gMns, gMod, gFdiv, gPow, gLe, gGt, gGe, sAsg, nName, sRet, sRetN, sExpr, sIf, sNext, sBreak, sCont, sFor, getS, setS, wipeS, endsD, asKeys, toKey, List.length_cons, List.length_nil, List.set_cons_zero, List.set_cons_succ, List.set_nil, Nat.zero_add, Nat.reduceAdd, Option.some.injEq, exists_and_left, exists_eq_left', exists_eq_left, id_eq, if_true, if_false, ite_true, ite_false, Bool.not_true, Bool.not_false, Bool.false_eq_true, not_false_eq_true, not_true_eq_false, reduceCtorEq, true_and, and_true, ne_eq, decide_eq_true_eq, isiN, isiCls, List.mem_cons, String.reduceEq, String.reduceBEq, or_true, true_or, or_false, false_or, Bool.or_true, Bool.true_or, Bool.false_or, Bool.or_false, Bool.and_false, Bool.false_and, Bool.true_and, Bool.and_true, beq_self_eq_true, decide_true, decide_false, c_is_rising_1]
    show gLt2 (c2 x) (c2 y) _ Q
    have e2 : PySem.W.dataLt (.tuple [.str x.h, .str x.b]) (.tuple [.str y.h, .str y.b]) = true := hlt
    refine ⟨_, _, .cons (.str _) (.cons (.str _) .nil), .cons (.str _) (.cons (.str _) .nil), by simp [PySem.W.alikeAll, PySem.W.alike], Nat.le_trans (Nat.le_of_eq (show _ = 1 from rfl)) (by decide), ?_⟩
    rw [e2]
    exact q
  · intro p2 hp2
    obtain ⟨bs, e1, e2⟩ := all_true (pairs (cs.map c2) (cs.tail.map c2))
    refine ⟨bs, by rw [updS_same, e1], ?_⟩
    rw [e2]
    exact q _ ((Gr.new hn).trans (.new hp2))
theorem read_calling_spec {cs : List Cl} (h : ClsOk cs) {S : Sto} {Q : DK} (q : ∀ (c : Addr) (S' : Sto), S c = none → Gr S S' → S' c = some (.lst (cs.map Cl.D)) → Q (.ref c) S') : m_read_calling [.str (lsS (cs.map clW))] S Q := by
  rw [e_read_calling]
  refine seq_i ?_
  simp (config := {implicitDefEqProofs := false, proj := false}) only [R_pp9, xS, xIf, xSet, xRet, xExpr, xRaise, eCallX, mNo, xE, sTry, sKeep, xFor, eVar, eC, eOp, eIf, eTup, eLst, eDict0, eDict, eSl, oNo, eCall, eCB, eM, eLc, eIsi2, aNil, aCons, pNil, pCons, tAndD, tOrD, tNotD, tsYes, gMns, gMod, gFdiv, gPow, gLe, gGt, gGe, sAsg, nName, sRet, sRetN, sExpr, sIf, sNext, sBreak, sCont, sFor, getS, setS, wipeS, endsD, asKeys, toKey, List.length_cons, List.length_nil, List.set_cons_zero, List.set_cons_succ, List.set_nil, Nat.zero_add, Nat.reduceAdd, Option.some.injEq, exists_and_left, exists_eq_left', exists_eq_left, id_eq, if_true, if_false, ite_true, ite_false, Bool.not_true, Bool.not_false, Bool.false_eq_true, not_false_eq_true, not_true_eq_false, reduceCtorEq, true_and, and_true, ne_eq, decide_eq_true_eq, isiN, isiCls, List.mem_cons, String.reduceEq, String.reduceBEq, or_true, true_or, or_false, false_or, Bool.or_true, Bool.true_or, Bool.false_or, Bool.or_false, Bool.and_false, Bool.false_and, Bool.true_and, Bool.and_true, beq_self_eq_true, decide_true, decide_false]
  refine ⟨by decide, fun c hc => ?_⟩
  have g0 : Gr S (updS S c (.lst [])) := .new hc
  have ec : updS S c (.lst []) c = some (.lst []) := updS_same
  generalize updS S c (.lst []) = S0 at g0 ec
  simp (config := {implicitDefEqProofs := false, proj := false}) only [R_pp9, xS, xIf, xSet, xRet, xExpr, xRaise, eCallX, mNo, xE, sTry, sKeep, xFor, eVar, eC, eOp, eIf, eTup, eLst, eDict0, eDict, eSl, oNo, eCall, eCB, eM, eLc, eIsi2, aNil, aCons, pNil, pCons, tAndD, tOrD, tNotD, tsYes, gMns, gMod, gFdiv, gPow, gLe, gGt, gGe, sAsg, nName, sRet, sRetN, sExpr, sIf, sNext, sBreak, sCont, sFor, getS, setS, wipeS, endsD, asKeys, toKey, List.length_cons, List.length_nil, List.set_cons_zero, List.set_cons_succ, List.set_nil, Nat.zero_add, Nat.reduceAdd, Option.some.injEq, exists_and_left, exists_eq_left', exists_eq_left, id_eq, if_true, if_false, ite_true, ite_false, Bool.not_true, Bool.not_false, Bool.false_eq_true, not_false_eq_true, not_true_eq_false, reduceCtorEq, true_and, and_true, ne_eq, decide_eq_true_eq, isiN, isiCls, List.mem_cons, String.reduceEq, String.reduceBEq, or_true, true_or, or_false, false_or, Bool.or_true, Bool.true_or, Bool.false_or, Bool.or_false, Bool.and_false, Bool.false_and, Bool.true_and, Bool.and_true, beq_self_eq_true, decide_true, decide_false, t_read_calling_2]
  refine seq_i ?_
  simp (config := {implicitDefEqProofs := false, proj := false}) only [R_pp9, xS, xIf, xSet, xRet, xExpr, xRaise, eCallX, mNo, xE, sTry, sKeep, xFor, eVar, eC, eOp, eIf, eTup, eLst, eDict0, eDict, eSl, oNo, eCall, eCB, eM, eLc, eIsi2, aNil, aCons, pNil, pCons, tAndD, tOrD, tNotD, tsYes, gMns, gMod, gFdiv, gPow, gLe, gGt, gGe, sAsg, nName, sRet, sRetN, sExpr, sIf, sNext, sBreak, sCont, sFor, getS, setS, wipeS, endsD, asKeys, toKey, List.length_cons, List.length_nil, List.set_cons_zero, List.set_cons_succ, List.set_nil, Nat.zero_add, Nat.reduceAdd, Option.some.injEq, exists_and_left, exists_eq_left', exists_eq_left, id_eq, if_true, if_false, ite_true, ite_false, Bool.not_true, Bool.not_false, Bool.false_eq_true, not_false_eq_true, not_true_eq_false, reduceCtorEq, true_and, and_true, ne_eq, decide_eq_true_eq, isiN, isiCls, List.mem_cons, String.reduceEq, String.reduceBEq, or_true, true_or, or_false, false_or, Bool.or_true, Bool.true_or, Bool.false_or, Bool.or_false, Bool.and_false, Bool.false_and, Bool.true_and, Bool.and_true, beq_self_eq_true, decide_true, decide_false]
  refine words_in_spec (cls_wo h) (cls_wp h) fun w S1 hw g1 e1 => ?_
  simp (config := {implicitDefEqProofs := false, proj := false}) only [R_pp9, xS, xIf, xSet, xRet, xExpr, xRaise, eCallX, mNo, xE, sTry, sKeep, xFor, eVar, eC, eOp, eIf, eTup, eLst, eDict0, eDict, eSl, oNo, eCall, eCB, eM, eLc, eIsi2, aNil, aCons, pNil, pCons, tAndD, tOrD, tNotD, tsYes, gMns, gMod, gFdiv, gPow, gLe, gGt, gGe, sAsg, nName, sRet, sRetN, sExpr, sIf, sNext, sBreak, sCont, sFor, getS, setS, wipeS, endsD, asKeys, toKey, List.length_cons, List.length_nil, List.set_cons_zero, List.set_cons_succ, List.set_nil, Nat.zero_add, Nat.reduceAdd, Option.some.injEq, exists_and_left, exists_eq_left', exists_eq_left, id_eq, if_true, if_false, ite_true, ite_false, Bool.not_true, Bool.not_false, Bool.false_eq_true, not_false_eq_true, not_true_eq_false, reduceCtorEq, true_and, and_true, ne_eq, decide_eq_true_eq, isiN, isiCls, List.mem_cons, String.reduceEq, String.reduceBEq, or_true, true_or, or_false, false_or, Bool.or_true, Bool.true_or, Bool.false_or, Bool.or_false, Bool.and_false, Bool.false_and, Bool.true_and, Bool.and_true, beq_self_eq_true, decide_true, decide_false, e1]
  refine ⟨_, rfl, ?_⟩
  have wc : w ≠ c := fun e => by rw [e, ec] at hw; cases hw
  refine forL_inv _ (fun i σ S' => (∃ u2 u3 u4, σ = [some (.str (lsS (cs.map clW))), some (.ref c), u2, u3, u4, none]) ∧ Gr S S' ∧ S' w = some (.lst ((cs.map clW).map .str)) ∧ S' c = some (.lst ((cs.take i).map Cl.D))) (fun i σ S' hI => hI.2.2.1) (fun i x σ S' N hxi hJ hN => ?turn) (fun σ S' hJ => ?fin) ⟨⟨none, none, none, rfl⟩, g0.trans g1, e1, by simpa using g1 _ _ ec⟩
  case fin =>
    obtain ⟨⟨u2, u3, u4, rfl⟩, g2, e2, e3⟩ := hJ
    rw [List.length_map, List.length_map, List.take_of_length_le (Nat.le_refl _)] at e3
    simp (config := {implicitDefEqProofs := false, proj := false}) only [R_pp9, xS, xIf, xSet, xRet, xExpr, xRaise, eCallX, mNo, xE, sTry, sKeep, xFor, eVar, eC, eOp, eIf, eTup, eLst, eDict0, eDict, eSl, oNo, eCall, eCB, eM, eLc, eIsi2, aNil, aCons, pNil, pCons, tAndD, tOrD, tNotD, tsYes, gMns, gMod, gFdiv, gPow, gLe, gGt, gGe, sAsg, nName, sRet, sRetN, sExpr, sIf, sNext, sBreak, sCont, sFor, getS, setS, wipeS, endsD, asKeys, toKey, List.length_cons, List.length_nil, List.set_cons_zero, List.set_cons_succ, List.set_nil, Nat.zero_add, Nat.reduceAdd, Option.some.injEq, exists_and_left, exists_eq_left', exists_eq_left, id_eq, if_true, if_false, ite_true, ite_false, Bool.not_true, Bool.not_false, Bool.false_eq_true, not_false_eq_true, not_true_eq_false, reduceCtorEq, true_and, and_true, ne_eq, decide_eq_true_eq, isiN, isiCls, List.mem_cons, String.reduceEq, String.reduceBEq, or_true, true_or, or_false, false_or, Bool.or_true, Bool.true_or, Bool.false_or, Bool.or_false, Bool.and_false, Bool.false_and, Bool.true_and, Bool.and_true, beq_self_eq_true, decide_true, decide_false, t_read_calling_10]
    refine seq_i ?_
    simp (config := {implicitDefEqProofs := false, proj := false}) only [R_pp9, xS, xIf, xSet, xRet, xExpr, xRaise, eCallX, mNo, xE, sTry, sKeep, xFor, eVar, eC, eOp, eIf, eTup, eLst, eDict0, eDict, eSl, oNo, eCall, eCB, eM, eLc, eIsi2, aNil, aCons, pNil, pCons, tAndD, tOrD, tNotD, tsYes, gMns, gMod, gFdiv, gPow, gLe, gGt, gGe, sAsg, nName, sRet, sRetN, sExpr, sIf, sNext, sBreak, sCont, sFor, getS, setS, wipeS, endsD, asKeys, toKey, List.length_cons, List.length_nil, List.set_cons_zero, List.set_cons_succ, List.set_nil, Nat.zero_add, Nat.reduceAdd, Option.some.injEq, exists_and_left, exists_eq_left', exists_eq_left, id_eq, if_true, if_false, ite_true, ite_false, Bool.not_true, Bool.not_false, Bool.false_eq_true, not_false_eq_true, not_true_eq_false, reduceCtorEq, true_and, and_true, ne_eq, decide_eq_true_eq, isiN, isiCls, List.mem_cons, String.reduceEq, String.reduceBEq, or_true, true_or, or_false, false_or, Bool.or_true, Bool.true_or, Bool.false_or, Bool.or_false, Bool.and_false, Bool.false_and, Bool.true_and, Bool.and_true, beq_self_eq_true, decide_true, decide_false, e3]
    refine ⟨_, rfl, ?_⟩
    refine lcL_map (fun d => match d with | .tup xs => .tup (xs.take 2) | _ => .non) _ e3 (small_line (by rw [List.length_map]; have := h.le; omega)) (fun x hx Q q => ?_) ?_
    · obtain ⟨y, hy, rfl⟩ := List.mem_map.mp hx
      rw [show Cl.D y = .tup [.str y.h, .str y.b, .int (y.n : Nat)] from rfl]
      simp (config := {implicitDefEqProofs := false, proj := false}) only [R_pp9, xS, xIf, xSet, xRet, xExpr, xRaise, eCallX, mNo, xE, sTry, sKeep, xFor, eVar, eC, eOp, eIf, eTup, eLst, eDict0, eDict, eSl, oNo, eCall, eCB, eM, eLc, eIsi2, aNil, aCons, pNil, pCons, tAndD, tOrD, tNotD, tsYes, gMns, gMod, gFdiv, gPow, gLe, gGt, gGe, sAsg, nName, sRet, sRetN, sExpr, sIf, sNext, sBreak, sCont, sFor, getS, setS, wipeS, endsD, asKeys, toKey, List.length_cons, List.length_nil, List.set_cons_zero, List.set_cons_succ, List.set_nil, Nat.zero_add, Nat.reduceAdd, Option.some.injEq, exists_and_left, exists_eq_left', exists_eq_left, id_eq, if_true, if_false, ite_true, ite_false, Bool.not_true, Bool.not_false, Bool.false_eq_true, not_false_eq_true, not_true_eq_false, reduceCtorEq, true_and, and_true, ne_eq, decide_eq_true_eq, isiN, isiCls, List.mem_cons, String.reduceEq, String.reduceBEq, or_true, true_or, or_false, false_or, Bool.or_true, Bool.true_or, Bool.false_or, Bool.or_false, Bool.and_false, Bool.false_and, Bool.true_and, Bool.and_true, beq_self_eq_true, decide_true, decide_false, c_read_calling_10]
      rw [show cutL [DL.D.str y.h, .str y.b, .int (y.n : Nat)] none (some 2) = [DL.D.str y.h, .str y.b] from cutL_to _ 2]
      exact q
    · intro p hp
      rw [List.map_map]
      refine rise_c (cs := cs) updS_same h fun S3 g3 => ?_
      simp (config := {implicitDefEqProofs := false, proj := false}) only [R_pp9, xS, xIf, xSet, xRet, xExpr, xRaise, eCallX, mNo, xE, sTry, sKeep, xFor, eVar, eC, eOp, eIf, eTup, eLst, eDict0, eDict, eSl, oNo, eCall, eCB, eM, eLc, eIsi2, aNil, aCons, pNil, pCons, tAndD, tOrD, tNotD, tsYes, gMns, gMod, gFdiv, gPow, gLe, gGt, gGe, sAsg, nName, sRet, sRetN, sExpr, sIf, sNext, sBreak, sCont, sFor, getS, setS, wipeS, endsD, asKeys, toKey, List.length_cons, List.length_nil, List.set_cons_zero, List.set_cons_succ, List.set_nil, Nat.zero_add, Nat.reduceAdd, Option.some.injEq, exists_and_left, exists_eq_left', exists_eq_left, id_eq, if_true, if_false, ite_true, ite_false, Bool.not_true, Bool.not_false, Bool.false_eq_true, not_false_eq_true, not_true_eq_false, reduceCtorEq, true_and, and_true, ne_eq, decide_eq_true_eq, isiN, isiCls, List.mem_cons, String.reduceEq, String.reduceBEq, or_true, true_or, or_false, false_or, Bool.or_true, Bool.true_or, Bool.false_or, Bool.or_false, Bool.and_false, Bool.false_and, Bool.true_and, Bool.and_true, beq_self_eq_true, decide_true, decide_false, t_read_calling_12]
      exact q c S3 hc (g2.trans ((Gr.new hp).trans g3)) (g3 _ _ ((Gr.new hp) _ _ e3))
  case turn =>
    obtain ⟨⟨u2, u3, u4, rfl⟩, g2, e2, e3⟩ := hJ
    have hi := (List.getElem?_eq_some_iff.mp hxi).1
    rw [List.length_map, List.length_map] at hi
    rw [List.getElem?_map, List.getElem?_map, List.getElem?_eq_getElem hi] at hxi
    injection hxi with hxi
    subst hxi
    have ok := h.ok _ (List.getElem_mem hi)
    unfold l_read_calling_2
    simp (config := {implicitDefEqProofs := false, proj := false}) only [R_pp9, xS, xIf, xSet, xRet, xExpr, xRaise, eCallX, mNo, xE, sTry, sKeep, xFor, eVar, eC, eOp, eIf, eTup, eLst, eDict0, eDict, eSl, oNo, eCall, eCB, eM, eLc, eIsi2, aNil, aCons, pNil, pCons, tAndD, tOrD, tNotD, tsYes, gMns, gMod, gFdiv, gPow, gLe, gGt, gGe, sAsg, nName, sRet, sRetN, sExpr, sIf, sNext, sBreak, sCont, sFor, getS, setS, wipeS, endsD, asKeys, toKey, List.length_cons, List.length_nil, List.set_cons_zero, List.set_cons_succ, List.set_nil, Nat.zero_add, Nat.reduceAdd, Option.some.injEq, exists_and_left, exists_eq_left', exists_eq_left, id_eq, if_true, if_false, ite_true, ite_false, Bool.not_true, Bool.not_false, Bool.false_eq_true, not_false_eq_true, not_true_eq_false, reduceCtorEq, true_and, and_true, ne_eq, decide_eq_true_eq, isiN, isiCls, List.mem_cons, String.reduceEq, String.reduceBEq, or_true, true_or, or_false, false_or, Bool.or_true, Bool.true_or, Bool.false_or, Bool.or_false, Bool.and_false, Bool.false_and, Bool.true_and, Bool.and_true, beq_self_eq_true, decide_true, decide_false]
    refine seq_i ?_
    simp (config := {implicitDefEqProofs := false, proj := false}) only [R_pp9, xS, xIf, xSet, xRet, xExpr, xRaise, eCallX, mNo, xE, sTry, sKeep, xFor, eVar, eC, eOp, eIf, eTup, eLst, eDict0, eDict, eSl, oNo, eCall, eCB, eM, eLc, eIsi2, aNil, aCons, pNil, pCons, tAndD, tOrD, tNotD, tsYes, gMns, gMod, gFdiv, gPow, gLe, gGt, gGe, sAsg, nName, sRet, sRetN, sExpr, sIf, sNext, sBreak, sCont, sFor, getS, setS, wipeS, endsD, asKeys, toKey, List.length_cons, List.length_nil, List.set_cons_zero, List.set_cons_succ, List.set_nil, Nat.zero_add, Nat.reduceAdd, Option.some.injEq, exists_and_left, exists_eq_left', exists_eq_left, id_eq, if_true, if_false, ite_true, ite_false, Bool.not_true, Bool.not_false, Bool.false_eq_true, not_false_eq_true, not_true_eq_false, reduceCtorEq, true_and, and_true, ne_eq, decide_eq_true_eq, isiN, isiCls, List.mem_cons, String.reduceEq, String.reduceBEq, or_true, true_or, or_false, false_or, Bool.or_true, Bool.true_or, Bool.false_or, Bool.or_false, Bool.and_false, Bool.false_and, Bool.true_and, Bool.and_true, beq_self_eq_true, decide_true, decide_false]
    refine ⟨by decide +kernel, small_line (by have := clW_len ok; show (clW cs[i]).length + 2 ≤ _; omega), fun p1 h1 => ?_⟩
    rw [show Txt.split (clW cs[i]) ":" = [cs[i].h, cs[i].b, numS cs[i].n] from cl_parts ok]
    have k1 : Gr S' (updS S' p1 (.lst ([cs[i].h, cs[i].b, numS cs[i].n].map .str))) := .new h1
    have ep : updS S' p1 (.lst ([cs[i].h, cs[i].b, numS cs[i].n].map .str)) p1 = some (.lst [.str cs[i].h, .str cs[i].b, .str (numS cs[i].n)]) := updS_same
    generalize updS S' p1 (.lst ([cs[i].h, cs[i].b, numS cs[i].n].map .str)) = S2 at k1 ep
    unfold t_read_calling_4
    refine seq_i ?_
    simp (config := {implicitDefEqProofs := false, proj := false}) only [R_pp9, xS, xIf, xSet, xRet, xExpr, xRaise, eCallX, mNo, xE, sTry, sKeep, xFor, eVar, eC, eOp, eIf, eTup, eLst, eDict0, eDict, eSl, oNo, eCall, eCB, eM, eLc, eIsi2, aNil, aCons, pNil, pCons, tAndD, tOrD, tNotD, tsYes, gMns, gMod, gFdiv, gPow, gLe, gGt, gGe, sAsg, nName, sRet, sRetN, sExpr, sIf, sNext, sBreak, sCont, sFor, getS, setS, wipeS, endsD, asKeys, toKey, List.length_cons, List.length_nil, List.set_cons_zero, List.set_cons_succ, List.set_nil, Nat.zero_add, Nat.reduceAdd, Option.some.injEq, exists_and_left, exists_eq_left', exists_eq_left, id_eq, if_true, if_false, ite_true, ite_false, Bool.not_true, Bool.not_false, Bool.false_eq_true, not_false_eq_true, not_true_eq_false, reduceCtorEq, true_and, and_true, ne_eq, decide_eq_true_eq, isiN, isiCls, List.mem_cons, String.reduceEq, String.reduceBEq, or_true, true_or, or_false, false_or, Bool.or_true, Bool.true_or, Bool.false_or, Bool.or_false, Bool.and_false, Bool.false_and, Bool.true_and, Bool.and_true, beq_self_eq_true, decide_true, decide_false, ep]
    refine ⟨_, rfl, fun p2 h2 => ?_⟩
    rw [show cutL [DL.D.str cs[i].h, .str cs[i].b, .str (numS cs[i].n)] none (some 2) = [cs[i].h, cs[i].b].map .str from cutL_to _ 2]
    refine names_l (zs := [cs[i].h, cs[i].b]) (fun z hz => ?_) (by show 2 ≤ 100; decide) updS_same fun S3 g3 => ?_
    · simp only [List.mem_cons, List.not_mem_nil, or_false] at hz
      rcases hz with rfl | rfl
      · exact ok.h
      · exact ok.b
    have k3 : Gr S2 S3 := (Gr.new h2).trans g3
    simp (config := {implicitDefEqProofs := false, proj := false}) only [R_pp9, xS, xIf, xSet, xRet, xExpr, xRaise, eCallX, mNo, xE, sTry, sKeep, xFor, eVar, eC, eOp, eIf, eTup, eLst, eDict0, eDict, eSl, oNo, eCall, eCB, eM, eLc, eIsi2, aNil, aCons, pNil, pCons, tAndD, tOrD, tNotD, tsYes, gMns, gMod, gFdiv, gPow, gLe, gGt, gGe, sAsg, nName, sRet, sRetN, sExpr, sIf, sNext, sBreak, sCont, sFor, getS, setS, wipeS, endsD, asKeys, toKey, List.length_cons, List.length_nil, List.set_cons_zero, List.set_cons_succ, List.set_nil, Nat.zero_add, Nat.reduceAdd, Option.some.injEq, exists_and_left, exists_eq_left', exists_eq_left, id_eq, if_true, if_false, ite_true, ite_false, Bool.not_true, Bool.not_false, Bool.false_eq_true, not_false_eq_true, not_true_eq_false, reduceCtorEq, true_and, and_true, ne_eq, decide_eq_true_eq, isiN, isiCls, List.mem_cons, String.reduceEq, String.reduceBEq, or_true, true_or, or_false, false_or, Bool.or_true, Bool.true_or, Bool.false_or, Bool.or_false, Bool.and_false, Bool.false_and, Bool.true_and, Bool.and_true, beq_self_eq_true, decide_true, decide_false, t_read_calling_6]
    refine seq_i ?_
    simp (config := {implicitDefEqProofs := false, proj := false}) only [R_pp9, xS, xIf, xSet, xRet, xExpr, xRaise, eCallX, mNo, xE, sTry, sKeep, xFor, eVar, eC, eOp, eIf, eTup, eLst, eDict0, eDict, eSl, oNo, eCall, eCB, eM, eLc, eIsi2, aNil, aCons, pNil, pCons, tAndD, tOrD, tNotD, tsYes, gMns, gMod, gFdiv, gPow, gLe, gGt, gGe, sAsg, nName, sRet, sRetN, sExpr, sIf, sNext, sBreak, sCont, sFor, getS, setS, wipeS, endsD, asKeys, toKey, List.length_cons, List.length_nil, List.set_cons_zero, List.set_cons_succ, List.set_nil, Nat.zero_add, Nat.reduceAdd, Option.some.injEq, exists_and_left, exists_eq_left', exists_eq_left, id_eq, if_true, if_false, ite_true, ite_false, Bool.not_true, Bool.not_false, Bool.false_eq_true, not_false_eq_true, not_true_eq_false, reduceCtorEq, true_and, and_true, ne_eq, decide_eq_true_eq, isiN, isiCls, List.mem_cons, String.reduceEq, String.reduceBEq, or_true, true_or, or_false, false_or, Bool.or_true, Bool.true_or, Bool.false_or, Bool.or_false, Bool.and_false, Bool.false_and, Bool.true_and, Bool.and_true, beq_self_eq_true, decide_true, decide_false, k3 _ _ ep]
    refine ⟨_, atI_nat (j := 2) rfl, ?_⟩
    refine number_spec_in (.num cs[i].n ok.n1) fun S4 g4 => ?_
    have k4 := k3.trans g4
    simp (config := {implicitDefEqProofs := false, proj := false}) only [R_pp9, xS, xIf, xSet, xRet, xExpr, xRaise, eCallX, mNo, xE, sTry, sKeep, xFor, eVar, eC, eOp, eIf, eTup, eLst, eDict0, eDict, eSl, oNo, eCall, eCB, eM, eLc, eIsi2, aNil, aCons, pNil, pCons, tAndD, tOrD, tNotD, tsYes, gMns, gMod, gFdiv, gPow, gLe, gGt, gGe, sAsg, nName, sRet, sRetN, sExpr, sIf, sNext, sBreak, sCont, sFor, getS, setS, wipeS, endsD, asKeys, toKey, List.length_cons, List.length_nil, List.set_cons_zero, List.set_cons_succ, List.set_nil, Nat.zero_add, Nat.reduceAdd, Option.some.injEq, exists_and_left, exists_eq_left', exists_eq_left, id_eq, if_true, if_false, ite_true, ite_false, Bool.not_true, Bool.not_false, Bool.false_eq_true, not_false_eq_true, not_true_eq_false, reduceCtorEq, true_and, and_true, ne_eq, decide_eq_true_eq, isiN, isiCls, List.mem_cons, String.reduceEq, String.reduceBEq, or_true, true_or, or_false, false_or, Bool.or_true, Bool.true_or, Bool.false_or, Bool.or_false, Bool.and_false, Bool.false_and, Bool.true_and, Bool.and_true, beq_self_eq_true, decide_true, decide_false, t_read_calling_7]
    refine seq_i ?_
    simp (config := {implicitDefEqProofs := false, proj := false}) only [R_pp9, xS, xIf, xSet, xRet, xExpr, xRaise, eCallX, mNo, xE, sTry, sKeep, xFor, eVar, eC, eOp, eIf, eTup, eLst, eDict0, eDict, eSl, oNo, eCall, eCB, eM, eLc, eIsi2, aNil, aCons, pNil, pCons, tAndD, tOrD, tNotD, tsYes, gMns, gMod, gFdiv, gPow, gLe, gGt, gGe, sAsg, nName, sRet, sRetN, sExpr, sIf, sNext, sBreak, sCont, sFor, getS, setS, wipeS, endsD, asKeys, toKey, List.length_cons, List.length_nil, List.set_cons_zero, List.set_cons_succ, List.set_nil, Nat.zero_add, Nat.reduceAdd, Option.some.injEq, exists_and_left, exists_eq_left', exists_eq_left, id_eq, if_true, if_false, ite_true, ite_false, Bool.not_true, Bool.not_false, Bool.false_eq_true, not_false_eq_true, not_true_eq_false, reduceCtorEq, true_and, and_true, ne_eq, decide_eq_true_eq, isiN, isiCls, List.mem_cons, String.reduceEq, String.reduceBEq, or_true, true_or, or_false, false_or, Bool.or_true, Bool.true_or, Bool.false_or, Bool.or_false, Bool.and_false, Bool.false_and, Bool.true_and, Bool.and_true, beq_self_eq_true, decide_true, decide_false]
    rw [if_neg (show ¬ ((cs[i].n : Nat) : Int) < 1 by have := ok.n0; omega)]
    simp (config := {implicitDefEqProofs := false, proj := false}) only [R_pp9, xS, xIf, xSet, xRet, xExpr, xRaise, eCallX, mNo, xE, sTry, sKeep, xFor, eVar, eC, eOp, eIf, eTup, eLst, eDict0, eDict, eSl, oNo, eCall, eCB, eM, eLc, eIsi2, aNil, aCons, pNil, pCons, tAndD, tOrD, tNotD, tsYes, gMns, gMod, gFdiv, gPow, gLe, gGt, gGe, sAsg, nName, sRet, sRetN, sExpr, sIf, sNext, sBreak, sCont, sFor, getS, setS, wipeS, endsD, asKeys, toKey, List.length_cons, List.length_nil, List.set_cons_zero, List.set_cons_succ, List.set_nil, Nat.zero_add, Nat.reduceAdd, Option.some.injEq, exists_and_left, exists_eq_left', exists_eq_left, id_eq, if_true, if_false, ite_true, ite_false, Bool.not_true, Bool.not_false, Bool.false_eq_true, not_false_eq_true, not_true_eq_false, reduceCtorEq, true_and, and_true, ne_eq, decide_eq_true_eq, isiN, isiCls, List.mem_cons, String.reduceEq, String.reduceBEq, or_true, true_or, or_false, false_or, Bool.or_true, Bool.true_or, Bool.false_or, Bool.or_false, Bool.and_false, Bool.false_and, Bool.true_and, Bool.and_true, beq_self_eq_true, decide_true, decide_false, t_read_calling_9, k4 _ _ ep, k4 _ _ (k1 _ _ e3)]
    refine ⟨_, rfl, ?_⟩
    have g4' : Gr S S4 := g2.trans (k1.trans k4)
    refine ⟨_, atI_nat (j := 1) rfl, by decide, _, rfl, by rw [List.length_map, List.length_take]; have := h.le; exact line_of (by omega), hN _ _ ⟨⟨_, _, _, rfl⟩, ?_, ?_, ?_⟩⟩
    · intro b o hb
      rw [updS_ne (fun z => by subst z; rw [hc] at hb; cases hb)]
      exact g4' _ _ hb
    · rw [updS_ne wc]
      exact k4 _ _ (k1 _ _ e2)
    · rw [updS_same, List.take_add_one, List.getElem?_eq_getElem hi, List.map_append]
      rfl
/-! chains -/
theorem orD_no {x : Lk} (h : x.ok) {s : Nat} (hs : s < 97) (h45 : s ≠ 45) : s ∉ TL.tl (orD x.r) := by
  cases e : x.r with
  | none => intro hm; rw [show orD none = ("-" : Str) from rfl, tl_da] at hm; simp at hm; exact h45 hm
  | some z => exact nm_free (h.r z e) hs
theorem lk_parts {x : Lk} (h : x.ok) : Txt.split (lkW x) ":" = [orD x.r, x.l, x.h] :=
  TL.split_join (s := 58) (S := []) tl_co (by decide +kernel) (by simp) fun p hp => by
    simp only [List.mem_cons, List.not_mem_nil, or_false] at hp
    rcases hp with rfl | rfl | rfl
    · exact orD_no h (by decide) (by decide)
    · exact nm_free h.l (by decide)
    · exact nm_free h.h (by decide)
theorem lkW_no {x : Lk} (h : x.ok) {s : Nat} (hs : s < 58) (h45 : s ≠ 45) : s ∉ TL.tl (lkW x) := by
  unfold lkW
  rw [join_tl]
  refine joinL_mem (by rw [tl_co]; simp; omega) fun p hp => ?_
  simp only [List.map_cons, List.map_nil, List.mem_cons, List.not_mem_nil, or_false] at hp
  rcases hp with rfl | rfl | rfl
  · exact orD_no h (by omega) h45
  · exact nm_free h.l (by omega)
  · exact nm_free h.h (by omega)
theorem nm_none : Nm "none" := ⟨by decide +kernel, by decide +kernel, by unfold Lt; decide +kernel⟩
theorem enum_el {l : List DL.D} {i : Nat} {x : DL.D} (h : (enumD l)[i]? = some x) : ∃ hi : i < l.length, x = .tup [.int (i : Nat), l[i]'hi] := by
  unfold enumD at h
  have hi := (List.getElem?_eq_some_iff.mp h).1
  rw [List.length_mapIdx] at hi
  rw [List.getElem?_mapIdx, List.getElem?_eq_getElem hi] at h
  injection h with h
  exact ⟨hi, h.symm⟩
end LW
namespace LW
open PySem L2 DL
theorem lks_wp {ls : List Lk} (h : ChOk ls) : Wp (ls.map lkW) := fun z hz => by
  obtain ⟨c, hc, rfl⟩ := List.mem_map.mp hz
  exact ⟨lkW_no (h.ok c hc) (by decide) (by decide), lkW_no (h.ok c hc) (by decide) (by decide)⟩
/-- the first sign of the first link -/
theorem lk_head {x : Lk} (h : x.r = none) : (lkW x).cps.toList[0]? = some 45 := by
  show (TL.tl (lkW x))[0]? = _
  unfold lkW
  rw [join_tl, h]
  simp only [List.map_cons, TL.joinL]
  rw [show orD none = ("-" : Str) from rfl, tl_da]
  rfl
theorem ne_da {z : Str} (h : Nm z) : z ≠ "-" := fun e => by
  have := nm_free h (c := 45) (by decide)
  rw [e, tl_da] at this
  exact this (by decide)
theorem read_chain_spec {ls : List Lk} (h : ChOk ls) (hn : ls ≠ []) (hl : ls.length ≤ 9) {S : Sto} {Q : DK} (q : ∀ (c : Addr) (S' : Sto), S c = none → Gr S S' → S' c = some (.lst (ls.map Lk.D)) → Q (.ref c) S') : m_read_chain [.str (chS ls)] S Q := by
  rw [e_read_chain]
  refine seq_i ?_
  simp (config := {implicitDefEqProofs := false, proj := false}) only [R_pp9, xS, xIf, xSet, xRet, xExpr, xRaise, eCallX, mNo, xE, sTry, sKeep, xFor, eVar, eC, eOp, eIf, eTup, eLst, eDict0, eDict, eSl, oNo, eCall, eCB, eM, eLc, eIsi2, aNil, aCons, pNil, pCons, tAndD, tOrD, tNotD, tsYes, gMns, gMod, gFdiv, gPow, gLe, gGt, gGe, sAsg, nName, sRet, sRetN, sExpr, sIf, sNext, sBreak, sCont, sFor, getS, setS, wipeS, endsD, asKeys, toKey, List.length_cons, List.length_nil, List.set_cons_zero, List.set_cons_succ, List.set_nil, Nat.zero_add, Nat.reduceAdd, Option.some.injEq, exists_and_left, exists_eq_left', exists_eq_left, id_eq, if_true, if_false, ite_true, ite_false, Bool.not_true, Bool.not_false, Bool.false_eq_true, not_false_eq_true, not_true_eq_false, reduceCtorEq, true_and, and_true, ne_eq, decide_eq_true_eq, isiN, isiCls, List.mem_cons, String.reduceEq, String.reduceBEq, or_true, true_or, or_false, false_or, Bool.or_true, Bool.true_or, Bool.false_or, Bool.or_false, Bool.and_false, Bool.false_and, Bool.true_and, Bool.and_true, beq_self_eq_true, decide_true, decide_false]
  refine need_str ?_
  simp (config := {implicitDefEqProofs := false, proj := false}) only [R_pp9, xS, xIf, xSet, xRet, xExpr, xRaise, eCallX, mNo, xE, sTry, sKeep, xFor, eVar, eC, eOp, eIf, eTup, eLst, eDict0, eDict, eSl, oNo, eCall, eCB, eM, eLc, eIsi2, aNil, aCons, pNil, pCons, tAndD, tOrD, tNotD, tsYes, gMns, gMod, gFdiv, gPow, gLe, gGt, gGe, sAsg, nName, sRet, sRetN, sExpr, sIf, sNext, sBreak, sCont, sFor, getS, setS, wipeS, endsD, asKeys, toKey, List.length_cons, List.length_nil, List.set_cons_zero, List.set_cons_succ, List.set_nil, Nat.zero_add, Nat.reduceAdd, Option.some.injEq, exists_and_left, exists_eq_left', exists_eq_left, id_eq, if_true, if_false, ite_true, ite_false, Bool.not_true, Bool.not_false, Bool.false_eq_true, not_false_eq_true, not_true_eq_false, reduceCtorEq, true_and, and_true, ne_eq, decide_eq_true_eq, isiN, isiCls, List.mem_cons, String.reduceEq, String.reduceBEq, or_true, true_or, or_false, false_or, Bool.or_true, Bool.true_or, Bool.false_or, Bool.or_false, Bool.and_false, Bool.false_and, Bool.true_and, Bool.and_true, beq_self_eq_true, decide_true, decide_false, t_read_chain_2]
  refine seq_i ?_
  simp (config := {implicitDefEqProofs := false, proj := false}) only [R_pp9, xS, xIf, xSet, xRet, xExpr, xRaise, eCallX, mNo, xE, sTry, sKeep, xFor, eVar, eC, eOp, eIf, eTup, eLst, eDict0, eDict, eSl, oNo, eCall, eCB, eM, eLc, eIsi2, aNil, aCons, pNil, pCons, tAndD, tOrD, tNotD, tsYes, gMns, gMod, gFdiv, gPow, gLe, gGt, gGe, sAsg, nName, sRet, sRetN, sExpr, sIf, sNext, sBreak, sCont, sFor, getS, setS, wipeS, endsD, asKeys, toKey, List.length_cons, List.length_nil, List.set_cons_zero, List.set_cons_succ, List.set_nil, Nat.zero_add, Nat.reduceAdd, Option.some.injEq, exists_and_left, exists_eq_left', exists_eq_left, id_eq, if_true, if_false, ite_true, ite_false, Bool.not_true, Bool.not_false, Bool.false_eq_true, not_false_eq_true, not_true_eq_false, reduceCtorEq, true_and, and_true, ne_eq, decide_eq_true_eq, isiN, isiCls, List.mem_cons, String.reduceEq, String.reduceBEq, or_true, true_or, or_false, false_or, Bool.or_true, Bool.true_or, Bool.false_or, Bool.or_false, Bool.and_false, Bool.false_and, Bool.true_and, Bool.and_true, beq_self_eq_true, decide_true, decide_false]
  refine ⟨by decide, fun c hc => ?_⟩
  have g0 : Gr S (updS S c (.lst [])) := .new hc
  have ec : updS S c (.lst []) c = some (.lst []) := updS_same
  generalize updS S c (.lst []) = S0 at g0 ec
  simp (config := {implicitDefEqProofs := false, proj := false}) only [R_pp9, xS, xIf, xSet, xRet, xExpr, xRaise, eCallX, mNo, xE, sTry, sKeep, xFor, eVar, eC, eOp, eIf, eTup, eLst, eDict0, eDict, eSl, oNo, eCall, eCB, eM, eLc, eIsi2, aNil, aCons, pNil, pCons, tAndD, tOrD, tNotD, tsYes, gMns, gMod, gFdiv, gPow, gLe, gGt, gGe, sAsg, nName, sRet, sRetN, sExpr, sIf, sNext, sBreak, sCont, sFor, getS, setS, wipeS, endsD, asKeys, toKey, List.length_cons, List.length_nil, List.set_cons_zero, List.set_cons_succ, List.set_nil, Nat.zero_add, Nat.reduceAdd, Option.some.injEq, exists_and_left, exists_eq_left', exists_eq_left, id_eq, if_true, if_false, ite_true, ite_false, Bool.not_true, Bool.not_false, Bool.false_eq_true, not_false_eq_true, not_true_eq_false, reduceCtorEq, true_and, and_true, ne_eq, decide_eq_true_eq, isiN, isiCls, List.mem_cons, String.reduceEq, String.reduceBEq, or_true, true_or, or_false, false_or, Bool.or_true, Bool.true_or, Bool.false_or, Bool.or_false, Bool.and_false, Bool.false_and, Bool.true_and, Bool.and_true, beq_self_eq_true, decide_true, decide_false, t_read_chain_3]
  refine seq_i ?_
  simp (config := {implicitDefEqProofs := false, proj := false}) only [R_pp9, xS, xIf, xSet, xRet, xExpr, xRaise, eCallX, mNo, xE, sTry, sKeep, xFor, eVar, eC, eOp, eIf, eTup, eLst, eDict0, eDict, eSl, oNo, eCall, eCB, eM, eLc, eIsi2, aNil, aCons, pNil, pCons, tAndD, tOrD, tNotD, tsYes, gMns, gMod, gFdiv, gPow, gLe, gGt, gGe, sAsg, nName, sRet, sRetN, sExpr, sIf, sNext, sBreak, sCont, sFor, getS, setS, wipeS, endsD, asKeys, toKey, List.length_cons, List.length_nil, List.set_cons_zero, List.set_cons_succ, List.set_nil, Nat.zero_add, Nat.reduceAdd, Option.some.injEq, exists_and_left, exists_eq_left', exists_eq_left, id_eq, if_true, if_false, ite_true, ite_false, Bool.not_true, Bool.not_false, Bool.false_eq_true, not_false_eq_true, not_true_eq_false, reduceCtorEq, true_and, and_true, ne_eq, decide_eq_true_eq, isiN, isiCls, List.mem_cons, String.reduceEq, String.reduceBEq, or_true, true_or, or_false, false_or, Bool.or_true, Bool.true_or, Bool.false_or, Bool.or_false, Bool.and_false, Bool.false_and, Bool.true_and, Bool.and_true, beq_self_eq_true, decide_true, decide_false]
  refine ⟨by decide +kernel, small_line (by have := joined_len (lks_wo h hl); show (Txt.join " " _).length + 2 ≤ _; omega), fun w hw => ?_⟩
  rw [show Txt.split (chS ls) " " = ls.map lkW from (lks_wp h).split (by simpa using hn)]
  have wc : w ≠ c := fun e => by rw [e, ec] at hw; cases hw
  have g1 : Gr S0 (updS S0 w (.lst ((ls.map lkW).map .str))) := .new hw
  have e1 : updS S0 w (.lst ((ls.map lkW).map .str)) w = some (.lst ((ls.map lkW).map .str)) := updS_same
  generalize updS S0 w (.lst ((ls.map lkW).map .str)) = S1 at g1 e1
  simp (config := {implicitDefEqProofs := false, proj := false}) only [R_pp9, xS, xIf, xSet, xRet, xExpr, xRaise, eCallX, mNo, xE, sTry, sKeep, xFor, eVar, eC, eOp, eIf, eTup, eLst, eDict0, eDict, eSl, oNo, eCall, eCB, eM, eLc, eIsi2, aNil, aCons, pNil, pCons, tAndD, tOrD, tNotD, tsYes, gMns, gMod, gFdiv, gPow, gLe, gGt, gGe, sAsg, nName, sRet, sRetN, sExpr, sIf, sNext, sBreak, sCont, sFor, getS, setS, wipeS, endsD, asKeys, toKey, List.length_cons, List.length_nil, List.set_cons_zero, List.set_cons_succ, List.set_nil, Nat.zero_add, Nat.reduceAdd, Option.some.injEq, exists_and_left, exists_eq_left', exists_eq_left, id_eq, if_true, if_false, ite_true, ite_false, Bool.not_true, Bool.not_false, Bool.false_eq_true, not_false_eq_true, not_true_eq_false, reduceCtorEq, true_and, and_true, ne_eq, decide_eq_true_eq, isiN, isiCls, List.mem_cons, String.reduceEq, String.reduceBEq, or_true, true_or, or_false, false_or, Bool.or_true, Bool.true_or, Bool.false_or, Bool.or_false, Bool.and_false, Bool.false_and, Bool.true_and, Bool.and_true, beq_self_eq_true, decide_true, decide_false, e1]
  refine ⟨_, rfl, ?_⟩
  refine forL_inv _ (fun i σ S' => (∃ u2 u3 u4, σ = [some (.str (chS ls)), some (.ref c), u2, u3, u4]) ∧ Gr S S' ∧ S' w = some (.lst ((ls.map lkW).map .str)) ∧ S' c = some (.lst ((ls.take i).map Lk.D))) (fun i σ S' hI => hI.2.2.1) (fun i x σ S' N hxi hJ hN => ?turn) (fun σ S' hJ => ?fin) ⟨⟨none, none, none, rfl⟩, g0.trans g1, e1, by simpa using g1 _ _ ec⟩
  case fin =>
    obtain ⟨⟨u2, u3, u4, rfl⟩, g2, e2, e3⟩ := hJ
    rw [show (enumD ((ls.map lkW).map DL.D.str)).length = ls.length by unfold enumD; rw [List.length_mapIdx, List.length_map, List.length_map], List.take_of_length_le (Nat.le_refl _)] at e3
    simp (config := {implicitDefEqProofs := false, proj := false}) only [R_pp9, xS, xIf, xSet, xRet, xExpr, xRaise, eCallX, mNo, xE, sTry, sKeep, xFor, eVar, eC, eOp, eIf, eTup, eLst, eDict0, eDict, eSl, oNo, eCall, eCB, eM, eLc, eIsi2, aNil, aCons, pNil, pCons, tAndD, tOrD, tNotD, tsYes, gMns, gMod, gFdiv, gPow, gLe, gGt, gGe, sAsg, nName, sRet, sRetN, sExpr, sIf, sNext, sBreak, sCont, sFor, getS, setS, wipeS, endsD, asKeys, toKey, List.length_cons, List.length_nil, List.set_cons_zero, List.set_cons_succ, List.set_nil, Nat.zero_add, Nat.reduceAdd, Option.some.injEq, exists_and_left, exists_eq_left', exists_eq_left, id_eq, if_true, if_false, ite_true, ite_false, Bool.not_true, Bool.not_false, Bool.false_eq_true, not_false_eq_true, not_true_eq_false, reduceCtorEq, true_and, and_true, ne_eq, decide_eq_true_eq, isiN, isiCls, List.mem_cons, String.reduceEq, String.reduceBEq, or_true, true_or, or_false, false_or, Bool.or_true, Bool.true_or, Bool.false_or, Bool.or_false, Bool.and_false, Bool.false_and, Bool.true_and, Bool.and_true, beq_self_eq_true, decide_true, decide_false, t_read_chain_12]
    exact q c S' hc g2 e3
  case turn =>
    obtain ⟨⟨u2, u3, u4, rfl⟩, g2, e2, e3⟩ := hJ
    obtain ⟨hi, rfl⟩ := enum_el hxi
    rw [List.length_map, List.length_map] at hi
    rw [show ((ls.map lkW).map DL.D.str)[i]'(by rw [List.length_map, List.length_map]; exact hi) = .str (lkW ls[i]) by rw [List.getElem_map, List.getElem_map]]
    have ok := h.ok _ (List.getElem_mem hi)
    have hd := h.hd i ls[i] (List.getElem?_eq_getElem hi)
    unfold l_read_chain_3
    simp (config := {implicitDefEqProofs := false, proj := false}) only [R_pp9, xS, xIf, xSet, xRet, xExpr, xRaise, eCallX, mNo, xE, sTry, sKeep, xFor, eVar, eC, eOp, eIf, eTup, eLst, eDict0, eDict, eSl, oNo, eCall, eCB, eM, eLc, eIsi2, aNil, aCons, pNil, pCons, tAndD, tOrD, tNotD, tsYes, gMns, gMod, gFdiv, gPow, gLe, gGt, gGe, sAsg, nName, sRet, sRetN, sExpr, sIf, sNext, sBreak, sCont, sFor, getS, setS, wipeS, endsD, asKeys, toKey, List.length_cons, List.length_nil, List.set_cons_zero, List.set_cons_succ, List.set_nil, Nat.zero_add, Nat.reduceAdd, Option.some.injEq, exists_and_left, exists_eq_left', exists_eq_left, id_eq, if_true, if_false, ite_true, ite_false, Bool.not_true, Bool.not_false, Bool.false_eq_true, not_false_eq_true, not_true_eq_false, reduceCtorEq, true_and, and_true, ne_eq, decide_eq_true_eq, isiN, isiCls, List.mem_cons, String.reduceEq, String.reduceBEq, or_true, true_or, or_false, false_or, Bool.or_true, Bool.true_or, Bool.false_or, Bool.or_false, Bool.and_false, Bool.false_and, Bool.true_and, Bool.and_true, beq_self_eq_true, decide_true, decide_false]
    refine seq_i ?_
    simp (config := {implicitDefEqProofs := false, proj := false}) only [R_pp9, xS, xIf, xSet, xRet, xExpr, xRaise, eCallX, mNo, xE, sTry, sKeep, xFor, eVar, eC, eOp, eIf, eTup, eLst, eDict0, eDict, eSl, oNo, eCall, eCB, eM, eLc, eIsi2, aNil, aCons, pNil, pCons, tAndD, tOrD, tNotD, tsYes, gMns, gMod, gFdiv, gPow, gLe, gGt, gGe, sAsg, nName, sRet, sRetN, sExpr, sIf, sNext, sBreak, sCont, sFor, getS, setS, wipeS, endsD, asKeys, toKey, List.length_cons, List.length_nil, List.set_cons_zero, List.set_cons_succ, List.set_nil, Nat.zero_add, Nat.reduceAdd, Option.some.injEq, exists_and_left, exists_eq_left', exists_eq_left, id_eq, if_true, if_false, ite_true, ite_false, Bool.not_true, Bool.not_false, Bool.false_eq_true, not_false_eq_true, not_true_eq_false, reduceCtorEq, true_and, and_true, ne_eq, decide_eq_true_eq, isiN, isiCls, List.mem_cons, String.reduceEq, String.reduceBEq, or_true, true_or, or_false, false_or, Bool.or_true, Bool.true_or, Bool.false_or, Bool.or_false, Bool.and_false, Bool.false_and, Bool.true_and, Bool.and_true, beq_self_eq_true, decide_true, decide_false]
    refine ⟨by decide +kernel, small_line (by have := lkW_len ok; show (lkW ls[i]).length + 2 ≤ _; omega), fun p1 h1 => ?_⟩
    rw [show Txt.split (lkW ls[i]) ":" = [orD ls[i].r, ls[i].l, ls[i].h] from lk_parts ok]
    have k1 : Gr S' (updS S' p1 (.lst ([orD ls[i].r, ls[i].l, ls[i].h].map .str))) := .new h1
    have ep : updS S' p1 (.lst ([orD ls[i].r, ls[i].l, ls[i].h].map .str)) p1 = some (.lst [.str (orD ls[i].r), .str ls[i].l, .str ls[i].h]) := updS_same
    have fr : ∀ b, S' b = none → b ≠ p1 → updS S' p1 (.lst ([orD ls[i].r, ls[i].l, ls[i].h].map .str)) b = none := fun b hb n => by rw [updS_ne n]; exact hb
    have p1c : p1 ≠ c := fun e => by rw [e, e3] at h1; cases h1
    have p1w : p1 ≠ w := fun e => by rw [e, e2] at h1; cases h1
    have p1S : S p1 = none := by
      cases e : S p1 with
      | none => rfl
      | some o => rw [g2 _ _ e] at h1; cases h1
    generalize updS S' p1 (.lst ([orD ls[i].r, ls[i].l, ls[i].h].map .str)) = S2 at k1 ep fr
    -- what is left once the parts are names
    have fin : ∀ (z : Str) (S3 : Sto), Nm z → (∀ b o, b ≠ p1 → S2 b = some o → S3 b = some o) → S3 p1 = some (.lst [.str z, .str ls[i].l, .str ls[i].h]) → (i ≠ 0 → some z = ls[i].r) →
        t_read_chain_7 ⟨N, Q, (t_read_chain_12 ⟨fun x S => Q .non S, Q, fun x x_1 => False, fun x x_1 => False⟩), N⟩ [some (.str (chS ls)), some (.ref c), some (.int (i : Nat)), some (.str (lkW ls[i])), some (.ref p1)] S3 := by
      intro z S3 hz k3 e4 hz2
      unfold t_read_chain_7
      refine seq_i ?_
      simp (config := {implicitDefEqProofs := false, proj := false}) only [R_pp9, xS, xIf, xSet, xRet, xExpr, xRaise, eCallX, mNo, xE, sTry, sKeep, xFor, eVar, eC, eOp, eIf, eTup, eLst, eDict0, eDict, eSl, oNo, eCall, eCB, eM, eLc, eIsi2, aNil, aCons, pNil, pCons, tAndD, tOrD, tNotD, tsYes, gMns, gMod, gFdiv, gPow, gLe, gGt, gGe, sAsg, nName, sRet, sRetN, sExpr, sIf, sNext, sBreak, sCont, sFor, getS, setS, wipeS, endsD, asKeys, toKey, List.length_cons, List.length_nil, List.set_cons_zero, List.set_cons_succ, List.set_nil, Nat.zero_add, Nat.reduceAdd, Option.some.injEq, exists_and_left, exists_eq_left', exists_eq_left, id_eq, if_true, if_false, ite_true, ite_false, Bool.not_true, Bool.not_false, Bool.false_eq_true, not_false_eq_true, not_true_eq_false, reduceCtorEq, true_and, and_true, ne_eq, decide_eq_true_eq, isiN, isiCls, List.mem_cons, String.reduceEq, String.reduceBEq, or_true, true_or, or_false, false_or, Bool.or_true, Bool.true_or, Bool.false_or, Bool.or_false, Bool.and_false, Bool.false_and, Bool.true_and, Bool.and_true, beq_self_eq_true, decide_true, decide_false, e4]
      rw [if_neg (by decide)]
      refine names_l (zs := [z, ls[i].l, ls[i].h]) (fun y hy => ?_) (by show 3 ≤ 100; decide) e4 fun S4 g4 => ?_
      · simp only [List.mem_cons, List.not_mem_nil, or_false] at hy
        rcases hy with rfl | rfl | rfl
        · exact hz
        · exact ok.l
        · exact ok.h
      simp (config := {implicitDefEqProofs := false, proj := false}) only [R_pp9, xS, xIf, xSet, xRet, xExpr, xRaise, eCallX, mNo, xE, sTry, sKeep, xFor, eVar, eC, eOp, eIf, eTup, eLst, eDict0, eDict, eSl, oNo, eCall, eCB, eM, eLc, eIsi2, aNil, aCons, pNil, pCons, tAndD, tOrD, tNotD, tsYes, gMns, gMod, gFdiv, gPow, gLe, gGt, gGe, sAsg, nName, sRet, sRetN, sExpr, sIf, sNext, sBreak, sCont, sFor, getS, setS, wipeS, endsD, asKeys, toKey, List.length_cons, List.length_nil, List.set_cons_zero, List.set_cons_succ, List.set_nil, Nat.zero_add, Nat.reduceAdd, Option.some.injEq, exists_and_left, exists_eq_left', exists_eq_left, id_eq, if_true, if_false, ite_true, ite_false, Bool.not_true, Bool.not_false, Bool.false_eq_true, not_false_eq_true, not_true_eq_false, reduceCtorEq, true_and, and_true, ne_eq, decide_eq_true_eq, isiN, isiCls, List.mem_cons, String.reduceEq, String.reduceBEq, or_true, true_or, or_false, false_or, Bool.or_true, Bool.true_or, Bool.false_or, Bool.or_false, Bool.and_false, Bool.false_and, Bool.true_and, Bool.and_true, beq_self_eq_true, decide_true, decide_false]
      have e5 := g4 _ _ e4
      have c5 : S4 c = some (.lst ((ls.take i).map Lk.D)) := g4 _ _ (k3 _ _ (Ne.symm p1c) (k1 _ _ e3))
      have w5 : S4 w = some (.lst ((ls.map lkW).map .str)) := g4 _ _ (k3 _ _ (Ne.symm p1w) (k1 _ _ e2))
      have G5 : ∀ b o, S b = some o → S4 b = some o := fun b o hb => g4 _ _ (k3 _ _ (fun e => by rw [e, p1S] at hb; cases hb) (k1 _ _ (g2 _ _ hb)))
      -- the end of the turn
      have put : ∀ (S5 : Sto), (∀ b o, b ≠ p1 → S4 b = some o → S5 b = some o) → S5 p1 = some (.lst [oD ls[i].r, .str ls[i].l, .str ls[i].h]) →
          t_read_chain_11 ⟨N, Q, (t_read_chain_12 ⟨fun x S => Q .non S, Q, fun x x_1 => False, fun x x_1 => False⟩), N⟩ [some (.str (chS ls)), some (.ref c), some (.int (i : Nat)), some (.str (lkW ls[i])), some (.ref p1)] S5 := by
        intro S5 k5 e6
        have c6 := k5 _ _ (Ne.symm p1c) c5
        simp (config := {implicitDefEqProofs := false, proj := false}) only [R_pp9, xS, xIf, xSet, xRet, xExpr, xRaise, eCallX, mNo, xE, sTry, sKeep, xFor, eVar, eC, eOp, eIf, eTup, eLst, eDict0, eDict, eSl, oNo, eCall, eCB, eM, eLc, eIsi2, aNil, aCons, pNil, pCons, tAndD, tOrD, tNotD, tsYes, gMns, gMod, gFdiv, gPow, gLe, gGt, gGe, sAsg, nName, sRet, sRetN, sExpr, sIf, sNext, sBreak, sCont, sFor, getS, setS, wipeS, endsD, asKeys, toKey, List.length_cons, List.length_nil, List.set_cons_zero, List.set_cons_succ, List.set_nil, Nat.zero_add, Nat.reduceAdd, Option.some.injEq, exists_and_left, exists_eq_left', exists_eq_left, id_eq, if_true, if_false, ite_true, ite_false, Bool.not_true, Bool.not_false, Bool.false_eq_true, not_false_eq_true, not_true_eq_false, reduceCtorEq, true_and, and_true, ne_eq, decide_eq_true_eq, isiN, isiCls, List.mem_cons, String.reduceEq, String.reduceBEq, or_true, true_or, or_false, false_or, Bool.or_true, Bool.true_or, Bool.false_or, Bool.or_false, Bool.and_false, Bool.false_and, Bool.true_and, Bool.and_true, beq_self_eq_true, decide_true, decide_false, t_read_chain_11, e6, c6]
        refine ⟨_, rfl, _, rfl, by rw [List.length_map, List.length_take]; exact line_of (by omega), hN _ _ ⟨⟨_, _, _, rfl⟩, ?_, ?_, ?_⟩⟩
        · intro b o hb
          rw [updS_ne (fun z => by subst z; rw [hc] at hb; cases hb)]
          exact k5 _ _ (fun e => by rw [e, p1S] at hb; cases hb) (G5 _ _ hb)
        · rw [updS_ne wc]
          exact k5 _ _ (Ne.symm p1w) w5
        · rw [updS_same, List.take_add_one, List.getElem?_eq_getElem hi, List.map_append]
          rfl
      by_cases hi0 : i = 0
      · have hr : ls[i].r = none := by
          rw [decide_eq_true hi0] at hd
          cases e : ls[i].r with
          | none => rfl
          | some z => rw [e] at hd; cases hd
        rw [if_pos (show ((i : Nat) : Int) = 0 by omega)]
        refine ⟨small_line (by have := lkW_len ok; omega), 45, atI_nat (j := 0) (lk_head hr), ?_⟩
        rw [if_neg (by decide)]
        unfold t_read_chain_9
        refine seq_i ?_
        simp (config := {implicitDefEqProofs := false, proj := false}) only [R_pp9, xS, xIf, xSet, xRet, xExpr, xRaise, eCallX, mNo, xE, sTry, sKeep, xFor, eVar, eC, eOp, eIf, eTup, eLst, eDict0, eDict, eSl, oNo, eCall, eCB, eM, eLc, eIsi2, aNil, aCons, pNil, pCons, tAndD, tOrD, tNotD, tsYes, gMns, gMod, gFdiv, gPow, gLe, gGt, gGe, sAsg, nName, sRet, sRetN, sExpr, sIf, sNext, sBreak, sCont, sFor, getS, setS, wipeS, endsD, asKeys, toKey, List.length_cons, List.length_nil, List.set_cons_zero, List.set_cons_succ, List.set_nil, Nat.zero_add, Nat.reduceAdd, Option.some.injEq, exists_and_left, exists_eq_left', exists_eq_left, id_eq, if_true, if_false, ite_true, ite_false, Bool.not_true, Bool.not_false, Bool.false_eq_true, not_false_eq_true, not_true_eq_false, reduceCtorEq, true_and, and_true, ne_eq, decide_eq_true_eq, isiN, isiCls, List.mem_cons, String.reduceEq, String.reduceBEq, or_true, true_or, or_false, false_or, Bool.or_true, Bool.true_or, Bool.false_or, Bool.or_false, Bool.and_false, Bool.false_and, Bool.true_and, Bool.and_true, beq_self_eq_true, decide_true, decide_false, e5]
        rw [if_pos (show ((i : Nat) : Int) = 0 by omega)]
        refine ⟨0, rfl, ?_⟩
        refine put _ (fun b o n e => by rw [updS_ne n]; exact e) ?_
        rw [updS_same, hr]
        rfl
      · rw [if_neg (show ¬ ((i : Nat) : Int) = 0 by omega)]
        unfold t_read_chain_9
        refine seq_i ?_
        simp (config := {implicitDefEqProofs := false, proj := false}) only [R_pp9, xS, xIf, xSet, xRet, xExpr, xRaise, eCallX, mNo, xE, sTry, sKeep, xFor, eVar, eC, eOp, eIf, eTup, eLst, eDict0, eDict, eSl, oNo, eCall, eCB, eM, eLc, eIsi2, aNil, aCons, pNil, pCons, tAndD, tOrD, tNotD, tsYes, gMns, gMod, gFdiv, gPow, gLe, gGt, gGe, sAsg, nName, sRet, sRetN, sExpr, sIf, sNext, sBreak, sCont, sFor, getS, setS, wipeS, endsD, asKeys, toKey, List.length_cons, List.length_nil, List.set_cons_zero, List.set_cons_succ, List.set_nil, Nat.zero_add, Nat.reduceAdd, Option.some.injEq, exists_and_left, exists_eq_left', exists_eq_left, id_eq, if_true, if_false, ite_true, ite_false, Bool.not_true, Bool.not_false, Bool.false_eq_true, not_false_eq_true, not_true_eq_false, reduceCtorEq, true_and, and_true, ne_eq, decide_eq_true_eq, isiN, isiCls, List.mem_cons, String.reduceEq, String.reduceBEq, or_true, true_or, or_false, false_or, Bool.or_true, Bool.true_or, Bool.false_or, Bool.or_false, Bool.and_false, Bool.false_and, Bool.true_and, Bool.and_true, beq_self_eq_true, decide_true, decide_false, e5]
        rw [if_neg (show ¬ ((i : Nat) : Int) = 0 by omega)]
        refine put S4 (fun _ _ _ h => h) ?_
        rw [e5, ← hz2 hi0]
        rfl
    unfold t_read_chain_5
    refine seq_i ?_
    simp (config := {implicitDefEqProofs := false, proj := false}) only [R_pp9, xS, xIf, xSet, xRet, xExpr, xRaise, eCallX, mNo, xE, sTry, sKeep, xFor, eVar, eC, eOp, eIf, eTup, eLst, eDict0, eDict, eSl, oNo, eCall, eCB, eM, eLc, eIsi2, aNil, aCons, pNil, pCons, tAndD, tOrD, tNotD, tsYes, gMns, gMod, gFdiv, gPow, gLe, gGt, gGe, sAsg, nName, sRet, sRetN, sExpr, sIf, sNext, sBreak, sCont, sFor, getS, setS, wipeS, endsD, asKeys, toKey, List.length_cons, List.length_nil, List.set_cons_zero, List.set_cons_succ, List.set_nil, Nat.zero_add, Nat.reduceAdd, Option.some.injEq, exists_and_left, exists_eq_left', exists_eq_left, id_eq, if_true, if_false, ite_true, ite_false, Bool.not_true, Bool.not_false, Bool.false_eq_true, not_false_eq_true, not_true_eq_false, reduceCtorEq, true_and, and_true, ne_eq, decide_eq_true_eq, isiN, isiCls, List.mem_cons, String.reduceEq, String.reduceBEq, or_true, true_or, or_false, false_or, Bool.or_true, Bool.true_or, Bool.false_or, Bool.or_false, Bool.and_false, Bool.false_and, Bool.true_and, Bool.and_true, beq_self_eq_true, decide_true, decide_false, ep]
    by_cases hi0 : i = 0
    · have hr : ls[i].r = none := by
        rw [decide_eq_true hi0] at hd
        cases e : ls[i].r with
        | none => rfl
        | some z => rw [e] at hd; cases hd
      rw [if_pos (show ((i : Nat) : Int) = 0 by omega)]
      refine ⟨_, atI_nat (j := 0) rfl, ?_⟩
      rw [hr]
      simp (config := {implicitDefEqProofs := false, proj := false}) only [R_pp9, xS, xIf, xSet, xRet, xExpr, xRaise, eCallX, mNo, xE, sTry, sKeep, xFor, eVar, eC, eOp, eIf, eTup, eLst, eDict0, eDict, eSl, oNo, eCall, eCB, eM, eLc, eIsi2, aNil, aCons, pNil, pCons, tAndD, tOrD, tNotD, tsYes, gMns, gMod, gFdiv, gPow, gLe, gGt, gGe, sAsg, nName, sRet, sRetN, sExpr, sIf, sNext, sBreak, sCont, sFor, getS, setS, wipeS, endsD, asKeys, toKey, List.length_cons, List.length_nil, List.set_cons_zero, List.set_cons_succ, List.set_nil, Nat.zero_add, Nat.reduceAdd, Option.some.injEq, exists_and_left, exists_eq_left', exists_eq_left, id_eq, if_true, if_false, ite_true, ite_false, Bool.not_true, Bool.not_false, Bool.false_eq_true, not_false_eq_true, not_true_eq_false, reduceCtorEq, true_and, and_true, ne_eq, decide_eq_true_eq, isiN, isiCls, List.mem_cons, String.reduceEq, String.reduceBEq, or_true, true_or, or_false, false_or, Bool.or_true, Bool.true_or, Bool.false_or, Bool.or_false, Bool.and_false, Bool.false_and, Bool.true_and, Bool.and_true, beq_self_eq_true, decide_true, decide_false, orD, ep]
      refine ⟨0, rfl, ?_⟩
      exact fin "none" _ nm_none (fun b o n e => by rw [updS_ne n]; exact e) (by rw [updS_same]; rfl) (fun h => absurd hi0 h)
    · rw [if_neg (show ¬ ((i : Nat) : Int) = 0 by omega)]
      have hr : ∃ z, ls[i].r = some z := by
        rw [decide_eq_false hi0] at hd
        cases e : ls[i].r with
        | none => rw [e] at hd; cases hd
        | some z => exact ⟨z, rfl⟩
      obtain ⟨z, hr⟩ := hr
      rw [hr] at ep
      exact fin z S2 (ok.r z hr) (fun _ _ _ h => h) ep (fun _ => hr.symm)
end LW
namespace LW
open PySem L2 DL
/-- data that hold no place of the store: shown alike in each -/
def Fx (x : DL.D) : Prop := ∀ S, Sm S 1 27 x
theorem fx_nm {z : Str} (h : Nm z) : Fx (.str z) := fun S => sm_nm h (by decide)
theorem fx_num {n : Nat} (h : n < 10 ^ 60) : Fx (.int (n : Nat)) := fun S => sm_int (by omega) (by
  have : (10 : Int) ^ 61 = ((10 ^ 61 : Nat) : Int) := by decide +kernel
  rw [this]
  have : (10 : Nat) ^ 60 ≤ 10 ^ 61 := by decide +kernel
  omega)
theorem fx_cl {c : Cl} (h : c.ok) : Fx c.D := fun S => sm_tup (k := 0) (m := 8) (n := 3) (fun x hx => by
  simp only [List.mem_cons, List.not_mem_nil, or_false] at hx
  rcases hx with rfl | rfl | rfl
  · exact sm_nm h.h (by decide)
  · exact sm_nm h.b (by decide)
  · have := fx_num h.n1 S
    exact sm_int (by omega) (by
      have : (10 : Int) ^ 61 = ((10 ^ 61 : Nat) : Int) := by decide +kernel
      rw [this]
      have := h.n1
      have : (10 : Nat) ^ 60 ≤ 10 ^ 61 := by decide +kernel
      omega)) (Nat.le_refl _)
theorem fx_lk {x : Lk} (h : x.ok) : Fx x.D := fun S => sm_tup (k := 0) (m := 8) (n := 3) (fun y hy => by
  simp only [List.mem_cons, List.not_mem_nil, or_false] at hy
  rcases hy with rfl | rfl | rfl
  · cases e : x.r with
    | none => exact sm_non
    | some z => exact sm_nm (h.r z e) (by decide)
  · exact sm_nm h.l (by decide)
  · exact sm_nm h.h (by decide)) (Nat.le_refl _)
/-- a list of such data -/
structure FL (ds : List DL.D) : Prop where
  fx : ∀ x ∈ ds, Fx x
  le : ds.length ≤ 10
theorem FL.sm {ds : List DL.D} (h : FL ds) {S : Sto} {a : Addr} (e : S a = some (.lst ds)) : Sm S 2 280 (.ref a) :=
  sm_lst (k := 1) (m := 27) (n := 10) e (fun x hx => h.fx x hx S) h.le
/-- such a list shows alike wherever it stands -/
theorem FL.show {ds : List DL.D} (h : FL ds) {S : Sto} {a0 : Addr} (e0 : S a0 = some (.lst ds)) : ∃ z, ∀ S' a (Q : DK), Gr S S' → S' a = some (.lst ds) → Q (.str z) S' → gRepr [.ref a] S' Q := by
  obtain ⟨ps, i1, i2, i3, i4, i5⟩ := sms_of (S := S) fun x hx => h.fx x hx S
  have hl : (PyData.list ps).leavesShort 70 = true := i5
  have hb := PyData.shown_le_bulk 70 (by decide) (.list ps) hl
  have hk : (PyData.list ps).bulk ≤ 280 := by rw [PyData.bulk.eq_2]; have := h.le; exact Nat.le_trans i4 (Nat.mul_le_mul_right 28 this)
  have hd : (PyData.list ps).depth ≤ 2 := by rw [PyData.depth.eq_1]; omega
  exact ⟨_, fun S' a Q g e q => repr_i (.lst e (RPs_gr g i1)) rfl i2 (Nat.le_trans hd (by decide)) (Nat.le_trans (show _ ≤ 1600000 by omega) (by decide)) q⟩
theorem read_right_i {c : Str} {m : MF} {text : Str} {o : Addr} {ds : List DL.D} {S : Sto} {Q : DK} (hm : (c, m) ∈ ([("read_names", m_read_names), ("read_chain", m_read_chain), ("read_calling", m_read_calling)] : FTab))
    (sp : ∀ S (Q : DK), (∀ a S', S a = none → Gr S S' → S' a = some (.lst ds) → Q (.ref a) S') → m [.str text] S Q) (h : FL ds) (e : S o = some (.lst ds)) (q : ∀ S', Gr S S' → Q (.bl true) S') : m_wread_right [.cls c, .str text, .ref o] S Q := by
  obtain ⟨z, hz⟩ := h.show e
  rw [e_wread_right]
  refine seq_i ?_
  simp (config := {implicitDefEqProofs := false, proj := false}) only [R_pp9, xS, xIf, xSet, xRet, xExpr, xRaise, eCallX, mNo, xE, sTry, sKeep, xFor, eVar, eC, eOp, eIf, eTup, eLst, eDict0, eDict, eSl, oNo, eCall, eCB, eM, eLc, eIsi2, aNil, aCons, pNil, pCons, tAndD, tOrD, tNotD, tsYes, gMns, gMod, gFdiv, gPow, gLe, gGt, gGe, sAsg, nName, sRet, sRetN, sExpr, sIf, sNext, sBreak, sCont, sFor, getS, setS, wipeS, endsD, asKeys, toKey, List.length_cons, List.length_nil, List.set_cons_zero, List.set_cons_succ, List.set_nil, Nat.zero_add, Nat.reduceAdd, Option.some.injEq, exists_and_left, exists_eq_left', exists_eq_left, id_eq, if_true, if_false, ite_true, ite_false, Bool.not_true, Bool.not_false, Bool.false_eq_true, not_false_eq_true, not_true_eq_false, reduceCtorEq, true_and, and_true, ne_eq, decide_eq_true_eq, isiN, isiCls, List.mem_cons, String.reduceEq, String.reduceBEq, or_true, true_or, or_false, false_or, Bool.or_true, Bool.true_or, Bool.false_or, Bool.or_false, Bool.and_false, Bool.false_and, Bool.true_and, Bool.and_true, beq_self_eq_true, decide_true, decide_false]
  refine ⟨by decide, by decide, ?_⟩
  refine forR_inv _ _ (fun i σ S' => (∃ u3 u4, σ = [some (.cls c), some (.str text), some (.ref o), u3, u4]) ∧ Gr S S') (fun _ _ _ _ => trivial) (fun i σ S' N hi hJ hN => ?turn) (fun σ S' hJ => ?fin) ⟨⟨none, none, rfl⟩, .refl⟩
  case fin =>
    obtain ⟨⟨u3, u4, rfl⟩, g⟩ := hJ
    simp (config := {implicitDefEqProofs := false, proj := false}) only [R_pp9, xS, xIf, xSet, xRet, xExpr, xRaise, eCallX, mNo, xE, sTry, sKeep, xFor, eVar, eC, eOp, eIf, eTup, eLst, eDict0, eDict, eSl, oNo, eCall, eCB, eM, eLc, eIsi2, aNil, aCons, pNil, pCons, tAndD, tOrD, tNotD, tsYes, gMns, gMod, gFdiv, gPow, gLe, gGt, gGe, sAsg, nName, sRet, sRetN, sExpr, sIf, sNext, sBreak, sCont, sFor, getS, setS, wipeS, endsD, asKeys, toKey, List.length_cons, List.length_nil, List.set_cons_zero, List.set_cons_succ, List.set_nil, Nat.zero_add, Nat.reduceAdd, Option.some.injEq, exists_and_left, exists_eq_left', exists_eq_left, id_eq, if_true, if_false, ite_true, ite_false, Bool.not_true, Bool.not_false, Bool.false_eq_true, not_false_eq_true, not_true_eq_false, reduceCtorEq, true_and, and_true, ne_eq, decide_eq_true_eq, isiN, isiCls, List.mem_cons, String.reduceEq, String.reduceBEq, or_true, true_or, or_false, false_or, Bool.or_true, Bool.true_or, Bool.false_or, Bool.or_false, Bool.and_false, Bool.false_and, Bool.true_and, Bool.and_true, beq_self_eq_true, decide_true, decide_false, t_wread_right_6]
    exact q _ g
  case turn =>
    obtain ⟨⟨u3, u4, rfl⟩, g⟩ := hJ
    simp (config := {implicitDefEqProofs := false, proj := false}) only [R_pp9, xS, xIf, xSet, xRet, xExpr, xRaise, eCallX, mNo, xE, sTry, sKeep, xFor, eVar, eC, eOp, eIf, eTup, eLst, eDict0, eDict, eSl, oNo, eCall, eCB, eM, eLc, eIsi2, aNil, aCons, pNil, pCons, tAndD, tOrD, tNotD, tsYes, gMns, gMod, gFdiv, gPow, gLe, gGt, gGe, sAsg, nName, sRet, sRetN, sExpr, sIf, sNext, sBreak, sCont, sFor, getS, setS, wipeS, endsD, asKeys, toKey, List.length_cons, List.length_nil, List.set_cons_zero, List.set_cons_succ, List.set_nil, Nat.zero_add, Nat.reduceAdd, Option.some.injEq, exists_and_left, exists_eq_left', exists_eq_left, id_eq, if_true, if_false, ite_true, ite_false, Bool.not_true, Bool.not_false, Bool.false_eq_true, not_false_eq_true, not_true_eq_false, reduceCtorEq, true_and, and_true, ne_eq, decide_eq_true_eq, isiN, isiCls, List.mem_cons, String.reduceEq, String.reduceBEq, or_true, true_or, or_false, false_or, Bool.or_true, Bool.true_or, Bool.false_or, Bool.or_false, Bool.and_false, Bool.false_and, Bool.true_and, Bool.and_true, beq_self_eq_true, decide_true, decide_false]
    unfold l_wread_right_1
    refine seq_i (asg_i ?_)
    rw [eCallV_e]
    refine ⟨c, m, rfl, hm, ?_⟩
    simp (config := {implicitDefEqProofs := false, proj := false}) only [R_pp9, xS, xIf, xSet, xRet, xExpr, xRaise, eCallX, mNo, xE, sTry, sKeep, xFor, eVar, eC, eOp, eIf, eTup, eLst, eDict0, eDict, eSl, oNo, eCall, eCB, eM, eLc, eIsi2, aNil, aCons, pNil, pCons, tAndD, tOrD, tNotD, tsYes, gMns, gMod, gFdiv, gPow, gLe, gGt, gGe, sAsg, nName, sRet, sRetN, sExpr, sIf, sNext, sBreak, sCont, sFor, getS, setS, wipeS, endsD, asKeys, toKey, List.length_cons, List.length_nil, List.set_cons_zero, List.set_cons_succ, List.set_nil, Nat.zero_add, Nat.reduceAdd, Option.some.injEq, exists_and_left, exists_eq_left', exists_eq_left, id_eq, if_true, if_false, ite_true, ite_false, Bool.not_true, Bool.not_false, Bool.false_eq_true, not_false_eq_true, not_true_eq_false, reduceCtorEq, true_and, and_true, ne_eq, decide_eq_true_eq, isiN, isiCls, List.mem_cons, String.reduceEq, String.reduceBEq, or_true, true_or, or_false, false_or, Bool.or_true, Bool.true_or, Bool.false_or, Bool.or_false, Bool.and_false, Bool.false_and, Bool.true_and, Bool.and_true, beq_self_eq_true, decide_true, decide_false]
    refine sp _ _ fun a S1 ha g1 e1 => ?_
    have eo := g1 _ _ (g _ _ e)
    have gg := g.trans g1
    unfold t_wread_right_3
    refine seq_i ?_
    simp (config := {implicitDefEqProofs := false, proj := false}) only [R_pp9, xS, xIf, xSet, xRet, xExpr, xRaise, eCallX, mNo, xE, sTry, sKeep, xFor, eVar, eC, eOp, eIf, eTup, eLst, eDict0, eDict, eSl, oNo, eCall, eCB, eM, eLc, eIsi2, aNil, aCons, pNil, pCons, tAndD, tOrD, tNotD, tsYes, gMns, gMod, gFdiv, gPow, gLe, gGt, gGe, sAsg, nName, sRet, sRetN, sExpr, sIf, sNext, sBreak, sCont, sFor, getS, setS, wipeS, endsD, asKeys, toKey, List.length_cons, List.length_nil, List.set_cons_zero, List.set_cons_succ, List.set_nil, Nat.zero_add, Nat.reduceAdd, Option.some.injEq, exists_and_left, exists_eq_left', exists_eq_left, id_eq, if_true, if_false, ite_true, ite_false, Bool.not_true, Bool.not_false, Bool.false_eq_true, not_false_eq_true, not_true_eq_false, reduceCtorEq, true_and, and_true, ne_eq, decide_eq_true_eq, isiN, isiCls, List.mem_cons, String.reduceEq, String.reduceBEq, or_true, true_or, or_false, false_or, Bool.or_true, Bool.true_or, Bool.false_or, Bool.or_false, Bool.and_false, Bool.false_and, Bool.true_and, Bool.and_true, beq_self_eq_true, decide_true, decide_false, e1]
    refine hz S1 a _ gg e1 (hz S1 o _ gg eo ?_)
    simp (config := {implicitDefEqProofs := false, proj := false}) only [R_pp9, xS, xIf, xSet, xRet, xExpr, xRaise, eCallX, mNo, xE, sTry, sKeep, xFor, eVar, eC, eOp, eIf, eTup, eLst, eDict0, eDict, eSl, oNo, eCall, eCB, eM, eLc, eIsi2, aNil, aCons, pNil, pCons, tAndD, tOrD, tNotD, tsYes, gMns, gMod, gFdiv, gPow, gLe, gGt, gGe, sAsg, nName, sRet, sRetN, sExpr, sIf, sNext, sBreak, sCont, sFor, getS, setS, wipeS, endsD, asKeys, toKey, List.length_cons, List.length_nil, List.set_cons_zero, List.set_cons_succ, List.set_nil, Nat.zero_add, Nat.reduceAdd, Option.some.injEq, exists_and_left, exists_eq_left', exists_eq_left, id_eq, if_true, if_false, ite_true, ite_false, Bool.not_true, Bool.not_false, Bool.false_eq_true, not_false_eq_true, not_true_eq_false, reduceCtorEq, true_and, and_true, ne_eq, decide_eq_true_eq, isiN, isiCls, List.mem_cons, String.reduceEq, String.reduceBEq, or_true, true_or, or_false, false_or, Bool.or_true, Bool.true_or, Bool.false_or, Bool.or_false, Bool.and_false, Bool.false_and, Bool.true_and, Bool.and_true, beq_self_eq_true, decide_true, decide_false]
    unfold t_wread_right_5
    simp (config := {implicitDefEqProofs := false, proj := false}) only [R_pp9, xS, xIf, xSet, xRet, xExpr, xRaise, eCallX, mNo, xE, sTry, sKeep, xFor, eVar, eC, eOp, eIf, eTup, eLst, eDict0, eDict, eSl, oNo, eCall, eCB, eM, eLc, eIsi2, aNil, aCons, pNil, pCons, tAndD, tOrD, tNotD, tsYes, gMns, gMod, gFdiv, gPow, gLe, gGt, gGe, sAsg, nName, sRet, sRetN, sExpr, sIf, sNext, sBreak, sCont, sFor, getS, setS, wipeS, endsD, asKeys, toKey, List.length_cons, List.length_nil, List.set_cons_zero, List.set_cons_succ, List.set_nil, Nat.zero_add, Nat.reduceAdd, Option.some.injEq, exists_and_left, exists_eq_left', exists_eq_left, id_eq, if_true, if_false, ite_true, ite_false, Bool.not_true, Bool.not_false, Bool.false_eq_true, not_false_eq_true, not_true_eq_false, reduceCtorEq, true_and, and_true, ne_eq, decide_eq_true_eq, isiN, isiCls, List.mem_cons, String.reduceEq, String.reduceBEq, or_true, true_or, or_false, false_or, Bool.or_true, Bool.true_or, Bool.false_or, Bool.or_false, Bool.and_false, Bool.false_and, Bool.true_and, Bool.and_true, beq_self_eq_true, decide_true, decide_false, e1]
    refine ⟨_, rfl, hN _ _ ⟨⟨_, _, rfl⟩, fun b u hb => ?_⟩⟩
    rw [updS_ne (fun z => by subst z; rw [g _ _ hb] at ha; cases ha)]
    exact gg _ _ hb
theorem eq_strs {f : Bool → Bool} {a b : Addr} {zs : List Str} {S : Sto} {Q : DK} (ea : S a = some (.lst (zs.map .str))) (eb : S b = some (.lst (zs.map .str))) (q : Q (.bl (f true)) S) : gEq f (.ref a) (.ref b) S Q := by
  refine ⟨_, _, .lst ea (pds_strs zs), .lst eb (pds_strs zs), depth_strs zs, ?_⟩
  rw [PySem.SeqAt.eqv_refl_plain _ (PD.plain (PD.lst ea (pds_strs zs)))]
  exact q
/-- papers -/
structure Pap where
  ls : List Lk
  cs : List Cl
  zs : List Str
  ns : List Nat
structure Pap.ok (x : Pap) : Prop where
  ls : ChOk x.ls
  l0 : x.ls ≠ []
  l9 : x.ls.length ≤ 9
  cs : ClsOk x.cs
  zs : ∀ z ∈ x.zs, Nm z
  zr : Rise x.zs
  zl : x.zs.length ≤ 10
  ns : ∀ n ∈ x.ns, n < 10 ^ 60
  nl : x.ns.length ≤ 10
structure PapAt (S : Sto) (p : Addr) (x : Pap) (a b c d : Addr) : Prop where
  ea : S a = some (.lst (x.ls.map Lk.D))
  eb : S b = some (.lst (x.cs.map Cl.D))
  ec : S c = some (.lst (x.zs.map .str))
  ed : S d = some (.lst (plD x.ns))
  an : a ≠ p
  bn : b ≠ p
  cn : c ≠ p
  dn : d ≠ p
theorem PapAt.kp {S S' : Sto} {p : Addr} {x : Pap} {a b c d : Addr} (h : PapAt S p x a b c d) (k : Kp p S S') : PapAt S' p x a b c d := ⟨k _ _ h.an h.ea, k _ _ h.bn h.eb, k _ _ h.cn h.ec, k _ _ h.dn h.ed, h.an, h.bn, h.cn, h.dn⟩
theorem fl_ls {x : Pap} (h : x.ok) : FL (x.ls.map Lk.D) := ⟨fun y hy => by
  obtain ⟨k, hk, rfl⟩ := List.mem_map.mp hy
  exact fx_lk (h.ls.ok k hk), by rw [List.length_map]; have := h.l9; omega⟩
theorem fl_cs {x : Pap} (h : x.ok) : FL (x.cs.map Cl.D) := ⟨fun y hy => by
  obtain ⟨k, hk, rfl⟩ := List.mem_map.mp hy
  exact fx_cl (h.cs.ok k hk), by rw [List.length_map]; have := h.cs.le; omega⟩
theorem fl_zs {x : Pap} (h : x.ok) : FL (x.zs.map .str) := ⟨fun y hy => by
  obtain ⟨k, hk, rfl⟩ := List.mem_map.mp hy
  exact fx_nm (h.zs k hk), by rw [List.length_map]; exact h.zl⟩
theorem fl_ns {x : Pap} (h : x.ok) : FL (plD x.ns) := ⟨fun y hy => by
  obtain ⟨k, hk, rfl⟩ := List.mem_map.mp hy
  exact fx_num (h.ns k hk), by unfold plD; rw [List.length_map]; exact h.nl⟩
theorem ns_zs {x : Pap} (h : x.ok) : NsOk x.zs := ⟨h.zs, by have := h.zl; omega⟩
theorem paps_show {S : Sto} {p : Addr} {x : Pap} {a b c d : Addr} (h : x.ok) (t : PapAt S p x a b c d) : ∃ z, ∀ S' (Q : DK), Gr S S' → Q (.str z) S' → gRepr [.tup [.ref a, .ref b, .ref c, .ref d]] S' Q := by
  refine Sm.repr (Sm.mono (k := 3) (m := 4 * 281) (by decide) (by decide) (sm_tup (k := 2) (m := 280) (n := 4) (fun y hy => ?_) (Nat.le_refl _))) rfl
  simp only [List.mem_cons, List.not_mem_nil, or_false] at hy
  rcases hy with rfl | rfl | rfl | rfl
  · exact (fl_ls h).sm t.ea
  · exact (fl_cs h).sm t.eb
  · exact (fl_zs h).sm t.ec
  · exact (fl_ns h).sm t.ed
theorem kp_gr {p : Addr} {S S' : Sto} (g : Gr S S') : Kp p S S' := fun a o _ e => g a o e
theorem links_lc {ls : List Lk} {stab : Sto → Prop} {σ : DL.Env} {S : Sto} {K : List DL.D → Sto → Prop} (e : stab S) (hl : ls.length ≤ 9) (hs : ∀ v, getS 9 (setS 9 v σ) = some v) (k : K ((ls.map Lk.l).map .str) S) :
    lcL stab (nName 9) tsYes c_wright_9 σ K (ls.map Lk.D) [] S := by
  refine lcL_map (fun d => match d with | .tup [_, l, _] => l | _ => .non) _ e (small_line (by rw [List.length_map]; omega)) (fun x hx Q q => ?_) ?_
  · obtain ⟨y, hy, rfl⟩ := List.mem_map.mp hx
    show c_wright_9 (setS 9 y.D σ) S Q
    unfold c_wright_9
    rw [show Lk.D y = .tup [oD y.r, .str y.l, .str y.h] from rfl]
    simp (config := {implicitDefEqProofs := false, proj := false}) only [eOp, eVar, eC, hs, Option.some.injEq, exists_eq_left', gIx_ti]
    exact ⟨_, atI_nat (j := 1) rfl, q⟩
  · rw [List.map_map] at k ⊢
    exact k
theorem wright_spec {S : Sto} {p : Addr} {x : Pap} {a b c d : Addr} {Q : DK} (h : x.ok) (t : PapAt S p x a b c d) (q : ∀ S', Gr S S' → Q (.bl true) S') : m_wright [.tup [.ref a, .ref b, .ref c, .ref d]] S Q := by
  obtain ⟨z, hz⟩ := paps_show h t
  rw [e_wright]
  refine seq_i ?_
  simp (config := {implicitDefEqProofs := false, proj := false}) only [R_pp9, xS, xIf, xSet, xRet, xExpr, xRaise, eCallX, mNo, xE, sTry, sKeep, xFor, eVar, eC, eOp, eIf, eTup, eLst, eDict0, eDict, eSl, oNo, eCall, eCB, eM, eLc, eIsi2, aNil, aCons, pNil, pCons, tAndD, tOrD, tNotD, tsYes, gMns, gMod, gFdiv, gPow, gLe, gGt, gGe, sAsg, nName, sRet, sRetN, sExpr, sIf, sNext, sBreak, sCont, sFor, getS, setS, wipeS, endsD, asKeys, toKey, List.length_cons, List.length_nil, List.set_cons_zero, List.set_cons_succ, List.set_nil, Nat.zero_add, Nat.reduceAdd, Option.some.injEq, exists_and_left, exists_eq_left', exists_eq_left, id_eq, if_true, if_false, ite_true, ite_false, Bool.not_true, Bool.not_false, Bool.false_eq_true, not_false_eq_true, not_true_eq_false, reduceCtorEq, true_and, and_true, ne_eq, decide_eq_true_eq, isiN, isiCls, List.mem_cons, String.reduceEq, String.reduceBEq, or_true, true_or, or_false, false_or, Bool.or_true, Bool.true_or, Bool.false_or, Bool.or_false, Bool.and_false, Bool.false_and, Bool.true_and, Bool.and_true, beq_self_eq_true, decide_true, decide_false, t_wright_2]
  refine seq_i ?_
  simp (config := {implicitDefEqProofs := false, proj := false}) only [R_pp9, xS, xIf, xSet, xRet, xExpr, xRaise, eCallX, mNo, xE, sTry, sKeep, xFor, eVar, eC, eOp, eIf, eTup, eLst, eDict0, eDict, eSl, oNo, eCall, eCB, eM, eLc, eIsi2, aNil, aCons, pNil, pCons, tAndD, tOrD, tNotD, tsYes, gMns, gMod, gFdiv, gPow, gLe, gGt, gGe, sAsg, nName, sRet, sRetN, sExpr, sIf, sNext, sBreak, sCont, sFor, getS, setS, wipeS, endsD, asKeys, toKey, List.length_cons, List.length_nil, List.set_cons_zero, List.set_cons_succ, List.set_nil, Nat.zero_add, Nat.reduceAdd, Option.some.injEq, exists_and_left, exists_eq_left', exists_eq_left, id_eq, if_true, if_false, ite_true, ite_false, Bool.not_true, Bool.not_false, Bool.false_eq_true, not_false_eq_true, not_true_eq_false, reduceCtorEq, true_and, and_true, ne_eq, decide_eq_true_eq, isiN, isiCls, List.mem_cons, String.reduceEq, String.reduceBEq, or_true, true_or, or_false, false_or, Bool.or_true, Bool.true_or, Bool.false_or, Bool.or_false, Bool.and_false, Bool.false_and, Bool.true_and, Bool.and_true, beq_self_eq_true, decide_true, decide_false]
  refine hz S _ .refl ?_
  unfold t_wright_3
  refine seq_i ?_
  simp (config := {implicitDefEqProofs := false, proj := false}) only [R_pp9, xS, xIf, xSet, xRet, xExpr, xRaise, eCallX, mNo, xE, sTry, sKeep, xFor, eVar, eC, eOp, eIf, eTup, eLst, eDict0, eDict, eSl, oNo, eCall, eCB, eM, eLc, eIsi2, aNil, aCons, pNil, pCons, tAndD, tOrD, tNotD, tsYes, gMns, gMod, gFdiv, gPow, gLe, gGt, gGe, sAsg, nName, sRet, sRetN, sExpr, sIf, sNext, sBreak, sCont, sFor, getS, setS, wipeS, endsD, asKeys, toKey, List.length_cons, List.length_nil, List.set_cons_zero, List.set_cons_succ, List.set_nil, Nat.zero_add, Nat.reduceAdd, Option.some.injEq, exists_and_left, exists_eq_left', exists_eq_left, id_eq, if_true, if_false, ite_true, ite_false, Bool.not_true, Bool.not_false, Bool.false_eq_true, not_false_eq_true, not_true_eq_false, reduceCtorEq, true_and, and_true, ne_eq, decide_eq_true_eq, isiN, isiCls, List.mem_cons, String.reduceEq, String.reduceBEq, or_true, true_or, or_false, false_or, Bool.or_true, Bool.true_or, Bool.false_or, Bool.or_false, Bool.and_false, Bool.false_and, Bool.true_and, Bool.and_true, beq_self_eq_true, decide_true, decide_false]
  refine wchain_text_spec t.ea h.ls h.l9 fun S1 g1 => ?_
  have t1 := t.kp (p := p) (kp_gr g1)
  refine wcalling_text_spec t1.eb h.cs fun S2 g2 => ?_
  have t2 := t1.kp (p := p) (kp_gr g2)
  refine wlisted_spec t2.ec (ns_zs h).wo fun S3 g3 => ?_
  have t3 := t2.kp (p := p) (kp_gr g3)
  have G3 := g1.trans (g2.trans g3)
  refine ⟨by decide, fun v hv => ?_⟩
  have ev : updS S3 v (.lst [.str (chS x.ls), .str (lsS (x.cs.map clW)), .str (lsS x.zs)]) v = some (.lst [.str (chS x.ls), .str (lsS (x.cs.map clW)), .str (lsS x.zs)]) := updS_same
  have g4 : Gr S3 (updS S3 v (.lst [.str (chS x.ls), .str (lsS (x.cs.map clW)), .str (lsS x.zs)])) := .new hv
  have t4 := t3.kp (p := p) (kp_gr g4)
  have hvS : S v = none := by
    cases e : S v with
    | none => rfl
    | some o => rw [G3 _ _ e] at hv; cases hv
  have nv : ∀ y o, S3 y = some o → y ≠ v := fun y o e z => by rw [z, hv] at e; cases e
  have nva := nv _ _ t3.ea
  have nvb := nv _ _ t3.eb
  have nvc := nv _ _ t3.ec
  have nvd := nv _ _ t3.ed
  have G4 := G3.trans g4
  clear nv
  generalize updS S3 v (.lst [.str (chS x.ls), .str (lsS (x.cs.map clW)), .str (lsS x.zs)]) = S4 at ev g4 t4 G4
  unfold t_wright_4
  refine seq_i ?_
  simp (config := {implicitDefEqProofs := false, proj := false}) only [R_pp9, xS, xIf, xSet, xRet, xExpr, xRaise, eCallX, mNo, xE, sTry, sKeep, xFor, eVar, eC, eOp, eIf, eTup, eLst, eDict0, eDict, eSl, oNo, eCall, eCB, eM, eLc, eIsi2, aNil, aCons, pNil, pCons, tAndD, tOrD, tNotD, tsYes, gMns, gMod, gFdiv, gPow, gLe, gGt, gGe, sAsg, nName, sRet, sRetN, sExpr, sIf, sNext, sBreak, sCont, sFor, getS, setS, wipeS, endsD, asKeys, toKey, List.length_cons, List.length_nil, List.set_cons_zero, List.set_cons_succ, List.set_nil, Nat.zero_add, Nat.reduceAdd, Option.some.injEq, exists_and_left, exists_eq_left', exists_eq_left, id_eq, if_true, if_false, ite_true, ite_false, Bool.not_true, Bool.not_false, Bool.false_eq_true, not_false_eq_true, not_true_eq_false, reduceCtorEq, true_and, and_true, ne_eq, decide_eq_true_eq, isiN, isiCls, List.mem_cons, String.reduceEq, String.reduceBEq, or_true, true_or, or_false, false_or, Bool.or_true, Bool.true_or, Bool.false_or, Bool.or_false, Bool.and_false, Bool.false_and, Bool.true_and, Bool.and_true, beq_self_eq_true, decide_true, decide_false, t4.ed, ev]
  refine ⟨_, rfl, ?_⟩
  refine nums_lc (i := 8) t4.ed h.ns (by have := h.nl; omega) (fun n Q hn k => ?_) fun w hw => ?_
  · simp (config := {implicitDefEqProofs := false, proj := false}) only [R_pp9, xS, xIf, xSet, xRet, xExpr, xRaise, eCallX, mNo, xE, sTry, sKeep, xFor, eVar, eC, eOp, eIf, eTup, eLst, eDict0, eDict, eSl, oNo, eCall, eCB, eM, eLc, eIsi2, aNil, aCons, pNil, pCons, tAndD, tOrD, tNotD, tsYes, gMns, gMod, gFdiv, gPow, gLe, gGt, gGe, sAsg, nName, sRet, sRetN, sExpr, sIf, sNext, sBreak, sCont, sFor, getS, setS, wipeS, endsD, asKeys, toKey, List.length_cons, List.length_nil, List.set_cons_zero, List.set_cons_succ, List.set_nil, Nat.zero_add, Nat.reduceAdd, Option.some.injEq, exists_and_left, exists_eq_left', exists_eq_left, id_eq, if_true, if_false, ite_true, ite_false, Bool.not_true, Bool.not_false, Bool.false_eq_true, not_false_eq_true, not_true_eq_false, reduceCtorEq, true_and, and_true, ne_eq, decide_eq_true_eq, isiN, isiCls, List.mem_cons, String.reduceEq, String.reduceBEq, or_true, true_or, or_false, false_or, Bool.or_true, Bool.true_or, Bool.false_or, Bool.or_false, Bool.and_false, Bool.false_and, Bool.true_and, Bool.and_true, beq_self_eq_true, decide_true, decide_false, c_wright_4]
    exact str_num hn k
  have nwv : v ≠ w := neS ev hw
  refine wlisted_spec updS_same (nums_wo h.ns (by have := h.nl; omega)) fun S5 g5 => ?_
  have g5' : Gr S4 S5 := (Gr.new hw).trans g5
  refine ⟨_, g5' _ _ ev, by show 3 < sizeLine; decide, ?_⟩
  have t5 : PapAt (updS S5 v (.lst ([.str (chS x.ls), .str (lsS (x.cs.map clW)), .str (lsS x.zs)] ++ [.str (lsS (x.ns.map numS))]))) p x a b c d := by
    have t0 := t4.kp (p := p) (kp_gr g5')
    exact ⟨by rw [updS_ne nva]; exact t0.ea, by rw [updS_ne nvb]; exact t0.eb, by rw [updS_ne nvc]; exact t0.ec, by rw [updS_ne nvd]; exact t0.ed, t.an, t.bn, t.cn, t.dn⟩
  have ev5 : updS S5 v (.lst ([.str (chS x.ls), .str (lsS (x.cs.map clW)), .str (lsS x.zs)] ++ [.str (lsS (x.ns.map numS))])) v = some (.lst ([chS x.ls, lsS (x.cs.map clW), lsS x.zs, lsS (x.ns.map numS)].map .str)) := updS_same
  have G5 : Gr S (updS S5 v (.lst ([.str (chS x.ls), .str (lsS (x.cs.map clW)), .str (lsS x.zs)] ++ [.str (lsS (x.ns.map numS))]))) := fun b o hb => by
    rw [updS_ne (fun z => by subst z; rw [hvS] at hb; cases hb)]
    exact g5' _ _ (G4 _ _ hb)
  generalize updS S5 v (.lst ([.str (chS x.ls), .str (lsS (x.cs.map clW)), .str (lsS x.zs)] ++ [.str (lsS (x.ns.map numS))])) = S6 at t5 ev5 G5
  unfold t_wright_5
  refine seq_i ?_
  simp (config := {implicitDefEqProofs := false, proj := false}) only [R_pp9, xS, xIf, xSet, xRet, xExpr, xRaise, eCallX, mNo, xE, sTry, sKeep, xFor, eVar, eC, eOp, eIf, eTup, eLst, eDict0, eDict, eSl, oNo, eCall, eCB, eM, eLc, eIsi2, aNil, aCons, pNil, pCons, tAndD, tOrD, tNotD, tsYes, gMns, gMod, gFdiv, gPow, gLe, gGt, gGe, sAsg, nName, sRet, sRetN, sExpr, sIf, sNext, sBreak, sCont, sFor, getS, setS, wipeS, endsD, asKeys, toKey, List.length_cons, List.length_nil, List.set_cons_zero, List.set_cons_succ, List.set_nil, Nat.zero_add, Nat.reduceAdd, Option.some.injEq, exists_and_left, exists_eq_left', exists_eq_left, id_eq, if_true, if_false, ite_true, ite_false, Bool.not_true, Bool.not_false, Bool.false_eq_true, not_false_eq_true, not_true_eq_false, reduceCtorEq, true_and, and_true, ne_eq, decide_eq_true_eq, isiN, isiCls, List.mem_cons, String.reduceEq, String.reduceBEq, or_true, true_or, or_false, false_or, Bool.or_true, Bool.true_or, Bool.false_or, Bool.or_false, Bool.and_false, Bool.false_and, Bool.true_and, Bool.and_true, beq_self_eq_true, decide_true, decide_false]
  refine chain_text_spec t5.ea h.ls h.l9 fun S7 g7 => ?_
  have t7 := t5.kp (p := p) (kp_gr g7)
  refine calling_text_spec t7.eb h.cs fun S8 g8 => ?_
  have t8 := t7.kp (p := p) (kp_gr g8)
  refine names_text_spec t8.ec (ns_zs h).wo fun S9 g9 => ?_
  have t9 := t8.kp (p := p) (kp_gr g9)
  refine places_text_spec t9.ed h.ns (by have := h.nl; omega) fun S10 g10 => ?_
  have t10 := t9.kp (p := p) (kp_gr g10)
  have g11 := g7.trans (g8.trans (g9.trans g10))
  refine ⟨by decide, fun u hu => ?_⟩
  have g12 : Gr S6 (updS S10 u (.lst [.str (chS x.ls), .str (lsS (x.cs.map clW)), .str (lsS x.zs), .str (lsS (x.ns.map numS))])) := g11.trans (.new hu)
  refine eq_strs (zs := [chS x.ls, lsS (x.cs.map clW), lsS x.zs, lsS (x.ns.map numS)]) updS_same (g12 _ _ ev5) ?_
  have t12 := t5.kp (p := p) (kp_gr g12)
  have ev12 := g12 _ _ ev5
  have G12 := G5.trans g12
  generalize updS S10 u (.lst [.str (chS x.ls), .str (lsS (x.cs.map clW)), .str (lsS x.zs), .str (lsS (x.ns.map numS))]) = S12 at t12 ev12 G12
  simp (config := {implicitDefEqProofs := false, proj := false}) only [R_pp9, xS, xIf, xSet, xRet, xExpr, xRaise, eCallX, mNo, xE, sTry, sKeep, xFor, eVar, eC, eOp, eIf, eTup, eLst, eDict0, eDict, eSl, oNo, eCall, eCB, eM, eLc, eIsi2, aNil, aCons, pNil, pCons, tAndD, tOrD, tNotD, tsYes, gMns, gMod, gFdiv, gPow, gLe, gGt, gGe, sAsg, nName, sRet, sRetN, sExpr, sIf, sNext, sBreak, sCont, sFor, getS, setS, wipeS, endsD, asKeys, toKey, List.length_cons, List.length_nil, List.set_cons_zero, List.set_cons_succ, List.set_nil, Nat.zero_add, Nat.reduceAdd, Option.some.injEq, exists_and_left, exists_eq_left', exists_eq_left, id_eq, if_true, if_false, ite_true, ite_false, Bool.not_true, Bool.not_false, Bool.false_eq_true, not_false_eq_true, not_true_eq_false, reduceCtorEq, true_and, and_true, ne_eq, decide_eq_true_eq, isiN, isiCls, List.mem_cons, String.reduceEq, String.reduceBEq, or_true, true_or, or_false, false_or, Bool.or_true, Bool.true_or, Bool.false_or, Bool.or_false, Bool.and_false, Bool.false_and, Bool.true_and, Bool.and_true, beq_self_eq_true, decide_true, decide_false]
  unfold t_wright_7
  refine seq_i ?_
  simp (config := {implicitDefEqProofs := false, proj := false}) only [R_pp9, xS, xIf, xSet, xRet, xExpr, xRaise, eCallX, mNo, xE, sTry, sKeep, xFor, eVar, eC, eOp, eIf, eTup, eLst, eDict0, eDict, eSl, oNo, eCall, eCB, eM, eLc, eIsi2, aNil, aCons, pNil, pCons, tAndD, tOrD, tNotD, tsYes, gMns, gMod, gFdiv, gPow, gLe, gGt, gGe, sAsg, nName, sRet, sRetN, sExpr, sIf, sNext, sBreak, sCont, sFor, getS, setS, wipeS, endsD, asKeys, toKey, List.length_cons, List.length_nil, List.set_cons_zero, List.set_cons_succ, List.set_nil, Nat.zero_add, Nat.reduceAdd, Option.some.injEq, exists_and_left, exists_eq_left', exists_eq_left, id_eq, if_true, if_false, ite_true, ite_false, Bool.not_true, Bool.not_false, Bool.false_eq_true, not_false_eq_true, not_true_eq_false, reduceCtorEq, true_and, and_true, ne_eq, decide_eq_true_eq, isiN, isiCls, List.mem_cons, String.reduceEq, String.reduceBEq, or_true, true_or, or_false, false_or, Bool.or_true, Bool.true_or, Bool.false_or, Bool.or_false, Bool.and_false, Bool.false_and, Bool.true_and, Bool.and_true, beq_self_eq_true, decide_true, decide_false, ev12]
  refine ⟨_, atI_nat (j := 0) rfl, ?_⟩
  refine read_right_i (by simp) (fun S Q q => read_chain_spec h.ls h.l0 h.l9 q) (fl_ls h) t12.ea fun S13 g13 => ?_
  have t13 := t12.kp (p := p) (kp_gr g13)
  simp (config := {implicitDefEqProofs := false, proj := false}) only [R_pp9, xS, xIf, xSet, xRet, xExpr, xRaise, eCallX, mNo, xE, sTry, sKeep, xFor, eVar, eC, eOp, eIf, eTup, eLst, eDict0, eDict, eSl, oNo, eCall, eCB, eM, eLc, eIsi2, aNil, aCons, pNil, pCons, tAndD, tOrD, tNotD, tsYes, gMns, gMod, gFdiv, gPow, gLe, gGt, gGe, sAsg, nName, sRet, sRetN, sExpr, sIf, sNext, sBreak, sCont, sFor, getS, setS, wipeS, endsD, asKeys, toKey, List.length_cons, List.length_nil, List.set_cons_zero, List.set_cons_succ, List.set_nil, Nat.zero_add, Nat.reduceAdd, Option.some.injEq, exists_and_left, exists_eq_left', exists_eq_left, id_eq, if_true, if_false, ite_true, ite_false, Bool.not_true, Bool.not_false, Bool.false_eq_true, not_false_eq_true, not_true_eq_false, reduceCtorEq, true_and, and_true, ne_eq, decide_eq_true_eq, isiN, isiCls, List.mem_cons, String.reduceEq, String.reduceBEq, or_true, true_or, or_false, false_or, Bool.or_true, Bool.true_or, Bool.false_or, Bool.or_false, Bool.and_false, Bool.false_and, Bool.true_and, Bool.and_true, beq_self_eq_true, decide_true, decide_false, g13 _ _ ev12]
  refine ⟨_, atI_nat (j := 1) rfl, ?_⟩
  refine read_right_i (by simp) (fun S Q q => read_calling_spec h.cs q) (fl_cs h) t13.eb fun S14 g14 => ?_
  have t14 := t13.kp (p := p) (kp_gr g14)
  have ev14 := g14 _ _ (g13 _ _ ev12)
  have G14 := G12.trans (g13.trans g14)
  simp (config := {implicitDefEqProofs := false, proj := false}) only [R_pp9, xS, xIf, xSet, xRet, xExpr, xRaise, eCallX, mNo, xE, sTry, sKeep, xFor, eVar, eC, eOp, eIf, eTup, eLst, eDict0, eDict, eSl, oNo, eCall, eCB, eM, eLc, eIsi2, aNil, aCons, pNil, pCons, tAndD, tOrD, tNotD, tsYes, gMns, gMod, gFdiv, gPow, gLe, gGt, gGe, sAsg, nName, sRet, sRetN, sExpr, sIf, sNext, sBreak, sCont, sFor, getS, setS, wipeS, endsD, asKeys, toKey, List.length_cons, List.length_nil, List.set_cons_zero, List.set_cons_succ, List.set_nil, Nat.zero_add, Nat.reduceAdd, Option.some.injEq, exists_and_left, exists_eq_left', exists_eq_left, id_eq, if_true, if_false, ite_true, ite_false, Bool.not_true, Bool.not_false, Bool.false_eq_true, not_false_eq_true, not_true_eq_false, reduceCtorEq, true_and, and_true, ne_eq, decide_eq_true_eq, isiN, isiCls, List.mem_cons, String.reduceEq, String.reduceBEq, or_true, true_or, or_false, false_or, Bool.or_true, Bool.true_or, Bool.false_or, Bool.or_false, Bool.and_false, Bool.false_and, Bool.true_and, Bool.and_true, beq_self_eq_true, decide_true, decide_false]
  unfold t_wright_9
  refine seq_i ?_
  simp (config := {implicitDefEqProofs := false, proj := false}) only [R_pp9, xS, xIf, xSet, xRet, xExpr, xRaise, eCallX, mNo, xE, sTry, sKeep, xFor, eVar, eC, eOp, eIf, eTup, eLst, eDict0, eDict, eSl, oNo, eCall, eCB, eM, eLc, eIsi2, aNil, aCons, pNil, pCons, tAndD, tOrD, tNotD, tsYes, gMns, gMod, gFdiv, gPow, gLe, gGt, gGe, sAsg, nName, sRet, sRetN, sExpr, sIf, sNext, sBreak, sCont, sFor, getS, setS, wipeS, endsD, asKeys, toKey, List.length_cons, List.length_nil, List.set_cons_zero, List.set_cons_succ, List.set_nil, Nat.zero_add, Nat.reduceAdd, Option.some.injEq, exists_and_left, exists_eq_left', exists_eq_left, id_eq, if_true, if_false, ite_true, ite_false, Bool.not_true, Bool.not_false, Bool.false_eq_true, not_false_eq_true, not_true_eq_false, reduceCtorEq, true_and, and_true, ne_eq, decide_eq_true_eq, isiN, isiCls, List.mem_cons, String.reduceEq, String.reduceBEq, or_true, true_or, or_false, false_or, Bool.or_true, Bool.true_or, Bool.false_or, Bool.or_false, Bool.and_false, Bool.false_and, Bool.true_and, Bool.and_true, beq_self_eq_true, decide_true, decide_false, t14.ea]
  refine ⟨_, rfl, ?_⟩
  obtain ⟨zo, ezo⟩ : ∃ zo, zo = (x.ls.map Lk.l ++ x.zs.reverse) ++ x.zs.take 1 := ⟨_, rfl⟩
  have hzo : NsOk zo := by
   rw [ezo]
   exact ⟨fun y hy => by
    rcases List.mem_append.mp hy with hy | hy
    · rcases List.mem_append.mp hy with hy | hy
      · obtain ⟨k, hk, rfl⟩ := List.mem_map.mp hy
        exact (h.ls.ok k hk).l
      · exact h.zs y (List.mem_reverse.mp hy)
    · exact h.zs y (List.mem_of_mem_take hy), by
    show (((x.ls.map Lk.l ++ x.zs.reverse) ++ x.zs.take 1)).length ≤ 50
    rw [List.length_append, List.length_append, List.length_map, List.length_reverse, List.length_take]
    have := h.l9
    have := h.zl
    omega⟩
  refine links_lc t14.ea h.l9 (fun _ => rfl) fun u1 hu1 => ?_
  have k1 : Gr S14 (updS S14 u1 (.lst ((x.ls.map Lk.l).map .str))) := .new hu1
  have e1 : updS S14 u1 (.lst ((x.ls.map Lk.l).map .str)) u1 = some (.lst ((x.ls.map Lk.l).map .str)) := updS_same
  generalize updS S14 u1 (.lst ((x.ls.map Lk.l).map .str)) = S15 at k1 e1
  refine ⟨x.zs.map .str, by unfold itmD; dsimp only; rw [k1 _ _ t14.ec], fun u2 hu2 => ?_⟩
  have k2 : Gr S15 (updS S15 u2 (.lst (x.zs.map .str).reverse)) := .new hu2
  have e2 : updS S15 u2 (.lst (x.zs.map .str).reverse) u2 = some (.lst (x.zs.map .str).reverse) := updS_same
  generalize updS S15 u2 (.lst (x.zs.map .str).reverse) = S16 at k2 e2
  refine ⟨_, _, k2 _ _ e1, e2, small_line (by rw [List.length_reverse, List.length_map, List.length_map, List.length_map]; have := h.l9; have := h.zl; omega), fun u3 hu3 => ?_⟩
  have k3 : Gr S16 (updS S16 u3 (.lst ((x.ls.map Lk.l).map .str ++ (x.zs.map .str).reverse))) := .new hu3
  have e3 : updS S16 u3 (.lst ((x.ls.map Lk.l).map .str ++ (x.zs.map .str).reverse)) u3 = some (.lst ((x.ls.map Lk.l).map .str ++ (x.zs.map .str).reverse)) := updS_same
  generalize updS S16 u3 (.lst ((x.ls.map Lk.l).map .str ++ (x.zs.map .str).reverse)) = S17 at k3 e3
  have k13 := k1.trans (k2.trans k3)
  refine ⟨_, k13 _ _ t14.ec, fun u4 hu4 => ?_⟩
  rw [show cutL (x.zs.map DL.D.str) none (some 1) = (x.zs.take 1).map .str from cut_strs x.zs 1]
  refine ⟨_, _, (Gr.new hu4) _ _ e3, updS_same, small_line (by rw [List.length_append, List.length_reverse, List.length_map, List.length_map, List.length_map, List.length_map, List.length_take]; have := h.l9; have := h.zl; omega), fun u5 hu5 => ?_⟩
  have k5 := k13.trans ((Gr.new (o := .lst ((x.zs.take 1).map .str)) hu4).trans (Gr.new (o := .lst ((x.ls.map Lk.l).map .str ++ (x.zs.map .str).reverse ++ (x.zs.take 1).map .str)) hu5))
  have e5 : updS (updS S17 u4 (.lst ((x.zs.take 1).map .str))) u5 (.lst ((x.ls.map Lk.l).map .str ++ (x.zs.map .str).reverse ++ (x.zs.take 1).map .str)) u5 = some (.lst (zo.map .str)) := by
    rw [updS_same, ezo]
    rw [List.map_append, List.map_append, List.map_reverse]
  generalize updS (updS S17 u4 (.lst ((x.zs.take 1).map .str))) u5 (.lst ((x.ls.map Lk.l).map .str ++ (x.zs.map .str).reverse ++ (x.zs.take 1).map .str)) = S18 at k5 e5
  unfold t_wright_10
  refine seq_i ?_
  simp (config := {implicitDefEqProofs := false, proj := false}) only [R_pp9, xS, xIf, xSet, xRet, xExpr, xRaise, eCallX, mNo, xE, sTry, sKeep, xFor, eVar, eC, eOp, eIf, eTup, eLst, eDict0, eDict, eSl, oNo, eCall, eCB, eM, eLc, eIsi2, aNil, aCons, pNil, pCons, tAndD, tOrD, tNotD, tsYes, gMns, gMod, gFdiv, gPow, gLe, gGt, gGe, sAsg, nName, sRet, sRetN, sExpr, sIf, sNext, sBreak, sCont, sFor, getS, setS, wipeS, endsD, asKeys, toKey, List.length_cons, List.length_nil, List.set_cons_zero, List.set_cons_succ, List.set_nil, Nat.zero_add, Nat.reduceAdd, Option.some.injEq, exists_and_left, exists_eq_left', exists_eq_left, id_eq, if_true, if_false, ite_true, ite_false, Bool.not_true, Bool.not_false, Bool.false_eq_true, not_false_eq_true, not_true_eq_false, reduceCtorEq, true_and, and_true, ne_eq, decide_eq_true_eq, isiN, isiCls, List.mem_cons, String.reduceEq, String.reduceBEq, or_true, true_or, or_false, false_or, Bool.or_true, Bool.true_or, Bool.false_or, Bool.or_false, Bool.and_false, Bool.false_and, Bool.true_and, Bool.and_true, beq_self_eq_true, decide_true, decide_false]
  refine names_text_spec e5 hzo.wo fun S19 g19 => ?_
  refine wlisted_spec (g19 _ _ e5) hzo.wo fun S20 g20 => ?_
  simp (config := {implicitDefEqProofs := false, proj := false}) only [R_pp9, xS, xIf, xSet, xRet, xExpr, xRaise, eCallX, mNo, xE, sTry, sKeep, xFor, eVar, eC, eOp, eIf, eTup, eLst, eDict0, eDict, eSl, oNo, eCall, eCB, eM, eLc, eIsi2, aNil, aCons, pNil, pCons, tAndD, tOrD, tNotD, tsYes, gMns, gMod, gFdiv, gPow, gLe, gGt, gGe, sAsg, nName, sRet, sRetN, sExpr, sIf, sNext, sBreak, sCont, sFor, getS, setS, wipeS, endsD, asKeys, toKey, List.length_cons, List.length_nil, List.set_cons_zero, List.set_cons_succ, List.set_nil, Nat.zero_add, Nat.reduceAdd, Option.some.injEq, exists_and_left, exists_eq_left', exists_eq_left, id_eq, if_true, if_false, ite_true, ite_false, Bool.not_true, Bool.not_false, Bool.false_eq_true, not_false_eq_true, not_true_eq_false, reduceCtorEq, true_and, and_true, ne_eq, decide_eq_true_eq, isiN, isiCls, List.mem_cons, String.reduceEq, String.reduceBEq, or_true, true_or, or_false, false_or, Bool.or_true, Bool.true_or, Bool.false_or, Bool.or_false, Bool.and_false, Bool.false_and, Bool.true_and, Bool.and_true, beq_self_eq_true, decide_true, decide_false]
  refine ⟨by decide, fun u6 hu6 => ?_⟩
  refine names_text_spec (zs := []) updS_same ⟨by decide, fun z hz => by cases hz⟩ fun S21 g21 => ?_
  rw [show lsS [] = "." from rfl]
  simp (config := {implicitDefEqProofs := false, proj := false}) only [R_pp9, xS, xIf, xSet, xRet, xExpr, xRaise, eCallX, mNo, xE, sTry, sKeep, xFor, eVar, eC, eOp, eIf, eTup, eLst, eDict0, eDict, eSl, oNo, eCall, eCB, eM, eLc, eIsi2, aNil, aCons, pNil, pCons, tAndD, tOrD, tNotD, tsYes, gMns, gMod, gFdiv, gPow, gLe, gGt, gGe, sAsg, nName, sRet, sRetN, sExpr, sIf, sNext, sBreak, sCont, sFor, getS, setS, wipeS, endsD, asKeys, toKey, List.length_cons, List.length_nil, List.set_cons_zero, List.set_cons_succ, List.set_nil, Nat.zero_add, Nat.reduceAdd, Option.some.injEq, exists_and_left, exists_eq_left', exists_eq_left, id_eq, if_true, if_false, ite_true, ite_false, Bool.not_true, Bool.not_false, Bool.false_eq_true, not_false_eq_true, not_true_eq_false, reduceCtorEq, true_and, and_true, ne_eq, decide_eq_true_eq, isiN, isiCls, List.mem_cons, String.reduceEq, String.reduceBEq, or_true, true_or, or_false, false_or, Bool.or_true, Bool.true_or, Bool.false_or, Bool.or_false, Bool.and_false, Bool.false_and, Bool.true_and, Bool.and_true, beq_self_eq_true, decide_true, decide_false]
  have g22 := k5.trans (g19.trans (g20.trans ((Gr.new (o := .lst []) hu6).trans g21)))
  have t22 := t14.kp (p := p) (kp_gr g22)
  have ev22 := g22 _ _ ev14
  have G22 := G14.trans g22
  simp (config := {implicitDefEqProofs := false, proj := false}) only [R_pp9, xS, xIf, xSet, xRet, xExpr, xRaise, eCallX, mNo, xE, sTry, sKeep, xFor, eVar, eC, eOp, eIf, eTup, eLst, eDict0, eDict, eSl, oNo, eCall, eCB, eM, eLc, eIsi2, aNil, aCons, pNil, pCons, tAndD, tOrD, tNotD, tsYes, gMns, gMod, gFdiv, gPow, gLe, gGt, gGe, sAsg, nName, sRet, sRetN, sExpr, sIf, sNext, sBreak, sCont, sFor, getS, setS, wipeS, endsD, asKeys, toKey, List.length_cons, List.length_nil, List.set_cons_zero, List.set_cons_succ, List.set_nil, Nat.zero_add, Nat.reduceAdd, Option.some.injEq, exists_and_left, exists_eq_left', exists_eq_left, id_eq, if_true, if_false, ite_true, ite_false, Bool.not_true, Bool.not_false, Bool.false_eq_true, not_false_eq_true, not_true_eq_false, reduceCtorEq, true_and, and_true, ne_eq, decide_eq_true_eq, isiN, isiCls, List.mem_cons, String.reduceEq, String.reduceBEq, or_true, true_or, or_false, false_or, Bool.or_true, Bool.true_or, Bool.false_or, Bool.or_false, Bool.and_false, Bool.false_and, Bool.true_and, Bool.and_true, beq_self_eq_true, decide_true, decide_false, t_wright_12, ev22]
  refine ⟨_, atI_nat (j := 2) rfl, ?_⟩
  refine read_right_i (by simp) (fun S Q q => read_names_spec (ns_zs h) h.zr q) (fl_zs h) t22.ec fun S23 g23 => ?_
  simp (config := {implicitDefEqProofs := false, proj := false}) only [R_pp9, xS, xIf, xSet, xRet, xExpr, xRaise, eCallX, mNo, xE, sTry, sKeep, xFor, eVar, eC, eOp, eIf, eTup, eLst, eDict0, eDict, eSl, oNo, eCall, eCB, eM, eLc, eIsi2, aNil, aCons, pNil, pCons, tAndD, tOrD, tNotD, tsYes, gMns, gMod, gFdiv, gPow, gLe, gGt, gGe, sAsg, nName, sRet, sRetN, sExpr, sIf, sNext, sBreak, sCont, sFor, getS, setS, wipeS, endsD, asKeys, toKey, List.length_cons, List.length_nil, List.set_cons_zero, List.set_cons_succ, List.set_nil, Nat.zero_add, Nat.reduceAdd, Option.some.injEq, exists_and_left, exists_eq_left', exists_eq_left, id_eq, if_true, if_false, ite_true, ite_false, Bool.not_true, Bool.not_false, Bool.false_eq_true, not_false_eq_true, not_true_eq_false, reduceCtorEq, true_and, and_true, ne_eq, decide_eq_true_eq, isiN, isiCls, List.mem_cons, String.reduceEq, String.reduceBEq, or_true, true_or, or_false, false_or, Bool.or_true, Bool.true_or, Bool.false_or, Bool.or_false, Bool.and_false, Bool.false_and, Bool.true_and, Bool.and_true, beq_self_eq_true, decide_true, decide_false]
  refine hz _ _ (G22.trans g23) ?_
  simp (config := {implicitDefEqProofs := false, proj := false}) only [R_pp9, xS, xIf, xSet, xRet, xExpr, xRaise, eCallX, mNo, xE, sTry, sKeep, xFor, eVar, eC, eOp, eIf, eTup, eLst, eDict0, eDict, eSl, oNo, eCall, eCB, eM, eLc, eIsi2, aNil, aCons, pNil, pCons, tAndD, tOrD, tNotD, tsYes, gMns, gMod, gFdiv, gPow, gLe, gGt, gGe, sAsg, nName, sRet, sRetN, sExpr, sIf, sNext, sBreak, sCont, sFor, getS, setS, wipeS, endsD, asKeys, toKey, List.length_cons, List.length_nil, List.set_cons_zero, List.set_cons_succ, List.set_nil, Nat.zero_add, Nat.reduceAdd, Option.some.injEq, exists_and_left, exists_eq_left', exists_eq_left, id_eq, if_true, if_false, ite_true, ite_false, Bool.not_true, Bool.not_false, Bool.false_eq_true, not_false_eq_true, not_true_eq_false, reduceCtorEq, true_and, and_true, ne_eq, decide_eq_true_eq, isiN, isiCls, List.mem_cons, String.reduceEq, String.reduceBEq, or_true, true_or, or_false, false_or, Bool.or_true, Bool.true_or, Bool.false_or, Bool.or_false, Bool.and_false, Bool.false_and, Bool.true_and, Bool.and_true, beq_self_eq_true, decide_true, decide_false]
  exact q _ (G22.trans g23)
end LW
namespace LW
open PySem L2 DL
theorem pen_spec {ns : List Int} {S : Sto} {Q : DK} (q : ∀ (p c : Addr) (S' : Sto), Pen S' p c 0 → Gr S S' → Q (.ref p) S') : m_wpen [.fl (ns.map .int)] S Q := by
  rw [e_wpen]
  simp (config := {implicitDefEqProofs := false, proj := false}) only [R_pp9, xS, xIf, xSet, xRet, xExpr, xRaise, eCallX, mNo, xE, sTry, sKeep, xFor, eVar, eC, eOp, eIf, eTup, eLst, eDict0, eDict, eSl, oNo, eCall, eCB, eM, eLc, eIsi2, aNil, aCons, pNil, pCons, tAndD, tOrD, tNotD, tsYes, gMns, gMod, gFdiv, gPow, gLe, gGt, gGe, sAsg, nName, sRet, sRetN, sExpr, sIf, sNext, sBreak, sCont, sFor, getS, setS, wipeS, endsD, asKeys, toKey, List.length_cons, List.length_nil, List.set_cons_zero, List.set_cons_succ, List.set_nil, Nat.zero_add, Nat.reduceAdd, Option.some.injEq, exists_and_left, exists_eq_left', exists_eq_left, id_eq, if_true, if_false, ite_true, ite_false, Bool.not_true, Bool.not_false, Bool.false_eq_true, not_false_eq_true, not_true_eq_false, reduceCtorEq, true_and, and_true, ne_eq, decide_eq_true_eq, isiN, isiCls, List.mem_cons, String.reduceEq, String.reduceBEq, or_true, true_or, or_false, false_or, Bool.or_true, Bool.true_or, Bool.false_or, Bool.or_false, Bool.and_false, Bool.false_and, Bool.true_and, Bool.and_true, beq_self_eq_true, decide_true, decide_false, b_wpen]
  intro p1 hp1
  refine ⟨_, updS_same, fun p2 hp2 => ⟨_, rfl, by show 3 ≤ 15; decide, fun p3 hp3 => ?_⟩⟩
  have n23 : p2 ≠ p3 := neS updS_same hp3
  have cut : cutL (ns.map D.int) none (some 63) = (ns.take 63).map D.int := by
    unfold cutL
    rw [HT.sIx_none, show HT.sIx (ns.map D.int).length (ns.map D.int).length (some 63) = min 63 (ns.map D.int).length from HT.sIx_nat _ _ 63]
    rw [List.drop_zero, List.map_take, Nat.sub_zero]
    by_cases h : 63 ≤ (ns.map D.int).length
    · rw [Nat.min_eq_left h]
    · rw [Nat.min_eq_right (by omega), List.take_of_length_le (Nat.le_refl _), List.take_of_length_le (by omega)]
  have e : mergeD [] [(kS "cells", D.ref p2), (kS "at", .int 0), (kS "left", .int 0)] = penKv p2 0 0 := by
    unfold mergeD penKv
    simp only [List.foldl, putD, hasD, valD, Option.isSome, if_neg k_ca, if_neg k_cl, if_neg k_al, if_false, Bool.false_eq_true, List.nil_append, List.cons_append]
  refine q p3 p2 _ ⟨ns.take 63, 0, 0, by rw [updS_same]; exact congrArg (fun t => some (O.dk t)) e, ?_, by rw [List.length_take]; omega, by decide, by decide, by decide⟩ ?_
  · rw [updS_ne n23, updS_same, cut]
  · exact ((Gr.new hp1).trans (.new hp2)).trans (.new hp3)
/-- drawn places -/
theorem places_lc {p pc : Addr} {b m : Nat} {σ : DL.Env} {S : Sto} {K : List DL.D → Sto → Prop} (h : Pen S p pc b) (hb : b + 100 ≤ 100000) (hm : m ≤ 10) (hs : ∀ v, getS 1 (setS 8 v σ) = some (.ref p))
    (k : ∀ (ns : List Nat) (S' : Sto), ns.length ≤ 10 → (∀ n ∈ ns, n < 10 ^ 60) → Pen S' p pc (b + 30) → Kp p S S' → K (plD ns) S') : lcL (fun _ => True) (nName 8) tsYes c_law_5 σ K (rangeD 0 m) [] S := by
  refine lcL_inv _ (fun i acc S' => ∃ ns, acc = plD ns ∧ ns.length = i ∧ (∀ n ∈ ns, n < 10 ^ 60) ∧ Pen S' p pc (b + 2 * i) ∧ Kp p S S') (fun _ _ _ _ => trivial) (fun i x acc S6 N hx hI hN => ?el) (fun acc S6 hI => ?af) ⟨[], rfl, rfl, (fun n hn => by cases hn), h, .refl⟩
  case af =>
    obtain ⟨ns, rfl, hl, hn, p6, g6⟩ := hI
    rw [rangeD_len] at hl p6
    exact k ns S6 (by omega) hn (p6.mono (by omega)) g6
  case el =>
    obtain ⟨ns, rfl, hl, hn, p6, g6⟩ := hI
    have hi := (List.getElem?_eq_some_iff.mp hx).1
    rw [rangeD_len] at hi
    simp (config := {implicitDefEqProofs := false, proj := false}) only [R_pp9, xS, xIf, xSet, xRet, xExpr, xRaise, eCallX, mNo, xE, sTry, sKeep, xFor, eVar, eC, eOp, eIf, eTup, eLst, eDict0, eDict, eSl, oNo, eCall, eCB, eM, eLc, eIsi2, aNil, aCons, pNil, pCons, tAndD, tOrD, tNotD, tsYes, gMns, gMod, gFdiv, gPow, gLe, gGt, gGe, sAsg, nName, sRet, sRetN, sExpr, sIf, sNext, sBreak, sCont, sFor, getS, setS, wipeS, endsD, asKeys, toKey, List.length_cons, List.length_nil, List.set_cons_zero, List.set_cons_succ, List.set_nil, Nat.zero_add, Nat.reduceAdd, Option.some.injEq, exists_and_left, exists_eq_left', exists_eq_left, id_eq, if_true, if_false, ite_true, ite_false, Bool.not_true, Bool.not_false, Bool.false_eq_true, not_false_eq_true, not_true_eq_false, reduceCtorEq, true_and, and_true, ne_eq, decide_eq_true_eq, isiN, isiCls, List.mem_cons, String.reduceEq, String.reduceBEq, or_true, true_or, or_false, false_or, Bool.or_true, Bool.true_or, Bool.false_or, Bool.or_false, Bool.and_false, Bool.false_and, Bool.true_and, Bool.and_true, beq_self_eq_true, decide_true, decide_false, c_law_5, hs]
    refine ⟨powI (by decide) (by decide) (by decide) (by decide), ?_⟩
    refine take_spec p6 (by omega) (by decide) (by decide +kernel) fun t S1 t0 t1 p1 f1 => ?_
    refine ⟨powI (by decide) (by decide) (by decide) (by decide), by decide, fun c2 hc2 => ?_⟩
    refine take_spec (p1.new hc2) (by omega) (by decide) (by decide) fun j S2 j0 j1 p2 f2 => ?_
    rw [f2 _ _ (p1.ne hc2).1 updS_same, oIx_li]
    have hm : ∃ m : Nat, m < 10 ^ 60 ∧ atI [DL.D.int 0, .int t, .int (10 ^ Int.toNat 60 - 1)] j = some (.int (m : Nat)) := by
      obtain ⟨i, rfl⟩ : ∃ i : Nat, j = (i : Nat) := ⟨j.toNat, by omega⟩
      match i, j1 with
      | 0, _ => exact ⟨0, by decide +kernel, rfl⟩
      | 1, _ => exact ⟨t.toNat, Nat.lt_of_lt_of_le (show t.toNat < 10 ^ 8 by
          have e : (10 : Int) ^ Int.toNat 8 = 100000000 := by decide +kernel
          rw [e] at t1
          have e : (10 : Nat) ^ 8 = 100000000 := by decide +kernel
          rw [e]
          omega) (by decide +kernel), by rw [show ((t.toNat : Nat) : Int) = t by omega]; rfl⟩
      | 2, _ => exact ⟨10 ^ 60 - 1, by decide +kernel, by
          show some _ = some _
          congr 2⟩
      | i + 3, h => exact absurd h (by omega)
    obtain ⟨m2, hm2, em⟩ := hm
    refine ⟨_, em, by unfold plD; rw [List.length_map, hl]; exact line_of (by omega), hN _ _ ⟨ns ++ [m2], ?_, by rw [List.length_append, hl]; rfl, fun n hn2 => ?_, p2.mono (by omega), ((g6.trans f1).trans (.new hc2)).trans f2⟩⟩
    · unfold plD
      rw [List.map_append]
      rfl
    · rcases List.mem_append.mp hn2 with h | h
      · exact hn n h
      · rw [List.mem_singleton.mp h]; exact hm2
def GoodP (S : Sto) (p f : Addr) (x : DL.D) : Prop := ∃ y a b c d, y.ok ∧ PapAt S p y a b c d ∧ (a ≠ f ∧ b ≠ f ∧ c ≠ f ∧ d ≠ f) ∧ x = .tup [.ref a, .ref b, .ref c, .ref d]
theorem GoodP.kp {S S' : Sto} {p f : Addr} {x : DL.D} (h : GoodP S p f x) (k : Kp p S S') : GoodP S' p f x :=
  let ⟨y, a, b, c, d, h1, h2, h3, h4⟩ := h; ⟨y, a, b, c, d, h1, h2.kp k, h3, h4⟩
theorem GoodP.put {S : Sto} {p f : Addr} {o : O} {x : DL.D} (h : GoodP S p f x) : GoodP (updS S f o) p f x :=
  let ⟨y, a, b, c, d, h1, h2, h3, h4⟩ := h; ⟨y, a, b, c, d, h1, ⟨by rw [updS_ne h3.1]; exact h2.ea, by rw [updS_ne h3.2.1]; exact h2.eb, by rw [updS_ne h3.2.2.1]; exact h2.ec, by rw [updS_ne h3.2.2.2]; exact h2.ed, h2.an, h2.bn, h2.cn, h2.dn⟩, h3, h4⟩
theorem law_true (ns : List Int) (hns : ns.length ≤ 63) : m_law [.fl (ns.map .int)] (fun _ => none) (fun d _ => d = .bl true) := by
  rw [e_law]
  refine seq_i ?_
  simp (config := {implicitDefEqProofs := false, proj := false}) only [R_pp9, xS, xIf, xSet, xRet, xExpr, xRaise, eCallX, mNo, xE, sTry, sKeep, xFor, eVar, eC, eOp, eIf, eTup, eLst, eDict0, eDict, eSl, oNo, eCall, eCB, eM, eLc, eIsi2, aNil, aCons, pNil, pCons, tAndD, tOrD, tNotD, tsYes, gMns, gMod, gFdiv, gPow, gLe, gGt, gGe, sAsg, nName, sRet, sRetN, sExpr, sIf, sNext, sBreak, sCont, sFor, getS, setS, wipeS, endsD, asKeys, toKey, List.length_cons, List.length_nil, List.set_cons_zero, List.set_cons_succ, List.set_nil, Nat.zero_add, Nat.reduceAdd, Option.some.injEq, exists_and_left, exists_eq_left', exists_eq_left, id_eq, if_true, if_false, ite_true, ite_false, Bool.not_true, Bool.not_false, Bool.false_eq_true, not_false_eq_true, not_true_eq_false, reduceCtorEq, true_and, and_true, ne_eq, decide_eq_true_eq, isiN, isiCls, List.mem_cons, String.reduceEq, String.reduceBEq, or_true, true_or, or_false, false_or, Bool.or_true, Bool.true_or, Bool.false_or, Bool.or_false, Bool.and_false, Bool.false_and, Bool.true_and, Bool.and_true, beq_self_eq_true, decide_true, decide_false]
  refine pen_spec fun p pc S1 p1 _ => ?_
  simp (config := {implicitDefEqProofs := false, proj := false}) only [R_pp9, xS, xIf, xSet, xRet, xExpr, xRaise, eCallX, mNo, xE, sTry, sKeep, xFor, eVar, eC, eOp, eIf, eTup, eLst, eDict0, eDict, eSl, oNo, eCall, eCB, eM, eLc, eIsi2, aNil, aCons, pNil, pCons, tAndD, tOrD, tNotD, tsYes, gMns, gMod, gFdiv, gPow, gLe, gGt, gGe, sAsg, nName, sRet, sRetN, sExpr, sIf, sNext, sBreak, sCont, sFor, getS, setS, wipeS, endsD, asKeys, toKey, List.length_cons, List.length_nil, List.set_cons_zero, List.set_cons_succ, List.set_nil, Nat.zero_add, Nat.reduceAdd, Option.some.injEq, exists_and_left, exists_eq_left', exists_eq_left, id_eq, if_true, if_false, ite_true, ite_false, Bool.not_true, Bool.not_false, Bool.false_eq_true, not_false_eq_true, not_true_eq_false, reduceCtorEq, true_and, and_true, ne_eq, decide_eq_true_eq, isiN, isiCls, List.mem_cons, String.reduceEq, String.reduceBEq, or_true, true_or, or_false, false_or, Bool.or_true, Bool.true_or, Bool.false_or, Bool.or_false, Bool.and_false, Bool.false_and, Bool.true_and, Bool.and_true, beq_self_eq_true, decide_true, decide_false, t_law_2]
  refine seq_i ?_
  simp (config := {implicitDefEqProofs := false, proj := false}) only [R_pp9, xS, xIf, xSet, xRet, xExpr, xRaise, eCallX, mNo, xE, sTry, sKeep, xFor, eVar, eC, eOp, eIf, eTup, eLst, eDict0, eDict, eSl, oNo, eCall, eCB, eM, eLc, eIsi2, aNil, aCons, pNil, pCons, tAndD, tOrD, tNotD, tsYes, gMns, gMod, gFdiv, gPow, gLe, gGt, gGe, sAsg, nName, sRet, sRetN, sExpr, sIf, sNext, sBreak, sCont, sFor, getS, setS, wipeS, endsD, asKeys, toKey, List.length_cons, List.length_nil, List.set_cons_zero, List.set_cons_succ, List.set_nil, Nat.zero_add, Nat.reduceAdd, Option.some.injEq, exists_and_left, exists_eq_left', exists_eq_left, id_eq, if_true, if_false, ite_true, ite_false, Bool.not_true, Bool.not_false, Bool.false_eq_true, not_false_eq_true, not_true_eq_false, reduceCtorEq, true_and, and_true, ne_eq, decide_eq_true_eq, isiN, isiCls, List.mem_cons, String.reduceEq, String.reduceBEq, or_true, true_or, or_false, false_or, Bool.or_true, Bool.true_or, Bool.false_or, Bool.or_false, Bool.and_false, Bool.false_and, Bool.true_and, Bool.and_true, beq_self_eq_true, decide_true, decide_false]
  refine ⟨by decide, fun f hf => ?_⟩
  have p2 := p1.new (o := .lst []) hf
  have nf := p1.ne hf
  have ef : updS S1 f (.lst []) f = some (.lst []) := updS_same
  generalize updS S1 f (.lst []) = S2 at p2 ef
  simp (config := {implicitDefEqProofs := false, proj := false}) only [R_pp9, xS, xIf, xSet, xRet, xExpr, xRaise, eCallX, mNo, xE, sTry, sKeep, xFor, eVar, eC, eOp, eIf, eTup, eLst, eDict0, eDict, eSl, oNo, eCall, eCB, eM, eLc, eIsi2, aNil, aCons, pNil, pCons, tAndD, tOrD, tNotD, tsYes, gMns, gMod, gFdiv, gPow, gLe, gGt, gGe, sAsg, nName, sRet, sRetN, sExpr, sIf, sNext, sBreak, sCont, sFor, getS, setS, wipeS, endsD, asKeys, toKey, List.length_cons, List.length_nil, List.set_cons_zero, List.set_cons_succ, List.set_nil, Nat.zero_add, Nat.reduceAdd, Option.some.injEq, exists_and_left, exists_eq_left', exists_eq_left, id_eq, if_true, if_false, ite_true, ite_false, Bool.not_true, Bool.not_false, Bool.false_eq_true, not_false_eq_true, not_true_eq_false, reduceCtorEq, true_and, and_true, ne_eq, decide_eq_true_eq, isiN, isiCls, List.mem_cons, String.reduceEq, String.reduceBEq, or_true, true_or, or_false, false_or, Bool.or_true, Bool.true_or, Bool.false_or, Bool.or_false, Bool.and_false, Bool.false_and, Bool.true_and, Bool.and_true, beq_self_eq_true, decide_true, decide_false, t_law_3]
  refine seq_i ?_
  simp (config := {implicitDefEqProofs := false, proj := false}) only [R_pp9, xS, xIf, xSet, xRet, xExpr, xRaise, eCallX, mNo, xE, sTry, sKeep, xFor, eVar, eC, eOp, eIf, eTup, eLst, eDict0, eDict, eSl, oNo, eCall, eCB, eM, eLc, eIsi2, aNil, aCons, pNil, pCons, tAndD, tOrD, tNotD, tsYes, gMns, gMod, gFdiv, gPow, gLe, gGt, gGe, sAsg, nName, sRet, sRetN, sExpr, sIf, sNext, sBreak, sCont, sFor, getS, setS, wipeS, endsD, asKeys, toKey, List.length_cons, List.length_nil, List.set_cons_zero, List.set_cons_succ, List.set_nil, Nat.zero_add, Nat.reduceAdd, Option.some.injEq, exists_and_left, exists_eq_left', exists_eq_left, id_eq, if_true, if_false, ite_true, ite_false, Bool.not_true, Bool.not_false, Bool.false_eq_true, not_false_eq_true, not_true_eq_false, reduceCtorEq, true_and, and_true, ne_eq, decide_eq_true_eq, isiN, isiCls, List.mem_cons, String.reduceEq, String.reduceBEq, or_true, true_or, or_false, false_or, Bool.or_true, Bool.true_or, Bool.false_or, Bool.or_false, Bool.and_false, Bool.false_and, Bool.true_and, Bool.and_true, beq_self_eq_true, decide_true, decide_false]
  refine ⟨by decide, by decide, ?_⟩
  refine forR_inv _ _ (fun i σ S' => (∃ u3 u5 u6 u7, σ = [some (.fl (ns.map .int)), some (.ref p), some (.ref f), u3, none, u5, u6, u7, none]) ∧ Pen S' p pc (200 * i) ∧ ∃ ds, S' f = some (.lst ds) ∧ ds.length = i ∧ ∀ x ∈ ds, GoodP S' p f x) (fun _ _ _ _ => trivial) (fun i σ S' N hi hJ hN => ?turn) (fun σ S' hJ => ?fin) ⟨⟨none, none, none, none, rfl⟩, p2, [], ef, rfl, fun x hx => nomatch hx⟩
  case fin =>
    obtain ⟨⟨u3, u5, u6, u7, rfl⟩, p3, ds, ed, hl, hg⟩ := hJ
    simp (config := {implicitDefEqProofs := false, proj := false}) only [R_pp9, xS, xIf, xSet, xRet, xExpr, xRaise, eCallX, mNo, xE, sTry, sKeep, xFor, eVar, eC, eOp, eIf, eTup, eLst, eDict0, eDict, eSl, oNo, eCall, eCB, eM, eLc, eIsi2, aNil, aCons, pNil, pCons, tAndD, tOrD, tNotD, tsYes, gMns, gMod, gFdiv, gPow, gLe, gGt, gGe, sAsg, nName, sRet, sRetN, sExpr, sIf, sNext, sBreak, sCont, sFor, getS, setS, wipeS, endsD, asKeys, toKey, List.length_cons, List.length_nil, List.set_cons_zero, List.set_cons_succ, List.set_nil, Nat.zero_add, Nat.reduceAdd, Option.some.injEq, exists_and_left, exists_eq_left', exists_eq_left, id_eq, if_true, if_false, ite_true, ite_false, Bool.not_true, Bool.not_false, Bool.false_eq_true, not_false_eq_true, not_true_eq_false, reduceCtorEq, true_and, and_true, ne_eq, decide_eq_true_eq, isiN, isiCls, List.mem_cons, String.reduceEq, String.reduceBEq, or_true, true_or, or_false, false_or, Bool.or_true, Bool.true_or, Bool.false_or, Bool.or_false, Bool.and_false, Bool.false_and, Bool.true_and, Bool.and_true, beq_self_eq_true, decide_true, decide_false, t_law_8]
    refine seq_i ?_
    simp (config := {implicitDefEqProofs := false, proj := false}) only [R_pp9, xS, xIf, xSet, xRet, xExpr, xRaise, eCallX, mNo, xE, sTry, sKeep, xFor, eVar, eC, eOp, eIf, eTup, eLst, eDict0, eDict, eSl, oNo, eCall, eCB, eM, eLc, eIsi2, aNil, aCons, pNil, pCons, tAndD, tOrD, tNotD, tsYes, gMns, gMod, gFdiv, gPow, gLe, gGt, gGe, sAsg, nName, sRet, sRetN, sExpr, sIf, sNext, sBreak, sCont, sFor, getS, setS, wipeS, endsD, asKeys, toKey, List.length_cons, List.length_nil, List.set_cons_zero, List.set_cons_succ, List.set_nil, Nat.zero_add, Nat.reduceAdd, Option.some.injEq, exists_and_left, exists_eq_left', exists_eq_left, id_eq, if_true, if_false, ite_true, ite_false, Bool.not_true, Bool.not_false, Bool.false_eq_true, not_false_eq_true, not_true_eq_false, reduceCtorEq, true_and, and_true, ne_eq, decide_eq_true_eq, isiN, isiCls, List.mem_cons, String.reduceEq, String.reduceBEq, or_true, true_or, or_false, false_or, Bool.or_true, Bool.true_or, Bool.false_or, Bool.or_false, Bool.and_false, Bool.false_and, Bool.true_and, Bool.and_true, beq_self_eq_true, decide_true, decide_false, ed]
    refine ⟨ds, by unfold itmD; dsimp only; rw [ed], fun r hr => ?_⟩
    refine ⟨ds, ds.reverse, (Gr.new hr) _ _ ed, updS_same, small_line (by rw [List.length_reverse, hl]; decide), fun r2 hr2 => ?_⟩
    have g : Gr S' (updS (updS S' r (.lst ds.reverse)) r2 (.lst (ds ++ ds.reverse))) := (Gr.new hr).trans (.new hr2)
    have e2 : updS (updS S' r (.lst ds.reverse)) r2 (.lst (ds ++ ds.reverse)) r2 = some (.lst (ds ++ ds.reverse)) := updS_same
    generalize updS (updS S' r (.lst ds.reverse)) r2 (.lst (ds ++ ds.reverse)) = S3 at g e2
    simp (config := {implicitDefEqProofs := false, proj := false}) only [R_pp9, xS, xIf, xSet, xRet, xExpr, xRaise, eCallX, mNo, xE, sTry, sKeep, xFor, eVar, eC, eOp, eIf, eTup, eLst, eDict0, eDict, eSl, oNo, eCall, eCB, eM, eLc, eIsi2, aNil, aCons, pNil, pCons, tAndD, tOrD, tNotD, tsYes, gMns, gMod, gFdiv, gPow, gLe, gGt, gGe, sAsg, nName, sRet, sRetN, sExpr, sIf, sNext, sBreak, sCont, sFor, getS, setS, wipeS, endsD, asKeys, toKey, List.length_cons, List.length_nil, List.set_cons_zero, List.set_cons_succ, List.set_nil, Nat.zero_add, Nat.reduceAdd, Option.some.injEq, exists_and_left, exists_eq_left', exists_eq_left, id_eq, if_true, if_false, ite_true, ite_false, Bool.not_true, Bool.not_false, Bool.false_eq_true, not_false_eq_true, not_true_eq_false, reduceCtorEq, true_and, and_true, ne_eq, decide_eq_true_eq, isiN, isiCls, List.mem_cons, String.reduceEq, String.reduceBEq, or_true, true_or, or_false, false_or, Bool.or_true, Bool.true_or, Bool.false_or, Bool.or_false, Bool.and_false, Bool.false_and, Bool.true_and, Bool.and_true, beq_self_eq_true, decide_true, decide_false, e2]
    refine ⟨_, rfl, ?_⟩
    refine forL_inv _ (fun i σ S' => (∃ u4, σ = [some (.fl (ns.map .int)), some (.ref p), some (.ref f), u3, u4, u5, u6, u7, none]) ∧ Gr S3 S') (fun _ _ _ hI => hI.2 _ _ e2) (fun i x σ S4 N hx hJ hN => ?turn2) (fun σ S' hJ => ?fin2) ⟨⟨none, rfl⟩, .refl⟩
    case fin2 =>
      obtain ⟨⟨u4, rfl⟩, _⟩ := hJ
      simp (config := {implicitDefEqProofs := false, proj := false}) only [R_pp9, xS, xIf, xSet, xRet, xExpr, xRaise, eCallX, mNo, xE, sTry, sKeep, xFor, eVar, eC, eOp, eIf, eTup, eLst, eDict0, eDict, eSl, oNo, eCall, eCB, eM, eLc, eIsi2, aNil, aCons, pNil, pCons, tAndD, tOrD, tNotD, tsYes, gMns, gMod, gFdiv, gPow, gLe, gGt, gGe, sAsg, nName, sRet, sRetN, sExpr, sIf, sNext, sBreak, sCont, sFor, getS, setS, wipeS, endsD, asKeys, toKey, List.length_cons, List.length_nil, List.set_cons_zero, List.set_cons_succ, List.set_nil, Nat.zero_add, Nat.reduceAdd, Option.some.injEq, exists_and_left, exists_eq_left', exists_eq_left, id_eq, if_true, if_false, ite_true, ite_false, Bool.not_true, Bool.not_false, Bool.false_eq_true, not_false_eq_true, not_true_eq_false, reduceCtorEq, true_and, and_true, ne_eq, decide_eq_true_eq, isiN, isiCls, List.mem_cons, String.reduceEq, String.reduceBEq, or_true, true_or, or_false, false_or, Bool.or_true, Bool.true_or, Bool.false_or, Bool.or_false, Bool.and_false, Bool.false_and, Bool.true_and, Bool.and_true, beq_self_eq_true, decide_true, decide_false, t_law_11]
    case turn2 =>
      obtain ⟨⟨u4, rfl⟩, g4⟩ := hJ
      have hm := List.mem_of_getElem? hx
      have hm : x ∈ ds := by
        rcases List.mem_append.mp hm with h | h
        · exact h
        · exact List.mem_reverse.mp h
      obtain ⟨y, a, b, c, d, hy, t, _, rfl⟩ := (hg x hm).kp (kp_gr (g.trans g4))
      simp (config := {implicitDefEqProofs := false, proj := false}) only [R_pp9, xS, xIf, xSet, xRet, xExpr, xRaise, eCallX, mNo, xE, sTry, sKeep, xFor, eVar, eC, eOp, eIf, eTup, eLst, eDict0, eDict, eSl, oNo, eCall, eCB, eM, eLc, eIsi2, aNil, aCons, pNil, pCons, tAndD, tOrD, tNotD, tsYes, gMns, gMod, gFdiv, gPow, gLe, gGt, gGe, sAsg, nName, sRet, sRetN, sExpr, sIf, sNext, sBreak, sCont, sFor, getS, setS, wipeS, endsD, asKeys, toKey, List.length_cons, List.length_nil, List.set_cons_zero, List.set_cons_succ, List.set_nil, Nat.zero_add, Nat.reduceAdd, Option.some.injEq, exists_and_left, exists_eq_left', exists_eq_left, id_eq, if_true, if_false, ite_true, ite_false, Bool.not_true, Bool.not_false, Bool.false_eq_true, not_false_eq_true, not_true_eq_false, reduceCtorEq, true_and, and_true, ne_eq, decide_eq_true_eq, isiN, isiCls, List.mem_cons, String.reduceEq, String.reduceBEq, or_true, true_or, or_false, false_or, Bool.or_true, Bool.true_or, Bool.false_or, Bool.or_false, Bool.and_false, Bool.false_and, Bool.true_and, Bool.and_true, beq_self_eq_true, decide_true, decide_false, l_law_8]
      refine wright_spec hy t fun S5 g5 => ?_
      simp (config := {implicitDefEqProofs := false, proj := false}) only [R_pp9, xS, xIf, xSet, xRet, xExpr, xRaise, eCallX, mNo, xE, sTry, sKeep, xFor, eVar, eC, eOp, eIf, eTup, eLst, eDict0, eDict, eSl, oNo, eCall, eCB, eM, eLc, eIsi2, aNil, aCons, pNil, pCons, tAndD, tOrD, tNotD, tsYes, gMns, gMod, gFdiv, gPow, gLe, gGt, gGe, sAsg, nName, sRet, sRetN, sExpr, sIf, sNext, sBreak, sCont, sFor, getS, setS, wipeS, endsD, asKeys, toKey, List.length_cons, List.length_nil, List.set_cons_zero, List.set_cons_succ, List.set_nil, Nat.zero_add, Nat.reduceAdd, Option.some.injEq, exists_and_left, exists_eq_left', exists_eq_left, id_eq, if_true, if_false, ite_true, ite_false, Bool.not_true, Bool.not_false, Bool.false_eq_true, not_false_eq_true, not_true_eq_false, reduceCtorEq, true_and, and_true, ne_eq, decide_eq_true_eq, isiN, isiCls, List.mem_cons, String.reduceEq, String.reduceBEq, or_true, true_or, or_false, false_or, Bool.or_true, Bool.true_or, Bool.false_or, Bool.or_false, Bool.and_false, Bool.false_and, Bool.true_and, Bool.and_true, beq_self_eq_true, decide_true, decide_false]
      exact hN _ _ ⟨⟨_, rfl⟩, g4.trans g5⟩
  case turn =>
    obtain ⟨⟨u3, u5, u6, u7, rfl⟩, p3, ds, ed, hl, hg⟩ := hJ
    have hi : i < 3 := hi
    simp (config := {implicitDefEqProofs := false, proj := false}) only [R_pp9, xS, xIf, xSet, xRet, xExpr, xRaise, eCallX, mNo, xE, sTry, sKeep, xFor, eVar, eC, eOp, eIf, eTup, eLst, eDict0, eDict, eSl, oNo, eCall, eCB, eM, eLc, eIsi2, aNil, aCons, pNil, pCons, tAndD, tOrD, tNotD, tsYes, gMns, gMod, gFdiv, gPow, gLe, gGt, gGe, sAsg, nName, sRet, sRetN, sExpr, sIf, sNext, sBreak, sCont, sFor, getS, setS, wipeS, endsD, asKeys, toKey, List.length_cons, List.length_nil, List.set_cons_zero, List.set_cons_succ, List.set_nil, Nat.zero_add, Nat.reduceAdd, Option.some.injEq, exists_and_left, exists_eq_left', exists_eq_left, id_eq, if_true, if_false, ite_true, ite_false, Bool.not_true, Bool.not_false, Bool.false_eq_true, not_false_eq_true, not_true_eq_false, reduceCtorEq, true_and, and_true, ne_eq, decide_eq_true_eq, isiN, isiCls, List.mem_cons, String.reduceEq, String.reduceBEq, or_true, true_or, or_false, false_or, Bool.or_true, Bool.true_or, Bool.false_or, Bool.or_false, Bool.and_false, Bool.false_and, Bool.true_and, Bool.and_true, beq_self_eq_true, decide_true, decide_false]
    unfold l_law_3
    refine seq_i ?_
    simp (config := {implicitDefEqProofs := false, proj := false}) only [R_pp9, xS, xIf, xSet, xRet, xExpr, xRaise, eCallX, mNo, xE, sTry, sKeep, xFor, eVar, eC, eOp, eIf, eTup, eLst, eDict0, eDict, eSl, oNo, eCall, eCB, eM, eLc, eIsi2, aNil, aCons, pNil, pCons, tAndD, tOrD, tNotD, tsYes, gMns, gMod, gFdiv, gPow, gLe, gGt, gGe, sAsg, nName, sRet, sRetN, sExpr, sIf, sNext, sBreak, sCont, sFor, getS, setS, wipeS, endsD, asKeys, toKey, List.length_cons, List.length_nil, List.set_cons_zero, List.set_cons_succ, List.set_nil, Nat.zero_add, Nat.reduceAdd, Option.some.injEq, exists_and_left, exists_eq_left', exists_eq_left, id_eq, if_true, if_false, ite_true, ite_false, Bool.not_true, Bool.not_false, Bool.false_eq_true, not_false_eq_true, not_true_eq_false, reduceCtorEq, true_and, and_true, ne_eq, decide_eq_true_eq, isiN, isiCls, List.mem_cons, String.reduceEq, String.reduceBEq, or_true, true_or, or_false, false_or, Bool.or_true, Bool.true_or, Bool.false_or, Bool.or_false, Bool.and_false, Bool.false_and, Bool.true_and, Bool.and_true, beq_self_eq_true, decide_true, decide_false]
    refine take_spec p3 (by omega) (by decide) (by decide) fun k S3 k0 k1 p4 f4 => ?_
    simp (config := {implicitDefEqProofs := false, proj := false}) only [R_pp9, xS, xIf, xSet, xRet, xExpr, xRaise, eCallX, mNo, xE, sTry, sKeep, xFor, eVar, eC, eOp, eIf, eTup, eLst, eDict0, eDict, eSl, oNo, eCall, eCB, eM, eLc, eIsi2, aNil, aCons, pNil, pCons, tAndD, tOrD, tNotD, tsYes, gMns, gMod, gFdiv, gPow, gLe, gGt, gGe, sAsg, nName, sRet, sRetN, sExpr, sIf, sNext, sBreak, sCont, sFor, getS, setS, wipeS, endsD, asKeys, toKey, List.length_cons, List.length_nil, List.set_cons_zero, List.set_cons_succ, List.set_nil, Nat.zero_add, Nat.reduceAdd, Option.some.injEq, exists_and_left, exists_eq_left', exists_eq_left, id_eq, if_true, if_false, ite_true, ite_false, Bool.not_true, Bool.not_false, Bool.false_eq_true, not_false_eq_true, not_true_eq_false, reduceCtorEq, true_and, and_true, ne_eq, decide_eq_true_eq, isiN, isiCls, List.mem_cons, String.reduceEq, String.reduceBEq, or_true, true_or, or_false, false_or, Bool.or_true, Bool.true_or, Bool.false_or, Bool.or_false, Bool.and_false, Bool.false_and, Bool.true_and, Bool.and_true, beq_self_eq_true, decide_true, decide_false]
    rw [show (1 + k : Int) = (((1 + k.toNat : Nat)) : Int) by omega]
    refine names_spec p4 (by omega) (by omega) fun na zs S4 zok zl p5 en nfr f5 => ?_
    have ed4 : S4 f = some (.lst ds) := f5 _ _ nf.1 (f4 _ _ nf.1 ed)
    have nan : na ≠ p := (p4.ne nfr).1
    have naf : na ≠ f := fun e => by rw [e, f4 _ _ nf.1 ed] at nfr; cases nfr
    have G4 : Kp p S' S4 := f4.trans f5
    unfold t_law_5
    refine seq_i ?_
    simp (config := {implicitDefEqProofs := false, proj := false}) only [R_pp9, xS, xIf, xSet, xRet, xExpr, xRaise, eCallX, mNo, xE, sTry, sKeep, xFor, eVar, eC, eOp, eIf, eTup, eLst, eDict0, eDict, eSl, oNo, eCall, eCB, eM, eLc, eIsi2, aNil, aCons, pNil, pCons, tAndD, tOrD, tNotD, tsYes, gMns, gMod, gFdiv, gPow, gLe, gGt, gGe, sAsg, nName, sRet, sRetN, sExpr, sIf, sNext, sBreak, sCont, sFor, getS, setS, wipeS, endsD, asKeys, toKey, List.length_cons, List.length_nil, List.set_cons_zero, List.set_cons_succ, List.set_nil, Nat.zero_add, Nat.reduceAdd, Option.some.injEq, exists_and_left, exists_eq_left', exists_eq_left, id_eq, if_true, if_false, ite_true, ite_false, Bool.not_true, Bool.not_false, Bool.false_eq_true, not_false_eq_true, not_true_eq_false, reduceCtorEq, true_and, and_true, ne_eq, decide_eq_true_eq, isiN, isiCls, List.mem_cons, String.reduceEq, String.reduceBEq, or_true, true_or, or_false, false_or, Bool.or_true, Bool.true_or, Bool.false_or, Bool.or_false, Bool.and_false, Bool.false_and, Bool.true_and, Bool.and_true, beq_self_eq_true, decide_true, decide_false]
    refine take_spec p5 (by omega) (by decide) (by decide) fun m S5 m0 m1 p6 f6 => ?_
    simp (config := {implicitDefEqProofs := false, proj := false}) only [R_pp9, xS, xIf, xSet, xRet, xExpr, xRaise, eCallX, mNo, xE, sTry, sKeep, xFor, eVar, eC, eOp, eIf, eTup, eLst, eDict0, eDict, eSl, oNo, eCall, eCB, eM, eLc, eIsi2, aNil, aCons, pNil, pCons, tAndD, tOrD, tNotD, tsYes, gMns, gMod, gFdiv, gPow, gLe, gGt, gGe, sAsg, nName, sRet, sRetN, sExpr, sIf, sNext, sBreak, sCont, sFor, getS, setS, wipeS, endsD, asKeys, toKey, List.length_cons, List.length_nil, List.set_cons_zero, List.set_cons_succ, List.set_nil, Nat.zero_add, Nat.reduceAdd, Option.some.injEq, exists_and_left, exists_eq_left', exists_eq_left, id_eq, if_true, if_false, ite_true, ite_false, Bool.not_true, Bool.not_false, Bool.false_eq_true, not_false_eq_true, not_true_eq_false, reduceCtorEq, true_and, and_true, ne_eq, decide_eq_true_eq, isiN, isiCls, List.mem_cons, String.reduceEq, String.reduceBEq, or_true, true_or, or_false, false_or, Bool.or_true, Bool.true_or, Bool.false_or, Bool.or_false, Bool.and_false, Bool.false_and, Bool.true_and, Bool.and_true, beq_self_eq_true, decide_true, decide_false]
    refine ⟨by omega, by omega, ?_⟩
    refine places_lc p6 (by omega) (by omega) (fun _ => rfl) fun pl S6 pl1 pl2 p7 f7 pa hpa => ?_
    have G6 : Kp p S' S6 := (G4.trans f6).trans f7
    have npa : pa ≠ p := (p7.ne hpa).1
    have npf : pa ≠ f := fun e => by rw [e, G6 _ _ nf.1 ed] at hpa; cases hpa
    have g7 : Kp p S6 (updS S6 pa (.lst (plD pl))) := .new hpa
    have epa : updS S6 pa (.lst (plD pl)) pa = some (.lst (plD pl)) := updS_same
    have p8 := p7.new (o := .lst (plD pl)) hpa
    have G7 := G6.trans g7
    have en7 := g7 _ _ nan (f7 _ _ nan (f6 _ _ nan en))
    generalize updS S6 pa (.lst (plD pl)) = S7 at g7 epa p8 G7 en7
    unfold t_law_6
    refine seq_i ?_
    simp (config := {implicitDefEqProofs := false, proj := false}) only [R_pp9, xS, xIf, xSet, xRet, xExpr, xRaise, eCallX, mNo, xE, sTry, sKeep, xFor, eVar, eC, eOp, eIf, eTup, eLst, eDict0, eDict, eSl, oNo, eCall, eCB, eM, eLc, eIsi2, aNil, aCons, pNil, pCons, tAndD, tOrD, tNotD, tsYes, gMns, gMod, gFdiv, gPow, gLe, gGt, gGe, sAsg, nName, sRet, sRetN, sExpr, sIf, sNext, sBreak, sCont, sFor, getS, setS, wipeS, endsD, asKeys, toKey, List.length_cons, List.length_nil, List.set_cons_zero, List.set_cons_succ, List.set_nil, Nat.zero_add, Nat.reduceAdd, Option.some.injEq, exists_and_left, exists_eq_left', exists_eq_left, id_eq, if_true, if_false, ite_true, ite_false, Bool.not_true, Bool.not_false, Bool.false_eq_true, not_false_eq_true, not_true_eq_false, reduceCtorEq, true_and, and_true, ne_eq, decide_eq_true_eq, isiN, isiCls, List.mem_cons, String.reduceEq, String.reduceBEq, or_true, true_or, or_false, false_or, Bool.or_true, Bool.true_or, Bool.false_or, Bool.or_false, Bool.and_false, Bool.false_and, Bool.true_and, Bool.and_true, beq_self_eq_true, decide_true, decide_false, en7]
    rw [List.length_map, zl]
    refine take_spec p8 (by omega) (by omega) (Nat.lt_of_le_of_lt (Nat.log2_le_self _) (by omega)) fun j S8 j0 j1 p9 f8 => ?_
    obtain ⟨j, rfl⟩ : ∃ i : Nat, j = (i : Nat) := ⟨j.toNat, by omega⟩
    simp (config := {implicitDefEqProofs := false, proj := false}) only [R_pp9, xS, xIf, xSet, xRet, xExpr, xRaise, eCallX, mNo, xE, sTry, sKeep, xFor, eVar, eC, eOp, eIf, eTup, eLst, eDict0, eDict, eSl, oNo, eCall, eCB, eM, eLc, eIsi2, aNil, aCons, pNil, pCons, tAndD, tOrD, tNotD, tsYes, gMns, gMod, gFdiv, gPow, gLe, gGt, gGe, sAsg, nName, sRet, sRetN, sExpr, sIf, sNext, sBreak, sCont, sFor, getS, setS, wipeS, endsD, asKeys, toKey, List.length_cons, List.length_nil, List.set_cons_zero, List.set_cons_succ, List.set_nil, Nat.zero_add, Nat.reduceAdd, Option.some.injEq, exists_and_left, exists_eq_left', exists_eq_left, id_eq, if_true, if_false, ite_true, ite_false, Bool.not_true, Bool.not_false, Bool.false_eq_true, not_false_eq_true, not_true_eq_false, reduceCtorEq, true_and, and_true, ne_eq, decide_eq_true_eq, isiN, isiCls, List.mem_cons, String.reduceEq, String.reduceBEq, or_true, true_or, or_false, false_or, Bool.or_true, Bool.true_or, Bool.false_or, Bool.or_false, Bool.and_false, Bool.false_and, Bool.true_and, Bool.and_true, beq_self_eq_true, decide_true, decide_false]
    refine ⟨_, f8 _ _ nan en7, fun sa hsa => ?_⟩
    rw [cut_strs]
    have e9 : updS S8 sa (.lst ((zs.take j).map .str)) sa = some (.lst ((zs.take j).map .str)) := updS_same
    have G9 : Kp p S' (updS S8 sa (.lst ((zs.take j).map .str))) := (G7.trans f8).trans (.new hsa)
    have p10 := p9.new (o := .lst ((zs.take j).map .str)) hsa
    have k9 : Kp p S7 (updS S8 sa (.lst ((zs.take j).map .str))) := f8.trans (.new hsa)
    generalize updS S8 sa (.lst ((zs.take j).map .str)) = S9 at e9 G9 p10 k9
    refine .inl (.inr ⟨_, e9, by rw [List.length_take]; omega, fun so hso hst so1 hso1 => ?_⟩)
    have hrise : Rise so := rise_of hst (hso.nodup_iff.mpr (zok.take j).nd)
    have hsl : so.length ≤ 10 := by rw [hso.length_eq, List.length_take]; omega
    have nsp : so1 ≠ p := (p10.ne hso1).1
    have nsf : so1 ≠ f := fun e => by rw [e, G9 _ _ nf.1 ed] at hso1; cases hso1
    have e11 : updS S9 so1 (.lst (so.map .str)) so1 = some (.lst (so.map .str)) := updS_same
    have G11 : Kp p S' (updS S9 so1 (.lst (so.map .str))) := G9.trans (.new hso1)
    have k11 : Kp p S7 (updS S9 so1 (.lst (so.map .str))) := k9.trans (.new hso1)
    have p11 := p10.new (o := .lst (so.map .str)) hso1
    generalize updS S9 so1 (.lst (so.map .str)) = S11 at e11 G11 p11 k11
    simp (config := {implicitDefEqProofs := false, proj := false}) only [R_pp9, xS, xIf, xSet, xRet, xExpr, xRaise, eCallX, mNo, xE, sTry, sKeep, xFor, eVar, eC, eOp, eIf, eTup, eLst, eDict0, eDict, eSl, oNo, eCall, eCB, eM, eLc, eIsi2, aNil, aCons, pNil, pCons, tAndD, tOrD, tNotD, tsYes, gMns, gMod, gFdiv, gPow, gLe, gGt, gGe, sAsg, nName, sRet, sRetN, sExpr, sIf, sNext, sBreak, sCont, sFor, getS, setS, wipeS, endsD, asKeys, toKey, List.length_cons, List.length_nil, List.set_cons_zero, List.set_cons_succ, List.set_nil, Nat.zero_add, Nat.reduceAdd, Option.some.injEq, exists_and_left, exists_eq_left', exists_eq_left, id_eq, if_true, if_false, ite_true, ite_false, Bool.not_true, Bool.not_false, Bool.false_eq_true, not_false_eq_true, not_true_eq_false, reduceCtorEq, true_and, and_true, ne_eq, decide_eq_true_eq, isiN, isiCls, List.mem_cons, String.reduceEq, String.reduceBEq, or_true, true_or, or_false, false_or, Bool.or_true, Bool.true_or, Bool.false_or, Bool.or_false, Bool.and_false, Bool.false_and, Bool.true_and, Bool.and_true, beq_self_eq_true, decide_true, decide_false]
    unfold t_law_7
    simp (config := {implicitDefEqProofs := false, proj := false}) only [R_pp9, xS, xIf, xSet, xRet, xExpr, xRaise, eCallX, mNo, xE, sTry, sKeep, xFor, eVar, eC, eOp, eIf, eTup, eLst, eDict0, eDict, eSl, oNo, eCall, eCB, eM, eLc, eIsi2, aNil, aCons, pNil, pCons, tAndD, tOrD, tNotD, tsYes, gMns, gMod, gFdiv, gPow, gLe, gGt, gGe, sAsg, nName, sRet, sRetN, sExpr, sIf, sNext, sBreak, sCont, sFor, getS, setS, wipeS, endsD, asKeys, toKey, List.length_cons, List.length_nil, List.set_cons_zero, List.set_cons_succ, List.set_nil, Nat.zero_add, Nat.reduceAdd, Option.some.injEq, exists_and_left, exists_eq_left', exists_eq_left, id_eq, if_true, if_false, ite_true, ite_false, Bool.not_true, Bool.not_false, Bool.false_eq_true, not_false_eq_true, not_true_eq_false, reduceCtorEq, true_and, and_true, ne_eq, decide_eq_true_eq, isiN, isiCls, List.mem_cons, String.reduceEq, String.reduceBEq, or_true, true_or, or_false, false_or, Bool.or_true, Bool.true_or, Bool.false_or, Bool.or_false, Bool.and_false, Bool.false_and, Bool.true_and, Bool.and_true, beq_self_eq_true, decide_true, decide_false, G11 _ _ nf.1 ed]
    have T11 : Txs S11 p na zs := ⟨k11 _ _ nan en7, nan, zok⟩
    refine wchain_spec p11 (by omega) T11 (by omega) (by omega) fun ca ls S12 h1 h2 h3 p12 eca nca frc f12 => ?_
    have ncf : ca ≠ f := fun e => by rw [e, G11 _ _ nf.1 ed] at frc; cases frc
    refine wcalling_spec p12 (by omega) (T11.kp f12) (by omega) (by omega) fun cb cs S13 h5 p13 ecb ncb frb f13 => ?_
    have G13 := (G11.trans f12).trans f13
    have nbf : cb ≠ f := fun e => by rw [e, f12 _ _ nf.1 (G11 _ _ nf.1 ed)] at frb; cases frb
    have hpap : Pap.ok ⟨ls, cs, so, pl⟩ := ⟨h1, h2, h3, h5, fun z hz => zok.nm z (List.mem_of_mem_take (hso.mem_iff.mp hz)), hrise, hsl, pl2, pl1⟩
    have hat : PapAt S13 p ⟨ls, cs, so, pl⟩ ca cb so1 pa := ⟨f13 _ _ nca eca, ecb, f13 _ _ nsp (f12 _ _ nsp e11), f13 _ _ npa (f12 _ _ npa (k11 _ _ npa epa)), nca, ncb, nsp, npa⟩
    refine ⟨by decide, ds, G13 _ _ nf.1 ed, by rw [hl]; exact line_of (by omega), hN _ _ ⟨⟨_, _, _, _, rfl⟩, (p13.put2 nf.1 nf.2).mono (by omega), ds ++ [.tup [.ref ca, .ref cb, .ref so1, .ref pa]], updS_same, by rw [List.length_append, hl]; rfl, fun x hx => ?_⟩⟩
    rcases List.mem_append.mp hx with hx | hx
    · exact ((hg x hx).kp G13).put
    · rw [List.mem_singleton.mp hx]
      exact GoodP.put ⟨_, _, _, _, _, hpap, hat, ⟨ncf, nbf, nsf, npf⟩, rfl⟩
end LW
open PySem PySem.W PyProof.Rows
set_option maxHeartbeats 0 in
theorem PySem.Challenge.cw_dykelengths_k73_papers_written_and_read_holds : PySem.Challenge.rw_dykelengths_k73_papers_written_and_read.Holds := by
  w_on; o_law; k_head; (case hw => w_witness2)
  k_fill
  refine DL.walk_ofG (l := PySem.Challenge.rw_dykelengths_k73_papers_written_and_read) (n := 63) (k := 6) (x := "_law_script") (CX := L2.CX0) (sp := fun K => DL.spD K 1 LW.m_law) rfl (by decide) rfl ⟨rfl, by decide, by decide⟩ (fun w h Y => PySem.W.kIn_of Y) ?F (fun _ H a ns hl o hS => DL.law_sp LW.law_true H a ns hl o hS) (fun _ _ _ _ h => h)
  case F =>
    intro w mg fa h KX G hmg
    refine' LW.law_mk KX G hmg ?T ?a2 ?l2 ?c2 ?k2
    (case a2 => k_is); (case l2 => k_is); (case c2 => k_is); (case k2 => k_is)
    case T =>
      refine' ⟨?f0, ?f1, ?f2, ?f3, ?f4, ?f5, ?f6, ?f7, ?f8, ?f9, ?f10, ?f11, ?f12, ?f13, ?f14, ?f15, ?f16, ?f17, ?f18, ?f19, ?f20, ?f21, ?f22, ?f23, ?f24, ?n0, ?n1, ?n2, ?n3, ?n4, ?n5, ?n6, ?n7, ?n8, ?n9, ?n10, ?n11, ?n12, ?n13, ?c0, ?c1, ?c2, ?c3, ?k0, ?k1, ?k2⟩
      case f0 =>
        refine' LW.ft_mk KX G ?a ?l ?c ?k (fun _ _ _ _ _ _ us hl => match us, hl with | [_], _ => rfl)
        (case a => k_is); (case l => k_is); (case c => k_is); (case k => k_is)
      case f1 =>
        refine' LW.ft_mk KX G ?a ?l ?c ?k (fun _ _ _ _ _ _ us hl => match us, hl with | [_, _], _ => rfl)
        (case a => k_is); (case l => k_is); (case c => k_is); (case k => k_is)
      case f2 =>
        refine' LW.ft_mk KX G ?a ?l ?c ?k (fun _ _ _ _ _ _ us hl => match us, hl with | [_, _], _ => rfl)
        (case a => k_is); (case l => k_is); (case c => k_is); (case k => k_is)
      case f3 =>
        refine' LW.ft_mk KX G ?a ?l ?c ?k (fun _ _ _ _ _ _ us hl => match us, hl with | [_, _], _ => rfl)
        (case a => k_is); (case l => k_is); (case c => k_is); (case k => k_is)
      case f4 =>
        refine' LW.ft_mk KX G ?a ?l ?c ?k (fun _ _ _ _ _ _ us hl => match us, hl with | [_, _], _ => rfl)
        (case a => k_is); (case l => k_is); (case c => k_is); (case k => k_is)
      case f5 =>
        refine' LW.ft_mk KX G ?a ?l ?c ?k (fun _ _ _ _ _ _ us hl => match us, hl with | [_], _ => rfl)
        (case a => k_is); (case l => k_is); (case c => k_is); (case k => k_is)
      case f6 =>
        refine' LW.ft_mk KX G ?a ?l ?c ?k (fun _ _ _ _ _ _ us hl => match us, hl with | [_], _ => rfl)
        (case a => k_is); (case l => k_is); (case c => k_is); (case k => k_is)
      case f7 =>
        refine' LW.ft_mk KX G ?a ?l ?c ?k (fun _ _ _ _ _ _ us hl => match us, hl with | [_], _ => rfl)
        (case a => k_is); (case l => k_is); (case c => k_is); (case k => k_is)
      case f8 =>
        refine' LW.ft_mk KX G ?a ?l ?c ?k (fun _ _ _ _ _ _ us hl => match us, hl with | [_], _ => rfl)
        (case a => k_is); (case l => k_is); (case c => k_is); (case k => k_is)
      case f9 =>
        refine' LW.ft_mk KX G ?a ?l ?c ?k (fun _ _ _ _ _ _ us hl => match us, hl with | [_], _ => rfl)
        (case a => k_is); (case l => k_is); (case c => k_is); (case k => k_is)
      case f10 =>
        refine' LW.ft_mk KX G ?a ?l ?c ?k (fun _ _ _ _ _ _ us hl => match us, hl with | [_], _ => rfl)
        (case a => k_is); (case l => k_is); (case c => k_is); (case k => k_is)
      case f11 =>
        refine' LW.ft_mk KX G ?a ?l ?c ?k (fun _ _ _ _ _ _ us hl => match us, hl with | [_], _ => rfl)
        (case a => k_is); (case l => k_is); (case c => k_is); (case k => k_is)
      case f12 =>
        refine' LW.ft_mk KX G ?a ?l ?c ?k (fun _ _ _ _ _ _ us hl => match us, hl with | [_], _ => rfl)
        (case a => k_is); (case l => k_is); (case c => k_is); (case k => k_is)
      case f13 =>
        refine' LW.ft_mk KX G ?a ?l ?c ?k (fun _ _ _ _ _ _ us hl => match us, hl with | [_], _ => rfl)
        (case a => k_is); (case l => k_is); (case c => k_is); (case k => k_is)
      case f14 =>
        refine' LW.ft_mk KX G ?a ?l ?c ?k (fun _ _ _ _ _ _ us hl => match us, hl with | [_], _ => rfl)
        (case a => k_is); (case l => k_is); (case c => k_is); (case k => k_is)
      case f15 =>
        refine' LW.ft_mk KX G ?a ?l ?c ?k (fun _ _ _ _ _ _ us hl => match us, hl with | [_], _ => rfl)
        (case a => k_is); (case l => k_is); (case c => k_is); (case k => k_is)
      case f16 =>
        refine' LW.ft_mk KX G ?a ?l ?c ?k (fun _ _ _ _ _ _ us hl => match us, hl with | [_], _ => rfl)
        (case a => k_is); (case l => k_is); (case c => k_is); (case k => k_is)
      case f17 =>
        refine' LW.ft_mk KX G ?a ?l ?c ?k (fun _ _ _ _ _ _ us hl => match us, hl with | [_], _ => rfl)
        (case a => k_is); (case l => k_is); (case c => k_is); (case k => k_is)
      case f18 =>
        refine' LW.ft_mk KX G ?a ?l ?c ?k (fun _ _ _ _ _ _ us hl => match us, hl with | [_], _ => rfl)
        (case a => k_is); (case l => k_is); (case c => k_is); (case k => k_is)
      case f19 =>
        refine' LW.ft_mk KX G ?a ?l ?c ?k (fun _ _ _ _ _ _ us hl => match us, hl with | [_], _ => rfl)
        (case a => k_is); (case l => k_is); (case c => k_is); (case k => k_is)
      case f20 =>
        refine' LW.ft_mk KX G ?a ?l ?c ?k (fun _ _ _ _ _ _ us hl => match us, hl with | [_], _ => rfl)
        (case a => k_is); (case l => k_is); (case c => k_is); (case k => k_is)
      case f21 =>
        refine' LW.ft_mk KX G ?a ?l ?c ?k (fun _ _ _ _ _ _ us hl => match us, hl with | [_], _ => rfl)
        (case a => k_is); (case l => k_is); (case c => k_is); (case k => k_is)
      case f22 =>
        refine' LW.ft_mk KX G ?a ?l ?c ?k (fun _ _ _ _ _ _ us hl => match us, hl with | [_, _, _], _ => rfl)
        (case a => k_is); (case l => k_is); (case c => k_is); (case k => k_is)
      case f23 =>
        refine' LW.ft_mk KX G ?a ?l ?c ?k (fun _ _ _ _ _ _ us hl => match us, hl with | [_], _ => rfl)
        (case a => k_is); (case l => k_is); (case c => k_is); (case k => k_is)
      case f24 =>
        refine' LW.ft_mk KX G ?a ?l ?c ?k (fun _ _ _ _ _ _ us hl => match us, hl with | [_], _ => rfl)
        (case a => k_is); (case l => k_is); (case c => k_is); (case k => k_is)
      case n0 => exact PySem.W.mg_none_of KX G (by k_is)
      case n1 => exact PySem.W.mg_none_of KX G (by k_is)
      case n2 => exact PySem.W.mg_none_of KX G (by k_is)
      case n3 => exact PySem.W.mg_none_of KX G (by k_is)
      case n4 => exact PySem.W.mg_none_of KX G (by k_is)
      case n5 => exact PySem.W.mg_none_of KX G (by k_is)
      case n6 => exact PySem.W.mg_none_of KX G (by k_is)
      case n7 => exact PySem.W.mg_none_of KX G (by k_is)
      case n8 => exact PySem.W.mg_none_of KX G (by k_is)
      case n9 => exact PySem.W.mg_none_of KX G (by k_is)
      case n10 => exact PySem.W.mg_none_of KX G (by k_is)
      case n11 => exact PySem.W.mg_none_of KX G (by k_is)
      case n12 => exact PySem.W.mg_none_of KX G (by k_is)
      case n13 => exact PySem.W.mg_none_of KX G (by k_is)
      case c0 => exact ⟨_, PySem.W.mg_of KX G (by k_is)⟩
      case c1 => exact ⟨_, PySem.W.mg_of KX G (by k_is)⟩
      case c2 => exact ⟨_, PySem.W.mg_of KX G (by k_is)⟩
      case c3 => exact ⟨_, PySem.W.mg_of KX G (by k_is)⟩
      case k0 => exact DL.clsT_mk KX G (by k_is)
      case k1 => exact DL.clsT_mk KX G (by k_is)
      case k2 => exact DL.clsT_mk KX G (by k_is)
