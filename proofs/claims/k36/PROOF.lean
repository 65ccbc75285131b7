import PyProof.Rows.All
import Wide.All
import OpenK.AllK
import Wide.FinOn
import HandS.ForMost
import HandS.Wide
import HandS.IsInst
import HandS.TupAny
import HandS.Style
import HandS.Exc
import HandS.Lambda
import KE.DataEq
import HandS.NoneIn
import HandS.SortInts
import HandS.TupMul
import HandS.Zip
import KE.LtData
import HandS.More
import KE.SortKeyHeap
import HandS.SortKw
import HandS.TupSets
import HandS.SetKeys
import HandS.RaiseMore
import KE.KDictList
import HandS.Sort
import HandS.Text
import HandS.Codes
import HandS.TryOnly
import HandS.ExcOwn
import HandS.WordsExc
import HandS.ExcValue
import HandS.ExcIs
import KE.SortCalls
import KE.SortData
import KE.DataFind
import HandS.CallLocal
import HandS.Conv
import HandS.Nested
import HandS.EndTab
import PyProof.SeqIndex
import KE.DataCmp
import HandS.SetFor
import HandS.Set
import KE.GoesMore
import KE.KDictSum
import HandS.MapSum
import KE.GoesZip
import HandS.Flow
import KE.KDictPairs
import KE.KDictCopyH
import PyProof.StrOps2
import PyProof.EqKinds
import PyProof.FactsAll.dict_1
import KE.KNest
import PySem.Challenge.RW_dykelengths_k36_rings_told
set_option Elab.async false
set_option linter.all false
set_option maxRecDepth 100000
set_option maxHeartbeats 4000000
/-! pure data over the abstract heap: tuples are values, lists and dicts stand in a store -/
namespace DL
open PySem PySem.Spec PyProof.Rows L2
/-! ### data, store -/
inductive D where
  | non | bl (b : Bool) | int (i : Int) | str (s : Str) | tup (xs : List D) | ref (a : Addr) | fl (xs : List D) | ty (n : String) | exc (c : Str) | cls (c : Str) | kt (ks : List Key) | nt (xs : List D)
  deriving Inhabited
inductive O where
  | lst (xs : List D) | dk (kvs : List (Key × D)) | dt (kvs : List (List Key × D)) | tab (q : Str) | fz (kvs : List (Key × D))
abbrev Sto := Addr → Option O
abbrev Env := List (Option D)
abbrev DK := D → Sto → Prop
abbrev DE := Env → Sto → DK → Prop
abbrev DT := Env → Sto → (Bool → Sto → Prop) → Prop
abbrev DA := Env → Sto → (List D → Sto → Prop) → Prop
def updS (S : Sto) (a : Addr) (o : O) : Sto := fun b => if b = a then some o else S b
theorem updS_same {S : Sto} {a : Addr} {o : O} : updS S a o a = some o := by unfold updS; rw [if_pos rfl]
theorem updS_ne {S : Sto} {a b : Addr} {o : O} (h : b ≠ a) : updS S a o b = S b := by unfold updS; rw [if_neg h]
theorem updS_updS {S : Sto} {a : Addr} {o u : O} : updS (updS S a o) a u = updS S a u := by
  funext b; unfold updS; split <;> rfl
theorem neS {S : Sto} {a b : Addr} {o : O} (h : S a = some o) (h' : S b = none) : a ≠ b := by
  intro e; subst e; rw [h] at h'; cases h'
/-- a list that never changes: locked, or of the written part -/
def FrL (K : PySem.W.Frag) (H : Hp) (a : Addr) (vs : List V) : Prop := (∃ o, H a = some (.frz o (.lst vs))) ∨
    ∃ (o : Obj) (its : Array Value) (n : Nat), K.lookup a = some o ∧ o.cls = .type "list" ∧ o.dict = none ∧ o.data = .seq its n ∧ its.size ≤ sizeLine ∧ Vals vs its.toList
theorem FrL.sq {K : PySem.W.Frag} {H : Hp} {a : Addr} {vs : List V} (h : FrL K H a vs) : SqL K H a vs := by
  rcases h with h | h
  · exact .inl (.inr h)
  · exact .inr h
/-- a tuple whose object is known, without a dict of its own -/
def NeT (H : Hp) (a : Addr) (vs : List V) : Prop := ∃ o : Obj, H a = some (.frz o (.tup vs)) ∧ o.dict = none
theorem NeT.sq {K : PySem.W.Frag} {H : Hp} {a : Addr} {vs : List V} (h : NeT H a vs) : SqT K H a vs := by
  obtain ⟨o, e, _⟩ := h
  exact .inl (.inr ⟨o, e⟩)
/-- at a: a caught exception of the class at C -/
def ExC (a C : Addr) : HO := .ext fun h => ∃ (oe : Obj) (vs : Array Value), h.get? a = some oe ∧ Zc (.ref C) none oe ∧ oe.data = .fields vs
mutual
inductive Rep (K : PySem.W.Frag) (H : Hp) : V → D → Prop
  | non : Rep K H .non .non
  | bl (b : Bool) : Rep K H (.bl b) (.bl b)
  | int (i : Int) : Rep K H (.int i) (.int i)
  | str (s : Str) : Rep K H (.str s) (.str s)
  | ref (a : Addr) : Rep K H (.ref a) (.ref a)
  | ty (n : String) : Rep K H (.ty n) (.ty n)
  | tup {a : Addr} {vs : List V} {ds : List D} (h : SqT K H a vs) (r : Reps K H vs ds) : Rep K H (.ref a) (.tup ds)
  | fl {a : Addr} {vs : List V} {ds : List D} (h : FrL K H a vs) (r : Reps K H vs ds) : Rep K H (.ref a) (.fl ds)
  | exc {a C : Addr} {c : Str} (n : PySem.W.nsIn K mainGlobals c = some (some (.ref C))) (h : H a = some (ExC a C)) : Rep K H (.ref a) (.exc c)
  | cls {C : Addr} {c : Str} (n : PySem.W.nsIn K mainGlobals c = some (some (.ref C))) : Rep K H (.ref C) (.cls c)
  | kt {a : Addr} {ks : List Key} (h : H a = some (.tup (ks.map kV))) : Rep K H (.ref a) (.kt ks)
  | nt {a : Addr} {vs : List V} {ds : List D} (h : NeT H a vs) (r : Reps K H vs ds) : Rep K H (.ref a) (.nt ds)
inductive Reps (K : PySem.W.Frag) (H : Hp) : List V → List D → Prop
  | nil : Reps K H [] []
  | cons {v : V} {d : D} {vs : List V} {ds : List D} (h : Rep K H v d) (r : Reps K H vs ds) : Reps K H (v :: vs) (d :: ds)
end
/-- tuples and locked lists stay -/
structure Tx (K : PySem.W.Frag) (H H' : Hp) : Prop where
  tup : ∀ a vs, SqT K H a vs → SqT K H' a vs
  fl : ∀ a vs, FrL K H a vs → FrL K H' a vs
  exc : ∀ a φ, H a = some (.ext φ) → H' a = some (.ext φ)
  kt : ∀ a vs, H a = some (.tup vs) → H' a = some (.tup vs)
  nt : ∀ a o vs, H a = some (.frz o (.tup vs)) → H' a = some (.frz o (.tup vs))
theorem Tx.refl {K : PySem.W.Frag} {H : Hp} : Tx K H H := ⟨fun _ _ h => h, fun _ _ h => h, fun _ _ h => h, fun _ _ h => h, fun _ _ _ h => h⟩
theorem Tx.trans {K : PySem.W.Frag} {H H1 H2 : Hp} (a : Tx K H H1) (b : Tx K H1 H2) : Tx K H H2 := ⟨fun c vs h => b.tup c vs (a.tup c vs h), fun c vs h => b.fl c vs (a.fl c vs h), fun c C h => b.exc c C (a.exc c C h), fun c vs h => b.kt c vs (a.kt c vs h), fun c o vs h => b.nt c o vs (a.nt c o vs h)⟩
mutual
theorem Rep.mono {K : PySem.W.Frag} {H H' : Hp} (t : Tx K H H') : ∀ {v : V} {d : D}, Rep K H v d → Rep K H' v d
  | _, _, .non => .non
  | _, _, .bl b => .bl b
  | _, _, .int i => .int i
  | _, _, .str s => .str s
  | _, _, .ref a => .ref a
  | _, _, .ty n => .ty n
  | _, _, .tup h r => .tup (t.tup _ _ h) (Reps.mono t r)
  | _, _, .fl h r => .fl (t.fl _ _ h) (Reps.mono t r)
  | _, _, .exc n h => .exc n (t.exc _ _ h)
  | _, _, .cls n => .cls n
  | _, _, .kt h => .kt (t.kt _ _ h)
  | _, _, .nt h r => .nt (by obtain ⟨o, e, n⟩ := h; exact ⟨o, t.nt _ _ _ e, n⟩) (Reps.mono t r)
theorem Reps.mono {K : PySem.W.Frag} {H H' : Hp} (t : Tx K H H') : ∀ {vs : List V} {ds : List D}, Reps K H vs ds → Reps K H' vs ds
  | _, _, .nil => .nil
  | _, _, .cons h r => .cons (Rep.mono t h) (Reps.mono t r)
end
section
variable {K : PySem.W.Frag} {H : Hp}
theorem Reps.length : ∀ {vs : List V} {ds : List D}, Reps K H vs ds → vs.length = ds.length
  | _, _, .nil => rfl
  | _, _, .cons _ r => by rw [List.length_cons, List.length_cons, Reps.length r]
theorem Reps.append : ∀ {vs us : List V} {ds es : List D}, Reps K H vs ds → Reps K H us es → Reps K H (vs ++ us) (ds ++ es)
  | _, _, _, _, .nil, s => s
  | _, _, _, _, .cons h r, s => .cons h (Reps.append r s)
theorem Reps.get : ∀ {vs : List V} {ds : List D} {i : Nat} {d : D}, Reps K H vs ds → ds[i]? = some d → ∃ v, vs[i]? = some v ∧ Rep K H v d
  | _, _, _, _, .nil, e => by simp at e
  | _, _, 0, _, .cons h _, e => by simp at e; subst e; exact ⟨_, rfl, h⟩
  | _, _, i + 1, d, .cons _ r, e => by
    obtain ⟨v, h1, h2⟩ := Reps.get (i := i) (d := d) r (by simpa using e)
    exact ⟨v, by simpa using h1, h2⟩
theorem Reps.getV : ∀ {vs : List V} {ds : List D} {i : Nat} {v : V}, Reps K H vs ds → vs[i]? = some v → ∃ d, ds[i]? = some d ∧ Rep K H v d
  | _, _, _, _, .nil, e => by simp at e
  | _, _, 0, _, .cons h _, e => by simp at e; subst e; exact ⟨_, rfl, h⟩
  | _, _, i + 1, d, .cons _ r, e => by
    obtain ⟨v, h1, h2⟩ := Reps.getV (i := i) (v := d) r (by simpa using e)
    exact ⟨v, by simpa using h1, h2⟩
theorem Reps.take : ∀ {vs : List V} {ds : List D} (n : Nat), Reps K H vs ds → Reps K H (vs.take n) (ds.take n)
  | _, _, 0, _ => by rw [List.take_zero, List.take_zero]; exact .nil
  | _, _, _ + 1, .nil => .nil
  | _, _, n + 1, .cons h r => .cons h (Reps.take n r)
theorem Reps.drop : ∀ {vs : List V} {ds : List D} (n : Nat), Reps K H vs ds → Reps K H (vs.drop n) (ds.drop n)
  | _, _, 0, r => r
  | _, _, _ + 1, .nil => .nil
  | _, _, n + 1, .cons _ r => Reps.drop n r
theorem Reps.set : ∀ {vs : List V} {ds : List D} (n : Nat) {v : V} {d : D}, Rep K H v d → Reps K H vs ds → Reps K H (vs.set n v) (ds.set n d)
  | _, _, _, _, _, _, .nil => .nil
  | _, _, 0, _, _, q, .cons h r => .cons q r
  | _, _, n + 1, _, _, q, .cons h r => .cons h (Reps.set n q r)
theorem Reps.eraseIdx : ∀ {vs : List V} {ds : List D} (n : Nat), Reps K H vs ds → Reps K H (vs.eraseIdx n) (ds.eraseIdx n)
  | _, _, _, .nil => .nil
  | _, _, 0, .cons h r => r
  | _, _, n + 1, .cons h r => .cons h (Reps.eraseIdx n r)
theorem Reps.dropLast : ∀ {vs : List V} {ds : List D}, Reps K H vs ds → Reps K H vs.dropLast ds.dropLast
  | _, _, .nil => .nil
  | _, _, .cons h .nil => .nil
  | _, _, .cons h (.cons h2 r) => .cons h (Reps.dropLast (.cons h2 r))
theorem Reps.reverse {vs : List V} {ds : List D} : Reps K H vs ds → Reps K H vs.reverse ds.reverse := by
  intro h
  induction ds generalizing vs with
  | nil => cases h; exact .nil
  | cons d r ih =>
    cases h with
    | cons h1 h2 =>
      rw [List.reverse_cons, List.reverse_cons]
      exact (ih h2).append (.cons h1 .nil)
end
/-- keys and what they hold -/
def KReps (K : PySem.W.Frag) (H : Hp) : List (Key × V) → List (Key × D) → Prop := Paired fun (p : Key × V) (q : Key × D) => p.1 = q.1 ∧ Rep K H p.2 q.2
def TReps (K : PySem.W.Frag) (H : Hp) : List (List Key × V) → List (List Key × D) → Prop := Paired fun (p : List Key × V) (q : List Key × D) => p.1 = q.1 ∧ Rep K H p.2 q.2
def OAt (K : PySem.W.Frag) (H : Hp) (a : Addr) : O → Prop
  | .lst ds => ∃ vs, H a = some (.lst vs) ∧ Reps K H vs ds
  | .dk kvs => ∃ ws, H a = some (.dK ws) ∧ KReps K H ws kvs
  | .dt kvs => ∃ ws, H a = some (.dT ws) ∧ TReps K H ws kvs
  | .tab q => LamX.TabS H a q
  | .fz kvs => ∃ o ws, H a = some (.frz o (.dK ws)) ∧ KReps K H ws kvs
def SRep (K : PySem.W.Frag) (S : Sto) (H : Hp) : Prop := ∀ a o, S a = some o → OAt K H a o
/-- what happens: tuples stay; what is hidden from the store stays hidden, as it is -/
structure Stp (K : PySem.W.Frag) (S : Sto) (H : Hp) (S' : Sto) (H' : Hp) : Prop where
  tx : Tx K H H'
  hid : ∀ z o, S z = none → H z = some o → (∀ ps, o ≠ .tbl ps) → S' z = none ∧ H' z = some o
  frz : ∀ z ob u, H z = some (.frz ob u) → H' z = some (.frz ob u)
section
variable {K : PySem.W.Frag} {S S1 S2 : Sto} {H H1 H2 : Hp} {a p : Addr}
theorem Stp.refl : Stp K S H S H := ⟨.refl, fun _ _ a b _ => ⟨a, b⟩, fun _ _ _ a => a⟩
theorem Stp.trans (x : Stp K S H S1 H1) (y : Stp K S1 H1 S2 H2) : Stp K S H S2 H2 := ⟨x.tx.trans y.tx, fun z o a b n => y.hid z o (x.hid z o a b n).1 (x.hid z o a b n).2 n, fun z ob u a => y.frz z ob u (x.frz z ob u a)⟩
theorem OAt.mut {o : O} (h : OAt K H a o) : ∃ u, H a = some u ∧ (∀ xs, u ≠ .tup xs) ∧ (∀ ob xs, u ≠ .frz ob (.tup xs)) ∧ (∀ ob xs, u ≠ .frz ob (.lst xs)) ∧ ∀ φ, u ≠ .ext φ := by
  cases o with
  | lst ds => obtain ⟨vs, e, _⟩ := h; exact ⟨_, e, (fun _ z => nomatch z), (fun _ _ z => nomatch z), (fun _ _ z => nomatch z), fun _ z => nomatch z⟩
  | dk kvs => obtain ⟨vs, e, _⟩ := h; exact ⟨_, e, (fun _ z => nomatch z), (fun _ _ z => nomatch z), (fun _ _ z => nomatch z), fun _ z => nomatch z⟩
  | dt kvs => obtain ⟨vs, e, _⟩ := h; exact ⟨_, e, (fun _ z => nomatch z), (fun _ _ z => nomatch z), (fun _ _ z => nomatch z), fun _ z => nomatch z⟩
  | tab q => obtain ⟨ps, e, _⟩ := h; exact ⟨_, e, (fun _ z => nomatch z), (fun _ _ z => nomatch z), (fun _ _ z => nomatch z), fun _ z => nomatch z⟩
  | fz kvs => obtain ⟨ob, ws, e, _⟩ := h; exact ⟨_, e, (fun _ z => nomatch z), (fun _ _ z => nomatch z), (fun _ _ z => nomatch z), fun _ z => nomatch z⟩
theorem SRep.free (h : SRep K S H) (e : H p = none) : S p = none := by
  cases q : S p with
  | none => rfl
  | some o =>
    obtain ⟨u, e2, _⟩ := (h p o q).mut
    rw [e] at e2; cases e2
theorem KReps.mono {ws : List (Key × V)} {kvs : List (Key × D)} (t : Tx K H H1) (h : KReps K H ws kvs) : KReps K H1 ws kvs := Paired.mapP h fun _ _ q => ⟨q.1, q.2.mono t⟩
theorem TReps.mono {ws : List (List Key × V)} {kvs : List (List Key × D)} (t : Tx K H H1) (h : TReps K H ws kvs) : TReps K H1 ws kvs := Paired.mapP h fun _ _ q => ⟨q.1, q.2.mono t⟩
theorem OAt.mono {o : O} (t : Tx K H H1) (e : H1 a = H a) (h : OAt K H a o) : OAt K H1 a o := by
  cases o with
  | lst ds => obtain ⟨vs, e1, r⟩ := h; exact ⟨vs, by rw [e]; exact e1, r.mono t⟩
  | dk kvs => obtain ⟨vs, e1, r⟩ := h; exact ⟨vs, by rw [e]; exact e1, KReps.mono t r⟩
  | dt kvs => obtain ⟨vs, e1, r⟩ := h; exact ⟨vs, by rw [e]; exact e1, TReps.mono t r⟩
  | tab q =>
    obtain ⟨ps, e1, t1, t2⟩ := h
    refine ⟨ps, by rw [e]; exact e1, t1, fun pos cv hc => ?_⟩
    obtain ⟨c, e2, e3⟩ := t2 pos cv hc
    exact ⟨c, e2, t.exc c _ e3⟩
  | fz kvs => obtain ⟨ob, vs, e1, r⟩ := h; exact ⟨ob, vs, by rw [e]; exact e1, KReps.mono t r⟩
theorem tx_updF {ho : HO} (hn : ∀ vs, H p ≠ some (.tup vs)) (hf : ∀ ob w, H p ≠ some (.frz ob (.tup w))) (hf2 : ∀ ob w, H p ≠ some (.frz ob (.lst w))) (hx : ∀ φ, H p ≠ some (.ext φ)) : Tx K H (upd H p ho) := by
  refine ⟨fun b vs h => ?_, fun b vs h => ?_, fun b C h => by rw [upd_ne (fun e => hx _ (by rw [← e]; exact h))]; exact h, fun b vs h => by rw [upd_ne (fun e => hn vs (by rw [← e]; exact h))]; exact h, fun b o vs h => by rw [upd_ne (fun e => hf _ _ (by rw [← e]; exact h))]; exact h⟩
  · rcases h with (h | ⟨o, h⟩) | h
    · refine .inl (.inl ?_)
      rw [upd_ne (fun e => hn vs (by rw [← e]; exact h))]
      exact h
    · refine .inl (.inr ⟨o, ?_⟩)
      rw [upd_ne (fun e => hf _ _ (by rw [← e]; exact h))]
      exact h
    · exact .inr h
  · rcases h with ⟨o, h⟩ | h
    · refine .inl ⟨o, ?_⟩
      rw [upd_ne (fun e => hf2 _ _ (by rw [← e]; exact h))]
      exact h
    · exact .inr h
theorem tx_upd {ho : HO} (hn : ∀ vs, H p ≠ some (.tup vs)) (hf : ∀ ob w, H p ≠ some (.frz ob w)) (hx : ∀ φ, H p ≠ some (.ext φ)) : Tx K H (upd H p ho) := tx_updF hn (fun ob w => hf ob _) (fun ob w => hf ob _) hx
theorem tx_new {ho : HO} (h : H p = none) : Tx K H (upd H p ho) := tx_upd (fun vs => by rw [h]; intro z; cases z) (fun ob w => by rw [h]; intro z; cases z) (fun φ => by rw [h]; intro z; cases z)
theorem tx_mut {o : O} {ho : HO} (h : OAt K H p o) : Tx K H (upd H p ho) := by
  obtain ⟨u, e, h1, h2, h4, h3⟩ := h.mut
  exact tx_updF (fun vs => by rw [e]; intro z; exact h1 vs (Option.some.inj z)) (fun ob w => by rw [e]; intro z; exact h2 ob w (Option.some.inj z)) (fun ob w => by rw [e]; intro z; exact h4 ob w (Option.some.inj z)) (fun φ => by rw [e]; intro z; exact h3 φ (Option.some.inj z))
/-- a new tuple -/
theorem stp_tup {vs : List V} (r : SRep K S H) (h : H p = none) : Stp K S H S (upd H p (.tup vs)) ∧ SRep K S (upd H p (.tup vs)) := by
  refine ⟨⟨tx_new h, fun z o a b _ => ⟨a, ?_⟩, fun z ob u b => by rw [upd_ne (ne_of_none b h)]; exact b⟩, fun a o e => (r a o e).mono (tx_new h) (upd_ne ?_)⟩
  · rw [upd_ne (ne_of_none b h)]; exact b
  · intro z; subst z; rw [SRep.free r h] at e; cases e
/-- a new object of the store -/
theorem stp_new {o : O} {ho : HO} (r : SRep K S H) (h : H p = none) (new : OAt K (upd H p ho) p o) : Stp K S H (updS S p o) (upd H p ho) ∧ SRep K (updS S p o) (upd H p ho) := by
  refine ⟨⟨tx_new h, fun z u a b _ => ?_, fun z ob u b => by rw [upd_ne (ne_of_none b h)]; exact b⟩, fun a u e => ?_⟩
  · have ne := ne_of_none b h
    exact ⟨by rw [updS_ne ne]; exact a, by rw [upd_ne ne]; exact b⟩
  · by_cases q : a = p
    · subst q
      rw [updS_same] at e
      cases e
      exact new
    · rw [updS_ne q] at e
      exact (r a u e).mono (tx_new h) (upd_ne q)
/-- an object of the store is written -/
theorem OAt.nfrz {o : O} (h : OAt K H a o) (nf : ∀ kvs, o ≠ .fz kvs) : ∀ ob u, H a ≠ some (.frz ob u) := by
  intro ob u e
  cases o with
  | lst ds => obtain ⟨vs, e1, _⟩ := h; rw [e] at e1; cases e1
  | dk kvs => obtain ⟨vs, e1, _⟩ := h; rw [e] at e1; cases e1
  | dt kvs => obtain ⟨vs, e1, _⟩ := h; rw [e] at e1; cases e1
  | tab q => obtain ⟨vs, e1, _⟩ := h; rw [e] at e1; cases e1
  | fz kvs => exact nf _ rfl
theorem stp_mut {o o' : O} {ho : HO} (r : SRep K S H) (h : S p = some o) (new : OAt K (upd H p ho) p o') (nf : ∀ kvs, o ≠ .fz kvs := by exact fun _ z => nomatch z) : Stp K S H (updS S p o') (upd H p ho) ∧ SRep K (updS S p o') (upd H p ho) := by
  have t : Tx K H (upd H p ho) := tx_mut (r p o h)
  refine ⟨⟨t, fun z u a b _ => ?_, fun z ob u b => by rw [upd_ne (fun q => (r p o h).nfrz nf ob u (by rw [← q]; exact b))]; exact b⟩, fun a u e => ?_⟩
  · have ne : z ≠ p := fun e => by subst e; rw [h] at a; cases a
    exact ⟨by rw [updS_ne ne]; exact a, by rw [upd_ne ne]; exact b⟩
  · by_cases q : a = p
    · subst q
      rw [updS_same] at e
      cases e
      exact new
    · rw [updS_ne q] at e
      exact (r a u e).mono t (upd_ne q)
/-- a hidden object is written, a hidden one comes -/
theorem stp_hid {ho ho' : HO} (r : SRep K S H) (n : S p = none) (h : H p = some ho') (m1 : ∀ vs, ho' ≠ .tup vs) (m2 : ∀ ob w, ho' ≠ .frz ob w) (m3 : ∀ φ, ho' ≠ .ext φ) : Tx K H (upd H p ho) ∧ SRep K S (upd H p ho) := by
  have t : Tx K H (upd H p ho) := tx_upd (fun vs => by rw [h]; intro z; exact m1 vs (Option.some.inj z)) (fun ob w => by rw [h]; intro z; exact m2 ob w (Option.some.inj z)) (fun φ => by rw [h]; intro z; exact m3 φ (Option.some.inj z))
  exact ⟨t, fun a o e => (r a o e).mono t (upd_ne (neS e n))⟩
end
/-! ### slots -/
def getS : Nat → Env → Option D
  | _, [] => none
  | 0, x :: _ => x
  | i + 1, _ :: r => getS i r
def setS : Nat → D → Env → Env
  | _, _, [] => []
  | 0, d, _ :: r => some d :: r
  | i + 1, d, x :: r => x :: setS i d r
def wipeS : Env → List Nat → Env
  | σ, [] => σ
  | σ, i :: r => (wipeS σ r).set i none
theorem getS_eq : ∀ (i : Nat) (σ : Env), getS i σ = (σ[i]?).join
  | _, [] => by simp [getS]
  | 0, x :: _ => by cases x <;> rfl
  | i + 1, _ :: r => by simpa [getS] using getS_eq i r
theorem setS_eq (d : D) : ∀ (i : Nat) (σ : Env), setS i d σ = σ.set i (some d)
  | _, [] => by simp [setS]
  | 0, x :: _ => rfl
  | i + 1, x :: r => by simp [setS, setS_eq d i r]
structure ERep (K : PySem.W.Frag) (H : Hp) (sv : L2.St) (σ : Env) : Prop where
  len : sv.length = σ.length
  at_ : ∀ i d, getS i σ = some d → ∃ v, sv[i]? = some (some v) ∧ Rep K H v d
section
variable {K : PySem.W.Frag} {S S1 S2 : Sto} {H H1 H2 : Hp} {sv : L2.St} {σ : Env}
theorem ERep.mono (t : Tx K H H1) (e : ERep K H sv σ) : ERep K H1 sv σ := ⟨e.len, fun i d q => let ⟨v, a, b⟩ := e.at_ i d q; ⟨v, a, b.mono t⟩⟩
theorem ERep.set {i : Nat} {v : V} {d : D} (e : ERep K H sv σ) (r : Rep K H v d) : ERep K H (sv.set i (some v)) (setS i d σ) := by
  rw [setS_eq]
  refine ⟨by simpa using e.len, fun j c q => ?_⟩
  rw [getS_eq] at q
  by_cases hj : i = j
  · subst hj
    by_cases hl : i < σ.length
    · rw [List.getElem?_set_self hl] at q
      have : d = c := Option.some.inj q
      subst this
      exact ⟨v, List.getElem?_set_self (by rw [e.len]; exact hl), r⟩
    · rw [List.getElem?_eq_none (by simpa using Nat.le_of_not_lt hl)] at q
      cases q
  · rw [List.getElem?_set_ne hj] at q ⊢
    exact e.at_ j c (by rw [getS_eq]; exact q)
theorem ERep.wipe1 {i : Nat} (e : ERep K H sv σ) : ERep K H (sv.set i none) (σ.set i none) := by
  refine ⟨by simpa using e.len, fun j c q => ?_⟩
  rw [getS_eq] at q
  by_cases hj : i = j
  · subst hj
    by_cases hl : i < σ.length
    · rw [List.getElem?_set_self hl] at q; cases q
    · rw [List.getElem?_eq_none (by simpa using Nat.le_of_not_lt hl)] at q; cases q
  · rw [List.getElem?_set_ne hj] at q ⊢
    exact e.at_ j c (by rw [getS_eq]; exact q)
theorem ERep.wipe (e : ERep K H sv σ) : ∀ vs : List Nat, ERep K H (wipe sv vs) (wipeS σ vs)
  | [] => e
  | _ :: vs => (ERep.wipe e vs).wipe1
end
theorem wipe_set {i : Nat} {y : Option V} : ∀ {vs : List Nat} {s : L2.St}, i ∈ vs → wipe (s.set i y) vs = wipe s vs
  | [], _, h => by cases h
  | v :: vs, s, h => by
    show (wipe (s.set i y) vs).set v none = (wipe s vs).set v none
    by_cases hi : i ∈ vs
    · rw [wipe_set hi]
    · have e : i = v := by
        rcases List.mem_cons.mp h with e | e
        · exact e
        · exact (hi e).elim
      subst e
      have out : ∀ (ws : List Nat) (t : L2.St), i ∉ ws → wipe (t.set i y) ws = (wipe t ws).set i y := by
        intro ws
        induction ws with
        | nil => intro t _; rfl
        | cons w r ih =>
          intro t hw
          show (wipe (t.set i y) r).set w none = ((wipe t r).set w none).set i y
          rw [ih t (fun z => hw (List.mem_cons_of_mem _ z)), List.set_comm _ _ (fun z => hw (by rw [z]; exact List.mem_cons_self))]
      rw [out vs s hi, List.set_set]
theorem wipe_wipe (s : L2.St) (vs : List Nat) : wipe (wipe s vs) vs = wipe s vs := by
  have key : ∀ (us : List Nat), (∀ u ∈ us, u ∈ vs) → wipe (wipe s us) vs = wipe s vs := by
    intro us
    induction us with
    | nil => intro _; rfl
    | cons u r ih =>
      intro h
      show wipe ((wipe s r).set u none) vs = wipe s vs
      rw [wipe_set (h u List.mem_cons_self)]
      exact ih fun w hw => h w (List.mem_cons_of_mem _ hw)
  exact key vs fun _ h => h
/-! ### what a reading says of data -/
/-- what is reached: a value that bears d, a store, a heap -/
abbrev Rch (K : PySem.W.Frag) (S : Sto) (H : Hp) (Q : DK) (Kt : VK) : Prop := ∀ v d S' H', Stp K S H S' H' → SRep K S' H' → Rep K H' v d → Q d S' → Kt v H'
def Snd (K : PySem.W.Frag) (t : TE) (f : DE) : Prop := ∀ (σ : Env) (S : Sto) (Q : DK) (sv : L2.St) (H : Hp) (Kt : VK), ERep K H sv σ → SRep K S H → f σ S Q → Rch K S H Q Kt → t sv H Kt
def SndT (K : PySem.W.Frag) (t : TT) (f : DT) : Prop := ∀ (σ : Env) (S : Sto) (Q : Bool → Sto → Prop) (sv : L2.St) (H : Hp) (Kt : Bool → Hp → Prop), ERep K H sv σ → SRep K S H → f σ S Q →
  (∀ b S' H', Stp K S H S' H' → SRep K S' H' → Q b S' → Kt b H') → t sv H Kt
def SndA (K : PySem.W.Frag) (t : TA) (f : DA) : Prop := ∀ (σ : Env) (S : Sto) (Q : List D → Sto → Prop) (sv : L2.St) (H : Hp) (Kt : List V → Hp → Prop), ERep K H sv σ → SRep K S H → f σ S Q →
  (∀ vs ds S' H', Stp K S H S' H' → SRep K S' H' → Reps K H' vs ds → Q ds S' → Kt vs H') → t sv H Kt
/-- operations by values -/
abbrev G2 := D → D → Sto → DK → Prop
abbrev GN := List D → Sto → DK → Prop
def SndR (K : PySem.W.Frag) (r : R2) (g : G2) : Prop := ∀ (x y : V) (a b : D) (S : Sto) (H : Hp) (Q : DK) (Kt : VK), SRep K S H → Rep K H x a → Rep K H y b → g a b S Q → Rch K S H Q Kt → r x y H Kt
def SndN (K : PySem.W.Frag) (r : List V → Hp → VK → Prop) (g : GN) : Prop := ∀ (xs : List V) (as : List D) (S : Sto) (H : Hp) (Q : DK) (Kt : VK), SRep K S H → Reps K H xs as → g as S Q → Rch K S H Q Kt → r xs H Kt
def SndM (K : PySem.W.Frag) (r : V → List V → Hp → VK → Prop) (g : D → GN) : Prop := ∀ (x : V) (a : D) (xs : List V) (as : List D) (S : Sto) (H : Hp) (Q : DK) (Kt : VK), SRep K S H → Rep K H x a → Reps K H xs as → g a as S Q → Rch K S H Q Kt → r x xs H Kt
structure CE (X : Cx) (e : Expr) (f : DE) : Prop where
  ok : ∃ t, PE X e t ∧ Snd X.K t f
structure CT (X : Cx) (e : Expr) (f : DT) : Prop where
  ok : ∃ t, PT X e t ∧ SndT X.K t f
structure CA (X : Cx) (es : List Expr) (f : DA) : Prop where
  ok : ∃ t, PA X es t ∧ SndA X.K t f
/-! ### names, constants -/
def eVar (i : Nat) : DE := fun σ S Q => match getS i σ with
  | some d => Q d S
  | none => False
def eC (d : D) : DE := fun _ S Q => Q d S
section
variable {X : Cx} {K : PySem.W.Frag} {e a b : Expr} {fe fa fb fc : DE} {pos : Pos} {S : Sto} {H : Hp}
theorem Rch.now {Q : DK} {Kt : VK} {v : V} {d : D} (r : SRep K S H) (k : Rch K S H Q Kt) (h : Rep K H v d) (q : Q d S) : Kt v H := k v d S H .refl r h q
theorem c_var (i : Nat) {x : Str} (hN : X.N[i]? = some x := by rfl) (hv : Vis X.env.scope x := by first | exact Or.inl rfl | exact Or.inr (Or.inl rfl) | exact Or.inr (Or.inr rfl)) (hd : (x == ("__debug__" : Str)) = false := by decide)
    (hcd : (x == ("__classdict__" : Str)) = false := by decide) : CE X (.Name x pos) (eVar i) := by
  refine ⟨_, pe_var (i := i) hN hv hd hcd, fun σ S Q sv H Kt he hs h k => ?_⟩
  unfold eVar at h
  cases q : getS i σ with
  | none => rw [q] at h; exact h.elim
  | some d =>
    rw [q] at h
    obtain ⟨v, e1, r⟩ := he.at_ i d q
    exact ⟨v, e1, k.now hs r h⟩
theorem snd_c {v : V} {d : D} (h : ∀ H, Rep K H v d) : Snd K (tC v) (eC d) := fun σ S Q sv H Kt he hs q k => k.now hs (h H) q
end
end DL
namespace DL
open PySem PySem.Spec PyProof.Rows L2
section
variable {X : Cx} {K : PySem.W.Frag} {e a b c : Expr} {es : List Expr} {fe fa fb fc : DE} {ft fu : DT} {fs : DA} {pos : Pos} {S : Sto} {H : Hp}
theorem c_int {i : Int} {j : Nat} : CE X (.Constant (.int i) j pos) (eC (.int i)) := ⟨_, pe_int, snd_c fun _ => .int i⟩
theorem c_str {x : Str} {j : Nat} : CE X (.Constant (.str x) j pos) (eC (.str x)) := ⟨_, pe_str, snd_c fun _ => .str x⟩
theorem c_bl {x : Bool} {j : Nat} : CE X (.Constant (.bool x) j pos) (eC (.bl x)) := ⟨_, pe_bl, snd_c fun _ => .bl x⟩
theorem c_non {j : Nat} : CE X (.Constant .none j pos) (eC .non) := ⟨_, pe_non, snd_c fun _ => .non⟩
theorem c_glob {x : Str} {u : Value} {v : V} {d : D} (hg : Gl X x) (hm : X.mg x = some u) (r : RelV v u) (h : ∀ H, Rep X.K H v d) (hd : (x == ("__debug__" : Str)) = false := by decide) : CE X (.Name x pos) (eC d) := ⟨_, pe_glob hg hm r hd, snd_c h⟩
/-! ### two-place operations -/
def eOp (g : G2) (fa fb : DE) : DE := fun σ S Q => fa σ S fun x S1 => fb σ S1 fun y S2 => g x y S2 Q
theorem snd_op {r : R2} {g : G2} {ta tb : TE} (hr : SndR K r g) (ha : Snd K ta fa) (hb : Snd K tb fb) : Snd K (tOp r ta tb) (eOp g fa fb) := fun σ S Q sv H Kt he hs q k =>
  ha σ S _ sv H _ he hs q fun v d S1 H1 s1 r1 v1 q1 =>
    hb σ S1 _ sv H1 _ (he.mono s1.tx) r1 q1 fun u d2 S2 H2 s2 r2 u2 q2 =>
      hr v u d d2 S2 H2 Q _ r2 (v1.mono s2.tx) u2 q2 fun v3 d3 S3 H3 s3 r3 v3' q3 => k v3 d3 S3 H3 ((s1.trans s2).trans s3) r3 v3' q3
/-- numbers under C -/
def gI (C : Int → Int → Prop) (h : Int → Int → D) : G2 := fun x y S Q => match x, y with
  | .int i, .int j => C i j ∧ Q (h i j) S
  | _, _ => False
def gI0 (h : Int → Int → D) : G2 := fun x y S Q => match x, y with
  | .int i, .int j => Q (h i j) S
  | _, _ => False
theorem sr_I {C : Int → Int → Prop} {h : Int → Int → D} {h' : Int → Int → V} (e : ∀ i j H, Rep K H (h' i j) (h i j)) : SndR K (rI C h') (gI C h) := fun x y a b S H Q Kt s ra rb q k => by
  cases ra <;> try exact False.elim q
  cases rb <;> try exact False.elim q
  exact ⟨_, _, rfl, rfl, q.1, k.now s (e _ _ _) q.2⟩
theorem sr_I0 {h : Int → Int → D} {h' : Int → Int → V} (e : ∀ i j H, Rep K H (h' i j) (h i j)) : SndR K (rI0 h') (gI0 h) := fun x y a b S H Q Kt s ra rb q k => by
  cases ra <;> try exact False.elim q
  cases rb <;> try exact False.elim q
  exact ⟨_, _, rfl, rfl, k.now s (e _ _ _) q⟩
/-- + of anything -/
def gAdd : G2 := fun x y S Q => match x, y with
  | .int i, .int j => Q (.int (i + j)) S
  | .str i, .str j => i.length + j.length ≤ sizeLine ∧ Q (.str (i ++ j)) S
  | .tup xs, .tup ys => xs.length + ys.length ≤ sizeLine ∧ Q (.tup (xs ++ ys)) S
  | .ref p, .ref q => ∃ xs ys, S p = some (.lst xs) ∧ S q = some (.lst ys) ∧ xs.length + ys.length ≤ sizeLine ∧ ∀ n, S n = none → Q (.ref n) (updS S n (.lst (xs ++ ys)))
  | _, _ => False
def rAddA (K : PySem.W.Frag) : R2 := fun x y H Q => ((rI0 fun i j => .int (i + j)) x y H Q ∨ (∃ i j, x = .str i ∧ y = .str j ∧ i.length + j.length ≤ sizeLine ∧ Q (.str (i ++ j)) H)) ∨ rCatA K x y H Q ∨ rCat x y H Q
theorem opAddA : OpR X (binaryOp .Add) (rAddA X.K) := OpR.or (OpR.or op_add op_add_str) (OpR.or op_catA op_cat)
theorem sr_add : SndR K (rAddA K) gAdd := fun x y a b S H Q Kt s ra rb q k => by
  cases ra with
  | int i =>
    cases rb <;> try exact False.elim q
    exact .inl (.inl ⟨_, _, rfl, rfl, k.now s (.int _) q⟩)
  | str i =>
    cases rb <;> try exact False.elim q
    exact .inl (.inr ⟨_, _, rfl, rfl, q.1, k.now s (.str _) q.2⟩)
  | @tup p vs ds h r =>
    cases rb <;> try exact False.elim q
    rename_i p2 us es h2 r2
    obtain ⟨hz, q⟩ := q
    have e1 := r.length
    have e2 := r2.length
    refine .inr (.inl ⟨p, p2, vs, us, rfl, rfl, h, h2, by omega, fun z => ?_, fun _ z => ?_, fun _ _ n hn => ?_⟩)
    · subst z
      cases r
      exact k.now s (.tup h2 r2) q
    · subst z
      cases r2
      rw [List.append_nil] at q
      exact k.now s (.tup h r) q
    · obtain ⟨st, sr⟩ := stp_tup (vs := vs ++ us) s hn
      exact k _ _ S _ st sr (.tup (.inl (.inl upd_same)) ((r.mono st.tx).append (r2.mono st.tx))) q
  | ref p =>
    cases rb <;> try exact False.elim q
    obtain ⟨xs, ys, h1, h2, hz, q⟩ := q
    rename_i p2
    obtain ⟨vs, e1, r1⟩ := s _ _ h1
    obtain ⟨us, e2, r2⟩ := s _ _ h2
    have l1 := r1.length
    have l2 := r2.length
    refine .inr (.inr ⟨p, p2, vs, us, rfl, rfl, e1, e2, by omega, fun n hn => ?_⟩)
    have tx := tx_new (K := K) (ho := .lst (vs ++ us)) hn
    obtain ⟨st, sr⟩ := stp_new (o := .lst (xs ++ ys)) s hn ⟨_, upd_same, (r1.mono tx).append (r2.mono tx)⟩
    exact k _ _ _ _ st sr (.ref n) (q n (s.free hn))
  | _ => exact False.elim q
theorem c_add (ha : CE X a fa) (hb : CE X b fb) : CE X (.BinOp a .Add b pos) (eOp gAdd fa fb) := by
  obtain ⟨ta, ha, sa⟩ := ha
  obtain ⟨tb, hb, sb⟩ := hb
  exact ⟨_, pe_op opAddA ha hb, snd_op sr_add sa sb⟩
abbrev gMns : G2 := gI0 fun i j => .int (i - j)
theorem c_sub (ha : CE X a fa) (hb : CE X b fb) : CE X (.BinOp a .Sub b pos) (eOp gMns fa fb) := by
  obtain ⟨ta, ha, sa⟩ := ha
  obtain ⟨tb, hb, sb⟩ := hb
  exact ⟨_, pe_op op_sub ha hb, snd_op (sr_I0 fun _ _ _ => .int _) sa sb⟩
abbrev gMul : G2 := gI CMulW fun i j => .int (i * j)
abbrev gMod : G2 := gI (fun _ j => 0 < j) fun i j => .int (i % j)
theorem c_mod (ha : CE X a fa) (hb : CE X b fb) : CE X (.BinOp a .Mod b pos) (eOp gMod fa fb) := by
  obtain ⟨ta, ha, sa⟩ := ha
  obtain ⟨tb, hb, sb⟩ := hb
  exact ⟨_, pe_op op_mod ha hb, snd_op (sr_I fun _ _ _ => .int _) sa sb⟩
abbrev gFdiv : G2 := gI CDivW fun i j => .int (i / j)
theorem c_fdiv (ha : CE X a fa) (hb : CE X b fb) : CE X (.BinOp a .FloorDiv b pos) (eOp gFdiv fa fb) := by
  obtain ⟨ta, ha, sa⟩ := ha
  obtain ⟨tb, hb, sb⟩ := hb
  exact ⟨_, pe_op op_fdivW ha hb, snd_op (sr_I fun _ _ _ => .int _) sa sb⟩
abbrev gPow : G2 := gI CPow fun i j => .int (i ^ j.toNat)
theorem c_pow (ha : CE X a fa) (hb : CE X b fb) : CE X (.BinOp a .Pow b pos) (eOp gPow fa fb) := by
  obtain ⟨ta, ha, sa⟩ := ha
  obtain ⟨tb, hb, sb⟩ := hb
  exact ⟨_, pe_op op_pow ha hb, snd_op (sr_I fun _ _ _ => .int _) sa sb⟩
def eNeg (fa : DE) : DE := fun σ S Q => fa σ S fun x S1 => match x with
  | .int i => Q (.int (-i)) S1
  | _ => False
theorem c_neg (ha : CE X a fa) : CE X (.UnaryOp .USub a pos) (eNeg fa) := by
  obtain ⟨ta, ha, sa⟩ := ha
  refine ⟨_, pe_un un_neg ha, fun σ S Q sv H Kt he hs q k => ?_⟩
  refine sa σ S _ sv H _ he hs q fun v d S1 H1 s1 r1 v1 q1 => ?_
  cases v1 <;> try exact False.elim q1
  exact ⟨_, rfl, k _ _ S1 H1 s1 r1 (.int _) q1⟩
/-! ### comparisons -/
/-- < <= > >= of numbers, of texts -/
def gLt : G2 := fun x y S Q => match x, y with
  | .int i, .int j => Q (.bl (decide (i < j))) S
  | .str i, .str j => Q (.bl (decide (i.cps.toList < j.cps.toList))) S
  | _, _ => False
def rLtA : R2 := fun x y H Q => (rI0 fun i j => .bl (decide (i < j))) x y H Q ∨ (∃ i j, x = .str i ∧ y = .str j ∧ Q (.bl (decide (i.cps.toList < j.cps.toList))) H)
/-- a comparison that is written op -/
structure CO (X : Cx) (op : CmpOp) (g : G2) : Prop where
  ok : ∃ r, OpR X (compareOp op) r ∧ SndR X.K r g
theorem o_gt : CO X .Gt (gI0 fun i j => .bl (decide (j < i))) := ⟨_, op_gt, sr_I0 fun _ _ _ => .bl _⟩
theorem o_ge : CO X .GtE (gI0 fun i j => .bl (decide (j ≤ i))) := ⟨_, op_ge, sr_I0 fun _ _ _ => .bl _⟩
def isNon : D → Bool
  | .non => true
  | _ => false
/-- x is None, x is True -/
def gIs (f : Bool → Bool) : G2 := fun x y S Q => match y with
  | .non => Q (.bl (f (isNon x))) S
  | .bl c => match x with
    | .bl d => Q (.bl (f (decide (d = c)))) S
    | _ => False
  | _ => False
theorem rep_non {v : V} {d : D} (r : Rep K H v d) : decide (v = .non) = isNon d := by
  cases r <;> rfl
theorem o_is : CO X .Is (gIs id) := by
  refine ⟨_, OpR.or op_isN op_isBl, fun x y a b S H Q Kt s ra rb q k => ?_⟩
  cases rb <;> try exact False.elim q
  · exact .inl ⟨rfl, k.now s (.bl _) (by rw [rep_non ra]; exact q)⟩
  · cases ra <;> try exact False.elim q
    exact .inr ⟨_, _, rfl, rfl, k.now s (.bl _) q⟩
/-- what == tells of two flat data -/
def eqS : D → D → Option Bool
  | .non, .non => some true
  | .int i, .int j => some (decide (i = j))
  | .str i, .str j => some (decide (i = j))
  | .bl i, .bl j => some (decide (i = j))
  | .non, .int _ => some false | .int _, .non => some false | .non, .str _ => some false | .str _, .non => some false | .non, .bl _ => some false | .bl _, .non => some false
  | .int _, .str _ => some false | .str _, .int _ => some false | .bl _, .str _ => some false | .str _, .bl _ => some false
  | .bl a, .int b => some (decide ((if a = true then 1 else 0) = b)) | .int a, .bl b => some (decide (a = if b = true then 1 else 0))
  | _, _ => none
/-! data as the library has it -/
def keyPy : Key → PyData
  | .inl i => .int i
  | .inr s => .str s
mutual
inductive PD (S : Sto) : D → PyData → Prop
  | non : PD S .non .none
  | bl (b : Bool) : PD S (.bl b) (.bool b)
  | int (i : Int) : PD S (.int i) (.int i)
  | str (x : Str) : PD S (.str x) (.str x)
  | tup {ds : List D} {ps : List PyData} (h : PDs S ds ps) : PD S (.tup ds) (.tuple ps)
  | kt (ks : List Key) : PD S (.kt ks) (.tuple (ks.map keyPy))
  | lst {a : Addr} {ds : List D} {ps : List PyData} (e : S a = some (.lst ds)) (h : PDs S ds ps) : PD S (.ref a) (.list ps)
inductive PDs (S : Sto) : List D → List PyData → Prop
  | nil : PDs S [] []
  | cons {d : D} {p : PyData} {ds : List D} {ps : List PyData} (h : PD S d p) (t : PDs S ds ps) : PDs S (d :: ds) (p :: ps)
end
theorem keys_dp {K : PySem.W.Frag} {H : Hp} : ∀ ks : List Key, DpAll K H (ks.map kV) (ks.map keyPy)
  | [] => .nil
  | .inl i :: r => .cons (.int i) (keys_dp r)
  | .inr s :: r => .cons (.str s) (keys_dp r)
theorem keys_plain : ∀ ks : List Key, PyData.plainAll (ks.map keyPy) = true
  | [] => rfl
  | .inl i :: r => keys_plain r
  | .inr s :: r => keys_plain r
mutual
theorem PD.dp (s : SRep K S H) : ∀ {d : D} {p : PyData}, PD S d p → ∀ {v : V}, Rep K H v d → Dp K H v p
  | _, _, .non, _, r => by cases r; exact .non
  | _, _, .bl b, _, r => by cases r; exact .bl b
  | _, _, .int i, _, r => by cases r; exact .int i
  | _, _, .str x, _, r => by cases r; exact .str x
  | _, _, .tup q, _, r => by
    cases r with
    | tup h r => exact .tup h (PDs.dp s q r)
  | _, _, .kt ks, _, r => by
    cases r with
    | kt h => exact .tup (.inl (.inl h)) (keys_dp ks)
  | _, _, .lst e q, _, r => by
    cases r with
    | ref a =>
      obtain ⟨vs, e1, r⟩ := s _ _ e
      exact .lst (.inl (.inl e1)) (PDs.dp s q r)
theorem PDs.dp (s : SRep K S H) : ∀ {ds : List D} {ps : List PyData}, PDs S ds ps → ∀ {vs : List V}, Reps K H vs ds → DpAll K H vs ps
  | _, _, .nil, _, r => by cases r; exact .nil
  | _, _, .cons q t, _, r => by
    cases r with
    | cons h r => exact .cons (PD.dp s q h) (PDs.dp s t r)
end
/-- == of anything -/
def gEq (f : Bool → Bool) : G2 := fun x y S Q => match eqS x y with
  | some b => Q (.bl (f b)) S
  | none => ∃ p q, PD S x p ∧ PD S y q ∧ p.depth ≤ 64 ∧ Q (.bl (f (PyData.eqv p q))) S
mutual
theorem PD.plain : ∀ {d : D} {p : PyData}, PD S d p → p.plain = true
  | _, _, .non => rfl
  | _, _, .bl _ => rfl
  | _, _, .int _ => rfl
  | _, _, .str _ => rfl
  | _, _, .tup h => PDs.plain h
  | _, _, .kt ks => keys_plain ks
  | _, _, .lst _ h => PDs.plain h
theorem PDs.plain : ∀ {ds : List D} {ps : List PyData}, PDs S ds ps → PyData.plainAll ps = true
  | _, _, .nil => rfl
  | _, _, .cons h t => by
    unfold PyData.plainAll
    rw [PD.plain h, PDs.plain t]
    rfl
end
theorem eqS_pd {a b : D} {r : Bool} (h : eqS a b = some r) : ∃ p q, PD S a p ∧ PD S b q ∧ p.depth = 0 ∧ PyData.eqv p q = r := by
  cases a <;> cases b <;> first | (cases h; done) | (cases h; refine ⟨_, _, by constructor, by constructor, rfl, ?_⟩; first | rfl | (simp only [PyData.eqv, beq_eq_decide]; done) | (simp only [PyData.eqv, Bool.beq_eq_decide_eq]; done))
def rEqP (K : PySem.W.Frag) : R2 := fun x y H Q => ∃ d e, Dp K H x d ∧ Dp K H y e ∧ d.plain = true ∧ e.plain = true ∧ d.depth ≤ 64 ∧ Q (.bl (PyData.eqv d e)) H
def rNeP (K : PySem.W.Frag) : R2 := fun x y H Q => ∃ d e, Dp K H x d ∧ Dp K H y e ∧ d.plain = true ∧ e.plain = true ∧ d.depth ≤ 64 ∧ Q (.bl (!PyData.eqv d e)) H
theorem opEqP (hu : X.A.units + 64 < cLine) : OpR X (compareOp .Eq) (rEqP X.K) := fun pins s σ H x y v u Q I rx ry ⟨d, e, hd, he, pd, pe, hz, q⟩ => by
  have ⟨as, r1⟩ := hd.reads I d x v rx
  have ⟨bs, r2⟩ := he.reads I e y u ry
  exact SeqAt.eq_plain r1 r2 pd pe (by omega) ⟨.bl _, H, I, rfl, q⟩
theorem opNeP (hu : X.A.units + 64 < cLine) : OpR X (compareOp .NotEq) (rNeP X.K) := fun pins s σ H x y v u Q I rx ry ⟨d, e, hd, he, pd, pe, hz, q⟩ => by
  have ⟨as, r1⟩ := hd.reads I d x v rx
  have ⟨bs, r2⟩ := he.reads I e y u ry
  exact SeqAt.ne_plain r1 r2 pd pe (by omega) ⟨.bl _, H, I, rfl, q⟩
theorem eq_pd {f : Bool → Bool} {a b : D} {Q : DK} (q : gEq f a b S Q) : ∃ p e, PD S a p ∧ PD S b e ∧ p.depth ≤ 64 ∧ Q (.bl (f (PyData.eqv p e))) S := by
  unfold gEq at q
  cases h : eqS a b with
  | some r =>
    rw [h] at q
    obtain ⟨p, e, h1, h2, h3, h4⟩ := eqS_pd (S := S) h
    exact ⟨p, e, h1, h2, by omega, by rw [h4]; exact q⟩
  | none =>
    rw [h] at q
    exact q
theorem o_eq (hu : X.A.units + 64 < cLine) : CO X .Eq (gEq id) := by
  refine ⟨_, opEqP hu, fun x y a b S H Q Kt s ra rb q k => ?_⟩
  obtain ⟨p, e, h1, h2, h3, q⟩ := eq_pd q
  exact ⟨p, e, PD.dp s h1 ra, PD.dp s h2 rb, h1.plain, h2.plain, h3, k.now s (.bl _) q⟩
theorem o_ne (hu : X.A.units + 64 < cLine) : CO X .NotEq (gEq not) := by
  refine ⟨_, opNeP hu, fun x y a b S H Q Kt s ra rb q k => ?_⟩
  obtain ⟨p, e, h1, h2, h3, q⟩ := eq_pd q
  exact ⟨p, e, PD.dp s h1 ra, PD.dp s h2 rb, h1.plain, h2.plain, h3, k.now s (.bl _) q⟩
theorem c_cmp {op : CmpOp} {g : G2} (ho : CO X op g) (ha : CE X a fa) (hb : CE X b fb) (hm : behindInMarks op b = false) : CE X (.Compare a [op] [b] pos) (eOp g fa fb) := by
  obtain ⟨r, o1, o2⟩ := ho
  obtain ⟨ta, ha, sa⟩ := ha
  obtain ⟨tb, hb, sb⟩ := hb
  exact ⟨_, pe_cmpR o1 ha hb hm, snd_op o2 sa sb⟩
end
end DL
namespace DL
open PySem PySem.Spec PyProof.Rows L2
section
variable {X : Cx} {K : PySem.W.Frag} {e a b c : Expr} {es : List Expr} {fe fa fb fc : DE} {ft fu : DT} {fs : DA} {pos : Pos} {S : Sto} {H : Hp}
/-! ### tests -/
def tTr (f : DE) : DT := fun σ S Q => f σ S fun d S1 => match d with
  | .non => Q false S1
  | .bl k => Q k S1
  | .int i => Q (i != 0) S1
  | .str y => y.length ≤ sizeLine ∧ Q (y.length != 0) S1
  | .tup xs => Q (!xs.isEmpty) S1
  | .ref p => (match S1 p with
    | some (.lst xs) => Q (!xs.isEmpty) S1
    | some (.dk kvs) => Q (!kvs.isEmpty) S1
    | some (.dt _) => False
    | some (.tab _) => False
    | some (.fz _) => False
    | none => False)
  | _ => False
theorem empty_reps {vs : List V} {ds : List D} (r : Reps K H vs ds) : vs.isEmpty = ds.isEmpty := by cases r <;> rfl
theorem empty_kreps {ws : List (Key × V)} {kvs : List (Key × D)} (r : KReps K H ws kvs) : ws.isEmpty = kvs.isEmpty := by cases r <;> rfl
theorem len_ne0 (y : Str) : (((y.length : Int)) != 0) = (y.length != 0) := by
  by_cases h : y.length = 0
  · rw [h]; rfl
  · have h2 : ¬ ((y.length : Int) = 0) := by omega
    rw [bne_iff_ne.mpr h2, bne_iff_ne.mpr h]
/-- a value's truth -/
theorem k_tru (ha : CE X a fa) (he : ∀ whole, isTrue a X.env whole = (do let v ← whole; standAt a.pos; holding [v] (truthy v)) := by intro _; rfl) : CT X a (tTr fa) := by
  obtain ⟨ta, ha, sa⟩ := ha
  refine ⟨_, pt_truth ha he, fun σ S Q sv H Kt re rs q k => ?_⟩
  refine sa σ S _ sv H _ re rs q fun v d S1 H1 s1 r1 v1 q1 => ?_
  cases v1 with
  | non => exact ⟨false, rfl, k _ _ _ s1 r1 q1⟩
  | bl y => exact ⟨y, rfl, k _ _ _ s1 r1 q1⟩
  | int i => exact ⟨_, rfl, k _ _ _ s1 r1 q1⟩
  | str y => exact ⟨_, ⟨q1.1, (len_ne0 y).symm⟩, k _ _ _ s1 r1 q1.2⟩
  | ty n => exact False.elim q1
  | exc n h => exact False.elim q1
  | cls n => exact False.elim q1
  | kt h => exact False.elim q1
  | nt h _ => exact False.elim q1
  | @tup p vs ds h r => exact ⟨_, .inr (.inl ⟨vs, h, rfl⟩), k _ _ _ s1 r1 (by rw [empty_reps r]; exact q1)⟩
  | @fl p vs ds h r => exact False.elim q1
  | ref p =>
    cases h : S1 p with
    | none => simp only [h] at q1
    | some o =>
      cases o with
      | lst xs =>
        simp only [h] at q1
        obtain ⟨vs, e1, r⟩ := r1 _ _ h
        exact ⟨_, .inl ⟨vs, .inl (.inl e1), rfl⟩, k _ _ _ s1 r1 (by rw [empty_reps r]; exact q1)⟩
      | dk kvs =>
        simp only [h] at q1
        obtain ⟨vs, e1, r⟩ := r1 _ _ h
        exact ⟨_, .inr (.inr ⟨vs, e1, rfl⟩), k _ _ _ s1 r1 (by rw [empty_kreps r]; exact q1)⟩
      | dt kvs => simp only [h] at q1
      | tab z => simp only [h] at q1
      | fz z => simp only [h] at q1
/-- a test of what is a truth -/
def tBl (f : DE) : DT := fun σ S Q => f σ S fun d S1 => match d with
  | .bl k => Q k S1
  | _ => False
theorem snd_tTest {t : TE} (h : Snd K t fa) : SndT K (tTest t) (tBl fa) := fun σ S Q sv H Kt re rs q k =>
  h σ S _ sv H _ re rs q fun v d S1 H1 s1 r1 v1 q1 => by
    cases v1 <;> try exact False.elim q1
    exact ⟨_, rfl, k _ _ _ s1 r1 q1⟩
theorem k_cmp {op : CmpOp} {g : G2} (ho : CO X op g) (ha : CE X a fa) (hb : CE X b fb) (hm : behindInMarks op b = false) : CT X (.Compare a [op] [b] pos) (tBl (eOp g fa fb)) := by
  obtain ⟨r, o1, o2⟩ := ho
  obtain ⟨ta, ha, sa⟩ := ha
  obtain ⟨tb, hb, sb⟩ := hb
  exact ⟨_, pt_cmpR o1 ha hb hm, snd_tTest (snd_op o2 sa sb)⟩
/-- a op1 b op2 c -/
def eChain (g g' : G2) (fa fb fc : DE) : DE := fun σ S Q => fa σ S fun x S1 => fb σ S1 fun y S2 => g x y S2 fun z S3 => match z with
  | .bl k => if k = true then fc σ S3 fun u S4 => g' y u S4 Q else Q (.bl false) S3
  | _ => False
/-! and, or, not as tests -/
structure CW (X : Cx) (e : Expr) (f : DT) : Prop where
  ok : ∃ t, PW X e t ∧ SndT X.K t f
variable {rest : List Expr}
def tAndD (f g : DT) : DT := fun σ S Q => f σ S fun k S1 => if k = true then g σ S1 Q else Q false S1
def tOrD (f g : DT) : DT := fun σ S Q => f σ S fun k S1 => if k = true then Q true S1 else g σ S1 Q
def tNotD (f : DT) : DT := fun σ S Q => f σ S fun k S1 => Q (!k) S1
theorem w_and1 (ha : CT X a ft) : CW X (.BoolOp .And [a] pos) ft := let ⟨_, h, s⟩ := ha.ok; ⟨_, pw_and1 h, s⟩
theorem w_or1 (ha : CT X a ft) : CW X (.BoolOp .Or [a] pos) ft := let ⟨_, h, s⟩ := ha.ok; ⟨_, pw_or1 h, s⟩
theorem w_and (ha : CT X a ft) (hb : CW X (.BoolOp .And (b :: rest) pos) fu) : CW X (.BoolOp .And (a :: b :: rest) pos) (tAndD ft fu) := by
  obtain ⟨ta, ha, sa⟩ := ha
  obtain ⟨tb, hb, sb⟩ := hb
  refine ⟨_, pw_and ha hb, fun σ S Q sv H Kt re rs q k => sa σ S _ sv H _ re rs q fun kk S1 H1 s1 r1 q1 => ?_⟩
  cases kk with
  | true => exact sb σ S1 Q sv H1 _ (re.mono s1.tx) r1 q1 fun k2 S2 H2 s2 r2 q2 => k k2 S2 H2 (s1.trans s2) r2 q2
  | false => exact k _ _ _ s1 r1 q1
theorem w_or (ha : CT X a ft) (hb : CW X (.BoolOp .Or (b :: rest) pos) fu) : CW X (.BoolOp .Or (a :: b :: rest) pos) (tOrD ft fu) := by
  obtain ⟨ta, ha, sa⟩ := ha
  obtain ⟨tb, hb, sb⟩ := hb
  refine ⟨_, pw_or ha hb, fun σ S Q sv H Kt re rs q k => sa σ S _ sv H _ re rs q fun kk S1 H1 s1 r1 q1 => ?_⟩
  cases kk with
  | false => exact sb σ S1 Q sv H1 _ (re.mono s1.tx) r1 q1 fun k2 S2 H2 s2 r2 q2 => k k2 S2 H2 (s1.trans s2) r2 q2
  | true => exact k _ _ _ s1 r1 q1
theorem k_w (h : CW X e ft) : CT X e ft := let ⟨_, h, s⟩ := h.ok; ⟨_, h.pt, s⟩
theorem k_not (ha : CT X a ft) : CT X (.UnaryOp .Not a pos) (tNotD ft) := by
  obtain ⟨ta, ha, sa⟩ := ha
  exact ⟨_, pt_not ha, fun σ S Q sv H Kt re rs q k => sa σ S _ sv H _ re rs q fun kk S1 H1 s1 r1 q1 => k _ _ _ s1 r1 q1⟩
/-! .. as values -/
def eAnd (fa fb : DE) : DE := fun σ S Q => fa σ S fun x S1 => match x with
  | .bl k => if k = true then fb σ S1 Q else Q (.bl false) S1
  | _ => False
def eOr (fa fb : DE) : DE := fun σ S Q => fa σ S fun x S1 => match x with
  | .bl k => if k = true then Q (.bl true) S1 else fb σ S1 Q
  | _ => False
def eNot (fa : DE) : DE := fun σ S Q => fa σ S fun x S1 => match x with
  | .bl k => Q (.bl (!k)) S1
  | _ => False
theorem c_one {op} (ha : CE X a fa) : CE X (.BoolOp op [a] pos) fa := let ⟨_, h, s⟩ := ha.ok; ⟨_, pe_one h, s⟩
theorem c_and (ha : CE X a fa) (hb : CE X (.BoolOp .And (b :: rest) pos) fb) : CE X (.BoolOp .And (a :: b :: rest) pos) (eAnd fa fb) := by
  obtain ⟨ta, ha, sa⟩ := ha
  obtain ⟨tb, hb, sb⟩ := hb
  refine ⟨_, pe_and ha hb, fun σ S Q sv H Kt re rs q k => sa σ S _ sv H _ re rs q fun v d S1 H1 s1 r1 v1 q1 => ?_⟩
  cases v1 <;> try exact False.elim q1
  rename_i kk
  refine ⟨kk, rfl, ?_⟩
  cases kk with
  | true => exact sb σ S1 Q sv H1 _ (re.mono s1.tx) r1 q1 fun v2 d2 S2 H2 s2 r2 v2' q2 => k v2 d2 S2 H2 (s1.trans s2) r2 v2' q2
  | false => exact k _ _ _ _ s1 r1 (.bl _) q1
def eIf (ft : DT) (fa fb : DE) : DE := fun σ S Q => ft σ S fun k S1 => if k = true then fa σ S1 Q else fb σ S1 Q
/-! ### lists of expressions, displays -/
def aNil : DA := fun _ S Q => Q [] S
def aCons (fa : DE) (fs : DA) : DA := fun σ S Q => fa σ S fun x S1 => fs σ S1 fun xs S2 => Q (x :: xs) S2
theorem a_nil : CA X [] aNil := ⟨_, pa_nil, fun σ S Q sv H Kt re rs q k => k _ _ _ _ .refl rs .nil q⟩
theorem a_cons (ha : CE X a fa) (hr : CA X es fs) (hs : starEach (a :: es) X.env = (false, eval a X.env) :: starEach es X.env := by rfl) : CA X (a :: es) (aCons fa fs) := by
  obtain ⟨ta, ha, sa⟩ := ha
  obtain ⟨tr, hr, sr⟩ := hr
  refine ⟨_, pa_cons ha hr hs, fun σ S Q sv H Kt re rs q k => sa σ S _ sv H _ re rs q fun v d S1 H1 s1 r1 v1 q1 => ?_⟩
  exact sr σ S1 _ sv H1 _ (re.mono s1.tx) r1 q1 fun vs ds S2 H2 s2 r2 vs2 q2 => k _ _ S2 H2 (s1.trans s2) r2 (.cons (v1.mono s2.tx) vs2) q2
def eTup (fs : DA) : DE := fun σ S Q => fs σ S fun xs S1 => xs.length ≤ sizeLine ∧ Q (.tup xs) S1
def eLst (fs : DA) : DE := fun σ S Q => fs σ S fun xs S1 => xs.length ≤ sizeLine ∧ ∀ p, S1 p = none → Q (.ref p) (updS S1 p (.lst xs))
theorem c_tup {n} (h : CA X es fs) : CE X (.Tuple es n pos) (eTup fs) := by
  obtain ⟨ta, ha, sa⟩ := h
  refine ⟨_, pe_tup ha, fun σ S Q sv H Kt re rs q k => sa σ S _ sv H _ re rs q fun vs ds S1 H1 s1 r1 v1 q1 => ?_⟩
  refine ⟨by rw [v1.length]; exact q1.1, fun p hp => ?_⟩
  obtain ⟨st, sr⟩ := stp_tup (vs := vs) r1 hp
  exact k _ _ _ _ (s1.trans st) sr (.tup (.inl (.inl upd_same)) (v1.mono st.tx)) q1.2
theorem c_lst (h : CA X es fs) : CE X (.List es pos) (eLst fs) := by
  obtain ⟨ta, ha, sa⟩ := h
  refine ⟨_, pe_lst ha, fun σ S Q sv H Kt re rs q k => sa σ S _ sv H _ re rs q fun vs ds S1 H1 s1 r1 v1 q1 => ?_⟩
  refine ⟨by rw [v1.length]; exact q1.1, fun p hp => ?_⟩
  have tx := tx_new (K := X.K) (ho := .lst vs) hp
  obtain ⟨st, sr⟩ := stp_new (o := .lst ds) r1 hp ⟨_, upd_same, v1.mono tx⟩
  exact k _ _ _ _ (s1.trans st) sr (.ref p) (q1.2 p (r1.free hp))
end
end DL
namespace DL
open PySem PySem.Spec PyProof.Rows L2
section
variable {X : Cx} {K : PySem.W.Frag} {e a b c : Expr} {es : List Expr} {fe fa fb fc : DE} {ft fu : DT} {fs : DA} {pos : Pos} {S : Sto} {H : Hp}
/-! ### keys, tables -/
def toKey : D → Option Key
  | .int i => some (.inl i)
  | .str s => some (.inr s)
  | _ => none
def valD : List (Key × D) → Key → Option D
  | [], _ => none
  | p :: r, k => if p.1 = k then some p.2 else valD r k
def hasD (kvs : List (Key × D)) (k : Key) : Bool := (valD kvs k).isSome
def replD : List (Key × D) → Key → D → List (Key × D)
  | [], _, _ => []
  | p :: r, k, d => (if p.1 = k then (p.1, d) else p) :: replD r k d
def putD (kvs : List (Key × D)) (k : Key) (d : D) : List (Key × D) := if hasD kvs k = true then replD kvs k d else kvs ++ [(k, d)]
def dropD : List (Key × D) → Key → List (Key × D)
  | [], _ => []
  | p :: r, k => if p.1 = k then dropD r k else p :: dropD r k
theorem key_rep {v : V} {d : D} {k : Key} (r : Rep K H v d) (h : toKey d = some k) : v = kV k := by
  cases r <;> first | (cases h; rfl) | cases h
theorem kreps_val : ∀ {ws : List (Key × V)} {kvs : List (Key × D)} (k : Key), KReps K H ws kvs → (valV ws k = none ∧ valD kvs k = none) ∨ ∃ v d, valV ws k = some v ∧ valD kvs k = some d ∧ Rep K H v d
  | _, _, _, .nil => .inl ⟨rfl, rfl⟩
  | p :: ws, q :: kvs, k, .cons h r => by
    by_cases e : q.1 = k
    · exact .inr ⟨p.2, q.2, valV_pos (h.1.trans e), by unfold valD; rw [if_pos e], h.2⟩
    · rw [valV_neg (fun z => e (h.1.symm.trans z))]
      unfold valD
      rw [if_neg e]
      exact kreps_val k r
theorem kreps_len {ws : List (Key × V)} {kvs : List (Key × D)} (r : KReps K H ws kvs) : ws.length = kvs.length := Paired.length r
theorem kreps_repl {v : V} {d : D} (rv : Rep K H v d) (k : Key) : ∀ {ws : List (Key × V)} {kvs : List (Key × D)}, KReps K H ws kvs → KReps K H (ws.map fun kv => if kv.1 = k then (kv.1, v) else kv) (replD kvs k d)
  | _, _, .nil => .nil
  | p :: ws, q :: kvs, .cons h r => by
    refine .cons ?_ (kreps_repl rv k r)
    by_cases e : q.1 = k
    · dsimp only
      rw [if_pos e, if_pos (h.1.trans e)]
      exact ⟨h.1, rv⟩
    · dsimp only
      rw [if_neg e, if_neg (fun z => e (h.1.symm.trans z))]
      exact h
theorem kreps_app : ∀ {ws us : List (Key × V)} {kvs js : List (Key × D)}, KReps K H ws kvs → KReps K H us js → KReps K H (ws ++ us) (kvs ++ js)
  | _, _, _, _, .nil, s => s
  | _, _, _, _, .cons h r, s => .cons h (kreps_app r s)
theorem kreps_put {v : V} {d : D} (rv : Rep K H v d) (k : Key) {ws : List (Key × V)} {kvs : List (Key × D)} (r : KReps K H ws kvs) : KReps K H (putK ws k v) (putD kvs k d) := by
  unfold putK putD hasD
  rw [valV_any]
  rcases kreps_val k r with ⟨e1, e2⟩ | ⟨u, z, e1, e2, _⟩
  · rw [e1, e2]
    exact kreps_app r (.cons ⟨rfl, rv⟩ .nil)
  · rw [e1, e2]
    exact kreps_repl rv k r
def valT : List (List Key × D) → List Key → Option D
  | [], _ => none
  | p :: r, k => if p.1 = k then some p.2 else valT r k
def hasT (kvs : List (List Key × D)) (k : List Key) : Bool := (valT kvs k).isSome
def replT : List (List Key × D) → List Key → D → List (List Key × D)
  | [], _, _ => []
  | p :: r, k, d => (if p.1 = k then (p.1, d) else p) :: replT r k d
def putT (kvs : List (List Key × D)) (k : List Key) (d : D) : List (List Key × D) := if hasT kvs k = true then replT kvs k d else kvs ++ [(k, d)]
theorem treps_val : ∀ {ws : List (List Key × V)} {kvs : List (List Key × D)} (k : List Key), TReps K H ws kvs → (valV ws k = none ∧ valT kvs k = none) ∨ ∃ v d, valV ws k = some v ∧ valT kvs k = some d ∧ Rep K H v d
  | _, _, _, .nil => .inl ⟨rfl, rfl⟩
  | p :: ws, q :: kvs, k, .cons h r => by
    by_cases e : q.1 = k
    · exact .inr ⟨p.2, q.2, valV_pos (h.1.trans e), by unfold valT; rw [if_pos e], h.2⟩
    · rw [valV_neg (fun z => e (h.1.symm.trans z))]
      unfold valT
      rw [if_neg e]
      exact treps_val k r
theorem treps_len {ws : List (List Key × V)} {kvs : List (List Key × D)} (r : TReps K H ws kvs) : ws.length = kvs.length := Paired.length r
theorem treps_repl {v : V} {d : D} (rv : Rep K H v d) (k : List Key) : ∀ {ws : List (List Key × V)} {kvs : List (List Key × D)}, TReps K H ws kvs → TReps K H (ws.map fun kv => if kv.1 = k then (kv.1, v) else kv) (replT kvs k d)
  | _, _, .nil => .nil
  | p :: ws, q :: kvs, .cons h r => by
    refine .cons ?_ (treps_repl rv k r)
    by_cases e : q.1 = k
    · dsimp only
      rw [if_pos e, if_pos (h.1.trans e)]
      exact ⟨h.1, rv⟩
    · dsimp only
      rw [if_neg e, if_neg (fun z => e (h.1.symm.trans z))]
      exact h
theorem treps_app : ∀ {ws us : List (List Key × V)} {kvs js : List (List Key × D)}, TReps K H ws kvs → TReps K H us js → TReps K H (ws ++ us) (kvs ++ js)
  | _, _, _, _, .nil, s => s
  | _, _, _, _, .cons h r, s => .cons h (treps_app r s)
theorem treps_put {v : V} {d : D} (rv : Rep K H v d) (k : List Key) {ws : List (List Key × V)} {kvs : List (List Key × D)} (r : TReps K H ws kvs) : TReps K H (putK ws k v) (putT kvs k d) := by
  unfold putK putT hasT
  rw [valV_any]
  rcases treps_val k r with ⟨e1, e2⟩ | ⟨u, z, e1, e2, _⟩
  · rw [e1, e2]
    exact treps_app r (.cons ⟨rfl, rv⟩ .nil)
  · rw [e1, e2]
    exact treps_repl rv k r
theorem kreps_drop (k : Key) : ∀ {ws : List (Key × V)} {kvs : List (Key × D)}, KReps K H ws kvs → KReps K H (dropK ws k) (dropD kvs k)
  | _, _, .nil => .nil
  | p :: ws, q :: kvs, .cons h r => by
    unfold dropD
    by_cases e : q.1 = k
    · rw [if_pos e]
      have e2 : dropK (p :: ws) k = dropK ws k := by
        unfold dropK
        rw [List.filter_cons_of_neg]
        simpa using h.1.trans e
      rw [e2]
      exact kreps_drop k r
    · rw [if_neg e]
      have e2 : dropK (p :: ws) k = p :: dropK ws k := by
        unfold dropK
        rw [List.filter_cons_of_pos]
        simpa using fun z => e (h.1.symm.trans z)
      rw [e2]
      exact .cons h (kreps_drop k r)
/-! ### a[b] -/
theorem ixDict (hu : X.A.units + 1 < cLine) : IxR X (fun x y H Q => ∃ a v, x = .ref a ∧ DGet H a y (some v) ∧ Q v H) := by
  intro value slice pins s σ H x y v u Q I rx ry h hs
  obtain ⟨a, z, ex, g, q⟩ := h
  subst ex
  have ev : v = Value.ref a := rx
  subst ev
  have got := d_getItem (A := X.A) (E := X.xe) (Q := EP X pins σ Q) hu I g ry fun w' s3 I3 rw' => ⟨z, H, I3, rw', q⟩
  have ty := dict_typeIs I g
  have fin : wpAny (model X.prog X.w) X.A (subscripted slice false (.ref a) u) (fun r s3 => wpAny (model X.prog X.w) X.A (letTemporaryGo value (.ref a) r >>= fun _ => pure r) (EP X pins σ Q) X.xe s3) X.xe s := by
    rw [hs]
    exact wpAny_operating (thn got fun r s3 h3 => wpAny_bind (wpAny_letTemporaryGo (wpAny_pure h3)))
  unfold subscriptTail
  refine wpAny_bind ?_
  rw [getitemInPython_of_ne ty.not_modules]
  refine wpAny_bind (wpAny_specialOf ty PySem.F.slot_dict_getitem.lookup ?_)
  first | exact wpAny_pure (wpAny_bind fin) | exact wpAny_bind (wpAny_pure (wpAny_bind fin)) | exact wpAny_bind fin
def gIx : G2 := fun x y S Q => match x with
  | .tup xs => (match y with
    | .int i => ∃ d, atI xs i = some d ∧ Q d S
    | _ => False)
  | .str z => (match y with
    | .int i => z.length ≤ sizeLine ∧ ∃ c, atI z.cps.toList i = some c ∧ Q (.str ⟨#[c]⟩) S
    | _ => False)
  | .fl xs => (match y with
    | .int i => ∃ d, atI xs i = some d ∧ Q d S
    | _ => False)
  | .ref p => (match S p with
    | some (.lst xs) => (match y with
      | .int i => ∃ d, atI xs i = some d ∧ Q d S
      | _ => False)
    | some (.dk kvs) => ∃ k d, toKey y = some k ∧ valD kvs k = some d ∧ Q d S
    | some (.dt kvs) => (match y with
      | .kt ks => ∃ d, valT kvs ks = some d ∧ Q d S
      | _ => False)
    | some (.tab _) => False
    | some (.fz kvs) => ∃ k d, toKey y = some k ∧ valD kvs k = some d ∧ Q d S
    | none => False)
  | _ => False
theorem reps_atI {vs : List V} {ds : List D} {i : Int} {d : D} (r : Reps K H vs ds) (h : atI ds i = some d) : ∃ v, atI vs i = some v ∧ Rep K H v d := by
  unfold atI at h ⊢
  rw [r.length]
  cases q : ixN ds.length i with
  | none => rw [q] at h; cases h
  | some j =>
    rw [q] at h
    obtain ⟨v, e, rv⟩ := r.get (i := j) (d := d) h
    exact ⟨v, e, rv⟩
theorem sr_ix : SndR K (fun x y H Q => rIx K x y H Q ∨ ∃ a v, x = .ref a ∧ DGet H a y (some v) ∧ Q v H) gIx := fun x y a b S H Q Kt s ra rb q k => by
  cases ra with
  | @tup p vs ds h r =>
    cases rb <;> try exact False.elim q
    obtain ⟨d, e, q⟩ := q
    obtain ⟨v, e2, rv⟩ := reps_atI r e
    exact .inl (.inr (.inl ⟨p, vs, _, v, rfl, rfl, h, e2, k.now s rv q⟩))
  | @fl p vs ds h r =>
    cases rb <;> try exact False.elim q
    obtain ⟨d, e, q⟩ := q
    obtain ⟨v, e2, rv⟩ := reps_atI r e
    exact .inl (.inl ⟨p, vs, _, v, rfl, rfl, h.sq, e2, k.now s rv q⟩)
  | str z =>
    cases rb <;> try exact False.elim q
    obtain ⟨hz, d, e, q⟩ := q
    exact .inl (.inr (.inr ⟨z, _, d, rfl, rfl, hz, e, k.now s (.str _) q⟩))
  | ref p =>
    unfold gIx at q
    cases h : S p with
    | none => simp only [h] at q
    | some o =>
      cases o with
      | lst xs =>
        simp only [h] at q
        cases rb <;> try exact False.elim q
        obtain ⟨d, e, q⟩ := q
        obtain ⟨vs, e1, r⟩ := s _ _ h
        obtain ⟨v, e2, rv⟩ := reps_atI r e
        exact .inl (.inl ⟨p, vs, _, v, rfl, rfl, .inl (.inl e1), e2, k.now s rv q⟩)
      | dk kvs =>
        simp only [h] at q
        obtain ⟨kk, d, e1, e2, q⟩ := q
        obtain ⟨ws, e3, r⟩ := s _ _ h
        rcases kreps_val kk r with ⟨_, z⟩ | ⟨v, d', z1, z2, rv⟩
        · rw [e2] at z; cases z
        · rw [e2] at z2; cases z2
          exact .inr ⟨p, v, rfl, by rw [key_rep rb e1, ← z1]; exact .k e3, k.now s rv q⟩
      | dt kvs =>
        simp only [h] at q
        cases rb <;> try exact False.elim q
        rename_i p2 ks hk
        obtain ⟨d, e2, q⟩ := q
        obtain ⟨ws, e3, r⟩ := s _ _ h
        rcases treps_val ks r with ⟨_, z⟩ | ⟨v, d', z1, z2, rv⟩
        · rw [e2] at z; cases z
        · rw [e2] at z2; cases z2
          exact .inr ⟨p, v, rfl, by rw [← z1]; exact .t e3 hk, k.now s rv q⟩
      | tab z => simp only [h] at q
      | fz kvs =>
        simp only [h] at q
        obtain ⟨kk, d, e1, e2, q⟩ := q
        obtain ⟨ob, ws, e3, r⟩ := s _ _ h
        rcases kreps_val kk r with ⟨_, z⟩ | ⟨v, d', z1, z2, rv⟩
        · rw [e2] at z; cases z
        · rw [e2] at z2; cases z2
          exact .inr ⟨p, v, rfl, .inl ⟨ws, kk, .inr ⟨ob, e3⟩, key_rep rb e1, z1.symm⟩, k.now s rv q⟩
  | _ => exact False.elim q
theorem c_ix (hu : X.A.units + 1 < cLine) (ha : CE X a fa) (hb : CE X b fb) (hs : PlainIx b := by intro _ _; rfl) : CE X (.Subscript a b pos) (eOp gIx fa fb) := by
  obtain ⟨ta, ha, sa⟩ := ha
  obtain ⟨tb, hb, sb⟩ := hb
  exact ⟨_, pe_ix (IxR.or ix_seq (ixDict hu)) ha hb hs, snd_op sr_ix sa sb⟩
/-! ### a[b:c] -/
abbrev DO := Env → Sto → (Option Int → Sto → Prop) → Prop
structure CP (X : Cx) (e : Option Expr) (f : DO) : Prop where
  ok : ∃ t, PO X e t ∧ ∀ (σ : Env) (S : Sto) (Q : Option Int → Sto → Prop) (sv : L2.St) (H : Hp) (Kt : Option Int → Hp → Prop), ERep X.K H sv σ → SRep X.K S H → f σ S Q →
    (∀ o S' H', Stp X.K S H S' H' → SRep X.K S' H' → Q o S' → Kt o H') → t sv H Kt
def oNo : DO := fun _ S Q => Q none S
def oSome (fa : DE) : DO := fun σ S Q => fa σ S fun x S1 => match x with
  | .int i => Q (some i) S1
  | _ => False
theorem p_none : CP X none oNo := ⟨_, po_none, fun σ S Q sv H Kt re rs q k => k _ _ _ .refl rs q⟩
theorem p_some (ha : CE X a fa) : CP X (some a) (oSome fa) := by
  obtain ⟨ta, ha, sa⟩ := ha
  refine ⟨_, po_some ha, fun σ S Q sv H Kt re rs q k => sa σ S _ sv H _ re rs q fun v d S1 H1 s1 r1 v1 q1 => ?_⟩
  cases v1 <;> try exact False.elim q1
  exact ⟨_, rfl, k _ _ _ s1 r1 q1⟩
/-- the part of a list from one place to another -/
def cutL {α : Type} (xs : List α) (lo hi : Option Int) : List α := (xs.drop (HT.sIx xs.length 0 lo)).take (HT.sIx xs.length xs.length hi - HT.sIx xs.length 0 lo)
def gSl : D → Option Int → Option Int → Sto → DK → Prop := fun x lo hi S Q => match x with
  | .tup xs => Q (.tup (cutL xs lo hi)) S
  | .str z => z.length ≤ sizeLine ∧ Q (.str (cutS z lo hi)) S
  | .fl xs => ∀ p, S p = none → Q (.ref p) (updS S p (.lst (cutL xs lo hi)))
  | .ref p => ∃ xs, S p = some (.lst xs) ∧ ∀ n, S n = none → Q (.ref n) (updS S n (.lst (cutL xs lo hi)))
  | _ => False
theorem reps_cut {vs : List V} {ds : List D} (lo hi : Option Int) (r : Reps K H vs ds) : Reps K H (cutV vs lo hi) (cutL ds lo hi) := by
  unfold cutV cutL
  rw [r.length]
  exact (r.drop _).take _
theorem cut_all {α : Type} {xs : List α} {lo hi : Option Int} (h : HT.sIx xs.length 0 lo = 0 ∧ HT.sIx xs.length xs.length hi = xs.length) : cutL xs lo hi = xs := by
  unfold cutL
  rw [h.1, h.2]
  simp
def rSlAll (K : PySem.W.Frag) : V → Option Int → Option Int → Hp → VK → Prop := fun x lo hi H Q => rSlL K x lo hi H Q ∨ (rSlA K x lo hi H Q ∨ rSlS x lo hi H Q)
def eSl (fa : DE) (fl fh : DO) : DE := fun σ S Q => fa σ S fun x S1 => fl σ S1 fun l S2 => fh σ S2 fun h S3 => gSl x l h S3 Q
theorem sl_all {x : V} {d : D} {lo hi : Option Int} {Q : DK} {Kt : VK} (s : SRep K S H) (r : Rep K H x d) (q : gSl d lo hi S Q) (k : Rch K S H Q Kt) : rSlAll K x lo hi H Kt := by
  cases r with
  | @tup p vs ds h r =>
    have l := r.length
    refine .inr (.inl ⟨p, vs, rfl, h, fun z => ?_, fun z n hn => ?_⟩)
    · have q' : Q (.tup (cutL ds lo hi)) S := q
      rw [cut_all (by rw [← l]; exact z)] at q'
      exact k.now s (.tup h r) q'
    · obtain ⟨st, sr⟩ := stp_tup (vs := cutV vs lo hi) s hn
      exact k _ _ _ _ st sr (.tup (.inl (.inl upd_same)) (reps_cut lo hi (r.mono st.tx))) q
  | str z => exact .inr (.inr ⟨z, rfl, q.1, k.now s (.str _) q.2⟩)
  | @fl p vs ds h r =>
    refine .inl ⟨p, vs, rfl, h.sq, fun n hn => ?_⟩
    have tx := tx_new (K := K) (ho := .lst (cutV vs lo hi)) hn
    obtain ⟨st, sr⟩ := stp_new (o := .lst (cutL ds lo hi)) s hn ⟨_, upd_same, reps_cut lo hi (r.mono tx)⟩
    exact k _ _ _ _ st sr (.ref n) (q n (s.free hn))
  | ref p =>
    obtain ⟨xs, e, q⟩ := q
    obtain ⟨vs, e1, r⟩ := s _ _ e
    refine .inl ⟨p, vs, rfl, .inl (.inl e1), fun n hn => ?_⟩
    have tx := tx_new (K := K) (ho := .lst (cutV vs lo hi)) hn
    obtain ⟨st, sr⟩ := stp_new (o := .lst (cutL xs lo hi)) s hn ⟨_, upd_same, reps_cut lo hi (r.mono tx)⟩
    exact k _ _ _ _ st sr (.ref n) (q n (s.free hn))
  | _ => exact False.elim q
theorem c_sl {lo hi : Option Expr} {fl fh : DO} {p2 : Pos} (ha : CE X a fa) (hl : CP X lo fl) (hh : CP X hi fh) : CE X (.Subscript a (.Slice lo hi none p2) pos) (eSl fa fl fh) := by
  obtain ⟨ta, ha, sa⟩ := ha
  obtain ⟨tl, hl, sl⟩ := hl
  obtain ⟨th, hh, sh⟩ := hh
  refine ⟨_, pe_slice (SlR.or sl_list (SlR.or sl_tupA sl_str)) ha hl hh, fun σ S Q sv H Kt re rs q k => sa σ S _ sv H _ re rs q fun v d S1 H1 s1 r1 v1 q1 => ?_⟩
  refine sl σ S1 _ sv H1 _ (re.mono s1.tx) r1 q1 fun o S2 H2 s2 r2 q2 => ?_
  refine sh σ S2 _ sv H2 _ (re.mono (s1.trans s2).tx) r2 q2 fun o2 S3 H3 s3 r3 q3 => ?_
  exact sl_all r3 (v1.mono (s2.trans s3).tx) q3 fun v4 d4 S4 H4 s4 r4 v4' q4 => k v4 d4 S4 H4 (((s1.trans s2).trans s3).trans s4) r4 v4' q4
/-! ### x in y -/
/-- x is one of flat things -/
def flatD : D → Bool
  | .non => true | .bl _ => true | .int _ => true | .str _ => true
  | _ => false
def eqF : D → D → Bool
  | .non, .non => true
  | .bl a, .bl b => a == b
  | .bl a, .int b => (if a = true then 1 else 0) == b
  | .int a, .bl b => a == if b = true then 1 else 0
  | .int a, .int b => a == b
  | .str a, .str b => a == b
  | _, _ => false
theorem flat_rep {v : V} {d : D} (r : Rep K H v d) (h : flatD d = true) : flatV v = true := by cases r <;> first | rfl | cases h
theorem flat_reps : ∀ {vs : List V} {ds : List D}, Reps K H vs ds → ds.all flatD = true → vs.all flatV = true
  | _, _, .nil, _ => rfl
  | _, _, .cons h r, e => by
    rw [List.all_cons, Bool.and_eq_true] at e ⊢
    exact ⟨flat_rep h e.1, flat_reps r e.2⟩
theorem eqF_rep {x y : V} {a b : D} (rx : Rep K H x a) (ry : Rep K H y b) (ha : flatD a = true) (hb : flatD b = true) : eqV x y = eqF a b := by
  cases rx <;> first | (cases ha; done) | (cases ry <;> first | (cases hb; done) | rfl)
theorem inV_rep {x : V} {a : D} (rx : Rep K H x a) (ha : flatD a = true) : ∀ {vs : List V} {ds : List D}, Reps K H vs ds → ds.all flatD = true → inV x vs = ds.any fun y => eqF y a
  | _, _, .nil, _ => rfl
  | _, _, .cons h r, e => by
    rw [List.all_cons, Bool.and_eq_true] at e
    have ih := inV_rep rx ha r e.2
    unfold inV at ih ⊢
    rw [List.any_cons, List.any_cons, ih, eqF_rep h rx e.1 ha]
def inStr (i j : Str) : Bool := !(Builtin.Str.occurrences j i 0 j.length 1).isEmpty
def gIn (f : Bool → Bool) : G2 := fun x y S Q => match y with
  | .str j => (match x with
    | .str i => Q (.bl (f (inStr i j))) S
    | _ => False)
  | .tup ys => flatD x = true ∧ ys.all flatD = true ∧ Q (.bl (f (ys.any fun z => eqF z x))) S
  | .fl ys => flatD x = true ∧ ys.all flatD = true ∧ Q (.bl (f (ys.any fun z => eqF z x))) S
  | .ref p => (match S p with
    | some (.lst ys) => flatD x = true ∧ ys.all flatD = true ∧ Q (.bl (f (ys.any fun z => eqF z x))) S
    | some (.dk kvs) => ∃ k, toKey x = some k ∧ Q (.bl (f (hasD kvs k))) S
    | some (.dt kvs) => (match x with
      | .kt ks => Q (.bl (f (hasT kvs ks))) S
      | _ => False)
    | some (.tab _) => False
    | some (.fz kvs) => ∃ k, toKey x = some k ∧ Q (.bl (f (hasD kvs k))) S
    | none => False)
  | _ => False
theorem opInD (hu : X.A.units + 1 < cLine) : OpR X (compareOp .In) (fun y x H Q => ∃ a o, x = .ref a ∧ DGet H a y o ∧ Q (.bl o.isSome) H) := by
  intro pins s σ H y x v u Q I ry rx h
  obtain ⟨a, o, ex, g, q⟩ := h
  subst ex
  have ev : u = Value.ref a := rx
  subst ev
  exact d_in hu I g ry fun s' I' => ⟨.bl _, _, I', rfl, q⟩
theorem opNotInD (hu : X.A.units + 1 < cLine) : OpR X (compareOp .NotIn) (fun y x H Q => ∃ a o, x = .ref a ∧ DGet H a y o ∧ Q (.bl (!o.isSome)) H) := by
  intro pins s σ H y x v u Q I ry rx h
  obtain ⟨a, o, ex, g, q⟩ := h
  subst ex
  have ev : u = Value.ref a := rx
  subst ev
  exact d_notIn hu I g ry fun s' I' => ⟨.bl _, _, I', rfl, q⟩
theorem o_in (hu : X.A.units + 1 < cLine) : CO X .In (gIn id) := by
  refine ⟨_, OpR.or op_in_str (OpR.or op_in_seq (opInD hu)), fun x y a b S H Q Kt s ra rb q k => ?_⟩
  cases rb with
  | str j =>
    cases ra <;> try exact False.elim q
    exact .inl ⟨_, _, rfl, rfl, k.now s (.bl _) q⟩
  | @tup p vs ds h r => exact .inr (.inl ⟨p, vs, rfl, .inr h, flat_rep ra q.1, flat_reps r q.2.1, k.now s (.bl _) (by rw [if_neg Bool.false_ne_true, inV_rep ra q.1 r q.2.1]; exact q.2.2)⟩)
  | @fl p vs ds h r => exact .inr (.inl ⟨p, vs, rfl, .inl h.sq, flat_rep ra q.1, flat_reps r q.2.1, k.now s (.bl _) (by rw [if_neg Bool.false_ne_true, inV_rep ra q.1 r q.2.1]; exact q.2.2)⟩)
  | ref p =>
    unfold gIn at q
    cases h : S p with
    | none => simp only [h] at q
    | some o =>
      obtain h0 := s _ _ h
      cases o with
      | lst xs =>
        simp only [h] at q
        obtain ⟨vs, e1, r⟩ := h0
        exact .inr (.inl ⟨p, vs, rfl, .inl (.inl (.inl e1)), flat_rep ra q.1, flat_reps r q.2.1, k.now s (.bl _) (by rw [if_neg Bool.false_ne_true, inV_rep ra q.1 r q.2.1]; exact q.2.2)⟩)
      | dk kvs =>
        simp only [h] at q
        obtain ⟨kk, e1, q⟩ := q
        obtain ⟨ws, e3, r⟩ := h0
        refine .inr (.inr ⟨p, valV ws kk, rfl, by rw [key_rep ra e1]; exact .k e3, k.now s (.bl _) ?_⟩)
        have e : (valV ws kk).isSome = hasD kvs kk := by
          unfold hasD
          rcases kreps_val kk r with ⟨z1, z2⟩ | ⟨v, d, z1, z2, _⟩ <;> rw [z1, z2] <;> rfl
        rw [e]
        exact q
      | dt kvs =>
        simp only [h] at q
        cases ra <;> try exact False.elim q
        rename_i p2 ks hk
        obtain ⟨ws, e3, r⟩ := h0
        refine .inr (.inr ⟨p, valV ws ks, rfl, .t e3 hk, k.now s (.bl _) ?_⟩)
        have e : (valV ws ks).isSome = hasT kvs ks := by
          unfold hasT
          rcases treps_val ks r with ⟨z1, z2⟩ | ⟨v, d, z1, z2, _⟩ <;> rw [z1, z2] <;> rfl
        rw [e]
        exact q
      | tab z => simp only [h] at q
      | fz kvs =>
        simp only [h] at q
        obtain ⟨kk, e1, q⟩ := q
        obtain ⟨ob, ws, e3, r⟩ := h0
        refine .inr (.inr ⟨p, valV ws kk, rfl, .inl ⟨ws, kk, .inr ⟨ob, e3⟩, key_rep ra e1, rfl⟩, k.now s (.bl _) ?_⟩)
        have e : (valV ws kk).isSome = hasD kvs kk := by
          unfold hasD
          rcases kreps_val kk r with ⟨z1, z2⟩ | ⟨v, d, z1, z2, _⟩ <;> rw [z1, z2] <;> rfl
        rw [e]
        exact q
  | _ => exact False.elim q
theorem o_notIn (hu : X.A.units + 1 < cLine) : CO X .NotIn (gIn not) := by
  refine ⟨_, OpR.or op_notin_str (OpR.or op_notIn_seq (opNotInD hu)), fun x y a b S H Q Kt s ra rb q k => ?_⟩
  cases rb with
  | str j =>
    cases ra <;> try exact False.elim q
    exact .inl ⟨_, _, rfl, rfl, k.now s (.bl _) q⟩
  | @tup p vs ds h r => exact .inr (.inl ⟨p, vs, rfl, .inr h, flat_rep ra q.1, flat_reps r q.2.1, k.now s (.bl _) (by rw [if_pos rfl, inV_rep ra q.1 r q.2.1]; exact q.2.2)⟩)
  | @fl p vs ds h r => exact .inr (.inl ⟨p, vs, rfl, .inl h.sq, flat_rep ra q.1, flat_reps r q.2.1, k.now s (.bl _) (by rw [if_pos rfl, inV_rep ra q.1 r q.2.1]; exact q.2.2)⟩)
  | ref p =>
    unfold gIn at q
    cases h : S p with
    | none => simp only [h] at q
    | some o =>
      obtain h0 := s _ _ h
      cases o with
      | lst xs =>
        simp only [h] at q
        obtain ⟨vs, e1, r⟩ := h0
        exact .inr (.inl ⟨p, vs, rfl, .inl (.inl (.inl e1)), flat_rep ra q.1, flat_reps r q.2.1, k.now s (.bl _) (by rw [if_pos rfl, inV_rep ra q.1 r q.2.1]; exact q.2.2)⟩)
      | dk kvs =>
        simp only [h] at q
        obtain ⟨kk, e1, q⟩ := q
        obtain ⟨ws, e3, r⟩ := h0
        refine .inr (.inr ⟨p, valV ws kk, rfl, by rw [key_rep ra e1]; exact .k e3, k.now s (.bl _) ?_⟩)
        have e : (valV ws kk).isSome = hasD kvs kk := by
          unfold hasD
          rcases kreps_val kk r with ⟨z1, z2⟩ | ⟨v, d, z1, z2, _⟩ <;> rw [z1, z2] <;> rfl
        rw [e]
        exact q
      | dt kvs =>
        simp only [h] at q
        cases ra <;> try exact False.elim q
        rename_i p2 ks hk
        obtain ⟨ws, e3, r⟩ := h0
        refine .inr (.inr ⟨p, valV ws ks, rfl, .t e3 hk, k.now s (.bl _) ?_⟩)
        have e : (valV ws ks).isSome = hasT kvs ks := by
          unfold hasT
          rcases treps_val ks r with ⟨z1, z2⟩ | ⟨v, d, z1, z2, _⟩ <;> rw [z1, z2] <;> rfl
        rw [e]
        exact q
      | tab z => simp only [h] at q
      | fz kvs =>
        simp only [h] at q
        obtain ⟨kk, e1, q⟩ := q
        obtain ⟨ob, ws, e3, r⟩ := h0
        refine .inr (.inr ⟨p, valV ws kk, rfl, .inl ⟨ws, kk, .inr ⟨ob, e3⟩, key_rep ra e1, rfl⟩, k.now s (.bl _) ?_⟩)
        have e : (valV ws kk).isSome = hasD kvs kk := by
          unfold hasD
          rcases kreps_val kk r with ⟨z1, z2⟩ | ⟨v, d, z1, z2, _⟩ <;> rw [z1, z2] <;> rfl
        rw [e]
        exact q
  | _ => exact False.elim q
end
end DL
namespace DL
open PySem PySem.Spec PyProof.Rows L2
/-! ### defs under a stack without guards -/
structure RoomG (k : Nat) (A : Around) : Prop extends Room k A where
  gd : A.guards = some []
theorem RoomG.mono' {k j : Nat} {A : Around} (h : RoomG j A) (hk : k ≤ j) : RoomG k A := ⟨h.toRoom.mono hk, h.gd⟩
structure FnG (P : Program) (w : World) (K : PySem.W.Frag) (mg : Str → Option Value) (base : Heap) (CX : CXT) (k : Nat) (f : Addr) (fd : FuncData) (ps : List Str) (sp : Sp) : Prop where
  len : ∀ (vs : List V) (H : Hp) (Q : VK) (E : XK), sp vs H Q E → vs.length = ps.length
  run : ∀ (A : Around) (outer : List PySem.Env) (s : Shared) (H : Hp) (args : Args) (us : List Value) (vs : List V) (Q : VK) (E : XK),
    RoomG k A → Env0 P w K mg base A outer s H → BindsTo s fd args (ps.zip us) → Vals vs us → sp vs H Q E → codeAny (model P w) A (.call (.ref f) args) (CR CX outer P w H s Q E) s
theorem run_fnG {X : Cx} {CX : CXT} {k : Nat} {f : Addr} {fd : FuncData} {ps : List Str} {sp : Sp} {dvs : List V} {ds : List Value} {E : XK} {pins : List (Addr × Obj)} {σ : L2.St} {H : Hp} {s : Shared} {Q : VK} {us : List Value} {vs : List V}
    (F : FnG X.prog X.w X.K X.mg X.base CX k f fd ps sp) (hr : RoomG k X.A) (hb : Binds X.K fd ps ds) (hd : Vals dvs ds) (hx : Passes CX X E) (I : L2.Inv X pins σ H s) (r : Vals vs us) (h : sp (vs ++ dvs) H Q E) :
    wpAny (model X.prog X.w) X.A (call (.ref f) us) (EP X pins σ Q) X.xe s := by
  have r2 := Vals.append r hd
  have hl : (us ++ ds).length = ps.length := by rw [← r2.length]; exact F.len _ H Q E h
  refine wpAny_call (codeAny_mono (F.run X.A X.stack s H ⟨us, []⟩ (us ++ ds) (vs ++ dvs) Q E hr I.env0 (hb s us I.kIn hl) r2 h) fun q s' hq => ?_)
  match q, hq with
  | .error e, hq => exact hx pins σ H s e s' I hq
  | .ok (.ret u), hq => exact I.after hq
  | .ok .next, hq => exact hq.elim
  | .ok .brk, hq => exact hq.elim
  | .ok .cont, hq => exact hq.elim
theorem pe_callG {X : Cx} {CX : CXT} {k : Nat} {f : Addr} {fd : FuncData} {ps : List Str} {sp : Sp} {dvs : List V} {ds : List Value} {E : XK} {x : Str} {p pos : Pos} {e : Expr} {es : List Expr} {t : TA}
    (F : FnG X.prog X.w X.K X.mg X.base CX k f fd ps sp) (hr : RoomG k X.A) (hg : Gl X x) (hm : X.mg x = some (.ref f)) (hk : PySem.W.keepIn X.K (.ref f) = true) (hb : Binds X.K fd ps ds) (hd : Vals dvs ds) (hx : Passes CX X E) (ha : PA X (e :: es) t)
    (hdb : (x == ("__debug__" : Str)) = false) (he : starEach (e :: es) X.env = (false, eval e X.env) :: starEach es X.env) (hpl : (backTo pos (starEach es X.env)).any (·.1) = false) :
    PE X (.Call (.Name x p) (e :: es) [] pos) (tCall sp dvs E t) :=
  ⟨fun pins s σ H Q I h => wpAny_Call_Name_kw (ld_glob I hg hm (PySem.W.callWith_K I.ok.mod.kin hk
    (thn (ha.run pos pins s σ H (fun vs H1 => sp (vs ++ dvs) H1 Q E) I h) fun us s1 x => match x with
      | ⟨vs, H1, I1, r, q⟩ => ⟨I1.kIn, run_fnG F hr hb hd hx I1 r q⟩) he hpl) hdb)⟩
theorem fn_ofG {CX : CXT} {P : Program} {w : World} {K : PySem.W.Frag} {mg : Str → Option Value} {base : Heap} {k : Nat} {f : Addr} {name qual : Str} {params : Arguments} {body : List Stmt} {scope : Scope} {dV kV doc pm cdv ct oc : Value} {an od : Option Addr} {osl : Array (Option Value)} {N ps : List Str} {sp : Sp}
    (lk : K.lookup f = some ⟨oc, od, .func (PySem.W.fnOf name qual params body scope dV kV doc pm an cdv ct), osl⟩) (hcd : PySem.W.codeIn K cdv qual = true) (S : FnScope N ps scope) (len : ∀ (vs : List V) (H : Hp) (Q : VK) (E : XK), sp vs H Q E → vs.length = ps.length)
    (hbody : ∀ (A : Around) (outer : List PySem.Env) (s : Shared) (H : Hp) (vs : List V) (Q : VK) (E : XK), RoomG k (A.deeper (envOfC qual scope s.heap.objs.size f cdv)) → sp vs H Q E →
      ∃ t, PSs (cxOf CX P w K mg base N qual scope f cdv A outer s H E) body t ∧ t { nx := fun _ H' => Q .non H', rt := Q } (L2.start N vs) H) :
    FnG P w K mg base CX (k + 1) f (PySem.W.fnOf name qual params body scope dV kV doc pm an cdv ct) ps sp := by
  refine ⟨len, fun A outer s H args us vs Q E hr e0 hb r hsp => ?_⟩
  have hl := len vs H Q E hsp
  have KX : K.In s.heap := e0.mod.kin.keeps fun b o e => (e0.bs b o e).1
  have lim : s.heap.NoLimit := e0.mod.nolimit.keeps fun b o e => (e0.bs b o e).1
  refine codeAny_call_function hr.toRoom.depth (KX f _ lk) rfl S.co S.gen rfl (PySem.W.codeRec_of KX hcd) (hb (model P w) A.in1 (fun e s' => CR CX outer P w H s Q E (.error e) s') _ (wpAny_newFunctionEnv_cells S.kind (fun x hy => ?_) fun env he s1 x => ?_))
  · rcases S.par x.1 (List.of_mem_zip hy).1 with q | q
    · exact .inl q
    · exact .inr ⟨q, PySem.W.cellsFrom_some scope.names (s.heap.objs.size + 1) [] (.inl q)⟩
  · subst he
    refine ⟨lim.keeps x.toInCall.keep, codeAny_func ?_⟩
    obtain ⟨t, ht, hq⟩ := hbody A outer s H vs Q E ⟨hr.toRoom.deeper _, hr.gd⟩ hsp
    have I := inv_start (CX := CX) (mg := mg) (E := E) (N := N) (P := P) (w := w) (K := K) (base := base) (outer := outer) S hr.hd e0 hl r x
    refine wpAny_mono (ht.run [] s1 (L2.start N vs) H _ I hq) (fun fl s' hs => ?_) fun e s' hs => hs
    match fl, hs with
    | .next, hs => obtain ⟨σ', H', J, q⟩ := hs; exact ⟨.non, H', J.os, J.bare, J.base, J.hok, rfl, q⟩
    | .brk, hs => obtain ⟨_, _, _, q⟩ := hs; exact q.elim
    | .cont, hs => obtain ⟨_, _, _, q⟩ := hs; exact q.elim
    | .ret u, hs => obtain ⟨v, σ', H', J, rv, q⟩ := hs; exact ⟨v, H', J.os, J.bare, J.base, J.hok, rv, q⟩
theorem okG {P : Program} {w : World} {K : PySem.W.Frag} {mg : Str → Option Value} {base : Heap} {x qual : Str} {st : Stmt} {f : Addr} {fd : FuncData} {N ps : List Str} {k : Nat} {sp : Sp} (F : Fun K x qual st f fd) (S : FnScope N ps (defScope st))
    (len : ∀ (vs : List V) (H : Hp) (Q : VK) (E : XK), sp vs H Q E → vs.length = ps.length)
    (hbody : ∀ (cdv : Value) (A : Around) (outer : List PySem.Env) (s : Shared) (H : Hp) (vs : List V) (Q : VK) (E : XK), RoomG k (A.deeper (envOfC qual (defScope st) s.heap.objs.size f cdv)) → sp vs H Q E →
      ∃ t, PSs (cxOf CX0 P w K mg base N qual (defScope st) f cdv A outer s H E).nox (defBody st) t ∧ t { nx := fun _ H' => Q .non H', rt := Q } (L2.start N vs) H) :
    FnG P w K mg base CX0 (k + 1) f fd ps sp := by
  obtain ⟨oc, od, kV, doc, pm, an, cdv, ct, osl, e, lk, hcd⟩ := F.ex
  subst e
  refine fn_ofG lk hcd S len fun A outer s H vs Q E hr hsp => ?_
  obtain ⟨t, h, q⟩ := hbody cdv A outer s H vs Q E hr hsp
  exact ⟨t, h.nox, q⟩
end DL
namespace DL
open PySem PySem.Spec PyProof.Rows L2
/-! ### what a def does -/
abbrev MF := List D → Sto → DK → Prop
/-- a def of n parameters that raises nothing does m -/
def spD (K : PySem.W.Frag) (n : Nat) (m : MF) : Sp := fun vs H Q _ => vs.length = n ∧ ∃ ds S Qd, Reps K H vs ds ∧ SRep K S H ∧ m ds S Qd ∧ Rch K S H Qd Q
section
variable {X : Cx} {K : PySem.W.Frag} {e a b c : Expr} {es : List Expr} {fe fa fb fc : DE} {ft fu : DT} {fs : DA} {pos : Pos} {S : Sto} {H : Hp}
def eCall (n : Nat) (m : MF) (fs : DA) : DE := fun σ S Q => fs σ S fun ds S1 => ds.length = n ∧ m ds S1 Q
theorem c_call {k n : Nat} {f : Addr} {fd : FuncData} {ps : List Str} {m : MF} {x : Str} {p : Pos} (hr : RoomG k X.A) (F : FnG X.prog X.w X.K X.mg X.base CX0 k f fd ps (spD X.K n m)) (hg : Gl X x) (hm : X.mg x = some (.ref f)) (hk : PySem.W.keepIn X.K (.ref f) = true)
    (hb : Binds X.K fd ps []) (ha : CA X (a :: es) fs) (hdb : (x == ("__debug__" : Str)) = false := by decide) (he : starEach (a :: es) X.env = (false, eval a X.env) :: starEach es X.env := by rfl) (hpl : (backTo pos (starEach es X.env)).any (·.1) = false := by rfl) :
    CE X (.Call (.Name x p) (a :: es) [] pos) (eCall n m fs) := by
  obtain ⟨ta, ha, sa⟩ := ha
  refine ⟨_, pe_callG F hr hg hm hk hb .nil pass0 ha hdb he hpl, fun σ S Q sv H Kt re rs q k => sa σ S _ sv H _ re rs q fun vs ds S1 H1 s1 r1 v1 q1 => ?_⟩
  rw [List.append_nil]
  exact ⟨by rw [v1.length]; exact q1.1, ds, S1, Q, v1, r1, q1.2, fun v d S2 H2 s2 r2 v2 q2 => k v d S2 H2 (s1.trans s2) r2 v2 q2⟩
/-! ### built-ins -/
def eCB (g : GN) (fs : DA) : DE := fun σ S Q => fs σ S fun ds S1 => g ds S1 Q
theorem snd_cb {r : List V → Hp → VK → Prop} {g : GN} {t : TA} (hr : SndN K r g) (ha : SndA K t fs) : Snd K (tCB r t) (eCB g fs) := fun σ S Q sv H Kt re rs q k =>
  ha σ S _ sv H _ re rs q fun vs ds S1 H1 s1 r1 v1 q1 => hr vs ds S1 H1 Q Kt r1 v1 q1 fun v d S2 H2 s2 r2 v2 q2 => k v d S2 H2 (s1.trans s2) r2 v2 q2
/-- a built-in function by its name -/
structure CB (X : Cx) (id : String) (g : GN) : Prop where
  ok : ∃ r, CallR X (.builtin id) r ∧ SndN X.K r g
structure CY (X : Cx) (T : String) (g : GN) : Prop where
  ok : ∃ r, CallR X (.type T) r ∧ SndN X.K r g
theorem c_callB {id : String} {x : Str} {p : Pos} {g : GN} (h : CB X id g) (hg : Gl X x) (hm : X.mg x = none) (hv : bootBuiltins x = some (.builtin id)) (ha : CA X (a :: es) fs) (hn : x ≠ "__name__" := by decide) (hdb : (x == ("__debug__" : Str)) = false := by decide)
    (he : starEach (a :: es) X.env = (false, eval a X.env) :: starEach es X.env := by rfl) (hpl : (backTo pos (starEach es X.env)).any (·.1) = false := by rfl) : CE X (.Call (.Name x p) (a :: es) [] pos) (eCB g fs) := by
  obtain ⟨r, h1, h2⟩ := h
  obtain ⟨ta, ha, sa⟩ := ha
  exact ⟨_, pe_callB h1 hg hm hv ha hn hdb he hpl, snd_cb h2 sa⟩
theorem c_callTy {T : String} {x : Str} {p : Pos} {g : GN} (h : CY X T g) (hg : Gl X x) (hm : X.mg x = none) (hv : bootBuiltins x = some (.type T)) (ha : CA X (a :: es) fs) (hn : x ≠ "__name__" := by decide) (hdb : (x == ("__debug__" : Str)) = false := by decide)
    (he : starEach (a :: es) X.env = (false, eval a X.env) :: starEach es X.env := by rfl) (hpl : (backTo pos (starEach es X.env)).any (·.1) = false := by rfl) : CE X (.Call (.Name x p) (a :: es) [] pos) (eCB g fs) := by
  obtain ⟨r, h1, h2⟩ := h
  obtain ⟨ta, ha, sa⟩ := ha
  exact ⟨_, pe_callTy h1 hg hm hv ha hn hdb he hpl, snd_cb h2 sa⟩
theorem c_bltn {x : Str} {n : String} (hg : Gl X x) (hm : X.mg x = none) (hv : bootBuiltins x = some (.type n)) (hn : x ≠ "__name__" := by decide) (hd : (x == ("__debug__" : Str)) = false := by decide) : CE X (.Name x pos) (eC (.ty n)) :=
  ⟨_, pe_bltn (v := .ty n) hg hm hv rfl hn hd, snd_c fun _ => .ty n⟩
/-- len -/
def gLen : GN := fun xs S Q => match xs with
  | [.str z] => z.length ≤ sizeLine ∧ Q (.int z.length) S
  | [.tup ys] => Q (.int ys.length) S
  | [.fl ys] => Q (.int ys.length) S
  | [.ref p] => (match S p with
    | some (.lst ys) => Q (.int ys.length) S
    | some (.dk kvs) => Q (.int kvs.length) S
    | some (.dt _) => False
    | some (.tab _) => False
    | some (.fz kvs) => Q (.int kvs.length) S
    | none => False)
  | _ => False
theorem callLenD : CallR X (.builtin "len") (fun xs H Q => ∃ a kvs, xs = [.ref a] ∧ Rd H a (.dK kvs) ∧ Q (.int kvs.length) H) := by
  intro pins s σ H xs us Q I r h
  obtain ⟨a, kvs, ex, hr, q⟩ := h
  subst ex
  obtain ⟨u, eu, ru⟩ := Vals.one r
  subst eu
  have ev : u = Value.ref a := ru
  subst ev
  exact d_len I hr fun t s' I' => ⟨.int kvs.length, H, I', ⟨t, rfl⟩, q⟩
theorem reps1 {vs : List V} {d : D} (r : Reps K H vs [d]) : ∃ v, vs = [v] ∧ Rep K H v d := by
  cases r with
  | cons h t => cases t; exact ⟨_, rfl, h⟩
theorem reps2 {vs : List V} {d d2 : D} (r : Reps K H vs [d, d2]) : ∃ v v2, vs = [v, v2] ∧ Rep K H v d ∧ Rep K H v2 d2 := by
  cases r with
  | cons h t =>
    obtain ⟨v2, rfl, h2⟩ := reps1 t
    exact ⟨_, _, rfl, h, h2⟩
theorem b_len : CB X "len" gLen := by
  refine ⟨_, L2.CallR.or call_len_str (L2.CallR.or call_len_seq callLenD), fun xs as S H Q Kt s r q k => ?_⟩
  match as, q with
  | [.str z], q =>
    obtain ⟨v, rfl, rv⟩ := reps1 r
    cases rv
    exact .inl ⟨_, rfl, q.1, k.now s (.int _) q.2⟩
  | [.tup ys], q =>
    obtain ⟨v, rfl, rv⟩ := reps1 r
    cases rv with
    | tup h r => exact .inr (.inl ⟨_, _, rfl, .inr h, k.now s (.int _) (by rw [r.length]; exact q)⟩)
  | [.fl ys], q =>
    obtain ⟨v, rfl, rv⟩ := reps1 r
    cases rv with
    | fl h r => exact .inr (.inl ⟨_, _, rfl, .inl h.sq, k.now s (.int _) (by rw [r.length]; exact q)⟩)
  | [.ref p], q =>
    obtain ⟨v, rfl, rv⟩ := reps1 r
    cases rv
    unfold gLen at q
    cases h : S p with
    | none => simp only [h] at q
    | some o =>
      have h0 := s _ _ h
      cases o with
      | lst ys =>
        simp only [h] at q
        obtain ⟨vs, e1, r⟩ := h0
        exact .inr (.inl ⟨_, _, rfl, .inl (.inl (.inl e1)), k.now s (.int _) (by rw [r.length]; exact q)⟩)
      | dk kvs =>
        simp only [h] at q
        obtain ⟨ws, e1, r⟩ := h0
        exact .inr (.inr ⟨_, _, rfl, .inl e1, k.now s (.int _) (by rw [kreps_len r]; exact q)⟩)
      | dt kvs => simp only [h] at q
      | tab z => simp only [h] at q
      | fz kvs =>
        simp only [h] at q
        obtain ⟨ob, ws, e1, r⟩ := h0
        exact .inr (.inr ⟨_, _, rfl, .inr ⟨ob, e1⟩, k.now s (.int _) (by rw [kreps_len r]; exact q)⟩)
def gAbs : GN := fun xs S Q => match xs with
  | [.int i] => Q (.int (if i < 0 then -i else i)) S
  | _ => False
theorem b_abs : CB X "abs" gAbs := by
  refine ⟨_, call_abs, fun xs as S H Q Kt s r q k => ?_⟩
  match as, q with
  | [.int i], q =>
    obtain ⟨v, rfl, rv⟩ := reps1 r
    cases rv
    exact ⟨_, rfl, k.now s (.int _) q⟩
def gMax2 : GN := fun xs S Q => match xs with
  | [.int i, .int j] => Q (.int (if j > i then j else i)) S
  | _ => False
def gMin2 : GN := fun xs S Q => match xs with
  | [.int i, .int j] => Q (.int (if j < i then j else i)) S
  | _ => False
theorem b_max2 (hc : X.calm = true) : CB X "max" gMax2 := by
  refine ⟨_, call_max2 hc, fun xs as S H Q Kt s r q k => ?_⟩
  match as, q with
  | [.int i, .int j], q =>
    obtain ⟨v, v2, rfl, rv, rv2⟩ := reps2 r
    cases rv
    cases rv2
    exact ⟨_, _, rfl, k.now s (.int _) q⟩
theorem b_min2 (hc : X.calm = true) : CB X "min" gMin2 := by
  refine ⟨_, call_min2 hc, fun xs as S H Q Kt s r q k => ?_⟩
  match as, q with
  | [.int i, .int j], q =>
    obtain ⟨v, v2, rfl, rv, rv2⟩ := reps2 r
    cases rv
    cases rv2
    exact ⟨_, _, rfl, k.now s (.int _) q⟩
def gInt1 : GN := fun xs S Q => match xs with
  | [.int i] => Q (.int i) S
  | [.bl i] => Q (.int (if i then 1 else 0)) S
  | _ => False
theorem y_int : CY X "int" gInt1 := by
  refine ⟨_, call_int1, fun xs as S H Q Kt s r q k => ?_⟩
  match as, q with
  | [.int i], q =>
    obtain ⟨v, rfl, rv⟩ := reps1 r
    cases rv
    exact .inl ⟨_, rfl, k.now s (.int _) q⟩
  | [.bl i], q =>
    obtain ⟨v, rfl, rv⟩ := reps1 r
    cases rv
    exact .inr ⟨_, rfl, k.now s (.int _) q⟩
def gList : GN := fun xs S Q => match xs with
  | [.tup ys] => ∀ p, S p = none → Q (.ref p) (updS S p (.lst ys))
  | [.fl ys] => ∀ p, S p = none → Q (.ref p) (updS S p (.lst ys))
  | [.ref a] => ∃ ys, S a = some (.lst ys) ∧ ∀ p, S p = none → Q (.ref p) (updS S p (.lst ys))
  | _ => False
theorem new_lst {vs : List V} {ds : List D} {Q : DK} {Kt : VK} (s : SRep K S H) (r : Reps K H vs ds) (k : Rch K S H Q Kt) (q : ∀ p, S p = none → Q (.ref p) (updS S p (.lst ds))) : ∀ p, H p = none → Kt (.ref p) (upd H p (.lst vs)) := fun p hp => by
  have tx := tx_new (K := K) (ho := .lst vs) hp
  obtain ⟨st, sr⟩ := stp_new (o := .lst ds) s hp ⟨_, upd_same, r.mono tx⟩
  exact k _ _ _ _ st sr (.ref p) (q p (s.free hp))
theorem y_list : CY X "list" gList := by
  refine ⟨_, call_list_of, fun xs as S H Q Kt s r q k => ?_⟩
  match as, q with
  | [.tup ys], q =>
    obtain ⟨v, rfl, rv⟩ := reps1 r
    cases rv with
    | tup h r => exact ⟨_, _, rfl, .inr h, new_lst s r k q⟩
  | [.fl ys], q =>
    obtain ⟨v, rfl, rv⟩ := reps1 r
    cases rv with
    | fl h r => exact ⟨_, _, rfl, .inl h.sq, new_lst s r k q⟩
  | [.ref p], q =>
    obtain ⟨v, rfl, rv⟩ := reps1 r
    cases rv
    obtain ⟨ys, e, q⟩ := q
    obtain ⟨vs, e1, r⟩ := s _ _ e
    exact ⟨_, _, rfl, .inl (.inl (.inl e1)), new_lst s r k q⟩
def gTuple : GN := fun xs S Q => match xs with
  | [.tup ys] => Q (.tup ys) S
  | [.fl ys] => Q (.tup ys) S
  | [.ref a] => ∃ ys, S a = some (.lst ys) ∧ Q (.tup ys) S
  | _ => False
theorem y_tuple : CY X "tuple" gTuple := by
  refine ⟨_, call_tuple_of, fun xs as S H Q Kt s r q k => ?_⟩
  have mk : ∀ {vs : List V} {ds : List D}, Reps X.K H vs ds → Q (.tup ds) S → ∀ p, H p = none → Kt (.ref p) (upd H p (.tup vs)) := fun {vs ds} r q p hp => by
    obtain ⟨st, sr⟩ := stp_tup (vs := vs) s hp
    exact k _ _ _ _ st sr (.tup (.inl (.inl upd_same)) (r.mono st.tx)) q
  match as, q with
  | [.tup ys], q =>
    obtain ⟨v, rfl, rv⟩ := reps1 r
    cases rv with
    | tup h r => exact ⟨_, _, rfl, .inr ⟨h, k.now s (.tup h r) q⟩⟩
  | [.fl ys], q =>
    obtain ⟨v, rfl, rv⟩ := reps1 r
    cases rv with
    | fl h r => exact ⟨_, _, rfl, .inl ⟨h.sq, mk r q⟩⟩
  | [.ref p], q =>
    obtain ⟨v, rfl, rv⟩ := reps1 r
    cases rv
    obtain ⟨ys, e, q⟩ := q
    obtain ⟨vs, e1, r⟩ := s _ _ e
    exact ⟨_, _, rfl, .inl ⟨.inl (.inl e1), mk r q⟩⟩
theorem reps_map {α : Type} {f : α → V} {g : α → D} (h : ∀ {v : V} {x : α}, Rep K H v (g x) → v = f x) : ∀ {vs : List V} {xs : List α}, Reps K H vs (xs.map g) → vs = xs.map f
  | _, [], r => by cases r; rfl
  | _, x :: xs, r => by
    cases r with
    | cons h1 r => rw [h h1, reps_map h r]; rfl
theorem reps_ints {vs : List V} {ns : List Int} (r : Reps K H vs (ns.map D.int)) : vs = ns.map V.int := reps_map (fun {v x} h => by cases h; rfl) r
theorem reps_strs {vs : List V} {ns : List Str} (r : Reps K H vs (ns.map D.str)) : vs = ns.map V.str := reps_map (fun {v x} h => by cases h; rfl) r
theorem reps_bls {vs : List V} {ns : List Bool} (r : Reps K H vs (ns.map D.bl)) : vs = ns.map V.bl := reps_map (fun {v x} h => by cases h; rfl) r
theorem strs_reps : ∀ {ns : List Str}, Reps K H (ns.map V.str) (ns.map D.str)
  | [] => .nil
  | _ :: _ => .cons (.str _) strs_reps
theorem ints_reps : ∀ {ns : List Int}, Reps K H (ns.map V.int) (ns.map D.int)
  | [] => .nil
  | _ :: _ => .cons (.int _) ints_reps
def gSum : GN := fun xs S Q => match xs with
  | [.ref a] => ∃ ns : List Int, S a = some (.lst (ns.map .int)) ∧ Q (.int ns.sum) S
  | _ => False
theorem b_sum (hc : X.calm = true) : CB X "sum" gSum := by
  refine ⟨_, cr_sum hc, fun xs as S H Q Kt s r q k => ?_⟩
  match as, q with
  | [.ref p], q =>
    obtain ⟨v, rfl, rv⟩ := reps1 r
    cases rv
    obtain ⟨ns, e, q⟩ := q
    obtain ⟨vs, e1, r⟩ := s _ _ e
    rw [reps_ints r] at e1
    exact ⟨_, _, rfl, .inl (.inl e1), k.now s (.int _) q⟩
def gAll (f : List Bool → Bool) : GN := fun xs S Q => match xs with
  | [.ref a] => ∃ bs : List Bool, S a = some (.lst (bs.map .bl)) ∧ Q (.bl (f bs)) S
  | _ => False
theorem b_all (hc : X.calm = true) : CB X "all" (gAll fun bs => bs.all id) := by
  refine ⟨_, cr_all hc, fun xs as S H Q Kt s r q k => ?_⟩
  match as, q with
  | [.ref p], q =>
    obtain ⟨v, rfl, rv⟩ := reps1 r
    cases rv
    obtain ⟨ns, e, q⟩ := q
    obtain ⟨vs, e1, r⟩ := s _ _ e
    rw [reps_bls r] at e1
    exact ⟨_, _, rfl, .inl (.inl e1), k.now s (.bl _) q⟩
theorem b_any (hc : X.calm = true) : CB X "any" (gAll fun bs => bs.any id) := by
  refine ⟨_, cr_any hc, fun xs as S H Q Kt s r q k => ?_⟩
  match as, q with
  | [.ref p], q =>
    obtain ⟨v, rfl, rv⟩ := reps1 r
    cases rv
    obtain ⟨ns, e, q⟩ := q
    obtain ⟨vs, e1, r⟩ := s _ _ e
    rw [reps_bls r] at e1
    exact ⟨_, _, rfl, .inl (.inl e1), k.now s (.bl _) q⟩
/-- isinstance of one built-in class -/
def tyD (x : D) (S : Sto) : Option String := match x with
  | .non => some "NoneType"
  | .bl _ => some "bool"
  | .int _ => some "int"
  | .str _ => some "str"
  | .tup _ => some "tuple"
  | .fl _ => some "list"
  | .ref p => (match S p with
    | some (.lst _) => some "list"
    | some (.dk _) => some "dict"
    | some (.dt _) => some "dict"
    | some (.tab _) => none
    | some (.fz _) => none
    | none => none)
  | .ty _ => none
  | .exc _ => none
  | .cls _ => none
  | .kt _ => some "tuple"
  | .nt _ => some "tuple"
theorem tyX_of {v : V} {d : D} {t : String} (s : SRep K S H) (r : Rep K H v d) (h : tyD d S = some t) : TyX K H v (.type t) := by
  cases r with
  | non => cases h; exact .base .non
  | bl b => cases h; exact .base (.bl b)
  | int i => cases h; exact .base (.int i)
  | str x => cases h; exact .base (.str x)
  | ty n => cases h
  | exc _ _ => cases h
  | cls _ => cases h
  | kt h1 => cases h; exact .base (.tup h1)
  | nt h1 _ => cases h; obtain ⟨o, h1, _⟩ := h1; exact .fTuple h1
  | @tup p vs ds h1 r =>
    cases h
    rcases h1 with (h1 | ⟨o, h1⟩) | ⟨o, its, n, hk, hc, _⟩
    · exact .base (.tup h1)
    · exact .fTuple h1
    · exact .kTuple hk hc
  | @fl p vs ds h1 r =>
    cases h
    rcases h1 with ⟨o, h1⟩ | ⟨o, its, n, hk, hc, _⟩
    · exact .base (.frz h1)
    · exact .kList hk hc
  | ref p =>
    unfold tyD at h
    cases q : S p with
    | none => simp only [q] at h; cases h
    | some o =>
      have h0 := s _ _ q
      cases o with
      | lst ys =>
        simp only [q] at h
        cases h
        obtain ⟨vs, e1, r⟩ := h0
        exact .base (.lst e1)
      | dk kvs =>
        simp only [q] at h
        cases h
        obtain ⟨ws, e1, r⟩ := h0
        exact .base (.dK e1)
      | dt kvs =>
        simp only [q] at h
        cases h
        obtain ⟨ws, e1, r⟩ := h0
        exact .base (.dT e1)
      | tab z => simp only [q] at h; cases h
      | fz z => simp only [q] at h; cases h
/-- what isinstance tells of a type and a class by their names -/
def isiN (t n : String) : Bool := t == n || (t == "bool" && n == "int")
def isiTys : List String := ["NoneType", "bool", "int", "str", "tuple", "list", "dict"]
def isiCls : List String := ["bool", "int", "str", "tuple", "list", "dict"]
theorem isi_table : isiTys.all (fun t => isiCls.all fun n => kitB t n == some (isiN t n)) = true := by decide +kernel
theorem isi_ok {t n : String} (ht : t ∈ isiTys) (hn : n ∈ isiCls) : kitB t n = some (isiN t n) := by
  have h := List.all_eq_true.mp (List.all_eq_true.mp isi_table t ht) n hn
  exact eq_of_beq h
theorem tyD_in {d : D} {t : String} (h : tyD d S = some t) : t ∈ isiTys := by
  have : ∀ u ∈ ["NoneType", "bool", "int", "str", "tuple", "list", "dict"], u ∈ isiTys := fun u h => h
  unfold tyD at h
  split at h <;> first | (cases h; done) | (cases h; apply this; simp; done) | skip
  split at h <;> first | (cases h; done) | (cases h; apply this; simp; done)
def gIsi : GN := fun xs S Q => match xs with
  | [x, .ty n] => n ∈ isiCls ∧ ∃ t, tyD x S = some t ∧ Q (.bl (isiN t n)) S
  | _ => False
theorem b_isi : CB X "isinstance" gIsi := by
  refine ⟨_, call_isi, fun xs as S H Q Kt s r q k => ?_⟩
  match as, q with
  | [x, .ty n], q =>
    obtain ⟨v, v2, rfl, rv, rv2⟩ := reps2 r
    cases rv2
    obtain ⟨hn, t, ht, q⟩ := q
    exact ⟨_, _, _, _, _, rfl, .ty n, tyX_of s rv ht, kit_ty (isi_ok (tyD_in ht) hn), k.now s (.bl _) q⟩
/-- isinstance(x, (c, c2)) -/
def eIsi2 (n n2 : String) (fa : DE) : DE := fun σ S Q => fa σ S fun x S1 => (n ∈ isiCls ∧ n2 ∈ isiCls) ∧ ∃ t, tyD x S1 = some t ∧ Q (.bl (isiN t n || isiN t n2)) S1
/-! ### methods of built-in types -/
def tyM (T : String) (x : D) (S : Sto) : Prop := match x with
  | .str _ => T = "str"
  | .fl _ => T = "list"
  | .ref p => (match S p with
    | some (.lst _) => T = "list"
    | some (.dk _) => T = "dict"
    | some (.dt _) => T = "dict"
    | some (.tab _) => False
    | some (.fz _) => False
    | none => False)
  | _ => False
theorem tyV_of {v : V} {d : D} {T : String} (s : SRep K S H) (r : Rep K H v d) (h : tyM T d S) : tyV K T v H := by
  cases r with
  | str x => exact h
  | @fl p vs ds h2 r => exact .inl ⟨h, vs, h2.sq⟩
  | ref p =>
    unfold tyM at h
    cases q : S p with
    | none => simp only [q] at h
    | some o =>
      have h0 := s _ _ q
      cases o with
      | lst ys =>
        simp only [q] at h
        obtain ⟨vs, e1, r⟩ := h0
        exact .inl ⟨h, vs, .inl (.inl e1)⟩
      | dk kvs =>
        simp only [q] at h
        obtain ⟨ws, e1, r⟩ := h0
        exact .inr (.inr (.inl ⟨h, .inl ⟨ws, e1⟩⟩))
      | dt kvs =>
        simp only [q] at h
        obtain ⟨ws, e1, r⟩ := h0
        exact .inr (.inr (.inl ⟨h, .inr ⟨ws, e1⟩⟩))
      | tab z => simp only [q] at h
      | fz z => simp only [q] at h
  | _ => exact False.elim h
def eM (T : String) (g : D → GN) (fo : DE) (fs : DA) : DE := fun σ S Q => fo σ S fun x S1 => tyM T x S1 ∧ fs σ S1 fun xs S2 => g x xs S2 Q
/-- a method by its name -/
structure CM (X : Cx) (T : String) (name : Str) (g : D → GN) : Prop where
  ok : ∃ (id : String) (r : V → List V → Hp → VK → Prop), PlainAttrs T ∧ Slot T name id ∧ typeOf (.builtin id) = pure (.type "method_descriptor") ∧ MtR X id r ∧ SndM X.K r g
theorem c_m {T : String} {name : Str} {g : D → GN} {fo : DE} {o : Expr} {apos : Pos} (h : CM X T name g) (ho : CE X o fo) (ha : CA X (a :: es) fs)
    (hbase : attributeBase o name X.env (eval o X.env) = eval o X.env := by rfl)
    (hfew : ((backTo pos (starEach (a :: es) X.env)).all (fun x => !x.1) && (backToKw pos (keywordEach [] X.env)).all (fun x => x.1.isSome)
      && decide ((a :: es).length + ([] : List Keyword).length + (if ([] : List Keyword).isEmpty then 0 else 1) < 30)) = true := by rfl)
    (hline : (apos.endLine == pos.line) = true := by rfl) (hs : starEach (a :: es) X.env = (false, eval a X.env) :: starEach es X.env := by rfl) (hplain : (backTo pos (starEach es X.env)).any (·.1) = false := by rfl) :
    CE X (.Call (.Attribute o name apos) (a :: es) [] pos) (eM T g fo fs) := by
  obtain ⟨id, r, h1, h2, h3, h4, h5⟩ := h
  obtain ⟨to, ho, so⟩ := ho
  obtain ⟨ta, ha, sa⟩ := ha
  refine ⟨_, pe_bm h1 h2 h3 h4 ho ha hbase hfew hline hs hplain, fun σ S Q sv H Kt re rs q k => so σ S _ sv H _ re rs q fun v d S1 H1 s1 r1 v1 q1 => ?_⟩
  refine ⟨tyV_of r1 v1 q1.1, sa σ S1 _ sv H1 _ (re.mono s1.tx) r1 q1.2 fun vs ds S2 H2 s2 r2 v2 q2 => ?_⟩
  exact h5 v d vs ds S2 H2 Q Kt r2 (v1.mono s2.tx) v2 q2 fun v3 d3 S3 H3 s3 r3 w3 q3 => k v3 d3 S3 H3 ((s1.trans s2).trans s3) r3 w3 q3
theorem c_m0 {T : String} {name : Str} {g : D → GN} {fo : DE} {o : Expr} {apos : Pos} (h : CM X T name g) (ho : CE X o fo) (hbase : attributeBase o name X.env (eval o X.env) = eval o X.env := by rfl) (hline : (apos.endLine == pos.line) = true := by rfl) :
    CE X (.Call (.Attribute o name apos) [] [] pos) (eM T g fo aNil) := by
  obtain ⟨id, r, h1, h2, h3, h4, h5⟩ := h
  obtain ⟨to, ho, so⟩ := ho
  refine ⟨_, pe_bm0 h1 h2 h3 h4 ho hbase hline, fun σ S Q sv H Kt re rs q k => so σ S _ sv H _ re rs q fun v d S1 H1 s1 r1 v1 q1 => ?_⟩
  refine ⟨tyV_of r1 v1 q1.1, ?_⟩
  exact h5 v d [] [] S1 H1 Q Kt r1 v1 .nil q1.2 fun v3 d3 S3 H3 s3 r3 w3 q3 => k v3 d3 S3 H3 (s1.trans s3) r3 w3 q3
end
end DL
namespace DL
open PySem PySem.Spec PyProof.Rows L2
section
variable {X : Cx} {K : PySem.W.Frag} {e a b c : Expr} {es : List Expr} {fe fa fb fc : DE} {ft fu : DT} {fs : DA} {pos : Pos} {S : Sto} {H : Hp}
/-! ### methods of lists -/
def gAppend : D → GN := fun x vs S Q => match x, vs with
  | .ref p, [d] => ∃ xs, S p = some (.lst xs) ∧ xs.length < sizeLine ∧ Q .non (updS S p (.lst (xs ++ [d])))
  | _, _ => False
theorem mut_lst {p : Addr} {vs' : List V} {ds ds' : List D} {Q : DK} {Kt : VK} (s : SRep K S H) (e : S p = some (.lst ds)) (r : Reps K H vs' ds') (k : Rch K S H Q Kt) {v : V} {d : D} (rv : Rep K H v d) (q : Q d (updS S p (.lst ds'))) : Kt v (upd H p (.lst vs')) := by
  have tx : Tx K H (upd H p (.lst vs')) := tx_mut (s p _ e)
  obtain ⟨st, sr⟩ := stp_mut (o' := .lst ds') s e ⟨_, upd_same, r.mono tx⟩
  exact k _ _ _ _ st sr (rv.mono tx) q
theorem m_append : CM X "list" "append" gAppend := by
  refine ⟨_, _, PySem.F.plainAttrs_list, PySem.F.slot_list_append, PySem.F.type_list_append, mt_append, fun x a xs as S H Q Kt s rx r q k => ?_⟩
  match a, as, q with
  | .ref p, [d], q =>
    obtain ⟨ys, e, hz, q⟩ := q
    obtain ⟨v, rfl, rv⟩ := reps1 r
    cases rx
    obtain ⟨vs, e1, r1⟩ := s _ _ e
    exact ⟨p, vs, v, rfl, rfl, e1, by rw [r1.length]; exact hz, mut_lst s e (r1.append (.cons rv .nil)) k .non q⟩
def gPop0 : D → GN := fun x vs S Q => match x, vs with
  | .ref p, [] => ∃ xs d, S p = some (.lst xs) ∧ xs[xs.length - 1]? = some d ∧ Q d (updS S p (.lst xs.dropLast))
  | _, _ => False
def gPopAt : D → GN := fun x vs S Q => match x, vs with
  | .ref p, [.int i] => ∃ xs j d, S p = some (.lst xs) ∧ -(2 ^ 63) ≤ i ∧ i < 2 ^ 63 ∧ seqIndex? i xs.length = some j ∧ xs[j]? = some d ∧ Q d (updS S p (.lst (xs.eraseIdx j)))
  | _, _ => False
theorem m_popAt : CM X "list" "pop" gPopAt := by
  refine ⟨_, _, PySem.F.plainAttrs_list, PySem.F.slot_list_pop, PySem.F.type_list_pop, mt_popAt, fun x a xs as S H Q Kt s rx r q k => ?_⟩
  match a, as, q with
  | .ref p, [.int i], q =>
    obtain ⟨ys, j, d, e, h1, h2, h3, hd, q⟩ := q
    obtain ⟨v, rfl, rv⟩ := reps1 r
    cases rv
    cases rx
    obtain ⟨vs, e1, r1⟩ := s _ _ e
    obtain ⟨v, ev, rv⟩ := r1.get hd
    exact ⟨p, vs, i, j, v, rfl, rfl, e1, h1, h2, by rw [r1.length]; exact h3, ev, mut_lst s e (r1.eraseIdx j) k rv q⟩
def gClear : D → GN := fun x vs S Q => match x, vs with
  | .ref p, [] => ∃ xs, S p = some (.lst xs) ∧ Q .non (updS S p (.lst []))
  | _, _ => False
theorem m_clear : CM X "list" "clear" gClear := by
  refine ⟨_, _, PySem.F.plainAttrs_list, PySem.F.slot_list_clear, PySem.F.type_list_clear, mt_clear, fun x a xs as S H Q Kt s rx r q k => ?_⟩
  match a, as, q with
  | .ref p, [], q =>
    obtain ⟨ys, e, q⟩ := q
    cases r
    cases rx
    obtain ⟨vs, e1, r1⟩ := s _ _ e
    exact ⟨p, vs, rfl, rfl, e1, mut_lst s e .nil k .non q⟩
def gReverse : D → GN := fun x vs S Q => match x, vs with
  | .ref p, [] => ∃ xs, S p = some (.lst xs) ∧ Q .non (updS S p (.lst xs.reverse))
  | _, _ => False
/-! ### methods of texts -/
def gJoin : D → GN := fun x vs S Q => match x, vs with
  | .str a, [.ref p] => ∃ ys : List Str, S p = some (.lst (ys.map .str)) ∧ (ys.map (·.length)).sum + ys.length * a.length ≤ 16777216 ∧ Q (.str (Txt.join a ys)) S
  | .str a, [.tup ds] => ∃ ys : List Str, ds = ys.map .str ∧ (ys.map (·.length)).sum + ys.length * a.length ≤ 16777216 ∧ Q (.str (Txt.join a ys)) S
  | _, _ => False
theorem m_join : CM X "str" "join" gJoin := by
  refine ⟨_, _, PySem.F.plainAttrs_str, F.slot_str_join, F.type_str_join, mt_join, fun x a xs as S H Q Kt s rx r q k => ?_⟩
  match a, as, q with
  | .str z, [.ref p], q =>
    obtain ⟨ys, e, hz, q⟩ := q
    obtain ⟨v, rfl, rv⟩ := reps1 r
    cases rv
    cases rx
    obtain ⟨vs, e1, r1⟩ := s _ _ e
    rw [reps_strs r1] at e1
    exact ⟨z, p, ys, rfl, rfl, .inl (.inl (.inl e1)), hz, k.now s (.str _) q⟩
  | .str z, [.tup ds], q =>
    obtain ⟨ys, rfl, hz, q⟩ := q
    obtain ⟨v, rfl, rv⟩ := reps1 r
    cases rx
    cases rv with
    | @tup p vs ds h r =>
      rw [reps_strs r] at h
      exact ⟨z, p, ys, rfl, rfl, .inr h, hz, k.now s (.str _) q⟩
def gUpper : D → GN := fun x vs S Q => match x, vs with
  | .str a, [] => a.length ≤ 5592405 ∧ Q (.str (Txt.upper a)) S
  | _, _ => False
/-! ### statements -/
structure DEnds where
  nx : Env → Sto → Prop
  rt : DK
  bk : Env → Sto → Prop
  ct : Env → Sto → Prop
abbrev DS := DEnds → Env → Sto → Prop
/-- a state of data that is reached, and what is wanted there -/
abbrev RchS (K : PySem.W.Frag) (S : Sto) (H : Hp) (Q : Env → Sto → Prop) (Kt : L2.St → Hp → Prop) : Prop := ∀ sv σ S' H', Stp K S H S' H' → SRep K S' H' → ERep K H' sv σ → Q σ S' → Kt sv H'
structure RchE (K : PySem.W.Frag) (S : Sto) (H : Hp) (D0 : DEnds) (Dv : Ends) : Prop where
  nx : RchS K S H D0.nx Dv.nx
  rt : Rch K S H D0.rt Dv.rt
  bk : RchS K S H D0.bk Dv.bk
  ct : RchS K S H D0.ct Dv.ct
theorem RchS.stp {Q : Env → Sto → Prop} {Kt : L2.St → Hp → Prop} {S1 : Sto} {H1 : Hp} (k : RchS K S H Q Kt) (s : Stp K S H S1 H1) : RchS K S1 H1 Q Kt := fun sv σ S2 H2 s2 r e q => k sv σ S2 H2 (s.trans s2) r e q
theorem Rch.stp {Q : DK} {Kt : VK} {S1 : Sto} {H1 : Hp} (k : Rch K S H Q Kt) (s : Stp K S H S1 H1) : Rch K S1 H1 Q Kt := fun v d S2 H2 s2 r e q => k v d S2 H2 (s.trans s2) r e q
theorem RchE.stp {D0 : DEnds} {Dv : Ends} {S1 : Sto} {H1 : Hp} (k : RchE K S H D0 Dv) (s : Stp K S H S1 H1) : RchE K S1 H1 D0 Dv := ⟨k.nx.stp s, k.rt.stp s, k.bk.stp s, k.ct.stp s⟩
def SndS (K : PySem.W.Frag) (t : TS) (f : DS) : Prop := ∀ (D0 : DEnds) (σ : Env) (S : Sto) (Dv : Ends) (sv : L2.St) (H : Hp), ERep K H sv σ → SRep K S H → f D0 σ S → RchE K S H D0 Dv → t Dv sv H
structure CS (X : Cx) (st : Stmt) (f : DS) : Prop where
  ok : ∃ t, PS X st t ∧ SndS X.K t f
structure CSs (X : Cx) (st : List Stmt) (f : DS) : Prop where
  ok : ∃ t, PSs X st t ∧ SndS X.K t f
variable {st : Stmt} {rest : List Stmt} {f g : DS}
def sNext : DS := fun D0 σ S => D0.nx σ S
def sSeq (f g : DS) : DS := fun D0 σ S => f { D0 with nx := g D0 } σ S
def sBreak : DS := fun D0 σ S => D0.bk σ S
def sCont : DS := fun D0 σ S => D0.ct σ S
theorem ss_nil : CSs X [] sNext := ⟨_, pss_nil, fun D0 σ S Dv sv H re rs q k => k.nx sv σ S H .refl rs re q⟩
theorem ss_cons (h1 : CS X st f) (h2 : CSs X rest g) : CSs X (st :: rest) (sSeq f g) := by
  obtain ⟨t, h1, s1⟩ := h1
  obtain ⟨u, h2, s2⟩ := h2
  refine ⟨_, pss_cons h1 h2, fun D0 σ S Dv sv H re rs q k => s1 { D0 with nx := g D0 } σ S { Dv with nx := u Dv } sv H re rs q ⟨?_, k.rt, k.bk, k.ct⟩⟩
  exact fun sv' σ' S' H' st' r' e' q' => s2 D0 σ' S' Dv sv' H' e' r' q' (k.stp st')
theorem ss_one (h1 : CS X st f) : CSs X [st] f := let ⟨_, h, s⟩ := h1.ok; ⟨_, pss_one h, s⟩
def sExpr (fa : DE) : DS := fun D0 σ S => fa σ S fun _ S1 => D0.nx σ S1
theorem s_expr (ha : CE X a fa) (hs : swapsWith a none pos.line X.env = pure false := by rfl) : CS X (.Expr a pos) (sExpr fa) := by
  obtain ⟨t, h, s⟩ := ha
  exact ⟨_, ps_expr h hs, fun D0 σ S Dv sv H re rs q k => s σ S _ sv H _ re rs q fun v d S1 H1 s1 r1 v1 q1 => k.nx sv σ S1 H1 s1 r1 (re.mono s1.tx) q1⟩
def sRet (fa : DE) : DS := fun D0 σ S => fa σ S D0.rt
theorem s_ret (ha : CE X a fa) : CS X (.Return (some a) pos) (sRet fa) := by
  obtain ⟨t, h, s⟩ := ha
  exact ⟨_, ps_ret h, fun D0 σ S Dv sv H re rs q k => s σ S _ sv H _ re rs q k.rt⟩
def sRetN : DS := fun D0 _ S => D0.rt .non S
def sIf (ft : DT) (f g : DS) : DS := fun D0 σ S => ft σ S fun k S1 => if k = true then f D0 σ S1 else g D0 σ S1
theorem s_if {body orelse : List Stmt} (hc : CT X c ft) (ha : CSs X body f) (hb : CSs X orelse g) : CS X (.If c body orelse pos) (sIf ft f g) := by
  obtain ⟨tc, hc, sc⟩ := hc
  obtain ⟨ta, ha, sa⟩ := ha
  obtain ⟨tb, hb, sb⟩ := hb
  refine ⟨_, ps_if hc ha hb, fun D0 σ S Dv sv H re rs q k => sc σ S _ sv H _ re rs q fun kk S1 H1 s1 r1 q1 => ?_⟩
  cases kk with
  | true => exact sa D0 σ S1 Dv sv H1 (re.mono s1.tx) r1 q1 (k.stp s1)
  | false => exact sb D0 σ S1 Dv sv H1 (re.mono s1.tx) r1 q1 (k.stp s1)
/-! ### targets -/
abbrev DG := D → Env → Sto → (Env → Sto → Prop) → Prop
/-- own: the slots that a store changes -/
structure CG (X : Cx) (tg : Expr) (own : List Nat) (g : DG) : Prop where
  ok : ∃ t, PG X tg t ∧ ∀ (v : V) (d : D) (σ : Env) (S : Sto) (Q : Env → Sto → Prop) (sv : L2.St) (H : Hp) (Kt : L2.St → Hp → Prop), Rep X.K H v d → ERep X.K H sv σ → SRep X.K S H → g d σ S Q →
    (∀ sv' σ' S' H', Stp X.K S H S' H' → SRep X.K S' H' → ERep X.K H' sv' σ' → (∀ vs : List Nat, (∀ i ∈ own, i ∈ vs) → wipe sv' vs = wipe sv vs) → Q σ' S' → Kt sv' H') → t v sv H Kt
def nName (i : Nat) : DG := fun d σ S Q => Q (setS i d σ) S
theorem g_name {i : Nat} {x : Str} (hN : X.N.Nodup) (hi : X.N[i]? = some x) (hx : Loc X.env.scope x) (hf : X.fn x = true ∨ X.env.scope.names.lookup x = some .local := by first | exact .inl rfl | exact .inr rfl | assumption) : CG X (.Name x pos) [i] (nName i) := by
  refine ⟨_, pg_name hN hi hx hf, fun v d σ S Q sv H Kt rv re rs q k => ?_⟩
  exact k _ _ _ _ .refl rs (re.set rv) (fun vs h => wipe_set (h i List.mem_cons_self)) q
structure CGs (X : Cx) (ts : List Expr) (own : List Nat) (g : List D → Env → Sto → (Env → Sto → Prop) → Prop) : Prop where
  ok : ∃ t, PGs X ts t ∧ ∀ (vs : List V) (ds : List D) (σ : Env) (S : Sto) (Q : Env → Sto → Prop) (sv : L2.St) (H : Hp) (Kt : L2.St → Hp → Prop), Reps X.K H vs ds → ERep X.K H sv σ → SRep X.K S H → g ds σ S Q →
    (∀ sv' σ' S' H', Stp X.K S H S' H' → SRep X.K S' H' → ERep X.K H' sv' σ' → (∀ vs : List Nat, (∀ i ∈ own, i ∈ vs) → wipe sv' vs = wipe sv vs) → Q σ' S' → Kt sv' H') → t vs sv H Kt
def nNil : List D → Env → Sto → (Env → Sto → Prop) → Prop := fun ds σ S Q => match ds with
  | [] => Q σ S
  | _ => False
def nCons (g : DG) (gs : List D → Env → Sto → (Env → Sto → Prop) → Prop) : List D → Env → Sto → (Env → Sto → Prop) → Prop := fun ds σ S Q => match ds with
  | d :: r => g d σ S fun σ1 S1 => gs r σ1 S1 Q
  | [] => False
theorem gs_nil : CGs X [] [] nNil := by
  refine ⟨_, pgs_nil, fun vs ds σ S Q sv H Kt rv re rs q k => ?_⟩
  cases rv with
  | nil => exact ⟨rfl, k _ _ _ _ .refl rs re (fun _ _ => rfl) q⟩
  | cons h r => exact False.elim q
theorem gs_cons {t : Expr} {ts : List Expr} {own owns : List Nat} {gg : DG} {gs : List D → Env → Sto → (Env → Sto → Prop) → Prop} (h1 : CG X t own gg) (h2 : CGs X ts owns gs)
    (hs : (assignEach (t :: ts) X.env).map (·.2) = assign t X.env :: (assignEach ts X.env).map (·.2) := by rfl) : CGs X (t :: ts) (own ++ owns) (nCons gg gs) := by
  obtain ⟨t1, p1, s1⟩ := h1
  obtain ⟨t2, p2, s2⟩ := h2
  refine ⟨_, pgs_cons p1 p2 hs, fun vs ds σ S Q sv H Kt rv re rs q k => ?_⟩
  cases rv with
  | nil => exact False.elim q
  | cons h r =>
    refine ⟨_, _, rfl, s1 _ _ σ S _ sv H _ h re rs q fun sv1 σ1 S1 H1 st1 r1 e1 w1 q1 => ?_⟩
    refine s2 _ _ σ1 S1 Q sv1 H1 Kt (r.mono st1.tx) e1 r1 q1 fun sv2 σ2 S2 H2 st2 r2 e2 w2 q2 => k sv2 σ2 S2 H2 (st1.trans st2) r2 e2 (fun vs hv => ?_) q2
    rw [w2 vs fun i hi => hv i (List.mem_append_right _ hi), w1 vs fun i hi => hv i (List.mem_append_left _ hi)]
/-- a, b, .. = a tuple of n -/
def nTup (n : Nat) (gs : List D → Env → Sto → (Env → Sto → Prop) → Prop) : DG := fun d σ S Q => match d with
  | .tup ds => ds.length = n ∧ gs ds σ S Q
  | _ => False
/-! ### target = value -/
def sAsg (fa : DE) (g : DG) : DS := fun D0 σ S => fa σ S fun x S1 => g x σ S1 D0.nx
theorem s_asg {tg : Expr} {own : List Nat} {g : DG} (ha : CE X a fa) (hg : CG X tg own g) (hs : swapsWithSole [tg] a pos.line X.env = pure false := by rfl) (hw : swappedStores [tg] a X.env = pure none := by rfl)
    (h1 : (assignEach [tg] X.env).map (·.2) = [assign tg X.env] := by rfl) : CS X (.Assign [tg] a pos) (sAsg fa g) := by
  obtain ⟨t, h, s⟩ := ha
  obtain ⟨u, hg, sg⟩ := hg
  refine ⟨_, ps_asg h hg hs hw h1, fun D0 σ S Dv sv H re rs q k => s σ S _ sv H _ re rs q fun v d S1 H1 s1 r1 v1 q1 => ?_⟩
  exact sg v d σ S1 D0.nx sv H1 Dv.nx v1 (re.mono s1.tx) r1 q1 fun sv2 σ2 S2 H2 st2 r2 e2 _ q2 => k.nx sv2 σ2 S2 H2 (s1.trans st2) r2 e2 q2
theorem s_set {i : Nat} {x : Str} {pos' : Pos} (hN : X.N.Nodup) (hi : X.N[i]? = some x) (hx : Loc X.env.scope x) (ha : CE X a fa) (hs : swapsWith a (some (.Name x pos')) pos.line X.env = pure false := by rfl) (hf : X.fn x = true ∨ X.env.scope.names.lookup x = some .local := by first | exact .inl rfl | exact .inr rfl | assumption) :
    CS X (.Assign [.Name x pos'] a pos) (sAsg fa (nName i)) := by
  obtain ⟨t, h, s⟩ := ha
  refine ⟨_, ps_set hN hi hx h hs hf, fun D0 σ S Dv sv H re rs q k => s σ S _ sv H _ re rs q fun v d S1 H1 s1 r1 v1 q1 => ?_⟩
  exact k.nx _ _ _ _ s1 r1 ((re.mono s1.tx).set v1) q1
/-- o[i] = v, dicts and lists -/
def sSub (fv fo fi : DE) : DS := fun D0 σ S => fv σ S fun d S1 => fo σ S1 fun o S2 => fi σ S2 fun i S3 => match o with
  | .ref p => (match S3 p with
    | some (.dk kvs) => ∃ k, toKey i = some k ∧ kvs.length < sizeLine ∧ D0.nx σ (updS S3 p (.dk (putD kvs k d)))
    | some (.dt kvs) => (match i with
      | .kt ks => kvs.length < sizeLine ∧ D0.nx σ (updS S3 p (.dt (putT kvs ks d)))
      | _ => False)
    | some (.lst xs) => (match i with
      | .int n => ∃ j, ixN xs.length n = some j ∧ D0.nx σ (updS S3 p (.lst (xs.set j d)))
      | _ => False)
    | some (.tab _) => False
    | some (.fz _) => False
    | none => False)
  | _ => False
def rPutD : V → V → V → Hp → (Hp → Prop) → Prop := fun o i v H Q => ∃ a H', o = .ref a ∧ DPut H a i v H' ∧ Q H'
theorem setDict (hu : X.A.units + 1 < cLine) : PSet X rPutD := by
  intro pins s σ H o i v ov iv u Q I ro ri rv h
  obtain ⟨a, H', eo, g, q⟩ := h
  subst eo
  have ev : ov = Value.ref a := ro
  subst ev
  exact d_setItem hu I g ri rv fun s' I' => ⟨H', I', q⟩
theorem PSet.or {t t' : TSet} (h : PSet X t) (h' : PSet X t') : PSet X (fun o i v H Q => t o i v H Q ∨ t' o i v H Q) := fun pins s σ H o i v ov iv u Q I r1 r2 r3 q => by
  rcases q with q | q
  · exact h pins s σ H o i v ov iv u Q I r1 r2 r3 q
  · exact h' pins s σ H o i v ov iv u Q I r1 r2 r3 q
theorem s_sub {o i v : Expr} {fo fi fv : DE} {pos' : Pos} (hu : X.A.units + 1 < cLine) (hv : CE X v fv) (ho : CE X o fo) (hi : CE X i fi) (hs : swapsWithSole [.Subscript o i pos'] v pos.line X.env = pure false := by rfl) (hw : swappedStores [.Subscript o i pos'] v X.env = pure none := by rfl)
    (h1 : (assignEach [.Subscript o i pos'] X.env).map (·.2) = [assign (.Subscript o i pos') X.env] := by rfl)
    (ha : ∀ v, assign (.Subscript o i pos') X.env v = (do
      let ov ← holding [v] (eval o X.env)
      let iv ← holding [v, ov] (eval i X.env)
      standAt pos'
      holding [v, ov, iv] (setItem ov iv v)
      release [v, ov, iv] []) := by intro _; rfl) : CS X (.Assign [.Subscript o i pos'] v pos) (sSub fv fo fi) := by
  obtain ⟨tv, hv, sv0⟩ := hv
  obtain ⟨to, ho, so⟩ := ho
  obtain ⟨ti, hi, si⟩ := hi
  refine ⟨_, ps_asg hv (pg_sub ho hi (PSet.or set_list (setDict hu)) ha) hs hw h1, fun D0 σ S Dv sv H re rs q k => sv0 σ S _ sv H _ re rs q fun v d S1 H1 s1 r1 v1 q1 => ?_⟩
  refine so σ S1 _ sv H1 _ (re.mono s1.tx) r1 q1 fun ov od S2 H2 s2 r2 v2 q2 => ?_
  refine si σ S2 _ sv H2 _ (re.mono (s1.trans s2).tx) r2 q2 fun iv id S3 H3 s3 r3 v3 q3 => ?_
  have st := (s1.trans s2).trans s3
  have rd := v1.mono (s2.trans s3).tx
  cases v2 with
  | ref p =>
    dsimp only at q3
    cases h : S3 p with
    | none => simp only [h] at q3
    | some o =>
      have h0 := r3 _ _ h
      cases o with
      | lst xs =>
        simp only [h] at q3
        cases v3 <;> try exact False.elim q3
        obtain ⟨j, hj, q3⟩ := q3
        obtain ⟨vs, e1, r⟩ := h0
        refine .inl ⟨p, vs, _, j, rfl, rfl, e1, by rw [r.length]; exact hj, ?_⟩
        have tx : Tx X.K H3 (upd H3 p (.lst (vs.set j v))) := tx_mut (r3 p _ h)
        obtain ⟨s4, r4⟩ := stp_mut (o' := .lst (xs.set j d)) r3 h ⟨_, upd_same, (r.set j rd).mono tx⟩
        exact k.nx _ _ _ _ (st.trans s4) r4 (re.mono (st.trans s4).tx) q3
      | dk kvs =>
        simp only [h] at q3
        obtain ⟨kk, e, hl, q3⟩ := q3
        obtain ⟨ws, e1, r⟩ := h0
        refine .inr ⟨p, _, rfl, by rw [key_rep v3 e]; exact .k e1 (by rw [kreps_len r]; exact hl), ?_⟩
        have tx : Tx X.K H3 (upd H3 p (.dK (putK ws kk v))) := tx_mut (r3 p _ h)
        obtain ⟨s4, r4⟩ := stp_mut (o' := .dk (putD kvs kk d)) r3 h ⟨_, upd_same, KReps.mono tx (kreps_put rd kk r)⟩
        exact k.nx _ _ _ _ (st.trans s4) r4 (re.mono (st.trans s4).tx) q3
      | dt kvs =>
        simp only [h] at q3
        cases v3 <;> try exact False.elim q3
        rename_i p2 ks hk
        obtain ⟨hl, q3⟩ := q3
        obtain ⟨ws, e1, r⟩ := h0
        refine .inr ⟨p, _, rfl, .t e1 hk (by rw [treps_len r]; exact hl), ?_⟩
        have tx : Tx X.K H3 (upd H3 p (.dT (putK ws ks v))) := tx_mut (r3 p _ h)
        obtain ⟨s4, r4⟩ := stp_mut (o' := .dt (putT kvs ks d)) r3 h ⟨_, upd_same, TReps.mono tx (treps_put rd ks r)⟩
        exact k.nx _ _ _ _ (st.trans s4) r4 (re.mono (st.trans s4).tx) q3
      | tab z => simp only [h] at q3
      | fz z => simp only [h] at q3
  | _ => exact False.elim q3
end
end DL
namespace DL
open PySem PySem.Spec PyProof.Rows L2
/-! ### the reading that data choose -/
def TEof (K : PySem.W.Frag) (f : DE) : TE := fun sv H Kt => ∃ σ S Q, ERep K H sv σ ∧ SRep K S H ∧ f σ S Q ∧ Rch K S H Q Kt
def TTof (K : PySem.W.Frag) (f : DT) : TT := fun sv H Kt => ∃ σ S Q, ERep K H sv σ ∧ SRep K S H ∧ f σ S Q ∧ ∀ b S' H', Stp K S H S' H' → SRep K S' H' → Q b S' → Kt b H'
def TGof (K : PySem.W.Frag) (own : List Nat) (g : DG) : TG := fun v sv H Kt => ∃ d σ S Q, Rep K H v d ∧ ERep K H sv σ ∧ SRep K S H ∧ g d σ S Q ∧
  ∀ sv' σ' S' H', Stp K S H S' H' → SRep K S' H' → ERep K H' sv' σ' → (∀ vs : List Nat, (∀ i ∈ own, i ∈ vs) → wipe sv' vs = wipe sv vs) → Q σ' S' → Kt sv' H'
section
variable {X : Cx} {K : PySem.W.Frag} {e a b c : Expr} {es : List Expr} {fe fa fb fc : DE} {ft fu : DT} {fs : DA} {pos : Pos} {S S1 S' : Sto} {H H1 H' : Hp}
theorem CE.pe (h : CE X e fe) : PE X e (TEof X.K fe) := by
  obtain ⟨t, p, s⟩ := h
  exact ⟨fun pins s0 sv H Kt I ⟨σ, S, Q, a, b, c, d⟩ => p.run pins s0 sv H Kt I (s σ S Q sv H Kt a b c d)⟩
theorem CT.pt (h : CT X e ft) : PT X e (TTof X.K ft) := by
  obtain ⟨t, p, s⟩ := h
  exact ⟨fun pins s0 sv H Kt I ⟨σ, S, Q, a, b, c, d⟩ => p.run pins s0 sv H Kt I (s σ S Q sv H Kt a b c d)⟩
theorem CG.pg {own : List Nat} {g : DG} (h : CG X e own g) : PG X e (TGof X.K own g) := by
  obtain ⟨t, p, s⟩ := h
  exact ⟨fun pins s0 sv H v u Kt I r ⟨d, σ, S, Q, a, b, c, q, k⟩ => p.run pins s0 sv H v u Kt I r (s v d σ S Q sv H Kt a b c q k)⟩
/-! ### what is walked -/
abbrev DI := Env → Sto → (List D → (Sto → Prop) → Sto → Prop) → Prop
/-- the iterator J walks the items, from the heap H0 on, while stab holds -/
def ItOk (K : PySem.W.Frag) (H0 : Hp) (J : It) (items : List D) (stab : Sto → Prop) : Prop := ∀ S H, SRep K S H → Tx K H0 H → (∀ z ob u, H0 z = some (.frz ob u) → H z = some (.frz ob u)) → stab S →
  (∀ i d, items[i]? = some d → J.go i H ∧ ∀ x H', J.yld i H x H' → Stp K S H S H' ∧ SRep K S H' ∧ Rep K H' x d) ∧ J.stop items.length H
structure CI (X : Cx) (tg it : Expr) (fi : DI) : Prop where
  ok : ∃ wi, PI X tg it wi ∧ ∀ (σ : Env) (S : Sto) (Q : List D → (Sto → Prop) → Sto → Prop) (sv : L2.St) (H : Hp) (R : It → Hp → Prop), ERep X.K H sv σ → SRep X.K S H → fi σ S Q →
    (∀ J items stab S' H', Stp X.K S H S' H' → SRep X.K S' H' → ItOk X.K H' J items stab → Q items stab S' → R J H') → wi sv H R
def iSeqL (fa : DE) : DI := fun σ S Q => fa σ S fun x S1 => match x with
  | .ref p => ∃ xs, S1 p = some (.lst xs) ∧ Q xs (fun S => S p = some (.lst xs)) S1
  | .fl xs => Q xs (fun _ => True) S1
  | _ => False
def iSeqT (fa : DE) : DI := fun σ S Q => fa σ S fun x S1 => match x with
  | .tup xs => Q xs (fun _ => True) S1
  | _ => False
def iStrD (fa : DE) : DI := fun σ S Q => fa σ S fun x S1 => match x with
  | .str z => Q (z.cps.toList.map fun c => .str ⟨#[c]⟩) (fun _ => True) S1
  | _ => False
theorem itok_list {p : Addr} {xs : List D} : ItOk K H1 (Itl K p) xs (fun S => S p = some (.lst xs)) := fun S H s tx _fz st => by
  obtain ⟨vs, e1, r⟩ := s _ _ st
  have sq : SqL K H p vs := .inl (.inl e1)
  refine ⟨fun i d hi => ?_, ⟨vs, sq, by rw [r.length]; exact Nat.le_refl _⟩⟩
  obtain ⟨v, ev, rv⟩ := r.get hi
  refine ⟨⟨vs, v, sq, ev⟩, fun x H' y => ?_⟩
  obtain ⟨e, y⟩ := y
  subst e
  have h2 := y vs sq
  rw [ev] at h2
  cases h2
  exact ⟨.refl, s, rv⟩
theorem itok_fl {p : Addr} {vs : List V} {xs : List D} (h : FrL K H1 p vs) (r : Reps K H1 vs xs) : ItOk K H1 (Itl K p) xs (fun _ => True) := fun S H s tx _fz st => by
  have r := r.mono tx
  have sq : SqL K H p vs := (tx.fl _ _ h).sq
  refine ⟨fun i d hi => ?_, ⟨vs, sq, by rw [r.length]; exact Nat.le_refl _⟩⟩
  obtain ⟨v, ev, rv⟩ := r.get hi
  refine ⟨⟨vs, v, sq, ev⟩, fun x H' y => ?_⟩
  obtain ⟨e, y⟩ := y
  subst e
  have h2 := y vs sq
  rw [ev] at h2
  cases h2
  exact ⟨.refl, s, rv⟩
theorem itok_tup {p : Addr} {vs : List V} {xs : List D} (h : SqT K H1 p vs) (r : Reps K H1 vs xs) : ItOk K H1 (Itt K p) xs (fun _ => True) := fun S H s tx _fz st => by
  have r := r.mono tx
  have sq : SqT K H p vs := tx.tup _ _ h
  refine ⟨fun i d hi => ?_, ⟨vs, sq, by rw [r.length]; exact Nat.le_refl _⟩⟩
  obtain ⟨v, ev, rv⟩ := r.get hi
  refine ⟨⟨vs, v, sq, ev⟩, fun x H' y => ?_⟩
  obtain ⟨e, y⟩ := y
  subst e
  have h2 := y vs sq
  rw [ev] at h2
  cases h2
  exact ⟨.refl, s, rv⟩
def rangeD (lo : Int) (n : Nat) : List D := (List.range n).map fun i => .int (lo + (i : Nat))
theorem itok_range {lo : Int} {n : Nat} : ItOk K H1 (Itr lo n) (rangeD lo n) (fun _ => True) := fun S H s tx _fz st => by
  refine ⟨fun i d hi => ?_, by show n ≤ _; simp [rangeD]⟩
  unfold rangeD at hi
  rw [List.getElem?_map] at hi
  cases h : (List.range n)[i]? with
  | none => rw [h] at hi; cases hi
  | some c =>
    obtain ⟨hl, hc⟩ := List.getElem?_eq_some_iff.mp h
    rw [h] at hi
    cases hi
    simp at hc hl
    subst hc
    refine ⟨hl, fun x H' y => ?_⟩
    obtain ⟨e, e2⟩ := y
    subst e e2
    exact ⟨.refl, s, .int _⟩
def iRange1 (fs : DA) : DI := fun σ S Q => fs σ S fun xs S1 => match xs with
  | [.int j] => -(2 ^ 62) ≤ j ∧ j < 2 ^ 62 ∧ Q (rangeD 0 j.toNat) (fun _ => True) S1
  | _ => False
def iRange2 (fs : DA) : DI := fun σ S Q => fs σ S fun xs S1 => match xs with
  | [.int i, .int j] => (-(2 ^ 62) ≤ i ∧ i < 2 ^ 62 ∧ -(2 ^ 62) ≤ j ∧ j < 2 ^ 62) ∧ Q (rangeD i (j - i).toNat) (fun _ => True) S1
  | _ => False
theorem i_range1 {tg : Expr} {p : Pos} (hg : Gl X "range") (hm : X.mg "range" = none) (ha : CA X [a] fs) (hs : starEach [a] X.env = [(false, eval a X.env)] := by rfl) : CI X tg (.Call (.Name "range" p) [a] [] pos) (iRange1 fs) := by
  obtain ⟨ta, ha, sa⟩ := ha
  refine ⟨_, pi_range1 hg hm ha hs, fun σ S Q sv H R re rs q k => sa σ S _ sv H _ re rs q fun vs ds S1 H1 s1 r1 v1 q1 => ?_⟩
  match ds, q1 with
  | [.int j], q1 =>
    obtain ⟨v, rfl, rv⟩ := reps1 v1
    cases rv
    exact ⟨j, rfl, q1.1, q1.2.1, k _ _ _ _ _ s1 r1 itok_range q1.2.2⟩
/-! ### for -/
def forL (stab : Sto → Prop) (g : DG) (body : DS) (D0 : DEnds) : List D → Env → Sto → Prop
  | [], σ, S => stab S ∧ D0.nx σ S
  | x :: xs, σ, S => stab S ∧ g x σ S fun σ2 S2 => body ⟨forL stab g body D0 xs, D0.rt, D0.nx, forL stab g body D0 xs⟩ σ2 S2
def sFor (fi : DI) (g : DG) (body : DS) : DS := fun D0 σ S => fi σ S fun items stab S1 => forL stab g body D0 items σ S1
theorem forL_stab {stab : Sto → Prop} {g : DG} {body : DS} {D0 : DEnds} {xs : List D} {σ : Env} {S : Sto} (h : forL stab g body D0 xs σ S) : stab S := by
  cases xs <;> exact h.1
theorem s_for {tg it : Expr} {own : List Nat} {fi : DI} {g : DG} {body : List Stmt} {fb : DS} (hp : PassesOwn (model X.prog X.w) X.A X.env X.xe) (hc : X.calm = true) (hi : CI X tg it fi) (hg : CG X tg own g) (hb : CSs X body fb)
    (hs : ∀ x, foldedSetIterable it X.env x = pure x := by intro _; rfl) : CS X (.For tg it body [] pos) (sFor fi g fb) := by
  obtain ⟨wi, hi, si⟩ := hi
  obtain ⟨tg', hg, sg⟩ := hg
  obtain ⟨tb, hb, sb⟩ := hb
  refine ⟨_, ps_for hp hc hi hg hb hs, fun D0 σ S Dv sv H re rs q k => si σ S _ sv H _ re rs q fun J items stab S1 H1 s1 r1 ok q1 => ?_⟩
  refine ⟨fun i m sv2 H2 => m = items.length - i ∧ i ≤ items.length ∧ ∃ σ2 S2, Stp X.K S1 H1 S2 H2 ∧ SRep X.K S2 H2 ∧ ERep X.K H2 sv2 σ2 ∧ forL stab g fb D0 (items.drop i) σ2 S2,
    ⟨items.length, by simp, Nat.zero_le _, σ, S1, .refl, r1, re.mono s1.tx, q1⟩, ?_⟩
  rintro i m sv2 H2 ⟨rfl, hi2, σ2, S2, s2, r2, e2, q2⟩
  obtain ⟨ok1, ok2⟩ := ok S2 H2 r2 s2.tx s2.frz (forL_stab q2)
  by_cases hlt : i < items.length
  · obtain ⟨go, yl⟩ := ok1 i items[i] (List.getElem?_eq_getElem hlt)
    rw [List.drop_eq_getElem_cons hlt] at q2
    refine .inr ⟨go, fun sv3 H3 => ∃ σ3 S3, Stp X.K S1 H1 S3 H3 ∧ SRep X.K S3 H3 ∧ ERep X.K H3 sv3 σ3 ∧ forL stab g fb D0 (items.drop (i + 1)) σ3 S3,
      fun sv3 H3 ⟨σ3, S3, a1, a2, a3, a4⟩ => ⟨items.length - (i + 1), by omega, rfl, hlt, σ3, S3, a1, a2, a3, a4⟩, fun x H3 hy => ?_⟩
    obtain ⟨s3, r3, rx⟩ := yl x H3 hy
    refine sg x items[i] σ2 S2 _ sv2 H3 _ rx (e2.mono s3.tx) r3 q2.2 fun sv4 σ4 S4 H4 s4 r4 e4 _ q4 => ?_
    have st := (s2.trans s3).trans s4
    refine sb _ σ4 S4 _ sv4 H4 e4 r4 q4 ⟨fun sv5 σ5 S5 H5 s5 r5 e5 q5 => ?_, (k.stp s1).rt.stp st, (k.stp s1).nx.stp st, fun sv5 σ5 S5 H5 s5 r5 e5 q5 => ?_⟩
    · exact ⟨σ5, S5, st.trans s5, r5, e5, q5⟩
    · exact ⟨σ5, S5, st.trans s5, r5, e5, q5⟩
  · have hn : i = items.length := by omega
    subst hn
    rw [List.drop_length] at q2
    exact .inl ⟨ok2, (k.stp s1).nx _ _ _ _ s2 r2 e2 q2.2⟩
/-! ### while -/
def sWhile (fc : DT) (body : DS) : DS := fun D0 σ S => ∃ W : Nat → Env → Sto → Prop, (∃ m, W m σ S) ∧ ∀ m σ S, W m σ S → fc σ S fun k S1 =>
  if k = true then body ⟨fun σ2 S2 => ∃ m2, m2 < m ∧ W m2 σ2 S2, D0.rt, D0.nx, fun σ2 S2 => ∃ m2, m2 < m ∧ W m2 σ2 S2⟩ σ S1 else D0.nx σ S1
theorem s_while {body : List Stmt} {fb : DS} (hp : PassesOwn (model X.prog X.w) X.A X.env X.xe) (hc : CT X c ft) (hb : CSs X body fb) : CS X (.While c body [] pos) (sWhile ft fb) := by
  obtain ⟨tc, hc, sc⟩ := hc
  obtain ⟨tb, hb, sb⟩ := hb
  refine ⟨_, ps_while hp hc hb, fun D0 σ S Dv sv H re rs q k => ?_⟩
  obtain ⟨W, ⟨m0, w0⟩, turn⟩ := q
  refine ⟨fun m sv2 H2 => ∃ σ2 S2, Stp X.K S H S2 H2 ∧ SRep X.K S2 H2 ∧ ERep X.K H2 sv2 σ2 ∧ W m σ2 S2, ⟨m0, σ, S, .refl, rs, re, w0⟩, ?_⟩
  rintro m sv2 H2 ⟨σ2, S2, s2, r2, e2, w2⟩
  refine sc σ2 S2 _ sv2 H2 _ e2 r2 (turn m σ2 S2 w2) fun kk S3 H3 s3 r3 q3 => ?_
  cases kk with
  | true =>
    refine ⟨fun sv4 H4 => ∃ m2, m2 < m ∧ ∃ σ4 S4, Stp X.K S H S4 H4 ∧ SRep X.K S4 H4 ∧ ERep X.K H4 sv4 σ4 ∧ W m2 σ4 S4, fun sv4 H4 h4 => h4, ?_⟩
    have st := s2.trans s3
    refine sb _ σ2 S3 _ sv2 H3 (e2.mono s3.tx) r3 q3 ⟨fun sv5 σ5 S5 H5 s5 r5 e5 q5 => ?_, k.rt.stp st, k.nx.stp st, fun sv5 σ5 S5 H5 s5 r5 e5 q5 => ?_⟩
    · obtain ⟨m2, h1, h2⟩ := q5
      exact ⟨m2, h1, σ5, S5, st.trans s5, r5, e5, h2⟩
    · obtain ⟨m2, h1, h2⟩ := q5
      exact ⟨m2, h1, σ5, S5, st.trans s5, r5, e5, h2⟩
  | false => exact k.nx _ _ _ _ (s2.trans s3) r3 (e2.mono s3.tx) q3
/-! ### comprehensions -/
def lcL (stab : Sto → Prop) (g : DG) (tests : DT) (elt : DE) (σ : Env) (k : List D → Sto → Prop) : List D → List D → Sto → Prop
  | [], acc, S => stab S ∧ k acc S
  | x :: xs, acc, S => stab S ∧ g x σ S fun σ2 S2 => tests σ2 S2 fun b S3 => if b = true then elt σ2 S3 fun d S4 => acc.length < sizeLine ∧ lcL stab g tests elt σ k xs (acc ++ [d]) S4 else lcL stab g tests elt σ k xs acc S3
def eLc (fi : DI) (g : DG) (tests : DT) (elt : DE) (own : List Nat) : DE := fun σ S Q => fi σ S fun items stab S1 =>
  lcL stab g tests elt (wipeS σ own) (fun acc S2 => ∀ p, S2 p = none → Q (.ref p) (updS S2 p (.lst acc))) items [] S1
theorem lcL_stab {stab : Sto → Prop} {g : DG} {tests : DT} {elt : DE} {σ : Env} {k : List D → Sto → Prop} {xs acc : List D} {S : Sto} (h : lcL stab g tests elt σ k xs acc S) : stab S := by
  cases xs <;> exact h.1
/-- a clause's tests -/
structure CTs (X : Cx) (ifs : List Expr) (f : DT) : Prop where
  ok : ∃ t, PTs X ifs t ∧ SndT X.K t f
def tsYes : DT := fun _ S Q => Q true S
theorem ts_nil : CTs X [] tsYes := ⟨_, pts_nil, fun σ S Q sv H Kt re rs q k => k _ _ _ .refl rs q⟩
theorem ts_one (h : CT X c ft) : CTs X [c] ft := let ⟨_, h, s⟩ := h.ok; ⟨_, pts_one h, s⟩
theorem CTs.pts {ifs : List Expr} (h : CTs X ifs ft) : PTs X ifs (TTof X.K ft) := by
  obtain ⟨t, p, s⟩ := h
  exact ⟨fun pins s0 sv H Kt I ⟨σ, S, Q, a, b, c, d⟩ => p.run pins s0 sv H Kt I (s σ S Q sv H Kt a b c d)⟩
theorem snd_lc {wi : TI} {fi : DI} {g : DG} {elt : DE} {own : List Nat} {gown : List Nat} (hsub : ∀ i ∈ gown, i ∈ own)
    (si : ∀ (σ : Env) (S : Sto) (Q : List D → (Sto → Prop) → Sto → Prop) (sv : L2.St) (H : Hp) (R : It → Hp → Prop), ERep K H sv σ → SRep K S H → fi σ S Q →
      (∀ J items stab S' H', Stp K S H S' H' → SRep K S' H' → ItOk K H' J items stab → Q items stab S' → R J H') → wi sv H R) :
    Snd K (tLc wi (TGof K gown g) (TTof K ft) (TEof K elt) own) (eLc fi g ft elt own) := fun σ S Q sv H Kt re rs q k => by
  refine si σ S _ sv H _ re rs q fun J items stab S1 H1 s1 r1 ok q1 p hp => ?_
  have re1 : ERep K H1 (wipe sv own) (wipeS σ own) := (re.mono s1.tx).wipe own
  refine ⟨fun i m H2 => m = items.length - i ∧ i ≤ items.length ∧ ∃ S2 av acc, Stp K S1 H1 S2 H2 ∧ SRep K S2 H2 ∧ H2 p = some (.lst av) ∧ S2 p = none ∧ Reps K H2 av acc ∧
      lcL stab g ft elt (wipeS σ own) (fun acc S2 => ∀ p, S2 p = none → Q (.ref p) (updS S2 p (.lst acc))) (items.drop i) acc S2,
    ⟨items.length, by simp, Nat.zero_le _, S1, [], [], ?_, ?_, upd_same, r1.free hp, .nil, q1⟩, ?_⟩
  · exact ⟨tx_new hp, fun z o a b n => ⟨a, by rw [upd_ne (ne_of_none b hp)]; exact b⟩, fun z ob u b => by rw [upd_ne (ne_of_none b hp)]; exact b⟩
  · exact fun a o e => (r1 a o e).mono (tx_new hp) (upd_ne (neS e (r1.free hp)))
  rintro i m H2 ⟨rfl, hi2, S2, av, acc, s2, r2, hp2, np2, ra, q2⟩
  obtain ⟨ok1, ok2⟩ := ok S2 H2 r2 s2.tx s2.frz (lcL_stab q2)
  by_cases hlt : i < items.length
  · obtain ⟨go, yl⟩ := ok1 i items[i] (List.getElem?_eq_getElem hlt)
    rw [List.drop_eq_getElem_cons hlt] at q2
    refine .inr ⟨go, fun H3 => ∃ S2 av acc, Stp K S1 H1 S2 H3 ∧ SRep K S2 H3 ∧ H3 p = some (.lst av) ∧ S2 p = none ∧ Reps K H3 av acc ∧
      lcL stab g ft elt (wipeS σ own) (fun acc S2 => ∀ p, S2 p = none → Q (.ref p) (updS S2 p (.lst acc))) (items.drop (i + 1)) acc S2,
      fun H3 h3 => ⟨items.length - (i + 1), by omega, rfl, hlt, h3⟩, fun x H3 hy => ?_⟩
    obtain ⟨s3, r3, rx⟩ := yl x H3 hy
    refine ⟨items[i], wipeS σ own, S2, _, rx, re1.mono (s2.trans s3).tx, r3, q2.2, fun sv4 σ4 S4 H4 s4 r4 e4 w4 q4 => ⟨?_, ?_⟩⟩
    · rw [w4 own hsub, wipe_wipe]
    refine ⟨σ4, S4, _, e4, r4, q4, fun b S5 H5 s5 r5 q5 => ?_⟩
    have st5 := ((s2.trans s3).trans s4).trans s5
    have stp5 := (s3.trans s4).trans s5
    obtain ⟨np5, hp5⟩ := stp5.hid p _ np2 hp2 (fun _ z => nomatch z)
    cases b with
    | false => exact ⟨S5, av, acc, st5, r5, hp5, np5, ra.mono stp5.tx, q5⟩
    | true =>
      refine ⟨σ4, S5, _, e4.mono s5.tx, r5, q5, fun v d S6 H6 s6 r6 v6 q6 => ?_⟩
      obtain ⟨np6, hp6⟩ := s6.hid p _ np5 hp5 (fun _ z => nomatch z)
      have ra6 := ra.mono (stp5.trans s6).tx
      obtain ⟨tx, r7⟩ := stp_hid (ho := .lst (av ++ [v])) r6 np6 hp6 (fun _ z => nomatch z) (fun _ _ z => nomatch z) (fun _ z => nomatch z)
      refine ⟨av, hp6, by rw [ra6.length]; exact q6.1, S6, av ++ [v], acc ++ [d], ?_, r7, upd_same, np6, (ra6.append (.cons v6 .nil)).mono tx, q6.2⟩
      have st6 := st5.trans s6
      exact ⟨st6.tx.trans tx, fun z o a b n => ⟨(st6.hid z o a b n).1, by rw [upd_ne (ne_of_none b hp)]; exact (st6.hid z o a b n).2⟩, fun z ob u b => by rw [upd_ne (ne_of_none b hp)]; exact st6.frz z ob u b⟩
  · have hn : i = items.length := by omega
    subst hn
    rw [List.drop_length] at q2
    refine .inl ⟨ok2, ?_⟩
    have st := s1.trans s2
    refine k (.ref p) (.ref p) (updS S2 p (.lst acc)) H2 ⟨st.tx, fun z o a b n => ?_, st.frz⟩ (fun a o e => ?_) (.ref p) (q2.2 p np2)
    · obtain ⟨a2, b2⟩ := st.hid z o a b n
      have hz := s1.hid z o a b n
      have ne : z ≠ p := ne_of_none hz.2 hp
      exact ⟨by rw [updS_ne ne]; exact a2, b2⟩
    · by_cases ha : a = p
      · subst ha
        rw [updS_same] at e
        cases e
        exact ⟨av, hp2, ra⟩
      · rw [updS_ne ha] at e
        exact r2 a o e
theorem c_lc {elt tg it : Expr} {ifs : List Expr} {scope : Scope} {own : List (Str × Nat)} {gown : List Nat} {fi : DI} {g : DG} (hc : X.calm = true) (hN : X.N.Nodup) (hi : CI X tg it fi) (ok : BlkOk X.N X.env.scope scope own)
    (hg : ∀ (s : Shared) (H : Hp) (C : Addr) (cl : List (Str × Addr)) (fp : List Addr), CG (X.blk s H scope (compEnvC scope cl C X.env) fp) tg gown g) (hsub : ∀ i ∈ gown, i ∈ own.map (·.2))
    (ht : ∀ (s : Shared) (H : Hp) (C : Addr) (cl : List (Str × Addr)) (fp : List Addr), CTs (X.blk s H scope (compEnvC scope cl C X.env) fp) ifs ft)
    (he : ∀ (s : Shared) (H : Hp) (C : Addr) (cl : List (Str × Addr)) (fp : List Addr), CE (X.blk s H scope (compEnvC scope cl C X.env) fp) elt fe) (hs : ∀ x, foldedSetIterable it X.env x = pure x := by intro _; rfl) :
    CE X (.ListComp elt [⟨tg, it, ifs, 0⟩] scope pos) (eLc fi g ft fe (own.map (·.2))) := by
  obtain ⟨wi, hi, si⟩ := hi
  exact ⟨_, pe_lc hc hN hi ok (fun s H C cl fp => (hg s H C cl fp).pg) (fun s H C cl fp => (ht s H C cl fp).pts) (fun s H C cl fp => (he s H C cl fp).pe) hs, snd_lc hsub si⟩
/-! ### a def -/
def startD (n : Nat) (ds : List D) : Env := ds.map some ++ List.replicate (n - ds.length) none
theorem erep_start {vs : List V} {ds : List D} {N : List Str} (r : Reps K H vs ds) : ERep K H (start N vs) (startD N.length ds) := by
  have l := r.length
  refine ⟨by simp [L2.start, startD, l], fun i d q => ?_⟩
  rw [getS_eq] at q
  unfold startD at q
  by_cases hi : i < ds.length
  · rw [List.getElem?_append_left (by simpa using hi), List.getElem?_map] at q
    cases h : ds[i]? with
    | none => rw [h] at q; cases q
    | some d2 =>
      rw [h] at q
      have e : d2 = d := Option.some.inj q
      subst e
      obtain ⟨v, ev, rv⟩ := r.get h
      refine ⟨v, ?_, rv⟩
      unfold L2.start
      rw [List.getElem?_append_left (by simpa [l] using hi), List.getElem?_map, ev]
      rfl
  · rw [List.getElem?_append_right (by simpa using Nat.le_of_not_lt hi)] at q
    rw [List.getElem?_replicate] at q
    split at q <;> cases q
def endsD (Q : DK) : DEnds := ⟨fun _ S => Q .non S, Q, fun _ _ => False, fun _ _ => False⟩
theorem def_ok {P : Program} {w : World} {mg : Str → Option Value} {base : Heap} {x qual : Str} {st : Stmt} {f : Addr} {fd : FuncData} {N ps : List Str} {k : Nat} {b : DS} (F : Fun K x qual st f fd) (Sc : FnScope N ps (defScope st))
    (h : ∀ (cdv : Value) (A : Around) (outer : List PySem.Env) (s : Shared) (H : Hp) (E : XK), RoomG k (A.deeper (envOfC qual (defScope st) s.heap.objs.size f cdv)) → CSs (cxOf CX0 P w K mg base N qual (defScope st) f cdv A outer s H E).nox (defBody st) b) :
    FnG P w K mg base CX0 (k + 1) f fd ps (spD K ps.length fun ds S Q => b (endsD Q) (startD N.length ds) S) := by
  refine okG F Sc (fun vs H Q E h => h.1) (fun cdv A outer s H vs Q E hr hq => ?_)
  obtain ⟨t, p, sn⟩ := h cdv A outer s H E hr
  refine ⟨t, p, ?_⟩
  obtain ⟨hl, ds, S, Qd, r, sr, q, kk⟩ := hq
  refine sn (endsD Qd) _ S _ _ H (erep_start r) sr q ⟨fun sv σ S' H' s' r' e' q' => ?_, kk, fun _ _ _ _ _ _ _ z => z.elim, fun _ _ _ _ _ _ _ z => z.elim⟩
  exact kk .non .non S' H' s' r' .non q'
end
end DL
namespace DL
open PySem PySem.Spec PyProof.Rows L2
section
variable {X : Cx} {K : PySem.W.Frag} {e a b c : Expr} {es : List Expr} {fe fa fb fc : DE} {ft fu : DT} {fs : DA} {pos : Pos} {S S1 S' : Sto} {H H1 H' : Hp}
/-! ### displays of dicts -/
def eDict0 : DE := fun _ S Q => ∀ p, S p = none → Q (.ref p) (updS S p (.dk []))
theorem c_dict0 : CE X (.Dict [] [] pos) eDict0 := by
  refine ⟨_, pe_dnewK, fun σ S Q sv H Kt re rs q k p hp => ?_⟩
  obtain ⟨st, sr⟩ := stp_new (o := .dk []) (ho := .dK []) rs hp ⟨_, upd_same, .nil⟩
  exact k _ _ _ _ st sr (.ref p) (q p (rs.free hp))
abbrev DPs := Env → Sto → (List (D × D) → Sto → Prop) → Prop
def pNil : DPs := fun _ S Q => Q [] S
def pCons (fk fv : DE) (fr : DPs) : DPs := fun σ S Q => fk σ S fun x S1 => fv σ S1 fun y S2 => fr σ S2 fun r S3 => Q ((x, y) :: r) S3
def PReps (K : PySem.W.Frag) (H : Hp) : List (V × V) → List (D × D) → Prop := Paired fun p q => Rep K H p.1 q.1 ∧ Rep K H p.2 q.2
structure CPs (X : Cx) (pos : Pos) (keys : List (Option Expr)) (values : List Expr) (f : DPs) : Prop where
  ok : ∃ trs, PPs X pos keys values trs ∧ ∀ (σ : Env) (S : Sto) (Q : List (D × D) → Sto → Prop) (sv : L2.St) (H : Hp) (Kt : List (V × V) → Hp → Prop), ERep X.K H sv σ → SRep X.K S H → f σ S Q →
    (∀ ps qs S' H', Stp X.K S H S' H' → SRep X.K S' H' → PReps X.K H' ps qs → Q qs S' → Kt ps H') → tPairs trs sv H Kt
theorem ps_nil0 : CPs X pos [] [] pNil := ⟨_, pps_nil, fun σ S Q sv H Kt re rs q k => k _ _ _ _ .refl rs .nil q⟩
theorem ps_cons0 {ks : List (Option Expr)} {vs : List Expr} {fr : DPs} (hk : CE X a fa) (hv : CE X b fb) (hr : CPs X pos ks vs fr) : CPs X pos (some a :: ks) (b :: vs) (pCons fa fb fr) := by
  obtain ⟨tk, hk, sk⟩ := hk
  obtain ⟨tv, hv, sv⟩ := hv
  obtain ⟨tr, hr, sr⟩ := hr
  refine ⟨_, pps_cons hk hv hr, fun σ S Q sv' H Kt re rs q k => sk σ S _ sv' H _ re rs q fun v d S1 H1 s1 r1 v1 q1 => ?_⟩
  refine sv σ S1 _ sv' H1 _ (re.mono s1.tx) r1 q1 fun u d2 S2 H2 s2 r2 v2 q2 => ?_
  refine sr σ S2 _ sv' H2 _ (re.mono (s1.trans s2).tx) r2 q2 fun ps qs S3 H3 s3 r3 v3 q3 => ?_
  exact k _ _ S3 H3 ((s1.trans s2).trans s3) r3 (.cons ⟨v1.mono (s2.trans s3).tx, v2.mono s3.tx⟩ v3) q3
/-- the pairs as keys and data -/
def asKeys : List (D × D) → Option (List (Key × D))
  | [] => some []
  | p :: r => match toKey p.1, asKeys r with
    | some k, some l => some ((k, p.2) :: l)
    | _, _ => none
def mergeD (kvs more : List (Key × D)) : List (Key × D) := more.foldl (fun acc kv => putD acc kv.1 kv.2) kvs
def eDict (fp : DPs) : DE := fun σ S Q => fp σ S fun ps S1 => ∃ kvs, asKeys ps = some kvs ∧ kvs.length ≤ 15 ∧ ∀ p, S1 p = none → Q (.ref p) (updS S1 p (.dk (mergeD [] kvs)))
theorem asKeys_rep : ∀ {ps : List (V × V)} {qs : List (D × D)} {kvs : List (Key × D)}, PReps K H ps qs → asKeys qs = some kvs → ∃ ws : List (Key × V), ps = ws.map (fun kv => (kV kv.1, kv.2)) ∧ KReps K H ws kvs
  | _, _, _, .nil, e => by cases e; exact ⟨[], rfl, .nil⟩
  | p :: ps, q :: qs, kvs, .cons h r, e => by
    unfold asKeys at e
    cases h1 : toKey q.1 with
    | none => rw [h1] at e; cases e
    | some k =>
      cases h2 : asKeys qs with
      | none => rw [h1, h2] at e; cases e
      | some l =>
        rw [h1, h2] at e
        cases e
        obtain ⟨ws, e1, r1⟩ := asKeys_rep r h2
        refine ⟨(k, p.2) :: ws, ?_, .cons ⟨rfl, h.2⟩ r1⟩
        rw [List.map_cons, ← e1]
        have hk := key_rep h.1 h1
        show p :: ps = (kV k, p.2) :: ps
        rw [← hk]
theorem merge_rep : ∀ {us : List (Key × V)} {js : List (Key × D)} {ws : List (Key × V)} {kvs : List (Key × D)}, KReps K H us js → KReps K H ws kvs → KReps K H (mergeK ws us) (mergeD kvs js)
  | _, _, _, _, .nil, s => s
  | p :: us, q :: js, ws, kvs, .cons h r, s => by
    show KReps K H (mergeK (putK ws p.1 p.2) us) (mergeD (putD kvs q.1 q.2) js)
    refine merge_rep r ?_
    rw [h.1]
    exact kreps_put h.2 q.1 s
theorem c_dict {keys : List (Option Expr)} {values : List Expr} {fp : DPs} (h : CPs X pos keys values fp) (hall : keys.all (·.isSome) = true) (hl : keys.length = values.length) (h0 : keys ≠ []) (h15 : keys.length ≤ 15) : CE X (.Dict keys values pos) (eDict fp) := by
  obtain ⟨trs, hp, sp⟩ := h
  refine ⟨_, pe_disp hp hall hl h0 h15, fun σ S Q sv H Kt re rs q k p hp => ?_⟩
  have tx := tx_new (K := X.K) (ho := .dK []) hp
  have rs1 : SRep X.K S (upd H p (.dK [])) := fun a o e => (rs a o e).mono tx (upd_ne (neS e (rs.free hp)))
  refine sp σ S _ sv _ _ (re.mono tx) rs1 q fun ps qs S1 H1 s1 r1 v1 q1 => ?_
  obtain ⟨np, hp1⟩ := s1.hid p _ (rs.free hp) upd_same (fun _ z => nomatch z)
  obtain ⟨kvs, e, hz, q1⟩ := q1
  obtain ⟨ws, e1, rr⟩ := asKeys_rep v1 e
  refine ⟨hp1, ws, e1, by rw [kreps_len rr]; exact hz, ?_⟩
  have tx2 : Tx X.K H1 (upd H1 p (.dK (mergeK [] ws))) := tx_upd (fun vs => by rw [hp1]; intro z; cases z) (fun ob w => by rw [hp1]; intro z; cases z) (fun φ => by rw [hp1]; intro z; cases z)
  refine k (.ref p) (.ref p) (updS S1 p (.dk (mergeD [] kvs))) _ ⟨(tx.trans s1.tx).trans tx2, fun z o a b n => ?_, fun z ob u b => by rw [upd_ne (ne_of_none b hp)]; exact s1.frz z ob u (by rw [upd_ne (ne_of_none b hp)]; exact b)⟩ (fun a o ea => ?_) (.ref p) (q1 p np)
  · have ne := ne_of_none b hp
    obtain ⟨a2, b2⟩ := s1.hid z o a (by rw [upd_ne ne]; exact b) n
    exact ⟨by rw [updS_ne ne]; exact a2, by rw [upd_ne ne]; exact b2⟩
  · by_cases ha : a = p
    · subst ha
      rw [updS_same] at ea
      cases ea
      exact ⟨_, upd_same, KReps.mono tx2 (merge_rep rr .nil)⟩
    · rw [updS_ne ha] at ea
      exact (r1 a o ea).mono tx2 (upd_ne ha)
/-! ### whatever sequence is walked -/
def iSeq (fa : DE) : DI := fun σ S Q => fa σ S fun x S1 => match x with
  | .ref p => ∃ xs, S1 p = some (.lst xs) ∧ Q xs (fun S => S p = some (.lst xs)) S1
  | .fl xs => Q xs (fun _ => True) S1
  | .tup xs => Q xs (fun _ => True) S1
  | .str z => Q (z.cps.toList.map fun c => .str ⟨#[c]⟩) (fun _ => True) S1
  | _ => False
def wSeq (K : PySem.W.Frag) (te : TE) : TI := fun sv H R => te sv H fun x H1 => (∃ p vs, x = .ref p ∧ SqL K H1 p vs ∧ R (Itl K p) H1) ∨ (∃ p vs, x = .ref p ∧ SqT K H1 p vs ∧ R (Itt K p) H1) ∨ ∃ z, x = .str z ∧ R (Its z) H1
theorem lone {p q : Addr} (h : p ∈ [q]) : p = q := by simpa using h
theorem pi_seq {tg : Expr} {te : TE} (ha : PE X a te) : PI X tg a (wSeq X.K te) := by
  refine ⟨fun pins st sv H R I hw => thn (ha.run pins st sv H _ I hw) fun u st1 ⟨x, H1, J, rel, how⟩ => ?_⟩
  have fresh := J.hok.fresh (Nat.le_refl st1.heap.objs.size)
  have fpk := J.fpOk (Nat.le_refl st1.heap.objs.size) fresh
  rcases how with ⟨p, vs, ex, sq, r⟩ | ⟨p, vs, ex, sq, r⟩ | ⟨z, ex, r⟩
  · subst ex
    have eu : u = Value.ref p := rel
    subst eu
    obtain ⟨its, _, pl, _⟩ := J.list sq
    refine wpAny_pyIter_list pl.isList ⟨_, _, _, _, H1, rfl, J.kept (t' := st1.toks) (fun b o h => Heap.get?_push_of_some _ h), turn_list p _, ⟨_, Heap.get?_push_size _ rfl, rfl, rfl⟩, (fun b hb => ?_), r⟩
    rw [lone hb]
    exact fpk
  · subst ex
    have eu : u = Value.ref p := rel
    subst eu
    obtain ⟨its, _, pl, _⟩ := J.tuple sq
    refine wpAny_pyIter_tuple (show st1.heap.IsTuple p its.toArray from pl) ⟨_, _, _, _, H1, rfl, J.kept (t' := st1.toks) (fun b o h => Heap.get?_push_of_some _ h), turn_tuple p _, ⟨_, Heap.get?_push_size _ rfl, rfl, rfl⟩, (fun b hb => ?_), r⟩
    rw [lone hb]
    exact fpk
  · subst ex
    obtain ⟨tk, eu⟩ := (show ∃ tk, u = Value.str z tk from rel)
    subst eu
    cases hz : z.cps.all (· < 128) with
    | false => exact wpAny_pyIter_wide hz (pi_one (tk := st1.toks) J _ (turn_str _ z tk _ (Or.inr rfl)) ⟨_, Heap.get?_push_size _ rfl, rfl, rfl⟩ r)
    | true => exact wpAny_pyIter_ascii hz (pi_one (tk := st1.toks) J _ (turn_str _ z tk _ (Or.inl rfl)) ⟨_, Heap.get?_push_size _ rfl, rfl, rfl⟩ r)
theorem itok_str {z : Str} : ItOk K H1 (Its z) (z.cps.toList.map fun c => .str ⟨#[c]⟩) (fun _ => True) := fun S H s tx _fz st => by
  refine ⟨fun i d hi => ?_, by show z.cps.size ≤ _; simp⟩
  rw [List.getElem?_map] at hi
  cases h : z.cps.toList[i]? with
  | none => rw [h] at hi; cases hi
  | some c =>
    rw [h] at hi
    cases hi
    have hlt : i < z.cps.size := by
      have := (List.getElem?_eq_some_iff.mp h).1
      simpa using this
    refine ⟨hlt, fun x H' y => ?_⟩
    obtain ⟨e, c2, e2, e3⟩ := y
    subst e e3
    have : c2 = c := by
      have h2 : z.cps.toList[i]? = some c2 := by rw [Array.getElem?_toList]; exact e2
      rw [h] at h2
      exact (Option.some.inj h2).symm
    subst this
    exact ⟨.refl, s, .str _⟩
theorem i_seq {tg : Expr} (ha : CE X a fa) : CI X tg a (iSeq fa) := by
  obtain ⟨ta, ha, sa⟩ := ha
  refine ⟨_, pi_seq ha, fun σ S Q sv H R re rs q k => sa σ S _ sv H _ re rs q fun v d S1 H1 s1 r1 v1 q1 => ?_⟩
  cases v1 with
  | ref p =>
    obtain ⟨xs, e, q1⟩ := q1
    obtain ⟨vs, e1, r⟩ := r1 _ _ e
    exact .inl ⟨p, vs, rfl, .inl (.inl e1), k _ _ _ _ _ s1 r1 itok_list q1⟩
  | @fl p vs ds h r => exact .inl ⟨p, vs, rfl, h.sq, k _ _ _ _ _ s1 r1 (itok_fl h r) q1⟩
  | @tup p vs ds h r => exact .inr (.inl ⟨p, vs, rfl, h, k _ _ _ _ _ s1 r1 (itok_tup h r) q1⟩)
  | str z => exact .inr (.inr ⟨z, rfl, k _ _ _ _ _ s1 r1 itok_str q1⟩)
  | _ => exact False.elim q1
theorem o_isNot : CO X .IsNot (gIs not) := by
  refine ⟨_, OpR.or op_notN op_notBl, fun x y a b S H Q Kt s ra rb q k => ?_⟩
  cases rb <;> try exact False.elim q
  · exact .inl ⟨rfl, k.now s (.bl _) (by rw [rep_non ra]; exact q)⟩
  · cases ra <;> try exact False.elim q
    exact .inr ⟨_, _, rfl, rfl, k.now s (.bl _) q⟩
abbrev gLe : G2 := gI0 fun i j => .bl (decide (i ≤ j))
abbrev gGt : G2 := gI0 fun i j => .bl (decide (j < i))
abbrev gGe : G2 := gI0 fun i j => .bl (decide (j ≤ i))
/-- name = [.. for ..] -/
theorem s_setLc {i : Nat} {y : Str} {py : Pos} {elt tg it : Expr} {ifs : List Expr} {scope : Scope} {own : List (Str × Nat)} {gown : List Nat} {spos : Pos} {fi : DI} {g : DG} (hc : X.calm = true) (hN : X.N.Nodup) (hy : X.N[i]? = some y) (hyl : X.env.scope.names.lookup y = some .local)
    (hsw : swapsWith (.ListComp elt [⟨tg, it, ifs, 0⟩] scope pos) (some (.Name y py)) spos.line X.env = pure true) (hi : CI X tg it fi) (ok : BlkOk X.N X.env.scope scope own)
    (hg : ∀ (s : Shared) (H : Hp) (C : Addr) (cl : List (Str × Addr)) (fp : List Addr), CG (X.blk s H scope (compEnvC scope cl C X.env) fp) tg gown g) (hsub : ∀ i ∈ gown, i ∈ own.map (·.2))
    (ht : ∀ (s : Shared) (H : Hp) (C : Addr) (cl : List (Str × Addr)) (fp : List Addr), CTs (X.blk s H scope (compEnvC scope cl C X.env) fp) ifs ft)
    (he : ∀ (s : Shared) (H : Hp) (C : Addr) (cl : List (Str × Addr)) (fp : List Addr), CE (X.blk s H scope (compEnvC scope cl C X.env) fp) elt fe) (hs : ∀ x, foldedSetIterable it X.env x = pure x := by intro _; rfl) :
    CS X (.Assign [.Name y py] (.ListComp elt [⟨tg, it, ifs, 0⟩] scope pos) spos) (sAsg (eLc fi g ft fe (own.map (·.2))) (nName i)) := by
  obtain ⟨wi, hi, si⟩ := hi
  refine ⟨_, ps_setLc (g := TGof X.K gown g) (tt := TTof X.K ft) (te := TEof X.K fe) hc hN hy hyl hsw hi ok (fun s H C cl fp => (hg s H C cl fp).pg) (fun s H C cl fp => (ht s H C cl fp).pts) (fun s H C cl fp => (he s H C cl fp).pe) hs, fun D0 σ S Dv sv H re rs q k => ?_⟩
  refine snd_lc hsub si σ S _ sv H _ re rs q fun v d S1 H1 s1 r1 v1 q1 => ?_
  exact k.nx _ _ _ _ s1 r1 ((re.mono s1.tx).set v1) q1
/-! ### names of the module -/
end
/-- a def of the module, by its name -/
structure Okf (P : Program) (w : World) (K : PySem.W.Frag) (mg : Str → Option Value) (base : Heap) (k : Nat) (x : Str) (n : Nat) (m : MF) : Prop where
  ex : ∃ (f : Addr) (fd : FuncData) (ps : List Str), ps.length = n ∧ FnG P w K mg base CX0 k f fd ps (spD K n m) ∧ mg x = some (.ref f) ∧ PySem.W.keepIn K (.ref f) = true ∧ Binds K fd ps []
structure FT (K : PySem.W.Frag) (mg : Str → Option Value) (x : Str) (st : Stmt) (ps : List Str) : Prop where
  ex : ∃ (f : Addr) (fd : FuncData), Fun K x x st f fd ∧ Binds K fd ps [] ∧ mg x = some (.ref f)
section
variable {X : Cx} {a : Expr} {es : List Expr} {fs : DA} {pos : Pos}
theorem c_fn {k j n : Nat} {m : MF} {x : Str} {p : Pos} (hr : RoomG j X.A) (F : Okf X.prog X.w X.K X.mg X.base k x n m) (hk : k ≤ j) (ha : CA X (a :: es) fs) (hg : Gl X x := by rfl)
    (hdb : (x == ("__debug__" : Str)) = false := by decide) (he : starEach (a :: es) X.env = (false, eval a X.env) :: starEach es X.env := by rfl) (hpl : (backTo pos (starEach es X.env)).any (·.1) = false := by rfl) :
    CE X (.Call (.Name x p) (a :: es) [] pos) (eCall n m fs) := by
  obtain ⟨f, fd, ps, hl, F, hm, hk2, hb⟩ := F
  exact c_call (hr.mono' hk) F hg hm hk2 hb ha hdb he hpl
theorem okf_of {P : Program} {w : World} {K : PySem.W.Frag} {mg : Str → Option Value} {base : Heap} {x : Str} {st : Stmt} {N ps : List Str} {k : Nat} {b : DS} {m : MF} (T : FT K mg x st ps) (Sc : FnScope N ps (defScope st)) (hm : ∀ ds S Q, m ds S Q = b (endsD Q) (startD N.length ds) S)
    (h : ∀ (f : Addr) (cdv : Value) (A : Around) (outer : List PySem.Env) (s : Shared) (H : Hp) (E : XK), RoomG k (A.deeper (envOfC x (defScope st) s.heap.objs.size f cdv)) → CSs (cxOf CX0 P w K mg base N x (defScope st) f cdv A outer s H E).nox (defBody st) b) :
    Okf P w K mg base (k + 1) x ps.length m := by
  obtain ⟨f, fd, F, B, g⟩ := T
  have e : m = fun ds S Q => b (endsD Q) (startD N.length ds) S := funext fun ds => funext fun S => funext fun Q => hm ds S Q
  rw [e]
  exact ⟨f, fd, ps, rfl, def_ok F Sc (h f), g, F.kp, B⟩
end
/-! ### the law -/
end DL
namespace DL
open PySem PySem.Spec PyProof.Rows L2
section
variable {X : Cx} {K : PySem.W.Frag} {e a b c : Expr} {es : List Expr} {fe fa fb fc : DE} {ft fu : DT} {fs : DA} {pos : Pos} {S S1 S' : Sto} {H H1 H' : Hp}
/-! ### a list or a tuple times a number -/
def gMulA : G2 := fun x y S Q => match x, y with
  | .int i, .int j => CMulW i j ∧ Q (.int (i * j)) S
  | .ref p, .int k => ∃ xs, S p = some (.lst xs) ∧ -(2 ^ 63) ≤ k ∧ k < 2 ^ 63 ∧ xs.length * k.toNat ≤ sizeLine ∧ ∀ n, S n = none → Q (.ref n) (updS S n (.lst (List.replicate k.toNat xs).flatten))
  | .tup xs, .int k => xs ≠ [] ∧ 2 ≤ k ∧ k ≤ 1000 ∧ xs.length ≤ 1000 ∧ Q (.tup (List.replicate k.toNat xs).flatten) S
  | _, _ => False
theorem reps_rep {vs : List V} {ds : List D} (r : Reps K H vs ds) : ∀ k : Nat, Reps K H (List.replicate k vs).flatten (List.replicate k ds).flatten
  | 0 => .nil
  | k + 1 => by
    rw [List.replicate_succ, List.replicate_succ, List.flatten_cons, List.flatten_cons]
    exact r.append (reps_rep r k)
theorem c_mulA (ha : CE X a fa) (hb : CE X b fb) : CE X (.BinOp a .Mult b pos) (eOp gMulA fa fb) := by
  obtain ⟨ta, ha, sa⟩ := ha
  obtain ⟨tb, hb, sb⟩ := hb
  refine ⟨_, pe_op (OpR.or op_mulW (OpR.or op_rep op_repT)) ha hb, snd_op (fun x y d d2 S H Q Kt s rx ry q k => ?_) sa sb⟩
  cases rx with
  | int i =>
    cases ry <;> try exact False.elim q
    exact .inl ⟨_, _, rfl, rfl, q.1, k.now s (.int _) q.2⟩
  | ref p =>
    cases ry <;> try exact False.elim q
    obtain ⟨xs, e, h1, h2, hz, q⟩ := q
    obtain ⟨vs, e1, r⟩ := s _ _ e
    exact .inr (.inl ⟨_, _, vs, rfl, rfl, e1, h1, h2, by rw [r.length]; exact hz, new_lst s (reps_rep r _) k q⟩)
  | @tup p vs ds h r =>
    cases ry <;> try exact False.elim q
    obtain ⟨h0, h1, h2, h3, q⟩ := q
    refine .inr (.inr ⟨_, _, vs, rfl, rfl, h, fun z => h0 ?_, h1, h2, by rw [r.length]; exact h3, fun n hn => ?_⟩)
    · subst z
      cases r
      rfl
    · obtain ⟨st, sr⟩ := stp_tup (vs := (List.replicate (Int.toNat _) vs).flatten) s hn
      exact k _ _ _ _ st sr (.tup (.inl (.inl upd_same)) (reps_rep (r.mono st.tx) _)) q
  | _ => exact False.elim q
/-! ### a, b = a tuple or a list -/
def nTupL (n : Nat) (gs : List D → Env → Sto → (Env → Sto → Prop) → Prop) : DG := fun d σ S Q => match d with
  | .tup ds => ds.length = n ∧ gs ds σ S Q
  | .ref p => ∃ ds, S p = some (.lst ds) ∧ ds.length = n ∧ gs ds σ S Q
  | _ => False
theorem PG.or {tg : Expr} {t t' : TG} (h : PG X tg t) (h' : PG X tg t') : PG X tg (fun v sv H Q => t v sv H Q ∨ t' v sv H Q) := ⟨fun pins s sv H v u Q I r q => by
  rcases q with q | q
  · exact h.run pins s sv H v u Q I r q
  · exact h'.run pins s sv H v u Q I r q⟩
theorem g_tupL {ts : List Expr} {k : Nat} {own : List Nat} {gs : List D → Env → Sto → (Env → Sto → Prop) → Prop} {n : Nat} (hc : X.calm = true) (h : CGs X ts own gs) (hn : (assignEach ts X.env).length = n := by rfl) (hst : (assignEach ts X.env).findIdx? (·.1) = none := by rfl) :
    CG X (.Tuple ts k pos) own (nTupL n gs) := by
  obtain ⟨t, p, s⟩ := h
  refine ⟨_, PG.or (pg_tup hc p hn hst) (pg_unl hc p hn hst), fun v d σ S Q sv H Kt rv re rs q k => ?_⟩
  cases rv with
  | @tup a vs ds h r => exact .inl ⟨a, vs, rfl, h, by rw [r.length]; exact q.1, s vs ds σ S Q sv H Kt r re rs q.2 k⟩
  | ref a =>
    obtain ⟨ds, e, hl, q⟩ := q
    obtain ⟨vs, e1, r⟩ := rs _ _ e
    exact .inr ⟨a, vs, rfl, .inl (.inl e1), by rw [r.length]; exact hl, s vs ds σ S Q sv H Kt r re rs q k⟩
  | _ => exact False.elim q
/-! ### sorted of numbers -/
def gSorted : GN := fun xs S Q => match xs with
  | [.ref p] => (∃ ns : List Int, S p = some (.lst (ns.map .int)) ∧ ∀ ns' : List Int, ns'.Perm ns → ns'.Pairwise (· ≤ ·) → ∀ n, S n = none → Q (.ref n) (updS S n (.lst (ns'.map .int)))) ∨
      ∃ ns : List Str, S p = some (.lst (ns.map .str)) ∧ ns.length < 64 ∧ ∀ ns' : List Str, ns'.Perm ns → sortedS ns' = true → ∀ n, S n = none → Q (.ref n) (updS S n (.lst (ns'.map .str)))
  | _ => False
theorem b_sorted : CB X "sorted" gSorted := by
  refine ⟨_, L2.CallR.or cr_sortedI cr_sortedS, fun xs as S H Q Kt s r q k => ?_⟩
  match as, q with
  | [.ref p], q =>
    obtain ⟨v, rfl, rv⟩ := reps1 r
    cases rv
    rcases q with ⟨ns, e, q⟩ | ⟨ns, e, hl, q⟩
    · obtain ⟨vs, e1, r⟩ := s _ _ e
      rw [reps_ints r] at e1
      exact .inl ⟨p, ns, rfl, .inl (.inl e1), fun ns' n hp hs => new_lst s ints_reps k (q ns' hp hs) n⟩
    · obtain ⟨vs, e1, r⟩ := s _ _ e
      rw [reps_strs r] at e1
      exact .inr ⟨p, ns, rfl, .inl (.inl e1), hl, fun ns' n hp hs => new_lst s strs_reps k (q ns' hp hs) n⟩
/-! ### zip of two lists, of two tuples; enumerate of a list -/
def pairs (xs ys : List D) : List D := (xs.zip ys).map fun p => .tup [p.1, p.2]
def iZipD (fs : DA) : DI := fun σ S Q => fs σ S fun ds S1 => match ds with
  | [.ref p, .ref q] => ∃ xs ys, S1 p = some (.lst xs) ∧ S1 q = some (.lst ys) ∧ Q (pairs xs ys) (fun S => S p = some (.lst xs) ∧ S q = some (.lst ys)) S1
  | [.tup xs, .tup ys] => Q (pairs xs ys) (fun _ => True) S1
  | _ => False
def enumD (xs : List D) : List D := xs.mapIdx fun i x => .tup [.int (i : Nat), x]
def iEnumD (fs : DA) : DI := fun σ S Q => fs σ S fun ds S1 => match ds with
  | [.ref p] => ∃ xs, S1 p = some (.lst xs) ∧ Q (enumD xs) (fun S => S p = some (.lst xs)) S1
  | _ => False
/-! ### int and str of texts and numbers -/
def gStr : GN := fun xs S Q => match xs with
  | [.int i] => i.natAbs.log2 < 1920 ∧ Q (.str (toString i)) S
  | _ => False
end
end DL
namespace DL
open PySem PySem.Spec PyProof.Rows L2
section
variable {X : Cx} {K : PySem.W.Frag} {e a b c : Expr} {es : List Expr} {fe fa fb fc : DE} {ft fu : DT} {fs : DA} {pos : Pos} {S S1 S' : Sto} {H H1 H' : Hp}
/-! ### x < y of numbers, texts, tuples -/
def gLt2 : G2 := fun x y S Q => match x, y with
  | .int i, .int j => Q (.bl (decide (i < j))) S
  | .str i, .str j => Q (.bl (decide (i.cps.toList < j.cps.toList))) S
  | .tup xs, .tup ys => ∃ p q, PDs S xs p ∧ PDs S ys q ∧ PySem.W.alikeAll p q = true ∧ (PyData.tuple p).depth ≤ 64 ∧ Q (.bl (PySem.W.dataLt (.tuple p) (.tuple q))) S
  | _, _ => False
def rLtP (K : PySem.W.Frag) : R2 := fun x y H Q => ∃ d e, Dp K H x d ∧ Dp K H y e ∧ PySem.W.alike d e = true ∧ d ≠ .none ∧ d.depth ≤ 64 ∧ Q (.bl (PySem.W.dataLt d e)) H
theorem opLtP (hu : X.A.units + 64 < cLine) : OpR X (compareOp .Lt) (rLtP X.K) := fun pins s σ H x y v u Q I rx ry ⟨d, e, hd, he, ha, hn, hz, q⟩ => by
  have ⟨as, r1⟩ := hd.reads I d x v rx
  have ⟨bs, r2⟩ := he.reads I e y u ry
  exact PySem.W.rcLt_alike d e X.A s v u as bs r1 r2 ha hn (by omega) _ _ _ _ ⟨.bl _, H, I, rfl, q⟩
theorem o_lt2 (hu : X.A.units + 64 < cLine) : CO X .Lt gLt2 := by
  refine ⟨_, OpR.or (OpR.or op_lt op_lt_str) (opLtP hu), fun x y a b S H Q Kt s ra rb q k => ?_⟩
  cases ra with
  | int i =>
    cases rb <;> try exact False.elim q
    exact .inl (.inl ⟨_, _, rfl, rfl, k.now s (.bl _) q⟩)
  | str i =>
    cases rb <;> try exact False.elim q
    exact .inl (.inr ⟨_, _, rfl, rfl, k.now s (.bl _) q⟩)
  | @tup p1 vs1 ds1 h1 r1 =>
    cases rb with
    | @tup p2 vs2 ds2 h2 r2 =>
      obtain ⟨p, e, h3, h4, h5, h6, q⟩ := q
      refine .inr ⟨.tuple p, .tuple e, PD.dp s (.tup h3) (.tup h1 r1), PD.dp s (.tup h4) (.tup h2 r2), ?_, (fun z => by cases z), h6, k.now s (.bl _) q⟩
      unfold PySem.W.alike
      exact h5
    | _ => exact False.elim q
  | _ => exact False.elim q
/-! ### d.get(k, x) of a dict of the store -/
def eGet2 (fo fe ff : DE) : DE := fun σ S Q => fo σ S fun o S1 => match o with
  | .ref p => (∃ kvs, S1 p = some (.dk kvs)) ∧ fe σ S1 fun y S2 => ff σ S2 fun z S3 => ∃ kvs k, S3 p = some (.dk kvs) ∧ toKey y = some k ∧ Q ((valD kvs k).getD z) S3
  | _ => False
theorem c_get2 {o f : Expr} {apos : Pos} {fo ff : DE} (hu : X.A.units + 1 < cLine) (ho : CE X o fo) (he : CE X e fe) (hf : CE X f ff) (m : M2 X o "get" apos e f pos := by exact ⟨rfl, rfl, rfl, rfl⟩) :
    CE X (.Call (.Attribute o "get" apos) [e, f] [] pos) (eGet2 fo fe ff) := by
  obtain ⟨to, ho, so⟩ := ho
  obtain ⟨te, he, se⟩ := he
  obtain ⟨tf, hf, sf⟩ := hf
  refine ⟨_, pe_dget2 hu ho he hf m, fun σ S Q sv H Kt re rs q k => so σ S _ sv H _ re rs q fun v d S1 H1 s1 r1 v1 q1 => ?_⟩
  cases v1 with
  | ref p =>
    obtain ⟨⟨kvs, e0⟩, q1⟩ := q1
    obtain ⟨ws, e3, _⟩ := r1 _ _ e0
    refine ⟨p, rfl, .inl ⟨_, .inl e3⟩, ?_⟩
    refine se σ S1 _ sv H1 _ (re.mono s1.tx) r1 q1 fun u d2 S2 H2 s2 r2 v2 q2 => ?_
    refine sf σ S2 _ sv H2 _ (re.mono (s1.trans s2).tx) r2 q2 fun z d3 S3 H3 s3 r3 v3 q3 => ?_
    obtain ⟨kvs3, kk, e4, e5, q3⟩ := q3
    obtain ⟨ws3, e6, r6⟩ := r3 _ _ e4
    have hk := key_rep (v2.mono s3.tx) e5
    rcases kreps_val kk r6 with ⟨z1, z2⟩ | ⟨v4, d4, z1, z2, rv⟩
    · refine ⟨none, ?_, k _ _ _ _ ((s1.trans s2).trans s3) r3 v3 (by rw [z2] at q3; exact q3)⟩
      rw [hk, ← z1]
      exact .k e6
    · refine ⟨some v4, ?_, k _ _ _ _ ((s1.trans s2).trans s3) r3 rv (by rw [z2] at q3; exact q3)⟩
      rw [hk, ← z1]
      exact .k e6
  | _ => exact False.elim q1
/-! ### a dict of the module with text keys -/
def TabV (K : PySem.W.Frag) (a : Addr) : List (Str × Int) → Prop
  | [] => True
  | q :: r => (∃ t, PySem.W.nsIn K a q.1 = some (some (.int q.2 t))) ∧ TabV K a r
theorem TabV.mem {K : PySem.W.Frag} {a : Addr} : ∀ {tab : List (Str × Int)}, TabV K a tab → ∀ q ∈ tab, ∃ t, PySem.W.nsIn K a q.1 = some (some (.int q.2 t))
  | _ :: _, ⟨h, t⟩, q, hq => by
    rcases List.mem_cons.mp hq with rfl | hq
    · exact h
    · exact t.mem q hq
structure TabC (K : PySem.W.Frag) (w : World) (mg : Str → Option Value) (x : Str) (tab : List (Str × Int)) : Prop where
  ex : ∃ (a : Addr) (es : Array DictEntry) (n : Nat), mg x = some (.ref a) ∧ KDict K w a es n ∧ TabV K a tab
def tabAt (tab : List (Str × Int)) (z : Str) : Option Int := (tab.find? fun q => decide (q.1 = z)).map (·.2)
def eTab (tab : List (Str × Int)) (fe : DE) : DE := fun σ S Q => fe σ S fun y S1 => match y with
  | .str z => ∃ i, tabAt tab z = some i ∧ Q (.int i) S1
  | _ => False
def tTabV (K : PySem.W.Frag) (a : Addr) (te : TE) : TE := fun σ H Q => te σ H fun y H1 => ∃ z u0 v0, y = .str z ∧ PySem.W.nsIn K a z = some (some u0) ∧ RelV v0 u0 ∧ Q v0 H1
end
end DL
namespace DL
open PySem PySem.Spec PyProof.Rows L2
/-! ### sorted by a key that a def of the module gives -/
/-- all objects as they were, but for the slots of those in fs -/
def Sl (fs : List Addr) (h h' : Heap) : Prop := ∀ b o, h.get? b = some o → ∃ sl, h'.get? b = some { o with slots := sl } ∧ (b ∉ fs → sl = o.slots)
theorem Sl.refl {fs : List Addr} {h : Heap} : Sl fs h h := fun b o e => ⟨o.slots, e, fun _ => rfl⟩
theorem Sl.trans {fs : List Addr} {h h1 h2 : Heap} (x : Sl fs h h1) (y : Sl fs h1 h2) : Sl fs h h2 := fun b o e => by
  obtain ⟨sl, e1, k1⟩ := x b o e
  obtain ⟨sl2, e2, k2⟩ := y b _ e1
  exact ⟨sl2, e2, fun hb => (k2 hb).trans (k1 hb)⟩
theorem Sl.keep {fs : List Addr} {h h' : Heap} (x : Sl fs h h') {b : Addr} {o : Obj} (e : h.get? b = some o) (hb : b ∉ fs) : h'.get? b = some o := by
  obtain ⟨sl, e1, k1⟩ := x b o e
  rw [k1 hb] at e1
  exact e1
structure SK (fs : List Addr) (s s' : Shared) : Prop where
  os : s'.os = s.os
  bare : AllBare s'.gens
  sl : Sl fs s.heap s'.heap
/-- as SK, but for the objects at a and kS -/
structure SB (fs : List Addr) (a kS : Addr) (s s' : Shared) : Prop where
  os : s'.os = s.os
  bare : AllBare s'.gens
  sl : ∀ b o, b ≠ a → b ≠ kS → s.heap.get? b = some o → ∃ sl, s'.heap.get? b = some { o with slots := sl } ∧ (b ∉ fs → sl = o.slots)
theorem SB.step {fs : List Addr} {a kS : Addr} {s s1 s2 : Shared} (x : SB fs a kS s s1) (y : SK fs s1 s2) : SB fs a kS s s2 :=
  ⟨y.os.trans x.os, y.bare, fun b o ha hk e => by
    obtain ⟨sl, e1, k1⟩ := x.sl b o ha hk e
    obtain ⟨sl2, e2, k2⟩ := y.sl b _ e1
    exact ⟨sl2, e2, fun hb => (k2 hb).trans (k1 hb)⟩⟩
theorem SB.put {fs : List Addr} {a kS : Addr} {s s1 : Shared} {h : Heap} {t : Nat} (x : SB fs a kS s s1) (y : ∀ b, b ≠ kS → h.get? b = s1.heap.get? b) : SB fs a kS s { s1 with heap := h, toks := t } :=
  ⟨x.os, x.bare, fun b o ha hk e => by
    obtain ⟨sl, e1, k1⟩ := x.sl b o ha hk e
    exact ⟨sl, (y b hk).trans e1, k1⟩⟩
mutual
theorem reads_sl {h h' : Heap} (k : ∀ b o, h.get? b = some o → o.cls = .type "tuple" → ∃ sl, h'.get? b = some { o with slots := sl }) : ∀ (d : PyData) (v : Value) (as : List Addr), PySem.W.alike d d = true → Reads h v d as → as = [] → Reads h' v d as
  | .none, _, _, _, r, _ => by cases r; exact .none
  | .bool _, _, _, _, r, _ => by cases r; exact .bool _
  | .int _, _, _, _, r, _ => by cases r; exact .int _ _
  | .str _, _, _, _, r, _ => by cases r; exact .str _ _
  | .list xs, _, _, hal, r, hn => by
    cases r with
    | list h1 h2 h3 h4 => cases hn
  | .tuple xs, _, _, hal, r, hn => by
    cases r with
    | @tuple b o vs n _ _ h1 h2 h3 h4 =>
      obtain ⟨sl, e⟩ := k _ _ h1 h2
      exact .tuple e h2 h3 (readsAll_sl k xs _ _ (by simpa [PySem.W.alike] using hal) h4 hn)
  | .dict _, _, _, hal, _, _ => absurd hal (by simp [PySem.W.alike])
theorem readsAll_sl {h h' : Heap} (k : ∀ b o, h.get? b = some o → o.cls = .type "tuple" → ∃ sl, h'.get? b = some { o with slots := sl }) : ∀ (ds : List PyData) (vs : List Value) (as : List Addr), PySem.W.alikeAll ds ds = true → ReadsAll h vs ds as → as = [] → ReadsAll h' vs ds as
  | [], _, _, _, r, _ => by cases r; exact .nil
  | d :: ds, _, _, hal, r, hn => by
    cases r with
    | cons h1 h2 =>
      rw [List.append_eq_nil_iff] at hn
      obtain ⟨n1, n2⟩ := hn
      exact .cons (reads_sl k d _ _ (PySem.W.alike_all_cons hal).1 h1 n1) (readsAll_sl k ds _ _ (PySem.W.alike_all_cons hal).2 h2 n2)
end
def cutH (h : Heap) (n : Nat) : Heap := { h with objs := h.objs.extract 0 n }
theorem cutH_lt {h : Heap} {n b : Nat} (hb : b < n) : (cutH h n).get? b = h.get? b := by
  unfold cutH Heap.get?
  have e : (h.objs.extract 0 n)[b]? = h.objs[b]? := by
    rw [Array.getElem?_extract]
    simp
    intro h2
    omega
  simp only [e]
theorem cutH_ge {h : Heap} {n b : Nat} (hb : n ≤ b) : (cutH h n).get? b = none := by
  unfold cutH Heap.get?
  have e : (h.objs.extract 0 n)[b]? = none := by
    rw [Array.getElem?_eq_none_iff, Array.size_extract]
    omega
  simp only [e]
section
open PySem.W
variable {prog : Program} {w : World} {A : Around} {E : Value → Shared → Prop} {s s0 : Shared} {a kS : Addr} {b : Bool} {vs : List Value} {e1 : Nat} {P : PySem.Fin → Shared → Prop} {kz : List PyData} {fs : List Addr}
theorem keyS_rest {f : Value} (sb : SB fs a kS s0 s) (nk : s.heap.get? kS = some (seqObj "list" #[] 0)) (na : s.heap.get? a = some (seqObj "list" #[] e1)) (hka : kS ≠ a) (hkf : kS ∉ fs) (haf : a ∉ fs)
    (hlen : kz.length = vs.length) (hZ : vs.length ≤ sizeLine) (hal : AllAlike kz) (hsk : Sortable kz) (hu : ∀ d, d ∈ kz → A.units + d.depth < cLine) (hfresh : s0.heap.objs.size ≤ kS)
    (turn : ∀ (i : Nat) (v : Value) (k : PyData), vs[i]? = some v → kz[i]? = some k → ∀ s1, SB fs a kS s0 s1 → (∃ o, s1.heap.get? a = some o) →
      wpAny (model prog w) A (call f [v]) (fun u s2 => SK fs s1 s2 ∧ Reads s2.heap u k []) (fun _ _ => False) s1)
    (h : ∀ s' out c, SB fs a kS s0 s' → s'.heap.get? a = some (seqObj "list" (List.toArray out) c) → KeyedOut b kz vs out → P (.done (.ret .none)) s') :
    wpAny (model prog w) A (ksk_rest a f b vs.toArray e1 (.ref kS)) P E s := by
  unfold ksk_rest
  refine wpAny_bind (wpAny_rule ?_)
  first
    | rw [List.forIn_toArray]
    | (rw [← Array.forIn_toList]; simp only [List.toList_toArray])
    | rw [← Array.forIn_toList]
  refine wpAny_bind (ksk_fold (fun i s' => SB fs a kS s0 s' ∧ ∃ kA e, s'.heap.get? kS = some (seqObj "list" kA e) ∧ s'.heap.get? a = some (seqObj "list" #[] e1) ∧ EachIs (fun v k => Reads s'.heap v k [] ∧ alike k k = true) kA.toList (kz.take i)) vs 0 s
    ⟨sb, #[], 0, nk, na, by rw [List.take_zero]; exact EachIs.nil⟩ ?step ?done)
  case step =>
    rintro j x s' hx ⟨sb', kA, e, nk', na', hk⟩
    simp only [Nat.zero_add] at hk ⊢
    have hj : j < vs.length := (List.getElem?_eq_some_iff.mp hx).1
    obtain ⟨k, hkj⟩ : ∃ k, kz[j]? = some k := ⟨_, List.getElem?_eq_getElem (by omega)⟩
    have hkk : alike k k = true := hal k (List.mem_of_getElem? hkj) k (List.mem_of_getElem? hkj)
    have hz : kA.size ≤ vs.length := by
      have h1 := hk.length
      rw [Array.length_toList, List.length_take] at h1
      omega
    refine wpAny_bind (wpAny_attempt (wpAny_mono (turn j x k hx hkj s' sb' ⟨_, na'⟩) (fun v s'' he => ?_) fun _ _ hF => hF.elim))
    obtain ⟨sk, hr⟩ := he
    try dsimp only
    have nk2 : s''.heap.get? kS = some (seqObj "list" kA e) := sk.sl.keep nk' hkf
    have na2 : s''.heap.get? a = some (seqObj "list" #[] e1) := sk.sl.keep na' haf
    have s1 := Heap.SameBut.update s''.heap kS (Obj.mapSeq (·.push v))
    obtain ⟨c2, hc2⟩ : ∃ c2, (s''.heap.update kS (Obj.mapSeq (·.push v))).get? kS = some (seqObj "list" (kA.push v) c2) := ⟨_, get?_update_seq nk2 (·.push v)⟩
    have ek : kz.take (j + 1) = kz.take j ++ [k] := by rw [List.take_add_one, hkj]; simp
    have ea : (kA.push v).toList = kA.toList ++ [v] := by simp
    refine wpAny_bind (listUpdate_at nk2 rfl ?_ (Nat.le_trans hz hZ) (Nat.le_trans (Nat.le_of_eq (Array.size_push ..)) (Nat.succ_le_succ (Nat.le_trans hz hZ))))
    have keepS : ∀ (u : Value) (d : PyData), Reads s''.heap u d [] ∧ alike d d = true → Reads (s''.heap.update kS (Obj.mapSeq (·.push v))) u d [] ∧ alike d d = true := fun u d q =>
      ⟨reads_sl (fun b o eb cb => ⟨o.slots, (s1.2 b (fun z => by
        subst z
        rw [nk2] at eb
        cases eb
        have q : Value.type "list" = Value.type "tuple" := cb
        injection q with q
        exact absurd q (by decide))).trans eb⟩) d u [] q.2 q.1 rfl, q.2⟩
    refine wpAny_pure ⟨rfl, (sb'.step sk).put s1.2, kA.push v, c2, hc2, (s1.2 a hka.symm).trans na2, ?_⟩
    rw [ea, ek]
    refine each_snoc (R := fun (u : Value) (d : PyData) => Reads (s''.heap.update kS (Obj.mapSeq (·.push v))) u d [] ∧ alike d d = true) (keepS v k ⟨hr, hkk⟩) ?_
    exact hk.mono fun u d q => keepS u d ⟨reads_sl (fun b o eb _ => let ⟨sl, e, _⟩ := sk.sl b o eb; ⟨sl, e⟩) d u [] q.2 q.1 rfl, q.2⟩
  case done =>
    rintro s' ⟨sb', kA, e, nk', na', hk⟩
    have hk' : EachIs (fun v k => ∃ as, Reads s'.heap v k as) kA.toList kz := by
      have e3 : kz.take (0 + vs.length) = kz := List.take_of_length_le (by omega)
      rw [e3] at hk
      exact hk.mono fun v k q => ⟨[], q.1⟩
    have hsz : kA.size = vs.length := by
      have h1 := hk'.length
      rw [Array.length_toList] at h1
      omega
    try dsimp only
    refine wpAny_bind (listItems_at nk' rfl ?_)
    have hcut : ∀ b, b < kS → (cutH s'.heap kS).get? b = s'.heap.get? b := fun b hb => cutH_lt hb
    have kp : KeepsBut a (cutH s'.heap kS) s'.heap := fun b o hb e => by
      by_cases hlt : b < kS
      · rw [hcut b hlt] at e
        exact e
      · rw [cutH_ge (Nat.le_of_not_lt hlt)] at e
        cases e
    refine keyH_end (κ := dataKind s'.heap kz) (h₁ := cutH s'.heap kS) kp (cutH_ge (Nat.le_refl _)) nk' na' hka (SortsAt.data (s := s') hk' hal hsk hu) hsz hZ fun h3 tk3 c k3 n3 => ?_
    refine h { s' with heap := h3, toks := tk3 } _ c ⟨sb'.os, sb'.bare, fun b o hb hk2 eb => ?_⟩ n3 ⟨s'.heap, kA.toList, hal, rfl, hk'⟩
    obtain ⟨sl, e2, k2⟩ := sb'.sl b o hb hk2 eb
    have hlt : b < kS := Nat.lt_of_lt_of_le (Heap.lt_size eb) hfresh
    exact ⟨sl, k3 b _ hb ((hcut b hlt).trans e2), k2⟩
theorem keyS_tree {f : Value} {n : Nat} (hb : AllBare s.gens) (ho : s.heap.get? a = some (seqObj "list" vs.toArray n)) (haf : a ∉ fs) (hff : ∀ b ∈ fs, b < s.heap.objs.size) (hlen : kz.length = vs.length) (hZ : vs.length ≤ sizeLine) (hal : AllAlike kz) (hsk : Sortable kz) (hu : ∀ d, d ∈ kz → A.units + d.depth < cLine)
    (turn : ∀ (i : Nat) (v : Value) (k : PyData), vs[i]? = some v → kz[i]? = some k → ∀ s1, (∀ b o, b ≠ a → s.heap.get? b = some o → ∃ sl, s1.heap.get? b = some { o with slots := sl } ∧ (b ∉ fs → sl = o.slots)) → s1.os = s.os → AllBare s1.gens → (∃ o, s1.heap.get? a = some o) →
      wpAny (model prog w) A (call f [v]) (fun u s2 => SK fs s1 s2 ∧ Reads s2.heap u k []) (fun _ _ => False) s1)
    (h : ∀ s' out c, s'.os = s.os → AllBare s'.gens → (∀ b o, b ≠ a → s.heap.get? b = some o → ∃ sl, s'.heap.get? b = some { o with slots := sl } ∧ (b ∉ fs → sl = o.slots)) → s'.heap.get? a = some (seqObj "list" (List.toArray out) c) → KeyedOut b kz vs out → P (.done (.ret .none)) s') :
    wpAny (model prog w) A (ksk_tree a f b) P E s := by
  have ha : a < s.heap.objs.size := Heap.lt_size ho
  obtain ⟨e1, ho1⟩ : ∃ e1, (s.heap.update a (Obj.mapSeq fun _ => (#[] : Array Value))).get? a = some (seqObj "list" #[] e1) := ⟨_, get?_update_seq ho fun _ => #[]⟩
  have hkS : ((s.heap.update a (Obj.mapSeq fun _ => (#[] : Array Value))).push (seqObj "tuple" vs.toArray 0)).objs.size = s.heap.objs.size + 1 := by rw [size_push', Heap.size_update]
  unfold ksk_tree
  refine wpAny_bind (listItems_at ho rfl ?_)
  refine wpAny_bind (listUpdate_at ho rfl ?_ (by rw [List.size_toArray]; exact hZ) (Nat.zero_le _))
  refine wpAny_bind (seqEpoch_at ho1 rfl ?_)
  refine wpAny_bind (wpAny_newTuple ?_ (by show vs.length ≤ _; exact hZ))
  refine wpAny_bind (wpAny_newList ?_ (Nat.zero_le _))
  refine wpAny_holding ?_
  have ne : ∀ b o, s.heap.get? b = some o → b ≠ ((s.heap.update a (Obj.mapSeq fun _ => (#[] : Array Value))).push (seqObj "tuple" vs.toArray 0)).objs.size := fun b o e z => by
    have := Heap.lt_size e
    rw [z, hkS] at this
    exact Nat.lt_irrefl _ (Nat.lt_trans (Nat.lt_succ_self _) this)
  refine keyS_rest (kz := kz) (s0 := s) (fs := fs) (s := { s with heap := ((s.heap.update a (Obj.mapSeq fun _ => (#[] : Array Value))).push (seqObj "tuple" vs.toArray 0)).push (seqObj "list" #[] 0) }) (kS := ((s.heap.update a (Obj.mapSeq fun _ => (#[] : Array Value))).push (seqObj "tuple" vs.toArray 0)).objs.size)
    ⟨rfl, hb, fun b o hb _ q => ⟨o.slots, sortingHeap_old hb q, fun _ => rfl⟩⟩ (Heap.get?_push_size _ rfl) (Heap.get?_push_of_some _ (Heap.get?_push_of_some _ ho1)) (by rw [hkS]; exact Nat.ne_of_gt (Nat.lt_succ_of_lt ha))
    (fun z => by have := hff _ z; rw [hkS] at this; exact Nat.lt_irrefl _ (Nat.lt_trans (Nat.lt_succ_self _) this)) haf hlen hZ hal hsk hu (by rw [hkS]; omega)
    (fun i v k hv hk s1 sb na => turn i v k hv hk s1 (fun b o hb e => sb.sl b o hb (ne b o e) e) sb.os sb.bare na) fun s' out c sb hg ko => h s' out c sb.os sb.bare (fun b o hb e => sb.sl b o hb (ne b o e) e) hg ko
end
end DL
namespace DL
open PySem PySem.Spec PyProof.Rows L2
/-! ### the key of an item, run where nothing but tuples is known -/
/-- the tuples of H, locked as they stand in h -/
def frH (h : Heap) (H : Hp) : Hp := fun b => match H b with
  | some (.tup xs) => (h.get? b).map fun o => .frz o (.tup xs)
  | some (.frz o (.tup xs)) => some (.frz o (.tup xs))
  | _ => none
theorem frH_none {h : Heap} {H : Hp} {b : Addr} (e : H b = none) : frH h H b = none := by
  unfold frH
  rw [e]
theorem frH_some {h : Heap} {H : Hp} {b : Addr} {u : HO} (e : frH h H b = some u) : ∃ o xs, u = .frz o (.tup xs) ∧ ((H b = some (.tup xs) ∧ h.get? b = some o) ∨ H b = some (.frz o (.tup xs))) := by
  unfold frH at e
  cases q : H b with
  | none => rw [q] at e; cases e
  | some v =>
    rw [q] at e
    cases v with
    | tup xs =>
      obtain ⟨o, e1, e2⟩ := Option.map_eq_some_iff.mp e
      exact ⟨o, xs, e2.symm, .inl ⟨rfl, e1⟩⟩
    | frz o u2 =>
      cases u2 with
      | tup xs => cases e; exact ⟨o, xs, rfl, .inr rfl⟩
      | _ => cases e
    | _ => cases e
theorem frH_tup {P : Program} {w : World} {h h1 : Heap} {H : Hp} {a : Addr} {xs : List V} (ok : HOk P w H h) (k : ∀ b o, H b ≠ none → h.get? b = some o → h1.get? b = some o) (e : Rd H a (.tup xs)) : Rd (frH h1 H) a (.tup xs) := by
  rcases e with e | ⟨o, e⟩
  · obtain ⟨_, its, r, o, e1, _⟩ := (show ObjOk P w H h a (.tup xs) from ok a _ e)
    refine .inr ⟨o, ?_⟩
    unfold frH
    rw [e]
    dsimp only
    rw [k a o (by rw [e]; exact fun z => by cases z) e1]
    rfl
  · refine .inr ⟨o, ?_⟩
    unfold frH
    rw [e]
mutual
/-- no list, no dict within -/
def nr : D → Bool
  | .ref _ => false
  | .fl _ => false
  | .exc _ => false
  | .kt _ => false
  | .nt _ => false
  | .tup xs => nrs xs
  | _ => true
def nrs : List D → Bool
  | [] => true
  | x :: xs => nr x && nrs xs
end
mutual
theorem rep_fr {P : Program} {w : World} {K : PySem.W.Frag} {h h1 : Heap} {H : Hp} (ok : HOk P w H h) (k : ∀ b o, H b ≠ none → h.get? b = some o → h1.get? b = some o) : ∀ {v : V} {d : D}, Rep K H v d → nr d = true → Rep K (frH h1 H) v d
  | _, _, .non, _ => .non
  | _, _, .bl b, _ => .bl b
  | _, _, .int b, _ => .int b
  | _, _, .str b, _ => .str b
  | _, _, .ty b, _ => .ty b
  | _, _, .ref b, hn => by unfold nr at hn; cases hn
  | _, _, .fl h r, hn => by unfold nr at hn; cases hn
  | _, _, .exc n h, hn => by unfold nr at hn; cases hn
  | _, _, .kt h, hn => by unfold nr at hn; cases hn
  | _, _, .nt h _, hn => by unfold nr at hn; cases hn
  | _, _, .cls n, hn => .cls n
  | _, _, .tup h2 r, hn => by
    unfold nr at hn
    refine .tup ?_ (reps_fr ok k r hn)
    rcases h2 with h2 | h2
    · exact .inl (frH_tup ok k h2)
    · exact .inr h2
theorem reps_fr {P : Program} {w : World} {K : PySem.W.Frag} {h h1 : Heap} {H : Hp} (ok : HOk P w H h) (k : ∀ b o, H b ≠ none → h.get? b = some o → h1.get? b = some o) : ∀ {vs : List V} {ds : List D}, Reps K H vs ds → nrs ds = true → Reps K (frH h1 H) vs ds
  | _, _, .nil, _ => .nil
  | _, _, .cons h r, hn => by
    unfold nrs at hn
    rw [Bool.and_eq_true] at hn
    exact .cons (rep_fr ok k h hn.1) (reps_fr ok k r hn.2)
end
abbrev S0 : Sto := fun _ => none
theorem keys_readK {h : Heap} : ∀ (ks : List Key) {us : List Value}, Vals (ks.map kV) us → ReadsAll h us (ks.map keyPy) []
  | [], _, e => by cases e; exact .nil
  | .inl i :: r, _, e => by
    cases e with
    | cons e1 e2 => obtain ⟨t, rfl⟩ := e1; exact .cons (as := []) (bs := []) (.int i t) (keys_readK r e2)
  | .inr x :: r, _, e => by
    cases e with
    | cons e1 e2 => obtain ⟨t, rfl⟩ := e1; exact .cons (as := []) (bs := []) (.str x t) (keys_readK r e2)
mutual
/-- what is told of a key, read in the heap -/
theorem key_reads {P : Program} {w : World} {K : PySem.W.Frag} {h : Heap} {H : Hp} (ok : HOk P w H h) (ki : K.In h) : ∀ {d : D} {p : PyData}, PD S0 d p → ∀ {v : V} {u : Value}, Rep K H v d → RelV v u → Reads h u p []
  | _, _, .non, _, _, r, e => by cases r; cases (show _ = Value.none from e); exact .none
  | _, _, .bl b, _, _, r, e => by cases r; cases (show _ = Value.bool b from e); exact .bool b
  | _, _, .int i, _, _, r, e => by cases r; obtain ⟨t, rfl⟩ := e; exact .int i t
  | _, _, .str x, _, _, r, e => by cases r; obtain ⟨t, rfl⟩ := e; exact .str x t
  | _, _, .lst z _, _, _, r, e => by cases z
  | _, _, .kt ks, _, _, r, e => by
    cases r with
    | @kt a _ h1 =>
      cases (show _ = Value.ref a from e)
      obtain ⟨_, its, rv, o, ho, hc, n, hd⟩ := (show ObjOk P w H h a (.tup (ks.map kV)) from ok a _ h1)
      exact .tuple ho hc hd (by simpa using keys_readK ks rv)
  | _, _, .tup q, _, _, r, e => by
    cases r with
    | @tup a vs ds h1 r =>
      cases (show _ = Value.ref a from e)
      rcases h1 with h1 | ⟨o, its, n, hk, hc, hd, hz, rv⟩
      · obtain ⟨_, its, rv, o, ho, hc, n, hd⟩ := h1.ok ok
        exact .tuple ho hc hd (by simpa using keys_read ok ki q r rv)
      · exact .tuple (ki a o hk) hc hd (keys_read ok ki q r rv)
theorem keys_read {P : Program} {w : World} {K : PySem.W.Frag} {h : Heap} {H : Hp} (ok : HOk P w H h) (ki : K.In h) : ∀ {ds : List D} {ps : List PyData}, PDs S0 ds ps → ∀ {vs : List V} {us : List Value}, Reps K H vs ds → Vals vs us → ReadsAll h us ps []
  | _, _, .nil, _, _, r, e => by cases r; cases e; exact .nil
  | _, _, .cons q t, _, _, r, e => by
    cases r with
    | cons h1 r1 =>
      cases e with
      | cons e1 e2 => exact .cons (as := []) (bs := []) (key_reads ok ki q h1 e1) (keys_read ok ki t r1 e2)
end
theorem key_turn {X : Cx} {k : Nat} {f : Addr} {fd : FuncData} {ps : List Str} {m : MF} (F : FnG X.prog X.w X.K X.mg X.base CX0 k f fd ps (spD X.K 1 m)) (hb : Binds X.K fd ps []) (hr : RoomG (k + 1) X.A) {pins : List (Addr × Obj)} {σ : L2.St} {H : Hp} {s s1 : Shared} (I : Inv X pins σ H s)
    (old : ∀ b o, s.heap.get? b = some o → ∃ sl, s1.heap.get? b = some { o with slots := sl } ∧ (b ∉ frs X.stack → sl = o.slots)) (hos : s1.os = s.os) (hbare : AllBare s1.gens) (hsz : s.heap.objs.size ≤ s1.heap.objs.size)
    {v : V} {u : Value} {d : D} {p : PyData} (rv : RelV v u) (rd : Rep X.K H v d) (hn : nr d = true) (hm : m [d] S0 fun e _ => PD S0 e p) :
    wpAny (model X.prog X.w) X.A.in1.in1 (call (.ref f) [u]) (fun u' s2 => SK (frs X.stack) s1 s2 ∧ Reads s2.heap u' p []) (fun _ _ => False) s1 := by
  have E0 := I.env0
  have kp : ∀ b o, b ∉ frs X.stack → s.heap.get? b = some o → s1.heap.get? b = some o := fun b o hb e => by
    obtain ⟨sl, e1, k1⟩ := old b o e
    rw [k1 hb] at e1
    exact e1
  have kh : ∀ b o, H b ≠ none → s.heap.get? b = some o → s1.heap.get? b = some o := fun b o hb e => kp b o (fun z => hb (E0.frf b z)) e
  have basek : ∀ b o, X.base.get? b = some o → s1.heap.get? b = some o ∧ H b = none := fun b o e => by
    obtain ⟨e1, e2⟩ := E0.bs b o e
    exact ⟨kp b o (fun z => by have := (E0.funs.mem z).1; rw [e] at this; cases this) e1, e2⟩
  have hok0 : HOk X.prog X.w (frH s1.heap H) s1.heap := fun b w e => by
    obtain ⟨o, xs, rfl, h1 | h1⟩ := frH_some e
    · obtain ⟨h2, h3⟩ := h1
      refine ⟨h3, ?_⟩
      obtain ⟨z, its, r, ob, e1, c⟩ := (show ObjOk X.prog X.w H s.heap b (.tup xs) from I.hok b _ h2)
      exact ⟨z, its, r, ob, kh b ob (by rw [h2]; exact fun z => by cases z) e1, c⟩
    · obtain ⟨h3, z, its, r, ob, e1, c⟩ := (show ObjOk X.prog X.w H s.heap b (.frz o (.tup xs)) from I.hok b _ h1)
      have hne : H b ≠ none := by rw [h1]; exact fun z => by cases z
      exact ⟨kh b o hne h3, z, its, r, ob, kh b ob hne e1, c⟩
  have env : Env0 X.prog X.w X.K X.mg X.base X.A.in1.in1 X.stack s1 (frH s1.heap H) :=
    ⟨E0.in1.in1.frames, E0.mod, fun b o e => ⟨(basek b o e).1, frH_none (basek b o e).2⟩, Nat.le_trans E0.bsz hsz, E0.funs.of_keeps fun b o e _ => let ⟨sl, e1, _⟩ := old b o e; ⟨_, e1, rfl⟩,
      fun b hb => frH_none (E0.frf b hb), hok0, hbare⟩
  have room : RoomG k X.A.in1.in1 := ⟨⟨hr.hd, by have := hr.dp; show X.A.depth + 3 * k + 5 < _; omega, by have := hr.un; show X.A.units + 1 + 1 + 16 * k + 200 < _; omega⟩, hr.gd⟩
  have ki : X.K.In s1.heap := E0.mod.kin.keeps fun b o e => (basek b o e).1
  have hl : ([u] ++ ([] : List Value)).length = ps.length := F.len [v] (frH s1.heap H) (fun _ _ => True) (fun _ _ _ => False) ⟨rfl, [d], S0, fun e _ => PD S0 e p, .cons (rep_fr I.hok kh rd hn) .nil, (fun _ _ z => by cases z), hm, fun _ _ _ _ _ _ _ _ => trivial⟩
  refine wpAny_call (codeAny_mono (F.run X.A.in1.in1 X.stack s1 (frH s1.heap H) ⟨[u], []⟩ [u] [v] (fun v' H' => ∃ e, Rep X.K H' v' e ∧ PD S0 e p) (fun _ _ _ => False) room env (by simpa using hb s1 [u] ki hl) (.cons rv .nil) ?_) fun r s' hq => ?_)
  · exact ⟨rfl, [d], S0, fun e _ => PD S0 e p, .cons (rep_fr I.hok kh rd hn) .nil, (fun _ _ z => by cases z), hm, fun v' e' S' H' _ _ r q => ⟨e', r, q⟩⟩
  · cases r with
    | error e => exact hq
    | ok fl =>
      cases fl with
      | ret u' =>
        obtain ⟨v', H', os, bare, un, hok', rv', e, re, pe⟩ := hq
        have sl : Sl (frs X.stack) s1.heap s'.heap := fun b o eb => by
          cases q : frH s1.heap H b with
          | none =>
            by_cases hb : b ∈ frs X.stack
            · obtain ⟨sl, e1⟩ := un.slot b o eb q hb (by simp)
              exact ⟨sl, e1, fun z => absurd hb z⟩
            · exact ⟨o.slots, un.keep b o eb q hb (by simp), fun _ => rfl⟩
          | some w =>
            obtain ⟨o', xs, rfl, _⟩ := frH_some q
            have e1 := un.frzs b o' _ q
            have e2 := (show ObjOk X.prog X.w H' s'.heap b (.frz o' (.tup xs)) from hok' b _ e1).1
            have e3 := (show ObjOk X.prog X.w (frH s1.heap H) s1.heap b (.frz o' (.tup xs)) from hok0 b _ q).1
            rw [eb] at e3
            cases e3
            exact ⟨o.slots, e2, fun _ => rfl⟩
        have ki' : X.K.In s'.heap := E0.mod.kin.keeps fun b o e => by
          obtain ⟨e1, e2⟩ := basek b o e
          exact un.keep b o e1 (frH_none e2) (fun z => by have := (E0.funs.mem z).1; rw [e] at this; cases this) (by simp)
        exact ⟨⟨os, bare, sl⟩, key_reads hok' ki' pe re rv'⟩
      | next => exact False.elim hq
      | brk => exact False.elim hq
      | cont => exact False.elim hq
end DL
namespace DL
open PySem PySem.Spec PyProof.Rows L2
section
open PySem.W
def rSK (K : PySem.W.Frag) (f : Addr) (m : MF) : List V → List V → Hp → VK → Prop := fun vs zs H Q => ∃ (a : Addr) (xs : List V) (ds : List D) (kd : D → PyData), vs = [V.ref a] ∧ zs = [V.ref f] ∧ SqL K H a xs ∧ Reps K H xs ds ∧
  (∀ d ∈ ds, nr d = true ∧ m [d] S0 fun e _ => PD S0 e (kd d)) ∧ AllAlike (ds.map kd) ∧ Sortable (ds.map kd) ∧ (∀ d ∈ ds, (kd d).depth ≤ 32) ∧
  ∀ (p : Addr) (ys : List V), H p = none → Reps K H ys (ds.mergeSort (dataLe false kd)) → Q (.ref p) (upd H p (.lst ys))
theorem each_of {K : PySem.W.Frag} {H : Hp} : ∀ {xs : List V} {ds : List D} {us : List Value}, Reps K H xs ds → Vals xs us → EachIs (fun u d => ∃ v, RelV v u ∧ Rep K H v d) us ds
  | _, _, _, .nil, h => by cases h; exact .nil
  | _, _, _, .cons h r, e => by
    cases e with
    | cons e1 e2 => exact .cons ⟨_, e1, h⟩ (each_of r e2)
theorem of_each {K : PySem.W.Frag} {H : Hp} : ∀ {us : List Value} {ds : List D}, EachIs (fun u d => ∃ v, RelV v u ∧ Rep K H v d) us ds → ∃ xs, Vals xs us ∧ Reps K H xs ds
  | _, _, .nil => ⟨[], .nil, .nil⟩
  | _, _, .cons ⟨v, h1, h2⟩ t => let ⟨xs, a, b⟩ := of_each t; ⟨v :: xs, .cons h1 a, .cons h2 b⟩
theorem each_at {α β : Type} {R : α → β → Prop} : ∀ {as : List α} {bs : List β}, EachIs R as bs → ∀ {i : Nat} {a : α}, as[i]? = some a → ∃ b, bs[i]? = some b ∧ R a b
  | _, _, .nil, i, a, h => by cases h
  | _, _, .cons h t, 0, a, e => by cases e; exact ⟨_, rfl, h⟩
  | _, _, .cons h t, i + 1, a, e => each_at t (i := i) e
theorem cr_sortKey {X : Cx} {k : Nat} {f : Addr} {fd : FuncData} {ps : List Str} {m : MF} (F : FnG X.prog X.w X.K X.mg X.base CX0 k f fd ps (spD X.K 1 m)) (hb : Binds X.K fd ps []) (hr : RoomG (k + 1) X.A) : CallRK X (.builtin "sorted") [Str.ofString "key"] (rSK X.K f m) := by
  intro pins s σ H vs zs us ws Q I r rz h
  obtain ⟨a, xs, ds, kd, rfl, rfl, hs, rp, hm, hal, hso, hd, q⟩ := h
  obtain rfl := Vals.ref1 r
  obtain ⟨w1, rfl, e1⟩ := vals1 rz
  obtain rfl : w1 = Value.ref f := e1
  obtain ⟨its, rv, hl, hz⟩ := I.list hs
  have ei := each_of rp rv
  have hlen : its.length = ds.length := ei.length
  have hlx : xs.length = its.length := rv.length
  have E0 := I.env0
  show wpAny (model X.prog X.w) X.A (call (.builtin "sorted") [.ref a] [(Str.ofString "key", .ref f)]) (EP X pins σ Q) X.xe s
  refine sorted_of_sort hl.isList (by rw [← hlx]; exact hz) (ksk_s1 _ _) (fun _ => ksk_l1 _ _) fun E' => ?_
  rw [ksk_t1]
  have hff : ∀ b ∈ frs X.stack, b < s.heap.objs.size := fun b hb => by
    obtain ⟨_, o, e, _⟩ := E0.funs.mem hb
    exact Heap.lt_size e
  have hc : ∀ b o, s.heap.get? b = some o → b ≠ s.heap.objs.size + 1 := fun b o e z => by
    have := Heap.lt_size e
    rw [z] at this
    exact Nat.lt_irrefl _ (Nat.lt_trans (Nat.lt_succ_self _) this)
  refine keyS_tree (kz := ds.map kd) (fs := frs X.stack) (s := { s with heap := copyHeap s.heap its }) I.bare (copyHeap_at s.heap its) (fun z => Nat.lt_irrefl _ (Nat.lt_trans (Nat.lt_succ_self _) (hff _ z))) (fun b hb => ?_) (by rw [List.length_map]; exact hlen.symm) (by rw [← hlx]; exact hz) hal hso (fun d hd2 => ?_)
    (fun i u kz hi hk s1 old hos hbare hat => ?_) fun s' out c hos hbare old hg ko => ?_
  · exact Nat.lt_of_lt_of_le (Nat.lt_trans (hff b hb) (Nat.lt_succ_self _)) (Nat.le_of_lt (Heap.lt_size (copyHeap_at s.heap its)))
  · obtain ⟨d0, h0, rfl⟩ := List.mem_map.mp hd2
    have := hd d0 h0
    have := hr.un
    show X.A.units + 1 + 1 + _ < _
    omega
  · obtain ⟨d, hd1, v, rv1, rd1⟩ := each_at ei hi
    have hkd : kz = kd d := by
      rw [List.getElem?_map, hd1] at hk
      cases hk
      rfl
    subst hkd
    have hmem := List.mem_of_getElem? hd1
    obtain ⟨o, ho⟩ := hat
    exact key_turn F hb hr I (fun b o e => old b o (hc b o e) (copyHeap_old e)) hos hbare (Nat.le_of_lt (Nat.lt_trans (Nat.lt_succ_self _) (Heap.lt_size ho))) rv1 rd1 (hm d hmem).1 (hm d hmem).2
  · refine ⟨rfl, ?_⟩
    have eo := keyedOut_each kd ko ei
    obtain ⟨ys, yv, yr⟩ := of_each eo
    have np : H (s.heap.objs.size + 1) = none := I.hok.fresh (Nat.le_succ _)
    have ys_len : ys.length ≤ sizeLine := by
      have h1 := yv.length
      have h2 := eo.length
      rw [List.length_mergeSort] at h2
      omega
    have kp : ∀ b o, b ∉ frs X.stack → s.heap.get? b = some o → s'.heap.get? b = some o := fun b o hb e => by
      obtain ⟨sl, e1, k1⟩ := old b o (hc b o e) (copyHeap_old e)
      rw [k1 hb] at e1
      exact e1
    have un : Un (frs X.stack) [] H (upd H (s.heap.objs.size + 1) (.lst ys)) s.heap s'.heap :=
      { keep := fun b o e _ hb _ => kp b o hb e
        slot := fun b o e _ _ _ => let ⟨sl, e1, _⟩ := old b o (hc b o e) (copyHeap_old e); ⟨sl, e1⟩
        free := fun b o e n _ => by rw [upd_ne (hc b o e)]; exact n
        there := fun b o e _ => let ⟨sl, e1, _⟩ := old b o (hc b o e) (copyHeap_old e); ⟨_, e1⟩
        tups := fun b xs e => by rw [upd_ne (ne_of_none e np)]; exact e
        frzs := fun b o u e => by rw [upd_ne (ne_of_none e np)]; exact e
        tbls := fun b ps e => ⟨#[], by rw [upd_ne (ne_of_none e np)]; simpa using e⟩ }
    have hok : HOk X.prog X.w (upd H (s.heap.objs.size + 1) (.lst ys)) s'.heap := fun b o e => by
      by_cases hb : b = s.heap.objs.size + 1
      · subst hb
        rw [upd_same] at e
        cases e
        exact ⟨ys_len, out, c, yv, hg⟩
      · rw [upd_ne hb] at e
        refine (I.hok b o e).stay (fun b2 u h2 e2 => kp b2 u (fun z => ?_) e2) (fun b2 e2 => by rw [upd_ne (ne_of_none e2 np)]; exact e2) fun b2 xs e2 => by rw [upd_ne (ne_of_none e2 np)]; exact e2
        have n := E0.frf b2 z
        rcases h2 with rfl | h2
        · rw [e] at n; cases n
        · rw [h2] at n; cases n
    obtain ⟨hh, g, dr, t, os'⟩ := s'
    obtain rfl : os' = s.os := hos
    exact ⟨.ref _, _, I.call (h' := hh) (g' := g) (d' := dr) (t' := t) (ch := []) un hok hbare (fun b z => absurd z (by simp)), rfl, q _ ys np yr⟩
/-- the items as they stand sorted by the keys that m tells -/
def keyed (m : MF) (xs : List D) (R : List D → Prop) : Prop := ∃ kd : D → PyData, (∀ d ∈ xs, nr d = true ∧ m [d] S0 fun e _ => PD S0 e (kd d)) ∧ AllAlike (xs.map kd) ∧ Sortable (xs.map kd) ∧ (∀ d ∈ xs, (kd d).depth ≤ 32) ∧ R (xs.mergeSort (dataLe false kd))
def eSortK (m : MF) (fa : DE) : DE := fun σ S Q => fa σ S fun x S1 => match x with
  | .ref p => ∃ xs, S1 p = some (.lst xs) ∧ keyed m xs fun ys => ∀ n, S1 n = none → Q (.ref n) (updS S1 n (.lst ys))
  | _ => False
theorem c_sortKey {X : Cx} {e : Expr} {fe : DE} {pos p p3 kpos : Pos} {j k : Nat} {g : Str} {m : MF} (hr : RoomG j X.A) (G : Okf X.prog X.w X.K X.mg X.base k g 1 m) (hk : k + 1 ≤ j) (hm : X.mg "sorted" = none) (ha : CE X e fe) (hgg : Gl X g := by rfl) (hg : Gl X "sorted" := by rfl)
    (hdd : (g == ("__debug__" : Str)) = false := by decide +kernel)
    (he : backTo pos (starEach [e] X.env) = (false, eval e X.env) :: backTo pos (starEach [] X.env) := by rfl) (hpl : (backTo pos (starEach [e] X.env)).any (·.1) = false := by rfl)
    (hall : (backToKw pos (keywordEach [⟨some (Str.ofString "key"), .Name g p3, kpos⟩] X.env)).all (·.1.isSome) = true := by rfl) (hnone : (backToKw pos (keywordEach [⟨some (Str.ofString "key"), .Name g p3, kpos⟩] X.env)).any (·.1.isNone) = false := by rfl)
    (hks : (backToKw pos (keywordEach [⟨some (Str.ofString "key"), .Name g p3, kpos⟩] X.env)).filterMap (·.1) = [Str.ofString "key"] := by rfl) (hst : starEach [e] X.env = (false, eval e X.env) :: starEach [] X.env := by rfl) :
    CE X (.Call (.Name "sorted" p) [e] [⟨some (Str.ofString "key"), .Name g p3, kpos⟩] pos) (eSortK m fe) := by
  obtain ⟨f, fd, ps, hl, F, hmg, hkk, hb⟩ := G
  obtain ⟨te, he2, se⟩ := ha
  refine ⟨_, pe_callBK (cr_sortKey F hb (hr.mono' hk)) hg hm (by rfl) (pa_cons he2 pa_nil hst) (pk_cons (pe_glob hgg hmg (v := .ref f) rfl hdd) pk_nil) (by decide +kernel) (by decide +kernel) he hpl hall hnone hks, fun σ S Q sv H Kt re rs q kt => se σ S _ sv H _ re rs q fun v d S1 H1 s1 r1 v1 q1 => ?_⟩
  cases v1 with
  | ref a =>
    obtain ⟨xs, e0, kd, hm1, ha1, hs1, hd1, q1⟩ := q1
    obtain ⟨ws, e3, r3⟩ := r1 _ _ e0
    refine ⟨a, ws, xs, kd, rfl, rfl, .inl (.inl e3), r3, hm1, ha1, hs1, hd1, fun p2 ys np rys => ?_⟩
    obtain ⟨st, sr⟩ := stp_new (o := .lst (xs.mergeSort (dataLe false kd))) (ho := .lst ys) r1 np ⟨ys, upd_same, rys.mono (tx_new np)⟩
    exact kt _ _ _ _ (s1.trans st) sr (.ref p2) (q1 p2 (r1.free np))
  | _ => exact False.elim q1
end
end DL
namespace DL
open PySem PySem.Spec PyProof.Rows L2
/-! ### repr of data -/
def keyPD : Key → PyData
  | .inl i => .int i
  | .inr s => .str s
mutual
/-- data as it is shown: texts, numbers, tuples, lists, dicts -/
inductive RP : Sto → D → PyData → Prop
  | non {S : Sto} : RP S .non .none
  | bl {S : Sto} (b : Bool) : RP S (.bl b) (.bool b)
  | int {S : Sto} (i : Int) : RP S (.int i) (.int i)
  | str {S : Sto} (x : Str) : RP S (.str x) (.str x)
  | tup {S : Sto} {ds : List D} {ps : List PyData} (h : RPs S ds ps) : RP S (.tup ds) (.tuple ps)
  | fl {S : Sto} {ds : List D} {ps : List PyData} (h : RPs S ds ps) : RP S (.fl ds) (.list ps)
  | lst {S : Sto} {a : Addr} {ds : List D} {ps : List PyData} (e : S a = some (.lst ds)) (h : RPs S ds ps) : RP S (.ref a) (.list ps)
  | dct {S : Sto} {a : Addr} {kvs : List (Key × D)} {ps : List (PyData × PyData)} (e : S a = some (.dk kvs)) (h : RKs S kvs ps) : RP S (.ref a) (.dict ps)
inductive RPs : Sto → List D → List PyData → Prop
  | nil {S : Sto} : RPs S [] []
  | cons {S : Sto} {d : D} {p : PyData} {ds : List D} {ps : List PyData} (h : RP S d p) (t : RPs S ds ps) : RPs S (d :: ds) (p :: ps)
inductive RKs : Sto → List (Key × D) → List (PyData × PyData) → Prop
  | nil {S : Sto} : RKs S [] []
  | cons {S : Sto} {k : Key} {d : D} {p : PyData} {ds : List (Key × D)} {ps : List (PyData × PyData)} (h : RP S d p) (t : RKs S ds ps) : RKs S ((k, d) :: ds) ((keyPD k, p) :: ps)
end
theorem seq_reprK {P : Program} {w : World} {h : Heap} {a : Addr} {o : Obj} {its : Array Value} {n : Nat} {ps : List PyData} {as bs : List Addr} (ho : h.get? a = some o) (hc : o.cls = .type "list") (hd : o.data = .seq its n)
    (r : ReadsAll h its.toList ps as) (am : ReadAtMost h (PyData.depthAll ps) bs) (rk : ReprAllK P w bs h (PyData.depthAll ps) its.toList (PyData.shownAll ps)) :
    ∃ bs2, ReadAtMost h (PyData.list ps).depth bs2 ∧ ReprK P w bs2 h (PyData.list ps).depth (.ref a) (PyData.list ps).shown := by
  have r1 : Reads h (.ref a) (.list ps) (a :: as) := .list ho hc hd r
  have de : (PyData.list ps).depth = PyData.depthAll ps + 1 := PyData.depth.eq_1 ps
  rw [PyData.shown.eq_5]
  have nm : a ∉ bs := not_mem_of_deeper r1 (by rw [de]; omega) am
  obtain ⟨l⟩ := its
  cases l with
  | nil =>
    cases r
    refine ⟨[], fun b hb => (by cases hb), ?_⟩
    rw [PyData.shownAll.eq_1, listText_nil]
    exact ReprK.listEmpty ho hc hd
  | cons x l =>
    refine ⟨a :: bs, am.cons r1 (by rw [de]; omega), ?_⟩
    rw [de]
    exact ReprK.list (x := x) (l := l) ho hc hd nm rk.length_eq (fun i y e => rk.item i y (by simpa using e))
theorem shownKv_zip : ∀ ps : List (PyData × PyData), List.zipWith (fun k v => k ++ Str.ofString ": " ++ v) (PyData.shownAll (ps.map (·.1))) (PyData.shownAll (ps.map (·.2))) = PyData.shownKv ps
  | [] => by rw [List.map_nil, List.map_nil, PyData.shownAll.eq_1, PyData.shownKv.eq_1]; rfl
  | (k, v) :: ps => by rw [List.map_cons, List.map_cons, PyData.shownAll.eq_2, PyData.shownAll.eq_2, PyData.shownKv.eq_2, List.zipWith_cons_cons, shownKv_zip ps]
mutual
theorem rp_repr {P : Program} {w : World} {K : PySem.W.Frag} {h : Heap} {H : Hp} {S : Sto} (ok : HOk P w H h) (ki : K.In h) (sr : SRep K S H) : ∀ {d : D} {p : PyData}, RP S d p → ∀ {v : V} {u : Value}, Rep K H v d → RelV v u → p.showable = true → p.shown.length ≤ sizeLine →
    ∃ as bs, Reads h u p as ∧ ReadAtMost h p.depth bs ∧ ReprK P w bs h p.depth u p.shown
  | _, _, .non, _, _, r, e, hs, hl => by
    cases r; cases (show _ = Value.none from e)
    obtain ⟨bs, x, y⟩ := ReprK.of_reads (prog := P) (w := w) (h₀ := h) .none hs (PyData.noDict_hsm rfl) hl
    exact ⟨_, bs, .none, x, y⟩
  | _, _, .bl b, _, _, r, e, hs, hl => by
    cases r; cases (show _ = Value.bool b from e)
    obtain ⟨bs, x, y⟩ := ReprK.of_reads (prog := P) (w := w) (h₀ := h) (.bool b) hs (PyData.noDict_hsm rfl) hl
    exact ⟨_, bs, .bool b, x, y⟩
  | _, _, .int i, _, _, r, e, hs, hl => by
    cases r; obtain ⟨t, rfl⟩ := e
    obtain ⟨bs, x, y⟩ := ReprK.of_reads (prog := P) (w := w) (h₀ := h) (.int i t) hs (PyData.noDict_hsm rfl) hl
    exact ⟨_, bs, .int i t, x, y⟩
  | _, _, .str z, _, _, r, e, hs, hl => by
    cases r; obtain ⟨t, rfl⟩ := e
    obtain ⟨bs, x, y⟩ := ReprK.of_reads (prog := P) (w := w) (h₀ := h) (.str z t) hs (PyData.noDict_hsm rfl) hl
    exact ⟨_, bs, .str z t, x, y⟩
  | _, _, .tup (ps := ps) q, _, _, r, e, hs, hl => by
    cases r with
    | @tup a vs ds h1 r =>
      cases (show _ = Value.ref a from e)
      have hl' : ∀ t ∈ PyData.shownAll ps, t.length ≤ sizeLine := fun t ht => Nat.le_trans (tupleText_mem_le ht) (by rw [PyData.shown.eq_6] at hl; exact hl)
      rw [PyData.showable.eq_6] at hs
      have main : ∀ (o : Obj) (its : Array Value) (n : Nat), h.get? a = some o → o.cls = .type "tuple" → o.data = .seq its n → Vals vs its.toList → ∃ as bs, Reads h (.ref a) (.tuple ps) as ∧ ReadAtMost h (PyData.tuple ps).depth bs ∧ ReprK P w bs h (PyData.tuple ps).depth (.ref a) (PyData.tuple ps).shown := by
        intro o its n ho hc hd rv
        obtain ⟨as, bs, r1, am, rk⟩ := rps_repr ok ki sr q r rv hs hl'
        have r2 : Reads h (.ref a) (.tuple ps) as := .tuple ho hc hd r1
        have de : (PyData.tuple ps).depth = PyData.depthAll ps + 1 := PyData.depth.eq_2 ps
        have nm : a ∉ bs := not_mem_of_deeper r2 (by rw [de]; omega) am
        refine ⟨as, a :: bs, r2, am.cons r2 (by rw [de]; omega), ?_⟩
        rw [de, PyData.shown.eq_6]
        exact ReprK.tuple ho hc hd nm rk
      rcases h1 with h1 | ⟨o, its, n, hk, hc, hd, hz, rv⟩
      · obtain ⟨_, its, rv, o, ho, hc, n, hd⟩ := h1.ok ok
        exact main o its.toArray n ho hc hd (by simpa using rv)
      · exact main o its n (ki a o hk) hc hd rv
  | _, _, .fl (ps := ps) q, _, _, r, e, hs, hl => by
    cases r with
    | @fl a vs ds h1 r =>
      cases (show _ = Value.ref a from e)
      have hl' : ∀ t ∈ PyData.shownAll ps, t.length ≤ sizeLine := fun t ht => Nat.le_trans (listText_mem_le ht) (by rw [PyData.shown.eq_5] at hl; exact hl)
      rw [PyData.showable.eq_5] at hs
      have main : ∀ (o : Obj) (its : Array Value) (n : Nat), h.get? a = some o → o.cls = .type "list" → o.data = .seq its n → Vals vs its.toList → ∃ as bs, Reads h (.ref a) (.list ps) as ∧ ReadAtMost h (PyData.list ps).depth bs ∧ ReprK P w bs h (PyData.list ps).depth (.ref a) (PyData.list ps).shown := by
        intro o its n ho hc hd rv
        obtain ⟨as, bs, r1, am, rk⟩ := rps_repr ok ki sr q r rv hs hl'
        obtain ⟨bs2, x, y⟩ := seq_reprK ho hc hd r1 am rk
        exact ⟨_, bs2, .list ho hc hd r1, x, y⟩
      rcases h1 with ⟨o, h1⟩ | ⟨o, its, n, hk, hc, _, hd, hz, rv⟩
      · obtain ⟨_, its, n, rv, ho⟩ := Rd.ok (.inr ⟨o, h1⟩) ok
        exact main _ its.toArray n ho rfl rfl (by simpa using rv)
      · exact main o its n (ki a o hk) hc hd rv
  | _, _, .lst (a := a) (ps := ps) e0 q, _, _, r, e, hs, hl => by
    cases r with
    | ref =>
      cases (show _ = Value.ref a from e)
      have hl' : ∀ t ∈ PyData.shownAll ps, t.length ≤ sizeLine := fun t ht => Nat.le_trans (listText_mem_le ht) (by rw [PyData.shown.eq_5] at hl; exact hl)
      rw [PyData.showable.eq_5] at hs
      obtain ⟨vs, e1, r1⟩ := sr _ _ e0
      obtain ⟨_, its, n, rv, ho⟩ := Rd.ok (.inl e1) ok
      obtain ⟨as, bs, r1, am, rk⟩ := rps_repr ok ki sr q r1 rv hs hl'
      obtain ⟨bs2, x, y⟩ := seq_reprK (its := its.toArray) (n := n) ho rfl rfl r1 am rk
      exact ⟨_, bs2, .list (vs := its.toArray) (n := n) ho rfl rfl r1, x, y⟩
  | _, _, .dct (a := a) (ps := ps) e0 q, _, _, r, e, hs, hl => by
    cases r with
    | ref =>
      cases (show _ = Value.ref a from e)
      have hl' : ∀ t ∈ PyData.shownKv ps, t.length ≤ sizeLine := fun t ht => Nat.le_trans (dictText_mem_le ht) (by rw [PyData.shown.eq_7] at hl; exact hl)
      rw [PyData.showable.eq_7] at hs
      obtain ⟨ws, e1, r1⟩ := sr _ _ e0
      obtain ⟨_, low, vs, rv, o, es, ep, ho, hx, hd, _, hp, _⟩ := dk_rd ok (.inl e1)
      obtain ⟨as, bs, cs, r1, r3, am, rk1, rk2⟩ := rks_repr ok ki sr q r1 rv hp hs hl'
      have r2 : Reads h (.ref a) (.dict ps) (a :: as ++ bs) := .dict ho hx.1 hd r1 r3
      have de : (PyData.dict ps).depth = PyData.depthKv ps + 1 := PyData.depth.eq_3 ps
      have nm : a ∉ cs := not_mem_of_deeper r2 (by rw [de]; omega) am
      refine ⟨_, a :: cs, r2, am.cons r2 (by rw [de]; omega), ?_⟩
      rw [de, PyData.shown.eq_7]
      have rk := ReprEntriesK.of_two es.toList _ _ rk1 rk2
      rw [shownKv_zip] at rk
      exact ReprK.dict ho hx.1 hd low nm rk
theorem rps_repr {P : Program} {w : World} {K : PySem.W.Frag} {h : Heap} {H : Hp} {S : Sto} (ok : HOk P w H h) (ki : K.In h) (sr : SRep K S H) : ∀ {ds : List D} {ps : List PyData}, RPs S ds ps → ∀ {vs : List V} {us : List Value}, Reps K H vs ds → Vals vs us → PyData.showableAll ps = true → (∀ t ∈ PyData.shownAll ps, t.length ≤ sizeLine) →
    ∃ as bs, ReadsAll h us ps as ∧ ReadAtMost h (PyData.depthAll ps) bs ∧ ReprAllK P w bs h (PyData.depthAll ps) us (PyData.shownAll ps)
  | _, _, .nil, _, _, r, e, hs, hl => by
    cases r; cases e
    refine ⟨[], [], .nil, fun b hb => (by cases hb), ?_⟩
    rw [PyData.shownAll.eq_1]
    exact .nil
  | _, _, .cons (p := p) (ps := ps) q t, _, _, r, e, hs, hl => by
    cases r with
    | cons h1 r1 =>
      cases e with
      | cons e1 e2 =>
        rw [PyData.showableAll.eq_2, Bool.and_eq_true] at hs
        rw [PyData.shownAll.eq_2] at hl
        obtain ⟨as, bs, x1, y1, z1⟩ := rp_repr ok ki sr q h1 e1 hs.1 (hl _ (by simp))
        obtain ⟨as2, bs2, x2, y2, z2⟩ := rps_repr ok ki sr t r1 e2 hs.2 fun z hz => hl z (by simp [hz])
        have m1 : p.depth ≤ PyData.depthAll (p :: ps) := by rw [PyData.depthAll.eq_2]; omega
        have m2 : PyData.depthAll ps ≤ PyData.depthAll (p :: ps) := by rw [PyData.depthAll.eq_2]; omega
        refine ⟨as ++ as2, bs ++ bs2, .cons x1 x2, (y1.mono m1).append (y2.mono m2), ?_⟩
        rw [PyData.shownAll.eq_2]
        exact .cons ((z1.more fun b hb => by simp [hb]).level_le m1) (z2.more_le (fun b hb => by simp [hb]) m2)
theorem rks_repr {P : Program} {w : World} {K : PySem.W.Frag} {h : Heap} {H : Hp} {S : Sto} (ok : HOk P w H h) (ki : K.In h) (sr : SRep K S H) : ∀ {ds : List (Key × D)} {ps : List (PyData × PyData)}, RKs S ds ps → ∀ {ws : List (Key × V)} {vs : List (Key × Value)} {es : List DictEntry}, KReps K H ws ds → KV ws vs → Pairs (mixKind P w) es vs → PyData.showableKv ps = true → (∀ t ∈ PyData.shownKv ps, t.length ≤ sizeLine) →
    ∃ as bs cs, ReadsAll h (es.map (·.key)) (ps.map (·.1)) as ∧ ReadsAll h (es.map (·.val)) (ps.map (·.2)) bs ∧ ReadAtMost h (PyData.depthKv ps) cs ∧ ReprAllK P w cs h (PyData.depthKv ps) (es.map (·.key)) (PyData.shownAll (ps.map (·.1))) ∧ ReprAllK P w cs h (PyData.depthKv ps) (es.map (·.val)) (PyData.shownAll (ps.map (·.2)))
  | _, _, .nil, _, _, _, r, e, z, hs, hl => by
    cases r; cases e; cases z
    exact ⟨[], [], [], .nil, .nil, (fun b hb => (by cases hb)), .nil, .nil⟩
  | _, _, .cons (k := k) (p := p) (ps := ps) q t, _, _, _, r, e, z, hs, hl => by
    cases r with
    | cons h1 r1 =>
      cases e with
      | cons e1 e2 =>
        cases z with
        | @cons ee kv es2 kvs2 z1 z2 z3 =>
          rw [PyData.showableKv.eq_2, Bool.and_eq_true, Bool.and_eq_true] at hs
          rw [PyData.shownKv.eq_2] at hl
          have hl0 := hl _ (List.mem_cons_self ..)
          rw [Str.length_append, Str.length_append] at hl0
          obtain ⟨as, bs, x1, y1, w1⟩ := rp_repr ok ki sr q h1.2 e1.2 hs.1.2 (by omega)
          obtain ⟨as2, bs2, cs2, x2, x3, y2, w2, w3⟩ := rks_repr ok ki sr t r1 e2 z3 hs.2 fun z hz => hl z (List.mem_cons_of_mem _ hz)
          have kk : ∃ as3 bs3, Reads h ee.key (keyPD k) as3 ∧ ReadAtMost h (keyPD k).depth bs3 ∧ ReprK P w bs3 h (keyPD k).depth ee.key (keyPD k).shown := by
            have hk : keyIs k ee.key = true := by
              have a1 := e1.1.symm.trans h1.1
              have z1' : keyIs _ ee.key = true := z1
              rw [a1] at z1'
              exact z1'
            cases k with
            | inl i =>
              have : ∃ t, ee.key = .int i t := by
                unfold keyIs at hk; dsimp only at hk
                cases h9 : ee.key <;> rw [h9] at hk <;> simp [Value.isInt] at hk
                exact ⟨_, by rw [hk]⟩
              obtain ⟨t, et⟩ := this
              rw [et]
              obtain ⟨bs, x, y⟩ := ReprK.of_reads (prog := P) (w := w) (h₀ := h) (.int i t) hs.1.1 (PyData.noDict_hsm rfl) (show (PyData.int i).shown.length ≤ _ from (show (keyPD (.inl i)).shown.length ≤ sizeLine by omega))
              exact ⟨_, bs, .int i t, x, y⟩
            | inr i =>
              have : ∃ t, ee.key = .str i t := by
                unfold keyIs at hk; dsimp only at hk
                cases h9 : ee.key <;> rw [h9] at hk <;> simp [Value.isStrOf] at hk
                exact ⟨_, by rw [hk]⟩
              obtain ⟨t, et⟩ := this
              rw [et]
              obtain ⟨bs, x, y⟩ := ReprK.of_reads (prog := P) (w := w) (h₀ := h) (.str i t) hs.1.1 (PyData.noDict_hsm rfl) (show (PyData.str i).shown.length ≤ _ from (show (keyPD (.inr i)).shown.length ≤ sizeLine by omega))
              exact ⟨_, bs, .str i t, x, y⟩
          obtain ⟨as3, bs3, x4, y4, w4⟩ := kk
          have m0 : (keyPD k).depth ≤ PyData.depthKv ((keyPD k, p) :: ps) := by rw [PyData.depthKv.eq_2]; omega
          have m1 : p.depth ≤ PyData.depthKv ((keyPD k, p) :: ps) := by rw [PyData.depthKv.eq_2]; omega
          have m2 : PyData.depthKv ps ≤ PyData.depthKv ((keyPD k, p) :: ps) := by rw [PyData.depthKv.eq_2]; omega
          refine ⟨as3 ++ as2, as ++ bs2, bs3 ++ (bs ++ cs2), .cons x4 x2, .cons (show Reads h ee.val p as from z2 ▸ x1) x3, (y4.mono m0).append ((y1.mono m1).append (y2.mono m2)), ?_, ?_⟩
          · rw [List.map_cons, List.map_cons, PyData.shownAll.eq_2]
            exact .cons ((w4.more fun b hb => by simp [hb]).level_le m0) (w2.more_le (fun b hb => by simp [hb]) m2)
          · rw [List.map_cons, List.map_cons, PyData.shownAll.eq_2, z2]
            exact .cons ((w1.more fun b hb => by simp [hb]).level_le m1) (w3.more_le (fun b hb => by simp [hb]) m2)
end
/-- repr of a tuple, a list or a dict -/
def gRepr : GN := fun xs S Q => ∃ d p, xs = [d] ∧ RP S d p ∧ (match d with | .tup _ => True | .fl _ => True | .ref _ => True | _ => False) ∧ p.showable = true ∧ p.depth ≤ 32 ∧ p.shown.length ≤ sizeLine ∧ Q (.str p.shown) S
def rRepr (P : Program) (w : World) (K : PySem.W.Frag) : List V → Hp → VK → Prop := fun xs H Q => ∃ v d p S, xs = [v] ∧ Rep K H v d ∧ SRep K S H ∧ RP S d p ∧ (∃ a, v = .ref a) ∧ p.showable = true ∧ p.depth ≤ 32 ∧ p.shown.length ≤ sizeLine ∧ Q (.str p.shown) H
end DL
namespace DL
open PySem PySem.Spec PyProof.Rows L2
/-! ### set(list) of keys, and its length -/
section
variable {κ : Type} [DecidableEq κ]
def memU (val : Nat → κ) (i : Nat) (k : κ) : Bool := (List.range i).any fun j => decide (val j = k)
def cntU (val : Nat → κ) : Nat → Nat
  | 0 => 0
  | i + 1 => if memU val i (val i) then cntU val i else cntU val i + 1
theorem memU_succ (val : Nat → κ) (i : Nat) (k : κ) : memU val (i + 1) k = (memU val i k || decide (k = val i)) := by
  unfold memU
  rw [List.range_succ, List.any_append]
  congr 1
  simp only [List.any_cons, List.any_nil, Bool.or_false, eq_comm]
theorem cntU_le (val : Nat → κ) : ∀ i, cntU val i ≤ i
  | 0 => Nat.le_refl 0
  | i + 1 => by
    have := cntU_le val i
    unfold cntU
    split <;> omega
variable {prog : Program} {w : World} {knd : PySem.KeyKind prog w κ}
theorem SetOf_congr' {h : Heap} {a : Addr} {S S' : κ → Bool} {n n' : Nat} (x : Heap.SetOf knd h a S n) (e : ∀ k, S k = S' k) (en : n = n') : Heap.SetOf knd h a S' n' := by
  have : S = S' := funext e
  subst this; subst en; exact x
theorem set_loopK {A : Around} {R : Result → Shared → Prop} {I : Addr} {fp wr : List Addr} {G : Array GenState → Array GenState → Prop} {n : Nat} {P : Nat → Value → Prop} {St : Nat → Shared → Prop} (W : WalksS prog w A.in1 I fp wr G n P St) (S : Addr) (hSf : S ∉ fp)
    (val : Nat → κ) (hval : ∀ i v, P i v → knd.is (val i) v = true ∧ v.scannable = true) (hb : n + 1 < scanBound) : ∀ (k i : Nat) (s : Shared), n - i = k → i ≤ n → St i s → Heap.SetOf knd s.heap S (memU val i) (cntU val i) →
    (∀ s', Moved (S :: wr) G s s' → Heap.SetOf knd s'.heap S (memU val n) (cntU val n) → R (.ok (.ret .none)) s') → codeAny (model prog w) A (.builtin "set.update.loop" ⟨[.ref S, .ref I], []⟩) R s := by
  have hSw : S ∉ wr := fun h => hSf (W.sub S h)
  have hsub : ∀ b, b ∈ wr → b ∈ S :: wr := fun b hb => List.mem_cons_of_mem S hb
  have mv : ∀ {s s' : Shared} {m : κ → Bool} {c : Nat}, Moved wr G s s' → Heap.SetOf knd s.heap S m c → Heap.SetOf knd s'.heap S m c := fun hm hS => by
    obtain ⟨o, es, ep, t, ho, rest⟩ := hS
    exact ⟨o, es, ep, t, hm.heap S o hSw ho, rest⟩
  intro k
  induction k with
  | zero =>
    intro i s hk hi hst hS hR
    have hin : i = n := by omega
    subst hin
    refine codeAny_builtin F.entry_set_update_loop ?_
    rw [Around.under_plainId F.plain_set_update_loop ⟨[.ref S, .ref I], []⟩]
    exact wpAny_bind (W.done s _ _ hst fun s' hm => wpAny_pure (hR s' (hm.mono hsub) (mv hm hS)))
  | succ k ih =>
    intro i s hk hi hst hS hR
    have hlt : i < n := by omega
    refine codeAny_builtin F.entry_set_update_loop ?_
    rw [Around.under_plainId F.plain_set_update_loop ⟨[.ref S, .ref I], []⟩]
    refine wpAny_bind (W.item i s _ _ hlt hst fun v s' hP hst' hm => ?_)
    obtain ⟨hv, hsc⟩ := hval i v hP
    have hS' := mv hm hS
    refine wpAny_bind (wpAny_holding (wpAny_holding (wpAny_bind (knd.pyHash hv ?_))))
    have hl := cntU_le val i
    refine wpAny_setAddHashed_of hv hsc hS' (by omega) fun h' hsb hS2 => ?_
    refine wpAny_pure ⟨plainId_quiet F.plain_set_update_loop ⟨[.ref S, .ref I], []⟩, ih (i + 1) _ (by omega) hlt (W.frame (i + 1) s' h' _ hst' (Nat.le_succ s'.toks) fun b hb o e => ?_) (SetOf_congr' hS2 (fun k' => (memU_succ val i k').symm) rfl) fun s'' hm'' hS'' => hR s'' ?_ hS''⟩
    · rw [hsb.2 b fun h => hSf (h ▸ hb)]; exact e
    · exact Moved.trans W.gtrans (Moved.then_heap (hm.mono hsub) (Nat.le_succ s'.toks) fun b o hb e => by rw [hsb.2 b fun h => hb (h ▸ List.mem_cons_self)]; exact e) hm''
theorem set_init_listK {A : Around} {E : Value → Shared → Prop} {s : Shared} {l : Addr} {items : Array Value} {val : Nat → κ} {Q : Value → Shared → Prop} (hh : A.handled = none) (hl : s.heap.IsList l items)
    (hi : ∀ i v, items[i]? = some v → knd.is (val i) v = true ∧ v.scannable = true) (hb : items.size + 1 < scanBound) (led : Bool)
    (h : ∀ (h' : Heap) (tk : Nat), Heap.SetOf knd h' s.heap.objs.size (memU val items.size) (cntU val items.size) → (∀ (b : Nat) (o : Obj), b < s.heap.objs.size → s.heap.get? b = some o → h'.get? b = some o) →
      Q .none { heap := h', gens := s.gens, drawn := s.drawn, toks := tk, os := s.os }) :
    codeAny (model prog w) A.in1 (.call (.builtin "set.__init__") ⟨[.ref s.heap.objs.size, .ref l], []⟩) (wants Q E) { heap := s.heap.push { cls := .type "set", data := .set #[] 0 (SetTable.fresh 0 0 led) }, gens := s.gens, drawn := s.drawn, toks := s.toks, os := s.os } := by
  have hS := Heap.get?_push_size s.heap (o := { cls := Value.type "set", data := Data.set #[] 0 (SetTable.fresh 0 0 led) }) rfl
  have hT : Shared.TypeIs { heap := s.heap.push { cls := Value.type "set", data := Data.set #[] 0 (SetTable.fresh 0 0 led) }, gens := s.gens, drawn := s.drawn, toks := s.toks, os := s.os } (.ref s.heap.objs.size) "set" := ⟨_, hS, rfl⟩
  refine codeAny_call_builtin F.called_set.init.plain F.entry_set_init (check_set_init_1 hT ?_)
  obtain ⟨ol, hol, hcl, nl, hdl⟩ := hl
  obtain ⟨ocls, odict, odata, oslots⟩ := ol
  subst hcl
  subst hdl
  have hol' := Heap.get?_push_of_some (o := { cls := Value.type "set", data := Data.set #[] 0 (SetTable.fresh 0 0 led) }) hol
  have hl1 : (s.heap.push { cls := Value.type "set", data := Data.set #[] 0 (SetTable.fresh 0 0 led) }).IsList l items := ⟨_, hol', rfl, nl, rfl⟩
  unfold Builtin.«set.__init__»
  refine wpAny_bind ?_
  unfold noKeywords
  rw [if_pos (by rfl)]
  refine wpAny_pure ?_
  dsimp only
  refine wpAny_bind ?_
  unfold typeNameOfCut shownTypeOf
  refine wpAny_bind (wpAny_bind (wpAny_typeOf hT ?_))
  rw [if_neg (by exact Bool.false_ne_true)]
  refine wpAny_pure ?_
  unfold typeNameCut
  dsimp only
  refine wpAny_pure ?_
  refine wpAny_bind ?_
  unfold checkCount
  dsimp only
  rw [if_neg (by exact Bool.false_ne_true), if_neg (by exact Nat.not_lt_zero _), if_neg (by exact Nat.lt_irrefl 1)]
  refine wpAny_pure ?_
  refine wpAny_bind ?_
  unfold Builtin.Frozenset.addrOf
  dsimp only
  refine wpAny_pure ?_
  refine wpAny_bind ?_
  unfold setUsed setState
  refine wpAny_bind (wpAny_bind (wpAny_load' hS ?_))
  dsimp only
  rw [if_neg (by exact Bool.false_ne_true)]
  refine wpAny_pure (wpAny_pure ?_)
  rw [if_neg (by exact Bool.false_ne_true)]
  refine wpAny_bind ?_
  unfold Builtin.Frozenset.updateFrom
  refine wpAny_bind ?_
  have hTl : ∀ {g : Array GenState} {d : Drawn} {tk : Nat} {os : OsState}, Shared.TypeIs { heap := s.heap.push { cls := Value.type "set", data := Data.set #[] 0 (SetTable.fresh 0 0 led) }, gens := g, drawn := d, toks := tk, os := os } (.ref l) "list" := ⟨_, hol', rfl⟩
  unfold Builtin.Frozenset.isAnySet
  refine wpAny_bind (wpAny_isInstance hTl F.sub_list_set ?_)
  refine wpAny_isInstance hTl F.sub_list_frozenset ?_
  rw [if_neg (by exact Bool.false_ne_true)]
  refine wpAny_bind (wpAny_typeOf hTl ?_)
  rw [if_neg (by exact Bool.false_ne_true)]
  refine wpAny_bind (wpAny_pyIter_list hl1 ?_)
  refine wpAny_bind (wpAny_runValue ?_)
  have hlS : l < s.heap.objs.size := Heap.lt_size hol
  have hsz : (s.heap.push { cls := Value.type "set", data := Data.set #[] 0 (SetTable.fresh 0 0 led) }).objs.size = s.heap.objs.size + 1 := Heap.size_push ..
  have hneI : l ≠ (s.heap.push { cls := Value.type "set", data := Data.set #[] 0 (SetTable.fresh 0 0 led) }).objs.size := by
    rw [hsz]; exact Nat.ne_of_lt (Nat.lt_succ_of_lt hlS)
  have hSf : s.heap.objs.size ∉ [(s.heap.push { cls := Value.type "set", data := Data.set #[] 0 (SetTable.fresh 0 0 led) }).objs.size, l] := by
    rw [hsz]; simp only [List.mem_cons, List.not_mem_nil, or_false]
    exact fun z => z.elim (Nat.ne_of_lt (Nat.lt_succ_self s.heap.objs.size)) (Nat.ne_of_gt hlS)
  have hget := Heap.get?_push_of_some (o := { cls := Value.type "list_iterator", data := Data.fields #[Value.ref l, Value.int 0 0] }) hS
  refine set_loopK (knd := knd) (Walks.toS (Walks.list (by exact hh) (s.heap.push { cls := Value.type "set", data := Data.set #[] 0 (SetTable.fresh 0 0 led) }).objs.size l hneI items)) s.heap.objs.size hSf val hi hb (items.size - 0) 0 _ (by omega) (Nat.zero_le _) ⟨⟨_, Heap.get?_push_size _ rfl, rfl, rfl⟩, Heap.IsList.push hl1 _⟩ (Obj.SetObjOf.setOf (setObjOf_fresh led) hget (show 0 < scanBound by decide)) fun s' hm hS' => ?_
  obtain ⟨h', g', d', tk', os'⟩ := s'
  have eg := hm.gens
  have ed := hm.drawn
  have eo := hm.os
  dsimp only at eg ed eo hS'
  subst eg; subst ed; subst eo
  refine wpAny_pure (wpAny_pure (h h' tk' hS' fun b o hb e => ?_))
  refine hm.heap b o ?_ (Heap.get?_push_of_some _ (Heap.get?_push_of_some _ e))
  rw [hsz]; simp only [List.mem_cons, List.not_mem_nil, or_false]
  exact fun z => z.elim (fun z => absurd (show (b : Nat) = s.heap.objs.size from z) (by omega)) fun z => absurd (show (b : Nat) = s.heap.objs.size + 1 from z) (by omega)
theorem call_set_listK {A : Around} {E : Value → Shared → Prop} {s : Shared} {l : Addr} {items : Array Value} {val : Nat → κ} {Q : Value → Shared → Prop} (hh : A.handled = none) (hl : s.heap.IsList l items)
    (hi : ∀ i v, items[i]? = some v → knd.is (val i) v = true ∧ v.scannable = true) (hb : items.size + 1 < scanBound)
    (h : ∀ (h' : Heap) (tk : Nat), Heap.SetOf knd h' s.heap.objs.size (memU val items.size) (cntU val items.size) → (∀ (b : Nat) (o : Obj), b < s.heap.objs.size → s.heap.get? b = some o → h'.get? b = some o) →
      Q (.ref s.heap.objs.size) { heap := h', gens := s.gens, drawn := s.drawn, toks := tk, os := s.os }) :
    wpAny (model prog w) A (call (.type "set") [.ref l]) Q E s := by
  obtain ⟨c, tl, hmro⟩ := F.called_set.mro
  have hmade := F.called_set.made
  have hsub := F.called_set.sub
  refine wpAny_call (codeAny_of_tree (wpAny_pure ⟨Code.quiet_builtin _ (by decide +kernel), codeAny_builtin F.entry_type_call ?_⟩))
  rw [Around.under_plain (weight_type_call_type "set" [Value.ref l] []) rfl]
  have h1 := F.called_set.notType
  have h2 := F.called_set.canCreate
  have hct := F.typeCall_set_1 (Value.ref l)
  unfold Builtin.«type.__call__»
  dsimp only
  rw [if_neg (by rw [h1]; exact Bool.false_ne_true), if_neg (by rw [h2]; exact Bool.false_ne_true)]
  refine wpAny_bind (wpAny_of_eq hct ?_)
  refine wpAny_bind (wpAny_of_eq hmro ?_)
  rw [if_neg (by exact Bool.false_ne_true)]
  refine wpAny_bind (wpAny_of_eq hmade ?_)
  refine wpAny_bind (wpAny_pure ?_)
  refine wpAny_bind (wpAny_holding (wpAny_call (codeAny_mono (code_set_new_1 (.ref l) (Q₁ := fun obj s₁ => ∃ led, obj = .ref s.heap.objs.size ∧ s₁ = { heap := s.heap.push { cls := .type "set", data := .set #[] 0 (SetTable.fresh 0 0 led) }, gens := s.gens, drawn := s.drawn, toks := s.toks, os := s.os }) (E := E) fun led => ⟨led, rfl, rfl⟩) fun r s₁ hr => ?_)))
  match r, hr with
  | .error e, hr => exact hr
  | .ok .next, hr => exact hr.elim
  | .ok .brk, hr => exact hr.elim
  | .ok .cont, hr => exact hr.elim
  | .ok (.ret obj), hr =>
    obtain ⟨led, e1, e2⟩ := hr
    subst e1; subst e2
    have hS := Heap.get?_push_size s.heap (o := { cls := Value.type "set", data := Data.set #[] 0 (SetTable.fresh 0 0 led) }) rfl
    have hT : Shared.TypeIs { heap := s.heap.push { cls := Value.type "set", data := Data.set #[] 0 (SetTable.fresh 0 0 led) }, gens := s.gens, drawn := s.drawn, toks := s.toks, os := s.os } (.ref s.heap.objs.size) "set" := ⟨_, hS, rfl⟩
    have hli := F.called_set.init.lookup
    have hbi := F.called_set.init.bind (.ref s.heap.objs.size)
    refine wpAny_bind (wpAny_isInstance hT hsub ?_)
    rw [if_neg (by exact Bool.false_ne_true)]
    refine wpAny_bind (wpAny_holding ?_)
    unfold callSpecial?
    refine wpAny_bind (wpAny_specialOf hT hli ?_)
    dsimp only
    refine wpAny_holding (wpAny_bind (wpAny_of_eq hbi ?_))
    refine wpAny_bind (wpAny_call (codeAny_mono (set_init_listK (knd := knd) (val := val) (Q := fun v s2 => v = .none ∧ ∃ h' tk, s2 = { heap := h', gens := s.gens, drawn := s.drawn, toks := tk, os := s.os } ∧ Heap.SetOf knd h' s.heap.objs.size (memU val items.size) (cntU val items.size) ∧ ∀ (b : Nat) (o : Obj), b < s.heap.objs.size → s.heap.get? b = some o → h'.get? b = some o) (E := E) hh hl hi hb led fun h' tk a b => ⟨rfl, h', tk, rfl, a, b⟩) fun r₂ s₂ hr₂ => ?_))
    match r₂, hr₂ with
    | .error e, hr => exact hr
    | .ok .next, hr => exact hr.elim
    | .ok .brk, hr => exact hr.elim
    | .ok .cont, hr => exact hr.elim
    | .ok (.ret obj), hr =>
      obtain ⟨e1, h', tk, e2, hs, hk⟩ := hr
      subst e1; subst e2
      refine wpAny_pure ?_
      dsimp only
      rw [if_neg (by exact Bool.false_ne_true)]
      exact wpAny_pure (h h' tk hs hk)
end
/-- how many unlike keys -/
def dst (ks : List Key) : Nat := cntU (fun i => ks.getD i (.inl 0)) ks.length
theorem dst_le (ks : List Key) : dst ks ≤ ks.length := cntU_le _ _
theorem vals_at {vs : List V} {us : List Value} (r : Vals vs us) {i : Nat} {u : Value} (e : us[i]? = some u) : ∃ x, vs[i]? = some x ∧ RelV x u := by
  have hi : i < vs.length := by rw [r.length]; exact (List.getElem?_eq_some_iff.mp e).1
  obtain ⟨u', e', rx⟩ := r.get (List.getElem?_eq_getElem hi)
  rw [e] at e'
  cases e'
  exact ⟨_, List.getElem?_eq_getElem hi, rx⟩
def tLenSetK (K : PySem.W.Frag) (ta : TE) : TE := fun σ H Q => ta σ H fun x H1 => ∃ l ks, x = V.ref l ∧ SqL K H1 l (ks.map kV) ∧ ks.length + 1 < 4096 ∧ Q (.int (dst ks)) H1
theorem pe_lenSetK {X : Cx} {k : Nat} {a : Expr} {ta : TE} {p p2 q pos : Pos} (hr : RoomG k X.A) (hg : Gl X "len") (hm : X.mg "len" = none) (hg2 : Gl X "set") (hm2 : X.mg "set" = none) (ha : PE X a ta) (na : starEach [a] X.env = (false, eval a X.env) :: starEach [] X.env) :
    PE X (.Call (.Name "len" p) [.Call (.Name "set" p2) [a] [] q] [] pos) (tLenSetK X.K ta) := by
  refine ⟨fun pins s σ H Q I h => Call_ (ld_blt I hg hm boot_len (PyProof.Rows.callWith_builtin1 (args_cons (Call_ (ld_blt I hg2 hm2 boot_set (PyProof.Rows.callWith_type1 (args_cons (thn (ha.run pins s σ H _ I h) fun v s1 x => ?_) na) na rfl) (by decide) (by decide)) rfl) rfl) rfl rfl) (by decide) (by decide)) rfl⟩
  obtain ⟨x, H1, I1, r1, l, ks, e, hq, hz, q1⟩ := x
  subst e
  cases (show v = Value.ref l from r1)
  refine args_nil ?_
  obtain ⟨its, r, pl, _⟩ := I1.list hq
  have hl : its.length = ks.length := by rw [← r.length, List.length_map]
  refine call_set_listK (knd := mixKind X.prog X.w) (val := fun i => ks.getD i (.inl 0)) hr.hd pl.isList (fun i v e => ?_) (by rw [List.size_toArray, hl]; exact hz) fun h' tk hS hk => ?_
  · rw [List.getElem?_toArray] at e
    obtain ⟨x, ex, rx⟩ := vals_at r e
    rw [List.getElem?_map] at ex
    obtain ⟨kk, ek, e2⟩ := Option.map_eq_some_iff.mp ex
    rw [List.getD_eq_getElem?_getD, ek]
    subst e2
    cases kk with
    | inl i => obtain ⟨t, rfl⟩ := rx; exact ⟨by simp [mixKind, keyIs, Value.isInt], rfl⟩
    | inr i => obtain ⟨t, rfl⟩ := rx; exact ⟨by simp [mixKind, keyIs, Value.isStrOf], rfl⟩
  · refine args_nil ?_
    have I2 := I1.kept (h' := h') (t' := tk) fun b o e => hk b o (Heap.lt_size e) e
    obtain ⟨o, es, ep, t, ho, hex, hd, _, _, hsz, hf, hn⟩ := hS
    have hn' : es.size = dst ks := by rw [hn]; unfold dst; rw [List.size_toArray, hl]
    refine call_len_set ho hex hd hf (by have := dst_le ks; rw [hn']; omega) ⟨.int (dst ks), H1, I2.tok _, ⟨_, by rw [hn']⟩, q1⟩
def keyD : Key → D
  | .inl i => .int i
  | .inr x => .str x
def asKs : List D → Option (List Key)
  | [] => some []
  | d :: r => match toKey d, asKs r with
    | some k, some ks => some (k :: ks)
    | _, _ => none
theorem asKs_reps {K : PySem.W.Frag} {H : Hp} : ∀ {ds : List D} {ks : List Key} {vs : List V}, asKs ds = some ks → Reps K H vs ds → vs = ks.map kV
  | [], _, _, e, r => by cases e; cases r; rfl
  | d :: ds, ks, _, e, r => by
    cases r with
    | cons h t =>
      unfold asKs at e
      split at e
      · rename_i k ks' e1 e2
        cases e
        rw [key_rep h e1, asKs_reps e2 t, List.map_cons]
      · cases e
theorem asKs_strs : ∀ xs : List Str, asKs (xs.map .str) = some (xs.map .inr)
  | [] => rfl
  | x :: xs => by
    unfold asKs
    rw [List.map_cons]
    dsimp only [toKey]
    rw [asKs_strs xs]
    rfl
/-- the items of a list -/
def itmD (S : Sto) : D → Option (List D)
  | .fl ds => some ds
  | .ref p => match S p with
    | some (.lst ds) => some ds
    | _ => none
  | _ => none
theorem itmD_rep {K : PySem.W.Frag} {S : Sto} {H : Hp} {v : V} {d : D} {ds : List D} (rs : SRep K S H) (r : Rep K H v d) (e : itmD S d = some ds) : ∃ l vs, v = .ref l ∧ SqL K H l vs ∧ Reps K H vs ds := by
  cases r with
  | @fl a vs ds' h r => cases e; exact ⟨a, vs, rfl, h.sq, r⟩
  | ref a =>
    unfold itmD at e
    dsimp only at e
    split at e
    · rename_i ds' e1
      cases e
      obtain ⟨vs, e2, r2⟩ := rs _ _ e1
      exact ⟨a, vs, rfl, .inl (.inl e2), r2⟩
    · cases e
  | _ => cases e
def eLenSet (fe : DE) : DE := fun σ S Q => fe σ S fun d S1 => ∃ ds ks, itmD S1 d = some ds ∧ asKs ds = some ks ∧ ks.length + 1 < 4096 ∧ Q (.int (dst ks)) S1
theorem c_lenSet {X : Cx} {k : Nat} {a : Expr} {fe : DE} {p p2 q pos : Pos} (hr : RoomG k X.A) (hm : X.mg "len" = none) (hm2 : X.mg "set" = none) (ha : CE X a fe) (hg : Gl X "len" := by rfl) (hg2 : Gl X "set" := by rfl)
    (na : starEach [a] X.env = (false, eval a X.env) :: starEach [] X.env := by rfl) : CE X (.Call (.Name "len" p) [.Call (.Name "set" p2) [a] [] q] [] pos) (eLenSet fe) := by
  obtain ⟨ta, ha, sa⟩ := ha
  refine ⟨_, pe_lenSetK hr hg hm hg2 hm2 ha na, fun σ S Q sv H Kt re rs q k => sa σ S _ sv H _ re rs q fun v d S1 H1 s1 r1 v1 q1 => ?_⟩
  obtain ⟨ds, ks, e1, e2, hz, q1⟩ := q1
  obtain ⟨l, vs, e3, e4, e5⟩ := itmD_rep r1 v1 e1
  rw [asKs_reps e2 e5] at e4
  exact ⟨l, ks, e3, e4, hz, k _ _ S1 H1 s1 r1 (.int _) q1⟩
end DL
namespace DL
open PySem PySem.Spec PyProof.Rows L2
/-! ### xs[::-1] of a list or a tuple -/
def tRevA (K : PySem.W.Frag) (te : TE) : TE := fun σ H Q => te σ H fun x H1 => (∃ a xs, x = V.ref a ∧ SqL K H1 a xs ∧ ∀ p, H1 p = none → Q (.ref p) (upd H1 p (.lst xs.reverse))) ∨ (∃ a xs, x = V.ref a ∧ SqT K H1 a xs ∧ ∀ p, H1 p = none → Q (.ref p) (upd H1 p (.tup xs.reverse)))
def eRev (fe : DE) : DE := fun σ S Q => fe σ S fun d S1 => match d with
  | .tup ds => Q (.tup ds.reverse) S1
  | d => ∃ ds, itmD S1 d = some ds ∧ ∀ q, S1 q = none → Q (.ref q) (updS S1 q (.lst ds.reverse))
/-- str of a text or of a number -/
def gStr2 : GN := fun xs S Q => match xs with
  | [.int i] => i.natAbs.log2 < 1920 ∧ Q (.str (Str.ofString (toString i))) S
  | [.str z] => Q (.str z) S
  | _ => False
end DL
namespace DL
open PySem PySem.Spec PyProof.Rows L2
/-! ### sorted of a list or of a tuple of data -/
section
open PySem.W
/-- sorted(xs), where the data are told by enc -/
def rSD (K : PySem.W.Frag) : List V → Hp → VK → Prop := fun vs H Q => ∃ (a : Addr) (xs : List V) (ds : List D) (S : Sto) (kd : D → PyData), vs = [V.ref a] ∧ (SqL K H a xs ∨ SqT K H a xs) ∧ Reps K H xs ds ∧ SRep K S H ∧
  (∀ d ∈ ds, PD S d (kd d)) ∧ AllAlike (ds.map kd) ∧ Sortable (ds.map kd) ∧ (∀ d ∈ ds, (kd d).depth ≤ 32) ∧
  ∀ (p : Addr) (ys : List V), H p = none → Reps K H ys (ds.mergeSort (dataLe false kd)) → Q (.ref p) (upd H p (.lst ys))
theorem each_dp {X : Cx} {pins : List (Addr × Obj)} {σ : L2.St} {H : Hp} {s : Shared} {S : Sto} (I : Inv X pins σ H s) (rs : SRep X.K S H) {kd : D → PyData} : ∀ {ds : List D} {xs : List V} {us : List Value}, (∀ d ∈ ds, PD S d (kd d)) → Reps X.K H xs ds → Vals xs us → EachIs (fun v d => ∃ as, Reads s.heap v (kd d) as) us ds
  | [], _, _, _, .nil, e => by cases e; exact .nil
  | d :: ds, _, _, h, .cons h1 r1, e => by
    cases e with
    | cons e1 e2 =>
      refine .cons ?_ (each_dp I rs (fun x hx => h x (List.mem_cons_of_mem _ hx)) r1 e2)
      exact (PD.dp rs (h d (by simp)) h1).reads I _ _ _ e1
theorem cr_sorted2 {X : Cx} {k : Nat} (hr : RoomG k X.A) : CallR X (.builtin "sorted") (rSD X.K) := by
  intro pins s σ H vs us Q I r h
  obtain ⟨a, xs, ds, S, kd, rfl, hs, rp, rs, hpd, hal, hso, hd, q⟩ := h
  obtain rfl := Vals.ref1 r
  have main : ∀ (T : String) (o : Obj) (its : List Value) (n : Nat), T = "list" ∨ T = "tuple" → s.heap.get? a = some o → o.cls = .type T → o.data = .seq its.toArray n → Vals xs its → xs.length ≤ sizeLine → wpAny (model X.prog X.w) X.A (call (.builtin "sorted") [.ref a]) (EP X pins σ Q) X.xe s := by
    intro T o its n hT ho hc hdt rv hz
    have hlen := rv.length
    have ei := each_of rp rv
    have er := each_dp I rs hpd rp rv
    refine call_function_entry_kw kind_sorted plain_sorted entry_sorted (args_sorted1 (.ref a)) ?_
    unfold Builtin.sorted
    refine wpAny_bind ?_
    unfold checkCount
    dsimp only
    rw [if_neg (by exact Bool.false_ne_true), if_neg (by exact Nat.lt_irrefl 1), if_neg (by exact Nat.lt_irrefl 1)]
    refine wpAny_pure ?_
    have hsz : its.length ≤ sizeLine := by rw [← hlen]; exact hz
    refine wpAny_bind (wpAny_collect_seq a hT ho hc hdt (fun h1 k1 => ?_) (by simpa using hsz))
    have I1 := I.kept (h' := h1) (t' := s.toks) k1
    refine wpAny_bind (wpAny_newList ?_ (by simpa using hsz))
    have hat : (h1.push { cls := Value.type "list", data := Data.seq its.toArray }).get? h1.objs.size = some (seqObj "list" its.toArray 0) := Heap.get?_push_size h1 rfl
    have k2 : ∀ b o, h1.get? b = some o → (h1.push { cls := Value.type "list", data := Data.seq its.toArray }).get? b = some o := fun b o e => Heap.get?_push_of_some _ e
    refine wpAny_bind (wpAny_holding (wpAny_call_entry_kw slot_list_sort ⟨_, hat, rfl⟩ entry_list_sort ?_ (args_list_sort (.ref h1.objs.size))))
    have hne : ∀ b o, h1.get? b = some o → b ≠ h1.objs.size := fun b o e z => by
      have := Heap.lt_size e
      rw [z] at this
      exact Nat.lt_irrefl _ this
    have er2 : EachIs (fun v d => ∃ as, Reads (sortingHeap (h1.push { cls := Value.type "list", data := Data.seq its.toArray }) h1.objs.size its) v (kd d) as) its ds :=
      er.mono fun v d ⟨as, x⟩ => ⟨as, PyProof.Rows.Reads.keeps (fun b o e => sortingHeap_old (hne b o (k1 b o e)) (k2 b o (k1 b o e))) x⟩
    refine list_sort_vals hat (SortsAt.data (each_map kd er2) hal hso (bound_map fun d hd2 => ?_)) hsz ⟨.none, rfl, wpAny_pure ⟨.ref h1.objs.size, rfl, ?_⟩⟩
    · have := hd d hd2
      have := hr.un
      show X.A.units + 1 + 1 + _ < _
      omega
    · have eo := sortVals_data false ei er2 hal
      obtain ⟨ys, yv, yr⟩ := of_each eo
      have np : H h1.objs.size = none := I1.hok.fresh (Nat.le_refl _)
      have ys_len : ys.length ≤ sizeLine := by
        have h1 := yv.length
        have h2 := eo.length
        have h3 := ei.length
        rw [List.length_mergeSort] at h2
        omega
      obtain ⟨ep, he⟩ := sortedHeap_at (out := (sortVals (dataKind (sortingHeap (h1.push { cls := Value.type "list", data := Data.seq its.toArray }) h1.objs.size its) (ds.map kd)) false its its).toArray) (vs := its) hat
      refine ⟨.ref _, _, I1.laid (a := h1.objs.size) (o := .lst ys) (fun b u e => ?_) (Nat.le_refl _) ⟨ys_len, _, ep, yv, he⟩, rfl, q _ ys np yr⟩
      rw [sortedHeap_old (hne b u e) (Nat.lt_trans (Heap.lt_size e) (by rw [Heap.size_push]; exact Nat.lt_succ_self _))]
      exact k2 b u e
  rcases hs with hs | hs
  · obtain ⟨its, rv, pl, hz⟩ := I.list hs
    obtain ⟨o, ho, hc, n, hd⟩ := pl.isList
    exact main "list" o its n (.inl rfl) ho hc hd rv hz
  · obtain ⟨its, rv, ⟨o, ho, hc, n, hd⟩, hz⟩ := I.tuple hs
    exact main "tuple" o its n (.inr rfl) ho hc hd rv hz
/-- sorted of data, by themselves -/
def gSorted2 : GN := fun xs S Q => ∃ d ds kd, xs = [d] ∧ (itmD S d = some ds ∨ d = .tup ds) ∧ (∀ x ∈ ds, PD S x (kd x)) ∧ AllAlike (ds.map kd) ∧ Sortable (ds.map kd) ∧ (∀ x ∈ ds, (kd x).depth ≤ 32) ∧
  ∀ n, S n = none → Q (.ref n) (updS S n (.lst (ds.mergeSort (dataLe false kd))))
theorem b_sorted2 {X : Cx} {k : Nat} (hr : RoomG k X.A) : CB X "sorted" gSorted2 := ⟨rSD X.K, cr_sorted2 hr, fun xs as S H Q Kt rs rv q kk => by
  obtain ⟨d, ds, kd, e, hi, hp, hal, hso, hd, q⟩ := q
  subst e
  cases rv with
  | cons h1 t1 =>
    cases t1
    have fin : ∀ l vs, (SqL X.K H l vs ∨ SqT X.K H l vs) → Reps X.K H vs ds → rSD X.K [V.ref l] H Kt := fun l vs hs r => by
      refine ⟨l, vs, ds, S, kd, rfl, hs, r, rs, hp, hal, hso, hd, fun p ys np ry => ?_⟩
      obtain ⟨st, sr⟩ := stp_new (o := .lst (ds.mergeSort (dataLe false kd))) (ho := .lst ys) rs np ⟨ys, upd_same, ry.mono (tx_new np)⟩
      exact kk _ _ _ _ st sr (.ref p) (q p (rs.free np))
    rcases hi with hi | hi
    · obtain ⟨l, vs, e3, e4, e5⟩ := itmD_rep rs h1 hi
      subst e3
      exact fin l vs (.inl e4) e5
    · subst hi
      cases h1 with
      | @tup a vs ds' h r => exact fin a vs (.inr h) r⟩
end
end DL
namespace DL
open PySem PySem.Spec PyProof.Rows L2
/-- sorted: numbers, texts, data -/
def gSortedA : GN := fun xs S Q => gSorted xs S Q ∨ gSorted2 xs S Q
theorem b_sortedA {X : Cx} {k : Nat} (hr : RoomG k X.A) : CB X "sorted" gSortedA := by
  obtain ⟨r1, h1, s1⟩ := b_sorted (X := X)
  obtain ⟨r2, h2, s2⟩ := b_sorted2 hr
  exact ⟨_, L2.CallR.or h1 h2, fun xs as S H Q Kt rs rv q kk => q.elim (fun q => .inl (s1 xs as S H Q Kt rs rv q kk)) fun q => .inr (s2 xs as S H Q Kt rs rv q kk)⟩
/-- a statement that is not come to -/
def sNever : DS := fun _ _ _ => False
section
variable {X : Cx} {e : Expr} {fe : DE} {pos : Pos}
/-- in a dict of the module: texts that are there -/
def eTabIn (tab : List (Str × Int)) (f : Bool → Bool) (fe : DE) : DE := fun σ S Q => fe σ S fun y S1 => match y with
  | .str z => (tabAt tab z).isSome = true ∧ Q (.bl (f true)) S1
  | _ => False
def rTab (K : PySem.W.Frag) (d : Addr) (f : Bool → Bool) : R2 := fun x y H Q => ∃ z r, x = V.str z ∧ y = V.ref d ∧ PySem.W.nsIn K d z = some r ∧ Q (V.bl (f r.isSome)) H
end
/-- a tuple of texts of the module -/
structure TupC (K : PySem.W.Frag) (mg : Str → Option Value) (x : Str) (zs : List Str) : Prop where
  ex : ∃ (a : Addr) (od : Option Addr) (its : Array Value) (n : Nat) (sl : Array (Option Value)), mg x = some (.ref a) ∧ K.lookup a = some ⟨.type "tuple", od, .seq its n, sl⟩ ∧ its.size ≤ sizeLine ∧ Vals (zs.map V.str) its.toList
/-! ### x, y = a, b -/
section
variable {X : Cx} {a b c : Expr} {fs : DA} {pos : Pos}
def sPar (i j : Nat) (fs : DA) : DS := fun D0 σ S => fs σ S fun ds S1 => match ds with
  | [v, w] => D0.nx (setS j w (setS i v σ)) S1
  | _ => False
end
end DL
namespace DL
open PySem PySem.Spec PyProof.Rows L2
/-! ### list(d.values()) -/
section
variable {X : Cx} {o : Expr} {p pos apos mpos : Pos} {td : TE} {fo : DE}
def tListVals (td : TE) : TE := fun σ H Q => td σ H fun x H1 => ∃ a kvs, x = V.ref a ∧ H1 a = some (.dK kvs) ∧ ∀ p, H1 p = none → Q (.ref p) (upd H1 p (.lst (kvs.map (·.2))))
def eListV (fo : DE) : DE := fun σ S Q => fo σ S fun o S1 => match o with
  | .ref p => ∃ kvs, S1 p = some (.dk kvs) ∧ ∀ a, S1 a = none → Q (.ref a) (updS S1 a (.lst (kvs.map (·.2))))
  | _ => False
end
/-! ### try: a body that raises nothing -/
section
variable {X : Cx} {body : List Stmt} {h₀ : ExceptHandler} {hs : List ExceptHandler} {pos : Pos} {fb : DS}
end
end DL
namespace DL
open PySem PySem.Spec PyProof.Rows L2
section
variable {X : Cx} {K : PySem.W.Frag} {e a b c : Expr} {es : List Expr} {fe fa fb fc : DE} {ft fu : DT} {fs : DA} {pos : Pos} {S : Sto} {H : Hp}
/-! ### text.split(sep) -/
def gSplit : D → GN := fun x vs S Q => match x, vs with
  | .str z, [.str y] => (y.length == 0) = false ∧ z.length + 2 ≤ sizeLine ∧ ∀ p, S p = none → Q (.ref p) (updS S p (.lst ((Txt.split z y).map .str)))
  | _, _ => False
/-! ### xs.extend(ys) -/
theorem ext_meets (l : Addr) (items : Array Value) (n : Nat) (b : Addr) (items2 : Array Value) (n2 : Nat) (od : Option Addr) (sl : Array (Option Value)) (h0 : ¬(!items.isEmpty && Builtin.List.listTooLong (items.size + items2.size)) = true) (h1 : items.size ≤ sizeLine) (h2 : items.size + items2.size ≤ sizeLine + 1) :
    Meets (Builtin.«list.extend» ⟨[.ref l, .ref b], []⟩) (fun _ R s => s.heap.get? l = some { cls := .type "list", dict := none, data := .seq items n, slots := #[] } ∧ s.heap.get? b = some ⟨.type "tuple", od, .seq items2 n2, sl⟩ ∧
      R (.ok (.ret Value.none)) { s with heap := s.heap.update l (Obj.mapSeq fun x => x ++ items2), toks := s.toks }) := by
  refine .of_wp fun prog w A R s h => ?_
  obtain ⟨hp, g, d, tk, os⟩ := s
  obtain ⟨hl, hb, h⟩ := h
  have f1 := PySem.AutoSeq1.idx_int
  have f2 := PySem.AutoSeq1.sub_tuple_tuple
  have f3 := PySem.AutoSeq1.sub_list_list
  have f4 := PySem.AutoSeq1.sub_tuple_list
  have f5 := PySem.AutoSeq1.sub_list_tuple
  have hz' : (items ++ items2).size ≤ sizeLine + 1 := by
    rw [Array.size_append]
    exact h2
  wp_walk using (wpAny_updateSeq hl rfl (hz := h1) (_hz' := hz')), wpAny_loadPart' hl, wpAny_loadPart' hb
  exact ⟨_, rfl, h⟩
def rExtT (K : PySem.W.Frag) : V → List V → Hp → VK → Prop := fun x vs H Q => ∃ l b xs zs, x = .ref l ∧ vs = [.ref b] ∧ H l = some (.lst xs) ∧ SqT K H b zs ∧ xs.length + zs.length ≤ sizeLine ∧ Q .non (upd H l (.lst (xs ++ zs)))
theorem mt_extT : MtM X "list.extend" (rExtT X.K) := by
  intro pins s σ H x vs v us Q I rx rv h
  obtain ⟨l, b, xs, zs, rfl, rfl, hH, hB, hz, q⟩ := h
  cases rx
  obtain ⟨u, rfl, ru⟩ := rv.one
  cases ru
  obtain ⟨z, its, n, r, hl, e⟩ := I.lstM hH
  obtain ⟨its2, r2, ⟨⟨c2, od, dt2, sl⟩, e2, hc, n2, hd⟩, hz2⟩ := I.tuple hB
  have hc : c2 = Value.type "tuple" := hc
  have hd : dt2 = Data.seq its2.toArray n2 := hd
  subst hc hd
  have hl2 := r2.length
  have hsz : its.toArray.size + its2.toArray.size ≤ sizeLine := by rw [List.size_toArray, List.size_toArray]; omega
  have hlong : ¬ (!its.toArray.isEmpty && Builtin.List.listTooLong (its.toArray.size + its2.toArray.size)) = true := by
    rw [notLongL hsz, Bool.and_false]
    exact Bool.false_ne_true
  refine call_meets F.slot_list_extend ⟨_, e, rfl⟩ F.entry_list_extend (F.args_list_extend_2 _ _) (ext_meets l its.toArray n b its2.toArray n2 od sl hlong (by rw [List.size_toArray]; omega) (by omega)) ⟨e, e2, ?_⟩
  refine ⟨.non, _, I.lset (its' := its ++ its2) hH e (by simp) (r.append r2) (by rw [List.length_append]; omega), rfl, q⟩
def gExtend : D → GN := fun x vs S Q => match x, vs with
  | .ref p, [.tup ds] => ∃ xs, S p = some (.lst xs) ∧ xs.length + ds.length ≤ sizeLine ∧ Q .non (updS S p (.lst (xs ++ ds)))
  | _, _ => False
theorem m_extend : CM X "list" "extend" gExtend := by
  refine ⟨_, _, PySem.F.plainAttrs_list, PySem.F.slot_list_extend, PySem.F.type_list_extend, mt_extT, fun x a xs as S H Q Kt s rx r q k => ?_⟩
  match a, as, q with
  | .ref p, [.tup ds], q =>
    obtain ⟨ys, e, hz, q⟩ := q
    obtain ⟨v, rfl, rv⟩ := reps1 r
    cases rx
    obtain ⟨vs, e1, r1⟩ := s _ _ e
    cases rv with
    | @tup b zs ds h r2 => exact ⟨p, b, vs, zs, rfl, rfl, e1, h, by rw [r1.length, r2.length]; exact hz, mut_lst s e (r1.append r2) k .non q⟩
/-! ### int(text) -/
def gInt2 : GN := fun xs S Q => match xs with
  | [.str z] => ∃ n, PySem.intText? z = some n ∧ z.length ≤ 640 ∧ Q (.int n) S
  | ys => gInt1 ys S Q
/-! ### range(i, j, c) -/
def stepD (lo c : Int) (n : Nat) : List D := (List.range n).map fun i => .int (lo + (i : Nat) * c)
/-- a step upwards -/
def iRange3 (fs : DA) : DI := fun σ S Q => fs σ S fun xs S1 => match xs with
  | [.int i, .int j, .int c] => ∃ n, RgC i j c n ∧ Q (stepD i c n) (fun _ => True) S1
  | _ => False
/-! ### d.get(key, x) of a dict of the module, its values tuples of numbers -/
def TabW (K : PySem.W.Frag) (a : Addr) : List (Str × List Int) → Prop
  | [] => True
  | q :: r => (∃ b od its n sl, PySem.W.nsIn K a q.1 = some (some (.ref b)) ∧ K.lookup b = some ⟨.type "tuple", od, .seq its n, sl⟩ ∧ its.size ≤ sizeLine ∧ Vals (q.2.map V.int) its.toList) ∧ TabW K a r
theorem TabW.mem {K : PySem.W.Frag} {a : Addr} : ∀ {tab : List (Str × List Int)}, TabW K a tab → ∀ q ∈ tab, ∃ b od its n sl, PySem.W.nsIn K a q.1 = some (some (.ref b)) ∧ K.lookup b = some ⟨.type "tuple", od, .seq its n, sl⟩ ∧ its.size ≤ sizeLine ∧ Vals (q.2.map V.int) its.toList
  | _ :: _, ⟨h, t⟩, q, hq => by
    rcases List.mem_cons.mp hq with rfl | hq
    · exact h
    · exact t.mem q hq
structure TabWC (K : PySem.W.Frag) (w : World) (mg : Str → Option Value) (x : Str) (tab : List (Str × List Int)) : Prop where
  ex : ∃ (a : Addr) (es : Array DictEntry) (n : Nat), mg x = some (.ref a) ∧ KDict K w a es n ∧ TabW K a tab
def tabWAt (tab : List (Str × List Int)) (z : Str) : Option (List Int) := (tab.find? fun q => decide (q.1 = z)).map (·.2)
/-- keys that are there -/
def eTabW (tab : List (Str × List Int)) (fe ff : DE) : DE := fun σ S Q => fe σ S fun y S1 => ff σ S1 fun _ S2 => match y with
  | .str z => ∃ is, tabWAt tab z = some is ∧ Q (.tup (is.map .int)) S2
  | _ => False
def tTabW (K : PySem.W.Frag) (a : Addr) (te tf : TE) : TE := fun σ H Q => te σ H fun y H1 => tf σ H1 fun _ H2 => ∃ z b, y = .str z ∧ PySem.W.nsIn K a z = some (some (.ref b)) ∧ Q (.ref b) H2
end
end DL
/-! defs that may raise own exceptions without __init__ -/
namespace DL
open PySem PySem.Spec PyProof.Rows L2
/-- the exceptional end, by the class's name -/
abbrev EK := Str → Sto → Prop
abbrev MFX := List D → Sto → DK → EK → Prop
abbrev DSX := DEnds → EK → Env → Sto → Prop
abbrev DEX := EK → DE
def RchK (K : PySem.W.Frag) (mg : Str → Option Value) (S : Sto) (H : Hp) (Ed : EK) (E : XK) : Prop := ∀ c cls S' H', Stp K S H S' H' → SRep K S' H' → mg c = some cls → Ed c S' → E cls none H'
theorem RchK.stp {K : PySem.W.Frag} {mg : Str → Option Value} {S S1 : Sto} {H H1 : Hp} {Ed : EK} {E : XK} (k : RchK K mg S H Ed E) (s : Stp K S H S1 H1) : RchK K mg S1 H1 Ed E := fun c cls S2 H2 s2 r e q => k c cls S2 H2 (s.trans s2) r e q
abbrev WXE (E : XK) : WX := fun cls d _ H => E cls d H
def SndX (K : PySem.W.Frag) (mg : Str → Option Value) (t : XK → TE) (f : DEX) : Prop := ∀ (Ed : EK) (E : XK) (σ : Env) (S : Sto) (Q : DK) (sv : L2.St) (H : Hp) (Kt : VK), ERep K H sv σ → SRep K S H → f Ed σ S Q → Rch K S H Q Kt → RchK K mg S H Ed E → t E sv H Kt
def SndSX (K : PySem.W.Frag) (mg : Str → Option Value) (t : XK → TS) (f : DSX) : Prop := ∀ (D0 : DEnds) (Ed : EK) (σ : Env) (S : Sto) (Dv : Ends) (E : XK) (sv : L2.St) (H : Hp), ERep K H sv σ → SRep K S H → f D0 Ed σ S → RchE K S H D0 Dv → RchK K mg S H Ed E → t E Dv sv H
structure CEX (X : Cx) (e : Expr) (f : DEX) : Prop where
  ok : ∃ t : XK → TE, (∀ E : XK, L2.Takes X (WXE E) → PE X e (t E)) ∧ SndX X.K X.mg t f
structure CSX (X : Cx) (st : Stmt) (f : DSX) : Prop where
  ok : ∃ t : XK → TS, (∀ E : XK, L2.Takes X (WXE E) → PS X st (t E)) ∧ SndSX X.K X.mg t f
structure CSsX (X : Cx) (st : List Stmt) (f : DSX) : Prop where
  ok : ∃ t : XK → TS, (∀ E : XK, L2.Takes X (WXE E) → PSs X st (t E)) ∧ SndSX X.K X.mg t f
/-- a def that may raise does m -/
def spX (K : PySem.W.Frag) (mg : Str → Option Value) (n : Nat) (m : MFX) : Sp := fun vs H Q E => vs.length = n ∧ ∃ ds S Qd Ed, Reps K H vs ds ∧ SRep K S H ∧ m ds S Qd Ed ∧ Rch K S H Qd Q ∧ RchK K mg S H Ed E
structure OkfX (P : Program) (w : World) (K : PySem.W.Frag) (mg : Str → Option Value) (base : Heap) (k : Nat) (x : Str) (n : Nat) (m : MFX) : Prop where
  ex : ∃ (f : Addr) (fd : FuncData) (ps : List Str), ps.length = n ∧ FnG P w K mg base (L2.CX P w) k f fd ps (spX K mg n m) ∧ mg x = some (.ref f) ∧ PySem.W.keepIn K (.ref f) = true ∧ Binds K fd ps []
section
variable {X : Cx} {st : Stmt} {rest body orelse : List Stmt} {a c : Expr} {es : List Expr} {fs : DA} {fa : DEX} {ft : DT} {f g : DSX} {pos : Pos}
def xE (f : DE) : DEX := fun _ => f
def eCallX (n : Nat) (m : MFX) (fs : DA) : DEX := fun Ed σ S Q => fs σ S fun ds S1 => ds.length = n ∧ m ds S1 Q Ed
theorem cx_fn {k j n : Nat} {m : MFX} {x : Str} {p : Pos} (hr : RoomG j X.A) (F : OkfX X.prog X.w X.K X.mg X.base k x n m) (hk : k ≤ j) (ha : CA X (a :: es) fs) (hg : Gl X x := by rfl)
    (hdb : (x == ("__debug__" : Str)) = false := by decide) (he : starEach (a :: es) X.env = (false, eval a X.env) :: starEach es X.env := by rfl) (hpl : (backTo pos (starEach es X.env)).any (·.1) = false := by rfl) :
    CEX X (.Call (.Name x p) (a :: es) [] pos) (eCallX n m fs) := by
  obtain ⟨f, fd, ps, hl, F, hm, hk2, hb⟩ := F
  obtain ⟨ta, ha, sa⟩ := ha
  refine ⟨fun E => tCall (spX X.K X.mg n m) [] E ta, fun E tk => pe_callG F (hr.mono' hk) hg hm hk2 hb .nil (L2.passes_call tk fun _ _ _ _ h => h) ha hdb he hpl, fun Ed E σ S Q sv H Kt re rs q k kx => sa σ S _ sv H _ re rs q fun vs ds S1 H1 s1 r1 v1 q1 => ?_⟩
  rw [List.append_nil]
  exact ⟨by rw [v1.length]; exact q1.1, ds, S1, Q, Ed, v1, r1, q1.2, fun v d S2 H2 s2 r2 v2 q2 => k v d S2 H2 (s1.trans s2) r2 v2 q2, kx.stp s1⟩
/-- called where nothing is raised -/
def mNo (m : MFX) : MF := fun ds S Q => m ds S Q fun _ _ => False
theorem c_fnX {k j n : Nat} {m : MFX} {x : Str} {p : Pos} (hr : RoomG j X.A) (F : OkfX X.prog X.w X.K X.mg X.base k x n m) (hk : k ≤ j) (ha : CA X (a :: es) fs) (hg : Gl X x := by rfl)
    (hdb : (x == ("__debug__" : Str)) = false := by decide) (he : starEach (a :: es) X.env = (false, eval a X.env) :: starEach es X.env := by rfl) (hpl : (backTo pos (starEach es X.env)).any (·.1) = false := by rfl) :
    CE X (.Call (.Name x p) (a :: es) [] pos) (eCall n (mNo m) fs) := by
  obtain ⟨f, fd, ps, hl, F, hm, hk2, hb⟩ := F
  obtain ⟨ta, ha, sa⟩ := ha
  refine ⟨tCall (spX X.K X.mg n m) [] E0 ta, pe_callG F (hr.mono' hk) hg hm hk2 hb .nil passL ha hdb he hpl, fun σ S Q sv H Kt re rs q k => sa σ S _ sv H _ re rs q fun vs ds S1 H1 s1 r1 v1 q1 => ?_⟩
  rw [List.append_nil]
  exact ⟨by rw [v1.length]; exact q1.1, ds, S1, Q, _, v1, r1, q1.2, fun v d S2 H2 s2 r2 v2 q2 => k v d S2 H2 (s1.trans s2) r2 v2 q2, fun c cls S2 H2 s2 r2 e2 q2 => q2⟩
/-! ### statements -/
def xS (f : DS) : DSX := fun D0 _ σ S => f D0 σ S
theorem sx_of {fd : DS} (h : CS X st fd) : CSX X st (xS fd) := let ⟨t, h, s⟩ := h.ok; ⟨fun _ => t, fun _ _ => h, fun D0 Ed σ S Dv E sv H re rs q k _ => s D0 σ S Dv sv H re rs q k⟩
theorem ssx_of {fd : DS} (h : CSs X body fd) : CSsX X body (xS fd) := let ⟨t, h, s⟩ := h.ok; ⟨fun _ => t, fun _ _ => h, fun D0 Ed σ S Dv E sv H re rs q k _ => s D0 σ S Dv sv H re rs q k⟩
def xSeq (f g : DSX) : DSX := fun D0 Ed σ S => f { D0 with nx := g D0 Ed } Ed σ S
theorem ssx_nil : CSsX X [] (xS sNext) := ssx_of ss_nil
theorem ssx_cons (h1 : CSX X st f) (h2 : CSsX X rest g) : CSsX X (st :: rest) (xSeq f g) := by
  obtain ⟨t, h1, s1⟩ := h1
  obtain ⟨u, h2, s2⟩ := h2
  refine ⟨fun E => tSeq (t E) (u E), fun E tk => pss_cons (h1 E tk) (h2 E tk), fun D0 Ed σ S Dv E sv H re rs q k kx => s1 { D0 with nx := g D0 Ed } Ed σ S { Dv with nx := u E Dv } E sv H re rs q ⟨?_, k.rt, k.bk, k.ct⟩ kx⟩
  exact fun sv' σ' S' H' st' r' e' q' => s2 D0 Ed σ' S' Dv E sv' H' e' r' q' (k.stp st') (kx.stp st')
theorem ssx_one (h1 : CSX X st f) : CSsX X [st] f := let ⟨t, h, s⟩ := h1.ok; ⟨t, fun E tk => pss_one (h E tk), s⟩
def xExpr (fa : DEX) : DSX := fun D0 Ed σ S => fa Ed σ S fun _ S1 => D0.nx σ S1
def xRet (fa : DEX) : DSX := fun D0 Ed σ S => fa Ed σ S D0.rt
def xSet (i : Nat) (fa : DEX) : DSX := fun D0 Ed σ S => fa Ed σ S fun d S1 => D0.nx (setS i d σ) S1
theorem sx_set {i : Nat} {x : Str} {pos' : Pos} (hN : X.N.Nodup) (hi : X.N[i]? = some x) (hx : Loc X.env.scope x) (ha : CEX X a fa) (hs : swapsWith a (some (.Name x pos')) pos.line X.env = pure false := by rfl) (hf : X.fn x = true ∨ X.env.scope.names.lookup x = some .local := by first | exact .inl rfl | exact .inr rfl | assumption) :
    CSX X (.Assign [.Name x pos'] a pos) (xSet i fa) := by
  obtain ⟨t, h, s⟩ := ha
  exact ⟨_, fun E tk => ps_set hN hi hx (h E tk) hs hf, fun D0 Ed σ S Dv E sv H re rs q k kx => s Ed E σ S _ sv H _ re rs q (fun v d S1 H1 s1 r1 v1 q1 => k.nx _ _ _ _ s1 r1 ((re.mono s1.tx).set v1) q1) kx⟩
def xIf (ft : DT) (f g : DSX) : DSX := fun D0 Ed σ S => ft σ S fun k S1 => if k = true then f D0 Ed σ S1 else g D0 Ed σ S1
theorem sx_if (hc : CT X c ft) (ha : CSsX X body f) (hb : CSsX X orelse g) : CSX X (.If c body orelse pos) (xIf ft f g) := by
  obtain ⟨tc, hc, sc⟩ := hc
  obtain ⟨ta, ha, sa⟩ := ha
  obtain ⟨tb, hb, sb⟩ := hb
  refine ⟨_, fun E tk => ps_if hc (ha E tk) (hb E tk), fun D0 Ed σ S Dv E sv H re rs q k kx => sc σ S _ sv H _ re rs q fun kk S1 H1 s1 r1 q1 => ?_⟩
  cases kk with
  | true => exact sa D0 Ed σ S1 Dv E sv H1 (re.mono s1.tx) r1 q1 (k.stp s1) (kx.stp s1)
  | false => exact sb D0 Ed σ S1 Dv E sv H1 (re.mono s1.tx) r1 q1 (k.stp s1) (kx.stp s1)
def xFor (fi : DI) (g : DG) (b : DSX) : DSX := fun D0 Ed σ S => sFor fi g (fun D1 σ S => b D1 Ed σ S) D0 σ S
/-! ### raise -/
/-- an own exception class over ValueError, without __init__ -/
structure ExT (K : PySem.W.Frag) (mg : Str → Option Value) (c : Str) : Prop where
  ex : ∃ C : Addr, mg c = some (.ref C) ∧ PySem.W.excIn K C [.type "ValueError", .type "Exception", .type "BaseException", .type "object"] "ValueError.__new__" = true ∧ PySem.W.keepIn K (.ref C) = true ∧ PySem.W.subIn K (.ref C) (.type "BaseException") = some true ∧ PySem.W.typeIn K (.ref C) = some (.type "type")
def xRaise (c : Str) : DSX := fun _ Ed _ S => Ed c S
theorem sx_raise {x m : Str} {j : Nat} {p p2 pos' : Pos} (hc : X.calm = true) (T : ExT X.K X.mg x) (hg : Gl X x := by rfl) (hdb : (x == ("__debug__" : Str)) = false := by decide) :
    CSX X (.Raise (some (.Call (.Name x p) [.Constant (.str m) j p2] [] pos)) none pos') (xRaise x) := by
  obtain ⟨C, gC, xC, kC, bC, tC⟩ := T
  exact ⟨fun E => _, fun E tk => ps_raise hc tk (pmk_own PySem.F.excBase_ValueError xC gC kC (raises_own bC tC) hg hdb), fun D0 Ed σ S Dv E sv H re rs q k kx => kx x (.ref C) S H .refl rs gC q⟩
end
end DL
/-! a def that may raise, whole; try: x = f(..) / except C: .. -/
namespace DL
open PySem PySem.Spec PyProof.Rows L2
theorem okfX_of {P : Program} {w : World} {K : PySem.W.Frag} {mg : Str → Option Value} {base : Heap} {x : Str} {st : Stmt} {N ps : List Str} {k : Nat} {b : DSX} {m : MFX} (T : FT K mg x st ps) (Sc : FnScope N ps (defScope st)) (hm : ∀ ds S Q Ed, m ds S Q Ed = b (endsD Q) Ed (startD N.length ds) S)
    (h : ∀ (f : Addr) (cdv : Value) (A : Around) (outer : List PySem.Env) (s : Shared) (H : Hp) (E : XK), RoomG k (A.deeper (envOfC x (defScope st) s.heap.objs.size f cdv)) → CSsX (cxOf (L2.CX P w) P w K mg base N x (defScope st) f cdv A outer s H E) (defBody st) b) :
    OkfX P w K mg base (k + 1) x ps.length m := by
  obtain ⟨f, fd, F, B, g⟩ := T
  have hF : FnG P w K mg base (L2.CX P w) (k + 1) f fd ps (spX K mg ps.length m) := by
    obtain ⟨oc, od, kV, doc, pm, an, cdv, ct, osl, e, lk, hcd⟩ := F.ex
    subst e
    refine fn_ofG lk hcd Sc (fun vs H Q E h => h.1) fun A outer s H vs Q E hr hsp => ?_
    obtain ⟨t, p, sn⟩ := h f cdv A outer s H E hr
    refine ⟨t E, p E (takes_of rfl rfl rfl rfl), ?_⟩
    obtain ⟨hl, ds, S, Qd, Ed, r, sr, q, kk, kx⟩ := hsp
    rw [hm] at q
    refine sn (endsD Qd) Ed _ S _ E _ H (erep_start r) sr q ⟨fun sv σ S' H' s' r' e' q' => ?_, kk, fun _ _ _ _ _ _ _ z => z.elim, fun _ _ _ _ _ _ _ z => z.elim⟩ kx
    exact kk .non .non S' H' s' r' .non q'
  exact ⟨f, fd, ps, rfl, hF, g, F.kp, B⟩
section
variable {X : Cx} {k : Nat} {f : Addr} {fd : FuncData} {ps : List Str} {sp : Sp} {E : L2.St → XK} {x : Str} {p pos : Pos} {e a : Expr} {es : List Expr} {t : TA} {CX : CXT}
/-! ### arguments that are names -/
structure CAU (X : Cx) (es : List Expr) (f : DA) : Prop where
  ok : ∃ t : TA, (∀ (pn : List (Addr × Obj)) (xe : Value → Shared → Prop), PA (X.tr pn xe) es t) ∧ SndA X.K t f
/-- an except suite: it runs alike whatever exception is held -/
structure CSu (X : Cx) (suite : List Stmt) (f : DS) : Prop where
  ok : ∃ t : TS, (∀ (a : Addr) (oe : Obj) (pn : List (Addr × Obj)), PSs (X.suite a ((a, oe) :: pn)) suite t) ∧ SndS X.K t f
/-- try: x = f(..) / except C: suite; L: the classes that C takes -/
def sTry (i n : Nat) (m : MFX) (fs : DA) (L : List Str) (g : DS) : DS := fun D0 σ S => fs σ S fun ds S1 => ds.length = n ∧ m ds S1 (fun d S2 => D0.nx (setS i d σ) S2) fun c S2 => c ∈ L ∧ g D0 σ S2
end
end DL
/-! try: .. / except C as e: y = e: the caught exception is kept; its class is asked for behind it -/
namespace L2
open PySem PySem.Spec PyProof.Rows DL
section
variable {X : Cx} {pins : List (Addr × Obj)} {σ : St} {H : Hp} {s : Shared}
theorem exC_ok {P : Program} {w : World} {h : Heap} {a C : Addr} {oe : Obj} {vs : Array Value} (e : h.get? a = some oe) (z : Zc (.ref C) none oe) (d : oe.data = .fields vs) : ObjOk P w H h a (ExC a C) :=
  ⟨⟨oe, vs, e, z, d⟩, ⟨oe, e⟩, fun _ _ ⟨o, v, q, r⟩ k => ⟨o, v, k o q, r⟩⟩
/-- a pinned exception of ours is tracked -/
theorem Inv.adopt {a C : Addr} {oe : Obj} {vs : Array Value} (I : Inv X ((a, oe) :: pins) σ H s) (hz : Zc (.ref C) none oe) (hd : oe.data = .fields vs) (n0 : X.s_0.heap.get? a = none) (np : ∀ p ∈ X.pn ++ pins, p.1 ≠ a) : Inv X pins σ (upd H a (ExC a C)) s := by
  obtain ⟨ha, hna, hnL, hnF, hnc⟩ := I.pin (a, oe) (List.mem_append_right _ List.mem_cons_self)
  refine ⟨I.ok, I.os, I.bare, ⟨I.base.keep, I.base.slot, fun b o q n hx => ?_, I.base.there, fun b xs q => ?_, fun b o u q => ?_, fun b ps q => ?_⟩, I.loc, I.cell, ?_, fun x c e => ?_, fun p hp => ?_, I.hok.laidN (fun _ _ z => z) hna (exC_ok ha hz hd), I.len⟩
  · rw [upd_ne (fun e => by rw [e, n0] at q; cases q)]
    exact I.base.free b o q n hx
  · have := I.base.tups b xs q
    rw [upd_ne (ne_of_none this hna)]
    exact this
  · have := I.base.frzs b o u q
    rw [upd_ne (ne_of_none this hna)]
    exact this
  · obtain ⟨m, z⟩ := I.base.tbls b ps q
    exact ⟨m, by rw [upd_ne (ne_of_none z hna)]; exact z⟩
  · rw [upd_ne (Ne.symm hnL)]
    exact I.free
  · rw [upd_ne (fun e2 => ?_)]
    · exact I.freeC x c e
    · obtain ⟨v, o, ho, hd2⟩ := I.cell x c e
      rw [e2] at ho
      have ha' : s.heap.get? a = some oe := ha
      rw [ha'] at ho
      cases ho
      exact hnc _ hd2
  · obtain ⟨e, n, ne, nf, d⟩ := I.pin p (by
      rcases List.mem_append.mp hp with h | h
      · exact List.mem_append_left _ h
      · exact List.mem_append_right _ (List.mem_cons_of_mem _ h))
    exact ⟨e, by rw [upd_ne (np p hp)]; exact n, ne, nf, d⟩
/-- what the clause 'except x as n: y = n' wishes of an exception of the body: slot i is n's, slot j y's -/
def wKeep (K : PySem.W.Frag) (c : Value) (i j : Nat) (Wout : WX) (D : Ends) : WX := fun cls d σ H =>
  ∃ b, PySem.W.exmOne K cls c = some b ∧ (b = true → ∃ C : Addr, cls = .ref C ∧ d = none ∧ ∀ a, H a = none → D.nx ((σ.set j (some (.ref a))).set i none) (upd H a (ExC a C))) ∧ (b = false → Wout cls d σ H)
end
section
variable {X : Cx} {x n y : Str} {c : Value} {i j : Nat} {body : List Stmt} {np pos pos' p1 p2 p3 : Pos} {tb : WX → TS} {Wout : WX}
theorem ps_try_keep (hs : X.stack = X.env :: X.outer) (hf : X.env.frame = some X.env.locals) (hex : X.ex = []) (hN : X.N.Nodup) (hi : X.N[i]? = some n) (hln : X.env.kindOf n = some .local) (hvn : Vis X.env.scope n) (hdn : (n == ("__debug__" : Str)) = false) (hcn : (n == ("__classdict__" : Str)) = false)
    (hj : X.N[j]? = some y) (hly : X.env.scope.names.lookup y = some .local) (hij : i ≠ j) (hc : Names X x c) (tk : Takes X Wout)
    (hsw : swapsWith (.Name n p2) (some (.Name y p1)) p3.line X.env = pure false)
    (hb : ∀ (W : WX) (pn : List (Addr × Obj)) (xe : Value → Shared → Prop), Takes (X.tr pn xe) W → PassesOwn (model X.prog X.w) X.A X.env xe → PSs (X.tr pn xe) body (tb W)) :
    PS X (.Try body [.ExceptHandler (some (.Name x np)) (some n) [.Assign [.Name y p1] (.Name n p2) p3] pos'] [] [] pos) (fun D σ H => tb (wKeep X.K c i j Wout D) D σ H) := by
  refine ⟨fun pins s σ H D I h => ?_⟩
  have ok := I.ok
  have hfr : X.A.frames = some (X.env :: X.outer) := by rw [ok.frames, hs]
  have hloc : Loc X.env.scope n := .inl hln
  refine wpAny_Try_except ?_
  refine wpAny_mono ((hb (wKeep X.K c i j Wout D) (X.pn ++ pins) (fun e s₁ => wpAny (model X.prog X.w) X.A (noteFrame e X.env) (fun _ s₂ => wpAny (model X.prog X.w) X.A (setFlight e none) (fun _ s₃ =>
    wpAny (model X.prog X.w) X.A (handleBy e X.env [.ExceptHandler (some (.Name x np)) (some n) [.Assign [.Name y p1] (.Name n p2) p3] pos']) (SP X pins D) X.xe s₃) X.xe s₂) X.xe s₁) (fun u s' xx => ?_) PassesOwn.looking).run [] s σ H D (I.toTry _) h) (fun f s1 hsp => ?_) (fun e s1 he => he)
  · -- the catch
    obtain ⟨a, B, sI, pins', σ', H', cls, d, rfl, J', nb, up, sky, na, os, ag, b, hb1, hyes, hno⟩ := xx
    have J : Inv X pins σ' H' sI := J'.ofTry ok
    have sky' : Sky B (X.env :: X.outer) a (Zc cls d) X.env.locals s'.heap := by rw [← hs]; exact sky
    show wpAny (model X.prog X.w) X.A (noteFrame (.ref a) X.env) _ _ _
    refine Sky.land Zc.steady hfr hf sky' fun h3 fl3 up3 => ?_
    have J3 : Inv X pins σ' H' { s' with heap := h3 } := J.landed nb fl3.1 (up.trans up3) os ag
    obtain ⟨oe3, vs3, he3, hz3, hd3⟩ := fl3.there
    have notFr : ∀ {h : Heap} {o : Obj} {vs : Array Value}, h.FunFrames B (X.env :: X.outer) → h.get? a = some o → o.data = .fields vs → a ∉ frs (X.env :: X.outer) := fun {h o vs} ff e dd hm => by
      obtain ⟨_, o', e', hnf⟩ := ff.mem hm
      rw [e] at e'; cases e'
      exact hnf _ dd
    have nfr := notFr fl3.2.2.1 he3 hd3
    have nL : a ≠ X.env.locals := fun z => nfr (List.mem_filterMap.mpr ⟨X.env, List.mem_cons_self, by rw [hf, z]⟩)
    have nF : a ∉ X.fs := fun hm => by
      obtain ⟨e, he, q⟩ := List.mem_filterMap.mp hm
      exact nfr (List.mem_filterMap.mpr ⟨e, List.mem_cons_of_mem _ he, q⟩)
    have nB : B.get? a = none := fl3.2.1
    have nfrX : a ∉ frs X.stack := by rw [hs]; exact nfr
    have n0 : X.s_0.heap.get? a = none := by
      cases q : X.s_0.heap.get? a with
      | none => rfl
      | some o =>
        obtain ⟨o', q'⟩ := J.base.there a o q (by rw [hex]; exact fun z => nomatch z)
        have := nb a o' q' nfrX
        rw [nB] at this
        cases this
    have np' : ∀ p ∈ X.pn ++ pins, p.1 ≠ a := fun p hp e => by
      obtain ⟨e1, _, e3, e4, _⟩ := J.pin p hp
      have hns : p.1 ∉ frs X.stack := fun hm => by
        rcases List.mem_cons.mp (J.stkSub _ hm) with z | z
        · exact e3 z
        · exact e4 z
      have := nb p.1 p.2 e1 hns
      rw [e, nB] at this
      cases this
    have S3 := J3.suite he3 hd3 na nL nF
    refine wpAny_handleBy_cons (codeAny_handlers_test ?_) (by intro q; cases q)
    have LT : PySem.W.Looks (model X.prog X.w) h3 (typeOf (.ref a)) cls := fun A Q E s k q => wpAny_typeOf_ref (k _ _ he3) (by rw [hz3.1]; exact q)
    have LM := PySem.W.exm_one (M := model X.prog X.w) (J3.kIn) LT hb1
    have test : ∀ {Q : Value → Shared → Prop} {E : Value → Shared → Prop}, Q c { s' with heap := h3 } → wpAny (model X.prog X.w) (X.A.mark (some (.ref a))) (eval (.Name x np) X.env) Q E { s' with heap := h3 } := fun {Q E} q => by
      obtain ⟨hg, hdbg, hm | ⟨hm, hv, hnn⟩⟩ := hc
      · exact ld_glob (X := X.suite a ((a, oe3) :: (X.pn ++ pins))) S3 hg hm q hdbg
      · exact ld_blt (X := X.suite a ((a, oe3) :: (X.pn ++ pins))) S3 hg hm hv q hnn hdbg
    refine test (LM.here ?_)
    cases b with
    | true =>
      obtain ⟨C, rfl, rfl, hnx⟩ := hyes rfl
      refine codeAny_handlers_suite_as ?_
      refine HandSPX.lands_againZ fl3 fun h4 fl4 up4 => ?_
      have J4 : Inv X pins σ' H' { s' with heap := h4 } := J.landed nb fl4.1 ((up.trans up3).trans up4) os ag
      obtain ⟨oe4, vs4, he4, hz4, hd4⟩ := fl4.there
      have S4 := J4.suite he4 hd4 na nL nF
      refine store_ok (X := X.suite a ((a, oe4) :: (X.pn ++ pins))) (v := .ref a) S4 hN hi hloc rfl (fun s5 S5 => ?_) (.inr hln)
      have hsu : PSs (X.suite a ((a, oe4) :: (X.pn ++ pins))) [.Assign [.Name y p1] (.Name n p2) p3] (tAsg (tVar i) (gName j)) :=
        pss_one (ps_set (X := X.suite a ((a, oe4) :: (X.pn ++ pins))) hN hj (.inl hly) (pe_var (X := X.suite a ((a, oe4) :: (X.pn ++ pins))) (i := i) hi hvn hdn hcn) hsw (.inr hly))
      have hlen : i < σ'.length := by
        rw [J.len]
        exact (List.getElem?_eq_some_iff.mp hi).1
      have hget : (σ'.set i (some (.ref a)))[i]? = some (some (V.ref a)) := List.getElem?_set_self hlen
      refine wpAny_mono (hsu.run [] s5 _ H' { nx := fun σ6 H6 => σ6 = (σ'.set i (some (.ref a))).set j (some (.ref a)) ∧ H6 = H', rt := fun _ _ => False } S5 ⟨_, hget, rfl, rfl⟩) (fun f s6 hsp => ?_) (fun _ _ z => False.elim z)
      cases f with
      | next =>
        obtain ⟨σ6, H6, S6, e61, e62⟩ := hsp
        rw [e61, e62] at S6
        have J6 : Inv X ((a, oe4) :: pins) ((σ'.set i (some (.ref a))).set j (some (.ref a))) H' s6 :=
          ⟨ok, S6.os, S6.bare, S6.base, S6.loc, S6.cell, S6.free, S6.freeC, fun p hp => S6.pin p (List.mem_append_left _ (by
            rcases List.mem_append.mp hp with z | z
            · exact List.mem_cons_of_mem _ (List.mem_append_left _ z)
            · rcases List.mem_cons.mp z with z | z
              · rw [z]; exact List.mem_cons_self
              · exact List.mem_cons_of_mem _ (List.mem_append_right _ z))), S6.hok, S6.len⟩
        show wpAny (model X.prog X.w) X.A (do bindName X.env n .none; unbindBehindTheSuite X.env n pos') _ X.xe s6
        refine gone_ok J6 hN hi hln fun s7 J7 => ?_
        have e7 : ((σ'.set i (some (V.ref a))).set j (some (.ref a))).set i none = (σ'.set j (some (.ref a))).set i none := by
          rw [List.set_comm _ _ hij, List.set_set]
        rw [e7] at J7
        exact ⟨_, _, J7.adopt hz4 hd4 n0 np', hnx a na⟩
      | brk =>
        obtain ⟨_, _, _, z⟩ := hsp
        exact z.elim
      | cont =>
        obtain ⟨_, _, _, z⟩ := hsp
        exact z.elim
      | ret u =>
        obtain ⟨_, _, _, _, _, z⟩ := hsp
        exact z.elim
    | false =>
      show wpAny _ X.A (handleBy (.ref a) X.env []) _ _ _
      refine wpAny_handleBy_nil ?_
      obtain ⟨k1, k2, k3, oe, vs, T, oT, ts', he, hz, hd, h1, hr⟩ := id fl3
      unfold PySem.passOn
      refine wpAny_bind (wpAny_field he hd h1 ?_)
      rw [if_neg (show ¬ ((Value.ref T == Value.none) = true) from by simp)]
      have fin : wpAny (model X.prog X.w) X.A (setFlight (.ref a) X.env.frame) (fun _ s4 => wpAny (model X.prog X.w) X.A (throw (.ref a) : Sem Flow) (SP X pins D) X.xe s4) X.xe { s' with heap := h3 } := by
        rw [hf]
        refine HandSPX.setFlight_upZ fl3 fun h4 hh4 up4 => wpAny_throw (tk _ _ ?_)
        exact ⟨a, B, sI, pins, σ', H', cls, d, rfl, J, nb, (up.trans up3).trans up4, .inr (.inr (by rw [hs]; exact hh4)), na, os, ag, hno rfl⟩
      first
        | exact wpAny_bind (wpAny_pure (wpAny_bind fin))
        | exact wpAny_bind fin
  · cases f with
    | next =>
      obtain ⟨σ', H', J', q⟩ := hsp
      exact wpAny_execs_nil ⟨σ', H', J'.ofTry ok, q⟩
    | brk =>
      obtain ⟨σ', H', J', q⟩ := hsp
      exact ⟨σ', H', J'.ofTry ok, q⟩
    | cont =>
      obtain ⟨σ', H', J', q⟩ := hsp
      exact ⟨σ', H', J'.ofTry ok, q⟩
    | ret u =>
      obtain ⟨v, σ', H', J', r, q⟩ := hsp
      exact ⟨v, σ', H', J'.ofTry ok, r, q⟩
end
end L2
/-! caught exceptions: their class asked for; own classes by name; try: f(..) / except C as e: y = e -/
namespace DL
open PySem PySem.Spec PyProof.Rows L2
/-- what isinstance tells of an exception of the class called c, of the classes in l -/
structure XIs (K : PySem.W.Frag) (c : Str) (l : List (Str × Bool)) : Prop where
  ex : ∃ C : Addr, PySem.W.nsIn K mainGlobals c = some (some (.ref C)) ∧ ExcC K C ∧ PySem.W.kitOne K (.ref C) (.type "ValueError") = some true ∧ ∀ q ∈ l, ∃ C' : Addr, PySem.W.nsIn K mainGlobals q.1 = some (some (.ref C')) ∧ PySem.W.kitOne K (.ref C) (.ref C') = some q.2
abbrev XTab := List (Str × List (Str × Bool))
def XTok (K : PySem.W.Frag) (T : XTab) : Prop := ∀ q ∈ T, XIs K q.1 q.2
def lookX {α : Type} : List (Str × α) → Str → Option α
  | [], _ => none
  | (a, b) :: r, x => if a = x then some b else lookX r x
theorem lookX_mem {α : Type} : ∀ {l : List (Str × α)} {x : Str} {b : α}, lookX l x = some b → (x, b) ∈ l
  | [], _, _, h => by cases h
  | (a, b) :: r, x, c, h => by
    unfold lookX at h
    by_cases e : a = x
    · rw [if_pos e] at h
      cases h
      rw [e]
      exact List.mem_cons_self
    · rw [if_neg e] at h
      exact List.mem_cons_of_mem _ (lookX_mem h)
def anyX (l : List (Str × Bool)) : List D → Option Bool
  | [] => some false
  | .cls c :: r => match lookX l c, anyX l r with
    | some b, some b' => some (b || b')
    | _, _ => none
  | _ => none
def gIsX (T : XTab) : GN := fun xs S Q => match xs with
  | [.exc c, .cls c'] => ∃ l b, lookX T c = some l ∧ lookX l c' = some b ∧ Q (.bl b) S
  | [.exc c, .tup ds] => ∃ l b, lookX T c = some l ∧ anyX l ds = some b ∧ Q (.bl b) S
  | [.exc c, .ty n] => (lookX T c).isSome ∧ n = "ValueError" ∧ Q (.bl true) S
  | _ => False
def rIsX (K : PySem.W.Frag) : List V → Hp → VK → Prop := fun xs H Q => ∃ (a C : Addr) (c : V) (b : Bool), xs = [.ref a, c] ∧ H a = some (ExC a C) ∧ ExcC K C ∧
  ((∃ cv, ClsV c cv ∧ PySem.W.kitOne K (.ref C) cv = some b) ∨ ∃ (tp : Addr) (cs : List V) (us : List Value), c = .ref tp ∧ SqT K H tp cs ∧ Paired ClsV cs us ∧ PySem.W.kitAny K (.ref C) us = some b) ∧ Q (.bl b) H
section
variable {X : Cx}
theorem call_isX : CallR X (.builtin "isinstance") (rIsX X.K) := by
  intro pins s σ H xs us Q I r h
  obtain ⟨a, C, c, b, rfl, ha, EC, how, q⟩ := h
  obtain ⟨u1, u2, rfl, r1, r2⟩ := vals2 r
  cases (show u1 = Value.ref a from r1)
  obtain ⟨⟨oe, vs, e, hz, hd⟩, _⟩ := (show ObjOk X.prog X.w H s.heap a (ExC a C) from I.hok a _ ha)
  have J : PySem.W.InstAt s.heap a oe C none := by
    obtain ⟨oc, od, oda, osl⟩ := oe
    obtain ⟨h1, h2⟩ := hz
    dsimp only at h1 h2 hd
    subst h1 h2 hd
    exact ⟨e, rfl, rfl, trivial⟩
  have Z := PySem.W.handS_kitx_exc (x := a) (ox := oe) EC.hg EC.hk EC.hs EC.hd EC.ha EC.hn EC.ht EC.hm
  rcases how with ⟨cv, k, e2⟩ | ⟨tp, cs, ws, rfl, hT, k, e2⟩
  · have e3 := k.eq r2
    subst e3
    exact PySem.W.kia_one Z I.kIn J e2 (fun z => nomatch z) fun tk => ⟨.bl b, H, I.tok tk, rfl, q⟩
  · cases (show u2 = Value.ref tp from r2)
    obtain ⟨its, rv, ⟨o, h1, h2, n, h3⟩, _⟩ := I.tuple hT
    have e3 := ClsV.all k rv
    subst e3
    obtain ⟨oc, od, dt, sl⟩ := o
    simp only at h2 h3
    subst h2 h3
    exact PySem.W.kia_tup Z I.kIn J h1 e2 (fun z => nomatch z) fun tk => ⟨.bl b, H, I.tok tk, rfl, q⟩
theorem anyX_ok {K : PySem.W.Frag} {H : Hp} {C : Addr} {l : List (Str × Bool)} (hl : ∀ q ∈ l, ∃ C' : Addr, PySem.W.nsIn K mainGlobals q.1 = some (some (.ref C')) ∧ PySem.W.kitOne K (.ref C) (.ref C') = some q.2) :
    ∀ {ds : List D} {vs : List V} {b : Bool}, Reps K H vs ds → anyX l ds = some b → ∃ us, Paired ClsV vs us ∧ (PySem.W.kitAny K (.ref C) us = some b)
  | [], _, b, .nil, h => by
    cases h
    exact ⟨[], .nil, kitAny_nil⟩
  | d :: ds, _, b, .cons (v := v) (vs := vs) hr rr, h => by
    cases d with
    | cls c =>
      unfold anyX at h
      cases hr with
      | @cls C1 c n =>
        cases q : lookX l c with
        | none => rw [q] at h; cases h
        | some b1 =>
          obtain ⟨C', n', k⟩ := hl _ (lookX_mem q)
          rw [n] at n'
          cases n'
          cases q2 : anyX l ds with
          | none => rw [q, q2] at h; cases h
          | some b2 =>
            rw [q, q2] at h
            cases h
            obtain ⟨us, p, k2⟩ := anyX_ok hl rr q2
            exact ⟨_, .cons (.own C1) p, kitAny_cons (b := b1) k (fun e => by rw [e, k2]; rfl) fun e => by rw [e]; rfl⟩
    | _ => cases h
theorem b_isX {T : XTab} (hT : XTok X.K T) : CB X "isinstance" (gIsX T) := by
  refine ⟨_, call_isX, fun xs as S H Q Kt s r q k => ?_⟩
  match as, q with
  | [.exc c, .cls c'], q =>
    obtain ⟨v, v2, rfl, rv, rv2⟩ := reps2 r
    obtain ⟨l, b, h1, h2, q⟩ := q
    obtain ⟨C, n1, EC, _, hl⟩ := hT _ (lookX_mem h1)
    cases rv with
    | @exc a C0 c n h =>
      have n1 : PySem.W.nsIn X.K mainGlobals c = some (some (.ref C)) := n1
      rw [n] at n1
      cases n1
      cases rv2 with
      | @cls C1 c' n2 =>
        obtain ⟨C', n', kk⟩ := hl _ (lookX_mem h2)
        have n' : PySem.W.nsIn X.K mainGlobals c' = some (some (.ref C')) := n'
        rw [n2] at n'
        cases n'
        exact ⟨a, _, _, b, rfl, h, EC, .inl ⟨_, .own C1, kk⟩, k.now s (.bl _) q⟩
  | [.exc c, .ty n], q =>
    obtain ⟨v, v2, rfl, rv, rv2⟩ := reps2 r
    obtain ⟨h1, rfl, q⟩ := q
    obtain ⟨l, h1⟩ := Option.isSome_iff_exists.mp h1
    obtain ⟨C, n1, EC, kv, _⟩ := hT _ (lookX_mem h1)
    cases rv with
    | @exc a C0 c n h =>
      have n1 : PySem.W.nsIn X.K mainGlobals c = some (some (.ref C)) := n1
      rw [n] at n1
      cases n1
      cases rv2
      exact ⟨a, _, _, true, rfl, h, EC, .inl ⟨_, .ty _, kv⟩, k.now s (.bl _) q⟩
  | [.exc c, .tup ds], q =>
    obtain ⟨v, v2, rfl, rv, rv2⟩ := reps2 r
    obtain ⟨l, b, h1, h2, q⟩ := q
    obtain ⟨C, n1, EC, _, hl⟩ := hT _ (lookX_mem h1)
    cases rv with
    | @exc a C0 c n h =>
      have n1 : PySem.W.nsIn X.K mainGlobals c = some (some (.ref C)) := n1
      rw [n] at n1
      cases n1
      cases rv2 with
      | @tup tp vs ds hs rr =>
        obtain ⟨us, p, kk⟩ := anyX_ok hl rr h2
        exact ⟨a, _, _, b, rfl, h, EC, .inr ⟨tp, vs, us, rfl, hs, p, kk⟩, k.now s (.bl _) q⟩
/-- an own class by its name -/
structure ClsT (K : PySem.W.Frag) (mg : Str → Option Value) (c : Str) : Prop where
  ex : ∃ C : Addr, mg c = some (.ref C) ∧ PySem.W.nsIn K mainGlobals c = some (some (.ref C))
theorem c_cls {x : Str} {pos : Pos} (h : ClsT X.K X.mg x) (hg : Gl X x := by rfl) (hd : (x == ("__debug__" : Str)) = false := by decide) : CE X (.Name x pos) (eC (.cls x)) :=
  let ⟨C, h1, h2⟩ := h.ex; c_glob (v := .ref C) hg h1 rfl (fun _ => .cls h2) hd
/-- try: f(..) / except C as e: y = e; slot i is e's, slot j y's; L: the classes that C takes -/
def sKeep (i j n : Nat) (m : MFX) (fs : DA) (L : List Str) : DS := fun D0 σ S => fs σ S fun ds S1 => ds.length = n ∧ m ds S1 (fun _ S2 => D0.nx σ S2) fun c S2 => c ∈ L ∧ D0.nx ((setS j (.exc c) σ).set i none) S2
/-- .. z = f(..) .. -/
def sKeepS (i j z n : Nat) (m : MFX) (fs : DA) (L : List Str) : DS := fun D0 σ S => fs σ S fun ds S1 => ds.length = n ∧ m ds S1 (fun d S2 => D0.nx (setS z d σ) S2) fun c S2 => c ∈ L ∧ D0.nx ((setS j (.exc c) σ).set i none) S2
variable {a : Expr} {es : List Expr} {fs : DA} {pos : Pos}
/-- what is told of a kept exception -/
theorem keep_rch {i j : Nat} {σ : Env} {S S2 : Sto} {H H2 : Hp} {sv : L2.St} {D0 : DEnds} {Dv : Ends} {K : PySem.W.Frag} {c : Str} {C b : Addr} (re : ERep K H sv σ) (k : RchE K S H D0 Dv) (s2 : Stp K S H S2 H2) (r2 : SRep K S2 H2) (n : PySem.W.nsIn K mainGlobals c = some (some (.ref C))) (hb : H2 b = none)
    (q : D0.nx ((setS j (.exc c) σ).set i none) S2) : Dv.nx ((sv.set j (some (.ref b))).set i none) (upd H2 b (ExC b C)) := by
  have tx := tx_new (K := K) (ho := ExC b C) hb
  have r3 : SRep K S2 (upd H2 b (ExC b C)) := fun a o e => (r2 a o e).mono tx (upd_ne (neS e (r2.free hb)))
  have st : Stp K S2 H2 S2 (upd H2 b (ExC b C)) := ⟨tx, fun z o a e n => ⟨a, by rw [upd_ne (ne_of_none e hb)]; exact e⟩, fun z ob u e => by rw [upd_ne (ne_of_none e hb)]; exact e⟩
  have e3 := ((re.mono s2.tx).mono tx).set (i := j) (v := .ref b) (d := .exc c) (.exc n upd_same)
  exact k.nx _ _ _ _ (s2.trans st) r3 (e3.wipe1 (i := i)) q
end
end DL
namespace DL
open PySem PySem.Spec PyProof.Rows L2
/-- an except clause's class, and classes that it takes -/
structure HndT (K : PySem.W.Frag) (mg : Str → Option Value) (c0 : Str) (L : List Str) : Prop where
  ex : ∃ C : Addr, mg c0 = some (.ref C) ∧ ∀ c ∈ L, ∃ C' : Addr, mg c = some (.ref C') ∧ PySem.W.nsIn K mainGlobals c = some (some (.ref C')) ∧ PySem.W.exmOne K (.ref C') (.ref C) = some true
section
variable {X : Cx} {a : Expr} {es : List Expr} {fs : DA} {pos : Pos}
end
end DL
namespace DL
open PySem PySem.Spec PyProof.Rows L2
section
variable {K : PySem.W.Frag} {h : Heap} {mg : Str → Option Value} {c : Str} {C C' : Addr} {b : Bool} {L : List Str}
theorem kitOne_own (hs : PySem.W.subIn K (.ref C) (.ref C) = some true) (hd : PySem.W.isClsIn K C' = true) (ht : PySem.W.typeIn K (.ref C') = some (.type "type")) (hb : PySem.W.subIn K (.ref C) (.ref C') = some b) : PySem.W.kitOne K (.ref C) (.ref C') = some b := by
  unfold PySem.W.kitOne
  by_cases e : C = C'
  · subst e
    rw [hs] at hb
    cases hb
    rw [if_pos (beq_self_eq_true _)]
  · rw [if_neg (fun z => e (Value.ref.inj (beq_iff_eq.mp z)))]
    unfold PySem.W.kitCls
    have e2 : ((PySem.W.clsIn K C').isSome && PySem.W.typeIn K (.ref C') == some (.type "type")) = true := by
      have h2' : (PySem.W.clsIn K C').isSome = true := hd
      rw [h2', ht] <;> rfl
    show (if ((PySem.W.clsIn K C').isSome && PySem.W.typeIn K (.ref C') == some (.type "type")) = true then PySem.W.subIn K (.ref C) (.ref C') else none) = some b
    rw [if_pos e2]
    exact hb
theorem kitOne_ve (hb : PySem.W.subIn K (.ref C) (.type "ValueError") = some true) : PySem.W.kitOne K (.ref C) (.type "ValueError") = some true := by
  unfold PySem.W.kitOne
  rw [if_neg (fun z => by cases beq_iff_eq.mp z)]
  show (if PySem.W.kitMeta "ValueError" = true then PySem.W.subIn K (.ref C) (.type "ValueError") else none) = some true
  rw [if_pos (by decide +kernel)]
  exact hb
theorem clsT_mk (X : K.In h) (G : h.Ns mainGlobals mg) (a : PySem.W.nsIn K mainGlobals c = some (some (.ref C))) : ClsT K mg c := ⟨C, PySem.W.mg_of X G a, a⟩
theorem exT_mk (X : K.In h) (G : h.Ns mainGlobals mg) (a : PySem.W.nsIn K mainGlobals c = some (some (.ref C))) (x : PySem.W.excIn K C [.type "ValueError", .type "Exception", .type "BaseException", .type "object"] "ValueError.__new__" = true) (k : PySem.W.keepIn K (.ref C) = true)
    (bb : PySem.W.subIn K (.ref C) (.type "BaseException") = some true) (t : PySem.W.typeIn K (.ref C) = some (.type "type")) : ExT K mg c := ⟨C, PySem.W.mg_of X G a, x, k, bb, t⟩
theorem sub_mk (a : PySem.W.nsIn K mainGlobals c = some (some (.ref C'))) (s : PySem.W.subIn K (.ref C') (.ref C) = some true) : ∃ C' : Addr, PySem.W.nsIn K mainGlobals c = some (some (.ref C')) ∧ PySem.W.subIn K (.ref C') (.ref C) = some true := ⟨C', a, s⟩
theorem hndT_mk (X : K.In h) (G : h.Ns mainGlobals mg) (a : PySem.W.nsIn K mainGlobals c = some (some (.ref C))) (bb : PySem.W.subIn K (.ref C) (.type "BaseException") = some true) (hd : PySem.W.hasDictIn K C = true) (t : PySem.W.typeIn K (.ref C) = some (.type "type"))
    (hl : ∀ c ∈ L, ∃ C' : Addr, PySem.W.nsIn K mainGlobals c = some (some (.ref C')) ∧ PySem.W.subIn K (.ref C') (.ref C) = some true) : HndT K mg c L :=
  ⟨C, PySem.W.mg_of X G a, fun c1 hc => let ⟨C', h1, h2⟩ := hl c1 hc; ⟨C', PySem.W.mg_of X G h1, h1, PySem.W.exm_ref bb hd t h2⟩⟩
theorem isa_mk {q : Str × Bool} (a : PySem.W.nsIn K mainGlobals q.1 = some (some (.ref C'))) (hd : PySem.W.isClsIn K C' = true) (ht : PySem.W.typeIn K (.ref C') = some (.type "type")) (hb : PySem.W.subIn K (.ref C) (.ref C') = some q.2) :
    ∃ C' : Addr, PySem.W.nsIn K mainGlobals q.1 = some (some (.ref C')) ∧ PySem.W.isClsIn K C' = true ∧ PySem.W.typeIn K (.ref C') = some (.type "type") ∧ PySem.W.subIn K (.ref C) (.ref C') = some q.2 := ⟨C', a, hd, ht, hb⟩
theorem xis_mk {l : List (Str × Bool)} (a : PySem.W.nsIn K mainGlobals c = some (some (.ref C))) (e1 : PySem.W.findIn K (.ref C) "__getattribute__" = some (some (.builtin "BaseException.__getattribute__"))) (e2 : PySem.W.findIn K (.ref C) "__getattr__" = some none)
    (e3 : PySem.W.subIn K (.ref C) (.type "BaseException") = some true) (e4 : PySem.W.hasDictIn K C = true) (e5 : PySem.W.findIn K (.ref C) "__class__" = some (some (.builtin "object.__class__"))) (e6 : PySem.W.specialIn K (.builtin "object.__class__") "__get__" = some (some (.builtin "getset_descriptor.__get__")))
    (e7 : PySem.W.takesIn K (.builtin "object.__class__") = some true) (e8 : PySem.W.mroIn K C (.type "object") = some true) (ve : PySem.W.subIn K (.ref C) (.type "ValueError") = some true) (hs : PySem.W.subIn K (.ref C) (.ref C) = some true)
    (hl : ∀ q ∈ l, ∃ C' : Addr, PySem.W.nsIn K mainGlobals q.1 = some (some (.ref C')) ∧ PySem.W.isClsIn K C' = true ∧ PySem.W.typeIn K (.ref C') = some (.type "type") ∧ PySem.W.subIn K (.ref C) (.ref C') = some q.2) : XIs K c l :=
  ⟨C, a, ⟨e1, e2, e3, e4, e5, e6, e7, e8⟩, kitOne_ve ve, fun q hq => let ⟨C', h1, h2, h3, h4⟩ := hl q hq; ⟨C', h1, kitOne_own hs h2 h3 h4⟩⟩
end
end DL
/-! sorted of tuples that are alike up to the first place that differs -/
namespace DL
open PySem PySem.Spec PyProof.Rows L2 PySem.W PySem.Calls PySem.SeqAt
def likeL : List PyData → List PyData → Bool
  | p :: ps, q :: qs => alike p q && (!(PyData.eqv p q) || likeL ps qs)
  | _, _ => true
def LikeAll (ds : List PyData) : Prop := ∀ d ∈ ds, ∃ p ps, d = .tuple (p :: ps) ∧ ∀ e ∈ ds, ∃ q qs, e = .tuple (q :: qs) ∧ likeL (p :: ps) (q :: qs) = true
section
variable {prog : Program} {w : World} {A : Around} {s : Shared}
end
section
/-- sorted(xs), where the data are told by enc -/
def rSE (K : PySem.W.Frag) : List V → Hp → VK → Prop := fun vs H Q => ∃ (a : Addr) (xs : List V) (ds : List D) (S : Sto) (kd : D → PyData), vs = [V.ref a] ∧ (SqL K H a xs ∨ SqT K H a xs) ∧ Reps K H xs ds ∧ SRep K S H ∧
  (∀ d ∈ ds, PD S d (kd d)) ∧ LikeAll (ds.map kd) ∧ (∀ d ∈ ds, (kd d).depth ≤ 32) ∧
  ∀ (p : Addr) (ys : List V), H p = none → Reps K H ys (ds.mergeSort (dataLe false kd)) → Q (.ref p) (upd H p (.lst ys))
/-- sorted of data, by themselves -/
def gSorted3 : GN := fun xs S Q => ∃ d ds kd, xs = [d] ∧ (itmD S d = some ds ∨ d = .tup ds) ∧ (∀ x ∈ ds, PD S x (kd x)) ∧ LikeAll (ds.map kd) ∧ (∀ x ∈ ds, (kd x).depth ≤ 32) ∧
  ∀ n, S n = none → Q (.ref n) (updS S n (.lst (ds.mergeSort (dataLe false kd))))
/-- sorted: all of these -/
def gSortedB : GN := fun xs S Q => gSortedA xs S Q ∨ gSorted3 xs S Q
end
end DL
/-! x in a list or tuple of data; list.count of data; a tuple whose first thing may raise -/
namespace DL
open PySem PySem.Spec PyProof.Rows L2
section
variable {X : Cx} {K : PySem.W.Frag} {S : Sto} {H : Hp} {a : Expr} {es : List Expr} {fs : DA} {fa : DEX} {pos : Pos}
def gInP (f : Bool → Bool) : G2 := fun x y S Q => ∃ px q ps, PD S x px ∧ PD S y q ∧ (q = .list ps ∨ q = .tuple ps) ∧ px.depth ≤ 64 ∧ Q (.bl (f (ps.any fun p => PyData.eqv p px))) S
def rInP (K : PySem.W.Frag) (f : Bool → Bool) : R2 := fun x y H Q => ∃ d e ps, Dp K H x d ∧ Dp K H y e ∧ (e = .list ps ∨ e = .tuple ps) ∧ d.plain = true ∧ e.plain = true ∧ d.depth ≤ 64 ∧ Q (.bl (f (ps.any fun p => PyData.eqv p d))) H
theorem least_le {m n c : Nat} (h : n ≤ 64) (hc : c + 200 < cLine) : c + 1 + min m n < cLine := by
  have := Nat.min_le_right m n
  omega
theorem units200 {k : Nat} {A : Around} (h : RoomG k A) : A.units + 200 < cLine := by
  have := h.un
  omega
/-- xs.count(x) -/
def gCount : D → GN := fun x vs S Q => match x, vs with
  | .ref p, [d] => ∃ xs ps q, S p = some (.lst xs) ∧ PDs S xs ps ∧ PD S d q ∧ q.depth ≤ 64 ∧ Q (.int (ps.countP fun y => PyData.eqv y q)) S
  | _, _ => False
def rCnt (K : PySem.W.Frag) : V → List V → Hp → VK → Prop := fun x vs H Q => ∃ v d ps, vs = [v] ∧ Dp K H v d ∧ Dp K H x (.list ps) ∧ d.plain = true ∧ PyData.plainAll ps = true ∧ d.depth ≤ 64 ∧ Q (.int (ps.countP fun y => PyData.eqv y d)) H
/-- a tuple whose first thing may raise -/
def xTup1 (fa : DEX) (fs : DA) : DEX := fun Ed σ S Q => fa Ed σ S fun d S1 => fs σ S1 fun ds S2 => ds.length + 1 ≤ sizeLine ∧ Q (.tup (d :: ds)) S2
end
end DL
/-! dicts whose keys are tuples; a call of a local name that holds a def -/
namespace DL
open PySem PySem.Spec PyProof.Rows L2
def toKeys : List D → Option (List Key)
  | [] => some []
  | d :: r => match toKey d, toKeys r with
    | some k, some ks => some (k :: ks)
    | _, _ => none
def kD : Key → D
  | .inl i => .int i
  | .inr s => .str s
def upD : D → D
  | .kt ks => .tup (ks.map kD)
  | .nt xs => .tup xs
  | d => d
section
variable {X : Cx} {K : PySem.W.Frag} {e a b c : Expr} {es : List Expr} {fe fa fb fc : DE} {fs : DA} {pos : Pos} {S : Sto} {H : Hp}
theorem rep_kD : ∀ k : Key, Rep K H (kV k) (kD k)
  | .inl i => .int i
  | .inr s => .str s
theorem reps_kD : ∀ ks : List Key, Reps K H (ks.map kV) (ks.map kD)
  | [] => .nil
  | k :: r => .cons (rep_kD k) (reps_kD r)
theorem Rep.up {v : V} {d : D} (r : Rep K H v d) : Rep K H v (upD d) := by
  cases r with
  | kt h => exact .tup (.inl (.inl h)) (reps_kD _)
  | nt h r => exact .tup h.sq r
  | non => exact .non
  | bl b => exact .bl b
  | int i => exact .int i
  | str s => exact .str s
  | ref a => exact .ref a
  | ty n => exact .ty n
  | tup h r => exact .tup h r
  | fl h r => exact .fl h r
  | exc n h => exact .exc n h
  | cls n => exact .cls n
/-- a tuple that is to be a key -/
def eTupK (fs : DA) : DE := fun σ S Q => fs σ S fun xs S1 => xs.length ≤ sizeLine ∧ ∃ ks, toKeys xs = some ks ∧ Q (.kt ks) S1
/-- a key as a tuple -/
def eUp (f : DE) : DE := fun σ S Q => f σ S fun d S1 => Q (upD d) S1
def eDictT0 : DE := fun _ S Q => ∀ p, S p = none → Q (.ref p) (updS S p (.dt []))
/-- list(d), the keys tuples -/
def gListK : GN := fun xs S Q => match xs with
  | [.ref q] => ∃ kvs, S q = some (.dt kvs) ∧ ∀ p, S p = none → Q (.ref p) (updS S p (.lst (kvs.map fun kv => .kt kv.1)))
  | _ => False
end
/-! a call of a local name that holds a def of a table -/
abbrev FTab := List (Str × MF)
structure FtOk (P : Program) (w : World) (K : PySem.W.Frag) (mg : Str → Option Value) (base : Heap) (k n : Nat) (tab : FTab) : Prop where
  ok : ∀ c m, (c, m) ∈ tab → ∃ j, j ≤ k ∧ Okf P w K mg base j c n m
def eCallV (i n : Nat) (tab : FTab) (fs : DA) : DE := fun σ S Q => ∃ c m, getS i σ = some (.cls c) ∧ (c, m) ∈ tab ∧ fs σ S fun ds S1 => ds.length = n ∧ m ds S1 Q
def tCallV (K : PySem.W.Frag) (i n : Nat) (tab : FTab) (t : TA) : TE := fun σ H Q => ∃ c m C, σ[i]? = some (some (.ref C)) ∧ PySem.W.nsIn K mainGlobals c = some (some (.ref C)) ∧ (c, m) ∈ tab ∧ t σ H fun vs H1 => spD K n m vs H1 Q (fun _ _ _ => False)
section
variable {X : Cx} {e : Expr} {es : List Expr} {fs : DA} {pos : Pos}
end
end DL
/-! sorted(xs, key=lambda x: ..), the lambda's captured names too -/
namespace DL
open PySem PySem.Spec PyProof.Rows L2 LamX NdefX
/-- tuples and lists of H, locked as they stand in h -/
def lkH (h : Heap) (H : Hp) : Hp := fun b => match H b with
  | some (.tup xs) => (h.get? b).map fun o => .frz o (.tup xs)
  | some (.lst xs) => (h.get? b).map fun o => .frz o (.lst xs)
  | some (.frz o (.tup xs)) => some (.frz o (.tup xs))
  | some (.frz o (.lst xs)) => some (.frz o (.lst xs))
  | _ => none
theorem lkH_none {h : Heap} {H : Hp} {b : Addr} (e : H b = none) : lkH h H b = none := by
  unfold lkH
  rw [e]
theorem lkH_some {h : Heap} {H : Hp} {b : Addr} {u : HO} (e : lkH h H b = some u) : ∃ o w, u = .frz o w ∧ ((H b = some w ∧ h.get? b = some o) ∨ H b = some (.frz o w)) ∧ ((∃ xs, w = .tup xs) ∨ ∃ xs, w = .lst xs) := by
  unfold lkH at e
  cases q : H b with
  | none => rw [q] at e; cases e
  | some v =>
    rw [q] at e
    cases v with
    | tup xs =>
      obtain ⟨o, e1, e2⟩ := Option.map_eq_some_iff.mp e
      exact ⟨o, _, e2.symm, .inl ⟨rfl, e1⟩, .inl ⟨xs, rfl⟩⟩
    | lst xs =>
      obtain ⟨o, e1, e2⟩ := Option.map_eq_some_iff.mp e
      exact ⟨o, _, e2.symm, .inl ⟨rfl, e1⟩, .inr ⟨xs, rfl⟩⟩
    | frz o u2 =>
      cases u2 with
      | tup xs => cases e; exact ⟨o, _, rfl, .inr rfl, .inl ⟨xs, rfl⟩⟩
      | lst xs => cases e; exact ⟨o, _, rfl, .inr rfl, .inr ⟨xs, rfl⟩⟩
      | _ => cases e
    | _ => cases e
section
variable {P : Program} {w : World} {K : PySem.W.Frag} {h h1 : Heap} {H : Hp}
theorem lkH_tup {a : Addr} {xs : List V} (ok : HOk P w H h) (k : ∀ b o, H b ≠ none → h.get? b = some o → h1.get? b = some o) (e : Rd H a (.tup xs)) : Rd (lkH h1 H) a (.tup xs) := by
  rcases e with e | ⟨o, e⟩
  · obtain ⟨_, its, r, o, e1, _⟩ := (show ObjOk P w H h a (.tup xs) from ok a _ e)
    refine .inr ⟨o, ?_⟩
    unfold lkH
    rw [e]
    dsimp only
    rw [k a o (by rw [e]; exact fun z => by cases z) e1]
    rfl
  · refine .inr ⟨o, ?_⟩
    unfold lkH
    rw [e]
theorem lkH_lst {a : Addr} {xs : List V} (ok : HOk P w H h) (k : ∀ b o, H b ≠ none → h.get? b = some o → h1.get? b = some o) (e : H a = some (.lst xs)) : FrL K (lkH h1 H) a xs := by
  obtain ⟨_, its, n, r, e1⟩ := (show ObjOk P w H h a (.lst xs) from ok a _ e)
  refine .inl ⟨({ cls := .type "list", data := .seq its.toArray n } : Obj), ?_⟩
  unfold lkH
  rw [e]
  dsimp only
  rw [k a _ (by rw [e]; exact fun z => by cases z) e1]
  rfl
mutual
theorem rep_lk (ok : HOk P w H h) (k : ∀ b o, H b ≠ none → h.get? b = some o → h1.get? b = some o) : ∀ {v : V} {d : D}, Rep K H v d → nr d = true → Rep K (lkH h1 H) v d
  | _, _, .non, _ => .non
  | _, _, .bl b, _ => .bl b
  | _, _, .int b, _ => .int b
  | _, _, .str b, _ => .str b
  | _, _, .ty b, _ => .ty b
  | _, _, .ref b, hn => by unfold nr at hn; cases hn
  | _, _, .fl h r, hn => by unfold nr at hn; cases hn
  | _, _, .exc n h, hn => by unfold nr at hn; cases hn
  | _, _, .kt h, hn => by unfold nr at hn; cases hn
  | _, _, .nt h _, hn => by unfold nr at hn; cases hn
  | _, _, .cls n, hn => .cls n
  | _, _, .tup h2 r, hn => by
    unfold nr at hn
    refine .tup ?_ (reps_lk ok k r hn)
    rcases h2 with h2 | h2
    · exact .inl (lkH_tup ok k h2)
    · exact .inr h2
theorem reps_lk (ok : HOk P w H h) (k : ∀ b o, H b ≠ none → h.get? b = some o → h1.get? b = some o) : ∀ {vs : List V} {ds : List D}, Reps K H vs ds → nrs ds = true → Reps K (lkH h1 H) vs ds
  | _, _, .nil, _ => .nil
  | _, _, .cons h r, hn => by
    unfold nrs at hn
    rw [Bool.and_eq_true] at hn
    exact .cons (rep_lk ok k h hn.1) (reps_lk ok k r hn.2)
end
theorem lk_ok {w' : World} (ok : HOk P w H h) (k : ∀ b o, H b ≠ none → h.get? b = some o → h1.get? b = some o) : HOk P w (lkH h1 H) h1 := fun b u e => by
  obtain ⟨o, z, rfl, h4, h5⟩ := lkH_some e
  rcases h5 with ⟨xs, rfl⟩ | ⟨xs, rfl⟩
  · rcases h4 with ⟨h2, h3⟩ | h2
    · refine ⟨h3, ?_⟩
      obtain ⟨z, its, r, ob, e1, c⟩ := (show ObjOk P w H h b (.tup xs) from ok b _ h2)
      exact ⟨z, its, r, ob, k b ob (by rw [h2]; exact fun z => by cases z) e1, c⟩
    · obtain ⟨h3, z, its, r, ob, e1, c⟩ := (show ObjOk P w H h b (.frz o (.tup xs)) from ok b _ h2)
      have hne : H b ≠ none := by rw [h2]; exact fun z => by cases z
      exact ⟨k b o hne h3, z, its, r, ob, k b ob hne e1, c⟩
  · rcases h4 with ⟨h2, h3⟩ | h2
    · refine ⟨h3, ?_⟩
      obtain ⟨z, its, n, r, e1⟩ := (show ObjOk P w H h b (.lst xs) from ok b _ h2)
      exact ⟨z, its, n, r, k b _ (by rw [h2]; exact fun z => by cases z) e1⟩
    · obtain ⟨h3, z, its, n, r, e1⟩ := (show ObjOk P w H h b (.frz o (.lst xs)) from ok b _ h2)
      have hne : H b ≠ none := by rw [h2]; exact fun z => by cases z
      exact ⟨k b o hne h3, z, its, n, r, k b _ hne e1⟩
end
/-- what a captured name holds, as the lambda sees it while the list is sorted -/
def CapV (K : PySem.W.Frag) (H : Hp) (v : V) (d : D) : Prop := (Rep K H v d ∧ nr d = true) ∨ ∃ b vs ds, v = .ref b ∧ H b = some (.lst vs) ∧ Reps K H vs ds ∧ nrs ds = true ∧ d = .fl ds
abbrev lamNF (qual : Str) (params : Arguments) (scope : Scope) (cl : List (Str × Addr)) (c' : Addr) : NF := ⟨"<lambda>", qual, params, [], scope, cl, c'⟩
section
variable {X : Cx} {pins : List (Addr × Obj)} {σ : L2.St} {H : Hp} {s s1 : Shared}
/-- one call of the lambda while the list is sorted -/
theorem lam_turn {k : Nat} {f c' : Addr} {params : Arguments} {body : Expr} {scope : Scope} {pm ctv : Value} {qual px : Str} {N fr : List Str} {js : List Nat} {fb : DE} (I : Inv X pins σ H s)
    (hf : s.heap.get? f = some (PySem.W.kla_obj "<lambda>" qual params body scope (cloFrom X.env.cells scope.names []) pm c' ctv)) (hfn : H f = none) (hfr : f ∉ frs X.stack) (hco : H c' = some (CodeO c' qual))
    (Sn : NScope N [px] fr scope) (hfree : ∀ y ∈ scope.names, y.2 = .free → X.env.scope.names.lookup y.1 = some .cell ∨ X.env.scope.names.lookup y.1 = some .free) (hfr2 : ∀ y ∈ fr, (y, NameKind.free) ∈ scope.names) (hjs : js.map (fun j => X.N[j]?) = fr.map some)
    (hbind : ∀ (q : Str) (cl : List (Str × Addr)) (pm cv ctv u : Value), bindArgs (PySem.W.kla_fn "<lambda>" q params body scope cl pm cv ctv) ⟨[u], []⟩ = pure [(px, u)])
    (hbody : ∀ (A : Around) (outer : List PySem.Env) (s : Shared) (H : Hp) (E : XK) (cl : List (Str × Addr)) (f c' : Addr), RoomG k (A.deeper (envF (lamNF qual params scope cl c') f s.heap.objs.size)) → CE (ncx CX0 X.prog X.w X.K X.mg X.base N (lamNF qual params scope cl c') f A outer s H E) body fb)
    (hr : RoomG (k + 2) X.A) (old : ∀ b o, s.heap.get? b = some o → ∃ sl, s1.heap.get? b = some { o with slots := sl } ∧ (b ∉ frs X.stack → sl = o.slots)) (hos : s1.os = s.os) (hbare : AllBare s1.gens) (hsz : s.heap.objs.size ≤ s1.heap.objs.size)
    {cs : List D} (hcl : cs.length = js.length) (hcs : ∀ (i j : Nat) (d : D), js[i]? = some j → cs[i]? = some d → ∃ cv, σ[j]? = some (some cv) ∧ CapV X.K H cv d) (hNl : N.length = 1 + fr.length)
    {v : V} {u : Value} {d : D} {p : PyData} (rv : RelV v u) (rd : Rep X.K H v d) (hn : nr d = true) (hm : fb (some d :: cs.map some) S0 fun e _ => PD S0 e p) :
    wpAny (model X.prog X.w) X.A.in1.in1 (call (.ref f) [u]) (fun u' s2 => SK (frs X.stack) s1 s2 ∧ Reads s2.heap u' p []) (fun _ _ => False) s1 := by
  have E0 := I.env0
  have kp : ∀ b o, b ∉ frs X.stack → s.heap.get? b = some o → s1.heap.get? b = some o := fun b o hb e => by
    obtain ⟨sl, e1, k1⟩ := old b o e
    rw [k1 hb] at e1
    exact e1
  have kh : ∀ b o, H b ≠ none → s.heap.get? b = some o → s1.heap.get? b = some o := fun b o hb e => kp b o (fun z => hb (E0.frf b z)) e
  have basek : ∀ b o, X.base.get? b = some o → s1.heap.get? b = some o ∧ H b = none := fun b o e => by
    obtain ⟨e1, e2⟩ := E0.bs b o e
    exact ⟨kp b o (fun z => by have := (E0.funs.mem z).1; rw [e] at this; cases this) e1, e2⟩
  have hok0 : HOk X.prog X.w (lkH s1.heap H) s1.heap := lk_ok (w' := X.w) I.hok kh
  have env : Env0 X.prog X.w X.K X.mg X.base X.A.in1.in1 X.stack s1 (lkH s1.heap H) :=
    ⟨E0.in1.in1.frames, E0.mod, fun b o e => ⟨(basek b o e).1, lkH_none (basek b o e).2⟩, Nat.le_trans E0.bsz hsz, E0.funs.of_keeps fun b o e _ => let ⟨sl, e1, _⟩ := old b o e; ⟨_, e1, rfl⟩,
      fun b hb => lkH_none (E0.frf b hb), hok0, hbare⟩
  have room : RoomG (k + 1) X.A.in1.in1 := ⟨⟨hr.hd, by have := hr.dp; show X.A.depth + 3 * (k + 1) + 5 < _; omega, by have := hr.un; show X.A.units + 1 + 1 + 16 * (k + 1) + 200 < _; omega⟩, hr.gd⟩
  have ki : X.K.In s1.heap := E0.mod.kin.keeps fun b o e => (basek b o e).1
  have of1 := kp f _ hfr hf
  have C0 : CellsAt (cloFrom X.env.cells scope.names []) fr (js.map (slotAt σ)) s.heap H := cells_of I (.made I.ok hfree hfr2 hjs)
  have cellK : ∀ {c : Addr} {v : Option Value}, s.heap.IsCell c v → s1.heap.IsCell c v := fun {c v} ⟨o, ho, hd⟩ => by
    obtain ⟨sl, e1, _⟩ := old c o ho
    exact ⟨_, e1, hd⟩
  have C1 : CellsAt (lamNF qual params scope (cloFrom X.env.cells scope.names []) c').cl fr (js.map (slotAt σ)) s1.heap (lkH s1.heap H) :=
    ⟨C0.len, fun y c e => let ⟨n, v, z⟩ := C0.all y c e; ⟨lkH_none n, v, cellK z⟩, C0.inj, fun i y e => let ⟨c, hc, hv⟩ := C0.has i y e; ⟨c, hc, fun v ev => let ⟨u, r, z⟩ := hv v ev; ⟨u, r, cellK z⟩⟩⟩
  have hjl : js.length = fr.length := by have := congrArg List.length hjs; simpa using this
  obtain ⟨⟨oc, vs, t, hoc, hdc, hvc⟩, _, _⟩ := I.hok c' _ hco
  have hoc1 := kh c' oc (by rw [hco]; exact fun z => by cases z) hoc
  have lim : s1.heap.NoLimit := E0.mod.nolimit.keeps fun b o e => (basek b o e).1
  -- the names at the entry
  have er : ERep X.K (lkH s1.heap H) (startF N [v] (js.map (slotAt σ))) (some d :: cs.map some) := by
    have el : startF N [v] (js.map (slotAt σ)) = some v :: js.map (slotAt σ) := by
      unfold startF
      rw [List.length_map, show N.length - [v].length - js.length = 0 by rw [hNl]; show 1 + fr.length - 1 - js.length = 0; omega]
      simp
    rw [el]
    refine ⟨by simp [hcl], fun i d2 e => ?_⟩
    match i, e with
    | 0, e =>
      have e : some d = some d2 := e
      cases e
      exact ⟨v, rfl, rep_lk I.hok kh rd hn⟩
    | i + 1, e =>
      have e : getS i (cs.map some) = some d2 := e
      rw [getS_eq, List.getElem?_map] at e
      cases ec : cs[i]? with
      | none => rw [ec] at e; cases e
      | some d3 =>
        rw [ec] at e
        cases e
        have hi : i < js.length := by
          have := (List.getElem?_eq_some_iff.mp ec).1
          omega
        obtain ⟨cv, e1, e2⟩ := hcs i js[i] d2 (List.getElem?_eq_getElem hi) ec
        refine ⟨cv, ?_, ?_⟩
        · show (js.map (slotAt σ))[i]? = _
          rw [List.getElem?_map, List.getElem?_eq_getElem hi]
          show some (slotAt σ js[i]) = _
          rw [slotAt_of e1]
        · rcases e2 with ⟨e2, e3⟩ | ⟨b, ws, ds, rfl, e2, e3, e4, rfl⟩
          · exact rep_lk I.hok kh e2 e3
          · exact .fl (lkH_lst I.hok kh e2) (reps_lk I.hok kh e3 e4)
  refine wpAny_call (codeAny_mono (R := CR CX0 X.stack X.prog X.w (lkH s1.heap H) s1 (fun v' H' => ∃ e, Rep X.K H' v' e ∧ PD S0 e p) (fun _ _ _ => False)) ?_ fun r s' hq => ?_)
  · refine PySem.W.kla_callFunE room.depth of1 rfl Sn.co Sn.gen rfl ⟨c', oc, vs, t, rfl, hoc1, hdc, hvc⟩ ?_
    rw [hbind]
    refine wpAny_pure (wpAny_newFunctionEnv Sn.nocell (fun y hy => by rw [List.mem_singleton.mp hy]; exact Sn.par px (by simp)) (fun h₁ hns hsb => ⟨lim.fresh _ hsb, ?_⟩) Sn.kind)
    have kp1 : ∀ b o, s1.heap.get? b = some o → h₁.get? b = some o := fun b o e => hsb.extBut b o (Nat.ne_of_lt (Heap.lt_size e)) (Heap.get?_push_of_some _ e)
    have J : Inv (ncx CX0 X.prog X.w X.K X.mg X.base N (lamNF qual params scope (cloFrom X.env.cells scope.names []) c') f X.A.in1.in1 X.stack s1 (lkH s1.heap H) (fun _ _ _ => False)) [] (startF N [v] (js.map (slotAt σ))) (lkH s1.heap H) { s1 with heap := h₁, toks := s1.toks + [(px, u)].length } :=
      inv_startN (us := [u]) Sn room.hd env rfl (.cons rv .nil) C1 hns kp1
    obtain ⟨t, ht, hs⟩ := hbody X.A.in1.in1 X.stack s1 (lkH s1.heap H) (fun _ _ _ => False) (cloFrom X.env.cells scope.names []) f c' ⟨room.toRoom.deeper _, room.gd⟩
    refine PySem.W.kla_codeExpr (wpAny_mono (ht.run [] _ _ (lkH s1.heap H) (fun v' H' => ∃ e, Rep X.K H' v' e ∧ PD S0 e p) J (hs _ S0 _ _ _ _ er (fun _ _ z => by cases z) hm fun v' e' S' H' _ _ r q => ⟨e', r, q⟩)) (fun v s' hq => ?_) fun e s' hq => hq)
    obtain ⟨w', H', J', rv, q⟩ := hq
    exact ⟨w', H', J'.os, J'.bare, J'.base, J'.hok, rv, q⟩
  · cases r with
    | error e => exact hq.elim
    | ok fl =>
      cases fl with
      | ret u' =>
        obtain ⟨v', H', os, bare, un, hok', rv', e, re, pe⟩ := hq
        have sl : Sl (frs X.stack) s1.heap s'.heap := fun b o eb => by
          cases q : lkH s1.heap H b with
          | none =>
            by_cases hb : b ∈ frs X.stack
            · obtain ⟨sl, e1⟩ := un.slot b o eb q hb (by simp)
              exact ⟨sl, e1, fun z => absurd hb z⟩
            · exact ⟨o.slots, un.keep b o eb q hb (by simp), fun _ => rfl⟩
          | some w =>
            obtain ⟨o', w', rfl, _⟩ := lkH_some q
            have e1 := un.frzs b o' _ q
            have e2 := (show ObjOk X.prog X.w H' s'.heap b (.frz o' w') from hok' b _ e1).1
            have e3 := (show ObjOk X.prog X.w (lkH s1.heap H) s1.heap b (.frz o' w') from hok0 b _ q).1
            rw [eb] at e3
            cases e3
            exact ⟨o.slots, e2, fun _ => rfl⟩
        have ki' : X.K.In s'.heap := E0.mod.kin.keeps fun b o e => by
          obtain ⟨e1, e2⟩ := basek b o e
          exact un.keep b o e1 (lkH_none e2) (fun z => by have := (E0.funs.mem z).1; rw [e] at this; cases this) (by simp)
        exact ⟨⟨os, bare, sl⟩, key_reads hok' ki' pe re rv'⟩
      | next => exact hq.elim
      | brk => exact hq.elim
      | cont => exact hq.elim
end
end DL
namespace DL
open PySem PySem.Spec PyProof.Rows L2 LamX NdefX
section
open PySem.W
variable {X : Cx} {pins : List (Addr × Obj)} {σ : L2.St} {H : Hp} {s : Shared}
theorem sort_lam {k : Nat} {f c' a : Addr} {params : Arguments} {body : Expr} {scope : Scope} {pm ctv : Value} {qual px : Str} {N fr : List Str} {js : List Nat} {fb : DE} {Q : VK} (I : Inv X pins σ H s)
    (hf : s.heap.get? f = some (PySem.W.kla_obj "<lambda>" qual params body scope (cloFrom X.env.cells scope.names []) pm c' ctv)) (hfn : H f = none) (hfr : f ∉ frs X.stack) (hco : H c' = some (CodeO c' qual))
    (Sn : NScope N [px] fr scope) (hfree : ∀ y ∈ scope.names, y.2 = .free → X.env.scope.names.lookup y.1 = some .cell ∨ X.env.scope.names.lookup y.1 = some .free) (hfr2 : ∀ y ∈ fr, (y, NameKind.free) ∈ scope.names) (hjs : js.map (fun j => X.N[j]?) = fr.map some)
    (hbind : ∀ (q : Str) (cl : List (Str × Addr)) (pm cv ctv u : Value), bindArgs (PySem.W.kla_fn "<lambda>" q params body scope cl pm cv ctv) ⟨[u], []⟩ = pure [(px, u)])
    (hbody : ∀ (A : Around) (outer : List PySem.Env) (s : Shared) (H : Hp) (E : XK) (cl : List (Str × Addr)) (f c' : Addr), RoomG k (A.deeper (envF (lamNF qual params scope cl c') f s.heap.objs.size)) → CE (ncx CX0 X.prog X.w X.K X.mg X.base N (lamNF qual params scope cl c') f A outer s H E) body fb)
    (hr : RoomG (k + 2) X.A) (hNl : N.length = 1 + fr.length) {cs : List D} (hcl : cs.length = js.length) (hcs : ∀ (i j : Nat) (d : D), js[i]? = some j → cs[i]? = some d → ∃ cv, σ[j]? = some (some cv) ∧ CapV X.K H cv d)
    {xs : List V} {ds : List D} {kd : D → PyData} (hs : SqL X.K H a xs) (rp : Reps X.K H xs ds) (hm : ∀ d ∈ ds, nr d = true ∧ fb (some d :: cs.map some) S0 fun e _ => PD S0 e (kd d)) (hal : AllAlike (ds.map kd)) (hso : Sortable (ds.map kd)) (hd : ∀ d ∈ ds, (kd d).depth ≤ 32)
    (q : ∀ (p : Addr) (ys : List V), H p = none → Reps X.K H ys (ds.mergeSort (dataLe false kd)) → Q (.ref p) (upd H p (.lst ys))) :
    wpAny (model X.prog X.w) X.A (call (.builtin "sorted") [.ref a] [(Str.ofString "key", .ref f)]) (EP X pins σ Q) X.xe s := by
  obtain ⟨its, rv, hl, hz⟩ := I.list hs
  have ei := each_of rp rv
  have hlen : its.length = ds.length := ei.length
  have hlx : xs.length = its.length := rv.length
  have E0 := I.env0
  refine sorted_of_sort hl.isList (by rw [← hlx]; exact hz) (ksk_s1 _ _) (fun _ => ksk_l1 _ _) fun E' => ?_
  rw [ksk_t1]
  have hff : ∀ b ∈ frs X.stack, b < s.heap.objs.size := fun b hb => by
    obtain ⟨_, o, e, _⟩ := E0.funs.mem hb
    exact Heap.lt_size e
  have hc : ∀ b o, s.heap.get? b = some o → b ≠ s.heap.objs.size + 1 := fun b o e z => by
    have := Heap.lt_size e
    rw [z] at this
    exact Nat.lt_irrefl _ (Nat.lt_trans (Nat.lt_succ_self _) this)
  refine keyS_tree (kz := ds.map kd) (fs := frs X.stack) (s := { s with heap := copyHeap s.heap its }) I.bare (copyHeap_at s.heap its) (fun z => Nat.lt_irrefl _ (Nat.lt_trans (Nat.lt_succ_self _) (hff _ z))) (fun b hb => ?_) (by rw [List.length_map]; exact hlen.symm) (by rw [← hlx]; exact hz) hal hso (fun d hd2 => ?_)
    (fun i u kz hi hk s1 old hos hbare hat => ?_) fun s' out c hos hbare old hg ko => ?_
  · exact Nat.lt_of_lt_of_le (Nat.lt_trans (hff b hb) (Nat.lt_succ_self _)) (Nat.le_of_lt (Heap.lt_size (copyHeap_at s.heap its)))
  · obtain ⟨d0, h0, rfl⟩ := List.mem_map.mp hd2
    have := hd d0 h0
    have := hr.un
    show X.A.units + 1 + 1 + _ < _
    omega
  · obtain ⟨d, hd1, v, rv1, rd1⟩ := each_at ei hi
    have hkd : kz = kd d := by
      rw [List.getElem?_map, hd1] at hk
      cases hk
      rfl
    subst hkd
    have hmem := List.mem_of_getElem? hd1
    obtain ⟨o, ho⟩ := hat
    exact lam_turn I hf hfn hfr hco Sn hfree hfr2 hjs hbind hbody hr (fun b o e => old b o (hc b o e) (copyHeap_old e)) hos hbare (Nat.le_of_lt (Nat.lt_trans (Nat.lt_succ_self _) (Heap.lt_size ho))) hcl hcs hNl rv1 rd1 (hm d hmem).1 (hm d hmem).2
  · refine ⟨rfl, ?_⟩
    have eo := keyedOut_each kd ko ei
    obtain ⟨ys, yv, yr⟩ := of_each eo
    have np : H (s.heap.objs.size + 1) = none := I.hok.fresh (Nat.le_succ _)
    have ys_len : ys.length ≤ sizeLine := by
      have h1 := yv.length
      have h2 := eo.length
      rw [List.length_mergeSort] at h2
      omega
    have kp : ∀ b o, b ∉ frs X.stack → s.heap.get? b = some o → s'.heap.get? b = some o := fun b o hb e => by
      obtain ⟨sl, e1, k1⟩ := old b o (hc b o e) (copyHeap_old e)
      rw [k1 hb] at e1
      exact e1
    have un : Un (frs X.stack) [] H (upd H (s.heap.objs.size + 1) (.lst ys)) s.heap s'.heap :=
      { keep := fun b o e _ hb _ => kp b o hb e
        slot := fun b o e _ _ _ => let ⟨sl, e1, _⟩ := old b o (hc b o e) (copyHeap_old e); ⟨sl, e1⟩
        free := fun b o e n _ => by rw [upd_ne (hc b o e)]; exact n
        there := fun b o e _ => let ⟨sl, e1, _⟩ := old b o (hc b o e) (copyHeap_old e); ⟨_, e1⟩
        tups := fun b xs e => by rw [upd_ne (ne_of_none e np)]; exact e
        frzs := fun b o u e => by rw [upd_ne (ne_of_none e np)]; exact e
        tbls := fun b ps e => ⟨#[], by rw [upd_ne (ne_of_none e np)]; simpa using e⟩ }
    have hok : HOk X.prog X.w (upd H (s.heap.objs.size + 1) (.lst ys)) s'.heap := fun b o e => by
      by_cases hb : b = s.heap.objs.size + 1
      · subst hb
        rw [upd_same] at e
        cases e
        exact ⟨ys_len, out, c, yv, hg⟩
      · rw [upd_ne hb] at e
        refine (I.hok b o e).stay (fun b2 u h2 e2 => kp b2 u (fun z => ?_) e2) (fun b2 e2 => by rw [upd_ne (ne_of_none e2 np)]; exact e2) fun b2 xs e2 => by rw [upd_ne (ne_of_none e2 np)]; exact e2
        have n := E0.frf b2 z
        rcases h2 with rfl | h2
        · rw [e] at n; cases n
        · rw [h2] at n; cases n
    obtain ⟨hh, g, dr, t, os'⟩ := s'
    obtain rfl : os' = s.os := hos
    exact ⟨.ref _, _, I.call (h' := hh) (g' := g) (d' := dr) (t' := t) (ch := []) un hok hbare (fun b z => absurd z (by simp)), rfl, q _ ys np yr⟩
end
/-! ### the tables that the store tells -/
def tabsBelow (S : Sto) (n : Nat) : List (Addr × Str) := (List.range n).filterMap fun a => match S a with
  | some (.tab q) => some (a, q)
  | _ => none
theorem tabs_mem {S : Sto} {n : Nat} {a : Addr} {q : Str} (h : a < n) (e : S a = some (.tab q)) : (a, q) ∈ tabsBelow S n := by
  unfold tabsBelow
  rw [List.mem_filterMap]
  exact ⟨a, List.mem_range.mpr h, by rw [e]⟩
theorem tabs_in {S : Sto} {n : Nat} {p : Addr × Str} (h : p ∈ tabsBelow S n) : S p.1 = some (.tab p.2) := by
  unfold tabsBelow at h
  rw [List.mem_filterMap] at h
  obtain ⟨a, _, e⟩ := h
  cases ea : S a with
  | none => rw [ea] at e; cases e
  | some o =>
    rw [ea] at e
    cases o with
    | tab q => cases e; exact ea
    | _ => cases e
theorem srep_ext {K : PySem.W.Frag} {S : Sto} {H H1 : Hp} (rs : SRep K S H) (e : ExtN H H1) (t : ∀ a q, S a = some (.tab q) → TabS H1 a q) : Stp K S H S H1 ∧ SRep K S H1 := by
  have tx : Tx K H H1 := by
    refine ⟨fun a vs h => ?_, fun a vs h => ?_, fun a φ h => e a _ h (fun _ z => nomatch z), fun a vs h => e a _ h (fun _ z => nomatch z), fun a o vs h => e a _ h (fun _ z => nomatch z)⟩
    · rcases h with (h | ⟨o, h⟩) | h
      · exact .inl (.inl (e a _ h (fun _ z => nomatch z)))
      · exact .inl (.inr ⟨o, e a _ h (fun _ z => nomatch z)⟩)
      · exact .inr h
    · rcases h with ⟨o, h⟩ | h
      · exact .inl ⟨o, e a _ h (fun _ z => nomatch z)⟩
      · exact .inr h
  refine ⟨⟨tx, fun z o a b n => ⟨a, e z o b n⟩, fun z ob u b => e z _ b (fun _ z => nomatch z)⟩, fun a o h => ?_⟩
  have h0 := rs a o h
  cases o with
  | lst ds => obtain ⟨vs, e1, r⟩ := h0; exact ⟨vs, e a _ e1 (fun _ z => nomatch z), r.mono tx⟩
  | dk kvs => obtain ⟨vs, e1, r⟩ := h0; exact ⟨vs, e a _ e1 (fun _ z => nomatch z), KReps.mono tx r⟩
  | dt kvs => obtain ⟨vs, e1, r⟩ := h0; exact ⟨vs, e a _ e1 (fun _ z => nomatch z), TReps.mono tx r⟩
  | tab q => exact t a q h
  | fz kvs => obtain ⟨ob, vs, e1, r⟩ := h0; exact ⟨ob, vs, e a _ e1 (fun _ z => nomatch z), KReps.mono tx r⟩
/-! ### the rule -/
/-- what a slot holds, as the lambda sees it -/
def CapD (S : Sto) (σ : Env) (j : Nat) (d : D) : Prop := (getS j σ = some d ∧ nr d = true) ∨ ∃ b ds, getS j σ = some (.ref b) ∧ S b = some (.lst ds) ∧ nrs ds = true ∧ d = .fl ds
def keyedL (fb : DE) (cs : List D) (xs : List D) (R : List D → Prop) : Prop := ∃ kd : D → PyData, (∀ d ∈ xs, nr d = true ∧ fb (some d :: cs.map some) S0 fun e _ => PD S0 e (kd d)) ∧ PySem.W.AllAlike (xs.map kd) ∧ PySem.W.Sortable (xs.map kd) ∧ (∀ d ∈ xs, (kd d).depth ≤ 32) ∧ R (xs.mergeSort (PySem.W.dataLe false kd))
def eSortL (P : Addr) (q : Str) (js : List Nat) (fb : DE) (fa : DE) : DE := fun σ S Q => fa σ S fun x S1 => match x with
  | .ref p => S1 P = some (.tab q) ∧ ∃ xs cs, S1 p = some (.lst xs) ∧ cs.length = js.length ∧ (∀ (i j : Nat) (d : D), js[i]? = some j → cs[i]? = some d → CapD S1 σ j d) ∧ keyedL fb cs xs fun ys => ∀ n, S1 n = none → Q (.ref n) (updS S1 n (.lst ys))
  | _ => False
def SLq (K : PySem.W.Frag) (P : Addr) (q : Str) (js : List Nat) (fb : DE) (sv : L2.St) (Kt : VK) (v : V) (H1 : Hp) : Prop := ∃ (a : Addr) (xs : List V) (ds : List D) (kd : D → PyData) (S : Sto) (cs : List D), v = V.ref a ∧ SqL K H1 a xs ∧ Reps K H1 xs ds ∧ SRep K S H1 ∧ S P = some (.tab q) ∧ cs.length = js.length ∧
  (∀ (i j : Nat) (d : D), js[i]? = some j → cs[i]? = some d → ∃ cv, sv[j]? = some (some cv) ∧ ((Rep K H1 cv d ∧ nr d = true) ∨ ∃ b ds, cv = .ref b ∧ S b = some (.lst ds) ∧ nrs ds = true ∧ d = .fl ds)) ∧
  (∀ d ∈ ds, nr d = true ∧ fb (some d :: cs.map some) S0 fun e _ => PD S0 e (kd d)) ∧ PySem.W.AllAlike (ds.map kd) ∧ PySem.W.Sortable (ds.map kd) ∧ (∀ d ∈ ds, (kd d).depth ≤ 32) ∧
  ∀ (H2 : Hp) (p : Addr) (ys : List V), Stp K S H1 S H2 → SRep K S H2 → H2 p = none → Reps K H2 ys (ds.mergeSort (PySem.W.dataLe false kd)) → Kt (.ref p) (upd H2 p (.lst ys))
def tSL (K : PySem.W.Frag) (P : Addr) (q : Str) (js : List Nat) (fb : DE) (te : TE) : TE := fun sv H Kt => te sv H (SLq K P q js fb sv Kt)
def one1 (F : V → Hp → Prop) (vs : List V) (H : Hp) : Prop := match vs with
  | [v] => F v H
  | _ => False
theorem one1_v {F : V → Hp → Prop} {vs : List V} {H : Hp} (h : one1 F vs H) : ∃ v, vs = [v] ∧ F v H := by
  match vs, h with
  | [v], h => exact ⟨v, rfl, h⟩
section
variable {X : Cx}
theorem pe_sortLam {c P : Addr} {k : Nat} {e : Expr} {te : TE} {pos p lpos kpos : Pos} {params : Arguments} {body : Expr} {scope : Scope} {px q : Str} {N fr : List Str} {js : List Nat} {fb : DE}
    (TB : TabB X.base X.mg c P) (hcode : X.env.code = .ref c) (hq : X.env.qual ++ "<lambda>" = q) (hdef : defaultsOf params X.env = ([], []))
    (Sn : NScope N [px] fr scope) (hfree : ∀ y ∈ scope.names, y.2 = .free → X.env.scope.names.lookup y.1 = some .cell ∨ X.env.scope.names.lookup y.1 = some .free) (hfr2 : ∀ y ∈ fr, (y, NameKind.free) ∈ scope.names) (hjs : js.map (fun j => X.N[j]?) = fr.map some)
    (hbind : ∀ (q : Str) (cl : List (Str × Addr)) (pm cv ctv u : Value), bindArgs (PySem.W.kla_fn "<lambda>" q params body scope cl pm cv ctv) ⟨[u], []⟩ = pure [(px, u)])
    (hbody : ∀ (A : Around) (outer : List PySem.Env) (s : Shared) (H : Hp) (E : XK) (cl : List (Str × Addr)) (f c' : Addr), RoomG k (A.deeper (envF (lamNF q params scope cl c') f s.heap.objs.size)) → CE (ncx CX0 X.prog X.w X.K X.mg X.base N (lamNF q params scope cl c') f A outer s H E) body fb)
    (hr : RoomG (k + 2) X.A) (hNl : N.length = 1 + fr.length) (hm : X.mg "sorted" = none) (he : PE X e te) (hg : Gl X "sorted")
    (h1 : backTo pos (starEach [e] X.env) = (false, eval e X.env) :: backTo pos (starEach [] X.env)) (hpl : (backTo pos (starEach [e] X.env)).any (·.1) = false)
    (hall : (backToKw pos (keywordEach [⟨some (Str.ofString "key"), .Lambda params body scope lpos, kpos⟩] X.env)).all (·.1.isSome) = true) (hnone : (backToKw pos (keywordEach [⟨some (Str.ofString "key"), .Lambda params body scope lpos, kpos⟩] X.env)).any (·.1.isNone) = false)
    (hks : (backToKw pos (keywordEach [⟨some (Str.ofString "key"), .Lambda params body scope lpos, kpos⟩] X.env)).filterMap (·.1) = [Str.ofString "key"]) (hst : starEach [e] X.env = (false, eval e X.env) :: starEach [] X.env) :
    PE X (.Call (.Name "sorted" p) [e] [⟨some (Str.ofString "key"), .Lambda params body scope lpos, kpos⟩] pos) (tSL X.K P q js fb te) := by
  refine ⟨fun pins s σ H Q I h => ?_⟩
  refine wpAny_Call_Name_kw (ld_blt I hg hm (by rfl) ?_ (by decide +kernel) (by decide +kernel))
  refine PyProof.Rows.callWith_kw (thn ((pa_cons he pa_nil hst).run pos pins s σ H (one1 (SLq X.K P q js fb σ Q)) I h) fun us s1 ⟨vs, H1, I1, r1, q1⟩ => ?_) h1 hpl hall hnone
  obtain ⟨v, rfl, a, xs, ds, kd, S, cs, rfl, hs, rp, rs, hT, hcl, hcs, hkm, hal, hso, hd, q1⟩ := one1_v q1
  obtain rfl := Vals.ref1 r1
  have below : ∀ a q', S a = some (.tab q') → (a, q') ∈ tabsBelow S s1.heap.objs.size := fun a q' e => by
    obtain ⟨ps, e1, _⟩ := (show TabS H1 a q' from rs a _ e)
    exact tabs_mem (ObjOk.lt (I1.hok a _ e1)) e
  rw [hks]
  show wpAny _ _ (evalAll ((do let v ← eval (.Lambda params body scope lpos) X.env; standAt pos; pure v) :: [])) _ _ s1
  refine wpAny_evalAll_cons (wpAny_bind (lam_make2 (T := tabsBelow S s1.heap.objs.size) I1 TB hcode (by rw [hq]; exact below P q hT) (fun p hp e => ?_) (fun p hp => rs p.1 _ (tabs_in hp)) hdef (fun y hy e => ?_) fun f c' pm ctv H2 s2 I2 eN T2 hf hfn hfr hco => ?_))
  · have := tabs_in hp
    rw [e, hT] at this
    cases this
    exact hq.symm
  · rcases hfree y hy e with z | z
    · exact I1.ok.has _ (.inl z)
    · exact I1.ok.has _ (.inr z)
  rw [hq] at hf hco
  obtain ⟨st, rs2⟩ := srep_ext rs eN fun a q' e => T2 _ (below a q' e)
  refine wpAny_bind (wpAny_standAt (wpAny_pure (wpAny_evalAll_nil ?_)))
  refine sort_lam (s := _) (I := ?_) hf hfn hfr hco Sn hfree hfr2 hjs hbind hbody hr hNl hcl (fun i j d e1 e2 => ?_) ?_ (rp.mono st.tx) hkm hal hso hd fun p ys hp hy => q1 H2 p ys st rs2 hp hy
  · exact I2
  · obtain ⟨cv, e3, e4⟩ := hcs i j d e1 e2
    refine ⟨cv, e3, ?_⟩
    rcases e4 with ⟨e4, e5⟩ | ⟨b, ds2, rfl, e4, e5, rfl⟩
    · exact .inl ⟨e4.mono st.tx, e5⟩
    · obtain ⟨vs, e6, e7⟩ := rs2 _ _ e4
      exact .inr ⟨b, vs, ds2, rfl, e6, e7, e5, rfl⟩
  · rcases hs with (hs | ⟨o, hs⟩) | hs
    · exact .inl (.inl (eN _ _ hs (fun _ z => nomatch z)))
    · exact .inl (.inr ⟨o, eN _ _ hs (fun _ z => nomatch z)⟩)
    · exact .inr hs
theorem c_sortLam {c P : Addr} {k : Nat} {e : Expr} {fe : DE} {pos p lpos kpos : Pos} {params : Arguments} {body : Expr} {scope : Scope} (px q : Str) (N fr : List Str) (js : List Nat) {fb : DE}
    (TB : TabB X.base X.mg c P) (hcode : X.env.code = .ref c) (hq : X.env.qual ++ "<lambda>" = q) (hr : RoomG (k + 2) X.A) (hm : X.mg "sorted" = none) (he : CE X e fe)
    (hbody : ∀ (A : Around) (outer : List PySem.Env) (s : Shared) (H : Hp) (E : XK) (cl : List (Str × Addr)) (f c' : Addr), RoomG k (A.deeper (envF (lamNF q params scope cl c') f s.heap.objs.size)) → CE (ncx CX0 X.prog X.w X.K X.mg X.base N (lamNF q params scope cl c') f A outer s H E) body fb)
    (Sn : nscB N [px] fr scope = true) (hfree : ndefB X.env.scope scope fr = true) (hjs : js.map (fun j => X.N[j]?) = fr.map some) (hNl : N.length = 1 + fr.length) (hdef : defaultsOf params X.env = ([], []) := by rfl)
    (hbind : ∀ (q : Str) (cl : List (Str × Addr)) (pm cv ctv u : Value), bindArgs (PySem.W.kla_fn "<lambda>" q params body scope cl pm cv ctv) ⟨[u], []⟩ = pure [(px, u)] := by intros; rfl)
    (hg : Gl X "sorted" := by rfl)
    (h1 : backTo pos (starEach [e] X.env) = (false, eval e X.env) :: backTo pos (starEach [] X.env) := by rfl) (hpl : (backTo pos (starEach [e] X.env)).any (·.1) = false := by rfl)
    (hall : (backToKw pos (keywordEach [⟨some (Str.ofString "key"), .Lambda params body scope lpos, kpos⟩] X.env)).all (·.1.isSome) = true := by rfl) (hnone : (backToKw pos (keywordEach [⟨some (Str.ofString "key"), .Lambda params body scope lpos, kpos⟩] X.env)).any (·.1.isNone) = false := by rfl)
    (hks : (backToKw pos (keywordEach [⟨some (Str.ofString "key"), .Lambda params body scope lpos, kpos⟩] X.env)).filterMap (·.1) = [Str.ofString "key"] := by rfl) (hst : starEach [e] X.env = (false, eval e X.env) :: starEach [] X.env := by rfl) :
    CE X (.Call (.Name "sorted" p) [e] [⟨some (Str.ofString "key"), .Lambda params body scope lpos, kpos⟩] pos) (eSortL P q js fb fe) := by
  obtain ⟨te, he2, se⟩ := he
  refine ⟨_, pe_sortLam TB hcode hq hdef (nscope_by Sn) (ndef_free hfree) (ndef_fr hfree) hjs hbind hbody hr hNl hm he2 hg h1 hpl hall hnone hks hst, fun σ S Q sv H Kt re rs q kt => se σ S _ sv H _ re rs q fun v d S1 H1 s1 r1 v1 q1 => ?_⟩
  cases v1 with
  | ref a =>
    obtain ⟨hT, xs, cs, e0, hcl, hcs, kd, hm1, ha1, hs1, hd1, q1⟩ := q1
    obtain ⟨ws, e3, r3⟩ := r1 _ _ e0
    refine ⟨a, ws, xs, kd, S1, cs, rfl, .inl (.inl e3), r3, r1, hT, hcl, fun i j d e1 e2 => ?_, hm1, ha1, hs1, hd1, fun H2 p2 ys st2 rs2 np rys => ?_⟩
    · rcases hcs i j d e1 e2 with ⟨h2, h3⟩ | ⟨b, ds, h2, h3, h4, rfl⟩
      · obtain ⟨cv, h5, h6⟩ := re.at_ j d h2
        exact ⟨cv, h5, .inl ⟨h6.mono s1.tx, h3⟩⟩
      · obtain ⟨cv, h5, h6⟩ := re.at_ j _ h2
        cases h6
        exact ⟨_, h5, .inr ⟨b, ds, rfl, h3, h4, rfl⟩⟩
    · obtain ⟨st, sr⟩ := stp_new (o := .lst (xs.mergeSort (PySem.W.dataLe false kd))) (ho := .lst ys) rs2 np ⟨ys, upd_same, rys.mono (tx_new np)⟩
      exact kt _ _ _ _ ((s1.trans st2).trans st) sr (.ref p2) (q1 p2 (rs2.free np))
  | _ => exact False.elim q1
end
end DL
/-! d.pop(k), xs.index(x); a def whose code object is known; the end of a law with tables -/
namespace DL
open PySem PySem.Spec PyProof.Rows L2 LamX NdefX
section
variable {X : Cx} {K : PySem.W.Frag} {S : Sto} {H : Hp}
/-! ### d.pop(k), there -/
def rPopK : V → List V → Hp → VK → Prop := fun x xs H Q => ∃ (a : Addr) (kvs : List (Key × V)) (k : Key) (v : V), x = .ref a ∧ xs = [kV k] ∧ H a = some (.dK kvs) ∧ valV kvs k = some v ∧ Q v (upd H a (.dK (dropK kvs k)))
theorem mt_dpop : MtR X "dict.pop" rPopK := by
  intro pins s σ H x xs v us Q I rx rxs h
  obtain ⟨a, kvs, k, w, rfl, rfl, e, l, q⟩ := h
  cases rx
  obtain ⟨u, rfl, ru⟩ := Vals.one rxs
  exact d_pop I e ru l (.inl rfl) fun w' s' I' r' => ⟨w, _, I', r', q⟩
def gPopK : D → GN := fun x vs S Q => match x, vs with
  | .ref p, [y] => ∃ kvs k d, S p = some (.dk kvs) ∧ toKey y = some k ∧ valD kvs k = some d ∧ Q d (updS S p (.dk (dropD kvs k)))
  | _, _ => False
theorem m_popK : CM X "dict" "pop" gPopK := by
  refine ⟨_, _, PySem.F.plainAttrs_dict, PySem.F.slot_dict_pop, PySem.F.type_dict_pop, mt_dpop, fun x a xs as S H Q Kt s rx r q k => ?_⟩
  match a, as, q with
  | .ref p, [y], q =>
    obtain ⟨kvs, kk, d, e, ek, el, q⟩ := q
    obtain ⟨v, rfl, rv⟩ := reps1 r
    cases rx
    obtain ⟨ws, e1, r1⟩ := s _ _ e
    rcases kreps_val kk r1 with ⟨_, z⟩ | ⟨w, d', z1, z2, rw⟩
    · rw [el] at z; cases z
    · rw [el] at z2; cases z2
      refine ⟨p, ws, kk, w, rfl, by rw [key_rep rv ek], e1, z1, ?_⟩
      have tx : Tx X.K H (upd H p (.dK (dropK ws kk))) := tx_mut (s p _ e)
      obtain ⟨st, sr⟩ := stp_mut (o' := .dk (dropD kvs kk)) s e ⟨_, upd_same, KReps.mono tx (kreps_drop kk r1)⟩
      exact k _ _ _ _ st sr (rw.mono tx) q
/-! ### xs.index(y) -/
def gIndex : D → GN := fun x vs S Q => ∃ ys y, itmD S x = some ys ∧ vs = [y] ∧ flatD y = true ∧ ys.all flatD = true ∧ ∃ (j : Nat) (z : D), ys[j]? = some z ∧ eqF z y = true ∧ (∀ (m : Nat) (z' : D), m < j → ys[m]? = some z' → eqF z' y = false) ∧ Q (.int (j : Nat)) S
theorem m_index : CM X "list" "index" gIndex := by
  refine ⟨_, _, PySem.F.plainAttrs_list, PySem.F.slot_list_index, PySem.F.type_list_index, mt_index, fun x a xs as S H Q Kt s rx r q k => ?_⟩
  obtain ⟨ys, y, hi, rfl, fy, fys, j, z, hj, ez, hm, q⟩ := q
  obtain ⟨v, rfl, rv⟩ := reps1 r
  obtain ⟨l, vs, rfl, hs, rr⟩ := itmD_rep s rx hi
  obtain ⟨zv, hz, rz⟩ := rr.get hj
  refine ⟨l, vs, v, j, zv, rfl, rfl, hs, flat_rep rv fy, flat_reps rr fys, hz, ?_, fun m z' hlt hz' => ?_, k.now s (.int _) q⟩
  · rw [eqF_rep rz rv (List.all_eq_true.mp fys z (List.mem_of_getElem? hj)) fy]
    exact ez
  · obtain ⟨d', hd', rd'⟩ := rr.getV hz'
    rw [eqF_rep rd' rv (List.all_eq_true.mp fys d' (List.mem_of_getElem? hd')) fy]
    exact hm m d' hlt hd'
end
/-! ### a def whose code object is known -/
structure FTC (K : PySem.W.Frag) (mg : Str → Option Value) (x : Str) (st : Stmt) (ps : List Str) (c : Addr) : Prop where
  ex : ∃ (f : Addr) (oc : Value) (od an : Option Addr) (kV doc pm ct : Value) (osl : Array (Option Value)),
    K.lookup f = some ⟨oc, od, .func (PySem.W.fnOf x x (defArgs st) (defBody st) (defScope st) .none kV doc pm an (.ref c) ct), osl⟩ ∧ PySem.W.codeIn K (.ref c) x = true ∧ PySem.W.keepIn K (.ref f) = true ∧
    Binds K (PySem.W.fnOf x x (defArgs st) (defBody st) (defScope st) .none kV doc pm an (.ref c) ct) ps [] ∧ mg x = some (.ref f)
theorem okf_ofC {P : Program} {w : World} {K : PySem.W.Frag} {mg : Str → Option Value} {base : Heap} {x : Str} {st : Stmt} {N ps : List Str} {k : Nat} {b : DS} {m : MF} {c : Addr} (T : FTC K mg x st ps c) (Sc : FnScope N ps (defScope st)) (hm : ∀ ds S Q, m ds S Q = b (endsD Q) (startD N.length ds) S)
    (h : ∀ (f : Addr) (A : Around) (outer : List PySem.Env) (s : Shared) (H : Hp) (E : XK), RoomG k (A.deeper (envOfC x (defScope st) s.heap.objs.size f (.ref c))) → CSs (cxOf CX0 P w K mg base N x (defScope st) f (.ref c) A outer s H E).nox (defBody st) b) :
    Okf P w K mg base (k + 1) x ps.length m := by
  obtain ⟨f, oc, od, an, kV, doc, pm, ct, osl, lk, hcd, kp, B, g⟩ := T
  have e : m = fun ds S Q => b (endsD Q) (startD N.length ds) S := funext fun ds => funext fun S => funext fun Q => hm ds S Q
  rw [e]
  refine ⟨f, _, ps, rfl, ?_, g, kp, B⟩
  refine fn_ofG lk hcd Sc (fun vs H Q E h => h.1) (fun A outer s H vs Q E hr hq => ?_)
  obtain ⟨t, p, sn⟩ := h f A outer s H E hr
  refine ⟨t, p.nox, ?_⟩
  obtain ⟨hl, ds, S, Qd, r, sr, q, kk⟩ := hq
  refine sn (endsD Qd) _ S _ _ H (erep_start r) sr q ⟨fun sv σ S' H' s' r' e' q' => ?_, kk, fun _ _ _ _ _ _ _ z => z.elim, fun _ _ _ _ _ _ _ z => z.elim⟩
  exact kk .non .non S' H' s' r' .non q'
/-! ### the end of a law with tables -/
/-- what is told of the heap at the law's call: the tables ts, and the script where the written part has it not -/
def hpT (K : PySem.W.Frag) (a : Addr) (oa : Obj) (ns : List Int) (ts : List Addr) : Hp := fun b =>
  if b ∈ ts then some (.tbl #[]) else if b = a then (match K.lookup a with
    | some _ => none
    | none => some (.frz oa (.lst (ns.map V.int)))) else none
theorem hpT_none {K : PySem.W.Frag} {a b : Addr} {oa : Obj} {ns : List Int} {ts : List Addr} (h1 : b ∉ ts) (h2 : b ≠ a ∨ K.lookup a ≠ none) : hpT K a oa ns ts b = none := by
  unfold hpT
  rw [if_neg h1]
  by_cases e : b = a
  · rw [if_pos e]
    cases q : K.lookup a with
    | none => rcases h2 with z | z
              · exact absurd e z
              · exact absurd q z
    | some o => rfl
  · rw [if_neg e]
theorem hpT_cases {K : PySem.W.Frag} {a b : Addr} {oa : Obj} {ns : List Int} {ts : List Addr} {u : HO} (e : hpT K a oa ns ts b = some u) : (b ∈ ts ∧ u = .tbl #[]) ∨ (b ∉ ts ∧ b = a ∧ K.lookup a = none ∧ u = .frz oa (.lst (ns.map V.int))) := by
  unfold hpT at e
  by_cases h1 : b ∈ ts
  · rw [if_pos h1] at e; cases e; exact .inl ⟨h1, rfl⟩
  · rw [if_neg h1] at e
    by_cases h2 : b = a
    · rw [if_pos h2] at e
      cases q : K.lookup a with
      | none => rw [q] at e; cases e; exact .inr ⟨h1, h2, rfl, rfl⟩
      | some o => rw [q] at e; cases e
    · rw [if_neg h2] at e; cases e
end DL
namespace DL
open PySem PySem.Spec PyProof.Rows L2 LamX NdefX
/-- no object of the kind tells a place of the heap -/
def TabOnly (ts : List Addr) (H : Hp) : Prop := ∀ b, H b = none ∨ (b ∈ ts ∧ H b = some (.tbl #[])) ∨ ∃ o xs, H b = some (.frz o (.lst xs))
theorem callT {P : Program} {w : World} {K : PySem.W.Frag} {mg mb : Str → Option Value} {k : Nat} {fa a : Addr} {cs : List (Addr × Addr)} {fd : FuncData} {x : Str} {sp : Sp} {t : Shared} {us : List Value} {ns : List Int}
    (kx : K.In t.heap) (gn : t.heap.Ns mainGlobals mg) (bn : t.heap.Ns builtinsNs mb) (bb : ∀ x : Str, x ≠ "__name__" → mb x = bootBuiltins x) (nl : t.heap.NoLimit) (ng : t.gens = #[])
    (tb : ∀ p ∈ cs, PySem.W.CodeHd t.heap p.1 p.2 ∧ t.heap.get? p.2 = some { cls := .none, data := .fields #[] }) (nk : ∀ p ∈ cs, K.lookup p.2 = none)
    (bm : ∃ (bm : Addr) (ob : Obj), mg "__builtins__" = some (.ref bm) ∧ bm ≠ builtinsNs ∧ t.heap.get? bm = some ob ∧ ob.cls = .type "module" ∧ ob.dict = some builtinsNs ∧ ob.data = .plain)
    (at_ : t.heap.get? a = some { cls := .type "list", data := .seq us.toArray }) (ia : IntsAre us ns) (sl : ns.length ≤ sizeLine) (room : RoomG k callerA)
    (F : ∀ base : Heap, K.In base → base.Ns mainGlobals mg → (∀ p ∈ cs, TabB base mg p.1 p.2) → FnG P w K mg base CX0 k fa fd [x] sp) (bd : ∀ (s : Shared) (u : Value), BindsTo s fd ⟨[u], []⟩ [(x, u)])
    (pr : ∀ H : Hp, TabOnly (cs.map (·.2)) H → (∀ p ∈ cs, H p.2 = some (.tbl #[])) → SqL K H a (ns.map V.int) → sp [.ref a] H (fun v _ => v = .bl true) fun _ _ _ => False) :
    codeAny (model P w) callerA (.call (.ref fa) ⟨[.ref a], []⟩) (fun r s' => r = .ok (.ret (.bool true)) ∧ OldK t.heap s'.heap ∧ s'.os = t.os ∧ AllBare s'.gens) t := by
  have rv := vals_ints ia
  have len := ia.length
  have inT : ∀ b ∈ cs.map (·.2), ∃ p ∈ cs, p.2 = b := fun b hb => let ⟨p, hp, e⟩ := List.mem_map.mp hb; ⟨p, hp, e⟩
  have aNot : a ∉ cs.map (·.2) := fun z => by
    obtain ⟨p, hp, e⟩ := inT a z
    have q := (tb p hp).2
    rw [e, at_] at q
    exact nomatch (congrArg Obj.data (Option.some.inj q) : Data.seq us.toArray _ = Data.fields #[])
  obtain ⟨H, eH⟩ : ∃ H : Hp, H = hpT K a { cls := .type "list", data := .seq us.toArray } ns (cs.map (·.2)) := ⟨_, rfl⟩
  have okH : HOk P w H t.heap := fun b u e => by
    rw [eH] at e
    rcases hpT_cases e with ⟨hb, rfl⟩ | ⟨_, rfl, _, rfl⟩
    · obtain ⟨p, hp, rfl⟩ := inT b hb
      exact (tb p hp).2
    · exact ⟨at_, by rw [List.length_map]; exact sl, us, 0, rv, at_⟩
  have tell : ∀ p ∈ cs, H p.2 = some (.tbl #[]) := fun p hp => by
    rw [eH]
    unfold hpT
    rw [if_pos (List.mem_map.mpr ⟨p, hp, rfl⟩)]
  have only : TabOnly (cs.map (·.2)) H := fun b => by
    cases e : H b with
    | none => exact .inl rfl
    | some u =>
      have e2 := e
      rw [eH] at e2
      rcases hpT_cases e2 with ⟨hb, rfl⟩ | ⟨_, rfl, _, rfl⟩
      · exact .inr (.inl ⟨hb, rfl⟩)
      · exact .inr (.inr ⟨_, _, rfl⟩)
  -- what is neither a list nor an empty table is hidden
  have hid : ∀ {b : Addr} {o : Obj}, t.heap.get? b = some o → (∀ vs n, o.data ≠ .seq vs n) → o.data ≠ .fields #[] → H b = none := fun {b o} e h1 h2 => by
    rw [eH]
    refine hpT_none (fun hb => ?_) (.inl fun z => ?_)
    · obtain ⟨p, hp, rfl⟩ := inT b hb
      rw [(tb p hp).2] at e
      cases e
      exact h2 rfl
    · rw [z, at_] at e
      cases e
      exact h1 _ _ rfl
  have below : ∀ {b : Addr} {o : Obj}, t.heap.get? b = some o → (∀ vs n, o.data ≠ .seq vs n) → o.data ≠ .fields #[] → (hidT t.heap H).get? b = some o := fun e h1 h2 => hidT_get e (hid e h1 h2)
  have nsK : ∀ {b : Addr} {m : Str → Option Value}, t.heap.Ns b m → (hidT t.heap H).Ns b m := fun {b m} ⟨o, es, ep, e, d, r⟩ =>
    ⟨o, es, ep, below e (fun vs n z => by rw [d] at z; exact nomatch z) (fun z => by rw [d] at z; exact nomatch z), d, r⟩
  have kIn : K.In (hidT t.heap H) := fun b o e => hidT_get (kx b o e) (by
    rw [eH]
    refine hpT_none (fun hb => ?_) ?_
    · obtain ⟨p, hp, rfl⟩ := inT b hb
      rw [nk p hp] at e
      cases e
    · by_cases z : b = a
      · exact .inr (by rw [← z, e]; exact fun z => nomatch z)
      · exact .inl z)
  have md : L2.Mod K mg (hidT t.heap H) := ⟨kIn, nsK gn, ⟨mb, nsK bn, bb⟩, let ⟨mc, h1, h2⟩ := nl; ⟨mc, nsK h1, h2⟩⟩
  have notG : ∀ {b : Addr} {o : Obj} {m : Str → Option Value}, t.heap.get? b = some o → (∀ es ep, o.data ≠ .dict es ep) → t.heap.Ns mainGlobals m → mainGlobals ≠ b := fun {b o m} e h1 ⟨o2, es, ep, e2, d2, _⟩ z => by
    rw [z, e] at e2
    cases e2
    exact h1 _ _ d2
  have tB : ∀ p ∈ cs, TabB (hidT t.heap H) mg p.1 p.2 := fun p hp => by
    obtain ⟨hc, ht⟩ := tb p hp
    refine ⟨?_, ?_, notG ht (fun _ _ z => nomatch z) gn⟩
    · obtain ⟨o, vs, fi, tf, fl, tg, iF, tx, tt, e1, e2, e3, e4, r⟩ := hc
      exact ⟨o, vs, fi, tf, fl, tg, iF, tx, tt, below e1 (fun us n z => by rw [e3] at z; exact nomatch z) (fun z => by rw [e3] at z; cases z; simp at e4), e2, e3, e4, r⟩
    · obtain ⟨m, ob, h1, h2, h3, h4, h5, h6⟩ := bm
      have nP : m ≠ p.2 := fun z => by
        rw [z, ht] at h3
        cases h3
        exact nomatch h6
      have b3 := below h3 (fun us n z => by rw [h6] at z; exact nomatch z) (fun z => by rw [h6] at z; exact nomatch z)
      have nG := Ne.symm (notG h3 (fun _ _ z => by rw [h6] at z; exact nomatch z) gn)
      exact ⟨m, ob, h1, h2, nG, nP, b3, h4, h5, h6⟩
  have env : Env0 P w K mg (hidT t.heap H) callerA [] t H := ⟨rfl, md, fun b o e => of_hidT e, Nat.le_of_eq (hidT_size _ _), trivial, (fun _ hb => nomatch hb), okH, .of_eq ng⟩
  have seq : SqL K H a (ns.map V.int) := by
    cases q : K.lookup a with
    | some o =>
      have e := kx a o q
      rw [at_] at e
      cases e
      exact .inr ⟨_, us.toArray, _, q, rfl, rfl, rfl, by rw [List.size_toArray, len]; exact sl, by simpa using rv⟩
    | none =>
      refine .inl (.inr ⟨{ cls := .type "list", data := .seq us.toArray }, ?_⟩)
      rw [eH]
      unfold hpT
      rw [if_neg aNot, if_pos rfl, q]
  refine codeAny_mono ((F _ kIn (nsK gn) tB).run callerA [] t H ⟨[.ref a], []⟩ [.ref a] [.ref a] (fun v _ => v = .bl true) (fun _ _ _ => False) room env (bd t (.ref a)) (.cons rfl .nil) (pr H only tell seq)) fun r s' hq => ?_
  match r, hq with
  | .error e, hq => exact hq.elim
  | .ok .next, hq => exact hq.elim
  | .ok .brk, hq => exact hq.elim
  | .ok .cont, hq => exact hq.elim
  | .ok (.ret u), hq =>
    obtain ⟨v, H', os, bare, un, ok', r', q⟩ := hq
    subst q
    obtain rfl : u = Value.bool true := r'
    have same : ∀ b o, b ∉ cs.map (·.2) → t.heap.get? b = some o → s'.heap.get? b = some o := fun b o nb e => by
      rcases only b with z | ⟨z, _⟩ | ⟨ob, xs, z⟩
      · exact un.keep b o e z (fun hb => nomatch hb) (fun hb => nomatch hb)
      · exact absurd z nb
      · have e1 := (okH b _ z).1
        have e2 := (ok' b _ (un.frzs b ob _ z)).1
        rw [e] at e1
        cases e1
        exact e2
    have more : ∀ p ∈ cs, ∃ m : Array Value, s'.heap.get? p.2 = some { cls := .none, data := .fields m } := fun p hp => let ⟨m, z⟩ := un.tbls p.2 #[] (tell p hp); ⟨_, ok' p.2 _ z⟩
    refine ⟨rfl, ⟨fun b o e => ?_, fun b o e => ?_⟩, os, bare⟩
    · by_cases hb : b ∈ cs.map (·.2)
      · obtain ⟨p, hp, rfl⟩ := inT b hb
        obtain ⟨hc, ht⟩ := tb p hp
        obtain ⟨m, hm⟩ := more p hp
        rw [ht] at e
        cases e
        exact .inr (.inl ⟨(hc.tab ht).isCodeTable, rfl, #[], m, rfl, by rw [Array.empty_append]; exact hm⟩)
      · exact .inl (same b o hb e)
    · by_cases hb : b ∈ cs.map (·.2)
      · obtain ⟨p, hp, rfl⟩ := inT b hb
        obtain ⟨m, hm⟩ := more p hp
        exact ⟨_, hm⟩
      · exact ⟨o, same b o hb e⟩
theorem codeHd_l {K : PySem.W.Frag} {h : Heap} {c P : Addr} {o : Obj} (X : K.In h) (l : K.lookup c = some o) (e : PySem.W.codeHdIn [(c, o)] c P = true) : PySem.W.CodeHd h c P := by
  refine PySem.W.codeHd_of_K (K := [(c, o)]) (fun b u z => ?_) e
  have z : List.lookup b [(c, o)] = some u := z
  simp only [List.lookup] at z
  split at z
  · rename_i hb
    have hb : b = c := by simpa using hb
    cases z
    rw [hb]
    exact X c o l
  · cases z
theorem km_none {K : Params → PySem.W.Frag} {as : List Addr} {e : ∀ P, as = (K P).map (·.1)} {ts : List Addr} {w : World} {h : Heap} {P : Addr} (Y : (PySem.W.kmHook K as e ts).says w h) (n : as.contains P = false) : (K w.params).lookup P = none := by
  have q := e w.params
  have hn : P ∉ (K w.params).map (·.1) := by
    rw [← q]
    intro z
    rw [List.contains_eq_mem, decide_eq_false_iff_not] at n
    exact n z
  generalize K w.params = F at hn
  induction F with
  | nil => rfl
  | cons p r ih =>
    rw [List.map_cons, List.mem_cons, not_or] at hn
    obtain ⟨b, u⟩ := p
    show List.lookup P ((b, u) :: r) = none
    rw [List.lookup_cons]
    have : (P == b) = false := by simpa using hn.1
    rw [this]
    exact ih hn.2
/-- the store at the law's call: the tables, each with the name of its code objects -/
def tabS (T : List (Addr × Str)) : Sto := fun b => match T.find? (fun p => p.1 == b) with
  | some p => some (.tab p.2)
  | none => none
theorem walk_ofT {l : PySem.W.OpenLaw} {n k : Nat} {q : Program} {loose : List Str} {XP : (Str → Option Value) → Heap → Prop} {YP : World → Heap → Prop} {d : DefRec} {K : Params → PySem.W.Frag} {x : Str} {m : MF} (T : List (Str × Addr × Addr × Str))
    (hn : l.most = some n) (hn2 : n ≤ sizeLine) (hdf : d.params.defaults = []) (hr : Room k callerA) (hY : ∀ (w : World) (h : Heap), YP w h → (K w.params).In h)
    (hK : ∀ (w : World) (h : Heap), YP w h → ∀ t ∈ T, PySem.W.CodeHd h t.2.1 t.2.2.1 ∧ h.get? t.2.2.1 = some { cls := .none, data := .fields #[] } ∧ (K w.params).lookup t.2.2.1 = none)
    (F : ∀ (w : World) (mg : Str → Option Value) (fa : Addr) (h : Heap), YP w h → (K w.params).In h → h.Ns mainGlobals mg → mg d.name = some (.ref fa) → ∃ fd, (∀ (s : Shared) (u : Value), BindsTo s fd ⟨[u], []⟩ [(x, u)]) ∧ ∀ base : Heap, (K w.params).In base → base.Ns mainGlobals mg → (∀ t ∈ T, TabB base mg t.2.1 t.2.2.1) → FnG l.prog w (K w.params) mg base CX0 k fa fd [x] (spD (K w.params) 1 m))
    (law : ∀ ns : List Int, ns.length ≤ n → m [.fl (ns.map .int)] (tabS (T.map fun t => (t.2.2.1, t.2.2.2))) (fun d _ => d = .bl true)) :
    PySem.W.WalkO q loose XP YP l.row.toRowW d [] fun f vs => PySem.call f vs :=
  Att.attach_callB hn hdf fun w s₀ s₁ mg mb fa o pm cd doc a vs ns G Y ho hd hcd hmg hobj hints hlen _ hg => by
    have KX := hY w s₁.heap Y
    obtain ⟨fd, hb, hF⟩ := F w mg fa s₁.heap Y KX G.T.g hmg
    refine callT (cs := T.map fun t => (t.2.1, t.2.2.1)) KX G.T.g G.T.b G.T.builtins G.T.nolimit hg (fun p hp => ?_) (fun p hp => ?_) G.T.bmain hobj hints (Nat.le_trans hlen hn2) ⟨hr, rfl⟩ (fun base h1 h2 h3 => hF base h1 h2 fun t ht => h3 _ (List.mem_map.mpr ⟨t, ht, rfl⟩)) hb fun H hO hH hS => ?_
    · obtain ⟨t, ht, rfl⟩ := List.mem_map.mp hp
      exact ⟨(hK w _ Y t ht).1, (hK w _ Y t ht).2.1⟩
    · obtain ⟨t, ht, rfl⟩ := List.mem_map.mp hp
      exact (hK w _ Y t ht).2.2
    · refine ⟨rfl, [.fl (ns.map .int)], tabS (T.map fun t => (t.2.2.1, t.2.2.2)), fun d _ => d = .bl true, .cons (.fl ?_ ints_reps) .nil, fun b o e => ?_, law ns hlen, fun v d S' H' _ _ r e => ?_⟩
      · rcases hS with (h | ⟨o, h⟩) | h
        · rcases hO a with z | ⟨_, z⟩ | ⟨o, xs, z⟩ <;> rw [h] at z <;> cases z
        · exact .inl ⟨o, h⟩
        · exact .inr h
      · unfold tabS at e
        cases hf : (T.map fun t => (t.2.2.1, t.2.2.2)).find? (fun p => p.1 == b) with
        | none => rw [hf] at e; cases e
        | some p =>
          rw [hf] at e
          cases e
          have hp := List.mem_of_find?_eq_some hf
          have he : p.1 = b := beq_iff_eq.mp (List.find?_some (p := fun p : Addr × Str => p.1 == b) hf)
          obtain ⟨t, ht, rfl⟩ := List.mem_map.mp hp
          have := hH _ (List.mem_map.mpr ⟨t, ht, rfl⟩)
          rw [← he]
          exact TabS.nil this
      · subst e
        cases r
        rfl
end DL
/-! t.index(x) of a tuple of data -/
namespace DL
open PySem PySem.Spec PyProof.Rows L2
section
variable {X : Cx} {K : PySem.W.Frag} {S : Sto} {H : Hp}
def gIndexT : D → GN := fun x vs S Q => match x, vs with
  | .tup ys, [d] => ∃ ps q j z, PDs S ys ps ∧ PD S d q ∧ q.depth ≤ 64 ∧ ps[j]? = some z ∧ PyData.eqv z q = true ∧ (∀ (m : Nat) (z' : PyData), m < j → ps[m]? = some z' → PyData.eqv z' q = false) ∧ Q (.int (j : Nat)) S
  | _, _ => False
def rIdxT (K : PySem.W.Frag) : V → List V → Hp → VK → Prop := fun x vs H Q => ∃ v d ps j z, vs = [v] ∧ Dp K H v d ∧ Dp K H x (.tuple ps) ∧ d.plain = true ∧ PyData.plainAll ps = true ∧ d.depth ≤ 64 ∧ ps[j]? = some z ∧ PyData.eqv z d = true ∧ (∀ (m : Nat) (z' : PyData), m < j → ps[m]? = some z' → PyData.eqv z' d = false) ∧ Q (.int (j : Nat)) H
theorem mt_indexT {k : Nat} (hr : RoomG k X.A) : MtR X "tuple.index" (rIdxT X.K) := by
  intro pins s σ H x vs v us Q I rx r h
  obtain ⟨u, d, ps, j, z, rfl, hd, hx, pd, pp, hz, hj, he, hno, q⟩ := h
  obtain ⟨w, rfl, rw_⟩ := vals1 r
  obtain ⟨c1, r1⟩ := hd.reads I d u w rw_
  obtain ⟨c2, r2⟩ := hx.reads I (.tuple ps) x v rx
  cases r2 with
  | tuple h1 h2 h3 h4 =>
    have ht : s.heap.IsTuple _ _ := ⟨_, h1, h2, _, h3⟩
    obtain ⟨⟨cls, dd, data, sl⟩, ho, hc, n, hd'⟩ := id ht
    simp only at hc hd'
    subst hc hd'
    have hl := SeqAt.len_at h4
    obtain ⟨hjl, hje⟩ := List.getElem?_eq_some_iff.mp hj
    have at_ : ∀ (m : Nat) (hm : m < _) (hm2 : m < ps.length), PyData.eqv (SeqAt.readOf s.heap _) d = PyData.eqv ps[m] d := fun m hm hm2 => by
      obtain ⟨_, e⟩ := SeqAt.readOf_at h4 pp m hm
      rw [e]
    refine call_meets PySem.F.slot_tuple_index ⟨_, ho, rfl⟩ PySem.F.entry_tuple_index (PySem.F.args_tuple_index_2 _ _)
      (SeqAt.tuple_index2_found _ _ n dd sl w (fun m => match ps[m]? with | some y => PyData.eqv y d | none => false) j (by omega) (Nat.zero_le _) (by omega) ?_ ?_) ⟨ho, fun m hm => ?_, ?_⟩
    · rw [hj]; exact he
    · intro m hm _ hlt
      have hm2 : m < ps.length := by omega
      rw [List.getElem?_eq_getElem hm2]
      exact hno m _ hlt (List.getElem?_eq_getElem hm2)
    · have hm2 : m < ps.length := by omega
      rw [List.getElem?_eq_getElem hm2]
      have := SeqAt.items_plain (A := X.A) h4 r1 pp pd (least_le hz (units200 hr)) _ (Array.getElem_mem hm)
      rw [at_ m hm hm2] at this
      exact this
    · exact ⟨.int _, H, I.kept (h' := s.heap) (t' := s.toks + 1) (fun _ _ e => e), ⟨_, rfl⟩, q⟩
end
end DL
/-! d.get(k) -/
namespace DL
open PySem PySem.Spec PyProof.Rows L2
section
variable {X : Cx} {pos : Pos} {e : Expr}
def eGet1 (fo fe : DE) : DE := fun σ S Q => fo σ S fun o S1 => match o with
  | .ref p => (∃ kvs, S1 p = some (.dk kvs)) ∧ fe σ S1 fun y S2 => ∃ kvs k, S2 p = some (.dk kvs) ∧ toKey y = some k ∧ Q ((valD kvs k).getD .non) S2
  | _ => False
end
/-! ### repr of any small thing -/
def flatShow : D → Option Str
  | .non => some "None"
  | .bl b => some (if b then "True" else "False")
  | .str z => some (reprText z)
  | _ => none
def gReprV : GN := fun xs S Q => gRepr xs S Q ∨ ∃ d z, xs = [d] ∧ flatShow d = some z ∧ z.length ≤ sizeLine ∧ Q (.str z) S
def rReprF : List V → Hp → VK → Prop := fun xs H Q => (xs = [.non] ∧ Q (.str "None") H) ∨ (∃ b : Bool, xs = [.bl b] ∧ Q (.str (if b then "True" else "False")) H) ∨ ∃ z, xs = [.str z] ∧ (reprText z).length ≤ sizeLine ∧ Q (.str (reprText z)) H
end DL
/-! dict(list of pairs) -/
namespace DL
open PySem PySem.Spec PyProof.Rows L2
section
variable {X : Cx} {K : PySem.W.Frag} {S : Sto} {H : Hp}
/-- pairs, each with a key ahead -/
def pairsD : List D → Option (List (Key × D))
  | [] => some []
  | .tup [y, d] :: r => match toKey y, pairsD r with
    | some k, some l => some ((k, d) :: l)
    | _, _ => none
  | _ => none
def gDictP : GN := fun xs S Q => match xs with
  | [.ref a] => ∃ ds kvs, S a = some (.lst ds) ∧ pairsD ds = some kvs ∧ ∀ p, S p = none → Q (.ref p) (updS S p (.dk (mergeD [] kvs)))
  | _ => False
end
end DL
/-! dicts that are walked: keys, values, items, while they are locked -/
namespace DL
open PySem PySem.Spec PyProof.Rows L2
section
variable {X : Cx} {K : PySem.W.Frag} {e a b c : Expr} {es : List Expr} {fe fa fb fc : DE} {fs : DA} {pos : Pos} {S S1 S' : Sto} {H H1 H' : Hp} {p : Addr} {kvs : List (Key × D)} {ws : List (Key × V)} {od : Obj}
/-- an expression while a dict is locked -/
def eLk (f : DE) : DE := fun σ S Q => ∃ p kvs, S p = some (.dk kvs) ∧ f σ (updS S p (.fz kvs)) fun d S' => Q d (updS S' p (.dk kvs))
def DEnds.lk (D0 : DEnds) (p : Addr) (kvs : List (Key × D)) : DEnds := ⟨fun σ S => D0.nx σ (updS S p (.dk kvs)), fun d S => D0.rt d (updS S p (.dk kvs)), fun σ S => D0.bk σ (updS S p (.dk kvs)), fun σ S => D0.ct σ (updS S p (.dk kvs))⟩
/-- a statement while a dict is locked -/
def sLk (f : DS) : DS := fun D0 σ S => ∃ p kvs, S p = some (.dk kvs) ∧ f (D0.lk p kvs) σ (updS S p (.fz kvs))
/-! what is walked -/
def itemsD (kvs : List (Key × D)) : List D := kvs.map fun kv => .tup [kD kv.1, kv.2]
def keysD (kvs : List (Key × D)) : List D := kvs.map fun kv => kD kv.1
def valsD (kvs : List (Key × D)) : List D := kvs.map fun kv => kv.2
def iFz (f : List (Key × D) → List D) (fa : DE) : DI := fun σ S Q => fa σ S fun x S1 => match x with
  | .ref p => ∃ kvs, S1 p = some (.fz kvs) ∧ Q (f kvs) (fun S => S p = some (.fz kvs)) S1
  | _ => False
/-- a target that takes keys as tuples -/
def nUp (g : DG) : DG := fun d σ S Q => g (upD d) σ S Q
end
end DL
/-! sorted(dict); x <= y of tuples -/
namespace DL
open PySem PySem.Spec PyProof.Rows L2
def srtS (ks : List Str) : List Str := ks.mergeSort (PySem.W.dataLe false PyData.str)
section
open PySem.W
variable {X : Cx} {K : PySem.W.Frag} {S : Sto} {H : Hp}
/-- sorted of a dict's keys, texts -/
def gSortedKy : GN := fun xs S Q => match xs with
  | [.ref p] => ∃ kvs ks, S p = some (.dk kvs) ∧ kvs.map (·.1) = ks.map (Sum.inr : Str → Key) ∧ ∀ n, S n = none → Q (.ref n) (updS S n (.lst ((srtS ks).map .str)))
  | _ => False
/-! x <= y -/
def gLe2 : G2 := fun x y S Q => match x, y with
  | .int i, .int j => Q (.bl (decide (i ≤ j))) S
  | .tup xs, .tup ys => ∃ p q, PDs S xs p ∧ PDs S ys q ∧ PySem.W.alikeAll p q = true ∧ (PyData.tuple p).depth ≤ 64 ∧ Q (.bl (!PySem.W.dataLt (.tuple q) (.tuple p))) S
  | _, _ => False
def rLeP (K : PySem.W.Frag) : R2 := fun x y H Q => ∃ d e, Dp K H x d ∧ Dp K H y e ∧ PySem.W.alike d e = true ∧ d ≠ .none ∧ d.depth ≤ 64 ∧ Q (.bl (!PySem.W.dataLt e d)) H
end
end DL
/-! repr of an int, a text or what else is small -/
namespace DL
open PySem L2
def gReprI : GN := fun xs S Q => gReprV xs S Q ∨ ∃ n : Int, xs = [.int n] ∧ n.natAbs.log2 < 1920 ∧ Q (.str (toString n)) S
def rReprI : List V → Hp → VK → Prop := fun xs H Q => ∃ n : Int, xs = [.int n] ∧ n.natAbs.log2 < 1920 ∧ Q (.str (toString n)) H
end DL
/-! set(list of keys), the order of its table followed -/
namespace DL
open PySem PySem.Spec PyProof.Rows L2
section
variable {κ : Type} [DecidableEq κ] {prog : Program} {w : World}
/-- two entries of unlike keys -/
def UnE (knd : PySem.KeyKind prog w κ) (e e' : Int × Value) : Prop := ∀ k, knd.is k e.2 = true → knd.is k e'.2 = true → False
/-- a set whose table can be followed -/
def SetL (knd : PySem.KeyKind prog w κ) (h : Heap) (a : Addr) (S : κ → Bool) (n : Nat) : Prop :=
  ∃ o es ep t, h.get? a = some o ∧ o.ExactSet ∧ o.data = .set es ep t ∧ ElemsOf knd es.toList ∧ (∀ k, S k = true ↔ ∃ e ∈ es.toList, knd.is k e.2 = true) ∧ es.size < scanBound ∧ t.fits es.size = true ∧ es.size = n ∧
    Ris t.place.toList ∧ (w.params.followText "set-order" = true ∨ t.led = true) ∧ es.toList.Pairwise (UnE knd)
variable {knd : PySem.KeyKind prog w κ} {A : Around} {E : Value → Shared → Prop} {s : Shared}
theorem SetL.setOf {h : Heap} {a : Addr} {S : κ → Bool} {n : Nat} (x : SetL knd h a S n) : Heap.SetOf knd h a S n :=
  let ⟨o, es, ep, t, h1, h2, h3, h4, h5, h6, h7, h8, _⟩ := x; ⟨o, es, ep, t, h1, h2, h3, h4, h5, h6, h7, h8⟩
theorem SetL.congr {h : Heap} {a : Addr} {S S' : κ → Bool} {n n' : Nat} (x : SetL knd h a S n) (e : ∀ k, S k = S' k) (en : n = n') : SetL knd h a S' n' := by
  have : S = S' := funext e
  subst this; subst en; exact x
end
end DL
/-! sorted(set(list of texts)) -/
namespace DL
open PySem PySem.Spec PyProof.Rows L2
section
open PySem.W
variable {X : Cx} {K : PySem.W.Frag} {S : Sto} {H : Hp}
def tSortSet (K : PySem.W.Frag) (ta : TE) : TE := fun σ H Q => ta σ H fun x H1 => ∃ (l : Addr) (ks : List Str), x = V.ref l ∧ SqL K H1 l (ks.map V.str) ∧ ks.length + 1 < 4096 ∧
  ∀ us : List Str, us.Nodup → (∀ z, z ∈ us ↔ z ∈ ks) → ∀ p, H1 p = none → Q (.ref p) (upd H1 p (.lst ((srtS us).map V.str)))
def eSortSet (fe : DE) : DE := fun σ S Q => fe σ S fun d S1 => ∃ zs : List Str, itmD S1 d = some (zs.map .str) ∧ zs.length + 1 < 4096 ∧ ∀ us : List Str, us.Nodup → (∀ z, z ∈ us ↔ z ∈ zs) → ∀ n, S1 n = none → Q (.ref n) (updS S1 n (.lst ((srtS us).map .str)))
end
end DL
/-! enumerate(tuple) -/
namespace DL
open PySem PySem.Spec PyProof.Rows L2
/-- the tuple at a, each item in a new pair -/
def IteT (K : PySem.W.Frag) (a : Addr) : It :=
  ⟨fun i H => ∃ (xs : List V) (x : V), SqT K H a xs ∧ xs[i]? = some x, fun i H v H' => ∃ T x, v = .ref T ∧ H T = none ∧ H' = upd H T (.tup [.int (i : Nat), x]) ∧ ∀ xs, SqT K H a xs → xs[i]? = some x, fun i H => ∃ xs : List V, SqT K H a xs ∧ xs.length ≤ i⟩
def iEnumTI (K : PySem.W.Frag) (ta : TA) : TI := fun σ H R => ta σ H fun vs H1 => ∃ a xs, vs = [.ref a] ∧ SqT K H1 a xs ∧ R (IteT K a) H1
section
variable {X : Cx} {fs : DA} {a : Expr} {pos : Pos}
def iEnumT (fs : DA) : DI := fun σ S Q => fs σ S fun ds S1 => match ds with
  | [.tup xs] => Q (enumD xs) (fun _ => True) S1
  | _ => False
end
end DL
/-! xs.extend(a list) -/
namespace DL
open PySem PySem.Spec PyProof.Rows L2
section
variable {X : Cx}
def rExtL (K : PySem.W.Frag) : V → List V → Hp → VK → Prop := fun x vs H Q => rExtT K x vs H Q ∨ ∃ l b xs zs, x = .ref l ∧ vs = [.ref b] ∧ H l = some (.lst xs) ∧ H b = some (.lst zs) ∧ xs.length + zs.length ≤ sizeLine ∧ Q .non (upd H l (.lst (xs ++ zs)))
def gExtendL : D → GN := fun x vs S Q => match x, vs with
  | .ref p, [.tup ds] => ∃ xs, S p = some (.lst xs) ∧ xs.length + ds.length ≤ sizeLine ∧ Q .non (updS S p (.lst (xs ++ ds)))
  | .ref p, [.ref b] => ∃ xs ds, S p = some (.lst xs) ∧ S b = some (.lst ds) ∧ xs.length + ds.length ≤ sizeLine ∧ Q .non (updS S p (.lst (xs ++ ds)))
  | _, _ => False
end
end DL
/-! sum(d.values()) -/
namespace DL
open PySem PySem.Spec PyProof.Rows L2
section
variable {prog : Program} {w : World} {A : Around} {E : Value → Shared → Prop} {s : Shared} {T : String} {r d : Addr} {n : Nat} {P : Nat → Value → Prop} {OK : Heap → Prop} {Q : Value → Shared → Prop}
end
section
variable {X : Cx} {o : Expr} {p pos apos mpos : Pos} {td : TE} {fo : DE}
def tSumVals (td : TE) : TE := fun σ H Q => td σ H fun x H1 => ∃ (a : Addr) (kvs : List (Key × V)) (ns : List Int), x = V.ref a ∧ H1 a = some (.dK kvs) ∧ kvs.map (·.2) = ns.map V.int ∧ Q (.int ns.sum) H1
def eSumV (fo : DE) : DE := fun σ S Q => fo σ S fun o S1 => match o with
  | .ref p => ∃ (kvs : List (Key × D)) (ns : List Int), S1 p = some (.dk kvs) ∧ kvs.map (·.2) = ns.map D.int ∧ Q (.int ns.sum) S1
  | _ => False
end
end DL
/-! sorted(set(list of ints)) -/
namespace DL
open PySem PySem.Spec PyProof.Rows L2
def srtI (ks : List Int) : List Int := ks.mergeSort (PySem.W.dataLe false PyData.int)
section
open PySem.W
variable {X : Cx} {K : PySem.W.Frag} {S : Sto} {H : Hp}
def tSortSetI (K : PySem.W.Frag) (ta : TE) : TE := fun σ H Q => ta σ H fun x H1 => ∃ (l : Addr) (ks : List Int), x = V.ref l ∧ SqL K H1 l (ks.map V.int) ∧ ks.length + 1 < 4096 ∧
  ∀ us : List Int, us.Nodup → (∀ z, z ∈ us ↔ z ∈ ks) → ∀ p, H1 p = none → Q (.ref p) (upd H1 p (.lst ((srtI us).map V.int)))
def eSortSetI (fe : DE) : DE := fun σ S Q => fe σ S fun d S1 => ∃ zs : List Int, itmD S1 d = some (zs.map .int) ∧ zs.length + 1 < 4096 ∧ ∀ us : List Int, us.Nodup → (∀ z, z ∈ us ↔ z ∈ zs) → ∀ n, S1 n = none → Q (.ref n) (updS S1 n (.lst ((srtI us).map .int)))
end
end DL
/-! zip(a tuple, a list, a list) -/
namespace DL
open PySem PySem.Spec PyProof.Rows L2
/-- the tuple at a and the lists at b and c as they stand at each turn, the items in new triples -/
def It3 (K : PySem.W.Frag) (a b c : Addr) : It :=
  ⟨fun i H => ∃ (xs ys zs : List V) (x y z : V), SqT K H a xs ∧ SqL K H b ys ∧ SqL K H c zs ∧ xs[i]? = some x ∧ ys[i]? = some y ∧ zs[i]? = some z,
    fun i H v H' => ∃ T x y z, v = .ref T ∧ H T = none ∧ H' = upd H T (.tup [x, y, z]) ∧ (∀ xs, SqT K H a xs → xs[i]? = some x) ∧ (∀ ys, SqL K H b ys → ys[i]? = some y) ∧ ∀ zs, SqL K H c zs → zs[i]? = some z,
    fun i H => ∃ xs ys zs : List V, SqT K H a xs ∧ SqL K H b ys ∧ SqL K H c zs ∧ i ≤ xs.length ∧ i ≤ ys.length ∧ i ≤ zs.length ∧ (i = xs.length ∨ i = ys.length ∨ i = zs.length)⟩
def iZip3A (K : PySem.W.Frag) (ta : TA) : TI := fun σ H R => ta σ H fun vs H1 => ∃ a b c xs ys zs, vs = [.ref a, .ref b, .ref c] ∧ SqT K H1 a xs ∧ SqL K H1 b ys ∧ SqL K H1 c zs ∧ R (It3 K a b c) H1
section
variable {X : Cx} {fs : DA} {a b c : Expr} {pos : Pos}
def trips (xs ys zs : List D) : List D := (xs.zip (ys.zip zs)).map fun p => .tup [p.1, p.2.1, p.2.2]
def iZip3D (fs : DA) : DI := fun σ S Q => fs σ S fun ds S1 => match ds with
  | [.tup xs, .ref q, .ref r] => ∃ ys zs, S1 q = some (.lst ys) ∧ S1 r = some (.lst zs) ∧ Q (trips xs ys zs) (fun S => S q = some (.lst ys) ∧ S r = some (.lst zs)) S1
  | _ => False
end
end DL
/-! zip(a tuple, a list) -/
namespace DL
open PySem PySem.Spec PyProof.Rows L2
/-- the tuple at a and the list at b as they stand at each turn, the items in new pairs -/
def It2 (K : PySem.W.Frag) (a b : Addr) : It :=
  ⟨fun i H => ∃ (xs ys : List V) (x y : V), SqT K H a xs ∧ SqL K H b ys ∧ xs[i]? = some x ∧ ys[i]? = some y,
    fun i H v H' => ∃ T x y, v = .ref T ∧ H T = none ∧ H' = upd H T (.tup [x, y]) ∧ (∀ xs, SqT K H a xs → xs[i]? = some x) ∧ (∀ ys, SqL K H b ys → ys[i]? = some y),
    fun i H => ∃ xs ys : List V, SqT K H a xs ∧ SqL K H b ys ∧ i ≤ xs.length ∧ i ≤ ys.length ∧ (i = xs.length ∨ i = ys.length)⟩
def iZipMA (K : PySem.W.Frag) (ta : TA) : TI := fun σ H R => ta σ H fun vs H1 => ∃ a b xs ys, vs = [.ref a, .ref b] ∧ SqT K H1 a xs ∧ SqL K H1 b ys ∧ R (It2 K a b) H1
section
variable {X : Cx} {fs : DA} {a b : Expr} {pos : Pos}
def iZipM (fs : DA) : DI := fun σ S Q => fs σ S fun ds S1 => match ds with
  | [.tup xs, .ref q] => ∃ ys, S1 q = some (.lst ys) ∧ Q (pairs xs ys) (fun S => S q = some (.lst ys)) S1
  | _ => False
end
end DL
/-! x or y, x and y, not x as values, by truth -/
namespace DL
open PySem PySem.Spec PyProof.Rows L2
section
variable {X : Cx} {K : PySem.W.Frag} {e a b c : Expr} {es : List Expr} {fe fa fb fc : DE} {pos : Pos} {S : Sto} {H : Hp} {rest : List Expr}
/-- the truth of data -/
def truD (d : D) (S : Sto) (R : Bool → Prop) : Prop := match d with
  | .non => R false
  | .bl k => R k
  | .int i => R (i != 0)
  | .str y => y.length ≤ sizeLine ∧ R (y.length != 0)
  | .tup xs => R (!xs.isEmpty)
  | .ref p => (match S p with
    | some (.lst xs) => R (!xs.isEmpty)
    | some (.dk kvs) => R (!kvs.isEmpty)
    | _ => False)
  | _ => False
def eOrT (fa fb : DE) : DE := fun σ S Q => fa σ S fun x S1 => truD x S1 fun k => if k = true then Q x S1 else fb σ S1 Q
def eAndT (fa fb : DE) : DE := fun σ S Q => fa σ S fun x S1 => truD x S1 fun k => if k = true then fb σ S1 Q else Q x S1
end
end DL
/-! sorted(xs, key=lambda x: ..), dicts among the captured names -/
namespace DL
open PySem PySem.Spec PyProof.Rows L2 LamX NdefX
/-- tuples and lists of H, locked as they stand in h -/
def lkG (h : Heap) (H : Hp) : Hp := fun b => match H b with
  | some (.tup xs) => (h.get? b).map fun o => .frz o (.tup xs)
  | some (.lst xs) => (h.get? b).map fun o => .frz o (.lst xs)
  | some (.dK xs) => (h.get? b).map fun o => .frz o (.dK xs)
  | some (.frz o (.tup xs)) => some (.frz o (.tup xs))
  | some (.frz o (.lst xs)) => some (.frz o (.lst xs))
  | _ => none
section
variable {P : Program} {w : World} {K : PySem.W.Frag} {h h1 : Heap} {H : Hp}
theorem lkG_tup {a : Addr} {xs : List V} (ok : HOk P w H h) (k : ∀ b o, H b ≠ none → h.get? b = some o → h1.get? b = some o) (e : Rd H a (.tup xs)) : Rd (lkG h1 H) a (.tup xs) := by
  rcases e with e | ⟨o, e⟩
  · obtain ⟨_, its, r, o, e1, _⟩ := (show ObjOk P w H h a (.tup xs) from ok a _ e)
    refine .inr ⟨o, ?_⟩
    unfold lkG
    rw [e]
    dsimp only
    rw [k a o (by rw [e]; exact fun z => by cases z) e1]
    rfl
  · refine .inr ⟨o, ?_⟩
    unfold lkG
    rw [e]
mutual
theorem rep_lkG (ok : HOk P w H h) (k : ∀ b o, H b ≠ none → h.get? b = some o → h1.get? b = some o) : ∀ {v : V} {d : D}, Rep K H v d → nr d = true → Rep K (lkG h1 H) v d
  | _, _, .non, _ => .non
  | _, _, .bl b, _ => .bl b
  | _, _, .int b, _ => .int b
  | _, _, .str b, _ => .str b
  | _, _, .ty b, _ => .ty b
  | _, _, .ref b, hn => by unfold nr at hn; cases hn
  | _, _, .fl h r, hn => by unfold nr at hn; cases hn
  | _, _, .exc n h, hn => by unfold nr at hn; cases hn
  | _, _, .kt h, hn => by unfold nr at hn; cases hn
  | _, _, .nt h _, hn => by unfold nr at hn; cases hn
  | _, _, .cls n, hn => .cls n
  | _, _, .tup h2 r, hn => by
    unfold nr at hn
    refine .tup ?_ (reps_lkG ok k r hn)
    rcases h2 with h2 | h2
    · exact .inl (lkG_tup ok k h2)
    · exact .inr h2
theorem reps_lkG (ok : HOk P w H h) (k : ∀ b o, H b ≠ none → h.get? b = some o → h1.get? b = some o) : ∀ {vs : List V} {ds : List D}, Reps K H vs ds → nrs ds = true → Reps K (lkG h1 H) vs ds
  | _, _, .nil, _ => .nil
  | _, _, .cons h r, hn => by
    unfold nrs at hn
    rw [Bool.and_eq_true] at hn
    exact .cons (rep_lkG ok k h hn.1) (reps_lkG ok k r hn.2)
end
end
/-- what a captured name holds, as the lambda sees it while the list is sorted -/
def CapG (K : PySem.W.Frag) (H : Hp) (v : V) (d : D) : Prop := (Rep K H v d ∧ nr d = true) ∨ (∃ b vs ds, v = .ref b ∧ H b = some (.lst vs) ∧ Reps K H vs ds ∧ nrs ds = true ∧ d = .fl ds) ∨ ∃ b, v = .ref b ∧ d = .ref b
/-- the dicts that a lambda reads -/
def DictsG (K : PySem.W.Frag) (H : Hp) (Sf : Sto) : Prop := ∀ b o, Sf b = some o → ∃ kvs ws, o = .fz kvs ∧ H b = some (.dK ws) ∧ KReps K H ws kvs ∧ ∀ p ∈ kvs, nr p.2 = true
section
variable {X : Cx} {pins : List (Addr × Obj)} {σ : L2.St} {H : Hp} {s s1 : Shared}
end
section
open PySem.W
variable {X : Cx} {pins : List (Addr × Obj)} {σ : L2.St} {H : Hp} {s : Shared}
end
/-! ### the rule -/
/-- what a slot holds, as the lambda sees it -/
def CapDG (S : Sto) (σ : Env) (j : Nat) (d : D) : Prop := (getS j σ = some d ∧ nr d = true) ∨ (∃ b ds, getS j σ = some (.ref b) ∧ S b = some (.lst ds) ∧ nrs ds = true ∧ d = .fl ds) ∨ ∃ b, getS j σ = some (.ref b) ∧ d = .ref b
/-- dicts of the store, read alone -/
def DictsS (S Sf : Sto) : Prop := ∀ b o, Sf b = some o → ∃ kvs, o = .fz kvs ∧ S b = some (.dk kvs) ∧ ∀ p ∈ kvs, nr p.2 = true
theorem DictsS.g {K : PySem.W.Frag} {S Sf : Sto} {H : Hp} (h : DictsS S Sf) (r : SRep K S H) : DictsG K H Sf := fun b o e => by
  obtain ⟨kvs, rfl, e1, n⟩ := h b o e
  obtain ⟨ws, e2, e3⟩ := r b _ e1
  exact ⟨kvs, ws, rfl, e2, e3, n⟩
def keyedLG (fb : DE) (cs : List D) (Sf : Sto) (xs : List D) (R : List D → Prop) : Prop := ∃ kd : D → PyData, (∀ d ∈ xs, nr d = true ∧ fb (some d :: cs.map some) Sf fun e _ => PD S0 e (kd d)) ∧ PySem.W.AllAlike (xs.map kd) ∧ PySem.W.Sortable (xs.map kd) ∧ (∀ d ∈ xs, (kd d).depth ≤ 32) ∧ R (xs.mergeSort (PySem.W.dataLe false kd))
def eSortLG (P : Addr) (q : Str) (js : List Nat) (fb : DE) (fa : DE) : DE := fun σ S Q => fa σ S fun x S1 => match x with
  | .ref p => S1 P = some (.tab q) ∧ ∃ xs cs Sf, S1 p = some (.lst xs) ∧ DictsS S1 Sf ∧ cs.length = js.length ∧ (∀ (i j : Nat) (d : D), js[i]? = some j → cs[i]? = some d → CapDG S1 σ j d) ∧ keyedLG fb cs Sf xs fun ys => ∀ n, S1 n = none → Q (.ref n) (updS S1 n (.lst ys))
  | _ => False
def SLqG (K : PySem.W.Frag) (P : Addr) (q : Str) (js : List Nat) (fb : DE) (sv : L2.St) (Kt : VK) (v : V) (H1 : Hp) : Prop := ∃ (a : Addr) (xs : List V) (ds : List D) (kd : D → PyData) (S : Sto) (cs : List D) (Sf : Sto), v = V.ref a ∧ DictsS S Sf ∧ SqL K H1 a xs ∧ Reps K H1 xs ds ∧ SRep K S H1 ∧ S P = some (.tab q) ∧ cs.length = js.length ∧
  (∀ (i j : Nat) (d : D), js[i]? = some j → cs[i]? = some d → ∃ cv, sv[j]? = some (some cv) ∧ ((Rep K H1 cv d ∧ nr d = true) ∨ (∃ b ds, cv = .ref b ∧ S b = some (.lst ds) ∧ nrs ds = true ∧ d = .fl ds) ∨ ∃ b, cv = .ref b ∧ d = .ref b)) ∧
  (∀ d ∈ ds, nr d = true ∧ fb (some d :: cs.map some) Sf fun e _ => PD S0 e (kd d)) ∧ PySem.W.AllAlike (ds.map kd) ∧ PySem.W.Sortable (ds.map kd) ∧ (∀ d ∈ ds, (kd d).depth ≤ 32) ∧
  ∀ (H2 : Hp) (p : Addr) (ys : List V), Stp K S H1 S H2 → SRep K S H2 → H2 p = none → Reps K H2 ys (ds.mergeSort (PySem.W.dataLe false kd)) → Kt (.ref p) (upd H2 p (.lst ys))
def tSLG (K : PySem.W.Frag) (P : Addr) (q : Str) (js : List Nat) (fb : DE) (te : TE) : TE := fun sv H Kt => te sv H (SLqG K P q js fb sv Kt)
section
variable {X : Cx}
end
end DL
/-! dict(d); list(d); d.update(list of pairs) -/
namespace DL
open PySem PySem.Spec PyProof.Rows L2
section
variable {X : Cx} {K : PySem.W.Frag} {S : Sto} {H : Hp}
def gDictC : GN := fun xs S Q => match xs with
  | [.ref a] => ∃ kvs, S a = some (.dk kvs) ∧ ∀ p, S p = none → Q (.ref p) (updS S p (.dk kvs))
  | _ => False
def gListC : GN := fun xs S Q => match xs with
  | [.ref a] => ∃ kvs, S a = some (.dk kvs) ∧ ∀ p, S p = none → Q (.ref p) (updS S p (.lst (kvs.map fun q => kD q.1)))
  | _ => False
/-! ### d.update(pairs) -/
def rUpdP (K : PySem.W.Frag) : V → List V → Hp → VK → Prop := fun x xs H Q => ∃ (d l : Addr) (ps : List Addr) (acc kvs : List (Key × V)), x = .ref d ∧ xs = [.ref l] ∧ H d = some (.dK acc) ∧ SqL K H l (ps.map V.ref) ∧ Paired (fun p kv => SqT K H p [kV kv.1, kv.2]) ps kvs ∧
  acc.length + kvs.length ≤ sizeLine ∧ Q .non (upd H d (.dK (mergeK acc kvs)))
def gUpdP : D → GN := fun x xs S Q => match x, xs with
  | .ref d, [.ref a] => ∃ acc ds kvs, S d = some (.dk acc) ∧ S a = some (.lst ds) ∧ pairsD ds = some kvs ∧ acc.length + kvs.length ≤ sizeLine ∧ Q .non (updS S d (.dk (mergeD acc kvs)))
  | _, _ => False
end
end DL
/-! len(set(list)) of texts, whole numbers, None; a text times 0 or 1 -/
namespace DL
open PySem PySem.Spec PyProof.Rows L2
/-- how many unlike leaves -/
def dstL (ks : List Leaf) : Nat := cntU (fun i => ks.getD i .none) ks.length
def lfV : Leaf → V
  | .none => .non
  | .num i => .int i
  | .text x => .str x
def toLf : D → Option Leaf
  | .non => some .none
  | .int i => some (.num i)
  | .str x => some (.text x)
  | _ => none
def asLs : List D → Option (List Leaf)
  | [] => some []
  | d :: r => match toLf d, asLs r with
    | some k, some ks => some (k :: ks)
    | _, _ => none
def tLenSetL (K : PySem.W.Frag) (ta : TE) : TE := fun σ H Q => ta σ H fun x H1 => ∃ l ks, x = V.ref l ∧ SqL K H1 l (ks.map lfV) ∧ ks.length + 1 < 4096 ∧ Q (.int (dstL ks)) H1
def eLenSetL (fe : DE) : DE := fun σ S Q => fe σ S fun d S1 => ∃ ds ks, itmD S1 d = some ds ∧ asLs ds = some ks ∧ ks.length + 1 < 4096 ∧ Q (.int (dstL ks)) S1
/-! ### a text times 0 or 1 -/
section
variable {X : Cx} {a b : Expr} {fa fb : DE} {pos : Pos}
def mulS1 (z : Str) (k : Int) : Str := if k < 1 then Str.empty else z
def rMulS : R2 := fun x y H Q => ∃ z k, x = .str z ∧ y = .int k ∧ 0 ≤ k ∧ k ≤ 1 ∧ Q (.str (mulS1 z k)) H
def gMulS : G2 := fun x y S Q => match x, y with
  | .str z, .int k => 0 ≤ k ∧ k ≤ 1 ∧ Q (.str (mulS1 z k)) S
  | _, _ => False
end
end DL
/-! a lambda without parameters handed to a def that catches what it raises -/
namespace DL
open PySem PySem.Spec PyProof.Rows L2 LamX
abbrev ASK := Sto → DK → EK → Prop
abbrev MFL := ASK → Sto → DK → Prop
/-- what the lambda's body does, read at the env of the def that made it -/
def TLd (K : PySem.W.Frag) (mg : Str → Option Value) (sv : L2.St) (fe : DEX) : XK → Hp → VK → Prop := fun E H Q => ∃ (σ : Env) (S : Sto) (Qd : DK) (Ed : EK), ERep K H sv σ ∧ SRep K S H ∧ fe Ed σ S Qd ∧ Rch K S H Qd Q ∧ RchK K mg S H Ed E
section
variable {X : Cx} {pins : List (Addr × Obj)} {σ : L2.St} {H HZ : Hp} {s s1 : Shared}
theorem pe_actG {CXg : CXT} {Eg : XK} {Ng : List Str} {qg : Str} {sg : Scope} {g f c' : Addr} {cdg pm ctv : Value} {params : Arguments} {body : Expr} {scope : Scope} {k i : Nat} {a : Str} {pn : List (Addr × Obj)} {xe : Value → Shared → Prop} {W : WX} {fe : DEX} {p1 p2 : Pos}
    (I : Inv X pins σ H s) (L : LamS X.env.scope scope) (hf : s.heap.get? f = some (PySem.W.kla_obj "<lambda>" (X.env.qual ++ "<lambda>") params body scope (cloFrom X.env.cells scope.names []) pm c' ctv)) (hfn : H f = none) (hfr : f ∉ frs X.stack)
    (hbind : bindArgs (PySem.W.kla_fn "<lambda>" (X.env.qual ++ "<lambda>") params body scope (cloFrom X.env.cells scope.names []) pm (.ref c') ctv) ⟨[], []⟩ = pure [])
    (tk : L2.Takes ((cxOf CXg X.prog X.w X.K X.mg X.base Ng qg sg g cdg X.A X.stack s H Eg).tr pn xe) W) (hr : RoomG (k + 1) (X.A.deeper (envOfC qg sg s.heap.objs.size g cdg)))
    (hbody : ∀ (A : Around) (outer : List PySem.Env) (s : Shared) (H : Hp) (E : XK), RoomG k (A.deeper (lamEnv X scope s.heap.objs.size f c')) → CEX (lamCx X A outer s H E scope f c') body fe)
    (hN : Ng[i]? = some a) (hv : Vis sg a) (hd : (a == ("__debug__" : Str)) = false := by decide) (hcd : (a == ("__classdict__" : Str)) = false := by decide) :
    PE ((cxOf CXg X.prog X.w X.K X.mg X.base Ng qg sg g cdg X.A X.stack s H Eg).tr pn xe) (.Call (.Name a p1) [] [] p2)
      (fun σZ HZ Q => σZ[i]? = some (some (.ref f)) ∧ HZ c' = some (CodeO c' (X.env.qual ++ "<lambda>")) ∧ TLd X.K X.mg σ fe (WE W σZ) HZ Q) := by
  refine ⟨fun pinsZ sZ σZ HZ Q IZ h => ?_⟩
  obtain ⟨hs, hc, ht⟩ := h
  refine wpAny_Call_Name_kw (thn ((pe_var (pos := p1) (i := i) hN hv hd hcd).run pinsZ sZ σZ HZ (fun v H1 => v = .ref f ∧ H1 = HZ) IZ ⟨.ref f, hs, rfl, rfl⟩) fun u s1 ⟨v, H1, I1, r1, q1⟩ => ?_)
  obtain ⟨ev, eH⟩ := q1
  subst ev
  rw [eH] at I1
  obtain rfl : u = Value.ref f := r1
  have of1 : s1.heap.get? f = some (PySem.W.kla_obj "<lambda>" (X.env.qual ++ "<lambda>") params body scope (cloFrom X.env.cells scope.names []) pm c' ctv) := I1.base.keep f _ hf hfn hfr (fun z => nomatch (show f ∈ ([] : List Addr) from z))
  refine PySem.W.callWith_F0 ⟨_, _, _, _, of1⟩ ?_
  have un : Un (frs X.stack) [] H HZ s.heap s1.heap := I1.base
  obtain ⟨⟨oc, vs, t, hoc, hdc, hvc⟩, _, _⟩ := I1.hok c' _ hc
  have rc : codeAny (model X.prog X.w) (X.A.deeper (envOfC qg sg s.heap.objs.size g cdg)) (.call (.ref f) ⟨[], []⟩) (CR (L2.CX X.prog X.w) (envOfC qg sg s.heap.objs.size g cdg :: X.stack) X.prog X.w HZ s1 Q (WE W σZ)) s1 := by
    refine PySem.W.kla_callFunE hr.toRoom.depth of1 rfl L.co L.gen rfl ⟨c', oc, vs, t, rfl, hoc, hdc, hvc⟩ ?_
    rw [hbind]
    refine wpAny_pure (wpAny_newFunctionEnv (fun y hy => (L.own y hy).2) (fun y hy => absurd hy (by simp)) (fun h₁ hns hsb => ⟨I1.nolimit.fresh _ hsb, ?_⟩) L.kind)
    show codeAny _ _ (.expr body (lamEnv X scope s1.heap.objs.size f c')) _ _
    have kp : ∀ b o, s1.heap.get? b = some o → h₁.get? b = some o := fun b o e => hsb.extBut b o (Nat.ne_of_lt (Heap.lt_size e)) (Heap.get?_push_of_some _ e)
    have J : Inv (lamCx X (X.A.deeper (envOfC qg sg s.heap.objs.size g cdg)) (envOfC qg sg s.heap.objs.size g cdg :: X.stack) s1 HZ (WE W σZ) scope f c') [] σ HZ { s1 with heap := h₁, toks := s1.toks + ([] : List (Str × Value)).length } :=
      lam_start2 I L I1.env0 hr.hd un hns kp
    obtain ⟨tb, hb, sn⟩ := (hbody (X.A.deeper (envOfC qg sg s.heap.objs.size g cdg)) (envOfC qg sg s.heap.objs.size g cdg :: X.stack) s1 HZ (WE W σZ) ⟨hr.toRoom.deeper _, hr.gd⟩).ok
    obtain ⟨σd, Sd, Qd, Ed, h1, h2, h3, h4, h5⟩ := ht
    refine PySem.W.kla_codeExpr (wpAny_mono ((hb (WE W σZ) (takes_of rfl rfl rfl rfl)).run [] _ _ HZ Q J (sn Ed (WE W σZ) σd Sd Qd σ HZ Q h1 h2 h3 h4 h5)) (fun v s' hq => ?_) fun e s' hq => hq)
    obtain ⟨w', H', J', rv, q⟩ := hq
    exact ⟨w', H', J'.os, J'.bare, J'.base, J'.hok, rv, q⟩
  refine wpAny_call (codeAny_mono rc fun r s' hq => ?_)
  cases r with
  | error e => exact passAt tk σZ pinsZ HZ s1 e s' I1 hq
  | ok fl =>
    cases fl with
    | ret u => exact I1.after hq
    | next => exact False.elim hq
    | brk => exact False.elim hq
    | cont => exact False.elim hq
end
theorem run_ofSG {CX : CXT} {P : Program} {w : World} {K : PySem.W.Frag} {mg : Str → Option Value} {base : Heap} {k : Nat} {f : Addr} {name qual : Str} {params : Arguments} {body : List Stmt} {scope : Scope} {dV kV doc pm cdv ct oc : Value} {an od : Option Addr}
    {osl : Array (Option Value)} {N ps : List Str} (lk : K.lookup f = some ⟨oc, od, .func (PySem.W.fnOf name qual params body scope dV kV doc pm an cdv ct), osl⟩) (hcd : PySem.W.codeIn K cdv qual = true) (S : FnScope N ps scope)
    {A : Around} {outer : List PySem.Env} {s : Shared} {H : Hp} {args : Args} {us : List Value} {vs : List V} {Q : VK} {E : XK} (hr : RoomG (k + 1) A) (e0 : Env0 P w K mg base A outer s H) (hb : BindsTo s (PySem.W.fnOf name qual params body scope dV kV doc pm an cdv ct) args (ps.zip us)) (r : Vals vs us) (hl : vs.length = ps.length)
    (hbody : RoomG k (A.deeper (envOfC qual scope s.heap.objs.size f cdv)) → ∃ t, PSs (cxOf CX P w K mg base N qual scope f cdv A outer s H E) body t ∧ t { nx := fun _ H' => Q .non H', rt := Q } (L2.start N vs) H) :
    codeAny (model P w) A (.call (.ref f) args) (CR CX outer P w H s Q E) s := by
  have KX : K.In s.heap := e0.mod.kin.keeps fun b o e => (e0.bs b o e).1
  have lim : s.heap.NoLimit := e0.mod.nolimit.keeps fun b o e => (e0.bs b o e).1
  have hkind : ∀ y ∈ ps.zip us, scope.names.lookup y.1 = some .local ∨ (scope.names.lookup y.1 = some .cell ∧ ((cellsFrom (s.heap.objs.size + 1) scope.names []).lookup y.1).isSome = true) := fun ⟨n, v⟩ hy => by
    rcases S.par n (List.of_mem_zip hy).1 with q | q
    · exact .inl q
    · exact .inr ⟨q, PySem.W.cellsFrom_some _ _ _ (.inl q)⟩
  refine codeAny_call_function hr.toRoom.depth (KX _ _ lk) rfl S.co S.gen rfl (PySem.W.codeRec_of KX hcd) (hb _ _ _ _ ?_)
  refine wpAny_newFunctionEnv_cells S.kind hkind fun env he s1 x => ?_
  subst he
  refine ⟨lim.keeps x.toInCall.keep, codeAny_func ?_⟩
  obtain ⟨t, ht, hq⟩ := hbody ⟨hr.toRoom.deeper _, hr.gd⟩
  have I : Inv (cxOf CX P w K mg base N qual scope f cdv A outer s H E) [] (L2.start N vs) H s1 := inv_start S hr.hd e0 hl r x
  refine wpAny_mono (ht.run [] s1 (L2.start N vs) H _ I hq) (fun fl s' hs => ?_) fun e s' hs => hs
  have fin : ∀ {σ' : L2.St} {H' : Hp} {v : V} {u : Value}, Inv (cxOf CX P w K mg base N qual scope f cdv A outer s H E) [] σ' H' s' → L2.RelV v u → Q v H' → L2.CE outer P w H s Q u s' :=
    fun {σ' H' v u} J rv q => ⟨v, H', J.os, J.bare, J.base, J.hok, rv, q⟩
  cases fl with
  | ret u =>
    obtain ⟨v, σ', H', J, rv, q⟩ := hs
    exact fin J rv q
  | next =>
    obtain ⟨σ', H', J, q⟩ := hs
    exact fin (v := V.non) (u := Value.none) J rfl q
  | brk =>
    obtain ⟨_, _, _, q⟩ := hs
    exact False.elim q
  | cont =>
    obtain ⟨_, _, _, q⟩ := hs
    exact False.elim q
/-! ### the def that gets the lambda -/
/-- a(), in the context X: its reading -/
def ActOk (X : Cx) (a : Str) (f c' : Addr) (q : Str) (tl : XK → Hp → VK → Prop) : Prop :=
  ∀ (W : WX) (pn : List (Addr × Obj)) (xe : Value → Shared → Prop) (p1 p2 : Pos), L2.Takes (X.tr pn xe) W → PE (X.tr pn xe) (.Call (.Name a p1) [] [] p2) (fun σZ HZ Q => σZ[0]? = some (some (.ref f)) ∧ HZ c' = some (CodeO c' q) ∧ tl (WE W σZ) HZ Q)
def AskAt (K : PySem.W.Frag) (mg : Str → Option Value) (S : Sto) (H : Hp) (ask : ASK) (tl : XK → Hp → VK → Prop) : Prop := ∀ (Qd : DK) (Ed : EK) (Q : VK) (E : XK), ask S Qd Ed → Rch K S H Qd Q → RchK K mg S H Ed E → tl E H Q
structure CSG (X : Cx) (a : Str) (body : List Stmt) (g : ASK → DS) : Prop where
  ok : ∀ (f c' : Addr) (q : Str) (tl : XK → Hp → VK → Prop), ActOk X a f c' q tl → ∃ t : TS, PSs X.nox body t ∧
    ∀ (D0 : DEnds) (σ : Env) (S : Sto) (Dv : Ends) (sv : L2.St) (H : Hp) (ask : ASK), ERep X.K H sv σ → SRep X.K S H → g ask D0 σ S → RchE X.K S H D0 Dv → H c' = some (CodeO c' q) → sv[0]? = some (some (.ref f)) → AskAt X.K X.mg S H ask tl → t Dv sv H
section
variable {X : Cx}
theorem csg_none {a y : Str} {i : Nat} {rest : List Stmt} {g : ASK → DS} {j : Nat} {p1 p2 pos : Pos} (i0 : i ≠ 0) (hN : X.N.Nodup) (hi : X.N[i]? = some y) (hx : Loc X.env.scope y) (h : CSG X a rest g) (hs : swapsWith (.Constant .none j p2) (some (.Name y p1)) pos.line X.env = pure false := by rfl)
    (hf : X.fn y = true ∨ X.env.scope.names.lookup y = some .local := by first | exact .inl rfl | exact .inr rfl | assumption) :
    CSG X a (.Assign [.Name y p1] (.Constant .none j p2) pos :: rest) (fun ask D0 σ S => g ask D0 (setS i .non σ) S) := by
  refine ⟨fun f c' q tl act => ?_⟩
  obtain ⟨t, ht, sn⟩ := h.ok f c' q tl act
  refine ⟨_, pss_cons (ps_set (X := X.nox) hN hi hx pe_non hs hf) ht, fun D0 σ S Dv sv H ask re rs q k hc h0 hA => ?_⟩
  refine sn D0 (setS i .non σ) S Dv (sv.set i (some .non)) H ask (re.set .non) rs q k hc ?_ hA
  rw [List.getElem?_set_ne i0]
  exact h0
/-- try: a() / except C as e: y = e; the rest -/
def gAsk (i j : Nat) (L : List Str) (g : DS) : ASK → DS := fun ask D0 σ S => ask S (fun _ S2 => g D0 σ S2) fun c S2 => c ∈ L ∧ g D0 ((setS j (.exc c) σ).set i none) S2
/-- try: z = a() / except C as e: y = e; the rest -/
def gAskS (i j z : Nat) (L : List Str) (g : DS) : ASK → DS := fun ask D0 σ S => ask S (fun d S2 => g D0 (setS z d σ) S2) fun c S2 => c ∈ L ∧ g D0 ((setS j (.exc c) σ).set i none) S2
theorem csg_tryS {i j z : Nat} {a y e y2 c0 : Str} {L : List Str} {rest : List Stmt} {g : DS} {np pp p1 p2 p3 p4 pos pos2 pos3 pos4 : Pos} (hs : X.stack = X.env :: X.outer) (hf : X.env.frame = some X.env.locals) (hex : X.ex = []) (hN : X.N.Nodup) (hi : X.N[i]? = some e) (hln : X.env.scope.names.lookup e = some .local)
    (hj : X.N[j]? = some y) (hly : X.env.scope.names.lookup y = some .local) (hz : X.N[z]? = some y2) (hlz : X.env.scope.names.lookup y2 = some .local) (hij : i ≠ j) (Hd : HndT X.K X.mg c0 L) (hrest : CSs X.nox rest g) (hg0 : Gl X.nox c0 := by rfl) (hdb : (c0 == ("__debug__" : Str)) = false := by decide) (hdn : (e == ("__debug__" : Str)) = false := by decide) (hcn : (e == ("__classdict__" : Str)) = false := by decide)
    (hsw : swapsWith (.Name e p2) (some (.Name y p1)) p3.line X.env = pure false := by rfl) (hsw2 : swapsWith (.Call (.Name a pp) [] [] pos) (some (.Name y2 p4)) pos2.line X.env = pure false := by rfl) :
    CSG X a (.Try [.Assign [.Name y2 p4] (.Call (.Name a pp) [] [] pos) pos2] [.ExceptHandler (some (.Name c0 np)) (some e) [.Assign [.Name y p1] (.Name e p2) p3] pos3] [] [] pos4 :: rest) (gAskS i j z L g) := by
  refine ⟨fun f c' q tl act => ?_⟩
  obtain ⟨C, hC, hL⟩ := Hd.ex
  obtain ⟨tr, hr, sr⟩ := hrest.ok
  have hc0 : Names X.nox c0 (.ref C) := ⟨hg0, hdb, .inl hC⟩
  refine ⟨_, pss_cons (ps_try_keep (X := X.nox) hs hf hex hN hi hln (.inl hln) hdn hcn hj hly hij hc0 L2.takes0 hsw
      (tb := fun W D σ H => σ[0]? = some (some (.ref f)) ∧ H c' = some (CodeO c' q) ∧ tl (WE W σ) H fun v H' => D.nx (σ.set z (some v)) H') (fun W pn xe tk _ => ?_)) hr, fun D0 σ S Dv sv H ask re rs qq k hc h0 hA => ?_⟩
  · refine pss_one ⟨fun pins s σ H D I h => ?_⟩
    exact (ps_set (X := X.nox.tr pn xe) hN hz (.inl hlz) (act W pn xe pp pos tk) hsw2 (.inr hlz)).run pins s σ H D I h
  · have kk : RchE X.K S H { D0 with nx := g D0 } { Dv with nx := tr Dv } := ⟨fun sv' σ' S' H' st' r' e' q' => sr D0 σ' S' Dv sv' H' e' r' q' (k.stp st'), k.rt, k.bk, k.ct⟩
    refine ⟨h0, hc, hA (fun d S2 => g D0 (setS z d σ) S2) (fun c S2 => c ∈ L ∧ g D0 ((setS j (.exc c) σ).set i none) S2) _ _ qq (fun v d S2 H2 s2 r2 v2 q2 => ?_) (fun c cls S2 H2 s2 r2 e2 q2 => ?_)⟩
    · exact kk.nx _ _ _ _ s2 r2 ((re.mono s2.tx).set v2) q2
    · obtain ⟨hc, q2⟩ := q2
      obtain ⟨C', g1, n1, g2⟩ := hL c hc
      rw [e2] at g1
      cases g1
      exact ⟨true, g2, fun _ => ⟨C', rfl, rfl, fun b hb => keep_rch re kk s2 r2 n1 hb q2⟩, fun z => nomatch z⟩
end
/-! ### the call -/
/-- a def that gets one lambda does m -/
structure OkL (P : Program) (w : World) (K : PySem.W.Frag) (mg : Str → Option Value) (base : Heap) (k : Nat) (x : Str) (m : MFL) : Prop where
  ex : ∃ (g : Addr) (pg : Arguments) (bg : List Stmt) (sg : Scope) (kV doc pm cdv ct oc : Value) (an od : Option Addr) (osl : Array (Option Value)) (a : Str) (Ng : List Str) (b : ASK → DS), mg x = some (.ref g) ∧ PySem.W.keepIn K (.ref g) = true ∧
    K.lookup g = some ⟨oc, od, .func (PySem.W.fnOf x x pg bg sg .none kV doc pm an cdv ct), osl⟩ ∧ PySem.W.codeIn K cdv x = true ∧ Binds K (PySem.W.fnOf x x pg bg sg .none kV doc pm an cdv ct) [a] [] ∧ FnScope Ng [a] sg ∧ Ng[0]? = some a ∧ Vis sg a ∧ (a == ("__debug__" : Str)) = false ∧ (a == ("__classdict__" : Str)) = false ∧
    (∀ ask S Q f, m ask S Q → b ask (endsD Q) (startD Ng.length [.ref f]) S) ∧
    ∀ (A : Around) (outer : List PySem.Env) (s : Shared) (H : Hp), RoomG k (A.deeper (envOfC x sg s.heap.objs.size g cdv)) → CSG (cxOf CX0 P w K mg base Ng x sg g cdv A outer s H E0) a bg b
theorem okl_of {P : Program} {w : World} {K : PySem.W.Frag} {mg : Str → Option Value} {base : Heap} {x a : Str} {st : Stmt} {N : List Str} {k : Nat} {b : ASK → DS} {m : MFL} (T : FT K mg x st [a]) (Sc : FnScope N [a] (defScope st)) (h0 : N[0]? = some a) (hv : Vis (defScope st) a) (hm : ∀ ask S Q f, m ask S Q → b ask (endsD Q) (startD N.length [.ref f]) S)
    (h : ∀ (f : Addr) (cdv : Value) (A : Around) (outer : List PySem.Env) (s : Shared) (H : Hp), RoomG k (A.deeper (envOfC x (defScope st) s.heap.objs.size f cdv)) → CSG (cxOf CX0 P w K mg base N x (defScope st) f cdv A outer s H E0) a (defBody st) b) (hd : (a == ("__debug__" : Str)) = false := by decide) (hcd : (a == ("__classdict__" : Str)) = false := by decide) :
    OkL P w K mg base k x m := by
  obtain ⟨f, fd, F, B, g⟩ := T
  have kp := F.kp
  obtain ⟨oc, od, kV, doc, pm, an, cdv, ct, osl, e, lk, hcd2⟩ := F.ex
  subst e
  exact ⟨f, _, _, _, kV, doc, pm, cdv, ct, oc, an, od, osl, a, N, b, g, kp, lk, hcd2, B, Sc, h0, hv, hd, hcd, hm, fun A outer s H hr => h f cdv A outer s H hr⟩
/-- x(lambda: e) -/
def eLamC (P : Addr) (q : Str) (m : MFL) (fe : DEX) : DE := fun σ S Q => S P = some (.tab q) ∧ m (fun S' Qd Ed => fe Ed σ S' Qd) S Q
section
variable {X : Cx}
theorem pe_lamC {x : Str} {c P : Addr} {k : Nat} {q : Str} {m : MFL} {fe : DEX} {params : Arguments} {body : Expr} {scope : Scope} {p lpos pos : Pos} (hg : Gl X x) (F : OkL X.prog X.w X.K X.mg X.base (k + 1) x m)
    (TB : TabB X.base X.mg c P) (hcode : X.env.code = .ref c) (hq : X.env.qual ++ "<lambda>" = q) (hr : RoomG (k + 2) X.A) (L : LamS X.env.scope scope) (hdef : defaultsOf params X.env = ([], []))
    (hbind : ∀ (q : Str) (cl : List (Str × Addr)) (pm cv ctv : Value), bindArgs (PySem.W.kla_fn "<lambda>" q params body scope cl pm cv ctv) ⟨[], []⟩ = pure [])
    (hbody : ∀ (A : Around) (outer : List PySem.Env) (s : Shared) (H : Hp) (E : XK) (f c' : Addr), RoomG k (A.deeper (lamEnv X scope s.heap.objs.size f c')) → CEX (lamCx X A outer s H E scope f c') body fe)
    (hdb : (x == ("__debug__" : Str)) = false := by decide) :
    PE X (.Call (.Name x p) [.Lambda params body scope lpos] [] pos) (fun sv H Kt => ∃ (S : Sto) (σ : Env) (Qd : DK), ERep X.K H sv σ ∧ SRep X.K S H ∧ eLamC P q m fe σ S Qd ∧ Rch X.K S H Qd Kt) := by
  obtain ⟨g, pg, bg, sg, kV, doc, pmg, cdv, ct, oc, an, od, osl, a, Ng, b, hm, hk, lk, hcg, hb, Sg, hNg, hva, hda, hca, hmb, hG⟩ := F.ex
  refine ⟨fun pins s σv H Q I h => ?_⟩
  obtain ⟨S, σ, Qd, ere, rs, ⟨hT, hq1⟩, hkt⟩ := h
  have below : ∀ a q', S a = some (.tab q') → (a, q') ∈ tabsBelow S s.heap.objs.size := fun a q' e => by
    obtain ⟨ps, e1, _⟩ := (show TabS H a q' from rs a _ e)
    exact tabs_mem (ObjOk.lt (I.hok a _ e1)) e
  refine wpAny_Call_Name_kw (ld_glob I hg hm ?_ hdb)
  refine PySem.W.callWith_K (h₀ := X.base) I.ok.mod.kin hk ?_ (by rfl) (by rfl)
  show wpAny _ _ (spliced ((false, eval (.Lambda params body scope lpos) X.env) :: backTo pos (starEach [] X.env))) _ _ s
  refine Calls.spliced_cons (lam_make2 (T := tabsBelow S s.heap.objs.size) I TB hcode (by rw [hq]; exact below P q hT) (fun p hp e => ?_) (fun p hp => rs p.1 _ (tabs_in hp)) hdef (L.has I.ok) fun f c' pm' ctv H1 s' I1 eN T1 hf hfn hfr hco => ?_)
  · have := tabs_in hp
    rw [e, hT] at this
    cases this
    exact hq.symm
  obtain ⟨st, rs2⟩ := srep_ext rs eN fun a q' e => T1 _ (below a q' e)
  refine Calls.spliced_nil ⟨I1.kIn, ?_⟩
  have rc : codeAny (model X.prog X.w) X.A (.call (.ref g) ⟨[.ref f], []⟩) (CR CX0 X.stack X.prog X.w H1 s' Q E0) s' := by
    refine run_ofSG (N := Ng) (ps := [a]) (us := [.ref f]) (vs := [.ref f]) lk hcg Sg hr I1.env0 (hb s' [.ref f] I1.kIn rfl) (.cons rfl .nil) rfl fun hr' => ?_
    obtain ⟨t, ht, sn⟩ := (hG X.A X.stack s' H1 hr').ok f c' (X.env.qual ++ "<lambda>") (TLd X.K X.mg σv fe) fun W pn xe p1 p2 tk => pe_actG (i := 0) I1 L hf hfn hfr (hbind _ _ _ _ _) tk hr' (fun A outer s H E hr2 => hbody A outer s H E f c' hr2) hNg hva hda hca
    refine ⟨t, ht.nox, sn (endsD Qd) (startD Ng.length [.ref f]) S { nx := fun _ H' => Q .non H', rt := Q } (L2.start Ng [.ref f]) H1 _ (erep_start (.cons (.ref f) .nil)) rs2 (hmb _ S Qd f hq1) ⟨fun sv' σ' S' H' s' r' e' q' => ?_, hkt.stp st, fun _ _ _ _ _ _ _ z => z.elim, fun _ _ _ _ _ _ _ z => z.elim⟩ hco ?_ fun Qd' Ed Q' E' h1 h2 h3 => ⟨σ, S, Qd', Ed, ere.mono st.tx, rs2, h1, h2, h3⟩⟩
    · exact hkt.stp st .non .non S' H' s' r' .non q'
    · unfold L2.start
      rfl
  refine wpAny_call (codeAny_mono rc fun r s2 hq => ?_)
  cases r with
  | error e => exact (show False from hq).elim
  | ok fl =>
    cases fl with
    | ret u => exact I1.after hq
    | next => exact False.elim hq
    | brk => exact False.elim hq
    | cont => exact False.elim hq
theorem c_lamC {x : Str} {c P : Addr} {k : Nat} (q : Str) {m : MFL} {fe : DEX} {params : Arguments} {body : Expr} {scope : Scope} {p lpos pos : Pos} (F : OkL X.prog X.w X.K X.mg X.base (k + 1) x m)
    (TB : TabB X.base X.mg c P) (hcode : X.env.code = .ref c) (hq : X.env.qual ++ "<lambda>" = q) (hr : RoomG (k + 2) X.A) (L : lamSB X.env.scope scope = true)
    (hbody : ∀ (A : Around) (outer : List PySem.Env) (s : Shared) (H : Hp) (E : XK) (f c' : Addr), RoomG k (A.deeper (lamEnv X scope s.heap.objs.size f c')) → CEX (lamCx X A outer s H E scope f c') body fe) (hdef : defaultsOf params X.env = ([], []) := by rfl)
    (hbind : ∀ (q : Str) (cl : List (Str × Addr)) (pm cv ctv : Value), bindArgs (PySem.W.kla_fn "<lambda>" q params body scope cl pm cv ctv) ⟨[], []⟩ = pure [] := by intros; rfl) (hg : Gl X x := by rfl) (hdb : (x == ("__debug__" : Str)) = false := by decide) :
    CE X (.Call (.Name x p) [.Lambda params body scope lpos] [] pos) (eLamC P q m fe) :=
  ⟨_, pe_lamC hg F TB hcode hq hr (lamS_by L) hdef hbind hbody hdb, fun σ S Q sv H Kt re rs q k => ⟨S, σ, Q, re, rs, q, k⟩⟩
end
end DL
/-! sorted(a tuple, key=a def) -/
namespace DL
open PySem PySem.Spec PyProof.Rows L2
section
open PySem.W
def rSKT (K : PySem.W.Frag) (f : Addr) (m : MF) : List V → List V → Hp → VK → Prop := fun vs zs H Q => ∃ (a : Addr) (xs : List V) (ds : List D) (kd : D → PyData), vs = [V.ref a] ∧ zs = [V.ref f] ∧ SqT K H a xs ∧ Reps K H xs ds ∧
  (∀ d ∈ ds, nr d = true ∧ m [d] S0 fun e _ => PD S0 e (kd d)) ∧ AllAlike (ds.map kd) ∧ Sortable (ds.map kd) ∧ (∀ d ∈ ds, (kd d).depth ≤ 32) ∧
  ∀ (p : Addr) (ys : List V), H p = none → Reps K H ys (ds.mergeSort (dataLe false kd)) → Q (.ref p) (upd H p (.lst ys))
def eSortKT (m : MF) (fa : DE) : DE := fun σ S Q => fa σ S fun x S1 => match x with
  | .tup xs => keyed m xs fun ys => ∀ n, S1 n = none → Q (.ref n) (updS S1 n (.lst ys))
  | _ => False
def eSortKA (m : MF) (fa : DE) : DE := fun σ S Q => fa σ S fun x S1 => match x with
  | .ref p => ∃ xs, S1 p = some (.lst xs) ∧ keyed m xs fun ys => ∀ n, S1 n = none → Q (.ref n) (updS S1 n (.lst ys))
  | .tup xs => keyed m xs fun ys => ∀ n, S1 n = none → Q (.ref n) (updS S1 n (.lst ys))
  | _ => False
end
end DL
/-! a text repeated -/
namespace DL
open PySem PySem.Spec PyProof.Rows L2
section
variable {X : Cx} {a b : Expr} {fa fb : DE} {pos : Pos}
def mulR (z : Str) (k : Int) : Str := if k < 1 then Str.empty else if (k == 1 || z.length == 0) = true then z else ⟨(List.replicate k.toNat z.cps).foldl (· ++ ·) #[]⟩
def rMulR : R2 := fun x y H Q => ∃ z k, x = .str z ∧ y = .int k ∧ 0 ≤ k ∧ k ≤ 1000 ∧ z.length ≤ 1000 ∧ Q (.str (mulR z k)) H
def gMulR : G2 := fun x y S Q => match x, y with
  | .str z, .int k => 0 ≤ k ∧ k ≤ 1000 ∧ z.length ≤ 1000 ∧ Q (.str (mulR z k)) S
  | _, _ => False
end
end DL
/-! neat tuples: made by tuple(list), their object is known; t.index(x) of such a one -/
namespace DL
open PySem PySem.Spec PyProof.Rows L2
mutual
/-- what it is, neatness forgotten -/
def wkD : D → D
  | .nt xs => .tup (wkDs xs)
  | .tup xs => .tup (wkDs xs)
  | d => d
def wkDs : List D → List D
  | [] => []
  | x :: xs => wkD x :: wkDs xs
end
mutual
theorem Rep.wk {K : PySem.W.Frag} {H : Hp} : ∀ {v : V} {d : D}, Rep K H v d → Rep K H v (wkD d)
  | _, _, .non => .non
  | _, _, .bl b => .bl b
  | _, _, .int i => .int i
  | _, _, .str s => .str s
  | _, _, .ref a => .ref a
  | _, _, .ty n => .ty n
  | _, _, .tup h r => .tup h (Reps.wk r)
  | _, _, .fl h r => .fl h r
  | _, _, .exc n h => .exc n h
  | _, _, .cls n => .cls n
  | _, _, .kt h => .kt h
  | _, _, .nt h r => .tup h.sq (Reps.wk r)
theorem Reps.wk {K : PySem.W.Frag} {H : Hp} : ∀ {vs : List V} {ds : List D}, Reps K H vs ds → Reps K H vs (wkDs ds)
  | _, _, .nil => .nil
  | _, _, .cons h r => .cons (Rep.wk h) (Reps.wk r)
end
section
variable {X : Cx} {K : PySem.W.Frag} {e a b c o : Expr} {es : List Expr} {fe fa fb fc fo : DE} {fs : DA} {pos : Pos} {S : Sto} {H : Hp} {p : Addr}
/-- e, neatness forgotten -/
def eWk (f : DE) : DE := fun σ S Q => f σ S fun d S1 => Q (wkD d) S1
theorem c_wk (h : CE X e fe) : CE X e (eWk fe) := by
  obtain ⟨t, h, s⟩ := h
  exact ⟨t, h, fun σ S Q sv H Kt re rs q k => s σ S _ sv H Kt re rs q fun v d S1 H1 s1 r1 v1 q1 => k v _ S1 H1 s1 r1 v1.wk q1⟩
/-! ### tuple(x), a new one of known form -/
theorem call_tuple_ofN : CallR X (.type "tuple") (fun xs H Q => ∃ p ys, xs = [.ref p] ∧ SqL X.K H p ys ∧ ∀ l o, H l = none → o.dict = none → Q (.ref l) (upd H l (.frz o (.tup ys)))) := by
  intro pins s σ H xs us Q I r h
  obtain ⟨p, ys, rfl, hq, q⟩ := h
  obtain ⟨u, rfl, rx⟩ := vals1 r
  cases rx
  obtain ⟨its, r', pl, hz⟩ := I.list hq
  have hlen := r'.length
  refine call_tuple_list pl.isList (fun h' kp => ?_) (by simp only [List.size_toArray] <;> omega)
  have I1 : L2.Inv X pins σ H { s with heap := h' } := I.kept (t' := s.toks) kp
  have I2 : L2.Inv X pins σ (upd H h'.objs.size (.frz { cls := .type "tuple", data := .seq its.toArray } (.tup ys))) { s with heap := h'.push { cls := .type "tuple", data := .seq its.toArray } } :=
    I1.laid (t' := s.toks) (fun b o e => Heap.get?_push_of_some _ e) (Nat.le_refl _) (show ObjOk X.prog X.w _ _ _ (.frz _ (.tup ys)) from ⟨Heap.get?_push_size _ rfl, hz, its, r', IsTup.new _ _⟩)
  exact ⟨.ref h'.objs.size, _, I2, rfl, q _ _ (I1.hok.fresh (Nat.le_refl _)) rfl⟩
theorem stp_frz {o : Obj} {vs : List V} (r : SRep K S H) (h : H p = none) : Stp K S H S (upd H p (.frz o (.tup vs))) ∧ SRep K S (upd H p (.frz o (.tup vs))) := by
  refine ⟨⟨tx_new h, fun z o a b _ => ⟨a, ?_⟩, fun z ob u b => by rw [upd_ne (ne_of_none b h)]; exact b⟩, fun a o e => (r a o e).mono (tx_new h) (upd_ne ?_)⟩
  · rw [upd_ne (ne_of_none b h)]; exact b
  · intro z; subst z; rw [SRep.free r h] at e; cases e
def gTupleN : GN := fun xs S Q => match xs with
  | [.ref a] => ∃ ys, S a = some (.lst ys) ∧ Q (.nt ys) S
  | _ => False
theorem y_tupleN : CY X "tuple" gTupleN := by
  refine ⟨_, call_tuple_ofN, fun xs as S H Q Kt s r q k => ?_⟩
  match as, q with
  | [.ref p], q =>
    obtain ⟨v, rfl, rv⟩ := reps1 r
    cases rv
    obtain ⟨ys, e, q⟩ := q
    obtain ⟨vs, e1, r⟩ := s _ _ e
    refine ⟨_, _, rfl, .inl (.inl e1), fun l o hl ho => ?_⟩
    obtain ⟨st, sr⟩ := stp_frz (o := o) (vs := vs) s hl
    exact k _ _ _ _ st sr (.nt ⟨o, upd_same, ho⟩ (r.mono st.tx)) q
/-! ### t.index(x) -/
theorem net_is {pins : List (Addr × Obj)} {σ : L2.St} {s : Shared} {vs : List V} (I : L2.Inv X pins σ H s) (h : NeT H p vs) : s.TypeIs (.ref p) "tuple" ∧ ∀ a, Value.ref p = .ref a → ∃ ob, s.heap.get? a = some ob ∧ ob.dict = none := by
  obtain ⟨o, e, hd⟩ := h
  obtain ⟨e1, _, its, r, ob, e2, c, _⟩ := (show ObjOk X.prog X.w H s.heap p (.frz o (.tup vs)) from I.hok p _ e)
  rw [e1] at e2
  cases e2
  refine ⟨⟨o, e1, c⟩, fun a z => ?_⟩
  cases z
  exact ⟨o, e1, hd⟩
theorem pe_ntm {name : Str} {id : String} {r : V → List V → Hp → VK → Prop} {to : TE} {t : TA} {apos cpos : Pos} (pa : PlainAttrs "tuple") (slot : Slot "tuple" name id) (hty : typeOf (.builtin id) = pure (.type "method_descriptor")) (hm : MtR X id r) (ho : PE X o to) (ha : PA X (e :: es) t)
    (hbase : attributeBase o name X.env (eval o X.env) = eval o X.env := by rfl)
    (hfew : ((backTo cpos (starEach (e :: es) X.env)).all (fun x => !x.1) && (backToKw cpos (keywordEach [] X.env)).all (fun x => x.1.isSome)
      && decide ((e :: es).length + ([] : List Keyword).length + (if ([] : List Keyword).isEmpty then 0 else 1) < 30)) = true := by rfl)
    (hline : (apos.endLine == cpos.line) = true := by rfl) (hs : starEach (e :: es) X.env = (false, eval e X.env) :: starEach es X.env := by rfl) (hplain : (backTo cpos (starEach es X.env)).any (·.1) = false := by rfl) :
    PE X (.Call (.Attribute o name apos) (e :: es) [] cpos) (fun σ H Q => to σ H fun x H1 => (∃ p vs, x = .ref p ∧ NeT H1 p vs) ∧ t σ H1 fun xs H2 => r x xs H2 Q) := by
  refine ⟨fun pins s σ H Q I h => ?_⟩
  refine wpAny_Call_method_late hbase hfew hline rfl (thn (ho.run pins s σ H _ I h) fun v s1 ⟨x, H1, I1, r1, ty, q1⟩ => ?_)
  obtain ⟨p, vs, rfl, ty⟩ := ty
  cases r1
  obtain ⟨h1, h2⟩ := net_is I1 ty
  refine ⟨"tuple", id, pa, slot, hty, h1, h2, ?_⟩
  have hA := ha.run cpos pins s1 σ H1 _ I1 q1
  rw [hs] at hA ⊢
  refine Calls.callWith_builtin (by show (false || (backTo cpos (starEach es X.env)).any (·.1)) = false; rw [hplain] <;> rfl) (Calls.evalArgs_plain ?_)
  exact thn hA fun us s2 ⟨vs, H2, I2, r2, q2⟩ => hm pins s2 σ H2 (.ref p) vs (.ref p) us Q I2 rfl r2 q2
def gIdxN : D → GN := fun x vs S Q => match x, vs with
  | .nt ys, [d] => ∃ ps q j z, PDs S (wkDs ys) ps ∧ PD S (wkD d) q ∧ q.depth ≤ 64 ∧ ps[j]? = some z ∧ PyData.eqv z q = true ∧ (∀ (m : Nat) (z' : PyData), m < j → ps[m]? = some z' → PyData.eqv z' q = false) ∧ Q (.int (j : Nat)) S
  | _, _ => False
def eIdxN (fo : DE) (fs : DA) : DE := fun σ S Q => fo σ S fun x S1 => (∃ ys, x = .nt ys) ∧ fs σ S1 fun xs S2 => gIdxN x xs S2 Q
theorem c_idxN {k : Nat} {apos : Pos} (hr : RoomG k X.A) (ho : CE X o fo) (ha : CA X (a :: es) fs)
    (hbase : attributeBase o "index" X.env (eval o X.env) = eval o X.env := by rfl)
    (hfew : ((backTo pos (starEach (a :: es) X.env)).all (fun x => !x.1) && (backToKw pos (keywordEach [] X.env)).all (fun x => x.1.isSome)
      && decide ((a :: es).length + ([] : List Keyword).length + (if ([] : List Keyword).isEmpty then 0 else 1) < 30)) = true := by rfl)
    (hline : (apos.endLine == pos.line) = true := by rfl) (hs : starEach (a :: es) X.env = (false, eval a X.env) :: starEach es X.env := by rfl) (hplain : (backTo pos (starEach es X.env)).any (·.1) = false := by rfl) :
    CE X (.Call (.Attribute o "index" apos) (a :: es) [] pos) (eIdxN fo fs) := by
  obtain ⟨to, ho, so⟩ := ho
  obtain ⟨ta, ha, sa⟩ := ha
  refine ⟨_, pe_ntm PySem.F.plainAttrs_tuple PySem.F.slot_tuple_index PySem.F.type_tuple_index (mt_indexT hr) ho ha hbase hfew hline hs hplain, fun σ S Q sv H Kt re rs q k => so σ S _ sv H _ re rs q fun v d S1 H1 s1 r1 v1 q1 => ?_⟩
  obtain ⟨⟨ys, rfl⟩, q1⟩ := q1
  have v1' := v1
  cases v1 with
  | @nt p vs _ h1 h2 =>
    refine ⟨⟨p, vs, rfl, h1⟩, sa σ S1 _ sv H1 _ (re.mono s1.tx) r1 q1 fun vs2 ds S2 H2 s2 r2 v2 q2 => ?_⟩
    match ds, q2 with
    | [d], q2 =>
      obtain ⟨ps, e, j, z, h2, h3, h4, hj, he, hno, q⟩ := q2
      obtain ⟨v, rfl, rv⟩ := reps1 v2
      have rx := ((v1'.mono s2.tx).wk : Rep _ _ _ (.tup (wkDs ys)))
      exact ⟨v, e, ps, j, z, rfl, PD.dp r2 h3 rv.wk, PD.dp r2 (.tup h2) rx, h3.plain, PDs.plain h2, h4, hj, he, hno, k _ _ _ _ (s1.trans s2) r2 (.int _) q⟩
end
end DL
/-! a law's own def whose code object is known (lambdas in the law itself) -/
namespace DL
open PySem PySem.Spec PyProof.Rows L2 LamX NdefX
theorem fnG_ofC {P : Program} {w : World} {K : PySem.W.Frag} {mg : Str → Option Value} {base : Heap} {x : Str} {st : Stmt} {N ps : List Str} {k : Nat} {b : DS} {m : MF} {c f : Addr} {oc : Value} {od an : Option Addr} {kV doc pm ct : Value} {osl : Array (Option Value)}
    (lk : K.lookup f = some ⟨oc, od, .func (PySem.W.fnOf x x (defArgs st) (defBody st) (defScope st) .none kV doc pm an (.ref c) ct), osl⟩) (hcd : PySem.W.codeIn K (.ref c) x = true) (Sc : FnScope N ps (defScope st)) (hm : ∀ ds S Q, m ds S Q = b (endsD Q) (startD N.length ds) S)
    (h : ∀ (A : Around) (outer : List PySem.Env) (s : Shared) (H : Hp) (E : XK), RoomG k (A.deeper (envOfC x (defScope st) s.heap.objs.size f (.ref c))) → CSs (cxOf CX0 P w K mg base N x (defScope st) f (.ref c) A outer s H E).nox (defBody st) b) :
    FnG P w K mg base CX0 (k + 1) f (PySem.W.fnOf x x (defArgs st) (defBody st) (defScope st) .none kV doc pm an (.ref c) ct) ps (spD K ps.length m) := by
  have e : m = fun ds S Q => b (endsD Q) (startD N.length ds) S := funext fun ds => funext fun S => funext fun Q => hm ds S Q
  rw [e]
  refine fn_ofG lk hcd Sc (fun vs H Q E h => h.1) (fun A outer s H vs Q E hr hq => ?_)
  obtain ⟨t, p, sn⟩ := h A outer s H E hr
  refine ⟨t, p.nox, ?_⟩
  obtain ⟨hl, ds, S, Qd, r, sr, q, kk⟩ := hq
  refine sn (endsD Qd) _ S _ _ H (erep_start r) sr q ⟨fun sv σ S' H' s' r' e' q' => ?_, kk, fun _ _ _ _ _ _ _ z => z.elim, fun _ _ _ _ _ _ _ z => z.elim⟩
  exact kk .non .non S' H' s' r' .non q'
end DL
/-! == of a text and a dict -/
namespace PySem.SeqAt
open AutoSeq1 (wpAny_loadPart')
open MeetsSeq
theorem str_eq_declines_dict (b : Str) (u : Tok) (l : Addr) (c : Value) (es : Array DictEntry) (ep : Nat) (dd : Option Addr) (sl : Array (Option Value)) :
    Meets (Builtin.«str.__eq__» ⟨[.str b u, .ref l], []⟩) (fun _ R s => s.heap.get? l = some { cls := c, dict := dd, data := .dict es ep, slots := sl } ∧ R (.ok (.ret .notImplemented)) s) :=
  .of_wp fun prog w A R s h => by obtain ⟨hp, g, d, tk, os⟩ := s; obtain ⟨hl, h⟩ := h; wp_walk using wpAny_loadPart' hl, wpAny_load hl; exact ⟨_, rfl, h⟩
theorem dict_eq_declines_str (l : Addr) (es : Array DictEntry) (ep : Nat) (dd : Option Addr) (sl : Array (Option Value)) (b : Str) (u : Tok) :
    Meets (Builtin.«dict.__eq__» ⟨[.ref l, .str b u], []⟩) (fun _ R s => s.heap.get? l = some { cls := .type "dict", dict := dd, data := .dict es ep, slots := sl } ∧ R (.ok (.ret .notImplemented)) s) :=
  .of_wp fun prog w A R s h => by obtain ⟨hp, g, d, tk, os⟩ := s; obtain ⟨hl, h⟩ := h; have f1 := F.sub_str_dict; wp_walk using wpAny_loadPart' hl; exact ⟨_, rfl, h⟩
end PySem.SeqAt
namespace DL
open PySem PySem.Spec PyProof.Rows L2
section
variable {X : Cx} {K : PySem.W.Frag} {S : Sto} {H : Hp}
theorem rc_str_dict {A : Around} {s : Shared} {l : Addr} {o : Obj} {es : Array DictEntry} {ep : Nat} (b : Str) (u : Tok) (ho : s.heap.get? l = some o) (hc : o.cls = .type "dict") (hd : o.data = .dict es ep) (hu : A.units < cLine) : SeqAt.RcAt A s (.str b u) (.ref l) false := fun prog w E Q h => by
  obtain ⟨cls, dd, data, sl⟩ := o
  simp only at hc hd
  subst hc hd
  exact SeqAt.rc_eq_decline_or (k := false) (typeIs_str s b u) ⟨_, ho, rfl⟩ (by decide) PySem.F.sub_dict_str PySem.F.slot_str_eq PySem.F.slot_dict_eq_refl
    (fun _ hq => call_meets PySem.F.slot_str_eq (typeIs_str s b u) PySem.F.entry_str_eq (PySem.F.args_str_eq_2 _ _) (SeqAt.str_eq_declines_dict b u l (.type "dict") es ep dd sl) ⟨ho, hq⟩)
    (fun _ hq => call_meets PySem.F.slot_dict_eq_refl ⟨_, ho, rfl⟩ PySem.F.entry_dict_eq (PySem.F.args_dict_eq_2 _ _) (SeqAt.dict_eq_declines_str l es ep dd sl b u) ⟨ho, hq⟩)
    (fun _ hq => wpAny_of_eq (rfl : isSame (.str b u) (.ref l) = pure false) hq) (.inr hu) h
def rEqSD : R2 := fun x y H Q => (∃ (z : Str) (p : Addr) (kvs : List (Key × V)), x = .str z ∧ y = .ref p ∧ H p = some (.dK kvs)) ∧ Q (.bl false) H
theorem opEqSD (hu : X.A.units + 64 < cLine) : OpR X (compareOp .Eq) rEqSD := fun pins s σ H x y v u Q I rx ry ⟨⟨z, p, kvs, ex, ey, e⟩, q⟩ => by
  subst ex ey
  obtain ⟨t, rfl⟩ := rx
  cases ry
  obtain ⟨_, _, vs, _, o, es, ep, h1, h2, h3, _⟩ := (show ObjOk X.prog X.w H s.heap p (.dK kvs) from I.hok p _ e)
  exact rc_str_dict z t h1 h2.1 h3 (by omega) X.prog X.w _ _ ⟨.bl false, H, I, rfl, q⟩
/-- ==, a text and a dict too -/
def gEqX (f : Bool → Bool) : G2 := fun x y S Q => match x, y with
  | .str z, .ref p => (∃ kvs, S p = some (.dk kvs) ∧ Q (.bl (f false)) S) ∨ gEq f (.str z) (.ref p) S Q
  | x, y => gEq f x y S Q
theorem o_eqX (hu : X.A.units + 64 < cLine) : CO X .Eq (gEqX id) := by
  refine ⟨_, OpR.or (opEqSD hu) (opEqP hu), fun x y a b S H Q Kt s ra rb q k => ?_⟩
  have old : gEq id a b S Q → rEqP X.K x y H Kt := fun q => by
    obtain ⟨p, e, h1, h2, h3, q⟩ := eq_pd q
    exact ⟨p, e, PD.dp s h1 ra, PD.dp s h2 rb, h1.plain, h2.plain, h3, k.now s (.bl _) q⟩
  cases ra with
  | str z =>
    cases rb with
    | ref p =>
      rcases q with ⟨kvs, e, q⟩ | q
      · obtain ⟨ws, e1, r⟩ := s _ _ e
        exact .inl ⟨⟨z, p, ws, rfl, rfl, e1⟩, k.now s (.bl _) q⟩
      · exact .inr (old q)
    | _ => exact .inr (old q)
  | _ => exact .inr (old q)
end
end DL
/-! plain rules for the mirrors: loops, comprehensions -/
namespace DL
open PySem L2
theorem seq_i {f g : DS} {D0 : DEnds} {σ : Env} {S : Sto} (h : f ⟨g D0, D0.rt, D0.bk, D0.ct⟩ σ S) : sSeq f g D0 σ S := h
theorem forL_inv {stab : Sto → Prop} {g : DG} {body : DS} {D0 : DEnds} (items : List D) (I : Nat → Env → Sto → Prop) (hst : ∀ i σ S, I i σ S → stab S)
    (turn : ∀ (i : Nat) (x : D) (σ : Env) (S : Sto) (N : Env → Sto → Prop), items[i]? = some x → I i σ S → (∀ σ' S', I (i + 1) σ' S' → N σ' S') → g x σ S fun σ2 S2 => body ⟨N, D0.rt, D0.nx, N⟩ σ2 S2)
    (hend : ∀ σ S, I items.length σ S → D0.nx σ S) {σ : Env} {S : Sto} (h0 : I 0 σ S) : forL stab g body D0 items σ S := by
  have key : ∀ (m i : Nat), m = items.length - i → i ≤ items.length → ∀ σ S, I i σ S → forL stab g body D0 (items.drop i) σ S := by
    intro m
    induction m with
    | zero =>
      intro i hm hi σ S h
      have e : i = items.length := by omega
      subst e
      rw [List.drop_length]
      exact ⟨hst _ _ _ h, hend σ S h⟩
    | succ m ih =>
      intro i hm hi σ S h
      have hlt : i < items.length := by omega
      rw [List.drop_eq_getElem_cons hlt]
      exact ⟨hst _ _ _ h, turn i _ σ S _ (List.getElem?_eq_getElem hlt) h fun σ' S' h' => ih (i + 1) (by omega) hlt σ' S' h'⟩
  exact key _ 0 rfl (Nat.zero_le _) σ S h0
/-- a for over a range -/
theorem forR_inv {stab : Sto → Prop} {g : DG} {body : DS} {D0 : DEnds} (lo : Int) (n : Nat) (I : Nat → Env → Sto → Prop) (hst : ∀ i σ S, I i σ S → stab S)
    (turn : ∀ (i : Nat) (σ : Env) (S : Sto) (N : Env → Sto → Prop), i < n → I i σ S → (∀ σ' S', I (i + 1) σ' S' → N σ' S') → g (.int (lo + (i : Nat))) σ S fun σ2 S2 => body ⟨N, D0.rt, D0.nx, N⟩ σ2 S2)
    (hend : ∀ σ S, I n σ S → D0.nx σ S) {σ : Env} {S : Sto} (h0 : I 0 σ S) : forL stab g body D0 (rangeD lo n) σ S := by
  have hl : (rangeD lo n).length = n := by simp [rangeD]
  refine forL_inv _ I hst (fun i x σ S N hx h hN => ?_) (by rw [hl]; exact hend) h0
  have hlt : i < n := by
    have := (List.getElem?_eq_some_iff.mp hx).1
    omega
  have hx2 : (rangeD lo n)[i]? = some (.int (lo + (i : Nat))) := by
    unfold rangeD
    rw [List.getElem?_map, List.getElem?_range hlt]
    rfl
  rw [hx2] at hx
  cases hx
  exact turn i σ S N hlt h hN
theorem lcL_inv {stab : Sto → Prop} {g : DG} {tests : DT} {elt : DE} {σ : Env} {k : List D → Sto → Prop} (items : List D) (I : Nat → List D → Sto → Prop) (hst : ∀ i acc S, I i acc S → stab S)
    (turn : ∀ (i : Nat) (x : D) (acc : List D) (S : Sto) (N : List D → Sto → Prop), items[i]? = some x → I i acc S → (∀ acc' S', I (i + 1) acc' S' → N acc' S') →
      g x σ S fun σ2 S2 => tests σ2 S2 fun b S3 => if b = true then elt σ2 S3 fun d S4 => acc.length < sizeLine ∧ N (acc ++ [d]) S4 else N acc S3)
    (hend : ∀ acc S, I items.length acc S → k acc S) {S : Sto} (h0 : I 0 [] S) : lcL stab g tests elt σ k items [] S := by
  have key : ∀ (m i : Nat), m = items.length - i → i ≤ items.length → ∀ acc S, I i acc S → lcL stab g tests elt σ k (items.drop i) acc S := by
    intro m
    induction m with
    | zero =>
      intro i hm hi acc S h
      have e : i = items.length := by omega
      subst e
      rw [List.drop_length]
      exact ⟨hst _ _ _ h, hend acc S h⟩
    | succ m ih =>
      intro i hm hi acc S h
      have hlt : i < items.length := by omega
      rw [List.drop_eq_getElem_cons hlt]
      exact ⟨hst _ _ _ h, turn i _ acc S (fun acc' S' => lcL stab g tests elt σ k (items.drop (i + 1)) acc' S') (List.getElem?_eq_getElem hlt) h fun acc' S' h' => ih (i + 1) (by omega) hlt acc' S' h'⟩
  exact key _ 0 rfl (Nat.zero_le _) [] S h0
/-- [f x for x in items], the store as it is -/
theorem lcL_map {stab : Sto → Prop} {g : DG} {elt : DE} {σ : Env} {k : List D → Sto → Prop} (f : D → D) (items : List D) {S : Sto} (hs : stab S) (hz : items.length ≤ sizeLine)
    (ht : ∀ x ∈ items, ∀ Q : DK, Q (f x) S → g x σ S fun σ2 S2 => elt σ2 S2 Q) (h : k (items.map f) S) : lcL stab g tsYes elt σ k items [] S := by
  refine lcL_inv items (fun i acc S' => S' = S ∧ acc = (items.take i).map f) (fun i acc S' ⟨e, _⟩ => by rw [e]; exact hs) (fun i x acc S' N hx ⟨e1, e2⟩ hN => ?_) (fun acc S' ⟨e1, e2⟩ => ?_) ⟨rfl, by simp⟩
  · subst e1 e2
    have hlt := (List.getElem?_eq_some_iff.mp hx).1
    show g x σ S' fun σ2 S2 => elt σ2 S2 fun d S4 => ((items.take i).map f).length < sizeLine ∧ N ((items.take i).map f ++ [d]) S4
    refine ht x (List.mem_of_getElem? hx) _ ⟨?_, hN _ _ ⟨rfl, ?_⟩⟩
    · rw [List.length_map, List.length_take]
      omega
    · rw [List.take_add_one, hx, List.map_append]
      rfl
  · subst e1 e2
    rw [List.take_of_length_le (Nat.le_refl _)]
    exact h
/-- [f x for x in items if p x], the store as it is -/
theorem lcL_filter {stab : Sto → Prop} {g : DG} {tests : DT} {elt : DE} {σ : Env} {k : List D → Sto → Prop} (f : D → D) (p : D → Bool) (items : List D) {S : Sto} (hs : stab S) (hz : items.length ≤ sizeLine)
    (h : k ((items.filter p).map f) S)
    (hk : ∀ x ∈ items, ∀ (T : DK) (G : Sto → Prop), (p x = true → T (f x) S) → (p x = false → G S) → g x σ S fun σ2 S2 => tests σ2 S2 fun b S3 => if b = true then elt σ2 S3 T else G S3) : lcL stab g tests elt σ k items [] S := by
  refine lcL_inv items (fun i acc S' => S' = S ∧ acc = ((items.take i).filter p).map f) (fun i acc S' ⟨e, _⟩ => by rw [e]; exact hs) (fun i x acc S' N hx ⟨e1, e2⟩ hN => ?_) (fun acc S' ⟨e1, e2⟩ => ?_) ⟨rfl, by simp⟩
  · subst e1
    have hlt := (List.getElem?_eq_some_iff.mp hx).1
    have hl : acc.length < sizeLine := by
      rw [e2, List.length_map]
      have := List.length_filter_le p (items.take i)
      rw [List.length_take] at this
      omega
    refine hk x (List.mem_of_getElem? hx) _ (fun S4 => N acc S4) (fun hp => ⟨hl, hN _ _ ⟨rfl, ?_⟩⟩) (fun hp => hN _ _ ⟨rfl, ?_⟩)
    · rw [List.take_add_one, hx, e2, List.filter_append, List.map_append]
      simp [hp]
    · rw [List.take_add_one, hx, e2, List.filter_append, List.map_append]
      simp [hp]
  · subst e1 e2
    rw [List.take_of_length_le (Nat.le_refl _)]
    exact h
end DL
namespace DL
open PySem L2
theorem pds_map {α : Type} {S : Sto} {f : α → D} {g : α → PyData} (h : ∀ x, PD S (f x) (g x)) : ∀ xs : List α, PDs S (xs.map f) (xs.map g)
  | [] => .nil
  | x :: xs => .cons (h x) (pds_map h xs)
theorem pds_ints {S : Sto} (xs : List Int) : PDs S (xs.map .int) (xs.map .int) := pds_map .int xs
theorem pds_strs {S : Sto} (xs : List Str) : PDs S (xs.map .str) (xs.map .str) := pds_map .str xs
theorem depth_map {α : Type} {g : α → PyData} {n : Nat} (h : ∀ x, (g x).depth ≤ n) : ∀ xs : List α, PyData.depthAll (xs.map g) ≤ n
  | [] => Nat.zero_le _
  | x :: xs => by
    show PyData.depthAll (g x :: xs.map g) ≤ n
    unfold PyData.depthAll
    exact Nat.max_le.mpr ⟨h x, depth_map h xs⟩
theorem depth_ints (xs : List Int) : (PyData.list (xs.map .int)).depth ≤ 64 := by
  have := depth_map (g := PyData.int) (n := 0) (fun _ => Nat.le_refl 0) xs
  show PyData.depthAll _ + 1 ≤ 64
  omega
theorem depth_strs (xs : List Str) : (PyData.list (xs.map .str)).depth ≤ 64 := by
  have := depth_map (g := PyData.str) (n := 0) (fun _ => Nat.le_refl 0) xs
  show PyData.depthAll _ + 1 ≤ 64
  omega
theorem eqv_nil (xs : List PyData) : PyData.eqv (.list xs) (.list []) = xs.isEmpty := by cases xs <;> simp [PyData.eqv, PyData.eqvAll]
/-- xs == [] of a list of the store -/
theorem eq_nil {f : Bool → Bool} {S : Sto} {p q : Addr} {xs : List D} {ps : List PyData} {Q : DK} (h1 : S p = some (.lst xs)) (h2 : S q = some (.lst [])) (hp : PDs S xs ps) (hd : (PyData.list ps).depth ≤ 64) (hq : Q (.bl (f xs.isEmpty)) S) : gEq f (.ref p) (.ref q) S Q := by
  refine ⟨.list ps, .list [], .lst h1 hp, .lst h2 .nil, hd, ?_⟩
  rw [eqv_nil]
  have e : ps.isEmpty = xs.isEmpty := by cases hp <;> rfl
  rw [e]
  exact hq
/-- numbers that may be multiplied -/
theorem mulS {i j : Int} (h1 : -(1000000000000000000000) < i) (h2 : i < 1000000000000000000000) (h3 : -(1000000000000000000000) < j) (h4 : j < 1000000000000000000000) : CMulW i j :=
  wide_mul (a := 80) (b := 80) (by have : (2 : Nat) ^ 80 = 1208925819614629174706176 := by decide
                                   omega) (by have : (2 : Nat) ^ 80 = 1208925819614629174706176 := by decide
                                              omega) (by decide) (by decide) (by decide)
theorem fdivS {i j : Int} (h0 : 0 < j) (h : j < 1000000000000000000000) : CDivW i j :=
  wide_div h0 (b := 80) (by have : (2 : Nat) ^ 80 = 1208925819614629174706176 := by decide
                            omega) (by decide) (by decide)
theorem powS {i : Int} {j : Int} (h0 : 0 ≤ j) (h1 : j ≤ 1000000) (h2 : -(18446744073709551616) < i) (h3 : i < 18446744073709551616) : CPow i j := ⟨h0, h1, by
  have : (2 : Nat) ^ 64 = 18446744073709551616 := by decide
  omega⟩
end DL
namespace DL
open PySem L2
section
variable {f : Bool → Bool} {S : Sto} {Q : DK}
theorem gEq_ii {i j : Int} : gEq f (.int i) (.int j) S Q = Q (.bl (f (decide (i = j)))) S := rfl
theorem gEq_ss {i j : Str} : gEq f (.str i) (.str j) S Q = Q (.bl (f (decide (i = j)))) S := rfl
theorem gEq_bb {i j : Bool} : gEq f (.bl i) (.bl j) S Q = Q (.bl (f (decide (i = j)))) S := rfl
theorem gEq_nn : gEq f .non .non S Q = Q (.bl (f true)) S := rfl
theorem gEq_ni {i : Int} : gEq f .non (.int i) S Q = Q (.bl (f false)) S := rfl
theorem gEq_in {i : Int} : gEq f (.int i) .non S Q = Q (.bl (f false)) S := rfl
theorem gEq_ns {i : Str} : gEq f .non (.str i) S Q = Q (.bl (f false)) S := rfl
theorem gEq_sn {i : Str} : gEq f (.str i) .non S Q = Q (.bl (f false)) S := rfl
theorem gEq_si {i : Str} {j : Int} : gEq f (.str i) (.int j) S Q = Q (.bl (f false)) S := rfl
theorem gEq_is {i : Int} {j : Str} : gEq f (.int i) (.str j) S Q = Q (.bl (f false)) S := rfl
end
end DL
namespace DL
open PySem L2
theorem ret_i {fa : DE} {D0 : DEnds} {σ : Env} {S : Sto} (h : fa σ S D0.rt) : sRet fa D0 σ S := h
theorem for_i {fi : DI} {g : DG} {body : DS} {D0 : DEnds} {σ : Env} {S : Sto} (h : fi σ S fun items stab S1 => forL stab g body D0 items σ S1) : sFor fi g body D0 σ S := h
end DL
namespace DL
theorem rangeD_len (lo : Int) (n : Nat) : (rangeD lo n).length = n := by unfold rangeD; rw [List.length_map, List.length_range]
end DL
/-! what the mirrors' words are at known data: rows for simp -/
namespace DL
open PySem L2 PyProof.Rows
section
variable {σ : Env} {S : Sto} {Q : DK} {T : Bool → Sto → Prop} {f g : DE} {p q : Addr} {a b : G2}
/-! tests -/
def vTru (d : D) (S : Sto) (T : Bool → Sto → Prop) : Prop := tTr (eC d) [] S T
def oTru (o : Option O) (S : Sto) (T : Bool → Sto → Prop) : Prop := match o with
  | some (.lst xs) => T (!xs.isEmpty) S
  | some (.dk kvs) => T (!kvs.isEmpty) S
  | some (.dt _) => False
  | some (.tab _) => False
  | some (.fz _) => False
  | none => False
theorem tTr_e : tTr f σ S T = f σ S fun d S1 => vTru d S1 T := rfl
theorem vTru_non : vTru .non S T = T false S := rfl
theorem vTru_bl {k} : vTru (.bl k) S T = T k S := rfl
theorem vTru_int {i} : vTru (.int i) S T = T (i != 0) S := rfl
theorem vTru_str {y} : vTru (.str y) S T = (y.length ≤ sizeLine ∧ T (y.length != 0) S) := rfl
theorem vTru_tup {xs} : vTru (.tup xs) S T = T (!xs.isEmpty) S := rfl
theorem vTru_ref : vTru (.ref p) S T = oTru (S p) S T := by
  show (match S p with | some (.lst xs) => T (!xs.isEmpty) S | some (.dk kvs) => T (!kvs.isEmpty) S | some (.dt _) => False | some (.tab _) => False | some (.fz _) => False | none => False) = _
  unfold oTru
  cases S p with
  | none => rfl
  | some o => cases o <;> rfl
theorem oTru_l {xs} : oTru (some (.lst xs)) S T = T (!xs.isEmpty) S := rfl
theorem oTru_d {xs} : oTru (some (.dk xs)) S T = T (!xs.isEmpty) S := rfl
def vBl (d : D) (S : Sto) (T : Bool → Sto → Prop) : Prop := match d with
  | .bl k => T k S
  | _ => False
theorem tBl_e : tBl f σ S T = f σ S fun d S1 => vBl d S1 T := rfl
theorem vBl_bl {k} : vBl (.bl k) S T = T k S := rfl
/-! values -/
def vNeg (d : D) (S : Sto) (Q : DK) : Prop := eNeg (eC d) [] S Q
theorem eNeg_e : eNeg f σ S Q = f σ S fun d S1 => vNeg d S1 Q := rfl
theorem vNeg_int {i} : vNeg (.int i) S Q = Q (.int (-i)) S := rfl
theorem eChain_e {f2 f3 : DE} : eChain a b f f2 f3 σ S Q = f σ S fun x S1 => f2 σ S1 fun y S2 => a x y S2 fun z S3 => vBl z S3 fun k S3 => if k = true then f3 σ S3 fun u S4 => b y u S4 Q else Q (.bl false) S3 := rfl
theorem eAnd_e : eAnd f g σ S Q = f σ S fun x S1 => vBl x S1 fun k S1 => if k = true then g σ S1 Q else Q (.bl false) S1 := rfl
theorem eOr_e : eOr f g σ S Q = f σ S fun x S1 => vBl x S1 fun k S1 => if k = true then Q (.bl true) S1 else g σ S1 Q := rfl
theorem eNot_e : eNot f σ S Q = f σ S fun x S1 => vBl x S1 fun k S1 => Q (.bl (!k)) S1 := rfl
def vSome (d : D) (S : Sto) (R : Option Int → Sto → Prop) : Prop := oSome (eC d) [] S R
theorem oSome_e {R} : oSome f σ S R = f σ S fun d S1 => vSome d S1 R := rfl
theorem vSome_int {i R} : vSome (.int i) S R = R (some i) S := rfl
theorem gAdd_ii {i j} : gAdd (.int i) (.int j) S Q = Q (.int (i + j)) S := rfl
theorem gAdd_ss {i j} : gAdd (.str i) (.str j) S Q = (i.length + j.length ≤ sizeLine ∧ Q (.str (i ++ j)) S) := rfl
theorem gAdd_tt {xs ys} : gAdd (.tup xs) (.tup ys) S Q = (xs.length + ys.length ≤ sizeLine ∧ Q (.tup (xs ++ ys)) S) := rfl
theorem gAdd_rr : gAdd (.ref p) (.ref q) S Q = ∃ xs ys, S p = some (.lst xs) ∧ S q = some (.lst ys) ∧ xs.length + ys.length ≤ sizeLine ∧ ∀ n, S n = none → Q (.ref n) (updS S n (.lst (xs ++ ys))) := rfl
theorem gI_ii {C : Int → Int → Prop} {h : Int → Int → D} {i j} : gI C h (.int i) (.int j) S Q = (C i j ∧ Q (h i j) S) := rfl
theorem gI0_ii {h : Int → Int → D} {i j} : gI0 h (.int i) (.int j) S Q = Q (h i j) S := rfl
theorem gMulA_ii {i j} : gMulA (.int i) (.int j) S Q = (CMulW i j ∧ Q (.int (i * j)) S) := rfl
theorem gMulA_ri {k} : gMulA (.ref p) (.int k) S Q = ∃ xs, S p = some (.lst xs) ∧ -(2 ^ 63) ≤ k ∧ k < 2 ^ 63 ∧ xs.length * k.toNat ≤ sizeLine ∧ ∀ n, S n = none → Q (.ref n) (updS S n (.lst (List.replicate k.toNat xs).flatten)) := rfl
theorem gMulA_ti {xs k} : gMulA (.tup xs) (.int k) S Q = (xs ≠ [] ∧ 2 ≤ k ∧ k ≤ 1000 ∧ xs.length ≤ 1000 ∧ Q (.tup (List.replicate k.toNat xs).flatten) S) := rfl
theorem gLt_ii {i j} : gLt (.int i) (.int j) S Q = Q (.bl (decide (i < j))) S := rfl
theorem gLt_ss {i j : Str} : gLt (.str i) (.str j) S Q = Q (.bl (decide (i.cps.toList < j.cps.toList))) S := rfl
theorem gIs_n {k : Bool → Bool} {x} : gIs k x .non S Q = Q (.bl (k (isNon x))) S := rfl
theorem gIs_b {k : Bool → Bool} {x c} : gIs k (.bl x) (.bl c) S Q = Q (.bl (k (decide (x = c)))) S := rfl
theorem isNon_n : isNon .non = true := rfl
theorem isNon_b {k} : isNon (.bl k) = false := rfl
theorem isNon_i {k} : isNon (.int k) = false := rfl
theorem isNon_s {k} : isNon (.str k) = false := rfl
theorem isNon_t {k} : isNon (.tup k) = false := rfl
theorem isNon_r : isNon (.ref p) = false := rfl
def oIx (o : Option O) (y : D) (S : Sto) (Q : DK) : Prop := match o with
  | some (.lst xs) => (match y with
    | .int i => ∃ d, atI xs i = some d ∧ Q d S
    | _ => False)
  | some (.dk kvs) => ∃ k d, toKey y = some k ∧ valD kvs k = some d ∧ Q d S
  | some (.dt kvs) => (match y with
    | .kt ks => ∃ d, valT kvs ks = some d ∧ Q d S
    | _ => False)
  | some (.tab _) => False
  | some (.fz kvs) => ∃ k d, toKey y = some k ∧ valD kvs k = some d ∧ Q d S
  | none => False
theorem gIx_r {y} : gIx (.ref p) y S Q = oIx (S p) y S Q := by
  unfold gIx oIx
  dsimp only
  all_goals cases S p with
  | none => rfl
  | some o => cases o <;> rfl
theorem oIx_li {xs i} : oIx (some (.lst xs)) (.int i) S Q = ∃ d, atI xs i = some d ∧ Q d S := rfl
theorem oIx_ds {kvs} {x : Str} : oIx (some (.dk kvs)) (.str x) S Q = ∃ d, valD kvs (.inr x) = some d ∧ Q d S := by
  show (∃ k d, some (Sum.inr x) = some k ∧ valD kvs k = some d ∧ Q d S) = _
  simp only [Option.some.injEq, exists_and_left, exists_eq_left']
theorem oIx_di {kvs} {x : Int} : oIx (some (.dk kvs)) (.int x) S Q = ∃ d, valD kvs (.inl x) = some d ∧ Q d S := by
  show (∃ k d, some (Sum.inl x) = some k ∧ valD kvs k = some d ∧ Q d S) = _
  simp only [Option.some.injEq, exists_and_left, exists_eq_left']
theorem gIx_ti {xs i} : gIx (.tup xs) (.int i) S Q = ∃ d, atI xs i = some d ∧ Q d S := rfl
theorem gIx_fi {xs i} : gIx (.fl xs) (.int i) S Q = ∃ d, atI xs i = some d ∧ Q d S := rfl
theorem gIx_si {z i} : gIx (.str z) (.int i) S Q = (z.length ≤ sizeLine ∧ ∃ c, atI z.cps.toList i = some c ∧ Q (.str ⟨#[c]⟩) S) := rfl
theorem gSl_t {xs l h} : gSl (.tup xs) l h S Q = Q (.tup (cutL xs l h)) S := rfl
theorem gSl_s {z l h} : gSl (.str z) l h S Q = (z.length ≤ sizeLine ∧ Q (.str (cutS z l h)) S) := rfl
theorem gSl_f {xs l h} : gSl (.fl xs) l h S Q = ∀ p, S p = none → Q (.ref p) (updS S p (.lst (cutL xs l h))) := rfl
theorem gSl_r {l h} : gSl (.ref p) l h S Q = ∃ xs, S p = some (.lst xs) ∧ ∀ n, S n = none → Q (.ref n) (updS S n (.lst (cutL xs l h))) := rfl
def oIn (k : Bool → Bool) (o : Option O) (x : D) (S : Sto) (Q : DK) : Prop := match o with
  | some (.lst ys) => flatD x = true ∧ ys.all flatD = true ∧ Q (.bl (k (ys.any fun z => eqF z x))) S
  | some (.dk kvs) => ∃ j, toKey x = some j ∧ Q (.bl (k (hasD kvs j))) S
  | some (.dt kvs) => (match x with
    | .kt ks => Q (.bl (k (hasT kvs ks))) S
    | _ => False)
  | some (.tab _) => False
  | some (.fz kvs) => ∃ j, toKey x = some j ∧ Q (.bl (k (hasD kvs j))) S
  | none => False
theorem gIn_ss {k : Bool → Bool} {i j} : gIn k (.str i) (.str j) S Q = Q (.bl (k (inStr i j))) S := rfl
theorem gIn_t {k : Bool → Bool} {x ys} : gIn k x (.tup ys) S Q = (flatD x = true ∧ ys.all flatD = true ∧ Q (.bl (k (ys.any fun z => eqF z x))) S) := by cases x <;> rfl
theorem gIn_r {k : Bool → Bool} {x} : gIn k x (.ref p) S Q = oIn k (S p) x S Q := by
  unfold gIn oIn
  dsimp only
  all_goals cases S p with
  | none => rfl
  | some o => cases o <;> rfl
theorem oIn_l {k : Bool → Bool} {x ys} : oIn k (some (.lst ys)) x S Q = (flatD x = true ∧ ys.all flatD = true ∧ Q (.bl (k (ys.any fun z => eqF z x))) S) := rfl
theorem oIn_ds {k : Bool → Bool} {kvs} {x : Str} : oIn k (some (.dk kvs)) (.str x) S Q = Q (.bl (k (hasD kvs (.inr x)))) S := by
  show (∃ j, some (Sum.inr x) = some j ∧ Q (.bl (k (hasD kvs j))) S) = _
  simp only [Option.some.injEq, exists_eq_left']
def oLen (o : Option O) (S : Sto) (Q : DK) : Prop := match o with
  | some (.lst ys) => Q (.int ys.length) S
  | some (.dk kvs) => Q (.int kvs.length) S
  | some (.dt _) => False
  | some (.tab _) => False
  | some (.fz kvs) => Q (.int kvs.length) S
  | none => False
theorem gLen_s {z} : gLen [.str z] S Q = (z.length ≤ sizeLine ∧ Q (.int z.length) S) := rfl
theorem gLen_t {xs} : gLen [.tup xs] S Q = Q (.int xs.length) S := rfl
theorem gLen_f {xs} : gLen [.fl xs] S Q = Q (.int xs.length) S := rfl
theorem gLen_r : gLen [.ref p] S Q = oLen (S p) S Q := by
  unfold gLen oLen
  dsimp only
  all_goals cases S p with
  | none => rfl
  | some o => cases o <;> rfl
theorem oLen_l {xs} : oLen (some (.lst xs)) S Q = Q (.int xs.length) S := rfl
theorem oLen_d {xs} : oLen (some (.dk xs)) S Q = Q (.int xs.length) S := rfl
theorem gAbs_i {i} : gAbs [.int i] S Q = Q (.int (if i < 0 then -i else i)) S := rfl
theorem gMax2_ii {i j} : gMax2 [.int i, .int j] S Q = Q (.int (if j > i then j else i)) S := rfl
theorem gMin2_ii {i j} : gMin2 [.int i, .int j] S Q = Q (.int (if j < i then j else i)) S := rfl
theorem gInt1_i {i} : gInt1 [.int i] S Q = Q (.int i) S := rfl
theorem gInt1_b {i} : gInt1 [.bl i] S Q = Q (.int (if i then 1 else 0)) S := rfl
theorem gList_t {xs} : gList [.tup xs] S Q = ∀ p, S p = none → Q (.ref p) (updS S p (.lst xs)) := rfl
theorem gList_f {xs} : gList [.fl xs] S Q = ∀ p, S p = none → Q (.ref p) (updS S p (.lst xs)) := rfl
theorem gList_r : gList [.ref q] S Q = ∃ ys, S q = some (.lst ys) ∧ ∀ p, S p = none → Q (.ref p) (updS S p (.lst ys)) := rfl
theorem gTuple_t {xs} : gTuple [.tup xs] S Q = Q (.tup xs) S := rfl
theorem gTuple_f {xs} : gTuple [.fl xs] S Q = Q (.tup xs) S := rfl
theorem gTuple_r : gTuple [.ref q] S Q = ∃ ys, S q = some (.lst ys) ∧ Q (.tup ys) S := rfl
theorem gSum_r : gSum [.ref q] S Q = ∃ ns : List Int, S q = some (.lst (ns.map .int)) ∧ Q (.int ns.sum) S := rfl
theorem gAll_r {k : List Bool → Bool} : gAll k [.ref q] S Q = ∃ bs : List Bool, S q = some (.lst (bs.map .bl)) ∧ Q (.bl (k bs)) S := rfl
theorem gIsi_x {x n} : gIsi [x, .ty n] S Q = (n ∈ isiCls ∧ ∃ t, tyD x S = some t ∧ Q (.bl (isiN t n)) S) := rfl
def oTy (o : Option O) : Option String := match o with
  | some (.lst _) => some "list"
  | some (.dk _) => some "dict"
  | some (.dt _) => some "dict"
  | some (.tab _) => none
  | some (.fz _) => none
  | none => none
theorem tyD_n : tyD .non S = some "NoneType" := rfl
theorem tyD_b {k} : tyD (.bl k) S = some "bool" := rfl
theorem tyD_i {k} : tyD (.int k) S = some "int" := rfl
theorem tyD_s {k} : tyD (.str k) S = some "str" := rfl
theorem tyD_t {k} : tyD (.tup k) S = some "tuple" := rfl
theorem tyD_f {k} : tyD (.fl k) S = some "list" := rfl
theorem tyD_r : tyD (.ref p) S = oTy (S p) := by
  unfold tyD oTy
  dsimp only
  all_goals cases S p with
  | none => rfl
  | some o => cases o <;> rfl
theorem oTy_l {xs} : oTy (some (.lst xs)) = some "list" := rfl
theorem oTy_d {xs} : oTy (some (.dk xs)) = some "dict" := rfl
def oTyM (T : String) (o : Option O) : Prop := match o with
  | some (.lst _) => T = "list"
  | some (.dk _) => T = "dict"
  | some (.dt _) => T = "dict"
  | some (.tab _) => False
  | some (.fz _) => False
  | none => False
theorem tyM_s {T k} : tyM T (.str k) S = (T = "str") := rfl
theorem tyM_f {T k} : tyM T (.fl k) S = (T = "list") := rfl
theorem tyM_r {T} : tyM T (.ref p) S = oTyM T (S p) := by
  unfold tyM oTyM
  dsimp only
  all_goals cases S p with
  | none => rfl
  | some o => cases o <;> rfl
theorem oTyM_l {T xs} : oTyM T (some (.lst xs)) = (T = "list") := rfl
theorem oTyM_d {T xs} : oTyM T (some (.dk xs)) = (T = "dict") := rfl
theorem gAppend_r {d} : gAppend (.ref p) [d] S Q = ∃ xs, S p = some (.lst xs) ∧ xs.length < sizeLine ∧ Q .non (updS S p (.lst (xs ++ [d]))) := rfl
theorem gPop0_r : gPop0 (.ref p) [] S Q = ∃ xs d, S p = some (.lst xs) ∧ xs[xs.length - 1]? = some d ∧ Q d (updS S p (.lst xs.dropLast)) := rfl
theorem gPopAt_r {i} : gPopAt (.ref p) [.int i] S Q = ∃ xs j d, S p = some (.lst xs) ∧ -(2 ^ 63) ≤ i ∧ i < 2 ^ 63 ∧ seqIndex? i xs.length = some j ∧ xs[j]? = some d ∧ Q d (updS S p (.lst (xs.eraseIdx j))) := rfl
theorem gClear_r : gClear (.ref p) [] S Q = ∃ xs, S p = some (.lst xs) ∧ Q .non (updS S p (.lst [])) := rfl
theorem gReverse_r : gReverse (.ref p) [] S Q = ∃ xs, S p = some (.lst xs) ∧ Q .non (updS S p (.lst xs.reverse)) := rfl
theorem gJoin_r {z} : gJoin (.str z) [.ref p] S Q = ∃ ys : List Str, S p = some (.lst (ys.map .str)) ∧ (ys.map (·.length)).sum + ys.length * z.length ≤ 16777216 ∧ Q (.str (Txt.join z ys)) S := rfl
theorem gUpper_s {z} : gUpper (.str z) [] S Q = (z.length ≤ 5592405 ∧ Q (.str (Txt.upper z)) S) := rfl
theorem gStr_i {i} : gStr [.int i] S Q = (i.natAbs.log2 < 1920 ∧ Q (.str (toString i)) S) := rfl
theorem gSorted_r : gSorted [.ref p] S Q = ((∃ ns : List Int, S p = some (.lst (ns.map .int)) ∧ ∀ ns' : List Int, ns'.Perm ns → ns'.Pairwise (· ≤ ·) → ∀ n, S n = none → Q (.ref n) (updS S n (.lst (ns'.map .int)))) ∨
      ∃ ns : List Str, S p = some (.lst (ns.map .str)) ∧ ns.length < 64 ∧ ∀ ns' : List Str, ns'.Perm ns → sortedS ns' = true → ∀ n, S n = none → Q (.ref n) (updS S n (.lst (ns'.map .str)))) := rfl
/-! what is walked -/
variable {R : List D → (Sto → Prop) → Sto → Prop} {fs : DA}
def vSeq (d : D) (S : Sto) (R : List D → (Sto → Prop) → Sto → Prop) : Prop := iSeq (eC d) [] S R
theorem iSeq_e : iSeq f σ S R = f σ S fun d S1 => vSeq d S1 R := rfl
theorem vSeq_r : vSeq (.ref p) S R = ∃ xs, S p = some (.lst xs) ∧ R xs (fun S => S p = some (.lst xs)) S := rfl
theorem vSeq_f {xs} : vSeq (.fl xs) S R = R xs (fun _ => True) S := rfl
theorem vSeq_t {xs} : vSeq (.tup xs) S R = R xs (fun _ => True) S := rfl
theorem vSeq_s {z} : vSeq (.str z) S R = R (z.cps.toList.map fun c => .str ⟨#[c]⟩) (fun _ => True) S := rfl
def vRng1 (ds : List D) (S : Sto) (R : List D → (Sto → Prop) → Sto → Prop) : Prop := iRange1 (fun _ S Q => Q ds S) [] S R
theorem iRange1_e : iRange1 fs σ S R = fs σ S fun ds S1 => vRng1 ds S1 R := rfl
theorem vRng1_i {j} : vRng1 [.int j] S R = (-(2 ^ 62) ≤ j ∧ j < 2 ^ 62 ∧ R (rangeD 0 j.toNat) (fun _ => True) S) := rfl
def vRng2 (ds : List D) (S : Sto) (R : List D → (Sto → Prop) → Sto → Prop) : Prop := iRange2 (fun _ S Q => Q ds S) [] S R
theorem iRange2_e : iRange2 fs σ S R = fs σ S fun ds S1 => vRng2 ds S1 R := rfl
theorem vRng2_i {i j} : vRng2 [.int i, .int j] S R = ((-(2 ^ 62) ≤ i ∧ i < 2 ^ 62 ∧ -(2 ^ 62) ≤ j ∧ j < 2 ^ 62) ∧ R (rangeD i (j - i).toNat) (fun _ => True) S) := rfl
def vZip (ds : List D) (S : Sto) (R : List D → (Sto → Prop) → Sto → Prop) : Prop := iZipD (fun _ S Q => Q ds S) [] S R
theorem iZipD_e : iZipD fs σ S R = fs σ S fun ds S1 => vZip ds S1 R := rfl
theorem vZip_r : vZip [.ref p, .ref q] S R = ∃ xs ys, S p = some (.lst xs) ∧ S q = some (.lst ys) ∧ R (pairs xs ys) (fun S => S p = some (.lst xs) ∧ S q = some (.lst ys)) S := rfl
theorem vZip_t {xs ys} : vZip [.tup xs, .tup ys] S R = R (pairs xs ys) (fun _ => True) S := rfl
def vEnum (ds : List D) (S : Sto) (R : List D → (Sto → Prop) → Sto → Prop) : Prop := iEnumD (fun _ S Q => Q ds S) [] S R
theorem iEnumD_e : iEnumD fs σ S R = fs σ S fun ds S1 => vEnum ds S1 R := rfl
theorem vEnum_r : vEnum [.ref p] S R = ∃ xs, S p = some (.lst xs) ∧ R (enumD xs) (fun S => S p = some (.lst xs)) S := rfl
/-! targets, stores -/
variable {N : Env → Sto → Prop} {gs : List D → Env → Sto → (Env → Sto → Prop) → Prop} {gg : DG}
theorem nTupL_t {n ds} : nTupL n gs (.tup ds) σ S N = (ds.length = n ∧ gs ds σ S N) := rfl
theorem nTupL_r {n} : nTupL n gs (.ref p) σ S N = ∃ ds, S p = some (.lst ds) ∧ ds.length = n ∧ gs ds σ S N := rfl
theorem nCons_c {d r} : nCons gg gs (d :: r) σ S N = gg d σ S fun σ1 S1 => gs r σ1 S1 N := rfl
theorem nNil_n : nNil [] σ S N = N σ S := rfl
def oPut (o : Option O) (p : Addr) (i d : D) (S : Sto) (N : Sto → Prop) : Prop := match o with
  | some (.dk kvs) => ∃ k, toKey i = some k ∧ kvs.length < sizeLine ∧ N (updS S p (.dk (putD kvs k d)))
  | some (.dt kvs) => (match i with
    | .kt ks => kvs.length < sizeLine ∧ N (updS S p (.dt (putT kvs ks d)))
    | _ => False)
  | some (.lst xs) => (match i with
    | .int n => ∃ j, ixN xs.length n = some j ∧ N (updS S p (.lst (xs.set j d)))
    | _ => False)
  | some (.tab _) => False
  | some (.fz _) => False
  | none => False
def vPut (o i d : D) (S : Sto) (N : Sto → Prop) : Prop := match o with
  | .ref p => oPut (S p) p i d S N
  | _ => False
theorem sSub_e {fv fo fi : DE} {D0 : DEnds} : sSub fv fo fi D0 σ S = fv σ S fun d S1 => fo σ S1 fun o S2 => fi σ S2 fun i S3 => vPut o i d S3 (D0.nx σ) := by
  unfold sSub
  refine congrArg (fv σ S) (funext fun d => funext fun S1 => congrArg (fo σ S1) (funext fun o => funext fun S2 => congrArg (fi σ S2) (funext fun i => funext fun S3 => ?_)))
  unfold vPut oPut
  cases o with
  | ref p =>
    dsimp only
    all_goals cases S3 p with
    | none => rfl
    | some u => cases u <;> rfl
  | _ => rfl
theorem vPut_r {i d M} : vPut (.ref p) i d S M = oPut (S p) p i d S M := rfl
theorem oPut_ds {kvs} {x : Str} {d M} : oPut (some (.dk kvs)) p (.str x) d S M = (kvs.length < sizeLine ∧ M (updS S p (.dk (putD kvs (.inr x) d)))) := by
  show (∃ k, some (Sum.inr x) = some k ∧ kvs.length < sizeLine ∧ M (updS S p (.dk (putD kvs k d)))) = _
  simp only [Option.some.injEq, exists_eq_left']
theorem oPut_di {kvs} {x : Int} {d M} : oPut (some (.dk kvs)) p (.int x) d S M = (kvs.length < sizeLine ∧ M (updS S p (.dk (putD kvs (.inl x) d)))) := by
  show (∃ k, some (Sum.inl x) = some k ∧ kvs.length < sizeLine ∧ M (updS S p (.dk (putD kvs k d)))) = _
  simp only [Option.some.injEq, exists_eq_left']
theorem oPut_l {xs n d M} : oPut (some (.lst xs)) p (.int n) d S M = ∃ j, ixN xs.length n = some j ∧ M (updS S p (.lst (xs.set j d))) := rfl
end
end DL
namespace DL
section
variable {n : Env → Sto → Prop} {r : DK} {b c : Env → Sto → Prop}
theorem nx_mk : DEnds.nx ⟨n, r, b, c⟩ = n := id rfl
theorem rt_mk : DEnds.rt ⟨n, r, b, c⟩ = r := id rfl
theorem bk_mk : DEnds.bk ⟨n, r, b, c⟩ = b := id rfl
theorem ct_mk : DEnds.ct ⟨n, r, b, c⟩ = c := id rfl
end
end DL
/-! rows of the mirrors, continued -/
namespace DL
open PySem L2
section
variable {S S1 S' : Sto} {Q : DK} {σ : DL.Env} {p q : Addr} {fo fe ff fa : DE} {m : MF}
theorem gLt2_ii {i j} : gLt2 (.int i) (.int j) S Q = Q (.bl (decide (i < j))) S := rfl
theorem gLt2_ss {i j : Str} : gLt2 (.str i) (.str j) S Q = Q (.bl (decide (i.cps.toList < j.cps.toList))) S := rfl
def vTab (tab : List (Str × Int)) (y : D) (S : Sto) (Q : DK) : Prop := eTab tab (eC y) [] S Q
theorem eTab_e {tab : List (Str × Int)} {f : DE} : eTab tab f σ S Q = f σ S fun y S1 => vTab tab y S1 Q := rfl
theorem vTab_s {tab : List (Str × Int)} {z : Str} : vTab tab (.str z) S Q = ∃ i, tabAt tab z = some i ∧ Q (.int i) S := rfl
def vGet2 (p : Addr) (y z : D) (S : Sto) (Q : DK) : Prop := ∃ kvs k, S p = some (.dk kvs) ∧ toKey y = some k ∧ Q ((valD kvs k).getD z) S
def vGetO (o : D) (S : Sto) (R : Addr → Prop) : Prop := match o with
  | .ref p => (∃ kvs, S p = some (.dk kvs)) ∧ R p
  | _ => False
theorem eGet2_e : eGet2 fo fe ff σ S Q = fo σ S fun o S1 => vGetO o S1 fun p => fe σ S1 fun y S2 => ff σ S2 fun z S3 => vGet2 p y z S3 Q := by
  unfold eGet2 vGetO
  refine congrArg (fo σ S) (funext fun o => funext fun S1 => ?_)
  cases o <;> rfl
theorem vGetO_r {R : Addr → Prop} : vGetO (.ref p) S R = ((∃ kvs, S p = some (.dk kvs)) ∧ R p) := rfl
theorem vGet2_s {x : Str} {z : D} : vGet2 p (.str x) z S Q = ∃ kvs, S p = some (.dk kvs) ∧ Q ((valD kvs (.inr x)).getD z) S := by
  show (∃ kvs k, S p = some (.dk kvs) ∧ some (Sum.inr x) = some k ∧ Q ((valD kvs k).getD z) S) = _
  refine propext ⟨fun ⟨kvs, k, h1, h2, h3⟩ => ?_, fun ⟨kvs, h1, h3⟩ => ⟨kvs, _, h1, rfl, h3⟩⟩
  cases h2
  exact ⟨kvs, h1, h3⟩
end
end DL
/-! rows of the mirrors: repr, len(set(..)), [::-1] -/
namespace DL
open PySem L2
section
variable {S S1 S' : Sto} {Q : DK} {σ : DL.Env} {p q : Addr} {fo fe ff fa : DE} {m : MF}
def vLenSet (d : D) (S : Sto) (Q : DK) : Prop := ∃ ds ks, itmD S d = some ds ∧ asKs ds = some ks ∧ ks.length + 1 < 4096 ∧ Q (.int (dst ks)) S
theorem eLenSet_e : eLenSet fe σ S Q = fe σ S fun d S1 => vLenSet d S1 Q := rfl
def vRev (d : D) (S : Sto) (Q : DK) : Prop := match d with
  | .tup ds => Q (.tup ds.reverse) S
  | d => ∃ ds, itmD S d = some ds ∧ ∀ q, S q = none → Q (.ref q) (updS S q (.lst ds.reverse))
theorem eRev_e : eRev fe σ S Q = fe σ S fun d S1 => vRev d S1 Q := by
  unfold eRev vRev
  refine congrArg (fe σ S) (funext fun d => funext fun S1 => ?_)
  cases d <;> rfl
theorem vRev_t {ds : List D} : vRev (.tup ds) S Q = Q (.tup ds.reverse) S := rfl
theorem gStr2_i {i} : gStr2 [.int i] S Q = (i.natAbs.log2 < 1920 ∧ Q (.str (Str.ofString (toString i))) S) := rfl
theorem gStr2_s {z} : gStr2 [.str z] S Q = Q (.str z) S := rfl
def boxD : D → Bool
  | .tup _ => true
  | .fl _ => true
  | .ref _ => true
  | _ => false
end
end DL
/-! rows of the mirrors: tables, pairs -/
namespace DL
open PySem L2
section
variable {S S1 S' : Sto} {Q : DK} {σ : DL.Env} {p q : Addr} {fe : DE} {fs : DA} {D0 : DEnds}
def vTabIn (tab : List (Str × Int)) (f : Bool → Bool) (y : D) (S : Sto) (Q : DK) : Prop := eTabIn tab f (eC y) [] S Q
theorem eTabIn_e {tab : List (Str × Int)} {f : Bool → Bool} : eTabIn tab f fe σ S Q = fe σ S fun y S1 => vTabIn tab f y S1 Q := rfl
theorem vTabIn_s {tab : List (Str × Int)} {f : Bool → Bool} {z : Str} : vTabIn tab f (.str z) S Q = ((tabAt tab z).isSome = true ∧ Q (.bl (f true)) S) := rfl
def vPar (i j : Nat) (ds : List D) (D0 : DEnds) (σ : DL.Env) (S : Sto) : Prop := sPar i j (fun _ S K => K ds S) D0 σ S
theorem sPar_e {i j : Nat} : sPar i j fs D0 σ S = fs σ S fun ds S1 => vPar i j ds D0 σ S1 := rfl
theorem vPar_2 {i j : Nat} {v w : D} : vPar i j [v, w] D0 σ S = D0.nx (setS j w (setS i v σ)) S := rfl
end
end DL
namespace LW
open PySem L2 DL
section
variable {S S1 S' : Sto} {Q : DK} {σ : DL.Env} {p q : Addr} {fo fe ff fa : DE} {m : MF}
def vListV (o : D) (S : Sto) (Q : DK) : Prop := match o with
  | .ref p => ∃ kvs, S p = some (.dk kvs) ∧ ∀ a, S a = none → Q (.ref a) (updS S a (.lst (kvs.map (·.2))))
  | _ => False
theorem eListV_e : eListV fo σ S Q = fo σ S fun o S1 => vListV o S1 Q := by
  unfold eListV vListV
  rfl
theorem vListV_r : vListV (.ref p) S Q = ∃ kvs, S p = some (.dk kvs) ∧ ∀ a, S a = none → Q (.ref a) (updS S a (.lst (kvs.map (·.2)))) := rfl
def vSortK (m : MF) (o : D) (S : Sto) (Q : DK) : Prop := match o with
  | .ref p => ∃ xs, S p = some (.lst xs) ∧ keyed m xs fun ys => ∀ n, S n = none → Q (.ref n) (updS S n (.lst ys))
  | _ => False
theorem eSortK_e : eSortK m fa σ S Q = fa σ S fun o S1 => vSortK m o S1 Q := by
  unfold eSortK vSortK
  rfl
theorem vSortK_r : vSortK m (.ref p) S Q = ∃ xs, S p = some (.lst xs) ∧ keyed m xs fun ys => ∀ n, S n = none → Q (.ref n) (updS S n (.lst ys)) := rfl
end
end LW
namespace LW
open PySem L2 DL
section
variable {S S1 S' : Sto} {Q : DK} {R : List D → (Sto → Prop) → Sto → Prop} {σ : DL.Env} {p q : Addr} {fo fe ff fa : DE} {fs : DA} {m : MF}
theorem gSplit_s {z y : Str} : gSplit (.str z) [.str y] S Q = ((y.length == 0) = false ∧ z.length + 2 ≤ sizeLine ∧ ∀ p, S p = none → Q (.ref p) (updS S p (.lst ((Txt.split z y).map .str)))) := rfl
theorem gExtend_rt {ds : List D} : gExtend (.ref p) [.tup ds] S Q = ∃ xs, S p = some (.lst xs) ∧ xs.length + ds.length ≤ sizeLine ∧ Q .non (updS S p (.lst (xs ++ ds))) := rfl
theorem gInt2_s {z : Str} : gInt2 [.str z] S Q = ∃ n, PySem.intText? z = some n ∧ z.length ≤ 640 ∧ Q (.int n) S := rfl
def vRng3 (ds : List D) (S : Sto) (R : List D → (Sto → Prop) → Sto → Prop) : Prop := iRange3 (fun _ S Q => Q ds S) [] S R
theorem iRange3_e : iRange3 fs σ S R = fs σ S fun ds S1 => vRng3 ds S1 R := rfl
theorem vRng3_i {i j c : Int} : vRng3 [.int i, .int j, .int c] S R = ∃ n, RgC i j c n ∧ R (stepD i c n) (fun _ => True) S := rfl
def vTabW (tab : List (Str × List Int)) (y : D) (S : Sto) (Q : DK) : Prop := match y with
  | .str z => ∃ is, tabWAt tab z = some is ∧ Q (.tup (is.map .int)) S
  | _ => False
theorem eTabW_e {tab : List (Str × List Int)} : eTabW tab fe ff σ S Q = fe σ S fun y S1 => ff σ S1 fun _ S2 => vTabW tab y S2 Q := rfl
theorem vTabW_s {tab : List (Str × List Int)} {z : Str} : vTabW tab (.str z) S Q = ∃ is, tabWAt tab z = some is ∧ Q (.tup (is.map .int)) S := rfl
end
end LW
namespace LW
open PySem L2 DL
section
variable {S S1 S' : Sto} {Q : DK} {D0 : DEnds} {Ed : EK} {σ : DL.Env} {f g : DSX}
theorem seqx_i (h : f { D0 with nx := g D0 Ed } Ed σ S) : xSeq f g D0 Ed σ S := h
end
end LW
namespace LW
open PySem L2 DL
section
variable {S S1 S' : Sto} {Q : DK} {σ : DL.Env} {fs : DA} {f : DE} {p q : Addr}
theorem eTupK_e : eTupK fs σ S Q = fs σ S fun xs S1 => xs.length ≤ sizeLine ∧ ∃ ks, toKeys xs = some ks ∧ Q (.kt ks) S1 := id rfl
theorem eUp_e : eUp f σ S Q = f σ S fun d S1 => Q (upD d) S1 := id rfl
theorem eDictT0_e : eDictT0 σ S Q = ∀ p, S p = none → Q (.ref p) (updS S p (.dt [])) := id rfl
theorem gListK_r : gListK [.ref q] S Q = ∃ kvs, S q = some (.dt kvs) ∧ ∀ p, S p = none → Q (.ref p) (updS S p (.lst (kvs.map fun kv => .kt kv.1))) := id rfl
theorem oIx_t {kvs ks} : oIx (some (.dt kvs)) (.kt ks) S Q = ∃ d, valT kvs ks = some d ∧ Q d S := id rfl
theorem oPut_t {kvs ks d} {M : Sto → Prop} : oPut (some (.dt kvs)) p (.kt ks) d S M = (kvs.length < sizeLine ∧ M (updS S p (.dt (putT kvs ks d)))) := id rfl
theorem toKeys_ss {a b : Str} : toKeys [.str a, .str b] = some [.inr a, .inr b] := id rfl
theorem upD_k {ks} : upD (.kt ks) = .tup (ks.map kD) := id rfl
end
end LW
namespace LW
open PySem L2 DL
section
variable {S S1 S' : Sto} {Q : DK} {σ : DL.Env} {fs : DA} {f : DE} {p q : Addr}
theorem eLk_e : eLk f σ S Q = ∃ p kvs, S p = some (.dk kvs) ∧ f σ (updS S p (.fz kvs)) fun d S' => Q d (updS S' p (.dk kvs)) := id rfl
def vFz (g : List (Key × DL.D) → List DL.D) (d : DL.D) (S : Sto) (Q : List DL.D → (Sto → Prop) → Sto → Prop) : Prop := match d with
  | .ref p => ∃ kvs, S p = some (.fz kvs) ∧ Q (g kvs) (fun S => S p = some (.fz kvs)) S
  | _ => False
theorem iFz_e {g} {Q : List DL.D → (Sto → Prop) → Sto → Prop} : iFz g f σ S Q = f σ S fun d S1 => vFz g d S1 Q := id rfl
theorem vFz_r {g} {Q : List DL.D → (Sto → Prop) → Sto → Prop} : vFz g (.ref p) S Q = ∃ kvs, S p = some (.fz kvs) ∧ Q (g kvs) (fun S => S p = some (.fz kvs)) S := id rfl
theorem nUp_e {g : DG} {d : DL.D} {Q : DL.Env → Sto → Prop} : nUp g d σ S Q = g (upD d) σ S Q := id rfl
theorem upD_t {xs} : upD (.tup xs) = .tup xs := id rfl
theorem upD_r : upD (.ref p) = .ref p := id rfl
theorem oIx_zs {kvs} {x : Str} : oIx (some (.fz kvs)) (.str x) S Q = ∃ d, valD kvs (.inr x) = some d ∧ Q d S := by
  show (∃ k d, some (Sum.inr x) = some k ∧ valD kvs k = some d ∧ Q d S) = _
  simp only [Option.some.injEq, exists_and_left, exists_eq_left']
theorem oIn_zs {k : Bool → Bool} {kvs} {x : Str} : oIn k (some (.fz kvs)) (.str x) S Q = Q (.bl (k (hasD kvs (.inr x)))) S := by
  show (∃ j, some (Sum.inr x) = some j ∧ Q (.bl (k (hasD kvs j))) S) = _
  simp only [Option.some.injEq, exists_eq_left']
theorem gLe2_ii {i j} : gLe2 (.int i) (.int j) S Q = Q (.bl (decide (i ≤ j))) S := id rfl
theorem toKeys_si {a : Str} {b : Int} : toKeys [.str a, .int b] = some [.inr a, .inl b] := id rfl
theorem gInt2_b {b : Bool} : gInt2 [.bl b] S Q = Q (.int (if b = true then 1 else 0)) S := by rfl
end
end LW
namespace LW
open PySem L2 DL
section
variable {S S1 S' : Sto} {Q : DK} {σ : DL.Env} {f : DE} {p q : Addr}
def vSortSet (d : DL.D) (S : Sto) (Q : DK) : Prop := ∃ zs : List Str, itmD S d = some (zs.map .str) ∧ zs.length + 1 < 4096 ∧ ∀ us : List Str, us.Nodup → (∀ z, z ∈ us ↔ z ∈ zs) → ∀ n, S n = none → Q (.ref n) (updS S n (.lst ((srtS us).map .str)))
theorem eSortSet_e : eSortSet f σ S Q = f σ S fun d S1 => vSortSet d S1 Q := rfl
/-- each once -/
def onceS : List Str → List Str
  | [] => []
  | x :: r => if x ∈ onceS r then onceS r else x :: onceS r
/-- the set's members, each once, in their order -/
def uniqS (zs : List Str) : List Str := srtS (onceS zs)
end
end LW
namespace LW
open PySem L2 DL
section
variable {S : Sto} {fs : DA} {σ : DL.Env} {R : List DL.D → (Sto → Prop) → Sto → Prop}
def vEnumT (ds : List DL.D) (S : Sto) (R : List DL.D → (Sto → Prop) → Sto → Prop) : Prop := iEnumT (fun _ S Q => Q ds S) [] S R
theorem iEnumT_e : iEnumT fs σ S R = fs σ S fun ds S1 => vEnumT ds S1 R := rfl
theorem vEnumT_t {xs} : vEnumT [.tup xs] S R = R (enumD xs) (fun _ => True) S := rfl
end
end LW
namespace LW
open PySem L2 DL
section
variable {S : Sto} {Q : DK} {p b : Addr}
theorem gExtendL_rt {ds} : gExtendL (.ref p) [.tup ds] S Q = ∃ xs, S p = some (.lst xs) ∧ xs.length + ds.length ≤ sizeLine ∧ Q .non (updS S p (.lst (xs ++ ds))) := rfl
theorem gExtendL_rr : gExtendL (.ref p) [.ref b] S Q = ∃ xs ds, S p = some (.lst xs) ∧ S b = some (.lst ds) ∧ xs.length + ds.length ≤ sizeLine ∧ Q .non (updS S p (.lst (xs ++ ds))) := rfl
end
end LW
namespace LW
open PySem L2 DL
section
variable {S : Sto} {Q : DK} {p : Addr} {f : DE} {σ : DL.Env}
def vSumV (o : DL.D) (S : Sto) (Q : DK) : Prop := match o with
  | .ref p => ∃ (kvs : List (Key × DL.D)) (ns : List Int), S p = some (.dk kvs) ∧ kvs.map (·.2) = ns.map DL.D.int ∧ Q (.int ns.sum) S
  | _ => False
theorem eSumV_e : eSumV f σ S Q = f σ S fun d S1 => vSumV d S1 Q := by
  unfold eSumV vSumV
  rfl
theorem vSumV_r : vSumV (.ref p) S Q = ∃ (kvs : List (Key × DL.D)) (ns : List Int), S p = some (.dk kvs) ∧ kvs.map (·.2) = ns.map DL.D.int ∧ Q (.int ns.sum) S := rfl
def vSortSetI (d : DL.D) (S : Sto) (Q : DK) : Prop := ∃ zs : List Int, itmD S d = some (zs.map .int) ∧ zs.length + 1 < 4096 ∧ ∀ us : List Int, us.Nodup → (∀ z, z ∈ us ↔ z ∈ zs) → ∀ n, S n = none → Q (.ref n) (updS S n (.lst ((srtI us).map .int)))
theorem eSortSetI_e : eSortSetI f σ S Q = f σ S fun d S1 => vSortSetI d S1 Q := rfl
end
end LW
namespace LW
open PySem L2 DL
section
variable {S : Sto} {fs : DA} {σ : DL.Env} {R : List DL.D → (Sto → Prop) → Sto → Prop}
def vZip3 (ds : List DL.D) (S : Sto) (R : List DL.D → (Sto → Prop) → Sto → Prop) : Prop := iZip3D (fun _ S Q => Q ds S) [] S R
theorem iZip3D_e : iZip3D fs σ S R = fs σ S fun ds S1 => vZip3 ds S1 R := rfl
theorem vZip3_t {xs : List DL.D} {q r : Addr} : vZip3 [.tup xs, .ref q, .ref r] S R = ∃ ys zs, S q = some (.lst ys) ∧ S r = some (.lst zs) ∧ R (trips xs ys zs) (fun S => S q = some (.lst ys) ∧ S r = some (.lst zs)) S := rfl
end
end LW
namespace LW
open PySem L2 DL
section
variable {S : Sto} {fs : DA} {σ : DL.Env} {R : List DL.D → (Sto → Prop) → Sto → Prop}
def vZipM (ds : List DL.D) (S : Sto) (R : List DL.D → (Sto → Prop) → Sto → Prop) : Prop := iZipM (fun _ S Q => Q ds S) [] S R
theorem iZipM_e : iZipM fs σ S R = fs σ S fun ds S1 => vZipM ds S1 R := rfl
theorem vZipM_t {xs : List DL.D} {q : Addr} : vZipM [.tup xs, .ref q] S R = ∃ ys, S q = some (.lst ys) ∧ R (pairs xs ys) (fun S => S q = some (.lst ys)) S := rfl
end
end LW
namespace LW
open PySem L2 DL
section
variable {S : Sto} {f g : DE} {σ : DL.Env} {Q : DK} {R : Bool → Prop}
theorem eOrT_e : eOrT f g σ S Q = f σ S fun x S1 => truD x S1 fun k => if k = true then Q x S1 else g σ S1 Q := rfl
theorem eAndT_e : eAndT f g σ S Q = f σ S fun x S1 => truD x S1 fun k => if k = true then g σ S1 Q else Q x S1 := rfl
theorem truD_n : truD .non S R = R false := rfl
theorem truD_b {k : Bool} : truD (.bl k) S R = R k := rfl
theorem truD_i {i : Int} : truD (.int i) S R = R (i != 0) := rfl
theorem truD_t {xs : List DL.D} : truD (.tup xs) S R = R (!xs.isEmpty) := rfl
end
end LW
namespace LW
open PySem L2 DL
section
variable {S : Sto} {f g : DE} {σ : DL.Env} {Q : DK} {a p d : Addr}
theorem gDictC_r : gDictC [.ref a] S Q = ∃ kvs, S a = some (.dk kvs) ∧ ∀ p, S p = none → Q (.ref p) (updS S p (.dk kvs)) := rfl
theorem gListC_r : gListC [.ref a] S Q = ∃ kvs, S a = some (.dk kvs) ∧ ∀ p, S p = none → Q (.ref p) (updS S p (.lst (kvs.map fun q => kD q.1))) := rfl
theorem gUpdP_r : gUpdP (.ref d) [.ref a] S Q = ∃ acc ds kvs, S d = some (.dk acc) ∧ S a = some (.lst ds) ∧ pairsD ds = some kvs ∧ acc.length + kvs.length ≤ sizeLine ∧ Q .non (updS S d (.dk (mergeD acc kvs))) := rfl
theorem gMulS_i {z : Str} {k : Int} : gMulS (.str z) (.int k) S Q = (0 ≤ k ∧ k ≤ 1 ∧ Q (.str (mulS1 z k)) S) := rfl
def vLenSetL (d : DL.D) (S : Sto) (Q : DK) : Prop := ∃ ds ks, itmD S d = some ds ∧ asLs ds = some ks ∧ ks.length + 1 < 4096 ∧ Q (.int (dstL ks)) S
theorem eLenSetL_e : eLenSetL f σ S Q = f σ S fun d S1 => vLenSetL d S1 Q := rfl
/-- a None or a text -/
def optD : Option Str → DL.D
  | none => .non
  | some z => .str z
def optL : Option Str → Leaf
  | none => .none
  | some z => .text z
end
end LW
namespace LW
open PySem L2 DL
section
variable {S : Sto} {Q : DK} {p : Addr} {m : MF} {fa : DE} {σ : DL.Env}
def vSortKA (m : MF) (o : DL.D) (S : Sto) (Q : DK) : Prop := match o with
  | .ref p => ∃ xs, S p = some (.lst xs) ∧ keyed m xs fun ys => ∀ n, S n = none → Q (.ref n) (updS S n (.lst ys))
  | .tup xs => keyed m xs fun ys => ∀ n, S n = none → Q (.ref n) (updS S n (.lst ys))
  | _ => False
theorem eSortKA_e : eSortKA m fa σ S Q = fa σ S fun o S1 => vSortKA m o S1 Q := by
  unfold eSortKA vSortKA
  rfl
theorem vSortKA_r : vSortKA m (.ref p) S Q = ∃ xs, S p = some (.lst xs) ∧ keyed m xs fun ys => ∀ n, S n = none → Q (.ref n) (updS S n (.lst ys)) := rfl
theorem gMulR_i {z : Str} {k : Int} : gMulR (.str z) (.int k) S Q = (0 ≤ k ∧ k ≤ 1000 ∧ z.length ≤ 1000 ∧ Q (.str (mulR z k)) S) := rfl
theorem vSortKA_t {xs} : vSortKA m (.tup xs) S Q = keyed m xs fun ys => ∀ n, S n = none → Q (.ref n) (updS S n (.lst ys)) := rfl
end
end LW
namespace LW
open PySem L2 DL
section
variable {S : Sto} {Q : DK} {p : Addr} {fa : DE} {fs : DA} {σ : DL.Env}
theorem eWk_e : eWk fa σ S Q = fa σ S fun d S1 => Q (wkD d) S1 := rfl
theorem wkD_nt {xs} : wkD (.nt xs) = .tup (wkDs xs) := by unfold wkD; rfl
theorem wkD_t {xs} : wkD (.tup xs) = .tup (wkDs xs) := by rw [wkD.eq_2]
theorem wkD_i {i} : wkD (.int i) = .int i := by unfold wkD; rfl
theorem wkD_s {z} : wkD (.str z) = .str z := by unfold wkD; rfl
theorem wkD_b {z} : wkD (.bl z) = .bl z := by unfold wkD; rfl
theorem wkD_r {z} : wkD (.ref z) = .ref z := by unfold wkD; rfl
theorem wkD_n : wkD .non = .non := by unfold wkD; rfl
theorem wkDs_n : wkDs [] = [] := by unfold wkDs; rfl
theorem wkDs_c {x xs} : wkDs (x :: xs) = wkD x :: wkDs xs := by rw [wkDs.eq_2]
theorem gTupleN_r : gTupleN [.ref p] S Q = ∃ ys, S p = some (.lst ys) ∧ Q (.nt ys) S := rfl
theorem eIdxN_e {fo : DE} : eIdxN fo fs σ S Q = fo σ S fun x S1 => (∃ ys, x = .nt ys) ∧ fs σ S1 fun xs S2 => gIdxN x xs S2 Q := rfl
theorem wkDs_strs : ∀ l : List Str, wkDs (l.map DL.D.str) = l.map DL.D.str
  | [] => wkDs_n
  | x :: r => by rw [List.map_cons, wkDs_c, wkD_s, wkDs_strs r]
theorem wkDs_map {α : Type} {f : α → DL.D} (h : ∀ x, wkD (f x) = f x) : ∀ l : List α, wkDs (l.map f) = l.map f
  | [] => wkDs_n
  | x :: r => by rw [List.map_cons, wkDs_c, h, wkDs_map h r]
end
end LW
namespace LW
open PySem L2 DL
section
variable {S : Sto} {Q : DK} {p : Addr} {f : Bool → Bool} {z : Str}
theorem gEqX_ss {y} : gEqX f (.str z) (.str y) S Q = gEq f (.str z) (.str y) S Q := rfl
theorem gEqX_sn : gEqX f (.str z) .non S Q = gEq f (.str z) .non S Q := rfl
theorem gEqX_sb {y} : gEqX f (.str z) (.bl y) S Q = gEq f (.str z) (.bl y) S Q := rfl
theorem gEqX_si {y} : gEqX f (.str z) (.int y) S Q = gEq f (.str z) (.int y) S Q := rfl
theorem gEqX_st {y} : gEqX f (.str z) (.tup y) S Q = gEq f (.str z) (.tup y) S Q := rfl
end
end LW
open PySem L2 DL LW
local macro_rules | `(tactic| simp_arith [$xs,*]) => `(tactic| simp (config := {implicitDefEqProofs := false, proj := false}) only [nx_mk, rt_mk, bk_mk, ct_mk, eTupK_e, eUp_e, eDictT0_e, gListK_r, oIx_t, oPut_t, toKeys_ss, upD_k, xS, xIf, xSet, xRet, xExpr, xRaise, eCallX, mNo, xE, sTry, sKeep, xFor, eVar, eC, eOp, eIf, eTup, eLst, eDict0, eDict, eSl, oNo, eCall, eCB, eM, eLc, eIsi2, aNil, aCons, pNil, pCons, tAndD, tOrD, tNotD, tsYes, gMns, gMod, gFdiv, gPow, gLe, gGt, gGe, gEq_ii, gEq_ss, gEq_bb, gEq_nn, gEq_ni, gEq_in, gEq_ns, gEq_sn, gEq_si, gEq_is, sAsg, nName, sRet, sRetN, sExpr, sIf, sNext, sBreak, sCont, sFor, getS, setS, wipeS, endsD, asKeys, toKey, List.length_cons, List.length_nil, List.set_cons_zero, List.set_cons_succ, List.set_nil, Nat.zero_add, Nat.reduceAdd, Option.some.injEq, exists_and_left, exists_eq_left', exists_eq_left, id_eq, if_true, if_false, ite_true, ite_false, Bool.not_true, Bool.not_false, Bool.false_eq_true, not_false_eq_true, not_true_eq_false, reduceCtorEq, true_and, and_true, ne_eq, decide_eq_true_eq, isiN, isiCls, List.mem_cons, String.reduceEq, String.reduceBEq, or_true, true_or, or_false, false_or, Bool.or_true, Bool.true_or, Bool.false_or, Bool.or_false, Bool.and_false, Bool.false_and, Bool.true_and, Bool.and_true, beq_self_eq_true, decide_true, decide_false, tTr_e, vTru_non, vTru_bl, vTru_int, vTru_str, vTru_tup, vTru_ref, oTru_l, oTru_d, tBl_e, vBl_bl, eNeg_e, vNeg_int, eChain_e, eAnd_e, eOr_e, eNot_e, oSome_e, vSome_int, gAdd_ii, gAdd_ss, gAdd_tt, gAdd_rr, gI_ii, eTabIn_e, vTabIn_s, sPar_e, vPar_2, eLenSet_e, gSplit_s, gExtend_rt, gInt2_s, iRange3_e, vRng3_i, eTabW_e, vTabW_s, eListV_e, vListV_r, eSortK_e, vSortK_r, eRev_e, vRev_t, gStr2_i, gStr2_s, gI0_ii, gMulA_ii, gMulA_ri, gMulA_ti, gLt_ii, gLt_ss, gLt2_ii, gLt2_ss, eTab_e, vTab_s, eGet2_e, vGetO_r, vGet2_s, gIs_n, gIs_b, isNon_n, isNon_b, isNon_i, isNon_s, isNon_t, isNon_r, gIx_r, oIx_li, oIx_ds, oIx_di, gIx_ti, gIx_fi, gIx_si, gSl_t, gSl_s, gSl_f, gSl_r, gIn_ss, gIn_t, gIn_r, oIn_l, oIn_ds, gLen_s, gLen_t, gLen_f, gLen_r, oLen_l, oLen_d, gAbs_i, gMax2_ii, gMin2_ii, gInt1_i, gInt1_b, gList_t, gList_f, gList_r, gTuple_t, gTuple_f, gTuple_r, gSum_r, gAll_r, gIsi_x, tyD_n, tyD_b, tyD_i, tyD_s, tyD_t, tyD_f, tyD_r, oTy_l, oTy_d, tyM_s, tyM_r, oTyM_l, oTyM_d, gAppend_r, gPop0_r, gPopAt_r, gClear_r, gReverse_r, gJoin_r, gUpper_s, gStr_i, gSorted_r, iSeq_e, vSeq_r, vSeq_f, vSeq_t, vSeq_s, iRange1_e, vRng1_i, iRange2_e, vRng2_i, iZipD_e, vZip_r, vZip_t, iEnumD_e, vEnum_r, nTupL_t, nTupL_r, nCons_c, nNil_n, sSub_e, vPut_r, oPut_ds, oPut_di, oPut_l, $xs,*])
local macro_rules | `(tactic| simp_arith! [$xs,*]) => `(tactic| simp (config := {implicitDefEqProofs := false, proj := false}) only [nx_mk, rt_mk, bk_mk, ct_mk, gEqX_ss, gEqX_sn, gEqX_sb, gEqX_si, gEqX_st, eWk_e, wkD_i, wkD_s, wkD_b, wkD_r, wkD_n, gTupleN_r, eIdxN_e, gMulR_i, eSortKA_e, vSortKA_r, vSortKA_t, gDictC_r, gListC_r, gUpdP_r, gMulS_i, eLenSetL_e, eOrT_e, eAndT_e, truD_n, truD_b, truD_i, truD_t, List.isEmpty_cons, List.isEmpty_nil, iZipM_e, vZipM_t, iZip3D_e, vZip3_t, eSortSetI_e, eSumV_e, vSumV_r, gExtendL_rt, gExtendL_rr, gInt2_b, iEnumT_e, vEnumT_t, eSortSet_e, eLk_e, iFz_e, vFz_r, nUp_e, upD_t, upD_r, oIx_zs, oIn_zs, gLe2_ii, toKeys_si, eTupK_e, eUp_e, eDictT0_e, gListK_r, oIx_t, oPut_t, toKeys_ss, upD_k, xS, xIf, xSet, xRet, xExpr, xRaise, eCallX, mNo, xE, sTry, sKeep, xFor, eVar, eC, eOp, eIf, eTup, eLst, eDict0, eDict, eSl, oNo, eCall, eCB, eM, eLc, eIsi2, aNil, aCons, pNil, pCons, tAndD, tOrD, tNotD, tsYes, gMns, gMod, gFdiv, gPow, gLe, gGt, gGe, gEq_ii, gEq_ss, gEq_bb, gEq_nn, gEq_ni, gEq_in, gEq_ns, gEq_sn, gEq_si, gEq_is, sAsg, nName, sRet, sRetN, sExpr, sIf, sNext, sBreak, sCont, sFor, getS, setS, wipeS, endsD, asKeys, toKey, List.length_cons, List.length_nil, List.set_cons_zero, List.set_cons_succ, List.set_nil, Nat.zero_add, Nat.reduceAdd, Option.some.injEq, exists_and_left, exists_eq_left', exists_eq_left, id_eq, if_true, if_false, ite_true, ite_false, Bool.not_true, Bool.not_false, Bool.false_eq_true, not_false_eq_true, not_true_eq_false, reduceCtorEq, true_and, and_true, ne_eq, decide_eq_true_eq, isiN, isiCls, List.mem_cons, String.reduceEq, String.reduceBEq, or_true, true_or, or_false, false_or, Bool.or_true, Bool.true_or, Bool.false_or, Bool.or_false, Bool.and_false, Bool.false_and, Bool.true_and, Bool.and_true, beq_self_eq_true, decide_true, decide_false, tTr_e, vTru_non, vTru_bl, vTru_int, vTru_str, vTru_tup, vTru_ref, oTru_l, oTru_d, tBl_e, vBl_bl, eNeg_e, vNeg_int, eChain_e, eAnd_e, eOr_e, eNot_e, oSome_e, vSome_int, gAdd_ii, gAdd_ss, gAdd_tt, gAdd_rr, gI_ii, eTabIn_e, vTabIn_s, sPar_e, vPar_2, eLenSet_e, gSplit_s, gExtend_rt, gInt2_s, iRange3_e, vRng3_i, eTabW_e, vTabW_s, eListV_e, vListV_r, eSortK_e, vSortK_r, eRev_e, vRev_t, gStr2_i, gStr2_s, gI0_ii, gMulA_ii, gMulA_ri, gMulA_ti, gLt_ii, gLt_ss, gLt2_ii, gLt2_ss, eTab_e, vTab_s, eGet2_e, vGetO_r, vGet2_s, gIs_n, gIs_b, isNon_n, isNon_b, isNon_i, isNon_s, isNon_t, isNon_r, gIx_r, oIx_li, oIx_ds, oIx_di, gIx_ti, gIx_fi, gIx_si, gSl_t, gSl_s, gSl_f, gSl_r, gIn_ss, gIn_t, gIn_r, oIn_l, oIn_ds, gLen_s, gLen_t, gLen_f, gLen_r, oLen_l, oLen_d, gAbs_i, gMax2_ii, gMin2_ii, gInt1_i, gInt1_b, gList_t, gList_f, gList_r, gTuple_t, gTuple_f, gTuple_r, gSum_r, gAll_r, gIsi_x, tyD_n, tyD_b, tyD_i, tyD_s, tyD_t, tyD_f, tyD_r, oTy_l, oTy_d, tyM_s, tyM_r, oTyM_l, oTyM_d, gAppend_r, gPop0_r, gPopAt_r, gClear_r, gReverse_r, gJoin_r, gUpper_s, gStr_i, gSorted_r, iSeq_e, vSeq_r, vSeq_f, vSeq_t, vSeq_s, iRange1_e, vRng1_i, iRange2_e, vRng2_i, iZipD_e, vZip_r, vZip_t, iEnumD_e, vEnum_r, nTupL_t, nTupL_r, nCons_c, nNil_n, sSub_e, vPut_r, oPut_ds, oPut_di, oPut_l, $xs,*])
local macro_rules | `(tactic| simp_all_arith [$xs,*]) => `(tactic| simp (config := {implicitDefEqProofs := false, proj := false}) only [nx_mk, rt_mk, bk_mk, ct_mk, eVar, eC, eOp, eIf, eTup, eLst, eDict0, eDict, eSl, oNo, eCall, eCB, eM, eLc, eIsi2, aNil, aCons, pNil, pCons, tAndD, tOrD, tNotD, tsYes, gMns, gMod, gFdiv, gPow, gLe, gGt, gGe, gEq_ii, gEq_ss, gEq_bb, gEq_nn, gEq_ni, gEq_in, gEq_ns, gEq_sn, gEq_si, gEq_is, sAsg, nName, sRet, sRetN, sExpr, sIf, sNext, sBreak, sCont, sFor, getS, setS, wipeS, endsD, asKeys, toKey, List.length_cons, List.length_nil, List.set_cons_zero, List.set_cons_succ, List.set_nil, Nat.zero_add, Nat.reduceAdd, Option.some.injEq, exists_and_left, exists_eq_left', exists_eq_left, id_eq, if_true, if_false, ite_true, ite_false, Bool.not_true, Bool.not_false, Bool.false_eq_true, not_false_eq_true, not_true_eq_false, reduceCtorEq, true_and, and_true, ne_eq, decide_eq_true_eq, isiN, isiCls, List.mem_cons, String.reduceEq, String.reduceBEq, or_true, true_or, or_false, false_or, Bool.or_true, Bool.true_or, Bool.false_or, Bool.or_false, Bool.and_false, Bool.false_and, Bool.true_and, Bool.and_true, beq_self_eq_true, decide_true, decide_false, tTr_e, vTru_non, vTru_bl, vTru_int, vTru_str, vTru_tup, vTru_ref, oTru_l, oTru_d, tBl_e, vBl_bl, eNeg_e, vNeg_int, eChain_e, eAnd_e, eOr_e, eNot_e, oSome_e, vSome_int, gAdd_ii, gAdd_ss, gAdd_tt, gAdd_rr, gI_ii, eLenSet_e, eRev_e, vRev_t, gStr2_i, gStr2_s, gI0_ii, gMulA_ii, gMulA_ri, gMulA_ti, gLt_ii, gLt_ss, gLt2_ii, gLt2_ss, eTab_e, vTab_s, eGet2_e, vGetO_r, vGet2_s, gIs_n, gIs_b, isNon_n, isNon_b, isNon_i, isNon_s, isNon_t, isNon_r, gIx_r, oIx_li, oIx_ds, oIx_di, gIx_ti, gIx_fi, gIx_si, gSl_t, gSl_s, gSl_f, gSl_r, gIn_ss, gIn_t, gIn_r, oIn_l, oIn_ds, gLen_s, gLen_t, gLen_f, gLen_r, oLen_l, oLen_d, gAbs_i, gMax2_ii, gMin2_ii, gInt1_i, gInt1_b, gList_t, gList_f, gList_r, gTuple_t, gTuple_f, gTuple_r, gSum_r, gAll_r, gIsi_x, tyD_n, tyD_b, tyD_i, tyD_s, tyD_t, tyD_f, tyD_r, oTy_l, oTy_d, tyM_s, tyM_r, oTyM_l, oTyM_d, gAppend_r, gPop0_r, gPopAt_r, gClear_r, gReverse_r, gJoin_r, gUpper_s, gStr_i, gSorted_r, iSeq_e, vSeq_r, vSeq_f, vSeq_t, vSeq_s, iRange1_e, vRng1_i, iRange2_e, vRng2_i, iZipD_e, vZip_r, vZip_t, iEnumD_e, vEnum_r, nTupL_t, nTupL_r, nCons_c, nNil_n, sSub_e, vPut_r, oPut_ds, oPut_di, oPut_l, $xs,*])
namespace LW
open PySem PySem.Spec PyProof.Rows L2 DL
def topS (i : Nat) : Stmt := PySem.Challenge.pw_dykelengths_k36_rings_told.main.body.getD i (.Pass ⟨0, 0, 0, 0⟩)
def xtab : XTab := [("NoMend", [("NoRow", false), ("NoRoll", false), ("NoName", false), ("Twice", false), ("TooMany", false), ("NoThen", false), ("NoMend", true), ("Clash", false), ("NoBreach", false), ("NoField", false), ("NoInch", false), ("NoOrder", false), ("NoText", false)]), ("NoName", [("NoRow", false), ("NoRoll", false), ("NoName", true), ("Twice", false), ("TooMany", false), ("NoThen", false), ("NoMend", false), ("Clash", false), ("NoBreach", false), ("NoField", false), ("NoInch", false), ("NoOrder", false), ("NoText", false)])]
abbrev s_wpen : Stmt := topS 35
abbrev s_wtake : Stmt := topS 36
abbrev s_wnames : Stmt := topS 37
abbrev s_wsorts : Stmt := topS 38
abbrev s_wnumber : Stmt := topS 40
abbrev s_wlaying : Stmt := topS 41
abbrev s_wdays : Stmt := topS 39
abbrev s_wsome : Stmt := topS 42
abbrev s_wrow_of : Stmt := topS 43
abbrev s_wrow : Stmt := topS 44
abbrev s_wmend_row : Stmt := topS 46
abbrev s_wplace : Stmt := topS 45
abbrev s_wsome_rows : Stmt := topS 47
abbrev s_wworld : Stmt := topS 50
abbrev s_wroad : Stmt := topS 48
abbrev s_wmenders : Stmt := topS 49
abbrev s_wring : Stmt := topS 53
abbrev s_row_called : Stmt := topS 30
abbrev s_road_by : Stmt := topS 19
abbrev s_begun : Stmt := topS 20
abbrev s_acres_in : Stmt := topS 16
abbrev s_part_word : Stmt := topS 21
abbrev s_join_word : Stmt := topS 22
abbrev s_forfeit_word : Stmt := topS 23
abbrev s_word_of : Stmt := topS 24
abbrev s_cut : Stmt := topS 17
abbrev s_do_part : Stmt := topS 25
abbrev s_joined : Stmt := topS 18
abbrev s_do_join : Stmt := topS 26
abbrev s_do_row : Stmt := topS 27
abbrev s_folded : Stmt := topS 28
abbrev s_road : Stmt := topS 32
abbrev s_ring : Stmt := topS 33
abbrev s_wclass : Stmt := topS 51
abbrev s_wtold : Stmt := topS 52
abbrev s_wright : Stmt := topS 54
abbrev s_law : Stmt := topS 55
def tC_joined : Addr := 208
def tP_joined : Addr := 204
def tC_wright : Addr := 425
def tP_wright : Addr := 421
def tC_law : Addr := 430
def tP_law : Addr := 428
noncomputable def b_wpen : DS := (sRet (eDict (pCons (eC (.str "cells")) (eCB gList (aCons (eSl (eVar 0) oNo (oSome (eC (.int 63)))) aNil)) (pCons (eC (.str "at")) (eC (.int 0)) (pCons (eC (.str "left")) (eC (.int 0)) pNil)))))
theorem x_m_wpen : ∃ m : MF, m = fun ds S Q => b_wpen (endsD Q) (startD 1 ds) S := ⟨_, rfl⟩
noncomputable def m_wpen : MF := Classical.choose x_m_wpen
theorem q_m_wpen : m_wpen = fun ds S Q => b_wpen (endsD Q) (startD 1 ds) S := Classical.choose_spec x_m_wpen
theorem e_wpen (a0 : D) (S : Sto) (Q : DK) : m_wpen [a0] S Q = b_wpen (endsD Q) [some a0] S := by rw [q_m_wpen]; rfl
theorem sc_wpen : FnScope ["_law_script"] ["_law_script"] (defScope s_wpen) := ⟨rfl, rfl, rfl, by decide +kernel, rfl, by decide +kernel, by decide +kernel⟩
noncomputable def t_wtake_4 : DS := (sRet (eVar 7))
noncomputable def t_wtake_3 : DS := (sSeq (sSub (eOp gFdiv (eOp gIx (eVar 0) (eC (.str "left"))) (eVar 1)) (eVar 0) (eC (.str "left"))) t_wtake_4)
noncomputable def t_wtake_13 : DS := (sRet (eOp gMod (eCB gAbs (aCons (eVar 4) aNil)) (eVar 1)))
noncomputable def t_wtake_16 : DS := (sRet (eOp gMod (eOp gFdiv (eOp gMod (eOp gMulA (eVar 6) (eOp gAdd (eOp gMod (eVar 5) (eC (.int 64007))) (eC (.int 1)))) (eC (.int 2147483579))) (eC (.int 64))) (eVar 1)))
noncomputable def t_wtake_15 : DS := (sSeq (sAsg (eOp gMod (eOp gPow (eOp gAdd (eOp gAdd (eVar 5) (eOp gMulA (eOp gMulA (eC (.int 1213)) (eVar 2)) (eVar 2))) (eC (.int 3))) (eC (.int 5))) (eC (.int 2147483543))) (nName 6)) t_wtake_16)
noncomputable def t_wtake_14 : DS := (sSeq (sAsg (eOp gMod (eOp gPow (eOp gAdd (eOp gAdd (eOp gMod (eVar 4) (eC (.int 2147483587))) (eOp gMulA (eC (.int 45007)) (eVar 2))) (eC (.int 11))) (eC (.int 3))) (eC (.int 2147483629))) (nName 5)) t_wtake_15)
noncomputable def t_wtake_11 : DS := (sSeq (sIf (tAndD (tBl (eOp gLt2 (eVar 2) (eCB gLen (aCons (eVar 3) aNil)))) (tBl (eOp gGe (eCB gAbs (aCons (eVar 4) aNil)) (eOp gPow (eC (.int 10)) (eC (.int 18)))))) (sSeq (sSub (eOp gFdiv (eCB gAbs (aCons (eVar 4) aNil)) (eVar 1)) (eVar 0) (eC (.str "left"))) t_wtake_13) sNext) t_wtake_14)
noncomputable def t_wtake_9 : DS := (sSeq (sIf (tBl (eOp (gEq not) (eVar 3) (eLst aNil))) (sAsg (eOp gIx (eVar 3) (eOp gMod (eVar 2) (eCB gLen (aCons (eVar 3) aNil)))) (nName 4)) sNext) t_wtake_11)
noncomputable def t_wtake_8 : DS := (sSeq (sAsg (eOp gAdd (eOp gAdd (eOp gMulA (eOp gMulA (eC (.int 70207)) (eVar 2)) (eVar 2)) (eOp gMulA (eC (.int 131)) (eVar 2))) (eC (.int 29))) (nName 4)) t_wtake_9)
noncomputable def t_wtake_7 : DS := (sSeq (sAsg (eOp gIx (eVar 0) (eC (.str "cells"))) (nName 3)) t_wtake_8)
noncomputable def t_wtake_6 : DS := (sSeq (sSub (eOp gAdd (eVar 2) (eC (.int 1))) (eVar 0) (eC (.str "at"))) t_wtake_7)
noncomputable def t_wtake_5 : DS := (sSeq (sAsg (eOp gIx (eVar 0) (eC (.str "at"))) (nName 2)) t_wtake_6)
noncomputable def b_wtake : DS := (sSeq (sIf (tBl (eOp gGt (eOp gIx (eVar 0) (eC (.str "left"))) (eC (.int 0)))) (sSeq (sAsg (eOp gMod (eOp gIx (eVar 0) (eC (.str "left"))) (eVar 1)) (nName 7)) t_wtake_3) sNext) t_wtake_5)
theorem x_m_wtake : ∃ m : MF, m = fun ds S Q => b_wtake (endsD Q) (startD 8 ds) S := ⟨_, rfl⟩
noncomputable def m_wtake : MF := Classical.choose x_m_wtake
theorem q_m_wtake : m_wtake = fun ds S Q => b_wtake (endsD Q) (startD 8 ds) S := Classical.choose_spec x_m_wtake
theorem e_wtake (a0 a1 : D) (S : Sto) (Q : DK) : m_wtake [a0, a1] S Q = b_wtake (endsD Q) [some a0, some a1, none, none, none, none, none, none] S := by rw [q_m_wtake]; rfl
theorem sc_wtake : FnScope ["_law_pen_here", "_law_many", "_law_at", "_law_cells", "_law_cell", "_law_one", "_law_two", "_law_found"] ["_law_pen_here", "_law_many"] (defScope s_wtake) := ⟨rfl, rfl, rfl, by decide +kernel, rfl, by decide +kernel, by decide +kernel⟩
noncomputable def c_wnames_4 : DE := (eOp gIx (eVar 2) (eCall 2 m_wtake (aCons (eVar 0) (aCons (eC (.int 26)) aNil))))
noncomputable def t_wnames_15 : DS := (sAsg (eOp gFdiv (eOp gMns (eVar 11) (eC (.int 1))) (eC (.int 2))) (nName 11))
noncomputable def l_wnames_13 : DS := (sSeq (sAsg (eOp gAdd (eOp gIx (eVar 2) (eOp gMod (eOp gAdd (eVar 4) (eOp gMulA (eC (.int 9)) (eOp gMod (eVar 11) (eC (.int 2))))) (eC (.int 26)))) (eVar 10)) (nName 10)) t_wnames_15)
noncomputable def t_wnames_13 : DS := (sWhile (tBl (eOp gGt (eVar 11) (eC (.int 0)))) l_wnames_13)
noncomputable def t_wnames_12 : DS := (sSeq (sAsg (eOp gAdd (eVar 8) (eC (.int 1))) (nName 11)) t_wnames_13)
noncomputable def t_wnames_16 : DS := (sExpr (eM "list" gAppend (eVar 7) (aCons (eVar 10) aNil)))
noncomputable def t_wnames_10 : DS := (sSeq (sIf (tBl (eOp (gEq id) (eVar 3) (eC (.int 1)))) (sSeq (sAsg (eC (.str "")) (nName 10)) t_wnames_12) sNext) t_wnames_16)
noncomputable def t_wnames_9 : DS := (sSeq (sAsg (eOp gAdd (eOp gAdd (eSl (eVar 5) oNo (oSome (eVar 6))) (eVar 10)) (eSl (eVar 5) (oSome (eVar 6)) oNo)) (nName 10)) t_wnames_10)
noncomputable def l_wnames_7 : DS := (sSeq (sAsg (eOp gAdd (eOp gIx (eVar 2) (eOp gMod (eOp gAdd (eVar 4) (eOp gMulA (eC (.int 7)) (eVar 8))) (eC (.int 26)))) (eOp gIx (eVar 2) (eOp gMod (eOp gAdd (eVar 4) (eOp gFdiv (eVar 8) (eC (.int 26)))) (eC (.int 26))))) (nName 10)) t_wnames_9)
noncomputable def l_wnames_19 : DS := (sIf (tAndD (tBl (eOp (gEq id) (eCall 2 m_wtake (aCons (eVar 0) (aCons (eC (.int 2)) aNil))) (eC (.int 0)))) (tBl (eOp (gIn not) (eOp gIx (eVar 9) (eVar 8)) (eVar 7)))) (sSub (eOp gIx (eVar 9) (eVar 8)) (eVar 7) (eVar 8)) sNext)
noncomputable def t_wnames_22 : DS := (sRet (eVar 7))
noncomputable def t_wnames_18 : DS := (sSeq (sIf (tBl (eOp (gEq id) (eCall 2 m_wtake (aCons (eVar 0) (aCons (eC (.int 4)) aNil))) (eC (.int 0)))) (sFor (iRange1 (aCons (eCB gMin2 (aCons (eVar 1) (aCons (eC (.int 9)) aNil))) aNil)) (nName 8) l_wnames_19) sNext) t_wnames_22)
noncomputable def t_wnames_17 : DS := (sSeq (sAsg (eLst (aCons (eC (.str "as")) (aCons (eC (.str "with")) (aCons (eC (.str "part")) (aCons (eC (.str "field")) (aCons (eC (.str "none")) (aCons (eC (.str "done")) (aCons (eC (.str "write")) (aCons (eC (.str "back")) (aCons (eC (.str "join")) aNil)))))))))) (nName 9)) t_wnames_18)
noncomputable def t_wnames_7 : DS := (sSeq (sFor (iRange1 (aCons (eVar 1) aNil)) (nName 8) l_wnames_7) t_wnames_17)
noncomputable def t_wnames_6 : DS := (sSeq (sAsg (eLst aNil) (nName 7)) t_wnames_7)
noncomputable def t_wnames_5 : DS := (sSeq (sAsg (eCall 2 m_wtake (aCons (eVar 0) (aCons (eOp gAdd (eCB gLen (aCons (eVar 5) aNil)) (eC (.int 1))) aNil))) (nName 6)) t_wnames_6)
noncomputable def t_wnames_4 : DS := (sSeq (sAsg (eM "str" gJoin (eC (.str "")) (aCons (eLc (iRange1 (aCons (eOp gIx (eLst (aCons (eCall 2 m_wtake (aCons (eVar 0) (aCons (eC (.int 7)) aNil))) (aCons (eC (.int 0)) (aCons (eC (.int 6)) aNil)))) (eVar 3)) aNil)) (nName 8) tsYes c_wnames_4 [8]) aNil)) (nName 5)) t_wnames_5)
noncomputable def t_wnames_3 : DS := (sSeq (sAsg (eCall 2 m_wtake (aCons (eVar 0) (aCons (eC (.int 26)) aNil))) (nName 4)) t_wnames_4)
noncomputable def t_wnames_2 : DS := (sSeq (sAsg (eCall 2 m_wtake (aCons (eVar 0) (aCons (eC (.int 3)) aNil))) (nName 3)) t_wnames_3)
noncomputable def b_wnames : DS := (sSeq (sAsg (eC (.str "abcdefghijklmnopqrstuvwxyz")) (nName 2)) t_wnames_2)
theorem x_m_wnames : ∃ m : MF, m = fun ds S Q => b_wnames (endsD Q) (startD 12 ds) S := ⟨_, rfl⟩
noncomputable def m_wnames : MF := Classical.choose x_m_wnames
theorem q_m_wnames : m_wnames = fun ds S Q => b_wnames (endsD Q) (startD 12 ds) S := Classical.choose_spec x_m_wnames
theorem e_wnames (a0 a1 : D) (S : Sto) (Q : DK) : m_wnames [a0, a1] S Q = b_wnames (endsD Q) [some a0, some a1, none, none, none, none, none, none, none, none, none, none] S := by rw [q_m_wnames]; rfl
theorem sc_wnames : FnScope ["_law_pen_here", "_law_many", "_law_letters", "_law_way", "_law_turn", "_law_base", "_law_spot", "_law_found", "_law_k", "_law_terms", "_law_word", "_law_rest"] ["_law_pen_here", "_law_many"] (defScope s_wnames) := ⟨rfl, rfl, rfl, by decide +kernel, rfl, by decide +kernel, by decide +kernel⟩
noncomputable def t_wsorts_3 : DS := (sRet (eTup (aCons (eSl (eVar 5) oNo (oSome (eVar 1))) (aCons (eSl (eVar 5) oNo (oSome (eC (.int 10)))) (aCons (eSl (eVar 5) oNo (oSome (eC (.int 5)))) (aCons (eSl (eVar 5) oNo (oSome (eVar 2))) aNil))))))
noncomputable def t_wsorts_6 : DS := (sRet (eTup (aCons (eCall 2 m_wnames (aCons (eVar 0) (aCons (eVar 1) aNil))) (aCons (eVar 3) (aCons (eVar 4) (aCons (eCall 2 m_wnames (aCons (eVar 0) (aCons (eVar 2) aNil))) aNil))))))
noncomputable def t_wsorts_5 : DS := (sSeq (sAsg (eCall 2 m_wnames (aCons (eVar 0) (aCons (eC (.int 5)) aNil))) (nName 4)) t_wsorts_6)
noncomputable def t_wsorts_4 : DS := (sSeq (sAsg (eCall 2 m_wnames (aCons (eVar 0) (aCons (eC (.int 10)) aNil))) (nName 3)) t_wsorts_5)
noncomputable def b_wsorts : DS := (sSeq (sIf (tBl (eOp (gEq id) (eCall 2 m_wtake (aCons (eVar 0) (aCons (eC (.int 4)) aNil))) (eC (.int 0)))) (sSeq (sAsg (eCall 2 m_wnames (aCons (eVar 0) (aCons (eC (.int 44)) aNil))) (nName 5)) t_wsorts_3) sNext) t_wsorts_4)
theorem x_m_wsorts : ∃ m : MF, m = fun ds S Q => b_wsorts (endsD Q) (startD 6 ds) S := ⟨_, rfl⟩
noncomputable def m_wsorts : MF := Classical.choose x_m_wsorts
theorem q_m_wsorts : m_wsorts = fun ds S Q => b_wsorts (endsD Q) (startD 6 ds) S := Classical.choose_spec x_m_wsorts
theorem e_wsorts (a0 a1 a2 : D) (S : Sto) (Q : DK) : m_wsorts [a0, a1, a2] S Q = b_wsorts (endsD Q) [some a0, some a1, some a2, none, none, none] S := by rw [q_m_wsorts]; rfl
theorem sc_wsorts : FnScope ["_law_pen_here", "_law_fields", "_law_rows", "_law_plots", "_law_houses", "_law_some_here"] ["_law_pen_here", "_law_fields", "_law_rows"] (defScope s_wsorts) := ⟨rfl, rfl, rfl, by decide +kernel, rfl, by decide +kernel, by decide +kernel⟩
noncomputable def t_wnumber_3 : DS := (sRet (eOp gIx (eLst (aCons (eVar 1) (aCons (eVar 2) (aCons (eVar 4) (aCons (eOp gAdd (eVar 1) (eCall 2 m_wtake (aCons (eVar 0) (aCons (eOp gAdd (eOp gMns (eVar 2) (eVar 1)) (eC (.int 1))) aNil)))) aNil))))) (eVar 3)))
noncomputable def t_wnumber_2 : DS := (sSeq (sAsg (eOp gAdd (eVar 1) (eCall 2 m_wtake (aCons (eVar 0) (aCons (eCB gMin2 (aCons (eC (.int 12)) (aCons (eOp gAdd (eOp gMns (eVar 2) (eVar 1)) (eC (.int 1))) aNil))) aNil)))) (nName 4)) t_wnumber_3)
noncomputable def b_wnumber : DS := (sSeq (sAsg (eCall 2 m_wtake (aCons (eVar 0) (aCons (eC (.int 4)) aNil))) (nName 3)) t_wnumber_2)
theorem x_m_wnumber : ∃ m : MF, m = fun ds S Q => b_wnumber (endsD Q) (startD 5 ds) S := ⟨_, rfl⟩
noncomputable def m_wnumber : MF := Classical.choose x_m_wnumber
theorem q_m_wnumber : m_wnumber = fun ds S Q => b_wnumber (endsD Q) (startD 5 ds) S := Classical.choose_spec x_m_wnumber
theorem e_wnumber (a0 a1 a2 : D) (S : Sto) (Q : DK) : m_wnumber [a0, a1, a2] S Q = b_wnumber (endsD Q) [some a0, some a1, some a2, none, none] S := by rw [q_m_wnumber]; rfl
theorem sc_wnumber : FnScope ["_law_pen_here", "_law_bottom", "_law_most", "_law_way", "_law_near"] ["_law_pen_here", "_law_bottom", "_law_most"] (defScope s_wnumber) := ⟨rfl, rfl, rfl, by decide +kernel, rfl, by decide +kernel, by decide +kernel⟩
noncomputable def t_wlaying_4 : DS := (sExpr (eM "list" gAppend (eVar 3) (aCons (eTup (aCons (eVar 4) (aCons (eVar 5) (aCons (eCall 3 m_wnumber (aCons (eVar 0) (aCons (eC (.int 1)) (aCons (eOp gPow (eC (.int 10)) (eC (.int 6))) aNil)))) (aCons (eCall 3 m_wnumber (aCons (eVar 0) (aCons (eC (.int 0)) (aCons (eOp gPow (eC (.int 10)) (eC (.int 7))) aNil)))) aNil))))) aNil)))
noncomputable def l_wlaying_2 : DS := (sSeq (sAsg (eOp gIx (eVar 2) (eCall 2 m_wtake (aCons (eVar 0) (aCons (eCB gLen (aCons (eVar 2) aNil)) aNil)))) (nName 5)) t_wlaying_4)
noncomputable def t_wlaying_5 : DS := (sRet (eCB gTuple (aCons (eVar 3) aNil)))
noncomputable def t_wlaying_2 : DS := (sSeq (sFor (iSeq (eVar 1)) (nName 4) l_wlaying_2) t_wlaying_5)
noncomputable def b_wlaying : DS := (sSeq (sAsg (eLst aNil) (nName 3)) t_wlaying_2)
theorem x_m_wlaying : ∃ m : MF, m = fun ds S Q => b_wlaying (endsD Q) (startD 6 ds) S := ⟨_, rfl⟩
noncomputable def m_wlaying : MF := Classical.choose x_m_wlaying
theorem q_m_wlaying : m_wlaying = fun ds S Q => b_wlaying (endsD Q) (startD 6 ds) S := Classical.choose_spec x_m_wlaying
theorem e_wlaying (a0 a1 a2 : D) (S : Sto) (Q : DK) : m_wlaying [a0, a1, a2] S Q = b_wlaying (endsD Q) [some a0, some a1, some a2, none, none, none] S := by rw [q_m_wlaying]; rfl
theorem sc_wlaying : FnScope ["_law_pen_here", "_law_fields", "_law_houses", "_law_found", "_law_field", "_law_house"] ["_law_pen_here", "_law_fields", "_law_houses"] (defScope s_wlaying) := ⟨rfl, rfl, rfl, by decide +kernel, rfl, by decide +kernel, by decide +kernel⟩
noncomputable def c_wdays_3 : DE := (eOp gIx (eVar 3) (eCall 2 m_wtake (aCons (eVar 0) (aCons (eC (.int 6)) aNil))))
noncomputable def l_wdays_5 : DS := (sExpr (eM "list" gAppend (eVar 5) (aCons (eOp gIx (eLst (aCons (eOp gIx (eVar 4) (eCall 2 m_wtake (aCons (eVar 0) (aCons (eCB gLen (aCons (eVar 4) aNil)) aNil)))) (aCons (eCall 2 m_wtake (aCons (eVar 0) (aCons (eC (.int 10000)) aNil))) aNil))) (eCB gInt1 (aCons (eOp (gEq id) (eVar 2) (eC (.int 0))) aNil))) aNil)))
noncomputable def t_wdays_7 : DS := (sRet (eVar 5))
noncomputable def t_wdays_5 : DS := (sSeq (sFor (iRange1 (aCons (eVar 1) aNil)) (nName 6) l_wdays_5) t_wdays_7)
noncomputable def t_wdays_4 : DS := (sSeq (sAsg (eLst aNil) (nName 5)) t_wdays_5)
noncomputable def t_wdays_3 : DS := (sSeq (sAsg (eLc (iRange1 (aCons (eOp gAdd (eC (.int 1)) (eCall 2 m_wtake (aCons (eVar 0) (aCons (eC (.int 4)) aNil)))) aNil)) (nName 6) tsYes c_wdays_3 [6]) (nName 4)) t_wdays_4)
noncomputable def t_wdays_2 : DS := (sSeq (sAsg (eLst (aCons (eC (.int 0)) (aCons (eC (.int 1)) (aCons (eC (.int 9)) (aCons (eC (.int 9999)) (aCons (eCall 2 m_wtake (aCons (eVar 0) (aCons (eC (.int 10000)) aNil))) (aCons (eCall 2 m_wtake (aCons (eVar 0) (aCons (eC (.int 10000)) aNil))) aNil))))))) (nName 3)) t_wdays_3)
noncomputable def b_wdays : DS := (sSeq (sAsg (eCall 2 m_wtake (aCons (eVar 0) (aCons (eC (.int 4)) aNil))) (nName 2)) t_wdays_2)
theorem x_m_wdays : ∃ m : MF, m = fun ds S Q => b_wdays (endsD Q) (startD 7 ds) S := ⟨_, rfl⟩
noncomputable def m_wdays : MF := Classical.choose x_m_wdays
theorem q_m_wdays : m_wdays = fun ds S Q => b_wdays (endsD Q) (startD 7 ds) S := Classical.choose_spec x_m_wdays
theorem e_wdays (a0 a1 : D) (S : Sto) (Q : DK) : m_wdays [a0, a1] S Q = b_wdays (endsD Q) [some a0, some a1, none, none, none, none, none] S := by rw [q_m_wdays]; rfl
theorem sc_wdays : FnScope ["_law_pen_here", "_law_many", "_law_way", "_law_some_here", "_law_few", "_law_found", "_law_k"] ["_law_pen_here", "_law_many"] (defScope s_wdays) := ⟨rfl, rfl, rfl, by decide +kernel, rfl, by decide +kernel, by decide +kernel⟩
noncomputable def c_wsome_2 : DE := (eM "list" gPopAt (eVar 3) (aCons (eCall 2 m_wtake (aCons (eVar 0) (aCons (eCB gLen (aCons (eVar 3) aNil)) aNil))) aNil))
noncomputable def t_wsome_3 : DS := (sRet (eCB gSortedA (aCons (eVar 4) aNil)))
noncomputable def t_wsome_2 : DS := (sSeq (sAsg (eLc (iRange1 (aCons (eVar 2) aNil)) (nName 5) tsYes c_wsome_2 [5]) (nName 4)) t_wsome_3)
noncomputable def b_wsome : DS := (sSeq (sAsg (eCB gList (aCons (eVar 1) aNil)) (nName 3)) t_wsome_2)
theorem x_m_wsome : ∃ m : MF, m = fun ds S Q => b_wsome (endsD Q) (startD 6 ds) S := ⟨_, rfl⟩
noncomputable def m_wsome : MF := Classical.choose x_m_wsome
theorem q_m_wsome : m_wsome = fun ds S Q => b_wsome (endsD Q) (startD 6 ds) S := Classical.choose_spec x_m_wsome
theorem e_wsome (a0 a1 a2 : D) (S : Sto) (Q : DK) : m_wsome [a0, a1, a2] S Q = b_wsome (endsD Q) [some a0, some a1, some a2, none, none, none] S := by rw [q_m_wsome]; rfl
theorem sc_wsome : FnScope ["_law_pen_here", "_law_names_here", "_law_many", "_law_left", "_law_found", "_law_k"] ["_law_pen_here", "_law_names_here", "_law_many"] (defScope s_wsome) := ⟨rfl, rfl, rfl, by decide +kernel, rfl, by decide +kernel, by decide +kernel⟩
noncomputable def c_wrow_of_10 : DE := (eTup (aCons (eVar 15) (aCons (eOp gIx (eVar 12) (eCall 2 m_wtake (aCons (eVar 0) (aCons (eCB gLen (aCons (eVar 12) aNil)) aNil)))) (aCons (eCall 3 m_wnumber (aCons (eVar 0) (aCons (eC (.int 1)) (aCons (eOp gPow (eC (.int 10)) (eC (.int 7))) aNil)))) aNil))))
noncomputable def t_wrow_of_11 : DS := (sRet (eTup (aCons (eVar 1) (aCons (eVar 2) (aCons (eVar 3) (aCons (eVar 5) (aCons (eCB gTuple (aCons (eVar 14) aNil)) aNil)))))))
noncomputable def t_wrow_of_10 : DS := (sSeq (sAsg (eLc (iSeq (eVar 13)) (nName 15) tsYes c_wrow_of_10 [15]) (nName 14)) t_wrow_of_11)
noncomputable def t_wrow_of_8 : DS := (sSeq (sIf (tBl (eOp (gEq id) (eVar 1) (eC (.str "join")))) (sRet (eTup (aCons (eVar 1) (aCons (eVar 2) (aCons (eVar 3) (aCons (eCB gTuple (aCons (eVar 13) aNil)) (aCons (eVar 5) aNil))))))) sNext) t_wrow_of_10)
noncomputable def t_wrow_of_23 : DS := (sRet (eTup (aCons (eVar 1) (aCons (eVar 2) (aCons (eVar 3) (aCons (eVar 8) (aCons (eVar 9) (aCons (eCall 3 m_wnumber (aCons (eVar 0) (aCons (eC (.int 0)) (aCons (eOp gPow (eC (.int 10)) (eC (.int 9))) aNil)))) (aCons (eCall 3 m_wnumber (aCons (eVar 0) (aCons (eC (.int 0)) (aCons (eOp gPow (eC (.int 10)) (eC (.int 6))) aNil)))) aNil)))))))))
noncomputable def t_wrow_of_21 : DS := (sSeq (sIf (tBl (eOp (gEq id) (eVar 1) (eC (.str "view")))) (sRet (eTup (aCons (eVar 1) (aCons (eVar 2) (aCons (eVar 3) (aCons (eVar 8) (aCons (eVar 9) (aCons (eVar 7) aNil)))))))) sNext) t_wrow_of_23)
noncomputable def t_wrow_of_20 : DS := (sSeq (sAsg (eCall 3 m_wnumber (aCons (eVar 0) (aCons (eC (.int 0)) (aCons (eOp gMns (eOp gPow (eC (.int 10)) (eC (.int 7))) (eC (.int 1))) aNil)))) (nName 9)) t_wrow_of_21)
noncomputable def t_wrow_of_18 : DS := (sSeq (sIf (tBl (eOp (gEq id) (eVar 1) (eC (.str "alone")))) (sRet (eTup (aCons (eVar 1) (aCons (eVar 2) (aCons (eVar 3) (aCons (eVar 7) aNil)))))) sNext) t_wrow_of_20)
noncomputable def t_wrow_of_16 : DS := (sSeq (sIf (tBl (eOp (gEq id) (eVar 1) (eC (.str "mend")))) (sRet (eTup (aCons (eVar 1) (aCons (eVar 2) (aCons (eVar 3) (aCons (eVar 7) (aCons (eOp gIx (eVar 12) (eOp gMod (eOp gAdd (eOp gAdd (eVar 6) (eC (.int 1))) (eCall 2 m_wtake (aCons (eVar 0) (aCons (eOp gMns (eCB gLen (aCons (eVar 12) aNil)) (eC (.int 1))) aNil)))) (eCB gLen (aCons (eVar 12) aNil)))) aNil))))))) sNext) t_wrow_of_18)
noncomputable def t_wrow_of_14 : DS := (sSeq (sIf (tBl (eOp (gEq id) (eVar 1) (eC (.str "measure")))) (sRet (eTup (aCons (eVar 1) (aCons (eVar 2) (aCons (eVar 3) (aCons (eVar 8) (aCons (eCall 3 m_wnumber (aCons (eVar 0) (aCons (eC (.int 0)) (aCons (eOp gPow (eC (.int 10)) (eC (.int 7))) aNil)))) aNil))))))) sNext) t_wrow_of_16)
noncomputable def t_wrow_of_12 : DS := (sSeq (sIf (tBl (eOp (gEq id) (eVar 1) (eC (.str "forfeit")))) (sRet (eTup (aCons (eVar 1) (aCons (eVar 2) (aCons (eVar 3) (aCons (eVar 5) (aCons (eVar 7) aNil))))))) sNext) t_wrow_of_14)
noncomputable def t_wrow_of_6 : DS := (sSeq (sIf (tBl (eOp (gIn id) (eVar 1) (eTup (aCons (eC (.str "part")) (aCons (eC (.str "join")) aNil))))) (sSeq (sAsg (eCall 3 m_wsome (aCons (eVar 0) (aCons (eVar 11) (aCons (eOp gIx (eLst (aCons (eC (.int 2)) (aCons (eC (.int 6)) (aCons (eOp gAdd (eC (.int 2)) (eCall 2 m_wtake (aCons (eVar 0) (aCons (eC (.int 5)) aNil)))) aNil)))) (eCall 2 m_wtake (aCons (eVar 0) (aCons (eC (.int 3)) aNil)))) aNil)))) (nName 13)) t_wrow_of_8) sNext) t_wrow_of_12)
noncomputable def t_wrow_of_5 : DS := (sSeq (sAsg (eOp gIx (eVar 10) (eCall 2 m_wtake (aCons (eVar 0) (aCons (eCB gLen (aCons (eVar 10) aNil)) aNil)))) (nName 8)) t_wrow_of_6)
noncomputable def t_wrow_of_4 : DS := (sSeq (sAsg (eOp gIx (eVar 12) (eVar 6)) (nName 7)) t_wrow_of_5)
noncomputable def t_wrow_of_3 : DS := (sSeq (sAsg (eCall 2 m_wtake (aCons (eVar 0) (aCons (eCB gLen (aCons (eVar 12) aNil)) aNil))) (nName 6)) t_wrow_of_4)
noncomputable def t_wrow_of_2 : DS := (sSeq (sAsg (eOp gIx (eVar 11) (eCall 2 m_wtake (aCons (eVar 0) (aCons (eCB gLen (aCons (eVar 11) aNil)) aNil)))) (nName 5)) t_wrow_of_3)
noncomputable def b_wrow_of : DS := (sSeq (sAsg (eVar 4) (nTupL 3 (nCons (nName 10) (nCons (nName 11) (nCons (nName 12) nNil))))) t_wrow_of_2)
theorem x_m_wrow_of : ∃ m : MF, m = fun ds S Q => b_wrow_of (endsD Q) (startD 16 ds) S := ⟨_, rfl⟩
noncomputable def m_wrow_of : MF := Classical.choose x_m_wrow_of
theorem q_m_wrow_of : m_wrow_of = fun ds S Q => b_wrow_of (endsD Q) (startD 16 ds) S := Classical.choose_spec x_m_wrow_of
theorem e_wrow_of (a0 a1 a2 a3 a4 : D) (S : Sto) (Q : DK) : m_wrow_of [a0, a1, a2, a3, a4] S Q = b_wrow_of (endsD Q) [some a0, some a1, some a2, some a3, some a4, none, none, none, none, none, none, none, none, none, none, none] S := by rw [q_m_wrow_of]; rfl
theorem sc_wrow_of : FnScope ["_law_pen_here", "_law_word", "_law_name", "_law_day", "_law_sorts_here", "_law_land", "_law_at", "_law_house", "_law_field", "_law_inch", "_law_fields", "_law_plots", "_law_houses", "_law_some_here", "_law_parts", "_law_one"] ["_law_pen_here", "_law_word", "_law_name", "_law_day", "_law_sorts_here"] (defScope s_wrow_of) := ⟨rfl, rfl, rfl, by decide +kernel, rfl, by decide +kernel, by decide +kernel⟩
noncomputable def t_wrow_2 : DS := (sRet (eCall 5 m_wrow_of (aCons (eVar 0) (aCons (eOp gIx (eVar 4) (eCall 2 m_wtake (aCons (eVar 0) (aCons (eC (.int 10)) aNil)))) (aCons (eVar 1) (aCons (eVar 2) (aCons (eVar 3) aNil)))))))
noncomputable def b_wrow : DS := (sSeq (sAsg (eLst (aCons (eC (.str "part")) (aCons (eC (.str "join")) (aCons (eC (.str "forfeit")) (aCons (eC (.str "measure")) (aCons (eC (.str "mend")) (aCons (eC (.str "alone")) (aCons (eC (.str "breach")) (aCons (eC (.str "view")) (aCons (eC (.str "part")) (aCons (eC (.str "join")) aNil))))))))))) (nName 4)) t_wrow_2)
theorem x_m_wrow : ∃ m : MF, m = fun ds S Q => b_wrow (endsD Q) (startD 5 ds) S := ⟨_, rfl⟩
noncomputable def m_wrow : MF := Classical.choose x_m_wrow
theorem q_m_wrow : m_wrow = fun ds S Q => b_wrow (endsD Q) (startD 5 ds) S := Classical.choose_spec x_m_wrow
theorem e_wrow (a0 a1 a2 a3 : D) (S : Sto) (Q : DK) : m_wrow [a0, a1, a2, a3] S Q = b_wrow (endsD Q) [some a0, some a1, some a2, some a3, none] S := by rw [q_m_wrow]; rfl
theorem sc_wrow : FnScope ["_law_pen_here", "_law_name", "_law_day", "_law_sorts_here", "_law_terms"] ["_law_pen_here", "_law_name", "_law_day", "_law_sorts_here"] (defScope s_wrow) := ⟨rfl, rfl, rfl, by decide +kernel, rfl, by decide +kernel, by decide +kernel⟩
noncomputable def t_wmend_row_13 : DS := (sRet (eTup (aCons (eC (.str "mend")) (aCons (eVar 1) (aCons (eVar 2) (aCons (eVar 6) (aCons (eVar 7) aNil)))))))
noncomputable def t_wmend_row_11 : DS := (sSeq (sIf (tAndD (tBl (eOp (gEq id) (eVar 8) (eC (.int 5)))) (tBl (eOp (gEq not) (eVar 4) (eLst aNil)))) (sRet (eOp gAdd (eOp gAdd (eSl (eOp gIx (eVar 4) (eNeg (eC (.int 1)))) oNo (oSome (eC (.int 1)))) (eTup (aCons (eVar 1) (aCons (eVar 2) aNil)))) (eSl (eOp gIx (eVar 4) (eNeg (eC (.int 1)))) (oSome (eC (.int 3))) oNo))) sNext) t_wmend_row_13)
noncomputable def t_wmend_row_9 : DS := (sSeq (sIf (tAndD (tBl (eOp (gEq id) (eVar 8) (eC (.int 4)))) (tAndD (tBl (eOp (gEq not) (eVar 4) (eLst aNil))) (tBl (eOp (gEq not) (eOp gIx (eOp gIx (eVar 4) (eNeg (eC (.int 1)))) (eC (.int 3))) (eVar 6))))) (sRet (eTup (aCons (eC (.str "mend")) (aCons (eVar 1) (aCons (eVar 2) (aCons (eVar 6) (aCons (eOp gIx (eOp gIx (eVar 4) (eNeg (eC (.int 1)))) (eC (.int 3))) aNil))))))) sNext) t_wmend_row_11)
noncomputable def t_wmend_row_7 : DS := (sSeq (sIf (tAndD (tBl (eOp gLt2 (eVar 8) (eC (.int 4)))) (tAndD (tBl (eOp (gEq not) (eVar 4) (eLst aNil))) (tAndD (tBl (eOp (gEq id) (eOp gIx (eOp gIx (eVar 4) (eNeg (eC (.int 1)))) (eC (.int 0))) (eC (.str "mend")))) (tBl (eOp (gEq not) (eOp gIx (eOp gIx (eVar 4) (eNeg (eC (.int 1)))) (eC (.int 4))) (eVar 7)))))) (sRet (eTup (aCons (eC (.str "mend")) (aCons (eVar 1) (aCons (eVar 2) (aCons (eOp gIx (eOp gIx (eVar 4) (eNeg (eC (.int 1)))) (eC (.int 4))) (aCons (eVar 7) aNil))))))) sNext) t_wmend_row_9)
noncomputable def t_wmend_row_5 : DS := (sSeq (sIf (tBl (eOp (gEq id) (eVar 8) (eC (.int 0)))) (sRet (eTup (aCons (eC (.str "alone")) (aCons (eVar 1) (aCons (eVar 2) (aCons (eVar 6) aNil)))))) sNext) t_wmend_row_7)
noncomputable def t_wmend_row_4 : DS := (sSeq (sAsg (eCall 2 m_wtake (aCons (eVar 0) (aCons (eC (.int 8)) aNil))) (nName 8)) t_wmend_row_5)
noncomputable def t_wmend_row_3 : DS := (sSeq (sAsg (eOp gIx (eVar 3) (eOp gMod (eOp gAdd (eOp gAdd (eVar 5) (eC (.int 1))) (eCall 2 m_wtake (aCons (eVar 0) (aCons (eOp gMns (eCB gLen (aCons (eVar 3) aNil)) (eC (.int 1))) aNil)))) (eCB gLen (aCons (eVar 3) aNil)))) (nName 7)) t_wmend_row_4)
noncomputable def t_wmend_row_2 : DS := (sSeq (sAsg (eOp gIx (eVar 3) (eVar 5)) (nName 6)) t_wmend_row_3)
noncomputable def b_wmend_row : DS := (sSeq (sAsg (eCall 2 m_wtake (aCons (eVar 0) (aCons (eCB gLen (aCons (eVar 3) aNil)) aNil))) (nName 5)) t_wmend_row_2)
theorem x_m_wmend_row : ∃ m : MF, m = fun ds S Q => b_wmend_row (endsD Q) (startD 9 ds) S := ⟨_, rfl⟩
noncomputable def m_wmend_row : MF := Classical.choose x_m_wmend_row
theorem q_m_wmend_row : m_wmend_row = fun ds S Q => b_wmend_row (endsD Q) (startD 9 ds) S := Classical.choose_spec x_m_wmend_row
theorem e_wmend_row (a0 a1 a2 a3 a4 : D) (S : Sto) (Q : DK) : m_wmend_row [a0, a1, a2, a3, a4] S Q = b_wmend_row (endsD Q) [some a0, some a1, some a2, some a3, some a4, none, none, none, none] S := by rw [q_m_wmend_row]; rfl
theorem sc_wmend_row : FnScope ["_law_pen_here", "_law_name", "_law_day", "_law_houses", "_law_past", "_law_at", "_law_one", "_law_other", "_law_way"] ["_law_pen_here", "_law_name", "_law_day", "_law_houses", "_law_past"] (defScope s_wmend_row) := ⟨rfl, rfl, rfl, by decide +kernel, rfl, by decide +kernel, by decide +kernel⟩
noncomputable def t_wplace_2 : DS := (sRet (eTup (aCons (eOp gIx (eVar 0) (eC (.int 2))) (aCons (eGet2 (eVar 1) (eOp gIx (eVar 0) (eC (.int 0))) (eC (.int 1))) (aCons (eOp gIx (eVar 0) (eC (.int 1))) aNil)))))
noncomputable def b_wplace : DS := (sSeq (sAsg (eDict (pCons (eC (.str "measure")) (eC (.int 0)) (pCons (eC (.str "mend")) (eC (.int 2)) (pCons (eC (.str "alone")) (eC (.int 2)) (pCons (eC (.str "breach")) (eC (.int 3)) (pCons (eC (.str "view")) (eC (.int 3)) pNil)))))) (nName 1)) t_wplace_2)
theorem x_m_wplace : ∃ m : MF, m = fun ds S Q => b_wplace (endsD Q) (startD 2 ds) S := ⟨_, rfl⟩
noncomputable def m_wplace : MF := Classical.choose x_m_wplace
theorem q_m_wplace : m_wplace = fun ds S Q => b_wplace (endsD Q) (startD 2 ds) S := Classical.choose_spec x_m_wplace
theorem e_wplace (a0 : D) (S : Sto) (Q : DK) : m_wplace [a0] S Q = b_wplace (endsD Q) [some a0, none] S := by rw [q_m_wplace]; rfl
theorem sc_wplace : FnScope ["_law_row_here", "_law_ranks"] ["_law_row_here"] (defScope s_wplace) := ⟨rfl, rfl, rfl, by decide +kernel, rfl, by decide +kernel, by decide +kernel⟩
noncomputable def t_wsome_rows_11 : DS := (sExpr (eM "list" gAppend (eVar 6) (aCons (eOp gIx (eVar 7) (eNeg (eC (.int 1)))) aNil)))
noncomputable def t_wsome_rows_7 : DS := (sIf (tBl (eOp (gEq id) (eCall 2 m_wtake (aCons (eVar 0) (aCons (eC (.int 7)) aNil))) (eC (.int 0)))) (sExpr (eM "list" gAppend (eVar 6) (aCons (eCall 4 m_wrow (aCons (eVar 0) (aCons (eOp gIx (eVar 1) (eVar 8)) (aCons (eVar 9) (aCons (eVar 2) aNil))))) aNil))) (sSeq (sExpr (eM "list" gAppend (eVar 7) (aCons (eCall 5 m_wmend_row (aCons (eVar 0) (aCons (eOp gIx (eVar 1) (eVar 8)) (aCons (eVar 9) (aCons (eOp gIx (eVar 2) (eC (.int 2))) (aCons (eVar 7) aNil)))))) aNil))) t_wsome_rows_11))
noncomputable def l_wsome_rows_5 : DS := (sSeq (sAsg (eOp gIx (eLst (aCons (eOp gIx (eVar 5) (eVar 8)) (aCons (eVar 8) (aCons (eOp gAdd (eOp gMns (eC (.int 9999)) (eVar 3)) (eVar 8)) aNil)))) (eVar 4)) (nName 9)) t_wsome_rows_7)
noncomputable def t_wsome_rows_12 : DS := (sRet (eCB gTupleN (aCons (eSortK m_wplace (eVar 6)) aNil)))
noncomputable def t_wsome_rows_5 : DS := (sSeq (sFor (iRange1 (aCons (eVar 3) aNil)) (nName 8) l_wsome_rows_5) t_wsome_rows_12)
noncomputable def t_wsome_rows_4 : DS := (sSeq (sAsg (eLst aNil) (nName 7)) t_wsome_rows_5)
noncomputable def t_wsome_rows_3 : DS := (sSeq (sAsg (eLst aNil) (nName 6)) t_wsome_rows_4)
noncomputable def t_wsome_rows_2 : DS := (sSeq (sAsg (eCall 2 m_wdays (aCons (eVar 0) (aCons (eVar 3) aNil))) (nName 5)) t_wsome_rows_3)
noncomputable def b_wsome_rows : DS := (sSeq (sAsg (eCall 2 m_wtake (aCons (eVar 0) (aCons (eC (.int 3)) aNil))) (nName 4)) t_wsome_rows_2)
theorem x_m_wsome_rows : ∃ m : MF, m = fun ds S Q => b_wsome_rows (endsD Q) (startD 10 ds) S := ⟨_, rfl⟩
noncomputable def m_wsome_rows : MF := Classical.choose x_m_wsome_rows
theorem q_m_wsome_rows : m_wsome_rows = fun ds S Q => b_wsome_rows (endsD Q) (startD 10 ds) S := Classical.choose_spec x_m_wsome_rows
theorem e_wsome_rows (a0 a1 a2 a3 : D) (S : Sto) (Q : DK) : m_wsome_rows [a0, a1, a2, a3] S Q = b_wsome_rows (endsD Q) [some a0, some a1, some a2, some a3, none, none, none, none, none, none] S := by rw [q_m_wsome_rows]; rfl
theorem sc_wsome_rows : FnScope ["_law_pen_here", "_law_names_here", "_law_sorts_here", "_law_many", "_law_way", "_law_days_here", "_law_found", "_law_past", "_law_k", "_law_day"] ["_law_pen_here", "_law_names_here", "_law_sorts_here", "_law_many"] (defScope s_wsome_rows) := ⟨rfl, rfl, rfl, by decide +kernel, rfl, by decide +kernel, by decide +kernel⟩
noncomputable def t_wworld_6 : DS := (sRet (eTup (aCons (eTup (aCons (eVar 2) (aCons (eCall 4 m_wsome_rows (aCons (eVar 0) (aCons (eVar 6) (aCons (eTup (aCons (eVar 3) (aCons (eVar 4) (aCons (eVar 5) aNil)))) (aCons (eVar 1) aNil))))) aNil))) (aCons (eVar 5) aNil))))
noncomputable def t_wworld_5 : DS := (sSeq (sAsg (eCall 3 m_wlaying (aCons (eVar 0) (aCons (eVar 3) (aCons (eVar 5) aNil)))) (nName 2)) t_wworld_6)
noncomputable def t_wworld_4 : DS := (sSeq (sAsg (eOp gIx (eLst (aCons (eC (.int 40)) (aCons (eCall 2 m_wtake (aCons (eVar 0) (aCons (eC (.int 41)) aNil))) (aCons (eCall 2 m_wtake (aCons (eVar 0) (aCons (eC (.int 13)) aNil))) aNil)))) (eCall 2 m_wtake (aCons (eVar 0) (aCons (eC (.int 3)) aNil)))) (nName 1)) t_wworld_5)
noncomputable def t_wworld_2 : DS := (sSeq (sIf (tBl (eOp (gEq id) (eCall 2 m_wtake (aCons (eVar 0) (aCons (eC (.int 2)) aNil))) (eC (.int 0)))) (sAsg (eCall 2 m_wnames (aCons (eVar 0) (aCons (eOp gAdd (eC (.int 2)) (eCall 2 m_wtake (aCons (eVar 0) (aCons (eC (.int 11)) aNil)))) aNil))) (nName 5)) sNext) t_wworld_4)
noncomputable def b_wworld : DS := (sSeq (sAsg (eCall 3 m_wsorts (aCons (eVar 0) (aCons (eOp gAdd (eC (.int 1)) (eCall 2 m_wtake (aCons (eVar 0) (aCons (eC (.int 3)) aNil)))) (aCons (eC (.int 40)) aNil)))) (nTupL 4 (nCons (nName 3) (nCons (nName 4) (nCons (nName 5) (nCons (nName 6) nNil)))))) t_wworld_2)
theorem x_m_wworld : ∃ m : MF, m = fun ds S Q => b_wworld (endsD Q) (startD 7 ds) S := ⟨_, rfl⟩
noncomputable def m_wworld : MF := Classical.choose x_m_wworld
theorem q_m_wworld : m_wworld = fun ds S Q => b_wworld (endsD Q) (startD 7 ds) S := Classical.choose_spec x_m_wworld
theorem e_wworld (a0 : D) (S : Sto) (Q : DK) : m_wworld [a0] S Q = b_wworld (endsD Q) [some a0, none, none, none, none, none, none] S := by rw [q_m_wworld]; rfl
theorem sc_wworld : FnScope ["_law_pen_here", "_law_many", "_law_laying_here", "_law_fields", "_law_plots", "_law_houses", "_law_names_here"] ["_law_pen_here"] (defScope s_wworld) := ⟨rfl, rfl, rfl, by decide +kernel, rfl, by decide +kernel, by decide +kernel⟩
noncomputable def l_wroad_2 : DS := (sExpr (eM "list" gAppend (eVar 2) (aCons (eOp gIx (eVar 0) (eOp gIx (eVar 2) (eNeg (eC (.int 1))))) aNil)))
noncomputable def t_wroad_4 : DS := (sRet (eVar 2))
noncomputable def t_wroad_2 : DS := (sSeq (sWhile (tBl (eOp (gIn id) (eOp gIx (eVar 2) (eNeg (eC (.int 1)))) (eVar 0))) l_wroad_2) t_wroad_4)
noncomputable def b_wroad : DS := (sSeq (sAsg (eLst (aCons (eVar 1) aNil)) (nName 2)) t_wroad_2)
theorem x_m_wroad : ∃ m : MF, m = fun ds S Q => b_wroad (endsD Q) (startD 3 ds) S := ⟨_, rfl⟩
noncomputable def m_wroad : MF := Classical.choose x_m_wroad
theorem q_m_wroad : m_wroad = fun ds S Q => b_wroad (endsD Q) (startD 3 ds) S := Classical.choose_spec x_m_wroad
theorem e_wroad (a0 a1 : D) (S : Sto) (Q : DK) : m_wroad [a0, a1] S Q = b_wroad (endsD Q) [some a0, some a1, none] S := by rw [q_m_wroad]; rfl
theorem sc_wroad : FnScope ["_law_menders_here", "_law_house", "_law_found"] ["_law_menders_here", "_law_house"] (defScope s_wroad) := ⟨rfl, rfl, rfl, by decide +kernel, rfl, by decide +kernel, by decide +kernel⟩
noncomputable def t_wmenders_5 : DS := (sIf (tAndD (tBl (eOp (gEq id) (eOp gIx (eVar 2) (eC (.int 0))) (eC (.str "alone")))) (tBl (eOp (gIn id) (eOp gIx (eVar 2) (eC (.int 3))) (eVar 1)))) (sExpr (eM "dict" gPopK (eVar 1) (aCons (eOp gIx (eVar 2) (eC (.int 3))) aNil))) sNext)
noncomputable def l_wmenders_2 : DS := (sSeq (sIf (tAndD (tBl (eOp (gEq id) (eOp gIx (eVar 2) (eC (.int 0))) (eC (.str "mend")))) (tBl (eOp (gIn not) (eOp gIx (eVar 2) (eC (.int 3))) (eCall 2 m_wroad (aCons (eVar 1) (aCons (eOp gIx (eVar 2) (eC (.int 4))) aNil)))))) (sSub (eOp gIx (eVar 2) (eC (.int 4))) (eVar 1) (eOp gIx (eVar 2) (eC (.int 3)))) sNext) t_wmenders_5)
noncomputable def t_wmenders_7 : DS := (sRet (eVar 1))
noncomputable def t_wmenders_2 : DS := (sSeq (sFor (iSeq (eVar 0)) (nName 2) l_wmenders_2) t_wmenders_7)
noncomputable def b_wmenders : DS := (sSeq (sAsg eDict0 (nName 1)) t_wmenders_2)
theorem x_m_wmenders : ∃ m : MF, m = fun ds S Q => b_wmenders (endsD Q) (startD 3 ds) S := ⟨_, rfl⟩
noncomputable def m_wmenders : MF := Classical.choose x_m_wmenders
theorem q_m_wmenders : m_wmenders = fun ds S Q => b_wmenders (endsD Q) (startD 3 ds) S := Classical.choose_spec x_m_wmenders
theorem e_wmenders (a0 : D) (S : Sto) (Q : DK) : m_wmenders [a0] S Q = b_wmenders (endsD Q) [some a0, none, none] S := by rw [q_m_wmenders]; rfl
theorem sc_wmenders : FnScope ["_law_rows", "_law_menders_here", "_law_row_here"] ["_law_rows"] (defScope s_wmenders) := ⟨rfl, rfl, rfl, by decide +kernel, rfl, by decide +kernel, by decide +kernel⟩
noncomputable def t_wring_5 : DS := (sRet (eOp gAdd (eLst (aCons (eOp gIx (eVar 2) (eC (.int 3))) aNil)) (eSl (eVar 3) oNo (oSome (eOp gAdd (eM "list" gIndex (eVar 3) (aCons (eOp gIx (eVar 2) (eC (.int 3))) aNil)) (eC (.int 1)))))))
noncomputable def t_wring_3 : DS := (sSeq (sIf (tBl (eOp (gIn not) (eOp gIx (eVar 2) (eC (.int 3))) (eVar 3))) (sRet (eC .non)) sNext) t_wring_5)
noncomputable def t_wring_2 : DS := (sSeq (sAsg (eCall 2 m_wroad (aCons (eCall 1 m_wmenders (aCons (eSl (eVar 0) oNo (oSome (eVar 1))) aNil)) (aCons (eOp gIx (eVar 2) (eC (.int 4))) aNil))) (nName 3)) t_wring_3)
noncomputable def b_wring : DS := (sSeq (sAsg (eOp gIx (eVar 0) (eVar 1)) (nName 2)) t_wring_2)
theorem x_m_wring : ∃ m : MF, m = fun ds S Q => b_wring (endsD Q) (startD 4 ds) S := ⟨_, rfl⟩
noncomputable def m_wring : MF := Classical.choose x_m_wring
theorem q_m_wring : m_wring = fun ds S Q => b_wring (endsD Q) (startD 4 ds) S := Classical.choose_spec x_m_wring
theorem e_wring (a0 a1 : D) (S : Sto) (Q : DK) : m_wring [a0, a1] S Q = b_wring (endsD Q) [some a0, some a1, none, none] S := by rw [q_m_wring]; rfl
theorem sc_wring : FnScope ["_law_rows", "_law_at", "_law_row_here", "_law_way"] ["_law_rows", "_law_at"] (defScope s_wring) := ⟨rfl, rfl, rfl, by decide +kernel, rfl, by decide +kernel, by decide +kernel⟩
noncomputable def l_row_called_1 : DS := (sIf (tBl (eOp (gEqX id) (eOp gIx (eVar 2) (eC (.int 1))) (eVar 1))) (sRet (eVar 2)) sNext)
noncomputable def t_row_called_4 : DSX := (xRaise "NoName")
noncomputable def b_row_called : DSX := (xSeq (xS (sFor (iSeq (eOp gIx (eVar 0) (eC (.int 1)))) (nName 2) l_row_called_1)) t_row_called_4)
theorem x_m_row_called : ∃ m : MFX, m = fun ds S Q E => b_row_called (endsD Q) E (startD 3 ds) S := ⟨_, rfl⟩
noncomputable def m_row_called : MFX := Classical.choose x_m_row_called
theorem q_m_row_called : m_row_called = fun ds S Q E => b_row_called (endsD Q) E (startD 3 ds) S := Classical.choose_spec x_m_row_called
theorem e_row_called (a0 a1 : D) (S : Sto) (Q : DK) (E : EK) : m_row_called [a0, a1] S Q E = b_row_called (endsD Q) E [some a0, some a1, none] S := by rw [q_m_row_called]; rfl
theorem sc_row_called : FnScope ["roll", "name", "row"] ["roll", "name"] (defScope s_row_called) := ⟨rfl, rfl, rfl, by decide +kernel, rfl, by decide +kernel, by decide +kernel⟩
noncomputable def l_road_by_2 : DS := (sExpr (eM "list" gAppend (eVar 2) (aCons (eOp gIx (eVar 0) (eOp gIx (eVar 2) (eNeg (eC (.int 1))))) aNil)))
noncomputable def t_road_by_4 : DS := (sRet (eVar 2))
noncomputable def t_road_by_2 : DS := (sSeq (sWhile (tBl (eOp (gIn id) (eOp gIx (eVar 2) (eNeg (eC (.int 1)))) (eVar 0))) l_road_by_2) t_road_by_4)
noncomputable def b_road_by : DS := (sSeq (sAsg (eLst (aCons (eVar 1) aNil)) (nName 2)) t_road_by_2)
theorem x_m_road_by : ∃ m : MF, m = fun ds S Q => b_road_by (endsD Q) (startD 3 ds) S := ⟨_, rfl⟩
noncomputable def m_road_by : MF := Classical.choose x_m_road_by
theorem q_m_road_by : m_road_by = fun ds S Q => b_road_by (endsD Q) (startD 3 ds) S := Classical.choose_spec x_m_road_by
theorem e_road_by (a0 a1 : D) (S : Sto) (Q : DK) : m_road_by [a0, a1] S Q = b_road_by (endsD Q) [some a0, some a1, none] S := by rw [q_m_road_by]; rfl
theorem sc_road_by : FnScope ["menders", "house", "found"] ["menders", "house"] (defScope s_road_by) := ⟨rfl, rfl, rfl, by decide +kernel, rfl, by decide +kernel, by decide +kernel⟩
noncomputable def c_begun_1 : DE := (eOp gIx (eVar 6) (eC (.int 0)))
noncomputable def t_begun_4 : DS := (sSub (eVar 5) (eOp gIx (eVar 1) (eC (.str "inches"))) (eVar 2))
noncomputable def l_begun_2 : DS := (sSeq (sSub (eTup (aCons (eVar 3) (aCons (eTup (aCons (eTup (aCons (eVar 2) (aCons (eC (.int 0)) (aCons (eVar 4) aNil)))) aNil)) aNil))) (eOp gIx (eVar 1) (eC (.str "lands"))) (eVar 2)) t_begun_4)
noncomputable def t_begun_5 : DS := (sRet (eVar 1))
noncomputable def t_begun_2 : DS := (sSeq (sFor (iSeq (eVar 0)) (nTupL 4 (nCons (nName 2) (nCons (nName 3) (nCons (nName 4) (nCons (nName 5) nNil))))) l_begun_2) t_begun_5)
noncomputable def b_begun : DS := (sSeq (sAsg (eDict (pCons (eC (.str "lands")) eDict0 (pCons (eC (.str "inches")) eDict0 (pCons (eC (.str "menders")) eDict0 (pCons (eC (.str "fields")) (eLc (iSeq (eVar 0)) (nName 6) tsYes c_begun_1 [6]) pNil))))) (nName 1)) t_begun_2)
theorem x_m_begun : ∃ m : MF, m = fun ds S Q => b_begun (endsD Q) (startD 7 ds) S := ⟨_, rfl⟩
noncomputable def m_begun : MF := Classical.choose x_m_begun
theorem q_m_begun : m_begun = fun ds S Q => b_begun (endsD Q) (startD 7 ds) S := Classical.choose_spec x_m_begun
theorem e_begun (a0 : D) (S : Sto) (Q : DK) : m_begun [a0] S Q = b_begun (endsD Q) [some a0, none, none, none, none, none, none] S := by rw [q_m_begun]; rfl
theorem sc_begun : FnScope ["laying", "state", "field", "house", "acres", "inches", "row"] ["laying"] (defScope s_begun) := ⟨rfl, rfl, rfl, by decide +kernel, rfl, by decide +kernel, by decide +kernel⟩
noncomputable def c_acres_in_1 : DE := (eOp gMns (eVar 3) (eVar 2))
noncomputable def b_acres_in : DS := (sRet (eCB gSum (aCons (eLc (iSeq (eVar 0)) (nTupL 3 (nCons (nName 1) (nCons (nName 2) (nCons (nName 3) nNil)))) tsYes c_acres_in_1 [1, 2, 3]) aNil)))
theorem x_m_acres_in : ∃ m : MF, m = fun ds S Q => b_acres_in (endsD Q) (startD 4 ds) S := ⟨_, rfl⟩
noncomputable def m_acres_in : MF := Classical.choose x_m_acres_in
theorem q_m_acres_in : m_acres_in = fun ds S Q => b_acres_in (endsD Q) (startD 4 ds) S := Classical.choose_spec x_m_acres_in
theorem e_acres_in (a0 : D) (S : Sto) (Q : DK) : m_acres_in [a0] S Q = b_acres_in (endsD Q) [some a0, none, none, none] S := by rw [q_m_acres_in]; rfl
theorem sc_acres_in : FnScope ["pieces", "field", "low", "high"] ["pieces"] (defScope s_acres_in) := ⟨rfl, rfl, rfl, by decide +kernel, rfl, by decide +kernel, by decide +kernel⟩
noncomputable def c_part_word_3 : DE := (eOp gIx (eVar 2) (eC (.int 2)))
noncomputable def c_part_word_5 : DE := (eAnd (eOp (gIn id) (eOp gIx (eVar 2) (eC (.int 0))) (eVar 0)) (eOp (gEq not) (eOp gIx (eVar 2) (eC (.int 0))) (eOp gIx (eVar 1) (eC (.int 3)))))
noncomputable def t_part_word_7 : DS := (sRet (eC (.str "done")))
noncomputable def t_part_word_5 : DS := (sSeq (sIf (tTr (eCB (gAll fun bs => bs.any id) (aCons (eLc (iSeq (eOp gIx (eVar 1) (eC (.int 4)))) (nName 2) tsYes c_part_word_5 [2]) aNil))) (sRet (eC (.str "name"))) sNext) t_part_word_7)
noncomputable def t_part_word_3 : DS := (sSeq (sIf (tBl (eOp (gEq not) (eCall 1 m_acres_in (aCons (eOp gIx (eOp gIx (eVar 0) (eOp gIx (eVar 1) (eC (.int 3)))) (eC (.int 1))) aNil)) (eCB gSum (aCons (eLc (iSeq (eOp gIx (eVar 1) (eC (.int 4)))) (nName 2) tsYes c_part_word_3 [2]) aNil)))) (sRet (eC (.str "acres"))) sNext) t_part_word_5)
noncomputable def b_part_word : DS := (sSeq (sIf (tBl (eOp (gIn not) (eOp gIx (eVar 1) (eC (.int 3))) (eVar 0))) (sRet (eC (.str "land"))) sNext) t_part_word_3)
theorem x_m_part_word : ∃ m : MF, m = fun ds S Q => b_part_word (endsD Q) (startD 3 ds) S := ⟨_, rfl⟩
noncomputable def m_part_word : MF := Classical.choose x_m_part_word
theorem q_m_part_word : m_part_word = fun ds S Q => b_part_word (endsD Q) (startD 3 ds) S := Classical.choose_spec x_m_part_word
theorem e_part_word (a0 a1 : D) (S : Sto) (Q : DK) : m_part_word [a0, a1] S Q = b_part_word (endsD Q) [some a0, some a1, none] S := by rw [q_m_part_word]; rfl
theorem sc_part_word : FnScope ["lands", "row", "part"] ["lands", "row"] (defScope s_part_word) := ⟨rfl, rfl, rfl, by decide +kernel, rfl, by decide +kernel, by decide +kernel⟩
noncomputable def c_join_word_1 : DE := (eOp (gIn id) (eVar 2) (eVar 0))
noncomputable def c_join_word_3 : DE := (eOp gIx (eOp gIx (eVar 0) (eVar 2)) (eC (.int 0)))
noncomputable def t_join_word_7 : DS := (sRet (eC (.str "done")))
noncomputable def t_join_word_5 : DS := (sSeq (sIf (tAndD (tBl (eOp (gIn id) (eOp gIx (eVar 1) (eC (.int 4))) (eVar 0))) (tBl (eOp (gIn not) (eOp gIx (eVar 1) (eC (.int 4))) (eOp gIx (eVar 1) (eC (.int 3)))))) (sRet (eC (.str "name"))) sNext) t_join_word_7)
noncomputable def t_join_word_3 : DS := (sSeq (sIf (tBl (eOp gGt (eLenSet (eLc (iSeq (eOp gIx (eVar 1) (eC (.int 3)))) (nName 2) tsYes c_join_word_3 [2])) (eC (.int 1)))) (sRet (eC (.str "houses"))) sNext) t_join_word_5)
noncomputable def b_join_word : DS := (sSeq (sIf (tNotD (tTr (eCB (gAll fun bs => bs.all id) (aCons (eLc (iSeq (eOp gIx (eVar 1) (eC (.int 3)))) (nName 2) tsYes c_join_word_1 [2]) aNil)))) (sRet (eC (.str "land"))) sNext) t_join_word_3)
theorem x_m_join_word : ∃ m : MF, m = fun ds S Q => b_join_word (endsD Q) (startD 3 ds) S := ⟨_, rfl⟩
noncomputable def m_join_word : MF := Classical.choose x_m_join_word
theorem q_m_join_word : m_join_word = fun ds S Q => b_join_word (endsD Q) (startD 3 ds) S := Classical.choose_spec x_m_join_word
theorem e_join_word (a0 a1 : D) (S : Sto) (Q : DK) : m_join_word [a0, a1] S Q = b_join_word (endsD Q) [some a0, some a1, none] S := by rw [q_m_join_word]; rfl
theorem sc_join_word : FnScope ["lands", "row", "land"] ["lands", "row"] (defScope s_join_word) := ⟨rfl, rfl, rfl, by decide +kernel, rfl, by decide +kernel, by decide +kernel⟩
noncomputable def t_forfeit_word_5 : DS := (sRet (eC (.str "done")))
noncomputable def t_forfeit_word_3 : DS := (sSeq (sIf (tBl (eOp (gEq id) (eOp gIx (eOp gIx (eVar 0) (eOp gIx (eVar 1) (eC (.int 3)))) (eC (.int 0))) (eOp gIx (eVar 1) (eC (.int 4))))) (sRet (eC (.str "same"))) sNext) t_forfeit_word_5)
noncomputable def b_forfeit_word : DS := (sSeq (sIf (tBl (eOp (gIn not) (eOp gIx (eVar 1) (eC (.int 3))) (eVar 0))) (sRet (eC (.str "land"))) sNext) t_forfeit_word_3)
theorem x_m_forfeit_word : ∃ m : MF, m = fun ds S Q => b_forfeit_word (endsD Q) (startD 2 ds) S := ⟨_, rfl⟩
noncomputable def m_forfeit_word : MF := Classical.choose x_m_forfeit_word
theorem q_m_forfeit_word : m_forfeit_word = fun ds S Q => b_forfeit_word (endsD Q) (startD 2 ds) S := Classical.choose_spec x_m_forfeit_word
theorem e_forfeit_word (a0 a1 : D) (S : Sto) (Q : DK) : m_forfeit_word [a0, a1] S Q = b_forfeit_word (endsD Q) [some a0, some a1] S := by rw [q_m_forfeit_word]; rfl
theorem sc_forfeit_word : FnScope ["lands", "row"] ["lands", "row"] (defScope s_forfeit_word) := ⟨rfl, rfl, rfl, by decide +kernel, rfl, by decide +kernel, by decide +kernel⟩
noncomputable def t_word_of_13 : DS := (sRet (eC (.str "done")))
noncomputable def t_word_of_11 : DS := (sSeq (sIf (tAndD (tBl (eOp (gIn id) (eOp gIx (eVar 1) (eC (.int 0))) (eTup (aCons (eC (.str "breach")) (aCons (eC (.str "view")) aNil))))) (tBl (eOp gGe (eOp gIx (eVar 1) (eC (.int 4))) (eOp gIx (eOp gIx (eVar 0) (eC (.str "inches"))) (eOp gIx (eVar 1) (eC (.int 3))))))) (sRet (eC (.str "inch"))) sNext) t_word_of_13)
noncomputable def t_word_of_9 : DS := (sSeq (sIf (tAndD (tBl (eOp (gEq id) (eOp gIx (eVar 1) (eC (.int 0))) (eC (.str "alone")))) (tBl (eOp (gIn not) (eOp gIx (eVar 1) (eC (.int 3))) (eOp gIx (eVar 0) (eC (.str "menders")))))) (sRet (eC (.str "none"))) sNext) t_word_of_11)
noncomputable def t_word_of_7 : DS := (sSeq (sIf (tAndD (tBl (eOp (gEq id) (eOp gIx (eVar 1) (eC (.int 0))) (eC (.str "mend")))) (tBl (eOp (gIn id) (eOp gIx (eVar 1) (eC (.int 3))) (eCall 2 m_road_by (aCons (eOp gIx (eVar 0) (eC (.str "menders"))) (aCons (eOp gIx (eVar 1) (eC (.int 4))) aNil)))))) (sRet (eC (.str "ring"))) sNext) t_word_of_9)
noncomputable def t_word_of_5 : DS := (sSeq (sIf (tBl (eOp (gEq id) (eOp gIx (eVar 1) (eC (.int 0))) (eC (.str "forfeit")))) (sRet (eCall 2 m_forfeit_word (aCons (eOp gIx (eVar 0) (eC (.str "lands"))) (aCons (eVar 1) aNil)))) sNext) t_word_of_7)
noncomputable def t_word_of_3 : DS := (sSeq (sIf (tBl (eOp (gEq id) (eOp gIx (eVar 1) (eC (.int 0))) (eC (.str "join")))) (sRet (eCall 2 m_join_word (aCons (eOp gIx (eVar 0) (eC (.str "lands"))) (aCons (eVar 1) aNil)))) sNext) t_word_of_5)
noncomputable def b_word_of : DS := (sSeq (sIf (tBl (eOp (gEq id) (eOp gIx (eVar 1) (eC (.int 0))) (eC (.str "part")))) (sRet (eCall 2 m_part_word (aCons (eOp gIx (eVar 0) (eC (.str "lands"))) (aCons (eVar 1) aNil)))) sNext) t_word_of_3)
theorem x_m_word_of : ∃ m : MF, m = fun ds S Q => b_word_of (endsD Q) (startD 2 ds) S := ⟨_, rfl⟩
noncomputable def m_word_of : MF := Classical.choose x_m_word_of
theorem q_m_word_of : m_word_of = fun ds S Q => b_word_of (endsD Q) (startD 2 ds) S := Classical.choose_spec x_m_word_of
theorem e_word_of (a0 a1 : D) (S : Sto) (Q : DK) : m_word_of [a0, a1] S Q = b_word_of (endsD Q) [some a0, some a1] S := by rw [q_m_word_of]; rfl
theorem sc_word_of : FnScope ["state", "row"] ["state", "row"] (defScope s_word_of) := ⟨rfl, rfl, rfl, by decide +kernel, rfl, by decide +kernel, by decide +kernel⟩
noncomputable def t_cut_8 : DS := (sAsg (eOp gMns (eOp gAdd (eVar 4) (eVar 7)) (eVar 6)) (nName 4))
noncomputable def t_cut_6 : DS := (sSeq (sIf (tBl (eOp gLt2 (eVar 8) (eVar 9))) (sExpr (eM "list" gAppend (eVar 3) (aCons (eTup (aCons (eVar 5) (aCons (eVar 8) (aCons (eVar 9) aNil)))) aNil))) sNext) t_cut_8)
noncomputable def t_cut_5 : DS := (sSeq (sAsg (eCB gMin2 (aCons (eVar 7) (aCons (eOp gMns (eOp gAdd (eVar 6) (eVar 2)) (eVar 4)) aNil))) (nName 9)) t_cut_6)
noncomputable def l_cut_3 : DS := (sSeq (sAsg (eCB gMax2 (aCons (eVar 6) (aCons (eOp gMns (eOp gAdd (eVar 6) (eVar 1)) (eVar 4)) aNil))) (nName 8)) t_cut_5)
noncomputable def t_cut_9 : DS := (sRet (eCB gTuple (aCons (eVar 3) aNil)))
noncomputable def t_cut_3 : DS := (sSeq (sFor (iSeq (eVar 0)) (nTupL 3 (nCons (nName 5) (nCons (nName 6) (nCons (nName 7) nNil)))) l_cut_3) t_cut_9)
noncomputable def t_cut_2 : DS := (sSeq (sAsg (eC (.int 0)) (nName 4)) t_cut_3)
noncomputable def b_cut : DS := (sSeq (sAsg (eLst aNil) (nName 3)) t_cut_2)
theorem x_m_cut : ∃ m : MF, m = fun ds S Q => b_cut (endsD Q) (startD 10 ds) S := ⟨_, rfl⟩
noncomputable def m_cut : MF := Classical.choose x_m_cut
theorem q_m_cut : m_cut = fun ds S Q => b_cut (endsD Q) (startD 10 ds) S := Classical.choose_spec x_m_cut
theorem e_cut (a0 a1 a2 : D) (S : Sto) (Q : DK) : m_cut [a0, a1, a2] S Q = b_cut (endsD Q) [some a0, some a1, some a2, none, none, none, none, none, none, none] S := by rw [q_m_cut]; rfl
theorem sc_cut : FnScope ["pieces", "low", "high", "found", "at", "field", "begin", "end", "one", "other"] ["pieces", "low", "high"] (defScope s_cut) := ⟨rfl, rfl, rfl, by decide +kernel, rfl, by decide +kernel, by decide +kernel⟩
noncomputable def t_do_part_5 : DS := (sAsg (eOp gAdd (eVar 2) (eVar 7)) (nName 2))
noncomputable def l_do_part_3 : DS := (sSeq (sSub (eTup (aCons (eVar 6) (aCons (eCall 3 m_cut (aCons (eVar 4) (aCons (eVar 2) (aCons (eOp gAdd (eVar 2) (eVar 7)) aNil)))) aNil))) (eVar 0) (eVar 5)) t_do_part_5)
noncomputable def t_do_part_3 : DS := (sFor (iSeq (eOp gIx (eVar 1) (eC (.int 4)))) (nTupL 3 (nCons (nName 5) (nCons (nName 6) (nCons (nName 7) nNil)))) l_do_part_3)
noncomputable def t_do_part_2 : DS := (sSeq (sAsg (eC (.int 0)) (nName 2)) t_do_part_3)
noncomputable def b_do_part : DS := (sSeq (sAsg (eM "dict" gPopK (eVar 0) (aCons (eOp gIx (eVar 1) (eC (.int 3))) aNil)) (nTupL 2 (nCons (nName 3) (nCons (nName 4) nNil)))) t_do_part_2)
theorem x_m_do_part : ∃ m : MF, m = fun ds S Q => b_do_part (endsD Q) (startD 8 ds) S := ⟨_, rfl⟩
noncomputable def m_do_part : MF := Classical.choose x_m_do_part
theorem q_m_do_part : m_do_part = fun ds S Q => b_do_part (endsD Q) (startD 8 ds) S := Classical.choose_spec x_m_do_part
theorem e_do_part (a0 a1 : D) (S : Sto) (Q : DK) : m_do_part [a0, a1] S Q = b_do_part (endsD Q) [some a0, some a1, none, none, none, none, none, none] S := by rw [q_m_do_part]; rfl
theorem sc_do_part : FnScope ["lands", "row", "at", "house", "pieces", "land", "holder", "acres"] ["lands", "row"] (defScope s_do_part) := ⟨rfl, rfl, rfl, by decide +kernel, rfl, by decide +kernel, by decide +kernel⟩
noncomputable def k_joined_2 : DE := (eTup (aCons (eM "list" gIndex (eVar 1) (aCons (eOp gIx (eVar 0) (eC (.int 0))) aNil)) (aCons (eOp gIx (eVar 0) (eC (.int 1))) aNil)))
noncomputable def l_joined_2 : DS := (sIf (tAndD (tBl (eOp (gEq not) (eVar 2) (eLst aNil))) (tAndD (tBl (eOp (gEq id) (eOp gIx (eOp gIx (eVar 2) (eNeg (eC (.int 1)))) (eC (.int 0))) (eVar 3))) (tBl (eOp (gEq id) (eOp gIx (eOp gIx (eVar 2) (eNeg (eC (.int 1)))) (eC (.int 2))) (eVar 4))))) (sSub (eTup (aCons (eVar 3) (aCons (eOp gIx (eOp gIx (eVar 2) (eNeg (eC (.int 1)))) (eC (.int 1))) (aCons (eVar 5) aNil)))) (eVar 2) (eNeg (eC (.int 1)))) (sExpr (eM "list" gAppend (eVar 2) (aCons (eTup (aCons (eVar 3) (aCons (eVar 4) (aCons (eVar 5) aNil)))) aNil))))
noncomputable def t_joined_7 : DS := (sRet (eCB gTuple (aCons (eVar 2) aNil)))
noncomputable def t_joined_2 : DS := (sSeq (sFor (iSeq (eSortL tP_joined "joined.<locals>.<lambda>" [1] k_joined_2 (eVar 0))) (nTupL 3 (nCons (nName 3) (nCons (nName 4) (nCons (nName 5) nNil)))) l_joined_2) t_joined_7)
noncomputable def b_joined : DS := (sSeq (sAsg (eLst aNil) (nName 2)) t_joined_2)
theorem x_m_joined : ∃ m : MF, m = fun ds S Q => b_joined (endsD Q) (startD 6 ds) S := ⟨_, rfl⟩
noncomputable def m_joined : MF := Classical.choose x_m_joined
theorem q_m_joined : m_joined = fun ds S Q => b_joined (endsD Q) (startD 6 ds) S := Classical.choose_spec x_m_joined
theorem e_joined (a0 a1 : D) (S : Sto) (Q : DK) : m_joined [a0, a1] S Q = b_joined (endsD Q) [some a0, some a1, none, none, none, none] S := by rw [q_m_joined]; rfl
theorem sc_joined : FnScope ["pieces", "fields", "found", "field", "low", "high"] ["pieces", "fields"] (defScope s_joined) := ⟨rfl, rfl, rfl, by decide +kernel, rfl, by decide +kernel, by decide +kernel⟩
noncomputable def l_do_join_3 : DS := (sExpr (eM "list" gExtend (eVar 3) (aCons (eOp gIx (eM "dict" gPopK (eVar 0) (aCons (eVar 5) aNil)) (eC (.int 1))) aNil)))
noncomputable def t_do_join_5 : DS := (sSub (eTup (aCons (eVar 4) (aCons (eCall 2 m_joined (aCons (eVar 3) (aCons (eVar 2) aNil))) aNil))) (eVar 0) (eOp gIx (eVar 1) (eC (.int 4))))
noncomputable def t_do_join_3 : DS := (sSeq (sFor (iSeq (eOp gIx (eVar 1) (eC (.int 3)))) (nName 5) l_do_join_3) t_do_join_5)
noncomputable def t_do_join_2 : DS := (sSeq (sAsg (eOp gIx (eOp gIx (eVar 0) (eOp gIx (eOp gIx (eVar 1) (eC (.int 3))) (eC (.int 0)))) (eC (.int 0))) (nName 4)) t_do_join_3)
noncomputable def b_do_join : DS := (sSeq (sAsg (eLst aNil) (nName 3)) t_do_join_2)
theorem x_m_do_join : ∃ m : MF, m = fun ds S Q => b_do_join (endsD Q) (startD 6 ds) S := ⟨_, rfl⟩
noncomputable def m_do_join : MF := Classical.choose x_m_do_join
theorem q_m_do_join : m_do_join = fun ds S Q => b_do_join (endsD Q) (startD 6 ds) S := Classical.choose_spec x_m_do_join
theorem e_do_join (a0 a1 a2 : D) (S : Sto) (Q : DK) : m_do_join [a0, a1, a2] S Q = b_do_join (endsD Q) [some a0, some a1, some a2, none, none, none] S := by rw [q_m_do_join]; rfl
theorem sc_do_join : FnScope ["lands", "row", "fields", "pieces", "house", "land"] ["lands", "row", "fields"] (defScope s_do_join) := ⟨rfl, rfl, rfl, by decide +kernel, rfl, by decide +kernel, by decide +kernel⟩
noncomputable def b_do_row : DS := (sIf (tBl (eOp (gEq id) (eOp gIx (eVar 1) (eC (.int 0))) (eC (.str "part")))) (sExpr (eCall 2 m_do_part (aCons (eOp gIx (eVar 0) (eC (.str "lands"))) (aCons (eVar 1) aNil)))) (sIf (tBl (eOp (gEq id) (eOp gIx (eVar 1) (eC (.int 0))) (eC (.str "join")))) (sExpr (eCall 3 m_do_join (aCons (eOp gIx (eVar 0) (eC (.str "lands"))) (aCons (eVar 1) (aCons (eOp gIx (eVar 0) (eC (.str "fields"))) aNil))))) (sIf (tBl (eOp (gEq id) (eOp gIx (eVar 1) (eC (.int 0))) (eC (.str "forfeit")))) (sSub (eTup (aCons (eOp gIx (eVar 1) (eC (.int 4))) (aCons (eOp gIx (eOp gIx (eOp gIx (eVar 0) (eC (.str "lands"))) (eOp gIx (eVar 1) (eC (.int 3)))) (eC (.int 1))) aNil))) (eOp gIx (eVar 0) (eC (.str "lands"))) (eOp gIx (eVar 1) (eC (.int 3)))) (sIf (tBl (eOp (gEq id) (eOp gIx (eVar 1) (eC (.int 0))) (eC (.str "measure")))) (sSub (eOp gIx (eVar 1) (eC (.int 4))) (eOp gIx (eVar 0) (eC (.str "inches"))) (eOp gIx (eVar 1) (eC (.int 3)))) (sIf (tBl (eOp (gEq id) (eOp gIx (eVar 1) (eC (.int 0))) (eC (.str "mend")))) (sSub (eOp gIx (eVar 1) (eC (.int 4))) (eOp gIx (eVar 0) (eC (.str "menders"))) (eOp gIx (eVar 1) (eC (.int 3)))) (sIf (tBl (eOp (gEq id) (eOp gIx (eVar 1) (eC (.int 0))) (eC (.str "alone")))) (sExpr (eM "dict" gPopK (eOp gIx (eVar 0) (eC (.str "menders"))) (aCons (eOp gIx (eVar 1) (eC (.int 3))) aNil))) sNext))))))
theorem x_m_do_row : ∃ m : MF, m = fun ds S Q => b_do_row (endsD Q) (startD 2 ds) S := ⟨_, rfl⟩
noncomputable def m_do_row : MF := Classical.choose x_m_do_row
theorem q_m_do_row : m_do_row = fun ds S Q => b_do_row (endsD Q) (startD 2 ds) S := Classical.choose_spec x_m_do_row
theorem e_do_row (a0 a1 : D) (S : Sto) (Q : DK) : m_do_row [a0, a1] S Q = b_do_row (endsD Q) [some a0, some a1] S := by rw [q_m_do_row]; rfl
theorem sc_do_row : FnScope ["state", "row"] ["state", "row"] (defScope s_do_row) := ⟨rfl, rfl, rfl, by decide +kernel, rfl, by decide +kernel, by decide +kernel⟩
noncomputable def t_folded_5 : DS := (sIf (tBl (eOp (gEq id) (eOp gIx (eVar 3) (eNeg (eC (.int 1)))) (eC (.str "done")))) (sExpr (eCall 2 m_do_row (aCons (eVar 2) (aCons (eVar 4) aNil)))) sNext)
noncomputable def l_folded_3 : DS := (sSeq (sExpr (eM "list" gAppend (eVar 3) (aCons (eCall 2 m_word_of (aCons (eVar 2) (aCons (eVar 4) aNil))) aNil))) t_folded_5)
noncomputable def t_folded_7 : DS := (sRet (eTup (aCons (eVar 2) (aCons (eVar 3) aNil))))
noncomputable def t_folded_3 : DS := (sSeq (sFor (iSeq (eSl (eOp gIx (eVar 0) (eC (.int 1))) oNo (oSome (eVar 1)))) (nName 4) l_folded_3) t_folded_7)
noncomputable def t_folded_2 : DS := (sSeq (sAsg (eLst aNil) (nName 3)) t_folded_3)
noncomputable def b_folded : DS := (sSeq (sAsg (eCall 1 m_begun (aCons (eOp gIx (eVar 0) (eC (.int 0))) aNil)) (nName 2)) t_folded_2)
theorem x_m_folded : ∃ m : MF, m = fun ds S Q => b_folded (endsD Q) (startD 5 ds) S := ⟨_, rfl⟩
noncomputable def m_folded : MF := Classical.choose x_m_folded
theorem q_m_folded : m_folded = fun ds S Q => b_folded (endsD Q) (startD 5 ds) S := Classical.choose_spec x_m_folded
theorem e_folded (a0 a1 : D) (S : Sto) (Q : DK) : m_folded [a0, a1] S Q = b_folded (endsD Q) [some a0, some a1, none, none, none] S := by rw [q_m_folded]; rfl
theorem sc_folded : FnScope ["roll", "at", "state", "words", "row"] ["roll", "at"] (defScope s_folded) := ⟨rfl, rfl, rfl, by decide +kernel, rfl, by decide +kernel, by decide +kernel⟩
noncomputable def b_road : DS := (sRet (eCall 2 m_road_by (aCons (eOp gIx (eOp gIx (eCall 2 m_folded (aCons (eVar 0) (aCons (eVar 1) aNil))) (eC (.int 0))) (eC (.str "menders"))) (aCons (eVar 2) aNil))))
theorem x_m_road : ∃ m : MF, m = fun ds S Q => b_road (endsD Q) (startD 3 ds) S := ⟨_, rfl⟩
noncomputable def m_road : MF := Classical.choose x_m_road
theorem q_m_road : m_road = fun ds S Q => b_road (endsD Q) (startD 3 ds) S := Classical.choose_spec x_m_road
theorem e_road (a0 a1 a2 : D) (S : Sto) (Q : DK) : m_road [a0, a1, a2] S Q = b_road (endsD Q) [some a0, some a1, some a2] S := by rw [q_m_road]; rfl
theorem sc_road : FnScope ["roll", "at", "house"] ["roll", "at", "house"] (defScope s_road) := ⟨rfl, rfl, rfl, by decide +kernel, rfl, by decide +kernel, by decide +kernel⟩
noncomputable def t_ring_7 : DSX := (xS (sRet (eOp gAdd (eLst (aCons (eOp gIx (eVar 2) (eC (.int 3))) aNil)) (eSl (eVar 3) oNo (oSome (eOp gAdd (eM "list" gIndex (eVar 3) (aCons (eOp gIx (eVar 2) (eC (.int 3))) aNil)) (eC (.int 1))))))))
noncomputable def t_ring_5 : DSX := (xSeq (xS (sIf (tBl (eOp (gIn not) (eOp gIx (eVar 2) (eC (.int 3))) (eVar 3))) (sRet (eC .non)) sNext)) t_ring_7)
noncomputable def t_ring_4 : DSX := (xSeq (xS (sAsg (eCall 3 m_road (aCons (eWk (eVar 0)) (aCons (eIdxN (eOp gIx (eVar 0) (eC (.int 1))) (aCons (eVar 2) aNil)) (aCons (eOp gIx (eVar 2) (eC (.int 4))) aNil)))) (nName 3))) t_ring_5)
noncomputable def t_ring_2 : DSX := (xSeq (xIf (tBl (eOp (gEq not) (eOp gIx (eVar 2) (eC (.int 0))) (eC (.str "mend")))) (xRaise "NoMend") (xS sNext)) t_ring_4)
noncomputable def b_ring : DSX := (xSeq (xSet 2 (eCallX 2 m_row_called (aCons (eWk (eVar 0)) (aCons (eVar 1) aNil)))) t_ring_2)
theorem x_m_ring : ∃ m : MFX, m = fun ds S Q E => b_ring (endsD Q) E (startD 4 ds) S := ⟨_, rfl⟩
noncomputable def m_ring : MFX := Classical.choose x_m_ring
theorem q_m_ring : m_ring = fun ds S Q E => b_ring (endsD Q) E (startD 4 ds) S := Classical.choose_spec x_m_ring
theorem e_ring (a0 a1 : D) (S : Sto) (Q : DK) (E : EK) : m_ring [a0, a1] S Q E = b_ring (endsD Q) E [some a0, some a1, none, none] S := by rw [q_m_ring]; rfl
theorem sc_ring : FnScope ["roll", "name", "row", "found"] ["roll", "name"] (defScope s_ring) := ⟨rfl, rfl, rfl, by decide +kernel, rfl, by decide +kernel, by decide +kernel⟩
noncomputable def t_wclass_20 : DS := (sRet (eOp gIx (eVar 1) (eC (.int 0))))
noncomputable def t_wclass_18 : DS := (sSeq (sIf (tBl (eOp (gEq not) (eCB gLen (aCons (eVar 1) aNil)) (eC (.int 1)))) (sRet (eC (.str ""))) sNext) t_wclass_20)
noncomputable def t_wclass_16 : DS := (sSeq (sIf (tOrD (tTr (eCB (gIsX xtab) (aCons (eVar 0) (aCons (eTup (aCons (eC (.cls "Clash")) (aCons (eC (.cls "NoBreach")) (aCons (eC (.cls "NoField")) (aCons (eC (.cls "NoInch")) (aCons (eC (.cls "NoOrder")) (aCons (eC (.cls "NoText")) aNil))))))) aNil)))) (tNotD (tTr (eCB (gIsX xtab) (aCons (eVar 0) (aCons (eC (.ty "ValueError")) aNil)))))) (sRet (eC (.str ""))) sNext) t_wclass_18)
noncomputable def t_wclass_14 : DS := (sSeq (sIf (tTr (eCB (gIsX xtab) (aCons (eVar 0) (aCons (eC (.cls "NoMend")) aNil)))) (sExpr (eM "list" gAppend (eVar 1) (aCons (eC (.str "NoMend")) aNil))) sNext) t_wclass_16)
noncomputable def t_wclass_12 : DS := (sSeq (sIf (tTr (eCB (gIsX xtab) (aCons (eVar 0) (aCons (eC (.cls "NoThen")) aNil)))) (sExpr (eM "list" gAppend (eVar 1) (aCons (eC (.str "NoThen")) aNil))) sNext) t_wclass_14)
noncomputable def t_wclass_10 : DS := (sSeq (sIf (tTr (eCB (gIsX xtab) (aCons (eVar 0) (aCons (eC (.cls "TooMany")) aNil)))) (sExpr (eM "list" gAppend (eVar 1) (aCons (eC (.str "TooMany")) aNil))) sNext) t_wclass_12)
noncomputable def t_wclass_8 : DS := (sSeq (sIf (tTr (eCB (gIsX xtab) (aCons (eVar 0) (aCons (eC (.cls "Twice")) aNil)))) (sExpr (eM "list" gAppend (eVar 1) (aCons (eC (.str "Twice")) aNil))) sNext) t_wclass_10)
noncomputable def t_wclass_6 : DS := (sSeq (sIf (tTr (eCB (gIsX xtab) (aCons (eVar 0) (aCons (eC (.cls "NoName")) aNil)))) (sExpr (eM "list" gAppend (eVar 1) (aCons (eC (.str "NoName")) aNil))) sNext) t_wclass_8)
noncomputable def t_wclass_4 : DS := (sSeq (sIf (tTr (eCB (gIsX xtab) (aCons (eVar 0) (aCons (eC (.cls "NoRoll")) aNil)))) (sExpr (eM "list" gAppend (eVar 1) (aCons (eC (.str "NoRoll")) aNil))) sNext) t_wclass_6)
noncomputable def t_wclass_2 : DS := (sSeq (sIf (tTr (eCB (gIsX xtab) (aCons (eVar 0) (aCons (eC (.cls "NoRow")) aNil)))) (sExpr (eM "list" gAppend (eVar 1) (aCons (eC (.str "NoRow")) aNil))) sNext) t_wclass_4)
noncomputable def b_wclass : DS := (sSeq (sAsg (eLst aNil) (nName 1)) t_wclass_2)
theorem x_m_wclass : ∃ m : MF, m = fun ds S Q => b_wclass (endsD Q) (startD 2 ds) S := ⟨_, rfl⟩
noncomputable def m_wclass : MF := Classical.choose x_m_wclass
theorem q_m_wclass : m_wclass = fun ds S Q => b_wclass (endsD Q) (startD 2 ds) S := Classical.choose_spec x_m_wclass
theorem e_wclass (a0 : D) (S : Sto) (Q : DK) : m_wclass [a0] S Q = b_wclass (endsD Q) [some a0, none] S := by rw [q_m_wclass]; rfl
theorem sc_wclass : FnScope ["_law_caught", "_law_found"] ["_law_caught"] (defScope s_wclass) := ⟨rfl, rfl, rfl, by decide +kernel, rfl, by decide +kernel, by decide +kernel⟩
noncomputable def t_wtold_9 : DS := (sRet (eLst (aCons (eC (.str "refused")) (aCons (eCall 1 m_wclass (aCons (eVar 1) aNil)) aNil))))
noncomputable def r_wtold : DS := (sSeq (sIf (tBl (eOp (gIs id) (eVar 1) (eC .non))) (sRet (eLst (aCons (eC (.str "told")) (aCons (eVar 2) aNil)))) sNext) t_wtold_9)
noncomputable def b_wtold : ASK → DS := fun ask D0 σ S => (fun ask D0 σ S => (gAskS 3 1 2 ["NoMend", "NoName"] r_wtold) ask D0 (setS 2 .non σ) S) ask D0 (setS 1 .non σ) S
theorem x_m_wtold : ∃ m : MFL, m = fun ask S Q => ∀ f : Addr, b_wtold ask (endsD Q) (startD 4 [.ref f]) S := ⟨_, rfl⟩
noncomputable def m_wtold : MFL := Classical.choose x_m_wtold
theorem q_m_wtold : m_wtold = fun ask S Q => ∀ f : Addr, b_wtold ask (endsD Q) (startD 4 [.ref f]) S := Classical.choose_spec x_m_wtold
theorem e_wtold (ask : ASK) (S : Sto) (Q : DK) : m_wtold ask S Q = ∀ f : Addr, b_wtold ask (endsD Q) [some (.ref f), none, none, none] S := by rw [q_m_wtold]; rfl
theorem sc_wtold : FnScope ["_law_ask", "_law_caught", "_law_found", "e"] ["_law_ask"] (defScope s_wtold) := ⟨rfl, rfl, rfl, by decide +kernel, rfl, by decide +kernel, by decide +kernel⟩
noncomputable def t_wright_11 : DS := (sIf (tBl (eOp (gIs not) (eVar 3) (eC .non))) (sExpr (eM "list" gClear (eVar 5) aNil)) sNext)
noncomputable def t_wright_9 : DS := (sSeq (sIf (tAndD (tBl (eOp (gIs not) (eVar 3) (eC .non))) (tBl (eOp (gEq not) (eVar 5) (eVar 3)))) (sRet (eC (.bl false))) sNext) t_wright_11)
noncomputable def t_wright_7 : DS := (sSeq (sIf (tOrD (tAndD (tBl (eOp (gIs id) (eVar 3) (eC .non))) (tBl (eOp (gIs not) (eVar 5) (eC .non)))) (tAndD (tBl (eOp (gIs not) (eVar 3) (eC .non))) (tNotD (tTr (eCB gIsi (aCons (eVar 5) (aCons (eC (.ty "list")) aNil))))))) (sRet (eC (.bl false))) sNext) t_wright_9)
noncomputable def l_wright_5 : DS := (sSeq (sAsg (eCall 2 (mNo m_ring) (aCons (eVar 0) (aCons (eOp gIx (eVar 2) (eC (.int 1))) aNil))) (nName 5)) t_wright_7)
noncomputable def t_wright_13 : DS := (sRet (eC (.bl true)))
noncomputable def t_wright_5 : DS := (sSeq (sFor (iRange1 (aCons (eC (.int 2)) aNil)) (nName 4) l_wright_5) t_wright_13)
noncomputable def t_wright_4 : DS := (sSeq (sAsg (eCall 2 m_wring (aCons (eOp gIx (eWk (eVar 0)) (eC (.int 1))) (aCons (eVar 1) aNil))) (nName 3)) t_wright_5)
noncomputable def t_wright_2 : DS := (sSeq (sIf (tBl (eOp (gEq not) (eOp gIx (eVar 2) (eC (.int 0))) (eC (.str "mend")))) (sRet (eOp (gEq id) (eLamC tP_wright "_law_right.<locals>.<lambda>" m_wtold (eCallX 2 m_ring (aCons (eVar 0) (aCons (eOp gIx (eVar 2) (eC (.int 1))) aNil)))) (eLst (aCons (eC (.str "refused")) (aCons (eC (.str "NoMend")) aNil))))) sNext) t_wright_4)
noncomputable def b_wright : DS := (sSeq (sAsg (eOp gIx (eOp gIx (eWk (eVar 0)) (eC (.int 1))) (eVar 1)) (nName 2)) t_wright_2)
theorem x_m_wright : ∃ m : MF, m = fun ds S Q => b_wright (endsD Q) (startD 6 ds) S := ⟨_, rfl⟩
noncomputable def m_wright : MF := Classical.choose x_m_wright
theorem q_m_wright : m_wright = fun ds S Q => b_wright (endsD Q) (startD 6 ds) S := Classical.choose_spec x_m_wright
theorem e_wright (a0 a1 : D) (S : Sto) (Q : DK) : m_wright [a0, a1] S Q = b_wright (endsD Q) [some a0, some a1, none, none, none, none] S := by rw [q_m_wright]; rfl
theorem sc_wright : FnScope ["_law_roll", "_law_at", "_law_row_here", "_law_owed", "_law_turn", "_law_found"] ["_law_roll", "_law_at"] (defScope s_wright) := ⟨rfl, rfl, rfl, by decide +kernel, rfl, by decide +kernel, by decide +kernel⟩
noncomputable def c_law_3 : DE := (eOp gIx (eVar 9) (eC (.int 1)))
noncomputable def l_law_5 : DS := (sIf (tNotD (tTr (eCall 2 m_wright (aCons (eVar 7) (aCons (eOp gMod (eOp gAdd (eVar 3) (eOp gMulA (eC (.int 7)) (eVar 4))) (eCB gLen (aCons (eVar 2) aNil))) aNil))))) (sRet (eC (.bl false))) sNext)
noncomputable def c_law_8 : DE := (eVar 10)
noncomputable def l_law_9 : DS := (sIf (tBl (eOp (gEq not) (eLamC tP_law "law.<locals>.<lambda>" m_wtold (eCallX 2 m_ring (aCons (eVar 7) (aCons (eVar 6) aNil)))) (eLst (aCons (eC (.str "refused")) (aCons (eC (.str "NoName")) aNil))))) (sRet (eC (.bl false))) sNext)
noncomputable def c_law_12 : DE := (eCall 2 m_wright (aCons (eVar 7) (aCons (eVar 11) aNil)))
noncomputable def t_law_12 : DS := (sRet (eCB (gAll fun bs => bs.all id) (aCons (eLc (iRange1 (aCons (eCB gLen (aCons (eVar 2) aNil)) aNil)) (nName 11) tsYes c_law_12 [11]) aNil)))
noncomputable def t_law_9 : DS := (sSeq (sFor (iSeq (eOp gAdd (eVar 5) (eLst (aCons (eC .non) (aCons (eC (.bl true)) (aCons (eC (.int 7)) (aCons (eC (.str "")) (aCons (eC (.str "A")) (aCons (eLst (aCons (eC (.str "a")) aNil)) (aCons (eTup (aCons (eC (.str "a")) aNil)) (aCons eDict0 aNil))))))))))) (nName 6) l_law_9) t_law_12)
noncomputable def t_law_8 : DS := (sSeq (sAsg (eLc (iSeq (eOp gAdd (eWk (eVar 8)) (eLst (aCons (eC (.str "a")) (aCons (eC (.str "zzzzzzzz")) aNil))))) (nName 10) (tBl (eOp (gIn not) (eVar 10) (eVar 2))) c_law_8 [10]) (nName 5)) t_law_9)
noncomputable def t_law_5 : DS := (sSeq (sFor (iRange1 (aCons (eCB gLen (aCons (eVar 2) aNil)) aNil)) (nName 4) l_law_5) t_law_8)
noncomputable def t_law_4 : DS := (sSeq (sAsg (eCall 2 m_wtake (aCons (eVar 1) (aCons (eOp gAdd (eCB gLen (aCons (eVar 2) aNil)) (eC (.int 1))) aNil))) (nName 3)) t_law_5)
noncomputable def t_law_3 : DS := (sSeq (sAsg (eLc (iSeq (eOp gIx (eWk (eVar 7)) (eC (.int 1)))) (nName 9) tsYes c_law_3 [9]) (nName 2)) t_law_4)
noncomputable def t_law_2 : DS := (sSeq (sAsg (eCall 1 m_wworld (aCons (eVar 1) aNil)) (nTupL 2 (nCons (nName 7) (nCons (nName 8) nNil)))) t_law_3)
noncomputable def b_law : DS := (sSeq (sAsg (eCall 1 m_wpen (aCons (eVar 0) aNil)) (nName 1)) t_law_2)
theorem x_m_law : ∃ m : MF, m = fun ds S Q => b_law (endsD Q) (startD 12 ds) S := ⟨_, rfl⟩
noncomputable def m_law : MF := Classical.choose x_m_law
theorem q_m_law : m_law = fun ds S Q => b_law (endsD Q) (startD 12 ds) S := Classical.choose_spec x_m_law
theorem e_law (a0 : D) (S : Sto) (Q : DK) : m_law [a0] S Q = b_law (endsD Q) [some a0, none, none, none, none, none, none, none, none, none, none, none] S := by rw [q_m_law]; rfl
theorem sc_law : FnScope ["_law_script", "_law_pen_here", "_law_names_here", "_law_first", "_law_k", "_law_others", "_law_thing", "_law_roll", "_law_houses", "_law_row_here", "_law_name", "_law_at"] ["_law_script"] (defScope s_law) := ⟨rfl, rfl, rfl, by decide +kernel, rfl, by decide +kernel, by decide +kernel⟩
structure Txt (w : World) (K : PySem.W.Frag) (mg : Str → Option Value) : Prop where
  f_wpen : FT K mg "_law_pen" s_wpen ["_law_script"]
  f_wtake : FT K mg "_law_take" s_wtake ["_law_pen_here", "_law_many"]
  f_wnames : FT K mg "_law_names" s_wnames ["_law_pen_here", "_law_many"]
  f_wsorts : FT K mg "_law_sorts" s_wsorts ["_law_pen_here", "_law_fields", "_law_rows"]
  f_wnumber : FT K mg "_law_number" s_wnumber ["_law_pen_here", "_law_bottom", "_law_most"]
  f_wlaying : FT K mg "_law_laying" s_wlaying ["_law_pen_here", "_law_fields", "_law_houses"]
  f_wdays : FT K mg "_law_days" s_wdays ["_law_pen_here", "_law_many"]
  f_wsome : FT K mg "_law_some" s_wsome ["_law_pen_here", "_law_names_here", "_law_many"]
  f_wrow_of : FT K mg "_law_row_of" s_wrow_of ["_law_pen_here", "_law_word", "_law_name", "_law_day", "_law_sorts_here"]
  f_wrow : FT K mg "_law_row" s_wrow ["_law_pen_here", "_law_name", "_law_day", "_law_sorts_here"]
  f_wmend_row : FT K mg "_law_mend_row" s_wmend_row ["_law_pen_here", "_law_name", "_law_day", "_law_houses", "_law_past"]
  f_wplace : FT K mg "_law_place" s_wplace ["_law_row_here"]
  f_wsome_rows : FT K mg "_law_some_rows" s_wsome_rows ["_law_pen_here", "_law_names_here", "_law_sorts_here", "_law_many"]
  f_wworld : FT K mg "_law_world" s_wworld ["_law_pen_here"]
  f_wroad : FT K mg "_law_road" s_wroad ["_law_menders_here", "_law_house"]
  f_wmenders : FT K mg "_law_menders" s_wmenders ["_law_rows"]
  f_wring : FT K mg "_law_ring" s_wring ["_law_rows", "_law_at"]
  f_row_called : FT K mg "row_called" s_row_called ["roll", "name"]
  f_road_by : FT K mg "road_by" s_road_by ["menders", "house"]
  f_begun : FT K mg "begun" s_begun ["laying"]
  f_acres_in : FT K mg "acres_in" s_acres_in ["pieces"]
  f_part_word : FT K mg "part_word" s_part_word ["lands", "row"]
  f_join_word : FT K mg "join_word" s_join_word ["lands", "row"]
  f_forfeit_word : FT K mg "forfeit_word" s_forfeit_word ["lands", "row"]
  f_word_of : FT K mg "word_of" s_word_of ["state", "row"]
  f_cut : FT K mg "cut" s_cut ["pieces", "low", "high"]
  f_do_part : FT K mg "do_part" s_do_part ["lands", "row"]
  f_joined : FTC K mg "joined" s_joined ["pieces", "fields"] tC_joined
  f_do_join : FT K mg "do_join" s_do_join ["lands", "row", "fields"]
  f_do_row : FT K mg "do_row" s_do_row ["state", "row"]
  f_folded : FT K mg "folded" s_folded ["roll", "at"]
  f_road : FT K mg "road" s_road ["roll", "at", "house"]
  f_ring : FT K mg "ring" s_ring ["roll", "name"]
  f_wclass : FT K mg "_law_class" s_wclass ["_law_caught"]
  f_wtold : FT K mg "_law_told" s_wtold ["_law_ask"]
  f_wright : FTC K mg "_law_right" s_wright ["_law_roll", "_law_at"] tC_wright
  f_law : FTC K mg "law" s_law ["_law_script"] tC_law
  n_len : mg "len" = none
  n_range : mg "range" = none
  n_all : mg "all" = none
  n_list : mg "list" = none
  n_abs : mg "abs" = none
  n_min : mg "min" = none
  n_tuple : mg "tuple" = none
  n_sorted : mg "sorted" = none
  n_int : mg "int" = none
  n_isinstance : mg "isinstance" = none
  n_sum : mg "sum" = none
  n_any : mg "any" = none
  n_set : mg "set" = none
  n_max : mg "max" = none
  n_ValueError : mg "ValueError" = none
  k_NoRow : ClsT K mg "NoRow"
  k_NoRoll : ClsT K mg "NoRoll"
  k_NoName : ClsT K mg "NoName"
  k_Twice : ClsT K mg "Twice"
  k_TooMany : ClsT K mg "TooMany"
  k_NoThen : ClsT K mg "NoThen"
  k_NoMend : ClsT K mg "NoMend"
  k_NoText : ClsT K mg "NoText"
  k_NoOrder : ClsT K mg "NoOrder"
  k_NoInch : ClsT K mg "NoInch"
  k_NoField : ClsT K mg "NoField"
  k_NoBreach : ClsT K mg "NoBreach"
  k_Clash : ClsT K mg "Clash"
  e_NoMend : ExT K mg "NoMend"
  e_NoName : ExT K mg "NoName"
  h_DykeError_0 : HndT K mg "DykeError" ["NoMend", "NoName"]
  x_tab : XTok K xtab
abbrev tabT : List (Str × Addr × Addr × Str) := [("joined", tC_joined, tP_joined, "joined.<locals>.<lambda>"), ("_law_right", tC_wright, tP_wright, "_law_right.<locals>.<lambda>"), ("law", tC_law, tP_law, "law.<locals>.<lambda>")]
structure Tbs (base : Heap) (mg : Str → Option Value) : Prop where
  t_joined : LamX.TabB base mg tC_joined tP_joined
  t_wright : LamX.TabB base mg tC_wright tP_wright
  t_law : LamX.TabB base mg tC_law tP_law
section
variable {P : Program} {w : World} {K : PySem.W.Frag} {mg : Str → Option Value} {base : Heap}
theorem ok_wpen (T : Txt w K mg) (B : Tbs base mg) : Okf P w K mg base 1 "_law_pen" 1 m_wpen := by
  have Sc := sc_wpen
  refine okf_of (b := b_wpen) T.f_wpen Sc (fun ds S Q => by rw [q_m_wpen]; rfl) fun f cdv A outer s H E hr => ?_
  have hu := hu_of hr.toRoom
  exact (ss_one (s_ret (c_dict (ps_cons0 c_str (c_callTy y_list (by rfl) T.n_list (by decide +kernel) (a_cons (c_sl (c_var 0) p_none (p_some c_int)) a_nil)) (ps_cons0 c_str c_int (ps_cons0 c_str c_int ps_nil0))) (by rfl) (by rfl) (fun z => by cases z) (by decide))))
theorem ok_wtake (T : Txt w K mg) (B : Tbs base mg) : Okf P w K mg base 1 "_law_take" 2 m_wtake := by
  have Sc := sc_wtake
  refine okf_of (b := b_wtake) T.f_wtake Sc (fun ds S Q => by rw [q_m_wtake]; rfl) fun f cdv A outer s H E hr => ?_
  have hu := hu_of hr.toRoom
  exact (ss_cons (s_if (k_cmp o_gt (c_ix hu (c_var 0) c_str) c_int (nomark _)) (ss_cons (s_set (i := 7) Sc.nd rfl (by first | exact .inl rfl | exact .inr rfl) (c_mod (c_ix hu (c_var 0) c_str) (c_var 1))) (ss_cons (s_sub hu (c_fdiv (c_ix hu (c_var 0) c_str) (c_var 1)) (c_var 0) c_str) (ss_one (s_ret (c_var 7))))) ss_nil) (ss_cons (s_set (i := 2) Sc.nd rfl (by first | exact .inl rfl | exact .inr rfl) (c_ix hu (c_var 0) c_str)) (ss_cons (s_sub hu (c_add (c_var 2) c_int) (c_var 0) c_str) (ss_cons (s_set (i := 3) Sc.nd rfl (by first | exact .inl rfl | exact .inr rfl) (c_ix hu (c_var 0) c_str)) (ss_cons (s_set (i := 4) Sc.nd rfl (by first | exact .inl rfl | exact .inr rfl) (c_add (c_add (c_mulA (c_mulA c_int (c_var 2)) (c_var 2)) (c_mulA c_int (c_var 2))) c_int)) (ss_cons (s_if (k_cmp (o_ne hr.units) (c_var 3) (c_lst a_nil) (nomark _)) (ss_one (s_set (i := 4) Sc.nd rfl (by first | exact .inl rfl | exact .inr rfl) (c_ix hu (c_var 3) (c_mod (c_var 2) (c_callB b_len (by rfl) T.n_len (by decide +kernel) (a_cons (c_var 3) a_nil)))))) ss_nil) (ss_cons (s_if (k_w (w_and (k_cmp (o_lt2 hr.units) (c_var 2) (c_callB b_len (by rfl) T.n_len (by decide +kernel) (a_cons (c_var 3) a_nil)) (nomark _)) (w_and1 (k_cmp o_ge (c_callB b_abs (by rfl) T.n_abs (by decide +kernel) (a_cons (c_var 4) a_nil)) (c_pow c_int c_int) (nomark _))))) (ss_cons (s_sub hu (c_fdiv (c_callB b_abs (by rfl) T.n_abs (by decide +kernel) (a_cons (c_var 4) a_nil)) (c_var 1)) (c_var 0) c_str) (ss_one (s_ret (c_mod (c_callB b_abs (by rfl) T.n_abs (by decide +kernel) (a_cons (c_var 4) a_nil)) (c_var 1))))) ss_nil) (ss_cons (s_set (i := 5) Sc.nd rfl (by first | exact .inl rfl | exact .inr rfl) (c_mod (c_pow (c_add (c_add (c_mod (c_var 4) c_int) (c_mulA c_int (c_var 2))) c_int) c_int) c_int)) (ss_cons (s_set (i := 6) Sc.nd rfl (by first | exact .inl rfl | exact .inr rfl) (c_mod (c_pow (c_add (c_add (c_var 5) (c_mulA (c_mulA c_int (c_var 2)) (c_var 2))) c_int) c_int) c_int)) (ss_one (s_ret (c_mod (c_fdiv (c_mod (c_mulA (c_var 6) (c_add (c_mod (c_var 5) c_int) c_int)) c_int) c_int) (c_var 1)))))))))))))
theorem ok_wnames (T : Txt w K mg) (B : Tbs base mg) : Okf P w K mg base 2 "_law_names" 2 m_wnames := by
  have Sc := sc_wnames
  refine okf_of (b := b_wnames) T.f_wnames Sc (fun ds S Q => by rw [q_m_wnames]; rfl) fun f cdv A outer s H E hr => ?_
  have hu := hu_of hr.toRoom
  exact (ss_cons (s_set (i := 2) Sc.nd rfl (by first | exact .inl rfl | exact .inr rfl) c_str) (ss_cons (s_set (i := 3) Sc.nd rfl (by first | exact .inl rfl | exact .inr rfl) (c_fn hr (ok_wtake T B) (by decide) (a_cons (c_var 0) (a_cons c_int a_nil)))) (ss_cons (s_set (i := 4) Sc.nd rfl (by first | exact .inl rfl | exact .inr rfl) (c_fn hr (ok_wtake T B) (by decide) (a_cons (c_var 0) (a_cons c_int a_nil)))) (ss_cons (s_set (i := 5) Sc.nd rfl (by first | exact .inl rfl | exact .inr rfl) (c_m m_join c_str (a_cons (c_lc (own := [("_law_k", 8)]) (gown := [8]) rfl Sc.nd (i_range1 (by rfl) T.n_range (a_cons (c_ix hu (c_lst (a_cons (c_fn hr (ok_wtake T B) (by decide) (a_cons (c_var 0) (a_cons c_int a_nil))) (a_cons c_int (a_cons c_int a_nil)))) (c_var 3)) a_nil)) (blkOk_by (N := ["_law_pen_here", "_law_many", "_law_letters", "_law_way", "_law_turn", "_law_base", "_law_spot", "_law_found", "_law_k", "_law_terms", "_law_word", "_law_rest"]) (sc := defScope s_wnames) (by decide +kernel)) (fun _ _ _ _ _ => (g_name (i := 8) Sc.nd rfl (by first | exact .inl rfl | exact .inr rfl))) (by decide) (fun _ _ _ _ _ => ts_nil) (fun _ _ _ _ _ => (c_ix hu (c_var 2) (c_fn hr (ok_wtake T B) (by decide) (a_cons (c_var 0) (a_cons c_int a_nil)))))) a_nil))) (ss_cons (s_set (i := 6) Sc.nd rfl (by first | exact .inl rfl | exact .inr rfl) (c_fn hr (ok_wtake T B) (by decide) (a_cons (c_var 0) (a_cons (c_add (c_callB b_len (by rfl) T.n_len (by decide +kernel) (a_cons (c_var 5) a_nil)) c_int) a_nil)))) (ss_cons (s_set (i := 7) Sc.nd rfl (by first | exact .inl rfl | exact .inr rfl) (c_lst a_nil)) (ss_cons (s_for PassesOwn.never rfl (i_range1 (by rfl) T.n_range (a_cons (c_var 1) a_nil)) (g_name (i := 8) Sc.nd rfl (by first | exact .inl rfl | exact .inr rfl)) (ss_cons (s_set (i := 10) Sc.nd rfl (by first | exact .inl rfl | exact .inr rfl) (c_add (c_ix hu (c_var 2) (c_mod (c_add (c_var 4) (c_mulA c_int (c_var 8))) c_int)) (c_ix hu (c_var 2) (c_mod (c_add (c_var 4) (c_fdiv (c_var 8) c_int)) c_int)))) (ss_cons (s_set (i := 10) Sc.nd rfl (by first | exact .inl rfl | exact .inr rfl) (c_add (c_add (c_sl (c_var 5) p_none (p_some (c_var 6))) (c_var 10)) (c_sl (c_var 5) (p_some (c_var 6)) p_none))) (ss_cons (s_if (k_cmp (o_eq hr.units) (c_var 3) c_int (nomark _)) (ss_cons (s_set (i := 10) Sc.nd rfl (by first | exact .inl rfl | exact .inr rfl) c_str) (ss_cons (s_set (i := 11) Sc.nd rfl (by first | exact .inl rfl | exact .inr rfl) (c_add (c_var 8) c_int)) (ss_one (s_while PassesOwn.never (k_cmp o_gt (c_var 11) c_int (nomark _)) (ss_cons (s_set (i := 10) Sc.nd rfl (by first | exact .inl rfl | exact .inr rfl) (c_add (c_ix hu (c_var 2) (c_mod (c_add (c_var 4) (c_mulA c_int (c_mod (c_var 11) c_int))) c_int)) (c_var 10))) (ss_one (s_set (i := 11) Sc.nd rfl (by first | exact .inl rfl | exact .inr rfl) (c_fdiv (c_sub (c_var 11) c_int) c_int)))))))) ss_nil) (ss_one (s_expr (c_m m_append (c_var 7) (a_cons (c_var 10) a_nil)))))))) (ss_cons (s_set (i := 9) Sc.nd rfl (by first | exact .inl rfl | exact .inr rfl) (c_lst (a_cons c_str (a_cons c_str (a_cons c_str (a_cons c_str (a_cons c_str (a_cons c_str (a_cons c_str (a_cons c_str (a_cons c_str a_nil))))))))))) (ss_cons (s_if (k_cmp (o_eq hr.units) (c_fn hr (ok_wtake T B) (by decide) (a_cons (c_var 0) (a_cons c_int a_nil))) c_int (nomark _)) (ss_one (s_for PassesOwn.never rfl (i_range1 (by rfl) T.n_range (a_cons (c_callB (b_min2 rfl) (by rfl) T.n_min (by decide +kernel) (a_cons (c_var 1) (a_cons c_int a_nil))) a_nil)) (g_name (i := 8) Sc.nd rfl (by first | exact .inl rfl | exact .inr rfl)) (ss_one (s_if (k_w (w_and (k_cmp (o_eq hr.units) (c_fn hr (ok_wtake T B) (by decide) (a_cons (c_var 0) (a_cons c_int a_nil))) c_int (nomark _)) (w_and1 (k_cmp (o_notIn hu) (c_ix hu (c_var 9) (c_var 8)) (c_var 7) (by with_unfolding_all rfl))))) (ss_one (s_sub hu (c_ix hu (c_var 9) (c_var 8)) (c_var 7) (c_var 8))) ss_nil)))) ss_nil) (ss_one (s_ret (c_var 7))))))))))))
theorem ok_wsorts (T : Txt w K mg) (B : Tbs base mg) : Okf P w K mg base 3 "_law_sorts" 3 m_wsorts := by
  have Sc := sc_wsorts
  refine okf_of (b := b_wsorts) T.f_wsorts Sc (fun ds S Q => by rw [q_m_wsorts]; rfl) fun f cdv A outer s H E hr => ?_
  have hu := hu_of hr.toRoom
  exact (ss_cons (s_if (k_cmp (o_eq hr.units) (c_fn hr (ok_wtake T B) (by decide) (a_cons (c_var 0) (a_cons c_int a_nil))) c_int (nomark _)) (ss_cons (s_set (i := 5) Sc.nd rfl (by first | exact .inl rfl | exact .inr rfl) (c_fn hr (ok_wnames T B) (by decide) (a_cons (c_var 0) (a_cons c_int a_nil)))) (ss_one (s_ret (c_tup (a_cons (c_sl (c_var 5) p_none (p_some (c_var 1))) (a_cons (c_sl (c_var 5) p_none (p_some c_int)) (a_cons (c_sl (c_var 5) p_none (p_some c_int)) (a_cons (c_sl (c_var 5) p_none (p_some (c_var 2))) a_nil)))))))) ss_nil) (ss_cons (s_set (i := 3) Sc.nd rfl (by first | exact .inl rfl | exact .inr rfl) (c_fn hr (ok_wnames T B) (by decide) (a_cons (c_var 0) (a_cons c_int a_nil)))) (ss_cons (s_set (i := 4) Sc.nd rfl (by first | exact .inl rfl | exact .inr rfl) (c_fn hr (ok_wnames T B) (by decide) (a_cons (c_var 0) (a_cons c_int a_nil)))) (ss_one (s_ret (c_tup (a_cons (c_fn hr (ok_wnames T B) (by decide) (a_cons (c_var 0) (a_cons (c_var 1) a_nil))) (a_cons (c_var 3) (a_cons (c_var 4) (a_cons (c_fn hr (ok_wnames T B) (by decide) (a_cons (c_var 0) (a_cons (c_var 2) a_nil))) a_nil))))))))))
theorem ok_wnumber (T : Txt w K mg) (B : Tbs base mg) : Okf P w K mg base 2 "_law_number" 3 m_wnumber := by
  have Sc := sc_wnumber
  refine okf_of (b := b_wnumber) T.f_wnumber Sc (fun ds S Q => by rw [q_m_wnumber]; rfl) fun f cdv A outer s H E hr => ?_
  have hu := hu_of hr.toRoom
  exact (ss_cons (s_set (i := 3) Sc.nd rfl (by first | exact .inl rfl | exact .inr rfl) (c_fn hr (ok_wtake T B) (by decide) (a_cons (c_var 0) (a_cons c_int a_nil)))) (ss_cons (s_set (i := 4) Sc.nd rfl (by first | exact .inl rfl | exact .inr rfl) (c_add (c_var 1) (c_fn hr (ok_wtake T B) (by decide) (a_cons (c_var 0) (a_cons (c_callB (b_min2 rfl) (by rfl) T.n_min (by decide +kernel) (a_cons c_int (a_cons (c_add (c_sub (c_var 2) (c_var 1)) c_int) a_nil))) a_nil))))) (ss_one (s_ret (c_ix hu (c_lst (a_cons (c_var 1) (a_cons (c_var 2) (a_cons (c_var 4) (a_cons (c_add (c_var 1) (c_fn hr (ok_wtake T B) (by decide) (a_cons (c_var 0) (a_cons (c_add (c_sub (c_var 2) (c_var 1)) c_int) a_nil)))) a_nil))))) (c_var 3))))))
theorem ok_wlaying (T : Txt w K mg) (B : Tbs base mg) : Okf P w K mg base 3 "_law_laying" 3 m_wlaying := by
  have Sc := sc_wlaying
  refine okf_of (b := b_wlaying) T.f_wlaying Sc (fun ds S Q => by rw [q_m_wlaying]; rfl) fun f cdv A outer s H E hr => ?_
  have hu := hu_of hr.toRoom
  exact (ss_cons (s_set (i := 3) Sc.nd rfl (by first | exact .inl rfl | exact .inr rfl) (c_lst a_nil)) (ss_cons (s_for PassesOwn.never rfl (i_seq (c_var 1)) (g_name (i := 4) Sc.nd rfl (by first | exact .inl rfl | exact .inr rfl)) (ss_cons (s_set (i := 5) Sc.nd rfl (by first | exact .inl rfl | exact .inr rfl) (c_ix hu (c_var 2) (c_fn hr (ok_wtake T B) (by decide) (a_cons (c_var 0) (a_cons (c_callB b_len (by rfl) T.n_len (by decide +kernel) (a_cons (c_var 2) a_nil)) a_nil))))) (ss_one (s_expr (c_m m_append (c_var 3) (a_cons (c_tup (a_cons (c_var 4) (a_cons (c_var 5) (a_cons (c_fn hr (ok_wnumber T B) (by decide) (a_cons (c_var 0) (a_cons c_int (a_cons (c_pow c_int c_int) a_nil)))) (a_cons (c_fn hr (ok_wnumber T B) (by decide) (a_cons (c_var 0) (a_cons c_int (a_cons (c_pow c_int c_int) a_nil)))) a_nil))))) a_nil)))))) (ss_one (s_ret (c_callTy y_tuple (by rfl) T.n_tuple (by decide +kernel) (a_cons (c_var 3) a_nil))))))
theorem ok_wdays (T : Txt w K mg) (B : Tbs base mg) : Okf P w K mg base 2 "_law_days" 2 m_wdays := by
  have Sc := sc_wdays
  refine okf_of (b := b_wdays) T.f_wdays Sc (fun ds S Q => by rw [q_m_wdays]; rfl) fun f cdv A outer s H E hr => ?_
  have hu := hu_of hr.toRoom
  exact (ss_cons (s_set (i := 2) Sc.nd rfl (by first | exact .inl rfl | exact .inr rfl) (c_fn hr (ok_wtake T B) (by decide) (a_cons (c_var 0) (a_cons c_int a_nil)))) (ss_cons (s_set (i := 3) Sc.nd rfl (by first | exact .inl rfl | exact .inr rfl) (c_lst (a_cons c_int (a_cons c_int (a_cons c_int (a_cons c_int (a_cons (c_fn hr (ok_wtake T B) (by decide) (a_cons (c_var 0) (a_cons c_int a_nil))) (a_cons (c_fn hr (ok_wtake T B) (by decide) (a_cons (c_var 0) (a_cons c_int a_nil))) a_nil)))))))) (ss_cons (s_setLc (i := 4) (own := [("_law_k", 6)]) (gown := [6]) rfl Sc.nd rfl rfl (sw_true rfl rfl rfl (by decide +kernel)) (i_range1 (by rfl) T.n_range (a_cons (c_add c_int (c_fn hr (ok_wtake T B) (by decide) (a_cons (c_var 0) (a_cons c_int a_nil)))) a_nil)) (blkOk_by (N := ["_law_pen_here", "_law_many", "_law_way", "_law_some_here", "_law_few", "_law_found", "_law_k"]) (sc := defScope s_wdays) (by decide +kernel)) (fun _ _ _ _ _ => (g_name (i := 6) Sc.nd rfl (by first | exact .inl rfl | exact .inr rfl))) (by decide) (fun _ _ _ _ _ => ts_nil) (fun _ _ _ _ _ => (c_ix hu (c_var 3) (c_fn hr (ok_wtake T B) (by decide) (a_cons (c_var 0) (a_cons c_int a_nil)))))) (ss_cons (s_set (i := 5) Sc.nd rfl (by first | exact .inl rfl | exact .inr rfl) (c_lst a_nil)) (ss_cons (s_for PassesOwn.never rfl (i_range1 (by rfl) T.n_range (a_cons (c_var 1) a_nil)) (g_name (i := 6) Sc.nd rfl (by first | exact .inl rfl | exact .inr rfl)) (ss_one (s_expr (c_m m_append (c_var 5) (a_cons (c_ix hu (c_lst (a_cons (c_ix hu (c_var 4) (c_fn hr (ok_wtake T B) (by decide) (a_cons (c_var 0) (a_cons (c_callB b_len (by rfl) T.n_len (by decide +kernel) (a_cons (c_var 4) a_nil)) a_nil)))) (a_cons (c_fn hr (ok_wtake T B) (by decide) (a_cons (c_var 0) (a_cons c_int a_nil))) a_nil))) (c_callTy y_int (by rfl) T.n_int (by decide +kernel) (a_cons (c_cmp (o_eq hr.units) (c_var 2) c_int (nomark _)) a_nil))) a_nil))))) (ss_one (s_ret (c_var 5))))))))
theorem ok_wsome (T : Txt w K mg) (B : Tbs base mg) : Okf P w K mg base 2 "_law_some" 3 m_wsome := by
  have Sc := sc_wsome
  refine okf_of (b := b_wsome) T.f_wsome Sc (fun ds S Q => by rw [q_m_wsome]; rfl) fun f cdv A outer s H E hr => ?_
  have hu := hu_of hr.toRoom
  exact (ss_cons (s_set (i := 3) Sc.nd rfl (by first | exact .inl rfl | exact .inr rfl) (c_callTy y_list (by rfl) T.n_list (by decide +kernel) (a_cons (c_var 1) a_nil))) (ss_cons (s_setLc (i := 4) (own := [("_law_k", 5)]) (gown := [5]) rfl Sc.nd rfl rfl (sw_true rfl rfl rfl (by decide +kernel)) (i_range1 (by rfl) T.n_range (a_cons (c_var 2) a_nil)) (blkOk_by (N := ["_law_pen_here", "_law_names_here", "_law_many", "_law_left", "_law_found", "_law_k"]) (sc := defScope s_wsome) (by decide +kernel)) (fun _ _ _ _ _ => (g_name (i := 5) Sc.nd rfl (by first | exact .inl rfl | exact .inr rfl))) (by decide) (fun _ _ _ _ _ => ts_nil) (fun _ _ _ _ _ => (c_m m_popAt (c_var 3) (a_cons (c_fn hr (ok_wtake T B) (by decide) (a_cons (c_var 0) (a_cons (c_callB b_len (by rfl) T.n_len (by decide +kernel) (a_cons (c_var 3) a_nil)) a_nil))) a_nil)))) (ss_one (s_ret (c_callB (b_sortedA hr) (by rfl) T.n_sorted (by decide +kernel) (a_cons (c_var 4) a_nil))))))
theorem ok_wrow_of (T : Txt w K mg) (B : Tbs base mg) : Okf P w K mg base 3 "_law_row_of" 5 m_wrow_of := by
  have Sc := sc_wrow_of
  refine okf_of (b := b_wrow_of) T.f_wrow_of Sc (fun ds S Q => by rw [q_m_wrow_of]; rfl) fun f cdv A outer s H E hr => ?_
  have hu := hu_of hr.toRoom
  exact (ss_cons (s_asg (c_var 4) (g_tupL rfl (gs_cons (g_name (i := 10) Sc.nd rfl (by first | exact .inl rfl | exact .inr rfl)) (gs_cons (g_name (i := 11) Sc.nd rfl (by first | exact .inl rfl | exact .inr rfl)) (gs_cons (g_name (i := 12) Sc.nd rfl (by first | exact .inl rfl | exact .inr rfl)) gs_nil))))) (ss_cons (s_set (i := 5) Sc.nd rfl (by first | exact .inl rfl | exact .inr rfl) (c_ix hu (c_var 11) (c_fn hr (ok_wtake T B) (by decide) (a_cons (c_var 0) (a_cons (c_callB b_len (by rfl) T.n_len (by decide +kernel) (a_cons (c_var 11) a_nil)) a_nil))))) (ss_cons (s_set (i := 6) Sc.nd rfl (by first | exact .inl rfl | exact .inr rfl) (c_fn hr (ok_wtake T B) (by decide) (a_cons (c_var 0) (a_cons (c_callB b_len (by rfl) T.n_len (by decide +kernel) (a_cons (c_var 12) a_nil)) a_nil)))) (ss_cons (s_set (i := 7) Sc.nd rfl (by first | exact .inl rfl | exact .inr rfl) (c_ix hu (c_var 12) (c_var 6))) (ss_cons (s_set (i := 8) Sc.nd rfl (by first | exact .inl rfl | exact .inr rfl) (c_ix hu (c_var 10) (c_fn hr (ok_wtake T B) (by decide) (a_cons (c_var 0) (a_cons (c_callB b_len (by rfl) T.n_len (by decide +kernel) (a_cons (c_var 10) a_nil)) a_nil))))) (ss_cons (s_if (k_cmp (o_in hu) (c_var 1) (c_tup (a_cons c_str (a_cons c_str a_nil))) (by with_unfolding_all rfl)) (ss_cons (s_set (i := 13) Sc.nd rfl (by first | exact .inl rfl | exact .inr rfl) (c_fn hr (ok_wsome T B) (by decide) (a_cons (c_var 0) (a_cons (c_var 11) (a_cons (c_ix hu (c_lst (a_cons c_int (a_cons c_int (a_cons (c_add c_int (c_fn hr (ok_wtake T B) (by decide) (a_cons (c_var 0) (a_cons c_int a_nil)))) a_nil)))) (c_fn hr (ok_wtake T B) (by decide) (a_cons (c_var 0) (a_cons c_int a_nil)))) a_nil))))) (ss_cons (s_if (k_cmp (o_eq hr.units) (c_var 1) c_str (nomark _)) (ss_one (s_ret (c_tup (a_cons (c_var 1) (a_cons (c_var 2) (a_cons (c_var 3) (a_cons (c_callTy y_tuple (by rfl) T.n_tuple (by decide +kernel) (a_cons (c_var 13) a_nil)) (a_cons (c_var 5) a_nil)))))))) ss_nil) (ss_cons (s_setLc (i := 14) (own := [("_law_one", 15)]) (gown := [15]) rfl Sc.nd rfl rfl (sw_true rfl rfl rfl (by decide +kernel)) (i_seq (c_var 13)) (blkOk_by (N := ["_law_pen_here", "_law_word", "_law_name", "_law_day", "_law_sorts_here", "_law_land", "_law_at", "_law_house", "_law_field", "_law_inch", "_law_fields", "_law_plots", "_law_houses", "_law_some_here", "_law_parts", "_law_one"]) (sc := defScope s_wrow_of) (by decide +kernel)) (fun _ _ _ _ _ => (g_name (i := 15) Sc.nd rfl (by first | exact .inl rfl | exact .inr rfl))) (by decide) (fun _ _ _ _ _ => ts_nil) (fun _ _ _ _ _ => (c_tup (a_cons (c_var 15) (a_cons (c_ix hu (c_var 12) (c_fn hr (ok_wtake T B) (by decide) (a_cons (c_var 0) (a_cons (c_callB b_len (by rfl) T.n_len (by decide +kernel) (a_cons (c_var 12) a_nil)) a_nil)))) (a_cons (c_fn hr (ok_wnumber T B) (by decide) (a_cons (c_var 0) (a_cons c_int (a_cons (c_pow c_int c_int) a_nil)))) a_nil)))))) (ss_one (s_ret (c_tup (a_cons (c_var 1) (a_cons (c_var 2) (a_cons (c_var 3) (a_cons (c_var 5) (a_cons (c_callTy y_tuple (by rfl) T.n_tuple (by decide +kernel) (a_cons (c_var 14) a_nil)) a_nil))))))))))) ss_nil) (ss_cons (s_if (k_cmp (o_eq hr.units) (c_var 1) c_str (nomark _)) (ss_one (s_ret (c_tup (a_cons (c_var 1) (a_cons (c_var 2) (a_cons (c_var 3) (a_cons (c_var 5) (a_cons (c_var 7) a_nil)))))))) ss_nil) (ss_cons (s_if (k_cmp (o_eq hr.units) (c_var 1) c_str (nomark _)) (ss_one (s_ret (c_tup (a_cons (c_var 1) (a_cons (c_var 2) (a_cons (c_var 3) (a_cons (c_var 8) (a_cons (c_fn hr (ok_wnumber T B) (by decide) (a_cons (c_var 0) (a_cons c_int (a_cons (c_pow c_int c_int) a_nil)))) a_nil)))))))) ss_nil) (ss_cons (s_if (k_cmp (o_eq hr.units) (c_var 1) c_str (nomark _)) (ss_one (s_ret (c_tup (a_cons (c_var 1) (a_cons (c_var 2) (a_cons (c_var 3) (a_cons (c_var 7) (a_cons (c_ix hu (c_var 12) (c_mod (c_add (c_add (c_var 6) c_int) (c_fn hr (ok_wtake T B) (by decide) (a_cons (c_var 0) (a_cons (c_sub (c_callB b_len (by rfl) T.n_len (by decide +kernel) (a_cons (c_var 12) a_nil)) c_int) a_nil)))) (c_callB b_len (by rfl) T.n_len (by decide +kernel) (a_cons (c_var 12) a_nil)))) a_nil)))))))) ss_nil) (ss_cons (s_if (k_cmp (o_eq hr.units) (c_var 1) c_str (nomark _)) (ss_one (s_ret (c_tup (a_cons (c_var 1) (a_cons (c_var 2) (a_cons (c_var 3) (a_cons (c_var 7) a_nil))))))) ss_nil) (ss_cons (s_set (i := 9) Sc.nd rfl (by first | exact .inl rfl | exact .inr rfl) (c_fn hr (ok_wnumber T B) (by decide) (a_cons (c_var 0) (a_cons c_int (a_cons (c_sub (c_pow c_int c_int) c_int) a_nil))))) (ss_cons (s_if (k_cmp (o_eq hr.units) (c_var 1) c_str (nomark _)) (ss_one (s_ret (c_tup (a_cons (c_var 1) (a_cons (c_var 2) (a_cons (c_var 3) (a_cons (c_var 8) (a_cons (c_var 9) (a_cons (c_var 7) a_nil))))))))) ss_nil) (ss_one (s_ret (c_tup (a_cons (c_var 1) (a_cons (c_var 2) (a_cons (c_var 3) (a_cons (c_var 8) (a_cons (c_var 9) (a_cons (c_fn hr (ok_wnumber T B) (by decide) (a_cons (c_var 0) (a_cons c_int (a_cons (c_pow c_int c_int) a_nil)))) (a_cons (c_fn hr (ok_wnumber T B) (by decide) (a_cons (c_var 0) (a_cons c_int (a_cons (c_pow c_int c_int) a_nil)))) a_nil))))))))))))))))))))))
theorem ok_wrow (T : Txt w K mg) (B : Tbs base mg) : Okf P w K mg base 4 "_law_row" 4 m_wrow := by
  have Sc := sc_wrow
  refine okf_of (b := b_wrow) T.f_wrow Sc (fun ds S Q => by rw [q_m_wrow]; rfl) fun f cdv A outer s H E hr => ?_
  have hu := hu_of hr.toRoom
  exact (ss_cons (s_set (i := 4) Sc.nd rfl (by first | exact .inl rfl | exact .inr rfl) (c_lst (a_cons c_str (a_cons c_str (a_cons c_str (a_cons c_str (a_cons c_str (a_cons c_str (a_cons c_str (a_cons c_str (a_cons c_str (a_cons c_str a_nil)))))))))))) (ss_one (s_ret (c_fn hr (ok_wrow_of T B) (by decide) (a_cons (c_var 0) (a_cons (c_ix hu (c_var 4) (c_fn hr (ok_wtake T B) (by decide) (a_cons (c_var 0) (a_cons c_int a_nil)))) (a_cons (c_var 1) (a_cons (c_var 2) (a_cons (c_var 3) a_nil)))))))))
theorem ok_wmend_row (T : Txt w K mg) (B : Tbs base mg) : Okf P w K mg base 2 "_law_mend_row" 5 m_wmend_row := by
  have Sc := sc_wmend_row
  refine okf_of (b := b_wmend_row) T.f_wmend_row Sc (fun ds S Q => by rw [q_m_wmend_row]; rfl) fun f cdv A outer s H E hr => ?_
  have hu := hu_of hr.toRoom
  exact (ss_cons (s_set (i := 5) Sc.nd rfl (by first | exact .inl rfl | exact .inr rfl) (c_fn hr (ok_wtake T B) (by decide) (a_cons (c_var 0) (a_cons (c_callB b_len (by rfl) T.n_len (by decide +kernel) (a_cons (c_var 3) a_nil)) a_nil)))) (ss_cons (s_set (i := 6) Sc.nd rfl (by first | exact .inl rfl | exact .inr rfl) (c_ix hu (c_var 3) (c_var 5))) (ss_cons (s_set (i := 7) Sc.nd rfl (by first | exact .inl rfl | exact .inr rfl) (c_ix hu (c_var 3) (c_mod (c_add (c_add (c_var 5) c_int) (c_fn hr (ok_wtake T B) (by decide) (a_cons (c_var 0) (a_cons (c_sub (c_callB b_len (by rfl) T.n_len (by decide +kernel) (a_cons (c_var 3) a_nil)) c_int) a_nil)))) (c_callB b_len (by rfl) T.n_len (by decide +kernel) (a_cons (c_var 3) a_nil))))) (ss_cons (s_set (i := 8) Sc.nd rfl (by first | exact .inl rfl | exact .inr rfl) (c_fn hr (ok_wtake T B) (by decide) (a_cons (c_var 0) (a_cons c_int a_nil)))) (ss_cons (s_if (k_cmp (o_eq hr.units) (c_var 8) c_int (nomark _)) (ss_one (s_ret (c_tup (a_cons c_str (a_cons (c_var 1) (a_cons (c_var 2) (a_cons (c_var 6) a_nil))))))) ss_nil) (ss_cons (s_if (k_w (w_and (k_cmp (o_lt2 hr.units) (c_var 8) c_int (nomark _)) (w_and (k_cmp (o_ne hr.units) (c_var 4) (c_lst a_nil) (nomark _)) (w_and (k_cmp (o_eq hr.units) (c_ix hu (c_ix hu (c_var 4) (c_neg c_int)) c_int) c_str (nomark _)) (w_and1 (k_cmp (o_ne hr.units) (c_ix hu (c_ix hu (c_var 4) (c_neg c_int)) c_int) (c_var 7) (nomark _))))))) (ss_one (s_ret (c_tup (a_cons c_str (a_cons (c_var 1) (a_cons (c_var 2) (a_cons (c_ix hu (c_ix hu (c_var 4) (c_neg c_int)) c_int) (a_cons (c_var 7) a_nil)))))))) ss_nil) (ss_cons (s_if (k_w (w_and (k_cmp (o_eq hr.units) (c_var 8) c_int (nomark _)) (w_and (k_cmp (o_ne hr.units) (c_var 4) (c_lst a_nil) (nomark _)) (w_and1 (k_cmp (o_ne hr.units) (c_ix hu (c_ix hu (c_var 4) (c_neg c_int)) c_int) (c_var 6) (nomark _)))))) (ss_one (s_ret (c_tup (a_cons c_str (a_cons (c_var 1) (a_cons (c_var 2) (a_cons (c_var 6) (a_cons (c_ix hu (c_ix hu (c_var 4) (c_neg c_int)) c_int) a_nil)))))))) ss_nil) (ss_cons (s_if (k_w (w_and (k_cmp (o_eq hr.units) (c_var 8) c_int (nomark _)) (w_and1 (k_cmp (o_ne hr.units) (c_var 4) (c_lst a_nil) (nomark _))))) (ss_one (s_ret (c_add (c_add (c_sl (c_ix hu (c_var 4) (c_neg c_int)) p_none (p_some c_int)) (c_tup (a_cons (c_var 1) (a_cons (c_var 2) a_nil)))) (c_sl (c_ix hu (c_var 4) (c_neg c_int)) (p_some c_int) p_none)))) ss_nil) (ss_one (s_ret (c_tup (a_cons c_str (a_cons (c_var 1) (a_cons (c_var 2) (a_cons (c_var 6) (a_cons (c_var 7) a_nil))))))))))))))))
theorem ok_wplace (T : Txt w K mg) (B : Tbs base mg) : Okf P w K mg base 1 "_law_place" 1 m_wplace := by
  have Sc := sc_wplace
  refine okf_of (b := b_wplace) T.f_wplace Sc (fun ds S Q => by rw [q_m_wplace]; rfl) fun f cdv A outer s H E hr => ?_
  have hu := hu_of hr.toRoom
  exact (ss_cons (s_set (i := 1) Sc.nd rfl (by first | exact .inl rfl | exact .inr rfl) (c_dict (ps_cons0 c_str c_int (ps_cons0 c_str c_int (ps_cons0 c_str c_int (ps_cons0 c_str c_int (ps_cons0 c_str c_int ps_nil0))))) (by rfl) (by rfl) (fun z => by cases z) (by decide))) (ss_one (s_ret (c_tup (a_cons (c_ix hu (c_var 0) c_int) (a_cons (c_get2 hu (c_var 1) (c_ix hu (c_var 0) c_int) c_int) (a_cons (c_ix hu (c_var 0) c_int) a_nil)))))))
theorem ok_wsome_rows (T : Txt w K mg) (B : Tbs base mg) : Okf P w K mg base 5 "_law_some_rows" 4 m_wsome_rows := by
  have Sc := sc_wsome_rows
  refine okf_of (b := b_wsome_rows) T.f_wsome_rows Sc (fun ds S Q => by rw [q_m_wsome_rows]; rfl) fun f cdv A outer s H E hr => ?_
  have hu := hu_of hr.toRoom
  exact (ss_cons (s_set (i := 4) Sc.nd rfl (by first | exact .inl rfl | exact .inr rfl) (c_fn hr (ok_wtake T B) (by decide) (a_cons (c_var 0) (a_cons c_int a_nil)))) (ss_cons (s_set (i := 5) Sc.nd rfl (by first | exact .inl rfl | exact .inr rfl) (c_fn hr (ok_wdays T B) (by decide) (a_cons (c_var 0) (a_cons (c_var 3) a_nil)))) (ss_cons (s_set (i := 6) Sc.nd rfl (by first | exact .inl rfl | exact .inr rfl) (c_lst a_nil)) (ss_cons (s_set (i := 7) Sc.nd rfl (by first | exact .inl rfl | exact .inr rfl) (c_lst a_nil)) (ss_cons (s_for PassesOwn.never rfl (i_range1 (by rfl) T.n_range (a_cons (c_var 3) a_nil)) (g_name (i := 8) Sc.nd rfl (by first | exact .inl rfl | exact .inr rfl)) (ss_cons (s_set (i := 9) Sc.nd rfl (by first | exact .inl rfl | exact .inr rfl) (c_ix hu (c_lst (a_cons (c_ix hu (c_var 5) (c_var 8)) (a_cons (c_var 8) (a_cons (c_add (c_sub c_int (c_var 3)) (c_var 8)) a_nil)))) (c_var 4))) (ss_one (s_if (k_cmp (o_eq hr.units) (c_fn hr (ok_wtake T B) (by decide) (a_cons (c_var 0) (a_cons c_int a_nil))) c_int (nomark _)) (ss_one (s_expr (c_m m_append (c_var 6) (a_cons (c_fn hr (ok_wrow T B) (by decide) (a_cons (c_var 0) (a_cons (c_ix hu (c_var 1) (c_var 8)) (a_cons (c_var 9) (a_cons (c_var 2) a_nil))))) a_nil)))) (ss_cons (s_expr (c_m m_append (c_var 7) (a_cons (c_fn hr (ok_wmend_row T B) (by decide) (a_cons (c_var 0) (a_cons (c_ix hu (c_var 1) (c_var 8)) (a_cons (c_var 9) (a_cons (c_ix hu (c_var 2) c_int) (a_cons (c_var 7) a_nil)))))) a_nil))) (ss_one (s_expr (c_m m_append (c_var 6) (a_cons (c_ix hu (c_var 7) (c_neg c_int)) a_nil))))))))) (ss_one (s_ret (c_callTy y_tupleN (by rfl) T.n_tuple (by decide +kernel) (a_cons (c_sortKey hr (ok_wplace T B) (by decide) T.n_sorted (c_var 6)) a_nil)))))))))
theorem ok_wworld (T : Txt w K mg) (B : Tbs base mg) : Okf P w K mg base 6 "_law_world" 1 m_wworld := by
  have Sc := sc_wworld
  refine okf_of (b := b_wworld) T.f_wworld Sc (fun ds S Q => by rw [q_m_wworld]; rfl) fun f cdv A outer s H E hr => ?_
  have hu := hu_of hr.toRoom
  exact (ss_cons (s_asg (c_fn hr (ok_wsorts T B) (by decide) (a_cons (c_var 0) (a_cons (c_add c_int (c_fn hr (ok_wtake T B) (by decide) (a_cons (c_var 0) (a_cons c_int a_nil)))) (a_cons c_int a_nil)))) (g_tupL rfl (gs_cons (g_name (i := 3) Sc.nd rfl (by first | exact .inl rfl | exact .inr rfl)) (gs_cons (g_name (i := 4) Sc.nd rfl (by first | exact .inl rfl | exact .inr rfl)) (gs_cons (g_name (i := 5) Sc.nd rfl (by first | exact .inl rfl | exact .inr rfl)) (gs_cons (g_name (i := 6) Sc.nd rfl (by first | exact .inl rfl | exact .inr rfl)) gs_nil)))))) (ss_cons (s_if (k_cmp (o_eq hr.units) (c_fn hr (ok_wtake T B) (by decide) (a_cons (c_var 0) (a_cons c_int a_nil))) c_int (nomark _)) (ss_one (s_set (i := 5) Sc.nd rfl (by first | exact .inl rfl | exact .inr rfl) (c_fn hr (ok_wnames T B) (by decide) (a_cons (c_var 0) (a_cons (c_add c_int (c_fn hr (ok_wtake T B) (by decide) (a_cons (c_var 0) (a_cons c_int a_nil)))) a_nil))))) ss_nil) (ss_cons (s_set (i := 1) Sc.nd rfl (by first | exact .inl rfl | exact .inr rfl) (c_ix hu (c_lst (a_cons c_int (a_cons (c_fn hr (ok_wtake T B) (by decide) (a_cons (c_var 0) (a_cons c_int a_nil))) (a_cons (c_fn hr (ok_wtake T B) (by decide) (a_cons (c_var 0) (a_cons c_int a_nil))) a_nil)))) (c_fn hr (ok_wtake T B) (by decide) (a_cons (c_var 0) (a_cons c_int a_nil))))) (ss_cons (s_set (i := 2) Sc.nd rfl (by first | exact .inl rfl | exact .inr rfl) (c_fn hr (ok_wlaying T B) (by decide) (a_cons (c_var 0) (a_cons (c_var 3) (a_cons (c_var 5) a_nil))))) (ss_one (s_ret (c_tup (a_cons (c_tup (a_cons (c_var 2) (a_cons (c_fn hr (ok_wsome_rows T B) (by decide) (a_cons (c_var 0) (a_cons (c_var 6) (a_cons (c_tup (a_cons (c_var 3) (a_cons (c_var 4) (a_cons (c_var 5) a_nil)))) (a_cons (c_var 1) a_nil))))) a_nil))) (a_cons (c_var 5) a_nil)))))))))
theorem ok_wroad (T : Txt w K mg) (B : Tbs base mg) : Okf P w K mg base 1 "_law_road" 2 m_wroad := by
  have Sc := sc_wroad
  refine okf_of (b := b_wroad) T.f_wroad Sc (fun ds S Q => by rw [q_m_wroad]; rfl) fun f cdv A outer s H E hr => ?_
  have hu := hu_of hr.toRoom
  exact (ss_cons (s_set (i := 2) Sc.nd rfl (by first | exact .inl rfl | exact .inr rfl) (c_lst (a_cons (c_var 1) a_nil))) (ss_cons (s_while PassesOwn.never (k_cmp (o_in hu) (c_ix hu (c_var 2) (c_neg c_int)) (c_var 0) (by with_unfolding_all rfl)) (ss_one (s_expr (c_m m_append (c_var 2) (a_cons (c_ix hu (c_var 0) (c_ix hu (c_var 2) (c_neg c_int))) a_nil))))) (ss_one (s_ret (c_var 2)))))
theorem ok_wmenders (T : Txt w K mg) (B : Tbs base mg) : Okf P w K mg base 2 "_law_menders" 1 m_wmenders := by
  have Sc := sc_wmenders
  refine okf_of (b := b_wmenders) T.f_wmenders Sc (fun ds S Q => by rw [q_m_wmenders]; rfl) fun f cdv A outer s H E hr => ?_
  have hu := hu_of hr.toRoom
  exact (ss_cons (s_set (i := 1) Sc.nd rfl (by first | exact .inl rfl | exact .inr rfl) c_dict0) (ss_cons (s_for PassesOwn.never rfl (i_seq (c_var 0)) (g_name (i := 2) Sc.nd rfl (by first | exact .inl rfl | exact .inr rfl)) (ss_cons (s_if (k_w (w_and (k_cmp (o_eq hr.units) (c_ix hu (c_var 2) c_int) c_str (nomark _)) (w_and1 (k_cmp (o_notIn hu) (c_ix hu (c_var 2) c_int) (c_fn hr (ok_wroad T B) (by decide) (a_cons (c_var 1) (a_cons (c_ix hu (c_var 2) c_int) a_nil))) (by with_unfolding_all rfl))))) (ss_one (s_sub hu (c_ix hu (c_var 2) c_int) (c_var 1) (c_ix hu (c_var 2) c_int))) ss_nil) (ss_one (s_if (k_w (w_and (k_cmp (o_eq hr.units) (c_ix hu (c_var 2) c_int) c_str (nomark _)) (w_and1 (k_cmp (o_in hu) (c_ix hu (c_var 2) c_int) (c_var 1) (by with_unfolding_all rfl))))) (ss_one (s_expr (c_m m_popK (c_var 1) (a_cons (c_ix hu (c_var 2) c_int) a_nil)))) ss_nil)))) (ss_one (s_ret (c_var 1)))))
theorem ok_wring (T : Txt w K mg) (B : Tbs base mg) : Okf P w K mg base 3 "_law_ring" 2 m_wring := by
  have Sc := sc_wring
  refine okf_of (b := b_wring) T.f_wring Sc (fun ds S Q => by rw [q_m_wring]; rfl) fun f cdv A outer s H E hr => ?_
  have hu := hu_of hr.toRoom
  exact (ss_cons (s_set (i := 2) Sc.nd rfl (by first | exact .inl rfl | exact .inr rfl) (c_ix hu (c_var 0) (c_var 1))) (ss_cons (s_set (i := 3) Sc.nd rfl (by first | exact .inl rfl | exact .inr rfl) (c_fn hr (ok_wroad T B) (by decide) (a_cons (c_fn hr (ok_wmenders T B) (by decide) (a_cons (c_sl (c_var 0) p_none (p_some (c_var 1))) a_nil)) (a_cons (c_ix hu (c_var 2) c_int) a_nil)))) (ss_cons (s_if (k_cmp (o_notIn hu) (c_ix hu (c_var 2) c_int) (c_var 3) (by with_unfolding_all rfl)) (ss_one (s_ret c_non)) ss_nil) (ss_one (s_ret (c_add (c_lst (a_cons (c_ix hu (c_var 2) c_int) a_nil)) (c_sl (c_var 3) p_none (p_some (c_add (c_m m_index (c_var 3) (a_cons (c_ix hu (c_var 2) c_int) a_nil)) c_int)))))))))
theorem ok_row_called (T : Txt w K mg) (B : Tbs base mg) : OkfX P w K mg base 1 "row_called" 2 m_row_called := by
  have Sc := sc_row_called
  refine okfX_of (b := b_row_called) T.f_row_called Sc (fun ds S Q E => by rw [q_m_row_called]; rfl) fun f cdv A outer s H E hr => ?_
  have hu := hu_of hr.toRoom
  exact (ssx_cons (sx_of (s_for (passes_of rfl) rfl (i_seq (c_ix hu (c_var 0) c_int)) (g_name (i := 2) Sc.nd rfl (by first | exact .inl rfl | exact .inr rfl)) (ss_one (s_if (k_cmp (o_eqX hr.units) (c_ix hu (c_var 2) c_int) (c_var 1) (nomark _)) (ss_one (s_ret (c_var 2))) ss_nil)))) (ssx_one (sx_raise rfl T.e_NoName)))
theorem ok_road_by (T : Txt w K mg) (B : Tbs base mg) : Okf P w K mg base 1 "road_by" 2 m_road_by := by
  have Sc := sc_road_by
  refine okf_of (b := b_road_by) T.f_road_by Sc (fun ds S Q => by rw [q_m_road_by]; rfl) fun f cdv A outer s H E hr => ?_
  have hu := hu_of hr.toRoom
  exact (ss_cons (s_set (i := 2) Sc.nd rfl (by first | exact .inl rfl | exact .inr rfl) (c_lst (a_cons (c_var 1) a_nil))) (ss_cons (s_while PassesOwn.never (k_cmp (o_in hu) (c_ix hu (c_var 2) (c_neg c_int)) (c_var 0) (by with_unfolding_all rfl)) (ss_one (s_expr (c_m m_append (c_var 2) (a_cons (c_ix hu (c_var 0) (c_ix hu (c_var 2) (c_neg c_int))) a_nil))))) (ss_one (s_ret (c_var 2)))))
theorem ok_begun (T : Txt w K mg) (B : Tbs base mg) : Okf P w K mg base 1 "begun" 1 m_begun := by
  have Sc := sc_begun
  refine okf_of (b := b_begun) T.f_begun Sc (fun ds S Q => by rw [q_m_begun]; rfl) fun f cdv A outer s H E hr => ?_
  have hu := hu_of hr.toRoom
  exact (ss_cons (s_set (i := 1) Sc.nd rfl (by first | exact .inl rfl | exact .inr rfl) (c_dict (ps_cons0 c_str c_dict0 (ps_cons0 c_str c_dict0 (ps_cons0 c_str c_dict0 (ps_cons0 c_str (c_lc (own := [("row", 6)]) (gown := [6]) rfl Sc.nd (i_seq (c_var 0)) (blkOk_by (N := ["laying", "state", "field", "house", "acres", "inches", "row"]) (sc := defScope s_begun) (by decide +kernel)) (fun _ _ _ _ _ => (g_name (i := 6) Sc.nd rfl (by first | exact .inl rfl | exact .inr rfl))) (by decide) (fun _ _ _ _ _ => ts_nil) (fun _ _ _ _ _ => (c_ix hu (c_var 6) c_int))) ps_nil0)))) (by rfl) (by rfl) (fun z => by cases z) (by decide))) (ss_cons (s_for PassesOwn.never rfl (i_seq (c_var 0)) (g_tupL rfl (gs_cons (g_name (i := 2) Sc.nd rfl (by first | exact .inl rfl | exact .inr rfl)) (gs_cons (g_name (i := 3) Sc.nd rfl (by first | exact .inl rfl | exact .inr rfl)) (gs_cons (g_name (i := 4) Sc.nd rfl (by first | exact .inl rfl | exact .inr rfl)) (gs_cons (g_name (i := 5) Sc.nd rfl (by first | exact .inl rfl | exact .inr rfl)) gs_nil))))) (ss_cons (s_sub hu (c_tup (a_cons (c_var 3) (a_cons (c_tup (a_cons (c_tup (a_cons (c_var 2) (a_cons c_int (a_cons (c_var 4) a_nil)))) a_nil)) a_nil))) (c_ix hu (c_var 1) c_str) (c_var 2)) (ss_one (s_sub hu (c_var 5) (c_ix hu (c_var 1) c_str) (c_var 2))))) (ss_one (s_ret (c_var 1)))))
theorem ok_acres_in (T : Txt w K mg) (B : Tbs base mg) : Okf P w K mg base 1 "acres_in" 1 m_acres_in := by
  have Sc := sc_acres_in
  refine okf_of (b := b_acres_in) T.f_acres_in Sc (fun ds S Q => by rw [q_m_acres_in]; rfl) fun f cdv A outer s H E hr => ?_
  have hu := hu_of hr.toRoom
  exact (ss_one (s_ret (c_callB (b_sum rfl) (by rfl) T.n_sum (by decide +kernel) (a_cons (c_lc (own := [("field", 1), ("low", 2), ("high", 3)]) (gown := [1, 2, 3]) rfl Sc.nd (i_seq (c_var 0)) (blkOk_by (N := ["pieces", "field", "low", "high"]) (sc := defScope s_acres_in) (by decide +kernel)) (fun _ _ _ _ _ => (g_tupL rfl (gs_cons (g_name (i := 1) Sc.nd rfl (by first | exact .inl rfl | exact .inr rfl)) (gs_cons (g_name (i := 2) Sc.nd rfl (by first | exact .inl rfl | exact .inr rfl)) (gs_cons (g_name (i := 3) Sc.nd rfl (by first | exact .inl rfl | exact .inr rfl)) gs_nil))))) (by decide) (fun _ _ _ _ _ => ts_nil) (fun _ _ _ _ _ => (c_sub (c_var 3) (c_var 2)))) a_nil))))
theorem ok_part_word (T : Txt w K mg) (B : Tbs base mg) : Okf P w K mg base 2 "part_word" 2 m_part_word := by
  have Sc := sc_part_word
  refine okf_of (b := b_part_word) T.f_part_word Sc (fun ds S Q => by rw [q_m_part_word]; rfl) fun f cdv A outer s H E hr => ?_
  have hu := hu_of hr.toRoom
  exact (ss_cons (s_if (k_cmp (o_notIn hu) (c_ix hu (c_var 1) c_int) (c_var 0) (by with_unfolding_all rfl)) (ss_one (s_ret c_str)) ss_nil) (ss_cons (s_if (k_cmp (o_ne hr.units) (c_fn hr (ok_acres_in T B) (by decide) (a_cons (c_ix hu (c_ix hu (c_var 0) (c_ix hu (c_var 1) c_int)) c_int) a_nil)) (c_callB (b_sum rfl) (by rfl) T.n_sum (by decide +kernel) (a_cons (c_lc (own := [("part", 2)]) (gown := [2]) rfl Sc.nd (i_seq (c_ix hu (c_var 1) c_int)) (blkOk_by (N := ["lands", "row", "part"]) (sc := defScope s_part_word) (by decide +kernel)) (fun _ _ _ _ _ => (g_name (i := 2) Sc.nd rfl (by first | exact .inl rfl | exact .inr rfl))) (by decide) (fun _ _ _ _ _ => ts_nil) (fun _ _ _ _ _ => (c_ix hu (c_var 2) c_int))) a_nil)) (nomark _)) (ss_one (s_ret c_str)) ss_nil) (ss_cons (s_if (k_tru (c_callB (b_any rfl) (by rfl) T.n_any (by decide +kernel) (a_cons (c_lc (own := [("part", 2)]) (gown := [2]) rfl Sc.nd (i_seq (c_ix hu (c_var 1) c_int)) (blkOk_by (N := ["lands", "row", "part"]) (sc := defScope s_part_word) (by decide +kernel)) (fun _ _ _ _ _ => (g_name (i := 2) Sc.nd rfl (by first | exact .inl rfl | exact .inr rfl))) (by decide) (fun _ _ _ _ _ => ts_nil) (fun _ _ _ _ _ => (c_and (c_cmp (o_in hu) (c_ix hu (c_var 2) c_int) (c_var 0) (by with_unfolding_all rfl)) (c_one (c_cmp (o_ne hr.units) (c_ix hu (c_var 2) c_int) (c_ix hu (c_var 1) c_int) (nomark _)))))) a_nil))) (ss_one (s_ret c_str)) ss_nil) (ss_one (s_ret c_str)))))
theorem ok_join_word (T : Txt w K mg) (B : Tbs base mg) : Okf P w K mg base 1 "join_word" 2 m_join_word := by
  have Sc := sc_join_word
  refine okf_of (b := b_join_word) T.f_join_word Sc (fun ds S Q => by rw [q_m_join_word]; rfl) fun f cdv A outer s H E hr => ?_
  have hu := hu_of hr.toRoom
  exact (ss_cons (s_if (k_not (k_tru (c_callB (b_all rfl) (by rfl) T.n_all (by decide +kernel) (a_cons (c_lc (own := [("land", 2)]) (gown := [2]) rfl Sc.nd (i_seq (c_ix hu (c_var 1) c_int)) (blkOk_by (N := ["lands", "row", "land"]) (sc := defScope s_join_word) (by decide +kernel)) (fun _ _ _ _ _ => (g_name (i := 2) Sc.nd rfl (by first | exact .inl rfl | exact .inr rfl))) (by decide) (fun _ _ _ _ _ => ts_nil) (fun _ _ _ _ _ => (c_cmp (o_in hu) (c_var 2) (c_var 0) (by with_unfolding_all rfl)))) a_nil)))) (ss_one (s_ret c_str)) ss_nil) (ss_cons (s_if (k_cmp o_gt (c_lenSet hr T.n_len T.n_set (c_lc (own := [("land", 2)]) (gown := [2]) rfl Sc.nd (i_seq (c_ix hu (c_var 1) c_int)) (blkOk_by (N := ["lands", "row", "land"]) (sc := defScope s_join_word) (by decide +kernel)) (fun _ _ _ _ _ => (g_name (i := 2) Sc.nd rfl (by first | exact .inl rfl | exact .inr rfl))) (by decide) (fun _ _ _ _ _ => ts_nil) (fun _ _ _ _ _ => (c_ix hu (c_ix hu (c_var 0) (c_var 2)) c_int)))) c_int (nomark _)) (ss_one (s_ret c_str)) ss_nil) (ss_cons (s_if (k_w (w_and (k_cmp (o_in hu) (c_ix hu (c_var 1) c_int) (c_var 0) (by with_unfolding_all rfl)) (w_and1 (k_cmp (o_notIn hu) (c_ix hu (c_var 1) c_int) (c_ix hu (c_var 1) c_int) (by with_unfolding_all rfl))))) (ss_one (s_ret c_str)) ss_nil) (ss_one (s_ret c_str)))))
theorem ok_forfeit_word (T : Txt w K mg) (B : Tbs base mg) : Okf P w K mg base 1 "forfeit_word" 2 m_forfeit_word := by
  have Sc := sc_forfeit_word
  refine okf_of (b := b_forfeit_word) T.f_forfeit_word Sc (fun ds S Q => by rw [q_m_forfeit_word]; rfl) fun f cdv A outer s H E hr => ?_
  have hu := hu_of hr.toRoom
  exact (ss_cons (s_if (k_cmp (o_notIn hu) (c_ix hu (c_var 1) c_int) (c_var 0) (by with_unfolding_all rfl)) (ss_one (s_ret c_str)) ss_nil) (ss_cons (s_if (k_cmp (o_eq hr.units) (c_ix hu (c_ix hu (c_var 0) (c_ix hu (c_var 1) c_int)) c_int) (c_ix hu (c_var 1) c_int) (nomark _)) (ss_one (s_ret c_str)) ss_nil) (ss_one (s_ret c_str))))
theorem ok_word_of (T : Txt w K mg) (B : Tbs base mg) : Okf P w K mg base 3 "word_of" 2 m_word_of := by
  have Sc := sc_word_of
  refine okf_of (b := b_word_of) T.f_word_of Sc (fun ds S Q => by rw [q_m_word_of]; rfl) fun f cdv A outer s H E hr => ?_
  have hu := hu_of hr.toRoom
  exact (ss_cons (s_if (k_cmp (o_eq hr.units) (c_ix hu (c_var 1) c_int) c_str (nomark _)) (ss_one (s_ret (c_fn hr (ok_part_word T B) (by decide) (a_cons (c_ix hu (c_var 0) c_str) (a_cons (c_var 1) a_nil))))) ss_nil) (ss_cons (s_if (k_cmp (o_eq hr.units) (c_ix hu (c_var 1) c_int) c_str (nomark _)) (ss_one (s_ret (c_fn hr (ok_join_word T B) (by decide) (a_cons (c_ix hu (c_var 0) c_str) (a_cons (c_var 1) a_nil))))) ss_nil) (ss_cons (s_if (k_cmp (o_eq hr.units) (c_ix hu (c_var 1) c_int) c_str (nomark _)) (ss_one (s_ret (c_fn hr (ok_forfeit_word T B) (by decide) (a_cons (c_ix hu (c_var 0) c_str) (a_cons (c_var 1) a_nil))))) ss_nil) (ss_cons (s_if (k_w (w_and (k_cmp (o_eq hr.units) (c_ix hu (c_var 1) c_int) c_str (nomark _)) (w_and1 (k_cmp (o_in hu) (c_ix hu (c_var 1) c_int) (c_fn hr (ok_road_by T B) (by decide) (a_cons (c_ix hu (c_var 0) c_str) (a_cons (c_ix hu (c_var 1) c_int) a_nil))) (by with_unfolding_all rfl))))) (ss_one (s_ret c_str)) ss_nil) (ss_cons (s_if (k_w (w_and (k_cmp (o_eq hr.units) (c_ix hu (c_var 1) c_int) c_str (nomark _)) (w_and1 (k_cmp (o_notIn hu) (c_ix hu (c_var 1) c_int) (c_ix hu (c_var 0) c_str) (by with_unfolding_all rfl))))) (ss_one (s_ret c_str)) ss_nil) (ss_cons (s_if (k_w (w_and (k_cmp (o_in hu) (c_ix hu (c_var 1) c_int) (c_tup (a_cons c_str (a_cons c_str a_nil))) (by with_unfolding_all rfl)) (w_and1 (k_cmp o_ge (c_ix hu (c_var 1) c_int) (c_ix hu (c_ix hu (c_var 0) c_str) (c_ix hu (c_var 1) c_int)) (nomark _))))) (ss_one (s_ret c_str)) ss_nil) (ss_one (s_ret c_str))))))))
theorem ok_cut (T : Txt w K mg) (B : Tbs base mg) : Okf P w K mg base 1 "cut" 3 m_cut := by
  have Sc := sc_cut
  refine okf_of (b := b_cut) T.f_cut Sc (fun ds S Q => by rw [q_m_cut]; rfl) fun f cdv A outer s H E hr => ?_
  have hu := hu_of hr.toRoom
  exact (ss_cons (s_set (i := 3) Sc.nd rfl (by first | exact .inl rfl | exact .inr rfl) (c_lst a_nil)) (ss_cons (s_set (i := 4) Sc.nd rfl (by first | exact .inl rfl | exact .inr rfl) c_int) (ss_cons (s_for PassesOwn.never rfl (i_seq (c_var 0)) (g_tupL rfl (gs_cons (g_name (i := 5) Sc.nd rfl (by first | exact .inl rfl | exact .inr rfl)) (gs_cons (g_name (i := 6) Sc.nd rfl (by first | exact .inl rfl | exact .inr rfl)) (gs_cons (g_name (i := 7) Sc.nd rfl (by first | exact .inl rfl | exact .inr rfl)) gs_nil)))) (ss_cons (s_set (i := 8) Sc.nd rfl (by first | exact .inl rfl | exact .inr rfl) (c_callB (b_max2 rfl) (by rfl) T.n_max (by decide +kernel) (a_cons (c_var 6) (a_cons (c_sub (c_add (c_var 6) (c_var 1)) (c_var 4)) a_nil)))) (ss_cons (s_set (i := 9) Sc.nd rfl (by first | exact .inl rfl | exact .inr rfl) (c_callB (b_min2 rfl) (by rfl) T.n_min (by decide +kernel) (a_cons (c_var 7) (a_cons (c_sub (c_add (c_var 6) (c_var 2)) (c_var 4)) a_nil)))) (ss_cons (s_if (k_cmp (o_lt2 hr.units) (c_var 8) (c_var 9) (nomark _)) (ss_one (s_expr (c_m m_append (c_var 3) (a_cons (c_tup (a_cons (c_var 5) (a_cons (c_var 8) (a_cons (c_var 9) a_nil)))) a_nil)))) ss_nil) (ss_one (s_set (i := 4) Sc.nd rfl (by first | exact .inl rfl | exact .inr rfl) (c_sub (c_add (c_var 4) (c_var 7)) (c_var 6)))))))) (ss_one (s_ret (c_callTy y_tuple (by rfl) T.n_tuple (by decide +kernel) (a_cons (c_var 3) a_nil)))))))
theorem ok_do_part (T : Txt w K mg) (B : Tbs base mg) : Okf P w K mg base 2 "do_part" 2 m_do_part := by
  have Sc := sc_do_part
  refine okf_of (b := b_do_part) T.f_do_part Sc (fun ds S Q => by rw [q_m_do_part]; rfl) fun f cdv A outer s H E hr => ?_
  have hu := hu_of hr.toRoom
  exact (ss_cons (s_asg (c_m m_popK (c_var 0) (a_cons (c_ix hu (c_var 1) c_int) a_nil)) (g_tupL rfl (gs_cons (g_name (i := 3) Sc.nd rfl (by first | exact .inl rfl | exact .inr rfl)) (gs_cons (g_name (i := 4) Sc.nd rfl (by first | exact .inl rfl | exact .inr rfl)) gs_nil)))) (ss_cons (s_set (i := 2) Sc.nd rfl (by first | exact .inl rfl | exact .inr rfl) c_int) (ss_one (s_for PassesOwn.never rfl (i_seq (c_ix hu (c_var 1) c_int)) (g_tupL rfl (gs_cons (g_name (i := 5) Sc.nd rfl (by first | exact .inl rfl | exact .inr rfl)) (gs_cons (g_name (i := 6) Sc.nd rfl (by first | exact .inl rfl | exact .inr rfl)) (gs_cons (g_name (i := 7) Sc.nd rfl (by first | exact .inl rfl | exact .inr rfl)) gs_nil)))) (ss_cons (s_sub hu (c_tup (a_cons (c_var 6) (a_cons (c_fn hr (ok_cut T B) (by decide) (a_cons (c_var 4) (a_cons (c_var 2) (a_cons (c_add (c_var 2) (c_var 7)) a_nil)))) a_nil))) (c_var 0) (c_var 5)) (ss_one (s_set (i := 2) Sc.nd rfl (by first | exact .inl rfl | exact .inr rfl) (c_add (c_var 2) (c_var 7)))))))))
theorem ok_joined (T : Txt w K mg) (B : Tbs base mg) : Okf P w K mg base 5 "joined" 2 m_joined := by
  have Sc := sc_joined
  refine okf_ofC (b := b_joined) T.f_joined Sc (fun ds S Q => by rw [q_m_joined]; rfl) fun f A outer s H E hr => ?_
  have hu := hu_of hr.toRoom
  exact (ss_cons (s_set (i := 2) Sc.nd rfl (by first | exact .inl rfl | exact .inr rfl) (c_lst a_nil)) (ss_cons (s_for PassesOwn.never rfl (i_seq (c_sortLam (k := 1) "piece" "joined.<locals>.<lambda>" ["piece", "fields"] ["fields"] [1] (B.t_joined) rfl rfl (hr.mono' (by decide)) T.n_sorted (c_var 0) (fun _ _ _ _ _ _ _ _ hr => have hu := hu_of hr.toRoom; (c_tup (a_cons (c_m m_index (c_var 1) (a_cons (c_ix hu (c_var 0) c_int) a_nil)) (a_cons (c_ix hu (c_var 0) c_int) a_nil)))) (by decide +kernel) (show NdefX.ndefB (defScope s_joined) _ _ = true by decide +kernel) rfl rfl)) (g_tupL rfl (gs_cons (g_name (i := 3) Sc.nd rfl (by first | exact .inl rfl | exact .inr rfl)) (gs_cons (g_name (i := 4) Sc.nd rfl (by first | exact .inl rfl | exact .inr rfl)) (gs_cons (g_name (i := 5) Sc.nd rfl (by first | exact .inl rfl | exact .inr rfl)) gs_nil)))) (ss_one (s_if (k_w (w_and (k_cmp (o_ne hr.units) (c_var 2) (c_lst a_nil) (nomark _)) (w_and (k_cmp (o_eq hr.units) (c_ix hu (c_ix hu (c_var 2) (c_neg c_int)) c_int) (c_var 3) (nomark _)) (w_and1 (k_cmp (o_eq hr.units) (c_ix hu (c_ix hu (c_var 2) (c_neg c_int)) c_int) (c_var 4) (nomark _)))))) (ss_one (s_sub hu (c_tup (a_cons (c_var 3) (a_cons (c_ix hu (c_ix hu (c_var 2) (c_neg c_int)) c_int) (a_cons (c_var 5) a_nil)))) (c_var 2) (c_neg c_int))) (ss_one (s_expr (c_m m_append (c_var 2) (a_cons (c_tup (a_cons (c_var 3) (a_cons (c_var 4) (a_cons (c_var 5) a_nil)))) a_nil))))))) (ss_one (s_ret (c_callTy y_tuple (by rfl) T.n_tuple (by decide +kernel) (a_cons (c_var 2) a_nil))))))
theorem ok_do_join (T : Txt w K mg) (B : Tbs base mg) : Okf P w K mg base 6 "do_join" 3 m_do_join := by
  have Sc := sc_do_join
  refine okf_of (b := b_do_join) T.f_do_join Sc (fun ds S Q => by rw [q_m_do_join]; rfl) fun f cdv A outer s H E hr => ?_
  have hu := hu_of hr.toRoom
  exact (ss_cons (s_set (i := 3) Sc.nd rfl (by first | exact .inl rfl | exact .inr rfl) (c_lst a_nil)) (ss_cons (s_set (i := 4) Sc.nd rfl (by first | exact .inl rfl | exact .inr rfl) (c_ix hu (c_ix hu (c_var 0) (c_ix hu (c_ix hu (c_var 1) c_int) c_int)) c_int)) (ss_cons (s_for PassesOwn.never rfl (i_seq (c_ix hu (c_var 1) c_int)) (g_name (i := 5) Sc.nd rfl (by first | exact .inl rfl | exact .inr rfl)) (ss_one (s_expr (c_m m_extend (c_var 3) (a_cons (c_ix hu (c_m m_popK (c_var 0) (a_cons (c_var 5) a_nil)) c_int) a_nil))))) (ss_one (s_sub hu (c_tup (a_cons (c_var 4) (a_cons (c_fn hr (ok_joined T B) (by decide) (a_cons (c_var 3) (a_cons (c_var 2) a_nil))) a_nil))) (c_var 0) (c_ix hu (c_var 1) c_int))))))
theorem ok_do_row (T : Txt w K mg) (B : Tbs base mg) : Okf P w K mg base 7 "do_row" 2 m_do_row := by
  have Sc := sc_do_row
  refine okf_of (b := b_do_row) T.f_do_row Sc (fun ds S Q => by rw [q_m_do_row]; rfl) fun f cdv A outer s H E hr => ?_
  have hu := hu_of hr.toRoom
  exact (ss_one (s_if (k_cmp (o_eq hr.units) (c_ix hu (c_var 1) c_int) c_str (nomark _)) (ss_one (s_expr (c_fn hr (ok_do_part T B) (by decide) (a_cons (c_ix hu (c_var 0) c_str) (a_cons (c_var 1) a_nil))))) (ss_one (s_if (k_cmp (o_eq hr.units) (c_ix hu (c_var 1) c_int) c_str (nomark _)) (ss_one (s_expr (c_fn hr (ok_do_join T B) (by decide) (a_cons (c_ix hu (c_var 0) c_str) (a_cons (c_var 1) (a_cons (c_ix hu (c_var 0) c_str) a_nil)))))) (ss_one (s_if (k_cmp (o_eq hr.units) (c_ix hu (c_var 1) c_int) c_str (nomark _)) (ss_one (s_sub hu (c_tup (a_cons (c_ix hu (c_var 1) c_int) (a_cons (c_ix hu (c_ix hu (c_ix hu (c_var 0) c_str) (c_ix hu (c_var 1) c_int)) c_int) a_nil))) (c_ix hu (c_var 0) c_str) (c_ix hu (c_var 1) c_int))) (ss_one (s_if (k_cmp (o_eq hr.units) (c_ix hu (c_var 1) c_int) c_str (nomark _)) (ss_one (s_sub hu (c_ix hu (c_var 1) c_int) (c_ix hu (c_var 0) c_str) (c_ix hu (c_var 1) c_int))) (ss_one (s_if (k_cmp (o_eq hr.units) (c_ix hu (c_var 1) c_int) c_str (nomark _)) (ss_one (s_sub hu (c_ix hu (c_var 1) c_int) (c_ix hu (c_var 0) c_str) (c_ix hu (c_var 1) c_int))) (ss_one (s_if (k_cmp (o_eq hr.units) (c_ix hu (c_var 1) c_int) c_str (nomark _)) (ss_one (s_expr (c_m m_popK (c_ix hu (c_var 0) c_str) (a_cons (c_ix hu (c_var 1) c_int) a_nil)))) ss_nil))))))))))))
theorem ok_folded (T : Txt w K mg) (B : Tbs base mg) : Okf P w K mg base 8 "folded" 2 m_folded := by
  have Sc := sc_folded
  refine okf_of (b := b_folded) T.f_folded Sc (fun ds S Q => by rw [q_m_folded]; rfl) fun f cdv A outer s H E hr => ?_
  have hu := hu_of hr.toRoom
  exact (ss_cons (s_set (i := 2) Sc.nd rfl (by first | exact .inl rfl | exact .inr rfl) (c_fn hr (ok_begun T B) (by decide) (a_cons (c_ix hu (c_var 0) c_int) a_nil))) (ss_cons (s_set (i := 3) Sc.nd rfl (by first | exact .inl rfl | exact .inr rfl) (c_lst a_nil)) (ss_cons (s_for PassesOwn.never rfl (i_seq (c_sl (c_ix hu (c_var 0) c_int) p_none (p_some (c_var 1)))) (g_name (i := 4) Sc.nd rfl (by first | exact .inl rfl | exact .inr rfl)) (ss_cons (s_expr (c_m m_append (c_var 3) (a_cons (c_fn hr (ok_word_of T B) (by decide) (a_cons (c_var 2) (a_cons (c_var 4) a_nil))) a_nil))) (ss_one (s_if (k_cmp (o_eq hr.units) (c_ix hu (c_var 3) (c_neg c_int)) c_str (nomark _)) (ss_one (s_expr (c_fn hr (ok_do_row T B) (by decide) (a_cons (c_var 2) (a_cons (c_var 4) a_nil))))) ss_nil)))) (ss_one (s_ret (c_tup (a_cons (c_var 2) (a_cons (c_var 3) a_nil))))))))
theorem ok_road (T : Txt w K mg) (B : Tbs base mg) : Okf P w K mg base 9 "road" 3 m_road := by
  have Sc := sc_road
  refine okf_of (b := b_road) T.f_road Sc (fun ds S Q => by rw [q_m_road]; rfl) fun f cdv A outer s H E hr => ?_
  have hu := hu_of hr.toRoom
  exact (ss_one (s_ret (c_fn hr (ok_road_by T B) (by decide) (a_cons (c_ix hu (c_ix hu (c_fn hr (ok_folded T B) (by decide) (a_cons (c_var 0) (a_cons (c_var 1) a_nil))) c_int) c_str) (a_cons (c_var 2) a_nil)))))
theorem ok_ring (T : Txt w K mg) (B : Tbs base mg) : OkfX P w K mg base 10 "ring" 2 m_ring := by
  have Sc := sc_ring
  refine okfX_of (b := b_ring) T.f_ring Sc (fun ds S Q E => by rw [q_m_ring]; rfl) fun f cdv A outer s H E hr => ?_
  have hu := hu_of hr.toRoom
  exact (ssx_cons (sx_set (i := 2) Sc.nd rfl (by first | exact .inl rfl | exact .inr rfl) (cx_fn hr (ok_row_called T B) (by decide) (a_cons (c_wk (c_var 0)) (a_cons (c_var 1) a_nil)))) (ssx_cons (sx_if (k_cmp (o_ne hr.units) (c_ix hu (c_var 2) c_int) c_str (nomark _)) (ssx_one (sx_raise rfl T.e_NoMend)) ssx_nil) (ssx_cons (sx_of (s_set (i := 3) Sc.nd rfl (by first | exact .inl rfl | exact .inr rfl) (c_fn hr (ok_road T B) (by decide) (a_cons (c_wk (c_var 0)) (a_cons (c_idxN hr (c_ix hu (c_var 0) c_int) (a_cons (c_var 2) a_nil)) (a_cons (c_ix hu (c_var 2) c_int) a_nil)))))) (ssx_cons (sx_of (s_if (k_cmp (o_notIn hu) (c_ix hu (c_var 2) c_int) (c_var 3) (by with_unfolding_all rfl)) (ss_one (s_ret c_non)) ss_nil)) (ssx_one (sx_of (s_ret (c_add (c_lst (a_cons (c_ix hu (c_var 2) c_int) a_nil)) (c_sl (c_var 3) p_none (p_some (c_add (c_m m_index (c_var 3) (a_cons (c_ix hu (c_var 2) c_int) a_nil)) c_int)))))))))))
theorem ok_wclass (T : Txt w K mg) (B : Tbs base mg) : Okf P w K mg base 1 "_law_class" 1 m_wclass := by
  have Sc := sc_wclass
  refine okf_of (b := b_wclass) T.f_wclass Sc (fun ds S Q => by rw [q_m_wclass]; rfl) fun f cdv A outer s H E hr => ?_
  have hu := hu_of hr.toRoom
  exact (ss_cons (s_set (i := 1) Sc.nd rfl (by first | exact .inl rfl | exact .inr rfl) (c_lst a_nil)) (ss_cons (s_if (k_tru (c_callB (b_isX T.x_tab) (by rfl) T.n_isinstance (by decide +kernel) (a_cons (c_var 0) (a_cons (c_cls T.k_NoRow) a_nil)))) (ss_one (s_expr (c_m m_append (c_var 1) (a_cons c_str a_nil)))) ss_nil) (ss_cons (s_if (k_tru (c_callB (b_isX T.x_tab) (by rfl) T.n_isinstance (by decide +kernel) (a_cons (c_var 0) (a_cons (c_cls T.k_NoRoll) a_nil)))) (ss_one (s_expr (c_m m_append (c_var 1) (a_cons c_str a_nil)))) ss_nil) (ss_cons (s_if (k_tru (c_callB (b_isX T.x_tab) (by rfl) T.n_isinstance (by decide +kernel) (a_cons (c_var 0) (a_cons (c_cls T.k_NoName) a_nil)))) (ss_one (s_expr (c_m m_append (c_var 1) (a_cons c_str a_nil)))) ss_nil) (ss_cons (s_if (k_tru (c_callB (b_isX T.x_tab) (by rfl) T.n_isinstance (by decide +kernel) (a_cons (c_var 0) (a_cons (c_cls T.k_Twice) a_nil)))) (ss_one (s_expr (c_m m_append (c_var 1) (a_cons c_str a_nil)))) ss_nil) (ss_cons (s_if (k_tru (c_callB (b_isX T.x_tab) (by rfl) T.n_isinstance (by decide +kernel) (a_cons (c_var 0) (a_cons (c_cls T.k_TooMany) a_nil)))) (ss_one (s_expr (c_m m_append (c_var 1) (a_cons c_str a_nil)))) ss_nil) (ss_cons (s_if (k_tru (c_callB (b_isX T.x_tab) (by rfl) T.n_isinstance (by decide +kernel) (a_cons (c_var 0) (a_cons (c_cls T.k_NoThen) a_nil)))) (ss_one (s_expr (c_m m_append (c_var 1) (a_cons c_str a_nil)))) ss_nil) (ss_cons (s_if (k_tru (c_callB (b_isX T.x_tab) (by rfl) T.n_isinstance (by decide +kernel) (a_cons (c_var 0) (a_cons (c_cls T.k_NoMend) a_nil)))) (ss_one (s_expr (c_m m_append (c_var 1) (a_cons c_str a_nil)))) ss_nil) (ss_cons (s_if (k_w (w_or (k_tru (c_callB (b_isX T.x_tab) (by rfl) T.n_isinstance (by decide +kernel) (a_cons (c_var 0) (a_cons (c_tup (a_cons (c_cls T.k_Clash) (a_cons (c_cls T.k_NoBreach) (a_cons (c_cls T.k_NoField) (a_cons (c_cls T.k_NoInch) (a_cons (c_cls T.k_NoOrder) (a_cons (c_cls T.k_NoText) a_nil))))))) a_nil)))) (w_or1 (k_not (k_tru (c_callB (b_isX T.x_tab) (by rfl) T.n_isinstance (by decide +kernel) (a_cons (c_var 0) (a_cons (c_bltn (by rfl) T.n_ValueError (by decide +kernel)) a_nil)))))))) (ss_one (s_ret c_str)) ss_nil) (ss_cons (s_if (k_cmp (o_ne hr.units) (c_callB b_len (by rfl) T.n_len (by decide +kernel) (a_cons (c_var 1) a_nil)) c_int (nomark _)) (ss_one (s_ret c_str)) ss_nil) (ss_one (s_ret (c_ix hu (c_var 1) c_int)))))))))))))
theorem ok_wtold (T : Txt w K mg) (B : Tbs base mg) {k : Nat} (hk : 1 ≤ k) : OkL P w K mg base k "_law_told" m_wtold := by
  have Sc := sc_wtold
  refine okl_of (b := b_wtold) T.f_wtold Sc rfl (by first | exact Or.inl rfl | exact Or.inr (Or.inl rfl)) (fun ask S Q f h => by rw [q_m_wtold] at h; exact h f) fun f cdv A outer s H hr => ?_
  have hr := hr.mono' hk
  have hu := hu_of hr.toRoom
  exact (csg_none (by decide) Sc.nd rfl (.inl rfl) (csg_none (by decide) Sc.nd rfl (.inl rfl) (csg_tryS (i := 3) (j := 1) (z := 2) rfl rfl rfl Sc.nd rfl rfl rfl rfl rfl rfl (by decide) T.h_DykeError_0 (ss_cons (s_if (k_cmp o_is (c_var 1) c_non (nomark _)) (ss_one (s_ret (c_lst (a_cons c_str (a_cons (c_var 2) a_nil))))) ss_nil) (ss_one (s_ret (c_lst (a_cons c_str (a_cons (c_fn hr (ok_wclass T B) (by decide) (a_cons (c_var 1) a_nil)) a_nil)))))))))
theorem ok_wright (T : Txt w K mg) (B : Tbs base mg) : Okf P w K mg base 13 "_law_right" 2 m_wright := by
  have Sc := sc_wright
  refine okf_ofC (b := b_wright) T.f_wright Sc (fun ds S Q => by rw [q_m_wright]; rfl) fun f A outer s H E hr => ?_
  have hu := hu_of hr.toRoom
  exact (ss_cons (s_set (i := 2) Sc.nd rfl (by first | exact .inl rfl | exact .inr rfl) (c_ix hu (c_ix hu (c_wk (c_var 0)) c_int) (c_var 1))) (ss_cons (s_if (k_cmp (o_ne hr.units) (c_ix hu (c_var 2) c_int) c_str (nomark _)) (ss_one (s_ret (c_cmp (o_eq hr.units) (c_lamC (k := 10) "_law_right.<locals>.<lambda>" (ok_wtold T B (by decide)) (B.t_wright) rfl rfl (hr.mono' (by decide)) (show LamX.lamSB (defScope s_wright) _ = true by decide +kernel) (fun A outer s H E f c' hr => have hu := hu_of hr.toRoom; (cx_fn hr (ok_ring T B) (by decide) (a_cons (c_var 0) (a_cons (c_ix hu (c_var 2) c_int) a_nil))))) (c_lst (a_cons c_str (a_cons c_str a_nil))) (nomark _)))) ss_nil) (ss_cons (s_set (i := 3) Sc.nd rfl (by first | exact .inl rfl | exact .inr rfl) (c_fn hr (ok_wring T B) (by decide) (a_cons (c_ix hu (c_wk (c_var 0)) c_int) (a_cons (c_var 1) a_nil)))) (ss_cons (s_for PassesOwn.never rfl (i_range1 (by rfl) T.n_range (a_cons c_int a_nil)) (g_name (i := 4) Sc.nd rfl (by first | exact .inl rfl | exact .inr rfl)) (ss_cons (s_set (i := 5) Sc.nd rfl (by first | exact .inl rfl | exact .inr rfl) (c_fnX hr (ok_ring T B) (by decide) (a_cons (c_var 0) (a_cons (c_ix hu (c_var 2) c_int) a_nil)))) (ss_cons (s_if (k_w (w_or (k_w (w_and (k_cmp o_is (c_var 3) c_non (nomark _)) (w_and1 (k_cmp o_isNot (c_var 5) c_non (nomark _))))) (w_or1 (k_w (w_and (k_cmp o_isNot (c_var 3) c_non (nomark _)) (w_and1 (k_not (k_tru (c_callB b_isi (by rfl) T.n_isinstance (by decide +kernel) (a_cons (c_var 5) (a_cons (c_bltn (by rfl) T.n_list (by decide +kernel)) a_nil))))))))))) (ss_one (s_ret c_bl)) ss_nil) (ss_cons (s_if (k_w (w_and (k_cmp o_isNot (c_var 3) c_non (nomark _)) (w_and1 (k_cmp (o_ne hr.units) (c_var 5) (c_var 3) (nomark _))))) (ss_one (s_ret c_bl)) ss_nil) (ss_one (s_if (k_cmp o_isNot (c_var 3) c_non (nomark _)) (ss_one (s_expr (c_m0 m_clear (c_var 5)))) ss_nil)))))) (ss_one (s_ret c_bl))))))
theorem fn_law (T : Txt w K mg) (B : Tbs base mg) {f : Addr} {oc : Value} {od an : Option Addr} {kV doc pm ct : Value} {osl : Array (Option Value)} (lk : K.lookup f = some ⟨oc, od, .func (PySem.W.fnOf "law" "law" (defArgs s_law) (defBody s_law) (defScope s_law) .none kV doc pm an (.ref tC_law) ct), osl⟩) (hcd : PySem.W.codeIn K (.ref tC_law) "law" = true) : FnG P w K mg base CX0 14 f (PySem.W.fnOf "law" "law" (defArgs s_law) (defBody s_law) (defScope s_law) .none kV doc pm an (.ref tC_law) ct) ["_law_script"] (spD K 1 m_law) := by
  have Sc := sc_law
  refine fnG_ofC (b := b_law) lk hcd Sc (fun ds S Q => by rw [q_m_law]; rfl) fun A outer s H E hr => ?_
  have hu := hu_of hr.toRoom
  exact (ss_cons (s_set (i := 1) Sc.nd rfl (by first | exact .inl rfl | exact .inr rfl) (c_fn hr (ok_wpen T B) (by decide) (a_cons (c_var 0) a_nil))) (ss_cons (s_asg (c_fn hr (ok_wworld T B) (by decide) (a_cons (c_var 1) a_nil)) (g_tupL rfl (gs_cons (g_name (i := 7) Sc.nd rfl (by first | exact .inl rfl | exact .inr rfl)) (gs_cons (g_name (i := 8) Sc.nd rfl (by first | exact .inl rfl | exact .inr rfl)) gs_nil)))) (ss_cons (s_set (i := 2) Sc.nd rfl (by first | exact .inl rfl | exact .inr rfl) (c_lc (own := [("_law_row_here", 9)]) (gown := [9]) rfl Sc.nd (i_seq (c_ix hu (c_wk (c_var 7)) c_int)) (blkOk_by (N := ["_law_script", "_law_pen_here", "_law_names_here", "_law_first", "_law_k", "_law_others", "_law_thing", "_law_roll", "_law_houses", "_law_row_here", "_law_name", "_law_at"]) (sc := defScope s_law) (by decide +kernel)) (fun _ _ _ _ _ => (g_name (i := 9) Sc.nd rfl (by first | exact .inl rfl | exact .inr rfl))) (by decide) (fun _ _ _ _ _ => ts_nil) (fun _ _ _ _ _ => (c_ix hu (c_var 9) c_int)))) (ss_cons (s_set (i := 3) Sc.nd rfl (by first | exact .inl rfl | exact .inr rfl) (c_fn hr (ok_wtake T B) (by decide) (a_cons (c_var 1) (a_cons (c_add (c_callB b_len (by rfl) T.n_len (by decide +kernel) (a_cons (c_var 2) a_nil)) c_int) a_nil)))) (ss_cons (s_for PassesOwn.never rfl (i_range1 (by rfl) T.n_range (a_cons (c_callB b_len (by rfl) T.n_len (by decide +kernel) (a_cons (c_var 2) a_nil)) a_nil)) (g_name (i := 4) Sc.nd rfl (by first | exact .inl rfl | exact .inr rfl)) (ss_one (s_if (k_not (k_tru (c_fn hr (ok_wright T B) (by decide) (a_cons (c_var 7) (a_cons (c_mod (c_add (c_var 3) (c_mulA c_int (c_var 4))) (c_callB b_len (by rfl) T.n_len (by decide +kernel) (a_cons (c_var 2) a_nil))) a_nil))))) (ss_one (s_ret c_bl)) ss_nil))) (ss_cons (s_setLc (i := 5) (own := [("_law_name", 10)]) (gown := [10]) rfl Sc.nd rfl rfl (sw_true rfl rfl rfl (by decide +kernel)) (i_seq (c_add (c_wk (c_var 8)) (c_lst (a_cons c_str (a_cons c_str a_nil))))) (blkOk_by (N := ["_law_script", "_law_pen_here", "_law_names_here", "_law_first", "_law_k", "_law_others", "_law_thing", "_law_roll", "_law_houses", "_law_row_here", "_law_name", "_law_at"]) (sc := defScope s_law) (by decide +kernel)) (fun _ _ _ _ _ => (g_name (i := 10) Sc.nd rfl (by first | exact .inl rfl | exact .inr rfl))) (by decide) (fun _ _ _ _ _ => (ts_one (k_cmp (o_notIn hu) (c_var 10) (c_var 2) (by with_unfolding_all rfl)))) (fun _ _ _ _ _ => (c_var 10))) (ss_cons (s_for PassesOwn.never rfl (i_seq (c_add (c_var 5) (c_lst (a_cons c_non (a_cons c_bl (a_cons c_int (a_cons c_str (a_cons c_str (a_cons (c_lst (a_cons c_str a_nil)) (a_cons (c_tup (a_cons c_str a_nil)) (a_cons c_dict0 a_nil))))))))))) (g_name (i := 6) Sc.nd rfl (by first | exact .inl rfl | exact .inr rfl)) (ss_one (s_if (k_cmp (o_ne hr.units) (c_lamC (k := 10) "law.<locals>.<lambda>" (ok_wtold T B (by decide)) (B.t_law) rfl rfl (hr.mono' (by decide)) (show LamX.lamSB (defScope s_law) _ = true by decide +kernel) (fun A outer s H E f c' hr => have hu := hu_of hr.toRoom; (cx_fn hr (ok_ring T B) (by decide) (a_cons (c_var 7) (a_cons (c_var 6) a_nil))))) (c_lst (a_cons c_str (a_cons c_str a_nil))) (nomark _)) (ss_one (s_ret c_bl)) ss_nil))) (ss_one (s_ret (c_callB (b_all rfl) (by rfl) T.n_all (by decide +kernel) (a_cons (c_lc (own := [("_law_at", 11)]) (gown := [11]) rfl Sc.nd (i_range1 (by rfl) T.n_range (a_cons (c_callB b_len (by rfl) T.n_len (by decide +kernel) (a_cons (c_var 2) a_nil)) a_nil)) (blkOk_by (N := ["_law_script", "_law_pen_here", "_law_names_here", "_law_first", "_law_k", "_law_others", "_law_thing", "_law_roll", "_law_houses", "_law_row_here", "_law_name", "_law_at"]) (sc := defScope s_law) (by decide +kernel)) (fun _ _ _ _ _ => (g_name (i := 11) Sc.nd rfl (by first | exact .inl rfl | exact .inr rfl))) (by decide) (fun _ _ _ _ _ => ts_nil) (fun _ _ _ _ _ => (c_fn hr (ok_wright T B) (by decide) (a_cons (c_var 7) (a_cons (c_var 11) a_nil))))) a_nil)))))))))))
end
theorem ft_mk {K : PySem.W.Frag} {h : Heap} {mg : Str → Option Value} {x : Str} {st : Stmt} {ps : List Str} {f : Addr} {od an : Option Addr} {sl : Array (Option Value)} {oc kV dc pm cd ct : Value} (X : K.In h) (G : h.Ns mainGlobals mg)
    (a : PySem.W.nsIn K mainGlobals x = some (some (.ref f))) (l : K.lookup f = some ⟨oc, od, .func (PySem.W.fnOf x x (defArgs st) (defBody st) (defScope st) .none kV dc pm an cd ct), sl⟩) (c : PySem.W.codeIn K cd x = true) (k : PySem.W.keepIn K (.ref f) = true)
    (b : ∀ (kV doc pm : Value) (an : Option Addr) (cdv ct : Value) (us : List Value), us.length = ps.length → bindArgs (PySem.W.fnOf x x (defArgs st) (defBody st) (defScope st) .none kV doc pm an cdv ct) ⟨us, []⟩ = pure (ps.zip us)) : FT K mg x st ps :=
  have F := fun_mk (st := st) l c k
  ⟨f, _, F, F.binds b, PySem.W.mg_of X G a⟩
theorem ftc_mk {K : PySem.W.Frag} {h : Heap} {mg : Str → Option Value} {x : Str} {st : Stmt} {ps : List Str} {f c : Addr} {od an : Option Addr} {sl : Array (Option Value)} {oc kV dc pm ct : Value} (X : K.In h) (G : h.Ns mainGlobals mg)
    (a : PySem.W.nsIn K mainGlobals x = some (some (.ref f))) (l : K.lookup f = some ⟨oc, od, .func (PySem.W.fnOf x x (defArgs st) (defBody st) (defScope st) .none kV dc pm an (.ref c) ct), sl⟩) (cc : PySem.W.codeIn K (.ref c) x = true) (k : PySem.W.keepIn K (.ref f) = true)
    (b : ∀ (kV doc pm : Value) (an : Option Addr) (cdv ct : Value) (us : List Value), us.length = ps.length → bindArgs (PySem.W.fnOf x x (defArgs st) (defBody st) (defScope st) .none kV doc pm an cdv ct) ⟨us, []⟩ = pure (ps.zip us)) : FTC K mg x st ps c :=
  have F := fun_mk (st := st) l cc k
  ⟨f, _, _, _, _, _, _, _, _, l, cc, k, F.binds b, PySem.W.mg_of X G a⟩
theorem law_mk {l : PySem.W.OpenLaw} {w : World} {K : PySem.W.Frag} {h : Heap} {mg : Str → Option Value} {fa f2 : Addr} (X : K.In h) (G : h.Ns mainGlobals mg) (hfa : mg "law" = some (.ref fa)) (T : Txt w K mg)
    {od an : Option Addr} {sl : Array (Option Value)} {oc kV dc pm cd ct : Value}
    (a2 : PySem.W.nsIn K mainGlobals "law" = some (some (.ref f2))) (l2 : K.lookup f2 = some ⟨oc, od, .func (PySem.W.fnOf "law" "law" (defArgs s_law) (defBody s_law) (defScope s_law) .none kV dc pm an cd ct), sl⟩) (c2 : PySem.W.codeIn K cd "law" = true) (k2 : PySem.W.keepIn K (.ref f2) = true) :
    ∃ fd : FuncData, (∀ (s : Shared) (v : Value), BindsTo s fd ⟨[v], []⟩ [("_law_script", v)]) ∧ ∀ base : Heap, K.In base → base.Ns mainGlobals mg → (∀ t ∈ tabT, LamX.TabB base mg t.2.1 t.2.2.1) → FnG l.prog w K mg base CX0 14 fa fd ["_law_script"] (spD K 1 m_law) := by
  obtain ⟨f, oc, od, an, kV, doc, pm, ct, osl, lk, hcd, kp, Bn, g⟩ := T.f_law.ex
  have e := hfa.symm.trans g
  cases e
  exact ⟨PySem.W.fnOf "law" "law" (defArgs s_law) (defBody s_law) (defScope s_law) .none kV doc pm an (.ref tC_law) ct, fun s v => .of_eq rfl, fun base _ _ hB => fn_law T ⟨hB _ (.head _), hB _ (.tail _ (.head _)), hB _ (.tail _ (.tail _ (.head _)))⟩ lk hcd⟩
end LW
namespace LW
open PySem L2 DL
abbrev kS (x : Str) : Key := Sum.inr x
def penKv (c : Addr) (a l : Int) : List (Key × D) := [(kS "cells", .ref c), (kS "at", .int a), (kS "left", .int l)]
theorem k_ca : ¬ (kS "cells" = kS "at") := by decide +kernel
theorem k_cl : ¬ (kS "cells" = kS "left") := by decide +kernel
theorem k_al : ¬ (kS "at" = kS "left") := by decide +kernel
theorem k_la : ¬ (kS "left" = kS "at") := by decide +kernel
theorem pen_cells {c a l} : valD (penKv c a l) (kS "cells") = some (.ref c) := by unfold penKv valD; rw [if_pos rfl]
theorem pen_at {c a l} : valD (penKv c a l) (kS "at") = some (.int a) := by unfold penKv valD; rw [if_neg k_ca]; unfold valD; rw [if_pos rfl]
theorem pen_left {c a l} : valD (penKv c a l) (kS "left") = some (.int l) := by unfold penKv valD; rw [if_neg k_cl]; unfold valD; rw [if_neg k_al]; unfold valD; rw [if_pos rfl]
theorem put_at {c a l v} : putD (penKv c a l) (kS "at") (.int v) = penKv c v l := by
  unfold putD hasD
  rw [pen_at]
  show replD (penKv c a l) (kS "at") (.int v) = _
  unfold penKv
  simp only [replD, if_neg k_ca, if_neg k_la, if_true]
theorem put_left {c a l v} : putD (penKv c a l) (kS "left") (.int v) = penKv c a v := by
  unfold putD hasD
  rw [pen_left]
  show replD (penKv c a l) (kS "left") (.int v) = _
  unfold penKv
  simp only [replD, if_neg k_cl, if_neg k_al, if_true]
theorem pen_len {c a l} : (penKv c a l).length = 3 := rfl
theorem three_line : 3 < sizeLine := by decide
theorem nil_line : 0 ≤ sizeLine := Nat.zero_le _
structure Pen (S : Sto) (p c : Addr) (b : Nat) : Prop where
  ex : ∃ (ns : List Int) (a l : Int), S p = some (.dk (penKv c a l)) ∧ S c = some (.lst (ns.map .int)) ∧ ns.length ≤ 63 ∧ 0 ≤ a ∧ a ≤ b ∧ 0 ≤ l
/-- all but the pen stays -/
def Kp (p : Addr) (S S' : Sto) : Prop := ∀ a o, a ≠ p → S a = some o → S' a = some o
theorem Kp.trans {p : Addr} {S S1 S2 : Sto} (x : Kp p S S1) (y : Kp p S1 S2) : Kp p S S2 := fun a o n h => y a o n (x a o n h)
theorem Kp.refl {p : Addr} {S : Sto} : Kp p S S := fun _ _ _ h => h
theorem Kp.new {p q : Addr} {S : Sto} {o : O} (h : S q = none) : Kp p S (updS S q o) := fun a u _ e => by rw [updS_ne (neS e h)]; exact e
theorem Kp.put {p : Addr} {S : Sto} {o : O} : Kp p S (updS S p o) := fun a u n e => by rw [updS_ne n]; exact e
theorem Pen.keep {p pc : Addr} {S S' : Sto} {b : Nat} (h : Pen S p pc b) (k : ∀ a o, S a = some o → S' a = some o) : Pen S' p pc b :=
  let ⟨ns, a, l, h1, h2, h3⟩ := h.ex; ⟨ns, a, l, k _ _ h1, k _ _ h2, h3⟩
theorem Pen.new {p pc q : Addr} {S : Sto} {o : O} {b : Nat} (h : Pen S p pc b) (hq : S q = none) : Pen (updS S q o) p pc b := h.keep fun a u e => by rw [updS_ne (neS e hq)]; exact e
theorem Pen.mono {p pc : Addr} {S : Sto} {b b2 : Nat} (h : Pen S p pc b) (hb : b ≤ b2) : Pen S p pc b2 := let ⟨ns, a, l, h1, h2, h3, h4, h5, h6⟩ := h.ex; ⟨ns, a, l, h1, h2, h3, h4, by omega, h6⟩
theorem get_ints {ns : List Int} {i : Int} (h0 : 0 ≤ i) (h : i < ns.length) : ∃ z, atI (ns.map D.int) i = some (.int z) := by
  obtain ⟨k, rfl⟩ : ∃ k : Nat, i = (k : Nat) := ⟨i.toNat, by omega⟩
  have hl : k < ns.length := by omega
  refine ⟨ns[k], atI_nat ?_⟩
  rw [List.getElem?_map]
  simp [hl]
theorem take_spec {S : Sto} {p c : Addr} {b : Nat} {n : Int} {Q : DK} (h : Pen S p c b) (hb : b + 1 ≤ 100000000) (hn : 0 < n) (hm : n.natAbs.log2 < 9000)
   (q : ∀ (k : Int) (S' : Sto), 0 ≤ k → k < n → Pen S' p c (b + 1) → Kp p S S' → Q (.int k) S') : m_wtake [.ref p, .int n] S Q := by
  obtain ⟨ns, a, l, h1, h2, h3, h4, h5, h6⟩ := h
  have hcp : c ≠ p := fun e => by subst e; rw [h1] at h2; cases h2
  rw [e_wtake]
  refine seq_i ?_
  simp_all_arith [h1, pen_left]
  by_cases hl : 0 < l
  · rw [if_pos hl]
    refine seq_i ?_
    simp_all_arith [h1, pen_left]
    refine ⟨hn, seq_i ?_⟩
    simp_all_arith [h1, pen_left, put_left, pen_len]
    refine ⟨⟨hn, hm⟩, three_line, ret_i ?_⟩
    simp_all_arith []
    exact q _ _ (Int.emod_nonneg _ (by omega)) (Int.emod_lt_of_pos _ hn) ⟨ns, a, l / n, updS_same, by rw [updS_ne hcp]; exact h2, h3, h4, by omega, Int.ediv_nonneg h6 (by omega)⟩ .put
  · rw [if_neg hl]
    refine seq_i ?_
    simp_all_arith [h1, pen_at]
    refine seq_i ?_
    simp_all_arith [h1, put_at, pen_len]
    refine ⟨three_line, seq_i ?_⟩
    simp_all_arith [updS_same, pen_cells]
    have hS : Kp p S (updS S p (.dk (penKv c (a + 1) l))) := .put
    have hc : updS S p (.dk (penKv c (a + 1) l)) c = some (.lst (ns.map .int)) := by rw [updS_ne hcp]; exact h2
    have hpp : updS S p (.dk (penKv c (a + 1) l)) p = some (.dk (penKv c (a + 1) l)) := updS_same
    generalize updS S p (.dk (penKv c (a + 1) l)) = S1 at hS hc hpp
    refine seq_i ?_
    simp_all_arith []
    refine ⟨mulS (by omega) (by omega) (by omega) (by omega), mulS (by omega) (by omega) (by omega) (by omega), mulS (by omega) (by omega) (by omega) (by omega), ?_⟩
    generalize 70207 * a * a + 131 * a + 29 = z0
    refine seq_i ?_
    simp_all_arith []
    refine ⟨nil_line, fun p1 hp1 => ?_⟩
    have hcp1 : c ≠ p1 := neS hc hp1
    have hpp1 : p ≠ p1 := neS hpp hp1
    refine eq_nil (by rw [updS_ne hcp1]; exact hc) updS_same (pds_ints ns) (depth_ints ns) ?_
    have hc2 : updS S1 p1 (.lst []) c = some (.lst (ns.map .int)) := by rw [updS_ne hcp1]; exact hc
    have hpp2 : updS S1 p1 (.lst []) p = some (.dk (penKv c (a + 1) l)) := by rw [updS_ne hpp1]; exact hpp
    have hS2 : Kp p S (updS S1 p1 (.lst [])) := hS.trans (.new hp1)
    generalize updS S1 p1 (.lst []) = S2 at hc2 hpp2 hS2
    simp_all_arith [List.isEmpty_map, hc2]
    -- the cell
    have rest : ∀ z, t_wtake_11 ⟨fun x S => Q .non S, Q, fun _ _ => False, fun _ _ => False⟩ [some (.ref p), some (.int n), some (.int a), some (.ref c), some (.int z), none, none, none] S2 := by
      intro z
      have fin : t_wtake_14 ⟨fun x S => Q .non S, Q, fun _ _ => False, fun _ _ => False⟩ [some (.ref p), some (.int n), some (.int a), some (.ref c), some (.int z), none, none, none] S2 := by
        refine seq_i ?_
        simp_all_arith []
        have z1 : 0 ≤ z % 2147483587 := Int.emod_nonneg _ (by decide)
        have z2 : z % 2147483587 < 2147483587 := Int.emod_lt_of_pos _ (by decide)
        refine ⟨by decide, mulS (by omega) (by omega) (by omega) (by omega), powS (by decide) (by decide) (by omega) (by omega), by decide, seq_i ?_⟩
        have y1 : 0 ≤ (z % 2147483587 + 45007 * a + 11) ^ Int.toNat 3 % 2147483629 := Int.emod_nonneg _ (by decide)
        have y2 : (z % 2147483587 + 45007 * a + 11) ^ Int.toNat 3 % 2147483629 < 2147483629 := Int.emod_lt_of_pos _ (by decide)
        generalize (z % 2147483587 + 45007 * a + 11) ^ Int.toNat 3 % 2147483629 = one at y1 y2
        simp_all_arith []
        have x1 : 1213 * a * a ≤ 1213 * 100000000 * 100000000 := Int.mul_le_mul (by omega) (by omega) h4 (by omega)
        have x0 : 0 ≤ 1213 * a * a := Int.mul_nonneg (by omega) h4
        refine ⟨mulS (by omega) (by omega) (by omega) (by omega), mulS (by omega) (by omega) (by omega) (by omega), powS (by decide) (by decide) (by omega) (by omega), by decide, ret_i ?_⟩
        simp_all_arith []
        have w1 : 0 ≤ (one + 1213 * a * a + 3) ^ Int.toNat 5 % 2147483543 := Int.emod_nonneg _ (by decide)
        have w2 : (one + 1213 * a * a + 3) ^ Int.toNat 5 % 2147483543 < 2147483543 := Int.emod_lt_of_pos _ (by decide)
        generalize (one + 1213 * a * a + 3) ^ Int.toNat 5 % 2147483543 = two at w1 w2
        have v1 : 0 ≤ one % 64007 := Int.emod_nonneg _ (by decide)
        have v2 : one % 64007 < 64007 := Int.emod_lt_of_pos _ (by decide)
        refine ⟨by decide, mulS (by omega) (by omega) (by omega) (by omega), by decide, fdivS (by decide) (by decide), hn, ?_⟩
        exact q _ _ (Int.emod_nonneg _ (by omega)) (Int.emod_lt_of_pos _ hn) ⟨ns, a + 1, l, hpp2, hc2, h3, by omega, by omega, h6⟩ hS2
      refine seq_i ?_
      simp_all_arith [hc2, List.length_map]
      by_cases ha : a < ns.length
      · rw [if_pos ha]
        refine ⟨powS (by decide) (by decide) (by decide) (by decide), ?_⟩
        by_cases hz : (10 : Int) ^ Int.toNat 18 ≤ if z < 0 then -z else z
        · rw [if_pos hz]
          refine seq_i ?_
          simp_all_arith [hpp2, put_left, pen_len]
          refine ⟨⟨hn, hm⟩, three_line, hn, ?_⟩
          refine q _ _ (Int.emod_nonneg _ (by omega)) (Int.emod_lt_of_pos _ hn) ⟨ns, a + 1, _, updS_same, by rw [updS_ne hcp]; exact hc2, h3, by omega, by omega, Int.ediv_nonneg (by split <;> omega) (by omega)⟩ (hS2.trans .put)
        · rw [if_neg hz]
          exact fin
      · rw [if_neg ha]
        exact fin
    by_cases he : ns.isEmpty
    · simp_all_arith [he]
      exact rest z0
    · simp_all_arith [he]
      have hpos : 0 < ns.length := by cases ns with
        | nil => exact (he rfl).elim
        | cons x r => simp
      refine ⟨by rw [List.length_map]; omega, ?_⟩
      rw [List.length_map]
      obtain ⟨z, hz⟩ := get_ints (ns := ns) (i := a % (ns.length : Int)) (Int.emod_nonneg _ (by omega)) (Int.emod_lt_of_pos _ (by omega))
      exact ⟨_, hz, rest z⟩
end LW
/-! names: the plain part -/
namespace LW
open PySem L2 DL
theorem small_line {n : Nat} (h : n ≤ 100000) : n ≤ sizeLine := Nat.le_trans h (by decide)
def wordA (t k : Nat) : List Nat := [97 + (t + 7 * k) % 26, 97 + (t + k / 26) % 26]
def bw (t r : Nat) : List Nat := if h : r = 0 then [] else bw t ((r - 1) / 2) ++ [97 + (t + 9 * (r % 2)) % 26]
termination_by r
decreasing_by omega
theorem bw_zero (t : Nat) : bw t 0 = [] := by rw [bw]; simp
theorem bw_pos {t r : Nat} (h : 0 < r) : bw t r = bw t ((r - 1) / 2) ++ [97 + (t + 9 * (r % 2)) % 26] := by
  rw [bw]
  rw [dif_neg (by omega)]
theorem bw_len (t : Nat) : ∀ r, (bw t r).length ≤ r := by
  intro r
  induction r using Nat.strongRecOn with
  | _ r ih =>
    by_cases h : r = 0
    · subst h; rw [bw_zero]; simp
    · rw [bw_pos (by omega), List.length_append]
      have := ih ((r - 1) / 2) (by omega)
      simp
      omega
theorem bw_len2 (t : Nat) : ∀ n r, r + 2 ≤ 2 ^ (n + 1) → (bw t r).length ≤ n := by
  intro n
  induction n with
  | zero => intro r h; have : r = 0 := by omega
            subst this; rw [bw_zero]; simp
  | succ n ih =>
    intro r h
    by_cases h0 : r = 0
    · subst h0; rw [bw_zero]; simp
    · rw [bw_pos (by omega), List.length_append]
      have e : 2 ^ (n + 1 + 1) = 2 * 2 ^ (n + 1) := by rw [Nat.pow_succ]; omega
      have := ih ((r - 1) / 2) (by omega)
      simp
      omega
/-- small letters -/
def Lt (l : List Nat) : Prop := ∀ c ∈ l, 97 ≤ c ∧ c < 123
theorem Lt.app {a b : List Nat} (x : Lt a) (y : Lt b) : Lt (a ++ b) := fun c hc => (List.mem_append.mp hc).elim (x c) (y c)
theorem bw_lt (t : Nat) : ∀ r, Lt (bw t r) := by
  intro r
  induction r using Nat.strongRecOn with
  | _ r ih =>
    by_cases h : r = 0
    · subst h; rw [bw_zero]; intro c hc; cases hc
    · rw [bw_pos (by omega)]
      refine Lt.app (ih ((r - 1) / 2) (by omega)) fun c hc => ?_
      rw [List.mem_singleton] at hc
      omega
theorem bw_inj (t : Nat) : ∀ r s, bw t r = bw t s → r = s := by
  intro r
  induction r using Nat.strongRecOn with
  | _ r ih =>
    intro s e
    by_cases h : r = 0
    · subst h
      by_cases h2 : s = 0
      · exact h2.symm
      · rw [bw_zero, bw_pos (r := s) (by omega)] at e
        simp at e
    · by_cases h2 : s = 0
      · subst h2
        rw [bw_zero, bw_pos (r := r) (by omega)] at e
        simp at e
      · rw [bw_pos (r := r) (by omega), bw_pos (r := s) (by omega)] at e
        obtain ⟨e1, e2⟩ := List.append_inj' e rfl
        have e3 := ih _ (by omega) _ e1
        have e4 : 97 + (t + 9 * (r % 2)) % 26 = 97 + (t + 9 * (s % 2)) % 26 := by simpa using e2
        omega
def nameL (way : Int) (B : List Nat) (sp t k : Nat) : List Nat := if way = 1 then bw t (k + 1) else B.take sp ++ wordA t k ++ B.drop sp
theorem nameL_inj {way : Int} {B : List Nat} {sp t k j : Nat} (hk : k < 182) (hj : j < 182) (e : nameL way B sp t k = nameL way B sp t j) : k = j := by
  unfold nameL at e
  by_cases h : way = 1
  · rw [if_pos h, if_pos h] at e
    have := bw_inj t _ _ e
    omega
  · rw [if_neg h, if_neg h] at e
    have e1 := List.append_cancel_right e
    have e2 := List.append_cancel_left e1
    unfold wordA at e2
    simp only [List.cons.injEq, and_true] at e2
    obtain ⟨a, b⟩ := e2
    have h2 : k / 26 = j / 26 := by
      have h3 : k / 26 < 7 := by omega
      have h4 : j / 26 < 7 := by omega
      clear a e e1
      generalize k / 26 = x at b h3
      generalize j / 26 = y at b h4
      omega
    have h1 : k % 26 = j % 26 := by
      clear b h2 e e1
      omega
    omega
theorem nameL_lt {way : Int} {B : List Nat} {sp t k : Nat} (hB : Lt B) : Lt (nameL way B sp t k) := by
  unfold nameL
  by_cases h : way = 1
  · rw [if_pos h]; exact bw_lt t _
  · rw [if_neg h]
    refine Lt.app (Lt.app (fun c hc => hB c (List.mem_of_mem_take hc)) fun c hc => ?_) fun c hc => hB c (List.mem_of_mem_drop hc)
    unfold wordA at hc
    simp only [List.mem_cons, List.not_mem_nil, or_false] at hc
    rcases hc with hc | hc <;> subst hc <;> omega
theorem nameL_len8 {way : Int} {B : List Nat} {sp t k : Nat} (hB : B.length ≤ 6) (hk : k < 61) : 1 ≤ (nameL way B sp t k).length ∧ (nameL way B sp t k).length ≤ 8 := by
  unfold nameL
  by_cases h : way = 1
  · rw [if_pos h]
    have h1 := bw_len2 t 6 (k + 1) (by have : 2 ^ 7 = 128 := rfl; omega)
    refine ⟨?_, by omega⟩
    rw [bw_pos (by omega), List.length_append]
    simp
  · rw [if_neg h]
    simp only [List.length_append, List.length_take, List.length_drop]
    unfold wordA
    simp only [List.length_cons, List.length_nil]
    omega
def ofL (l : List Nat) : Str := ⟨l.toArray⟩
theorem ofL_inj {a b : List Nat} (h : ofL a = ofL b) : a = b := by
  unfold ofL at h
  simpa using h
def nameS (way : Int) (B : List Nat) (sp t k : Nat) : Str := ofL (nameL way B sp t k)
def namesS (way : Int) (B : List Nat) (sp t n : Nat) : List Str := (List.range n).map (nameS way B sp t)
theorem names_nodup {way : Int} {B : List Nat} {sp t n : Nat} (h : n ≤ 182) : (namesS way B sp t n).Nodup := by
  unfold namesS
  rw [List.nodup_iff_pairwise_ne, List.pairwise_map]
  refine List.Pairwise.imp_of_mem (fun ha hb hab e => hab ?_) List.nodup_range
  rw [List.mem_range] at ha hb
  exact nameL_inj (by omega) (by omega) (ofL_inj e)
/-- a term put in where it isn't yet -/
theorem set_nodup {xs : List Str} {i : Nat} {z : Str} (h : xs.Nodup) (hz : z ∉ xs) : (xs.set i z).Nodup := by
  induction xs generalizing i with
  | nil => simpa using h
  | cons x r ih =>
    rw [List.nodup_cons] at h
    rw [List.mem_cons, not_or] at hz
    cases i with
    | zero => rw [List.set_cons_zero, List.nodup_cons]; exact ⟨hz.2, h.2⟩
    | succ i =>
      rw [List.set_cons_succ, List.nodup_cons]
      refine ⟨fun hm => ?_, ih h.2 hz.2⟩
      rcases List.mem_or_eq_of_mem_set hm with hm | hm
      · exact h.1 hm
      · exact hz.1 hm.symm
end LW
/-! names: the walk -/
namespace LW
open PySem L2 DL
def abc : Str := "abcdefghijklmnopqrstuvwxyz"
theorem abc_len : abc.length = 26 := by decide +kernel
theorem abc_get : ∀ j : Fin 26, abc.cps.toList[j.val]? = some (97 + j.val) := by decide +kernel
theorem abc_at {i : Int} {j : Nat} (e : i = (j : Nat)) (h : j < 26) : atI abc.cps.toList i = some (97 + j) := by
  subst e
  exact atI_nat (abc_get ⟨j, h⟩)
theorem ofL_app (a b : List Nat) : ofL a ++ ofL b = ofL (a ++ b) := by
  show (⟨a.toArray ++ b.toArray⟩ : Str) = ⟨(a ++ b).toArray⟩
  simp
theorem ofL_len (a : List Nat) : (ofL a).length = a.length := by
  show (a.toArray).size = _
  simp
theorem ofL_one (c : Nat) : (⟨#[c]⟩ : Str) = ofL [c] := rfl
theorem cut_to {z : Str} {s : Nat} (h : s ≤ z.length) : cutS z none (some (s : Int)) = ofL (z.cps.toList.take s) := by
  unfold cutS
  rw [HT.sIx_none, show HT.sIx z.length z.length (some (s : Int)) = min s z.length from HT.sIx_nat _ _ s]
  rw [List.drop_zero, Nat.sub_zero, Nat.min_eq_left h]
  rfl
theorem cut_from {z : Str} {s : Nat} (h : s ≤ z.length) : cutS z (some (s : Int)) none = ofL (z.cps.toList.drop s) := by
  unfold cutS
  rw [HT.sIx_none, show HT.sIx z.length 0 (some (s : Int)) = min s z.length from HT.sIx_nat _ _ s]
  rw [Nat.min_eq_left h]
  unfold ofL
  rw [List.take_of_length_le (by rw [List.length_drop, Array.length_toList]; exact Nat.le_refl _)]
theorem while_i {fc : DT} {body : DS} {D0 : DEnds} {σ : DL.Env} {S : Sto} (W : Nat → DL.Env → Sto → Prop) (m : Nat) (h0 : W m σ S)
    (turn : ∀ m σ S, W m σ S → ∀ N : DL.Env → Sto → Prop, (∀ m2 σ2 S2, m2 < m → W m2 σ2 S2 → N σ2 S2) → fc σ S fun k S1 => if k = true then body ⟨N, D0.rt, D0.nx, N⟩ σ S1 else D0.nx σ S1) : sWhile fc body D0 σ S :=
  ⟨W, ⟨m, h0⟩, fun m σ S h => turn m σ S h _ fun m2 σ2 S2 hm hw => ⟨m2, hm, hw⟩⟩
theorem name_turn {p a : Addr} {many way : Int} {B : Str} {t sp k : Nat} {u9 u10 u11 : Option D} {S : Sto} {xs : List D} {D0 : DEnds} (hk : k < 182) (ht : t < 26) (hB : B.length ≤ 6) (hs : sp ≤ B.length) (ha : S a = some (.lst xs)) (hx : xs.length ≤ 200)
    (q : ∀ u11, D0.nx [some (.ref p), some (.int many), some (.str abc), some (.int way), some (.int t), some (.str B), some (.int sp), some (.ref a), some (.int (k : Nat)), u9, some (.str (nameS way B.cps.toList sp t k)), u11] (updS S a (.lst (xs ++ [.str (nameS way B.cps.toList sp t k)])))) :
    l_wnames_7 D0 [some (.ref p), some (.int many), some (.str abc), some (.int way), some (.int t), some (.str B), some (.int sp), some (.ref a), some (.int (k : Nat)), u9, u10, u11] S := by
  have hl : abc.length ≤ sizeLine := by rw [abc_len]; exact small_line (by omega)
  refine seq_i ?_
  simp_all_arith []
  refine ⟨mulS (by omega) (by omega) (by omega) (by omega), by decide, hl, _, abc_at (j := (t + 7 * k) % 26) (by omega) (by omega), fdivS (by decide) (by decide), by decide, hl, _, abc_at (j := (t + k / 26) % 26) (by omega) (by omega), small_line (show (1 : Nat) + 1 ≤ 100000 by decide), ?_⟩
  refine seq_i ?_
  rw [ofL_one, ofL_one, ofL_app]
  simp_all_arith [cut_to hs, cut_from hs, ofL_app]
  have hBL : B.cps.toList.length ≤ 6 := by rw [Array.length_toList]; exact hB
  refine ⟨small_line (by omega), small_line ?_, small_line (by omega), small_line ?_, seq_i ?_⟩
  · rw [ofL_len, ofL_len, List.length_take]
    simp only [List.length_append, List.length_cons, List.length_nil]
    omega
  · rw [ofL_len, ofL_len, List.length_append, List.length_take, List.length_drop]
    simp only [List.length_append, List.length_cons, List.length_nil]
    omega
  have app : ∀ (z : Str) (u11 : Option D), z = nameS way B.cps.toList sp t k → t_wnames_16 D0 [some (.ref p), some (.int many), some (.str abc), some (.int way), some (.int t), some (.str B), some (.int sp), some (.ref a), some (.int (k : Nat)), u9, some (.str z), u11] S := by
    intro z u11 ez
    subst ez
    simp_all_arith [t_wnames_16, ha]
    exact ⟨xs, rfl, Nat.lt_of_lt_of_le (show xs.length < 201 by omega) (by decide), q _⟩
  simp_all_arith []
  by_cases hw : way = 1
  · rw [if_pos hw]
    refine seq_i ?_
    simp_all_arith []
    refine seq_i ?_
    simp_all_arith []
    refine while_i (fun m σ S' => ∃ word : List Nat, σ = [some (.ref p), some (.int many), some (.str abc), some (.int way), some (.int t), some (.str B), some (.int sp), some (.ref a), some (.int (k : Nat)), u9, some (.str (ofL word)), some (.int (m : Nat))] ∧ S' = S ∧ bw t m ++ word = bw t (k + 1) ∧ m ≤ k + 1)
      (k + 1) ⟨[], rfl, rfl, List.append_nil _, Nat.le_refl _⟩ fun m σ S' hi N hN => ?_
    obtain ⟨word, rfl, rfl, hword, hm⟩ := hi
    simp_all_arith []
    by_cases h0 : (0 : Int) < (m : Int)
    · rw [if_pos h0]
      have hwl : word.length ≤ k + 1 := by
        have h1 := congrArg List.length hword
        rw [List.length_append] at h1
        have h2 := bw_len t (k + 1)
        omega
      refine seq_i ?_
      simp_all_arith []
      refine ⟨by decide, mulS (by decide) (by decide) (by omega) (by omega), by decide, hl, _, abc_at (j := (t + 9 * (m % 2)) % 26) (by omega) (by omega), ?_⟩
      rw [ofL_one, ofL_app]
      refine ⟨small_line ?_, ?_⟩
      · rw [ofL_len, ofL_len]
        simp only [List.length_cons, List.length_nil]
        omega
      simp_all_arith [t_wnames_15]
      refine ⟨fdivS (by decide) (by decide), ?_⟩
      have em : ((m : Int) - 1) / 2 = (((m - 1) / 2 : Nat) : Int) := by omega
      rw [em]
      refine hN ((m - 1) / 2) _ _ (by omega) ⟨_, rfl, rfl, ?_, by omega⟩
      rw [← hword, bw_pos (t := t) (r := m) (by omega), List.append_assoc]
    · rw [if_neg h0]
      have : m = 0 := by omega
      subst this
      refine app _ _ ?_
      rw [bw_zero, List.nil_append] at hword
      unfold nameS nameL
      rw [if_pos hw, hword]
  · rw [if_neg hw]
    refine app _ _ ?_
    unfold nameS nameL
    rw [if_neg hw]
    rfl
end LW
namespace LW
open PySem L2 DL
def termsL : List Str := ["as", "with", "part", "field", "none", "done", "write", "back", "join"]
/-- a name: one to eight small letters -/
structure Nm (z : Str) : Prop where
  lo : 1 ≤ z.length
  hi : z.length ≤ 8
  lt : Lt z.cps.toList
structure NmOk (zs : List Str) : Prop where
  nd : zs.Nodup
  nm : ∀ z ∈ zs, Nm z
theorem NmOk.len {zs : List Str} (h : NmOk zs) : ∀ z ∈ zs, z.length ≤ 200 := fun z hz => Nat.le_trans (h.nm z hz).hi (by decide)
theorem terms_nm : ∀ z ∈ termsL, Nm z := by
  have h : ∀ z ∈ termsL, (1 ≤ z.length ∧ z.length ≤ 8) ∧ ∀ c ∈ z.cps.toList, 97 ≤ c ∧ c < 123 := by decide +kernel
  exact fun z hz => ⟨(h z hz).1.1, (h z hz).1.2, (h z hz).2⟩
theorem NmOk.set {zs : List Str} (h : NmOk zs) {i : Nat} {z : Str} (hz : z ∉ zs) (hl : Nm z) : NmOk (zs.set i z) :=
  ⟨set_nodup h.nd hz, fun y hy => (List.mem_or_eq_of_mem_set hy).elim (h.nm y) fun e => by rw [e]; exact hl⟩
theorem ixN_of {n j : Nat} (hj : j < n) : ixN n (j : Int) = some j := by
  unfold ixN
  simp
  omega
theorem any_str (zs : List Str) (x : Str) : ((zs.map D.str).any fun z => eqF z (.str x)) = decide (x ∈ zs) := by
  induction zs with
  | nil => simp
  | cons z r ih =>
    rw [List.map_cons, List.any_cons, ih]
    show ((z == x) || decide (x ∈ r)) = decide (x ∈ z :: r)
    by_cases h : z = x
    · subst h; simp
    · have h2 : ¬ x = z := fun e => h e.symm
      simp [h, h2]
theorem flat_strs (zs : List Str) : (zs.map D.str).all flatD = true := by
  rw [List.all_map, List.all_eq_true]
  intro z _
  rfl
theorem term_turn {p pc a c : Addr} {b k : Nat} {many way : Int} {B : Str} {t sp : Int} {u10 u11 : Option D} {S : Sto} {zs : List Str} {D0 : DEnds} (h : Pen S p pc b) (hb : b + 1 ≤ 100000) (ha : S a = some (.lst (zs.map .str))) (hc : S c = some (.lst (termsL.map .str))) (hap : a ≠ p) (hac : a ≠ pc) (hcp : c ≠ p) (hne : c ≠ a) (hz : NmOk zs) (hk : k < 9) (hkz : k < zs.length)
    (q : ∀ zs' S', NmOk zs' → zs'.length = zs.length → Pen S' p pc (b + 1) → S' a = some (.lst (zs'.map .str)) → S' c = some (.lst (termsL.map .str)) → (∀ z o, z ≠ p → z ≠ a → S z = some o → S' z = some o) → D0.nx [some (.ref p), some (.int many), some (.str abc), some (.int way), some (.int t), some (.str B), some (.int sp), some (.ref a), some (.int (k : Nat)), some (.ref c), u10, u11] S') :
    l_wnames_19 D0 [some (.ref p), some (.int many), some (.str abc), some (.int way), some (.int t), some (.str B), some (.int sp), some (.ref a), some (.int (k : Nat)), some (.ref c), u10, u11] S := by
  simp_all_arith [l_wnames_19]
  refine take_spec h (by omega) (by decide) (by decide) fun j S1 _ _ p1 h1 => ?_
  try simp_all_arith []
  have ha1 := h1 _ _ hap ha
  have hc1 := h1 _ _ hcp hc
  by_cases hj : j = 0
  · rw [if_pos hj]
    obtain ⟨x, hg⟩ : ∃ x, termsL[k]? = some x := ⟨_, List.getElem?_eq_getElem (show k < termsL.length from hk)⟩
    have hg2 : (termsL.map D.str)[k]? = some (.str x) := by rw [List.getElem?_map, hg]; rfl
    simp_all_arith [hc1]
    refine ⟨_, atI_nat hg2, ?_⟩
    rw [ha1, oIn_l]
    refine ⟨rfl, flat_strs zs, ?_⟩
    rw [any_str]
    by_cases hin : x ∈ zs
    · rw [decide_eq_true hin]
      simp_all_arith []
      exact q zs S1 hz rfl p1 ha1 hc1 (fun z o e1 _ e => h1 z o e1 e)
    · rw [decide_eq_false hin]
      simp_all_arith [hc1]
      refine ⟨_, atI_nat hg2, ?_⟩
      rw [ha1, oPut_l]
      refine ⟨k, ixN_of (by rw [List.length_map]; exact hkz), ?_⟩
      rw [← List.map_set]
      refine q (zs.set k x) _ (hz.set hin (terms_nm x (List.mem_of_getElem? hg))) List.length_set ?_ updS_same (by rw [updS_ne hne]; exact hc1) fun z o e1 e2 e => by rw [updS_ne e2]; exact h1 z o e1 e
      obtain ⟨ns, y, l, h1, h3, h4⟩ := p1.ex
      exact ⟨ns, y, l, by rw [updS_ne (Ne.symm hap)]; exact h1, by rw [updS_ne (Ne.symm hac)]; exact h3, h4⟩
  · rw [if_neg hj]
    exact q zs S1 hz rfl p1 ha1 hc1 (fun z o e1 _ e => h1 z o e1 e)
end LW
namespace LW
open PySem L2 DL
theorem joinL_len : ∀ ls : List (List Nat), (TL.joinL [] ls).length = (ls.map List.length).sum
  | [] => rfl
  | [l] => by simp [TL.joinL]
  | l :: m :: r => by
    have ih := joinL_len (m :: r)
    rw [TL.joinL]
    simp only [List.nil_append, List.append_nil, List.length_append, ih, List.map_cons, List.sum_cons]
theorem sum_ones : ∀ {ys : List Str}, (∀ y ∈ ys, y.length = 1) → (ys.map (·.length)).sum = ys.length
  | [], _ => rfl
  | y :: r, h => by
    rw [List.map_cons, List.sum_cons, sum_ones fun x hx => h x (List.mem_cons_of_mem _ hx), h y List.mem_cons_self, List.length_cons, Nat.add_comm]
theorem len_join {ys : List Str} (h : ∀ y ∈ ys, y.length = 1) : (Txt.join "" ys).length = ys.length := by
  rw [TL.join_eq, TL.len_tl, TL.tl_join, show TL.tl ("" : Str) = [] from by decide +kernel, joinL_len, List.map_map]
  induction ys with
  | nil => rfl
  | cons y r ih =>
    rw [List.map_cons, List.sum_cons, ih (fun x hx => h x (List.mem_cons_of_mem _ hx)), List.length_cons]
    have := h y List.mem_cons_self
    rw [TL.len_tl] at this
    show (TL.tl y).length + r.length = r.length + 1
    omega
theorem joinL_lt : ∀ {ls : List (List Nat)}, (∀ l ∈ ls, Lt l) → Lt (TL.joinL [] ls)
  | [], _ => fun c hc => by cases hc
  | [l], h => by simpa [TL.joinL] using h l (by simp)
  | l :: m :: r, h => by
    have ih := joinL_lt (ls := m :: r) fun x hx => h x (List.mem_cons_of_mem _ hx)
    rw [TL.joinL]
    simp only [List.nil_append, List.append_nil]
    exact Lt.app (h l (by simp)) ih
theorem join_lt {ys : List Str} (h : ∀ y ∈ ys, Lt y.cps.toList) : Lt (Txt.join "" ys).cps.toList := by
  rw [TL.join_eq]
  show Lt (TL.tl _)
  rw [TL.tl_join, show TL.tl ("" : Str) = [] from by decide +kernel]
  refine joinL_lt fun l hl => ?_
  obtain ⟨y, hy, rfl⟩ := List.mem_map.mp hl
  exact h y hy
theorem Pen.ne {S : Sto} {p pc q : Addr} {b : Nat} (h : Pen S p pc b) (hq : S q = none) : q ≠ p ∧ q ≠ pc := by
  obtain ⟨ns, a, l, h1, h2, _⟩ := h.ex
  exact ⟨Ne.symm (neS h1 hq), Ne.symm (neS h2 hq)⟩
theorem base_spec {p pc : Addr} {b n : Nat} {many way t : Int} {u5 u6 u7 u8 u9 u10 u11 : Option D} {S : Sto} {K : List D → Sto → Prop} (h : Pen S p pc b) (hn : n ≤ 6) (hb : b + n ≤ 100000)
    (q : ∀ (ys : List Str) (S' : Sto), (∀ y ∈ ys, y.length = 1) → (∀ y ∈ ys, Lt y.cps.toList) → ys.length = n → Pen S' p pc (b + n) → Kp p S S' → K (ys.map .str) S') :
    lcL (fun _ => True) (nName 8) tsYes c_wnames_4 [some (.ref p), some (.int many), some (.str abc), some (.int way), some (.int t), u5, u6, u7, u8, u9, u10, u11] K (rangeD 0 n) [] S := by
  refine lcL_inv _ (fun j acc S' => Pen S' p pc (b + j) ∧ Kp p S S' ∧ ∃ ys : List Str, acc = ys.map D.str ∧ (∀ y ∈ ys, y.length = 1) ∧ (∀ y ∈ ys, Lt y.cps.toList) ∧ ys.length = j) (fun _ _ _ _ => trivial) (fun j x acc S4 N2 hx h3 hN2 => ?el) (fun acc S4 h3 => ?af) ⟨h, .refl, [], rfl, (fun _ z => nomatch z), (fun _ z => nomatch z), rfl⟩
  case el =>
    obtain ⟨n5, g5, ys, ea, hy, hyl, hl⟩ := h3
    have hj : j < n := by
      have := (List.getElem?_eq_some_iff.mp hx).1
      rw [rangeD_len] at this
      exact this
    simp_all_arith [c_wnames_4]
    refine take_spec n5 (by omega) (by decide) (by decide) fun k S5 a5 b5 n6 g6 => ?_
    have b5 : k < 26 := b5
    simp_all_arith []
    refine ⟨by rw [abc_len]; exact small_line (by omega), _, abc_at (j := k.toNat) (by omega) (by omega), ?_, hN2 _ _ ⟨n6, g5.trans g6, ys ++ [⟨#[97 + k.toNat]⟩], ?_, fun y hy2 => ?_, fun y hy2 => ?_, ?_⟩⟩
    · rw [ea, List.length_map]
      exact Nat.lt_of_lt_of_le (show ys.length < 401 by omega) (by decide)
    · rw [ea, List.map_append]
      rfl
    · rcases List.mem_append.mp hy2 with hy2 | hy2
      · exact hy y hy2
      · rw [List.mem_singleton] at hy2
        subst hy2
        rfl
    · rcases List.mem_append.mp hy2 with hy2 | hy2
      · exact hyl y hy2
      · rw [List.mem_singleton] at hy2
        subst hy2
        intro c hc
        have hc : c ∈ [97 + k.toNat] := hc
        rw [List.mem_singleton] at hc
        omega
    · rw [List.length_append, hl]
      rfl
  case af =>
    obtain ⟨n5, g5, ys, ea, hy, hyl, hl⟩ := h3
    rw [rangeD_len] at hl n5
    subst ea
    exact q ys S4 hy hyl hl n5 g5
theorem names_spec {p pc : Addr} {b n : Nat} {S : Sto} {Q : DK} (h : Pen S p pc b) (hb : b + 20 ≤ 100000) (hn : n ≤ 44)
    (q : ∀ (a : Addr) (zs : List Str) (S' : Sto), NmOk zs → zs.length = n → Pen S' p pc (b + 20) → S' a = some (.lst (zs.map .str)) → S a = none → Kp p S S' → Q (.ref a) S') : m_wnames [.ref p, .int (n : Nat)] S Q := by
  rw [e_wnames]
  refine seq_i ?_
  try simp_all_arith []
  refine seq_i ?_
  try simp_all_arith []
  refine take_spec h (by omega) (by decide) (by decide) fun way S1 w0 w1 p1 h1 => seq_i ?_
  try simp_all_arith []
  refine take_spec p1 (by omega) (by decide) (by decide) fun tt S2 t0 t1 p2 h2 => seq_i ?_
  obtain ⟨t, rfl⟩ : ∃ t : Nat, tt = (t : Nat) := ⟨tt.toNat, by omega⟩
  try simp_all_arith []
  refine take_spec p2 (by omega) (by decide) (by decide) fun k S3 k0 k1 p3 h3 => ?_
  have k1 : k < 7 := k1
  have w1 : way < 3 := w1
  try simp_all_arith []
  refine ⟨by decide, fun c0 hc0 => ?_⟩
  have hm : ∃ m : Nat, m ≤ 6 ∧ atI [D.int k, D.int 0, D.int 6] way = some (.int (m : Nat)) := by
    obtain ⟨j, rfl⟩ : ∃ j : Nat, way = (j : Nat) := ⟨way.toNat, by omega⟩
    match j, w1 with
    | 0, _ => exact ⟨k.toNat, by omega, by rw [show ((k.toNat : Nat) : Int) = k by omega]; rfl⟩
    | 1, _ => exact ⟨0, by omega, rfl⟩
    | 2, _ => exact ⟨6, by omega, rfl⟩
    | j + 3, h => exact absurd h (by omega)
  obtain ⟨m, hm6, hm⟩ := hm
  rw [updS_same, oIx_li]
  refine ⟨_, hm, ?_⟩
  try simp_all_arith []
  refine ⟨by omega, by omega, ?_⟩
  rw [Int.toNat_natCast]
  have g3 : Kp p S (updS S3 c0 (.lst [.int k, .int 0, .int 6])) := ((h1.trans h2).trans h3).trans (.new hc0)
  refine base_spec (p3.new hc0) hm6 (by omega) fun ys S4 hy hyl hl p4 h4 p5 hp5 => ⟨ys, updS_same, ?_, ?_⟩
  · rw [sum_ones hy, hl, show (Str.ofString "").length = 0 from by decide +kernel]
    omega
  have hB : (Txt.join "" ys).length ≤ 6 := by rw [len_join hy, hl]; exact hm6
  have hBl := join_lt hyl
  generalize Txt.join "" ys = B at hB hBl
  refine seq_i ?_
  try simp_all_arith []
  refine ⟨small_line (by omega), ?_⟩
  refine take_spec (p4.new hp5) (by omega) (by omega) ?_ fun sp S6 s0 s1 p6 h6 => ?_
  · have : ((B.length : Int) + 1).natAbs ≤ 7 := by omega
    refine Nat.lt_of_le_of_lt (Nat.log2_le_self _) (by omega)
  obtain ⟨sp, rfl⟩ : ∃ j : Nat, sp = (j : Nat) := ⟨sp.toNat, by omega⟩
  refine seq_i ?_
  try simp_all_arith []
  refine ⟨nil_line, fun a ha => seq_i ?_⟩
  try simp_all_arith []
  refine ⟨by omega, by omega, ?_⟩
  have p7 := p6.new (o := .lst []) ha
  have g7 : Kp p S (updS S6 a (.lst [])) := ((g3.trans h4).trans (.new hp5)).trans (h6.trans (.new ha))
  have sa : S a = none := by
    have ⟨n1, _⟩ := p6.ne ha
    cases e : S a with
    | none => rfl
    | some o => have := (((g3.trans h4).trans (.new hp5)).trans h6) a o n1 e; rw [ha] at this; cases this
  have ⟨nap, nac⟩ := p6.ne ha
  have ha0 : updS S6 a (.lst []) a = some (.lst []) := updS_same
  generalize updS S6 a (.lst []) = S7 at p7 g7 ha0
  have bump : b + 1 + 1 + 1 + m + 1 ≤ b + 10 := by omega
  refine forR_inv 0 n (fun i σ S' => (∃ u8 u10 u11, σ = [some (.ref p), some (.int (n : Nat)), some (.str abc), some (.int way), some (.int (t : Nat)), some (.str B), some (.int (sp : Nat)), some (.ref a), u8, none, u10, u11]) ∧ Pen S' p pc (b + 10) ∧ Kp p S S' ∧ S' a = some (.lst ((namesS way B.cps.toList sp t i).map .str)))
    (fun _ _ _ _ => trivial) (fun i σ S' N hi hI hN => ?turn) (fun σ S' hI => ?fin) ⟨⟨none, none, none, rfl⟩, p7.mono (by omega), g7, ha0⟩
  case turn =>
    obtain ⟨⟨u8, u10, u11, rfl⟩, pi, gi, ai⟩ := hI
    try simp_all_arith []
    rw [Int.zero_add]
    refine name_turn (by omega) (by omega) hB (by omega) ai (by rw [List.length_map]; unfold namesS; rw [List.length_map, List.length_range]; omega) fun u11 => ?_
    refine hN _ _ ⟨⟨_, _, _, rfl⟩, ?_, ?_, ?_⟩
    · obtain ⟨ns, y, l, e1, e3, e4⟩ := pi.ex
      exact ⟨ns, y, l, by rw [updS_ne (Ne.symm nap)]; exact e1, by rw [updS_ne (Ne.symm nac)]; exact e3, e4⟩
    · intro z o hz e
      rw [updS_ne (neS e sa)]
      exact gi z o hz e
    · rw [updS_same]
      unfold namesS
      rw [List.range_succ, List.map_append, List.map_append]
      rfl
  case fin =>
    obtain ⟨⟨u8, u10, u11, rfl⟩, pi, gi, ai⟩ := hI
    refine seq_i ?_
    try simp_all_arith []
    refine ⟨by decide, fun c hc => ?_⟩
    have ⟨ncp, ncc⟩ := pi.ne hc
    have nca : c ≠ a := Ne.symm (neS ai hc)
    generalize hS9 : updS S' c _ = S9
    have pc1 : Pen S9 p pc (b + 10) := by rw [← hS9]; exact pi.new hc
    have ac1 : S9 a = some (.lst ((namesS way B.cps.toList sp t n).map .str)) := by rw [← hS9, updS_ne (Ne.symm nca)]; exact ai
    have cc1 : S9 c = some (.lst (termsL.map .str)) := by rw [← hS9, updS_same]; rfl
    have gc1 : Kp p S S9 := by rw [← hS9]; exact gi.trans (.new hc)
    have hz : NmOk (namesS way B.cps.toList sp t n) := by
      refine ⟨names_nodup (by omega), fun z hz => ?_⟩
      unfold namesS at hz
      obtain ⟨k, hk, rfl⟩ := List.mem_map.mp hz
      rw [List.mem_range] at hk
      unfold nameS
      have := nameL_len8 (way := way) (B := B.cps.toList) (sp := sp) (t := t) (k := k) (by rw [Array.length_toList]; exact hB) (by omega)
      refine ⟨by rw [ofL_len]; exact this.1, by rw [ofL_len]; exact this.2, ?_⟩
      have e : (ofL (nameL way B.cps.toList sp t k)).cps.toList = nameL way B.cps.toList sp t k := by unfold ofL; simp
      rw [e]
      exact nameL_lt hBl
    have hzl : (namesS way B.cps.toList sp t n).length = n := by unfold namesS; rw [List.length_map, List.length_range]
    generalize namesS way B.cps.toList sp t n = zs at hz hzl ac1
    simp_all_arith [t_wnames_18]
    refine seq_i ?_
    simp_all_arith []
    refine take_spec pc1 (by omega) (by decide) (by decide) fun k9 S10 _ _ p10 h10 => ?_
    simp_all_arith []
    have a10 := h10 _ _ nap ac1
    have c10 := h10 _ _ ncp cc1
    have g10 := gc1.trans h10
    by_cases h9 : k9 = 0
    · rw [if_pos h9]
      obtain ⟨mn, emn, m9, mnn⟩ : ∃ mn : Nat, (if (9 : Int) < (n : Int) then (9 : Int) else (n : Int)) = (mn : Nat) ∧ mn ≤ 9 ∧ mn ≤ n := by
        by_cases h : (9 : Int) < (n : Int)
        · exact ⟨9, if_pos h, by omega, by omega⟩
        · exact ⟨n, if_neg h, by omega, by omega⟩
      rw [emn, Int.toNat_natCast]
      refine ⟨by omega, by omega, ?_⟩
      refine forR_inv 0 mn (fun i σ S' => ∃ zs2 : List Str, (∃ u8, σ = [some (.ref p), some (.int (n : Nat)), some (.str abc), some (.int way), some (.int (t : Nat)), some (.str B), some (.int (sp : Nat)), some (.ref a), u8, some (.ref c), u10, u11]) ∧ NmOk zs2 ∧ zs2.length = n ∧ Pen S' p pc (b + 11 + i) ∧ S' a = some (.lst (zs2.map .str)) ∧ S' c = some (.lst (termsL.map .str)) ∧ Kp p S S')
        (fun _ _ _ _ => trivial) (fun i σ S' N hi hI hN => ?turn2) (fun σ S' hI => ?fin2) ⟨zs, ⟨u8, rfl⟩, hz, hzl, p10.mono (by omega), a10, c10, g10⟩
      case turn2 =>
        obtain ⟨zs2, ⟨u8, rfl⟩, hz2, hzl2, pi2, ai2, ci2, gi2⟩ := hI
        simp_all_arith []
        rw [Int.zero_add]
        refine term_turn pi2 (by omega) ai2 ci2 nap nac ncp nca hz2 (by omega) (by omega) fun zs3 S12 hz3 hl3 p12 a12 c12 k12 => hN _ _ ⟨zs3, ⟨_, rfl⟩, hz3, by omega, p12.mono (by omega), a12, c12, fun z o hzp e => k12 z o hzp (neS e sa) (gi2 z o hzp e)⟩
      case fin2 =>
        obtain ⟨zs2, ⟨u8, rfl⟩, hz2, hzl2, pi2, ai2, ci2, gi2⟩ := hI
        simp_all_arith [t_wnames_22]
        exact q a zs2 S' hz2 hzl2 (pi2.mono (by omega)) ai2 sa gi2
    · rw [if_neg h9]
      try simp_all_arith [t_wnames_22]
      exact q a zs S10 hz hzl (p10.mono (by omega)) a10 sa g10
end LW
namespace LW
open PySem L2 DL
/-- bounds of what is taken by -/
theorem log_small {x : Int} (h0 : 0 ≤ x) (h : x ≤ 100000000000) : x.natAbs.log2 < 9000 := by
  by_cases hz : x.natAbs = 0
  · rw [hz]; decide
  · rw [Nat.log2_lt hz]
    have h1 : x.natAbs ≤ 100000000000 := by omega
    have : (2 : Nat) ^ 240 ≤ 2 ^ 9000 := Nat.pow_le_pow_right (by decide) (by decide)
    have e : (2 : Nat) ^ 240 = 1766847064778384329583297500742918515827483896875618958121606201292619776 := by decide +kernel
    exact Nat.lt_of_lt_of_le (by rw [e]; omega) this
theorem number_spec {p pc : Addr} {b : Nat} {lo hi : Int} {S : Sto} {Q : DK} (h : Pen S p pc b) (hb : b + 3 ≤ 100000) (h0 : 0 ≤ lo) (hl : lo ≤ hi) (hh : hi ≤ 10000000000)
    (q : ∀ (v : Int) (S' : Sto), lo ≤ v → v ≤ hi → Pen S' p pc (b + 3) → Kp p S S' → Q (.int v) S') : m_wnumber [.ref p, .int lo, .int hi] S Q := by
  rw [e_wnumber]
  refine seq_i ?_
  try simp_all_arith []
  refine take_spec h (by omega) (by decide) (by decide) fun way S1 w0 w1 p1 h1 => seq_i ?_
  have w1 : way < 4 := w1
  try simp_all_arith []
  obtain ⟨mn, emn, m0, m12, mh⟩ : ∃ mn : Int, (if hi - lo + 1 < 12 then hi - lo + 1 else 12) = mn ∧ 0 < mn ∧ mn ≤ 12 ∧ mn ≤ hi - lo + 1 := by
    by_cases h : hi - lo + 1 < 12
    · exact ⟨_, if_pos h, by omega, by omega, by omega⟩
    · exact ⟨_, if_neg h, by omega, by omega, by omega⟩
  rw [emn]
  refine take_spec p1 (by omega) m0 (log_small (by omega) (by omega)) fun k1 S2 a1 b1 p2 h2 => ?_
  try simp_all_arith []
  refine ret_i ?_
  try simp_all_arith []
  refine take_spec p2 (by omega) (by omega) (log_small (by omega) (by omega)) fun k2 S3 a2 b2 p3 h3 => ?_
  try simp_all_arith []
  refine ⟨by decide, fun c hc => ?_⟩
  try simp_all_arith []
  rw [updS_same, oIx_li]
  have g : Kp p S (updS S3 c (.lst [.int lo, .int hi, .int (lo + k1), .int (lo + k2)])) := ((h1.trans h2).trans h3).trans (.new hc)
  have pn := p3.new (o := .lst [.int lo, .int hi, .int (lo + k1), .int (lo + k2)]) hc
  obtain ⟨j, rfl⟩ : ∃ j : Nat, way = (j : Nat) := ⟨way.toNat, by omega⟩
  match j, w1 with
  | 0, _ => exact ⟨_, rfl, q _ _ (by omega) (by omega) pn g⟩
  | 1, _ => exact ⟨_, rfl, q _ _ (by omega) (by omega) pn g⟩
  | 2, _ => exact ⟨_, rfl, q _ _ (by omega) (by omega) pn g⟩
  | 3, _ => exact ⟨_, rfl, q _ _ (by omega) (by omega) pn g⟩
  | j + 4, h => exact absurd h (by omega)
theorem cut_strs (zs : List Str) (n : Nat) : cutL (zs.map D.str) none (some (n : Int)) = (zs.take n).map D.str := by
  unfold cutL
  rw [HT.sIx_none, show HT.sIx (zs.map D.str).length (zs.map D.str).length (some (n : Int)) = min n (zs.map D.str).length from HT.sIx_nat _ _ n]
  rw [List.drop_zero, Nat.sub_zero, List.length_map, List.map_take]
  by_cases h : n ≤ zs.length
  · rw [Nat.min_eq_left h]
  · rw [Nat.min_eq_right (by omega), List.take_of_length_le (by rw [List.length_map]; exact Nat.le_refl _), List.take_of_length_le (by rw [List.length_map]; omega)]
theorem NmOk.take {zs : List Str} (h : NmOk zs) (n : Nat) : NmOk (zs.take n) := ⟨h.nd.sublist (List.take_sublist _ _), fun z hz => h.nm z (List.mem_of_mem_take hz)⟩
/-- a list of texts, apart from the pen -/
structure Txs (S : Sto) (p a : Addr) (zs : List Str) : Prop where
  at_ : S a = some (.lst (zs.map .str))
  ne : a ≠ p
  ok : NmOk zs
theorem Txs.kp {S S' : Sto} {p a : Addr} {zs : List Str} (h : Txs S p a zs) (k : Kp p S S') : Txs S' p a zs := ⟨k _ _ h.ne h.at_, h.ne, h.ok⟩
theorem Txs.new {S : Sto} {p a c : Addr} {zs : List Str} {o : O} (h : Txs S p a zs) (hc : S c = none) : Txs (updS S c o) p a zs := h.kp (.new hc)
theorem sorts_spec {p pc : Addr} {b nf nr : Nat} {S : Sto} {Q : DK} (h : Pen S p pc b) (hb : b + 100 ≤ 100000) (h1 : nf ≤ 10) (h2 : nr ≤ 44)
    (q : ∀ (f pl ho na : Addr) (fs ps hs ns : List Str) (S' : Sto), Txs S' p f fs → Txs S' p pl ps → Txs S' p ho hs → Txs S' p na ns → fs.length = nf → ps.length = 10 → hs.length = 5 → ns.length = nr → Pen S' p pc (b + 90) → Kp p S S' → Q (.tup [.ref f, .ref pl, .ref ho, .ref na]) S') :
    m_wsorts [.ref p, .int (nf : Nat), .int (nr : Nat)] S Q := by
  rw [e_wsorts]
  refine seq_i ?_
  try simp_all_arith []
  refine take_spec h (by omega) (by decide) (by decide) fun k S1 _ _ p1 g1 => ?_
  simp_all_arith []
  by_cases hk : k = 0
  · rw [if_pos hk]
    refine seq_i ?_
    try simp_all_arith []
    refine names_spec (n := 44) p1 (by omega) (by omega) fun a zs S2 ok hl p2 ha hn g2 => ?_
    have nap := (p1.ne hn).1
    have t0 : Txs S2 p a zs := ⟨ha, nap, ok⟩
    simp_all_arith [t_wsorts_3]
    refine ⟨_, ha, fun c1 hc1 => ?_⟩
    rw [cut_strs]
    have t1 := t0.new (o := .lst ((zs.take nf).map .str)) hc1
    have q1 := p2.new (o := .lst ((zs.take nf).map .str)) hc1
    have k1 : Txs (updS S2 c1 (.lst ((zs.take nf).map .str))) p c1 (zs.take nf) := ⟨updS_same, (p2.ne hc1).1, ok.take _⟩
    have f1 : Kp p S (updS S2 c1 (.lst ((zs.take nf).map .str))) := (g1.trans g2).trans (.new hc1)
    generalize updS S2 c1 (.lst ((zs.take nf).map .str)) = S3 at t1 q1 k1 f1
    refine ⟨_, t1.at_, fun c2 hc2 => ?_⟩
    rw [show (10 : Int) = ((10 : Nat) : Int) from rfl, cut_strs]
    have t2 := t1.new (o := .lst ((zs.take 10).map .str)) hc2
    have q2 := q1.new (o := .lst ((zs.take 10).map .str)) hc2
    have k1 := k1.new (o := .lst ((zs.take 10).map .str)) hc2
    have k2 : Txs (updS S3 c2 (.lst ((zs.take 10).map .str))) p c2 (zs.take 10) := ⟨updS_same, (q1.ne hc2).1, ok.take _⟩
    have f2 : Kp p S (updS S3 c2 (.lst ((zs.take 10).map .str))) := f1.trans (.new hc2)
    generalize updS S3 c2 (.lst ((zs.take 10).map .str)) = S4 at t2 q2 k1 k2 f2
    refine ⟨_, t2.at_, fun c3 hc3 => ?_⟩
    rw [show (5 : Int) = ((5 : Nat) : Int) from rfl, cut_strs]
    have t3 := t2.new (o := .lst ((zs.take 5).map .str)) hc3
    have q3 := q2.new (o := .lst ((zs.take 5).map .str)) hc3
    have k1 := k1.new (o := .lst ((zs.take 5).map .str)) hc3
    have k2 := k2.new (o := .lst ((zs.take 5).map .str)) hc3
    have k3 : Txs (updS S4 c3 (.lst ((zs.take 5).map .str))) p c3 (zs.take 5) := ⟨updS_same, (q2.ne hc3).1, ok.take _⟩
    have f3 : Kp p S (updS S4 c3 (.lst ((zs.take 5).map .str))) := f2.trans (.new hc3)
    generalize updS S4 c3 (.lst ((zs.take 5).map .str)) = S5 at t3 q3 k1 k2 k3 f3
    refine ⟨_, t3.at_, fun c4 hc4 => ⟨by decide, ?_⟩⟩
    rw [cut_strs]
    exact q c1 c2 c3 c4 (zs.take nf) (zs.take 10) (zs.take 5) (zs.take nr) _ (k1.new hc4) (k2.new hc4) (k3.new hc4) ⟨updS_same, (q3.ne hc4).1, ok.take _⟩ (by rw [List.length_take]; omega) (by rw [List.length_take]; omega) (by rw [List.length_take]; omega) (by rw [List.length_take]; omega) ((q3.new hc4).mono (by omega)) (f3.trans (.new hc4))
  · rw [if_neg hk]
    simp_all_arith [t_wsorts_4]
    refine seq_i ?_
    try simp_all_arith []
    refine names_spec (n := 10) p1 (by omega) (by omega) fun a zs S2 ok hl p2 ha hn g2 => ?_
    have nap := (p1.ne hn).1
    simp_all_arith [t_wsorts_5]
    refine seq_i ?_
    try simp_all_arith []
    refine names_spec (n := 5) p2 (by omega) (by omega) fun a2 zs2 S3 ok2 hl2 p3 ha2 hn2 g3 => ?_
    have nap2 := (p2.ne hn2).1
    simp_all_arith [t_wsorts_6]
    refine names_spec p3 (by omega) (by omega) fun a3 zs3 S4 ok3 hl3 p4 ha3 hn3 g4 => ?_
    have nap3 := (p3.ne hn3).1
    refine names_spec p4 (by omega) h2 fun a4 zs4 S5 ok4 hl4 p5 ha4 hn4 g5 => ?_
    have nap4 := (p4.ne hn4).1
    refine ⟨by decide, q a3 a a2 a4 zs3 zs zs2 zs4 S5 ⟨g5 _ _ nap3 ha3, nap3, ok3⟩ ⟨g5 _ _ nap (g4 _ _ nap (g3 _ _ nap ha)), nap, ok⟩ ⟨g5 _ _ nap2 (g4 _ _ nap2 ha2), nap2, ok2⟩ ⟨ha4, nap4, ok4⟩ hl3 hl hl2 hl4 (p5.mono (by omega)) (g1.trans (g2.trans (g3.trans (g4.trans g5))))⟩
end LW
namespace LW
open PySem L2 DL
theorem get_str {zs : List Str} {i : Int} (h0 : 0 ≤ i) (h : i < zs.length) : ∃ z, atI (zs.map D.str) i = some (.str z) ∧ z ∈ zs := by
  obtain ⟨k, rfl⟩ : ∃ k : Nat, i = (k : Nat) := ⟨i.toNat, by omega⟩
  have hl : k < zs.length := by omega
  refine ⟨zs[k], atI_nat ?_, List.getElem_mem hl⟩
  rw [List.getElem?_map]
  simp [hl]
theorem powI {i j : Int} (h0 : 0 ≤ j) (h1 : j ≤ 1000) (h2 : 0 ≤ i) (h3 : i ≤ 1000) : CPow i j := powS h0 (by omega) (by omega) (by omega)
/-- a field of a laying -/
structure Fd where
  f : Str
  h : Str
  a : Int
  n : Int
def Fd.D (x : Fd) : DL.D := .tup [.str x.f, .str x.h, .int x.a, .int x.n]
structure Fd.ok (x : Fd) : Prop where
  hf : Nm x.f
  hh : Nm x.h
  a1 : 1 ≤ x.a
  a2 : x.a ≤ 1000000
  n1 : 0 ≤ x.n
  n2 : x.n ≤ 10000000
theorem laying_spec {p pc f ho : Addr} {b : Nat} {fs hs : List Str} {S : Sto} {Q : DK} (h : Pen S p pc b) (hb : b + 100 ≤ 100000) (tf : Txs S p f fs) (th : Txs S p ho hs) (hf : fs.length ≤ 10) (hh : 0 < hs.length) (hh2 : hs.length ≤ 100)
    (q : ∀ (xs : List Fd) (S' : Sto), xs.map (·.f) = fs → (∀ x ∈ xs, x.ok) → Pen S' p pc (b + 90) → Kp p S S' → Q (.tup (xs.map Fd.D)) S') : m_wlaying [.ref p, .ref f, .ref ho] S Q := by
  rw [e_wlaying]
  refine seq_i ?_
  try simp_all_arith []
  refine ⟨nil_line, fun a ha => ?_⟩
  have na := h.ne ha
  have tf1 := tf.new (o := .lst []) ha
  have th1 := th.new (o := .lst []) ha
  have p1 := h.new (o := .lst []) ha
  have g1 : Kp p S (updS S a (.lst [])) := .new ha
  have a1 : updS S a (.lst []) a = some (.lst []) := updS_same
  generalize updS S a (.lst []) = S1 at tf1 th1 p1 g1 a1
  have nfa : f ≠ a := neS tf.at_ ha
  have nha : ho ≠ a := neS th.at_ ha
  simp_all_arith [t_wlaying_2]
  refine seq_i ?_
  try simp_all_arith []
  refine ⟨_, tf1.at_, ?_⟩
  refine forL_inv _ (fun i σ S' => (∃ u4 u5, σ = [some (.ref p), some (.ref f), some (.ref ho), some (.ref a), u4, u5]) ∧ Pen S' p pc (b + 7 * i) ∧ Kp p S S' ∧ S' f = some (.lst (fs.map .str)) ∧ S' ho = some (.lst (hs.map .str)) ∧ ∃ xs : List Fd, S' a = some (.lst (xs.map Fd.D)) ∧ xs.map (·.f) = fs.take i ∧ ∀ x ∈ xs, x.ok)
    (fun i σ S' hi => hi.2.2.2.1) (fun i x σ S' N hx hI hN => ?turn) (fun σ S' hI => ?fin) ⟨⟨_, _, rfl⟩, p1, g1, tf1.at_, th1.at_, [], a1, rfl, fun _ z => nomatch z⟩
  case turn =>
    obtain ⟨⟨u4, u5, rfl⟩, pi, gi, ef, eh, xs, ea, hxf, hok⟩ := hI
    have hi := (List.getElem?_eq_some_iff.mp hx).1
    rw [List.length_map] at hi
    have hx2 : fs[i]? = some fs[i] := List.getElem?_eq_getElem hi
    have ex : x = .str fs[i] := by rw [List.getElem?_map, hx2] at hx; exact (Option.some.inj hx).symm
    subst ex
    have hxl : xs.length = i := by have := congrArg List.length hxf; rw [List.length_map, List.length_take] at this; omega
    simp_all_arith [l_wlaying_2]
    refine seq_i ?_
    simp_all_arith [eh, List.length_map]
    refine take_spec pi (by omega) (by omega) (log_small (by omega) (by omega)) fun j S2 a2 b2 p2 g2 => ?_
    obtain ⟨z, ez, hzm⟩ := get_str a2 b2
    rw [g2 _ _ th.ne eh, oIx_li]
    refine ⟨_, ez, ?_⟩
    simp_all_arith [t_wlaying_4]
    have na2 : a ≠ p := na.1
    have a2' := g2 _ _ na2 ea
    rw [a2']
    rw [show (10 : Int) ^ Int.toNat 6 = 1000000 from by decide +kernel, show (10 : Int) ^ Int.toNat 7 = 10000000 from by decide +kernel]
    refine ⟨rfl, powI (by decide) (by decide) (by decide) (by decide), number_spec p2 (by omega) (by decide) (by decide) (by decide) fun v1 S3 l1 m1 p3 g3 => ⟨powI (by decide) (by decide) (by decide) (by decide), number_spec p3 (by omega) (by decide) (by decide) (by decide) fun v2 S4 l2 m2 p4 g4 => ⟨by decide, xs.map Fd.D, (g4 _ _ na2 (g3 _ _ na2 a2')), by rw [List.length_map]; exact Nat.lt_of_lt_of_le (show xs.length < 401 by omega) (by decide), ?_⟩⟩⟩
    have gg := g2.trans (g3.trans g4)
    refine hN _ _ ⟨⟨_, _, rfl⟩, ?_, fun y o hy e2 => by rw [updS_ne (neS e2 ha)]; exact gg y o hy (gi y o hy e2), by rw [updS_ne nfa]; exact gg _ _ tf.ne ef, by rw [updS_ne nha]; exact gg _ _ th.ne eh, xs ++ [⟨fs[i], z, v1, v2⟩], by rw [updS_same, List.map_append]; rfl, by rw [List.map_append, hxf, List.take_succ, hx2]; rfl, fun y hy => ?_⟩
    rotate_left
    · rcases List.mem_append.mp hy with hy | hy
      · exact hok y hy
      · rw [List.mem_singleton] at hy
        subst hy
        exact ⟨tf.ok.nm _ (List.getElem_mem hi), th.ok.nm _ hzm, l1, m1, l2, m2⟩
    obtain ⟨ns, y, l, e1, e3, e4⟩ := (p4.mono (b2 := b + 7 * (i + 1)) (by omega)).ex
    exact ⟨ns, y, l, by rw [updS_ne (Ne.symm na.1)]; exact e1, by rw [updS_ne (Ne.symm na.2)]; exact e3, e4⟩
  case fin =>
    obtain ⟨⟨u4, u5, rfl⟩, pi, gi, ef, eh, xs, ea, hxf, hok⟩ := hI
    rw [List.length_map] at pi hxf
    rw [List.take_of_length_le (Nat.le_refl _)] at hxf
    simp_all_arith [t_wlaying_5]
    exact ⟨xs.map Fd.D, ea, q xs S' hxf hok (pi.mono (by omega)) gi⟩
end LW
namespace LW
open PySem L2 DL
/-- a list of days, apart from the pen -/
structure Dys (S : Sto) (p a : Addr) (ds : List Int) : Prop where
  at_ : S a = some (.lst (ds.map .int))
  ne : a ≠ p
  ok : ∀ d ∈ ds, 0 ≤ d ∧ d ≤ 9999
theorem Dys.kp {S S' : Sto} {p a : Addr} {zs : List Int} (h : Dys S p a zs) (k : Kp p S S') : Dys S' p a zs := ⟨k _ _ h.ne h.at_, h.ne, h.ok⟩
theorem get_int {ds : List Int} {i : Int} (h0 : 0 ≤ i) (h : i < ds.length) (ok : ∀ d ∈ ds, 0 ≤ d ∧ d ≤ 9999) : ∃ z, atI (ds.map D.int) i = some (.int z) ∧ 0 ≤ z ∧ z ≤ 9999 := by
  obtain ⟨k, rfl⟩ : ∃ k : Nat, i = (k : Nat) := ⟨i.toNat, by omega⟩
  have hl : k < ds.length := by omega
  refine ⟨ds[k], atI_nat ?_, ok _ (List.getElem_mem hl)⟩
  rw [List.getElem?_map]
  simp [hl]
theorem wdays_spec {p pc : Addr} {b n : Nat} {S : Sto} {Q : DK} (h : Pen S p pc b) (hb : b + 200 ≤ 100000) (hn : n ≤ 44)
    (q : ∀ (a : Addr) (ds : List Int) (S' : Sto), Dys S' p a ds → ds.length = n → Pen S' p pc (b + 110) → Kp p S S' → Q (.ref a) S') : m_wdays [.ref p, .int (n : Nat)] S Q := by
  rw [e_wdays]
  refine seq_i ?_
  try simp_all_arith []
  refine take_spec h (by omega) (by decide) (by decide) fun way S1 _ _ p1 g1 => ?_
  simp_all_arith [t_wdays_2]
  refine seq_i ?_
  try simp_all_arith []
  refine take_spec p1 (by omega) (by decide) (by decide) fun k1 S2 a1 b1 p2 g2 => ?_
  refine take_spec p2 (by omega) (by decide) (by decide) fun k2 S3 a2 b2 p3 g3 => ?_
  have b1 : k1 < 10000 := b1
  have b2 : k2 < 10000 := b2
  refine ⟨by decide, fun c hc => ?_⟩
  have dc : Dys (updS S3 c (.lst ([0, 1, 9, 9999, k1, k2].map .int))) p c [0, 1, 9, 9999, k1, k2] := ⟨updS_same, (p3.ne hc).1, fun d hd => by
    simp only [List.mem_cons, List.not_mem_nil, or_false] at hd
    rcases hd with rfl | rfl | rfl | rfl | rfl | rfl <;> omega⟩
  generalize hS4 : updS S3 c _ = S4
  have dc : Dys S4 p c [0, 1, 9, 9999, k1, k2] := by rw [← hS4]; exact dc
  have p4 : Pen S4 p pc (b + 1 + 1 + 1) := by rw [← hS4]; exact p3.new hc
  have g4 : Kp p S S4 := by rw [← hS4]; exact ((g1.trans g2).trans g3).trans (.new hc)
  simp_all_arith [t_wdays_3]
  refine seq_i ?_
  try simp_all_arith []
  refine take_spec p4 (by omega) (by decide) (by decide) fun k3 S5 a3 b3 p5 g5 => ?_
  have b3 : k3 < 4 := b3
  try simp_all_arith []
  refine ⟨by omega, by omega, ?_⟩
  have dc5 := dc.kp g5
  have g6 := g4.trans g5
  refine lcL_inv _ (fun i acc S' => Pen S' p pc (b + 4 + i) ∧ Kp p S5 S' ∧ ∃ ys : List Int, acc = ys.map .int ∧ ys.length = i ∧ ∀ d ∈ ys, 0 ≤ d ∧ d ≤ 9999) (fun _ _ _ _ => trivial) (fun i x acc S6 N hx hI hN => ?el) (fun acc S6 hI => ?af) ⟨p5, .refl, [], rfl, rfl, fun _ h => nomatch h⟩
  case el =>
    obtain ⟨p6, g7, ys, rfl, hl, hy⟩ := hI
    have hi := (List.getElem?_eq_some_iff.mp hx).1
    rw [rangeD_len] at hi
    simp_all_arith [c_wdays_3]
    refine take_spec p6 (by omega) (by decide) (by decide) fun j S7 a4 b4 p7 g8 => ?_
    rw [(dc5.kp (g7.trans g8)).at_, oIx_li]
    obtain ⟨z, ez, z0, z1⟩ := get_int (ds := [0, 1, 9, 9999, k1, k2]) a4 b4 dc.ok
    refine ⟨_, ez, by rw [List.length_map, hl]; exact Nat.lt_of_lt_of_le (show i < 401 by omega) (by decide), hN _ _ ⟨p7, g7.trans g8, ys ++ [z], by rw [List.map_append]; rfl, by rw [List.length_append, hl]; rfl, fun d hd => ?_⟩⟩
    rcases List.mem_append.mp hd with hd | hd
    · exact hy d hd
    · rw [List.mem_singleton] at hd; subst hd; exact ⟨z0, z1⟩
  case af =>
    obtain ⟨p6, g7, few, rfl, hl, hy⟩ := hI
    rw [rangeD_len] at hl p6
    intro e he
    have df : Dys (updS S6 e (.lst (few.map .int))) p e few := ⟨updS_same, (p6.ne he).1, hy⟩
    have p8 := p6.new (o := .lst (few.map .int)) he
    have g8 : Kp p S (updS S6 e (.lst (few.map .int))) := (g6.trans g7).trans (.new he)
    generalize updS S6 e (.lst (few.map .int)) = S8 at df p8 g8
    simp_all_arith [t_wdays_4]
    refine seq_i ?_
    try simp_all_arith []
    refine ⟨nil_line, fun a ha => ?_⟩
    have da : Dys (updS S8 a (.lst (([] : List Int).map .int))) p a [] := ⟨updS_same, (p8.ne ha).1, fun _ h => nomatch h⟩
    have nac := (p8.ne ha).2
    have ea : e ≠ a := neS df.at_ ha
    generalize hS9 : updS S8 a _ = S9
    have da : Dys S9 p a [] := by rw [← hS9]; exact da
    have df : Dys S9 p e few := by rw [← hS9]; exact df.kp (.new ha)
    have p9 : Pen S9 p pc (b + 14) := by rw [← hS9]; exact (p8.new ha).mono (by omega)
    have sa : S a = none := by
      cases e2 : S a with
      | none => rfl
      | some o => have := g8 a o (p8.ne ha).1 e2; rw [ha] at this; cases this
    have g9 : Kp p S S9 := by rw [← hS9]; exact g8.trans (.new ha)
    simp_all_arith [t_wdays_5]
    refine seq_i ?_
    try simp_all_arith []
    refine ⟨by omega, by omega, ?_⟩
    rw [Int.toNat_natCast]
    refine forR_inv 0 n (fun i σ S' => ∃ ds : List Int, (∃ u6, σ = [some (.ref p), some (.int (n : Nat)), some (.int way), some (.ref c), some (.ref e), some (.ref a), u6]) ∧ ds.length = i ∧ Dys S' p a ds ∧ Dys S' p e few ∧ Pen S' p pc (b + 14 + 2 * i) ∧ Kp p S S') (fun _ _ _ _ => trivial) (fun i σ S' N hi hI hN => ?turn) (fun σ S' hI => ?fin) ⟨[], ⟨none, rfl⟩, rfl, da, df, p9, g9⟩
    case turn =>
      obtain ⟨ds, ⟨u6, rfl⟩, hdl, dai, dfi, pi, gi⟩ := hI
      simp_all_arith [l_wdays_5, dai.at_, dfi.at_]
      have pos : 0 < few.length := by omega
      have hfl : few.length ≤ 4 := by omega
      rw [List.length_map]
      refine take_spec pi (by omega) (by omega) (log_small (by omega) (by omega)) fun j1 S10 a5 b5 p10 g10 => ?_
      have df10 := dfi.kp g10
      obtain ⟨z, ez, z0, z1⟩ := get_int a5 b5 df10.ok
      rw [df10.at_, oIx_li]
      refine ⟨_, ez, ?_⟩
      refine take_spec p10 (by omega) (by decide) (by decide) fun j2 S11 a6 b6 p11 g11 => ?_
      have b6 : j2 < 10000 := b6
      have da11 := (dai.kp g10).kp g11
      have df11 := df10.kp g11
      refine ⟨by decide, fun r hr => ?_⟩
      have hpick : ∃ v, atI [D.int z, D.int j2] (if way = 0 then 1 else 0) = some (.int v) ∧ 0 ≤ v ∧ v ≤ 9999 := by
        by_cases hw : way = 0
        · rw [if_pos hw]; exact ⟨_, rfl, by omega, by omega⟩
        · rw [if_neg hw]; exact ⟨_, rfl, z0, z1⟩
      obtain ⟨v, ev, v0, v1⟩ := hpick
      rw [updS_same, oIx_li]
      refine ⟨_, ev, ?_⟩
      have da12 := da11.kp (.new (o := .lst [.int z, .int j2]) hr)
      have df12 := df11.kp (.new (o := .lst [.int z, .int j2]) hr)
      have p12 := p11.new (o := .lst [.int z, .int j2]) hr
      have g12 : Kp p S (updS S11 r (.lst [.int z, .int j2])) := ((gi.trans g10).trans g11).trans (.new hr)
      generalize updS S11 r (.lst [.int z, .int j2]) = S12 at da12 df12 p12 g12
      refine ⟨_, da12.at_, by rw [List.length_map]; exact Nat.lt_of_lt_of_le (show ds.length < 401 by omega) (by decide), hN _ _ ⟨ds ++ [v], ⟨_, rfl⟩, by rw [List.length_append, hdl]; rfl, ⟨by rw [updS_same, List.map_append]; rfl, da12.ne, fun d hd => ?_⟩, ⟨by rw [updS_ne ea]; exact df12.at_, df12.ne, df12.ok⟩, ?_, fun y o hy e2 => by rw [updS_ne (neS e2 sa)]; exact g12 y o hy e2⟩⟩
      · rcases List.mem_append.mp hd with hd | hd
        · exact da12.ok d hd
        · rw [List.mem_singleton] at hd; subst hd; exact ⟨v0, v1⟩
      · obtain ⟨ns, y, l, e1, e3, e4⟩ := (p12.mono (b2 := b + 14 + 2 * (i + 1)) (by omega)).ex
        exact ⟨ns, y, l, by rw [updS_ne (Ne.symm da12.ne)]; exact e1, by rw [updS_ne (Ne.symm nac)]; exact e3, e4⟩
    case fin =>
      obtain ⟨ds, ⟨u6, rfl⟩, hdl, dai, dfi, pi, gi⟩ := hI
      simp_all_arith [t_wdays_7]
      exact q a ds S' dai hdl (pi.mono (by omega)) gi
end LW
namespace LW
open PySem L2 DL
/-- texts, each less than those behind it -/
def Rise (zs : List Str) : Prop := zs.Pairwise fun a b => a.cps.toList < b.cps.toList
theorem Rise.nodup {zs : List Str} (h : Rise zs) : zs.Nodup := h.imp fun {a b} hab e => by subst e; exact absurd hab (List.lt_irrefl _)
theorem pop_perm {α : Type} : ∀ (l : List α) (k : Nat) (h : k < l.length), (l[k] :: l.eraseIdx k).Perm l
  | [], _, h => absurd h (by simp)
  | x :: r, 0, _ => .refl _
  | x :: r, k + 1, h => by
    have ih := pop_perm r k (by simpa using h)
    show (r[k]'(by simpa using h) :: x :: r.eraseIdx k).Perm (x :: r)
    exact (List.Perm.swap ..).trans (ih.cons x)
theorem strs_inj : ∀ {a b : List Str}, a.map D.str = b.map D.str → a = b
  | [], [], _ => rfl
  | [], _ :: _, h => by cases h
  | _ :: _, [], h => by cases h
  | x :: a, y :: b, h => by
    rw [List.map_cons, List.map_cons] at h
    injection h with h1 h2
    injection h1 with h3
    rw [h3, strs_inj h2]
theorem lt_iff : ∀ a b : List Nat, PySem.Spec.ltCps a b = true ↔ a < b
  | [], [] => by simp [PySem.Spec.ltCps]
  | [], b :: bs => by simp [PySem.Spec.ltCps]
  | a :: as, [] => by simp [PySem.Spec.ltCps]
  | a :: as, b :: bs => by
    rw [PySem.Spec.ltCps, List.cons_lt_cons_iff]
    have ih := lt_iff as bs
    by_cases h : a < b
    · simp [h]
    · by_cases h2 : a = b
      · subst h2; simp [h, ih]
      · simp [h, h2, ih]
theorem str_ext {a b : Str} (h : a.cps.toList = b.cps.toList) : a = b := by
  cases a; cases b
  simp at h
  rw [h]
theorem lt_or {a b : Str} (h : ¬ b.cps.toList < a.cps.toList) (ne : a ≠ b) : a.cps.toList < b.cps.toList := by
  have h1 : a.cps.toList ≤ b.cps.toList := h
  rcases List.le_iff_lt_or_eq.mp h1 with h2 | h2
  · exact h2
  · exact absurd (str_ext h2) ne
theorem rising_pw : ∀ (l : List Str) (x : Str), PyProof.Rows.risingS x l = true → (x :: l).Nodup → Rise (x :: l)
  | [], x, _, _ => by unfold Rise; simp
  | y :: r, x, h, hn => by
    rw [PyProof.Rows.risingS, Bool.and_eq_true] at h
    rw [List.nodup_cons] at hn
    have ih := rising_pw r y h.2 hn.2
    have hxy : x.cps.toList < y.cps.toList := lt_or (fun z => by
      have := (lt_iff _ _).mpr z
      rw [this] at h
      exact absurd h.1 (by decide)) fun e => hn.1 (by rw [e]; exact List.mem_cons_self ..)
    refine List.Pairwise.cons (fun z hz => ?_) ih
    rcases List.mem_cons.mp hz with rfl | hz
    · exact hxy
    · exact List.lt_trans hxy ((List.pairwise_cons.mp ih).1 z hz)
theorem rise_of {zs : List Str} (h : PyProof.Rows.sortedS zs = true) (hn : zs.Nodup) : Rise zs := by
  cases zs with
  | nil => exact List.Pairwise.nil
  | cons x l => exact rising_pw l x h hn
theorem erase_map {α β : Type} (f : α → β) : ∀ (l : List α) (k : Nat), (l.map f).eraseIdx k = (l.eraseIdx k).map f
  | [], _ => rfl
  | _ :: _, 0 => rfl
  | x :: r, k + 1 => by
    show f x :: (r.map f).eraseIdx k = f x :: (r.eraseIdx k).map f
    rw [erase_map f r k]
theorem some_spec {p pc pl : Addr} {b n : Nat} {ps : List Str} {S : Sto} {Q : DK} (h : Pen S p pc b) (hb : b + 100 ≤ 100000) (tp : Txs S p pl ps) (hp : ps.length = 10) (hn : n ≤ 6)
    (q : ∀ (a : Addr) (zs : List Str) (S' : Sto), S' a = some (.lst (zs.map .str)) → a ≠ p → zs.length = n → Rise zs → (∀ z ∈ zs, Nm z) → Pen S' p pc (b + 6) → Kp p S S' → Q (.ref a) S') : m_wsome [.ref p, .ref pl, .int (n : Nat)] S Q := by
  rw [e_wsome]
  refine seq_i ?_
  try simp_all_arith []
  refine ⟨_, tp.at_, fun l hl => ?_⟩
  have nl := h.ne hl
  have p1 := h.new (o := .lst (ps.map .str)) hl
  have g1 : Kp p S (updS S l (.lst (ps.map .str))) := .new hl
  have l1 : updS S l (.lst (ps.map .str)) l = some (.lst (ps.map .str)) := updS_same
  generalize updS S l (.lst (ps.map .str)) = S1 at p1 g1 l1
  simp_all_arith [t_wsome_2]
  refine seq_i ?_
  try simp_all_arith []
  refine ⟨by omega, by omega, ?_⟩
  rw [Int.toNat_natCast]
  refine lcL_inv _ (fun i acc S' => Pen S' p pc (b + i) ∧ Kp p S S' ∧ (∃ ys : List Str, acc = ys.map .str ∧ ys.length = i) ∧ ∃ left : List Str, S' l = some (.lst (left.map .str)) ∧ left.length = 10 - i ∧ ∀ ys : List Str, acc = ys.map .str → (ys ++ left).Perm ps) (fun _ _ _ _ => trivial) (fun i x acc S6 N hx hI hN => ?el) (fun acc S6 hI => ?af) ⟨p1, g1, ⟨[], rfl, rfl⟩, ps, l1, hp, fun ys e => by cases ys <;> first | exact .refl _ | cases e⟩
  case el =>
    obtain ⟨p6, g6, ⟨ys, rfl, hyl⟩, left, ll, hll, hpm⟩ := hI
    have hi := (List.getElem?_eq_some_iff.mp hx).1
    rw [rangeD_len] at hi
    simp_all_arith [c_wsome_2, ll, List.length_map]
    refine take_spec p6 (by omega) (by omega) (log_small (by omega) (by omega)) fun j S7 a7 b7 p7 g7 => ?_
    have ll7 := g7 _ _ nl.1 ll
    obtain ⟨k, rfl⟩ : ∃ k : Nat, j = (k : Nat) := ⟨j.toNat, by omega⟩
    have hk : k < left.length := by omega
    rw [gPopAt_r]
    have hg : (left.map D.str)[k]? = some (.str left[k]) := by rw [List.getElem?_map]; simp [hk]
    have hyz : ys.length < sizeLine := by rw [hyl]; exact Nat.lt_of_lt_of_le (show i < 401 by omega) (by decide)
    refine ⟨left.map .str, k, .str left[k], ll7, by omega, by omega, (ixN_seq (ixN_of (by rw [List.length_map]; exact hk))).1, hg, hyz, hN _ _ ⟨?_, fun y o hy e2 => by rw [updS_ne (neS e2 hl)]; exact g7 y o hy (g6 y o hy e2), ⟨ys ++ [left[k]], by rw [List.map_append]; rfl, by rw [List.length_append, hyl]; rfl⟩, left.eraseIdx k, by rw [updS_same, erase_map], by rw [List.length_eraseIdx_of_lt hk]; omega, fun ys2 e => ?_⟩⟩
    rotate_left
    · have e2 : ys2 = ys ++ [left[k]] := strs_inj (by rw [← e, List.map_append]; rfl)
      subst e2
      have h1 := hpm ys rfl
      rw [List.append_assoc]
      exact ((pop_perm left k hk).append_left ys).trans h1
    obtain ⟨ns, y, l2, e1, e3, e4⟩ := p7.ex
    exact ⟨ns, y, l2, by rw [updS_ne (Ne.symm nl.1)]; exact e1, by rw [updS_ne (Ne.symm nl.2)]; exact e3, e4⟩
  case af =>
    obtain ⟨p6, g6, ⟨ys, rfl, hyl⟩, left, ll, hll, hpm⟩ := hI
    rw [rangeD_len] at p6 hyl
    intro c hc
    simp_all_arith [t_wsome_3]
    refine .inl (.inr ⟨ys, updS_same, by omega, fun zs hp hs r hr => ?_⟩)
    have q1 := p6.new (o := .lst (ys.map .str)) hc
    refine q r zs _ updS_same (q1.ne hr).1 (by rw [hp.length_eq]; exact hyl) (rise_of hs ?_) (fun z hz => ?_) ((q1.new hr).mono (by omega)) ((g6.trans (.new hc)).trans (.new hr))
    · have h1 := (hpm ys rfl).nodup_iff.mpr tp.ok.nd
      rw [List.nodup_append] at h1
      exact hp.nodup_iff.mpr h1.1
    · exact tp.ok.nm z ((hpm ys rfl).mem_iff.mp (List.mem_append_left _ (hp.mem_iff.mp hz)))
end LW
namespace LW
open PySem L2 DL
/-- a part of a land -/
structure Pt where
  o : Str
  h : Str
  n : Int
def Pt.D (x : Pt) : DL.D := .tup [.str x.o, .str x.h, .int x.n]
structure Pt.ok (x : Pt) : Prop where
  ho : Nm x.o
  hh : Nm x.h
  n1 : 1 ≤ x.n
  n2 : x.n ≤ 10000000
/-- a row of a word, a name, a day -/
inductive RowOk (n : Str) (d : Int) : Str → D → Prop
  | part {la : Str} {ps : List Pt} (hl : Nm la) (h2 : 2 ≤ ps.length) (h6 : ps.length ≤ 6) (hr : Rise (ps.map (·.o))) (hp : ∀ x ∈ ps, x.ok) : RowOk n d "part" (.tup [.str "part", .str n, .int d, .str la, .tup (ps.map Pt.D)])
  | join {ls : List Str} {la : Str} (h2 : 2 ≤ ls.length) (h6 : ls.length ≤ 6) (hr : Rise ls) (hp : ∀ z ∈ ls, Nm z) (hl : Nm la) : RowOk n d "join" (.tup [.str "join", .str n, .int d, .tup (ls.map .str), .str la])
  | forfeit {la h : Str} (hl : Nm la) (hh : Nm h) : RowOk n d "forfeit" (.tup [.str "forfeit", .str n, .int d, .str la, .str h])
  | measure {f : Str} {i : Int} (hf : Nm f) (i0 : 0 ≤ i) (i1 : i ≤ 10000000) : RowOk n d "measure" (.tup [.str "measure", .str n, .int d, .str f, .int i])
  | mend {h g : Str} (hh : Nm h) (hg : Nm g) (ne : h ≠ g) : RowOk n d "mend" (.tup [.str "mend", .str n, .int d, .str h, .str g])
  | alone {h : Str} (hh : Nm h) : RowOk n d "alone" (.tup [.str "alone", .str n, .int d, .str h])
  | breach {f : Str} {i c s : Int} (hf : Nm f) (i0 : 0 ≤ i) (i1 : i ≤ 9999999) (c0 : 0 ≤ c) (c1 : c ≤ 1000000000) (s0 : 0 ≤ s) (s1 : s ≤ 1000000) : RowOk n d "breach" (.tup [.str "breach", .str n, .int d, .str f, .int i, .int c, .int s])
  | view {f : Str} {i : Int} {h : Str} (hf : Nm f) (i0 : 0 ≤ i) (i1 : i ≤ 9999999) (hh : Nm h) : RowOk n d "view" (.tup [.str "view", .str n, .int d, .str f, .int i, .str h])
def three : List Str := ["measure", "breach", "view"]
/-- the row's field, where it has one, is such a one -/
def FIn (P : Str → Prop) (w : Str) (R : D) : Prop := w ∈ three → ∀ a b x r, R = .tup (.str w :: a :: b :: .str x :: r) → P x
def words : List Str := ["part", "join", "forfeit", "measure", "mend", "alone", "breach", "view"]
abbrev rEnv (p f pl ho : Addr) (w n : Str) (d : Int) (la hou fie : Str) (at_ : Int) (u4 u9 u13 u14 u15 : Option D) : DL.Env :=
  [some (.ref p), some (.str w), some (.str n), some (.int d), u4, some (.str la), some (.int at_), some (.str hou), some (.str fie), u9, some (.ref f), some (.ref pl), some (.ref ho), u13, u14, u15]
theorem row20 {p pc f pl ho : Addr} {b : Nat} {w n : Str} {d : Int} {la hou fie : Str} {at_ : Int} {u4 u9 u13 u14 u15 : Option D} {S : Sto} {Q : DK} {D0 : DEnds} (hQ : D0.rt = Q) (h : Pen S p pc b) (hb : b + 20 ≤ 100000) (hla : Nm la) (hho : Nm hou) (hfi : Nm fie) (hw : w = "view" ∨ w = "breach")
    (q : ∀ R S', RowOk n d w R → FIn (· = fie) w R → Pen S' p pc (b + 9) → Kp p S S' → Q R S') : t_wrow_of_20 D0 (rEnv p f pl ho w n d la hou fie at_ u4 u9 u13 u14 u15) S := by
  have e7 : (10 : Int) ^ Int.toNat 7 = 10000000 := by decide +kernel
  have e9 : (10 : Int) ^ Int.toNat 9 = 1000000000 := by decide +kernel
  have e6 : (10 : Int) ^ Int.toNat 6 = 1000000 := by decide +kernel
  refine seq_i ?_
  simp_all_arith []
  rw [e7]
  refine ⟨powI (by decide) (by decide) (by decide) (by decide), number_spec h (by omega) (by decide) (by decide) (by decide) fun v1 S1 l1 m1 p1 g1 => ?_⟩
  refine seq_i ?_
  simp_all_arith []
  by_cases hv : w = "view"
  · rw [if_pos hv, hQ]
    subst hv
    exact ⟨by decide, q _ _ (.view hfi l1 (by omega) hho) (fun _ a b x r e => by simp only [D.tup.injEq, List.cons.injEq, D.str.injEq] at e; exact e.2.2.2.1.symm) (p1.mono (by omega)) g1⟩
  · rw [if_neg hv]
    simp_all_arith [t_wrow_of_23, hQ]
    rw [e9, e6]
    refine ⟨powI (by decide) (by decide) (by decide) (by decide), number_spec p1 (by omega) (by decide) (by decide) (by decide) fun v2 S2 l2 m2 p2 g2 => ⟨powI (by decide) (by decide) (by decide) (by decide), number_spec p2 (by omega) (by decide) (by decide) (by decide) fun v3 S3 l3 m3 p3 g3 => ⟨by decide, ?_⟩⟩⟩
    have hw := hw.resolve_left hv
    subst hw
    exact q _ _ (.breach hfi l1 (by omega) l2 (by omega) l3 (by omega)) (fun _ a b x r e => by simp only [D.tup.injEq, List.cons.injEq, D.str.injEq] at e; exact e.2.2.2.1.symm) (p3.mono (by omega)) (g1.trans (g2.trans g3))
theorem other_house {hs : List Str} {hou : Str} {at_ j : Int} (hat : ∃ k : Nat, at_ = (k : Nat) ∧ hs[k]? = some hou) (nd : hs.Nodup) (hl : 2 ≤ hs.length ∧ hs.length ≤ 50) (j0 : 0 ≤ j) (j1 : j < (hs.length : Int) - 1) :
    ∃ z, atI (hs.map D.str) ((at_ + 1 + j) % (hs.length : Int)) = some (.str z) ∧ z ∈ hs ∧ hou ≠ z := by
  obtain ⟨k, rfl, hk⟩ := hat
  have hkl := (List.getElem?_eq_some_iff.mp hk).1
  obtain ⟨jn, rfl⟩ : ∃ jn : Nat, j = (jn : Nat) := ⟨j.toNat, by omega⟩
  have e : (((k : Nat) : Int) + 1 + (jn : Nat)) % ((hs.length : Nat) : Int) = (((k + 1 + jn) % hs.length : Nat) : Int) := by
    rw [Int.natCast_emod]
    rfl
  rw [e]
  have hm : (k + 1 + jn) % hs.length < hs.length := Nat.mod_lt _ (by omega)
  refine ⟨hs[(k + 1 + jn) % hs.length], atI_nat ?_, List.getElem_mem hm, fun e2 => ?_⟩
  · rw [List.getElem?_map, List.getElem?_eq_getElem hm]; rfl
  · have e3 : hs[k]? = hs[(k + 1 + jn) % hs.length]? := by rw [hk, List.getElem?_eq_getElem hm, e2]
    have := (List.getElem?_inj (by omega) nd).mp e3
    have h1 : k + 1 + jn < hs.length + hs.length := by omega
    by_cases h2 : k + 1 + jn < hs.length
    · rw [Nat.mod_eq_of_lt h2] at this; omega
    · have h3 : (k + 1 + jn) % hs.length = k + 1 + jn - hs.length := by
        rw [Nat.mod_eq_sub_mod (by omega)]
        exact Nat.mod_eq_of_lt (by omega)
      rw [h3] at this; omega
theorem row18 {p pc f pl ho : Addr} {b : Nat} {w n : Str} {d : Int} {la hou fie : Str} {at_ : Int} {u4 u9 u13 u14 u15 : Option D} {hs : List Str} {S : Sto} {Q : DK} {D0 : DEnds} (hQ : D0.rt = Q) (h : Pen S p pc b) (hb : b + 20 ≤ 100000) (th : Txs S p ho hs) (hl : 2 ≤ hs.length ∧ hs.length ≤ 50) (hla : Nm la) (hho : Nm hou) (hfi : Nm fie) (hat : ∃ k : Nat, at_ = (k : Nat) ∧ hs[k]? = some hou) (hw : w ∈ words) (hnp : w ≠ "part") (hnj : w ≠ "join")
    (q : ∀ R S', RowOk n d w R → FIn (· = fie) w R → Pen S' p pc (b + 9) → Kp p S S' → Q R S') : t_wrow_of_12 D0 (rEnv p f pl ho w n d la hou fie at_ u4 u9 u13 u14 u15) S := by
  have e7 : (10 : Int) ^ Int.toNat 7 = 10000000 := by decide +kernel
  refine seq_i ?_
  simp_all_arith []
  by_cases h1 : w = "forfeit"
  · rw [if_pos h1, hQ]
    subst h1
    exact ⟨by decide, q _ _ (.forfeit hla hho) (fun hw => absurd hw (by decide +kernel)) (h.mono (by omega)) .refl⟩
  rw [if_neg h1]
  refine seq_i ?_
  simp_all_arith []
  by_cases h2 : w = "measure"
  · rw [if_pos h2]
    simp_all_arith [hQ]
    rw [e7]
    exact ⟨powI (by decide) (by decide) (by decide) (by decide), number_spec h (by omega) (by decide) (by decide) (by decide) fun v1 S1 l1 m1 p1 g1 => ⟨by decide, q _ _ (h2 ▸ .measure hfi l1 m1) (fun _ a b x r e => by simp only [D.tup.injEq, List.cons.injEq, D.str.injEq] at e; exact e.2.2.2.1.symm) (p1.mono (by omega)) g1⟩⟩
  rw [if_neg h2]
  refine seq_i ?_
  simp_all_arith []
  by_cases h3 : w = "mend"
  · rw [if_pos h3]
    simp_all_arith [hQ, th.at_, List.length_map]
    refine take_spec h (by omega) (by omega) (log_small (by omega) (by omega)) fun j S1 a1 b1 p1 g1 => ?_
    have e1 := (th.kp g1).at_
    rw [gAdd_ii, e1, oLen_l, List.length_map, gI_ii, e1]
    have m0 : 0 ≤ (at_ + 1 + j) % (hs.length : Int) := Int.emod_nonneg _ (by omega)
    have m1 : (at_ + 1 + j) % (hs.length : Int) < hs.length := Int.emod_lt_of_pos _ (by omega)
    obtain ⟨z, ez, hzm, hne⟩ := other_house hat th.ok.nd hl a1 b1
    exact ⟨by omega, _, ez, by decide, q _ _ (h3 ▸ .mend hho (th.ok.nm z hzm) hne) (fun hw => absurd hw (by rw [h3]; decide +kernel)) (p1.mono (by omega)) g1⟩
  rw [if_neg h3]
  refine seq_i ?_
  simp_all_arith []
  by_cases h4 : w = "alone"
  · rw [if_pos h4, hQ]
    subst h4
    exact ⟨by decide, q _ _ (.alone hho) (fun hw => absurd hw (by decide +kernel)) (h.mono (by omega)) .refl⟩
  rw [if_neg h4]
  refine row20 hQ h hb hla hho hfi ?_ q
  unfold words at hw
  simp only [List.mem_cons, List.not_mem_nil, or_false, hnp, hnj, h1, h2, h3, h4, false_or] at hw
  exact hw.symm
theorem row8 {p pc f pl ho c : Addr} {b : Nat} {w n : Str} {d : Int} {la hou fie : Str} {at_ : Int} {u4 u9 u14 u15 : Option D} {hs zs : List Str} {S : Sto} {Q : DK} {D0 : DEnds} (hQ : D0.rt = Q) (h : Pen S p pc b) (hb : b + 100 ≤ 100000) (th : Txs S p ho hs) (hl : 2 ≤ hs.length ∧ hs.length ≤ 50)
    (ec : S c = some (.lst (zs.map .str))) (hcp : c ≠ p) (hz2 : 2 ≤ zs.length) (hzl : zs.length ≤ 6) (hrz : Rise zs) (hzn : ∀ z ∈ zs, Nm z) (hla : Nm la) (hw : w = "part" ∨ w = "join")
    (q : ∀ R S', RowOk n d w R → Pen S' p pc (b + 30) → Kp p S S' → Q R S') : t_wrow_of_8 D0 (rEnv p f pl ho w n d la hou fie at_ u4 u9 (some (.ref c)) u14 u15) S := by
  have e7 : (10 : Int) ^ Int.toNat 7 = 10000000 := by decide +kernel
  refine seq_i ?_
  simp_all_arith []
  by_cases h1 : w = "join"
  · rw [if_pos h1]
    simp_all_arith [hQ]
    exact ⟨_, ec, by decide, q _ _ (h1 ▸ .join hz2 hzl hrz hzn hla) (h.mono (by omega)) .refl⟩
  rw [if_neg h1]
  have hw := hw.resolve_right h1
  subst hw
  refine seq_i ?_
  simp_all_arith []
  refine ⟨_, ec, ?_⟩
  refine lcL_inv _ (fun i acc S' => Pen S' p pc (b + 4 * i) ∧ Kp p S S' ∧ ∃ pts : List Pt, acc = pts.map Pt.D ∧ pts.map (·.o) = zs.take i ∧ ∀ x ∈ pts, x.ok) (fun i acc S' hi => hi.2.1 _ _ hcp ec) (fun i x acc S6 N hx hI hN => ?el) (fun acc S6 hI => ?af) ⟨h, .refl, [], rfl, rfl, fun _ z => nomatch z⟩
  case el =>
    obtain ⟨p6, g6, pts, rfl, hpo, hpk⟩ := hI
    have hi := (List.getElem?_eq_some_iff.mp hx).1
    rw [List.length_map] at hi
    rw [List.getElem?_map] at hx
    obtain ⟨z, hz, rfl⟩ := Option.map_eq_some_iff.mp hx
    have hal : pts.length = i := by have := congrArg List.length hpo; rw [List.length_map, List.length_take] at this; omega
    simp_all_arith [c_wrow_of_10, (th.kp g6).at_, List.length_map]
    refine take_spec p6 (by omega) (by omega) (log_small (by omega) (by omega)) fun j S1 a1 b1 p1 g1 => ?_
    rw [(th.kp (g6.trans g1)).at_, oIx_li]
    obtain ⟨y, ey, hym⟩ := get_str (zs := hs) a1 (by omega)
    refine ⟨_, ey, ?_⟩
    rw [e7]
    refine ⟨powI (by decide) (by decide) (by decide) (by decide), number_spec p1 (by omega) (by decide) (by decide) (by decide) fun v1 S2 l1 m1 p2 g2 => ⟨by decide, by rw [hal]; exact Nat.lt_of_lt_of_le (show i < 401 by omega) (by decide), hN _ _ ⟨p2.mono (by omega), g6.trans (g1.trans g2), pts ++ [⟨z, y, v1⟩], by rw [List.map_append]; rfl, by rw [List.map_append, hpo, List.take_add_one, hz]; rfl, fun x hx2 => ?_⟩⟩⟩
    rcases List.mem_append.mp hx2 with hx2 | hx2
    · exact hpk x hx2
    · rw [List.mem_singleton] at hx2
      subst hx2
      exact ⟨hzn z (List.mem_of_getElem? hz), th.ok.nm y hym, l1, m1⟩
  case af =>
    obtain ⟨p6, g6, pts, rfl, hpo, hpk⟩ := hI
    rw [List.length_map] at p6 hpo
    rw [List.take_of_length_le (Nat.le_refl _)] at hpo
    have hal : pts.length = zs.length := by rw [← hpo, List.length_map]
    intro r hr
    simp_all_arith [t_wrow_of_11, updS_same, hQ]
    exact ⟨pts.map Pt.D, rfl, by decide, q _ _ (.part hla (by omega) (by omega) (by rw [hpo]; exact hrz) hpk) ((p6.new hr).mono (by omega)) (g6.trans (.new hr))⟩
theorem get_str2 {zs : List Str} {i : Int} (h0 : 0 ≤ i) (h : i < zs.length) : ∃ z, atI (zs.map D.str) i = some (.str z) ∧ z ∈ zs ∧ ∃ k : Nat, i = (k : Nat) ∧ zs[k]? = some z := by
  obtain ⟨k, rfl⟩ : ∃ k : Nat, i = (k : Nat) := ⟨i.toNat, by omega⟩
  have hl : k < zs.length := by omega
  refine ⟨zs[k], atI_nat ?_, List.getElem_mem hl, k, rfl, List.getElem?_eq_getElem hl⟩
  rw [List.getElem?_map]
  simp [hl]
theorem pj_eq (w : Str) : ([D.str "part", D.str "join"].any fun z => eqF z (D.str w)) = decide (w = "part" ∨ w = "join") := by
  have := any_str ["part", "join"] w
  rw [show ([D.str "part", D.str "join"]) = (["part", "join"] : List Str).map D.str from rfl, this]
  simp
theorem pj_true {w : Str} (h : ([D.str "part", D.str "join"].any fun z => eqF z (D.str w)) = true) : w = "part" ∨ w = "join" := by
  rw [pj_eq, decide_eq_true_eq] at h
  exact h
theorem pj_false {w : Str} (h : ¬ ([D.str "part", D.str "join"].any fun z => eqF z (D.str w)) = true) : w ≠ "part" ∧ w ≠ "join" := by
  rw [pj_eq, decide_eq_true_eq, not_or] at h
  exact h
theorem rowof_spec {p pc f pl ho : Addr} {b : Nat} {w n : Str} {d : Int} {fs ps hs : List Str} {S : Sto} {Q : DK} (h : Pen S p pc b) (hb : b + 200 ≤ 100000) (tf : Txs S p f fs) (tp : Txs S p pl ps) (th : Txs S p ho hs) (hf : 0 < fs.length) (hf2 : fs.length ≤ 10) (hp : ps.length = 10) (hl : 2 ≤ hs.length ∧ hs.length ≤ 50)
    (hw : w ∈ words)
    (q : ∀ R S', RowOk n d w R → FIn (· ∈ fs) w R → Pen S' p pc (b + 50) → Kp p S S' → Q R S') : m_wrow_of [.ref p, .str w, .str n, .int d, .tup [.ref f, .ref pl, .ref ho]] S Q := by
  rw [e_wrow_of]
  refine seq_i ?_
  simp_all_arith []
  refine seq_i ?_
  simp_all_arith [tp.at_, List.length_map]
  refine take_spec h (by omega) (by omega) (log_small (by omega) (by omega)) fun j1 S1 a1 b1 p1 g1 => ?_
  rw [(tp.kp g1).at_, oIx_li]
  obtain ⟨la, ela, hla⟩ := get_str (zs := ps) a1 (by omega)
  refine ⟨_, ela, ?_⟩
  simp_all_arith [t_wrow_of_3]
  refine seq_i ?_
  simp_all_arith [(th.kp g1).at_, List.length_map]
  refine take_spec p1 (by omega) (by omega) (log_small (by omega) (by omega)) fun j2 S2 a2 b2 p2 g2 => ?_
  simp_all_arith [t_wrow_of_4]
  refine seq_i ?_
  have g2' := g1.trans g2
  simp_all_arith [(th.kp g2').at_]
  obtain ⟨hou, ehou, hhou, hat⟩ := get_str2 (zs := hs) a2 (by omega)
  refine ⟨_, ehou, ?_⟩
  simp_all_arith [t_wrow_of_5]
  refine seq_i ?_
  simp_all_arith [(tf.kp g2').at_, List.length_map]
  refine take_spec p2 (by omega) (by omega) (log_small (by omega) (by omega)) fun j3 S3 a3 b3 p3 g3 => ?_
  have g3' := g2'.trans g3
  rw [(tf.kp g3').at_, oIx_li]
  obtain ⟨fie, efie, hfie⟩ := get_str (zs := fs) a3 (by omega)
  refine ⟨_, efie, ?_⟩
  simp_all_arith [t_wrow_of_6]
  refine seq_i ?_
  simp_all_arith []
  refine ⟨by decide, rfl, rfl, ?_⟩
  by_cases hw2 : ([D.str "part", D.str "join"].any fun z => eqF z (D.str w)) = true
  · rw [if_pos hw2]
    refine seq_i ?_
    simp_all_arith []
    refine take_spec p3 (by omega) (by decide) (by decide) fun j4 S4 a4 b4 p4 g4 => ?_
    have b4 : j4 < 5 := b4
    refine ⟨by decide, fun r hr => ?_⟩
    refine take_spec (p4.new hr) (by omega) (by decide) (by decide) fun j5 S5 a5 b5 p5 g5 => ?_
    have b5 : j5 < 3 := b5
    have nr := (p4.ne hr).1
    rw [g5 _ _ nr updS_same, oIx_li]
    have hpick : ∃ m : Nat, atI [D.int 2, D.int 6, D.int (2 + j4)] j5 = some (.int (m : Nat)) ∧ m ≤ 6 ∧ 2 ≤ m := by
      obtain ⟨j, rfl⟩ : ∃ j : Nat, j5 = (j : Nat) := ⟨j5.toNat, by omega⟩
      match j, b5 with
      | 0, _ => exact ⟨2, rfl, by omega, by omega⟩
      | 1, _ => exact ⟨6, rfl, by omega, by omega⟩
      | 2, _ => exact ⟨(2 + j4).toNat, by rw [show (((2 + j4).toNat : Nat) : Int) = 2 + j4 by omega]; rfl, by omega, by omega⟩
      | j + 3, h => exact absurd h (by omega)
    obtain ⟨m, em, hm, hm2⟩ := hpick
    refine ⟨_, em, ?_⟩
    have g5' := g3'.trans (g4.trans ((Kp.new hr).trans g5))
    refine some_spec p5 (by omega) (tp.kp g5') hp hm fun c zs S6 ec ncp hzl hrz hzn p6 g6 => ?_
    refine row8 rfl p6 (by omega) (th.kp (g5'.trans g6)) hl ec ncp (by omega) (by omega) hrz hzn (tp.ok.nm _ hla) (pj_true hw2) fun rest S' hn hpn hg => q rest S' hn (fun hw => by rcases pj_true hw2 with e | e <;> (rw [e] at hw; exact absurd hw (by decide +kernel))) (hpn.mono (by omega)) ((g5'.trans g6).trans hg)
  · rw [if_neg hw2]
    obtain ⟨n1, n2⟩ := pj_false hw2
    exact row18 rfl p3 (by omega) (th.kp g3') hl (tp.ok.nm _ hla) (th.ok.nm _ hhou) (tf.ok.nm _ hfie) hat hw n1 n2 fun rest S' hn hF hpn hg => q rest S' hn (fun hw a b x r e => by rw [hF hw a b x r e]; exact hfie) (hpn.mono (by omega)) (g3'.trans hg)
end LW
namespace LW
open PySem L2 DL
/-- the store has grown -/
def Gr (S S' : Sto) : Prop := ∀ a o, S a = some o → S' a = some o
theorem Gr.refl {S : Sto} : Gr S S := fun _ _ h => h
theorem Gr.trans {S S1 S2 : Sto} (x : Gr S S1) (y : Gr S1 S2) : Gr S S2 := fun a o h => y a o (x a o h)
theorem Gr.new {q : Addr} {S : Sto} {o : O} (h : S q = none) : Gr S (updS S q o) := fun a u e => by rw [updS_ne (neS e h)]; exact e
theorem Gr.kp {p : Addr} {S S' : Sto} (g : Gr S S') : Kp p S S' := fun a o _ h => g a o h
end LW
/-! what is in order stays, sorted -/
namespace LW
open PySem L2 DL
theorem sort_back {β : Type} {k : β → PyData} {xs T : List β} (hp : T.Perm xs) (hlt : xs.Pairwise fun a b => PyProof.Rows.lexLt PyProof.Rows.itemOrd (PySem.W.keyToks (k a)) (PySem.W.keyToks (k b)) = true) : T.mergeSort (PySem.W.dataLe false k) = xs := by
  let O := PyProof.Rows.listOrd PyProof.Rows.itemOrd
  have le_def : ∀ a b, PySem.W.dataLe false k a b = !(O.blt (PySem.W.keyToks (k b)) (PySem.W.keyToks (k a))) := fun a b => rfl
  have asy : ∀ a b, O.blt a b = true → O.blt b a = false := fun a b h => by
    cases h2 : O.blt b a with
    | false => rfl
    | true => have := O.trans _ _ _ h h2; rw [O.irrefl] at this; cases this
  refine List.Perm.eq_of_pairwise (le := fun a b => PySem.W.dataLe false k a b = true) (fun a b ha hb h1 h2 => ?_) (List.pairwise_mergeSort (fun a b c h1 h2 => ?_) (fun a b => ?_) T) (hlt.imp fun {a b} h => ?_) ((List.mergeSort_perm ..).trans hp)
  · rw [le_def, Bool.not_eq_true'] at h1 h2
    have ha' : a ∈ xs := hp.mem_iff.mp ((List.mergeSort_perm ..).mem_iff.mp ha)
    have key : ∀ {l : List β}, l.Pairwise (fun a b => PyProof.Rows.lexLt PyProof.Rows.itemOrd (PySem.W.keyToks (k a)) (PySem.W.keyToks (k b)) = true) → a ∈ l → b ∈ l → a = b := by
      intro l hl ha hb
      induction hl with
      | nil => cases ha
      | @cons x l hx _ ih =>
        rcases List.mem_cons.mp ha with e1 | ha2
        · rcases List.mem_cons.mp hb with e2 | hb2
          · rw [e1, e2]
          · have := hx b hb2
            rw [← e1] at this
            exact absurd (h2.symm.trans this) (by decide)
        · rcases List.mem_cons.mp hb with e2 | hb2
          · have := hx a ha2
            rw [← e2] at this
            exact absurd (h1.symm.trans this) (by decide)
          · exact ih ha2 hb2
    exact key hlt ha' hb
  · rw [le_def, Bool.not_eq_true'] at h1 h2 ⊢
    cases h3 : O.blt (PySem.W.keyToks (k c)) (PySem.W.keyToks (k a)) with
    | false => rfl
    | true =>
      rcases O.negTrans _ (PySem.W.keyToks (k b)) _ h3 with h4 | h4
      · rw [h4] at h2; cases h2
      · rw [h4] at h1; cases h1
  · rw [le_def, le_def]
    cases h3 : O.blt (PySem.W.keyToks (k b)) (PySem.W.keyToks (k a)) with
    | false => rfl
    | true => rw [asy _ _ h3]; rfl
  · rw [le_def, Bool.not_eq_true']
    exact asy _ _ h
end LW
namespace LW
open PySem L2 DL
def rank (w : Str) : Int := if w = "measure" then 0 else if w = "mend" ∨ w = "alone" then 2 else if w = "breach" ∨ w = "view" then 3 else 1
abbrev rowD (w n : Str) (d : Int) (rest : List D) : D := .tup (.str w :: .str n :: .int d :: rest)
def keyD (w n : Str) (d : Int) : D := .tup [.int d, .int (rank w), .str n]
def ranksKv : List (Key × D) := [(kS "measure", .int 0), (kS "mend", .int 2), (kS "alone", .int 2), (kS "breach", .int 3), (kS "view", .int 3)]
theorem isI {x : D} {i : Int} (h : (match x with | .int j => decide (j = i) | _ => false) = true) : x = .int i := by
  cases x with
  | int j => rw [of_decide_eq_true h]
  | _ => cases h
theorem kv_rank {w : Str} (h : w ∈ words) : (valD (mergeD [] ranksKv) (kS w)).getD (.int 1) = .int (rank w) := by
  unfold words at h
  simp only [List.mem_cons, List.not_mem_nil, or_false] at h
  rcases h with rfl | rfl | rfl | rfl | rfl | rfl | rfl | rfl <;> exact isI (by decide +kernel)
theorem place_spec {w n : Str} {d : Int} {rest : List D} {S : Sto} {Q : DK} (h : w ∈ words) (q : ∀ S', Gr S S' → Q (keyD w n d) S') : m_wplace [rowD w n d rest] S Q := by
  rw [e_wplace]
  refine seq_i ?_
  simp_arith []
  refine ⟨_, rfl, by show 5 ≤ 15; decide, fun p hp => ?_⟩
  simp_arith [t_wplace_2]
  refine ⟨_, atI_nat (j := 2) rfl, ⟨_, updS_same⟩, ?_⟩
  refine ⟨_, atI_nat (j := 0) rfl, ?_⟩
  simp_arith []
  refine ⟨_, updS_same, _, atI_nat (j := 1) rfl, by decide, ?_⟩
  show Q (.tup [.int d, (valD (mergeD [] ranksKv) (kS w)).getD (.int 1), .str n]) _
  rw [kv_rank h]
  exact q _ (.new hp)
def keyP (w n : Str) (d : Int) : PyData := .tuple [.int d, .int (rank w), .str n]
theorem keyP_ne {w n w2 n2 : Str} {d d2 : Int} (h : n ≠ n2) : PySem.W.keyToks (keyP w n d) ≠ PySem.W.keyToks (keyP w2 n2 d2) := by
  intro e
  unfold keyP at e
  simp [PySem.W.keyToks, PySem.W.keyToksAll] at e
  exact h (PySem.W.str_of_cps (by simp [e.2.2]))
def kdOf : D → PyData := fun x => match x with
  | .tup (.str w :: .str n :: .int d :: _) => keyP w n d
  | _ => .none
/-- a row, told apart -/
structure Ro where
  w : Str
  n : Str
  d : Int
  R : D
structure Ro.ok (r : Ro) : Prop where
  hn : Nm r.n
  d0 : 0 ≤ r.d
  d1 : r.d ≤ 9999
  row : RowOk r.n r.d r.w r.R
theorem nrs_str : ∀ zs : List Str, nrs (zs.map .str) = true
  | [] => rfl
  | _ :: r => nrs_str r
theorem nrs_pt : ∀ ps : List Pt, nrs (ps.map Pt.D) = true
  | [] => rfl
  | _ :: r => nrs_pt r
theorem row_shape {n w : Str} {d : Int} {R : D} (h : RowOk n d w R) : w ∈ words ∧ ∃ rest, R = rowD w n d rest ∧ nrs rest = true := by
  cases h with
  | @part la ps hl h2 h6 hr hp => exact ⟨by decide +kernel, _, rfl, by show (nrs (ps.map Pt.D) && true) = true; rw [nrs_pt]; rfl⟩
  | @join ls la h2 h6 hr hp hl => exact ⟨by decide +kernel, _, rfl, by show (nrs (ls.map .str) && _) = true; rw [nrs_str]; rfl⟩
  | forfeit hl hh => exact ⟨by decide +kernel, _, rfl, rfl⟩
  | measure hf i0 i1 => exact ⟨by decide +kernel, _, rfl, rfl⟩
  | mend hh hg ne => exact ⟨by decide +kernel, _, rfl, rfl⟩
  | alone hh => exact ⟨by decide +kernel, _, rfl, rfl⟩
  | breach hf i0 i1 c0 c1 s0 s1 => exact ⟨by decide +kernel, _, rfl, rfl⟩
  | view hf i0 i1 hh => exact ⟨by decide +kernel, _, rfl, rfl⟩
theorem Ro.ok.kd {r : Ro} (h : r.ok) : kdOf r.R = keyP r.w r.n r.d := by
  obtain ⟨_, rest, e, _⟩ := row_shape h.row
  rw [e]; rfl
/-- the rows in order -/
noncomputable def srt (rows : List Ro) : List D := (rows.map Ro.R).mergeSort (PySem.W.dataLe false kdOf)
theorem key_ne {rows : List Ro} (ok : ∀ r ∈ rows, r.ok) (nd : (rows.map Ro.n).Nodup) : (rows.map Ro.R).Pairwise fun a b => PySem.W.keyToks (kdOf a) ≠ PySem.W.keyToks (kdOf b) := by
  induction rows with
  | nil => exact .nil
  | cons r rs ih =>
    have h2 := List.forall_mem_cons.mp ok
    rw [List.map_cons, List.nodup_cons] at nd
    refine .cons (fun x hx => ?_) (ih h2.2 nd.2)
    obtain ⟨r2, hr2, rfl⟩ := List.mem_map.mp hx
    rw [h2.1.kd, (h2.2 r2 hr2).kd]
    exact keyP_ne fun e => nd.1 (by rw [e]; exact List.mem_map.mpr ⟨r2, hr2, rfl⟩)
theorem srt_lt {rows : List Ro} (ok : ∀ r ∈ rows, r.ok) (nd : (rows.map Ro.n).Nodup) : (srt rows).Pairwise fun a b => PyProof.Rows.lexLt PyProof.Rows.itemOrd (PySem.W.keyToks (kdOf a)) (PySem.W.keyToks (kdOf b)) = true := by
  let O := PyProof.Rows.listOrd PyProof.Rows.itemOrd
  have le_def : ∀ a b, PySem.W.dataLe false kdOf a b = !(O.blt (PySem.W.keyToks (kdOf b)) (PySem.W.keyToks (kdOf a))) := fun a b => rfl
  have asy : ∀ a b, O.blt a b = true → O.blt b a = false := fun a b h => by
    cases h2 : O.blt b a with
    | false => rfl
    | true => have := O.trans _ _ _ h h2; rw [O.irrefl] at this; cases this
  have h1 : (srt rows).Pairwise fun a b => PySem.W.dataLe false kdOf a b = true := by
    refine List.pairwise_mergeSort (fun a b c h1 h2 => ?_) (fun a b => ?_) _
    · rw [le_def, Bool.not_eq_true'] at h1 h2 ⊢
      cases h3 : O.blt (PySem.W.keyToks (kdOf c)) (PySem.W.keyToks (kdOf a)) with
      | false => rfl
      | true =>
        rcases O.negTrans _ (PySem.W.keyToks (kdOf b)) _ h3 with h4 | h4
        · rw [h4] at h2; cases h2
        · rw [h4] at h1; cases h1
    · rw [le_def, le_def]
      cases h3 : O.blt (PySem.W.keyToks (kdOf b)) (PySem.W.keyToks (kdOf a)) with
      | false => rfl
      | true => rw [asy _ _ h3]; rfl
  have h2 : (srt rows).Pairwise fun a b => PySem.W.keyToks (kdOf a) ≠ PySem.W.keyToks (kdOf b) :=
    (List.Perm.pairwise_iff (fun {a b} h => Ne.symm h) (List.mergeSort_perm ..)).mpr (key_ne ok nd)
  refine (h1.and h2).imp fun {a b} h => ?_
  obtain ⟨h3, h4⟩ := h
  rw [le_def, Bool.not_eq_true'] at h3
  cases h5 : PyProof.Rows.lexLt PyProof.Rows.itemOrd (PySem.W.keyToks (kdOf a)) (PySem.W.keyToks (kdOf b)) with
  | true => rfl
  | false => exact absurd (PyProof.Rows.lex_total _ _ h5 h3) h4
theorem srt_perm {rows : List Ro} (ok : ∀ r ∈ rows, r.ok) (nd : (rows.map Ro.n).Nodup) {T : List D} (hp : T.Perm (rows.map Ro.R)) : T.mergeSort (PySem.W.dataLe false kdOf) = srt rows :=
  sort_back (hp.trans (List.mergeSort_perm ..).symm) (srt_lt ok nd)
theorem keyed_ro {m : MF} (hm : ∀ {w n : Str} {d : Int} {rest : List D} {S : Sto} {Q : DK}, w ∈ words → (∀ S', Gr S S' → Q (keyD w n d) S') → m [rowD w n d rest] S Q) {rows : List Ro} (ok : ∀ r ∈ rows, r.ok) (nd : (rows.map Ro.n).Nodup) {T : List D} (hp : T.Perm (rows.map Ro.R)) {R : List D → Prop} (q : R (srt rows)) : keyed m T R := by
  have hT : ∀ x ∈ T, ∃ r : Ro, r.ok ∧ r.R = x := fun x hx => by
    obtain ⟨r, hr, e⟩ := List.mem_map.mp (hp.mem_iff.mp hx)
    exact ⟨r, ok r hr, e⟩
  refine ⟨kdOf, fun x hx => ?_, ?_, ?_, fun x hx => ?_, by rw [srt_perm ok nd hp]; exact q⟩
  · obtain ⟨r, hr, rfl⟩ := hT x hx
    obtain ⟨hw, rest, e, hnr⟩ := row_shape hr.row
    refine ⟨?_, ?_⟩
    · rw [e]
      show (true && (true && (true && nrs rest))) = true
      rw [hnr]; rfl
    · rw [hr.kd, e]
      exact hm hw fun S' _ => .tup (.cons (.int _) (.cons (.int _) (.cons (.str _) .nil)))
  · intro d hd d2 hd2
    obtain ⟨x, hx, rfl⟩ := List.mem_map.mp hd
    obtain ⟨x2, hx2, rfl⟩ := List.mem_map.mp hd2
    obtain ⟨r, hr, rfl⟩ := hT x hx
    obtain ⟨r2, hr2, rfl⟩ := hT x2 hx2
    rw [hr.kd, hr2.kd]
    show PySem.W.alike (keyP r.w r.n r.d) (keyP r2.w r2.n r2.d) = true
    unfold keyP
    simp [PySem.W.alikeAll, PySem.W.alike]
  · refine .inl fun d hd => ?_
    obtain ⟨x, hx, rfl⟩ := List.mem_map.mp hd
    obtain ⟨r, hr, rfl⟩ := hT x hx
    rw [hr.kd]
    exact ⟨_, _, rfl⟩
  · obtain ⟨r, hr, rfl⟩ := hT x hx
    rw [hr.kd]
    exact Nat.le_trans (Nat.le_of_eq (show _ = 1 from rfl)) (by decide)
def tens : List Str := ["part", "join", "forfeit", "measure", "mend", "alone", "breach", "view", "part", "join"]
theorem tens_words : ∀ z ∈ tens, z ∈ words := by decide +kernel
theorem wrow_spec {p pc f pl ho : Addr} {b : Nat} {n : Str} {d : Int} {fs ps hs : List Str} {S : Sto} {Q : DK} (h : Pen S p pc b) (hb : b + 300 ≤ 100000) (tf : Txs S p f fs) (tp : Txs S p pl ps) (th : Txs S p ho hs) (hf : 0 < fs.length) (hf2 : fs.length ≤ 10) (hp : ps.length = 10) (hl : 2 ≤ hs.length ∧ hs.length ≤ 50)
    (q : ∀ w R S', RowOk n d w R → FIn (· ∈ fs) w R → Pen S' p pc (b + 60) → Kp p S S' → Q R S') : m_wrow [.ref p, .str n, .int d, .tup [.ref f, .ref pl, .ref ho]] S Q := by
  rw [e_wrow]
  refine seq_i ?_
  simp_arith []
  refine ⟨by decide, fun c hc => ?_⟩
  have ncp := (h.ne hc).1
  generalize hS1 : updS S c _ = S1
  have c1 : S1 c = some (.lst (tens.map .str)) := by rw [← hS1, updS_same]; rfl
  have p1 : Pen S1 p pc b := by rw [← hS1]; exact h.new hc
  have g1 : Kp p S S1 := by rw [← hS1]; exact .new hc
  simp_arith [t_wrow_2]
  refine take_spec p1 (by omega) (by decide) (by decide) fun j S2 a2 b2 p2 g2 => ?_
  have b2 : j < 10 := b2
  rw [g2 _ _ ncp c1, oIx_li]
  obtain ⟨w, ew, hw⟩ := get_str (zs := tens) a2 b2
  refine ⟨_, ew, ?_⟩
  have g := g1.trans g2
  refine rowof_spec p2 (by omega) (tf.kp g) (tp.kp g) (th.kp g) hf hf2 hp hl (tens_words w hw) fun R S' hR hF hpn hg => ?_
  exact q w R S' hR hF (hpn.mono (by omega)) (g.trans hg)
end LW
/-! pure: lists of pairs as dicts; pieces, lands, rows -/
namespace LW
open PySem L2 DL
abbrev AL (α : Type) := List (Str × α)
namespace AL
variable {α : Type}
def get : AL α → Str → Option α
  | [], _ => none
  | (j, v) :: r, k => if j = k then some v else get r k
def repl : AL α → Str → α → AL α
  | [], _, _ => []
  | (j, v) :: r, k, d => (if j = k then (j, d) else (j, v)) :: repl r k d
def put (l : AL α) (k : Str) (d : α) : AL α := if (l.get k).isSome = true then l.repl k d else l ++ [(k, d)]
def drop : AL α → Str → AL α
  | [], _ => []
  | (j, v) :: r, k => if j = k then drop r k else (j, v) :: drop r k
end AL
def al {α : Type} (f : α → D) (l : AL α) : List (Key × D) := l.map fun p => (kS p.1, f p.2)
section
variable {α : Type} {f : α → D}
theorem kS_inj {a b : Str} : kS a = kS b ↔ a = b := ⟨fun h => by injection h, fun h => by rw [h]⟩
theorem val_al : ∀ (l : AL α) (k : Str), valD (al f l) (kS k) = (l.get k).map f
  | [], _ => rfl
  | (j, v) :: r, k => by
    show valD ((kS j, f v) :: al f r) (kS k) = _
    unfold valD AL.get
    by_cases h : j = k
    · rw [if_pos h, if_pos (show (kS j, f v).1 = kS k by rw [h])]; rfl
    · rw [if_neg h, if_neg (show ¬ (kS j, f v).1 = kS k from fun z => h (kS_inj.mp z))]
      exact val_al r k
theorem has_al (l : AL α) (k : Str) : hasD (al f l) (kS k) = (l.get k).isSome := by
  unfold hasD
  rw [val_al]
  cases l.get k <;> rfl
theorem repl_al : ∀ (l : AL α) (k : Str) (v : α), replD (al f l) (kS k) (f v) = al f (l.repl k v)
  | [], _, _ => rfl
  | (j, w) :: r, k, v => by
    have ih := repl_al r k v
    show replD ((kS j, f w) :: al f r) (kS k) (f v) = al f ((if j = k then (j, v) else (j, w)) :: AL.repl r k v)
    unfold replD
    rw [ih]
    by_cases h : j = k
    · rw [if_pos h, if_pos (show (kS j, f w).1 = kS k by rw [h])]; rfl
    · rw [if_neg h, if_neg (show ¬ (kS j, f w).1 = kS k from fun z => h (kS_inj.mp z))]; rfl
theorem put_al (l : AL α) (k : Str) (v : α) : putD (al f l) (kS k) (f v) = al f (l.put k v) := by
  unfold putD AL.put
  rw [has_al]
  by_cases h : (l.get k).isSome = true
  · rw [if_pos h, if_pos h, repl_al]
  · rw [if_neg h, if_neg h]
    unfold al
    rw [List.map_append]
    rfl
theorem drop_al : ∀ (l : AL α) (k : Str), dropD (al f l) (kS k) = al f (l.drop k)
  | [], _ => rfl
  | (j, w) :: r, k => by
    have ih := drop_al r k
    show dropD ((kS j, f w) :: al f r) (kS k) = _
    unfold dropD AL.drop
    rw [ih]
    by_cases h : j = k
    · rw [if_pos h, if_pos (show (kS j, f w).1 = kS k by rw [h])]
    · rw [if_neg h, if_neg (show ¬ (kS j, f w).1 = kS k from fun z => h (kS_inj.mp z))]; rfl
theorem al_len (l : AL α) : (al f l).length = l.length := by unfold al; rw [List.length_map]
theorem get_mem : ∀ {l : AL α} {k : Str} {v : α}, l.get k = some v → (k, v) ∈ l
  | (j, w) :: r, k, v, h => by
    unfold AL.get at h
    by_cases e : j = k
    · rw [if_pos e] at h; cases h; rw [e]; exact List.mem_cons_self ..
    · rw [if_neg e] at h; exact List.mem_cons_of_mem _ (get_mem h)
theorem repl_len : ∀ (l : AL α) (k : Str) (v : α), (l.repl k v).length = l.length
  | [], _, _ => rfl
  | (j, w) :: r, k, v => by
    show (_ :: AL.repl r k v).length = _
    rw [List.length_cons, List.length_cons, repl_len r k v]
theorem put_len (l : AL α) (k : Str) (v : α) : (l.put k v).length ≤ l.length + 1 := by
  unfold AL.put
  split
  · rw [repl_len]; exact Nat.le_succ _
  · rw [List.length_append]; exact Nat.le_refl _
theorem drop_len : ∀ (l : AL α) (k : Str), (l.drop k).length ≤ l.length
  | [], _ => Nat.le_refl _
  | (j, w) :: r, k => by
    have ih := drop_len r k
    unfold AL.drop
    split
    · rw [List.length_cons]; omega
    · rw [List.length_cons, List.length_cons]; omega
theorem get_repl : ∀ (l : AL α) (k j : Str) (v : α), (l.repl k v).get j = if j = k then (l.get k).map (fun _ => v) else l.get j
  | [], _, _, _ => by simp [AL.repl, AL.get]
  | (i, w) :: r, k, j, v => by
    have ih := get_repl r k j v
    unfold AL.repl AL.get
    by_cases h1 : i = k
    · subst h1
      rw [if_pos rfl]
      by_cases h2 : i = j
      · subst h2; simp
      · rw [if_neg (show ¬ j = i from fun z => h2 z.symm)] at ih ⊢
        simp [h2, ih]
    · rw [if_neg h1]
      by_cases h2 : i = j
      · subst h2
        simp [h1]
      · by_cases h3 : j = k
        · subst h3; simp [h1, ih]
        · simp [h2, h3, ih, h1]
theorem get_app : ∀ (l : AL α) (k j : Str) (v : α), AL.get (l ++ [(k, v)]) j = (l.get j).or (if k = j then some v else none)
  | [], _, _, _ => by simp [AL.get]
  | (i, w) :: r, k, j, v => by
    have ih := get_app r k j v
    show (if i = j then some w else AL.get (r ++ [(k, v)]) j) = (if i = j then some w else AL.get r j).or _
    by_cases h : i = j
    · rw [if_pos h, if_pos h]; rfl
    · rw [if_neg h, if_neg h, ih]
theorem get_put (l : AL α) (k j : Str) (v : α) : (l.put k v).get j = if j = k then some v else l.get j := by
  unfold AL.put
  by_cases h : (l.get k).isSome = true
  · rw [if_pos h, get_repl]
    obtain ⟨w, hw⟩ := Option.isSome_iff_exists.mp h
    rw [hw]; rfl
  · rw [if_neg h, get_app]
    have hn : l.get k = none := by
      cases e : l.get k with
      | none => rfl
      | some w => rw [e] at h; exact absurd rfl h
    by_cases e : j = k
    · subst e; rw [hn]; simp
    · rw [if_neg e, if_neg (fun z => e z.symm)]
      cases l.get j <;> rfl
theorem get_drop : ∀ (l : AL α) (k j : Str), (l.drop k).get j = if j = k then none else l.get j
  | [], _, _ => by simp [AL.drop, AL.get]
  | (i, w) :: r, k, j => by
    have ih := get_drop r k j
    unfold AL.drop
    by_cases h1 : i = k
    · subst h1
      rw [if_pos rfl, ih]
      by_cases h2 : j = i
      · rw [if_pos h2, if_pos h2]
      · rw [if_neg h2, if_neg h2]
        unfold AL.get
        rw [if_neg (fun z => h2 z.symm)]
        cases r <;> rfl
    · rw [if_neg h1]
      unfold AL.get
      by_cases h2 : i = j
      · subst h2; rw [if_pos rfl, if_pos rfl, if_neg h1]
      · rw [if_neg h2, if_neg h2, ih]
end
/-! pieces -/
structure Pc where
  f : Str
  lo : Int
  hi : Int
def Pc.D (x : Pc) : DL.D := .tup [.str x.f, .int x.lo, .int x.hi]
def accs (ps : List Pc) : Int := (ps.map fun x => x.hi - x.lo).sum
def mxI (i j : Int) : Int := if j > i then j else i
def mnI (i j : Int) : Int := if j < i then j else i
def cutP (lo hi : Int) : Int → List Pc → List Pc
  | _, [] => []
  | at_, x :: r => (if mxI x.lo (x.lo + lo - at_) < mnI x.hi (x.lo + hi - at_) then [⟨x.f, mxI x.lo (x.lo + lo - at_), mnI x.hi (x.lo + hi - at_)⟩] else []) ++ cutP lo hi (at_ + x.hi - x.lo) r
def mstep (found : List Pc) (x : Pc) : List Pc := match found.getLast? with
  | some l => if l.f = x.f ∧ l.hi = x.lo then found.dropLast ++ [⟨x.f, l.lo, x.hi⟩] else found ++ [x]
  | none => [x]
def mergeP (ps : List Pc) : List Pc := ps.foldl mstep []
def keyPc (fs : List Str) (x : Pc) : PyData := .tuple [.int (fs.idxOf x.f : Nat), .int x.lo]
def sortP (fs : List Str) (ps : List Pc) : List Pc := ps.mergeSort (PySem.W.dataLe false (keyPc fs))
def joinP (fs : List Str) (ps : List Pc) : List Pc := mergeP (sortP fs ps)
structure PcsOk (fs : List Str) (ps : List Pc) : Prop where
  f : ∀ x ∈ ps, x.f ∈ fs
  lt : ∀ x ∈ ps, x.lo < x.hi
theorem PcsOk.len {fs : List Str} {ps : List Pc} (h : PcsOk fs ps) : (ps.length : Int) ≤ accs ps := by
  have hl := h.lt
  clear h
  induction ps with
  | nil => exact Int.le_refl _
  | cons x r ih =>
    have h2 := List.forall_mem_cons.mp hl
    have := ih h2.2
    unfold accs at this ⊢
    rw [List.map_cons, List.sum_cons, List.length_cons]
    have := h2.1
    omega
theorem PcsOk.pos {fs : List Str} {ps : List Pc} (h : PcsOk fs ps) : 0 ≤ accs ps := by have := h.len; omega
theorem cut_ok {fs : List Str} {lo hi : Int} : ∀ {ps : List Pc} {at_ : Int}, PcsOk fs ps → PcsOk fs (cutP lo hi at_ ps)
  | [], _, _ => ⟨fun _ h => (by cases h), fun _ h => (by cases h)⟩
  | x :: r, at_, h => by
    have h1 := List.forall_mem_cons.mp h.f
    have h2 := List.forall_mem_cons.mp h.lt
    have ih := cut_ok (lo := lo) (hi := hi) (at_ := at_ + x.hi - x.lo) (⟨h1.2, h2.2⟩ : PcsOk fs r)
    unfold cutP
    by_cases e : mxI x.lo (x.lo + lo - at_) < mnI x.hi (x.lo + hi - at_)
    · rw [if_pos e]
      exact ⟨List.forall_mem_cons.mpr ⟨h1.1, ih.f⟩, List.forall_mem_cons.mpr ⟨e, ih.lt⟩⟩
    · rw [if_neg e]
      exact ih
/-- what is cut out has no more acres than were asked for -/
theorem cut_accs {fs : List Str} {lo hi : Int} : ∀ {ps : List Pc} {at_ : Int}, PcsOk fs ps → accs (cutP lo hi at_ ps) ≤ mxI 0 (hi - mxI lo at_)
  | [], at_, _ => by
    show (0 : Int) ≤ _
    unfold mxI
    split <;> omega
  | x :: r, at_, h => by
    have h1 := List.forall_mem_cons.mp h.f
    have h2 := List.forall_mem_cons.mp h.lt
    have ih := cut_accs (lo := lo) (hi := hi) (at_ := at_ + x.hi - x.lo) (⟨h1.2, h2.2⟩ : PcsOk fs r)
    have hx := h2.1
    unfold cutP
    by_cases e : mxI x.lo (x.lo + lo - at_) < mnI x.hi (x.lo + hi - at_)
    · rw [if_pos e]
      have e2 : accs ([⟨x.f, mxI x.lo (x.lo + lo - at_), mnI x.hi (x.lo + hi - at_)⟩] ++ cutP lo hi (at_ + x.hi - x.lo) r) = (mnI x.hi (x.lo + hi - at_) - mxI x.lo (x.lo + lo - at_)) + accs (cutP lo hi (at_ + x.hi - x.lo) r) := by
        unfold accs
        rw [List.map_append, List.sum_append]
        simp
      rw [e2]
      unfold mxI mnI at *
      repeat' split at *
      all_goals omega
    · rw [if_neg e, List.nil_append]
      unfold mxI mnI at *
      repeat' split at *
      all_goals omega
end LW
namespace LW
open PySem L2 DL
theorem accs_app (a b : List Pc) : accs (a ++ b) = accs a + accs b := by unfold accs; rw [List.map_append, List.sum_append]
theorem accs_one (x : Pc) : accs [x] = x.hi - x.lo := by unfold accs; simp
theorem mstep_ok {fs : List Str} {found : List Pc} {x : Pc} (h : PcsOk fs found) (hf : x.f ∈ fs) (hl : x.lo < x.hi) : PcsOk fs (mstep found x) ∧ accs (mstep found x) = accs found + (x.hi - x.lo) := by
  unfold mstep
  cases e : found.getLast? with
  | none =>
    have : found = [] := List.getLast?_eq_none_iff.mp e
    subst this
    exact ⟨⟨fun y hy => by rw [List.mem_singleton.mp hy]; exact hf, fun y hy => by rw [List.mem_singleton.mp hy]; exact hl⟩, by rw [accs_one]; show _ = (0 : Int) + _; omega⟩
  | some l =>
    have hd : found = found.dropLast ++ [l] := by
      obtain ⟨ys, hys⟩ := List.getLast?_eq_some_iff.mp e
      rw [hys, List.dropLast_concat]
    have hm : l ∈ found := by rw [hd]; simp
    have hs : accs found = accs found.dropLast + (l.hi - l.lo) := by
      have := congrArg accs hd
      rw [accs_app, accs_one] at this
      exact this
    have sub : ∀ y ∈ found.dropLast, y ∈ found := fun y hy => List.dropLast_subset _ hy
    dsimp only
    by_cases c : l.f = x.f ∧ l.hi = x.lo
    · rw [if_pos c]
      have hlt := h.lt l hm
      refine ⟨⟨fun y hy => ?_, fun y hy => ?_⟩, ?_⟩
      · rcases List.mem_append.mp hy with hy | hy
        · exact h.f y (sub y hy)
        · rw [List.mem_singleton.mp hy]; exact hf
      · rcases List.mem_append.mp hy with hy | hy
        · exact h.lt y (sub y hy)
        · rw [List.mem_singleton.mp hy]; show l.lo < x.hi; have := c.2; omega
      · rw [accs_app, accs_one, hs]
        have := c.2
        show _ + (x.hi - l.lo) = _
        omega
    · rw [if_neg c]
      refine ⟨⟨fun y hy => ?_, fun y hy => ?_⟩, by rw [accs_app, accs_one]⟩
      · rcases List.mem_append.mp hy with hy | hy
        · exact h.f y hy
        · rw [List.mem_singleton.mp hy]; exact hf
      · rcases List.mem_append.mp hy with hy | hy
        · exact h.lt y hy
        · rw [List.mem_singleton.mp hy]; exact hl
theorem merge_ok {fs : List Str} : ∀ {ps found : List Pc}, PcsOk fs ps → PcsOk fs found → PcsOk fs (ps.foldl mstep found) ∧ accs (ps.foldl mstep found) = accs found + accs ps
  | [], found, _, h => ⟨h, by show accs found = accs found + 0; omega⟩
  | x :: r, found, hp, h => by
    have h1 := List.forall_mem_cons.mp hp.f
    have h2 := List.forall_mem_cons.mp hp.lt
    obtain ⟨a, b⟩ := mstep_ok h h1.1 h2.1
    obtain ⟨c, d⟩ := merge_ok (ps := r) ⟨h1.2, h2.2⟩ a
    refine ⟨c, ?_⟩
    show accs (r.foldl mstep (mstep found x)) = _
    rw [d, b, show accs (x :: r) = (x.hi - x.lo) + accs r by unfold accs; rw [List.map_cons, List.sum_cons]]
    omega
theorem accs_perm {a b : List Pc} (h : a.Perm b) : accs a = accs b := by
  unfold accs
  induction h with
  | nil => rfl
  | cons x h ih => rw [List.map_cons, List.map_cons, List.sum_cons, List.sum_cons, ih]
  | swap x y l => simp only [List.map_cons, List.sum_cons]; omega
  | trans h1 h2 ih1 ih2 => rw [ih1, ih2]
theorem sort_perm (fs : List Str) (ps : List Pc) : (sortP fs ps).Perm ps := List.mergeSort_perm ..
theorem PcsOk.perm {fs : List Str} {a b : List Pc} (h : PcsOk fs a) (p : b.Perm a) : PcsOk fs b := ⟨fun x hx => h.f x (p.mem_iff.mp hx), fun x hx => h.lt x (p.mem_iff.mp hx)⟩
theorem join_ok {fs : List Str} {ps : List Pc} (h : PcsOk fs ps) : PcsOk fs (joinP fs ps) ∧ accs (joinP fs ps) = accs ps := by
  obtain ⟨a, b⟩ := merge_ok (found := []) (h.perm (sort_perm fs ps)) ⟨fun _ h => (by cases h), fun _ h => (by cases h)⟩
  refine ⟨a, ?_⟩
  have := accs_perm (sort_perm fs ps)
  show accs (mergeP (sortP fs ps)) = _
  unfold mergeP
  rw [b, this]
  show (0 : Int) + _ = _
  omega
/-! roads -/
inductive Rd (m : AL Str) : Str → List Str → Prop
  | stop {h : Str} (e : m.get h = none) : Rd m h [h]
  | step {h g : Str} {l : List Str} (e : m.get h = some g) (r : Rd m g l) : Rd m h (h :: l)
theorem Rd.head {m : AL Str} {h : Str} {l : List Str} (r : Rd m h l) : ∃ t, l = h :: t := by cases r <;> exact ⟨_, rfl⟩
theorem Rd.det {m : AL Str} {h : Str} {l : List Str} (r : Rd m h l) : ∀ {l2 : List Str}, Rd m h l2 → l = l2 := by
  induction r with
  | stop e => intro l2 r2; cases r2 with
    | stop _ => rfl
    | step e2 _ => rw [e] at e2; cases e2
  | step e r ih => intro l2 r2; cases r2 with
    | stop e2 => rw [e] at e2; cases e2
    | step e2 r2 => rw [e] at e2; cases e2; rw [ih r2]
def Acy (m : AL Str) : Prop := ∀ h, ∃ l, Rd m h l
theorem acy_nil : Acy [] := fun h => ⟨_, .stop rfl⟩
theorem Rd.put {m : AL Str} {h g x : Str} {l : List Str} (r : Rd m x l) (n : h ∉ l) : Rd (m.put h g) x l := by
  induction r with
  | @stop y e =>
    refine .stop ?_
    rw [get_put, if_neg (fun z => n (by rw [← z]; exact List.mem_cons_self ..))]
    exact e
  | @step y z l e r ih =>
    rw [List.mem_cons, not_or] at n
    refine .step ?_ (ih n.2)
    rw [get_put, if_neg (fun z => n.1 z.symm)]
    exact e
theorem Acy.put {m : AL Str} {h g : Str} {l : List Str} (a : Acy m) (r : Rd m g l) (n : h ∉ l) : Acy (m.put h g) := fun x => by
  have hh : Rd (m.put h g) h (h :: l) := .step (by rw [get_put, if_pos rfl]) (r.put n)
  obtain ⟨k, rk⟩ := a x
  induction rk with
  | @stop y e =>
    by_cases c : y = h
    · rw [c]; exact ⟨_, hh⟩
    · exact ⟨_, .stop (by rw [get_put, if_neg c]; exact e)⟩
  | @step y z k e rk ih =>
    by_cases c : y = h
    · rw [c]; exact ⟨_, hh⟩
    · obtain ⟨k2, r2⟩ := ih
      exact ⟨_, .step (by rw [get_put, if_neg c]; exact e) r2⟩
theorem Acy.drop {m : AL Str} {h : Str} (a : Acy m) : Acy (m.drop h) := fun x => by
  obtain ⟨k, rk⟩ := a x
  induction rk with
  | @stop y e => exact ⟨_, .stop (by rw [get_drop]; split <;> first | rfl | exact e)⟩
  | @step y z k e rk ih =>
    by_cases c : y = h
    · exact ⟨_, .stop (by rw [get_drop, if_pos c])⟩
    · obtain ⟨k2, r2⟩ := ih
      exact ⟨_, .step (by rw [get_drop, if_neg c]; exact e) r2⟩
theorem Rd.suf {m : AL Str} {x : Str} {l : List Str} (r : Rd m x l) : ∀ y ∈ l, ∃ l2, Rd m y l2 ∧ l2.length ≤ l.length := by
  induction r with
  | @stop h e => intro y hy; rw [List.mem_singleton.mp hy]; exact ⟨_, .stop e, Nat.le_refl _⟩
  | @step h g l e r ih =>
    intro y hy
    rcases List.mem_cons.mp hy with rfl | hy
    · exact ⟨_, .step e r, Nat.le_refl _⟩
    · obtain ⟨l2, h1, h2⟩ := ih y hy
      exact ⟨l2, h1, by rw [List.length_cons]; omega⟩
theorem Rd.nodup {m : AL Str} {x : Str} {l : List Str} (r : Rd m x l) : l.Nodup := by
  induction r with
  | stop e => exact List.nodup_cons.mpr ⟨by simp, List.nodup_nil⟩
  | @step h g l e r ih =>
    refine List.nodup_cons.mpr ⟨fun hm => ?_, ih⟩
    obtain ⟨l2, h1, h2⟩ := r.suf h hm
    have := h1.det (.step e r)
    rw [this, List.length_cons] at h2
    omega
theorem len_sub : ∀ {a b : List Str}, a.Nodup → (∀ x ∈ a, x ∈ b) → a.length ≤ b.length
  | [], _, _, _ => Nat.zero_le _
  | x :: r, b, nd, h => by
    have h2 := List.nodup_cons.mp nd
    have hx : x ∈ b := h x (List.mem_cons_self ..)
    have := len_sub (a := r) (b := b.erase x) h2.2 fun y hy => (List.mem_erase_of_ne (fun e => h2.1 (by rw [← e]; exact hy))).mpr (h y (List.mem_cons_of_mem _ hy))
    rw [List.length_erase_of_mem hx] at this
    have hp : 0 < b.length := List.length_pos_of_mem hx
    rw [List.length_cons]
    omega
theorem Rd.len {m : AL Str} {x : Str} {l : List Str} (r : Rd m x l) : l.length ≤ m.length + 1 := by
  have key : ∀ {x : Str} {l : List Str}, Rd m x l → ∀ y ∈ l.dropLast, y ∈ m.map (·.1) := by
    intro x l r
    induction r with
    | stop e => intro y hy; simp at hy
    | @step h g l e r ih =>
      intro y hy
      obtain ⟨t, rfl⟩ := r.head
      rw [List.dropLast_cons_cons] at hy
      rcases List.mem_cons.mp hy with rfl | hy
      · exact List.mem_map.mpr ⟨_, get_mem e, rfl⟩
      · exact ih y hy
  have h1 := len_sub (r.nodup.sublist (List.dropLast_sublist _)) (key r)
  rw [List.length_map, List.length_dropLast] at h1
  omega
end LW
namespace LW
open PySem L2 DL
open Classical in
/-- a row, its form told apart -/
inductive Rw where
  | part (la : Str) (ps : List Pt)
  | join (ls : List Str) (la : Str)
  | forfeit (la h : Str)
  | measure (f : Str) (i : Int)
  | mend (h g : Str)
  | alone (h : Str)
  | breach (f : Str) (i c s : Int)
  | view (f : Str) (i : Int) (h : Str)
def Rw.w : Rw → Str
  | .part _ _ => "part" | .join _ _ => "join" | .forfeit _ _ => "forfeit" | .measure _ _ => "measure" | .mend _ _ => "mend" | .alone _ => "alone" | .breach _ _ _ _ => "breach" | .view _ _ _ => "view"
def Rw.rest : Rw → List D
  | .part la ps => [.str la, .tup (ps.map Pt.D)]
  | .join ls la => [.tup (ls.map .str), .str la]
  | .forfeit la h => [.str la, .str h]
  | .measure f i => [.str f, .int i]
  | .mend h g => [.str h, .str g]
  | .alone h => [.str h]
  | .breach f i c s => [.str f, .int i, .int c, .int s]
  | .view f i h => [.str f, .int i, .str h]
def Rw.D (r : Rw) (n : Str) (d : Int) : DL.D := rowD r.w n d r.rest
/-- within its bounds, of a laying's fields -/
def Rw.ok (fs : List Str) : Rw → Prop
  | .part la ps => Nm la ∧ 2 ≤ ps.length ∧ ps.length ≤ 6 ∧ Rise (ps.map (·.o)) ∧ ∀ x ∈ ps, x.ok
  | .join ls la => 2 ≤ ls.length ∧ ls.length ≤ 6 ∧ Rise ls ∧ (∀ z ∈ ls, Nm z) ∧ Nm la
  | .forfeit la h => Nm la ∧ Nm h
  | .measure f i => f ∈ fs ∧ 0 ≤ i ∧ i ≤ 10000000
  | .mend h g => Nm h ∧ Nm g ∧ h ≠ g
  | .alone h => Nm h
  | .breach f i _ _ => f ∈ fs ∧ 0 ≤ i ∧ i ≤ 9999999
  | .view f i h => f ∈ fs ∧ 0 ≤ i ∧ i ≤ 9999999 ∧ Nm h
theorem rw_of {n w : Str} {d : Int} {R : D} {fs : List Str} (h : RowOk n d w R) (hF : FIn (· ∈ fs) w R) : ∃ r : Rw, r.w = w ∧ R = r.D n d ∧ r.ok fs := by
  cases h with
  | @part la ps hl h2 h6 hr hp => exact ⟨.part la ps, rfl, rfl, hl, h2, h6, hr, hp⟩
  | @join ls la h2 h6 hr hp hl => exact ⟨.join ls la, rfl, rfl, h2, h6, hr, hp, hl⟩
  | @forfeit la h hl hh => exact ⟨.forfeit la h, rfl, rfl, hl, hh⟩
  | @measure f i hf i0 i1 => exact ⟨.measure f i, rfl, rfl, hF (by decide +kernel) _ _ _ _ rfl, i0, i1⟩
  | @mend h g hh hg ne => exact ⟨.mend h g, rfl, rfl, hh, hg, ne⟩
  | @alone h hh => exact ⟨.alone h, rfl, rfl, hh⟩
  | @breach f i c s hf i0 i1 c0 c1 s0 s1 => exact ⟨.breach f i c s, rfl, rfl, hF (by decide +kernel) _ _ _ _ rfl, i0, i1⟩
  | @view f i h hf i0 i1 hh => exact ⟨.view f i h, rfl, rfl, hF (by decide +kernel) _ _ _ _ rfl, i0, i1, hh⟩
abbrev Ld := Str × List Pc
structure PSt where
  lands : AL Ld
  inches : AL Int
  menders : AL Str
  fields : List Str
def houseOf (L : AL Ld) (l : Str) : Str := match L.get l with
  | some x => x.1
  | none => ""
def piecesOf (L : AL Ld) (l : Str) : List Pc := match L.get l with
  | some x => x.2
  | none => []
def partW (L : AL Ld) (la : Str) (ps : List Pt) : Str :=
  if (L.get la).isSome = false then "land" else if accs (piecesOf L la) ≠ (ps.map (·.n)).sum then "acres"
  else if (ps.any fun p => (L.get p.o).isSome && !decide (p.o = la)) = true then "name" else "done"
def joinW (L : AL Ld) (ls : List Str) (la : Str) : Str :=
  if (ls.all fun l => (L.get l).isSome) = false then "land" else if 1 < dst (ls.map fun l => kS (houseOf L l)) then "houses"
  else if (L.get la).isSome = true ∧ la ∉ ls then "name" else "done"
def forfeitW (L : AL Ld) (la h : Str) : Str := if (L.get la).isSome = false then "land" else if houseOf L la = h then "same" else "done"
open Classical in
noncomputable def wordOf (s : PSt) : Rw → Str
  | .part la ps => partW s.lands la ps
  | .join ls la => joinW s.lands ls la
  | .forfeit la h => forfeitW s.lands la h
  | .measure _ _ => "done"
  | .mend h g => if ∃ l, Rd s.menders g l ∧ h ∈ l then "ring" else "done"
  | .alone h => if (s.menders.get h).isSome = true then "done" else "none"
  | .breach f i _ _ => if (s.inches.get f).getD 0 ≤ i then "inch" else "done"
  | .view f i _ => if (s.inches.get f).getD 0 ≤ i then "inch" else "done"
def partL (pcs : List Pc) : Int → List Pt → AL Ld → AL Ld
  | _, [], L => L
  | at_, p :: r, L => partL pcs (at_ + p.n) r (L.put p.o (p.h, cutP at_ (at_ + p.n) 0 pcs))
def joinL : List Str → AL Ld → List Pc → AL Ld × List Pc
  | [], L, acc => (L, acc)
  | l :: r, L, acc => joinL r (L.drop l) (acc ++ piecesOf L l)
def doRow (s : PSt) : Rw → PSt
  | .part la ps => { s with lands := partL (piecesOf s.lands la) 0 ps (s.lands.drop la) }
  | .join ls la => { s with lands := (joinL ls s.lands []).1.put la (houseOf s.lands (ls.headD ""), joinP s.fields (joinL ls s.lands []).2) }
  | .forfeit la h => { s with lands := s.lands.put la (h, piecesOf s.lands la) }
  | .measure f i => { s with inches := s.inches.put f i }
  | .mend h g => { s with menders := s.menders.put h g }
  | .alone h => { s with menders := s.menders.drop h }
  | .breach _ _ _ _ => s
  | .view _ _ _ => s
noncomputable def foldS (s : PSt) (r : Rw) : PSt := if wordOf s r = "done" then doRow s r else s
noncomputable def foldL (s : PSt) (rs : List Rw) : PSt := rs.foldl foldS s
noncomputable def wordsL : PSt → List Rw → List Str
  | _, [] => []
  | s, r :: rs => wordOf s r :: wordsL (foldS s r) rs
def landOf (x : Fd) : Ld := (x.h, [⟨x.f, 0, x.a⟩])
def begunP (xs : List Fd) : PSt := ⟨xs.foldl (fun L x => L.put x.f (landOf x)) [], xs.foldl (fun L x => L.put x.f x.n) [], [], xs.map (·.f)⟩
/-! what stands in every state -/
def tot (L : AL Ld) : Int := (L.map fun p => accs p.2.2).sum
structure LOk (fs : List Str) (L : AL Ld) : Prop where
  pc : ∀ p ∈ L, PcsOk fs p.2.2
theorem LOk.get {fs : List Str} {L : AL Ld} (h : LOk fs L) (l : Str) : PcsOk fs (piecesOf L l) := by
  unfold piecesOf
  cases e : L.get l with
  | none => exact ⟨fun _ h => (by cases h), fun _ h => (by cases h)⟩
  | some x => exact h.pc _ (get_mem e)
theorem tot_cons (p : Str × Ld) (L : AL Ld) : tot (p :: L) = accs p.2.2 + tot L := by unfold tot; rw [List.map_cons, List.sum_cons]
theorem LOk.tl {fs : List Str} {p : Str × Ld} {L : AL Ld} (h : LOk fs (p :: L)) : LOk fs L := ⟨fun q hq => h.pc q (List.mem_cons_of_mem _ hq)⟩
theorem tot_pos {fs : List Str} : ∀ {L : AL Ld}, LOk fs L → 0 ≤ tot L
  | [], _ => Int.le_refl _
  | p :: L, h => by
    rw [tot_cons]
    have := tot_pos h.tl
    have := (h.pc p (List.mem_cons_self ..)).pos
    omega
theorem tot_get {fs : List Str} : ∀ {L : AL Ld} (l : Str), LOk fs L → accs (piecesOf L l) + tot (L.drop l) ≤ tot L
  | [], l, _ => by show (0 : Int) + 0 ≤ 0; omega
  | (k, x) :: L, l, h => by
    have ih := tot_get (L := L) l h.tl
    rw [tot_cons]
    unfold piecesOf AL.get AL.drop
    by_cases e : k = l
    · rw [if_pos e, if_pos e]
      dsimp only
      have h2 := (LOk.get h.tl l).pos
      have : tot (AL.drop L l) ≤ tot L := by unfold piecesOf at ih h2; omega
      omega
    · rw [if_neg e, if_neg e, tot_cons]
      unfold piecesOf at ih
      dsimp only at ih ⊢
      omega
theorem drop_sub {α : Type} : ∀ {L : AL α} {l : Str} {p : Str × α}, p ∈ L.drop l → p ∈ L
  | (k, x) :: L, l, p, h => by
    unfold AL.drop at h
    split at h
    · exact List.mem_cons_of_mem _ (drop_sub h)
    · rcases List.mem_cons.mp h with h | h
      · rw [h]; exact List.mem_cons_self ..
      · exact List.mem_cons_of_mem _ (drop_sub h)
theorem LOk.drop {fs : List Str} {L : AL Ld} (h : LOk fs L) (l : Str) : LOk fs (L.drop l) := ⟨fun p hp => h.pc p (drop_sub hp)⟩
theorem repl_mem {α : Type} : ∀ {L : AL α} {l : Str} {v : α} {p : Str × α}, p ∈ L.repl l v → p ∈ L ∨ p.2 = v
  | (k, x) :: L, l, v, p, h => by
    unfold AL.repl at h
    rcases List.mem_cons.mp h with h | h
    · split at h
      · exact .inr (by rw [h])
      · exact .inl (by rw [h]; exact List.mem_cons_self ..)
    · rcases repl_mem h with h | h
      · exact .inl (List.mem_cons_of_mem _ h)
      · exact .inr h
theorem put_mem {α : Type} {L : AL α} {l : Str} {v : α} {p : Str × α} (h : p ∈ L.put l v) : p ∈ L ∨ p.2 = v := by
  unfold AL.put at h
  split at h
  · exact repl_mem h
  · rcases List.mem_append.mp h with h | h
    · exact .inl h
    · rw [List.mem_singleton.mp h]; exact .inr rfl
theorem LOk.put {fs : List Str} {L : AL Ld} {l h : Str} {ps : List Pc} (ok : LOk fs L) (hp : PcsOk fs ps) : LOk fs (L.put l (h, ps)) := ⟨fun p hm => by
  rcases put_mem hm with hm | hm
  · exact ok.pc p hm
  · rw [hm]; exact hp⟩
theorem tot_repl {fs : List Str} {v : Ld} : ∀ {L : AL Ld} {l : Str}, LOk fs L → (L.map (·.1)).Nodup → (L.get l).isSome = true → tot (L.repl l v) = tot L - accs (piecesOf L l) + accs v.2
  | [], l, _, _, h => by cases h
  | (k, x) :: L, l, ok, nd, h => by
    rw [List.map_cons, List.nodup_cons] at nd
    unfold AL.repl
    rw [tot_cons, tot_cons]
    unfold piecesOf AL.get at *
    by_cases e : k = l
    · rw [if_pos e, if_pos e]
      have hn : AL.repl L l v = L := by
        have : ∀ (M : AL Ld), l ∉ M.map (·.1) → AL.repl M l v = M := by
          intro M
          induction M with
          | nil => intro _; rfl
          | cons p M ih =>
            obtain ⟨j, y⟩ := p
            intro hm
            rw [List.map_cons, List.mem_cons, not_or] at hm
            unfold AL.repl
            rw [if_neg (fun z => hm.1 z.symm), ih hm.2]
        exact this L (by rw [← e]; exact nd.1)
      rw [hn]
      dsimp only
      omega
    · rw [if_neg e] at h ⊢
      rw [if_neg e]
      have ih := tot_repl (v := v) (L := L) (l := l) ok.tl nd.2 h
      unfold piecesOf at ih
      rw [ih]
      dsimp only
      omega
theorem get_none {α : Type} : ∀ {L : AL α} {l : Str}, L.get l = none → l ∉ L.map (·.1)
  | [], _, _ => by simp
  | (k, x) :: L, l, h => by
    unfold AL.get at h
    by_cases e : k = l
    · rw [if_pos e] at h; cases h
    · rw [if_neg e] at h
      rw [List.map_cons, List.mem_cons, not_or]
      exact ⟨fun z => e z.symm, get_none h⟩
theorem repl_keys {α : Type} : ∀ (L : AL α) (l : Str) (v : α), (AL.repl L l v).map (·.1) = L.map (·.1)
  | [], _, _ => rfl
  | (k, x) :: L, l, v => by
    unfold AL.repl
    rw [List.map_cons, List.map_cons, repl_keys L l v]
    split <;> rfl
theorem put_nd {α : Type} {L : AL α} {l : Str} {v : α} (nd : (L.map (·.1)).Nodup) : ((L.put l v).map (·.1)).Nodup := by
  unfold AL.put
  by_cases h : (L.get l).isSome = true
  · rw [if_pos h, repl_keys]; exact nd
  · rw [if_neg h, List.map_append, List.nodup_append]
    have hn : L.get l = none := by
      cases e : L.get l with
      | none => rfl
      | some w => rw [e] at h; exact absurd rfl h
    refine ⟨nd, List.nodup_cons.mpr ⟨by simp, List.nodup_nil⟩, fun a ha b hb e => ?_⟩
    rw [List.map_cons, List.map_nil, List.mem_singleton] at hb
    exact get_none hn (by rw [show l = a by rw [e, hb]]; exact ha)
theorem drop_subl {α : Type} : ∀ (L : AL α) (l : Str), (AL.drop L l).Sublist L
  | [], _ => List.Sublist.slnil
  | (k, x) :: L, l => by
    unfold AL.drop
    split
    · exact (drop_subl L l).cons _
    · exact (drop_subl L l).cons₂ _
theorem drop_nd {α : Type} {L : AL α} {l : Str} (nd : (L.map (·.1)).Nodup) : ((L.drop l).map (·.1)).Nodup := nd.sublist ((drop_subl L l).map _)
theorem tot_put {fs : List Str} {L : AL Ld} {l : Str} {v : Ld} (ok : LOk fs L) (nd : (L.map (·.1)).Nodup) : tot (L.put l v) ≤ tot L + accs v.2 := by
  unfold AL.put
  by_cases h : (L.get l).isSome = true
  · rw [if_pos h, tot_repl ok nd h]
    have := (ok.get l).pos
    omega
  · rw [if_neg h]
    have : tot (L ++ [(l, v)]) = tot L + accs v.2 := by
      unfold tot
      rw [List.map_append, List.sum_append]
      simp
    omega
/-- lands: right pieces, unlike names, no more than A acres, no more than n lands -/
structure LInv (fs : List Str) (A : Int) (n : Nat) (L : AL Ld) : Prop where
  ok : LOk fs L
  nd : (L.map (·.1)).Nodup
  tot : tot L ≤ A
  len : L.length ≤ n
theorem LInv.drop {fs : List Str} {A : Int} {n : Nat} {L : AL Ld} (h : LInv fs A n L) (l : Str) : LInv fs (A - accs (piecesOf L l)) n (L.drop l) :=
  ⟨h.ok.drop l, drop_nd h.nd, by have := tot_get l h.ok; have := h.tot; omega, Nat.le_trans (drop_len L l) h.len⟩
theorem LInv.put {fs : List Str} {A : Int} {n : Nat} {L : AL Ld} (h : LInv fs A n L) {l g : Str} {ps : List Pc} (hp : PcsOk fs ps) : LInv fs (A + accs ps) (n + 1) (L.put l (g, ps)) :=
  ⟨h.ok.put hp, put_nd h.nd, by have := tot_put (l := l) (v := (g, ps)) h.ok h.nd; have := h.tot; dsimp only at *; omega, by have := put_len L l (g, ps); have := h.len; omega⟩
theorem LInv.mono {fs : List Str} {A B : Int} {n m : Nat} {L : AL Ld} (h : LInv fs A n L) (hA : A ≤ B) (hn : n ≤ m) : LInv fs B m L := ⟨h.ok, h.nd, by have := h.tot; omega, by have := h.len; omega⟩
theorem LInv.get {fs : List Str} {A : Int} {n : Nat} {L : AL Ld} (h : LInv fs A n L) (l : Str) : accs (piecesOf L l) ≤ A := by
  have h1 := tot_get l h.ok
  have h2 := tot_pos (h.ok.drop l)
  have := h.tot
  omega
theorem partL_inv {fs : List Str} {pcs : List Pc} (hp : PcsOk fs pcs) : ∀ {ps : List Pt} {at_ : Int} {L : AL Ld} {A : Int} {n : Nat}, (∀ x ∈ ps, 1 ≤ x.n) → 0 ≤ at_ → LInv fs A n L → LInv fs (A + (ps.map (·.n)).sum) (n + ps.length) (partL pcs at_ ps L)
  | [], _, L, A, n, _, _, h => h.mono (by simp) (by simp)
  | p :: r, at_, L, A, n, hn, h0, h => by
    have h2 := List.forall_mem_cons.mp hn
    have hc : PcsOk fs (cutP at_ (at_ + p.n) 0 pcs) := cut_ok hp
    have ha : accs (cutP at_ (at_ + p.n) 0 pcs) ≤ p.n := by
      have h3 := cut_accs (lo := at_) (hi := at_ + p.n) (at_ := 0) hp
      have := h2.1
      unfold mxI at h3
      repeat' split at h3
      all_goals omega
    have ih := partL_inv hp (ps := r) (at_ := at_ + p.n) h2.2 (by have := h2.1; omega) (h.put (l := p.o) (g := p.h) hc)
    unfold partL
    exact ih.mono (by rw [List.map_cons, List.sum_cons]; omega) (by rw [List.length_cons]; omega)
theorem joinL_inv {fs : List Str} : ∀ {ls : List Str} {L : AL Ld} {acc : List Pc} {A : Int} {n : Nat}, LInv fs A n L → PcsOk fs acc → LInv fs (A + accs acc - accs (joinL ls L acc).2) n (joinL ls L acc).1 ∧ PcsOk fs (joinL ls L acc).2
  | [], L, acc, A, n, h, hp => ⟨h.mono (by show A ≤ A + accs acc - accs acc; omega) (Nat.le_refl _), hp⟩
  | l :: r, L, acc, A, n, h, hp => by
    have hg := h.ok.get l
    have hp2 : PcsOk fs (acc ++ piecesOf L l) := ⟨fun x hx => (List.mem_append.mp hx).elim (hp.f x) (hg.f x), fun x hx => (List.mem_append.mp hx).elim (hp.lt x) (hg.lt x)⟩
    obtain ⟨a, b⟩ := joinL_inv (ls := r) (h.drop l) hp2
    unfold joinL
    exact ⟨a.mono (by rw [accs_app]; omega) (Nat.le_refl _), b⟩
end LW
namespace LW
open PySem L2 DL
structure SInv (fs : List Str) (A : Int) (k : Nat) (s : PSt) : Prop where
  la : LInv fs A (10 + 6 * k) s.lands
  inn : ∀ f ∈ fs, (s.inches.get f).isSome = true
  il : s.inches.length ≤ 10 + k
  acy : Acy s.menders
  ml : s.menders.length ≤ k
  fi : s.fields = fs
theorem SInv.mono {fs : List Str} {A : Int} {k : Nat} {s : PSt} (h : SInv fs A k s) : SInv fs A (k + 1) s := ⟨h.la.mono (Int.le_refl _) (by omega), h.inn, by have := h.il; omega, h.acy, by have := h.ml; omega, h.fi⟩
theorem pieces_some {L : AL Ld} {l : Str} (h : (L.get l).isSome = true) : L.get l = some (houseOf L l, piecesOf L l) := by
  unfold houseOf piecesOf
  obtain ⟨x, hx⟩ := Option.isSome_iff_exists.mp h
  rw [hx]
theorem partW_done {L : AL Ld} {la : Str} {ps : List Pt} (h : partW L la ps = "done") : (L.get la).isSome = true ∧ accs (piecesOf L la) = (ps.map (·.n)).sum := by
  unfold partW at h
  by_cases h1 : (L.get la).isSome = false
  · rw [if_pos h1] at h; exact absurd h (by decide +kernel)
  · rw [if_neg h1] at h
    by_cases h2 : accs (piecesOf L la) ≠ (ps.map (·.n)).sum
    · rw [if_pos h2] at h; exact absurd h (by decide +kernel)
    · exact ⟨by simpa only [Bool.not_eq_false] using h1, Decidable.not_not.mp h2⟩
theorem joinW_done {L : AL Ld} {la : Str} {ls : List Str} (h : joinW L ls la = "done") : ∀ l ∈ ls, (L.get l).isSome = true := by
  unfold joinW at h
  by_cases h1 : (ls.all fun l => (L.get l).isSome) = false
  · rw [if_pos h1] at h; exact absurd h (by decide +kernel)
  · simp only [Bool.not_eq_false, List.all_eq_true] at h1
    exact h1
theorem forfeitW_done {L : AL Ld} {la g : Str} (h : forfeitW L la g = "done") : (L.get la).isSome = true := by
  unfold forfeitW at h
  by_cases h1 : (L.get la).isSome = false
  · rw [if_pos h1] at h; exact absurd h (by decide +kernel)
  · simpa only [Bool.not_eq_false] using h1
theorem word_ring {s : PSt} {a g : Str} (h : ∃ l, Rd s.menders g l ∧ a ∈ l) : wordOf s (.mend a g) = "ring" := by
  unfold wordOf
  dsimp only
  rw [if_pos h]
theorem word_mend {s : PSt} {a g : Str} (h : ¬ ∃ l, Rd s.menders g l ∧ a ∈ l) : wordOf s (.mend a g) = "done" := by
  unfold wordOf
  dsimp only
  rw [if_neg h]
theorem doRow_inv {fs : List Str} {A : Int} {k : Nat} {s : PSt} {r : Rw} (h : SInv fs A k s) (hr : r.ok fs) (hw : wordOf s r = "done") : SInv fs A (k + 1) (doRow s r) := by
  cases r with
  | part la ps =>
    obtain ⟨h1, h2⟩ := partW_done hw
    obtain ⟨_, _, h6, _, hp⟩ := hr
    have := partL_inv (h.la.ok.get la) (ps := ps) (at_ := 0) (fun x hx => (hp x hx).n1) (Int.le_refl _) (h.la.drop la)
    exact ⟨this.mono (by rw [h2]; omega) (by omega), h.inn, by have := h.il; show s.inches.length ≤ _; omega, h.acy, by have := h.ml; show s.menders.length ≤ _; omega, h.fi⟩
  | join ls la =>
    obtain ⟨a, b⟩ := joinL_inv (ls := ls) (acc := []) h.la ⟨fun _ h => (by cases h), fun _ h => (by cases h)⟩
    obtain ⟨c, d⟩ := join_ok b
    have hf := h.fi
    have := a.put (l := la) (g := houseOf s.lands (ls.headD "")) c
    rw [← hf] at this
    refine ⟨LInv.mono (m := 10 + 6 * (k + 1)) (by rw [← hf]; exact this) ?_ (show 10 + 6 * k + 1 ≤ _ by omega), h.inn, by have := h.il; show s.inches.length ≤ _; omega, h.acy, by have := h.ml; show s.menders.length ≤ _; omega, h.fi⟩
    rw [hf, d]
    have e0 : accs ([] : List Pc) = 0 := rfl
    rw [e0]
    omega
  | forfeit la g =>
    have h1 := forfeitW_done hw
    have hg := h.la.ok.get la
    have h2 : tot (s.lands.put la (g, piecesOf s.lands la)) = tot s.lands := by
      unfold AL.put
      rw [if_pos h1, tot_repl h.la.ok h.la.nd h1]
      dsimp only
      omega
    have h3 : (s.lands.put la (g, piecesOf s.lands la)).length = s.lands.length := by
      unfold AL.put
      rw [if_pos h1, repl_len]
    exact ⟨⟨h.la.ok.put hg, put_nd h.la.nd, by show tot (s.lands.put la (g, piecesOf s.lands la)) ≤ A; rw [h2]; exact h.la.tot, by show (s.lands.put la (g, piecesOf s.lands la)).length ≤ _; rw [h3]; have := h.la.len; omega⟩,
      h.inn, by have := h.il; show s.inches.length ≤ _; omega, h.acy, by have := h.ml; show s.menders.length ≤ _; omega, h.fi⟩
  | measure f i =>
    refine ⟨h.la.mono (Int.le_refl _) (by omega), fun z hz => ?_, by have := put_len s.inches f i; have := h.il; show (s.inches.put f i).length ≤ _; omega, h.acy, by have := h.ml; show s.menders.length ≤ _; omega, h.fi⟩
    show ((s.inches.put f i).get z).isSome = true
    rw [get_put]
    split
    · rfl
    · exact h.inn z hz
  | mend a g =>
    have hl : ∃ l, Rd s.menders g l ∧ a ∉ l := by
      obtain ⟨l, hl⟩ := h.acy g
      refine ⟨l, hl, fun hm => ?_⟩
      rw [word_ring ⟨l, hl, hm⟩] at hw
      exact absurd hw (by decide +kernel)
    obtain ⟨l, hl, hn⟩ := hl
    refine ⟨h.la.mono (Int.le_refl _) (by omega), h.inn, by have := h.il; show s.inches.length ≤ _; omega, h.acy.put hl hn, by have := put_len s.menders a g; have := h.ml; show (s.menders.put a g).length ≤ _; omega, h.fi⟩
  | alone a =>
    exact ⟨h.la.mono (Int.le_refl _) (by omega), h.inn, by have := h.il; show s.inches.length ≤ _; omega, h.acy.drop, by have := drop_len s.menders a; have := h.ml; show (s.menders.drop a).length ≤ _; omega, h.fi⟩
  | breach f i c s => exact h.mono
  | view f i g => exact h.mono
theorem foldS_inv {fs : List Str} {A : Int} {k : Nat} {s : PSt} {r : Rw} (h : SInv fs A k s) (hr : r.ok fs) : SInv fs A (k + 1) (foldS s r) := by
  unfold foldS
  by_cases hw : wordOf s r = "done"
  · rw [if_pos hw]; exact doRow_inv h hr hw
  · rw [if_neg hw]; exact h.mono
/-! the state in the store -/
def LdD (x : Ld) : DL.D := .tup [.str x.1, .tup (x.2.map Pc.D)]
def stKv (la inn me fi : Addr) : List (Key × DL.D) := [(kS "lands", .ref la), (kS "inches", .ref inn), (kS "menders", .ref me), (kS "fields", .ref fi)]
structure StA where
  st : Addr
  la : Addr
  inn : Addr
  me : Addr
  fi : Addr
structure StAt (S : Sto) (a : StA) (s : PSt) : Prop where
  st : S a.st = some (.dk (stKv a.la a.inn a.me a.fi))
  la : S a.la = some (.dk (al LdD s.lands))
  inn : S a.inn = some (.dk (al DL.D.int s.inches))
  me : S a.me = some (.dk (al DL.D.str s.menders))
  fi : S a.fi = some (.lst (s.fields.map .str))
/-- unlike places -/
structure StA.ne (a : StA) : Prop where
  nd : [a.st, a.la, a.inn, a.me, a.fi].Nodup
theorem StAt.gr {S S' : Sto} {a : StA} {s : PSt} (h : StAt S a s) (g : Gr S S') : StAt S' a s := ⟨g _ _ h.st, g _ _ h.la, g _ _ h.inn, g _ _ h.me, g _ _ h.fi⟩
theorem st_lands {la inn me fi : Addr} : valD (stKv la inn me fi) (kS "lands") = some (.ref la) := by unfold stKv valD; rw [if_pos rfl]
theorem k_li : ¬ kS "lands" = kS "inches" := by decide +kernel
theorem k_lm : ¬ kS "lands" = kS "menders" := by decide +kernel
theorem k_lf : ¬ kS "lands" = kS "fields" := by decide +kernel
theorem k_im : ¬ kS "inches" = kS "menders" := by decide +kernel
theorem k_if : ¬ kS "inches" = kS "fields" := by decide +kernel
theorem k_mf : ¬ kS "menders" = kS "fields" := by decide +kernel
theorem st_inches {la inn me fi : Addr} : valD (stKv la inn me fi) (kS "inches") = some (.ref inn) := by unfold stKv valD; rw [if_neg k_li]; unfold valD; rw [if_pos rfl]
theorem st_menders {la inn me fi : Addr} : valD (stKv la inn me fi) (kS "menders") = some (.ref me) := by unfold stKv valD; rw [if_neg k_lm]; unfold valD; rw [if_neg k_im]; unfold valD; rw [if_pos rfl]
theorem st_fields {la inn me fi : Addr} : valD (stKv la inn me fi) (kS "fields") = some (.ref fi) := by unfold stKv valD; rw [if_neg k_lf]; unfold valD; rw [if_neg k_if]; unfold valD; rw [if_neg k_mf]; unfold valD; rw [if_pos rfl]
end LW
/-! what the functions of folds tell -/
namespace LW
open PySem L2 DL
/-- short enough for a list -/
def Sh {α : Type} (ps : List α) : Prop := ps.length < sizeLine
theorem acres_spec {ps : List Pc} {S : Sto} {Q : DK} (hz : Sh ps) (q : ∀ S', Gr S S' → Q (.int (accs ps)) S') : m_acres_in [.tup (ps.map Pc.D)] S Q := by
  rw [e_acres_in]
  simp_arith [b_acres_in]
  refine lcL_map (fun d => match d with | .tup [_, .int lo, .int hi] => .int (hi - lo) | _ => .non) _ trivial (by rw [List.length_map]; exact Nat.le_of_lt hz) (fun x hx Q q => ?_) ?_
  · obtain ⟨y, hy, rfl⟩ := List.mem_map.mp hx
    rw [show Pc.D y = .tup [.str y.f, .int y.lo, .int y.hi] from rfl]
    simp_arith [c_acres_in_1]
    exact q
  · intro p hp
    refine ⟨ps.map fun x => x.hi - x.lo, ?_, ?_⟩
    · rw [updS_same, List.map_map, List.map_map]
      rfl
    · exact q _ (.new hp)
theorem cut_step {lo hi : Int} {x : Pc} {r : List Pc} {at_ : Int} : cutP lo hi at_ (x :: r) = (if mxI x.lo (x.lo + lo - at_) < mnI x.hi (x.lo + hi - at_) then [⟨x.f, mxI x.lo (x.lo + lo - at_), mnI x.hi (x.lo + hi - at_)⟩] else []) ++ cutP lo hi (at_ + x.hi - x.lo) r := rfl
/-- the place behind some pieces -/
def offs (ps : List Pc) : Int := accs ps
theorem cut_app {lo hi : Int} : ∀ {a b : List Pc} {at_ : Int}, cutP lo hi at_ (a ++ b) = cutP lo hi at_ a ++ cutP lo hi (at_ + accs a) b
  | [], b, at_ => by show cutP lo hi at_ b = [] ++ cutP lo hi (at_ + 0) b; rw [Int.add_zero]; rfl
  | x :: r, b, at_ => by
    have ih := cut_app (lo := lo) (hi := hi) (a := r) (b := b) (at_ := at_ + x.hi - x.lo)
    rw [List.cons_append, cut_step, cut_step, ih, List.append_assoc]
    have e : at_ + x.hi - x.lo + accs r = at_ + accs (x :: r) := by
      unfold accs
      rw [List.map_cons, List.sum_cons]
      omega
    rw [e]
theorem cut_len {lo hi : Int} : ∀ {ps : List Pc} {at_ : Int}, (cutP lo hi at_ ps).length ≤ ps.length
  | [], _ => Nat.le_refl _
  | x :: r, at_ => by
    have ih := cut_len (lo := lo) (hi := hi) (ps := r) (at_ := at_ + x.hi - x.lo)
    rw [cut_step, List.length_append, List.length_cons]
    split
    · simp only [List.length_cons, List.length_nil]; omega
    · simp only [List.length_nil]; omega
theorem cut_spec {ps : List Pc} {lo hi : Int} {S : Sto} {Q : DK} (hz : Sh ps) (q : ∀ S', Gr S S' → Q (.tup ((cutP lo hi 0 ps).map Pc.D)) S') : m_cut [.tup (ps.map Pc.D), .int lo, .int hi] S Q := by
  rw [e_cut]
  refine seq_i ?_
  simp_arith []
  refine ⟨by decide, fun c hc => ?_⟩
  have g0 : Gr S (updS S c (.lst [])) := .new hc
  have ec : updS S c (.lst []) c = some (.lst []) := updS_same
  generalize updS S c (.lst []) = S0 at g0 ec
  simp_arith [t_cut_2]
  refine seq_i ?_
  simp_arith [t_cut_3]
  refine seq_i ?_
  simp_arith []
  refine forL_inv _ (fun i σ S' => ∃ u5 u6 u7 u8 u9, σ = [some (.tup (ps.map Pc.D)), some (.int lo), some (.int hi), some (.ref c), some (.int (accs (ps.take i))), u5, u6, u7, u8, u9] ∧ Gr S S' ∧ S' c = some (.lst ((cutP lo hi 0 (ps.take i)).map Pc.D))) (fun _ _ _ _ => trivial) (fun i x σ S' N hxi hJ hN => ?turn) (fun σ S' hJ => ?fin) ⟨none, none, none, none, none, by rw [List.take_zero]; rfl, g0, by rw [List.take_zero]; exact ec⟩
  case fin =>
    obtain ⟨u5, u6, u7, u8, u9, rfl, g1, e1⟩ := hJ
    rw [List.length_map, List.take_of_length_le (Nat.le_refl _)] at e1
    simp_arith [t_cut_9, e1]
    exact ⟨_, rfl, q _ g1⟩
  case turn =>
    obtain ⟨u5, u6, u7, u8, u9, rfl, g1, e1⟩ := hJ
    have hi' := (List.getElem?_eq_some_iff.mp hxi).1
    rw [List.length_map] at hi'
    rw [List.getElem?_map, List.getElem?_eq_getElem hi'] at hxi
    injection hxi with hxi
    subst hxi
    rw [show Pc.D ps[i] = .tup [.str ps[i].f, .int ps[i].lo, .int ps[i].hi] from rfl]
    unfold l_cut_3
    simp_arith []
    refine seq_i ?_
    simp_arith [t_cut_5]
    refine seq_i ?_
    simp_arith [t_cut_6]
    refine seq_i ?_
    simp_arith [e1]
    have ea : accs (ps.take i) + ps[i].hi - ps[i].lo = accs (ps.take (i + 1)) := by
      rw [List.take_add_one, List.getElem?_eq_getElem hi', Option.toList_some, accs_app, accs_one]
      omega
    have ec2 : cutP lo hi 0 (ps.take (i + 1)) = cutP lo hi 0 (ps.take i) ++ (if mxI ps[i].lo (ps[i].lo + lo - accs (ps.take i)) < mnI ps[i].hi (ps[i].lo + hi - accs (ps.take i)) then [⟨ps[i].f, mxI ps[i].lo (ps[i].lo + lo - accs (ps.take i)), mnI ps[i].hi (ps[i].lo + hi - accs (ps.take i))⟩] else []) := by
      rw [List.take_add_one, List.getElem?_eq_getElem hi', Option.toList_some, cut_app, Int.zero_add, cut_step]
      rw [show cutP lo hi (accs (ps.take i) + ps[i].hi - ps[i].lo) [] = [] from rfl, List.append_nil]
    have fin : ∀ S2, Gr S S2 → S2 c = some (.lst ((cutP lo hi 0 (ps.take (i + 1))).map Pc.D)) → ∀ u8 u9 bk, t_cut_8 ⟨N, Q, bk, N⟩ [some (.tup (ps.map Pc.D)), some (.int lo), some (.int hi), some (.ref c), some (.int (accs (ps.take i))), some (.str ps[i].f), some (.int ps[i].lo), some (.int ps[i].hi), u8, u9] S2 := by
      intro S2 g2 e2 u8 u9 bk
      simp_arith [t_cut_8]
      rw [ea]
      exact hN _ _ ⟨_, _, _, _, _, rfl, g2, e2⟩
    have m1 : (if ps[i].lo + lo - accs (ps.take i) > ps[i].lo then ps[i].lo + lo - accs (ps.take i) else ps[i].lo) = mxI ps[i].lo (ps[i].lo + lo - accs (ps.take i)) := rfl
    have m2 : (if ps[i].lo + hi - accs (ps.take i) < ps[i].hi then ps[i].lo + hi - accs (ps.take i) else ps[i].hi) = mnI ps[i].hi (ps[i].lo + hi - accs (ps.take i)) := rfl
    rw [m1, m2]
    by_cases h : mxI ps[i].lo (ps[i].lo + lo - accs (ps.take i)) < mnI ps[i].hi (ps[i].lo + hi - accs (ps.take i))
    · rw [if_pos h] at ec2 ⊢
      have hl : (cutP lo hi 0 (ps.take i)).length < sizeLine := Nat.lt_of_le_of_lt cut_len (Nat.lt_of_le_of_lt (List.length_take_le ..) (by have hz : ps.length < sizeLine := hz; omega))
      refine ⟨by decide, _, rfl, by rw [List.length_map]; exact hl, fin _ (fun b o hb => ?_) ?_ _ _ _⟩
      · rw [updS_ne (fun z => by subst z; rw [hc] at hb; cases hb)]
        exact g1 _ _ hb
      · rw [updS_same, ec2, List.map_append]
        rfl
    · rw [if_neg h] at ec2 ⊢
      rw [List.append_nil] at ec2
      exact fin _ g1 (by rw [ec2]; exact e1) _ _ _
end LW
namespace LW
open PySem L2 DL
abbrev qJ : Str := "joined.<locals>.<lambda>"
/-- the table of the lambda's code objects is there -/
abbrev TJ (S : Sto) : Prop := S tP_joined = some (.tab qJ)
theorem sortL_i {P : Addr} {q : Str} {js : List Nat} {fb : DE} {i : Nat} {σ : DL.Env} {S : Sto} {Q : DK} {p : Addr} {xs cs : List DL.D} (h0 : getS i σ = some (.ref p)) (hT : S P = some (.tab q)) (hp : S p = some (.lst xs)) (hl : cs.length = js.length)
    (hc : ∀ (i j : Nat) (d : DL.D), js[i]? = some j → cs[i]? = some d → CapD S σ j d) (hk : keyedL fb cs xs fun ys => ∀ n, S n = none → Q (.ref n) (updS S n (.lst ys))) : eSortL P q js fb (eVar i) σ S Q := by
  unfold eSortL eVar
  rw [h0]
  exact ⟨hT, xs, cs, hp, hl, hc, hk⟩
theorem all_flat (zs : List Str) : (zs.map DL.D.str).all flatD = true := by
  rw [List.all_eq_true]
  intro x hx
  obtain ⟨z, _, rfl⟩ := List.mem_map.mp hx
  rfl
theorem nrs_strs : ∀ zs : List Str, nrs (zs.map .str) = true
  | [] => rfl
  | _ :: r => nrs_strs r
def kdP (fs : List Str) : DL.D → PyData := fun x => match x with
  | .tup [.str f, .int lo, _] => .tuple [.int (fs.idxOf f : Nat), .int lo]
  | _ => .none
theorem kdP_pc (fs : List Str) (x : Pc) : kdP fs x.D = keyPc fs x := rfl
theorem eqF_s (a b : Str) : eqF (.str a) (.str b) = decide (a = b) := rfl
theorem idx_min : ∀ {fs : List Str} {m : Nat} {y : Str}, fs[m]? = some y → fs.idxOf y ≤ m
  | [], m, y, h => by simp at h
  | x :: r, 0, y, h => by
    simp at h
    subst h
    rw [List.idxOf_cons_self]
    exact Nat.le_refl _
  | x :: r, m + 1, y, h => by
    have ih := idx_min (fs := r) (m := m) (y := y) (by simpa using h)
    rw [List.idxOf_cons]
    cases (x == y) with
    | true => exact Nat.zero_le _
    | false => exact Nat.succ_le_succ ih
theorem key_run {fs : List Str} {x : Pc} (h : x.f ∈ fs) : k_joined_2 [some x.D, some (.fl (fs.map .str))] S0 fun e _ => PD S0 e (kdP fs x.D) := by
  rw [show Pc.D x = .tup [.str x.f, .int x.lo, .int x.hi] from rfl]
  unfold k_joined_2
  simp_arith [tyM_f]
  refine ⟨_, atI_nat (j := 0) rfl, ?_⟩
  have hi : fs.idxOf x.f < fs.length := List.idxOf_lt_length_of_mem h
  refine ⟨fs.map .str, _, rfl, rfl, rfl, all_flat fs, fs.idxOf x.f, .str x.f, ?_, ?_, fun m z hm hz => ?_, ?_⟩
  · rw [List.getElem?_map, List.getElem?_eq_getElem hi, List.getElem_idxOf hi]
    rfl
  · rw [eqF_s]; exact decide_eq_true rfl
  · rw [List.getElem?_map] at hz
    obtain ⟨y, hy, rfl⟩ := Option.map_eq_some_iff.mp hz
    rw [eqF_s, decide_eq_false_iff_not]
    intro e
    have := idx_min hy
    rw [e] at this
    omega
  · refine ⟨_, atI_nat (j := 1) rfl, by decide, ?_⟩
    exact .tup (.cons (.int _) (.cons (.int _) .nil))
theorem sort_map (fs : List Str) (ps : List Pc) : (ps.map Pc.D).mergeSort (PySem.W.dataLe false (kdP fs)) = (sortP fs ps).map Pc.D := by
  unfold sortP
  rw [List.map_mergeSort]
  intro a _ b _
  rfl
theorem keyed_pc {fs : List Str} {ps : List Pc} {R : List DL.D → Prop} (h : PcsOk fs ps) (r : R ((sortP fs ps).map Pc.D)) : keyedL k_joined_2 [.fl (fs.map .str)] (ps.map Pc.D) R := by
  refine ⟨kdP fs, fun d hd => ?_, fun d hd d2 hd2 => ?_, .inl fun d hd => ?_, fun d hd => ?_, by rw [sort_map]; exact r⟩
  · obtain ⟨x, hx, rfl⟩ := List.mem_map.mp hd
    exact ⟨rfl, key_run (h.f x hx)⟩
  · obtain ⟨y, hy, rfl⟩ := List.mem_map.mp hd
    obtain ⟨y2, hy2, rfl⟩ := List.mem_map.mp hd2
    obtain ⟨x, _, rfl⟩ := List.mem_map.mp hy
    obtain ⟨x2, _, rfl⟩ := List.mem_map.mp hy2
    rw [kdP_pc, kdP_pc]
    unfold keyPc
    simp [PySem.W.alikeAll, PySem.W.alike]
  · obtain ⟨y, hy, rfl⟩ := List.mem_map.mp hd
    obtain ⟨x, _, rfl⟩ := List.mem_map.mp hy
    exact ⟨_, _, rfl⟩
  · obtain ⟨x, _, rfl⟩ := List.mem_map.mp hd
    exact Nat.le_trans (Nat.le_of_eq (show _ = 1 from rfl)) (by decide)
theorem at_last {α : Type} {xs : List α} {l : α} (h : xs.getLast? = some l) : atI xs (-1) = some l := by
  obtain ⟨ys, rfl⟩ := List.getLast?_eq_some_iff.mp h
  unfold atI ixN
  rw [if_neg (by decide), if_pos (by rw [List.length_append]; simp only [List.length_cons, List.length_nil]; omega)]
  show (ys ++ [l])[(-1 + (((ys ++ [l]).length : Nat) : Int)).toNat]? = _
  rw [show (-1 + (((ys ++ [l]).length : Nat) : Int)).toNat = ys.length by rw [List.length_append]; simp only [List.length_cons, List.length_nil]; omega]
  simp
theorem ix_last {n : Nat} (h : 0 < n) : ixN n (-1) = some (n - 1) := by
  unfold ixN
  rw [if_neg (by decide), if_pos (by omega)]
  congr 1
  omega
/-! joined -/
def pcP (x : Pc) : PyData := .tuple [.str x.f, .int x.lo, .int x.hi]
theorem pc_pds {S : Sto} (ps : List Pc) : PDs S (ps.map Pc.D) (ps.map pcP) := pds_map (fun x => .tup (.cons (.str _) (.cons (.int _) (.cons (.int _) .nil)))) ps
theorem pc_dep (ps : List Pc) : (PyData.list (ps.map pcP)).depth ≤ 64 := by
  have h := depth_map (g := pcP) (n := 1) (fun x => Nat.le_of_eq (show _ = 1 from rfl)) ps
  rw [show (PyData.list (ps.map pcP)).depth = PyData.depthAll (ps.map pcP) + 1 from by unfold PyData.depth; rfl]
  omega
theorem joined_spec {p f : Addr} {fs : List Str} {ps : List Pc} {S : Sto} {Q : DK} (hT : TJ S) (ep : S p = some (.lst (ps.map Pc.D))) (ef : S f = some (.lst (fs.map .str))) (h : PcsOk fs ps) (hz : Sh ps) (q : ∀ S', Gr S S' → Q (.tup ((joinP fs ps).map Pc.D)) S') : m_joined [.ref p, .ref f] S Q := by
  rw [e_joined]
  refine seq_i ?_
  simp_arith []
  refine ⟨by decide, fun c hc => ?_⟩
  have g0 : Gr S (updS S c (.lst [])) := .new hc
  have ec : updS S c (.lst []) c = some (.lst []) := updS_same
  generalize updS S c (.lst []) = S0 at g0 ec
  unfold t_joined_2
  refine seq_i (for_i ?_)
  rw [iSeq_e]
  refine sortL_i (p := p) (cs := [.fl (fs.map .str)]) rfl (g0 _ _ hT) (g0 _ _ ep) rfl (fun i j d e1 e2 => ?_) (keyed_pc h fun n hn => ?_)
  · match i, e1, e2 with
    | 0, e1, e2 =>
      cases e1
      cases e2
      exact .inr ⟨f, _, rfl, g0 _ _ ef, nrs_strs fs, rfl⟩
    | i + 1, e1, e2 => simp at e1
  have g1 : Gr S (updS S0 n (.lst ((sortP fs ps).map Pc.D))) := g0.trans (.new hn)
  have en : updS S0 n (.lst ((sortP fs ps).map Pc.D)) n = some (.lst ((sortP fs ps).map Pc.D)) := updS_same
  have nc : n ≠ c := fun e => by rw [e, ec] at hn; cases hn
  have ec1 : updS S0 n (.lst ((sortP fs ps).map Pc.D)) c = some (.lst []) := by rw [updS_ne (Ne.symm nc)]; exact ec
  generalize updS S0 n (.lst ((sortP fs ps).map Pc.D)) = S1 at g1 en ec1
  simp_arith []
  refine ⟨_, en, ?_⟩
  have hs : (sortP fs ps).length = ps.length := (sort_perm fs ps).length_eq
  have hz2 : ps.length < sizeLine := hz
  refine forL_inv _ (fun i σ S' => ∃ u3 u4 u5, σ = [some (.ref p), some (.ref f), some (.ref c), u3, u4, u5] ∧ Gr S S' ∧ S' n = some (.lst ((sortP fs ps).map Pc.D)) ∧ S' c = some (.lst ((((sortP fs ps).take i).foldl mstep []).map Pc.D)) ∧ (((sortP fs ps).take i).foldl mstep []).length ≤ i) (fun i σ S' hI => by obtain ⟨_, _, _, _, _, h, _⟩ := hI; exact h) (fun i x σ S' N hxi hJ hN => ?turn) (fun σ S' hJ => ?fin) ⟨none, none, none, rfl, g1, en, ec1, Nat.le_refl _⟩
  case fin =>
    obtain ⟨u3, u4, u5, rfl, g2, e2, e3, _⟩ := hJ
    rw [List.length_map, List.take_of_length_le (Nat.le_refl _)] at e3
    simp_arith [t_joined_7, e3]
    exact ⟨_, rfl, q _ g2⟩
  case turn =>
    obtain ⟨u3, u4, u5, rfl, g2, e2, e3, hl⟩ := hJ
    have hi' := (List.getElem?_eq_some_iff.mp hxi).1
    rw [List.length_map] at hi'
    rw [List.getElem?_map, List.getElem?_eq_getElem hi'] at hxi
    injection hxi with hxi
    subst hxi
    have em : ((sortP fs ps).take (i + 1)).foldl mstep [] = mstep (((sortP fs ps).take i).foldl mstep []) (sortP fs ps)[i] := by
      rw [List.take_add_one, List.getElem?_eq_getElem hi', Option.toList_some, List.foldl_append]
      rfl
    rw [em] at hN
    generalize ((sortP fs ps).take i).foldl mstep [] = F at e3 hl hN
    generalize (sortP fs ps)[i] = x at hN
    rw [show Pc.D x = .tup [.str x.f, .int x.lo, .int x.hi] from rfl]
    unfold l_joined_2
    simp_arith [e3]
    refine ⟨by decide, fun p1 h1 => ?_⟩
    refine eq_nil (xs := F.map Pc.D) (by rw [updS_ne (neS e3 h1)]; exact e3) updS_same (pc_pds F) (pc_dep F) ?_
    have g3 : Gr S (updS S' p1 (.lst [])) := g2.trans (.new h1)
    have e2' : updS S' p1 (.lst []) n = some (.lst ((sortP fs ps).map Pc.D)) := by rw [updS_ne (neS e2 h1)]; exact e2
    have e3' : updS S' p1 (.lst []) c = some (.lst (F.map Pc.D)) := by rw [updS_ne (neS e3 h1)]; exact e3
    generalize updS S' p1 (.lst []) = S2 at g3 e2' e3'
    rw [List.isEmpty_map]
    have hFl : F.length < sizeLine := by omega
    -- what is left: the piece is put behind, or the last one is made longer
    have fin : ∀ S3, S3 = updS S2 c (.lst ((mstep F x).map Pc.D)) → (mstep F x).length ≤ i + 1 → N [some (.ref p), some (.ref f), some (.ref c), some (.str x.f), some (.int x.lo), some (.int x.hi)] S3 := by
      rintro S3 rfl hm
      refine hN _ _ ⟨_, _, _, rfl, fun b o hb => ?_, by rw [updS_ne nc]; exact e2', updS_same, hm⟩
      rw [updS_ne (fun z => by subst z; rw [hc] at hb; cases hb)]
      exact g3 _ _ hb
    cases el : F.getLast? with
    | none =>
      have : F = [] := List.getLast?_eq_none_iff.mp el
      subst this
      simp_arith [List.isEmpty_nil, e3']
      exact ⟨by decide, _, rfl, by decide, fin _ rfl (show 1 ≤ i + 1 by omega)⟩
    | some l =>
      obtain ⟨G, hG⟩ := List.getLast?_eq_some_iff.mp el
      have hne : F.isEmpty = false := by rw [hG]; cases G <;> rfl
      have hat : atI (F.map Pc.D) (-1) = some l.D := at_last (by rw [List.getLast?_map, el]; rfl)
      have hms : mstep F x = if l.f = x.f ∧ l.hi = x.lo then F.dropLast ++ [⟨x.f, l.lo, x.hi⟩] else F ++ [x] := by
        unfold mstep
        rw [el]
      simp_arith [hne, e3']
      refine ⟨_, hat, ?_⟩
      rw [show Pc.D l = .tup [.str l.f, .int l.lo, .int l.hi] from rfl]
      simp_arith []
      refine ⟨_, atI_nat (j := 0) rfl, ?_⟩
      simp_arith []
      by_cases h2 : l.f = x.f
      · rw [if_pos h2, e3', oIx_li]
        refine ⟨_, hat, ?_⟩
        rw [show Pc.D l = .tup [.str l.f, .int l.lo, .int l.hi] from rfl]
        simp_arith []
        refine ⟨_, atI_nat (j := 2) rfl, ?_⟩
        simp_arith []
        by_cases h3 : l.hi = x.lo
        · rw [if_pos h3, e3', oIx_li]
          rw [if_pos ⟨h2, h3⟩] at hms
          refine ⟨_, hat, ?_⟩
          rw [show Pc.D l = .tup [.str l.f, .int l.lo, .int l.hi] from rfl]
          simp_arith []
          refine ⟨_, atI_nat (j := 1) rfl, by decide, ?_⟩
          rw [e3', oPut_l]
          refine ⟨F.length - 1, by rw [List.length_map]; exact ix_last (by rw [hG, List.length_append]; simp only [List.length_cons, List.length_nil]; omega), fin _ ?_ ?_⟩
          · rw [hms, hG, List.dropLast_concat, List.length_append]
            congr 2
            simp only [List.map_append, List.map_cons, List.map_nil, List.length_cons, List.length_nil]
            rw [List.set_append_right _ _ (by rw [List.length_map]; omega)]
            rw [List.length_map, show G.length + (0 + 1) - 1 - G.length = 0 by omega]
            rfl
          · rw [hms, hG, List.dropLast_concat]
            rw [hG] at hl
            simp only [List.length_append, List.length_cons, List.length_nil] at hl ⊢
            omega
        · rw [if_neg h3, e3']
          rw [if_neg (fun z => h3 z.2)] at hms
          refine ⟨rfl, by decide, _, rfl, by rw [List.length_map]; exact hFl, fin _ (by rw [hms, List.map_append]; rfl) (by rw [hms, List.length_append]; simp only [List.length_cons, List.length_nil]; omega)⟩
      · rw [if_neg h2, e3']
        rw [if_neg (fun z => h2 z.1)] at hms
        refine ⟨rfl, by decide, _, rfl, by rw [List.length_map]; exact hFl, fin _ (by rw [hms, List.map_append]; rfl) (by rw [hms, List.length_append]; simp only [List.length_cons, List.length_nil]; omega)⟩
end LW
namespace LW
open PySem L2 DL
theorem rd_split {m : AL Str} {h : Str} {l : List Str} (r : Rd m h l) : ∀ (i : Nat) (hi : i < l.length), Rd m l[i] (l.drop i) := by
  induction r with
  | @stop h e =>
    intro i hi
    have : i = 0 := by simp at hi; omega
    subst this
    exact .stop e
  | @step h g l e r ih =>
    intro i hi
    cases i with
    | zero => exact .step e r
    | succ i => exact ih i (by simpa using hi)
theorem road_by_spec {me : Addr} {m : AL Str} {h : Str} {l : List Str} (r : Rd m h l) (hz : l.length < sizeLine) {S : Sto} {Q : DK} (em : S me = some (.dk (al DL.D.str m)))
    (q : ∀ c S', S c = none → Gr S S' → S' c = some (.lst (l.map .str)) → Q (.ref c) S') : m_road_by [.ref me, .str h] S Q := by
  rw [e_road_by]
  refine seq_i ?_
  simp_arith []
  refine ⟨by decide, fun c hc => ?_⟩
  have g0 : Gr S (updS S c (.lst [.str h])) := .new hc
  have ec : updS S c (.lst [.str h]) c = some (.lst [.str h]) := updS_same
  generalize updS S c (.lst [.str h]) = S0 at g0 ec
  unfold t_road_by_2
  refine seq_i ?_
  have hl0 : 0 < l.length := by cases r <;> simp
  have hh : l.take 1 = [h] := by cases r <;> rfl
  refine while_i (fun n σ S' => ∃ k, 1 ≤ k ∧ k ≤ l.length ∧ n = l.length - k ∧ σ = [some (.ref me), some (.str h), some (.ref c)] ∧ Gr S S' ∧ S' c = some (.lst ((l.take k).map .str))) (l.length - 1) ⟨1, Nat.le_refl _, hl0, rfl, rfl, g0, by rw [hh]; exact ec⟩ (fun n σ S' hJ N hN => ?_)
  obtain ⟨k, k1, k2, rfl, rfl, g1, e1⟩ := hJ
  have hk : k - 1 < l.length := by omega
  have hat : atI ((l.take k).map DL.D.str) (-1) = some (.str l[k - 1]) := at_last (by
    rw [List.getLast?_map, List.getLast?_take, if_neg (by omega), List.getElem?_eq_getElem hk]
    rfl)
  have hd := rd_split r (k - 1) hk
  simp_arith [e1]
  refine ⟨_, hat, ?_⟩
  have em1 := g1 _ _ em
  simp_arith [em1]
  rw [has_al]
  by_cases hk2 : k = l.length
  · have e : m.get l[k - 1] = none := by
      rw [List.drop_eq_getElem_cons hk, List.drop_of_length_le (by omega)] at hd
      cases hd with
      | stop e => exact e
      | step e r => obtain ⟨t, ht⟩ := r.head; simp at ht
    rw [e, if_neg (by decide)]
    simp_arith [t_road_by_4]
    rw [hk2, List.take_length] at e1
    exact q c S' hc g1 e1
  · have hk3 : k < l.length := by omega
    have e : m.get l[k - 1] = some l[k] := by
      rw [List.drop_eq_getElem_cons hk, show k - 1 + 1 = k by omega, List.drop_eq_getElem_cons hk3] at hd
      cases hd with
      | step e r =>
        obtain ⟨t, ht⟩ := r.head
        injection ht with h1 h2
        rw [h1]
        exact e
    rw [e, if_pos (show (some l[k]).isSome = true from rfl)]
    unfold l_road_by_2
    simp_arith [e1]
    refine ⟨_, hat, ?_⟩
    simp_arith [em1]
    refine ⟨_, by rw [val_al, e]; rfl, _, e1, by rw [List.length_map, List.length_take]; omega, ?_⟩
    refine hN (l.length - (k + 1)) _ _ (by omega) ⟨k + 1, by omega, hk3, rfl, rfl, fun b o hb => ?_, ?_⟩
    · rw [updS_ne (fun z => by subst z; rw [hc] at hb; cases hb)]
      exact g1 _ _ hb
    · rw [updS_same, List.take_add_one, List.getElem?_eq_getElem hk3, List.map_append]
      rfl
end LW
namespace LW
open PySem L2 DL
theorem val_ld {L : AL Ld} {l : Str} (h : (L.get l).isSome = true) : valD (al LdD L) (kS l) = some (.tup [.str (houseOf L l), .tup ((piecesOf L l).map Pc.D)]) := by
  rw [val_al, pieces_some h]
  rfl
theorem part_word_spec {a : Addr} {L : AL Ld} {l n : Str} {d : Int} {ps : List Pt} {S : Sto} {Q : DK} (ea : S a = some (.dk (al LdD L))) (hz : Sh (piecesOf L l)) (h6 : ps.length ≤ 6) (q : ∀ S', Gr S S' → Q (.str (partW L l ps)) S') :
    m_part_word [.ref a, (Rw.part l ps).D n d] S Q := by
  rw [show (Rw.part l ps).D n d = .tup [.str "part", .str n, .int d, .str l, .tup (ps.map Pt.D)] from rfl]
  rw [e_part_word]
  refine seq_i ?_
  simp_arith []
  refine ⟨_, atI_nat (j := 3) rfl, ?_⟩
  simp_arith [ea]
  rw [has_al]
  unfold partW at q
  by_cases h1 : (L.get l).isSome = true
  · rw [if_neg (show ¬ (L.get l).isSome = false by rw [h1]; decide)] at q
    rw [h1, if_neg (show ¬ (!true) = true by decide)]
    simp_arith [t_part_word_3]
    refine seq_i ?_
    simp_arith []
    refine ⟨_, atI_nat (j := 3) rfl, ?_⟩
    simp_arith [ea]
    refine ⟨_, val_ld h1, ?_⟩
    simp_arith []
    refine ⟨_, atI_nat (j := 1) rfl, acres_spec hz fun S1 g1 => ?_⟩
    refine ⟨_, atI_nat (j := 4) rfl, ?_⟩
    simp_arith []
    refine lcL_map (fun d => match d with | .tup [_, _, .int k] => .int k | _ => .non) _ trivial (small_line (by rw [List.length_map]; omega)) (fun x hx Q q => ?_) ?_
    · obtain ⟨y, hy, rfl⟩ := List.mem_map.mp hx
      rw [show Pt.D y = .tup [.str y.o, .str y.h, .int y.n] from rfl]
      simp_arith [c_part_word_3]
      exact ⟨_, atI_nat (j := 2) rfl, q⟩
    intro p hp
    refine ⟨ps.map (·.n), by rw [updS_same, List.map_map, List.map_map]; rfl, ?_⟩
    have g2 : Gr S (updS S1 p (.lst ((ps.map Pt.D).map fun d => match d with | .tup [_, _, .int k] => .int k | _ => .non))) := g1.trans (.new hp)
    generalize updS S1 p _ = S2 at g2
    by_cases h2 : accs (piecesOf L l) = (ps.map (·.n)).sum
    · rw [decide_eq_true h2]
      rw [if_neg (by simpa using h2)] at q
      simp_arith [t_part_word_5]
      refine seq_i ?_
      simp_arith []
      refine ⟨_, atI_nat (j := 4) rfl, ?_⟩
      simp_arith []
      refine lcL_map (fun d => match d with | .tup [.str o, _, _] => .bl ((L.get o).isSome && !decide (o = l)) | _ => .non) _ trivial (small_line (by rw [List.length_map]; omega)) (fun x hx Q q => ?_) ?_
      · obtain ⟨y, hy, rfl⟩ := List.mem_map.mp hx
        rw [show Pt.D y = .tup [.str y.o, .str y.h, .int y.n] from rfl]
        have q : Q (.bl ((L.get y.o).isSome && !decide (y.o = l))) S2 := q
        simp_arith [c_part_word_5]
        refine ⟨_, atI_nat (j := 0) rfl, ?_⟩
        simp_arith [g2 _ _ ea]
        rw [has_al]
        cases h3 : (L.get y.o).isSome with
        | true =>
          simp_arith []
          refine ⟨_, atI_nat (j := 0) rfl, _, atI_nat (j := 3) rfl, ?_⟩
          simp_arith []
          rw [h3, Bool.true_and] at q
          exact q
        | false =>
          simp_arith []
          rw [h3, Bool.false_and] at q
          exact q
      · intro p2 hp2
        refine ⟨ps.map fun y => (L.get y.o).isSome && !decide (y.o = l), by rw [updS_same, List.map_map, List.map_map]; rfl, ?_⟩
        rw [List.any_map]
        have g3 := g2.trans (Gr.new (o := .lst ((ps.map Pt.D).map fun d => match d with | .tup [.str o, _, _] => .bl ((L.get o).isSome && !decide (o = l)) | _ => .non)) hp2)
        cases h4 : ps.any (id ∘ fun y => (L.get y.o).isSome && !decide (y.o = l)) with
        | true =>
          simp_arith []
          have := q _ g3
          rw [if_pos (by rw [← h4]; rfl)] at this
          exact this
        | false =>
          simp_arith [t_part_word_7]
          have := q _ g3
          rw [if_neg (by rw [show (ps.any fun p => (L.get p.o).isSome && !decide (p.o = l)) = ps.any (id ∘ fun y => (L.get y.o).isSome && !decide (y.o = l)) from rfl, h4]; decide)] at this
          exact this
    · rw [decide_eq_false h2]
      rw [if_pos h2] at q
      simp_arith []
      exact q _ g2
  · have h1' : (L.get l).isSome = false := by simpa only [Bool.not_eq_true] using h1
    rw [h1', if_pos rfl] at q
    rw [h1']
    simp_arith []
    exact q _ .refl
end LW
namespace LW
open PySem L2 DL
theorem asKs_strs : ∀ zs : List Str, asKs (zs.map .str) = some (zs.map kS)
  | [] => rfl
  | z :: r => by
    show (match toKey (.str z), asKs (r.map .str) with | some k, some ks => some (k :: ks) | _, _ => none) = _
    rw [asKs_strs r]
    rfl
theorem any_eqF (zs : List Str) (z : Str) : ((zs.map DL.D.str).any fun y => eqF y (.str z)) = decide (z ∈ zs) := by
  induction zs with
  | nil => rfl
  | cons x r ih =>
    rw [List.map_cons, List.any_cons, ih, eqF_s]
    by_cases h : x = z
    · simp [h]
    · by_cases h2 : z ∈ r
      · simp [h, h2]
      · simp [h, h2, Ne.symm h]
theorem join_word_spec {a : Addr} {L : AL Ld} {l n : Str} {d : Int} {ls : List Str} {S : Sto} {Q : DK} (ea : S a = some (.dk (al LdD L))) (h6 : ls.length ≤ 6) (q : ∀ S', Gr S S' → Q (.str (joinW L ls l)) S') :
    m_join_word [.ref a, (Rw.join ls l).D n d] S Q := by
  rw [show (Rw.join ls l).D n d = .tup [.str "join", .str n, .int d, .tup (ls.map .str), .str l] from rfl]
  rw [e_join_word]
  refine seq_i ?_
  simp_arith []
  refine ⟨_, atI_nat (j := 3) rfl, ?_⟩
  simp_arith []
  refine lcL_map (fun d => match d with | .str o => .bl (L.get o).isSome | _ => .non) _ trivial (small_line (by rw [List.length_map]; omega)) (fun x hx Q q => ?_) ?_
  · obtain ⟨y, hy, rfl⟩ := List.mem_map.mp hx
    simp_arith [c_join_word_1, ea]
    rw [has_al]
    exact q
  intro p hp
  refine ⟨ls.map fun o => (L.get o).isSome, by rw [updS_same, List.map_map, List.map_map]; rfl, ?_⟩
  rw [List.all_map]
  have g1 : Gr S (updS S p (.lst ((ls.map DL.D.str).map fun d => match d with | .str o => DL.D.bl (L.get o).isSome | _ => .non))) := .new hp
  generalize updS S p _ = S1 at g1
  unfold joinW at q
  have e1 : ls.all (id ∘ fun o => (L.get o).isSome) = ls.all fun l => (L.get l).isSome := rfl
  rw [e1]
  cases h1 : ls.all fun l => (L.get l).isSome with
  | false =>
    rw [h1, if_pos rfl] at q
    simp_arith []
    exact q _ g1
  | true =>
    rw [h1, if_neg (by decide)] at q
    rw [List.all_eq_true] at h1
    simp_arith [t_join_word_3]
    refine seq_i ?_
    simp_arith []
    refine ⟨_, atI_nat (j := 3) rfl, ?_⟩
    simp_arith []
    refine lcL_map (fun d => match d with | .str o => .str (houseOf L o) | _ => .non) _ trivial (small_line (by rw [List.length_map]; omega)) (fun x hx Q q => ?_) ?_
    · obtain ⟨y, hy, rfl⟩ := List.mem_map.mp hx
      simp_arith [c_join_word_3, g1 _ _ ea]
      refine ⟨_, val_ld (h1 y hy), ?_⟩
      simp_arith []
      exact ⟨_, atI_nat (j := 0) rfl, q⟩
    intro p2 hp2
    have ek : ((ls.map DL.D.str).map fun d => match d with | .str o => DL.D.str (houseOf L o) | _ => .non) = (ls.map (houseOf L)).map .str := by rw [List.map_map, List.map_map]; rfl
    rw [ek]
    have g2 : Gr S (updS S1 p2 (.lst ((ls.map (houseOf L)).map .str))) := g1.trans (.new hp2)
    have e2 : updS S1 p2 (.lst ((ls.map (houseOf L)).map .str)) p2 = some (.lst ((ls.map (houseOf L)).map .str)) := updS_same
    generalize updS S1 p2 (.lst ((ls.map (houseOf L)).map .str)) = S2 at g2 e2
    refine ⟨_, _, by unfold itmD; dsimp only; rw [e2], asKs_strs _, by rw [List.length_map, List.length_map]; omega, ?_⟩
    rw [List.map_map]
    have e3 : (ls.map (kS ∘ houseOf L)) = ls.map fun l => kS (houseOf L l) := rfl
    rw [e3]
    simp_arith []
    by_cases h2 : 1 < dst (ls.map fun l => kS (houseOf L l))
    · rw [if_pos h2] at q
      rw [if_pos (show (1 : Int) < ((dst (ls.map fun l => kS (houseOf L l)) : Nat) : Int) by omega)]
      exact q _ g2
    · rw [if_neg h2] at q
      rw [if_neg (show ¬ (1 : Int) < ((dst (ls.map fun l => kS (houseOf L l)) : Nat) : Int) by omega)]
      simp_arith [t_join_word_5]
      refine seq_i ?_
      simp_arith []
      refine ⟨_, atI_nat (j := 4) rfl, ?_⟩
      simp_arith [g2 _ _ ea]
      rw [has_al]
      cases h3 : (L.get l).isSome with
      | false =>
        rw [h3, if_neg (by simp)] at q
        simp_arith [t_join_word_7]
        exact q _ g2
      | true =>
        rw [h3] at q
        simp_arith []
        refine ⟨_, atI_nat (j := 4) rfl, _, atI_nat (j := 3) rfl, ?_⟩
        rw [gIn_t]
        refine ⟨rfl, all_flat ls, ?_⟩
        rw [any_eqF]
        simp_arith []
        by_cases h4 : l ∈ ls
        · rw [if_neg (fun z => z.2 h4)] at q
          rw [decide_eq_true h4]
          simp_arith [t_join_word_7]
          exact q _ g2
        · rw [if_pos ⟨rfl, h4⟩] at q
          rw [decide_eq_false h4]
          simp_arith []
          exact q _ g2
theorem forfeit_word_spec {a : Addr} {L : AL Ld} {l g n : Str} {d : Int} {S : Sto} {Q : DK} (ea : S a = some (.dk (al LdD L))) (q : Q (.str (forfeitW L l g)) S) :
    m_forfeit_word [.ref a, (Rw.forfeit l g).D n d] S Q := by
  rw [show (Rw.forfeit l g).D n d = .tup [.str "forfeit", .str n, .int d, .str l, .str g] from rfl]
  rw [e_forfeit_word]
  refine seq_i ?_
  simp_arith []
  refine ⟨_, atI_nat (j := 3) rfl, ?_⟩
  simp_arith [ea]
  rw [has_al]
  unfold forfeitW at q
  cases h1 : (L.get l).isSome with
  | false =>
    rw [h1, if_pos rfl] at q
    simp_arith []
    exact q
  | true =>
    rw [h1, if_neg (by decide)] at q
    simp_arith [t_forfeit_word_3]
    refine seq_i ?_
    simp_arith []
    refine ⟨_, atI_nat (j := 3) rfl, ?_⟩
    simp_arith [ea]
    refine ⟨_, val_ld h1, ?_⟩
    simp_arith []
    refine ⟨_, atI_nat (j := 0) rfl, _, atI_nat (j := 4) rfl, ?_⟩
    simp_arith []
    by_cases h2 : houseOf L l = g
    · rw [if_pos h2] at q ⊢
      exact q
    · rw [if_neg h2] at q ⊢
      simp_arith [t_forfeit_word_5]
      exact q
end LW
namespace LW
open PySem L2 DL
theorem acc_line {fs : List Str} {A : Int} {n : Nat} {L : AL Ld} (h : LInv fs A n L) (hA : A ≤ 8000000) (l : Str) : Sh (piecesOf L l) := by
  have h1 := (h.ok.get l).len
  have h2 := h.get l
  show (piecesOf L l).length < sizeLine
  exact Nat.lt_of_le_of_lt (show _ ≤ 8000000 by omega) (by decide)
/-- a row that is no part, no join, no forfeit -/
theorem word_skip {a : Addr} {w n : Str} {d : Int} {r : List DL.D} {S : Sto} {Q : DK} (h1 : w ≠ "part") (h2 : w ≠ "join") (h3 : w ≠ "forfeit") (q : t_word_of_7 (endsD Q) [some (.ref a), some (rowD w n d r)] S) : m_word_of [.ref a, rowD w n d r] S Q := by
  rw [e_word_of]
  refine seq_i ?_
  simp_arith []
  refine ⟨_, atI_nat (j := 0) rfl, ?_⟩
  simp_arith []
  rw [if_neg h1]
  unfold t_word_of_3
  refine seq_i ?_
  simp_arith []
  refine ⟨_, atI_nat (j := 0) rfl, ?_⟩
  simp_arith []
  rw [if_neg h2]
  unfold t_word_of_5
  refine seq_i ?_
  simp_arith []
  refine ⟨_, atI_nat (j := 0) rfl, ?_⟩
  simp_arith []
  rw [if_neg h3]
  exact q
theorem bv_eq (w : Str) : ([DL.D.str "breach", DL.D.str "view"].any fun z => eqF z (.str w)) = decide (w = "breach" ∨ w = "view") := by
  rw [show [DL.D.str "breach", DL.D.str "view"] = (["breach", "view"] : List Str).map DL.D.str from rfl, any_eqF]
  simp
theorem w11_no {a : Addr} {w n : Str} {d : Int} {r : List DL.D} {S : Sto} {Q : DK} (h : ¬ (w = "breach" ∨ w = "view")) (q : Q (.str "done") S) : t_word_of_11 (endsD Q) [some (.ref a), some (rowD w n d r)] S := by
  unfold t_word_of_11
  refine seq_i ?_
  simp_arith []
  refine ⟨_, atI_nat (j := 0) rfl, by decide, rfl, rfl, ?_⟩
  rw [bv_eq, if_neg (by simpa using h)]
  simp_arith [t_word_of_13]
  exact q
theorem w9_no {a : Addr} {w n : Str} {d : Int} {r : List DL.D} {S : Sto} {Q : DK} (h : w ≠ "alone") (q : t_word_of_11 (endsD Q) [some (.ref a), some (rowD w n d r)] S) : t_word_of_9 (endsD Q) [some (.ref a), some (rowD w n d r)] S := by
  unfold t_word_of_9
  refine seq_i ?_
  simp_arith []
  refine ⟨_, atI_nat (j := 0) rfl, ?_⟩
  simp_arith []
  rw [if_neg h]
  exact q
theorem w7_no {a : Addr} {w n : Str} {d : Int} {r : List DL.D} {S : Sto} {Q : DK} (h : w ≠ "mend") (q : t_word_of_9 (endsD Q) [some (.ref a), some (rowD w n d r)] S) : t_word_of_7 (endsD Q) [some (.ref a), some (rowD w n d r)] S := by
  unfold t_word_of_7
  refine seq_i ?_
  simp_arith []
  refine ⟨_, atI_nat (j := 0) rfl, ?_⟩
  simp_arith []
  rw [if_neg h]
  exact q
/-- a breach, a view: is the inch there -/
theorem w11_yes {a : StA} {s : PSt} {w n f : Str} {d i : Int} {r : List DL.D} {S : Sto} {Q : DK} (t : StAt S a s) (h : w = "breach" ∨ w = "view") (hf : (s.inches.get f).isSome = true) (q : Q (.str (if (s.inches.get f).getD 0 ≤ i then "inch" else "done")) S) :
    t_word_of_11 (endsD Q) [some (.ref a.st), some (rowD w n d (.str f :: .int i :: r))] S := by
  have e0 := t.st
  have e1 := t.inn
  unfold t_word_of_11
  refine seq_i ?_
  simp_arith []
  refine ⟨_, atI_nat (j := 0) rfl, by decide, rfl, rfl, ?_⟩
  rw [bv_eq, if_pos (by simpa using h)]
  refine ⟨_, atI_nat (j := 4) rfl, ?_⟩
  simp_arith [e0]
  refine ⟨_, st_inches, _, atI_nat (j := 3) rfl, ?_⟩
  simp_arith [e1]
  obtain ⟨v, hv⟩ := Option.isSome_iff_exists.mp hf
  refine ⟨_, by rw [val_al, hv]; rfl, ?_⟩
  rw [hv] at q
  simp_arith []
  have q : Q (.str (if v ≤ i then "inch" else "done")) S := q
  by_cases h2 : v ≤ i
  · rw [if_pos h2] at q ⊢
    exact q
  · rw [if_neg h2] at q ⊢
    simp_arith [t_word_of_13]
    exact q
theorem word_of_spec {a : StA} {s : PSt} {fs : List Str} {A : Int} {k : Nat} {r : Rw} {n : Str} {d : Int} {S : Sto} {Q : DK} (t : StAt S a s) (h : SInv fs A k s) (hr : r.ok fs) (hA : A ≤ 8000000) (hk : k ≤ 1000) (q : ∀ S', Gr S S' → Q (.str (wordOf s r)) S') : m_word_of [.ref a.st, r.D n d] S Q := by
  have e0 := t.st
  cases r with
  | part l ps =>
    rw [e_word_of]
    refine seq_i ?_
    rw [show (Rw.part l ps).D n d = rowD "part" n d [.str l, .tup (ps.map Pt.D)] from rfl]
    simp_arith []
    refine ⟨_, atI_nat (j := 0) rfl, ?_⟩
    simp_arith [e0]
    refine ⟨_, st_lands, ?_⟩
    exact part_word_spec t.la (acc_line h.la hA l) hr.2.2.1 q
  | join ls l =>
    rw [e_word_of]
    refine seq_i ?_
    rw [show (Rw.join ls l).D n d = rowD "join" n d [.tup (ls.map .str), .str l] from rfl]
    simp_arith []
    refine ⟨_, atI_nat (j := 0) rfl, ?_⟩
    simp_arith []
    rw [if_neg (by decide +kernel)]
    unfold t_word_of_3
    refine seq_i ?_
    simp_arith []
    refine ⟨_, atI_nat (j := 0) rfl, ?_⟩
    simp_arith [e0]
    refine ⟨_, st_lands, ?_⟩
    exact join_word_spec t.la hr.2.1 q
  | forfeit l g =>
    rw [e_word_of]
    refine seq_i ?_
    rw [show (Rw.forfeit l g).D n d = rowD "forfeit" n d [.str l, .str g] from rfl]
    simp_arith []
    refine ⟨_, atI_nat (j := 0) rfl, ?_⟩
    simp_arith []
    rw [if_neg (by decide +kernel)]
    unfold t_word_of_3
    refine seq_i ?_
    simp_arith []
    refine ⟨_, atI_nat (j := 0) rfl, ?_⟩
    simp_arith []
    rw [if_neg (by decide +kernel)]
    unfold t_word_of_5
    refine seq_i ?_
    simp_arith []
    refine ⟨_, atI_nat (j := 0) rfl, ?_⟩
    simp_arith [e0]
    refine ⟨_, st_lands, ?_⟩
    exact forfeit_word_spec t.la (q _ .refl)
  | measure f i =>
    rw [show (Rw.measure f i).D n d = rowD "measure" n d [.str f, .int i] from rfl]
    refine word_skip (by decide +kernel) (by decide +kernel) (by decide +kernel) ?_
    exact w7_no (by decide +kernel) (w9_no (by decide +kernel) (w11_no (by decide +kernel) (q _ .refl)))
  | mend x g =>
    rw [show (Rw.mend x g).D n d = rowD "mend" n d [.str x, .str g] from rfl]
    refine word_skip (by decide +kernel) (by decide +kernel) (by decide +kernel) ?_
    unfold t_word_of_7
    refine seq_i ?_
    simp_arith []
    refine ⟨_, atI_nat (j := 0) rfl, ?_⟩
    simp_arith [e0]
    refine ⟨_, atI_nat (j := 3) rfl, ?_⟩
    obtain ⟨l, hl⟩ := h.acy g
    have hll : l.length < sizeLine := Nat.lt_of_le_of_lt hl.len (Nat.lt_of_le_of_lt (show _ ≤ 2000 by have := h.ml; omega) (by decide))
    refine ⟨_, st_menders, _, atI_nat (j := 4) rfl, road_by_spec hl hll t.me fun c S1 hc g1 e1 => ?_⟩
    rw [gIn_r, e1, oIn_l]
    refine ⟨rfl, all_flat l, ?_⟩
    rw [any_eqF]
    simp_arith []
    by_cases hm : x ∈ l
    · rw [if_pos hm]
      have := q _ g1
      rw [word_ring ⟨l, hl, hm⟩] at this
      exact this
    · rw [if_neg hm]
      have := q _ g1
      rw [word_mend (fun ⟨l2, h2, h3⟩ => hm (by rw [hl.det h2]; exact h3))] at this
      exact w9_no (by decide +kernel) (w11_no (by decide +kernel) this)
  | alone x =>
    rw [show (Rw.alone x).D n d = rowD "alone" n d [.str x] from rfl]
    refine word_skip (by decide +kernel) (by decide +kernel) (by decide +kernel) (w7_no (by decide +kernel) ?_)
    unfold t_word_of_9
    refine seq_i ?_
    simp_arith []
    refine ⟨_, atI_nat (j := 0) rfl, ?_⟩
    simp_arith [e0]
    refine ⟨_, atI_nat (j := 3) rfl, _, st_menders, ?_⟩
    have em := t.me
    simp_arith [em]
    rw [has_al]
    have q := q _ .refl
    have q : Q (.str (if (s.menders.get x).isSome = true then "done" else "none")) S := q
    cases h1 : (s.menders.get x).isSome with
    | true =>
      rw [h1, if_pos rfl] at q
      simp_arith []
      exact w11_no (by decide +kernel) q
    | false =>
      rw [h1, if_neg (by decide)] at q
      simp_arith []
      exact q
  | breach f i c z =>
    rw [show (Rw.breach f i c z).D n d = rowD "breach" n d [.str f, .int i, .int c, .int z] from rfl]
    exact word_skip (by decide +kernel) (by decide +kernel) (by decide +kernel) (w7_no (by decide +kernel) (w9_no (by decide +kernel) (w11_yes t (.inl rfl) (h.inn f hr.1) (q _ .refl))))
  | view f i g =>
    rw [show (Rw.view f i g).D n d = rowD "view" n d [.str f, .int i, .str g] from rfl]
    exact word_skip (by decide +kernel) (by decide +kernel) (by decide +kernel) (w7_no (by decide +kernel) (w9_no (by decide +kernel) (w11_yes t (.inr rfl) (h.inn f hr.1) (q _ .refl))))
end LW
namespace LW
open PySem L2 DL
/-- all but one place stays -/
def K1 (l : Addr) (S S' : Sto) : Prop := ∀ b o, b ≠ l → S b = some o → S' b = some o
theorem K1.refl {l : Addr} {S : Sto} : K1 l S S := fun _ _ _ h => h
theorem K1.trans {l : Addr} {S S1 S2 : Sto} (x : K1 l S S1) (y : K1 l S1 S2) : K1 l S S2 := fun b o n h => y b o n (x b o n h)
theorem K1.gr {l : Addr} {S S' : Sto} (g : Gr S S') : K1 l S S' := fun b o _ h => g b o h
theorem K1.put {l : Addr} {S : Sto} {o : O} : K1 l S (updS S l o) := fun b u n h => by rw [updS_ne n]; exact h
theorem partL_app {pcs : List Pc} : ∀ {a b : List Pt} {at_ : Int} {L : AL Ld}, partL pcs at_ (a ++ b) L = partL pcs (at_ + (a.map (·.n)).sum) b (partL pcs at_ a L)
  | [], b, at_, L => by show partL pcs at_ b L = partL pcs (at_ + 0) b L; rw [Int.add_zero]
  | x :: r, b, at_, L => by
    have ih := partL_app (pcs := pcs) (a := r) (b := b) (at_ := at_ + x.n) (L := L.put x.o (x.h, cutP at_ (at_ + x.n) 0 pcs))
    show partL pcs (at_ + x.n) (r ++ b) _ = _
    rw [ih, List.map_cons, List.sum_cons]
    show _ = partL pcs (at_ + (x.n + (r.map (·.n)).sum)) b (partL pcs (at_ + x.n) r _)
    rw [show at_ + (x.n + (r.map (·.n)).sum) = at_ + x.n + (r.map (·.n)).sum by omega]
theorem partL_len {pcs : List Pc} : ∀ {ps : List Pt} {at_ : Int} {L : AL Ld}, (partL pcs at_ ps L).length ≤ L.length + ps.length
  | [], _, _ => Nat.le_refl _
  | x :: r, at_, L => by
    have ih := partL_len (pcs := pcs) (ps := r) (at_ := at_ + x.n) (L := L.put x.o (x.h, cutP at_ (at_ + x.n) 0 pcs))
    have := put_len L x.o (x.h, cutP at_ (at_ + x.n) 0 pcs)
    show (partL pcs (at_ + x.n) r _).length ≤ _
    rw [List.length_cons]
    omega
theorem popK_i {l : Addr} {L : AL Ld} {z : Str} {S : Sto} {Q : DK} (e : S l = some (.dk (al LdD L))) (h : (L.get z).isSome = true) (q : Q (.tup [.str (houseOf L z), .tup ((piecesOf L z).map Pc.D)]) (updS S l (.dk (al LdD (L.drop z))))) : gPopK (.ref l) [.str z] S Q :=
  ⟨_, kS z, _, e, rfl, val_ld h, by rw [drop_al]; exact q⟩
theorem do_part_spec {l : Addr} {L : AL Ld} {z n : Str} {d : Int} {ps : List Pt} {S : Sto} {Q : DK} (e : S l = some (.dk (al LdD L))) (h : (L.get z).isSome = true) (hz : Sh (piecesOf L z)) (hl : L.length ≤ 100000) (h6 : ps.length ≤ 6)
    (q : ∀ S', K1 l S S' → S' l = some (.dk (al LdD (partL (piecesOf L z) 0 ps (L.drop z)))) → Q .non S') : m_do_part [.ref l, (Rw.part z ps).D n d] S Q := by
  rw [show (Rw.part z ps).D n d = .tup [.str "part", .str n, .int d, .str z, .tup (ps.map Pt.D)] from rfl]
  rw [e_do_part]
  refine seq_i ?_
  simp_arith [e]
  refine ⟨_, atI_nat (j := 3) rfl, ?_⟩
  refine popK_i e h ?_
  have g0 : K1 l S (updS S l (.dk (al LdD (L.drop z)))) := .put
  have e0 : updS S l (.dk (al LdD (L.drop z))) l = some (.dk (al LdD (L.drop z))) := updS_same
  generalize updS S l (.dk (al LdD (L.drop z))) = S0 at g0 e0
  simp_arith [t_do_part_2]
  refine seq_i ?_
  simp_arith [t_do_part_3]
  refine ⟨_, atI_nat (j := 4) rfl, ?_⟩
  simp_arith []
  generalize piecesOf L z = pcs at hz q
  refine forL_inv _ (fun i σ S' => ∃ u5 u6 u7, σ = [some (.ref l), some (.tup [.str "part", .str n, .int d, .str z, .tup (ps.map Pt.D)]), some (.int ((ps.take i).map (·.n)).sum), some (.str (houseOf L z)), some (.tup (pcs.map Pc.D)), u5, u6, u7] ∧ K1 l S S' ∧ S' l = some (.dk (al LdD (partL pcs 0 (ps.take i) (L.drop z))))) (fun _ _ _ _ => trivial) (fun i x σ S' N hxi hJ hN => ?turn) (fun σ S' hJ => ?fin) ⟨none, none, none, by rw [List.take_zero]; rfl, g0, by rw [List.take_zero]; exact e0⟩
  case fin =>
    obtain ⟨u5, u6, u7, rfl, g1, e1⟩ := hJ
    rw [List.length_map, List.take_of_length_le (Nat.le_refl _)] at e1
    exact q _ g1 e1
  case turn =>
    obtain ⟨u5, u6, u7, rfl, g1, e1⟩ := hJ
    have hi' := (List.getElem?_eq_some_iff.mp hxi).1
    rw [List.length_map] at hi'
    rw [List.getElem?_map, List.getElem?_eq_getElem hi'] at hxi
    injection hxi with hxi
    subst hxi
    have es : ((ps.take (i + 1)).map (·.n)).sum = ((ps.take i).map (·.n)).sum + ps[i].n := by
      rw [List.take_add_one, List.getElem?_eq_getElem hi', Option.toList_some, List.map_append, List.sum_append]
      simp
    have ep : partL pcs 0 (ps.take (i + 1)) (L.drop z) = (partL pcs 0 (ps.take i) (L.drop z)).put ps[i].o (ps[i].h, cutP ((ps.take i).map (·.n)).sum (((ps.take i).map (·.n)).sum + ps[i].n) 0 pcs) := by
      rw [List.take_add_one, List.getElem?_eq_getElem hi', Option.toList_some, partL_app, Int.zero_add]
      rfl
    have hlen : (partL pcs 0 (ps.take i) (L.drop z)).length < sizeLine := by
      have h1 := partL_len (pcs := pcs) (ps := ps.take i) (at_ := 0) (L := L.drop z)
      have h2 := drop_len L z
      rw [List.length_take] at h1
      exact Nat.lt_of_le_of_lt (show _ ≤ 100010 by omega) (by decide)
    rw [show Pt.D ps[i] = .tup [.str ps[i].o, .str ps[i].h, .int ps[i].n] from rfl]
    unfold l_do_part_3
    simp_arith []
    refine seq_i ?_
    simp_arith []
    refine cut_spec hz fun S1 g2 => ⟨by decide, ?_⟩
    simp_arith [g2 _ _ e1]
    refine ⟨by rw [al_len]; exact hlen, ?_⟩
    unfold t_do_part_5
    simp_arith []
    have eput : putD (al LdD (partL pcs 0 (ps.take i) (L.drop z))) (Sum.inr ps[i].o) (.tup [.str ps[i].h, .tup ((cutP ((ps.take i).map (·.n)).sum (((ps.take i).map (·.n)).sum + ps[i].n) 0 pcs).map Pc.D)]) = al LdD (partL pcs 0 (ps.take (i + 1)) (L.drop z)) := by
      rw [ep]
      exact put_al (f := LdD) _ _ (ps[i].h, _)
    rw [eput, ← es]
    exact hN _ _ ⟨_, _, _, rfl, (g1.trans (.gr g2)).trans .put, updS_same⟩
end LW
namespace LW
open PySem L2 DL
theorem joinL_snoc : ∀ {a : List Str} {l : Str} {L : AL Ld} {acc : List Pc}, joinL (a ++ [l]) L acc = ((joinL a L acc).1.drop l, (joinL a L acc).2 ++ piecesOf (joinL a L acc).1 l)
  | [], l, L, acc => rfl
  | x :: r, l, L, acc => by
    show joinL (r ++ [l]) (L.drop x) (acc ++ piecesOf L x) = _
    rw [joinL_snoc]
    rfl
theorem joinL_get : ∀ {a : List Str} {l : Str} {L : AL Ld} {acc : List Pc}, l ∉ a → (joinL a L acc).1.get l = L.get l
  | [], _, _, _, _ => rfl
  | x :: r, l, L, acc, h => by
    rw [List.mem_cons, not_or] at h
    show (joinL r (L.drop x) _).1.get l = _
    rw [joinL_get h.2, get_drop, if_neg h.1]
theorem nil_ok {fs : List Str} : PcsOk fs [] := ⟨fun _ h => (by cases h), fun _ h => (by cases h)⟩
theorem join_bound {fs : List Str} {A : Int} {n : Nat} {L : AL Ld} (h : LInv fs A n L) (ls : List Str) : PcsOk fs (joinL ls L []).2 ∧ accs (joinL ls L []).2 ≤ A ∧ (joinL ls L []).1.length ≤ n := by
  obtain ⟨a, b⟩ := joinL_inv (ls := ls) h nil_ok
  have := tot_pos a.ok
  have := a.tot
  have e0 : accs ([] : List Pc) = 0 := rfl
  rw [e0] at this
  exact ⟨b, by omega, a.len⟩
theorem pc_line {fs : List Str} {A : Int} {ps : List Pc} (h : PcsOk fs ps) (hA : A ≤ 8000000) (ha : accs ps ≤ A) : ps.length ≤ 8000000 := by
  have := h.len
  omega
theorem do_join_spec {l f : Addr} {L : AL Ld} {fs : List Str} {A : Int} {k : Nat} {z n : Str} {d : Int} {ls : List Str} {S : Sto} {Q : DK} (hT : TJ S) (hTl : tP_joined ≠ l) (e : S l = some (.dk (al LdD L))) (ef : S f = some (.lst (fs.map .str))) (hfl : f ≠ l) (h : LInv fs A k L) (hA : A ≤ 8000000) (hk : k ≤ 10000)
    (hall : ∀ z ∈ ls, (L.get z).isSome = true) (nd : ls.Nodup) (h2 : 2 ≤ ls.length) (h6 : ls.length ≤ 6)
    (q : ∀ S', K1 l S S' → S' l = some (.dk (al LdD ((joinL ls L []).1.put z (houseOf L (ls.headD ""), joinP fs (joinL ls L []).2)))) → Q .non S') : m_do_join [.ref l, (Rw.join ls z).D n d, .ref f] S Q := by
  rw [show (Rw.join ls z).D n d = .tup [.str "join", .str n, .int d, .tup (ls.map .str), .str z] from rfl]
  rw [e_do_join]
  refine seq_i ?_
  simp_arith []
  refine ⟨by decide, fun c hc => ?_⟩
  have g0 : Gr S (updS S c (.lst [])) := .new hc
  have ec : updS S c (.lst []) c = some (.lst []) := updS_same
  have e0 := g0 _ _ e
  have nlc : l ≠ c := neS e hc
  have nfc : f ≠ c := neS ef hc
  have nTc : tP_joined ≠ c := neS hT hc
  generalize updS S c (.lst []) = S0 at g0 ec e0
  simp_arith [t_do_join_2]
  refine seq_i ?_
  simp_arith [e0]
  obtain ⟨x0, r0, hx0⟩ : ∃ x r, ls = x :: r := by cases ls with
    | nil => simp at h2
    | cons x r => exact ⟨x, r, rfl⟩
  have hx1 : (L.get x0).isSome = true := hall x0 (by rw [hx0]; exact List.mem_cons_self ..)
  refine ⟨_, atI_nat (j := 3) rfl, ?_⟩
  simp_arith []
  refine ⟨.str x0, atI_nat (j := 0) (by rw [hx0]; rfl), ?_⟩
  try simp_arith [e0]
  refine ⟨_, val_ld hx1, ?_⟩
  try simp_arith []
  refine ⟨_, atI_nat (j := 0) rfl, ?_⟩
  simp_arith [t_do_join_3]
  refine seq_i ?_
  simp_arith []
  refine ⟨_, atI_nat (j := 3) rfl, ?_⟩
  simp_arith []
  -- all but the lands and the list stay
  refine forL_inv _ (fun i σ S' => ∃ u5, σ = [some (.ref l), some (.tup [.str "join", .str n, .int d, .tup (ls.map .str), .str z]), some (.ref f), some (.ref c), some (.str (houseOf L x0)), u5] ∧ (∀ b o, b ≠ l → b ≠ c → S b = some o → S' b = some o) ∧ S' l = some (.dk (al LdD (joinL (ls.take i) L []).1)) ∧ S' c = some (.lst ((joinL (ls.take i) L []).2.map Pc.D))) (fun _ _ _ _ => trivial) (fun i x σ S' N hxi hJ hN => ?turn) (fun σ S' hJ => ?fin) ⟨none, rfl, fun b o n1 n2 hb => g0 _ _ hb, by rw [List.take_zero]; exact e0, by rw [List.take_zero]; exact ec⟩
  case fin =>
    obtain ⟨u5, rfl, g1, e1, e2⟩ := hJ
    rw [List.length_map, List.take_of_length_le (Nat.le_refl _)] at e1 e2
    obtain ⟨b1, b2, b3⟩ := join_bound h ls
    have hlen : (joinL ls L []).2.length < sizeLine := Nat.lt_of_le_of_lt (pc_line b1 hA b2) (by decide)
    simp_arith [t_do_join_5]
    refine joined_spec (g1 _ _ hTl nTc hT) e2 (g1 _ _ hfl nfc ef) b1 hlen fun S2 g2 => ⟨by decide, ?_⟩
    simp_arith [g2 _ _ e1]
    refine ⟨_, atI_nat (j := 4) rfl, ?_⟩
    simp_arith []
    refine ⟨by rw [al_len]; exact Nat.lt_of_le_of_lt (show _ ≤ 10000 by omega) (by decide), ?_⟩
    have eput : putD (al LdD (joinL ls L []).1) (Sum.inr z) (.tup [.str (houseOf L x0), .tup ((joinP fs (joinL ls L []).2).map Pc.D)]) = al LdD ((joinL ls L []).1.put z (houseOf L x0, joinP fs (joinL ls L []).2)) := put_al (f := LdD) _ _ (houseOf L x0, _)
    rw [eput]
    have hh : ls.headD "" = x0 := by rw [hx0]; rfl
    rw [hh] at q
    refine q _ (fun b o nb hb => ?_) updS_same
    rw [updS_ne nb]
    exact g2 _ _ (g1 b o nb (fun z => by rw [z, hc] at hb; cases hb) hb)
  case turn =>
    obtain ⟨u5, rfl, g1, e1, e2⟩ := hJ
    have hi' := (List.getElem?_eq_some_iff.mp hxi).1
    rw [List.length_map] at hi'
    rw [List.getElem?_map, List.getElem?_eq_getElem hi'] at hxi
    injection hxi with hxi
    subst hxi
    have et : ls.take (i + 1) = ls.take i ++ [ls[i]] := by rw [List.take_add_one, List.getElem?_eq_getElem hi', Option.toList_some]
    have ej : joinL (ls.take (i + 1)) L [] = ((joinL (ls.take i) L []).1.drop ls[i], (joinL (ls.take i) L []).2 ++ piecesOf (joinL (ls.take i) L []).1 ls[i]) := by rw [et, joinL_snoc]
    have hnm : ls[i] ∉ ls.take i := fun hm => by
      obtain ⟨j, hj, e⟩ := List.mem_take_iff_getElem.mp hm
      have := (List.getElem_inj nd).mp e
      omega
    have hg : ((joinL (ls.take i) L []).1.get ls[i]).isSome = true := by rw [joinL_get hnm]; exact hall _ (List.getElem_mem hi')
    obtain ⟨b1, b2, b3⟩ := join_bound h (ls.take (i + 1))
    have hlen := pc_line b1 hA b2
    rw [ej] at hlen
    unfold l_do_join_3
    simp_arith [e1, e2]
    refine popK_i e1 hg ?_
    simp_arith []
    refine ⟨_, atI_nat (j := 1) rfl, ?_⟩
    rw [gExtend_rt]
    rw [List.length_append] at hlen
    refine ⟨_, by rw [updS_ne (Ne.symm nlc)]; exact e2, by rw [List.length_map, List.length_map]; exact Nat.le_trans hlen (by decide), hN _ _ ⟨_, rfl, fun b o n1 n2 hb => by rw [updS_ne n2, updS_ne n1]; exact g1 b o n1 n2 hb, ?_, ?_⟩⟩
    · rw [updS_ne nlc, updS_same, ej]
    · rw [updS_same, ej, List.map_append]
end LW
namespace LW
open PySem L2 DL
/-- the state's places, unlike -/
structure StA.un (a : StA) : Prop where
  sl : a.st ≠ a.la
  si : a.st ≠ a.inn
  sm : a.st ≠ a.me
  li : a.la ≠ a.inn
  lm : a.la ≠ a.me
  im : a.inn ≠ a.me
  fl : a.fi ≠ a.la
  fi : a.fi ≠ a.inn
  fm : a.fi ≠ a.me
/-- all but what the state changes stays -/
def Ka (a : StA) (S S' : Sto) : Prop := ∀ b o, b ≠ a.la → b ≠ a.inn → b ≠ a.me → S b = some o → S' b = some o
theorem Ka.refl {a : StA} {S : Sto} : Ka a S S := fun _ _ _ _ _ h => h
theorem Ka.trans {a : StA} {S S1 S2 : Sto} (x : Ka a S S1) (y : Ka a S1 S2) : Ka a S S2 := fun b o h1 h2 h3 h => y b o h1 h2 h3 (x b o h1 h2 h3 h)
theorem Ka.gr {a : StA} {S S' : Sto} (g : Gr S S') : Ka a S S' := fun b o _ _ _ h => g b o h
theorem Ka.la {a : StA} {S S' : Sto} (k : K1 a.la S S') : Ka a S S' := fun b o h _ _ e => k b o h e
theorem Ka.inn {a : StA} {S S' : Sto} (k : K1 a.inn S S') : Ka a S S' := fun b o _ h _ e => k b o h e
theorem Ka.me {a : StA} {S S' : Sto} (k : K1 a.me S S') : Ka a S S' := fun b o _ _ h e => k b o h e
theorem StAt.putLa {a : StA} {s : PSt} {S S' : Sto} {L : AL Ld} (t : StAt S a s) (u : a.un) (k : K1 a.la S S') (e : S' a.la = some (.dk (al LdD L))) : StAt S' a { s with lands := L } :=
  ⟨k _ _ u.sl t.st, e, k _ _ (Ne.symm u.li) t.inn, k _ _ (Ne.symm u.lm) t.me, k _ _ u.fl t.fi⟩
theorem StAt.putInn {a : StA} {s : PSt} {S S' : Sto} {L : AL Int} (t : StAt S a s) (u : a.un) (k : K1 a.inn S S') (e : S' a.inn = some (.dk (al DL.D.int L))) : StAt S' a { s with inches := L } :=
  ⟨k _ _ u.si t.st, k _ _ u.li t.la, e, k _ _ (Ne.symm u.im) t.me, k _ _ u.fi t.fi⟩
theorem StAt.putMe {a : StA} {s : PSt} {S S' : Sto} {L : AL Str} (t : StAt S a s) (u : a.un) (k : K1 a.me S S') (e : S' a.me = some (.dk (al DL.D.str L))) : StAt S' a { s with menders := L } :=
  ⟨k _ _ u.sm t.st, k _ _ u.lm t.la, k _ _ u.im t.inn, e, k _ _ u.fm t.fi⟩
theorem sh_al {α : Type} {f : α → DL.D} {L : AL α} {n : Nat} (h : L.length ≤ n) (hn : n ≤ 10000) : (al f L).length < sizeLine := by rw [al_len]; exact Nat.lt_of_le_of_lt (show _ ≤ 10000 by omega) (by decide)
theorem row_skip {a : Addr} {w n : Str} {d : Int} {r : List DL.D} {S : Sto} {Q : DK} (h : w ≠ "part" ∧ w ≠ "join" ∧ w ≠ "forfeit" ∧ w ≠ "measure" ∧ w ≠ "mend" ∧ w ≠ "alone") (q : Q .non S) : b_do_row (endsD Q) [some (.ref a), some (rowD w n d r)] S := by
  obtain ⟨h1, h2, h3, h4, h5, h6⟩ := h
  simp_arith [b_do_row]
  refine ⟨_, atI_nat (j := 0) rfl, ?_⟩
  simp_arith []
  rw [if_neg h1]
  refine ⟨_, atI_nat (j := 0) rfl, ?_⟩
  simp_arith []
  rw [if_neg h2]
  refine ⟨_, atI_nat (j := 0) rfl, ?_⟩
  simp_arith []
  rw [if_neg h3]
  refine ⟨_, atI_nat (j := 0) rfl, ?_⟩
  simp_arith []
  rw [if_neg h4]
  refine ⟨_, atI_nat (j := 0) rfl, ?_⟩
  simp_arith []
  rw [if_neg h5]
  refine ⟨_, atI_nat (j := 0) rfl, ?_⟩
  simp_arith []
  rw [if_neg h6]
  exact q
theorem do_row_spec {a : StA} {s : PSt} {fs : List Str} {A : Int} {k : Nat} {r : Rw} {n : Str} {d : Int} {S : Sto} {Q : DK} (hT : TJ S) (hTl : tP_joined ≠ a.la) (t : StAt S a s) (u : a.un) (h : SInv fs A k s) (hr : r.ok fs) (hw : wordOf s r = "done") (hA : A ≤ 8000000) (hk : k ≤ 1000)
    (q : ∀ S', Ka a S S' → StAt S' a (doRow s r) → Q .non S') : m_do_row [.ref a.st, r.D n d] S Q := by
  have e0 := t.st
  have ela := t.la
  rw [e_do_row]
  cases r with
  | part l ps =>
    obtain ⟨h1, h2⟩ := partW_done hw
    rw [show (Rw.part l ps).D n d = rowD "part" n d [.str l, .tup (ps.map Pt.D)] from rfl]
    simp_arith [b_do_row]
    refine ⟨_, atI_nat (j := 0) rfl, ?_⟩
    simp_arith [e0]
    refine ⟨_, st_lands, ?_⟩
    exact do_part_spec t.la h1 (acc_line h.la hA l) (by have := h.la.len; omega) hr.2.2.1 fun S' k1 e1 => q S' (.la k1) (t.putLa u k1 e1)
  | join ls l =>
    rw [show (Rw.join ls l).D n d = rowD "join" n d [.tup (ls.map .str), .str l] from rfl]
    simp_arith [b_do_row]
    refine ⟨_, atI_nat (j := 0) rfl, ?_⟩
    simp_arith []
    rw [if_neg (by decide +kernel)]
    refine ⟨_, atI_nat (j := 0) rfl, ?_⟩
    simp_arith [e0]
    refine ⟨_, st_lands, _, st_fields, ?_⟩
    have ef := t.fi
    rw [h.fi] at ef
    refine do_join_spec hT hTl t.la ef u.fl h.la hA (by omega) (joinW_done hw) hr.2.2.1.nodup hr.1 hr.2.1 fun S' k1 e1 => q S' (.la k1) ?_
    rw [← h.fi] at e1
    exact t.putLa u k1 e1
  | forfeit l g =>
    have h1 := forfeitW_done hw
    rw [show (Rw.forfeit l g).D n d = rowD "forfeit" n d [.str l, .str g] from rfl]
    simp_arith [b_do_row]
    refine ⟨_, atI_nat (j := 0) rfl, ?_⟩
    simp_arith []
    rw [if_neg (by decide +kernel)]
    refine ⟨_, atI_nat (j := 0) rfl, ?_⟩
    simp_arith []
    rw [if_neg (by decide +kernel)]
    refine ⟨_, atI_nat (j := 0) rfl, ?_⟩
    simp_arith [e0]
    refine ⟨_, atI_nat (j := 4) rfl, _, st_lands, _, atI_nat (j := 3) rfl, ?_⟩
    simp_arith [ela]
    refine ⟨_, val_ld h1, ?_⟩
    try simp_arith []
    refine ⟨_, atI_nat (j := 1) rfl, by decide, ?_⟩
    simp_arith [e0]
    refine ⟨_, st_lands, _, atI_nat (j := 3) rfl, ?_⟩
    simp_arith [ela]
    refine ⟨sh_al h.la.len (by omega), ?_⟩
    have eput : putD (al LdD s.lands) (Sum.inr l) (.tup [.str g, .tup ((piecesOf s.lands l).map Pc.D)]) = al LdD (s.lands.put l (g, piecesOf s.lands l)) := put_al (f := LdD) _ _ (g, _)
    rw [eput]
    exact q _ (.la .put) (t.putLa u .put updS_same)
  | measure f i =>
    rw [show (Rw.measure f i).D n d = rowD "measure" n d [.str f, .int i] from rfl]
    simp_arith [b_do_row]
    refine ⟨_, atI_nat (j := 0) rfl, ?_⟩
    simp_arith []
    rw [if_neg (by decide +kernel)]
    refine ⟨_, atI_nat (j := 0) rfl, ?_⟩
    simp_arith []
    rw [if_neg (by decide +kernel)]
    refine ⟨_, atI_nat (j := 0) rfl, ?_⟩
    simp_arith []
    rw [if_neg (by decide +kernel)]
    refine ⟨_, atI_nat (j := 0) rfl, ?_⟩
    simp_arith [e0]
    refine ⟨_, atI_nat (j := 4) rfl, _, st_inches, _, atI_nat (j := 3) rfl, ?_⟩
    have ei := t.inn
    simp_arith [ei]
    refine ⟨sh_al h.il (by omega), ?_⟩
    rw [show putD (al DL.D.int s.inches) (Sum.inr f) (.int i) = al DL.D.int (s.inches.put f i) from put_al (f := DL.D.int) _ _ i]
    exact q _ (.inn .put) (t.putInn u .put updS_same)
  | mend x g =>
    rw [show (Rw.mend x g).D n d = rowD "mend" n d [.str x, .str g] from rfl]
    simp_arith [b_do_row]
    refine ⟨_, atI_nat (j := 0) rfl, ?_⟩
    simp_arith []
    rw [if_neg (by decide +kernel)]
    refine ⟨_, atI_nat (j := 0) rfl, ?_⟩
    simp_arith []
    rw [if_neg (by decide +kernel)]
    refine ⟨_, atI_nat (j := 0) rfl, ?_⟩
    simp_arith []
    rw [if_neg (by decide +kernel)]
    refine ⟨_, atI_nat (j := 0) rfl, ?_⟩
    simp_arith []
    rw [if_neg (by decide +kernel)]
    refine ⟨_, atI_nat (j := 0) rfl, ?_⟩
    simp_arith [e0]
    refine ⟨_, atI_nat (j := 4) rfl, _, st_menders, _, atI_nat (j := 3) rfl, ?_⟩
    have em := t.me
    simp_arith [em]
    refine ⟨sh_al h.ml (by omega), ?_⟩
    rw [show putD (al DL.D.str s.menders) (Sum.inr x) (.str g) = al DL.D.str (s.menders.put x g) from put_al (f := DL.D.str) _ _ g]
    exact q _ (.me .put) (t.putMe u .put updS_same)
  | alone x =>
    have h1 : (s.menders.get x).isSome = true := by
      cases e : (s.menders.get x).isSome with
      | true => rfl
      | false =>
        have hw : (if (s.menders.get x).isSome = true then ("done" : Str) else "none") = "done" := hw
        rw [e, if_neg (by decide)] at hw
        exact absurd hw (by decide +kernel)
    rw [show (Rw.alone x).D n d = rowD "alone" n d [.str x] from rfl]
    simp_arith [b_do_row]
    refine ⟨_, atI_nat (j := 0) rfl, ?_⟩
    simp_arith []
    rw [if_neg (by decide +kernel)]
    refine ⟨_, atI_nat (j := 0) rfl, ?_⟩
    simp_arith []
    rw [if_neg (by decide +kernel)]
    refine ⟨_, atI_nat (j := 0) rfl, ?_⟩
    simp_arith []
    rw [if_neg (by decide +kernel)]
    refine ⟨_, atI_nat (j := 0) rfl, ?_⟩
    simp_arith []
    rw [if_neg (by decide +kernel)]
    refine ⟨_, atI_nat (j := 0) rfl, ?_⟩
    simp_arith []
    rw [if_neg (by decide +kernel)]
    refine ⟨_, atI_nat (j := 0) rfl, ?_⟩
    simp_arith [e0]
    have em := t.me
    obtain ⟨v, hv⟩ := Option.isSome_iff_exists.mp h1
    refine ⟨_, st_menders, by rw [tyM_r, em, oTyM_d], _, atI_nat (j := 3) rfl, _, kS x, .str v, em, rfl, by rw [val_al, hv]; rfl, ?_⟩
    rw [drop_al]
    exact q _ (.me .put) (t.putMe u .put updS_same)
  | breach f i c z =>
    rw [show (Rw.breach f i c z).D n d = rowD "breach" n d [.str f, .int i, .int c, .int z] from rfl]
    exact row_skip (by decide +kernel) (q _ .refl t)
  | view f i g =>
    rw [show (Rw.view f i g).D n d = rowD "view" n d [.str f, .int i, .str g] from rfl]
    exact row_skip (by decide +kernel) (q _ .refl t)
end LW
namespace LW
open PySem L2 DL
theorem snoc_ind {α : Type} {P : List α → Prop} (h0 : P []) (hs : ∀ a x, P a → P (a ++ [x])) (l : List α) : P l := by
  have : ∀ m : List α, P m.reverse := by
    intro m
    induction m with
    | nil => exact h0
    | cons x m ih => rw [List.reverse_cons]; exact hs _ _ ih
  have := this l.reverse
  rwa [List.reverse_reverse] at this
/-- a right laying -/
structure LayOk (xs : List Fd) : Prop where
  ok : ∀ x ∈ xs, x.ok
  l8 : xs.length ≤ 8
def landsB (xs : List Fd) : AL Ld := xs.foldl (fun L x => L.put x.f (landOf x)) []
def inchesB (xs : List Fd) : AL Int := xs.foldl (fun L x => L.put x.f x.n) []
theorem begunP_eq (xs : List Fd) : begunP xs = ⟨landsB xs, inchesB xs, [], xs.map (·.f)⟩ := rfl
theorem landsB_snoc (a : List Fd) (x : Fd) : landsB (a ++ [x]) = (landsB a).put x.f (landOf x) := by unfold landsB; rw [List.foldl_append]; rfl
theorem inchesB_snoc (a : List Fd) (x : Fd) : inchesB (a ++ [x]) = (inchesB a).put x.f x.n := by unfold inchesB; rw [List.foldl_append]; rfl
theorem landsB_inv {fs : List Str} : ∀ (xs : List Fd), (∀ x ∈ xs, x.ok) → (∀ x ∈ xs, x.f ∈ fs) → LInv fs (xs.length * 1000000) xs.length (landsB xs) := by
  refine snoc_ind ?_ ?_
  · intro _ _; exact ⟨⟨fun _ h => (by cases h)⟩, List.nodup_nil, Int.le_refl _, Nat.le_refl _⟩
  · intro a x ih h1 h2
    have ih := ih (fun y hy => h1 y (by simp [hy])) (fun y hy => h2 y (by simp [hy]))
    have hx := h1 x (by simp)
    rw [landsB_snoc]
    have hp : PcsOk fs [⟨x.f, 0, x.a⟩] := ⟨fun y hy => by rw [List.mem_singleton.mp hy]; exact h2 x (by simp), fun y hy => by rw [List.mem_singleton.mp hy]; show (0 : Int) < x.a; have := hx.a1; omega⟩
    have ha : accs [⟨x.f, 0, x.a⟩] = x.a := by rw [accs_one]; show x.a - 0 = _; omega
    have := ih.put (l := x.f) (g := x.h) hp
    rw [ha] at this
    refine this.mono ?_ (by rw [List.length_append]; exact Nat.le_refl _)
    rw [List.length_append]
    have := hx.a2
    simp only [List.length_cons, List.length_nil]
    omega
theorem inchesB_inv : ∀ (xs : List Fd), (∀ f ∈ xs.map (·.f), ((inchesB xs).get f).isSome = true) ∧ (inchesB xs).length ≤ xs.length := by
  refine snoc_ind ?_ ?_
  · exact ⟨fun f h => (by cases h), Nat.le_refl _⟩
  · intro a x ih
    rw [inchesB_snoc]
    refine ⟨fun f hf => ?_, ?_⟩
    · rw [get_put]
      by_cases e : f = x.f
      · rw [if_pos e]; rfl
      · rw [if_neg e]
        rw [List.map_append, List.mem_append] at hf
        rcases hf with hf | hf
        · exact ih.1 f hf
        · rw [List.map_cons, List.map_nil, List.mem_singleton] at hf
          exact absurd hf e
    · have := put_len (inchesB a) x.f x.n
      have := ih.2
      rw [List.length_append]
      simp only [List.length_cons, List.length_nil]
      omega
theorem begun_inv {xs : List Fd} (h : LayOk xs) : SInv (xs.map (·.f)) 8000000 0 (begunP xs) := by
  rw [begunP_eq]
  have h1 := landsB_inv (fs := xs.map (·.f)) xs h.ok (fun x hx => List.mem_map.mpr ⟨x, hx, rfl⟩)
  have h2 := inchesB_inv xs
  have := h.l8
  exact ⟨h1.mono (by omega) (by omega), h2.1, by show (inchesB xs).length ≤ _; omega, acy_nil, Nat.le_refl _, rfl⟩
theorem st_merge {la inn me fi : Addr} : mergeD [] [(kS "lands", DL.D.ref la), (kS "inches", .ref inn), (kS "menders", .ref me), (kS "fields", .ref fi)] = stKv la inn me fi := by
  unfold mergeD stKv
  simp only [List.foldl, putD, hasD, valD, Option.isSome, if_neg k_li, if_neg k_lm, if_neg k_lf, if_neg k_im, if_neg k_if, if_neg k_mf, if_false, Bool.false_eq_true, List.nil_append, List.cons_append]
/-- the state's places are new -/
structure StA.new (a : StA) (S : Sto) : Prop where
  st : S a.st = none
  la : S a.la = none
  inn : S a.inn = none
  me : S a.me = none
  fi : S a.fi = none
theorem begun_spec {xs : List Fd} (h : LayOk xs) {S : Sto} {Q : DK} (q : ∀ (a : StA) (S' : Sto), a.un → a.new S → Gr S S' → StAt S' a (begunP xs) → Q (.ref a.st) S') : m_begun [.tup (xs.map Fd.D)] S Q := by
  rw [e_begun]
  refine seq_i ?_
  simp_arith []
  intro la hla
  intro inn hinn
  intro me hme
  have n1 : inn ≠ la := fun e => by rw [e, updS_same] at hinn; cases hinn
  have n2 : me ≠ inn := fun e => by rw [e, updS_same] at hme; cases hme
  have n3 : me ≠ la := fun e => by rw [e, updS_ne (Ne.symm n1), updS_same] at hme; cases hme
  have hinn0 : S inn = none := by rw [updS_ne n1] at hinn; exact hinn
  have hme0 : S me = none := by rw [updS_ne n2, updS_ne n3] at hme; exact hme
  have g0 : Gr S (updS (updS (updS S la (.dk [])) inn (.dk [])) me (.dk [])) := ((Gr.new hla).trans (.new hinn)).trans (.new hme)
  have ela : updS (updS (updS S la (.dk [])) inn (.dk [])) me (.dk []) la = some (.dk []) := by rw [updS_ne (Ne.symm n3), updS_ne (Ne.symm n1), updS_same]
  have einn : updS (updS (updS S la (.dk [])) inn (.dk [])) me (.dk []) inn = some (.dk []) := by rw [updS_ne (Ne.symm n2), updS_same]
  have eme : updS (updS (updS S la (.dk [])) inn (.dk [])) me (.dk []) me = some (.dk []) := updS_same
  generalize updS (updS (updS S la (.dk [])) inn (.dk [])) me (.dk []) = S1 at g0 ela einn eme
  have h8 := h.l8
  refine lcL_map (fun d => match d with | .tup [f, _, _, _] => f | _ => .non) _ trivial (small_line (by rw [List.length_map]; omega)) (fun x hx Q q => ?_) ?_
  · obtain ⟨y, hy, rfl⟩ := List.mem_map.mp hx
    rw [show Fd.D y = .tup [.str y.f, .str y.h, .int y.a, .int y.n] from rfl]
    simp_arith [c_begun_1]
    exact ⟨_, atI_nat (j := 0) rfl, q⟩
  intro fi hfi
  have ef : ((xs.map Fd.D).map fun d => match d with | .tup [f, _, _, _] => f | _ => .non) = (xs.map (·.f)).map DL.D.str := by rw [List.map_map, List.map_map]; rfl
  rw [ef]
  have g1 : Gr S (updS S1 fi (.lst ((xs.map (·.f)).map .str))) := g0.trans (.new hfi)
  have efi : updS S1 fi (.lst ((xs.map (·.f)).map .str)) fi = some (.lst ((xs.map (·.f)).map .str)) := updS_same
  have f1 : fi ≠ la := fun e => by rw [e, ela] at hfi; cases hfi
  have f2 : fi ≠ inn := fun e => by rw [e, einn] at hfi; cases hfi
  have f3 : fi ≠ me := fun e => by rw [e, eme] at hfi; cases hfi
  have hfi0 : S fi = none := by
    cases e : S fi with
    | none => rfl
    | some o => rw [g0 _ _ e] at hfi; cases hfi
  have ela2 := (Gr.new (o := .lst ((xs.map (·.f)).map .str)) hfi) _ _ ela
  have einn2 := (Gr.new (o := .lst ((xs.map (·.f)).map .str)) hfi) _ _ einn
  have eme2 := (Gr.new (o := .lst ((xs.map (·.f)).map .str)) hfi) _ _ eme
  generalize updS S1 fi (.lst ((xs.map (·.f)).map .str)) = S2 at g1 efi ela2 einn2 eme2
  refine ⟨_, rfl, by show 4 ≤ 15; decide, fun st hst => ?_⟩
  have em : ∀ kvs, kvs = [(kS "lands", DL.D.ref la), (kS "inches", .ref inn), (kS "menders", .ref me), (kS "fields", .ref fi)] → mergeD [] kvs = stKv la inn me fi := fun kvs e => by rw [e]; exact st_merge
  rw [em _ rfl]
  have s1 : st ≠ la := fun e => by rw [e, ela2] at hst; cases hst
  have s2 : st ≠ inn := fun e => by rw [e, einn2] at hst; cases hst
  have s3 : st ≠ me := fun e => by rw [e, eme2] at hst; cases hst
  have hst0 : S st = none := by
    cases e : S st with
    | none => rfl
    | some o => rw [g1 _ _ e] at hst; cases hst
  have g2 : Gr S (updS S2 st (.dk (stKv la inn me fi))) := g1.trans (.new hst)
  have t0 : StAt (updS S2 st (.dk (stKv la inn me fi))) ⟨st, la, inn, me, fi⟩ ⟨landsB (xs.take 0), inchesB (xs.take 0), [], xs.map (·.f)⟩ :=
    ⟨updS_same, by rw [updS_ne (Ne.symm s1)]; exact ela2, by rw [updS_ne (Ne.symm s2)]; exact einn2, by rw [updS_ne (Ne.symm s3)]; exact eme2, by rw [updS_ne (neS efi hst)]; exact efi⟩
  generalize updS S2 st (.dk (stKv la inn me fi)) = S3 at g2 t0
  have un : StA.un ⟨st, la, inn, me, fi⟩ := ⟨s1, s2, s3, Ne.symm n1, Ne.symm n3, Ne.symm n2, f1, f2, f3⟩
  have nw : StA.new ⟨st, la, inn, me, fi⟩ S := ⟨hst0, hla, hinn0, hme0, hfi0⟩
  unfold t_begun_2
  refine seq_i ?_
  simp_arith []
  refine forL_inv _ (fun i σ S' => ∃ u2 u3 u4 u5, σ = [some (.tup (xs.map Fd.D)), some (.ref st), u2, u3, u4, u5, none] ∧ Gr S S' ∧ StAt S' ⟨st, la, inn, me, fi⟩ ⟨landsB (xs.take i), inchesB (xs.take i), [], xs.map (·.f)⟩) (fun _ _ _ _ => trivial) (fun i x σ S' N hxi hJ hN => ?turn) (fun σ S' hJ => ?fin) ⟨none, none, none, none, rfl, g2, t0⟩
  case fin =>
    obtain ⟨u2, u3, u4, u5, rfl, g3, t3⟩ := hJ
    rw [List.length_map, List.take_of_length_le (Nat.le_refl _)] at t3
    simp_arith [t_begun_5]
    exact q ⟨st, la, inn, me, fi⟩ S' un nw g3 t3
  case turn =>
    obtain ⟨u2, u3, u4, u5, rfl, g3, t3⟩ := hJ
    have hi' := (List.getElem?_eq_some_iff.mp hxi).1
    rw [List.length_map] at hi'
    rw [List.getElem?_map, List.getElem?_eq_getElem hi'] at hxi
    injection hxi with hxi
    subst hxi
    have et : xs.take (i + 1) = xs.take i ++ [xs[i]] := by rw [List.take_add_one, List.getElem?_eq_getElem hi', Option.toList_some]
    rw [show Fd.D xs[i] = .tup [.str xs[i].f, .str xs[i].h, .int xs[i].a, .int xs[i].n] from rfl]
    have hl1 : (landsB (xs.take i)).length ≤ 8 := by
      have := (landsB_inv (fs := xs.map (·.f)) (xs.take i) (fun y hy => h.ok y (List.mem_of_mem_take hy)) (fun y hy => List.mem_map.mpr ⟨y, List.mem_of_mem_take hy, rfl⟩)).len
      rw [List.length_take] at this
      omega
    have hl2 : (inchesB (xs.take i)).length ≤ 8 := by
      have := (inchesB_inv (xs.take i)).2
      rw [List.length_take] at this
      omega
    have e0 := t3.st
    have e1 := t3.la
    unfold l_begun_2
    simp_arith []
    refine seq_i ?_
    simp_arith [e0]
    refine ⟨by decide, by decide, by decide, _, st_lands, ?_⟩
    simp_arith [e1]
    refine ⟨sh_al hl1 (by omega), ?_⟩
    have eput : putD (al LdD (landsB (xs.take i))) (Sum.inr xs[i].f) (.tup [.str xs[i].h, .tup [.tup [.str xs[i].f, .int 0, .int xs[i].a]]]) = al LdD (landsB (xs.take (i + 1))) := by
      rw [et, landsB_snoc]
      exact put_al (f := LdD) _ _ (landOf xs[i])
    rw [eput]
    have t4 := t3.putLa un (K1.put (o := .dk (al LdD (landsB (xs.take (i + 1)))))) updS_same
    have g4 : Gr S (updS S' la (.dk (al LdD (landsB (xs.take (i + 1)))))) := fun b o hb => by
      rw [updS_ne (fun z => by rw [z, hla] at hb; cases hb)]
      exact g3 _ _ hb
    generalize updS S' la (.dk (al LdD (landsB (xs.take (i + 1))))) = S4 at t4 g4
    have e2 := t4.st
    have e3 := t4.inn
    unfold t_begun_4
    simp_arith [e2]
    refine ⟨_, st_inches, ?_⟩
    simp_arith [e3]
    refine ⟨sh_al hl2 (by omega), ?_⟩
    have eput2 : putD (al DL.D.int (inchesB (xs.take i))) (Sum.inr xs[i].f) (.int xs[i].n) = al DL.D.int (inchesB (xs.take (i + 1))) := by
      rw [et, inchesB_snoc]
      exact put_al (f := DL.D.int) _ _ xs[i].n
    rw [eput2]
    refine hN _ _ ⟨_, _, _, _, rfl, fun b o hb => ?_, t4.putInn un (K1.put (o := .dk (al DL.D.int (inchesB (xs.take (i + 1)))))) updS_same⟩
    rw [updS_ne (fun z => by rw [z, hinn0] at hb; cases hb)]
    exact g4 _ _ hb
end LW
namespace LW
open PySem L2 DL
/-- a row with its name and day -/
structure Rx where
  r : Rw
  n : Str
  d : Int
def Rx.D (x : Rx) : DL.D := x.r.D x.n x.d
def rollX (xs : List Fd) (rs : List Rx) : DL.D := .tup [.tup (xs.map Fd.D), .tup (rs.map Rx.D)]
structure RollOk (xs : List Fd) (rs : List Rx) : Prop where
  lay : LayOk xs
  ok : ∀ x ∈ rs, x.r.ok (xs.map (·.f))
  len : rs.length ≤ 100
theorem foldL_snoc (s : PSt) (a : List Rw) (r : Rw) : foldL s (a ++ [r]) = foldS (foldL s a) r := by unfold foldL; rw [List.foldl_append]; rfl
theorem wordsL_snoc : ∀ (s : PSt) (a : List Rw) (r : Rw), wordsL s (a ++ [r]) = wordsL s a ++ [wordOf (foldL s a) r]
  | s, [], r => rfl
  | s, x :: a, r => by
    show wordOf s x :: wordsL (foldS s x) (a ++ [r]) = _
    rw [wordsL_snoc]
    rfl
theorem wordsL_len : ∀ (s : PSt) (a : List Rw), (wordsL s a).length = a.length
  | s, [] => rfl
  | s, x :: a => by show (wordsL (foldS s x) a).length + 1 = a.length + 1; rw [wordsL_len]
theorem foldL_inv {fs : List Str} {A : Int} {s : PSt} (h : SInv fs A 0 s) : ∀ (rs : List Rw), (∀ r ∈ rs, r.ok fs) → SInv fs A rs.length (foldL s rs) := by
  refine snoc_ind ?_ ?_
  · intro _; exact h
  · intro a x ih hr
    rw [foldL_snoc, List.length_append]
    exact foldS_inv (ih fun y hy => hr y (by simp [hy])) (hr x (by simp))
theorem cutL_to (ds : List DL.D) (n : Nat) : cutL ds none (some (n : Int)) = ds.take n := by
  unfold cutL
  rw [HT.sIx_none, show HT.sIx ds.length ds.length (some (n : Int)) = min n ds.length from HT.sIx_nat _ _ n]
  rw [List.drop_zero, Nat.sub_zero]
  by_cases h : n ≤ ds.length
  · rw [Nat.min_eq_left h]
  · rw [Nat.min_eq_right (by omega), List.take_of_length_le (Nat.le_refl _), List.take_of_length_le (by omega)]
def rws (rs : List Rx) : List Rw := rs.map (·.r)
noncomputable def stOf (xs : List Fd) (rs : List Rx) : PSt := foldL (begunP xs) (rws rs)
theorem stOf_inv {xs : List Fd} {rs : List Rx} (h : RollOk xs rs) (k : Nat) : SInv (xs.map (·.f)) 8000000 (rws (rs.take k)).length (stOf xs (rs.take k)) :=
  foldL_inv (begun_inv h.lay) _ fun r hr => by
    obtain ⟨x, hx, rfl⟩ := List.mem_map.mp hr
    exact h.ok x (List.mem_of_mem_take hx)
theorem rws_len (rs : List Rx) : (rws rs).length = rs.length := by unfold rws; rw [List.length_map]
theorem folded_spec {xs : List Fd} {rs : List Rx} {k : Nat} (h : RollOk xs rs) {S : Sto} {Q : DK} (hT : TJ S)
    (q : ∀ (a : StA) (w : Addr) (S' : Sto), a.un → a.new S → S w = none → Gr S S' → StAt S' a (stOf xs (rs.take k)) → S' w = some (.lst ((wordsL (begunP xs) (rws (rs.take k))).map .str)) → Q (.tup [.ref a.st, .ref w]) S') : m_folded [rollX xs rs, .int (k : Nat)] S Q := by
  rw [e_folded, rollX]
  refine seq_i ?_
  simp_arith []
  refine ⟨_, atI_nat (j := 0) rfl, begun_spec h.lay fun a S1 un nw g1 t1 => ?_⟩
  simp_arith [t_folded_2]
  refine seq_i ?_
  simp_arith []
  refine ⟨by decide, fun w hw => ?_⟩
  have hw0 : S w = none := by
    cases e : S w with
    | none => rfl
    | some o => rw [g1 _ _ e] at hw; cases hw
  have t2 : StAt (updS S1 w (.lst [])) a (stOf xs ((rs.take k).take 0)) := t1.gr (.new hw)
  have g2 : Gr S (updS S1 w (.lst [])) := g1.trans (.new hw)
  have ew : updS S1 w (.lst []) w = some (.lst ((wordsL (begunP xs) (rws ((rs.take k).take 0))).map .str)) := updS_same
  have wla : w ≠ a.la := fun e => by rw [e, t1.la] at hw; cases hw
  have win : w ≠ a.inn := fun e => by rw [e, t1.inn] at hw; cases hw
  have wme : w ≠ a.me := fun e => by rw [e, t1.me] at hw; cases hw
  have wst : a.st ≠ w := fun e => by rw [← e, t1.st] at hw; cases hw
  have wfi : a.fi ≠ w := fun e => by rw [← e, t1.fi] at hw; cases hw
  generalize updS S1 w (.lst []) = S2 at t2 g2 ew
  have nT : tP_joined ≠ a.la := neS hT nw.la
  unfold t_folded_3
  refine seq_i ?_
  simp_arith []
  refine ⟨_, atI_nat (j := 1) rfl, ?_⟩
  simp_arith []
  rw [cutL_to, ← List.map_take]
  refine forL_inv _ (fun i σ S' => ∃ u4, σ = [some (.tup [.tup (xs.map Fd.D), .tup (rs.map Rx.D)]), some (.int (k : Nat)), some (.ref a.st), some (.ref w), u4] ∧ Gr S S' ∧ StAt S' a (stOf xs ((rs.take k).take i)) ∧ S' w = some (.lst ((wordsL (begunP xs) (rws ((rs.take k).take i))).map .str))) (fun _ _ _ _ => trivial) (fun i x σ S' N hxi hJ hN => ?turn) (fun σ S' hJ => ?fin) ⟨none, rfl, g2, t2, ew⟩
  case fin =>
    obtain ⟨u4, rfl, g3, t3, e3⟩ := hJ
    rw [List.length_map, List.take_of_length_le (Nat.le_refl _)] at t3 e3
    simp_arith [t_folded_7]
    exact ⟨by decide, q a w S' un nw hw0 g3 t3 e3⟩
  case turn =>
    obtain ⟨u4, rfl, g3, t3, e3⟩ := hJ
    have hi' := (List.getElem?_eq_some_iff.mp hxi).1
    rw [List.length_map] at hi'
    rw [List.getElem?_map, List.getElem?_eq_getElem hi'] at hxi
    injection hxi with hxi
    subst hxi
    have hi2 := hi'
    rw [List.length_take] at hi2
    have hm : (rs.take k)[i] ∈ rs := List.mem_of_mem_take (List.getElem_mem hi')
    have hok := h.ok _ hm
    have inv := stOf_inv h (min i k)
    rw [show rs.take (min i k) = (rs.take k).take i by rw [List.take_take]] at inv
    have hlen : (rws ((rs.take k).take i)).length ≤ 100 := by rw [rws_len, List.length_take]; have := h.len; omega
    have et : rws ((rs.take k).take (i + 1)) = rws ((rs.take k).take i) ++ [(rs.take k)[i].r] := by
      unfold rws
      rw [List.take_add_one, List.getElem?_eq_getElem hi', Option.toList_some, List.map_append]
      rfl
    have es : stOf xs ((rs.take k).take (i + 1)) = foldS (stOf xs ((rs.take k).take i)) (rs.take k)[i].r := by
      unfold stOf
      rw [et, foldL_snoc]
    have ewd : wordsL (begunP xs) (rws ((rs.take k).take (i + 1))) = wordsL (begunP xs) (rws ((rs.take k).take i)) ++ [wordOf (stOf xs ((rs.take k).take i)) (rs.take k)[i].r] := by
      rw [et, wordsL_snoc]
      rfl
    rw [es, ewd] at hN
    generalize stOf xs ((rs.take k).take i) = s at t3 inv hN
    have hwl : (wordsL (begunP xs) (rws ((rs.take k).take i))).length < sizeLine := by rw [wordsL_len]; exact Nat.lt_of_le_of_lt (show _ ≤ 100 by omega) (by decide)
    generalize wordsL (begunP xs) (rws ((rs.take k).take i)) = ws at e3 hN hwl
    generalize (rs.take k)[i] = x at hok hN
    unfold l_folded_3
    simp_arith []
    refine seq_i ?_
    simp_arith [e3]
    refine word_of_spec t3 inv hok (by decide) (by omega) fun S4 g4 => ?_
    refine ⟨_, g4 _ _ e3, by rw [List.length_map]; exact hwl, ?_⟩
    have t4 : StAt (updS S4 w (.lst (ws.map .str ++ [.str (wordOf s x.r)]))) a s := by
      have t := t3.gr g4
      exact ⟨by rw [updS_ne wst]; exact t.st, by rw [updS_ne (Ne.symm wla)]; exact t.la, by rw [updS_ne (Ne.symm win)]; exact t.inn, by rw [updS_ne (Ne.symm wme)]; exact t.me, by rw [updS_ne wfi]; exact t.fi⟩
    have e5 : updS S4 w (.lst (ws.map .str ++ [.str (wordOf s x.r)])) w = some (.lst ((ws ++ [wordOf s x.r]).map .str)) := by rw [updS_same, List.map_append]; rfl
    have g5 : Gr S (updS S4 w (.lst (ws.map .str ++ [.str (wordOf s x.r)]))) := fun b o hb => by
      rw [updS_ne (fun z => by rw [z, hw0] at hb; cases hb)]
      exact g4 _ _ (g3 _ _ hb)
    generalize updS S4 w (.lst (ws.map .str ++ [.str (wordOf s x.r)])) = S5 at t4 e5 g5
    unfold t_folded_5
    simp_arith [e5]
    refine ⟨_, at_last (l := .str (wordOf s x.r)) (by rw [List.map_append, List.map_cons, List.map_nil, List.getLast?_concat]), ?_⟩
    simp_arith []
    by_cases hd : wordOf s x.r = "done"
    · rw [if_pos hd]
      refine do_row_spec (g5 _ _ hT) nT t4 un inv hok hd (by decide) (by omega) fun S6 k6 t6 => hN _ _ ⟨_, rfl, fun b o hb => ?_, ?_, k6 _ _ wla win wme e5⟩
      · exact k6 b o (fun z => by rw [z, nw.la] at hb; cases hb) (fun z => by rw [z, nw.inn] at hb; cases hb) (fun z => by rw [z, nw.me] at hb; cases hb) (g5 _ _ hb)
      · unfold foldS
        rw [if_pos hd]
        exact t6
    · rw [if_neg hd]
      refine hN _ _ ⟨_, rfl, g5, ?_, e5⟩
      unfold foldS
      rw [if_neg hd]
      exact t4
theorem road_spec {xs : List Fd} {rs : List Rx} {k : Nat} {z : Str} {l : List Str} (h : RollOk xs rs) (hl : Rd (stOf xs (rs.take k)).menders z l) {S : Sto} {Q : DK} (hT : TJ S)
    (q : ∀ (c : Addr) (S' : Sto), S c = none → Gr S S' → S' c = some (.lst (l.map .str)) → Q (.ref c) S') : m_road [rollX xs rs, .int (k : Nat), .str z] S Q := by
  have inv := stOf_inv h k
  have hll : l.length < sizeLine := by
    have h1 := hl.len
    have h2 := inv.ml
    rw [rws_len, List.length_take] at h2
    have := h.len
    exact Nat.lt_of_le_of_lt (show _ ≤ 200 by omega) (by decide)
  rw [e_road]
  simp_arith [b_road]
  refine folded_spec h hT fun a w S1 un nw hw g1 t1 e1 => ?_
  refine ⟨_, atI_nat (j := 0) rfl, ?_⟩
  have e2 := t1.st
  have e3 := t1.me
  simp_arith [e2]
  refine ⟨_, st_menders, ?_⟩
  refine road_by_spec hl hll e3 fun c S2 hc g2 e4 => q c S2 ?_ (g1.trans g2) e4
  cases e : S c with
  | none => rfl
  | some o => rw [g1 _ _ e] at hc; cases hc
end LW
namespace LW
open PySem L2 DL
theorem wroad_spec {me : Addr} {m : AL Str} {h : Str} {l : List Str} (r : Rd m h l) (hz : l.length < sizeLine) {S : Sto} {Q : DK} (em : S me = some (.dk (al DL.D.str m)))
    (q : ∀ c S', S c = none → Gr S S' → S' c = some (.lst (l.map .str)) → Q (.ref c) S') : m_wroad [.ref me, .str h] S Q := by
  rw [e_wroad]
  refine seq_i ?_
  simp_arith []
  refine ⟨by decide, fun c hc => ?_⟩
  have g0 : Gr S (updS S c (.lst [.str h])) := .new hc
  have ec : updS S c (.lst [.str h]) c = some (.lst [.str h]) := updS_same
  generalize updS S c (.lst [.str h]) = S0 at g0 ec
  unfold t_wroad_2
  refine seq_i ?_
  have hl0 : 0 < l.length := by cases r <;> simp
  have hh : l.take 1 = [h] := by cases r <;> rfl
  refine while_i (fun n σ S' => ∃ k, 1 ≤ k ∧ k ≤ l.length ∧ n = l.length - k ∧ σ = [some (.ref me), some (.str h), some (.ref c)] ∧ Gr S S' ∧ S' c = some (.lst ((l.take k).map .str))) (l.length - 1) ⟨1, Nat.le_refl _, hl0, rfl, rfl, g0, by rw [hh]; exact ec⟩ (fun n σ S' hJ N hN => ?_)
  obtain ⟨k, k1, k2, rfl, rfl, g1, e1⟩ := hJ
  have hk : k - 1 < l.length := by omega
  have hat : atI ((l.take k).map DL.D.str) (-1) = some (.str l[k - 1]) := at_last (by
    rw [List.getLast?_map, List.getLast?_take, if_neg (by omega), List.getElem?_eq_getElem hk]
    rfl)
  have hd := rd_split r (k - 1) hk
  simp_arith [e1]
  refine ⟨_, hat, ?_⟩
  have em1 := g1 _ _ em
  simp_arith [em1]
  rw [has_al]
  by_cases hk2 : k = l.length
  · have e : m.get l[k - 1] = none := by
      rw [List.drop_eq_getElem_cons hk, List.drop_of_length_le (by omega)] at hd
      cases hd with
      | stop e => exact e
      | step e r => obtain ⟨t, ht⟩ := r.head; simp at ht
    rw [e, if_neg (by decide)]
    simp_arith [t_wroad_4]
    rw [hk2, List.take_length] at e1
    exact q c S' hc g1 e1
  · have hk3 : k < l.length := by omega
    have e : m.get l[k - 1] = some l[k] := by
      rw [List.drop_eq_getElem_cons hk, show k - 1 + 1 = k by omega, List.drop_eq_getElem_cons hk3] at hd
      cases hd with
      | step e r =>
        obtain ⟨t, ht⟩ := r.head
        injection ht with h1 h2
        rw [h1]
        exact e
    rw [e, if_pos (show (some l[k]).isSome = true from rfl)]
    unfold l_wroad_2
    simp_arith [e1]
    refine ⟨_, hat, ?_⟩
    simp_arith [em1]
    refine ⟨_, by rw [val_al, e]; rfl, _, e1, by rw [List.length_map, List.length_take]; omega, ?_⟩
    refine hN (l.length - (k + 1)) _ _ (by omega) ⟨k + 1, by omega, hk3, rfl, rfl, fun b o hb => ?_, ?_⟩
    · rw [updS_ne (fun z => by subst z; rw [hc] at hb; cases hb)]
      exact g1 _ _ hb
    · rw [updS_same, List.take_add_one, List.getElem?_eq_getElem hk3, List.map_append]
      rfl
open Classical in
noncomputable def stepM (m : AL Str) : Rw → AL Str
  | .mend h g => if ∃ l, Rd m g l ∧ h ∈ l then m else m.put h g
  | .alone h => if (m.get h).isSome = true then m.drop h else m
  | _ => m
noncomputable def mndL (m : AL Str) (rs : List Rw) : AL Str := rs.foldl stepM m
theorem step_ring {m : AL Str} {h g : Str} (hr : ∃ l, Rd m g l ∧ h ∈ l) : stepM m (.mend h g) = m := if_pos hr
theorem step_put {m : AL Str} {h g : Str} (hr : ¬ ∃ l, Rd m g l ∧ h ∈ l) : stepM m (.mend h g) = m.put h g := if_neg hr
theorem step_drop {m : AL Str} {h : Str} (hr : (m.get h).isSome = true) : stepM m (.alone h) = m.drop h := if_pos hr
theorem step_keep {m : AL Str} {h : Str} (hr : ¬ (m.get h).isSome = true) : stepM m (.alone h) = m := if_neg hr
theorem step_fold (s : PSt) (r : Rw) : (foldS s r).menders = stepM s.menders r := by
  unfold foldS
  cases r with
  | mend h g =>
    by_cases hr : ∃ l, Rd s.menders g l ∧ h ∈ l
    · rw [word_ring hr, if_neg (show ¬ ("ring" : Str) = "done" by decide +kernel), step_ring hr]
    · rw [word_mend hr, if_pos rfl, step_put hr]
      rfl
  | alone h =>
    have hw : wordOf s (.alone h) = (if (s.menders.get h).isSome = true then ("done" : Str) else ("none" : Str)) := rfl
    rw [hw]
    by_cases hs : (s.menders.get h).isSome = true
    · rw [if_pos hs, if_pos rfl, step_drop hs]
      rfl
    · rw [if_neg hs, if_neg (show ¬ ("none" : Str) = "done" by decide +kernel), step_keep hs]
  | part l ps => split <;> rfl
  | join ls l => split <;> rfl
  | forfeit l g => split <;> rfl
  | measure f i => split <;> rfl
  | breach f i c z => split <;> rfl
  | view f i g => split <;> rfl
theorem mnd_fold : ∀ (s : PSt) (rs : List Rw), (foldL s rs).menders = mndL s.menders rs
  | s, [] => rfl
  | s, r :: rs => by
    show (foldL (foldS s r) rs).menders = mndL (stepM s.menders r) rs
    rw [mnd_fold, step_fold]
theorem step_acy {m : AL Str} {r : Rw} (h : Acy m) : Acy (stepM m r) := by
  cases r with
  | mend a g =>
    by_cases hr : ∃ l, Rd m g l ∧ a ∈ l
    · rw [step_ring hr]; exact h
    · rw [step_put hr]
      obtain ⟨l, hl⟩ := h g
      exact h.put hl fun hm => hr ⟨l, hl, hm⟩
  | alone a =>
    by_cases hs : (m.get a).isSome = true
    · rw [step_drop hs]; exact h.drop
    · rw [step_keep hs]; exact h
  | _ => exact h
theorem step_len {m : AL Str} {r : Rw} : (stepM m r).length ≤ m.length + 1 := by
  cases r with
  | mend a g =>
    by_cases hr : ∃ l, Rd m g l ∧ a ∈ l
    · rw [step_ring hr]; exact Nat.le_succ _
    · rw [step_put hr]; exact put_len m a g
  | alone a =>
    by_cases hs : (m.get a).isSome = true
    · rw [step_drop hs]; exact Nat.le_trans (drop_len m a) (Nat.le_succ _)
    · rw [step_keep hs]; exact Nat.le_succ _
  | _ => exact Nat.le_succ _
theorem mnd_inv : ∀ (rs : List Rw), Acy (mndL [] rs) ∧ (mndL [] rs).length ≤ rs.length := by
  refine snoc_ind ⟨acy_nil, Nat.le_refl _⟩ fun a x ih => ?_
  have e : mndL [] (a ++ [x]) = stepM (mndL [] a) x := by unfold mndL; rw [List.foldl_append]; rfl
  rw [e, List.length_append]
  exact ⟨step_acy ih.1, by have := step_len (m := mndL [] a) (r := x); have := ih.2; simp only [List.length_cons, List.length_nil]; omega⟩
theorem stOf_mnd (xs : List Fd) (rs : List Rx) : (stOf xs rs).menders = mndL [] (rws rs) := mnd_fold _ _
theorem wmenders_spec {rs : List Rx} (hl : rs.length ≤ 100) {S : Sto} {Q : DK} (q : ∀ (c : Addr) (S' : Sto), S c = none → Gr S S' → S' c = some (.dk (al DL.D.str (mndL [] (rws rs)))) → Q (.ref c) S') : m_wmenders [.tup (rs.map Rx.D)] S Q := by
  rw [e_wmenders]
  refine seq_i ?_
  simp_arith []
  intro c hc
  have g0 : Gr S (updS S c (.dk [])) := .new hc
  have ec : updS S c (.dk []) c = some (.dk (al DL.D.str (mndL [] (rws (rs.take 0))))) := updS_same
  generalize updS S c (.dk []) = S0 at g0 ec
  unfold t_wmenders_2
  refine seq_i ?_
  simp_arith []
  refine forL_inv _ (fun i σ S' => ∃ u2, σ = [some (.tup (rs.map Rx.D)), some (.ref c), u2] ∧ Gr S S' ∧ S' c = some (.dk (al DL.D.str (mndL [] (rws (rs.take i)))))) (fun _ _ _ _ => trivial) (fun i x σ S' N hxi hJ hN => ?turn) (fun σ S' hJ => ?fin) ⟨none, rfl, g0, ec⟩
  case fin =>
    obtain ⟨u2, rfl, g1, e1⟩ := hJ
    rw [List.length_map, List.take_of_length_le (Nat.le_refl _)] at e1
    simp_arith [t_wmenders_7]
    exact q c S' hc g1 e1
  case turn =>
    obtain ⟨u2, rfl, g1, e1⟩ := hJ
    have hi' := (List.getElem?_eq_some_iff.mp hxi).1
    rw [List.length_map] at hi'
    rw [List.getElem?_map, List.getElem?_eq_getElem hi'] at hxi
    injection hxi with hxi
    subst hxi
    have es : mndL [] (rws (rs.take (i + 1))) = stepM (mndL [] (rws (rs.take i))) rs[i].r := by
      unfold mndL rws
      rw [List.take_add_one, List.getElem?_eq_getElem hi', Option.toList_some, List.map_append, List.foldl_append]
      rfl
    obtain ⟨ac, ml⟩ := mnd_inv (rws (rs.take i))
    rw [rws_len, List.length_take] at ml
    rw [es] at hN
    have hml : (mndL [] (rws (rs.take i))).length ≤ 100 := by omega
    generalize mndL [] (rws (rs.take i)) = m at e1 hN ac hml
    generalize rs[i] = x at hN
    obtain ⟨r, n, d⟩ := x
    rw [show Rx.D ⟨r, n, d⟩ = rowD r.w n d r.rest from rfl]
    have put : ∀ (S2 : Sto) (o : O), Gr S S2 → Gr S (updS S2 c o) := fun S2 o g b u hb => by
      rw [updS_ne (fun z => by rw [z, hc] at hb; cases hb)]
      exact g _ _ hb
    -- the second test, at a row that is no alone
    have rest : ∀ (w : Str) (rr : List DL.D) (S2 : Sto) (m2 : AL Str) (bk : DL.Env → Sto → Prop), w ≠ "alone" → Gr S S2 → S2 c = some (.dk (al DL.D.str m2)) → (∀ u2, N [some (.tup (rs.map Rx.D)), some (.ref c), u2] S2) → t_wmenders_5 ⟨N, Q, bk, N⟩ [some (.tup (rs.map Rx.D)), some (.ref c), some (rowD w n d rr)] S2 := by
      intro w rr S2 m2 bk hw g2 e2 k
      simp_arith [t_wmenders_5]
      refine ⟨_, atI_nat (j := 0) rfl, ?_⟩
      simp_arith []
      rw [if_neg hw]
      exact k _
    have nomend : ∀ (w : Str) (rr : List DL.D) (bk : DL.Env → Sto → Prop), w ≠ "mend" → t_wmenders_5 ⟨N, Q, bk, N⟩ [some (.tup (rs.map Rx.D)), some (.ref c), some (rowD w n d rr)] S' → l_wmenders_2 ⟨N, Q, bk, N⟩ [some (.tup (rs.map Rx.D)), some (.ref c), some (rowD w n d rr)] S' := by
      intro w rr bk hw k
      unfold l_wmenders_2
      refine seq_i ?_
      simp_arith []
      refine ⟨_, atI_nat (j := 0) rfl, ?_⟩
      simp_arith []
      rw [if_neg hw]
      exact k
    simp_arith []
    cases r with
    | mend h g =>
      rw [show rowD (Rw.mend h g).w n d (Rw.mend h g).rest = rowD "mend" n d [.str h, .str g] from rfl]
      unfold l_wmenders_2
      refine seq_i ?_
      simp_arith []
      refine ⟨_, atI_nat (j := 0) rfl, ?_⟩
      simp_arith []
      refine ⟨_, atI_nat (j := 3) rfl, _, atI_nat (j := 4) rfl, ?_⟩
      obtain ⟨l, hl⟩ := ac g
      have hll : l.length < sizeLine := Nat.lt_of_le_of_lt hl.len (Nat.lt_of_le_of_lt (show _ ≤ 2000 by omega) (by decide))
      refine wroad_spec hl hll e1 fun p S2 hp g2 e2 => ?_
      rw [gIn_r, e2, oIn_l]
      refine ⟨rfl, all_flat l, ?_⟩
      rw [any_eqF]
      simp_arith []
      by_cases hm : h ∈ l
      · rw [decide_eq_true hm]
        have e : stepM m (.mend h g) = m := step_ring ⟨l, hl, hm⟩
        rw [e] at hN
        simp_arith []
        exact rest "mend" _ S2 m _ (by decide +kernel) (g1.trans g2) (g2 _ _ e1) fun u2 => hN _ _ ⟨_, rfl, g1.trans g2, g2 _ _ e1⟩
      · rw [decide_eq_false hm]
        have e : stepM m (.mend h g) = m.put h g := step_put (fun ⟨l2, h2, h3⟩ => hm (by rw [hl.det h2]; exact h3))
        rw [e] at hN
        simp_arith []
        refine ⟨_, atI_nat (j := 4) rfl, _, atI_nat (j := 3) rfl, ?_⟩
        rw [g2 _ _ e1, oPut_ds]
        refine ⟨sh_al hml (by omega), ?_⟩
        rw [show putD (al DL.D.str m) (Sum.inr h) (.str g) = al DL.D.str (m.put h g) from put_al (f := DL.D.str) _ _ g]
        exact rest "mend" _ _ (m.put h g) _ (by decide +kernel) (put _ _ (g1.trans g2)) updS_same fun u2 => hN _ _ ⟨_, rfl, put _ _ (g1.trans g2), updS_same⟩
    | alone h =>
      rw [show rowD (Rw.alone h).w n d (Rw.alone h).rest = rowD "alone" n d [.str h] from rfl]
      refine nomend _ _ _ (by decide +kernel) ?_
      simp_arith [t_wmenders_5]
      refine ⟨_, atI_nat (j := 0) rfl, ?_⟩
      simp_arith []
      refine ⟨_, atI_nat (j := 3) rfl, ?_⟩
      simp_arith [e1]
      rw [has_al]
      by_cases hs : (m.get h).isSome = true
      · have e : stepM m (.alone h) = m.drop h := step_drop hs
        rw [e] at hN
        rw [hs, if_pos rfl]
        obtain ⟨v, hv⟩ := Option.isSome_iff_exists.mp hs
        refine ⟨_, atI_nat (j := 3) rfl, _, kS h, .str v, e1, rfl, by rw [val_al, hv]; rfl, ?_⟩
        rw [drop_al]
        exact hN _ _ ⟨_, rfl, put _ _ g1, updS_same⟩
      · have e : stepM m (.alone h) = m := step_keep hs
        rw [e] at hN
        rw [if_neg hs]
        exact hN _ _ ⟨_, rfl, g1, e1⟩
    | part l ps => exact nomend _ _ _ (by show ("part" : Str) ≠ "mend"; decide +kernel) (rest _ _ _ m _ (by show ("part" : Str) ≠ "alone"; decide +kernel) g1 e1 fun u2 => hN _ _ ⟨_, rfl, g1, e1⟩)
    | join ls l => exact nomend _ _ _ (by show ("join" : Str) ≠ "mend"; decide +kernel) (rest _ _ _ m _ (by show ("join" : Str) ≠ "alone"; decide +kernel) g1 e1 fun u2 => hN _ _ ⟨_, rfl, g1, e1⟩)
    | forfeit l g => exact nomend _ _ _ (by show ("forfeit" : Str) ≠ "mend"; decide +kernel) (rest _ _ _ m _ (by show ("forfeit" : Str) ≠ "alone"; decide +kernel) g1 e1 fun u2 => hN _ _ ⟨_, rfl, g1, e1⟩)
    | measure f i => exact nomend _ _ _ (by show ("measure" : Str) ≠ "mend"; decide +kernel) (rest _ _ _ m _ (by show ("measure" : Str) ≠ "alone"; decide +kernel) g1 e1 fun u2 => hN _ _ ⟨_, rfl, g1, e1⟩)
    | breach f i a b => exact nomend _ _ _ (by show ("breach" : Str) ≠ "mend"; decide +kernel) (rest _ _ _ m _ (by show ("breach" : Str) ≠ "alone"; decide +kernel) g1 e1 fun u2 => hN _ _ ⟨_, rfl, g1, e1⟩)
    | view f i g => exact nomend _ _ _ (by show ("view" : Str) ≠ "mend"; decide +kernel) (rest _ _ _ m _ (by show ("view" : Str) ≠ "alone"; decide +kernel) g1 e1 fun u2 => hN _ _ ⟨_, rfl, g1, e1⟩)
end LW
namespace LW
open PySem L2 DL
/-- a mend or alone -/
structure Mr where
  n : Str
  d : Int
  h : Str
  g : Option Str
def Mr.r (x : Mr) : Rw := match x.g with
  | some g => .mend x.h g
  | none => .alone x.h
def Mr.D (x : Mr) : DL.D := match x.g with
  | some g => .tup [.str "mend", .str x.n, .int x.d, .str x.h, .str g]
  | none => .tup [.str "alone", .str x.n, .int x.d, .str x.h]
def Mr.P (x : Mr) : PyData := match x.g with
  | some g => .tuple [.str "mend", .str x.n, .int x.d, .str x.h, .str g]
  | none => .tuple [.str "alone", .str x.n, .int x.d, .str x.h]
def Mr.w (x : Mr) : Str := match x.g with
  | some _ => "mend"
  | none => "alone"
def Mr.z (x : Mr) : List DL.D := match x.g with
  | some g => [.str x.h, .str g]
  | none => [.str x.h]
theorem cutL_fr (ds : List DL.D) (n : Nat) : cutL ds (some (n : Int)) none = ds.drop n := by
  unfold cutL
  rw [HT.sIx_none, show HT.sIx ds.length 0 (some (n : Int)) = min n ds.length from HT.sIx_nat _ _ n]
  by_cases h : n ≤ ds.length
  · rw [Nat.min_eq_left h, List.take_of_length_le (by rw [List.length_drop]; omega)]
  · rw [Nat.min_eq_right (by omega), List.drop_of_length_le (Nat.le_refl _), List.drop_of_length_le (by omega), List.take_nil]
structure Mr.ok (x : Mr) : Prop where
  h : Nm x.h
  g : ∀ z, x.g = some z → Nm z ∧ x.h ≠ z
theorem Mr.row {x : Mr} (k : x.ok) : RowOk x.n x.d x.r.w x.D := by
  obtain ⟨n, d, h, g⟩ := x
  cases g with
  | some g => exact .mend k.h (k.g _ rfl).1 (k.g _ rfl).2
  | none => exact .alone k.h
theorem mr_pd {S : Sto} (x : Mr) : PD S x.D x.P := by
  obtain ⟨n, d, h, g⟩ := x
  cases g with
  | some g => exact .tup (.cons (.str _) (.cons (.str _) (.cons (.int _) (.cons (.str _) (.cons (.str _) .nil)))))
  | none => exact .tup (.cons (.str _) (.cons (.str _) (.cons (.int _) (.cons (.str _) .nil))))
theorem mr_depth (ms : List Mr) : (PyData.list (ms.map Mr.P)).depth ≤ 64 := by
  have : PyData.depthAll (ms.map Mr.P) ≤ 1 := by
    induction ms with
    | nil => decide
    | cons x r ih =>
      obtain ⟨n, d, h, g⟩ := x
      rw [List.map_cons, PyData.depthAll]
      refine Nat.max_le.mpr ⟨?_, ih⟩
      cases g <;> exact Nat.le_refl _
  unfold PyData.depth
  omega
theorem past_nil {f : Bool → Bool} {a c : Addr} {ms : List Mr} {S : Sto} {Q : DK} (h1 : S a = some (.lst (ms.map Mr.D))) (h2 : S c = some (.lst [])) (hq : Q (.bl (f ms.isEmpty)) S) : gEq f (.ref a) (.ref c) S Q := by
  refine eq_nil (ps := ms.map Mr.P) h1 h2 (pds_map mr_pd ms) (mr_depth ms) ?_
  rw [List.isEmpty_map]
  exact hq
theorem wmend_row_spec {p pc ho pa : Addr} {b : Nat} {n : Str} {d : Int} {hs : List Str} {ms : List Mr} {S : Sto} {Q : DK} (h : Pen S p pc b) (hb : b + 20 ≤ 100000) (th : Txs S p ho hs) (hl : 2 ≤ hs.length ∧ hs.length ≤ 50) (ep : S pa = some (.lst (ms.map Mr.D))) (npa : pa ≠ p) (hm : ∀ x ∈ ms, x.ok)
    (q : ∀ x S', x.ok → x.n = n → x.d = d → Pen S' p pc (b + 3) → Kp p S S' → Q (Mr.D x) S') : m_wmend_row [.ref p, .str n, .int d, .ref ho, .ref pa] S Q := by
  rw [e_wmend_row]
  refine seq_i ?_
  simp_arith [th.at_, List.length_map]
  refine take_spec h (by omega) (by omega) (log_small (by omega) (by omega)) fun j1 S1 a1 b1 p1 g1 => ?_
  unfold t_wmend_row_2
  refine seq_i ?_
  simp_arith [(th.kp g1).at_]
  obtain ⟨one, eone, hone, hat⟩ := get_str2 (zs := hs) a1 (by omega)
  refine ⟨_, eone, ?_⟩
  unfold t_wmend_row_3
  refine seq_i ?_
  simp_arith [(th.kp g1).at_, List.length_map]
  refine take_spec p1 (by omega) (by omega) (log_small (by omega) (by omega)) fun j2 S2 a2 b2 p2 g2 => ?_
  have g2' := g1.trans g2
  simp_arith [(th.kp g2').at_, List.length_map]
  obtain ⟨oth, eoth, hoth, hne⟩ := other_house (j := j2) hat th.ok.nd hl a2 (by omega)
  refine ⟨by omega, _, eoth, ?_⟩
  unfold t_wmend_row_4
  refine seq_i ?_
  simp_arith []
  refine take_spec p2 (by omega) (by decide) (by decide) fun way S3 a3 b3 p3 g3 => ?_
  have g3' := g2'.trans g3
  have ep3 := g3' _ _ npa ep
  have nm := th.ok.nm
  unfold t_wmend_row_5
  refine seq_i ?_
  simp_arith []
  by_cases w0 : way = 0
  · rw [if_pos w0]
    exact ⟨by decide, q ⟨n, d, one, none⟩ _ ⟨nm _ hone, fun _ h => by cases h⟩ rfl rfl p3 g3'⟩
  rw [if_neg w0]
  -- the last test
  have t13 : ∀ S4, Pen S4 p pc (b + 3) → Kp p S S4 → t_wmend_row_13 ⟨fun _ S' => Q .non S', Q, fun _ _ => False, fun _ _ => False⟩ [some (.ref p), some (.str n), some (.int d), some (.ref ho), some (.ref pa), some (.int j1), some (.str one), some (.str oth), some (.int way)] S4 := by
    intro S4 p4 k4
    simp_arith [t_wmend_row_13]
    exact ⟨by decide, q ⟨n, d, one, some oth⟩ _ ⟨nm _ hone, fun z h => by cases h; exact ⟨nm _ hoth, hne⟩⟩ rfl rfl p4 k4⟩
  have t11 : ∀ S4, Pen S4 p pc (b + 3) → Kp p S S4 → t_wmend_row_11 ⟨fun _ S' => Q .non S', Q, fun _ _ => False, fun _ _ => False⟩ [some (.ref p), some (.str n), some (.int d), some (.ref ho), some (.ref pa), some (.int j1), some (.str one), some (.str oth), some (.int way)] S4 := by
    intro S4 p4 k4
    unfold t_wmend_row_11
    refine seq_i ?_
    simp_arith []
    by_cases w5 : way = 5
    · rw [if_pos w5]
      refine ⟨by decide, fun c hc => ?_⟩
      have e5 : updS S4 c (.lst []) pa = some (.lst (ms.map Mr.D)) := (Kp.new (p := p) hc) _ _ npa (k4 _ _ npa ep)
      refine past_nil e5 updS_same ?_
      have p5 := p4.new (o := .lst []) hc
      have k5 : Kp p S (updS S4 c (.lst [])) := k4.trans (.new hc)
      generalize updS S4 c (.lst []) = S5 at e5 p5 k5
      cases e : ms.getLast? with
      | none =>
        have : ms = [] := List.getLast?_eq_none_iff.mp e
        subst this
        simp_arith [List.isEmpty_nil]
        exact t13 _ p5 k5
      | some y =>
        have hy := hm y (List.mem_of_getLast? e)
        have hne : ms.isEmpty = false := by cases ms <;> first | rfl | cases e
        rw [hne]
        simp_arith [e5]
        have hat := at_last (l := y.D) (by rw [List.getLast?_map, e]; rfl)
        refine ⟨_, hat, ?_⟩
        have h1 : ∀ (K : DK), K (.tup [.str y.w]) S5 → gSl y.D none (some 1) S5 K := fun K k => by
          obtain ⟨yn, yd, yh, yg⟩ := y
          cases yg <;> (show K (.tup (cutL _ _ (some ((1 : Nat) : Int)))) S5; rw [cutL_to]; exact k)
        have h3 : ∀ (K : DK), K (.tup y.z) S5 → gSl y.D (some 3) none S5 K := fun K k => by
          obtain ⟨yn, yd, yh, yg⟩ := y
          cases yg <;> (show K (.tup (cutL _ (some ((3 : Nat) : Int)) none)) S5; rw [cutL_fr]; exact k)
        refine h1 _ ⟨by decide, ?_⟩
        simp_arith [e5]
        refine ⟨by decide, _, hat, h3 _ ?_⟩
        simp_arith []
        have := q ⟨n, d, y.h, y.g⟩ S5 ⟨hy.h, hy.g⟩ rfl rfl p5 k5
        obtain ⟨yn, yd, yh, yg⟩ := y
        cases yg
        · exact ⟨by show 4 ≤ sizeLine; decide, this⟩
        · exact ⟨by show 5 ≤ sizeLine; decide, this⟩
    · rw [if_neg w5]
      exact t13 _ p4 k4
  have t9 : ∀ S4, Pen S4 p pc (b + 3) → Kp p S S4 → t_wmend_row_9 ⟨fun _ S' => Q .non S', Q, fun _ _ => False, fun _ _ => False⟩ [some (.ref p), some (.str n), some (.int d), some (.ref ho), some (.ref pa), some (.int j1), some (.str one), some (.str oth), some (.int way)] S4 := by
    intro S4 p4 k4
    unfold t_wmend_row_9
    refine seq_i ?_
    simp_arith []
    by_cases w4 : way = 4
    · rw [if_pos w4]
      refine ⟨by decide, fun c hc => ?_⟩
      have e5 : updS S4 c (.lst []) pa = some (.lst (ms.map Mr.D)) := (Kp.new (p := p) hc) _ _ npa (k4 _ _ npa ep)
      refine past_nil e5 updS_same ?_
      have p5 := p4.new (o := .lst []) hc
      have k5 : Kp p S (updS S4 c (.lst [])) := k4.trans (.new hc)
      generalize updS S4 c (.lst []) = S5 at e5 p5 k5
      cases e : ms.getLast? with
      | none =>
        have : ms = [] := List.getLast?_eq_none_iff.mp e
        subst this
        simp_arith [List.isEmpty_nil]
        exact t11 _ p5 k5
      | some y =>
        have hy := hm y (List.mem_of_getLast? e)
        have hne : ms.isEmpty = false := by cases ms <;> first | rfl | cases e
        rw [hne]
        simp_arith [e5]
        have hat := at_last (l := y.D) (by rw [List.getLast?_map, e]; rfl)
        refine ⟨_, hat, ?_⟩
        have h3 : ∀ (K : DK), K (.str y.h) S5 → gIx y.D (.int 3) S5 K := fun K k => by
          obtain ⟨yn, yd, yh, yg⟩ := y
          cases yg <;> exact ⟨_, atI_nat (j := 3) rfl, k⟩
        refine h3 _ ?_
        simp_arith []
        by_cases hh : y.h = one
        · rw [decide_eq_true hh, if_neg (by decide)]
          exact t11 _ p5 k5
        · rw [decide_eq_false hh, if_pos (by decide)]
          simp_arith [e5]
          refine ⟨_, hat, h3 _ ?_⟩
          exact ⟨by decide, q ⟨n, d, one, some y.h⟩ _ ⟨nm _ hone, fun z h => by cases h; exact ⟨hy.h, fun z => hh z.symm⟩⟩ rfl rfl p5 k5⟩
    · rw [if_neg w4]
      exact t11 _ p4 k4
  unfold t_wmend_row_7
  refine seq_i ?_
  simp_arith []
  by_cases w7 : way < 4
  · rw [if_pos w7]
    refine ⟨by decide, fun c hc => ?_⟩
    have e5 : updS S3 c (.lst []) pa = some (.lst (ms.map Mr.D)) := (Kp.new (p := p) hc) _ _ npa (g3' _ _ npa ep)
    refine past_nil e5 updS_same ?_
    have p5 := p3.new (o := .lst []) hc
    have k5 : Kp p S (updS S3 c (.lst [])) := g3'.trans (.new hc)
    generalize updS S3 c (.lst []) = S5 at e5 p5 k5
    cases e : ms.getLast? with
    | none =>
      have : ms = [] := List.getLast?_eq_none_iff.mp e
      subst this
      simp_arith [List.isEmpty_nil]
      exact t9 _ p5 k5
    | some y =>
      have hy := hm y (List.mem_of_getLast? e)
      have hne : ms.isEmpty = false := by cases ms <;> first | rfl | cases e
      rw [hne]
      simp_arith [e5]
      have hat := at_last (l := y.D) (by rw [List.getLast?_map, e]; rfl)
      refine ⟨_, hat, ?_⟩
      obtain ⟨yn, yd, yh, yg⟩ := y
      cases yg with
      | none =>
        refine ⟨_, atI_nat (j := 0) rfl, ?_⟩
        simp_arith []
        exact t9 _ p5 k5
      | some g =>
        refine ⟨_, atI_nat (j := 0) rfl, ?_⟩
        simp_arith [e5]
        refine ⟨_, hat, _, atI_nat (j := 4) rfl, ?_⟩
        simp_arith []
        by_cases hh : g = oth
        · rw [decide_eq_true hh, if_neg (by decide)]
          exact t9 _ p5 k5
        · rw [decide_eq_false hh, if_pos (by decide)]
          simp_arith [e5]
          refine ⟨_, hat, _, atI_nat (j := 4) rfl, ?_⟩
          exact ⟨by decide, q ⟨n, d, g, some oth⟩ _ ⟨(hy.g _ rfl).1, fun z h => by cases h; exact ⟨nm _ hoth, hh⟩⟩ rfl rfl p5 k5⟩
  · rw [if_neg w7]
    exact t9 _ p3 g3'
end LW
namespace LW
open PySem L2 DL
/-- a roll whose rows are neat -/
def rollN (xs : List Fd) (rs : List Rx) : DL.D := .tup [.tup (xs.map Fd.D), .nt (rs.map Rx.D)]
theorem wk_fd (x : Fd) : wkD x.D = x.D := by
  unfold Fd.D
  rw [wkD_t, wkDs_c, wkDs_c, wkDs_c, wkDs_c, wkDs_n, wkD_s, wkD_s, wkD_i, wkD_i]
theorem wk_pt (x : Pt) : wkD x.D = x.D := by
  unfold Pt.D
  rw [wkD_t, wkDs_c, wkDs_c, wkDs_c, wkDs_n, wkD_s, wkD_s, wkD_i]
theorem wk_rx (x : Rx) : wkD x.D = x.D := by
  obtain ⟨r, n, d⟩ := x
  show wkD (.tup (.str r.w :: .str n :: .int d :: r.rest)) = .tup (.str r.w :: .str n :: .int d :: r.rest)
  rw [wkD_t, wkDs_c, wkDs_c, wkDs_c, wkD_s, wkD_s, wkD_i]
  cases r <;> unfold Rw.rest <;> simp only [wkDs_c, wkDs_n, wkD_s, wkD_i, wkD_t, wkDs_strs, wkDs_map wk_pt]
theorem wk_rollN (xs : List Fd) (rs : List Rx) : wkD (rollN xs rs) = rollX xs rs := by
  unfold rollN
  rw [wkD_t, wkDs_c, wkDs_c, wkDs_n, wkD_t, wkD_nt, wkDs_map wk_fd, wkDs_map wk_rx]
  rfl
theorem list_ex {α β : Type} {P : β → Prop} {f : β → α} : ∀ (L : List α), (∀ x ∈ L, ∃ y, f y = x ∧ P y) → ∃ l : List β, L = l.map f ∧ ∀ y ∈ l, P y
  | [], _ => ⟨[], rfl, fun _ h => by cases h⟩
  | x :: r, h => by
    obtain ⟨l, e, hl⟩ := list_ex r fun y hy => h y (List.mem_cons_of_mem _ hy)
    obtain ⟨y, ey, hy⟩ := h x (List.mem_cons_self ..)
    refine ⟨y :: l, by rw [List.map_cons, ey, e], fun z hz => ?_⟩
    rcases List.mem_cons.mp hz with rfl | hz
    · exact hy
    · exact hl z hz
def nmD : DL.D → Str := fun x => match x with
  | .tup (_ :: .str n :: _) => n
  | _ => ""
theorem nmD_ro {r : Ro} (h : r.ok) : nmD r.R = r.n := by
  obtain ⟨_, rest, e, _⟩ := row_shape h.row
  rw [e]; rfl
theorem rxs_of {fs : List Str} {rows : List Ro} (ok : ∀ r ∈ rows, r.ok ∧ FIn (· ∈ fs) r.w r.R) (nd : (rows.map Ro.n).Nodup) : ∃ rs : List Rx, srt rows = rs.map Rx.D ∧ (∀ x ∈ rs, x.r.ok fs ∧ Nm x.n) ∧ rs.length = rows.length ∧ (rs.map (·.n)).Nodup := by
  obtain ⟨rs, e, h⟩ := list_ex (P := fun x : Rx => x.r.ok fs ∧ Nm x.n) (f := Rx.D) (srt rows) fun x hx => by
    obtain ⟨r, hr, rfl⟩ := List.mem_map.mp ((List.mergeSort_perm ..).mem_iff.mp hx)
    obtain ⟨k, F⟩ := ok r hr
    obtain ⟨y, _, e, hy⟩ := rw_of k.row F
    exact ⟨⟨y, r.n, r.d⟩, e.symm, hy, by obtain ⟨nk, _, _, _⟩ := k; exact nk⟩
  refine ⟨rs, e, h, ?_, ?_⟩
  · have := congrArg List.length e
    rw [srt, List.length_mergeSort, List.length_map, List.length_map] at this
    exact this.symm
  · have h1 : (srt rows).map nmD = rs.map (·.n) := by rw [e, List.map_map]; rfl
    have h2 : (rows.map Ro.R).map nmD = rows.map Ro.n := by
      rw [List.map_map]
      exact List.map_congr_left fun r hr => nmD_ro (ok r hr).1
    rw [← h1]
    exact (((List.mergeSort_perm ..).map nmD).nodup_iff).mpr (by rw [h2]; exact nd)
theorem mr_fin {fs : List Str} {x : Mr} : FIn (· ∈ fs) x.r.w x.D := by
  obtain ⟨n, d, h, g⟩ := x
  cases g with
  | some g => exact fun hw => absurd hw (by show ¬ (("mend" : Str) ∈ _); decide +kernel)
  | none => exact fun hw => absurd hw (by show ¬ (("alone" : Str) ∈ _); decide +kernel)
theorem line_k {n : Nat} (h : n ≤ 4000) : n < sizeLine := Nat.lt_of_lt_of_le (show n < 4001 by omega) (by decide)
theorem fr_kp {p : Addr} {S S' : Sto} (k : Kp p S S') {c : Addr} (hcp : c ≠ p) (e : S' c = none) : S c = none := by
  cases e2 : S c with
  | none => rfl
  | some o => rw [k _ _ hcp e2] at e; cases e
theorem pick3 {p pc : Addr} {b : Nat} {x y z way : Int} {S : Sto} {K : DK} (h : Pen S p pc b) (w0 : 0 ≤ way) (w1 : way < 3) (q : ∀ v S', v = x ∨ v = y ∨ v = z → Pen S' p pc b → Kp p S S' → K (.int v) S') :
    ∀ c, S c = none → oIx (updS S c (.lst [.int x, .int y, .int z]) c) (.int way) (updS S c (.lst [.int x, .int y, .int z])) K := by
  intro c hc
  rw [updS_same, oIx_li]
  have : way = 0 ∨ way = 1 ∨ way = 2 := by omega
  rcases this with rfl | rfl | rfl
  · exact ⟨_, atI_nat (j := 0) rfl, q _ _ (.inl rfl) (h.new hc) (.new hc)⟩
  · exact ⟨_, atI_nat (j := 1) rfl, q _ _ (.inr (.inl rfl)) (h.new hc) (.new hc)⟩
  · exact ⟨_, atI_nat (j := 2) rfl, q _ _ (.inr (.inr rfl)) (h.new hc) (.new hc)⟩
theorem Pen.putX {p pc f : Addr} {S : Sto} {o : O} {b : Nat} (h : Pen S p pc b) (h1 : f ≠ p) (h2 : f ≠ pc) : Pen (updS S f o) p pc b := by
  obtain ⟨ns, y, l2, e1, e3, e4⟩ := h.ex
  exact ⟨ns, y, l2, by rw [updS_ne (Ne.symm h1)]; exact e1, by rw [updS_ne (Ne.symm h2)]; exact e3, e4⟩
theorem wsome_rows_spec {p pc f pl ho na : Addr} {b many : Nat} {fs ps hs ns : List Str} {S : Sto} {Q : DK} (h : Pen S p pc b) (hb : b + 5000 ≤ 100000) (tf : Txs S p f fs) (tp : Txs S p pl ps) (th : Txs S p ho hs) (tn : Txs S p na ns) (hf : 0 < fs.length) (hf2 : fs.length ≤ 10) (hp : ps.length = 10) (hl : 2 ≤ hs.length ∧ hs.length ≤ 50) (hn : many ≤ ns.length) (hm : many ≤ 44)
    (q : ∀ (rs : List Rx) S', (∀ x ∈ rs, x.r.ok fs ∧ Nm x.n) → (rs.map (·.n)).Nodup → rs.length = many → Pen S' p pc (b + 4900) → Kp p S S' → Q (.nt (rs.map Rx.D)) S') : m_wsome_rows [.ref p, .ref na, .tup [.ref f, .ref pl, .ref ho], .int (many : Nat)] S Q := by
  rw [e_wsome_rows]
  refine seq_i ?_
  simp_arith! []
  refine take_spec h (by omega) (by decide) (by decide) fun way S1 a1 b1 p1 g1 => ?_
  have b1 : way < 3 := b1
  unfold t_wsome_rows_2
  refine seq_i ?_
  simp_arith! []
  refine wdays_spec (n := many) p1 (by omega) hm fun da ds S2 td hdl p2 g2 => ?_
  unfold t_wsome_rows_3
  refine seq_i ?_
  simp_arith! []
  refine ⟨by decide, fun rl hrl => ?_⟩
  have nrl := p2.ne hrl
  have er : updS S2 rl (.lst []) rl = some (.lst ([].map Ro.R)) := updS_same
  have k3 : Kp p S (updS S2 rl (.lst [])) := g1.trans (g2.trans (.new hrl))
  have td3 : Dys (updS S2 rl (.lst [])) p da ds := td.kp (.new hrl)
  have p3 := p2.new (o := .lst []) hrl
  have frS : S rl = none := fr_kp (g1.trans g2) nrl.1 hrl
  have nda : da ≠ rl := neS td.at_ hrl
  generalize updS S2 rl (.lst []) = S3 at er k3 p3 td3
  unfold t_wsome_rows_4
  refine seq_i ?_
  simp_arith! []
  refine ⟨by decide, fun pa hpa => ?_⟩
  have npa := p3.ne hpa
  have ep : updS S3 pa (.lst []) pa = some (.lst ([].map Mr.D)) := updS_same
  have k4 : Kp p S (updS S3 pa (.lst [])) := k3.trans (.new hpa)
  have nrp : rl ≠ pa := neS er hpa
  have er4 : updS S3 pa (.lst []) rl = some (.lst ([].map Ro.R)) := by rw [updS_ne nrp]; exact er
  have td4 : Dys (updS S3 pa (.lst [])) p da ds := td3.kp (.new hpa)
  have p4 := p3.new (o := .lst []) hpa
  have frP : S pa = none := fr_kp k3 npa.1 hpa
  have ndp : da ≠ pa := neS td3.at_ hpa
  generalize updS S3 pa (.lst []) = S4 at er4 ep k4 p4 td4
  unfold t_wsome_rows_5
  refine seq_i ?_
  simp_arith! []
  refine ⟨by omega, by omega, ?_⟩
  rw [Int.toNat_natCast]
  refine forR_inv 0 many (fun i σ S' => (∃ u8 u9, σ = [some (.ref p), some (.ref na), some (.tup [.ref f, .ref pl, .ref ho]), some (.int (many : Nat)), some (.int way), some (.ref da), some (.ref rl), some (.ref pa), u8, u9]) ∧ Pen S' p pc (b + 200 + 100 * i) ∧ Kp p S S' ∧ Dys S' p da ds ∧ (∃ rs : List Ro, S' rl = some (.lst (rs.map Ro.R)) ∧ rs.length = i ∧ (∀ r ∈ rs, r.ok ∧ FIn (· ∈ fs) r.w r.R) ∧ rs.map Ro.n = ns.take i) ∧ ∃ ms : List Mr, S' pa = some (.lst (ms.map Mr.D)) ∧ ms.length ≤ i ∧ ∀ x ∈ ms, x.ok)
    (fun _ _ _ _ => trivial) (fun i σ S' N hi hJ hN => ?turn) (fun σ S' hJ => ?fin) ⟨⟨_, _, rfl⟩, p4.mono (by omega), k4, td4, ⟨[], er4, rfl, (fun _ h => nomatch h), rfl⟩, [], ep, Nat.le_refl _, fun _ h => nomatch h⟩
  case fin =>
    obtain ⟨⟨u8, u9, rfl⟩, p5, k5, td5, ⟨rs, er5, hrl5, hok, hnm⟩, ms, ep5, hml, hmok⟩ := hJ
    simp_arith! [t_wsome_rows_12]
    refine ⟨_, er5, ?_⟩
    have hnd : (rs.map Ro.n).Nodup := by rw [hnm]; exact tn.ok.nd.sublist (List.take_sublist _ _)
    obtain ⟨rx, ex, hx, hxl, hxn⟩ := rxs_of hok hnd
    refine keyed_ro place_spec (fun r hr => (hok r hr).1) hnd (.refl _) fun n hn => ?_
    rw [ex]
    refine ⟨_, updS_same, ?_⟩
    exact q rx _ hx hxn (by omega) ((p5.new hn).mono (by omega)) (k5.trans (.new hn))
  case turn =>
    obtain ⟨⟨u8, u9, rfl⟩, p5, k5, td5, ⟨rs, er5, hrl5, hok, hnm⟩, ms, ep5, hml, hmok⟩ := hJ
    rw [Int.zero_add]
    simp_arith! [l_wsome_rows_5]
    refine seq_i ?_
    simp_arith! [td5.at_]
    have hdi : i < ds.length := by omega
    refine ⟨.int ds[i], atI_nat (by rw [List.getElem?_map, List.getElem?_eq_getElem hdi]; rfl), ?_⟩
    refine ⟨by decide, fun c hc => ?_⟩
    have hdi0 := td5.ok _ (List.getElem_mem hdi)
    refine pick3 p5 a1 b1 (fun day S6 hday p6 g6 => ?_) c hc
    have dok : 0 ≤ day ∧ day ≤ 9999 := by rcases hday with rfl | rfl | rfl <;> omega
    clear hday hdi0
    unfold t_wsome_rows_7
    simp_arith! []
    refine take_spec p6 (by omega) (by decide) (by decide) fun one S7 _ _ p7 g7 => ?_
    simp_arith! []
    have g67 := g6.trans g7
    have k7 := k5.trans g67
    have hni : i < ns.length := by omega
    have nok := tn.ok.nm _ (List.getElem_mem hni)
    have er7 := g67 _ _ nrl.1 er5
    have ep7 := g67 _ _ npa.1 ep5
    have td7 := td5.kp g67
    have hna : atI (ns.map D.str) (i : Nat) = some (.str ns[i]) := atI_nat (by rw [List.getElem?_map, List.getElem?_eq_getElem hni]; rfl)
    have enm : ∀ (w : Str) (R : DL.D), (rs ++ [(⟨w, ns[i], day, R⟩ : Ro)]).map Ro.n = ns.take (i + 1) := fun w R => by
      rw [List.map_append, hnm, List.take_add_one, List.getElem?_eq_getElem hni]
      rfl
    have put : ∀ (S8 : Sto) (w : Str) (R : DL.D), Kp p S S8 → Kp p S (updS S8 rl (.lst (rs.map Ro.R ++ [R]))) := fun S8 w R k a o hn e => by
      rw [updS_ne (neS e frS)]
      exact k a o hn e
    by_cases h1 : one = 0
    · rw [if_pos h1]
      simp_arith! [er7, (tn.kp k7).at_]
      refine ⟨_, hna, ?_⟩
      refine wrow_spec p7 (by omega) (tf.kp k7) (tp.kp k7) (th.kp k7) hf hf2 hp hl fun w R S8 hR hF p8 g8 => ?_
      have er8 := g8 _ _ nrl.1 er7
      refine ⟨_, er8, line_k (by rw [List.length_map]; omega), hN _ _ ⟨⟨_, _, rfl⟩, (p8.putX nrl.1 nrl.2).mono (by omega), put _ w R (k7.trans g8), ?_, ⟨rs ++ [⟨w, ns[i], day, R⟩], ?_, ?_, fun r hr => ?_, enm w R⟩, ms, ?_, by omega, hmok⟩⟩
      · have t8 := td7.kp g8
        exact ⟨by rw [updS_ne nda]; exact t8.at_, t8.ne, t8.ok⟩
      · rw [updS_same, List.map_append]; rfl
      · rw [List.length_append, hrl5]; rfl
      · rcases List.mem_append.mp hr with hr | hr
        · exact hok r hr
        · rw [List.mem_singleton] at hr
          subst hr
          exact ⟨⟨nok, dok.1, dok.2, hR⟩, hF⟩
      · rw [updS_ne (Ne.symm nrp)]
        exact g8 _ _ npa.1 ep7
    · rw [if_neg h1]
      refine seq_i ?_
      simp_arith! [ep7, (tn.kp k7).at_]
      refine ⟨_, hna, _, atI_nat (j := 2) rfl, ?_⟩
      refine wmend_row_spec p7 (by omega) (th.kp k7) hl ep7 npa.1 hmok fun x S8 hx xn xd p8 g8 => ?_
      have ep8 := g8 _ _ npa.1 ep7
      refine ⟨_, ep8, line_k (by rw [List.length_map]; omega), ?_⟩
      have k8 := k7.trans g8
      have k9 : Kp p S (updS S8 pa (.lst (ms.map Mr.D ++ [x.D]))) := fun a o hn e => by
        rw [updS_ne (neS e frP)]
        exact k8 a o hn e
      have er9 : updS S8 pa (.lst (ms.map Mr.D ++ [x.D])) rl = some (.lst (rs.map Ro.R)) := by rw [updS_ne nrp]; exact g8 _ _ nrl.1 er7
      have p9 : Pen (updS S8 pa (.lst (ms.map Mr.D ++ [x.D]))) p pc _ := p8.putX npa.1 npa.2
      have ep9 : updS S8 pa (.lst (ms.map Mr.D ++ [x.D])) pa = some (.lst ((ms ++ [x]).map Mr.D)) := by rw [updS_same, List.map_append]; rfl
      have td9 : Dys (updS S8 pa (.lst (ms.map Mr.D ++ [x.D]))) p da ds := by
        have t8 := td7.kp g8
        exact ⟨by rw [updS_ne ndp]; exact t8.at_, t8.ne, t8.ok⟩
      generalize updS S8 pa (.lst (ms.map Mr.D ++ [x.D])) = S9 at k9 er9 p9 ep9 td9
      simp_arith! [t_wsome_rows_11, er9, ep9]
      refine ⟨x.D, at_last (by rw [List.map_append, List.map_cons, List.map_nil, List.getLast?_concat]), ?_⟩
      refine ⟨_, rfl, line_k (by rw [List.length_map]; omega), hN _ _ ⟨⟨_, _, rfl⟩, (p9.putX nrl.1 nrl.2).mono (by omega), put _ x.r.w x.D k9, ⟨by rw [updS_ne nda]; exact td9.at_, td9.ne, td9.ok⟩, ⟨rs ++ [⟨x.r.w, ns[i], day, x.D⟩], ?_, ?_, fun r hr => ?_, enm _ _⟩, ms ++ [x], ?_, by rw [List.length_append]; show ms.length + 1 ≤ _; omega, fun y hy => ?_⟩⟩
      · rw [updS_same, List.map_append]; rfl
      · rw [List.length_append, hrl5]; rfl
      · rcases List.mem_append.mp hr with hr | hr
        · exact hok r hr
        · rw [List.mem_singleton] at hr
          subst hr
          have := Mr.row hx
          rw [xn, xd] at this
          exact ⟨⟨nok, dok.1, dok.2, this⟩, mr_fin⟩
      · rw [updS_ne (Ne.symm nrp)]
        exact ep9
      · rcases List.mem_append.mp hy with hy | hy
        · exact hmok y hy
        · rw [List.mem_singleton.mp hy]; exact hx
end LW
namespace LW
open PySem L2 DL
theorem world4 {p pc f pl ho na : Addr} {b : Nat} {u1 u2 : Option D} {fs ps hs ns : List Str} {S : Sto} {Q : DK} (h : Pen S p pc b) (hb : b + 7000 ≤ 100000) (tf : Txs S p f fs) (tp : Txs S p pl ps) (th : Txs S p ho hs) (tn : Txs S p na ns) (hf : 0 < fs.length) (hf2 : fs.length ≤ 8) (hp : ps.length = 10) (hl : 2 ≤ hs.length ∧ hs.length ≤ 50) (hn : ns.length = 40)
    (q : ∀ xs rs S', RollOk xs rs → (rs.map (·.n)).Nodup → (∀ x ∈ rs, Nm x.n) → rs.length ≤ 40 → Txs S' p ho hs → Pen S' p pc (b + 6000) → Kp p S S' → Q (.tup [rollN xs rs, .ref ho]) S') :
    t_wworld_4 (endsD Q) [some (.ref p), u1, u2, some (.ref f), some (.ref pl), some (.ref ho), some (.ref na)] S := by
  refine seq_i ?_
  simp_arith! []
  refine take_spec h (by omega) (by decide) (by decide) fun x1 S1 a1 b1 p1 g1 => ?_
  have b1 : x1 < 41 := b1
  refine take_spec p1 (by omega) (by decide) (by decide) fun x2 S2 a2 b2 p2 g2 => ?_
  have b2 : x2 < 13 := b2
  refine ⟨by decide, fun c hc => ?_⟩
  have nc := p2.ne hc
  refine take_spec (p2.new hc) (by omega) (by decide) (by decide) fun w S3 a3 b3 p3 g3 => ?_
  have b3 : w < 3 := b3
  have k3 : Kp p S S3 := g1.trans (g2.trans ((Kp.new hc).trans g3))
  have e3 := g3 _ _ nc.1 (updS_same (S := S2) (a := c) (o := .lst [.int 40, .int x1, .int x2]))
  rw [e3, oIx_li]
  obtain ⟨many, em, hm⟩ : ∃ many : Nat, atI [DL.D.int 40, .int x1, .int x2] w = some (.int (many : Nat)) ∧ many ≤ 40 := by
    have : w = 0 ∨ w = 1 ∨ w = 2 := by omega
    rcases this with rfl | rfl | rfl
    · exact ⟨40, atI_nat (j := 0) rfl, by omega⟩
    · exact ⟨x1.toNat, by rw [show ((x1.toNat : Nat) : Int) = x1 by omega]; exact atI_nat (j := 1) rfl, by omega⟩
    · exact ⟨x2.toNat, by rw [show ((x2.toNat : Nat) : Int) = x2 by omega]; exact atI_nat (j := 2) rfl, by omega⟩
  refine ⟨_, em, ?_⟩
  unfold t_wworld_5
  refine seq_i ?_
  simp_arith! []
  refine laying_spec p3 (by omega) (tf.kp k3) (th.kp k3) (by omega) (by omega) (by omega) fun xs S4 hxf hxok p4 g4 => ?_
  have k4 := k3.trans g4
  simp_arith! [t_wworld_6]
  refine ⟨by decide, ?_⟩
  refine wsome_rows_spec (many := many) (ns := ns) (fs := fs) (hs := hs) (ps := ps) p4 (by omega) (tf.kp k4) (tp.kp k4) (th.kp k4) (tn.kp k4) hf (by omega) hp hl (by omega) (by omega) fun rs S5 hr hnd hrl p5 g5 => ?_
  have hxl : xs.length = fs.length := by rw [← hxf, List.length_map]
  have hR : RollOk xs rs := ⟨⟨hxok, by omega⟩, fun x hx => by rw [hxf]; exact (hr x hx).1, by omega⟩
  have hR2 : rs.length ≤ 40 := by omega
  exact ⟨by decide, by decide, q xs rs S5 hR hnd (fun x hx => (hr x hx).2) hR2 (th.kp (k4.trans g5)) (p5.mono (by omega)) (k4.trans g5)⟩
theorem wworld_spec {p pc : Addr} {b : Nat} {S : Sto} {Q : DK} (h : Pen S p pc b) (hb : b + 8000 ≤ 100000)
    (q : ∀ xs rs ho hs S', RollOk xs rs → (rs.map (·.n)).Nodup → (∀ x ∈ rs, Nm x.n) → rs.length ≤ 40 → Txs S' p ho hs → 2 ≤ hs.length → hs.length ≤ 50 → Pen S' p pc (b + 7000) → Kp p S S' → Q (.tup [rollN xs rs, .ref ho]) S') : m_wworld [.ref p] S Q := by
  rw [e_wworld]
  refine seq_i ?_
  simp_arith! []
  refine take_spec h (by omega) (by decide) (by decide) fun k S1 a1 b1 p1 g1 => ?_
  have b1 : k < 3 := b1
  simp_arith! []
  obtain ⟨nf, hnf, hn1, hn8⟩ : ∃ nf : Nat, 1 + k = (nf : Nat) ∧ 1 ≤ nf ∧ nf ≤ 3 := ⟨(1 + k).toNat, by omega, by omega, by omega⟩
  rw [hnf]
  refine sorts_spec (nf := nf) (nr := 40) p1 (by omega) (by omega) (by omega) fun f pl ho na fs ps hs ns S2 tf tp th tn hfl hpl hhl hnl p2 g2 => ?_
  simp_arith! []
  unfold t_wworld_2
  refine seq_i ?_
  simp_arith! []
  refine take_spec p2 (by omega) (by decide) (by decide) fun t S3 _ _ p3 g3 => ?_
  simp_arith! []
  by_cases ht : t = 0
  · rw [if_pos ht]
    refine take_spec p3 (by omega) (by decide) (by decide) fun k4 S4 a4 b4 p4 g4 => ?_
    have b4 : k4 < 11 := b4
    simp_arith! []
    obtain ⟨nh, hnh, hh1, hh8⟩ : ∃ nh : Nat, 2 + k4 = (nh : Nat) ∧ 2 ≤ nh ∧ nh ≤ 12 := ⟨(2 + k4).toNat, by omega, by omega, by omega⟩
    rw [hnh]
    refine names_spec (n := nh) p4 (by omega) (by omega) fun a zs S5 ok hzl p5 ha hn g5 => ?_
    have nap := (p4.ne hn).1
    have k5 : Kp p S2 S5 := g3.trans (g4.trans g5)
    exact world4 p5 (by omega) (tf.kp k5) (tp.kp k5) ⟨ha, nap, ok⟩ (tn.kp k5) (by omega) (by omega) hpl ⟨by omega, by omega⟩ hnl fun xs rs S6 hr hnd hnm hl tho p6 g6 => q xs rs a zs S6 hr hnd hnm hl tho (by omega) (by omega) (p6.mono (by omega)) (g1.trans (g2.trans (k5.trans g6)))
  · rw [if_neg ht]
    exact world4 p3 (by omega) (tf.kp g3) (tp.kp g3) (th.kp g3) (tn.kp g3) (by omega) (by omega) hpl ⟨by omega, by omega⟩ hnl fun xs rs S6 hr hnd hnm hl tho p6 g6 => q xs rs ho hs S6 hr hnd hnm hl tho (by omega) (by omega) (p6.mono (by omega)) (g1.trans (g2.trans (g3.trans g6)))
end LW
namespace LW
open PySem L2 DL
/-! ### whole numbers, texts, tuples of these -/
mutual
def toP : D → PyData
  | .int i => .int i
  | .str z => .str z
  | .tup ds => .tuple (toPs ds)
  | _ => .none
def toPs : List D → List PyData
  | [] => []
  | d :: ds => toP d :: toPs ds
end
mutual
def purD : D → Bool
  | .int _ => true
  | .str _ => true
  | .tup ds => purDs ds
  | _ => false
def purDs : List D → Bool
  | [] => true
  | d :: ds => purD d && purDs ds
end
theorem toPs_map : ∀ ds : List D, toPs ds = ds.map toP
  | [] => by unfold toPs; rfl
  | d :: ds => by unfold toPs; rw [toPs_map ds]; rfl
theorem purDs_of : ∀ {ds : List D}, (∀ d ∈ ds, purD d = true) → purDs ds = true
  | [], _ => by unfold purDs; rfl
  | d :: ds, h => by
    unfold purDs
    rw [h d List.mem_cons_self, purDs_of fun e he => h e (List.mem_cons_of_mem _ he)]
    rfl
mutual
theorem toP_pd {S : Sto} : ∀ {d : D}, purD d = true → PD S d (toP d)
  | .int i, _ => by unfold toP; exact .int i
  | .str z, _ => by unfold toP; exact .str z
  | .tup ds, h => by unfold toP; unfold purD at h; exact .tup (toPs_pd h)
  | .non, h | .bl _, h | .ref _, h | .fl _, h | .ty _, h | .exc _, h | .cls _, h => by unfold purD at h; cases h
theorem toPs_pd {S : Sto} : ∀ {ds : List D}, purDs ds = true → PDs S ds (toPs ds)
  | [], _ => by unfold toPs; exact .nil
  | d :: ds, h => by
    unfold purDs at h
    rw [Bool.and_eq_true] at h
    unfold toPs
    exact .cons (toP_pd h.1) (toPs_pd h.2)
end
mutual
theorem toP_eq : ∀ {a b : D}, purD a = true → purD b = true → PyData.eqv (toP a) (toP b) = true → a = b
  | .int i, b, _, hb, e => by
    cases b with
    | int j => unfold toP at e; simp [PyData.eqv] at e; rw [e]
    | str j => unfold toP at e; simp [PyData.eqv] at e
    | tup j => unfold toP at e; simp [PyData.eqv] at e
    | _ => unfold purD at hb; cases hb
  | .str i, b, _, hb, e => by
    cases b with
    | str j => unfold toP at e; simp [PyData.eqv] at e; rw [e]
    | int j => unfold toP at e; simp [PyData.eqv] at e
    | tup j => unfold toP at e; simp [PyData.eqv] at e
    | _ => unfold purD at hb; cases hb
  | .tup xs, b, ha, hb, e => by
    cases b with
    | tup ys =>
      unfold toP at e
      unfold purD at ha hb
      simp only [PyData.eqv] at e
      rw [toPs_eq ha hb e]
    | int j => unfold toP at e; simp [PyData.eqv] at e
    | str j => unfold toP at e; simp [PyData.eqv] at e
    | _ => unfold purD at hb; cases hb
  | .non, _, h, _, _ | .bl _, _, h, _, _ | .ref _, _, h, _, _ | .fl _, _, h, _, _ | .ty _, _, h, _, _ | .exc _, _, h, _, _ | .cls _, _, h, _, _ => by unfold purD at h; cases h
theorem toPs_eq : ∀ {xs ys : List D}, purDs xs = true → purDs ys = true → PyData.eqvAll (toPs xs) (toPs ys) = true → xs = ys
  | [], [], _, _, _ => rfl
  | [], y :: ys, _, _, e => by unfold toPs at e; simp [PyData.eqvAll] at e
  | x :: xs, [], _, _, e => by unfold toPs at e; simp [PyData.eqvAll] at e
  | x :: xs, y :: ys, ha, hb, e => by
    unfold toPs at e
    unfold purDs at ha hb
    rw [Bool.and_eq_true] at ha hb
    simp only [PyData.eqvAll, Bool.and_eq_true] at e
    rw [toP_eq ha.1 hb.1 e.1, toPs_eq ha.2 hb.2 e.2]
end
theorem toP_iff {a b : D} (ha : purD a = true) (hb : purD b = true) : PyData.eqv (toP a) (toP b) = true ↔ a = b :=
  ⟨toP_eq ha hb, fun e => by subst e; exact PySem.SeqAt.eqv_refl_plain _ (toP_pd (S := fun _ => none) ha).plain⟩
theorem depthAll_le {k : Nat} : ∀ {ps : List PyData}, (∀ p ∈ ps, p.depth ≤ k) → PyData.depthAll ps ≤ k
  | [], _ => Nat.zero_le _
  | p :: ps, h => by
    unfold PyData.depthAll
    exact Nat.max_le.mpr ⟨h p (List.mem_cons_self ..), depthAll_le fun q hq => h q (List.mem_cons_of_mem _ hq)⟩
theorem depth_tup {k : Nat} {ds : List DL.D} (h : ∀ d ∈ ds, (toP d).depth ≤ k) : (toP (.tup ds)).depth ≤ k + 1 := by
  have : PyData.depthAll (toPs ds) ≤ k := by
    rw [toPs_map]
    refine depthAll_le fun p hp => ?_
    obtain ⟨d, hd, rfl⟩ := List.mem_map.mp hp
    exact h d hd
  unfold toP PyData.depth
  omega
theorem dep_str {k : Nat} (z : Str) : (toP (.str z)).depth ≤ k := by unfold toP PyData.depth; exact Nat.zero_le _
theorem dep_int {k : Nat} (z : Int) : (toP (.int z)).depth ≤ k := by unfold toP PyData.depth; exact Nat.zero_le _
theorem pur_pt (p : Pt) : purD p.D = true := by unfold Pt.D; simp [purD, purDs]
theorem pur_strs (zs : List Str) : purD (.tup (zs.map .str)) = true := by
  unfold purD
  exact purDs_of fun d hd => by obtain ⟨z, _, rfl⟩ := List.mem_map.mp hd; unfold purD; rfl
theorem pur_pts (ps : List Pt) : purD (.tup (ps.map Pt.D)) = true := by
  unfold purD
  exact purDs_of fun d hd => by obtain ⟨z, _, rfl⟩ := List.mem_map.mp hd; exact pur_pt z
theorem pur_str (z : Str) : purD (.str z) = true := by unfold purD; rfl
theorem pur_int (z : Int) : purD (.int z) = true := by unfold purD; rfl
theorem rest_pur (r : Rw) : ∀ d ∈ r.rest, purD d = true ∧ (toP d).depth ≤ 2 := by
  have s : ∀ z : Str, purD (.str z) = true ∧ (toP (.str z)).depth ≤ 2 := fun z => ⟨pur_str z, dep_str z⟩
  have i : ∀ z : Int, purD (.int z) = true ∧ (toP (.int z)).depth ≤ 2 := fun z => ⟨pur_int z, dep_int z⟩
  have ss : ∀ zs : List Str, purD (.tup (zs.map .str)) = true ∧ (toP (.tup (zs.map .str))).depth ≤ 2 := fun zs => ⟨pur_strs zs, depth_tup (k := 1) fun d hd => by obtain ⟨z, _, rfl⟩ := List.mem_map.mp hd; exact dep_str z⟩
  have pp : ∀ ps : List Pt, purD (.tup (ps.map Pt.D)) = true ∧ (toP (.tup (ps.map Pt.D))).depth ≤ 2 := fun ps => ⟨pur_pts ps, depth_tup (k := 1) fun d hd => by
    obtain ⟨z, _, rfl⟩ := List.mem_map.mp hd
    refine depth_tup (k := 0) fun e he => ?_
    simp only [List.mem_cons, List.not_mem_nil, or_false] at he
    rcases he with rfl | rfl | rfl
    · exact dep_str _
    · exact dep_str _
    · exact dep_int _⟩
  intro d hd
  cases r <;> simp only [Rw.rest, List.mem_cons, List.not_mem_nil, or_false] at hd
  · rcases hd with rfl | rfl
    · exact s _
    · exact pp _
  · rcases hd with rfl | rfl
    · exact ss _
    · exact s _
  · rcases hd with rfl | rfl <;> exact s _
  · rcases hd with rfl | rfl
    · exact s _
    · exact i _
  · rcases hd with rfl | rfl <;> exact s _
  · subst hd; exact s _
  · rcases hd with rfl | rfl | rfl | rfl
    · exact s _
    · exact i _
    · exact i _
    · exact i _
  · rcases hd with rfl | rfl | rfl
    · exact s _
    · exact i _
    · exact s _
theorem rx_mem (x : Rx) : ∀ d ∈ (.str x.r.w :: .str x.n :: .int x.d :: x.r.rest : List DL.D), purD d = true ∧ (toP d).depth ≤ 2 := by
  intro d hd
  rcases List.mem_cons.mp hd with rfl | hd
  · exact ⟨pur_str _, dep_str _⟩
  rcases List.mem_cons.mp hd with rfl | hd
  · exact ⟨pur_str _, dep_str _⟩
  rcases List.mem_cons.mp hd with rfl | hd
  · exact ⟨pur_int _, dep_int _⟩
  exact rest_pur _ d hd
theorem rx_tup (x : Rx) : x.D = .tup (.str x.r.w :: .str x.n :: .int x.d :: x.r.rest) := rfl
theorem pur_rx (x : Rx) : purD x.D = true := by
  rw [rx_tup]
  unfold purD
  exact purDs_of fun d hd => (rx_mem x d hd).1
theorem dep_rx (x : Rx) : (toP x.D).depth ≤ 64 := Nat.le_trans (depth_tup (k := 2) fun d hd => (rx_mem x d hd).2) (by decide)
theorem pds_rx {S : Sto} : ∀ rs : List Rx, PDs S (rs.map Rx.D) (rs.map fun x => toP x.D)
  | [] => .nil
  | x :: rs => .cons (toP_pd (pur_rx x)) (pds_rx rs)
theorem nm_inj {rs : List Rx} (nd : (rs.map (·.n)).Nodup) {i j : Nat} (hi : i < rs.length) (hj : j < rs.length) (e : rs[i].n = rs[j].n) : i = j := by
  have := (List.getElem_inj (h₀ := by rw [List.length_map]; exact hi) (h₁ := by rw [List.length_map]; exact hj) nd).mp (by rw [List.getElem_map, List.getElem_map]; exact e)
  exact this
/-- the place of a row among the rows -/
theorem index_rx {rs : List Rx} (nd : (rs.map (·.n)).Nodup) {j : Nat} (hj : j < rs.length) {S : Sto} {Q : DK} (q : Q (.int (j : Nat)) S) : gIndexT (.tup (rs.map Rx.D)) [rs[j].D] S Q := by
  refine ⟨_, _, j, toP rs[j].D, pds_rx rs, toP_pd (pur_rx _), dep_rx _, by rw [List.getElem?_map, List.getElem?_eq_getElem hj]; rfl, (toP_iff (pur_rx _) (pur_rx _)).mpr rfl, fun m z hm hz => ?_, q⟩
  have hmr : m < rs.length := by omega
  rw [List.getElem?_map, List.getElem?_eq_getElem hmr] at hz
  cases hz
  cases e : PyData.eqv (toP rs[m].D) (toP rs[j].D) with
  | false => rfl
  | true =>
    have h2 := toP_eq (pur_rx _) (pur_rx _) e
    have h3 : nmD rs[m].D = nmD rs[j].D := by rw [h2]
    have := nm_inj nd hmr hj h3
    omega
theorem index_rxN {rs : List Rx} (nd : (rs.map (·.n)).Nodup) {j : Nat} (hj : j < rs.length) {S : Sto} {Q : DK} (q : Q (.int (j : Nat)) S) : gIdxN (.nt (rs.map Rx.D)) [rs[j].D] S Q := by
  have h := index_rx (S := S) nd hj q
  show ∃ ps q j', ∃ z, PDs S (wkDs (rs.map Rx.D)) ps ∧ PD S (wkD rs[j].D) q ∧ q.depth ≤ 64 ∧ ps[j']? = some z ∧ PyData.eqv z q = true ∧ (∀ (m : Nat) (z' : PyData), m < j' → ps[m]? = some z' → PyData.eqv z' q = false) ∧ Q (.int (j' : Nat)) S
  rw [wkDs_map wk_rx, wk_rx]
  exact h
theorem index_str {c : Addr} {l : List Str} {h : Str} {S : Sto} {Q : DK} (e : S c = some (.lst (l.map .str))) (hm : h ∈ l) (q : Q (.int (l.idxOf h : Nat)) S) : gIndex (.ref c) [.str h] S Q := by
  have hj : l.idxOf h < l.length := List.idxOf_lt_length_iff.mpr hm
  refine ⟨_, _, by unfold itmD; dsimp only; rw [e], rfl, rfl, all_flat l, l.idxOf h, .str h, by rw [List.getElem?_map, List.getElem?_eq_getElem hj, List.getElem_idxOf hj]; rfl, by show decide (h = h) = true; exact decide_eq_true rfl, fun m z hlt hz => ?_, q⟩
  have hml : m < l.length := by omega
  rw [List.getElem?_map, List.getElem?_eq_getElem hml] at hz
  cases hz
  show decide (l[m] = h) = false
  exact decide_eq_false (PySem.SeqAt.lt_idxOf_ne hlt hml)
end LW
namespace LW
open PySem L2 DL
theorem eq_strs {f : Bool → Bool} {a b : Addr} {zs : List Str} {S : Sto} {Q : DK} (ea : S a = some (.lst (zs.map .str))) (eb : S b = some (.lst (zs.map .str))) (q : Q (.bl (f true)) S) : gEq f (.ref a) (.ref b) S Q := by
  refine ⟨_, _, .lst ea (pds_strs zs), .lst eb (pds_strs zs), depth_strs zs, ?_⟩
  rw [PySem.SeqAt.eqv_refl_plain _ (PD.plain (PD.lst ea (pds_strs zs)))]
  exact q
theorem row_called_spec {xs : List Fd} {rs : List Rx} (nd : (rs.map (·.n)).Nodup) {j : Nat} (hj : j < rs.length) {S : Sto} {Q : DK} {E : EK} (q : Q rs[j].D S) : m_row_called [rollX xs rs, .str rs[j].n] S Q E := by
  rw [e_row_called, rollX]
  refine seqx_i ?_
  simp_arith! []
  refine ⟨_, atI_nat (j := 1) rfl, ?_⟩
  simp_arith! []
  refine forL_inv _ (fun i σ S' => (∃ u2, σ = [some (.tup [.tup (xs.map Fd.D), .tup (rs.map Rx.D)]), some (.str rs[j].n), u2]) ∧ S' = S ∧ i ≤ j) (fun _ _ _ _ => trivial) (fun i x σ S' N hxi hJ hN => ?turn) (fun σ S' hJ => ?fin) ⟨⟨none, rfl⟩, rfl, Nat.zero_le _⟩
  case fin =>
    obtain ⟨_, _, hle⟩ := hJ
    rw [List.length_map] at hle
    omega
  case turn =>
    obtain ⟨⟨u2, rfl⟩, rfl, hle⟩ := hJ
    have hi := (List.getElem?_eq_some_iff.mp hxi).1
    rw [List.length_map] at hi
    rw [List.getElem?_map, List.getElem?_eq_getElem hi] at hxi
    cases hxi
    unfold l_row_called_1
    rw [rx_tup rs[i]]
    simp_arith! []
    refine ⟨_, atI_nat (j := 1) rfl, ?_⟩
    simp_arith! []
    by_cases e : i = j
    · subst e
      rw [if_pos rfl]
      exact q
    · rw [if_neg (fun z => e (nm_inj nd hi hj z))]
      exact hN _ _ ⟨⟨_, rfl⟩, rfl, by omega⟩
end LW
namespace LW
open PySem L2 DL
theorem gIx_rollN {xs : List Fd} {rs : List Rx} {S : Sto} {Q : DK} (q : Q (.nt (rs.map Rx.D)) S) : gIx (rollN xs rs) (.int 1) S Q := ⟨_, atI_nat (j := 1) rfl, q⟩
theorem ring_spec {xs : List Fd} {rs : List Rx} (R : RollOk xs rs) (nd : (rs.map (·.n)).Nodup) {j : Nat} (hj : j < rs.length) {h g : Str} (hr : rs[j].r = .mend h g) {l : List Str} (hl : Rd (stOf xs (rs.take j)).menders g l) {S : Sto} {Q : DK} {E : EK} (hT : TJ S)
    (q1 : h ∉ l → ∀ S', Gr S S' → Q .non S') (q2 : h ∈ l → ∀ c S', S c = none → Gr S S' → S' c = some (.lst ((h :: l.take (l.idxOf h + 1)).map .str)) → Q (.ref c) S') : m_ring [rollN xs rs, .str rs[j].n] S Q E := by
  have inv := stOf_inv R j
  have hll : l.length ≤ 200 := by
    have h1 := hl.len
    have h2 := inv.ml
    rw [rws_len, List.length_take] at h2
    have := R.len
    omega
  have eD : rs[j].D = .tup [.str "mend", .str rs[j].n, .int rs[j].d, .str h, .str g] := by rw [rx_tup, hr]; rfl
  rw [e_ring]
  refine seqx_i ?_
  simp_arith! []
  rw [wk_rollN]
  refine row_called_spec nd hj ?_
  unfold t_ring_2
  refine seqx_i ?_
  rw [eD]
  simp_arith! []
  refine ⟨_, atI_nat (j := 0) rfl, ?_⟩
  simp_arith! []
  unfold t_ring_4
  refine seqx_i ?_
  simp_arith! [wk_rollN]
  refine gIx_rollN ?_
  refine ⟨⟨_, rfl⟩, ?_⟩
  rw [← eD]
  refine index_rxN nd hj ?_
  rw [eD]
  refine ⟨_, atI_nat (j := 4) rfl, ?_⟩
  refine road_spec R hl hT fun c S1 hc g1 e1 => ?_
  unfold t_ring_5
  refine seqx_i ?_
  simp_arith! []
  refine ⟨_, atI_nat (j := 3) rfl, ?_⟩
  simp_arith! [e1]
  refine ⟨rfl, all_flat l, ?_⟩
  rw [any_eqF]
  by_cases hm : h ∈ l
  · rw [decide_eq_true hm, if_neg (by decide)]
    simp_arith! [t_ring_7]
    refine ⟨_, atI_nat (j := 3) rfl, by decide, fun p hp => ?_⟩
    have ne : c ≠ p := fun e => by
      rw [e] at e1
      rw [e1] at hp
      cases hp
    have e2 : updS S1 p (.lst [.str h]) c = some (.lst (l.map .str)) := by rw [updS_ne ne]; exact e1
    have e3 : updS S1 p (.lst [.str h]) p = some (.lst [.str h]) := updS_same
    have g2 : Gr S1 (updS S1 p (.lst [.str h])) := .new hp
    generalize updS S1 p (.lst [.str h]) = S2 at e2 e3 g2
    simp_arith! [e2]
    refine ⟨_, atI_nat (j := 3) rfl, index_str e2 hm ?_⟩
    simp_arith! []
    refine ⟨_, e2, fun n hn => ?_⟩
    have g3 : Gr S2 (updS S2 n (.lst (cutL (l.map DL.D.str) none (some (((l.idxOf h : Nat) : Int) + 1))))) := .new hn
    refine ⟨_, g3 _ _ e3, _, updS_same, ?_⟩
    generalize updS S2 n (.lst (cutL (l.map DL.D.str) none (some (((l.idxOf h : Nat) : Int) + 1)))) = S3 at g3
    rw [show ((l.idxOf h : Nat) : Int) + 1 = ((l.idxOf h + 1 : Nat) : Int) from rfl, cutL_to, ← List.map_take]
    refine ⟨line_k (by rw [List.length_map, List.length_take]; show 1 + _ ≤ 4000; omega) |> Nat.le_of_lt, fun m hm2 => ?_⟩
    have fr : S m = none := by
      cases e : S m with
      | none => rfl
      | some o => rw [g3 _ _ (g2 _ _ (g1 _ _ e))] at hm2; cases hm2
    refine q2 hm m _ fr (g1.trans (g2.trans (g3.trans (.new hm2)))) ?_
    rw [updS_same]
    rfl
  · rw [decide_eq_false hm, if_pos (by decide)]
    exact q1 hm _ g1
end LW
namespace LW
open PySem L2 DL
theorem gIsX_t {T : XTab} {c : Str} {ds : List D} {S : Sto} {Q : DK} : gIsX T [.exc c, .tup ds] S Q = ∃ l b, lookX T c = some l ∧ anyX l ds = some b ∧ Q (.bl b) S := rfl
theorem gIsX_c {T : XTab} {c c' : Str} {S : Sto} {Q : DK} : gIsX T [.exc c, .cls c'] S Q = ∃ l b, lookX T c = some l ∧ lookX l c' = some b ∧ Q (.bl b) S := rfl
theorem gIsX_v {T : XTab} {c : Str} {n : String} {S : Sto} {Q : DK} : gIsX T [.exc c, .ty n] S Q = ((lookX T c).isSome ∧ n = "ValueError" ∧ Q (.bl true) S) := rfl
theorem class_NoMend {S : Sto} {Q : DK} (q : ∀ S', Gr S S' → Q (.str "NoMend") S') : m_wclass [.exc "NoMend"] S Q := by
  rw [e_wclass]
  refine seq_i ?_
  simp_arith! []
  refine ⟨by decide, fun p hp => ?_⟩
  have es : ∀ L, updS S p (.lst L) p = some (.lst L) := fun L => updS_same
  have gs : ∀ L, Gr S (updS S p (.lst L)) := fun L => Gr.new hp
  unfold t_wclass_2
  refine seq_i ?_
  simp_arith! [gIsX_c]
  refine ⟨_, rfl, false, by decide +kernel, ?_⟩
  simp_arith! []
  unfold t_wclass_4
  refine seq_i ?_
  simp_arith! [gIsX_c]
  refine ⟨_, rfl, false, by decide +kernel, ?_⟩
  simp_arith! []
  unfold t_wclass_6
  refine seq_i ?_
  simp_arith! [gIsX_c]
  refine ⟨_, rfl, false, by decide +kernel, ?_⟩
  simp_arith! []
  unfold t_wclass_8
  refine seq_i ?_
  simp_arith! [gIsX_c]
  refine ⟨_, rfl, false, by decide +kernel, ?_⟩
  simp_arith! []
  unfold t_wclass_10
  refine seq_i ?_
  simp_arith! [gIsX_c]
  refine ⟨_, rfl, false, by decide +kernel, ?_⟩
  simp_arith! []
  unfold t_wclass_12
  refine seq_i ?_
  simp_arith! [gIsX_c]
  refine ⟨_, rfl, false, by decide +kernel, ?_⟩
  simp_arith! []
  unfold t_wclass_14
  refine seq_i ?_
  simp_arith! [gIsX_c]
  refine ⟨_, rfl, true, by decide +kernel, ?_⟩
  simp_arith! [es, updS_updS]
  refine ⟨_, rfl, by decide, ?_⟩
  unfold t_wclass_16
  refine seq_i ?_
  simp_arith! [gIsX_t]
  refine ⟨by decide, _, rfl, false, by decide +kernel, ?_⟩
  simp_arith! [gIsX_v]
  refine ⟨rfl, ?_⟩
  unfold t_wclass_18
  refine seq_i ?_
  simp_arith! [es]
  rw [if_neg (by decide)]
  unfold t_wclass_20
  refine ret_i ?_
  simp_arith! [es]
  exact ⟨_, atI_nat (j := 0) rfl, q _ (gs _)⟩
theorem class_NoName {S : Sto} {Q : DK} (q : ∀ S', Gr S S' → Q (.str "NoName") S') : m_wclass [.exc "NoName"] S Q := by
  rw [e_wclass]
  refine seq_i ?_
  simp_arith! []
  refine ⟨by decide, fun p hp => ?_⟩
  have es : ∀ L, updS S p (.lst L) p = some (.lst L) := fun L => updS_same
  have gs : ∀ L, Gr S (updS S p (.lst L)) := fun L => Gr.new hp
  unfold t_wclass_2
  refine seq_i ?_
  simp_arith! [gIsX_c]
  refine ⟨_, rfl, false, by decide +kernel, ?_⟩
  simp_arith! []
  unfold t_wclass_4
  refine seq_i ?_
  simp_arith! [gIsX_c]
  refine ⟨_, rfl, false, by decide +kernel, ?_⟩
  simp_arith! []
  unfold t_wclass_6
  refine seq_i ?_
  simp_arith! [gIsX_c]
  refine ⟨_, rfl, true, by decide +kernel, ?_⟩
  simp_arith! [es, updS_updS]
  refine ⟨_, rfl, by decide, ?_⟩
  unfold t_wclass_8
  refine seq_i ?_
  simp_arith! [gIsX_c]
  refine ⟨_, rfl, false, by decide +kernel, ?_⟩
  simp_arith! []
  unfold t_wclass_10
  refine seq_i ?_
  simp_arith! [gIsX_c]
  refine ⟨_, rfl, false, by decide +kernel, ?_⟩
  simp_arith! []
  unfold t_wclass_12
  refine seq_i ?_
  simp_arith! [gIsX_c]
  refine ⟨_, rfl, false, by decide +kernel, ?_⟩
  simp_arith! []
  unfold t_wclass_14
  refine seq_i ?_
  simp_arith! [gIsX_c]
  refine ⟨_, rfl, false, by decide +kernel, ?_⟩
  simp_arith! []
  unfold t_wclass_16
  refine seq_i ?_
  simp_arith! [gIsX_t]
  refine ⟨by decide, _, rfl, false, by decide +kernel, ?_⟩
  simp_arith! [gIsX_v]
  refine ⟨rfl, ?_⟩
  unfold t_wclass_18
  refine seq_i ?_
  simp_arith! [es]
  rw [if_neg (by decide)]
  unfold t_wclass_20
  refine ret_i ?_
  simp_arith! [es]
  exact ⟨_, atI_nat (j := 0) rfl, q _ (gs _)⟩
end LW
namespace LW
open PySem L2 DL
theorem nomend_w {r : Rw} (hr : ∀ h g, r ≠ .mend h g) : r.w ≠ "mend" := by
  cases r with
  | mend h g => exact absurd rfl (hr h g)
  | part => exact (by decide +kernel : ("part" : Str) ≠ "mend")
  | join => exact (by decide +kernel : ("join" : Str) ≠ "mend")
  | forfeit => exact (by decide +kernel : ("forfeit" : Str) ≠ "mend")
  | measure => exact (by decide +kernel : ("measure" : Str) ≠ "mend")
  | alone => exact (by decide +kernel : ("alone" : Str) ≠ "mend")
  | breach => exact (by decide +kernel : ("breach" : Str) ≠ "mend")
  | view => exact (by decide +kernel : ("view" : Str) ≠ "mend")
theorem ring_no {xs : List Fd} {rs : List Rx} (nd : (rs.map (·.n)).Nodup) {j : Nat} (hj : j < rs.length) (hr : ∀ h g, rs[j].r ≠ .mend h g) {S : Sto} {Q : DK} {E : EK} (q : E "NoMend" S) : m_ring [rollN xs rs, .str rs[j].n] S Q E := by
  rw [e_ring]
  refine seqx_i ?_
  simp_arith! [wk_rollN]
  refine row_called_spec nd hj ?_
  unfold t_ring_2
  refine seqx_i ?_
  rw [rx_tup rs[j]]
  simp_arith! []
  refine ⟨_, atI_nat (j := 0) rfl, ?_⟩
  simp_arith! []
  rw [decide_eq_false (nomend_w hr)]
  exact q
/-- no row is called so -/
def NoNm (S : Sto) (d : DL.D) (rs : List Rx) : Prop := ∀ x ∈ rs, ∀ K : DK, K (.bl false) S → gEqX id (.str x.n) d S K
theorem row_called_none {xs : List Fd} {rs : List Rx} {d : DL.D} {S : Sto} {Q : DK} {E : EK} (h : NoNm S d rs) (q : E "NoName" S) : m_row_called [rollX xs rs, d] S Q E := by
  rw [e_row_called, rollX]
  refine seqx_i ?_
  simp_arith! []
  refine ⟨_, atI_nat (j := 1) rfl, ?_⟩
  simp_arith! []
  refine forL_inv _ (fun i σ S' => (∃ u2, σ = [some (.tup [.tup (xs.map Fd.D), .tup (rs.map Rx.D)]), some d, u2]) ∧ S' = S) (fun _ _ _ _ => trivial) (fun i x σ S' N hxi hJ hN => ?turn) (fun σ S' hJ => ?fin) ⟨⟨none, rfl⟩, rfl⟩
  case fin =>
    obtain ⟨⟨u2, rfl⟩, rfl⟩ := hJ
    simp_arith! [t_row_called_4]
    exact q
  case turn =>
    obtain ⟨⟨u2, rfl⟩, rfl⟩ := hJ
    obtain ⟨x, hx, rfl⟩ := List.mem_map.mp (List.mem_of_getElem? hxi)
    unfold l_row_called_1
    rw [rx_tup x]
    simp_arith! []
    refine ⟨_, atI_nat (j := 1) rfl, ?_⟩
    refine h x hx _ ?_
    simp_arith! []
    exact hN _ _ ⟨⟨_, rfl⟩, rfl⟩
theorem ring_none {xs : List Fd} {rs : List Rx} {d : DL.D} {S : Sto} {Q : DK} {E : EK} (h : NoNm S d rs) (q : E "NoName" S) : m_ring [rollN xs rs, d] S Q E := by
  rw [e_ring]
  refine seqx_i ?_
  simp_arith! [wk_rollN]
  exact row_called_none h q
end LW
namespace LW
open PySem L2 DL
theorem told_x {ask : ASK} {c : Str} {S : Sto} {Q : DK} (hc : c = "NoMend" ∨ c = "NoName") (h : ∀ (Qd : DK) (Ed : EK), Ed c S → ask S Qd Ed) (q : ∀ r S', Gr S S' → S' r = some (.lst ([("refused" : Str), c].map .str)) → Q (.ref r) S') : m_wtold ask S Q := by
  rw [e_wtold]
  intro f
  unfold b_wtold gAskS
  simp_arith! []
  refine h _ _ ⟨by rcases hc with rfl | rfl <;> decide, ?_⟩
  unfold r_wtold
  refine seq_i ?_
  simp_arith! []
  rw [if_neg (show ¬ (DL.isNon (D.exc c) = true) from fun z => Bool.noConfusion z)]
  unfold t_wtold_9
  refine ret_i ?_
  simp_arith! []
  have cl : ∀ {S : Sto} {Q : DK}, (∀ S', Gr S S' → Q (.str c) S') → m_wclass [.exc c] S Q := fun {S Q} q => by
    rcases hc with rfl | rfl
    · exact class_NoMend q
    · exact class_NoName q
  refine cl fun S1 g1 => ⟨by decide, fun r hr => q r _ (g1.trans (.new hr)) updS_same⟩
theorem wring_spec {xs : List Fd} {rs : List Rx} (R : RollOk xs rs) {j : Nat} (hj : j < rs.length) {h g : Str} (hr : rs[j].r = .mend h g) {l : List Str} (hl : Rd (stOf xs (rs.take j)).menders g l) {S : Sto} {Q : DK}
    (q1 : h ∉ l → ∀ S', Gr S S' → Q .non S') (q2 : h ∈ l → ∀ c S', S c = none → Gr S S' → S' c = some (.lst ((h :: l.take (l.idxOf h + 1)).map .str)) → Q (.ref c) S') : m_wring [.tup (rs.map Rx.D), .int (j : Nat)] S Q := by
  have inv := stOf_inv R j
  have hll : l.length ≤ 200 := by
    have h1 := hl.len
    have h2 := inv.ml
    rw [rws_len, List.length_take] at h2
    have := R.len
    omega
  have eD : rs[j].D = .tup [.str "mend", .str rs[j].n, .int rs[j].d, .str h, .str g] := by rw [rx_tup, hr]; rfl
  rw [e_wring]
  refine seq_i ?_
  simp_arith! []
  refine ⟨_, atI_nat (j := j) (by rw [List.getElem?_map, List.getElem?_eq_getElem hj]; rfl), ?_⟩
  rw [eD]
  unfold t_wring_2
  refine seq_i ?_
  simp_arith! []
  rw [cutL_to, ← List.map_take]
  refine wmenders_spec (by rw [List.length_take]; have := R.len; omega) fun cm S1 hcm g1 em => ?_
  refine ⟨_, atI_nat (j := 4) rfl, ?_⟩
  rw [stOf_mnd] at hl
  refine wroad_spec hl (line_k (by omega)) em fun c S2 hc g2 e2 => ?_
  have frS : ∀ {S' : Sto} {m : Addr}, Gr S2 S' → S' m = none → S m = none := fun {S' m} g hm => by
    cases e : S m with
    | none => rfl
    | some o => rw [g _ _ (g2 _ _ (g1 _ _ e))] at hm; cases hm
  unfold t_wring_3
  refine seq_i ?_
  simp_arith! [e2]
  refine ⟨_, atI_nat (j := 3) rfl, ?_⟩
  refine ⟨rfl, all_flat l, ?_⟩
  rw [any_eqF]
  by_cases hm : h ∈ l
  · rw [decide_eq_true hm]
    simp_arith! [t_wring_5]
    refine ⟨_, atI_nat (j := 3) rfl, by decide, fun p hp => ?_⟩
    have e3 : updS S2 p (.lst [.str h]) c = some (.lst (l.map .str)) := by rw [updS_ne (neS e2 hp)]; exact e2
    have e4 : updS S2 p (.lst [.str h]) p = some (.lst [.str h]) := updS_same
    have g3 : Gr S2 (updS S2 p (.lst [.str h])) := .new hp
    generalize updS S2 p (.lst [.str h]) = S3 at e3 e4 g3
    simp_arith! [e3]
    refine ⟨_, atI_nat (j := 3) rfl, index_str e3 hm ?_⟩
    simp_arith! []
    refine ⟨_, e3, fun n hn => ?_⟩
    have g4 : Gr S3 (updS S3 n (.lst (cutL (l.map DL.D.str) none (some (((l.idxOf h : Nat) : Int) + 1))))) := .new hn
    refine ⟨_, g4 _ _ e4, _, updS_same, ?_⟩
    generalize updS S3 n (.lst (cutL (l.map DL.D.str) none (some (((l.idxOf h : Nat) : Int) + 1)))) = S4 at g4
    rw [show ((l.idxOf h : Nat) : Int) + 1 = ((l.idxOf h + 1 : Nat) : Int) from rfl, cutL_to, ← List.map_take]
    refine ⟨line_k (by rw [List.length_map, List.length_take]; show 1 + _ ≤ 4000; omega) |> Nat.le_of_lt, fun m hm2 => ?_⟩
    refine q2 hm m _ (frS (g3.trans g4) hm2) (g1.trans (g2.trans (g3.trans (g4.trans (.new hm2))))) ?_
    rw [updS_same]
    rfl
  · rw [decide_eq_false hm]
    simp_arith! []
    exact q1 hm _ (g1.trans g2)
/-- the tables of the two lambdas -/
abbrev TW (S : Sto) : Prop := S tP_wright = some (.tab "_law_right.<locals>.<lambda>")
abbrev TL (S : Sto) : Prop := S tP_law = some (.tab "law.<locals>.<lambda>")
theorem wright_spec {xs : List Fd} {rs : List Rx} (R : RollOk xs rs) (nd : (rs.map (·.n)).Nodup) {j : Nat} (hj : j < rs.length) {S : Sto} {Q : DK} (hT : TJ S) (hW : TW S) (q : ∀ S', (∀ a o, S a = some o → S' a = some o) → Q (.bl true) S') : m_wright [rollN xs rs, .int (j : Nat)] S Q := by
  have inv := stOf_inv R j
  rw [e_wright]
  refine seq_i ?_
  simp_arith! [wk_rollN]
  rw [show rollX xs rs = .tup [.tup (xs.map Fd.D), .tup (rs.map Rx.D)] from rfl]
  simp_arith! []
  refine ⟨_, atI_nat (j := 1) rfl, ?_⟩
  simp_arith! []
  refine ⟨_, atI_nat (j := j) (by rw [List.getElem?_map, List.getElem?_eq_getElem hj]; rfl), ?_⟩
  by_cases hk : ∃ h g, rs[j].r = .mend h g
  · obtain ⟨h, g, hr⟩ := hk
    obtain ⟨l, hl⟩ := inv.acy g
    have eD : rs[j].D = .tup [.str "mend", .str rs[j].n, .int rs[j].d, .str h, .str g] := by rw [rx_tup, hr]; rfl
    rw [eD]
    unfold t_wright_2
    refine seq_i ?_
    simp_arith! []
    refine ⟨_, atI_nat (j := 0) rfl, ?_⟩
    simp_arith! []
    unfold t_wright_4
    refine seq_i ?_
    simp_arith! [wk_rollN]
    rw [show rollX xs rs = .tup [.tup (xs.map Fd.D), .tup (rs.map Rx.D)] from rfl]
    simp_arith! []
    refine ⟨_, atI_nat (j := 1) rfl, ?_⟩
    refine wring_spec R hj hr hl (fun hn S1 g1 => ?_) (fun hm c S1 hc g1 ec => ?_)
    · unfold t_wright_5
      refine seq_i ?_
      refine for_i ?_
      simp_arith! []
      refine ⟨by decide, by decide, ?_⟩
      refine forR_inv 0 2 (fun i σ S' => (∃ u4 u5, σ = [some (rollN xs rs), some (.int (j : Nat)), some (.tup [.str "mend", .str rs[j].n, .int rs[j].d, .str h, .str g]), some .non, u4, u5]) ∧ Gr S1 S') (fun _ _ _ _ => trivial) (fun i σ S' N hi hJ hN => ?turn) (fun σ S' hJ => ?fin) ⟨⟨none, none, rfl⟩, .refl⟩
      case fin =>
        obtain ⟨⟨_, _, rfl⟩, g2⟩ := hJ
        simp_arith! [t_wright_13]
        exact q _ (g1.trans g2)
      case turn =>
        obtain ⟨⟨_, _, rfl⟩, g2⟩ := hJ
        rw [Int.zero_add]
        unfold l_wright_5
        refine seq_i ?_
        simp_arith! []
        refine ⟨_, atI_nat (j := 1) rfl, ?_⟩
        show m_ring _ _ _ (fun _ _ => False)
        refine ring_spec R nd hj hr hl (g2 _ _ (g1 _ _ hT)) (fun _ S3 g3 => ?_) (fun hm _ _ _ _ _ => absurd hm hn)
        unfold t_wright_7
        refine seq_i ?_
        simp_arith! []
        unfold t_wright_9
        refine seq_i ?_
        simp_arith! [t_wright_11]
        exact hN _ _ ⟨⟨_, _, rfl⟩, g2.trans g3⟩
    · unfold t_wright_5
      refine seq_i ?_
      refine for_i ?_
      simp_arith! []
      refine ⟨by decide, by decide, ?_⟩
      refine forR_inv 0 2 (fun i σ S' => (∃ u4 u5, σ = [some (rollN xs rs), some (.int (j : Nat)), some (.tup [.str "mend", .str rs[j].n, .int rs[j].d, .str h, .str g]), some (.ref c), u4, u5]) ∧ Gr S1 S') (fun _ _ _ _ => trivial) (fun i σ S' N hi hJ hN => ?turn2) (fun σ S' hJ => ?fin2) ⟨⟨none, none, rfl⟩, .refl⟩
      case fin2 =>
        obtain ⟨⟨_, _, rfl⟩, g2⟩ := hJ
        simp_arith! [t_wright_13]
        exact q _ (g1.trans g2)
      case turn2 =>
        obtain ⟨⟨_, _, rfl⟩, g2⟩ := hJ
        rw [Int.zero_add]
        unfold l_wright_5
        refine seq_i ?_
        simp_arith! []
        refine ⟨_, atI_nat (j := 1) rfl, ?_⟩
        show m_ring _ _ _ (fun _ _ => False)
        refine ring_spec R nd hj hr hl (g2 _ _ (g1 _ _ hT)) (fun hn _ _ => absurd hm hn) (fun _ c2 S3 hc2 g3 e3 => ?_)
        have ec3 := g3 _ _ (g2 _ _ ec)
        unfold t_wright_7
        refine seq_i ?_
        simp_arith! [e3]
        unfold t_wright_9
        refine seq_i ?_
        simp_arith! []
        refine eq_strs e3 ec3 ?_
        simp_arith! []
        unfold t_wright_11
        simp_arith! [e3]
        have n1 : S1 c2 = none := by
          cases e : S1 c2 with
          | none => rfl
          | some o => rw [g2 _ _ e] at hc2; cases hc2
        have gc : Gr S1 (updS S3 c2 (.lst [])) := fun a o e => by
          rw [updS_ne (neS e n1)]
          exact g3 _ _ (g2 _ _ e)
        exact ⟨_, rfl, hN _ _ ⟨⟨_, _, rfl⟩, gc⟩⟩
  · have hr : ∀ h g, rs[j].r ≠ .mend h g := fun h g e => hk ⟨h, g, e⟩
    rw [rx_tup rs[j]]
    unfold t_wright_2
    refine seq_i ?_
    simp_arith! []
    refine ⟨_, atI_nat (j := 0) rfl, ?_⟩
    simp_arith! []
    rw [decide_eq_false (nomend_w hr)]
    simp_arith! []
    unfold eLamC
    refine ⟨hW, told_x (.inl rfl) (fun Qd Ed h => ?_) fun r S1 g1 er => ?_⟩
    · simp_arith! []
      refine ⟨_, atI_nat (j := 1) rfl, ring_no nd hj hr h⟩
    · refine ⟨by decide, fun p hp => ?_⟩
      have g2 : Gr S1 (updS S1 p (.lst ([("refused" : Str), "NoMend"].map .str))) := .new hp
      exact eq_strs (g2 _ _ er) updS_same (q _ (g1.trans g2))
end LW
namespace LW
open PySem L2 DL
theorem pen_spec {ns : List Int} {S : Sto} {Q : DK} (q : ∀ (p c : Addr) (S' : Sto), Pen S' p c 0 → Gr S S' → Q (.ref p) S') : m_wpen [.fl (ns.map .int)] S Q := by
  rw [e_wpen]
  simp_arith! [b_wpen]
  intro p1 hp1
  refine ⟨_, updS_same, fun p2 hp2 => ⟨_, rfl, by show 3 ≤ 15; decide, fun p3 hp3 => ?_⟩⟩
  have n23 : p2 ≠ p3 := neS updS_same hp3
  have cut : cutL (ns.map D.int) none (some 63) = (ns.take 63).map D.int := by
    unfold cutL
    rw [HT.sIx_none, show HT.sIx (ns.map D.int).length (ns.map D.int).length (some 63) = min 63 (ns.map D.int).length from HT.sIx_nat _ _ 63]
    rw [List.drop_zero, List.map_take, Nat.sub_zero]
    by_cases h : 63 ≤ (ns.map D.int).length
    · rw [Nat.min_eq_left h]
    · rw [Nat.min_eq_right (by omega), List.take_of_length_le (Nat.le_refl _), List.take_of_length_le (by omega)]
  have e : mergeD [] [(kS "cells", D.ref p2), (kS "at", .int 0), (kS "left", .int 0)] = penKv p2 0 0 := by
    unfold mergeD penKv
    simp only [List.foldl, putD, hasD, valD, Option.isSome, if_neg k_ca, if_neg k_cl, if_neg k_al, if_false, Bool.false_eq_true, List.nil_append, List.cons_append]
  refine q p3 p2 _ ⟨ns.take 63, 0, 0, by rw [updS_same]; exact congrArg (fun t => some (O.dk t)) e, ?_, by rw [List.length_take]; omega, by decide, by decide, by decide⟩ ?_
  · rw [updS_ne n23, updS_same, cut]
  · exact ((Gr.new hp1).trans (.new hp2)).trans (.new hp3)
theorem any_nms {f : Str} (l : List Str) : ((l.map DL.D.str).any fun z => eqF z (.str f)) = decide (f ∈ l) := by
  induction l with
  | nil => rfl
  | cons a r ih =>
    rw [List.map_cons, List.any_cons, ih]
    show ((a == f) || decide (f ∈ r)) = decide (f ∈ a :: r)
    by_cases c : a = f
    · subst c
      simp
    · have : (a == f) = false := by simpa using c
      rw [this, Bool.false_or]
      have : (f ∈ a :: r) ↔ f ∈ r := ⟨fun h => (List.mem_cons.mp h).resolve_left fun e => c e.symm, List.mem_cons_of_mem _⟩
      rw [decide_eq_decide]
      exact this.symm
theorem nonm_str {rs : List Rx} {z : Str} {S : Sto} (h : z ∉ rs.map (·.n)) : NoNm S (.str z) rs := fun x hx K hK => by
  have ne : x.n ≠ z := fun e => h (by rw [← e]; exact List.mem_map_of_mem hx)
  rw [gEqX_ss]
  simp_arith! []
  rw [decide_eq_false ne]
  exact hK
theorem nonm_things {rs : List Rx} {oth : List Str} {S : Sto} {w1 w2 : Addr} (hnm : ∀ x ∈ rs, Nm x.n) (hoth : ∀ z ∈ oth, z ∉ rs.map (·.n)) (e1 : S w1 = some (.lst [.str "a"])) (e2 : S w2 = some (.dk [])) {d : DL.D} (hd : d ∈ oth.map DL.D.str ++ [.non, .bl true, .int 7, .str "", .str "A", .ref w1, .tup [.str "a"], .ref w2]) : NoNm S d rs := by
  rcases List.mem_append.mp hd with hd | hd
  · obtain ⟨z, hz, rfl⟩ := List.mem_map.mp hd
    exact nonm_str (hoth z hz)
  · simp only [List.mem_cons, List.not_mem_nil, or_false] at hd
    rcases hd with rfl | rfl | rfl | rfl | rfl | rfl | rfl | rfl
    · intro x hx K hK
      exact hK
    · intro x hx K hK
      exact hK
    · intro x hx K hK
      exact hK
    · refine nonm_str fun hm => ?_
      obtain ⟨x, hx, e⟩ := List.mem_map.mp hm
      have := (hnm x hx).lo
      rw [e] at this
      exact absurd this (by decide)
    · refine nonm_str fun hm => ?_
      obtain ⟨x, hx, e⟩ := List.mem_map.mp hm
      have := (hnm x hx).lt
      rw [e] at this
      exact absurd (this 65 (by decide)).1 (by decide)
    · intro x hx K hK
      exact .inr ⟨_, _, .str _, .lst e1 (.cons (.str _) .nil), Nat.zero_le _, hK⟩
    · intro x hx K hK
      rw [gEqX_st]
      exact ⟨_, _, .str _, .tup (.cons (.str _) .nil), Nat.zero_le _, hK⟩
    · intro x hx K hK
      exact .inl ⟨_, e2, hK⟩
theorem law_true (ns : List Int) (hns : ns.length ≤ 63) : m_law [.fl (ns.map .int)] (tabS (tabT.map fun t => (t.2.2.1, t.2.2.2))) (fun d _ => d = .bl true) := by
  have hT : TJ (tabS (tabT.map fun t => (t.2.2.1, t.2.2.2))) := rfl
  have hW : TW (tabS (tabT.map fun t => (t.2.2.1, t.2.2.2))) := rfl
  have hL : TL (tabS (tabT.map fun t => (t.2.2.1, t.2.2.2))) := rfl
  generalize tabS (tabT.map fun t => (t.2.2.1, t.2.2.2)) = S0 at hT hW hL
  rw [e_law]
  refine seq_i ?_
  simp_arith! []
  refine pen_spec fun p pc S1 p1 g1 => ?_
  have nof : ∀ {a : Addr} {q : Str}, S1 a = some (.tab q) → a ≠ p := fun ha e => by
    obtain ⟨_, _, _, z, _⟩ := p1.ex
    rw [← e, ha] at z
    cases z
  have nT := nof (g1 _ _ hT)
  have nW := nof (g1 _ _ hW)
  have nL := nof (g1 _ _ hL)
  unfold t_law_2
  refine seq_i ?_
  simp_arith! []
  refine wworld_spec p1 (by omega) fun xs rs ho hs S2 hR nd hnm hl40 th hl2 hl5 p2 g2 => ?_
  have T2 : TJ S2 := g2 _ _ nT (g1 _ _ hT)
  have W2 : TW S2 := g2 _ _ nW (g1 _ _ hW)
  have L2' : TL S2 := g2 _ _ nL (g1 _ _ hL)
  have e2 := th.at_
  simp_arith! []
  unfold t_law_3
  refine seq_i ?_
  simp_arith! [wk_rollN]
  rw [show rollX xs rs = .tup [.tup (xs.map Fd.D), .tup (rs.map Rx.D)] from rfl]
  simp_arith! []
  refine ⟨_, atI_nat (j := 1) rfl, ?_⟩
  refine lcL_map (fun d => match d with | .tup (_ :: n :: _) => n | _ => .non) _ trivial (Nat.le_of_lt (line_k (by rw [List.length_map]; omega))) (fun y hy Q q => ?_) ?_
  · obtain ⟨z, hz, rfl⟩ := List.mem_map.mp hy
    rw [rx_tup z] at q ⊢
    simp_arith! [c_law_3]
    exact ⟨_, atI_nat (j := 1) rfl, q⟩
  intro c hc
  have eT : ((rs.map Rx.D).map fun d => match d with | .tup (_ :: n :: _) => n | _ => .non) = (rs.map (·.n)).map DL.D.str := by
    rw [List.map_map, List.map_map]
    rfl
  rw [eT]
  have nc := (p2.ne hc).1
  have p3 := p2.new (o := .lst ((rs.map (·.n)).map DL.D.str)) hc
  have g3 := (Gr.new (o := .lst ((rs.map (·.n)).map DL.D.str)) hc)
  have ec : updS S2 c (.lst ((rs.map (·.n)).map DL.D.str)) c = some (.lst ((rs.map (·.n)).map DL.D.str)) := updS_same
  show t_law_4 _ _ (updS S2 c (.lst ((rs.map (·.n)).map DL.D.str)))
  generalize updS S2 c (.lst ((rs.map (·.n)).map DL.D.str)) = S3 at p3 g3 ec
  unfold t_law_4
  refine seq_i ?_
  simp_arith! [ec]
  rw [List.length_map, List.length_map]
  refine take_spec p3 (by omega) (by omega) (log_small (by omega) (by omega)) fun t S4 t0 t1 p4 k4 => ?_
  have k4' : Kp p S2 S4 := g3.kp.trans k4
  have T4 : TJ S4 := k4' _ _ nT T2
  have W4 : TW S4 := k4' _ _ nW W2
  have L4 : TL S4 := k4' _ _ nL L2'
  have ec4 := k4 _ _ nc ec
  have eh4 := (th.kp k4').at_
  unfold t_law_5
  refine seq_i ?_
  refine for_i ?_
  simp_arith! [ec4]
  rw [List.length_map, List.length_map]
  refine ⟨by omega, by omega, ?_⟩
  rw [Int.toNat_natCast]
  refine forR_inv 0 rs.length (fun i σ S' => (∃ u4, σ = [some (.fl (ns.map .int)), some (.ref p), some (.ref c), some (.int t), u4, none, none, some (rollN xs rs), some (.ref ho), none, none, none]) ∧ Gr S4 S') (fun _ _ _ _ => trivial) (fun k σ S' N hk hJ hN => ?turn) (fun σ S' hJ => ?fin) ⟨⟨none, rfl⟩, .refl⟩
  case turn =>
    obtain ⟨⟨u4, rfl⟩, g⟩ := hJ
    rw [Int.zero_add]
    unfold l_law_5
    simp_arith! [g _ _ ec4]
    rw [List.length_map, List.length_map]
    have hn0 : (0 : Int) < (rs.length : Nat) := by omega
    obtain ⟨jn, ej⟩ := Int.eq_ofNat_of_zero_le (Int.emod_nonneg (t + 7 * ((k : Nat) : Int)) (show ((rs.length : Nat) : Int) ≠ 0 by omega))
    have hj : jn < rs.length := by
      have := Int.emod_lt_of_pos (t + 7 * ((k : Nat) : Int)) hn0
      omega
    refine ⟨wide_mul (a := 4) (b := 10) (by decide) (by omega) (by decide) (by decide) (by decide), hn0, ?_⟩
    rw [ej]
    refine wright_spec hR nd hj (g _ _ T4) (g _ _ W4) fun S5 g5 => ?_
    simp_arith! []
    exact hN _ _ ⟨⟨_, rfl⟩, g.trans g5⟩
  case fin =>
    obtain ⟨⟨u4, rfl⟩, g⟩ := hJ
    simp_arith! [t_law_8]
    refine seq_i ?_
    simp_arith! [g _ _ eh4]
    refine ⟨by decide, fun v1 hv1 => ?_⟩
    have eh5 : updS S' v1 (.lst [.str "a", .str "zzzzzzzz"]) ho = some (.lst (hs.map .str)) := by rw [updS_ne (neS (g _ _ eh4) hv1)]; exact g _ _ eh4
    refine ⟨_, eh5, _, updS_same, by rw [List.length_map]; exact Nat.le_of_lt (line_k (show hs.length + 2 ≤ 4000 by omega)), fun v2 hv2 => ?_⟩
    refine ⟨_, updS_same, ?_⟩
    have eA : hs.map DL.D.str ++ [.str "a", .str "zzzzzzzz"] = (hs ++ [("a" : Str), "zzzzzzzz"]).map DL.D.str := by rw [List.map_append]; rfl
    rw [eA]
    have g5 : Gr S' (updS (updS S' v1 (.lst [.str "a", .str "zzzzzzzz"])) v2 (.lst ((hs ++ [("a" : Str), "zzzzzzzz"]).map DL.D.str))) := (Gr.new hv1).trans (.new (by rw [← eA] at *; exact hv2))
    have e5 : updS (updS S' v1 (.lst [.str "a", .str "zzzzzzzz"])) v2 (.lst ((hs ++ [("a" : Str), "zzzzzzzz"]).map DL.D.str)) v2 = some (.lst ((hs ++ [("a" : Str), "zzzzzzzz"]).map DL.D.str)) := updS_same
    generalize updS (updS S' v1 (.lst [.str "a", .str "zzzzzzzz"])) v2 (.lst ((hs ++ [("a" : Str), "zzzzzzzz"]).map DL.D.str)) = S5 at g5 e5
    have gg5 := g.trans g5
    have lz : (hs ++ [("a" : Str), "zzzzzzzz"]).length ≤ 52 := by rw [List.length_append]; show hs.length + 2 ≤ 52; omega
    generalize hs ++ [("a" : Str), "zzzzzzzz"] = hz at e5 lz
    have ec5 := gg5 _ _ ec4
    refine lcL_filter (fun d => d) (fun d => match d with | .str z => !decide (z ∈ rs.map (·.n)) | _ => false) _ e5 (Nat.le_of_lt (line_k (by rw [List.length_map]; omega))) ?_ (fun y hy T G t1 t2 => ?_)
    · intro v3 hv3
      have ef : (((hz.map DL.D.str).filter fun d => match d with | .str z => !decide (z ∈ rs.map (·.n)) | _ => false).map fun d => d) = (hz.filter fun z => !decide (z ∈ rs.map (·.n))).map DL.D.str := by
        rw [List.filter_map, List.map_id']
        rfl
      rw [ef]
      have hoth : ∀ z ∈ hz.filter (fun z => !decide (z ∈ rs.map (·.n))), z ∉ rs.map (·.n) := fun z hz => by
        rw [List.mem_filter] at hz
        simpa using hz.2
      have lo : (hz.filter fun z => !decide (z ∈ rs.map (·.n))).length ≤ 52 := Nat.le_trans (List.length_filter_le _ _) lz
      generalize hz.filter (fun z => !decide (z ∈ rs.map (·.n))) = oth at hoth lo
      have e6 : updS S5 v3 (.lst (oth.map DL.D.str)) v3 = some (.lst (oth.map DL.D.str)) := updS_same
      have g6 := gg5.trans (Gr.new (o := .lst (oth.map DL.D.str)) hv3)
      show t_law_9 _ _ (updS S5 v3 (.lst (oth.map DL.D.str)))
      generalize updS S5 v3 (.lst (oth.map DL.D.str)) = S6 at e6 g6
      unfold t_law_9
      refine seq_i ?_
      refine for_i ?_
      simp_arith! []
      refine ⟨by decide, fun w1 hw1 => ⟨by decide, fun w2 hw2 => ⟨by decide, fun w3 hw3 => ?_⟩⟩⟩
      have a1 : updS S6 w1 (.lst [.str "a"]) w1 = some (.lst [.str "a"]) := updS_same
      have h1 : Gr S6 (updS S6 w1 (.lst [.str "a"])) := .new hw1
      have a6 := h1 _ _ e6
      have h6 := g6.trans h1
      generalize updS S6 w1 (.lst [.str "a"]) = S7 at a1 h1 a6 h6 hw2 hw3 ⊢
      have b2 : updS S7 w2 (.dk []) w2 = some (.dk []) := updS_same
      have h2 : Gr S7 (updS S7 w2 (.dk [])) := .new hw2
      have b1 := h2 _ _ a1
      have b6 := h2 _ _ a6
      have h7 := h6.trans h2
      generalize updS S7 w2 (.dk []) = S8 at b1 b2 h2 b6 h7 hw3 ⊢
      have h3 : Gr S8 (updS S8 w3 (.lst [.non, .bl true, .int 7, .str "", .str "A", .ref w1, .tup [.str "a"], .ref w2])) := .new hw3
      refine ⟨_, h3 _ _ b6, _, updS_same, Nat.le_of_lt (line_k (by rw [List.length_map]; show oth.length + 8 ≤ 4000; omega)), fun w4 hw4 => ⟨_, updS_same, ?_⟩⟩
      have c1 := h3 _ _ b1
      have c2 := h3 _ _ b2
      have h8 := h7.trans h3
      generalize updS S8 w3 (.lst [.non, .bl true, .int 7, .str "", .str "A", .ref w1, .tup [.str "a"], .ref w2]) = S9 at c1 c2 h8 hw4 ⊢
      have d4 : updS S9 w4 (.lst (oth.map DL.D.str ++ [.non, .bl true, .int 7, .str "", .str "A", .ref w1, .tup [.str "a"], .ref w2])) w4 = some (.lst (oth.map DL.D.str ++ [.non, .bl true, .int 7, .str "", .str "A", .ref w1, .tup [.str "a"], .ref w2])) := updS_same
      have h4 : Gr S9 (updS S9 w4 (.lst (oth.map DL.D.str ++ [.non, .bl true, .int 7, .str "", .str "A", .ref w1, .tup [.str "a"], .ref w2]))) := .new hw4
      have d1 := h4 _ _ c1
      have d2 := h4 _ _ c2
      have h9 := h8.trans h4
      generalize updS S9 w4 (.lst (oth.map DL.D.str ++ [.non, .bl true, .int 7, .str "", .str "A", .ref w1, .tup [.str "a"], .ref w2])) = S10 at d1 d2 d4 h9 ⊢
      refine forL_inv _ (fun i σ S' => ∃ u6 : Option DL.D, σ = [some (.fl (ns.map .int)), some (.ref p), some (.ref c), some (.int t), u4, some (.ref v3), u6, some (rollN xs rs), some (.ref ho), none, none, none] ∧ Gr S10 S') (fun _ σ S' ⟨_, _, g⟩ => g _ _ d4) (fun i y σ S' N hyi hJ hN => ?turn2) (fun σ S' hJ => ?fin2) ⟨_, rfl, .refl⟩
      case turn2 =>
        obtain ⟨_, rfl, g10⟩ := hJ
        have hNo := nonm_things hnm hoth (g10 _ _ d1) (g10 _ _ d2) (List.mem_of_getElem? hyi)
        unfold l_law_9
        simp_arith! []
        unfold eLamC
        refine ⟨g10 _ _ (h9 _ _ L4), told_x (.inr rfl) (fun Qd Ed h => ?_) fun r S11 g11 er => ?_⟩
        · simp_arith! []
          exact ring_none hNo h
        · refine ⟨by decide, fun q hq => ?_⟩
          have g12 : Gr S11 (updS S11 q (.lst ([("refused" : Str), "NoName"].map .str))) := .new hq
          refine eq_strs (g12 _ _ er) updS_same ?_
          simp_arith! []
          exact hN _ _ ⟨_, rfl, g10.trans (g11.trans g12)⟩
      case fin2 =>
        obtain ⟨_, rfl, g10⟩ := hJ
        have gA := h9.trans g10
        simp_arith! [t_law_12, gA _ _ ec4]
        rw [List.length_map, List.length_map]
        refine ⟨by omega, by omega, ?_⟩
        rw [Int.toNat_natCast]
        refine lcL_inv _ (fun i acc S' => Gr S10 S' ∧ acc = (List.replicate i true).map DL.D.bl) (fun _ _ _ _ => trivial) (fun i y acc S' N hyi hJ hN => ?turn3) (fun acc S' hJ => ?fin3) ⟨g10, rfl⟩
        case fin3 =>
          obtain ⟨g11, rfl⟩ := hJ
          intro w hw
          refine ⟨_, updS_same, ?_⟩
          have : ∀ n : Nat, (List.replicate n true).all id = true := fun n => by
            rw [List.all_eq_true]
            intro b hb
            exact (List.mem_replicate.mp hb).2
          rw [this]
        case turn3 =>
          obtain ⟨g11, rfl⟩ := hJ
          have hi : i < rs.length := by
            have := (List.getElem?_eq_some_iff.mp hyi).1
            unfold rangeD at this
            rw [List.length_map, List.length_range] at this
            exact this
          obtain rfl : y = .int (i : Nat) := by
            unfold rangeD at hyi
            rw [List.getElem?_map, List.getElem?_range hi] at hyi
            have := (Option.some.inj hyi).symm
            rw [this]
            simp
          simp_arith! [c_law_12]
          refine wright_spec hR nd hi (g11 _ _ (h9 _ _ T4)) (g11 _ _ (h9 _ _ W4)) fun S12 g12 => ?_
          refine ⟨line_k (by rw [List.length_map, List.length_replicate]; omega), hN _ _ ⟨g11.trans g12, ?_⟩⟩
          rw [List.replicate_succ', List.map_append]
          rfl
    · obtain ⟨z, hz, rfl⟩ := List.mem_map.mp hy
      simp_arith! [ec5]
      refine ⟨rfl, all_flat _, ?_⟩
      rw [any_nms]
      by_cases c1 : z ∈ rs.map (·.n)
      · rw [decide_eq_true c1]
        exact t2 (by show (!decide (z ∈ rs.map (·.n))) = false; rw [decide_eq_true c1]; rfl)
      · rw [decide_eq_false c1]
        simp_arith! [c_law_8]
        exact t1 (by show (!decide (z ∈ rs.map (·.n))) = true; rw [decide_eq_false c1]; rfl)
end LW
open PySem PySem.W PyProof.Rows
set_option maxHeartbeats 0 in
theorem PySem.Challenge.cw_dykelengths_k36_rings_told_holds : PySem.Challenge.rw_dykelengths_k36_rings_told.Holds := by
  w_on; o_law; k_head; (case hw => w_witness2)
  k_fill
  refine' DL.walk_ofT (l := PySem.Challenge.rw_dykelengths_k36_rings_told) (n := 63) (k := 14) (x := "_law_script") (m := LW.m_law) LW.tabT rfl (by decide) rfl ⟨rfl, by decide, by decide⟩ (fun w h Y => PySem.W.km_in_of Y) ?hK ?F LW.law_true
  case hK =>
    intro w h Y
    exact List.forall_mem_cons.mpr ⟨⟨DL.codeHd_l (PySem.W.km_in_of Y) (by k_is) (by rfl), PySem.W.km_tabs_of Y _ (by decide), DL.km_none Y (by decide +kernel)⟩, List.forall_mem_cons.mpr ⟨⟨DL.codeHd_l (PySem.W.km_in_of Y) (by k_is) (by rfl), PySem.W.km_tabs_of Y _ (by decide), DL.km_none Y (by decide +kernel)⟩, List.forall_mem_cons.mpr ⟨⟨DL.codeHd_l (PySem.W.km_in_of Y) (by k_is) (by rfl), PySem.W.km_tabs_of Y _ (by decide), DL.km_none Y (by decide +kernel)⟩, (fun _ z => nomatch z)⟩⟩⟩
  case F =>
    intro w mg fa h Y KX G hmg
    refine' LW.law_mk KX G hmg ?T ?a2 ?l2 ?c2 ?k2
    (case a2 => k_is); (case l2 => k_is); (case c2 => k_is); (case k2 => k_is)
    case T =>
      refine' ⟨?f0, ?f1, ?f2, ?f3, ?f4, ?f5, ?f6, ?f7, ?f8, ?f9, ?f10, ?f11, ?f12, ?f13, ?f14, ?f15, ?f16, ?f17, ?f18, ?f19, ?f20, ?f21, ?f22, ?f23, ?f24, ?f25, ?f26, ?f27, ?f28, ?f29, ?f30, ?f31, ?f32, ?f33, ?f34, ?f35, ?f36, ?n0, ?n1, ?n2, ?n3, ?n4, ?n5, ?n6, ?n7, ?n8, ?n9, ?n10, ?n11, ?n12, ?n13, ?n14, ?k0, ?k1, ?k2, ?k3, ?k4, ?k5, ?k6, ?k7, ?k8, ?k9, ?k10, ?k11, ?k12, ?e0, ?e1, ?h0, ?xt⟩
      case f0 =>
        refine' LW.ft_mk KX G ?a ?l ?c ?k (fun _ _ _ _ _ _ us hl => match us, hl with | [_], _ => rfl)
        (case a => k_is); (case l => k_is); (case c => k_is); (case k => k_is)
      case f1 =>
        refine' LW.ft_mk KX G ?a ?l ?c ?k (fun _ _ _ _ _ _ us hl => match us, hl with | [_, _], _ => rfl)
        (case a => k_is); (case l => k_is); (case c => k_is); (case k => k_is)
      case f2 =>
        refine' LW.ft_mk KX G ?a ?l ?c ?k (fun _ _ _ _ _ _ us hl => match us, hl with | [_, _], _ => rfl)
        (case a => k_is); (case l => k_is); (case c => k_is); (case k => k_is)
      case f3 =>
        refine' LW.ft_mk KX G ?a ?l ?c ?k (fun _ _ _ _ _ _ us hl => match us, hl with | [_, _, _], _ => rfl)
        (case a => k_is); (case l => k_is); (case c => k_is); (case k => k_is)
      case f4 =>
        refine' LW.ft_mk KX G ?a ?l ?c ?k (fun _ _ _ _ _ _ us hl => match us, hl with | [_, _, _], _ => rfl)
        (case a => k_is); (case l => k_is); (case c => k_is); (case k => k_is)
      case f5 =>
        refine' LW.ft_mk KX G ?a ?l ?c ?k (fun _ _ _ _ _ _ us hl => match us, hl with | [_, _, _], _ => rfl)
        (case a => k_is); (case l => k_is); (case c => k_is); (case k => k_is)
      case f6 =>
        refine' LW.ft_mk KX G ?a ?l ?c ?k (fun _ _ _ _ _ _ us hl => match us, hl with | [_, _], _ => rfl)
        (case a => k_is); (case l => k_is); (case c => k_is); (case k => k_is)
      case f7 =>
        refine' LW.ft_mk KX G ?a ?l ?c ?k (fun _ _ _ _ _ _ us hl => match us, hl with | [_, _, _], _ => rfl)
        (case a => k_is); (case l => k_is); (case c => k_is); (case k => k_is)
      case f8 =>
        refine' LW.ft_mk KX G ?a ?l ?c ?k (fun _ _ _ _ _ _ us hl => match us, hl with | [_, _, _, _, _], _ => rfl)
        (case a => k_is); (case l => k_is); (case c => k_is); (case k => k_is)
      case f9 =>
        refine' LW.ft_mk KX G ?a ?l ?c ?k (fun _ _ _ _ _ _ us hl => match us, hl with | [_, _, _, _], _ => rfl)
        (case a => k_is); (case l => k_is); (case c => k_is); (case k => k_is)
      case f10 =>
        refine' LW.ft_mk KX G ?a ?l ?c ?k (fun _ _ _ _ _ _ us hl => match us, hl with | [_, _, _, _, _], _ => rfl)
        (case a => k_is); (case l => k_is); (case c => k_is); (case k => k_is)
      case f11 =>
        refine' LW.ft_mk KX G ?a ?l ?c ?k (fun _ _ _ _ _ _ us hl => match us, hl with | [_], _ => rfl)
        (case a => k_is); (case l => k_is); (case c => k_is); (case k => k_is)
      case f12 =>
        refine' LW.ft_mk KX G ?a ?l ?c ?k (fun _ _ _ _ _ _ us hl => match us, hl with | [_, _, _, _], _ => rfl)
        (case a => k_is); (case l => k_is); (case c => k_is); (case k => k_is)
      case f13 =>
        refine' LW.ft_mk KX G ?a ?l ?c ?k (fun _ _ _ _ _ _ us hl => match us, hl with | [_], _ => rfl)
        (case a => k_is); (case l => k_is); (case c => k_is); (case k => k_is)
      case f14 =>
        refine' LW.ft_mk KX G ?a ?l ?c ?k (fun _ _ _ _ _ _ us hl => match us, hl with | [_, _], _ => rfl)
        (case a => k_is); (case l => k_is); (case c => k_is); (case k => k_is)
      case f15 =>
        refine' LW.ft_mk KX G ?a ?l ?c ?k (fun _ _ _ _ _ _ us hl => match us, hl with | [_], _ => rfl)
        (case a => k_is); (case l => k_is); (case c => k_is); (case k => k_is)
      case f16 =>
        refine' LW.ft_mk KX G ?a ?l ?c ?k (fun _ _ _ _ _ _ us hl => match us, hl with | [_, _], _ => rfl)
        (case a => k_is); (case l => k_is); (case c => k_is); (case k => k_is)
      case f17 =>
        refine' LW.ft_mk KX G ?a ?l ?c ?k (fun _ _ _ _ _ _ us hl => match us, hl with | [_, _], _ => rfl)
        (case a => k_is); (case l => k_is); (case c => k_is); (case k => k_is)
      case f18 =>
        refine' LW.ft_mk KX G ?a ?l ?c ?k (fun _ _ _ _ _ _ us hl => match us, hl with | [_, _], _ => rfl)
        (case a => k_is); (case l => k_is); (case c => k_is); (case k => k_is)
      case f19 =>
        refine' LW.ft_mk KX G ?a ?l ?c ?k (fun _ _ _ _ _ _ us hl => match us, hl with | [_], _ => rfl)
        (case a => k_is); (case l => k_is); (case c => k_is); (case k => k_is)
      case f20 =>
        refine' LW.ft_mk KX G ?a ?l ?c ?k (fun _ _ _ _ _ _ us hl => match us, hl with | [_], _ => rfl)
        (case a => k_is); (case l => k_is); (case c => k_is); (case k => k_is)
      case f21 =>
        refine' LW.ft_mk KX G ?a ?l ?c ?k (fun _ _ _ _ _ _ us hl => match us, hl with | [_, _], _ => rfl)
        (case a => k_is); (case l => k_is); (case c => k_is); (case k => k_is)
      case f22 =>
        refine' LW.ft_mk KX G ?a ?l ?c ?k (fun _ _ _ _ _ _ us hl => match us, hl with | [_, _], _ => rfl)
        (case a => k_is); (case l => k_is); (case c => k_is); (case k => k_is)
      case f23 =>
        refine' LW.ft_mk KX G ?a ?l ?c ?k (fun _ _ _ _ _ _ us hl => match us, hl with | [_, _], _ => rfl)
        (case a => k_is); (case l => k_is); (case c => k_is); (case k => k_is)
      case f24 =>
        refine' LW.ft_mk KX G ?a ?l ?c ?k (fun _ _ _ _ _ _ us hl => match us, hl with | [_, _], _ => rfl)
        (case a => k_is); (case l => k_is); (case c => k_is); (case k => k_is)
      case f25 =>
        refine' LW.ft_mk KX G ?a ?l ?c ?k (fun _ _ _ _ _ _ us hl => match us, hl with | [_, _, _], _ => rfl)
        (case a => k_is); (case l => k_is); (case c => k_is); (case k => k_is)
      case f26 =>
        refine' LW.ft_mk KX G ?a ?l ?c ?k (fun _ _ _ _ _ _ us hl => match us, hl with | [_, _], _ => rfl)
        (case a => k_is); (case l => k_is); (case c => k_is); (case k => k_is)
      case f27 =>
        refine' LW.ftc_mk KX G ?a ?l ?c ?k (fun _ _ _ _ _ _ us hl => match us, hl with | [_, _], _ => rfl)
        (case a => k_is); (case l => k_is); (case c => k_is); (case k => k_is)
      case f28 =>
        refine' LW.ft_mk KX G ?a ?l ?c ?k (fun _ _ _ _ _ _ us hl => match us, hl with | [_, _, _], _ => rfl)
        (case a => k_is); (case l => k_is); (case c => k_is); (case k => k_is)
      case f29 =>
        refine' LW.ft_mk KX G ?a ?l ?c ?k (fun _ _ _ _ _ _ us hl => match us, hl with | [_, _], _ => rfl)
        (case a => k_is); (case l => k_is); (case c => k_is); (case k => k_is)
      case f30 =>
        refine' LW.ft_mk KX G ?a ?l ?c ?k (fun _ _ _ _ _ _ us hl => match us, hl with | [_, _], _ => rfl)
        (case a => k_is); (case l => k_is); (case c => k_is); (case k => k_is)
      case f31 =>
        refine' LW.ft_mk KX G ?a ?l ?c ?k (fun _ _ _ _ _ _ us hl => match us, hl with | [_, _, _], _ => rfl)
        (case a => k_is); (case l => k_is); (case c => k_is); (case k => k_is)
      case f32 =>
        refine' LW.ft_mk KX G ?a ?l ?c ?k (fun _ _ _ _ _ _ us hl => match us, hl with | [_, _], _ => rfl)
        (case a => k_is); (case l => k_is); (case c => k_is); (case k => k_is)
      case f33 =>
        refine' LW.ft_mk KX G ?a ?l ?c ?k (fun _ _ _ _ _ _ us hl => match us, hl with | [_], _ => rfl)
        (case a => k_is); (case l => k_is); (case c => k_is); (case k => k_is)
      case f34 =>
        refine' LW.ft_mk KX G ?a ?l ?c ?k (fun _ _ _ _ _ _ us hl => match us, hl with | [_], _ => rfl)
        (case a => k_is); (case l => k_is); (case c => k_is); (case k => k_is)
      case f35 =>
        refine' LW.ftc_mk KX G ?a ?l ?c ?k (fun _ _ _ _ _ _ us hl => match us, hl with | [_, _], _ => rfl)
        (case a => k_is); (case l => k_is); (case c => k_is); (case k => k_is)
      case f36 =>
        refine' LW.ftc_mk KX G ?a ?l ?c ?k (fun _ _ _ _ _ _ us hl => match us, hl with | [_], _ => rfl)
        (case a => k_is); (case l => k_is); (case c => k_is); (case k => k_is)
      case n0 => exact PySem.W.mg_none_of KX G (by k_is)
      case n1 => exact PySem.W.mg_none_of KX G (by k_is)
      case n2 => exact PySem.W.mg_none_of KX G (by k_is)
      case n3 => exact PySem.W.mg_none_of KX G (by k_is)
      case n4 => exact PySem.W.mg_none_of KX G (by k_is)
      case n5 => exact PySem.W.mg_none_of KX G (by k_is)
      case n6 => exact PySem.W.mg_none_of KX G (by k_is)
      case n7 => exact PySem.W.mg_none_of KX G (by k_is)
      case n8 => exact PySem.W.mg_none_of KX G (by k_is)
      case n9 => exact PySem.W.mg_none_of KX G (by k_is)
      case n10 => exact PySem.W.mg_none_of KX G (by k_is)
      case n11 => exact PySem.W.mg_none_of KX G (by k_is)
      case n12 => exact PySem.W.mg_none_of KX G (by k_is)
      case n13 => exact PySem.W.mg_none_of KX G (by k_is)
      case n14 => exact PySem.W.mg_none_of KX G (by k_is)
      case k0 => exact DL.clsT_mk KX G (by k_is)
      case k1 => exact DL.clsT_mk KX G (by k_is)
      case k2 => exact DL.clsT_mk KX G (by k_is)
      case k3 => exact DL.clsT_mk KX G (by k_is)
      case k4 => exact DL.clsT_mk KX G (by k_is)
      case k5 => exact DL.clsT_mk KX G (by k_is)
      case k6 => exact DL.clsT_mk KX G (by k_is)
      case k7 => exact DL.clsT_mk KX G (by k_is)
      case k8 => exact DL.clsT_mk KX G (by k_is)
      case k9 => exact DL.clsT_mk KX G (by k_is)
      case k10 => exact DL.clsT_mk KX G (by k_is)
      case k11 => exact DL.clsT_mk KX G (by k_is)
      case k12 => exact DL.clsT_mk KX G (by k_is)
      case e0 =>
        refine' DL.exT_mk KX G ?a ?x ?k ?b ?t
        (case a => k_is); (case x => k_exc); (case k => k_is); (case b => k_is); (case t => k_is)
      case e1 =>
        refine' DL.exT_mk KX G ?a ?x ?k ?b ?t
        (case a => k_is); (case x => k_exc); (case k => k_is); (case b => k_is); (case t => k_is)
      case h0 =>
        refine' DL.hndT_mk KX G ?a ?b ?d ?t ?l
        (case a => k_is); (case b => k_is); (case d => k_is); (case t => k_is)
        (case l => exact List.forall_mem_cons.mpr ⟨DL.sub_mk (by k_is) (by k_is), List.forall_mem_cons.mpr ⟨DL.sub_mk (by k_is) (by k_is), (fun _ z => nomatch z)⟩⟩)
      case xt =>
        refine' List.forall_mem_cons.mpr ⟨?x0, List.forall_mem_cons.mpr ⟨?x1, (fun _ z => nomatch z)⟩⟩
        case x0 =>
          refine' DL.xis_mk ?a ?e1 ?e2 ?e3 ?e4 ?e5 ?e6 ?e7 ?e8 ?ve ?hs ?xqs
          (case a => k_is); (case e1 => k_is); (case e2 => k_is); (case e3 => k_is); (case e4 => k_is); (case e5 => k_is); (case e6 => k_is); (case e7 => k_is); (case e8 => k_is); (case ve => k_is); (case hs => k_is)
          (case xqs => exact List.forall_mem_cons.mpr ⟨DL.isa_mk (by k_is) (by k_is) (by k_is) (by k_is), List.forall_mem_cons.mpr ⟨DL.isa_mk (by k_is) (by k_is) (by k_is) (by k_is), List.forall_mem_cons.mpr ⟨DL.isa_mk (by k_is) (by k_is) (by k_is) (by k_is), List.forall_mem_cons.mpr ⟨DL.isa_mk (by k_is) (by k_is) (by k_is) (by k_is), List.forall_mem_cons.mpr ⟨DL.isa_mk (by k_is) (by k_is) (by k_is) (by k_is), List.forall_mem_cons.mpr ⟨DL.isa_mk (by k_is) (by k_is) (by k_is) (by k_is), List.forall_mem_cons.mpr ⟨DL.isa_mk (by k_is) (by k_is) (by k_is) (by k_is), List.forall_mem_cons.mpr ⟨DL.isa_mk (by k_is) (by k_is) (by k_is) (by k_is), List.forall_mem_cons.mpr ⟨DL.isa_mk (by k_is) (by k_is) (by k_is) (by k_is), List.forall_mem_cons.mpr ⟨DL.isa_mk (by k_is) (by k_is) (by k_is) (by k_is), List.forall_mem_cons.mpr ⟨DL.isa_mk (by k_is) (by k_is) (by k_is) (by k_is), List.forall_mem_cons.mpr ⟨DL.isa_mk (by k_is) (by k_is) (by k_is) (by k_is), List.forall_mem_cons.mpr ⟨DL.isa_mk (by k_is) (by k_is) (by k_is) (by k_is), (fun _ z => nomatch z)⟩⟩⟩⟩⟩⟩⟩⟩⟩⟩⟩⟩⟩)
        case x1 =>
          refine' DL.xis_mk ?a ?e1 ?e2 ?e3 ?e4 ?e5 ?e6 ?e7 ?e8 ?ve ?hs ?xqs
          (case a => k_is); (case e1 => k_is); (case e2 => k_is); (case e3 => k_is); (case e4 => k_is); (case e5 => k_is); (case e6 => k_is); (case e7 => k_is); (case e8 => k_is); (case ve => k_is); (case hs => k_is)
          (case xqs => exact List.forall_mem_cons.mpr ⟨DL.isa_mk (by k_is) (by k_is) (by k_is) (by k_is), List.forall_mem_cons.mpr ⟨DL.isa_mk (by k_is) (by k_is) (by k_is) (by k_is), List.forall_mem_cons.mpr ⟨DL.isa_mk (by k_is) (by k_is) (by k_is) (by k_is), List.forall_mem_cons.mpr ⟨DL.isa_mk (by k_is) (by k_is) (by k_is) (by k_is), List.forall_mem_cons.mpr ⟨DL.isa_mk (by k_is) (by k_is) (by k_is) (by k_is), List.forall_mem_cons.mpr ⟨DL.isa_mk (by k_is) (by k_is) (by k_is) (by k_is), List.forall_mem_cons.mpr ⟨DL.isa_mk (by k_is) (by k_is) (by k_is) (by k_is), List.forall_mem_cons.mpr ⟨DL.isa_mk (by k_is) (by k_is) (by k_is) (by k_is), List.forall_mem_cons.mpr ⟨DL.isa_mk (by k_is) (by k_is) (by k_is) (by k_is), List.forall_mem_cons.mpr ⟨DL.isa_mk (by k_is) (by k_is) (by k_is) (by k_is), List.forall_mem_cons.mpr ⟨DL.isa_mk (by k_is) (by k_is) (by k_is) (by k_is), List.forall_mem_cons.mpr ⟨DL.isa_mk (by k_is) (by k_is) (by k_is) (by k_is), List.forall_mem_cons.mpr ⟨DL.isa_mk (by k_is) (by k_is) (by k_is) (by k_is), (fun _ z => nomatch z)⟩⟩⟩⟩⟩⟩⟩⟩⟩⟩⟩⟩⟩)
