import PyProof.Rows.All
import Wide.All
import OpenK.AllK
import Wide.FinOn
import HandS.ForMost
import HandS.Wide
import HandS.IsInst
import HandS.TupAny
import HandS.Style
import HandS.Exc
import HandS.Lambda
import KE.DataEq
import HandS.NoneIn
import HandS.SortInts
import HandS.TupMul
import HandS.Zip
import KE.LtData
import HandS.More
import KE.SortKeyHeap
import HandS.SortKw
import HandS.TupSets
import HandS.SetKeys
import HandS.RaiseMore
import KE.KDictList
import HandS.Sort
import HandS.Text
import HandS.Codes
import HandS.TryOnly
import HandS.ExcOwn
import HandS.WordsExc
import HandS.ExcValue
import HandS.ExcIs
import KE.SortCalls
import KE.SortData
import KE.DataFind
import HandS.CallLocal
import HandS.Conv
import HandS.Nested
import HandS.EndTab
import PyProof.SeqIndex
import KE.DataCmp
import HandS.SetFor
import HandS.Set
import KE.GoesMore
import KE.KDictSum
import HandS.MapSum
import KE.GoesZip
import HandS.Flow
import KE.KDictPairs
import KE.KDictCopyH
import PyProof.StrOps2
import PyProof.EqKinds
import PyProof.FactsAll.dict_1
import KE.KItemsList
import KE.KNest
import PySem.Challenge.RW_dykelengths_k07_rows_put_in_and_left_out
set_option Elab.async false
set_option linter.all false
set_option maxRecDepth 100000
set_option maxHeartbeats 4000000
/-! pure data over the abstract heap: tuples are values, lists and dicts stand in a store -/
namespace DL
open PySem PySem.Spec PyProof.Rows L2
/-! ### data, store -/
inductive D where
  | non | bl (b : Bool) | int (i : Int) | str (s : Str) | tup (xs : List D) | ref (a : Addr) | fl (xs : List D) | ty (n : String) | exc (c : Str) | cls (c : Str) | kt (ks : List Key) | nt (xs : List D)
  deriving Inhabited
inductive O where
  | lst (xs : List D) | dk (kvs : List (Key × D)) | dt (kvs : List (List Key × D)) | tab (q : Str) | fz (kvs : List (Key × D)) | ins (c : Str) (fs : List (Str × D))
abbrev Sto := Addr → Option O
abbrev Env := List (Option D)
abbrev DK := D → Sto → Prop
abbrev DE := Env → Sto → DK → Prop
abbrev DT := Env → Sto → (Bool → Sto → Prop) → Prop
abbrev DA := Env → Sto → (List D → Sto → Prop) → Prop
def updS (S : Sto) (a : Addr) (o : O) : Sto := fun b => if b = a then some o else S b
theorem updS_same {S : Sto} {a : Addr} {o : O} : updS S a o a = some o := by unfold updS; rw [if_pos rfl]
theorem updS_ne {S : Sto} {a b : Addr} {o : O} (h : b ≠ a) : updS S a o b = S b := by unfold updS; rw [if_neg h]
theorem updS_updS {S : Sto} {a : Addr} {o u : O} : updS (updS S a o) a u = updS S a u := by
  funext b; unfold updS; split <;> rfl
theorem neS {S : Sto} {a b : Addr} {o : O} (h : S a = some o) (h' : S b = none) : a ≠ b := by
  intro e; subst e; rw [h] at h'; cases h'
/-- a list that never changes: locked, or of the written part -/
def FrL (K : PySem.W.Frag) (H : Hp) (a : Addr) (vs : List V) : Prop := (∃ o, H a = some (.frz o (.lst vs))) ∨
    ∃ (o : Obj) (its : Array Value) (n : Nat), K.lookup a = some o ∧ o.cls = .type "list" ∧ o.dict = none ∧ o.data = .seq its n ∧ its.size ≤ sizeLine ∧ Vals vs its.toList
theorem FrL.sq {K : PySem.W.Frag} {H : Hp} {a : Addr} {vs : List V} (h : FrL K H a vs) : SqL K H a vs := by
  rcases h with h | h
  · exact .inl (.inr h)
  · exact .inr h
/-- a tuple whose object is known, without a dict of its own -/
def NeT (H : Hp) (a : Addr) (vs : List V) : Prop := ∃ o : Obj, H a = some (.frz o (.tup vs)) ∧ o.dict = none
theorem NeT.sq {K : PySem.W.Frag} {H : Hp} {a : Addr} {vs : List V} (h : NeT H a vs) : SqT K H a vs := by
  obtain ⟨o, e, _⟩ := h
  exact .inl (.inr ⟨o, e⟩)
/-- at a: a caught exception of the class at C -/
def ExC (a C : Addr) : HO := .ext fun h => ∃ (oe : Obj) (vs : Array Value), h.get? a = some oe ∧ Zc (.ref C) none oe ∧ oe.data = .fields vs
mutual
inductive Rep (K : PySem.W.Frag) (H : Hp) : V → D → Prop
  | non : Rep K H .non .non
  | bl (b : Bool) : Rep K H (.bl b) (.bl b)
  | int (i : Int) : Rep K H (.int i) (.int i)
  | str (s : Str) : Rep K H (.str s) (.str s)
  | ref (a : Addr) : Rep K H (.ref a) (.ref a)
  | ty (n : String) : Rep K H (.ty n) (.ty n)
  | tup {a : Addr} {vs : List V} {ds : List D} (h : SqT K H a vs) (r : Reps K H vs ds) : Rep K H (.ref a) (.tup ds)
  | fl {a : Addr} {vs : List V} {ds : List D} (h : FrL K H a vs) (r : Reps K H vs ds) : Rep K H (.ref a) (.fl ds)
  | exc {a C : Addr} {c : Str} (n : PySem.W.nsIn K mainGlobals c = some (some (.ref C))) (h : H a = some (ExC a C)) : Rep K H (.ref a) (.exc c)
  | cls {C : Addr} {c : Str} (n : PySem.W.nsIn K mainGlobals c = some (some (.ref C))) : Rep K H (.ref C) (.cls c)
  | kt {a : Addr} {ks : List Key} (h : H a = some (.tup (ks.map kV))) : Rep K H (.ref a) (.kt ks)
  | nt {a : Addr} {vs : List V} {ds : List D} (h : NeT H a vs) (r : Reps K H vs ds) : Rep K H (.ref a) (.nt ds)
inductive Reps (K : PySem.W.Frag) (H : Hp) : List V → List D → Prop
  | nil : Reps K H [] []
  | cons {v : V} {d : D} {vs : List V} {ds : List D} (h : Rep K H v d) (r : Reps K H vs ds) : Reps K H (v :: vs) (d :: ds)
end
/-- tuples and locked lists stay -/
structure Tx (K : PySem.W.Frag) (H H' : Hp) : Prop where
  tup : ∀ a vs, SqT K H a vs → SqT K H' a vs
  fl : ∀ a vs, FrL K H a vs → FrL K H' a vs
  exc : ∀ a φ, H a = some (.ext φ) → H' a = some (.ext φ)
  kt : ∀ a vs, H a = some (.tup vs) → H' a = some (.tup vs)
  nt : ∀ a o vs, H a = some (.frz o (.tup vs)) → H' a = some (.frz o (.tup vs))
theorem Tx.refl {K : PySem.W.Frag} {H : Hp} : Tx K H H := ⟨fun _ _ h => h, fun _ _ h => h, fun _ _ h => h, fun _ _ h => h, fun _ _ _ h => h⟩
theorem Tx.trans {K : PySem.W.Frag} {H H1 H2 : Hp} (a : Tx K H H1) (b : Tx K H1 H2) : Tx K H H2 := ⟨fun c vs h => b.tup c vs (a.tup c vs h), fun c vs h => b.fl c vs (a.fl c vs h), fun c C h => b.exc c C (a.exc c C h), fun c vs h => b.kt c vs (a.kt c vs h), fun c o vs h => b.nt c o vs (a.nt c o vs h)⟩
mutual
theorem Rep.mono {K : PySem.W.Frag} {H H' : Hp} (t : Tx K H H') : ∀ {v : V} {d : D}, Rep K H v d → Rep K H' v d
  | _, _, .non => .non
  | _, _, .bl b => .bl b
  | _, _, .int i => .int i
  | _, _, .str s => .str s
  | _, _, .ref a => .ref a
  | _, _, .ty n => .ty n
  | _, _, .tup h r => .tup (t.tup _ _ h) (Reps.mono t r)
  | _, _, .fl h r => .fl (t.fl _ _ h) (Reps.mono t r)
  | _, _, .exc n h => .exc n (t.exc _ _ h)
  | _, _, .cls n => .cls n
  | _, _, .kt h => .kt (t.kt _ _ h)
  | _, _, .nt h r => .nt (by obtain ⟨o, e, n⟩ := h; exact ⟨o, t.nt _ _ _ e, n⟩) (Reps.mono t r)
theorem Reps.mono {K : PySem.W.Frag} {H H' : Hp} (t : Tx K H H') : ∀ {vs : List V} {ds : List D}, Reps K H vs ds → Reps K H' vs ds
  | _, _, .nil => .nil
  | _, _, .cons h r => .cons (Rep.mono t h) (Reps.mono t r)
end
section
variable {K : PySem.W.Frag} {H : Hp}
theorem Reps.length : ∀ {vs : List V} {ds : List D}, Reps K H vs ds → vs.length = ds.length
  | _, _, .nil => rfl
  | _, _, .cons _ r => by rw [List.length_cons, List.length_cons, Reps.length r]
theorem Reps.append : ∀ {vs us : List V} {ds es : List D}, Reps K H vs ds → Reps K H us es → Reps K H (vs ++ us) (ds ++ es)
  | _, _, _, _, .nil, s => s
  | _, _, _, _, .cons h r, s => .cons h (Reps.append r s)
theorem Reps.get : ∀ {vs : List V} {ds : List D} {i : Nat} {d : D}, Reps K H vs ds → ds[i]? = some d → ∃ v, vs[i]? = some v ∧ Rep K H v d
  | _, _, _, _, .nil, e => by simp at e
  | _, _, 0, _, .cons h _, e => by simp at e; subst e; exact ⟨_, rfl, h⟩
  | _, _, i + 1, d, .cons _ r, e => by
    obtain ⟨v, h1, h2⟩ := Reps.get (i := i) (d := d) r (by simpa using e)
    exact ⟨v, by simpa using h1, h2⟩
theorem Reps.getV : ∀ {vs : List V} {ds : List D} {i : Nat} {v : V}, Reps K H vs ds → vs[i]? = some v → ∃ d, ds[i]? = some d ∧ Rep K H v d
  | _, _, _, _, .nil, e => by simp at e
  | _, _, 0, _, .cons h _, e => by simp at e; subst e; exact ⟨_, rfl, h⟩
  | _, _, i + 1, d, .cons _ r, e => by
    obtain ⟨v, h1, h2⟩ := Reps.getV (i := i) (v := d) r (by simpa using e)
    exact ⟨v, by simpa using h1, h2⟩
theorem Reps.take : ∀ {vs : List V} {ds : List D} (n : Nat), Reps K H vs ds → Reps K H (vs.take n) (ds.take n)
  | _, _, 0, _ => by rw [List.take_zero, List.take_zero]; exact .nil
  | _, _, _ + 1, .nil => .nil
  | _, _, n + 1, .cons h r => .cons h (Reps.take n r)
theorem Reps.drop : ∀ {vs : List V} {ds : List D} (n : Nat), Reps K H vs ds → Reps K H (vs.drop n) (ds.drop n)
  | _, _, 0, r => r
  | _, _, _ + 1, .nil => .nil
  | _, _, n + 1, .cons _ r => Reps.drop n r
theorem Reps.set : ∀ {vs : List V} {ds : List D} (n : Nat) {v : V} {d : D}, Rep K H v d → Reps K H vs ds → Reps K H (vs.set n v) (ds.set n d)
  | _, _, _, _, _, _, .nil => .nil
  | _, _, 0, _, _, q, .cons h r => .cons q r
  | _, _, n + 1, _, _, q, .cons h r => .cons h (Reps.set n q r)
theorem Reps.eraseIdx : ∀ {vs : List V} {ds : List D} (n : Nat), Reps K H vs ds → Reps K H (vs.eraseIdx n) (ds.eraseIdx n)
  | _, _, _, .nil => .nil
  | _, _, 0, .cons h r => r
  | _, _, n + 1, .cons h r => .cons h (Reps.eraseIdx n r)
theorem Reps.dropLast : ∀ {vs : List V} {ds : List D}, Reps K H vs ds → Reps K H vs.dropLast ds.dropLast
  | _, _, .nil => .nil
  | _, _, .cons h .nil => .nil
  | _, _, .cons h (.cons h2 r) => .cons h (Reps.dropLast (.cons h2 r))
theorem Reps.reverse {vs : List V} {ds : List D} : Reps K H vs ds → Reps K H vs.reverse ds.reverse := by
  intro h
  induction ds generalizing vs with
  | nil => cases h; exact .nil
  | cons d r ih =>
    cases h with
    | cons h1 h2 =>
      rw [List.reverse_cons, List.reverse_cons]
      exact (ih h2).append (.cons h1 .nil)
end
/-- keys and what they hold -/
def KReps (K : PySem.W.Frag) (H : Hp) : List (Key × V) → List (Key × D) → Prop := Paired fun (p : Key × V) (q : Key × D) => p.1 = q.1 ∧ Rep K H p.2 q.2
def TReps (K : PySem.W.Frag) (H : Hp) : List (List Key × V) → List (List Key × D) → Prop := Paired fun (p : List Key × V) (q : List Key × D) => p.1 = q.1 ∧ Rep K H p.2 q.2
def FReps (K : PySem.W.Frag) (H : Hp) : List (Str × V) → List (Str × D) → Prop := Paired fun (p : Str × V) (q : Str × D) => p.1 = q.1 ∧ Rep K H p.2 q.2
def OAt (K : PySem.W.Frag) (H : Hp) (a : Addr) : O → Prop
  | .lst ds => ∃ vs, H a = some (.lst vs) ∧ Reps K H vs ds
  | .dk kvs => ∃ ws, H a = some (.dK ws) ∧ KReps K H ws kvs
  | .dt kvs => ∃ ws, H a = some (.dT ws) ∧ TReps K H ws kvs
  | .tab q => LamX.TabS H a q
  | .fz kvs => ∃ o ws, H a = some (.frz o (.dK ws)) ∧ KReps K H ws kvs
  | .ins c fs => ∃ C dx ws, PySem.W.nsIn K mainGlobals c = some (some (.ref C)) ∧ H a = some (.ins C dx ws) ∧ FReps K H ws fs
def SRep (K : PySem.W.Frag) (S : Sto) (H : Hp) : Prop := ∀ a o, S a = some o → OAt K H a o
/-- what happens: tuples stay; what is hidden from the store stays hidden, as it is -/
structure Stp (K : PySem.W.Frag) (S : Sto) (H : Hp) (S' : Sto) (H' : Hp) : Prop where
  tx : Tx K H H'
  hid : ∀ z o, S z = none → H z = some o → (∀ ps, o ≠ .tbl ps) → S' z = none ∧ H' z = some o
  frz : ∀ z ob u, H z = some (.frz ob u) → H' z = some (.frz ob u)
section
variable {K : PySem.W.Frag} {S S1 S2 : Sto} {H H1 H2 : Hp} {a p : Addr}
theorem Stp.refl : Stp K S H S H := ⟨.refl, fun _ _ a b _ => ⟨a, b⟩, fun _ _ _ a => a⟩
theorem Stp.trans (x : Stp K S H S1 H1) (y : Stp K S1 H1 S2 H2) : Stp K S H S2 H2 := ⟨x.tx.trans y.tx, fun z o a b n => y.hid z o (x.hid z o a b n).1 (x.hid z o a b n).2 n, fun z ob u a => y.frz z ob u (x.frz z ob u a)⟩
theorem OAt.mut {o : O} (h : OAt K H a o) : ∃ u, H a = some u ∧ (∀ xs, u ≠ .tup xs) ∧ (∀ ob xs, u ≠ .frz ob (.tup xs)) ∧ (∀ ob xs, u ≠ .frz ob (.lst xs)) ∧ ∀ φ, u ≠ .ext φ := by
  cases o with
  | lst ds => obtain ⟨vs, e, _⟩ := h; exact ⟨_, e, (fun _ z => nomatch z), (fun _ _ z => nomatch z), (fun _ _ z => nomatch z), fun _ z => nomatch z⟩
  | dk kvs => obtain ⟨vs, e, _⟩ := h; exact ⟨_, e, (fun _ z => nomatch z), (fun _ _ z => nomatch z), (fun _ _ z => nomatch z), fun _ z => nomatch z⟩
  | dt kvs => obtain ⟨vs, e, _⟩ := h; exact ⟨_, e, (fun _ z => nomatch z), (fun _ _ z => nomatch z), (fun _ _ z => nomatch z), fun _ z => nomatch z⟩
  | tab q => obtain ⟨ps, e, _⟩ := h; exact ⟨_, e, (fun _ z => nomatch z), (fun _ _ z => nomatch z), (fun _ _ z => nomatch z), fun _ z => nomatch z⟩
  | fz kvs => obtain ⟨ob, ws, e, _⟩ := h; exact ⟨_, e, (fun _ z => nomatch z), (fun _ _ z => nomatch z), (fun _ _ z => nomatch z), fun _ z => nomatch z⟩
  | ins c fs => obtain ⟨C, dx, ws, _, e, _⟩ := h; exact ⟨_, e, (fun _ z => nomatch z), (fun _ _ z => nomatch z), (fun _ _ z => nomatch z), fun _ z => nomatch z⟩
theorem SRep.free (h : SRep K S H) (e : H p = none) : S p = none := by
  cases q : S p with
  | none => rfl
  | some o =>
    obtain ⟨u, e2, _⟩ := (h p o q).mut
    rw [e] at e2; cases e2
theorem KReps.mono {ws : List (Key × V)} {kvs : List (Key × D)} (t : Tx K H H1) (h : KReps K H ws kvs) : KReps K H1 ws kvs := Paired.mapP h fun _ _ q => ⟨q.1, q.2.mono t⟩
theorem TReps.mono {ws : List (List Key × V)} {kvs : List (List Key × D)} (t : Tx K H H1) (h : TReps K H ws kvs) : TReps K H1 ws kvs := Paired.mapP h fun _ _ q => ⟨q.1, q.2.mono t⟩
theorem FReps.mono {ws : List (Str × V)} {kvs : List (Str × D)} (t : Tx K H H1) (h : FReps K H ws kvs) : FReps K H1 ws kvs := Paired.mapP h fun _ _ q => ⟨q.1, q.2.mono t⟩
theorem OAt.mono {o : O} (t : Tx K H H1) (e : H1 a = H a) (h : OAt K H a o) : OAt K H1 a o := by
  cases o with
  | lst ds => obtain ⟨vs, e1, r⟩ := h; exact ⟨vs, by rw [e]; exact e1, r.mono t⟩
  | dk kvs => obtain ⟨vs, e1, r⟩ := h; exact ⟨vs, by rw [e]; exact e1, KReps.mono t r⟩
  | dt kvs => obtain ⟨vs, e1, r⟩ := h; exact ⟨vs, by rw [e]; exact e1, TReps.mono t r⟩
  | tab q =>
    obtain ⟨ps, e1, t1, t2⟩ := h
    refine ⟨ps, by rw [e]; exact e1, t1, fun pos cv hc => ?_⟩
    obtain ⟨c, e2, e3⟩ := t2 pos cv hc
    exact ⟨c, e2, t.exc c _ e3⟩
  | fz kvs => obtain ⟨ob, vs, e1, r⟩ := h; exact ⟨ob, vs, by rw [e]; exact e1, KReps.mono t r⟩
  | ins c fs => obtain ⟨C, dx, ws, n, e1, r⟩ := h; exact ⟨C, dx, ws, n, by rw [e]; exact e1, FReps.mono t r⟩
theorem tx_updF {ho : HO} (hn : ∀ vs, H p ≠ some (.tup vs)) (hf : ∀ ob w, H p ≠ some (.frz ob (.tup w))) (hf2 : ∀ ob w, H p ≠ some (.frz ob (.lst w))) (hx : ∀ φ, H p ≠ some (.ext φ)) : Tx K H (upd H p ho) := by
  refine ⟨fun b vs h => ?_, fun b vs h => ?_, fun b C h => by rw [upd_ne (fun e => hx _ (by rw [← e]; exact h))]; exact h, fun b vs h => by rw [upd_ne (fun e => hn vs (by rw [← e]; exact h))]; exact h, fun b o vs h => by rw [upd_ne (fun e => hf _ _ (by rw [← e]; exact h))]; exact h⟩
  · rcases h with (h | ⟨o, h⟩) | h
    · refine .inl (.inl ?_)
      rw [upd_ne (fun e => hn vs (by rw [← e]; exact h))]
      exact h
    · refine .inl (.inr ⟨o, ?_⟩)
      rw [upd_ne (fun e => hf _ _ (by rw [← e]; exact h))]
      exact h
    · exact .inr h
  · rcases h with ⟨o, h⟩ | h
    · refine .inl ⟨o, ?_⟩
      rw [upd_ne (fun e => hf2 _ _ (by rw [← e]; exact h))]
      exact h
    · exact .inr h
theorem tx_upd {ho : HO} (hn : ∀ vs, H p ≠ some (.tup vs)) (hf : ∀ ob w, H p ≠ some (.frz ob w)) (hx : ∀ φ, H p ≠ some (.ext φ)) : Tx K H (upd H p ho) := tx_updF hn (fun ob w => hf ob _) (fun ob w => hf ob _) hx
theorem tx_new {ho : HO} (h : H p = none) : Tx K H (upd H p ho) := tx_upd (fun vs => by rw [h]; intro z; cases z) (fun ob w => by rw [h]; intro z; cases z) (fun φ => by rw [h]; intro z; cases z)
theorem tx_mut {o : O} {ho : HO} (h : OAt K H p o) : Tx K H (upd H p ho) := by
  obtain ⟨u, e, h1, h2, h4, h3⟩ := h.mut
  exact tx_updF (fun vs => by rw [e]; intro z; exact h1 vs (Option.some.inj z)) (fun ob w => by rw [e]; intro z; exact h2 ob w (Option.some.inj z)) (fun ob w => by rw [e]; intro z; exact h4 ob w (Option.some.inj z)) (fun φ => by rw [e]; intro z; exact h3 φ (Option.some.inj z))
/-- a new tuple -/
theorem stp_tup {vs : List V} (r : SRep K S H) (h : H p = none) : Stp K S H S (upd H p (.tup vs)) ∧ SRep K S (upd H p (.tup vs)) := by
  refine ⟨⟨tx_new h, fun z o a b _ => ⟨a, ?_⟩, fun z ob u b => by rw [upd_ne (ne_of_none b h)]; exact b⟩, fun a o e => (r a o e).mono (tx_new h) (upd_ne ?_)⟩
  · rw [upd_ne (ne_of_none b h)]; exact b
  · intro z; subst z; rw [SRep.free r h] at e; cases e
/-- a new object of the store -/
theorem stp_new {o : O} {ho : HO} (r : SRep K S H) (h : H p = none) (new : OAt K (upd H p ho) p o) : Stp K S H (updS S p o) (upd H p ho) ∧ SRep K (updS S p o) (upd H p ho) := by
  refine ⟨⟨tx_new h, fun z u a b _ => ?_, fun z ob u b => by rw [upd_ne (ne_of_none b h)]; exact b⟩, fun a u e => ?_⟩
  · have ne := ne_of_none b h
    exact ⟨by rw [updS_ne ne]; exact a, by rw [upd_ne ne]; exact b⟩
  · by_cases q : a = p
    · subst q
      rw [updS_same] at e
      cases e
      exact new
    · rw [updS_ne q] at e
      exact (r a u e).mono (tx_new h) (upd_ne q)
/-- an object of the store is written -/
theorem OAt.nfrz {o : O} (h : OAt K H a o) (nf : ∀ kvs, o ≠ .fz kvs) : ∀ ob u, H a ≠ some (.frz ob u) := by
  intro ob u e
  cases o with
  | lst ds => obtain ⟨vs, e1, _⟩ := h; rw [e] at e1; cases e1
  | dk kvs => obtain ⟨vs, e1, _⟩ := h; rw [e] at e1; cases e1
  | dt kvs => obtain ⟨vs, e1, _⟩ := h; rw [e] at e1; cases e1
  | tab q => obtain ⟨vs, e1, _⟩ := h; rw [e] at e1; cases e1
  | fz kvs => exact nf _ rfl
  | ins c fs => obtain ⟨C, dx, ws, _, e1, _⟩ := h; rw [e] at e1; cases e1
theorem stp_mut {o o' : O} {ho : HO} (r : SRep K S H) (h : S p = some o) (new : OAt K (upd H p ho) p o') (nf : ∀ kvs, o ≠ .fz kvs := by exact fun _ z => nomatch z) : Stp K S H (updS S p o') (upd H p ho) ∧ SRep K (updS S p o') (upd H p ho) := by
  have t : Tx K H (upd H p ho) := tx_mut (r p o h)
  refine ⟨⟨t, fun z u a b _ => ?_, fun z ob u b => by rw [upd_ne (fun q => (r p o h).nfrz nf ob u (by rw [← q]; exact b))]; exact b⟩, fun a u e => ?_⟩
  · have ne : z ≠ p := fun e => by subst e; rw [h] at a; cases a
    exact ⟨by rw [updS_ne ne]; exact a, by rw [upd_ne ne]; exact b⟩
  · by_cases q : a = p
    · subst q
      rw [updS_same] at e
      cases e
      exact new
    · rw [updS_ne q] at e
      exact (r a u e).mono t (upd_ne q)
/-- a hidden object is written, a hidden one comes -/
theorem stp_hid {ho ho' : HO} (r : SRep K S H) (n : S p = none) (h : H p = some ho') (m1 : ∀ vs, ho' ≠ .tup vs) (m2 : ∀ ob w, ho' ≠ .frz ob w) (m3 : ∀ φ, ho' ≠ .ext φ) : Tx K H (upd H p ho) ∧ SRep K S (upd H p ho) := by
  have t : Tx K H (upd H p ho) := tx_upd (fun vs => by rw [h]; intro z; exact m1 vs (Option.some.inj z)) (fun ob w => by rw [h]; intro z; exact m2 ob w (Option.some.inj z)) (fun φ => by rw [h]; intro z; exact m3 φ (Option.some.inj z))
  exact ⟨t, fun a o e => (r a o e).mono t (upd_ne (neS e n))⟩
end
/-! ### slots -/
def getS : Nat → Env → Option D
  | _, [] => none
  | 0, x :: _ => x
  | i + 1, _ :: r => getS i r
def setS : Nat → D → Env → Env
  | _, _, [] => []
  | 0, d, _ :: r => some d :: r
  | i + 1, d, x :: r => x :: setS i d r
def wipeS : Env → List Nat → Env
  | σ, [] => σ
  | σ, i :: r => (wipeS σ r).set i none
theorem getS_eq : ∀ (i : Nat) (σ : Env), getS i σ = (σ[i]?).join
  | _, [] => by simp [getS]
  | 0, x :: _ => by cases x <;> rfl
  | i + 1, _ :: r => by simpa [getS] using getS_eq i r
theorem setS_eq (d : D) : ∀ (i : Nat) (σ : Env), setS i d σ = σ.set i (some d)
  | _, [] => by simp [setS]
  | 0, x :: _ => rfl
  | i + 1, x :: r => by simp [setS, setS_eq d i r]
structure ERep (K : PySem.W.Frag) (H : Hp) (sv : L2.St) (σ : Env) : Prop where
  len : sv.length = σ.length
  at_ : ∀ i d, getS i σ = some d → ∃ v, sv[i]? = some (some v) ∧ Rep K H v d
section
variable {K : PySem.W.Frag} {S S1 S2 : Sto} {H H1 H2 : Hp} {sv : L2.St} {σ : Env}
theorem ERep.mono (t : Tx K H H1) (e : ERep K H sv σ) : ERep K H1 sv σ := ⟨e.len, fun i d q => let ⟨v, a, b⟩ := e.at_ i d q; ⟨v, a, b.mono t⟩⟩
theorem ERep.set {i : Nat} {v : V} {d : D} (e : ERep K H sv σ) (r : Rep K H v d) : ERep K H (sv.set i (some v)) (setS i d σ) := by
  rw [setS_eq]
  refine ⟨by simpa using e.len, fun j c q => ?_⟩
  rw [getS_eq] at q
  by_cases hj : i = j
  · subst hj
    by_cases hl : i < σ.length
    · rw [List.getElem?_set_self hl] at q
      have : d = c := Option.some.inj q
      subst this
      exact ⟨v, List.getElem?_set_self (by rw [e.len]; exact hl), r⟩
    · rw [List.getElem?_eq_none (by simpa using Nat.le_of_not_lt hl)] at q
      cases q
  · rw [List.getElem?_set_ne hj] at q ⊢
    exact e.at_ j c (by rw [getS_eq]; exact q)
theorem ERep.wipe1 {i : Nat} (e : ERep K H sv σ) : ERep K H (sv.set i none) (σ.set i none) := by
  refine ⟨by simpa using e.len, fun j c q => ?_⟩
  rw [getS_eq] at q
  by_cases hj : i = j
  · subst hj
    by_cases hl : i < σ.length
    · rw [List.getElem?_set_self hl] at q; cases q
    · rw [List.getElem?_eq_none (by simpa using Nat.le_of_not_lt hl)] at q; cases q
  · rw [List.getElem?_set_ne hj] at q ⊢
    exact e.at_ j c (by rw [getS_eq]; exact q)
theorem ERep.wipe (e : ERep K H sv σ) : ∀ vs : List Nat, ERep K H (wipe sv vs) (wipeS σ vs)
  | [] => e
  | _ :: vs => (ERep.wipe e vs).wipe1
end
theorem wipe_set {i : Nat} {y : Option V} : ∀ {vs : List Nat} {s : L2.St}, i ∈ vs → wipe (s.set i y) vs = wipe s vs
  | [], _, h => by cases h
  | v :: vs, s, h => by
    show (wipe (s.set i y) vs).set v none = (wipe s vs).set v none
    by_cases hi : i ∈ vs
    · rw [wipe_set hi]
    · have e : i = v := by
        rcases List.mem_cons.mp h with e | e
        · exact e
        · exact (hi e).elim
      subst e
      have out : ∀ (ws : List Nat) (t : L2.St), i ∉ ws → wipe (t.set i y) ws = (wipe t ws).set i y := by
        intro ws
        induction ws with
        | nil => intro t _; rfl
        | cons w r ih =>
          intro t hw
          show (wipe (t.set i y) r).set w none = ((wipe t r).set w none).set i y
          rw [ih t (fun z => hw (List.mem_cons_of_mem _ z)), List.set_comm _ _ (fun z => hw (by rw [z]; exact List.mem_cons_self))]
      rw [out vs s hi, List.set_set]
theorem wipe_wipe (s : L2.St) (vs : List Nat) : wipe (wipe s vs) vs = wipe s vs := by
  have key : ∀ (us : List Nat), (∀ u ∈ us, u ∈ vs) → wipe (wipe s us) vs = wipe s vs := by
    intro us
    induction us with
    | nil => intro _; rfl
    | cons u r ih =>
      intro h
      show wipe ((wipe s r).set u none) vs = wipe s vs
      rw [wipe_set (h u List.mem_cons_self)]
      exact ih fun w hw => h w (List.mem_cons_of_mem _ hw)
  exact key vs fun _ h => h
/-! ### what a reading says of data -/
/-- what is reached: a value that bears d, a store, a heap -/
abbrev Rch (K : PySem.W.Frag) (S : Sto) (H : Hp) (Q : DK) (Kt : VK) : Prop := ∀ v d S' H', Stp K S H S' H' → SRep K S' H' → Rep K H' v d → Q d S' → Kt v H'
def Snd (K : PySem.W.Frag) (t : TE) (f : DE) : Prop := ∀ (σ : Env) (S : Sto) (Q : DK) (sv : L2.St) (H : Hp) (Kt : VK), ERep K H sv σ → SRep K S H → f σ S Q → Rch K S H Q Kt → t sv H Kt
def SndT (K : PySem.W.Frag) (t : TT) (f : DT) : Prop := ∀ (σ : Env) (S : Sto) (Q : Bool → Sto → Prop) (sv : L2.St) (H : Hp) (Kt : Bool → Hp → Prop), ERep K H sv σ → SRep K S H → f σ S Q →
  (∀ b S' H', Stp K S H S' H' → SRep K S' H' → Q b S' → Kt b H') → t sv H Kt
def SndA (K : PySem.W.Frag) (t : TA) (f : DA) : Prop := ∀ (σ : Env) (S : Sto) (Q : List D → Sto → Prop) (sv : L2.St) (H : Hp) (Kt : List V → Hp → Prop), ERep K H sv σ → SRep K S H → f σ S Q →
  (∀ vs ds S' H', Stp K S H S' H' → SRep K S' H' → Reps K H' vs ds → Q ds S' → Kt vs H') → t sv H Kt
/-- operations by values -/
abbrev G2 := D → D → Sto → DK → Prop
abbrev GN := List D → Sto → DK → Prop
def SndR (K : PySem.W.Frag) (r : R2) (g : G2) : Prop := ∀ (x y : V) (a b : D) (S : Sto) (H : Hp) (Q : DK) (Kt : VK), SRep K S H → Rep K H x a → Rep K H y b → g a b S Q → Rch K S H Q Kt → r x y H Kt
def SndN (K : PySem.W.Frag) (r : List V → Hp → VK → Prop) (g : GN) : Prop := ∀ (xs : List V) (as : List D) (S : Sto) (H : Hp) (Q : DK) (Kt : VK), SRep K S H → Reps K H xs as → g as S Q → Rch K S H Q Kt → r xs H Kt
def SndM (K : PySem.W.Frag) (r : V → List V → Hp → VK → Prop) (g : D → GN) : Prop := ∀ (x : V) (a : D) (xs : List V) (as : List D) (S : Sto) (H : Hp) (Q : DK) (Kt : VK), SRep K S H → Rep K H x a → Reps K H xs as → g a as S Q → Rch K S H Q Kt → r x xs H Kt
structure CE (X : Cx) (e : Expr) (f : DE) : Prop where
  ok : ∃ t, PE X e t ∧ Snd X.K t f
structure CT (X : Cx) (e : Expr) (f : DT) : Prop where
  ok : ∃ t, PT X e t ∧ SndT X.K t f
structure CA (X : Cx) (es : List Expr) (f : DA) : Prop where
  ok : ∃ t, PA X es t ∧ SndA X.K t f
/-! ### names, constants -/
def eVar (i : Nat) : DE := fun σ S Q => match getS i σ with
  | some d => Q d S
  | none => False
def eC (d : D) : DE := fun _ S Q => Q d S
section
variable {X : Cx} {K : PySem.W.Frag} {e a b : Expr} {fe fa fb fc : DE} {pos : Pos} {S : Sto} {H : Hp}
theorem Rch.now {Q : DK} {Kt : VK} {v : V} {d : D} (r : SRep K S H) (k : Rch K S H Q Kt) (h : Rep K H v d) (q : Q d S) : Kt v H := k v d S H .refl r h q
theorem c_var (i : Nat) {x : Str} (hN : X.N[i]? = some x := by rfl) (hv : Vis X.env.scope x := by first | exact Or.inl rfl | exact Or.inr (Or.inl rfl) | exact Or.inr (Or.inr rfl)) (hd : (x == ("__debug__" : Str)) = false := by decide)
    (hcd : (x == ("__classdict__" : Str)) = false := by decide) : CE X (.Name x pos) (eVar i) := by
  refine ⟨_, pe_var (i := i) hN hv hd hcd, fun σ S Q sv H Kt he hs h k => ?_⟩
  unfold eVar at h
  cases q : getS i σ with
  | none => rw [q] at h; exact h.elim
  | some d =>
    rw [q] at h
    obtain ⟨v, e1, r⟩ := he.at_ i d q
    exact ⟨v, e1, k.now hs r h⟩
theorem snd_c {v : V} {d : D} (h : ∀ H, Rep K H v d) : Snd K (tC v) (eC d) := fun σ S Q sv H Kt he hs q k => k.now hs (h H) q
end
end DL
namespace DL
open PySem PySem.Spec PyProof.Rows L2
section
variable {X : Cx} {K : PySem.W.Frag} {e a b c : Expr} {es : List Expr} {fe fa fb fc : DE} {ft fu : DT} {fs : DA} {pos : Pos} {S : Sto} {H : Hp}
theorem c_int {i : Int} {j : Nat} : CE X (.Constant (.int i) j pos) (eC (.int i)) := ⟨_, pe_int, snd_c fun _ => .int i⟩
theorem c_str {x : Str} {j : Nat} : CE X (.Constant (.str x) j pos) (eC (.str x)) := ⟨_, pe_str, snd_c fun _ => .str x⟩
theorem c_bl {x : Bool} {j : Nat} : CE X (.Constant (.bool x) j pos) (eC (.bl x)) := ⟨_, pe_bl, snd_c fun _ => .bl x⟩
theorem c_non {j : Nat} : CE X (.Constant .none j pos) (eC .non) := ⟨_, pe_non, snd_c fun _ => .non⟩
theorem c_glob {x : Str} {u : Value} {v : V} {d : D} (hg : Gl X x) (hm : X.mg x = some u) (r : RelV v u) (h : ∀ H, Rep X.K H v d) (hd : (x == ("__debug__" : Str)) = false := by decide) : CE X (.Name x pos) (eC d) := ⟨_, pe_glob hg hm r hd, snd_c h⟩
/-! ### two-place operations -/
def eOp (g : G2) (fa fb : DE) : DE := fun σ S Q => fa σ S fun x S1 => fb σ S1 fun y S2 => g x y S2 Q
theorem snd_op {r : R2} {g : G2} {ta tb : TE} (hr : SndR K r g) (ha : Snd K ta fa) (hb : Snd K tb fb) : Snd K (tOp r ta tb) (eOp g fa fb) := fun σ S Q sv H Kt he hs q k =>
  ha σ S _ sv H _ he hs q fun v d S1 H1 s1 r1 v1 q1 =>
    hb σ S1 _ sv H1 _ (he.mono s1.tx) r1 q1 fun u d2 S2 H2 s2 r2 u2 q2 =>
      hr v u d d2 S2 H2 Q _ r2 (v1.mono s2.tx) u2 q2 fun v3 d3 S3 H3 s3 r3 v3' q3 => k v3 d3 S3 H3 ((s1.trans s2).trans s3) r3 v3' q3
/-- numbers under C -/
def gI (C : Int → Int → Prop) (h : Int → Int → D) : G2 := fun x y S Q => match x, y with
  | .int i, .int j => C i j ∧ Q (h i j) S
  | _, _ => False
def gI0 (h : Int → Int → D) : G2 := fun x y S Q => match x, y with
  | .int i, .int j => Q (h i j) S
  | _, _ => False
theorem sr_I {C : Int → Int → Prop} {h : Int → Int → D} {h' : Int → Int → V} (e : ∀ i j H, Rep K H (h' i j) (h i j)) : SndR K (rI C h') (gI C h) := fun x y a b S H Q Kt s ra rb q k => by
  cases ra <;> try exact False.elim q
  cases rb <;> try exact False.elim q
  exact ⟨_, _, rfl, rfl, q.1, k.now s (e _ _ _) q.2⟩
theorem sr_I0 {h : Int → Int → D} {h' : Int → Int → V} (e : ∀ i j H, Rep K H (h' i j) (h i j)) : SndR K (rI0 h') (gI0 h) := fun x y a b S H Q Kt s ra rb q k => by
  cases ra <;> try exact False.elim q
  cases rb <;> try exact False.elim q
  exact ⟨_, _, rfl, rfl, k.now s (e _ _ _) q⟩
/-- + of anything -/
def gAdd : G2 := fun x y S Q => match x, y with
  | .int i, .int j => Q (.int (i + j)) S
  | .str i, .str j => i.length + j.length ≤ sizeLine ∧ Q (.str (i ++ j)) S
  | .tup xs, .tup ys => xs.length + ys.length ≤ sizeLine ∧ Q (.tup (xs ++ ys)) S
  | .ref p, .ref q => ∃ xs ys, S p = some (.lst xs) ∧ S q = some (.lst ys) ∧ xs.length + ys.length ≤ sizeLine ∧ ∀ n, S n = none → Q (.ref n) (updS S n (.lst (xs ++ ys)))
  | _, _ => False
def rAddA (K : PySem.W.Frag) : R2 := fun x y H Q => ((rI0 fun i j => .int (i + j)) x y H Q ∨ (∃ i j, x = .str i ∧ y = .str j ∧ i.length + j.length ≤ sizeLine ∧ Q (.str (i ++ j)) H)) ∨ rCatA K x y H Q ∨ rCat x y H Q
theorem opAddA : OpR X (binaryOp .Add) (rAddA X.K) := OpR.or (OpR.or op_add op_add_str) (OpR.or op_catA op_cat)
theorem sr_add : SndR K (rAddA K) gAdd := fun x y a b S H Q Kt s ra rb q k => by
  cases ra with
  | int i =>
    cases rb <;> try exact False.elim q
    exact .inl (.inl ⟨_, _, rfl, rfl, k.now s (.int _) q⟩)
  | str i =>
    cases rb <;> try exact False.elim q
    exact .inl (.inr ⟨_, _, rfl, rfl, q.1, k.now s (.str _) q.2⟩)
  | @tup p vs ds h r =>
    cases rb <;> try exact False.elim q
    rename_i p2 us es h2 r2
    obtain ⟨hz, q⟩ := q
    have e1 := r.length
    have e2 := r2.length
    refine .inr (.inl ⟨p, p2, vs, us, rfl, rfl, h, h2, by omega, fun z => ?_, fun _ z => ?_, fun _ _ n hn => ?_⟩)
    · subst z
      cases r
      exact k.now s (.tup h2 r2) q
    · subst z
      cases r2
      rw [List.append_nil] at q
      exact k.now s (.tup h r) q
    · obtain ⟨st, sr⟩ := stp_tup (vs := vs ++ us) s hn
      exact k _ _ S _ st sr (.tup (.inl (.inl upd_same)) ((r.mono st.tx).append (r2.mono st.tx))) q
  | ref p =>
    cases rb <;> try exact False.elim q
    obtain ⟨xs, ys, h1, h2, hz, q⟩ := q
    rename_i p2
    obtain ⟨vs, e1, r1⟩ := s _ _ h1
    obtain ⟨us, e2, r2⟩ := s _ _ h2
    have l1 := r1.length
    have l2 := r2.length
    refine .inr (.inr ⟨p, p2, vs, us, rfl, rfl, e1, e2, by omega, fun n hn => ?_⟩)
    have tx := tx_new (K := K) (ho := .lst (vs ++ us)) hn
    obtain ⟨st, sr⟩ := stp_new (o := .lst (xs ++ ys)) s hn ⟨_, upd_same, (r1.mono tx).append (r2.mono tx)⟩
    exact k _ _ _ _ st sr (.ref n) (q n (s.free hn))
  | _ => exact False.elim q
theorem c_add (ha : CE X a fa) (hb : CE X b fb) : CE X (.BinOp a .Add b pos) (eOp gAdd fa fb) := by
  obtain ⟨ta, ha, sa⟩ := ha
  obtain ⟨tb, hb, sb⟩ := hb
  exact ⟨_, pe_op opAddA ha hb, snd_op sr_add sa sb⟩
abbrev gMns : G2 := gI0 fun i j => .int (i - j)
theorem c_sub (ha : CE X a fa) (hb : CE X b fb) : CE X (.BinOp a .Sub b pos) (eOp gMns fa fb) := by
  obtain ⟨ta, ha, sa⟩ := ha
  obtain ⟨tb, hb, sb⟩ := hb
  exact ⟨_, pe_op op_sub ha hb, snd_op (sr_I0 fun _ _ _ => .int _) sa sb⟩
abbrev gMul : G2 := gI CMulW fun i j => .int (i * j)
abbrev gMod : G2 := gI (fun _ j => 0 < j) fun i j => .int (i % j)
theorem c_mod (ha : CE X a fa) (hb : CE X b fb) : CE X (.BinOp a .Mod b pos) (eOp gMod fa fb) := by
  obtain ⟨ta, ha, sa⟩ := ha
  obtain ⟨tb, hb, sb⟩ := hb
  exact ⟨_, pe_op op_mod ha hb, snd_op (sr_I fun _ _ _ => .int _) sa sb⟩
abbrev gFdiv : G2 := gI CDivW fun i j => .int (i / j)
theorem c_fdiv (ha : CE X a fa) (hb : CE X b fb) : CE X (.BinOp a .FloorDiv b pos) (eOp gFdiv fa fb) := by
  obtain ⟨ta, ha, sa⟩ := ha
  obtain ⟨tb, hb, sb⟩ := hb
  exact ⟨_, pe_op op_fdivW ha hb, snd_op (sr_I fun _ _ _ => .int _) sa sb⟩
abbrev gPow : G2 := gI CPow fun i j => .int (i ^ j.toNat)
theorem c_pow (ha : CE X a fa) (hb : CE X b fb) : CE X (.BinOp a .Pow b pos) (eOp gPow fa fb) := by
  obtain ⟨ta, ha, sa⟩ := ha
  obtain ⟨tb, hb, sb⟩ := hb
  exact ⟨_, pe_op op_pow ha hb, snd_op (sr_I fun _ _ _ => .int _) sa sb⟩
def eNeg (fa : DE) : DE := fun σ S Q => fa σ S fun x S1 => match x with
  | .int i => Q (.int (-i)) S1
  | _ => False
theorem c_neg (ha : CE X a fa) : CE X (.UnaryOp .USub a pos) (eNeg fa) := by
  obtain ⟨ta, ha, sa⟩ := ha
  refine ⟨_, pe_un un_neg ha, fun σ S Q sv H Kt he hs q k => ?_⟩
  refine sa σ S _ sv H _ he hs q fun v d S1 H1 s1 r1 v1 q1 => ?_
  cases v1 <;> try exact False.elim q1
  exact ⟨_, rfl, k _ _ S1 H1 s1 r1 (.int _) q1⟩
/-! ### comparisons -/
/-- < <= > >= of numbers, of texts -/
def gLt : G2 := fun x y S Q => match x, y with
  | .int i, .int j => Q (.bl (decide (i < j))) S
  | .str i, .str j => Q (.bl (decide (i.cps.toList < j.cps.toList))) S
  | _, _ => False
def rLtA : R2 := fun x y H Q => (rI0 fun i j => .bl (decide (i < j))) x y H Q ∨ (∃ i j, x = .str i ∧ y = .str j ∧ Q (.bl (decide (i.cps.toList < j.cps.toList))) H)
/-- a comparison that is written op -/
structure CO (X : Cx) (op : CmpOp) (g : G2) : Prop where
  ok : ∃ r, OpR X (compareOp op) r ∧ SndR X.K r g
theorem o_le : CO X .LtE (gI0 fun i j => .bl (decide (i ≤ j))) := ⟨_, op_le, sr_I0 fun _ _ _ => .bl _⟩
theorem o_gt : CO X .Gt (gI0 fun i j => .bl (decide (j < i))) := ⟨_, op_gt, sr_I0 fun _ _ _ => .bl _⟩
theorem o_ge : CO X .GtE (gI0 fun i j => .bl (decide (j ≤ i))) := ⟨_, op_ge, sr_I0 fun _ _ _ => .bl _⟩
def isNon : D → Bool
  | .non => true
  | _ => false
/-- x is None, x is True -/
def gIs (f : Bool → Bool) : G2 := fun x y S Q => match y with
  | .non => Q (.bl (f (isNon x))) S
  | .bl c => match x with
    | .bl d => Q (.bl (f (decide (d = c)))) S
    | _ => False
  | _ => False
theorem rep_non {v : V} {d : D} (r : Rep K H v d) : decide (v = .non) = isNon d := by
  cases r <;> rfl
theorem o_is : CO X .Is (gIs id) := by
  refine ⟨_, OpR.or op_isN op_isBl, fun x y a b S H Q Kt s ra rb q k => ?_⟩
  cases rb <;> try exact False.elim q
  · exact .inl ⟨rfl, k.now s (.bl _) (by rw [rep_non ra]; exact q)⟩
  · cases ra <;> try exact False.elim q
    exact .inr ⟨_, _, rfl, rfl, k.now s (.bl _) q⟩
/-- what == tells of two flat data -/
def eqS : D → D → Option Bool
  | .non, .non => some true
  | .int i, .int j => some (decide (i = j))
  | .str i, .str j => some (decide (i = j))
  | .bl i, .bl j => some (decide (i = j))
  | .non, .int _ => some false | .int _, .non => some false | .non, .str _ => some false | .str _, .non => some false | .non, .bl _ => some false | .bl _, .non => some false
  | .int _, .str _ => some false | .str _, .int _ => some false | .bl _, .str _ => some false | .str _, .bl _ => some false
  | .bl a, .int b => some (decide ((if a = true then 1 else 0) = b)) | .int a, .bl b => some (decide (a = if b = true then 1 else 0))
  | _, _ => none
/-! data as the library has it -/
def keyPy : Key → PyData
  | .inl i => .int i
  | .inr s => .str s
mutual
inductive PD (S : Sto) : D → PyData → Prop
  | non : PD S .non .none
  | bl (b : Bool) : PD S (.bl b) (.bool b)
  | int (i : Int) : PD S (.int i) (.int i)
  | str (x : Str) : PD S (.str x) (.str x)
  | tup {ds : List D} {ps : List PyData} (h : PDs S ds ps) : PD S (.tup ds) (.tuple ps)
  | kt (ks : List Key) : PD S (.kt ks) (.tuple (ks.map keyPy))
  | lst {a : Addr} {ds : List D} {ps : List PyData} (e : S a = some (.lst ds)) (h : PDs S ds ps) : PD S (.ref a) (.list ps)
inductive PDs (S : Sto) : List D → List PyData → Prop
  | nil : PDs S [] []
  | cons {d : D} {p : PyData} {ds : List D} {ps : List PyData} (h : PD S d p) (t : PDs S ds ps) : PDs S (d :: ds) (p :: ps)
end
theorem keys_dp {K : PySem.W.Frag} {H : Hp} : ∀ ks : List Key, DpAll K H (ks.map kV) (ks.map keyPy)
  | [] => .nil
  | .inl i :: r => .cons (.int i) (keys_dp r)
  | .inr s :: r => .cons (.str s) (keys_dp r)
theorem keys_plain : ∀ ks : List Key, PyData.plainAll (ks.map keyPy) = true
  | [] => rfl
  | .inl i :: r => keys_plain r
  | .inr s :: r => keys_plain r
mutual
theorem PD.dp (s : SRep K S H) : ∀ {d : D} {p : PyData}, PD S d p → ∀ {v : V}, Rep K H v d → Dp K H v p
  | _, _, .non, _, r => by cases r; exact .non
  | _, _, .bl b, _, r => by cases r; exact .bl b
  | _, _, .int i, _, r => by cases r; exact .int i
  | _, _, .str x, _, r => by cases r; exact .str x
  | _, _, .tup q, _, r => by
    cases r with
    | tup h r => exact .tup h (PDs.dp s q r)
  | _, _, .kt ks, _, r => by
    cases r with
    | kt h => exact .tup (.inl (.inl h)) (keys_dp ks)
  | _, _, .lst e q, _, r => by
    cases r with
    | ref a =>
      obtain ⟨vs, e1, r⟩ := s _ _ e
      exact .lst (.inl (.inl e1)) (PDs.dp s q r)
theorem PDs.dp (s : SRep K S H) : ∀ {ds : List D} {ps : List PyData}, PDs S ds ps → ∀ {vs : List V}, Reps K H vs ds → DpAll K H vs ps
  | _, _, .nil, _, r => by cases r; exact .nil
  | _, _, .cons q t, _, r => by
    cases r with
    | cons h r => exact .cons (PD.dp s q h) (PDs.dp s t r)
end
/-- == of anything -/
def gEq (f : Bool → Bool) : G2 := fun x y S Q => match eqS x y with
  | some b => Q (.bl (f b)) S
  | none => ∃ p q, PD S x p ∧ PD S y q ∧ p.depth ≤ 64 ∧ Q (.bl (f (PyData.eqv p q))) S
mutual
theorem PD.plain : ∀ {d : D} {p : PyData}, PD S d p → p.plain = true
  | _, _, .non => rfl
  | _, _, .bl _ => rfl
  | _, _, .int _ => rfl
  | _, _, .str _ => rfl
  | _, _, .tup h => PDs.plain h
  | _, _, .kt ks => keys_plain ks
  | _, _, .lst _ h => PDs.plain h
theorem PDs.plain : ∀ {ds : List D} {ps : List PyData}, PDs S ds ps → PyData.plainAll ps = true
  | _, _, .nil => rfl
  | _, _, .cons h t => by
    unfold PyData.plainAll
    rw [PD.plain h, PDs.plain t]
    rfl
end
theorem eqS_pd {a b : D} {r : Bool} (h : eqS a b = some r) : ∃ p q, PD S a p ∧ PD S b q ∧ p.depth = 0 ∧ PyData.eqv p q = r := by
  cases a <;> cases b <;> first | (cases h; done) | (cases h; refine ⟨_, _, by constructor, by constructor, rfl, ?_⟩; first | rfl | (simp only [PyData.eqv, beq_eq_decide]; done) | (simp only [PyData.eqv, Bool.beq_eq_decide_eq]; done))
def rEqP (K : PySem.W.Frag) : R2 := fun x y H Q => ∃ d e, Dp K H x d ∧ Dp K H y e ∧ d.plain = true ∧ e.plain = true ∧ d.depth ≤ 64 ∧ Q (.bl (PyData.eqv d e)) H
def rNeP (K : PySem.W.Frag) : R2 := fun x y H Q => ∃ d e, Dp K H x d ∧ Dp K H y e ∧ d.plain = true ∧ e.plain = true ∧ d.depth ≤ 64 ∧ Q (.bl (!PyData.eqv d e)) H
theorem opEqP (hu : X.A.units + 64 < cLine) : OpR X (compareOp .Eq) (rEqP X.K) := fun pins s σ H x y v u Q I rx ry ⟨d, e, hd, he, pd, pe, hz, q⟩ => by
  have ⟨as, r1⟩ := hd.reads I d x v rx
  have ⟨bs, r2⟩ := he.reads I e y u ry
  exact SeqAt.eq_plain r1 r2 pd pe (by omega) ⟨.bl _, H, I, rfl, q⟩
theorem opNeP (hu : X.A.units + 64 < cLine) : OpR X (compareOp .NotEq) (rNeP X.K) := fun pins s σ H x y v u Q I rx ry ⟨d, e, hd, he, pd, pe, hz, q⟩ => by
  have ⟨as, r1⟩ := hd.reads I d x v rx
  have ⟨bs, r2⟩ := he.reads I e y u ry
  exact SeqAt.ne_plain r1 r2 pd pe (by omega) ⟨.bl _, H, I, rfl, q⟩
theorem eq_pd {f : Bool → Bool} {a b : D} {Q : DK} (q : gEq f a b S Q) : ∃ p e, PD S a p ∧ PD S b e ∧ p.depth ≤ 64 ∧ Q (.bl (f (PyData.eqv p e))) S := by
  unfold gEq at q
  cases h : eqS a b with
  | some r =>
    rw [h] at q
    obtain ⟨p, e, h1, h2, h3, h4⟩ := eqS_pd (S := S) h
    exact ⟨p, e, h1, h2, by omega, by rw [h4]; exact q⟩
  | none =>
    rw [h] at q
    exact q
theorem o_eq (hu : X.A.units + 64 < cLine) : CO X .Eq (gEq id) := by
  refine ⟨_, opEqP hu, fun x y a b S H Q Kt s ra rb q k => ?_⟩
  obtain ⟨p, e, h1, h2, h3, q⟩ := eq_pd q
  exact ⟨p, e, PD.dp s h1 ra, PD.dp s h2 rb, h1.plain, h2.plain, h3, k.now s (.bl _) q⟩
theorem o_ne (hu : X.A.units + 64 < cLine) : CO X .NotEq (gEq not) := by
  refine ⟨_, opNeP hu, fun x y a b S H Q Kt s ra rb q k => ?_⟩
  obtain ⟨p, e, h1, h2, h3, q⟩ := eq_pd q
  exact ⟨p, e, PD.dp s h1 ra, PD.dp s h2 rb, h1.plain, h2.plain, h3, k.now s (.bl _) q⟩
theorem c_cmp {op : CmpOp} {g : G2} (ho : CO X op g) (ha : CE X a fa) (hb : CE X b fb) (hm : behindInMarks op b = false) : CE X (.Compare a [op] [b] pos) (eOp g fa fb) := by
  obtain ⟨r, o1, o2⟩ := ho
  obtain ⟨ta, ha, sa⟩ := ha
  obtain ⟨tb, hb, sb⟩ := hb
  exact ⟨_, pe_cmpR o1 ha hb hm, snd_op o2 sa sb⟩
end
end DL
namespace DL
open PySem PySem.Spec PyProof.Rows L2
section
variable {X : Cx} {K : PySem.W.Frag} {e a b c : Expr} {es : List Expr} {fe fa fb fc : DE} {ft fu : DT} {fs : DA} {pos : Pos} {S : Sto} {H : Hp}
/-! ### tests -/
def tTr (f : DE) : DT := fun σ S Q => f σ S fun d S1 => match d with
  | .non => Q false S1
  | .bl k => Q k S1
  | .int i => Q (i != 0) S1
  | .str y => y.length ≤ sizeLine ∧ Q (y.length != 0) S1
  | .tup xs => Q (!xs.isEmpty) S1
  | .ref p => (match S1 p with
    | some (.lst xs) => Q (!xs.isEmpty) S1
    | some (.dk kvs) => Q (!kvs.isEmpty) S1
    | some (.dt _) => False
    | some (.tab _) => False
    | some (.ins _ _) => False
    | some (.fz _) => False
    | none => False)
  | _ => False
theorem empty_reps {vs : List V} {ds : List D} (r : Reps K H vs ds) : vs.isEmpty = ds.isEmpty := by cases r <;> rfl
theorem empty_kreps {ws : List (Key × V)} {kvs : List (Key × D)} (r : KReps K H ws kvs) : ws.isEmpty = kvs.isEmpty := by cases r <;> rfl
theorem len_ne0 (y : Str) : (((y.length : Int)) != 0) = (y.length != 0) := by
  by_cases h : y.length = 0
  · rw [h]; rfl
  · have h2 : ¬ ((y.length : Int) = 0) := by omega
    rw [bne_iff_ne.mpr h2, bne_iff_ne.mpr h]
/-- a value's truth -/
theorem k_tru (ha : CE X a fa) (he : ∀ whole, isTrue a X.env whole = (do let v ← whole; standAt a.pos; holding [v] (truthy v)) := by intro _; rfl) : CT X a (tTr fa) := by
  obtain ⟨ta, ha, sa⟩ := ha
  refine ⟨_, pt_truth ha he, fun σ S Q sv H Kt re rs q k => ?_⟩
  refine sa σ S _ sv H _ re rs q fun v d S1 H1 s1 r1 v1 q1 => ?_
  cases v1 with
  | non => exact ⟨false, rfl, k _ _ _ s1 r1 q1⟩
  | bl y => exact ⟨y, rfl, k _ _ _ s1 r1 q1⟩
  | int i => exact ⟨_, rfl, k _ _ _ s1 r1 q1⟩
  | str y => exact ⟨_, ⟨q1.1, (len_ne0 y).symm⟩, k _ _ _ s1 r1 q1.2⟩
  | ty n => exact False.elim q1
  | exc n h => exact False.elim q1
  | cls n => exact False.elim q1
  | kt h => exact False.elim q1
  | nt h _ => exact False.elim q1
  | @tup p vs ds h r => exact ⟨_, .inr (.inl ⟨vs, h, rfl⟩), k _ _ _ s1 r1 (by rw [empty_reps r]; exact q1)⟩
  | @fl p vs ds h r => exact False.elim q1
  | ref p =>
    cases h : S1 p with
    | none => simp only [h] at q1
    | some o =>
      cases o with
      | lst xs =>
        simp only [h] at q1
        obtain ⟨vs, e1, r⟩ := r1 _ _ h
        exact ⟨_, .inl ⟨vs, .inl (.inl e1), rfl⟩, k _ _ _ s1 r1 (by rw [empty_reps r]; exact q1)⟩
      | dk kvs =>
        simp only [h] at q1
        obtain ⟨vs, e1, r⟩ := r1 _ _ h
        exact ⟨_, .inr (.inr ⟨vs, e1, rfl⟩), k _ _ _ s1 r1 (by rw [empty_kreps r]; exact q1)⟩
      | dt kvs => simp only [h] at q1
      | tab z => simp only [h] at q1
      | ins _ _ => simp only [h] at q1
      | fz z => simp only [h] at q1
/-- a test of what is a truth -/
def tBl (f : DE) : DT := fun σ S Q => f σ S fun d S1 => match d with
  | .bl k => Q k S1
  | _ => False
theorem snd_tTest {t : TE} (h : Snd K t fa) : SndT K (tTest t) (tBl fa) := fun σ S Q sv H Kt re rs q k =>
  h σ S _ sv H _ re rs q fun v d S1 H1 s1 r1 v1 q1 => by
    cases v1 <;> try exact False.elim q1
    exact ⟨_, rfl, k _ _ _ s1 r1 q1⟩
theorem k_cmp {op : CmpOp} {g : G2} (ho : CO X op g) (ha : CE X a fa) (hb : CE X b fb) (hm : behindInMarks op b = false) : CT X (.Compare a [op] [b] pos) (tBl (eOp g fa fb)) := by
  obtain ⟨r, o1, o2⟩ := ho
  obtain ⟨ta, ha, sa⟩ := ha
  obtain ⟨tb, hb, sb⟩ := hb
  exact ⟨_, pt_cmpR o1 ha hb hm, snd_tTest (snd_op o2 sa sb)⟩
/-- a op1 b op2 c -/
def eChain (g g' : G2) (fa fb fc : DE) : DE := fun σ S Q => fa σ S fun x S1 => fb σ S1 fun y S2 => g x y S2 fun z S3 => match z with
  | .bl k => if k = true then fc σ S3 fun u S4 => g' y u S4 Q else Q (.bl false) S3
  | _ => False
theorem snd_chain {r r' : R2} {g g' : G2} {ta tb tc : TE} (hr : SndR K r g) (hr' : SndR K r' g') (ha : Snd K ta fa) (hb : Snd K tb fb) (hc : Snd K tc fc) : Snd K (tChain r r' ta tb tc) (eChain g g' fa fb fc) := fun σ S Q sv H Kt he hs q k =>
  ha σ S _ sv H _ he hs q fun v d S1 H1 s1 r1 v1 q1 =>
    hb σ S1 _ sv H1 _ (he.mono s1.tx) r1 q1 fun u d2 S2 H2 s2 r2 u2 q2 =>
      hr v u d d2 S2 H2 _ _ r2 (v1.mono s2.tx) u2 q2 fun v3 d3 S3 H3 s3 r3 v3' q3 => by
        cases v3' <;> try exact False.elim q3
        rename_i kk
        refine ⟨kk, rfl, ?_⟩
        cases kk with
        | true =>
          exact hc σ S3 _ sv H3 _ (he.mono ((s1.trans s2).trans s3).tx) r3 q3 fun v4 d4 S4 H4 s4 r4 v4' q4 =>
            hr' u v4 d2 d4 S4 H4 Q Kt r4 (u2.mono (s3.trans s4).tx) v4' q4 fun v5 d5 S5 H5 s5 r5 v5' q5 => k v5 d5 S5 H5 ((((s1.trans s2).trans s3).trans s4).trans s5) r5 v5' q5
        | false => exact k _ _ _ _ ((s1.trans s2).trans s3) r3 (.bl false) q3
theorem c_chain {op op' : CmpOp} {g g' : G2} (ho : CO X op g) (ho' : CO X op' g') (ha : CE X a fa) (hb : CE X b fb) (hc : CE X c fc) (h1 : lastMarks [op, op'] [b, c] = false := by rfl) : CE X (.Compare a [op, op'] [b, c] pos) (eChain g g' fa fb fc) := by
  obtain ⟨r, o1, o2⟩ := ho
  obtain ⟨r', o1', o2'⟩ := ho'
  obtain ⟨ta, ha, sa⟩ := ha
  obtain ⟨tb, hb, sb⟩ := hb
  obtain ⟨tc, hc, sc⟩ := hc
  exact ⟨_, pe_chain o1 o1' ha hb hc h1, snd_chain o2 o2' sa sb sc⟩
theorem k_chain {op op' : CmpOp} {g g' : G2} (ho : CO X op g) (ho' : CO X op' g') (ha : CE X a fa) (hb : CE X b fb) (hc : CE X c fc) (h1 : lastMarks [op, op'] [b, c] = false := by rfl) : CT X (.Compare a [op, op'] [b, c] pos) (tBl (eChain g g' fa fb fc)) := by
  obtain ⟨r, o1, o2⟩ := ho
  obtain ⟨r', o1', o2'⟩ := ho'
  obtain ⟨ta, ha, sa⟩ := ha
  obtain ⟨tb, hb, sb⟩ := hb
  obtain ⟨tc, hc, sc⟩ := hc
  exact ⟨_, pt_chain o1 o1' ha hb hc h1, snd_tTest (snd_chain o2 o2' sa sb sc)⟩
/-! and, or, not as tests -/
structure CW (X : Cx) (e : Expr) (f : DT) : Prop where
  ok : ∃ t, PW X e t ∧ SndT X.K t f
variable {rest : List Expr}
def tAndD (f g : DT) : DT := fun σ S Q => f σ S fun k S1 => if k = true then g σ S1 Q else Q false S1
def tOrD (f g : DT) : DT := fun σ S Q => f σ S fun k S1 => if k = true then Q true S1 else g σ S1 Q
def tNotD (f : DT) : DT := fun σ S Q => f σ S fun k S1 => Q (!k) S1
theorem w_and1 (ha : CT X a ft) : CW X (.BoolOp .And [a] pos) ft := let ⟨_, h, s⟩ := ha.ok; ⟨_, pw_and1 h, s⟩
theorem w_or1 (ha : CT X a ft) : CW X (.BoolOp .Or [a] pos) ft := let ⟨_, h, s⟩ := ha.ok; ⟨_, pw_or1 h, s⟩
theorem w_and (ha : CT X a ft) (hb : CW X (.BoolOp .And (b :: rest) pos) fu) : CW X (.BoolOp .And (a :: b :: rest) pos) (tAndD ft fu) := by
  obtain ⟨ta, ha, sa⟩ := ha
  obtain ⟨tb, hb, sb⟩ := hb
  refine ⟨_, pw_and ha hb, fun σ S Q sv H Kt re rs q k => sa σ S _ sv H _ re rs q fun kk S1 H1 s1 r1 q1 => ?_⟩
  cases kk with
  | true => exact sb σ S1 Q sv H1 _ (re.mono s1.tx) r1 q1 fun k2 S2 H2 s2 r2 q2 => k k2 S2 H2 (s1.trans s2) r2 q2
  | false => exact k _ _ _ s1 r1 q1
theorem w_or (ha : CT X a ft) (hb : CW X (.BoolOp .Or (b :: rest) pos) fu) : CW X (.BoolOp .Or (a :: b :: rest) pos) (tOrD ft fu) := by
  obtain ⟨ta, ha, sa⟩ := ha
  obtain ⟨tb, hb, sb⟩ := hb
  refine ⟨_, pw_or ha hb, fun σ S Q sv H Kt re rs q k => sa σ S _ sv H _ re rs q fun kk S1 H1 s1 r1 q1 => ?_⟩
  cases kk with
  | false => exact sb σ S1 Q sv H1 _ (re.mono s1.tx) r1 q1 fun k2 S2 H2 s2 r2 q2 => k k2 S2 H2 (s1.trans s2) r2 q2
  | true => exact k _ _ _ s1 r1 q1
theorem k_w (h : CW X e ft) : CT X e ft := let ⟨_, h, s⟩ := h.ok; ⟨_, h.pt, s⟩
theorem k_not (ha : CT X a ft) : CT X (.UnaryOp .Not a pos) (tNotD ft) := by
  obtain ⟨ta, ha, sa⟩ := ha
  exact ⟨_, pt_not ha, fun σ S Q sv H Kt re rs q k => sa σ S _ sv H _ re rs q fun kk S1 H1 s1 r1 q1 => k _ _ _ s1 r1 q1⟩
/-! .. as values -/
def eAnd (fa fb : DE) : DE := fun σ S Q => fa σ S fun x S1 => match x with
  | .bl k => if k = true then fb σ S1 Q else Q (.bl false) S1
  | _ => False
def eOr (fa fb : DE) : DE := fun σ S Q => fa σ S fun x S1 => match x with
  | .bl k => if k = true then Q (.bl true) S1 else fb σ S1 Q
  | _ => False
def eNot (fa : DE) : DE := fun σ S Q => fa σ S fun x S1 => match x with
  | .bl k => Q (.bl (!k)) S1
  | _ => False
theorem c_one {op} (ha : CE X a fa) : CE X (.BoolOp op [a] pos) fa := let ⟨_, h, s⟩ := ha.ok; ⟨_, pe_one h, s⟩
theorem c_and (ha : CE X a fa) (hb : CE X (.BoolOp .And (b :: rest) pos) fb) : CE X (.BoolOp .And (a :: b :: rest) pos) (eAnd fa fb) := by
  obtain ⟨ta, ha, sa⟩ := ha
  obtain ⟨tb, hb, sb⟩ := hb
  refine ⟨_, pe_and ha hb, fun σ S Q sv H Kt re rs q k => sa σ S _ sv H _ re rs q fun v d S1 H1 s1 r1 v1 q1 => ?_⟩
  cases v1 <;> try exact False.elim q1
  rename_i kk
  refine ⟨kk, rfl, ?_⟩
  cases kk with
  | true => exact sb σ S1 Q sv H1 _ (re.mono s1.tx) r1 q1 fun v2 d2 S2 H2 s2 r2 v2' q2 => k v2 d2 S2 H2 (s1.trans s2) r2 v2' q2
  | false => exact k _ _ _ _ s1 r1 (.bl _) q1
theorem c_not (ha : CE X a fa) : CE X (.UnaryOp .Not a pos) (eNot fa) := by
  obtain ⟨ta, ha, sa⟩ := ha
  refine ⟨_, pe_not ha, fun σ S Q sv H Kt re rs q k => sa σ S _ sv H _ re rs q fun v d S1 H1 s1 r1 v1 q1 => ?_⟩
  cases v1 <;> try exact False.elim q1
  exact ⟨_, rfl, k _ _ _ _ s1 r1 (.bl _) q1⟩
def eIf (ft : DT) (fa fb : DE) : DE := fun σ S Q => ft σ S fun k S1 => if k = true then fa σ S1 Q else fb σ S1 Q
theorem c_if (hc : CT X c ft) (ha : CE X a fa) (hb : CE X b fb) : CE X (.IfExp c a b pos) (eIf ft fa fb) := by
  obtain ⟨tc, hc, sc⟩ := hc
  obtain ⟨ta, ha, sa⟩ := ha
  obtain ⟨tb, hb, sb⟩ := hb
  refine ⟨_, pe_ifExp hc ha hb, fun σ S Q sv H Kt re rs q k => sc σ S _ sv H _ re rs q fun kk S1 H1 s1 r1 q1 => ?_⟩
  cases kk with
  | true => exact sa σ S1 Q sv H1 _ (re.mono s1.tx) r1 q1 fun v2 d2 S2 H2 s2 r2 v2' q2 => k v2 d2 S2 H2 (s1.trans s2) r2 v2' q2
  | false => exact sb σ S1 Q sv H1 _ (re.mono s1.tx) r1 q1 fun v2 d2 S2 H2 s2 r2 v2' q2 => k v2 d2 S2 H2 (s1.trans s2) r2 v2' q2
/-! ### lists of expressions, displays -/
def aNil : DA := fun _ S Q => Q [] S
def aCons (fa : DE) (fs : DA) : DA := fun σ S Q => fa σ S fun x S1 => fs σ S1 fun xs S2 => Q (x :: xs) S2
theorem a_nil : CA X [] aNil := ⟨_, pa_nil, fun σ S Q sv H Kt re rs q k => k _ _ _ _ .refl rs .nil q⟩
theorem a_cons (ha : CE X a fa) (hr : CA X es fs) (hs : starEach (a :: es) X.env = (false, eval a X.env) :: starEach es X.env := by rfl) : CA X (a :: es) (aCons fa fs) := by
  obtain ⟨ta, ha, sa⟩ := ha
  obtain ⟨tr, hr, sr⟩ := hr
  refine ⟨_, pa_cons ha hr hs, fun σ S Q sv H Kt re rs q k => sa σ S _ sv H _ re rs q fun v d S1 H1 s1 r1 v1 q1 => ?_⟩
  exact sr σ S1 _ sv H1 _ (re.mono s1.tx) r1 q1 fun vs ds S2 H2 s2 r2 vs2 q2 => k _ _ S2 H2 (s1.trans s2) r2 (.cons (v1.mono s2.tx) vs2) q2
def eTup (fs : DA) : DE := fun σ S Q => fs σ S fun xs S1 => xs.length ≤ sizeLine ∧ Q (.tup xs) S1
def eLst (fs : DA) : DE := fun σ S Q => fs σ S fun xs S1 => xs.length ≤ sizeLine ∧ ∀ p, S1 p = none → Q (.ref p) (updS S1 p (.lst xs))
theorem c_tup {n} (h : CA X es fs) : CE X (.Tuple es n pos) (eTup fs) := by
  obtain ⟨ta, ha, sa⟩ := h
  refine ⟨_, pe_tup ha, fun σ S Q sv H Kt re rs q k => sa σ S _ sv H _ re rs q fun vs ds S1 H1 s1 r1 v1 q1 => ?_⟩
  refine ⟨by rw [v1.length]; exact q1.1, fun p hp => ?_⟩
  obtain ⟨st, sr⟩ := stp_tup (vs := vs) r1 hp
  exact k _ _ _ _ (s1.trans st) sr (.tup (.inl (.inl upd_same)) (v1.mono st.tx)) q1.2
theorem c_lst (h : CA X es fs) : CE X (.List es pos) (eLst fs) := by
  obtain ⟨ta, ha, sa⟩ := h
  refine ⟨_, pe_lst ha, fun σ S Q sv H Kt re rs q k => sa σ S _ sv H _ re rs q fun vs ds S1 H1 s1 r1 v1 q1 => ?_⟩
  refine ⟨by rw [v1.length]; exact q1.1, fun p hp => ?_⟩
  have tx := tx_new (K := X.K) (ho := .lst vs) hp
  obtain ⟨st, sr⟩ := stp_new (o := .lst ds) r1 hp ⟨_, upd_same, v1.mono tx⟩
  exact k _ _ _ _ (s1.trans st) sr (.ref p) (q1.2 p (r1.free hp))
end
end DL
namespace DL
open PySem PySem.Spec PyProof.Rows L2
section
variable {X : Cx} {K : PySem.W.Frag} {e a b c : Expr} {es : List Expr} {fe fa fb fc : DE} {ft fu : DT} {fs : DA} {pos : Pos} {S : Sto} {H : Hp}
/-! ### keys, tables -/
def toKey : D → Option Key
  | .int i => some (.inl i)
  | .str s => some (.inr s)
  | _ => none
def valD : List (Key × D) → Key → Option D
  | [], _ => none
  | p :: r, k => if p.1 = k then some p.2 else valD r k
def hasD (kvs : List (Key × D)) (k : Key) : Bool := (valD kvs k).isSome
def replD : List (Key × D) → Key → D → List (Key × D)
  | [], _, _ => []
  | p :: r, k, d => (if p.1 = k then (p.1, d) else p) :: replD r k d
def putD (kvs : List (Key × D)) (k : Key) (d : D) : List (Key × D) := if hasD kvs k = true then replD kvs k d else kvs ++ [(k, d)]
def dropD : List (Key × D) → Key → List (Key × D)
  | [], _ => []
  | p :: r, k => if p.1 = k then dropD r k else p :: dropD r k
theorem key_rep {v : V} {d : D} {k : Key} (r : Rep K H v d) (h : toKey d = some k) : v = kV k := by
  cases r <;> first | (cases h; rfl) | cases h
theorem kreps_val : ∀ {ws : List (Key × V)} {kvs : List (Key × D)} (k : Key), KReps K H ws kvs → (valV ws k = none ∧ valD kvs k = none) ∨ ∃ v d, valV ws k = some v ∧ valD kvs k = some d ∧ Rep K H v d
  | _, _, _, .nil => .inl ⟨rfl, rfl⟩
  | p :: ws, q :: kvs, k, .cons h r => by
    by_cases e : q.1 = k
    · exact .inr ⟨p.2, q.2, valV_pos (h.1.trans e), by unfold valD; rw [if_pos e], h.2⟩
    · rw [valV_neg (fun z => e (h.1.symm.trans z))]
      unfold valD
      rw [if_neg e]
      exact kreps_val k r
theorem kreps_len {ws : List (Key × V)} {kvs : List (Key × D)} (r : KReps K H ws kvs) : ws.length = kvs.length := Paired.length r
theorem kreps_repl {v : V} {d : D} (rv : Rep K H v d) (k : Key) : ∀ {ws : List (Key × V)} {kvs : List (Key × D)}, KReps K H ws kvs → KReps K H (ws.map fun kv => if kv.1 = k then (kv.1, v) else kv) (replD kvs k d)
  | _, _, .nil => .nil
  | p :: ws, q :: kvs, .cons h r => by
    refine .cons ?_ (kreps_repl rv k r)
    by_cases e : q.1 = k
    · dsimp only
      rw [if_pos e, if_pos (h.1.trans e)]
      exact ⟨h.1, rv⟩
    · dsimp only
      rw [if_neg e, if_neg (fun z => e (h.1.symm.trans z))]
      exact h
theorem kreps_app : ∀ {ws us : List (Key × V)} {kvs js : List (Key × D)}, KReps K H ws kvs → KReps K H us js → KReps K H (ws ++ us) (kvs ++ js)
  | _, _, _, _, .nil, s => s
  | _, _, _, _, .cons h r, s => .cons h (kreps_app r s)
theorem kreps_put {v : V} {d : D} (rv : Rep K H v d) (k : Key) {ws : List (Key × V)} {kvs : List (Key × D)} (r : KReps K H ws kvs) : KReps K H (putK ws k v) (putD kvs k d) := by
  unfold putK putD hasD
  rw [valV_any]
  rcases kreps_val k r with ⟨e1, e2⟩ | ⟨u, z, e1, e2, _⟩
  · rw [e1, e2]
    exact kreps_app r (.cons ⟨rfl, rv⟩ .nil)
  · rw [e1, e2]
    exact kreps_repl rv k r
def valT : List (List Key × D) → List Key → Option D
  | [], _ => none
  | p :: r, k => if p.1 = k then some p.2 else valT r k
def hasT (kvs : List (List Key × D)) (k : List Key) : Bool := (valT kvs k).isSome
def replT : List (List Key × D) → List Key → D → List (List Key × D)
  | [], _, _ => []
  | p :: r, k, d => (if p.1 = k then (p.1, d) else p) :: replT r k d
def putT (kvs : List (List Key × D)) (k : List Key) (d : D) : List (List Key × D) := if hasT kvs k = true then replT kvs k d else kvs ++ [(k, d)]
theorem treps_val : ∀ {ws : List (List Key × V)} {kvs : List (List Key × D)} (k : List Key), TReps K H ws kvs → (valV ws k = none ∧ valT kvs k = none) ∨ ∃ v d, valV ws k = some v ∧ valT kvs k = some d ∧ Rep K H v d
  | _, _, _, .nil => .inl ⟨rfl, rfl⟩
  | p :: ws, q :: kvs, k, .cons h r => by
    by_cases e : q.1 = k
    · exact .inr ⟨p.2, q.2, valV_pos (h.1.trans e), by unfold valT; rw [if_pos e], h.2⟩
    · rw [valV_neg (fun z => e (h.1.symm.trans z))]
      unfold valT
      rw [if_neg e]
      exact treps_val k r
theorem treps_len {ws : List (List Key × V)} {kvs : List (List Key × D)} (r : TReps K H ws kvs) : ws.length = kvs.length := Paired.length r
theorem treps_repl {v : V} {d : D} (rv : Rep K H v d) (k : List Key) : ∀ {ws : List (List Key × V)} {kvs : List (List Key × D)}, TReps K H ws kvs → TReps K H (ws.map fun kv => if kv.1 = k then (kv.1, v) else kv) (replT kvs k d)
  | _, _, .nil => .nil
  | p :: ws, q :: kvs, .cons h r => by
    refine .cons ?_ (treps_repl rv k r)
    by_cases e : q.1 = k
    · dsimp only
      rw [if_pos e, if_pos (h.1.trans e)]
      exact ⟨h.1, rv⟩
    · dsimp only
      rw [if_neg e, if_neg (fun z => e (h.1.symm.trans z))]
      exact h
theorem treps_app : ∀ {ws us : List (List Key × V)} {kvs js : List (List Key × D)}, TReps K H ws kvs → TReps K H us js → TReps K H (ws ++ us) (kvs ++ js)
  | _, _, _, _, .nil, s => s
  | _, _, _, _, .cons h r, s => .cons h (treps_app r s)
theorem treps_put {v : V} {d : D} (rv : Rep K H v d) (k : List Key) {ws : List (List Key × V)} {kvs : List (List Key × D)} (r : TReps K H ws kvs) : TReps K H (putK ws k v) (putT kvs k d) := by
  unfold putK putT hasT
  rw [valV_any]
  rcases treps_val k r with ⟨e1, e2⟩ | ⟨u, z, e1, e2, _⟩
  · rw [e1, e2]
    exact treps_app r (.cons ⟨rfl, rv⟩ .nil)
  · rw [e1, e2]
    exact treps_repl rv k r
/-! ### a[b] -/
theorem ixDict (hu : X.A.units + 1 < cLine) : IxR X (fun x y H Q => ∃ a v, x = .ref a ∧ DGet H a y (some v) ∧ Q v H) := by
  intro value slice pins s σ H x y v u Q I rx ry h hs
  obtain ⟨a, z, ex, g, q⟩ := h
  subst ex
  have ev : v = Value.ref a := rx
  subst ev
  have got := d_getItem (A := X.A) (E := X.xe) (Q := EP X pins σ Q) hu I g ry fun w' s3 I3 rw' => ⟨z, H, I3, rw', q⟩
  have ty := dict_typeIs I g
  have fin : wpAny (model X.prog X.w) X.A (subscripted slice false (.ref a) u) (fun r s3 => wpAny (model X.prog X.w) X.A (letTemporaryGo value (.ref a) r >>= fun _ => pure r) (EP X pins σ Q) X.xe s3) X.xe s := by
    rw [hs]
    exact wpAny_operating (thn got fun r s3 h3 => wpAny_bind (wpAny_letTemporaryGo (wpAny_pure h3)))
  unfold subscriptTail
  refine wpAny_bind ?_
  rw [getitemInPython_of_ne ty.not_modules]
  refine wpAny_bind (wpAny_specialOf ty PySem.F.slot_dict_getitem.lookup ?_)
  first | exact wpAny_pure (wpAny_bind fin) | exact wpAny_bind (wpAny_pure (wpAny_bind fin)) | exact wpAny_bind fin
def gIx : G2 := fun x y S Q => match x with
  | .tup xs => (match y with
    | .int i => ∃ d, atI xs i = some d ∧ Q d S
    | _ => False)
  | .str z => (match y with
    | .int i => z.length ≤ sizeLine ∧ ∃ c, atI z.cps.toList i = some c ∧ Q (.str ⟨#[c]⟩) S
    | _ => False)
  | .fl xs => (match y with
    | .int i => ∃ d, atI xs i = some d ∧ Q d S
    | _ => False)
  | .ref p => (match S p with
    | some (.lst xs) => (match y with
      | .int i => ∃ d, atI xs i = some d ∧ Q d S
      | _ => False)
    | some (.dk kvs) => ∃ k d, toKey y = some k ∧ valD kvs k = some d ∧ Q d S
    | some (.dt kvs) => (match y with
      | .kt ks => ∃ d, valT kvs ks = some d ∧ Q d S
      | _ => False)
    | some (.tab _) => False
    | some (.ins _ _) => False
    | some (.fz kvs) => ∃ k d, toKey y = some k ∧ valD kvs k = some d ∧ Q d S
    | none => False)
  | _ => False
theorem reps_atI {vs : List V} {ds : List D} {i : Int} {d : D} (r : Reps K H vs ds) (h : atI ds i = some d) : ∃ v, atI vs i = some v ∧ Rep K H v d := by
  unfold atI at h ⊢
  rw [r.length]
  cases q : ixN ds.length i with
  | none => rw [q] at h; cases h
  | some j =>
    rw [q] at h
    obtain ⟨v, e, rv⟩ := r.get (i := j) (d := d) h
    exact ⟨v, e, rv⟩
theorem sr_ix : SndR K (fun x y H Q => rIx K x y H Q ∨ ∃ a v, x = .ref a ∧ DGet H a y (some v) ∧ Q v H) gIx := fun x y a b S H Q Kt s ra rb q k => by
  cases ra with
  | @tup p vs ds h r =>
    cases rb <;> try exact False.elim q
    obtain ⟨d, e, q⟩ := q
    obtain ⟨v, e2, rv⟩ := reps_atI r e
    exact .inl (.inr (.inl ⟨p, vs, _, v, rfl, rfl, h, e2, k.now s rv q⟩))
  | @fl p vs ds h r =>
    cases rb <;> try exact False.elim q
    obtain ⟨d, e, q⟩ := q
    obtain ⟨v, e2, rv⟩ := reps_atI r e
    exact .inl (.inl ⟨p, vs, _, v, rfl, rfl, h.sq, e2, k.now s rv q⟩)
  | str z =>
    cases rb <;> try exact False.elim q
    obtain ⟨hz, d, e, q⟩ := q
    exact .inl (.inr (.inr ⟨z, _, d, rfl, rfl, hz, e, k.now s (.str _) q⟩))
  | ref p =>
    unfold gIx at q
    cases h : S p with
    | none => simp only [h] at q
    | some o =>
      cases o with
      | lst xs =>
        simp only [h] at q
        cases rb <;> try exact False.elim q
        obtain ⟨d, e, q⟩ := q
        obtain ⟨vs, e1, r⟩ := s _ _ h
        obtain ⟨v, e2, rv⟩ := reps_atI r e
        exact .inl (.inl ⟨p, vs, _, v, rfl, rfl, .inl (.inl e1), e2, k.now s rv q⟩)
      | dk kvs =>
        simp only [h] at q
        obtain ⟨kk, d, e1, e2, q⟩ := q
        obtain ⟨ws, e3, r⟩ := s _ _ h
        rcases kreps_val kk r with ⟨_, z⟩ | ⟨v, d', z1, z2, rv⟩
        · rw [e2] at z; cases z
        · rw [e2] at z2; cases z2
          exact .inr ⟨p, v, rfl, by rw [key_rep rb e1, ← z1]; exact .k e3, k.now s rv q⟩
      | dt kvs =>
        simp only [h] at q
        cases rb <;> try exact False.elim q
        rename_i p2 ks hk
        obtain ⟨d, e2, q⟩ := q
        obtain ⟨ws, e3, r⟩ := s _ _ h
        rcases treps_val ks r with ⟨_, z⟩ | ⟨v, d', z1, z2, rv⟩
        · rw [e2] at z; cases z
        · rw [e2] at z2; cases z2
          exact .inr ⟨p, v, rfl, by rw [← z1]; exact .t e3 hk, k.now s rv q⟩
      | tab z => simp only [h] at q
      | ins _ _ => simp only [h] at q
      | fz kvs =>
        simp only [h] at q
        obtain ⟨kk, d, e1, e2, q⟩ := q
        obtain ⟨ob, ws, e3, r⟩ := s _ _ h
        rcases kreps_val kk r with ⟨_, z⟩ | ⟨v, d', z1, z2, rv⟩
        · rw [e2] at z; cases z
        · rw [e2] at z2; cases z2
          exact .inr ⟨p, v, rfl, .inl ⟨ws, kk, .inr ⟨ob, e3⟩, key_rep rb e1, z1.symm⟩, k.now s rv q⟩
  | _ => exact False.elim q
theorem c_ix (hu : X.A.units + 1 < cLine) (ha : CE X a fa) (hb : CE X b fb) (hs : PlainIx b := by intro _ _; rfl) : CE X (.Subscript a b pos) (eOp gIx fa fb) := by
  obtain ⟨ta, ha, sa⟩ := ha
  obtain ⟨tb, hb, sb⟩ := hb
  exact ⟨_, pe_ix (IxR.or ix_seq (ixDict hu)) ha hb hs, snd_op sr_ix sa sb⟩
/-! ### a[b:c] -/
abbrev DO := Env → Sto → (Option Int → Sto → Prop) → Prop
structure CP (X : Cx) (e : Option Expr) (f : DO) : Prop where
  ok : ∃ t, PO X e t ∧ ∀ (σ : Env) (S : Sto) (Q : Option Int → Sto → Prop) (sv : L2.St) (H : Hp) (Kt : Option Int → Hp → Prop), ERep X.K H sv σ → SRep X.K S H → f σ S Q →
    (∀ o S' H', Stp X.K S H S' H' → SRep X.K S' H' → Q o S' → Kt o H') → t sv H Kt
def oNo : DO := fun _ S Q => Q none S
def oSome (fa : DE) : DO := fun σ S Q => fa σ S fun x S1 => match x with
  | .int i => Q (some i) S1
  | _ => False
theorem p_none : CP X none oNo := ⟨_, po_none, fun σ S Q sv H Kt re rs q k => k _ _ _ .refl rs q⟩
theorem p_some (ha : CE X a fa) : CP X (some a) (oSome fa) := by
  obtain ⟨ta, ha, sa⟩ := ha
  refine ⟨_, po_some ha, fun σ S Q sv H Kt re rs q k => sa σ S _ sv H _ re rs q fun v d S1 H1 s1 r1 v1 q1 => ?_⟩
  cases v1 <;> try exact False.elim q1
  exact ⟨_, rfl, k _ _ _ s1 r1 q1⟩
/-- the part of a list from one place to another -/
def cutL {α : Type} (xs : List α) (lo hi : Option Int) : List α := (xs.drop (HT.sIx xs.length 0 lo)).take (HT.sIx xs.length xs.length hi - HT.sIx xs.length 0 lo)
def gSl : D → Option Int → Option Int → Sto → DK → Prop := fun x lo hi S Q => match x with
  | .tup xs => Q (.tup (cutL xs lo hi)) S
  | .str z => z.length ≤ sizeLine ∧ Q (.str (cutS z lo hi)) S
  | .fl xs => ∀ p, S p = none → Q (.ref p) (updS S p (.lst (cutL xs lo hi)))
  | .ref p => ∃ xs, S p = some (.lst xs) ∧ ∀ n, S n = none → Q (.ref n) (updS S n (.lst (cutL xs lo hi)))
  | _ => False
theorem reps_cut {vs : List V} {ds : List D} (lo hi : Option Int) (r : Reps K H vs ds) : Reps K H (cutV vs lo hi) (cutL ds lo hi) := by
  unfold cutV cutL
  rw [r.length]
  exact (r.drop _).take _
theorem cut_all {α : Type} {xs : List α} {lo hi : Option Int} (h : HT.sIx xs.length 0 lo = 0 ∧ HT.sIx xs.length xs.length hi = xs.length) : cutL xs lo hi = xs := by
  unfold cutL
  rw [h.1, h.2]
  simp
def rSlAll (K : PySem.W.Frag) : V → Option Int → Option Int → Hp → VK → Prop := fun x lo hi H Q => rSlL K x lo hi H Q ∨ (rSlA K x lo hi H Q ∨ rSlS x lo hi H Q)
def eSl (fa : DE) (fl fh : DO) : DE := fun σ S Q => fa σ S fun x S1 => fl σ S1 fun l S2 => fh σ S2 fun h S3 => gSl x l h S3 Q
theorem sl_all {x : V} {d : D} {lo hi : Option Int} {Q : DK} {Kt : VK} (s : SRep K S H) (r : Rep K H x d) (q : gSl d lo hi S Q) (k : Rch K S H Q Kt) : rSlAll K x lo hi H Kt := by
  cases r with
  | @tup p vs ds h r =>
    have l := r.length
    refine .inr (.inl ⟨p, vs, rfl, h, fun z => ?_, fun z n hn => ?_⟩)
    · have q' : Q (.tup (cutL ds lo hi)) S := q
      rw [cut_all (by rw [← l]; exact z)] at q'
      exact k.now s (.tup h r) q'
    · obtain ⟨st, sr⟩ := stp_tup (vs := cutV vs lo hi) s hn
      exact k _ _ _ _ st sr (.tup (.inl (.inl upd_same)) (reps_cut lo hi (r.mono st.tx))) q
  | str z => exact .inr (.inr ⟨z, rfl, q.1, k.now s (.str _) q.2⟩)
  | @fl p vs ds h r =>
    refine .inl ⟨p, vs, rfl, h.sq, fun n hn => ?_⟩
    have tx := tx_new (K := K) (ho := .lst (cutV vs lo hi)) hn
    obtain ⟨st, sr⟩ := stp_new (o := .lst (cutL ds lo hi)) s hn ⟨_, upd_same, reps_cut lo hi (r.mono tx)⟩
    exact k _ _ _ _ st sr (.ref n) (q n (s.free hn))
  | ref p =>
    obtain ⟨xs, e, q⟩ := q
    obtain ⟨vs, e1, r⟩ := s _ _ e
    refine .inl ⟨p, vs, rfl, .inl (.inl e1), fun n hn => ?_⟩
    have tx := tx_new (K := K) (ho := .lst (cutV vs lo hi)) hn
    obtain ⟨st, sr⟩ := stp_new (o := .lst (cutL xs lo hi)) s hn ⟨_, upd_same, reps_cut lo hi (r.mono tx)⟩
    exact k _ _ _ _ st sr (.ref n) (q n (s.free hn))
  | _ => exact False.elim q
theorem c_sl {lo hi : Option Expr} {fl fh : DO} {p2 : Pos} (ha : CE X a fa) (hl : CP X lo fl) (hh : CP X hi fh) : CE X (.Subscript a (.Slice lo hi none p2) pos) (eSl fa fl fh) := by
  obtain ⟨ta, ha, sa⟩ := ha
  obtain ⟨tl, hl, sl⟩ := hl
  obtain ⟨th, hh, sh⟩ := hh
  refine ⟨_, pe_slice (SlR.or sl_list (SlR.or sl_tupA sl_str)) ha hl hh, fun σ S Q sv H Kt re rs q k => sa σ S _ sv H _ re rs q fun v d S1 H1 s1 r1 v1 q1 => ?_⟩
  refine sl σ S1 _ sv H1 _ (re.mono s1.tx) r1 q1 fun o S2 H2 s2 r2 q2 => ?_
  refine sh σ S2 _ sv H2 _ (re.mono (s1.trans s2).tx) r2 q2 fun o2 S3 H3 s3 r3 q3 => ?_
  exact sl_all r3 (v1.mono (s2.trans s3).tx) q3 fun v4 d4 S4 H4 s4 r4 v4' q4 => k v4 d4 S4 H4 (((s1.trans s2).trans s3).trans s4) r4 v4' q4
/-! ### x in y -/
/-- x is one of flat things -/
def flatD : D → Bool
  | .non => true | .bl _ => true | .int _ => true | .str _ => true
  | _ => false
def eqF : D → D → Bool
  | .non, .non => true
  | .bl a, .bl b => a == b
  | .bl a, .int b => (if a = true then 1 else 0) == b
  | .int a, .bl b => a == if b = true then 1 else 0
  | .int a, .int b => a == b
  | .str a, .str b => a == b
  | _, _ => false
theorem flat_rep {v : V} {d : D} (r : Rep K H v d) (h : flatD d = true) : flatV v = true := by cases r <;> first | rfl | cases h
theorem flat_reps : ∀ {vs : List V} {ds : List D}, Reps K H vs ds → ds.all flatD = true → vs.all flatV = true
  | _, _, .nil, _ => rfl
  | _, _, .cons h r, e => by
    rw [List.all_cons, Bool.and_eq_true] at e ⊢
    exact ⟨flat_rep h e.1, flat_reps r e.2⟩
theorem eqF_rep {x y : V} {a b : D} (rx : Rep K H x a) (ry : Rep K H y b) (ha : flatD a = true) (hb : flatD b = true) : eqV x y = eqF a b := by
  cases rx <;> first | (cases ha; done) | (cases ry <;> first | (cases hb; done) | rfl)
theorem inV_rep {x : V} {a : D} (rx : Rep K H x a) (ha : flatD a = true) : ∀ {vs : List V} {ds : List D}, Reps K H vs ds → ds.all flatD = true → inV x vs = ds.any fun y => eqF y a
  | _, _, .nil, _ => rfl
  | _, _, .cons h r, e => by
    rw [List.all_cons, Bool.and_eq_true] at e
    have ih := inV_rep rx ha r e.2
    unfold inV at ih ⊢
    rw [List.any_cons, List.any_cons, ih, eqF_rep h rx e.1 ha]
def inStr (i j : Str) : Bool := !(Builtin.Str.occurrences j i 0 j.length 1).isEmpty
def gIn (f : Bool → Bool) : G2 := fun x y S Q => match y with
  | .str j => (match x with
    | .str i => Q (.bl (f (inStr i j))) S
    | _ => False)
  | .tup ys => flatD x = true ∧ ys.all flatD = true ∧ Q (.bl (f (ys.any fun z => eqF z x))) S
  | .fl ys => flatD x = true ∧ ys.all flatD = true ∧ Q (.bl (f (ys.any fun z => eqF z x))) S
  | .ref p => (match S p with
    | some (.lst ys) => flatD x = true ∧ ys.all flatD = true ∧ Q (.bl (f (ys.any fun z => eqF z x))) S
    | some (.dk kvs) => ∃ k, toKey x = some k ∧ Q (.bl (f (hasD kvs k))) S
    | some (.dt kvs) => (match x with
      | .kt ks => Q (.bl (f (hasT kvs ks))) S
      | _ => False)
    | some (.tab _) => False
    | some (.ins _ _) => False
    | some (.fz kvs) => ∃ k, toKey x = some k ∧ Q (.bl (f (hasD kvs k))) S
    | none => False)
  | _ => False
theorem opInD (hu : X.A.units + 1 < cLine) : OpR X (compareOp .In) (fun y x H Q => ∃ a o, x = .ref a ∧ DGet H a y o ∧ Q (.bl o.isSome) H) := by
  intro pins s σ H y x v u Q I ry rx h
  obtain ⟨a, o, ex, g, q⟩ := h
  subst ex
  have ev : u = Value.ref a := rx
  subst ev
  exact d_in hu I g ry fun s' I' => ⟨.bl _, _, I', rfl, q⟩
theorem opNotInD (hu : X.A.units + 1 < cLine) : OpR X (compareOp .NotIn) (fun y x H Q => ∃ a o, x = .ref a ∧ DGet H a y o ∧ Q (.bl (!o.isSome)) H) := by
  intro pins s σ H y x v u Q I ry rx h
  obtain ⟨a, o, ex, g, q⟩ := h
  subst ex
  have ev : u = Value.ref a := rx
  subst ev
  exact d_notIn hu I g ry fun s' I' => ⟨.bl _, _, I', rfl, q⟩
theorem o_in (hu : X.A.units + 1 < cLine) : CO X .In (gIn id) := by
  refine ⟨_, OpR.or op_in_str (OpR.or op_in_seq (opInD hu)), fun x y a b S H Q Kt s ra rb q k => ?_⟩
  cases rb with
  | str j =>
    cases ra <;> try exact False.elim q
    exact .inl ⟨_, _, rfl, rfl, k.now s (.bl _) q⟩
  | @tup p vs ds h r => exact .inr (.inl ⟨p, vs, rfl, .inr h, flat_rep ra q.1, flat_reps r q.2.1, k.now s (.bl _) (by rw [if_neg Bool.false_ne_true, inV_rep ra q.1 r q.2.1]; exact q.2.2)⟩)
  | @fl p vs ds h r => exact .inr (.inl ⟨p, vs, rfl, .inl h.sq, flat_rep ra q.1, flat_reps r q.2.1, k.now s (.bl _) (by rw [if_neg Bool.false_ne_true, inV_rep ra q.1 r q.2.1]; exact q.2.2)⟩)
  | ref p =>
    unfold gIn at q
    cases h : S p with
    | none => simp only [h] at q
    | some o =>
      obtain h0 := s _ _ h
      cases o with
      | lst xs =>
        simp only [h] at q
        obtain ⟨vs, e1, r⟩ := h0
        exact .inr (.inl ⟨p, vs, rfl, .inl (.inl (.inl e1)), flat_rep ra q.1, flat_reps r q.2.1, k.now s (.bl _) (by rw [if_neg Bool.false_ne_true, inV_rep ra q.1 r q.2.1]; exact q.2.2)⟩)
      | dk kvs =>
        simp only [h] at q
        obtain ⟨kk, e1, q⟩ := q
        obtain ⟨ws, e3, r⟩ := h0
        refine .inr (.inr ⟨p, valV ws kk, rfl, by rw [key_rep ra e1]; exact .k e3, k.now s (.bl _) ?_⟩)
        have e : (valV ws kk).isSome = hasD kvs kk := by
          unfold hasD
          rcases kreps_val kk r with ⟨z1, z2⟩ | ⟨v, d, z1, z2, _⟩ <;> rw [z1, z2] <;> rfl
        rw [e]
        exact q
      | dt kvs =>
        simp only [h] at q
        cases ra <;> try exact False.elim q
        rename_i p2 ks hk
        obtain ⟨ws, e3, r⟩ := h0
        refine .inr (.inr ⟨p, valV ws ks, rfl, .t e3 hk, k.now s (.bl _) ?_⟩)
        have e : (valV ws ks).isSome = hasT kvs ks := by
          unfold hasT
          rcases treps_val ks r with ⟨z1, z2⟩ | ⟨v, d, z1, z2, _⟩ <;> rw [z1, z2] <;> rfl
        rw [e]
        exact q
      | tab z => simp only [h] at q
      | ins _ _ => simp only [h] at q
      | fz kvs =>
        simp only [h] at q
        obtain ⟨kk, e1, q⟩ := q
        obtain ⟨ob, ws, e3, r⟩ := h0
        refine .inr (.inr ⟨p, valV ws kk, rfl, .inl ⟨ws, kk, .inr ⟨ob, e3⟩, key_rep ra e1, rfl⟩, k.now s (.bl _) ?_⟩)
        have e : (valV ws kk).isSome = hasD kvs kk := by
          unfold hasD
          rcases kreps_val kk r with ⟨z1, z2⟩ | ⟨v, d, z1, z2, _⟩ <;> rw [z1, z2] <;> rfl
        rw [e]
        exact q
  | _ => exact False.elim q
theorem o_notIn (hu : X.A.units + 1 < cLine) : CO X .NotIn (gIn not) := by
  refine ⟨_, OpR.or op_notin_str (OpR.or op_notIn_seq (opNotInD hu)), fun x y a b S H Q Kt s ra rb q k => ?_⟩
  cases rb with
  | str j =>
    cases ra <;> try exact False.elim q
    exact .inl ⟨_, _, rfl, rfl, k.now s (.bl _) q⟩
  | @tup p vs ds h r => exact .inr (.inl ⟨p, vs, rfl, .inr h, flat_rep ra q.1, flat_reps r q.2.1, k.now s (.bl _) (by rw [if_pos rfl, inV_rep ra q.1 r q.2.1]; exact q.2.2)⟩)
  | @fl p vs ds h r => exact .inr (.inl ⟨p, vs, rfl, .inl h.sq, flat_rep ra q.1, flat_reps r q.2.1, k.now s (.bl _) (by rw [if_pos rfl, inV_rep ra q.1 r q.2.1]; exact q.2.2)⟩)
  | ref p =>
    unfold gIn at q
    cases h : S p with
    | none => simp only [h] at q
    | some o =>
      obtain h0 := s _ _ h
      cases o with
      | lst xs =>
        simp only [h] at q
        obtain ⟨vs, e1, r⟩ := h0
        exact .inr (.inl ⟨p, vs, rfl, .inl (.inl (.inl e1)), flat_rep ra q.1, flat_reps r q.2.1, k.now s (.bl _) (by rw [if_pos rfl, inV_rep ra q.1 r q.2.1]; exact q.2.2)⟩)
      | dk kvs =>
        simp only [h] at q
        obtain ⟨kk, e1, q⟩ := q
        obtain ⟨ws, e3, r⟩ := h0
        refine .inr (.inr ⟨p, valV ws kk, rfl, by rw [key_rep ra e1]; exact .k e3, k.now s (.bl _) ?_⟩)
        have e : (valV ws kk).isSome = hasD kvs kk := by
          unfold hasD
          rcases kreps_val kk r with ⟨z1, z2⟩ | ⟨v, d, z1, z2, _⟩ <;> rw [z1, z2] <;> rfl
        rw [e]
        exact q
      | dt kvs =>
        simp only [h] at q
        cases ra <;> try exact False.elim q
        rename_i p2 ks hk
        obtain ⟨ws, e3, r⟩ := h0
        refine .inr (.inr ⟨p, valV ws ks, rfl, .t e3 hk, k.now s (.bl _) ?_⟩)
        have e : (valV ws ks).isSome = hasT kvs ks := by
          unfold hasT
          rcases treps_val ks r with ⟨z1, z2⟩ | ⟨v, d, z1, z2, _⟩ <;> rw [z1, z2] <;> rfl
        rw [e]
        exact q
      | tab z => simp only [h] at q
      | ins _ _ => simp only [h] at q
      | fz kvs =>
        simp only [h] at q
        obtain ⟨kk, e1, q⟩ := q
        obtain ⟨ob, ws, e3, r⟩ := h0
        refine .inr (.inr ⟨p, valV ws kk, rfl, .inl ⟨ws, kk, .inr ⟨ob, e3⟩, key_rep ra e1, rfl⟩, k.now s (.bl _) ?_⟩)
        have e : (valV ws kk).isSome = hasD kvs kk := by
          unfold hasD
          rcases kreps_val kk r with ⟨z1, z2⟩ | ⟨v, d, z1, z2, _⟩ <;> rw [z1, z2] <;> rfl
        rw [e]
        exact q
  | _ => exact False.elim q
end
end DL
namespace DL
open PySem PySem.Spec PyProof.Rows L2
/-! ### defs under a stack without guards -/
structure RoomG (k : Nat) (A : Around) : Prop extends Room k A where
  gd : A.guards = some []
theorem RoomG.mono' {k j : Nat} {A : Around} (h : RoomG j A) (hk : k ≤ j) : RoomG k A := ⟨h.toRoom.mono hk, h.gd⟩
structure FnG (P : Program) (w : World) (K : PySem.W.Frag) (mg : Str → Option Value) (base : Heap) (CX : CXT) (k : Nat) (f : Addr) (fd : FuncData) (ps : List Str) (sp : Sp) : Prop where
  len : ∀ (vs : List V) (H : Hp) (Q : VK) (E : XK), sp vs H Q E → vs.length = ps.length
  run : ∀ (A : Around) (outer : List PySem.Env) (s : Shared) (H : Hp) (args : Args) (us : List Value) (vs : List V) (Q : VK) (E : XK),
    RoomG k A → Env0 P w K mg base A outer s H → BindsTo s fd args (ps.zip us) → Vals vs us → sp vs H Q E → codeAny (model P w) A (.call (.ref f) args) (CR CX outer P w H s Q E) s
theorem run_fnG {X : Cx} {CX : CXT} {k : Nat} {f : Addr} {fd : FuncData} {ps : List Str} {sp : Sp} {dvs : List V} {ds : List Value} {E : XK} {pins : List (Addr × Obj)} {σ : L2.St} {H : Hp} {s : Shared} {Q : VK} {us : List Value} {vs : List V}
    (F : FnG X.prog X.w X.K X.mg X.base CX k f fd ps sp) (hr : RoomG k X.A) (hb : Binds X.K fd ps ds) (hd : Vals dvs ds) (hx : Passes CX X E) (I : L2.Inv X pins σ H s) (r : Vals vs us) (h : sp (vs ++ dvs) H Q E) :
    wpAny (model X.prog X.w) X.A (call (.ref f) us) (EP X pins σ Q) X.xe s := by
  have r2 := Vals.append r hd
  have hl : (us ++ ds).length = ps.length := by rw [← r2.length]; exact F.len _ H Q E h
  refine wpAny_call (codeAny_mono (F.run X.A X.stack s H ⟨us, []⟩ (us ++ ds) (vs ++ dvs) Q E hr I.env0 (hb s us I.kIn hl) r2 h) fun q s' hq => ?_)
  match q, hq with
  | .error e, hq => exact hx pins σ H s e s' I hq
  | .ok (.ret u), hq => exact I.after hq
  | .ok .next, hq => exact hq.elim
  | .ok .brk, hq => exact hq.elim
  | .ok .cont, hq => exact hq.elim
theorem pe_callG {X : Cx} {CX : CXT} {k : Nat} {f : Addr} {fd : FuncData} {ps : List Str} {sp : Sp} {dvs : List V} {ds : List Value} {E : XK} {x : Str} {p pos : Pos} {e : Expr} {es : List Expr} {t : TA}
    (F : FnG X.prog X.w X.K X.mg X.base CX k f fd ps sp) (hr : RoomG k X.A) (hg : Gl X x) (hm : X.mg x = some (.ref f)) (hk : PySem.W.keepIn X.K (.ref f) = true) (hb : Binds X.K fd ps ds) (hd : Vals dvs ds) (hx : Passes CX X E) (ha : PA X (e :: es) t)
    (hdb : (x == ("__debug__" : Str)) = false) (he : starEach (e :: es) X.env = (false, eval e X.env) :: starEach es X.env) (hpl : (backTo pos (starEach es X.env)).any (·.1) = false) :
    PE X (.Call (.Name x p) (e :: es) [] pos) (tCall sp dvs E t) :=
  ⟨fun pins s σ H Q I h => wpAny_Call_Name_kw (ld_glob I hg hm (PySem.W.callWith_K I.ok.mod.kin hk
    (thn (ha.run pos pins s σ H (fun vs H1 => sp (vs ++ dvs) H1 Q E) I h) fun us s1 x => match x with
      | ⟨vs, H1, I1, r, q⟩ => ⟨I1.kIn, run_fnG F hr hb hd hx I1 r q⟩) he hpl) hdb)⟩
theorem fn_ofG {CX : CXT} {P : Program} {w : World} {K : PySem.W.Frag} {mg : Str → Option Value} {base : Heap} {k : Nat} {f : Addr} {name qual : Str} {params : Arguments} {body : List Stmt} {scope : Scope} {dV kV doc pm cdv ct oc : Value} {an od : Option Addr} {osl : Array (Option Value)} {N ps : List Str} {sp : Sp}
    (lk : K.lookup f = some ⟨oc, od, .func (PySem.W.fnOf name qual params body scope dV kV doc pm an cdv ct), osl⟩) (hcd : PySem.W.codeIn K cdv qual = true) (S : FnScope N ps scope) (len : ∀ (vs : List V) (H : Hp) (Q : VK) (E : XK), sp vs H Q E → vs.length = ps.length)
    (hbody : ∀ (A : Around) (outer : List PySem.Env) (s : Shared) (H : Hp) (vs : List V) (Q : VK) (E : XK), RoomG k (A.deeper (envOfC qual scope s.heap.objs.size f cdv)) → sp vs H Q E →
      ∃ t, PSs (cxOf CX P w K mg base N qual scope f cdv A outer s H E) body t ∧ t { nx := fun _ H' => Q .non H', rt := Q } (L2.start N vs) H) :
    FnG P w K mg base CX (k + 1) f (PySem.W.fnOf name qual params body scope dV kV doc pm an cdv ct) ps sp := by
  refine ⟨len, fun A outer s H args us vs Q E hr e0 hb r hsp => ?_⟩
  have hl := len vs H Q E hsp
  have KX : K.In s.heap := e0.mod.kin.keeps fun b o e => (e0.bs b o e).1
  have lim : s.heap.NoLimit := e0.mod.nolimit.keeps fun b o e => (e0.bs b o e).1
  refine codeAny_call_function hr.toRoom.depth (KX f _ lk) rfl S.co S.gen rfl (PySem.W.codeRec_of KX hcd) (hb (model P w) A.in1 (fun e s' => CR CX outer P w H s Q E (.error e) s') _ (wpAny_newFunctionEnv_cells S.kind (fun x hy => ?_) fun env he s1 x => ?_))
  · rcases S.par x.1 (List.of_mem_zip hy).1 with q | q
    · exact .inl q
    · exact .inr ⟨q, PySem.W.cellsFrom_some scope.names (s.heap.objs.size + 1) [] (.inl q)⟩
  · subst he
    refine ⟨lim.keeps x.toInCall.keep, codeAny_func ?_⟩
    obtain ⟨t, ht, hq⟩ := hbody A outer s H vs Q E ⟨hr.toRoom.deeper _, hr.gd⟩ hsp
    have I := inv_start (CX := CX) (mg := mg) (E := E) (N := N) (P := P) (w := w) (K := K) (base := base) (outer := outer) S hr.hd e0 hl r x
    refine wpAny_mono (ht.run [] s1 (L2.start N vs) H _ I hq) (fun fl s' hs => ?_) fun e s' hs => hs
    match fl, hs with
    | .next, hs => obtain ⟨σ', H', J, q⟩ := hs; exact ⟨.non, H', J.os, J.bare, J.base, J.hok, rfl, q⟩
    | .brk, hs => obtain ⟨_, _, _, q⟩ := hs; exact q.elim
    | .cont, hs => obtain ⟨_, _, _, q⟩ := hs; exact q.elim
    | .ret u, hs => obtain ⟨v, σ', H', J, rv, q⟩ := hs; exact ⟨v, H', J.os, J.bare, J.base, J.hok, rv, q⟩
theorem okG {P : Program} {w : World} {K : PySem.W.Frag} {mg : Str → Option Value} {base : Heap} {x qual : Str} {st : Stmt} {f : Addr} {fd : FuncData} {N ps : List Str} {k : Nat} {sp : Sp} (F : Fun K x qual st f fd) (S : FnScope N ps (defScope st))
    (len : ∀ (vs : List V) (H : Hp) (Q : VK) (E : XK), sp vs H Q E → vs.length = ps.length)
    (hbody : ∀ (cdv : Value) (A : Around) (outer : List PySem.Env) (s : Shared) (H : Hp) (vs : List V) (Q : VK) (E : XK), RoomG k (A.deeper (envOfC qual (defScope st) s.heap.objs.size f cdv)) → sp vs H Q E →
      ∃ t, PSs (cxOf CX0 P w K mg base N qual (defScope st) f cdv A outer s H E).nox (defBody st) t ∧ t { nx := fun _ H' => Q .non H', rt := Q } (L2.start N vs) H) :
    FnG P w K mg base CX0 (k + 1) f fd ps sp := by
  obtain ⟨oc, od, kV, doc, pm, an, cdv, ct, osl, e, lk, hcd⟩ := F.ex
  subst e
  refine fn_ofG lk hcd S len fun A outer s H vs Q E hr hsp => ?_
  obtain ⟨t, h, q⟩ := hbody cdv A outer s H vs Q E hr hsp
  exact ⟨t, h.nox, q⟩
end DL
namespace DL
open PySem PySem.Spec PyProof.Rows L2
/-! ### what a def does -/
abbrev MF := List D → Sto → DK → Prop
/-- a def of n parameters that raises nothing does m -/
def spD (K : PySem.W.Frag) (n : Nat) (m : MF) : Sp := fun vs H Q _ => vs.length = n ∧ ∃ ds S Qd, Reps K H vs ds ∧ SRep K S H ∧ m ds S Qd ∧ Rch K S H Qd Q
section
variable {X : Cx} {K : PySem.W.Frag} {e a b c : Expr} {es : List Expr} {fe fa fb fc : DE} {ft fu : DT} {fs : DA} {pos : Pos} {S : Sto} {H : Hp}
def eCall (n : Nat) (m : MF) (fs : DA) : DE := fun σ S Q => fs σ S fun ds S1 => ds.length = n ∧ m ds S1 Q
theorem c_call {k n : Nat} {f : Addr} {fd : FuncData} {ps : List Str} {m : MF} {x : Str} {p : Pos} (hr : RoomG k X.A) (F : FnG X.prog X.w X.K X.mg X.base CX0 k f fd ps (spD X.K n m)) (hg : Gl X x) (hm : X.mg x = some (.ref f)) (hk : PySem.W.keepIn X.K (.ref f) = true)
    (hb : Binds X.K fd ps []) (ha : CA X (a :: es) fs) (hdb : (x == ("__debug__" : Str)) = false := by decide) (he : starEach (a :: es) X.env = (false, eval a X.env) :: starEach es X.env := by rfl) (hpl : (backTo pos (starEach es X.env)).any (·.1) = false := by rfl) :
    CE X (.Call (.Name x p) (a :: es) [] pos) (eCall n m fs) := by
  obtain ⟨ta, ha, sa⟩ := ha
  refine ⟨_, pe_callG F hr hg hm hk hb .nil pass0 ha hdb he hpl, fun σ S Q sv H Kt re rs q k => sa σ S _ sv H _ re rs q fun vs ds S1 H1 s1 r1 v1 q1 => ?_⟩
  rw [List.append_nil]
  exact ⟨by rw [v1.length]; exact q1.1, ds, S1, Q, v1, r1, q1.2, fun v d S2 H2 s2 r2 v2 q2 => k v d S2 H2 (s1.trans s2) r2 v2 q2⟩
/-! ### built-ins -/
def eCB (g : GN) (fs : DA) : DE := fun σ S Q => fs σ S fun ds S1 => g ds S1 Q
theorem snd_cb {r : List V → Hp → VK → Prop} {g : GN} {t : TA} (hr : SndN K r g) (ha : SndA K t fs) : Snd K (tCB r t) (eCB g fs) := fun σ S Q sv H Kt re rs q k =>
  ha σ S _ sv H _ re rs q fun vs ds S1 H1 s1 r1 v1 q1 => hr vs ds S1 H1 Q Kt r1 v1 q1 fun v d S2 H2 s2 r2 v2 q2 => k v d S2 H2 (s1.trans s2) r2 v2 q2
/-- a built-in function by its name -/
structure CB (X : Cx) (id : String) (g : GN) : Prop where
  ok : ∃ r, CallR X (.builtin id) r ∧ SndN X.K r g
structure CY (X : Cx) (T : String) (g : GN) : Prop where
  ok : ∃ r, CallR X (.type T) r ∧ SndN X.K r g
theorem c_callB {id : String} {x : Str} {p : Pos} {g : GN} (h : CB X id g) (hg : Gl X x) (hm : X.mg x = none) (hv : bootBuiltins x = some (.builtin id)) (ha : CA X (a :: es) fs) (hn : x ≠ "__name__" := by decide) (hdb : (x == ("__debug__" : Str)) = false := by decide)
    (he : starEach (a :: es) X.env = (false, eval a X.env) :: starEach es X.env := by rfl) (hpl : (backTo pos (starEach es X.env)).any (·.1) = false := by rfl) : CE X (.Call (.Name x p) (a :: es) [] pos) (eCB g fs) := by
  obtain ⟨r, h1, h2⟩ := h
  obtain ⟨ta, ha, sa⟩ := ha
  exact ⟨_, pe_callB h1 hg hm hv ha hn hdb he hpl, snd_cb h2 sa⟩
theorem c_callTy {T : String} {x : Str} {p : Pos} {g : GN} (h : CY X T g) (hg : Gl X x) (hm : X.mg x = none) (hv : bootBuiltins x = some (.type T)) (ha : CA X (a :: es) fs) (hn : x ≠ "__name__" := by decide) (hdb : (x == ("__debug__" : Str)) = false := by decide)
    (he : starEach (a :: es) X.env = (false, eval a X.env) :: starEach es X.env := by rfl) (hpl : (backTo pos (starEach es X.env)).any (·.1) = false := by rfl) : CE X (.Call (.Name x p) (a :: es) [] pos) (eCB g fs) := by
  obtain ⟨r, h1, h2⟩ := h
  obtain ⟨ta, ha, sa⟩ := ha
  exact ⟨_, pe_callTy h1 hg hm hv ha hn hdb he hpl, snd_cb h2 sa⟩
theorem c_bltn {x : Str} {n : String} (hg : Gl X x) (hm : X.mg x = none) (hv : bootBuiltins x = some (.type n)) (hn : x ≠ "__name__" := by decide) (hd : (x == ("__debug__" : Str)) = false := by decide) : CE X (.Name x pos) (eC (.ty n)) :=
  ⟨_, pe_bltn (v := .ty n) hg hm hv rfl hn hd, snd_c fun _ => .ty n⟩
/-- len -/
def gLen : GN := fun xs S Q => match xs with
  | [.str z] => z.length ≤ sizeLine ∧ Q (.int z.length) S
  | [.tup ys] => Q (.int ys.length) S
  | [.fl ys] => Q (.int ys.length) S
  | [.ref p] => (match S p with
    | some (.lst ys) => Q (.int ys.length) S
    | some (.dk kvs) => Q (.int kvs.length) S
    | some (.dt _) => False
    | some (.tab _) => False
    | some (.ins _ _) => False
    | some (.fz kvs) => Q (.int kvs.length) S
    | none => False)
  | _ => False
theorem callLenD : CallR X (.builtin "len") (fun xs H Q => ∃ a kvs, xs = [.ref a] ∧ Rd H a (.dK kvs) ∧ Q (.int kvs.length) H) := by
  intro pins s σ H xs us Q I r h
  obtain ⟨a, kvs, ex, hr, q⟩ := h
  subst ex
  obtain ⟨u, eu, ru⟩ := Vals.one r
  subst eu
  have ev : u = Value.ref a := ru
  subst ev
  exact d_len I hr fun t s' I' => ⟨.int kvs.length, H, I', ⟨t, rfl⟩, q⟩
theorem reps1 {vs : List V} {d : D} (r : Reps K H vs [d]) : ∃ v, vs = [v] ∧ Rep K H v d := by
  cases r with
  | cons h t => cases t; exact ⟨_, rfl, h⟩
theorem reps2 {vs : List V} {d d2 : D} (r : Reps K H vs [d, d2]) : ∃ v v2, vs = [v, v2] ∧ Rep K H v d ∧ Rep K H v2 d2 := by
  cases r with
  | cons h t =>
    obtain ⟨v2, rfl, h2⟩ := reps1 t
    exact ⟨_, _, rfl, h, h2⟩
theorem b_len : CB X "len" gLen := by
  refine ⟨_, L2.CallR.or call_len_str (L2.CallR.or call_len_seq callLenD), fun xs as S H Q Kt s r q k => ?_⟩
  match as, q with
  | [.str z], q =>
    obtain ⟨v, rfl, rv⟩ := reps1 r
    cases rv
    exact .inl ⟨_, rfl, q.1, k.now s (.int _) q.2⟩
  | [.tup ys], q =>
    obtain ⟨v, rfl, rv⟩ := reps1 r
    cases rv with
    | tup h r => exact .inr (.inl ⟨_, _, rfl, .inr h, k.now s (.int _) (by rw [r.length]; exact q)⟩)
  | [.fl ys], q =>
    obtain ⟨v, rfl, rv⟩ := reps1 r
    cases rv with
    | fl h r => exact .inr (.inl ⟨_, _, rfl, .inl h.sq, k.now s (.int _) (by rw [r.length]; exact q)⟩)
  | [.ref p], q =>
    obtain ⟨v, rfl, rv⟩ := reps1 r
    cases rv
    unfold gLen at q
    cases h : S p with
    | none => simp only [h] at q
    | some o =>
      have h0 := s _ _ h
      cases o with
      | lst ys =>
        simp only [h] at q
        obtain ⟨vs, e1, r⟩ := h0
        exact .inr (.inl ⟨_, _, rfl, .inl (.inl (.inl e1)), k.now s (.int _) (by rw [r.length]; exact q)⟩)
      | dk kvs =>
        simp only [h] at q
        obtain ⟨ws, e1, r⟩ := h0
        exact .inr (.inr ⟨_, _, rfl, .inl e1, k.now s (.int _) (by rw [kreps_len r]; exact q)⟩)
      | dt kvs => simp only [h] at q
      | tab z => simp only [h] at q
      | ins _ _ => simp only [h] at q
      | fz kvs =>
        simp only [h] at q
        obtain ⟨ob, ws, e1, r⟩ := h0
        exact .inr (.inr ⟨_, _, rfl, .inr ⟨ob, e1⟩, k.now s (.int _) (by rw [kreps_len r]; exact q)⟩)
def gAbs : GN := fun xs S Q => match xs with
  | [.int i] => Q (.int (if i < 0 then -i else i)) S
  | _ => False
theorem b_abs : CB X "abs" gAbs := by
  refine ⟨_, call_abs, fun xs as S H Q Kt s r q k => ?_⟩
  match as, q with
  | [.int i], q =>
    obtain ⟨v, rfl, rv⟩ := reps1 r
    cases rv
    exact ⟨_, rfl, k.now s (.int _) q⟩
def gMax2 : GN := fun xs S Q => match xs with
  | [.int i, .int j] => Q (.int (if j > i then j else i)) S
  | _ => False
def gMin2 : GN := fun xs S Q => match xs with
  | [.int i, .int j] => Q (.int (if j < i then j else i)) S
  | _ => False
theorem b_min2 (hc : X.calm = true) : CB X "min" gMin2 := by
  refine ⟨_, call_min2 hc, fun xs as S H Q Kt s r q k => ?_⟩
  match as, q with
  | [.int i, .int j], q =>
    obtain ⟨v, v2, rfl, rv, rv2⟩ := reps2 r
    cases rv
    cases rv2
    exact ⟨_, _, rfl, k.now s (.int _) q⟩
def gInt1 : GN := fun xs S Q => match xs with
  | [.int i] => Q (.int i) S
  | [.bl i] => Q (.int (if i then 1 else 0)) S
  | _ => False
theorem y_int : CY X "int" gInt1 := by
  refine ⟨_, call_int1, fun xs as S H Q Kt s r q k => ?_⟩
  match as, q with
  | [.int i], q =>
    obtain ⟨v, rfl, rv⟩ := reps1 r
    cases rv
    exact .inl ⟨_, rfl, k.now s (.int _) q⟩
  | [.bl i], q =>
    obtain ⟨v, rfl, rv⟩ := reps1 r
    cases rv
    exact .inr ⟨_, rfl, k.now s (.int _) q⟩
def gList : GN := fun xs S Q => match xs with
  | [.tup ys] => ∀ p, S p = none → Q (.ref p) (updS S p (.lst ys))
  | [.fl ys] => ∀ p, S p = none → Q (.ref p) (updS S p (.lst ys))
  | [.ref a] => ∃ ys, S a = some (.lst ys) ∧ ∀ p, S p = none → Q (.ref p) (updS S p (.lst ys))
  | _ => False
theorem new_lst {vs : List V} {ds : List D} {Q : DK} {Kt : VK} (s : SRep K S H) (r : Reps K H vs ds) (k : Rch K S H Q Kt) (q : ∀ p, S p = none → Q (.ref p) (updS S p (.lst ds))) : ∀ p, H p = none → Kt (.ref p) (upd H p (.lst vs)) := fun p hp => by
  have tx := tx_new (K := K) (ho := .lst vs) hp
  obtain ⟨st, sr⟩ := stp_new (o := .lst ds) s hp ⟨_, upd_same, r.mono tx⟩
  exact k _ _ _ _ st sr (.ref p) (q p (s.free hp))
theorem y_list : CY X "list" gList := by
  refine ⟨_, call_list_of, fun xs as S H Q Kt s r q k => ?_⟩
  match as, q with
  | [.tup ys], q =>
    obtain ⟨v, rfl, rv⟩ := reps1 r
    cases rv with
    | tup h r => exact ⟨_, _, rfl, .inr h, new_lst s r k q⟩
  | [.fl ys], q =>
    obtain ⟨v, rfl, rv⟩ := reps1 r
    cases rv with
    | fl h r => exact ⟨_, _, rfl, .inl h.sq, new_lst s r k q⟩
  | [.ref p], q =>
    obtain ⟨v, rfl, rv⟩ := reps1 r
    cases rv
    obtain ⟨ys, e, q⟩ := q
    obtain ⟨vs, e1, r⟩ := s _ _ e
    exact ⟨_, _, rfl, .inl (.inl (.inl e1)), new_lst s r k q⟩
def gTuple : GN := fun xs S Q => match xs with
  | [.tup ys] => Q (.tup ys) S
  | [.fl ys] => Q (.tup ys) S
  | [.ref a] => ∃ ys, S a = some (.lst ys) ∧ Q (.tup ys) S
  | _ => False
theorem y_tuple : CY X "tuple" gTuple := by
  refine ⟨_, call_tuple_of, fun xs as S H Q Kt s r q k => ?_⟩
  have mk : ∀ {vs : List V} {ds : List D}, Reps X.K H vs ds → Q (.tup ds) S → ∀ p, H p = none → Kt (.ref p) (upd H p (.tup vs)) := fun {vs ds} r q p hp => by
    obtain ⟨st, sr⟩ := stp_tup (vs := vs) s hp
    exact k _ _ _ _ st sr (.tup (.inl (.inl upd_same)) (r.mono st.tx)) q
  match as, q with
  | [.tup ys], q =>
    obtain ⟨v, rfl, rv⟩ := reps1 r
    cases rv with
    | tup h r => exact ⟨_, _, rfl, .inr ⟨h, k.now s (.tup h r) q⟩⟩
  | [.fl ys], q =>
    obtain ⟨v, rfl, rv⟩ := reps1 r
    cases rv with
    | fl h r => exact ⟨_, _, rfl, .inl ⟨h.sq, mk r q⟩⟩
  | [.ref p], q =>
    obtain ⟨v, rfl, rv⟩ := reps1 r
    cases rv
    obtain ⟨ys, e, q⟩ := q
    obtain ⟨vs, e1, r⟩ := s _ _ e
    exact ⟨_, _, rfl, .inl ⟨.inl (.inl e1), mk r q⟩⟩
theorem reps_map {α : Type} {f : α → V} {g : α → D} (h : ∀ {v : V} {x : α}, Rep K H v (g x) → v = f x) : ∀ {vs : List V} {xs : List α}, Reps K H vs (xs.map g) → vs = xs.map f
  | _, [], r => by cases r; rfl
  | _, x :: xs, r => by
    cases r with
    | cons h1 r => rw [h h1, reps_map h r]; rfl
theorem reps_ints {vs : List V} {ns : List Int} (r : Reps K H vs (ns.map D.int)) : vs = ns.map V.int := reps_map (fun {v x} h => by cases h; rfl) r
theorem reps_strs {vs : List V} {ns : List Str} (r : Reps K H vs (ns.map D.str)) : vs = ns.map V.str := reps_map (fun {v x} h => by cases h; rfl) r
theorem reps_bls {vs : List V} {ns : List Bool} (r : Reps K H vs (ns.map D.bl)) : vs = ns.map V.bl := reps_map (fun {v x} h => by cases h; rfl) r
theorem strs_reps : ∀ {ns : List Str}, Reps K H (ns.map V.str) (ns.map D.str)
  | [] => .nil
  | _ :: _ => .cons (.str _) strs_reps
theorem ints_reps : ∀ {ns : List Int}, Reps K H (ns.map V.int) (ns.map D.int)
  | [] => .nil
  | _ :: _ => .cons (.int _) ints_reps
def gSum : GN := fun xs S Q => match xs with
  | [.ref a] => ∃ ns : List Int, S a = some (.lst (ns.map .int)) ∧ Q (.int ns.sum) S
  | _ => False
def gAll (f : List Bool → Bool) : GN := fun xs S Q => match xs with
  | [.ref a] => ∃ bs : List Bool, S a = some (.lst (bs.map .bl)) ∧ Q (.bl (f bs)) S
  | _ => False
theorem b_all (hc : X.calm = true) : CB X "all" (gAll fun bs => bs.all id) := by
  refine ⟨_, cr_all hc, fun xs as S H Q Kt s r q k => ?_⟩
  match as, q with
  | [.ref p], q =>
    obtain ⟨v, rfl, rv⟩ := reps1 r
    cases rv
    obtain ⟨ns, e, q⟩ := q
    obtain ⟨vs, e1, r⟩ := s _ _ e
    rw [reps_bls r] at e1
    exact ⟨_, _, rfl, .inl (.inl e1), k.now s (.bl _) q⟩
/-- isinstance of one built-in class -/
def tyD (x : D) (S : Sto) : Option String := match x with
  | .non => some "NoneType"
  | .bl _ => some "bool"
  | .int _ => some "int"
  | .str _ => some "str"
  | .tup _ => some "tuple"
  | .fl _ => some "list"
  | .ref p => (match S p with
    | some (.lst _) => some "list"
    | some (.dk _) => some "dict"
    | some (.dt _) => some "dict"
    | some (.tab _) => none
    | some (.ins _ _) => none
    | some (.fz _) => none
    | none => none)
  | .ty _ => none
  | .exc _ => none
  | .cls _ => none
  | .kt _ => some "tuple"
  | .nt _ => some "tuple"
theorem tyX_of {v : V} {d : D} {t : String} (s : SRep K S H) (r : Rep K H v d) (h : tyD d S = some t) : TyX K H v (.type t) := by
  cases r with
  | non => cases h; exact .base .non
  | bl b => cases h; exact .base (.bl b)
  | int i => cases h; exact .base (.int i)
  | str x => cases h; exact .base (.str x)
  | ty n => cases h
  | exc _ _ => cases h
  | cls _ => cases h
  | kt h1 => cases h; exact .base (.tup h1)
  | nt h1 _ => cases h; obtain ⟨o, h1, _⟩ := h1; exact .fTuple h1
  | @tup p vs ds h1 r =>
    cases h
    rcases h1 with (h1 | ⟨o, h1⟩) | ⟨o, its, n, hk, hc, _⟩
    · exact .base (.tup h1)
    · exact .fTuple h1
    · exact .kTuple hk hc
  | @fl p vs ds h1 r =>
    cases h
    rcases h1 with ⟨o, h1⟩ | ⟨o, its, n, hk, hc, _⟩
    · exact .base (.frz h1)
    · exact .kList hk hc
  | ref p =>
    unfold tyD at h
    cases q : S p with
    | none => simp only [q] at h; cases h
    | some o =>
      have h0 := s _ _ q
      cases o with
      | lst ys =>
        simp only [q] at h
        cases h
        obtain ⟨vs, e1, r⟩ := h0
        exact .base (.lst e1)
      | dk kvs =>
        simp only [q] at h
        cases h
        obtain ⟨ws, e1, r⟩ := h0
        exact .base (.dK e1)
      | dt kvs =>
        simp only [q] at h
        cases h
        obtain ⟨ws, e1, r⟩ := h0
        exact .base (.dT e1)
      | tab z => simp only [q] at h; cases h
      | ins _ _ => simp only [q] at h; cases h
      | fz z => simp only [q] at h; cases h
/-- what isinstance tells of a type and a class by their names -/
def isiN (t n : String) : Bool := t == n || (t == "bool" && n == "int")
def isiTys : List String := ["NoneType", "bool", "int", "str", "tuple", "list", "dict"]
def isiCls : List String := ["bool", "int", "str", "tuple", "list", "dict"]
theorem isi_table : isiTys.all (fun t => isiCls.all fun n => kitB t n == some (isiN t n)) = true := by decide +kernel
theorem isi_ok {t n : String} (ht : t ∈ isiTys) (hn : n ∈ isiCls) : kitB t n = some (isiN t n) := by
  have h := List.all_eq_true.mp (List.all_eq_true.mp isi_table t ht) n hn
  exact eq_of_beq h
theorem tyD_in {d : D} {t : String} (h : tyD d S = some t) : t ∈ isiTys := by
  have : ∀ u ∈ ["NoneType", "bool", "int", "str", "tuple", "list", "dict"], u ∈ isiTys := fun u h => h
  unfold tyD at h
  split at h <;> first | (cases h; done) | (cases h; apply this; simp; done) | skip
  split at h <;> first | (cases h; done) | (cases h; apply this; simp; done)
def gIsi : GN := fun xs S Q => match xs with
  | [x, .ty n] => n ∈ isiCls ∧ ∃ t, tyD x S = some t ∧ Q (.bl (isiN t n)) S
  | _ => False
theorem b_isi : CB X "isinstance" gIsi := by
  refine ⟨_, call_isi, fun xs as S H Q Kt s r q k => ?_⟩
  match as, q with
  | [x, .ty n], q =>
    obtain ⟨v, v2, rfl, rv, rv2⟩ := reps2 r
    cases rv2
    obtain ⟨hn, t, ht, q⟩ := q
    exact ⟨_, _, _, _, _, rfl, .ty n, tyX_of s rv ht, kit_ty (isi_ok (tyD_in ht) hn), k.now s (.bl _) q⟩
/-- isinstance(x, (c, c2)) -/
def eIsi2 (n n2 : String) (fa : DE) : DE := fun σ S Q => fa σ S fun x S1 => (n ∈ isiCls ∧ n2 ∈ isiCls) ∧ ∃ t, tyD x S1 = some t ∧ Q (.bl (isiN t n || isiN t n2)) S1
theorem c_isi2 {x1 x2 : Str} {n n2 : String} {p p1 p2 p3 : Pos} (hg : Gl X "isinstance") (hm : X.mg "isinstance" = none) (hv : bootBuiltins "isinstance" = some (.builtin "isinstance")) (ha : CE X a fa)
    (g1 : Gl X x1) (m1 : X.mg x1 = none) (v1 : bootBuiltins x1 = some (.type n)) (g2 : Gl X x2) (m2 : X.mg x2 = none) (v2 : bootBuiltins x2 = some (.type n2)) (hn1 : x1 ≠ "__name__" := by decide) (hd1 : (x1 == ("__debug__" : Str)) = false := by decide)
    (hn2 : x2 ≠ "__name__" := by decide) (hd2 : (x2 == ("__debug__" : Str)) = false := by decide) {j}
    (hs1 : starEach [a, .Tuple [.Name x1 p1, .Name x2 p2] j p3] X.env = (false, eval a X.env) :: starEach [.Tuple [.Name x1 p1, .Name x2 p2] j p3] X.env := by rfl)
    (hs2 : starEach [.Tuple [.Name x1 p1, .Name x2 p2] j p3] X.env = (false, eval (.Tuple [.Name x1 p1, .Name x2 p2] j p3) X.env) :: starEach [] X.env := by rfl)
    (hs3 : starEach [.Name x1 p1, .Name x2 p2] X.env = (false, eval (.Name x1 p1) X.env) :: starEach [.Name x2 p2] X.env := by rfl)
    (hs4 : starEach [.Name x2 p2] X.env = (false, eval (.Name x2 p2) X.env) :: starEach [] X.env := by rfl)
    (hpl : (backTo pos (starEach [.Tuple [.Name x1 p1, .Name x2 p2] j p3] X.env)).any (·.1) = false := by rfl) :
    CE X (.Call (.Name "isinstance" p) [a, .Tuple [.Name x1 p1, .Name x2 p2] j p3] [] pos) (eIsi2 n n2 fa) := by
  obtain ⟨ta, ha, sa⟩ := ha
  refine ⟨_, pe_callB call_isiT hg hm hv (pa_cons ha (pa_cons (pe_tup (pa_cons (pe_bltn (v := .ty n) g1 m1 v1 rfl hn1 hd1) (pa_cons (pe_bltn (v := .ty n2) g2 m2 v2 rfl hn2 hd2) pa_nil hs4) hs3)) pa_nil hs2) hs1) (by decide) (by decide) hs1 hpl, fun σ S Q sv H Kt re rs q k => ?_⟩
  refine sa σ S _ sv H _ re rs q fun v d S1 H1 s1 r1 w1 q1 => ?_
  obtain ⟨⟨h1, h2⟩, t, ht, q1⟩ := q1
  refine ⟨by show 2 ≤ sizeLine; decide, fun tp hp => ?_⟩
  obtain ⟨st, sr⟩ := stp_tup (vs := [V.ty n, V.ty n2]) r1 hp
  refine ⟨v, tp, _, _, [.type n, .type n2], _, rfl, upd_same, .cons (.ty n) (.cons (.ty n2) .nil), tyX_of sr (w1.mono st.tx) ht, ?_, k _ _ _ _ (s1.trans st) sr (.bl _) q1⟩
  refine kitAny_cons (b := isiN t n) (kit_ty (isi_ok (tyD_in ht) h1)) (fun e => kitAny_cons (b := isiN t n2) (r := isiN t n || isiN t n2) (kit_ty (isi_ok (tyD_in ht) h2)) (fun e2 => ?_) fun e2 => ?_) fun e => ?_
  · rw [e, e2]; exact kitAny_nil
  · rw [e, e2]; rfl
  · rw [e]; rfl
/-! ### methods of built-in types -/
def tyM (T : String) (x : D) (S : Sto) : Prop := match x with
  | .str _ => T = "str"
  | .fl _ => T = "list"
  | .ref p => (match S p with
    | some (.lst _) => T = "list"
    | some (.dk _) => T = "dict"
    | some (.dt _) => T = "dict"
    | some (.tab _) => False
    | some (.ins _ _) => False
    | some (.fz _) => False
    | none => False)
  | _ => False
theorem tyV_of {v : V} {d : D} {T : String} (s : SRep K S H) (r : Rep K H v d) (h : tyM T d S) : tyV K T v H := by
  cases r with
  | str x => exact h
  | @fl p vs ds h2 r => exact .inl ⟨h, vs, h2.sq⟩
  | ref p =>
    unfold tyM at h
    cases q : S p with
    | none => simp only [q] at h
    | some o =>
      have h0 := s _ _ q
      cases o with
      | lst ys =>
        simp only [q] at h
        obtain ⟨vs, e1, r⟩ := h0
        exact .inl ⟨h, vs, .inl (.inl e1)⟩
      | dk kvs =>
        simp only [q] at h
        obtain ⟨ws, e1, r⟩ := h0
        exact .inr (.inr (.inl ⟨h, .inl ⟨ws, e1⟩⟩))
      | dt kvs =>
        simp only [q] at h
        obtain ⟨ws, e1, r⟩ := h0
        exact .inr (.inr (.inl ⟨h, .inr ⟨ws, e1⟩⟩))
      | tab z => simp only [q] at h
      | ins _ _ => simp only [q] at h
      | fz z => simp only [q] at h
  | _ => exact False.elim h
def eM (T : String) (g : D → GN) (fo : DE) (fs : DA) : DE := fun σ S Q => fo σ S fun x S1 => tyM T x S1 ∧ fs σ S1 fun xs S2 => g x xs S2 Q
/-- a method by its name -/
structure CM (X : Cx) (T : String) (name : Str) (g : D → GN) : Prop where
  ok : ∃ (id : String) (r : V → List V → Hp → VK → Prop), PlainAttrs T ∧ Slot T name id ∧ typeOf (.builtin id) = pure (.type "method_descriptor") ∧ MtR X id r ∧ SndM X.K r g
theorem c_m {T : String} {name : Str} {g : D → GN} {fo : DE} {o : Expr} {apos : Pos} (h : CM X T name g) (ho : CE X o fo) (ha : CA X (a :: es) fs)
    (hbase : attributeBase o name X.env (eval o X.env) = eval o X.env := by rfl)
    (hfew : ((backTo pos (starEach (a :: es) X.env)).all (fun x => !x.1) && (backToKw pos (keywordEach [] X.env)).all (fun x => x.1.isSome)
      && decide ((a :: es).length + ([] : List Keyword).length + (if ([] : List Keyword).isEmpty then 0 else 1) < 30)) = true := by rfl)
    (hline : (apos.endLine == pos.line) = true := by rfl) (hs : starEach (a :: es) X.env = (false, eval a X.env) :: starEach es X.env := by rfl) (hplain : (backTo pos (starEach es X.env)).any (·.1) = false := by rfl) :
    CE X (.Call (.Attribute o name apos) (a :: es) [] pos) (eM T g fo fs) := by
  obtain ⟨id, r, h1, h2, h3, h4, h5⟩ := h
  obtain ⟨to, ho, so⟩ := ho
  obtain ⟨ta, ha, sa⟩ := ha
  refine ⟨_, pe_bm h1 h2 h3 h4 ho ha hbase hfew hline hs hplain, fun σ S Q sv H Kt re rs q k => so σ S _ sv H _ re rs q fun v d S1 H1 s1 r1 v1 q1 => ?_⟩
  refine ⟨tyV_of r1 v1 q1.1, sa σ S1 _ sv H1 _ (re.mono s1.tx) r1 q1.2 fun vs ds S2 H2 s2 r2 v2 q2 => ?_⟩
  exact h5 v d vs ds S2 H2 Q Kt r2 (v1.mono s2.tx) v2 q2 fun v3 d3 S3 H3 s3 r3 w3 q3 => k v3 d3 S3 H3 ((s1.trans s2).trans s3) r3 w3 q3
end
end DL
namespace DL
open PySem PySem.Spec PyProof.Rows L2
section
variable {X : Cx} {K : PySem.W.Frag} {e a b c : Expr} {es : List Expr} {fe fa fb fc : DE} {ft fu : DT} {fs : DA} {pos : Pos} {S : Sto} {H : Hp}
/-! ### methods of lists -/
def gAppend : D → GN := fun x vs S Q => match x, vs with
  | .ref p, [d] => ∃ xs, S p = some (.lst xs) ∧ xs.length < sizeLine ∧ Q .non (updS S p (.lst (xs ++ [d])))
  | _, _ => False
theorem mut_lst {p : Addr} {vs' : List V} {ds ds' : List D} {Q : DK} {Kt : VK} (s : SRep K S H) (e : S p = some (.lst ds)) (r : Reps K H vs' ds') (k : Rch K S H Q Kt) {v : V} {d : D} (rv : Rep K H v d) (q : Q d (updS S p (.lst ds'))) : Kt v (upd H p (.lst vs')) := by
  have tx : Tx K H (upd H p (.lst vs')) := tx_mut (s p _ e)
  obtain ⟨st, sr⟩ := stp_mut (o' := .lst ds') s e ⟨_, upd_same, r.mono tx⟩
  exact k _ _ _ _ st sr (rv.mono tx) q
theorem m_append : CM X "list" "append" gAppend := by
  refine ⟨_, _, PySem.F.plainAttrs_list, PySem.F.slot_list_append, PySem.F.type_list_append, mt_append, fun x a xs as S H Q Kt s rx r q k => ?_⟩
  match a, as, q with
  | .ref p, [d], q =>
    obtain ⟨ys, e, hz, q⟩ := q
    obtain ⟨v, rfl, rv⟩ := reps1 r
    cases rx
    obtain ⟨vs, e1, r1⟩ := s _ _ e
    exact ⟨p, vs, v, rfl, rfl, e1, by rw [r1.length]; exact hz, mut_lst s e (r1.append (.cons rv .nil)) k .non q⟩
def gPop0 : D → GN := fun x vs S Q => match x, vs with
  | .ref p, [] => ∃ xs d, S p = some (.lst xs) ∧ xs[xs.length - 1]? = some d ∧ Q d (updS S p (.lst xs.dropLast))
  | _, _ => False
def gPopAt : D → GN := fun x vs S Q => match x, vs with
  | .ref p, [.int i] => ∃ xs j d, S p = some (.lst xs) ∧ -(2 ^ 63) ≤ i ∧ i < 2 ^ 63 ∧ seqIndex? i xs.length = some j ∧ xs[j]? = some d ∧ Q d (updS S p (.lst (xs.eraseIdx j)))
  | _, _ => False
theorem m_popAt : CM X "list" "pop" gPopAt := by
  refine ⟨_, _, PySem.F.plainAttrs_list, PySem.F.slot_list_pop, PySem.F.type_list_pop, mt_popAt, fun x a xs as S H Q Kt s rx r q k => ?_⟩
  match a, as, q with
  | .ref p, [.int i], q =>
    obtain ⟨ys, j, d, e, h1, h2, h3, hd, q⟩ := q
    obtain ⟨v, rfl, rv⟩ := reps1 r
    cases rv
    cases rx
    obtain ⟨vs, e1, r1⟩ := s _ _ e
    obtain ⟨v, ev, rv⟩ := r1.get hd
    exact ⟨p, vs, i, j, v, rfl, rfl, e1, h1, h2, by rw [r1.length]; exact h3, ev, mut_lst s e (r1.eraseIdx j) k rv q⟩
def gClear : D → GN := fun x vs S Q => match x, vs with
  | .ref p, [] => ∃ xs, S p = some (.lst xs) ∧ Q .non (updS S p (.lst []))
  | _, _ => False
def gReverse : D → GN := fun x vs S Q => match x, vs with
  | .ref p, [] => ∃ xs, S p = some (.lst xs) ∧ Q .non (updS S p (.lst xs.reverse))
  | _, _ => False
/-! ### methods of texts -/
def gJoin : D → GN := fun x vs S Q => match x, vs with
  | .str a, [.ref p] => ∃ ys : List Str, S p = some (.lst (ys.map .str)) ∧ (ys.map (·.length)).sum + ys.length * a.length ≤ 16777216 ∧ Q (.str (Txt.join a ys)) S
  | .str a, [.tup ds] => ∃ ys : List Str, ds = ys.map .str ∧ (ys.map (·.length)).sum + ys.length * a.length ≤ 16777216 ∧ Q (.str (Txt.join a ys)) S
  | _, _ => False
theorem m_join : CM X "str" "join" gJoin := by
  refine ⟨_, _, PySem.F.plainAttrs_str, F.slot_str_join, F.type_str_join, mt_join, fun x a xs as S H Q Kt s rx r q k => ?_⟩
  match a, as, q with
  | .str z, [.ref p], q =>
    obtain ⟨ys, e, hz, q⟩ := q
    obtain ⟨v, rfl, rv⟩ := reps1 r
    cases rv
    cases rx
    obtain ⟨vs, e1, r1⟩ := s _ _ e
    rw [reps_strs r1] at e1
    exact ⟨z, p, ys, rfl, rfl, .inl (.inl (.inl e1)), hz, k.now s (.str _) q⟩
  | .str z, [.tup ds], q =>
    obtain ⟨ys, rfl, hz, q⟩ := q
    obtain ⟨v, rfl, rv⟩ := reps1 r
    cases rx
    cases rv with
    | @tup p vs ds h r =>
      rw [reps_strs r] at h
      exact ⟨z, p, ys, rfl, rfl, .inr h, hz, k.now s (.str _) q⟩
def gUpper : D → GN := fun x vs S Q => match x, vs with
  | .str a, [] => a.length ≤ 5592405 ∧ Q (.str (Txt.upper a)) S
  | _, _ => False
/-! ### statements -/
structure DEnds where
  nx : Env → Sto → Prop
  rt : DK
  bk : Env → Sto → Prop
  ct : Env → Sto → Prop
abbrev DS := DEnds → Env → Sto → Prop
/-- a state of data that is reached, and what is wanted there -/
abbrev RchS (K : PySem.W.Frag) (S : Sto) (H : Hp) (Q : Env → Sto → Prop) (Kt : L2.St → Hp → Prop) : Prop := ∀ sv σ S' H', Stp K S H S' H' → SRep K S' H' → ERep K H' sv σ → Q σ S' → Kt sv H'
structure RchE (K : PySem.W.Frag) (S : Sto) (H : Hp) (D0 : DEnds) (Dv : Ends) : Prop where
  nx : RchS K S H D0.nx Dv.nx
  rt : Rch K S H D0.rt Dv.rt
  bk : RchS K S H D0.bk Dv.bk
  ct : RchS K S H D0.ct Dv.ct
theorem RchS.stp {Q : Env → Sto → Prop} {Kt : L2.St → Hp → Prop} {S1 : Sto} {H1 : Hp} (k : RchS K S H Q Kt) (s : Stp K S H S1 H1) : RchS K S1 H1 Q Kt := fun sv σ S2 H2 s2 r e q => k sv σ S2 H2 (s.trans s2) r e q
theorem Rch.stp {Q : DK} {Kt : VK} {S1 : Sto} {H1 : Hp} (k : Rch K S H Q Kt) (s : Stp K S H S1 H1) : Rch K S1 H1 Q Kt := fun v d S2 H2 s2 r e q => k v d S2 H2 (s.trans s2) r e q
theorem RchE.stp {D0 : DEnds} {Dv : Ends} {S1 : Sto} {H1 : Hp} (k : RchE K S H D0 Dv) (s : Stp K S H S1 H1) : RchE K S1 H1 D0 Dv := ⟨k.nx.stp s, k.rt.stp s, k.bk.stp s, k.ct.stp s⟩
def SndS (K : PySem.W.Frag) (t : TS) (f : DS) : Prop := ∀ (D0 : DEnds) (σ : Env) (S : Sto) (Dv : Ends) (sv : L2.St) (H : Hp), ERep K H sv σ → SRep K S H → f D0 σ S → RchE K S H D0 Dv → t Dv sv H
structure CS (X : Cx) (st : Stmt) (f : DS) : Prop where
  ok : ∃ t, PS X st t ∧ SndS X.K t f
structure CSs (X : Cx) (st : List Stmt) (f : DS) : Prop where
  ok : ∃ t, PSs X st t ∧ SndS X.K t f
variable {st : Stmt} {rest : List Stmt} {f g : DS}
def sNext : DS := fun D0 σ S => D0.nx σ S
def sSeq (f g : DS) : DS := fun D0 σ S => f { D0 with nx := g D0 } σ S
def sBreak : DS := fun D0 σ S => D0.bk σ S
def sCont : DS := fun D0 σ S => D0.ct σ S
theorem ss_nil : CSs X [] sNext := ⟨_, pss_nil, fun D0 σ S Dv sv H re rs q k => k.nx sv σ S H .refl rs re q⟩
theorem ss_cons (h1 : CS X st f) (h2 : CSs X rest g) : CSs X (st :: rest) (sSeq f g) := by
  obtain ⟨t, h1, s1⟩ := h1
  obtain ⟨u, h2, s2⟩ := h2
  refine ⟨_, pss_cons h1 h2, fun D0 σ S Dv sv H re rs q k => s1 { D0 with nx := g D0 } σ S { Dv with nx := u Dv } sv H re rs q ⟨?_, k.rt, k.bk, k.ct⟩⟩
  exact fun sv' σ' S' H' st' r' e' q' => s2 D0 σ' S' Dv sv' H' e' r' q' (k.stp st')
theorem ss_one (h1 : CS X st f) : CSs X [st] f := let ⟨_, h, s⟩ := h1.ok; ⟨_, pss_one h, s⟩
def sExpr (fa : DE) : DS := fun D0 σ S => fa σ S fun _ S1 => D0.nx σ S1
theorem s_expr (ha : CE X a fa) (hs : swapsWith a none pos.line X.env = pure false := by rfl) : CS X (.Expr a pos) (sExpr fa) := by
  obtain ⟨t, h, s⟩ := ha
  exact ⟨_, ps_expr h hs, fun D0 σ S Dv sv H re rs q k => s σ S _ sv H _ re rs q fun v d S1 H1 s1 r1 v1 q1 => k.nx sv σ S1 H1 s1 r1 (re.mono s1.tx) q1⟩
def sRet (fa : DE) : DS := fun D0 σ S => fa σ S D0.rt
theorem s_ret (ha : CE X a fa) : CS X (.Return (some a) pos) (sRet fa) := by
  obtain ⟨t, h, s⟩ := ha
  exact ⟨_, ps_ret h, fun D0 σ S Dv sv H re rs q k => s σ S _ sv H _ re rs q k.rt⟩
def sRetN : DS := fun D0 _ S => D0.rt .non S
def sIf (ft : DT) (f g : DS) : DS := fun D0 σ S => ft σ S fun k S1 => if k = true then f D0 σ S1 else g D0 σ S1
theorem s_if {body orelse : List Stmt} (hc : CT X c ft) (ha : CSs X body f) (hb : CSs X orelse g) : CS X (.If c body orelse pos) (sIf ft f g) := by
  obtain ⟨tc, hc, sc⟩ := hc
  obtain ⟨ta, ha, sa⟩ := ha
  obtain ⟨tb, hb, sb⟩ := hb
  refine ⟨_, ps_if hc ha hb, fun D0 σ S Dv sv H re rs q k => sc σ S _ sv H _ re rs q fun kk S1 H1 s1 r1 q1 => ?_⟩
  cases kk with
  | true => exact sa D0 σ S1 Dv sv H1 (re.mono s1.tx) r1 q1 (k.stp s1)
  | false => exact sb D0 σ S1 Dv sv H1 (re.mono s1.tx) r1 q1 (k.stp s1)
/-! ### targets -/
abbrev DG := D → Env → Sto → (Env → Sto → Prop) → Prop
/-- own: the slots that a store changes -/
structure CG (X : Cx) (tg : Expr) (own : List Nat) (g : DG) : Prop where
  ok : ∃ t, PG X tg t ∧ ∀ (v : V) (d : D) (σ : Env) (S : Sto) (Q : Env → Sto → Prop) (sv : L2.St) (H : Hp) (Kt : L2.St → Hp → Prop), Rep X.K H v d → ERep X.K H sv σ → SRep X.K S H → g d σ S Q →
    (∀ sv' σ' S' H', Stp X.K S H S' H' → SRep X.K S' H' → ERep X.K H' sv' σ' → (∀ vs : List Nat, (∀ i ∈ own, i ∈ vs) → wipe sv' vs = wipe sv vs) → Q σ' S' → Kt sv' H') → t v sv H Kt
def nName (i : Nat) : DG := fun d σ S Q => Q (setS i d σ) S
theorem g_name {i : Nat} {x : Str} (hN : X.N.Nodup) (hi : X.N[i]? = some x) (hx : Loc X.env.scope x) (hf : X.fn x = true ∨ X.env.scope.names.lookup x = some .local := by first | exact .inl rfl | exact .inr rfl | assumption) : CG X (.Name x pos) [i] (nName i) := by
  refine ⟨_, pg_name hN hi hx hf, fun v d σ S Q sv H Kt rv re rs q k => ?_⟩
  exact k _ _ _ _ .refl rs (re.set rv) (fun vs h => wipe_set (h i List.mem_cons_self)) q
structure CGs (X : Cx) (ts : List Expr) (own : List Nat) (g : List D → Env → Sto → (Env → Sto → Prop) → Prop) : Prop where
  ok : ∃ t, PGs X ts t ∧ ∀ (vs : List V) (ds : List D) (σ : Env) (S : Sto) (Q : Env → Sto → Prop) (sv : L2.St) (H : Hp) (Kt : L2.St → Hp → Prop), Reps X.K H vs ds → ERep X.K H sv σ → SRep X.K S H → g ds σ S Q →
    (∀ sv' σ' S' H', Stp X.K S H S' H' → SRep X.K S' H' → ERep X.K H' sv' σ' → (∀ vs : List Nat, (∀ i ∈ own, i ∈ vs) → wipe sv' vs = wipe sv vs) → Q σ' S' → Kt sv' H') → t vs sv H Kt
def nNil : List D → Env → Sto → (Env → Sto → Prop) → Prop := fun ds σ S Q => match ds with
  | [] => Q σ S
  | _ => False
def nCons (g : DG) (gs : List D → Env → Sto → (Env → Sto → Prop) → Prop) : List D → Env → Sto → (Env → Sto → Prop) → Prop := fun ds σ S Q => match ds with
  | d :: r => g d σ S fun σ1 S1 => gs r σ1 S1 Q
  | [] => False
theorem gs_nil : CGs X [] [] nNil := by
  refine ⟨_, pgs_nil, fun vs ds σ S Q sv H Kt rv re rs q k => ?_⟩
  cases rv with
  | nil => exact ⟨rfl, k _ _ _ _ .refl rs re (fun _ _ => rfl) q⟩
  | cons h r => exact False.elim q
theorem gs_cons {t : Expr} {ts : List Expr} {own owns : List Nat} {gg : DG} {gs : List D → Env → Sto → (Env → Sto → Prop) → Prop} (h1 : CG X t own gg) (h2 : CGs X ts owns gs)
    (hs : (assignEach (t :: ts) X.env).map (·.2) = assign t X.env :: (assignEach ts X.env).map (·.2) := by rfl) : CGs X (t :: ts) (own ++ owns) (nCons gg gs) := by
  obtain ⟨t1, p1, s1⟩ := h1
  obtain ⟨t2, p2, s2⟩ := h2
  refine ⟨_, pgs_cons p1 p2 hs, fun vs ds σ S Q sv H Kt rv re rs q k => ?_⟩
  cases rv with
  | nil => exact False.elim q
  | cons h r =>
    refine ⟨_, _, rfl, s1 _ _ σ S _ sv H _ h re rs q fun sv1 σ1 S1 H1 st1 r1 e1 w1 q1 => ?_⟩
    refine s2 _ _ σ1 S1 Q sv1 H1 Kt (r.mono st1.tx) e1 r1 q1 fun sv2 σ2 S2 H2 st2 r2 e2 w2 q2 => k sv2 σ2 S2 H2 (st1.trans st2) r2 e2 (fun vs hv => ?_) q2
    rw [w2 vs fun i hi => hv i (List.mem_append_right _ hi), w1 vs fun i hi => hv i (List.mem_append_left _ hi)]
/-- a, b, .. = a tuple of n -/
def nTup (n : Nat) (gs : List D → Env → Sto → (Env → Sto → Prop) → Prop) : DG := fun d σ S Q => match d with
  | .tup ds => ds.length = n ∧ gs ds σ S Q
  | _ => False
/-! ### target = value -/
def sAsg (fa : DE) (g : DG) : DS := fun D0 σ S => fa σ S fun x S1 => g x σ S1 D0.nx
theorem s_asg {tg : Expr} {own : List Nat} {g : DG} (ha : CE X a fa) (hg : CG X tg own g) (hs : swapsWithSole [tg] a pos.line X.env = pure false := by rfl) (hw : swappedStores [tg] a X.env = pure none := by rfl)
    (h1 : (assignEach [tg] X.env).map (·.2) = [assign tg X.env] := by rfl) : CS X (.Assign [tg] a pos) (sAsg fa g) := by
  obtain ⟨t, h, s⟩ := ha
  obtain ⟨u, hg, sg⟩ := hg
  refine ⟨_, ps_asg h hg hs hw h1, fun D0 σ S Dv sv H re rs q k => s σ S _ sv H _ re rs q fun v d S1 H1 s1 r1 v1 q1 => ?_⟩
  exact sg v d σ S1 D0.nx sv H1 Dv.nx v1 (re.mono s1.tx) r1 q1 fun sv2 σ2 S2 H2 st2 r2 e2 _ q2 => k.nx sv2 σ2 S2 H2 (s1.trans st2) r2 e2 q2
theorem s_set {i : Nat} {x : Str} {pos' : Pos} (hN : X.N.Nodup) (hi : X.N[i]? = some x) (hx : Loc X.env.scope x) (ha : CE X a fa) (hs : swapsWith a (some (.Name x pos')) pos.line X.env = pure false := by rfl) (hf : X.fn x = true ∨ X.env.scope.names.lookup x = some .local := by first | exact .inl rfl | exact .inr rfl | assumption) :
    CS X (.Assign [.Name x pos'] a pos) (sAsg fa (nName i)) := by
  obtain ⟨t, h, s⟩ := ha
  refine ⟨_, ps_set hN hi hx h hs hf, fun D0 σ S Dv sv H re rs q k => s σ S _ sv H _ re rs q fun v d S1 H1 s1 r1 v1 q1 => ?_⟩
  exact k.nx _ _ _ _ s1 r1 ((re.mono s1.tx).set v1) q1
/-- o[i] = v, dicts and lists -/
def sSub (fv fo fi : DE) : DS := fun D0 σ S => fv σ S fun d S1 => fo σ S1 fun o S2 => fi σ S2 fun i S3 => match o with
  | .ref p => (match S3 p with
    | some (.dk kvs) => ∃ k, toKey i = some k ∧ kvs.length < sizeLine ∧ D0.nx σ (updS S3 p (.dk (putD kvs k d)))
    | some (.dt kvs) => (match i with
      | .kt ks => kvs.length < sizeLine ∧ D0.nx σ (updS S3 p (.dt (putT kvs ks d)))
      | _ => False)
    | some (.lst xs) => (match i with
      | .int n => ∃ j, ixN xs.length n = some j ∧ D0.nx σ (updS S3 p (.lst (xs.set j d)))
      | _ => False)
    | some (.tab _) => False
    | some (.ins _ _) => False
    | some (.fz _) => False
    | none => False)
  | _ => False
def rPutD : V → V → V → Hp → (Hp → Prop) → Prop := fun o i v H Q => ∃ a H', o = .ref a ∧ DPut H a i v H' ∧ Q H'
theorem setDict (hu : X.A.units + 1 < cLine) : PSet X rPutD := by
  intro pins s σ H o i v ov iv u Q I ro ri rv h
  obtain ⟨a, H', eo, g, q⟩ := h
  subst eo
  have ev : ov = Value.ref a := ro
  subst ev
  exact d_setItem hu I g ri rv fun s' I' => ⟨H', I', q⟩
theorem PSet.or {t t' : TSet} (h : PSet X t) (h' : PSet X t') : PSet X (fun o i v H Q => t o i v H Q ∨ t' o i v H Q) := fun pins s σ H o i v ov iv u Q I r1 r2 r3 q => by
  rcases q with q | q
  · exact h pins s σ H o i v ov iv u Q I r1 r2 r3 q
  · exact h' pins s σ H o i v ov iv u Q I r1 r2 r3 q
theorem s_sub {o i v : Expr} {fo fi fv : DE} {pos' : Pos} (hu : X.A.units + 1 < cLine) (hv : CE X v fv) (ho : CE X o fo) (hi : CE X i fi) (hs : swapsWithSole [.Subscript o i pos'] v pos.line X.env = pure false := by rfl) (hw : swappedStores [.Subscript o i pos'] v X.env = pure none := by rfl)
    (h1 : (assignEach [.Subscript o i pos'] X.env).map (·.2) = [assign (.Subscript o i pos') X.env] := by rfl)
    (ha : ∀ v, assign (.Subscript o i pos') X.env v = (do
      let ov ← holding [v] (eval o X.env)
      let iv ← holding [v, ov] (eval i X.env)
      standAt pos'
      holding [v, ov, iv] (setItem ov iv v)
      release [v, ov, iv] []) := by intro _; rfl) : CS X (.Assign [.Subscript o i pos'] v pos) (sSub fv fo fi) := by
  obtain ⟨tv, hv, sv0⟩ := hv
  obtain ⟨to, ho, so⟩ := ho
  obtain ⟨ti, hi, si⟩ := hi
  refine ⟨_, ps_asg hv (pg_sub ho hi (PSet.or set_list (setDict hu)) ha) hs hw h1, fun D0 σ S Dv sv H re rs q k => sv0 σ S _ sv H _ re rs q fun v d S1 H1 s1 r1 v1 q1 => ?_⟩
  refine so σ S1 _ sv H1 _ (re.mono s1.tx) r1 q1 fun ov od S2 H2 s2 r2 v2 q2 => ?_
  refine si σ S2 _ sv H2 _ (re.mono (s1.trans s2).tx) r2 q2 fun iv id S3 H3 s3 r3 v3 q3 => ?_
  have st := (s1.trans s2).trans s3
  have rd := v1.mono (s2.trans s3).tx
  cases v2 with
  | ref p =>
    dsimp only at q3
    cases h : S3 p with
    | none => simp only [h] at q3
    | some o =>
      have h0 := r3 _ _ h
      cases o with
      | lst xs =>
        simp only [h] at q3
        cases v3 <;> try exact False.elim q3
        obtain ⟨j, hj, q3⟩ := q3
        obtain ⟨vs, e1, r⟩ := h0
        refine .inl ⟨p, vs, _, j, rfl, rfl, e1, by rw [r.length]; exact hj, ?_⟩
        have tx : Tx X.K H3 (upd H3 p (.lst (vs.set j v))) := tx_mut (r3 p _ h)
        obtain ⟨s4, r4⟩ := stp_mut (o' := .lst (xs.set j d)) r3 h ⟨_, upd_same, (r.set j rd).mono tx⟩
        exact k.nx _ _ _ _ (st.trans s4) r4 (re.mono (st.trans s4).tx) q3
      | dk kvs =>
        simp only [h] at q3
        obtain ⟨kk, e, hl, q3⟩ := q3
        obtain ⟨ws, e1, r⟩ := h0
        refine .inr ⟨p, _, rfl, by rw [key_rep v3 e]; exact .k e1 (by rw [kreps_len r]; exact hl), ?_⟩
        have tx : Tx X.K H3 (upd H3 p (.dK (putK ws kk v))) := tx_mut (r3 p _ h)
        obtain ⟨s4, r4⟩ := stp_mut (o' := .dk (putD kvs kk d)) r3 h ⟨_, upd_same, KReps.mono tx (kreps_put rd kk r)⟩
        exact k.nx _ _ _ _ (st.trans s4) r4 (re.mono (st.trans s4).tx) q3
      | dt kvs =>
        simp only [h] at q3
        cases v3 <;> try exact False.elim q3
        rename_i p2 ks hk
        obtain ⟨hl, q3⟩ := q3
        obtain ⟨ws, e1, r⟩ := h0
        refine .inr ⟨p, _, rfl, .t e1 hk (by rw [treps_len r]; exact hl), ?_⟩
        have tx : Tx X.K H3 (upd H3 p (.dT (putK ws ks v))) := tx_mut (r3 p _ h)
        obtain ⟨s4, r4⟩ := stp_mut (o' := .dt (putT kvs ks d)) r3 h ⟨_, upd_same, TReps.mono tx (treps_put rd ks r)⟩
        exact k.nx _ _ _ _ (st.trans s4) r4 (re.mono (st.trans s4).tx) q3
      | tab z => simp only [h] at q3
      | ins _ _ => simp only [h] at q3
      | fz z => simp only [h] at q3
  | _ => exact False.elim q3
end
end DL
namespace DL
open PySem PySem.Spec PyProof.Rows L2
/-! ### the reading that data choose -/
def TEof (K : PySem.W.Frag) (f : DE) : TE := fun sv H Kt => ∃ σ S Q, ERep K H sv σ ∧ SRep K S H ∧ f σ S Q ∧ Rch K S H Q Kt
def TTof (K : PySem.W.Frag) (f : DT) : TT := fun sv H Kt => ∃ σ S Q, ERep K H sv σ ∧ SRep K S H ∧ f σ S Q ∧ ∀ b S' H', Stp K S H S' H' → SRep K S' H' → Q b S' → Kt b H'
def TGof (K : PySem.W.Frag) (own : List Nat) (g : DG) : TG := fun v sv H Kt => ∃ d σ S Q, Rep K H v d ∧ ERep K H sv σ ∧ SRep K S H ∧ g d σ S Q ∧
  ∀ sv' σ' S' H', Stp K S H S' H' → SRep K S' H' → ERep K H' sv' σ' → (∀ vs : List Nat, (∀ i ∈ own, i ∈ vs) → wipe sv' vs = wipe sv vs) → Q σ' S' → Kt sv' H'
section
variable {X : Cx} {K : PySem.W.Frag} {e a b c : Expr} {es : List Expr} {fe fa fb fc : DE} {ft fu : DT} {fs : DA} {pos : Pos} {S S1 S' : Sto} {H H1 H' : Hp}
theorem CE.pe (h : CE X e fe) : PE X e (TEof X.K fe) := by
  obtain ⟨t, p, s⟩ := h
  exact ⟨fun pins s0 sv H Kt I ⟨σ, S, Q, a, b, c, d⟩ => p.run pins s0 sv H Kt I (s σ S Q sv H Kt a b c d)⟩
theorem CT.pt (h : CT X e ft) : PT X e (TTof X.K ft) := by
  obtain ⟨t, p, s⟩ := h
  exact ⟨fun pins s0 sv H Kt I ⟨σ, S, Q, a, b, c, d⟩ => p.run pins s0 sv H Kt I (s σ S Q sv H Kt a b c d)⟩
theorem CG.pg {own : List Nat} {g : DG} (h : CG X e own g) : PG X e (TGof X.K own g) := by
  obtain ⟨t, p, s⟩ := h
  exact ⟨fun pins s0 sv H v u Kt I r ⟨d, σ, S, Q, a, b, c, q, k⟩ => p.run pins s0 sv H v u Kt I r (s v d σ S Q sv H Kt a b c q k)⟩
/-! ### what is walked -/
abbrev DI := Env → Sto → (List D → (Sto → Prop) → Sto → Prop) → Prop
/-- the iterator J walks the items, from the heap H0 on, while stab holds -/
def ItOk (K : PySem.W.Frag) (H0 : Hp) (J : It) (items : List D) (stab : Sto → Prop) : Prop := ∀ S H, SRep K S H → Tx K H0 H → (∀ z ob u, H0 z = some (.frz ob u) → H z = some (.frz ob u)) → stab S →
  (∀ i d, items[i]? = some d → J.go i H ∧ ∀ x H', J.yld i H x H' → Stp K S H S H' ∧ SRep K S H' ∧ Rep K H' x d) ∧ J.stop items.length H
structure CI (X : Cx) (tg it : Expr) (fi : DI) : Prop where
  ok : ∃ wi, PI X tg it wi ∧ ∀ (σ : Env) (S : Sto) (Q : List D → (Sto → Prop) → Sto → Prop) (sv : L2.St) (H : Hp) (R : It → Hp → Prop), ERep X.K H sv σ → SRep X.K S H → fi σ S Q →
    (∀ J items stab S' H', Stp X.K S H S' H' → SRep X.K S' H' → ItOk X.K H' J items stab → Q items stab S' → R J H') → wi sv H R
def iSeqL (fa : DE) : DI := fun σ S Q => fa σ S fun x S1 => match x with
  | .ref p => ∃ xs, S1 p = some (.lst xs) ∧ Q xs (fun S => S p = some (.lst xs)) S1
  | .fl xs => Q xs (fun _ => True) S1
  | _ => False
def iSeqT (fa : DE) : DI := fun σ S Q => fa σ S fun x S1 => match x with
  | .tup xs => Q xs (fun _ => True) S1
  | _ => False
def iStrD (fa : DE) : DI := fun σ S Q => fa σ S fun x S1 => match x with
  | .str z => Q (z.cps.toList.map fun c => .str ⟨#[c]⟩) (fun _ => True) S1
  | _ => False
theorem itok_list {p : Addr} {xs : List D} : ItOk K H1 (Itl K p) xs (fun S => S p = some (.lst xs)) := fun S H s tx _fz st => by
  obtain ⟨vs, e1, r⟩ := s _ _ st
  have sq : SqL K H p vs := .inl (.inl e1)
  refine ⟨fun i d hi => ?_, ⟨vs, sq, by rw [r.length]; exact Nat.le_refl _⟩⟩
  obtain ⟨v, ev, rv⟩ := r.get hi
  refine ⟨⟨vs, v, sq, ev⟩, fun x H' y => ?_⟩
  obtain ⟨e, y⟩ := y
  subst e
  have h2 := y vs sq
  rw [ev] at h2
  cases h2
  exact ⟨.refl, s, rv⟩
theorem itok_fl {p : Addr} {vs : List V} {xs : List D} (h : FrL K H1 p vs) (r : Reps K H1 vs xs) : ItOk K H1 (Itl K p) xs (fun _ => True) := fun S H s tx _fz st => by
  have r := r.mono tx
  have sq : SqL K H p vs := (tx.fl _ _ h).sq
  refine ⟨fun i d hi => ?_, ⟨vs, sq, by rw [r.length]; exact Nat.le_refl _⟩⟩
  obtain ⟨v, ev, rv⟩ := r.get hi
  refine ⟨⟨vs, v, sq, ev⟩, fun x H' y => ?_⟩
  obtain ⟨e, y⟩ := y
  subst e
  have h2 := y vs sq
  rw [ev] at h2
  cases h2
  exact ⟨.refl, s, rv⟩
theorem itok_tup {p : Addr} {vs : List V} {xs : List D} (h : SqT K H1 p vs) (r : Reps K H1 vs xs) : ItOk K H1 (Itt K p) xs (fun _ => True) := fun S H s tx _fz st => by
  have r := r.mono tx
  have sq : SqT K H p vs := tx.tup _ _ h
  refine ⟨fun i d hi => ?_, ⟨vs, sq, by rw [r.length]; exact Nat.le_refl _⟩⟩
  obtain ⟨v, ev, rv⟩ := r.get hi
  refine ⟨⟨vs, v, sq, ev⟩, fun x H' y => ?_⟩
  obtain ⟨e, y⟩ := y
  subst e
  have h2 := y vs sq
  rw [ev] at h2
  cases h2
  exact ⟨.refl, s, rv⟩
def rangeD (lo : Int) (n : Nat) : List D := (List.range n).map fun i => .int (lo + (i : Nat))
theorem itok_range {lo : Int} {n : Nat} : ItOk K H1 (Itr lo n) (rangeD lo n) (fun _ => True) := fun S H s tx _fz st => by
  refine ⟨fun i d hi => ?_, by show n ≤ _; simp [rangeD]⟩
  unfold rangeD at hi
  rw [List.getElem?_map] at hi
  cases h : (List.range n)[i]? with
  | none => rw [h] at hi; cases hi
  | some c =>
    obtain ⟨hl, hc⟩ := List.getElem?_eq_some_iff.mp h
    rw [h] at hi
    cases hi
    simp at hc hl
    subst hc
    refine ⟨hl, fun x H' y => ?_⟩
    obtain ⟨e, e2⟩ := y
    subst e e2
    exact ⟨.refl, s, .int _⟩
def iRange1 (fs : DA) : DI := fun σ S Q => fs σ S fun xs S1 => match xs with
  | [.int j] => -(2 ^ 62) ≤ j ∧ j < 2 ^ 62 ∧ Q (rangeD 0 j.toNat) (fun _ => True) S1
  | _ => False
def iRange2 (fs : DA) : DI := fun σ S Q => fs σ S fun xs S1 => match xs with
  | [.int i, .int j] => (-(2 ^ 62) ≤ i ∧ i < 2 ^ 62 ∧ -(2 ^ 62) ≤ j ∧ j < 2 ^ 62) ∧ Q (rangeD i (j - i).toNat) (fun _ => True) S1
  | _ => False
theorem i_range1 {tg : Expr} {p : Pos} (hg : Gl X "range") (hm : X.mg "range" = none) (ha : CA X [a] fs) (hs : starEach [a] X.env = [(false, eval a X.env)] := by rfl) : CI X tg (.Call (.Name "range" p) [a] [] pos) (iRange1 fs) := by
  obtain ⟨ta, ha, sa⟩ := ha
  refine ⟨_, pi_range1 hg hm ha hs, fun σ S Q sv H R re rs q k => sa σ S _ sv H _ re rs q fun vs ds S1 H1 s1 r1 v1 q1 => ?_⟩
  match ds, q1 with
  | [.int j], q1 =>
    obtain ⟨v, rfl, rv⟩ := reps1 v1
    cases rv
    exact ⟨j, rfl, q1.1, q1.2.1, k _ _ _ _ _ s1 r1 itok_range q1.2.2⟩
theorem i_range2 {tg : Expr} {p : Pos} (hg : Gl X "range") (hm : X.mg "range" = none) (ha : CA X [a, b] fs) (hs : starEach [a, b] X.env = [(false, eval a X.env), (false, eval b X.env)] := by rfl) (hs2 : starEach [b] X.env = [(false, eval b X.env)] := by rfl) :
    CI X tg (.Call (.Name "range" p) [a, b] [] pos) (iRange2 fs) := by
  obtain ⟨ta, ha, sa⟩ := ha
  refine ⟨_, pi_range2 hg hm ha hs hs2, fun σ S Q sv H R re rs q k => sa σ S _ sv H _ re rs q fun vs ds S1 H1 s1 r1 v1 q1 => ?_⟩
  match ds, q1 with
  | [.int i, .int j], q1 =>
    obtain ⟨v, v2, rfl, rv, rv2⟩ := reps2 v1
    cases rv
    cases rv2
    exact ⟨i, j, rfl, q1.1, k _ _ _ _ _ s1 r1 itok_range q1.2⟩
/-! ### for -/
def forL (stab : Sto → Prop) (g : DG) (body : DS) (D0 : DEnds) : List D → Env → Sto → Prop
  | [], σ, S => stab S ∧ D0.nx σ S
  | x :: xs, σ, S => stab S ∧ g x σ S fun σ2 S2 => body ⟨forL stab g body D0 xs, D0.rt, D0.nx, forL stab g body D0 xs⟩ σ2 S2
def sFor (fi : DI) (g : DG) (body : DS) : DS := fun D0 σ S => fi σ S fun items stab S1 => forL stab g body D0 items σ S1
theorem forL_stab {stab : Sto → Prop} {g : DG} {body : DS} {D0 : DEnds} {xs : List D} {σ : Env} {S : Sto} (h : forL stab g body D0 xs σ S) : stab S := by
  cases xs <;> exact h.1
theorem s_for {tg it : Expr} {own : List Nat} {fi : DI} {g : DG} {body : List Stmt} {fb : DS} (hp : PassesOwn (model X.prog X.w) X.A X.env X.xe) (hc : X.calm = true) (hi : CI X tg it fi) (hg : CG X tg own g) (hb : CSs X body fb)
    (hs : ∀ x, foldedSetIterable it X.env x = pure x := by intro _; rfl) : CS X (.For tg it body [] pos) (sFor fi g fb) := by
  obtain ⟨wi, hi, si⟩ := hi
  obtain ⟨tg', hg, sg⟩ := hg
  obtain ⟨tb, hb, sb⟩ := hb
  refine ⟨_, ps_for hp hc hi hg hb hs, fun D0 σ S Dv sv H re rs q k => si σ S _ sv H _ re rs q fun J items stab S1 H1 s1 r1 ok q1 => ?_⟩
  refine ⟨fun i m sv2 H2 => m = items.length - i ∧ i ≤ items.length ∧ ∃ σ2 S2, Stp X.K S1 H1 S2 H2 ∧ SRep X.K S2 H2 ∧ ERep X.K H2 sv2 σ2 ∧ forL stab g fb D0 (items.drop i) σ2 S2,
    ⟨items.length, by simp, Nat.zero_le _, σ, S1, .refl, r1, re.mono s1.tx, q1⟩, ?_⟩
  rintro i m sv2 H2 ⟨rfl, hi2, σ2, S2, s2, r2, e2, q2⟩
  obtain ⟨ok1, ok2⟩ := ok S2 H2 r2 s2.tx s2.frz (forL_stab q2)
  by_cases hlt : i < items.length
  · obtain ⟨go, yl⟩ := ok1 i items[i] (List.getElem?_eq_getElem hlt)
    rw [List.drop_eq_getElem_cons hlt] at q2
    refine .inr ⟨go, fun sv3 H3 => ∃ σ3 S3, Stp X.K S1 H1 S3 H3 ∧ SRep X.K S3 H3 ∧ ERep X.K H3 sv3 σ3 ∧ forL stab g fb D0 (items.drop (i + 1)) σ3 S3,
      fun sv3 H3 ⟨σ3, S3, a1, a2, a3, a4⟩ => ⟨items.length - (i + 1), by omega, rfl, hlt, σ3, S3, a1, a2, a3, a4⟩, fun x H3 hy => ?_⟩
    obtain ⟨s3, r3, rx⟩ := yl x H3 hy
    refine sg x items[i] σ2 S2 _ sv2 H3 _ rx (e2.mono s3.tx) r3 q2.2 fun sv4 σ4 S4 H4 s4 r4 e4 _ q4 => ?_
    have st := (s2.trans s3).trans s4
    refine sb _ σ4 S4 _ sv4 H4 e4 r4 q4 ⟨fun sv5 σ5 S5 H5 s5 r5 e5 q5 => ?_, (k.stp s1).rt.stp st, (k.stp s1).nx.stp st, fun sv5 σ5 S5 H5 s5 r5 e5 q5 => ?_⟩
    · exact ⟨σ5, S5, st.trans s5, r5, e5, q5⟩
    · exact ⟨σ5, S5, st.trans s5, r5, e5, q5⟩
  · have hn : i = items.length := by omega
    subst hn
    rw [List.drop_length] at q2
    exact .inl ⟨ok2, (k.stp s1).nx _ _ _ _ s2 r2 e2 q2.2⟩
/-! ### while -/
def sWhile (fc : DT) (body : DS) : DS := fun D0 σ S => ∃ W : Nat → Env → Sto → Prop, (∃ m, W m σ S) ∧ ∀ m σ S, W m σ S → fc σ S fun k S1 =>
  if k = true then body ⟨fun σ2 S2 => ∃ m2, m2 < m ∧ W m2 σ2 S2, D0.rt, D0.nx, fun σ2 S2 => ∃ m2, m2 < m ∧ W m2 σ2 S2⟩ σ S1 else D0.nx σ S1
theorem s_while {body : List Stmt} {fb : DS} (hp : PassesOwn (model X.prog X.w) X.A X.env X.xe) (hc : CT X c ft) (hb : CSs X body fb) : CS X (.While c body [] pos) (sWhile ft fb) := by
  obtain ⟨tc, hc, sc⟩ := hc
  obtain ⟨tb, hb, sb⟩ := hb
  refine ⟨_, ps_while hp hc hb, fun D0 σ S Dv sv H re rs q k => ?_⟩
  obtain ⟨W, ⟨m0, w0⟩, turn⟩ := q
  refine ⟨fun m sv2 H2 => ∃ σ2 S2, Stp X.K S H S2 H2 ∧ SRep X.K S2 H2 ∧ ERep X.K H2 sv2 σ2 ∧ W m σ2 S2, ⟨m0, σ, S, .refl, rs, re, w0⟩, ?_⟩
  rintro m sv2 H2 ⟨σ2, S2, s2, r2, e2, w2⟩
  refine sc σ2 S2 _ sv2 H2 _ e2 r2 (turn m σ2 S2 w2) fun kk S3 H3 s3 r3 q3 => ?_
  cases kk with
  | true =>
    refine ⟨fun sv4 H4 => ∃ m2, m2 < m ∧ ∃ σ4 S4, Stp X.K S H S4 H4 ∧ SRep X.K S4 H4 ∧ ERep X.K H4 sv4 σ4 ∧ W m2 σ4 S4, fun sv4 H4 h4 => h4, ?_⟩
    have st := s2.trans s3
    refine sb _ σ2 S3 _ sv2 H3 (e2.mono s3.tx) r3 q3 ⟨fun sv5 σ5 S5 H5 s5 r5 e5 q5 => ?_, k.rt.stp st, k.nx.stp st, fun sv5 σ5 S5 H5 s5 r5 e5 q5 => ?_⟩
    · obtain ⟨m2, h1, h2⟩ := q5
      exact ⟨m2, h1, σ5, S5, st.trans s5, r5, e5, h2⟩
    · obtain ⟨m2, h1, h2⟩ := q5
      exact ⟨m2, h1, σ5, S5, st.trans s5, r5, e5, h2⟩
  | false => exact k.nx _ _ _ _ (s2.trans s3) r3 (e2.mono s3.tx) q3
/-! ### comprehensions -/
def lcL (stab : Sto → Prop) (g : DG) (tests : DT) (elt : DE) (σ : Env) (k : List D → Sto → Prop) : List D → List D → Sto → Prop
  | [], acc, S => stab S ∧ k acc S
  | x :: xs, acc, S => stab S ∧ g x σ S fun σ2 S2 => tests σ2 S2 fun b S3 => if b = true then elt σ2 S3 fun d S4 => acc.length < sizeLine ∧ lcL stab g tests elt σ k xs (acc ++ [d]) S4 else lcL stab g tests elt σ k xs acc S3
def eLc (fi : DI) (g : DG) (tests : DT) (elt : DE) (own : List Nat) : DE := fun σ S Q => fi σ S fun items stab S1 =>
  lcL stab g tests elt (wipeS σ own) (fun acc S2 => ∀ p, S2 p = none → Q (.ref p) (updS S2 p (.lst acc))) items [] S1
theorem lcL_stab {stab : Sto → Prop} {g : DG} {tests : DT} {elt : DE} {σ : Env} {k : List D → Sto → Prop} {xs acc : List D} {S : Sto} (h : lcL stab g tests elt σ k xs acc S) : stab S := by
  cases xs <;> exact h.1
/-- a clause's tests -/
structure CTs (X : Cx) (ifs : List Expr) (f : DT) : Prop where
  ok : ∃ t, PTs X ifs t ∧ SndT X.K t f
def tsYes : DT := fun _ S Q => Q true S
theorem ts_nil : CTs X [] tsYes := ⟨_, pts_nil, fun σ S Q sv H Kt re rs q k => k _ _ _ .refl rs q⟩
theorem ts_one (h : CT X c ft) : CTs X [c] ft := let ⟨_, h, s⟩ := h.ok; ⟨_, pts_one h, s⟩
theorem CTs.pts {ifs : List Expr} (h : CTs X ifs ft) : PTs X ifs (TTof X.K ft) := by
  obtain ⟨t, p, s⟩ := h
  exact ⟨fun pins s0 sv H Kt I ⟨σ, S, Q, a, b, c, d⟩ => p.run pins s0 sv H Kt I (s σ S Q sv H Kt a b c d)⟩
theorem snd_lc {wi : TI} {fi : DI} {g : DG} {elt : DE} {own : List Nat} {gown : List Nat} (hsub : ∀ i ∈ gown, i ∈ own)
    (si : ∀ (σ : Env) (S : Sto) (Q : List D → (Sto → Prop) → Sto → Prop) (sv : L2.St) (H : Hp) (R : It → Hp → Prop), ERep K H sv σ → SRep K S H → fi σ S Q →
      (∀ J items stab S' H', Stp K S H S' H' → SRep K S' H' → ItOk K H' J items stab → Q items stab S' → R J H') → wi sv H R) :
    Snd K (tLc wi (TGof K gown g) (TTof K ft) (TEof K elt) own) (eLc fi g ft elt own) := fun σ S Q sv H Kt re rs q k => by
  refine si σ S _ sv H _ re rs q fun J items stab S1 H1 s1 r1 ok q1 p hp => ?_
  have re1 : ERep K H1 (wipe sv own) (wipeS σ own) := (re.mono s1.tx).wipe own
  refine ⟨fun i m H2 => m = items.length - i ∧ i ≤ items.length ∧ ∃ S2 av acc, Stp K S1 H1 S2 H2 ∧ SRep K S2 H2 ∧ H2 p = some (.lst av) ∧ S2 p = none ∧ Reps K H2 av acc ∧
      lcL stab g ft elt (wipeS σ own) (fun acc S2 => ∀ p, S2 p = none → Q (.ref p) (updS S2 p (.lst acc))) (items.drop i) acc S2,
    ⟨items.length, by simp, Nat.zero_le _, S1, [], [], ?_, ?_, upd_same, r1.free hp, .nil, q1⟩, ?_⟩
  · exact ⟨tx_new hp, fun z o a b n => ⟨a, by rw [upd_ne (ne_of_none b hp)]; exact b⟩, fun z ob u b => by rw [upd_ne (ne_of_none b hp)]; exact b⟩
  · exact fun a o e => (r1 a o e).mono (tx_new hp) (upd_ne (neS e (r1.free hp)))
  rintro i m H2 ⟨rfl, hi2, S2, av, acc, s2, r2, hp2, np2, ra, q2⟩
  obtain ⟨ok1, ok2⟩ := ok S2 H2 r2 s2.tx s2.frz (lcL_stab q2)
  by_cases hlt : i < items.length
  · obtain ⟨go, yl⟩ := ok1 i items[i] (List.getElem?_eq_getElem hlt)
    rw [List.drop_eq_getElem_cons hlt] at q2
    refine .inr ⟨go, fun H3 => ∃ S2 av acc, Stp K S1 H1 S2 H3 ∧ SRep K S2 H3 ∧ H3 p = some (.lst av) ∧ S2 p = none ∧ Reps K H3 av acc ∧
      lcL stab g ft elt (wipeS σ own) (fun acc S2 => ∀ p, S2 p = none → Q (.ref p) (updS S2 p (.lst acc))) (items.drop (i + 1)) acc S2,
      fun H3 h3 => ⟨items.length - (i + 1), by omega, rfl, hlt, h3⟩, fun x H3 hy => ?_⟩
    obtain ⟨s3, r3, rx⟩ := yl x H3 hy
    refine ⟨items[i], wipeS σ own, S2, _, rx, re1.mono (s2.trans s3).tx, r3, q2.2, fun sv4 σ4 S4 H4 s4 r4 e4 w4 q4 => ⟨?_, ?_⟩⟩
    · rw [w4 own hsub, wipe_wipe]
    refine ⟨σ4, S4, _, e4, r4, q4, fun b S5 H5 s5 r5 q5 => ?_⟩
    have st5 := ((s2.trans s3).trans s4).trans s5
    have stp5 := (s3.trans s4).trans s5
    obtain ⟨np5, hp5⟩ := stp5.hid p _ np2 hp2 (fun _ z => nomatch z)
    cases b with
    | false => exact ⟨S5, av, acc, st5, r5, hp5, np5, ra.mono stp5.tx, q5⟩
    | true =>
      refine ⟨σ4, S5, _, e4.mono s5.tx, r5, q5, fun v d S6 H6 s6 r6 v6 q6 => ?_⟩
      obtain ⟨np6, hp6⟩ := s6.hid p _ np5 hp5 (fun _ z => nomatch z)
      have ra6 := ra.mono (stp5.trans s6).tx
      obtain ⟨tx, r7⟩ := stp_hid (ho := .lst (av ++ [v])) r6 np6 hp6 (fun _ z => nomatch z) (fun _ _ z => nomatch z) (fun _ z => nomatch z)
      refine ⟨av, hp6, by rw [ra6.length]; exact q6.1, S6, av ++ [v], acc ++ [d], ?_, r7, upd_same, np6, (ra6.append (.cons v6 .nil)).mono tx, q6.2⟩
      have st6 := st5.trans s6
      exact ⟨st6.tx.trans tx, fun z o a b n => ⟨(st6.hid z o a b n).1, by rw [upd_ne (ne_of_none b hp)]; exact (st6.hid z o a b n).2⟩, fun z ob u b => by rw [upd_ne (ne_of_none b hp)]; exact st6.frz z ob u b⟩
  · have hn : i = items.length := by omega
    subst hn
    rw [List.drop_length] at q2
    refine .inl ⟨ok2, ?_⟩
    have st := s1.trans s2
    refine k (.ref p) (.ref p) (updS S2 p (.lst acc)) H2 ⟨st.tx, fun z o a b n => ?_, st.frz⟩ (fun a o e => ?_) (.ref p) (q2.2 p np2)
    · obtain ⟨a2, b2⟩ := st.hid z o a b n
      have hz := s1.hid z o a b n
      have ne : z ≠ p := ne_of_none hz.2 hp
      exact ⟨by rw [updS_ne ne]; exact a2, b2⟩
    · by_cases ha : a = p
      · subst ha
        rw [updS_same] at e
        cases e
        exact ⟨av, hp2, ra⟩
      · rw [updS_ne ha] at e
        exact r2 a o e
theorem c_lc {elt tg it : Expr} {ifs : List Expr} {scope : Scope} {own : List (Str × Nat)} {gown : List Nat} {fi : DI} {g : DG} (hc : X.calm = true) (hN : X.N.Nodup) (hi : CI X tg it fi) (ok : BlkOk X.N X.env.scope scope own)
    (hg : ∀ (s : Shared) (H : Hp) (C : Addr) (cl : List (Str × Addr)) (fp : List Addr), CG (X.blk s H scope (compEnvC scope cl C X.env) fp) tg gown g) (hsub : ∀ i ∈ gown, i ∈ own.map (·.2))
    (ht : ∀ (s : Shared) (H : Hp) (C : Addr) (cl : List (Str × Addr)) (fp : List Addr), CTs (X.blk s H scope (compEnvC scope cl C X.env) fp) ifs ft)
    (he : ∀ (s : Shared) (H : Hp) (C : Addr) (cl : List (Str × Addr)) (fp : List Addr), CE (X.blk s H scope (compEnvC scope cl C X.env) fp) elt fe) (hs : ∀ x, foldedSetIterable it X.env x = pure x := by intro _; rfl) :
    CE X (.ListComp elt [⟨tg, it, ifs, 0⟩] scope pos) (eLc fi g ft fe (own.map (·.2))) := by
  obtain ⟨wi, hi, si⟩ := hi
  exact ⟨_, pe_lc hc hN hi ok (fun s H C cl fp => (hg s H C cl fp).pg) (fun s H C cl fp => (ht s H C cl fp).pts) (fun s H C cl fp => (he s H C cl fp).pe) hs, snd_lc hsub si⟩
/-! ### a def -/
def startD (n : Nat) (ds : List D) : Env := ds.map some ++ List.replicate (n - ds.length) none
theorem erep_start {vs : List V} {ds : List D} {N : List Str} (r : Reps K H vs ds) : ERep K H (start N vs) (startD N.length ds) := by
  have l := r.length
  refine ⟨by simp [L2.start, startD, l], fun i d q => ?_⟩
  rw [getS_eq] at q
  unfold startD at q
  by_cases hi : i < ds.length
  · rw [List.getElem?_append_left (by simpa using hi), List.getElem?_map] at q
    cases h : ds[i]? with
    | none => rw [h] at q; cases q
    | some d2 =>
      rw [h] at q
      have e : d2 = d := Option.some.inj q
      subst e
      obtain ⟨v, ev, rv⟩ := r.get h
      refine ⟨v, ?_, rv⟩
      unfold L2.start
      rw [List.getElem?_append_left (by simpa [l] using hi), List.getElem?_map, ev]
      rfl
  · rw [List.getElem?_append_right (by simpa using Nat.le_of_not_lt hi)] at q
    rw [List.getElem?_replicate] at q
    split at q <;> cases q
def endsD (Q : DK) : DEnds := ⟨fun _ S => Q .non S, Q, fun _ _ => False, fun _ _ => False⟩
theorem def_ok {P : Program} {w : World} {mg : Str → Option Value} {base : Heap} {x qual : Str} {st : Stmt} {f : Addr} {fd : FuncData} {N ps : List Str} {k : Nat} {b : DS} (F : Fun K x qual st f fd) (Sc : FnScope N ps (defScope st))
    (h : ∀ (cdv : Value) (A : Around) (outer : List PySem.Env) (s : Shared) (H : Hp) (E : XK), RoomG k (A.deeper (envOfC qual (defScope st) s.heap.objs.size f cdv)) → CSs (cxOf CX0 P w K mg base N qual (defScope st) f cdv A outer s H E).nox (defBody st) b) :
    FnG P w K mg base CX0 (k + 1) f fd ps (spD K ps.length fun ds S Q => b (endsD Q) (startD N.length ds) S) := by
  refine okG F Sc (fun vs H Q E h => h.1) (fun cdv A outer s H vs Q E hr hq => ?_)
  obtain ⟨t, p, sn⟩ := h cdv A outer s H E hr
  refine ⟨t, p, ?_⟩
  obtain ⟨hl, ds, S, Qd, r, sr, q, kk⟩ := hq
  refine sn (endsD Qd) _ S _ _ H (erep_start r) sr q ⟨fun sv σ S' H' s' r' e' q' => ?_, kk, fun _ _ _ _ _ _ _ z => z.elim, fun _ _ _ _ _ _ _ z => z.elim⟩
  exact kk .non .non S' H' s' r' .non q'
end
end DL
namespace DL
open PySem PySem.Spec PyProof.Rows L2
section
variable {X : Cx} {K : PySem.W.Frag} {e a b c : Expr} {es : List Expr} {fe fa fb fc : DE} {ft fu : DT} {fs : DA} {pos : Pos} {S S1 S' : Sto} {H H1 H' : Hp}
/-! ### displays of dicts -/
def eDict0 : DE := fun _ S Q => ∀ p, S p = none → Q (.ref p) (updS S p (.dk []))
theorem c_dict0 : CE X (.Dict [] [] pos) eDict0 := by
  refine ⟨_, pe_dnewK, fun σ S Q sv H Kt re rs q k p hp => ?_⟩
  obtain ⟨st, sr⟩ := stp_new (o := .dk []) (ho := .dK []) rs hp ⟨_, upd_same, .nil⟩
  exact k _ _ _ _ st sr (.ref p) (q p (rs.free hp))
abbrev DPs := Env → Sto → (List (D × D) → Sto → Prop) → Prop
def pNil : DPs := fun _ S Q => Q [] S
def pCons (fk fv : DE) (fr : DPs) : DPs := fun σ S Q => fk σ S fun x S1 => fv σ S1 fun y S2 => fr σ S2 fun r S3 => Q ((x, y) :: r) S3
def PReps (K : PySem.W.Frag) (H : Hp) : List (V × V) → List (D × D) → Prop := Paired fun p q => Rep K H p.1 q.1 ∧ Rep K H p.2 q.2
structure CPs (X : Cx) (pos : Pos) (keys : List (Option Expr)) (values : List Expr) (f : DPs) : Prop where
  ok : ∃ trs, PPs X pos keys values trs ∧ ∀ (σ : Env) (S : Sto) (Q : List (D × D) → Sto → Prop) (sv : L2.St) (H : Hp) (Kt : List (V × V) → Hp → Prop), ERep X.K H sv σ → SRep X.K S H → f σ S Q →
    (∀ ps qs S' H', Stp X.K S H S' H' → SRep X.K S' H' → PReps X.K H' ps qs → Q qs S' → Kt ps H') → tPairs trs sv H Kt
theorem ps_nil0 : CPs X pos [] [] pNil := ⟨_, pps_nil, fun σ S Q sv H Kt re rs q k => k _ _ _ _ .refl rs .nil q⟩
theorem ps_cons0 {ks : List (Option Expr)} {vs : List Expr} {fr : DPs} (hk : CE X a fa) (hv : CE X b fb) (hr : CPs X pos ks vs fr) : CPs X pos (some a :: ks) (b :: vs) (pCons fa fb fr) := by
  obtain ⟨tk, hk, sk⟩ := hk
  obtain ⟨tv, hv, sv⟩ := hv
  obtain ⟨tr, hr, sr⟩ := hr
  refine ⟨_, pps_cons hk hv hr, fun σ S Q sv' H Kt re rs q k => sk σ S _ sv' H _ re rs q fun v d S1 H1 s1 r1 v1 q1 => ?_⟩
  refine sv σ S1 _ sv' H1 _ (re.mono s1.tx) r1 q1 fun u d2 S2 H2 s2 r2 v2 q2 => ?_
  refine sr σ S2 _ sv' H2 _ (re.mono (s1.trans s2).tx) r2 q2 fun ps qs S3 H3 s3 r3 v3 q3 => ?_
  exact k _ _ S3 H3 ((s1.trans s2).trans s3) r3 (.cons ⟨v1.mono (s2.trans s3).tx, v2.mono s3.tx⟩ v3) q3
/-- the pairs as keys and data -/
def asKeys : List (D × D) → Option (List (Key × D))
  | [] => some []
  | p :: r => match toKey p.1, asKeys r with
    | some k, some l => some ((k, p.2) :: l)
    | _, _ => none
def mergeD (kvs more : List (Key × D)) : List (Key × D) := more.foldl (fun acc kv => putD acc kv.1 kv.2) kvs
def eDict (fp : DPs) : DE := fun σ S Q => fp σ S fun ps S1 => ∃ kvs, asKeys ps = some kvs ∧ kvs.length ≤ 15 ∧ ∀ p, S1 p = none → Q (.ref p) (updS S1 p (.dk (mergeD [] kvs)))
theorem asKeys_rep : ∀ {ps : List (V × V)} {qs : List (D × D)} {kvs : List (Key × D)}, PReps K H ps qs → asKeys qs = some kvs → ∃ ws : List (Key × V), ps = ws.map (fun kv => (kV kv.1, kv.2)) ∧ KReps K H ws kvs
  | _, _, _, .nil, e => by cases e; exact ⟨[], rfl, .nil⟩
  | p :: ps, q :: qs, kvs, .cons h r, e => by
    unfold asKeys at e
    cases h1 : toKey q.1 with
    | none => rw [h1] at e; cases e
    | some k =>
      cases h2 : asKeys qs with
      | none => rw [h1, h2] at e; cases e
      | some l =>
        rw [h1, h2] at e
        cases e
        obtain ⟨ws, e1, r1⟩ := asKeys_rep r h2
        refine ⟨(k, p.2) :: ws, ?_, .cons ⟨rfl, h.2⟩ r1⟩
        rw [List.map_cons, ← e1]
        have hk := key_rep h.1 h1
        show p :: ps = (kV k, p.2) :: ps
        rw [← hk]
theorem merge_rep : ∀ {us : List (Key × V)} {js : List (Key × D)} {ws : List (Key × V)} {kvs : List (Key × D)}, KReps K H us js → KReps K H ws kvs → KReps K H (mergeK ws us) (mergeD kvs js)
  | _, _, _, _, .nil, s => s
  | p :: us, q :: js, ws, kvs, .cons h r, s => by
    show KReps K H (mergeK (putK ws p.1 p.2) us) (mergeD (putD kvs q.1 q.2) js)
    refine merge_rep r ?_
    rw [h.1]
    exact kreps_put h.2 q.1 s
theorem c_dict {keys : List (Option Expr)} {values : List Expr} {fp : DPs} (h : CPs X pos keys values fp) (hall : keys.all (·.isSome) = true) (hl : keys.length = values.length) (h0 : keys ≠ []) (h15 : keys.length ≤ 15) : CE X (.Dict keys values pos) (eDict fp) := by
  obtain ⟨trs, hp, sp⟩ := h
  refine ⟨_, pe_disp hp hall hl h0 h15, fun σ S Q sv H Kt re rs q k p hp => ?_⟩
  have tx := tx_new (K := X.K) (ho := .dK []) hp
  have rs1 : SRep X.K S (upd H p (.dK [])) := fun a o e => (rs a o e).mono tx (upd_ne (neS e (rs.free hp)))
  refine sp σ S _ sv _ _ (re.mono tx) rs1 q fun ps qs S1 H1 s1 r1 v1 q1 => ?_
  obtain ⟨np, hp1⟩ := s1.hid p _ (rs.free hp) upd_same (fun _ z => nomatch z)
  obtain ⟨kvs, e, hz, q1⟩ := q1
  obtain ⟨ws, e1, rr⟩ := asKeys_rep v1 e
  refine ⟨hp1, ws, e1, by rw [kreps_len rr]; exact hz, ?_⟩
  have tx2 : Tx X.K H1 (upd H1 p (.dK (mergeK [] ws))) := tx_upd (fun vs => by rw [hp1]; intro z; cases z) (fun ob w => by rw [hp1]; intro z; cases z) (fun φ => by rw [hp1]; intro z; cases z)
  refine k (.ref p) (.ref p) (updS S1 p (.dk (mergeD [] kvs))) _ ⟨(tx.trans s1.tx).trans tx2, fun z o a b n => ?_, fun z ob u b => by rw [upd_ne (ne_of_none b hp)]; exact s1.frz z ob u (by rw [upd_ne (ne_of_none b hp)]; exact b)⟩ (fun a o ea => ?_) (.ref p) (q1 p np)
  · have ne := ne_of_none b hp
    obtain ⟨a2, b2⟩ := s1.hid z o a (by rw [upd_ne ne]; exact b) n
    exact ⟨by rw [updS_ne ne]; exact a2, by rw [upd_ne ne]; exact b2⟩
  · by_cases ha : a = p
    · subst ha
      rw [updS_same] at ea
      cases ea
      exact ⟨_, upd_same, KReps.mono tx2 (merge_rep rr .nil)⟩
    · rw [updS_ne ha] at ea
      exact (r1 a o ea).mono tx2 (upd_ne ha)
/-! ### whatever sequence is walked -/
def iSeq (fa : DE) : DI := fun σ S Q => fa σ S fun x S1 => match x with
  | .ref p => ∃ xs, S1 p = some (.lst xs) ∧ Q xs (fun S => S p = some (.lst xs)) S1
  | .fl xs => Q xs (fun _ => True) S1
  | .tup xs => Q xs (fun _ => True) S1
  | .str z => Q (z.cps.toList.map fun c => .str ⟨#[c]⟩) (fun _ => True) S1
  | _ => False
def wSeq (K : PySem.W.Frag) (te : TE) : TI := fun sv H R => te sv H fun x H1 => (∃ p vs, x = .ref p ∧ SqL K H1 p vs ∧ R (Itl K p) H1) ∨ (∃ p vs, x = .ref p ∧ SqT K H1 p vs ∧ R (Itt K p) H1) ∨ ∃ z, x = .str z ∧ R (Its z) H1
theorem lone {p q : Addr} (h : p ∈ [q]) : p = q := by simpa using h
theorem pi_seq {tg : Expr} {te : TE} (ha : PE X a te) : PI X tg a (wSeq X.K te) := by
  refine ⟨fun pins st sv H R I hw => thn (ha.run pins st sv H _ I hw) fun u st1 ⟨x, H1, J, rel, how⟩ => ?_⟩
  have fresh := J.hok.fresh (Nat.le_refl st1.heap.objs.size)
  have fpk := J.fpOk (Nat.le_refl st1.heap.objs.size) fresh
  rcases how with ⟨p, vs, ex, sq, r⟩ | ⟨p, vs, ex, sq, r⟩ | ⟨z, ex, r⟩
  · subst ex
    have eu : u = Value.ref p := rel
    subst eu
    obtain ⟨its, _, pl, _⟩ := J.list sq
    refine wpAny_pyIter_list pl.isList ⟨_, _, _, _, H1, rfl, J.kept (t' := st1.toks) (fun b o h => Heap.get?_push_of_some _ h), turn_list p _, ⟨_, Heap.get?_push_size _ rfl, rfl, rfl⟩, (fun b hb => ?_), r⟩
    rw [lone hb]
    exact fpk
  · subst ex
    have eu : u = Value.ref p := rel
    subst eu
    obtain ⟨its, _, pl, _⟩ := J.tuple sq
    refine wpAny_pyIter_tuple (show st1.heap.IsTuple p its.toArray from pl) ⟨_, _, _, _, H1, rfl, J.kept (t' := st1.toks) (fun b o h => Heap.get?_push_of_some _ h), turn_tuple p _, ⟨_, Heap.get?_push_size _ rfl, rfl, rfl⟩, (fun b hb => ?_), r⟩
    rw [lone hb]
    exact fpk
  · subst ex
    obtain ⟨tk, eu⟩ := (show ∃ tk, u = Value.str z tk from rel)
    subst eu
    cases hz : z.cps.all (· < 128) with
    | false => exact wpAny_pyIter_wide hz (pi_one (tk := st1.toks) J _ (turn_str _ z tk _ (Or.inr rfl)) ⟨_, Heap.get?_push_size _ rfl, rfl, rfl⟩ r)
    | true => exact wpAny_pyIter_ascii hz (pi_one (tk := st1.toks) J _ (turn_str _ z tk _ (Or.inl rfl)) ⟨_, Heap.get?_push_size _ rfl, rfl, rfl⟩ r)
theorem itok_str {z : Str} : ItOk K H1 (Its z) (z.cps.toList.map fun c => .str ⟨#[c]⟩) (fun _ => True) := fun S H s tx _fz st => by
  refine ⟨fun i d hi => ?_, by show z.cps.size ≤ _; simp⟩
  rw [List.getElem?_map] at hi
  cases h : z.cps.toList[i]? with
  | none => rw [h] at hi; cases hi
  | some c =>
    rw [h] at hi
    cases hi
    have hlt : i < z.cps.size := by
      have := (List.getElem?_eq_some_iff.mp h).1
      simpa using this
    refine ⟨hlt, fun x H' y => ?_⟩
    obtain ⟨e, c2, e2, e3⟩ := y
    subst e e3
    have : c2 = c := by
      have h2 : z.cps.toList[i]? = some c2 := by rw [Array.getElem?_toList]; exact e2
      rw [h] at h2
      exact (Option.some.inj h2).symm
    subst this
    exact ⟨.refl, s, .str _⟩
theorem i_seq {tg : Expr} (ha : CE X a fa) : CI X tg a (iSeq fa) := by
  obtain ⟨ta, ha, sa⟩ := ha
  refine ⟨_, pi_seq ha, fun σ S Q sv H R re rs q k => sa σ S _ sv H _ re rs q fun v d S1 H1 s1 r1 v1 q1 => ?_⟩
  cases v1 with
  | ref p =>
    obtain ⟨xs, e, q1⟩ := q1
    obtain ⟨vs, e1, r⟩ := r1 _ _ e
    exact .inl ⟨p, vs, rfl, .inl (.inl e1), k _ _ _ _ _ s1 r1 itok_list q1⟩
  | @fl p vs ds h r => exact .inl ⟨p, vs, rfl, h.sq, k _ _ _ _ _ s1 r1 (itok_fl h r) q1⟩
  | @tup p vs ds h r => exact .inr (.inl ⟨p, vs, rfl, h, k _ _ _ _ _ s1 r1 (itok_tup h r) q1⟩)
  | str z => exact .inr (.inr ⟨z, rfl, k _ _ _ _ _ s1 r1 itok_str q1⟩)
  | _ => exact False.elim q1
abbrev gLe : G2 := gI0 fun i j => .bl (decide (i ≤ j))
abbrev gGt : G2 := gI0 fun i j => .bl (decide (j < i))
abbrev gGe : G2 := gI0 fun i j => .bl (decide (j ≤ i))
/-- name = [.. for ..] -/
theorem s_setLc {i : Nat} {y : Str} {py : Pos} {elt tg it : Expr} {ifs : List Expr} {scope : Scope} {own : List (Str × Nat)} {gown : List Nat} {spos : Pos} {fi : DI} {g : DG} (hc : X.calm = true) (hN : X.N.Nodup) (hy : X.N[i]? = some y) (hyl : X.env.scope.names.lookup y = some .local)
    (hsw : swapsWith (.ListComp elt [⟨tg, it, ifs, 0⟩] scope pos) (some (.Name y py)) spos.line X.env = pure true) (hi : CI X tg it fi) (ok : BlkOk X.N X.env.scope scope own)
    (hg : ∀ (s : Shared) (H : Hp) (C : Addr) (cl : List (Str × Addr)) (fp : List Addr), CG (X.blk s H scope (compEnvC scope cl C X.env) fp) tg gown g) (hsub : ∀ i ∈ gown, i ∈ own.map (·.2))
    (ht : ∀ (s : Shared) (H : Hp) (C : Addr) (cl : List (Str × Addr)) (fp : List Addr), CTs (X.blk s H scope (compEnvC scope cl C X.env) fp) ifs ft)
    (he : ∀ (s : Shared) (H : Hp) (C : Addr) (cl : List (Str × Addr)) (fp : List Addr), CE (X.blk s H scope (compEnvC scope cl C X.env) fp) elt fe) (hs : ∀ x, foldedSetIterable it X.env x = pure x := by intro _; rfl) :
    CS X (.Assign [.Name y py] (.ListComp elt [⟨tg, it, ifs, 0⟩] scope pos) spos) (sAsg (eLc fi g ft fe (own.map (·.2))) (nName i)) := by
  obtain ⟨wi, hi, si⟩ := hi
  refine ⟨_, ps_setLc (g := TGof X.K gown g) (tt := TTof X.K ft) (te := TEof X.K fe) hc hN hy hyl hsw hi ok (fun s H C cl fp => (hg s H C cl fp).pg) (fun s H C cl fp => (ht s H C cl fp).pts) (fun s H C cl fp => (he s H C cl fp).pe) hs, fun D0 σ S Dv sv H re rs q k => ?_⟩
  refine snd_lc hsub si σ S _ sv H _ re rs q fun v d S1 H1 s1 r1 v1 q1 => ?_
  exact k.nx _ _ _ _ s1 r1 ((re.mono s1.tx).set v1) q1
/-! ### names of the module -/
theorem c_globS {x : Str} {z : Str} (h : ∃ t, X.mg x = some (.str z t)) (hg : Gl X x := by rfl) (hd : (x == ("__debug__" : Str)) = false := by decide) : CE X (.Name x pos) (eC (.str z)) :=
  let ⟨t, h⟩ := h; c_glob (v := .str z) hg h ⟨t, rfl⟩ (fun _ => .str z) hd
theorem c_globI {x : Str} {z : Int} (h : ∃ t, X.mg x = some (.int z t)) (hg : Gl X x := by rfl) (hd : (x == ("__debug__" : Str)) = false := by decide) : CE X (.Name x pos) (eC (.int z)) :=
  let ⟨t, h⟩ := h; c_glob (v := .int z) hg h ⟨t, rfl⟩ (fun _ => .int z) hd
end
/-- a def of the module, by its name -/
structure Okf (P : Program) (w : World) (K : PySem.W.Frag) (mg : Str → Option Value) (base : Heap) (k : Nat) (x : Str) (n : Nat) (m : MF) : Prop where
  ex : ∃ (f : Addr) (fd : FuncData) (ps : List Str), ps.length = n ∧ FnG P w K mg base CX0 k f fd ps (spD K n m) ∧ mg x = some (.ref f) ∧ PySem.W.keepIn K (.ref f) = true ∧ Binds K fd ps []
structure FT (K : PySem.W.Frag) (mg : Str → Option Value) (x : Str) (st : Stmt) (ps : List Str) : Prop where
  ex : ∃ (f : Addr) (fd : FuncData), Fun K x x st f fd ∧ Binds K fd ps [] ∧ mg x = some (.ref f)
section
variable {X : Cx} {a : Expr} {es : List Expr} {fs : DA} {pos : Pos}
theorem c_fn {k j n : Nat} {m : MF} {x : Str} {p : Pos} (hr : RoomG j X.A) (F : Okf X.prog X.w X.K X.mg X.base k x n m) (hk : k ≤ j) (ha : CA X (a :: es) fs) (hg : Gl X x := by rfl)
    (hdb : (x == ("__debug__" : Str)) = false := by decide) (he : starEach (a :: es) X.env = (false, eval a X.env) :: starEach es X.env := by rfl) (hpl : (backTo pos (starEach es X.env)).any (·.1) = false := by rfl) :
    CE X (.Call (.Name x p) (a :: es) [] pos) (eCall n m fs) := by
  obtain ⟨f, fd, ps, hl, F, hm, hk2, hb⟩ := F
  exact c_call (hr.mono' hk) F hg hm hk2 hb ha hdb he hpl
theorem okf_of {P : Program} {w : World} {K : PySem.W.Frag} {mg : Str → Option Value} {base : Heap} {x : Str} {st : Stmt} {N ps : List Str} {k : Nat} {b : DS} {m : MF} (T : FT K mg x st ps) (Sc : FnScope N ps (defScope st)) (hm : ∀ ds S Q, m ds S Q = b (endsD Q) (startD N.length ds) S)
    (h : ∀ (f : Addr) (cdv : Value) (A : Around) (outer : List PySem.Env) (s : Shared) (H : Hp) (E : XK), RoomG k (A.deeper (envOfC x (defScope st) s.heap.objs.size f cdv)) → CSs (cxOf CX0 P w K mg base N x (defScope st) f cdv A outer s H E).nox (defBody st) b) :
    Okf P w K mg base (k + 1) x ps.length m := by
  obtain ⟨f, fd, F, B, g⟩ := T
  have e : m = fun ds S Q => b (endsD Q) (startD N.length ds) S := funext fun ds => funext fun S => funext fun Q => hm ds S Q
  rw [e]
  exact ⟨f, fd, ps, rfl, def_ok F Sc (h f), g, F.kp, B⟩
end
/-! ### the law -/
theorem fr_of {K : PySem.W.Frag} {H : Hp} {a : Addr} {vs : List V} (o : Only H) (h : SqL K H a vs) : FrL K H a vs := by
  rcases h with (h | h) | h
  · rcases o a with z | ⟨ob, xs, z⟩ <;> rw [h] at z <;> cases z
  · exact .inl h
  · exact .inr h
end DL
namespace DL
open PySem PySem.Spec PyProof.Rows L2
section
variable {X : Cx} {K : PySem.W.Frag} {e a b c : Expr} {es : List Expr} {fe fa fb fc : DE} {ft fu : DT} {fs : DA} {pos : Pos} {S S1 S' : Sto} {H H1 H' : Hp}
/-! ### a list or a tuple times a number -/
def gMulA : G2 := fun x y S Q => match x, y with
  | .int i, .int j => CMulW i j ∧ Q (.int (i * j)) S
  | .ref p, .int k => ∃ xs, S p = some (.lst xs) ∧ -(2 ^ 63) ≤ k ∧ k < 2 ^ 63 ∧ xs.length * k.toNat ≤ sizeLine ∧ ∀ n, S n = none → Q (.ref n) (updS S n (.lst (List.replicate k.toNat xs).flatten))
  | .tup xs, .int k => xs ≠ [] ∧ 2 ≤ k ∧ k ≤ 1000 ∧ xs.length ≤ 1000 ∧ Q (.tup (List.replicate k.toNat xs).flatten) S
  | _, _ => False
theorem reps_rep {vs : List V} {ds : List D} (r : Reps K H vs ds) : ∀ k : Nat, Reps K H (List.replicate k vs).flatten (List.replicate k ds).flatten
  | 0 => .nil
  | k + 1 => by
    rw [List.replicate_succ, List.replicate_succ, List.flatten_cons, List.flatten_cons]
    exact r.append (reps_rep r k)
theorem c_mulA (ha : CE X a fa) (hb : CE X b fb) : CE X (.BinOp a .Mult b pos) (eOp gMulA fa fb) := by
  obtain ⟨ta, ha, sa⟩ := ha
  obtain ⟨tb, hb, sb⟩ := hb
  refine ⟨_, pe_op (OpR.or op_mulW (OpR.or op_rep op_repT)) ha hb, snd_op (fun x y d d2 S H Q Kt s rx ry q k => ?_) sa sb⟩
  cases rx with
  | int i =>
    cases ry <;> try exact False.elim q
    exact .inl ⟨_, _, rfl, rfl, q.1, k.now s (.int _) q.2⟩
  | ref p =>
    cases ry <;> try exact False.elim q
    obtain ⟨xs, e, h1, h2, hz, q⟩ := q
    obtain ⟨vs, e1, r⟩ := s _ _ e
    exact .inr (.inl ⟨_, _, vs, rfl, rfl, e1, h1, h2, by rw [r.length]; exact hz, new_lst s (reps_rep r _) k q⟩)
  | @tup p vs ds h r =>
    cases ry <;> try exact False.elim q
    obtain ⟨h0, h1, h2, h3, q⟩ := q
    refine .inr (.inr ⟨_, _, vs, rfl, rfl, h, fun z => h0 ?_, h1, h2, by rw [r.length]; exact h3, fun n hn => ?_⟩)
    · subst z
      cases r
      rfl
    · obtain ⟨st, sr⟩ := stp_tup (vs := (List.replicate (Int.toNat _) vs).flatten) s hn
      exact k _ _ _ _ st sr (.tup (.inl (.inl upd_same)) (reps_rep (r.mono st.tx) _)) q
  | _ => exact False.elim q
/-! ### a, b = a tuple or a list -/
def nTupL (n : Nat) (gs : List D → Env → Sto → (Env → Sto → Prop) → Prop) : DG := fun d σ S Q => match d with
  | .tup ds => ds.length = n ∧ gs ds σ S Q
  | .ref p => ∃ ds, S p = some (.lst ds) ∧ ds.length = n ∧ gs ds σ S Q
  | _ => False
theorem PG.or {tg : Expr} {t t' : TG} (h : PG X tg t) (h' : PG X tg t') : PG X tg (fun v sv H Q => t v sv H Q ∨ t' v sv H Q) := ⟨fun pins s sv H v u Q I r q => by
  rcases q with q | q
  · exact h.run pins s sv H v u Q I r q
  · exact h'.run pins s sv H v u Q I r q⟩
theorem g_tupL {ts : List Expr} {k : Nat} {own : List Nat} {gs : List D → Env → Sto → (Env → Sto → Prop) → Prop} {n : Nat} (hc : X.calm = true) (h : CGs X ts own gs) (hn : (assignEach ts X.env).length = n := by rfl) (hst : (assignEach ts X.env).findIdx? (·.1) = none := by rfl) :
    CG X (.Tuple ts k pos) own (nTupL n gs) := by
  obtain ⟨t, p, s⟩ := h
  refine ⟨_, PG.or (pg_tup hc p hn hst) (pg_unl hc p hn hst), fun v d σ S Q sv H Kt rv re rs q k => ?_⟩
  cases rv with
  | @tup a vs ds h r => exact .inl ⟨a, vs, rfl, h, by rw [r.length]; exact q.1, s vs ds σ S Q sv H Kt r re rs q.2 k⟩
  | ref a =>
    obtain ⟨ds, e, hl, q⟩ := q
    obtain ⟨vs, e1, r⟩ := rs _ _ e
    exact .inr ⟨a, vs, rfl, .inl (.inl e1), by rw [r.length]; exact hl, s vs ds σ S Q sv H Kt r re rs q k⟩
  | _ => exact False.elim q
/-! ### sorted of numbers -/
def gSorted : GN := fun xs S Q => match xs with
  | [.ref p] => (∃ ns : List Int, S p = some (.lst (ns.map .int)) ∧ ∀ ns' : List Int, ns'.Perm ns → ns'.Pairwise (· ≤ ·) → ∀ n, S n = none → Q (.ref n) (updS S n (.lst (ns'.map .int)))) ∨
      ∃ ns : List Str, S p = some (.lst (ns.map .str)) ∧ ns.length < 64 ∧ ∀ ns' : List Str, ns'.Perm ns → sortedS ns' = true → ∀ n, S n = none → Q (.ref n) (updS S n (.lst (ns'.map .str)))
  | _ => False
theorem b_sorted : CB X "sorted" gSorted := by
  refine ⟨_, L2.CallR.or cr_sortedI cr_sortedS, fun xs as S H Q Kt s r q k => ?_⟩
  match as, q with
  | [.ref p], q =>
    obtain ⟨v, rfl, rv⟩ := reps1 r
    cases rv
    rcases q with ⟨ns, e, q⟩ | ⟨ns, e, hl, q⟩
    · obtain ⟨vs, e1, r⟩ := s _ _ e
      rw [reps_ints r] at e1
      exact .inl ⟨p, ns, rfl, .inl (.inl e1), fun ns' n hp hs => new_lst s ints_reps k (q ns' hp hs) n⟩
    · obtain ⟨vs, e1, r⟩ := s _ _ e
      rw [reps_strs r] at e1
      exact .inr ⟨p, ns, rfl, .inl (.inl e1), hl, fun ns' n hp hs => new_lst s strs_reps k (q ns' hp hs) n⟩
/-! ### zip of two lists, of two tuples; enumerate of a list -/
def pairs (xs ys : List D) : List D := (xs.zip ys).map fun p => .tup [p.1, p.2]
def iZipD (fs : DA) : DI := fun σ S Q => fs σ S fun ds S1 => match ds with
  | [.ref p, .ref q] => ∃ xs ys, S1 p = some (.lst xs) ∧ S1 q = some (.lst ys) ∧ Q (pairs xs ys) (fun S => S p = some (.lst xs) ∧ S q = some (.lst ys)) S1
  | [.tup xs, .tup ys] => Q (pairs xs ys) (fun _ => True) S1
  | _ => False
theorem pairs_get {xs ys : List D} {i : Nat} {d : D} (h : (pairs xs ys)[i]? = some d) : ∃ x y, xs[i]? = some x ∧ ys[i]? = some y ∧ d = .tup [x, y] := by
  unfold pairs at h
  rw [List.getElem?_map] at h
  cases hz : (xs.zip ys)[i]? with
  | none => rw [hz] at h; cases h
  | some p =>
    rw [hz] at h
    cases h
    obtain ⟨h1, h2⟩ := List.getElem?_zip_eq_some.mp hz
    exact ⟨p.1, p.2, h1, h2, rfl⟩
theorem itok_zip {p q : Addr} {xs ys : List D} : ItOk K H1 (Itz K p q) (pairs xs ys) (fun S => S p = some (.lst xs) ∧ S q = some (.lst ys)) := fun S H s tx _fz st => by
  obtain ⟨vs, e1, r1⟩ := s _ _ st.1
  obtain ⟨us, e2, r2⟩ := s _ _ st.2
  have q1 : SqL K H p vs := .inl (.inl e1)
  have q2 : SqL K H q us := .inl (.inl e2)
  refine ⟨fun i d hi => ?_, ⟨vs, us, q1, q2, ?_⟩⟩
  · obtain ⟨x, y, hx, hy, rfl⟩ := pairs_get hi
    obtain ⟨v, ev, rv⟩ := r1.get hx
    obtain ⟨u, eu, ru⟩ := r2.get hy
    refine ⟨⟨vs, us, v, u, q1, q2, ev, eu⟩, fun z H' hz => ?_⟩
    obtain ⟨T, x1, y1, rfl, nT, rfl, g1, g2⟩ := hz
    have a1 := g1 vs q1
    have a2 := g2 us q2
    rw [ev] at a1
    rw [eu] at a2
    cases a1
    cases a2
    obtain ⟨sp, sr⟩ := stp_tup (vs := [v, u]) s nT
    exact ⟨sp, sr, .tup (.inl (.inl upd_same)) (.cons (rv.mono sp.tx) (.cons (ru.mono sp.tx) .nil))⟩
  · have l1 := r1.length
    have l2 := r2.length
    have l3 : (pairs xs ys).length = min xs.length ys.length := by simp [pairs]
    rw [l3]
    omega
theorem itok_zipT {p q : Addr} {vs us : List V} {xs ys : List D} (h1 : SqT K H1 p vs) (h2 : SqT K H1 q us) (r1 : Reps K H1 vs xs) (r2 : Reps K H1 us ys) : ItOk K H1 (RZ.ItzT K p q) (pairs xs ys) (fun _ => True) := fun S H s tx _fz st => by
  have q1 := tx.tup _ _ h1
  have q2 := tx.tup _ _ h2
  have r1 := r1.mono tx
  have r2 := r2.mono tx
  refine ⟨fun i d hi => ?_, ⟨vs, us, q1, q2, ?_⟩⟩
  · obtain ⟨x, y, hx, hy, rfl⟩ := pairs_get hi
    obtain ⟨v, ev, rv⟩ := r1.get hx
    obtain ⟨u, eu, ru⟩ := r2.get hy
    refine ⟨⟨vs, us, v, u, q1, q2, ev, eu⟩, fun z H' hz => ?_⟩
    obtain ⟨T, x1, y1, rfl, nT, rfl, g1, g2⟩ := hz
    have a1 := g1 vs q1
    have a2 := g2 us q2
    rw [ev] at a1
    rw [eu] at a2
    cases a1
    cases a2
    obtain ⟨sp, sr⟩ := stp_tup (vs := [v, u]) s nT
    exact ⟨sp, sr, .tup (.inl (.inl upd_same)) (.cons (rv.mono sp.tx) (.cons (ru.mono sp.tx) .nil))⟩
  · have l1 := r1.length
    have l2 := r2.length
    have l3 : (pairs xs ys).length = min xs.length ys.length := by simp [pairs]
    rw [l3]
    omega
theorem i_zip {p tpos : Pos} {elts : List Expr} {kk : Nat} (hg : Gl X "zip") (hm : X.mg "zip" = none) (ha : CA X [a, b] fs) (hs : starEach [a, b] X.env = (false, eval a X.env) :: starEach [b] X.env := by rfl) (hpl : (backTo pos (starEach [b] X.env)).any (·.1) = false := by rfl) :
    CI X (.Tuple elts kk tpos) (.Call (.Name "zip" p) [a, b] [] pos) (iZipD fs) := by
  obtain ⟨ta, ha, sa⟩ := ha
  refine ⟨_, RZ.pi_zipA hg hm ha hs hpl, fun σ S Q sv H R re rs q k => sa σ S _ sv H _ re rs q fun vs ds S1 H1 s1 r1 v1 q1 => ?_⟩
  match ds, q1 with
  | [.ref p, .ref q], q1 =>
    obtain ⟨v, v2, rfl, rv, rv2⟩ := reps2 v1
    cases rv
    cases rv2
    obtain ⟨xs, ys, e1, e2, q1⟩ := q1
    obtain ⟨vs, h1, _⟩ := r1 _ _ e1
    obtain ⟨us, h2, _⟩ := r1 _ _ e2
    exact ⟨p, q, vs, us, rfl, .inl ⟨.inl (.inl h1), .inl (.inl h2), k _ _ _ _ _ s1 r1 itok_zip q1⟩⟩
  | [.tup xs, .tup ys], q1 =>
    obtain ⟨v, v2, rfl, rv, rv2⟩ := reps2 v1
    cases rv with
    | tup h1 r =>
      cases rv2 with
      | tup h2 r' => exact ⟨_, _, _, _, rfl, .inr ⟨h1, h2, k _ _ _ _ _ s1 r1 (itok_zipT h1 h2 r r') q1⟩⟩
def enumD (xs : List D) : List D := xs.mapIdx fun i x => .tup [.int (i : Nat), x]
def iEnumD (fs : DA) : DI := fun σ S Q => fs σ S fun ds S1 => match ds with
  | [.ref p] => ∃ xs, S1 p = some (.lst xs) ∧ Q (enumD xs) (fun S => S p = some (.lst xs)) S1
  | _ => False
/-! ### int and str of texts and numbers -/
def gStr : GN := fun xs S Q => match xs with
  | [.int i] => i.natAbs.log2 < 1920 ∧ Q (.str (toString i)) S
  | _ => False
end
end DL
namespace DL
open PySem PySem.Spec PyProof.Rows L2
section
variable {X : Cx} {K : PySem.W.Frag} {e a b c : Expr} {es : List Expr} {fe fa fb fc : DE} {ft fu : DT} {fs : DA} {pos : Pos} {S S1 S' : Sto} {H H1 H' : Hp}
/-! ### x < y of numbers, texts, tuples -/
def gLt2 : G2 := fun x y S Q => match x, y with
  | .int i, .int j => Q (.bl (decide (i < j))) S
  | .str i, .str j => Q (.bl (decide (i.cps.toList < j.cps.toList))) S
  | .tup xs, .tup ys => ∃ p q, PDs S xs p ∧ PDs S ys q ∧ PySem.W.alikeAll p q = true ∧ (PyData.tuple p).depth ≤ 64 ∧ Q (.bl (PySem.W.dataLt (.tuple p) (.tuple q))) S
  | _, _ => False
def rLtP (K : PySem.W.Frag) : R2 := fun x y H Q => ∃ d e, Dp K H x d ∧ Dp K H y e ∧ PySem.W.alike d e = true ∧ d ≠ .none ∧ d.depth ≤ 64 ∧ Q (.bl (PySem.W.dataLt d e)) H
theorem opLtP (hu : X.A.units + 64 < cLine) : OpR X (compareOp .Lt) (rLtP X.K) := fun pins s σ H x y v u Q I rx ry ⟨d, e, hd, he, ha, hn, hz, q⟩ => by
  have ⟨as, r1⟩ := hd.reads I d x v rx
  have ⟨bs, r2⟩ := he.reads I e y u ry
  exact PySem.W.rcLt_alike d e X.A s v u as bs r1 r2 ha hn (by omega) _ _ _ _ ⟨.bl _, H, I, rfl, q⟩
theorem o_lt2 (hu : X.A.units + 64 < cLine) : CO X .Lt gLt2 := by
  refine ⟨_, OpR.or (OpR.or op_lt op_lt_str) (opLtP hu), fun x y a b S H Q Kt s ra rb q k => ?_⟩
  cases ra with
  | int i =>
    cases rb <;> try exact False.elim q
    exact .inl (.inl ⟨_, _, rfl, rfl, k.now s (.bl _) q⟩)
  | str i =>
    cases rb <;> try exact False.elim q
    exact .inl (.inr ⟨_, _, rfl, rfl, k.now s (.bl _) q⟩)
  | @tup p1 vs1 ds1 h1 r1 =>
    cases rb with
    | @tup p2 vs2 ds2 h2 r2 =>
      obtain ⟨p, e, h3, h4, h5, h6, q⟩ := q
      refine .inr ⟨.tuple p, .tuple e, PD.dp s (.tup h3) (.tup h1 r1), PD.dp s (.tup h4) (.tup h2 r2), ?_, (fun z => by cases z), h6, k.now s (.bl _) q⟩
      unfold PySem.W.alike
      exact h5
    | _ => exact False.elim q
  | _ => exact False.elim q
/-! ### d.get(k, x) of a dict of the store -/
def eGet2 (fo fe ff : DE) : DE := fun σ S Q => fo σ S fun o S1 => match o with
  | .ref p => (∃ kvs, S1 p = some (.dk kvs)) ∧ fe σ S1 fun y S2 => ff σ S2 fun z S3 => ∃ kvs k, S3 p = some (.dk kvs) ∧ toKey y = some k ∧ Q ((valD kvs k).getD z) S3
  | _ => False
theorem c_get2 {o f : Expr} {apos : Pos} {fo ff : DE} (hu : X.A.units + 1 < cLine) (ho : CE X o fo) (he : CE X e fe) (hf : CE X f ff) (m : M2 X o "get" apos e f pos := by exact ⟨rfl, rfl, rfl, rfl⟩) :
    CE X (.Call (.Attribute o "get" apos) [e, f] [] pos) (eGet2 fo fe ff) := by
  obtain ⟨to, ho, so⟩ := ho
  obtain ⟨te, he, se⟩ := he
  obtain ⟨tf, hf, sf⟩ := hf
  refine ⟨_, pe_dget2 hu ho he hf m, fun σ S Q sv H Kt re rs q k => so σ S _ sv H _ re rs q fun v d S1 H1 s1 r1 v1 q1 => ?_⟩
  cases v1 with
  | ref p =>
    obtain ⟨⟨kvs, e0⟩, q1⟩ := q1
    obtain ⟨ws, e3, _⟩ := r1 _ _ e0
    refine ⟨p, rfl, .inl ⟨_, .inl e3⟩, ?_⟩
    refine se σ S1 _ sv H1 _ (re.mono s1.tx) r1 q1 fun u d2 S2 H2 s2 r2 v2 q2 => ?_
    refine sf σ S2 _ sv H2 _ (re.mono (s1.trans s2).tx) r2 q2 fun z d3 S3 H3 s3 r3 v3 q3 => ?_
    obtain ⟨kvs3, kk, e4, e5, q3⟩ := q3
    obtain ⟨ws3, e6, r6⟩ := r3 _ _ e4
    have hk := key_rep (v2.mono s3.tx) e5
    rcases kreps_val kk r6 with ⟨z1, z2⟩ | ⟨v4, d4, z1, z2, rv⟩
    · refine ⟨none, ?_, k _ _ _ _ ((s1.trans s2).trans s3) r3 v3 (by rw [z2] at q3; exact q3)⟩
      rw [hk, ← z1]
      exact .k e6
    · refine ⟨some v4, ?_, k _ _ _ _ ((s1.trans s2).trans s3) r3 rv (by rw [z2] at q3; exact q3)⟩
      rw [hk, ← z1]
      exact .k e6
  | _ => exact False.elim q1
/-! ### a dict of the module with text keys -/
def TabV (K : PySem.W.Frag) (a : Addr) : List (Str × Int) → Prop
  | [] => True
  | q :: r => (∃ t, PySem.W.nsIn K a q.1 = some (some (.int q.2 t))) ∧ TabV K a r
theorem TabV.mem {K : PySem.W.Frag} {a : Addr} : ∀ {tab : List (Str × Int)}, TabV K a tab → ∀ q ∈ tab, ∃ t, PySem.W.nsIn K a q.1 = some (some (.int q.2 t))
  | _ :: _, ⟨h, t⟩, q, hq => by
    rcases List.mem_cons.mp hq with rfl | hq
    · exact h
    · exact t.mem q hq
structure TabC (K : PySem.W.Frag) (w : World) (mg : Str → Option Value) (x : Str) (tab : List (Str × Int)) : Prop where
  ex : ∃ (a : Addr) (es : Array DictEntry) (n : Nat), mg x = some (.ref a) ∧ KDict K w a es n ∧ TabV K a tab
def tabAt (tab : List (Str × Int)) (z : Str) : Option Int := (tab.find? fun q => decide (q.1 = z)).map (·.2)
def eTab (tab : List (Str × Int)) (fe : DE) : DE := fun σ S Q => fe σ S fun y S1 => match y with
  | .str z => ∃ i, tabAt tab z = some i ∧ Q (.int i) S1
  | _ => False
theorem tabAt_mem {tab : List (Str × Int)} {z : Str} {i : Int} (h : tabAt tab z = some i) : (z, i) ∈ tab := by
  unfold tabAt at h
  obtain ⟨q, h1, h2⟩ := Option.map_eq_some_iff.mp h
  have h3 := List.mem_of_find?_eq_some h1
  have h4 : q.1 = z := by simpa using List.find?_some h1
  rw [← h4, ← h2]
  exact h3
def tTabV (K : PySem.W.Frag) (a : Addr) (te : TE) : TE := fun σ H Q => te σ H fun y H1 => ∃ z u0 v0, y = .str z ∧ PySem.W.nsIn K a z = some (some u0) ∧ RelV v0 u0 ∧ Q v0 H1
theorem c_tab {x : Str} {p : Pos} {tab : List (Str × Int)} (T : TabC X.K X.w X.mg x tab) (he : CE X e fe) (hs : NoSl e := by intro _ _; rfl) (hg : Gl X x := by rfl) (hd : (x == ("__debug__" : Str)) = false := by decide) :
    CE X (.Subscript (.Name x p) e pos) (eTab tab fe) := by
  obtain ⟨te, he, se⟩ := he
  obtain ⟨a, es, n, hm, D, ht⟩ := T
  have hp : PE X (.Name x p) _ := pe_glob hg hm (v := .ref a) rfl hd
  refine ⟨tTabV X.K a te, ⟨fun pins s σ H Q I h => ?_⟩, fun σ S Q sv H Kt re rs q k => ?_⟩
  · refine subD_of PySem.F.slot_dict_getitem.lookup hs (thn (hp.run pins s σ H (fun x H1 => x = .ref a ∧ tTabV X.K a te σ H1 Q) I ⟨rfl, h⟩) fun u s1 ⟨x, H1, I1, rx, ex, q1⟩ => thn (he.run pins s1 σ H1 _ I1 q1) fun iv s2 ⟨y, H2, I2, ry, z, u0, v0, ey, en, rv, q2⟩ => ?_)
    subst ex
    have eu : u = Value.ref a := rx
    subst eu
    exact ⟨kd_type D I2, op_item_kd D pins s2 σ H2 (.ref a) y (.ref a) iv Q I2 rfl ry ⟨z, u0, v0, rfl, ey, en, rv, q2⟩⟩
  · refine se σ S _ sv H _ re rs q fun v d S1 H1 s1 r1 v1 q1 => ?_
    cases v1 with
    | str z =>
      obtain ⟨i, hi, q1⟩ := q1
      obtain ⟨t, ht⟩ := ht.mem _ (tabAt_mem hi)
      exact ⟨z, _, .int i, rfl, ht, ⟨t, rfl⟩, k _ _ _ _ s1 r1 (.int i) q1⟩
    | _ => exact False.elim q1
end
end DL
namespace DL
open PySem PySem.Spec PyProof.Rows L2
/-! ### sorted by a key that a def of the module gives -/
/-- all objects as they were, but for the slots of those in fs -/
def Sl (fs : List Addr) (h h' : Heap) : Prop := ∀ b o, h.get? b = some o → ∃ sl, h'.get? b = some { o with slots := sl } ∧ (b ∉ fs → sl = o.slots)
theorem Sl.refl {fs : List Addr} {h : Heap} : Sl fs h h := fun b o e => ⟨o.slots, e, fun _ => rfl⟩
theorem Sl.trans {fs : List Addr} {h h1 h2 : Heap} (x : Sl fs h h1) (y : Sl fs h1 h2) : Sl fs h h2 := fun b o e => by
  obtain ⟨sl, e1, k1⟩ := x b o e
  obtain ⟨sl2, e2, k2⟩ := y b _ e1
  exact ⟨sl2, e2, fun hb => (k2 hb).trans (k1 hb)⟩
theorem Sl.keep {fs : List Addr} {h h' : Heap} (x : Sl fs h h') {b : Addr} {o : Obj} (e : h.get? b = some o) (hb : b ∉ fs) : h'.get? b = some o := by
  obtain ⟨sl, e1, k1⟩ := x b o e
  rw [k1 hb] at e1
  exact e1
structure SK (fs : List Addr) (s s' : Shared) : Prop where
  os : s'.os = s.os
  bare : AllBare s'.gens
  sl : Sl fs s.heap s'.heap
/-- as SK, but for the objects at a and kS -/
structure SB (fs : List Addr) (a kS : Addr) (s s' : Shared) : Prop where
  os : s'.os = s.os
  bare : AllBare s'.gens
  sl : ∀ b o, b ≠ a → b ≠ kS → s.heap.get? b = some o → ∃ sl, s'.heap.get? b = some { o with slots := sl } ∧ (b ∉ fs → sl = o.slots)
theorem SB.step {fs : List Addr} {a kS : Addr} {s s1 s2 : Shared} (x : SB fs a kS s s1) (y : SK fs s1 s2) : SB fs a kS s s2 :=
  ⟨y.os.trans x.os, y.bare, fun b o ha hk e => by
    obtain ⟨sl, e1, k1⟩ := x.sl b o ha hk e
    obtain ⟨sl2, e2, k2⟩ := y.sl b _ e1
    exact ⟨sl2, e2, fun hb => (k2 hb).trans (k1 hb)⟩⟩
theorem SB.put {fs : List Addr} {a kS : Addr} {s s1 : Shared} {h : Heap} {t : Nat} (x : SB fs a kS s s1) (y : ∀ b, b ≠ kS → h.get? b = s1.heap.get? b) : SB fs a kS s { s1 with heap := h, toks := t } :=
  ⟨x.os, x.bare, fun b o ha hk e => by
    obtain ⟨sl, e1, k1⟩ := x.sl b o ha hk e
    exact ⟨sl, (y b hk).trans e1, k1⟩⟩
mutual
theorem reads_sl {h h' : Heap} (k : ∀ b o, h.get? b = some o → o.cls = .type "tuple" → ∃ sl, h'.get? b = some { o with slots := sl }) : ∀ (d : PyData) (v : Value) (as : List Addr), PySem.W.alike d d = true → Reads h v d as → as = [] → Reads h' v d as
  | .none, _, _, _, r, _ => by cases r; exact .none
  | .bool _, _, _, _, r, _ => by cases r; exact .bool _
  | .int _, _, _, _, r, _ => by cases r; exact .int _ _
  | .str _, _, _, _, r, _ => by cases r; exact .str _ _
  | .list xs, _, _, hal, r, hn => by
    cases r with
    | list h1 h2 h3 h4 => cases hn
  | .tuple xs, _, _, hal, r, hn => by
    cases r with
    | @tuple b o vs n _ _ h1 h2 h3 h4 =>
      obtain ⟨sl, e⟩ := k _ _ h1 h2
      exact .tuple e h2 h3 (readsAll_sl k xs _ _ (by simpa [PySem.W.alike] using hal) h4 hn)
  | .dict _, _, _, hal, _, _ => absurd hal (by simp [PySem.W.alike])
theorem readsAll_sl {h h' : Heap} (k : ∀ b o, h.get? b = some o → o.cls = .type "tuple" → ∃ sl, h'.get? b = some { o with slots := sl }) : ∀ (ds : List PyData) (vs : List Value) (as : List Addr), PySem.W.alikeAll ds ds = true → ReadsAll h vs ds as → as = [] → ReadsAll h' vs ds as
  | [], _, _, _, r, _ => by cases r; exact .nil
  | d :: ds, _, _, hal, r, hn => by
    cases r with
    | cons h1 h2 =>
      rw [List.append_eq_nil_iff] at hn
      obtain ⟨n1, n2⟩ := hn
      exact .cons (reads_sl k d _ _ (PySem.W.alike_all_cons hal).1 h1 n1) (readsAll_sl k ds _ _ (PySem.W.alike_all_cons hal).2 h2 n2)
end
def cutH (h : Heap) (n : Nat) : Heap := { h with objs := h.objs.extract 0 n }
theorem cutH_lt {h : Heap} {n b : Nat} (hb : b < n) : (cutH h n).get? b = h.get? b := by
  unfold cutH Heap.get?
  have e : (h.objs.extract 0 n)[b]? = h.objs[b]? := by
    rw [Array.getElem?_extract]
    simp
    intro h2
    omega
  simp only [e]
theorem cutH_ge {h : Heap} {n b : Nat} (hb : n ≤ b) : (cutH h n).get? b = none := by
  unfold cutH Heap.get?
  have e : (h.objs.extract 0 n)[b]? = none := by
    rw [Array.getElem?_eq_none_iff, Array.size_extract]
    omega
  simp only [e]
section
open PySem.W
variable {prog : Program} {w : World} {A : Around} {E : Value → Shared → Prop} {s s0 : Shared} {a kS : Addr} {b : Bool} {vs : List Value} {e1 : Nat} {P : PySem.Fin → Shared → Prop} {kz : List PyData} {fs : List Addr}
theorem keyS_rest {f : Value} (sb : SB fs a kS s0 s) (nk : s.heap.get? kS = some (seqObj "list" #[] 0)) (na : s.heap.get? a = some (seqObj "list" #[] e1)) (hka : kS ≠ a) (hkf : kS ∉ fs) (haf : a ∉ fs)
    (hlen : kz.length = vs.length) (hZ : vs.length ≤ sizeLine) (hal : AllAlike kz) (hsk : Sortable kz) (hu : ∀ d, d ∈ kz → A.units + d.depth < cLine) (hfresh : s0.heap.objs.size ≤ kS)
    (turn : ∀ (i : Nat) (v : Value) (k : PyData), vs[i]? = some v → kz[i]? = some k → ∀ s1, SB fs a kS s0 s1 → (∃ o, s1.heap.get? a = some o) →
      wpAny (model prog w) A (call f [v]) (fun u s2 => SK fs s1 s2 ∧ Reads s2.heap u k []) (fun _ _ => False) s1)
    (h : ∀ s' out c, SB fs a kS s0 s' → s'.heap.get? a = some (seqObj "list" (List.toArray out) c) → KeyedOut b kz vs out → P (.done (.ret .none)) s') :
    wpAny (model prog w) A (ksk_rest a f b vs.toArray e1 (.ref kS)) P E s := by
  unfold ksk_rest
  refine wpAny_bind (wpAny_rule ?_)
  first
    | rw [List.forIn_toArray]
    | (rw [← Array.forIn_toList]; simp only [List.toList_toArray])
    | rw [← Array.forIn_toList]
  refine wpAny_bind (ksk_fold (fun i s' => SB fs a kS s0 s' ∧ ∃ kA e, s'.heap.get? kS = some (seqObj "list" kA e) ∧ s'.heap.get? a = some (seqObj "list" #[] e1) ∧ EachIs (fun v k => Reads s'.heap v k [] ∧ alike k k = true) kA.toList (kz.take i)) vs 0 s
    ⟨sb, #[], 0, nk, na, by rw [List.take_zero]; exact EachIs.nil⟩ ?step ?done)
  case step =>
    rintro j x s' hx ⟨sb', kA, e, nk', na', hk⟩
    simp only [Nat.zero_add] at hk ⊢
    have hj : j < vs.length := (List.getElem?_eq_some_iff.mp hx).1
    obtain ⟨k, hkj⟩ : ∃ k, kz[j]? = some k := ⟨_, List.getElem?_eq_getElem (by omega)⟩
    have hkk : alike k k = true := hal k (List.mem_of_getElem? hkj) k (List.mem_of_getElem? hkj)
    have hz : kA.size ≤ vs.length := by
      have h1 := hk.length
      rw [Array.length_toList, List.length_take] at h1
      omega
    refine wpAny_bind (wpAny_attempt (wpAny_mono (turn j x k hx hkj s' sb' ⟨_, na'⟩) (fun v s'' he => ?_) fun _ _ hF => hF.elim))
    obtain ⟨sk, hr⟩ := he
    try dsimp only
    have nk2 : s''.heap.get? kS = some (seqObj "list" kA e) := sk.sl.keep nk' hkf
    have na2 : s''.heap.get? a = some (seqObj "list" #[] e1) := sk.sl.keep na' haf
    have s1 := Heap.SameBut.update s''.heap kS (Obj.mapSeq (·.push v))
    obtain ⟨c2, hc2⟩ : ∃ c2, (s''.heap.update kS (Obj.mapSeq (·.push v))).get? kS = some (seqObj "list" (kA.push v) c2) := ⟨_, get?_update_seq nk2 (·.push v)⟩
    have ek : kz.take (j + 1) = kz.take j ++ [k] := by rw [List.take_add_one, hkj]; simp
    have ea : (kA.push v).toList = kA.toList ++ [v] := by simp
    refine wpAny_bind (listUpdate_at nk2 rfl ?_ (Nat.le_trans hz hZ) (Nat.le_trans (Nat.le_of_eq (Array.size_push ..)) (Nat.succ_le_succ (Nat.le_trans hz hZ))))
    have keepS : ∀ (u : Value) (d : PyData), Reads s''.heap u d [] ∧ alike d d = true → Reads (s''.heap.update kS (Obj.mapSeq (·.push v))) u d [] ∧ alike d d = true := fun u d q =>
      ⟨reads_sl (fun b o eb cb => ⟨o.slots, (s1.2 b (fun z => by
        subst z
        rw [nk2] at eb
        cases eb
        have q : Value.type "list" = Value.type "tuple" := cb
        injection q with q
        exact absurd q (by decide))).trans eb⟩) d u [] q.2 q.1 rfl, q.2⟩
    refine wpAny_pure ⟨rfl, (sb'.step sk).put s1.2, kA.push v, c2, hc2, (s1.2 a hka.symm).trans na2, ?_⟩
    rw [ea, ek]
    refine each_snoc (R := fun (u : Value) (d : PyData) => Reads (s''.heap.update kS (Obj.mapSeq (·.push v))) u d [] ∧ alike d d = true) (keepS v k ⟨hr, hkk⟩) ?_
    exact hk.mono fun u d q => keepS u d ⟨reads_sl (fun b o eb _ => let ⟨sl, e, _⟩ := sk.sl b o eb; ⟨sl, e⟩) d u [] q.2 q.1 rfl, q.2⟩
  case done =>
    rintro s' ⟨sb', kA, e, nk', na', hk⟩
    have hk' : EachIs (fun v k => ∃ as, Reads s'.heap v k as) kA.toList kz := by
      have e3 : kz.take (0 + vs.length) = kz := List.take_of_length_le (by omega)
      rw [e3] at hk
      exact hk.mono fun v k q => ⟨[], q.1⟩
    have hsz : kA.size = vs.length := by
      have h1 := hk'.length
      rw [Array.length_toList] at h1
      omega
    try dsimp only
    refine wpAny_bind (listItems_at nk' rfl ?_)
    have hcut : ∀ b, b < kS → (cutH s'.heap kS).get? b = s'.heap.get? b := fun b hb => cutH_lt hb
    have kp : KeepsBut a (cutH s'.heap kS) s'.heap := fun b o hb e => by
      by_cases hlt : b < kS
      · rw [hcut b hlt] at e
        exact e
      · rw [cutH_ge (Nat.le_of_not_lt hlt)] at e
        cases e
    refine keyH_end (κ := dataKind s'.heap kz) (h₁ := cutH s'.heap kS) kp (cutH_ge (Nat.le_refl _)) nk' na' hka (SortsAt.data (s := s') hk' hal hsk hu) hsz hZ fun h3 tk3 c k3 n3 => ?_
    refine h { s' with heap := h3, toks := tk3 } _ c ⟨sb'.os, sb'.bare, fun b o hb hk2 eb => ?_⟩ n3 ⟨s'.heap, kA.toList, hal, rfl, hk'⟩
    obtain ⟨sl, e2, k2⟩ := sb'.sl b o hb hk2 eb
    have hlt : b < kS := Nat.lt_of_lt_of_le (Heap.lt_size eb) hfresh
    exact ⟨sl, k3 b _ hb ((hcut b hlt).trans e2), k2⟩
theorem keyS_tree {f : Value} {n : Nat} (hb : AllBare s.gens) (ho : s.heap.get? a = some (seqObj "list" vs.toArray n)) (haf : a ∉ fs) (hff : ∀ b ∈ fs, b < s.heap.objs.size) (hlen : kz.length = vs.length) (hZ : vs.length ≤ sizeLine) (hal : AllAlike kz) (hsk : Sortable kz) (hu : ∀ d, d ∈ kz → A.units + d.depth < cLine)
    (turn : ∀ (i : Nat) (v : Value) (k : PyData), vs[i]? = some v → kz[i]? = some k → ∀ s1, (∀ b o, b ≠ a → s.heap.get? b = some o → ∃ sl, s1.heap.get? b = some { o with slots := sl } ∧ (b ∉ fs → sl = o.slots)) → s1.os = s.os → AllBare s1.gens → (∃ o, s1.heap.get? a = some o) →
      wpAny (model prog w) A (call f [v]) (fun u s2 => SK fs s1 s2 ∧ Reads s2.heap u k []) (fun _ _ => False) s1)
    (h : ∀ s' out c, s'.os = s.os → AllBare s'.gens → (∀ b o, b ≠ a → s.heap.get? b = some o → ∃ sl, s'.heap.get? b = some { o with slots := sl } ∧ (b ∉ fs → sl = o.slots)) → s'.heap.get? a = some (seqObj "list" (List.toArray out) c) → KeyedOut b kz vs out → P (.done (.ret .none)) s') :
    wpAny (model prog w) A (ksk_tree a f b) P E s := by
  have ha : a < s.heap.objs.size := Heap.lt_size ho
  obtain ⟨e1, ho1⟩ : ∃ e1, (s.heap.update a (Obj.mapSeq fun _ => (#[] : Array Value))).get? a = some (seqObj "list" #[] e1) := ⟨_, get?_update_seq ho fun _ => #[]⟩
  have hkS : ((s.heap.update a (Obj.mapSeq fun _ => (#[] : Array Value))).push (seqObj "tuple" vs.toArray 0)).objs.size = s.heap.objs.size + 1 := by rw [size_push', Heap.size_update]
  unfold ksk_tree
  refine wpAny_bind (listItems_at ho rfl ?_)
  refine wpAny_bind (listUpdate_at ho rfl ?_ (by rw [List.size_toArray]; exact hZ) (Nat.zero_le _))
  refine wpAny_bind (seqEpoch_at ho1 rfl ?_)
  refine wpAny_bind (wpAny_newTuple ?_ (by show vs.length ≤ _; exact hZ))
  refine wpAny_bind (wpAny_newList ?_ (Nat.zero_le _))
  refine wpAny_holding ?_
  have ne : ∀ b o, s.heap.get? b = some o → b ≠ ((s.heap.update a (Obj.mapSeq fun _ => (#[] : Array Value))).push (seqObj "tuple" vs.toArray 0)).objs.size := fun b o e z => by
    have := Heap.lt_size e
    rw [z, hkS] at this
    exact Nat.lt_irrefl _ (Nat.lt_trans (Nat.lt_succ_self _) this)
  refine keyS_rest (kz := kz) (s0 := s) (fs := fs) (s := { s with heap := ((s.heap.update a (Obj.mapSeq fun _ => (#[] : Array Value))).push (seqObj "tuple" vs.toArray 0)).push (seqObj "list" #[] 0) }) (kS := ((s.heap.update a (Obj.mapSeq fun _ => (#[] : Array Value))).push (seqObj "tuple" vs.toArray 0)).objs.size)
    ⟨rfl, hb, fun b o hb _ q => ⟨o.slots, sortingHeap_old hb q, fun _ => rfl⟩⟩ (Heap.get?_push_size _ rfl) (Heap.get?_push_of_some _ (Heap.get?_push_of_some _ ho1)) (by rw [hkS]; exact Nat.ne_of_gt (Nat.lt_succ_of_lt ha))
    (fun z => by have := hff _ z; rw [hkS] at this; exact Nat.lt_irrefl _ (Nat.lt_trans (Nat.lt_succ_self _) this)) haf hlen hZ hal hsk hu (by rw [hkS]; omega)
    (fun i v k hv hk s1 sb na => turn i v k hv hk s1 (fun b o hb e => sb.sl b o hb (ne b o e) e) sb.os sb.bare na) fun s' out c sb hg ko => h s' out c sb.os sb.bare (fun b o hb e => sb.sl b o hb (ne b o e) e) hg ko
end
end DL
namespace DL
open PySem PySem.Spec PyProof.Rows L2
/-! ### the key of an item, run where nothing but tuples is known -/
/-- the tuples of H, locked as they stand in h -/
def frH (h : Heap) (H : Hp) : Hp := fun b => match H b with
  | some (.tup xs) => (h.get? b).map fun o => .frz o (.tup xs)
  | some (.frz o (.tup xs)) => some (.frz o (.tup xs))
  | _ => none
theorem frH_none {h : Heap} {H : Hp} {b : Addr} (e : H b = none) : frH h H b = none := by
  unfold frH
  rw [e]
theorem frH_some {h : Heap} {H : Hp} {b : Addr} {u : HO} (e : frH h H b = some u) : ∃ o xs, u = .frz o (.tup xs) ∧ ((H b = some (.tup xs) ∧ h.get? b = some o) ∨ H b = some (.frz o (.tup xs))) := by
  unfold frH at e
  cases q : H b with
  | none => rw [q] at e; cases e
  | some v =>
    rw [q] at e
    cases v with
    | tup xs =>
      obtain ⟨o, e1, e2⟩ := Option.map_eq_some_iff.mp e
      exact ⟨o, xs, e2.symm, .inl ⟨rfl, e1⟩⟩
    | frz o u2 =>
      cases u2 with
      | tup xs => cases e; exact ⟨o, xs, rfl, .inr rfl⟩
      | _ => cases e
    | _ => cases e
theorem frH_tup {P : Program} {w : World} {h h1 : Heap} {H : Hp} {a : Addr} {xs : List V} (ok : HOk P w H h) (k : ∀ b o, H b ≠ none → h.get? b = some o → h1.get? b = some o) (e : Rd H a (.tup xs)) : Rd (frH h1 H) a (.tup xs) := by
  rcases e with e | ⟨o, e⟩
  · obtain ⟨_, its, r, o, e1, _⟩ := (show ObjOk P w H h a (.tup xs) from ok a _ e)
    refine .inr ⟨o, ?_⟩
    unfold frH
    rw [e]
    dsimp only
    rw [k a o (by rw [e]; exact fun z => by cases z) e1]
    rfl
  · refine .inr ⟨o, ?_⟩
    unfold frH
    rw [e]
mutual
/-- no list, no dict within -/
def nr : D → Bool
  | .ref _ => false
  | .fl _ => false
  | .exc _ => false
  | .kt _ => false
  | .nt _ => false
  | .tup xs => nrs xs
  | _ => true
def nrs : List D → Bool
  | [] => true
  | x :: xs => nr x && nrs xs
end
mutual
theorem rep_fr {P : Program} {w : World} {K : PySem.W.Frag} {h h1 : Heap} {H : Hp} (ok : HOk P w H h) (k : ∀ b o, H b ≠ none → h.get? b = some o → h1.get? b = some o) : ∀ {v : V} {d : D}, Rep K H v d → nr d = true → Rep K (frH h1 H) v d
  | _, _, .non, _ => .non
  | _, _, .bl b, _ => .bl b
  | _, _, .int b, _ => .int b
  | _, _, .str b, _ => .str b
  | _, _, .ty b, _ => .ty b
  | _, _, .ref b, hn => by unfold nr at hn; cases hn
  | _, _, .fl h r, hn => by unfold nr at hn; cases hn
  | _, _, .exc n h, hn => by unfold nr at hn; cases hn
  | _, _, .kt h, hn => by unfold nr at hn; cases hn
  | _, _, .nt h _, hn => by unfold nr at hn; cases hn
  | _, _, .cls n, hn => .cls n
  | _, _, .tup h2 r, hn => by
    unfold nr at hn
    refine .tup ?_ (reps_fr ok k r hn)
    rcases h2 with h2 | h2
    · exact .inl (frH_tup ok k h2)
    · exact .inr h2
theorem reps_fr {P : Program} {w : World} {K : PySem.W.Frag} {h h1 : Heap} {H : Hp} (ok : HOk P w H h) (k : ∀ b o, H b ≠ none → h.get? b = some o → h1.get? b = some o) : ∀ {vs : List V} {ds : List D}, Reps K H vs ds → nrs ds = true → Reps K (frH h1 H) vs ds
  | _, _, .nil, _ => .nil
  | _, _, .cons h r, hn => by
    unfold nrs at hn
    rw [Bool.and_eq_true] at hn
    exact .cons (rep_fr ok k h hn.1) (reps_fr ok k r hn.2)
end
abbrev S0 : Sto := fun _ => none
theorem keys_readK {h : Heap} : ∀ (ks : List Key) {us : List Value}, Vals (ks.map kV) us → ReadsAll h us (ks.map keyPy) []
  | [], _, e => by cases e; exact .nil
  | .inl i :: r, _, e => by
    cases e with
    | cons e1 e2 => obtain ⟨t, rfl⟩ := e1; exact .cons (as := []) (bs := []) (.int i t) (keys_readK r e2)
  | .inr x :: r, _, e => by
    cases e with
    | cons e1 e2 => obtain ⟨t, rfl⟩ := e1; exact .cons (as := []) (bs := []) (.str x t) (keys_readK r e2)
mutual
/-- what is told of a key, read in the heap -/
theorem key_reads {P : Program} {w : World} {K : PySem.W.Frag} {h : Heap} {H : Hp} (ok : HOk P w H h) (ki : K.In h) : ∀ {d : D} {p : PyData}, PD S0 d p → ∀ {v : V} {u : Value}, Rep K H v d → RelV v u → Reads h u p []
  | _, _, .non, _, _, r, e => by cases r; cases (show _ = Value.none from e); exact .none
  | _, _, .bl b, _, _, r, e => by cases r; cases (show _ = Value.bool b from e); exact .bool b
  | _, _, .int i, _, _, r, e => by cases r; obtain ⟨t, rfl⟩ := e; exact .int i t
  | _, _, .str x, _, _, r, e => by cases r; obtain ⟨t, rfl⟩ := e; exact .str x t
  | _, _, .lst z _, _, _, r, e => by cases z
  | _, _, .kt ks, _, _, r, e => by
    cases r with
    | @kt a _ h1 =>
      cases (show _ = Value.ref a from e)
      obtain ⟨_, its, rv, o, ho, hc, n, hd⟩ := (show ObjOk P w H h a (.tup (ks.map kV)) from ok a _ h1)
      exact .tuple ho hc hd (by simpa using keys_readK ks rv)
  | _, _, .tup q, _, _, r, e => by
    cases r with
    | @tup a vs ds h1 r =>
      cases (show _ = Value.ref a from e)
      rcases h1 with h1 | ⟨o, its, n, hk, hc, hd, hz, rv⟩
      · obtain ⟨_, its, rv, o, ho, hc, n, hd⟩ := h1.ok ok
        exact .tuple ho hc hd (by simpa using keys_read ok ki q r rv)
      · exact .tuple (ki a o hk) hc hd (keys_read ok ki q r rv)
theorem keys_read {P : Program} {w : World} {K : PySem.W.Frag} {h : Heap} {H : Hp} (ok : HOk P w H h) (ki : K.In h) : ∀ {ds : List D} {ps : List PyData}, PDs S0 ds ps → ∀ {vs : List V} {us : List Value}, Reps K H vs ds → Vals vs us → ReadsAll h us ps []
  | _, _, .nil, _, _, r, e => by cases r; cases e; exact .nil
  | _, _, .cons q t, _, _, r, e => by
    cases r with
    | cons h1 r1 =>
      cases e with
      | cons e1 e2 => exact .cons (as := []) (bs := []) (key_reads ok ki q h1 e1) (keys_read ok ki t r1 e2)
end
theorem key_turn {X : Cx} {k : Nat} {f : Addr} {fd : FuncData} {ps : List Str} {m : MF} (F : FnG X.prog X.w X.K X.mg X.base CX0 k f fd ps (spD X.K 1 m)) (hb : Binds X.K fd ps []) (hr : RoomG (k + 1) X.A) {pins : List (Addr × Obj)} {σ : L2.St} {H : Hp} {s s1 : Shared} (I : Inv X pins σ H s)
    (old : ∀ b o, s.heap.get? b = some o → ∃ sl, s1.heap.get? b = some { o with slots := sl } ∧ (b ∉ frs X.stack → sl = o.slots)) (hos : s1.os = s.os) (hbare : AllBare s1.gens) (hsz : s.heap.objs.size ≤ s1.heap.objs.size)
    {v : V} {u : Value} {d : D} {p : PyData} (rv : RelV v u) (rd : Rep X.K H v d) (hn : nr d = true) (hm : m [d] S0 fun e _ => PD S0 e p) :
    wpAny (model X.prog X.w) X.A.in1.in1 (call (.ref f) [u]) (fun u' s2 => SK (frs X.stack) s1 s2 ∧ Reads s2.heap u' p []) (fun _ _ => False) s1 := by
  have E0 := I.env0
  have kp : ∀ b o, b ∉ frs X.stack → s.heap.get? b = some o → s1.heap.get? b = some o := fun b o hb e => by
    obtain ⟨sl, e1, k1⟩ := old b o e
    rw [k1 hb] at e1
    exact e1
  have kh : ∀ b o, H b ≠ none → s.heap.get? b = some o → s1.heap.get? b = some o := fun b o hb e => kp b o (fun z => hb (E0.frf b z)) e
  have basek : ∀ b o, X.base.get? b = some o → s1.heap.get? b = some o ∧ H b = none := fun b o e => by
    obtain ⟨e1, e2⟩ := E0.bs b o e
    exact ⟨kp b o (fun z => by have := (E0.funs.mem z).1; rw [e] at this; cases this) e1, e2⟩
  have hok0 : HOk X.prog X.w (frH s1.heap H) s1.heap := fun b w e => by
    obtain ⟨o, xs, rfl, h1 | h1⟩ := frH_some e
    · obtain ⟨h2, h3⟩ := h1
      refine ⟨h3, ?_⟩
      obtain ⟨z, its, r, ob, e1, c⟩ := (show ObjOk X.prog X.w H s.heap b (.tup xs) from I.hok b _ h2)
      exact ⟨z, its, r, ob, kh b ob (by rw [h2]; exact fun z => by cases z) e1, c⟩
    · obtain ⟨h3, z, its, r, ob, e1, c⟩ := (show ObjOk X.prog X.w H s.heap b (.frz o (.tup xs)) from I.hok b _ h1)
      have hne : H b ≠ none := by rw [h1]; exact fun z => by cases z
      exact ⟨kh b o hne h3, z, its, r, ob, kh b ob hne e1, c⟩
  have env : Env0 X.prog X.w X.K X.mg X.base X.A.in1.in1 X.stack s1 (frH s1.heap H) :=
    ⟨E0.in1.in1.frames, E0.mod, fun b o e => ⟨(basek b o e).1, frH_none (basek b o e).2⟩, Nat.le_trans E0.bsz hsz, E0.funs.of_keeps fun b o e _ => let ⟨sl, e1, _⟩ := old b o e; ⟨_, e1, rfl⟩,
      fun b hb => frH_none (E0.frf b hb), hok0, hbare⟩
  have room : RoomG k X.A.in1.in1 := ⟨⟨hr.hd, by have := hr.dp; show X.A.depth + 3 * k + 5 < _; omega, by have := hr.un; show X.A.units + 1 + 1 + 16 * k + 200 < _; omega⟩, hr.gd⟩
  have ki : X.K.In s1.heap := E0.mod.kin.keeps fun b o e => (basek b o e).1
  have hl : ([u] ++ ([] : List Value)).length = ps.length := F.len [v] (frH s1.heap H) (fun _ _ => True) (fun _ _ _ => False) ⟨rfl, [d], S0, fun e _ => PD S0 e p, .cons (rep_fr I.hok kh rd hn) .nil, (fun _ _ z => by cases z), hm, fun _ _ _ _ _ _ _ _ => trivial⟩
  refine wpAny_call (codeAny_mono (F.run X.A.in1.in1 X.stack s1 (frH s1.heap H) ⟨[u], []⟩ [u] [v] (fun v' H' => ∃ e, Rep X.K H' v' e ∧ PD S0 e p) (fun _ _ _ => False) room env (by simpa using hb s1 [u] ki hl) (.cons rv .nil) ?_) fun r s' hq => ?_)
  · exact ⟨rfl, [d], S0, fun e _ => PD S0 e p, .cons (rep_fr I.hok kh rd hn) .nil, (fun _ _ z => by cases z), hm, fun v' e' S' H' _ _ r q => ⟨e', r, q⟩⟩
  · cases r with
    | error e => exact hq
    | ok fl =>
      cases fl with
      | ret u' =>
        obtain ⟨v', H', os, bare, un, hok', rv', e, re, pe⟩ := hq
        have sl : Sl (frs X.stack) s1.heap s'.heap := fun b o eb => by
          cases q : frH s1.heap H b with
          | none =>
            by_cases hb : b ∈ frs X.stack
            · obtain ⟨sl, e1⟩ := un.slot b o eb q hb (by simp)
              exact ⟨sl, e1, fun z => absurd hb z⟩
            · exact ⟨o.slots, un.keep b o eb q hb (by simp), fun _ => rfl⟩
          | some w =>
            obtain ⟨o', xs, rfl, _⟩ := frH_some q
            have e1 := un.frzs b o' _ q
            have e2 := (show ObjOk X.prog X.w H' s'.heap b (.frz o' (.tup xs)) from hok' b _ e1).1
            have e3 := (show ObjOk X.prog X.w (frH s1.heap H) s1.heap b (.frz o' (.tup xs)) from hok0 b _ q).1
            rw [eb] at e3
            cases e3
            exact ⟨o.slots, e2, fun _ => rfl⟩
        have ki' : X.K.In s'.heap := E0.mod.kin.keeps fun b o e => by
          obtain ⟨e1, e2⟩ := basek b o e
          exact un.keep b o e1 (frH_none e2) (fun z => by have := (E0.funs.mem z).1; rw [e] at this; cases this) (by simp)
        exact ⟨⟨os, bare, sl⟩, key_reads hok' ki' pe re rv'⟩
      | next => exact False.elim hq
      | brk => exact False.elim hq
      | cont => exact False.elim hq
end DL
namespace DL
open PySem PySem.Spec PyProof.Rows L2
section
open PySem.W
def rSK (K : PySem.W.Frag) (f : Addr) (m : MF) : List V → List V → Hp → VK → Prop := fun vs zs H Q => ∃ (a : Addr) (xs : List V) (ds : List D) (kd : D → PyData), vs = [V.ref a] ∧ zs = [V.ref f] ∧ SqL K H a xs ∧ Reps K H xs ds ∧
  (∀ d ∈ ds, nr d = true ∧ m [d] S0 fun e _ => PD S0 e (kd d)) ∧ AllAlike (ds.map kd) ∧ Sortable (ds.map kd) ∧ (∀ d ∈ ds, (kd d).depth ≤ 32) ∧
  ∀ (p : Addr) (ys : List V), H p = none → Reps K H ys (ds.mergeSort (dataLe false kd)) → Q (.ref p) (upd H p (.lst ys))
theorem each_of {K : PySem.W.Frag} {H : Hp} : ∀ {xs : List V} {ds : List D} {us : List Value}, Reps K H xs ds → Vals xs us → EachIs (fun u d => ∃ v, RelV v u ∧ Rep K H v d) us ds
  | _, _, _, .nil, h => by cases h; exact .nil
  | _, _, _, .cons h r, e => by
    cases e with
    | cons e1 e2 => exact .cons ⟨_, e1, h⟩ (each_of r e2)
theorem of_each {K : PySem.W.Frag} {H : Hp} : ∀ {us : List Value} {ds : List D}, EachIs (fun u d => ∃ v, RelV v u ∧ Rep K H v d) us ds → ∃ xs, Vals xs us ∧ Reps K H xs ds
  | _, _, .nil => ⟨[], .nil, .nil⟩
  | _, _, .cons ⟨v, h1, h2⟩ t => let ⟨xs, a, b⟩ := of_each t; ⟨v :: xs, .cons h1 a, .cons h2 b⟩
theorem each_at {α β : Type} {R : α → β → Prop} : ∀ {as : List α} {bs : List β}, EachIs R as bs → ∀ {i : Nat} {a : α}, as[i]? = some a → ∃ b, bs[i]? = some b ∧ R a b
  | _, _, .nil, i, a, h => by cases h
  | _, _, .cons h t, 0, a, e => by cases e; exact ⟨_, rfl, h⟩
  | _, _, .cons h t, i + 1, a, e => each_at t (i := i) e
theorem cr_sortKey {X : Cx} {k : Nat} {f : Addr} {fd : FuncData} {ps : List Str} {m : MF} (F : FnG X.prog X.w X.K X.mg X.base CX0 k f fd ps (spD X.K 1 m)) (hb : Binds X.K fd ps []) (hr : RoomG (k + 1) X.A) : CallRK X (.builtin "sorted") [Str.ofString "key"] (rSK X.K f m) := by
  intro pins s σ H vs zs us ws Q I r rz h
  obtain ⟨a, xs, ds, kd, rfl, rfl, hs, rp, hm, hal, hso, hd, q⟩ := h
  obtain rfl := Vals.ref1 r
  obtain ⟨w1, rfl, e1⟩ := vals1 rz
  obtain rfl : w1 = Value.ref f := e1
  obtain ⟨its, rv, hl, hz⟩ := I.list hs
  have ei := each_of rp rv
  have hlen : its.length = ds.length := ei.length
  have hlx : xs.length = its.length := rv.length
  have E0 := I.env0
  show wpAny (model X.prog X.w) X.A (call (.builtin "sorted") [.ref a] [(Str.ofString "key", .ref f)]) (EP X pins σ Q) X.xe s
  refine sorted_of_sort hl.isList (by rw [← hlx]; exact hz) (ksk_s1 _ _) (fun _ => ksk_l1 _ _) fun E' => ?_
  rw [ksk_t1]
  have hff : ∀ b ∈ frs X.stack, b < s.heap.objs.size := fun b hb => by
    obtain ⟨_, o, e, _⟩ := E0.funs.mem hb
    exact Heap.lt_size e
  have hc : ∀ b o, s.heap.get? b = some o → b ≠ s.heap.objs.size + 1 := fun b o e z => by
    have := Heap.lt_size e
    rw [z] at this
    exact Nat.lt_irrefl _ (Nat.lt_trans (Nat.lt_succ_self _) this)
  refine keyS_tree (kz := ds.map kd) (fs := frs X.stack) (s := { s with heap := copyHeap s.heap its }) I.bare (copyHeap_at s.heap its) (fun z => Nat.lt_irrefl _ (Nat.lt_trans (Nat.lt_succ_self _) (hff _ z))) (fun b hb => ?_) (by rw [List.length_map]; exact hlen.symm) (by rw [← hlx]; exact hz) hal hso (fun d hd2 => ?_)
    (fun i u kz hi hk s1 old hos hbare hat => ?_) fun s' out c hos hbare old hg ko => ?_
  · exact Nat.lt_of_lt_of_le (Nat.lt_trans (hff b hb) (Nat.lt_succ_self _)) (Nat.le_of_lt (Heap.lt_size (copyHeap_at s.heap its)))
  · obtain ⟨d0, h0, rfl⟩ := List.mem_map.mp hd2
    have := hd d0 h0
    have := hr.un
    show X.A.units + 1 + 1 + _ < _
    omega
  · obtain ⟨d, hd1, v, rv1, rd1⟩ := each_at ei hi
    have hkd : kz = kd d := by
      rw [List.getElem?_map, hd1] at hk
      cases hk
      rfl
    subst hkd
    have hmem := List.mem_of_getElem? hd1
    obtain ⟨o, ho⟩ := hat
    exact key_turn F hb hr I (fun b o e => old b o (hc b o e) (copyHeap_old e)) hos hbare (Nat.le_of_lt (Nat.lt_trans (Nat.lt_succ_self _) (Heap.lt_size ho))) rv1 rd1 (hm d hmem).1 (hm d hmem).2
  · refine ⟨rfl, ?_⟩
    have eo := keyedOut_each kd ko ei
    obtain ⟨ys, yv, yr⟩ := of_each eo
    have np : H (s.heap.objs.size + 1) = none := I.hok.fresh (Nat.le_succ _)
    have ys_len : ys.length ≤ sizeLine := by
      have h1 := yv.length
      have h2 := eo.length
      rw [List.length_mergeSort] at h2
      omega
    have kp : ∀ b o, b ∉ frs X.stack → s.heap.get? b = some o → s'.heap.get? b = some o := fun b o hb e => by
      obtain ⟨sl, e1, k1⟩ := old b o (hc b o e) (copyHeap_old e)
      rw [k1 hb] at e1
      exact e1
    have un : Un (frs X.stack) [] H (upd H (s.heap.objs.size + 1) (.lst ys)) s.heap s'.heap :=
      { keep := fun b o e _ hb _ => kp b o hb e
        slot := fun b o e _ _ _ => let ⟨sl, e1, _⟩ := old b o (hc b o e) (copyHeap_old e); ⟨sl, e1⟩
        free := fun b o e n _ => by rw [upd_ne (hc b o e)]; exact n
        there := fun b o e _ => let ⟨sl, e1, _⟩ := old b o (hc b o e) (copyHeap_old e); ⟨_, e1⟩
        tups := fun b xs e => by rw [upd_ne (ne_of_none e np)]; exact e
        frzs := fun b o u e => by rw [upd_ne (ne_of_none e np)]; exact e
        tbls := fun b ps e => ⟨#[], by rw [upd_ne (ne_of_none e np)]; simpa using e⟩ }
    have hok : HOk X.prog X.w (upd H (s.heap.objs.size + 1) (.lst ys)) s'.heap := fun b o e => by
      by_cases hb : b = s.heap.objs.size + 1
      · subst hb
        rw [upd_same] at e
        cases e
        exact ⟨ys_len, out, c, yv, hg⟩
      · rw [upd_ne hb] at e
        refine (I.hok b o e).stay (fun b2 u h2 e2 => kp b2 u (fun z => ?_) e2) (fun b2 e2 => by rw [upd_ne (ne_of_none e2 np)]; exact e2) fun b2 xs e2 => by rw [upd_ne (ne_of_none e2 np)]; exact e2
        have n := E0.frf b2 z
        rcases h2 with rfl | h2
        · rw [e] at n; cases n
        · rw [h2] at n; cases n
    obtain ⟨hh, g, dr, t, os'⟩ := s'
    obtain rfl : os' = s.os := hos
    exact ⟨.ref _, _, I.call (h' := hh) (g' := g) (d' := dr) (t' := t) (ch := []) un hok hbare (fun b z => absurd z (by simp)), rfl, q _ ys np yr⟩
/-- the items as they stand sorted by the keys that m tells -/
def keyed (m : MF) (xs : List D) (R : List D → Prop) : Prop := ∃ kd : D → PyData, (∀ d ∈ xs, nr d = true ∧ m [d] S0 fun e _ => PD S0 e (kd d)) ∧ AllAlike (xs.map kd) ∧ Sortable (xs.map kd) ∧ (∀ d ∈ xs, (kd d).depth ≤ 32) ∧ R (xs.mergeSort (dataLe false kd))
def eSortK (m : MF) (fa : DE) : DE := fun σ S Q => fa σ S fun x S1 => match x with
  | .ref p => ∃ xs, S1 p = some (.lst xs) ∧ keyed m xs fun ys => ∀ n, S1 n = none → Q (.ref n) (updS S1 n (.lst ys))
  | _ => False
theorem c_sortKey {X : Cx} {e : Expr} {fe : DE} {pos p p3 kpos : Pos} {j k : Nat} {g : Str} {m : MF} (hr : RoomG j X.A) (G : Okf X.prog X.w X.K X.mg X.base k g 1 m) (hk : k + 1 ≤ j) (hm : X.mg "sorted" = none) (ha : CE X e fe) (hgg : Gl X g := by rfl) (hg : Gl X "sorted" := by rfl)
    (hdd : (g == ("__debug__" : Str)) = false := by decide +kernel)
    (he : backTo pos (starEach [e] X.env) = (false, eval e X.env) :: backTo pos (starEach [] X.env) := by rfl) (hpl : (backTo pos (starEach [e] X.env)).any (·.1) = false := by rfl)
    (hall : (backToKw pos (keywordEach [⟨some (Str.ofString "key"), .Name g p3, kpos⟩] X.env)).all (·.1.isSome) = true := by rfl) (hnone : (backToKw pos (keywordEach [⟨some (Str.ofString "key"), .Name g p3, kpos⟩] X.env)).any (·.1.isNone) = false := by rfl)
    (hks : (backToKw pos (keywordEach [⟨some (Str.ofString "key"), .Name g p3, kpos⟩] X.env)).filterMap (·.1) = [Str.ofString "key"] := by rfl) (hst : starEach [e] X.env = (false, eval e X.env) :: starEach [] X.env := by rfl) :
    CE X (.Call (.Name "sorted" p) [e] [⟨some (Str.ofString "key"), .Name g p3, kpos⟩] pos) (eSortK m fe) := by
  obtain ⟨f, fd, ps, hl, F, hmg, hkk, hb⟩ := G
  obtain ⟨te, he2, se⟩ := ha
  refine ⟨_, pe_callBK (cr_sortKey F hb (hr.mono' hk)) hg hm (by rfl) (pa_cons he2 pa_nil hst) (pk_cons (pe_glob hgg hmg (v := .ref f) rfl hdd) pk_nil) (by decide +kernel) (by decide +kernel) he hpl hall hnone hks, fun σ S Q sv H Kt re rs q kt => se σ S _ sv H _ re rs q fun v d S1 H1 s1 r1 v1 q1 => ?_⟩
  cases v1 with
  | ref a =>
    obtain ⟨xs, e0, kd, hm1, ha1, hs1, hd1, q1⟩ := q1
    obtain ⟨ws, e3, r3⟩ := r1 _ _ e0
    refine ⟨a, ws, xs, kd, rfl, rfl, .inl (.inl e3), r3, hm1, ha1, hs1, hd1, fun p2 ys np rys => ?_⟩
    obtain ⟨st, sr⟩ := stp_new (o := .lst (xs.mergeSort (dataLe false kd))) (ho := .lst ys) r1 np ⟨ys, upd_same, rys.mono (tx_new np)⟩
    exact kt _ _ _ _ (s1.trans st) sr (.ref p2) (q1 p2 (r1.free np))
  | _ => exact False.elim q1
end
end DL
namespace DL
open PySem PySem.Spec PyProof.Rows L2
/-! ### repr of data -/
def keyPD : Key → PyData
  | .inl i => .int i
  | .inr s => .str s
mutual
/-- data as it is shown: texts, numbers, tuples, lists, dicts -/
inductive RP : Sto → D → PyData → Prop
  | non {S : Sto} : RP S .non .none
  | bl {S : Sto} (b : Bool) : RP S (.bl b) (.bool b)
  | int {S : Sto} (i : Int) : RP S (.int i) (.int i)
  | str {S : Sto} (x : Str) : RP S (.str x) (.str x)
  | tup {S : Sto} {ds : List D} {ps : List PyData} (h : RPs S ds ps) : RP S (.tup ds) (.tuple ps)
  | fl {S : Sto} {ds : List D} {ps : List PyData} (h : RPs S ds ps) : RP S (.fl ds) (.list ps)
  | lst {S : Sto} {a : Addr} {ds : List D} {ps : List PyData} (e : S a = some (.lst ds)) (h : RPs S ds ps) : RP S (.ref a) (.list ps)
  | dct {S : Sto} {a : Addr} {kvs : List (Key × D)} {ps : List (PyData × PyData)} (e : S a = some (.dk kvs)) (h : RKs S kvs ps) : RP S (.ref a) (.dict ps)
inductive RPs : Sto → List D → List PyData → Prop
  | nil {S : Sto} : RPs S [] []
  | cons {S : Sto} {d : D} {p : PyData} {ds : List D} {ps : List PyData} (h : RP S d p) (t : RPs S ds ps) : RPs S (d :: ds) (p :: ps)
inductive RKs : Sto → List (Key × D) → List (PyData × PyData) → Prop
  | nil {S : Sto} : RKs S [] []
  | cons {S : Sto} {k : Key} {d : D} {p : PyData} {ds : List (Key × D)} {ps : List (PyData × PyData)} (h : RP S d p) (t : RKs S ds ps) : RKs S ((k, d) :: ds) ((keyPD k, p) :: ps)
end
theorem seq_reprK {P : Program} {w : World} {h : Heap} {a : Addr} {o : Obj} {its : Array Value} {n : Nat} {ps : List PyData} {as bs : List Addr} (ho : h.get? a = some o) (hc : o.cls = .type "list") (hd : o.data = .seq its n)
    (r : ReadsAll h its.toList ps as) (am : ReadAtMost h (PyData.depthAll ps) bs) (rk : ReprAllK P w bs h (PyData.depthAll ps) its.toList (PyData.shownAll ps)) :
    ∃ bs2, ReadAtMost h (PyData.list ps).depth bs2 ∧ ReprK P w bs2 h (PyData.list ps).depth (.ref a) (PyData.list ps).shown := by
  have r1 : Reads h (.ref a) (.list ps) (a :: as) := .list ho hc hd r
  have de : (PyData.list ps).depth = PyData.depthAll ps + 1 := PyData.depth.eq_1 ps
  rw [PyData.shown.eq_5]
  have nm : a ∉ bs := not_mem_of_deeper r1 (by rw [de]; omega) am
  obtain ⟨l⟩ := its
  cases l with
  | nil =>
    cases r
    refine ⟨[], fun b hb => (by cases hb), ?_⟩
    rw [PyData.shownAll.eq_1, listText_nil]
    exact ReprK.listEmpty ho hc hd
  | cons x l =>
    refine ⟨a :: bs, am.cons r1 (by rw [de]; omega), ?_⟩
    rw [de]
    exact ReprK.list (x := x) (l := l) ho hc hd nm rk.length_eq (fun i y e => rk.item i y (by simpa using e))
theorem shownKv_zip : ∀ ps : List (PyData × PyData), List.zipWith (fun k v => k ++ Str.ofString ": " ++ v) (PyData.shownAll (ps.map (·.1))) (PyData.shownAll (ps.map (·.2))) = PyData.shownKv ps
  | [] => by rw [List.map_nil, List.map_nil, PyData.shownAll.eq_1, PyData.shownKv.eq_1]; rfl
  | (k, v) :: ps => by rw [List.map_cons, List.map_cons, PyData.shownAll.eq_2, PyData.shownAll.eq_2, PyData.shownKv.eq_2, List.zipWith_cons_cons, shownKv_zip ps]
mutual
theorem rp_repr {P : Program} {w : World} {K : PySem.W.Frag} {h : Heap} {H : Hp} {S : Sto} (ok : HOk P w H h) (ki : K.In h) (sr : SRep K S H) : ∀ {d : D} {p : PyData}, RP S d p → ∀ {v : V} {u : Value}, Rep K H v d → RelV v u → p.showable = true → p.shown.length ≤ sizeLine →
    ∃ as bs, Reads h u p as ∧ ReadAtMost h p.depth bs ∧ ReprK P w bs h p.depth u p.shown
  | _, _, .non, _, _, r, e, hs, hl => by
    cases r; cases (show _ = Value.none from e)
    obtain ⟨bs, x, y⟩ := ReprK.of_reads (prog := P) (w := w) (h₀ := h) .none hs (PyData.noDict_hsm rfl) hl
    exact ⟨_, bs, .none, x, y⟩
  | _, _, .bl b, _, _, r, e, hs, hl => by
    cases r; cases (show _ = Value.bool b from e)
    obtain ⟨bs, x, y⟩ := ReprK.of_reads (prog := P) (w := w) (h₀ := h) (.bool b) hs (PyData.noDict_hsm rfl) hl
    exact ⟨_, bs, .bool b, x, y⟩
  | _, _, .int i, _, _, r, e, hs, hl => by
    cases r; obtain ⟨t, rfl⟩ := e
    obtain ⟨bs, x, y⟩ := ReprK.of_reads (prog := P) (w := w) (h₀ := h) (.int i t) hs (PyData.noDict_hsm rfl) hl
    exact ⟨_, bs, .int i t, x, y⟩
  | _, _, .str z, _, _, r, e, hs, hl => by
    cases r; obtain ⟨t, rfl⟩ := e
    obtain ⟨bs, x, y⟩ := ReprK.of_reads (prog := P) (w := w) (h₀ := h) (.str z t) hs (PyData.noDict_hsm rfl) hl
    exact ⟨_, bs, .str z t, x, y⟩
  | _, _, .tup (ps := ps) q, _, _, r, e, hs, hl => by
    cases r with
    | @tup a vs ds h1 r =>
      cases (show _ = Value.ref a from e)
      have hl' : ∀ t ∈ PyData.shownAll ps, t.length ≤ sizeLine := fun t ht => Nat.le_trans (tupleText_mem_le ht) (by rw [PyData.shown.eq_6] at hl; exact hl)
      rw [PyData.showable.eq_6] at hs
      have main : ∀ (o : Obj) (its : Array Value) (n : Nat), h.get? a = some o → o.cls = .type "tuple" → o.data = .seq its n → Vals vs its.toList → ∃ as bs, Reads h (.ref a) (.tuple ps) as ∧ ReadAtMost h (PyData.tuple ps).depth bs ∧ ReprK P w bs h (PyData.tuple ps).depth (.ref a) (PyData.tuple ps).shown := by
        intro o its n ho hc hd rv
        obtain ⟨as, bs, r1, am, rk⟩ := rps_repr ok ki sr q r rv hs hl'
        have r2 : Reads h (.ref a) (.tuple ps) as := .tuple ho hc hd r1
        have de : (PyData.tuple ps).depth = PyData.depthAll ps + 1 := PyData.depth.eq_2 ps
        have nm : a ∉ bs := not_mem_of_deeper r2 (by rw [de]; omega) am
        refine ⟨as, a :: bs, r2, am.cons r2 (by rw [de]; omega), ?_⟩
        rw [de, PyData.shown.eq_6]
        exact ReprK.tuple ho hc hd nm rk
      rcases h1 with h1 | ⟨o, its, n, hk, hc, hd, hz, rv⟩
      · obtain ⟨_, its, rv, o, ho, hc, n, hd⟩ := h1.ok ok
        exact main o its.toArray n ho hc hd (by simpa using rv)
      · exact main o its n (ki a o hk) hc hd rv
  | _, _, .fl (ps := ps) q, _, _, r, e, hs, hl => by
    cases r with
    | @fl a vs ds h1 r =>
      cases (show _ = Value.ref a from e)
      have hl' : ∀ t ∈ PyData.shownAll ps, t.length ≤ sizeLine := fun t ht => Nat.le_trans (listText_mem_le ht) (by rw [PyData.shown.eq_5] at hl; exact hl)
      rw [PyData.showable.eq_5] at hs
      have main : ∀ (o : Obj) (its : Array Value) (n : Nat), h.get? a = some o → o.cls = .type "list" → o.data = .seq its n → Vals vs its.toList → ∃ as bs, Reads h (.ref a) (.list ps) as ∧ ReadAtMost h (PyData.list ps).depth bs ∧ ReprK P w bs h (PyData.list ps).depth (.ref a) (PyData.list ps).shown := by
        intro o its n ho hc hd rv
        obtain ⟨as, bs, r1, am, rk⟩ := rps_repr ok ki sr q r rv hs hl'
        obtain ⟨bs2, x, y⟩ := seq_reprK ho hc hd r1 am rk
        exact ⟨_, bs2, .list ho hc hd r1, x, y⟩
      rcases h1 with ⟨o, h1⟩ | ⟨o, its, n, hk, hc, _, hd, hz, rv⟩
      · obtain ⟨_, its, n, rv, ho⟩ := Rd.ok (.inr ⟨o, h1⟩) ok
        exact main _ its.toArray n ho rfl rfl (by simpa using rv)
      · exact main o its n (ki a o hk) hc hd rv
  | _, _, .lst (a := a) (ps := ps) e0 q, _, _, r, e, hs, hl => by
    cases r with
    | ref =>
      cases (show _ = Value.ref a from e)
      have hl' : ∀ t ∈ PyData.shownAll ps, t.length ≤ sizeLine := fun t ht => Nat.le_trans (listText_mem_le ht) (by rw [PyData.shown.eq_5] at hl; exact hl)
      rw [PyData.showable.eq_5] at hs
      obtain ⟨vs, e1, r1⟩ := sr _ _ e0
      obtain ⟨_, its, n, rv, ho⟩ := Rd.ok (.inl e1) ok
      obtain ⟨as, bs, r1, am, rk⟩ := rps_repr ok ki sr q r1 rv hs hl'
      obtain ⟨bs2, x, y⟩ := seq_reprK (its := its.toArray) (n := n) ho rfl rfl r1 am rk
      exact ⟨_, bs2, .list (vs := its.toArray) (n := n) ho rfl rfl r1, x, y⟩
  | _, _, .dct (a := a) (ps := ps) e0 q, _, _, r, e, hs, hl => by
    cases r with
    | ref =>
      cases (show _ = Value.ref a from e)
      have hl' : ∀ t ∈ PyData.shownKv ps, t.length ≤ sizeLine := fun t ht => Nat.le_trans (dictText_mem_le ht) (by rw [PyData.shown.eq_7] at hl; exact hl)
      rw [PyData.showable.eq_7] at hs
      obtain ⟨ws, e1, r1⟩ := sr _ _ e0
      obtain ⟨_, low, vs, rv, o, es, ep, ho, hx, hd, _, hp, _⟩ := dk_rd ok (.inl e1)
      obtain ⟨as, bs, cs, r1, r3, am, rk1, rk2⟩ := rks_repr ok ki sr q r1 rv hp hs hl'
      have r2 : Reads h (.ref a) (.dict ps) (a :: as ++ bs) := .dict ho hx.1 hd r1 r3
      have de : (PyData.dict ps).depth = PyData.depthKv ps + 1 := PyData.depth.eq_3 ps
      have nm : a ∉ cs := not_mem_of_deeper r2 (by rw [de]; omega) am
      refine ⟨_, a :: cs, r2, am.cons r2 (by rw [de]; omega), ?_⟩
      rw [de, PyData.shown.eq_7]
      have rk := ReprEntriesK.of_two es.toList _ _ rk1 rk2
      rw [shownKv_zip] at rk
      exact ReprK.dict ho hx.1 hd low nm rk
theorem rps_repr {P : Program} {w : World} {K : PySem.W.Frag} {h : Heap} {H : Hp} {S : Sto} (ok : HOk P w H h) (ki : K.In h) (sr : SRep K S H) : ∀ {ds : List D} {ps : List PyData}, RPs S ds ps → ∀ {vs : List V} {us : List Value}, Reps K H vs ds → Vals vs us → PyData.showableAll ps = true → (∀ t ∈ PyData.shownAll ps, t.length ≤ sizeLine) →
    ∃ as bs, ReadsAll h us ps as ∧ ReadAtMost h (PyData.depthAll ps) bs ∧ ReprAllK P w bs h (PyData.depthAll ps) us (PyData.shownAll ps)
  | _, _, .nil, _, _, r, e, hs, hl => by
    cases r; cases e
    refine ⟨[], [], .nil, fun b hb => (by cases hb), ?_⟩
    rw [PyData.shownAll.eq_1]
    exact .nil
  | _, _, .cons (p := p) (ps := ps) q t, _, _, r, e, hs, hl => by
    cases r with
    | cons h1 r1 =>
      cases e with
      | cons e1 e2 =>
        rw [PyData.showableAll.eq_2, Bool.and_eq_true] at hs
        rw [PyData.shownAll.eq_2] at hl
        obtain ⟨as, bs, x1, y1, z1⟩ := rp_repr ok ki sr q h1 e1 hs.1 (hl _ (by simp))
        obtain ⟨as2, bs2, x2, y2, z2⟩ := rps_repr ok ki sr t r1 e2 hs.2 fun z hz => hl z (by simp [hz])
        have m1 : p.depth ≤ PyData.depthAll (p :: ps) := by rw [PyData.depthAll.eq_2]; omega
        have m2 : PyData.depthAll ps ≤ PyData.depthAll (p :: ps) := by rw [PyData.depthAll.eq_2]; omega
        refine ⟨as ++ as2, bs ++ bs2, .cons x1 x2, (y1.mono m1).append (y2.mono m2), ?_⟩
        rw [PyData.shownAll.eq_2]
        exact .cons ((z1.more fun b hb => by simp [hb]).level_le m1) (z2.more_le (fun b hb => by simp [hb]) m2)
theorem rks_repr {P : Program} {w : World} {K : PySem.W.Frag} {h : Heap} {H : Hp} {S : Sto} (ok : HOk P w H h) (ki : K.In h) (sr : SRep K S H) : ∀ {ds : List (Key × D)} {ps : List (PyData × PyData)}, RKs S ds ps → ∀ {ws : List (Key × V)} {vs : List (Key × Value)} {es : List DictEntry}, KReps K H ws ds → KV ws vs → Pairs (mixKind P w) es vs → PyData.showableKv ps = true → (∀ t ∈ PyData.shownKv ps, t.length ≤ sizeLine) →
    ∃ as bs cs, ReadsAll h (es.map (·.key)) (ps.map (·.1)) as ∧ ReadsAll h (es.map (·.val)) (ps.map (·.2)) bs ∧ ReadAtMost h (PyData.depthKv ps) cs ∧ ReprAllK P w cs h (PyData.depthKv ps) (es.map (·.key)) (PyData.shownAll (ps.map (·.1))) ∧ ReprAllK P w cs h (PyData.depthKv ps) (es.map (·.val)) (PyData.shownAll (ps.map (·.2)))
  | _, _, .nil, _, _, _, r, e, z, hs, hl => by
    cases r; cases e; cases z
    exact ⟨[], [], [], .nil, .nil, (fun b hb => (by cases hb)), .nil, .nil⟩
  | _, _, .cons (k := k) (p := p) (ps := ps) q t, _, _, _, r, e, z, hs, hl => by
    cases r with
    | cons h1 r1 =>
      cases e with
      | cons e1 e2 =>
        cases z with
        | @cons ee kv es2 kvs2 z1 z2 z3 =>
          rw [PyData.showableKv.eq_2, Bool.and_eq_true, Bool.and_eq_true] at hs
          rw [PyData.shownKv.eq_2] at hl
          have hl0 := hl _ (List.mem_cons_self ..)
          rw [Str.length_append, Str.length_append] at hl0
          obtain ⟨as, bs, x1, y1, w1⟩ := rp_repr ok ki sr q h1.2 e1.2 hs.1.2 (by omega)
          obtain ⟨as2, bs2, cs2, x2, x3, y2, w2, w3⟩ := rks_repr ok ki sr t r1 e2 z3 hs.2 fun z hz => hl z (List.mem_cons_of_mem _ hz)
          have kk : ∃ as3 bs3, Reads h ee.key (keyPD k) as3 ∧ ReadAtMost h (keyPD k).depth bs3 ∧ ReprK P w bs3 h (keyPD k).depth ee.key (keyPD k).shown := by
            have hk : keyIs k ee.key = true := by
              have a1 := e1.1.symm.trans h1.1
              have z1' : keyIs _ ee.key = true := z1
              rw [a1] at z1'
              exact z1'
            cases k with
            | inl i =>
              have : ∃ t, ee.key = .int i t := by
                unfold keyIs at hk; dsimp only at hk
                cases h9 : ee.key <;> rw [h9] at hk <;> simp [Value.isInt] at hk
                exact ⟨_, by rw [hk]⟩
              obtain ⟨t, et⟩ := this
              rw [et]
              obtain ⟨bs, x, y⟩ := ReprK.of_reads (prog := P) (w := w) (h₀ := h) (.int i t) hs.1.1 (PyData.noDict_hsm rfl) (show (PyData.int i).shown.length ≤ _ from (show (keyPD (.inl i)).shown.length ≤ sizeLine by omega))
              exact ⟨_, bs, .int i t, x, y⟩
            | inr i =>
              have : ∃ t, ee.key = .str i t := by
                unfold keyIs at hk; dsimp only at hk
                cases h9 : ee.key <;> rw [h9] at hk <;> simp [Value.isStrOf] at hk
                exact ⟨_, by rw [hk]⟩
              obtain ⟨t, et⟩ := this
              rw [et]
              obtain ⟨bs, x, y⟩ := ReprK.of_reads (prog := P) (w := w) (h₀ := h) (.str i t) hs.1.1 (PyData.noDict_hsm rfl) (show (PyData.str i).shown.length ≤ _ from (show (keyPD (.inr i)).shown.length ≤ sizeLine by omega))
              exact ⟨_, bs, .str i t, x, y⟩
          obtain ⟨as3, bs3, x4, y4, w4⟩ := kk
          have m0 : (keyPD k).depth ≤ PyData.depthKv ((keyPD k, p) :: ps) := by rw [PyData.depthKv.eq_2]; omega
          have m1 : p.depth ≤ PyData.depthKv ((keyPD k, p) :: ps) := by rw [PyData.depthKv.eq_2]; omega
          have m2 : PyData.depthKv ps ≤ PyData.depthKv ((keyPD k, p) :: ps) := by rw [PyData.depthKv.eq_2]; omega
          refine ⟨as3 ++ as2, as ++ bs2, bs3 ++ (bs ++ cs2), .cons x4 x2, .cons (show Reads h ee.val p as from z2 ▸ x1) x3, (y4.mono m0).append ((y1.mono m1).append (y2.mono m2)), ?_, ?_⟩
          · rw [List.map_cons, List.map_cons, PyData.shownAll.eq_2]
            exact .cons ((w4.more fun b hb => by simp [hb]).level_le m0) (w2.more_le (fun b hb => by simp [hb]) m2)
          · rw [List.map_cons, List.map_cons, PyData.shownAll.eq_2, z2]
            exact .cons ((w1.more fun b hb => by simp [hb]).level_le m1) (w3.more_le (fun b hb => by simp [hb]) m2)
end
/-- repr of a tuple, a list or a dict -/
def gRepr : GN := fun xs S Q => ∃ d p, xs = [d] ∧ RP S d p ∧ (match d with | .tup _ => True | .fl _ => True | .ref _ => True | _ => False) ∧ p.showable = true ∧ p.depth ≤ 32 ∧ p.shown.length ≤ sizeLine ∧ Q (.str p.shown) S
def rRepr (P : Program) (w : World) (K : PySem.W.Frag) : List V → Hp → VK → Prop := fun xs H Q => ∃ v d p S, xs = [v] ∧ Rep K H v d ∧ SRep K S H ∧ RP S d p ∧ (∃ a, v = .ref a) ∧ p.showable = true ∧ p.depth ≤ 32 ∧ p.shown.length ≤ sizeLine ∧ Q (.str p.shown) H
theorem list_call {X : Cx} {k : Nat} (hr : RoomG k X.A) {s : Shared} {a : Addr} {o : Obj} {its : Array Value} {n : Nat} {ps : List PyData} {as bs : List Addr} {Q : Value → Shared → Prop} {E : Value → Shared → Prop}
    (ho : s.heap.get? a = some o) (hc : o.cls = .type "list") (hd : o.data = .seq its n) (r : ReadsAll s.heap its.toList ps as) (am : ReadAtMost s.heap (PyData.depthAll ps) bs)
    (rk : ReprAllK X.prog X.w bs s.heap (PyData.depthAll ps) its.toList (PyData.shownAll ps)) (hdp : (PyData.list ps).depth ≤ 32) (hl : (listText (PyData.shownAll ps)).length ≤ sizeLine)
    (fin : ∀ (h' : Heap) (u : Tok) (tk : Nat), (∀ b o, s.heap.get? b = some o → h'.get? b = some o) → Q (.str (listText (PyData.shownAll ps)) u) { heap := h', gens := s.gens, drawn := s.drawn, toks := tk, os := s.os }) :
    wpAny (model X.prog X.w) X.A (call (.builtin "repr") [.ref a]) Q E s := by
  have hu : ∀ n, n ≤ 40 → X.A.units + n < cLine := fun n hn => by have := hr.un; omega
  have r1 : Reads s.heap (.ref a) (.list ps) (a :: as) := .list ho hc hd r
  have de : (PyData.list ps).depth = PyData.depthAll ps + 1 := PyData.depth.eq_1 ps
  have nm : a ∉ bs := not_mem_of_deeper r1 (by rw [de]; omega) am
  obtain ⟨l⟩ := its
  cases l with
  | nil =>
    cases r
    rw [PyData.shownAll.eq_1, listText_nil] at fin
    exact call_repr_slot (hu 1 (by omega)) ⟨o, ho, hc⟩ (Slot.toG F.slot_list_repr) (call_list_repr_empty ⟨o, ho, hc⟩ ho hd ⟨_, _, rfl, fin s.heap s.toks (s.toks + 1) fun _ _ e => e⟩)
  | cons x l =>
    exact call_repr_slot (hu 1 (by omega)) ⟨o, ho, hc⟩ (Slot.toG F.slot_list_repr) (call_list_reprK ho hc hd nm rk.length_eq (fun i y e => rk.item i y (by simpa using e)) (A := X.A.in1) hr.gd (fun b _ => Clear.nil b) (by have := hr.un; show X.A.units + 1 + _ < _; omega) (fun _ _ e => e) (fun h' u tk kp => ⟨_, u, rfl, fin h' u tk kp⟩) hl)
theorem callRepr {X : Cx} {k : Nat} (hr : RoomG k X.A) : CallR X (.builtin "repr") (rRepr X.prog X.w X.K) := by
  intro pins s σ H xs us Q I r h
  obtain ⟨v, d, p, S, ex, rd, sr, rp, ⟨a, ea⟩, hs, hd', hl, q⟩ := h
  subst ex
  obtain ⟨u, eu, ru⟩ := Vals.one r
  subst eu
  have hu : ∀ n, n ≤ 40 → X.A.units + n < cLine := fun n hn => by have := hr.un; omega
  have fin : ∀ (h' : Heap) (u : Tok) (tk : Nat), (∀ b o, s.heap.get? b = some o → h'.get? b = some o) → EP X pins σ Q (.str p.shown u) { heap := h', gens := s.gens, drawn := s.drawn, toks := tk, os := s.os } :=
    fun h' u tk kp => ⟨.str p.shown, H, I.kept kp, ⟨u, rfl⟩, q⟩
  have cl : ∀ (b : Addr), Clear [] b := Clear.nil
  subst ea
  cases (show _ = Value.ref a from ru)
  have ok := I.hok
  have ki := I.kIn
  cases rp with
  | @tup ds ps q' =>
    cases rd with
    | @tup a vs ds h1 r1 =>
      rw [PyData.shown.eq_6] at hl fin
      rw [PyData.showable.eq_6] at hs
      have main : ∀ (o : Obj) (its : Array Value) (n : Nat), s.heap.get? a = some o → o.cls = .type "tuple" → o.data = .seq its n → Vals vs its.toList → wpAny (model X.prog X.w) X.A (call (.builtin "repr") [.ref a]) (EP X pins σ Q) X.xe s := by
        intro o its n ho hc hd rv
        obtain ⟨as, bs, r1, am, rk⟩ := rps_repr ok ki sr q' r1 rv hs fun t ht => Nat.le_trans (tupleText_mem_le ht) hl
        have r2 : Reads s.heap (.ref a) (.tuple ps) as := .tuple ho hc hd r1
        have de : (PyData.tuple ps).depth = PyData.depthAll ps + 1 := PyData.depth.eq_2 ps
        have nm : a ∉ bs := not_mem_of_deeper r2 (by rw [de]; omega) am
        exact call_repr_slot (hu 1 (by omega)) ⟨o, ho, hc⟩ (F.slot_tuple_repr) (call_tuple_reprK ho hc hd nm rk (A := X.A.in1) hr.gd (fun b _ => cl b) (by have := hr.un; show X.A.units + 1 + _ < _; omega) (fun _ _ e => e) (fun h' u tk kp => ⟨_, u, rfl, fin h' u tk kp⟩) hl)
      rcases h1 with h1 | ⟨o, its, n, hk, hc, hd, hz, rv⟩
      · obtain ⟨_, its, rv, o, ho, hc, n, hd⟩ := h1.ok ok
        exact main o its.toArray n ho hc hd (by simpa using rv)
      · exact main o its n (ki a o hk) hc hd rv
  | @fl ds ps q' =>
    cases rd with
    | @fl a vs ds h1 r1 =>
      rw [PyData.shown.eq_5] at hl fin
      rw [PyData.showable.eq_5] at hs
      rcases h1 with ⟨o, h1⟩ | ⟨o, its, n, hk, hc, _, hd, hz, rv⟩
      · obtain ⟨_, its, n, rv, ho⟩ := Rd.ok (.inr ⟨o, h1⟩) ok
        obtain ⟨as, bs, r1, am, rk⟩ := rps_repr ok ki sr q' r1 rv hs fun t ht => Nat.le_trans (listText_mem_le ht) hl
        exact list_call hr (its := its.toArray) ho rfl rfl r1 am rk hd' hl fin
      · obtain ⟨as, bs, r1, am, rk⟩ := rps_repr ok ki sr q' r1 rv hs fun t ht => Nat.le_trans (listText_mem_le ht) hl
        exact list_call hr (ki a o hk) hc hd r1 am rk hd' hl fin
  | @lst _ ds ps e0 q' =>
    cases rd
    rw [PyData.shown.eq_5] at hl fin
    rw [PyData.showable.eq_5] at hs
    obtain ⟨vs, e1, r1⟩ := sr _ _ e0
    obtain ⟨_, its, n, rv, ho⟩ := Rd.ok (.inl e1) ok
    obtain ⟨as, bs, r1, am, rk⟩ := rps_repr ok ki sr q' r1 rv hs fun t ht => Nat.le_trans (listText_mem_le ht) hl
    exact list_call hr (its := its.toArray) ho rfl rfl r1 am rk hd' hl fin
  | @dct _ kvs ps e0 q' =>
    cases rd
    rw [PyData.shown.eq_7] at hl fin
    rw [PyData.showable.eq_7] at hs
    obtain ⟨ws, e1, r1⟩ := sr _ _ e0
    obtain ⟨_, low, vs, rv, o, es, ep, ho, hx, hd, _, hp, _⟩ := dk_rd ok (.inl e1)
    obtain ⟨as, bs, cs, r1, r3, am, rk1, rk2⟩ := rks_repr ok ki sr q' r1 rv hp hs fun t ht => Nat.le_trans (dictText_mem_le ht) hl
    have r2 : Reads s.heap (.ref a) (.dict ps) (a :: as ++ bs) := .dict ho hx.1 hd r1 r3
    have de : (PyData.dict ps).depth = PyData.depthKv ps + 1 := PyData.depth.eq_3 ps
    have nm : a ∉ cs := not_mem_of_deeper r2 (by rw [de]; omega) am
    have rk := ReprEntriesK.of_two es.toList _ _ rk1 rk2
    rw [shownKv_zip] at rk
    exact call_repr_slot (hu 1 (by omega)) ⟨o, ho, hx.1⟩ F.slot_dict_repr (call_dict_reprK ho hx.1 hd low nm rk (A := X.A.in1) hr.gd (fun b _ => cl b) (by have := hr.un; show X.A.units + 1 + _ < _; omega) (fun _ _ e => e) (fun h' u tk kp => ⟨_, u, rfl, fin h' u tk kp⟩) hl)
  | _ => cases rd
theorem b_repr {X : Cx} {k : Nat} (hr : RoomG k X.A) : CB X "repr" gRepr := ⟨rRepr X.prog X.w X.K, callRepr hr, fun xs as S H Q Kt rs rv q kk => by
  obtain ⟨d, p, e, rp, sh, hs, hd, hl, q⟩ := q
  subst e
  cases rv with
  | cons h1 t1 =>
    cases t1
    refine ⟨_, d, p, S, rfl, h1, rs, rp, ?_, hs, hd, hl, kk.now rs (.str _) q⟩
    cases h1 <;> first | exact sh.elim | exact ⟨_, rfl⟩⟩
end DL
namespace DL
open PySem PySem.Spec PyProof.Rows L2
/-! ### set(list) of keys, and its length -/
section
variable {κ : Type} [DecidableEq κ]
def memU (val : Nat → κ) (i : Nat) (k : κ) : Bool := (List.range i).any fun j => decide (val j = k)
def cntU (val : Nat → κ) : Nat → Nat
  | 0 => 0
  | i + 1 => if memU val i (val i) then cntU val i else cntU val i + 1
variable {prog : Program} {w : World} {knd : PySem.KeyKind prog w κ}
end
/-- how many unlike keys -/
def dst (ks : List Key) : Nat := cntU (fun i => ks.getD i (.inl 0)) ks.length
def tLenSetK (K : PySem.W.Frag) (ta : TE) : TE := fun σ H Q => ta σ H fun x H1 => ∃ l ks, x = V.ref l ∧ SqL K H1 l (ks.map kV) ∧ ks.length + 1 < 4096 ∧ Q (.int (dst ks)) H1
def keyD : Key → D
  | .inl i => .int i
  | .inr x => .str x
def asKs : List D → Option (List Key)
  | [] => some []
  | d :: r => match toKey d, asKs r with
    | some k, some ks => some (k :: ks)
    | _, _ => none
/-- the items of a list -/
def itmD (S : Sto) : D → Option (List D)
  | .fl ds => some ds
  | .ref p => match S p with
    | some (.lst ds) => some ds
    | _ => none
  | _ => none
theorem itmD_rep {K : PySem.W.Frag} {S : Sto} {H : Hp} {v : V} {d : D} {ds : List D} (rs : SRep K S H) (r : Rep K H v d) (e : itmD S d = some ds) : ∃ l vs, v = .ref l ∧ SqL K H l vs ∧ Reps K H vs ds := by
  cases r with
  | @fl a vs ds' h r => cases e; exact ⟨a, vs, rfl, h.sq, r⟩
  | ref a =>
    unfold itmD at e
    dsimp only at e
    split at e
    · rename_i ds' e1
      cases e
      obtain ⟨vs, e2, r2⟩ := rs _ _ e1
      exact ⟨a, vs, rfl, .inl (.inl e2), r2⟩
    · cases e
  | _ => cases e
def eLenSet (fe : DE) : DE := fun σ S Q => fe σ S fun d S1 => ∃ ds ks, itmD S1 d = some ds ∧ asKs ds = some ks ∧ ks.length + 1 < 4096 ∧ Q (.int (dst ks)) S1
end DL
namespace DL
open PySem PySem.Spec PyProof.Rows L2
/-! ### xs[::-1] of a list or a tuple -/
def tRevA (K : PySem.W.Frag) (te : TE) : TE := fun σ H Q => te σ H fun x H1 => (∃ a xs, x = V.ref a ∧ SqL K H1 a xs ∧ ∀ p, H1 p = none → Q (.ref p) (upd H1 p (.lst xs.reverse))) ∨ (∃ a xs, x = V.ref a ∧ SqT K H1 a xs ∧ ∀ p, H1 p = none → Q (.ref p) (upd H1 p (.tup xs.reverse)))
def eRev (fe : DE) : DE := fun σ S Q => fe σ S fun d S1 => match d with
  | .tup ds => Q (.tup ds.reverse) S1
  | d => ∃ ds, itmD S1 d = some ds ∧ ∀ q, S1 q = none → Q (.ref q) (updS S1 q (.lst ds.reverse))
/-- str of a text or of a number -/
def gStr2 : GN := fun xs S Q => match xs with
  | [.int i] => i.natAbs.log2 < 1920 ∧ Q (.str (Str.ofString (toString i))) S
  | [.str z] => Q (.str z) S
  | _ => False
end DL
namespace DL
open PySem PySem.Spec PyProof.Rows L2
/-! ### sorted of a list or of a tuple of data -/
section
open PySem.W
/-- sorted(xs), where the data are told by enc -/
def rSD (K : PySem.W.Frag) : List V → Hp → VK → Prop := fun vs H Q => ∃ (a : Addr) (xs : List V) (ds : List D) (S : Sto) (kd : D → PyData), vs = [V.ref a] ∧ (SqL K H a xs ∨ SqT K H a xs) ∧ Reps K H xs ds ∧ SRep K S H ∧
  (∀ d ∈ ds, PD S d (kd d)) ∧ AllAlike (ds.map kd) ∧ Sortable (ds.map kd) ∧ (∀ d ∈ ds, (kd d).depth ≤ 32) ∧
  ∀ (p : Addr) (ys : List V), H p = none → Reps K H ys (ds.mergeSort (dataLe false kd)) → Q (.ref p) (upd H p (.lst ys))
theorem each_dp {X : Cx} {pins : List (Addr × Obj)} {σ : L2.St} {H : Hp} {s : Shared} {S : Sto} (I : Inv X pins σ H s) (rs : SRep X.K S H) {kd : D → PyData} : ∀ {ds : List D} {xs : List V} {us : List Value}, (∀ d ∈ ds, PD S d (kd d)) → Reps X.K H xs ds → Vals xs us → EachIs (fun v d => ∃ as, Reads s.heap v (kd d) as) us ds
  | [], _, _, _, .nil, e => by cases e; exact .nil
  | d :: ds, _, _, h, .cons h1 r1, e => by
    cases e with
    | cons e1 e2 =>
      refine .cons ?_ (each_dp I rs (fun x hx => h x (List.mem_cons_of_mem _ hx)) r1 e2)
      exact (PD.dp rs (h d (by simp)) h1).reads I _ _ _ e1
theorem cr_sorted2 {X : Cx} {k : Nat} (hr : RoomG k X.A) : CallR X (.builtin "sorted") (rSD X.K) := by
  intro pins s σ H vs us Q I r h
  obtain ⟨a, xs, ds, S, kd, rfl, hs, rp, rs, hpd, hal, hso, hd, q⟩ := h
  obtain rfl := Vals.ref1 r
  have main : ∀ (T : String) (o : Obj) (its : List Value) (n : Nat), T = "list" ∨ T = "tuple" → s.heap.get? a = some o → o.cls = .type T → o.data = .seq its.toArray n → Vals xs its → xs.length ≤ sizeLine → wpAny (model X.prog X.w) X.A (call (.builtin "sorted") [.ref a]) (EP X pins σ Q) X.xe s := by
    intro T o its n hT ho hc hdt rv hz
    have hlen := rv.length
    have ei := each_of rp rv
    have er := each_dp I rs hpd rp rv
    refine call_function_entry_kw kind_sorted plain_sorted entry_sorted (args_sorted1 (.ref a)) ?_
    unfold Builtin.sorted
    refine wpAny_bind ?_
    unfold checkCount
    dsimp only
    rw [if_neg (by exact Bool.false_ne_true), if_neg (by exact Nat.lt_irrefl 1), if_neg (by exact Nat.lt_irrefl 1)]
    refine wpAny_pure ?_
    have hsz : its.length ≤ sizeLine := by rw [← hlen]; exact hz
    refine wpAny_bind (wpAny_collect_seq a hT ho hc hdt (fun h1 k1 => ?_) (by simpa using hsz))
    have I1 := I.kept (h' := h1) (t' := s.toks) k1
    refine wpAny_bind (wpAny_newList ?_ (by simpa using hsz))
    have hat : (h1.push { cls := Value.type "list", data := Data.seq its.toArray }).get? h1.objs.size = some (seqObj "list" its.toArray 0) := Heap.get?_push_size h1 rfl
    have k2 : ∀ b o, h1.get? b = some o → (h1.push { cls := Value.type "list", data := Data.seq its.toArray }).get? b = some o := fun b o e => Heap.get?_push_of_some _ e
    refine wpAny_bind (wpAny_holding (wpAny_call_entry_kw slot_list_sort ⟨_, hat, rfl⟩ entry_list_sort ?_ (args_list_sort (.ref h1.objs.size))))
    have hne : ∀ b o, h1.get? b = some o → b ≠ h1.objs.size := fun b o e z => by
      have := Heap.lt_size e
      rw [z] at this
      exact Nat.lt_irrefl _ this
    have er2 : EachIs (fun v d => ∃ as, Reads (sortingHeap (h1.push { cls := Value.type "list", data := Data.seq its.toArray }) h1.objs.size its) v (kd d) as) its ds :=
      er.mono fun v d ⟨as, x⟩ => ⟨as, PyProof.Rows.Reads.keeps (fun b o e => sortingHeap_old (hne b o (k1 b o e)) (k2 b o (k1 b o e))) x⟩
    refine list_sort_vals hat (SortsAt.data (each_map kd er2) hal hso (bound_map fun d hd2 => ?_)) hsz ⟨.none, rfl, wpAny_pure ⟨.ref h1.objs.size, rfl, ?_⟩⟩
    · have := hd d hd2
      have := hr.un
      show X.A.units + 1 + 1 + _ < _
      omega
    · have eo := sortVals_data false ei er2 hal
      obtain ⟨ys, yv, yr⟩ := of_each eo
      have np : H h1.objs.size = none := I1.hok.fresh (Nat.le_refl _)
      have ys_len : ys.length ≤ sizeLine := by
        have h1 := yv.length
        have h2 := eo.length
        have h3 := ei.length
        rw [List.length_mergeSort] at h2
        omega
      obtain ⟨ep, he⟩ := sortedHeap_at (out := (sortVals (dataKind (sortingHeap (h1.push { cls := Value.type "list", data := Data.seq its.toArray }) h1.objs.size its) (ds.map kd)) false its its).toArray) (vs := its) hat
      refine ⟨.ref _, _, I1.laid (a := h1.objs.size) (o := .lst ys) (fun b u e => ?_) (Nat.le_refl _) ⟨ys_len, _, ep, yv, he⟩, rfl, q _ ys np yr⟩
      rw [sortedHeap_old (hne b u e) (Nat.lt_trans (Heap.lt_size e) (by rw [Heap.size_push]; exact Nat.lt_succ_self _))]
      exact k2 b u e
  rcases hs with hs | hs
  · obtain ⟨its, rv, pl, hz⟩ := I.list hs
    obtain ⟨o, ho, hc, n, hd⟩ := pl.isList
    exact main "list" o its n (.inl rfl) ho hc hd rv hz
  · obtain ⟨its, rv, ⟨o, ho, hc, n, hd⟩, hz⟩ := I.tuple hs
    exact main "tuple" o its n (.inr rfl) ho hc hd rv hz
/-- sorted of data, by themselves -/
def gSorted2 : GN := fun xs S Q => ∃ d ds kd, xs = [d] ∧ (itmD S d = some ds ∨ d = .tup ds) ∧ (∀ x ∈ ds, PD S x (kd x)) ∧ AllAlike (ds.map kd) ∧ Sortable (ds.map kd) ∧ (∀ x ∈ ds, (kd x).depth ≤ 32) ∧
  ∀ n, S n = none → Q (.ref n) (updS S n (.lst (ds.mergeSort (dataLe false kd))))
theorem b_sorted2 {X : Cx} {k : Nat} (hr : RoomG k X.A) : CB X "sorted" gSorted2 := ⟨rSD X.K, cr_sorted2 hr, fun xs as S H Q Kt rs rv q kk => by
  obtain ⟨d, ds, kd, e, hi, hp, hal, hso, hd, q⟩ := q
  subst e
  cases rv with
  | cons h1 t1 =>
    cases t1
    have fin : ∀ l vs, (SqL X.K H l vs ∨ SqT X.K H l vs) → Reps X.K H vs ds → rSD X.K [V.ref l] H Kt := fun l vs hs r => by
      refine ⟨l, vs, ds, S, kd, rfl, hs, r, rs, hp, hal, hso, hd, fun p ys np ry => ?_⟩
      obtain ⟨st, sr⟩ := stp_new (o := .lst (ds.mergeSort (dataLe false kd))) (ho := .lst ys) rs np ⟨ys, upd_same, ry.mono (tx_new np)⟩
      exact kk _ _ _ _ st sr (.ref p) (q p (rs.free np))
    rcases hi with hi | hi
    · obtain ⟨l, vs, e3, e4, e5⟩ := itmD_rep rs h1 hi
      subst e3
      exact fin l vs (.inl e4) e5
    · subst hi
      cases h1 with
      | @tup a vs ds' h r => exact fin a vs (.inr h) r⟩
end
end DL
namespace DL
open PySem PySem.Spec PyProof.Rows L2
/-- sorted: numbers, texts, data -/
def gSortedA : GN := fun xs S Q => gSorted xs S Q ∨ gSorted2 xs S Q
theorem b_sortedA {X : Cx} {k : Nat} (hr : RoomG k X.A) : CB X "sorted" gSortedA := by
  obtain ⟨r1, h1, s1⟩ := b_sorted (X := X)
  obtain ⟨r2, h2, s2⟩ := b_sorted2 hr
  exact ⟨_, L2.CallR.or h1 h2, fun xs as S H Q Kt rs rv q kk => q.elim (fun q => .inl (s1 xs as S H Q Kt rs rv q kk)) fun q => .inr (s2 xs as S H Q Kt rs rv q kk)⟩
/-- a statement that is not come to -/
def sNever : DS := fun _ _ _ => False
section
variable {X : Cx} {e : Expr} {fe : DE} {pos : Pos}
/-- in a dict of the module: texts that are there -/
def eTabIn (tab : List (Str × Int)) (f : Bool → Bool) (fe : DE) : DE := fun σ S Q => fe σ S fun y S1 => match y with
  | .str z => (tabAt tab z).isSome = true ∧ Q (.bl (f true)) S1
  | _ => False
def rTab (K : PySem.W.Frag) (d : Addr) (f : Bool → Bool) : R2 := fun x y H Q => ∃ z r, x = V.str z ∧ y = V.ref d ∧ PySem.W.nsIn K d z = some r ∧ Q (V.bl (f r.isSome)) H
theorem snd_tabIn {a : Addr} {tab : List (Str × Int)} {f : Bool → Bool} {te : TE} (ht : TabV X.K a tab) (se : Snd X.K te fe) : Snd X.K (tOp (rTab X.K a f) te (tC (.ref a))) (eTabIn tab f fe) := fun σ S Q sv H Kt re rs q k =>
  se σ S _ sv H _ re rs q fun v d S1 H1 s1 r1 v1 q1 => by
    cases v1 with
    | str z =>
      obtain ⟨hi, q1⟩ := q1
      obtain ⟨i, hi⟩ := Option.isSome_iff_exists.mp hi
      obtain ⟨t, ht⟩ := ht.mem _ (tabAt_mem hi)
      exact ⟨z, _, rfl, rfl, ht, k _ _ _ _ s1 r1 (.bl _) q1⟩
    | _ => exact False.elim q1
theorem k_tabNotIn {x : Str} {p : Pos} {tab : List (Str × Int)} (T : TabC X.K X.w X.mg x tab) (he : CE X e fe) (hg : Gl X x := by rfl) (hd : (x == ("__debug__" : Str)) = false := by decide) : CT X (.Compare e [.NotIn] [.Name x p] pos) (tBl (eTabIn tab not fe)) := by
  obtain ⟨te, he, se⟩ := he
  obtain ⟨a, es, n, hm, D, ht⟩ := T
  exact ⟨_, pt_cmpR (op_notIn_kd D) he (pe_glob hg hm (v := .ref a) rfl hd) (by with_unfolding_all rfl), snd_tTest (snd_tabIn (f := not) ht se)⟩
end
/-- a tuple of texts of the module -/
structure TupC (K : PySem.W.Frag) (mg : Str → Option Value) (x : Str) (zs : List Str) : Prop where
  ex : ∃ (a : Addr) (od : Option Addr) (its : Array Value) (n : Nat) (sl : Array (Option Value)), mg x = some (.ref a) ∧ K.lookup a = some ⟨.type "tuple", od, .seq its n, sl⟩ ∧ its.size ≤ sizeLine ∧ Vals (zs.map V.str) its.toList
theorem c_globT {X : Cx} {pos : Pos} {x : Str} {zs : List Str} (h : TupC X.K X.mg x zs) (hg : Gl X x := by rfl) (hd : (x == ("__debug__" : Str)) = false := by decide) : CE X (.Name x pos) (eC (.tup (zs.map .str))) := by
  obtain ⟨a, od, its, n, sl, hm, hk, hz, rv⟩ := h
  exact c_glob (v := .ref a) hg hm rfl (fun H => .tup (.inr ⟨_, its, n, hk, rfl, rfl, hz, rv⟩) strs_reps) hd
/-! ### x, y = a, b -/
section
variable {X : Cx} {a b c : Expr} {fs : DA} {pos : Pos}
def sPar (i j : Nat) (fs : DA) : DS := fun D0 σ S => fs σ S fun ds S1 => match ds with
  | [v, w] => D0.nx (setS j w (setS i v σ)) S1
  | _ => False
theorem s_par {i j : Nat} {x y : Str} {px py pt pt2 : Pos} {kt k2 : Nat} (hc : X.calm = true) (hN : X.N.Nodup) (hi : X.N[i]? = some x) (hj : X.N[j]? = some y) (hij : i ≠ j) (hx : X.env.scope.names.lookup x = some .local) (hy : X.env.scope.names.lookup y = some .local) (ha : CA X [a, b] fs)
    (hw : swappedStores [.Tuple [.Name x px, .Name y py] kt pt] (.Tuple [a, b] k2 pt2) X.env = pure (some [x, y]) := by rfl) : CS X (.Assign [.Tuple [.Name x px, .Name y py] kt pt] (.Tuple [a, b] k2 pt2) pos) (sPar i j fs) := by
  obtain ⟨ta, ha, sa⟩ := ha
  refine ⟨_, ps_par hc hN hi hj hij hx hy ha hw, fun D0 σ S Dv sv H re rs q k => sa σ S _ sv H _ re rs q fun vs ds S1 H1 s1 r1 v1 q1 => ?_⟩
  match ds, v1, q1 with
  | [d, e], .cons h1 (.cons h2 .nil), q1 => exact ⟨_, _, rfl, k.nx _ _ _ _ s1 r1 (((re.mono s1.tx).set h1).set h2) q1⟩
end
end DL
namespace DL
open PySem PySem.Spec PyProof.Rows L2
/-! ### list(d.values()) -/
section
variable {X : Cx} {o : Expr} {p pos apos mpos : Pos} {td : TE} {fo : DE}
def tListVals (td : TE) : TE := fun σ H Q => td σ H fun x H1 => ∃ a kvs, x = V.ref a ∧ H1 a = some (.dK kvs) ∧ ∀ p, H1 p = none → Q (.ref p) (upd H1 p (.lst (kvs.map (·.2))))
def eListV (fo : DE) : DE := fun σ S Q => fo σ S fun o S1 => match o with
  | .ref p => ∃ kvs, S1 p = some (.dk kvs) ∧ ∀ a, S1 a = none → Q (.ref a) (updS S1 a (.lst (kvs.map (·.2))))
  | _ => False
end
/-! ### try: a body that raises nothing -/
section
variable {X : Cx} {body : List Stmt} {h₀ : ExceptHandler} {hs : List ExceptHandler} {pos : Pos} {fb : DS}
end
end DL
namespace DL
open PySem PySem.Spec PyProof.Rows L2
section
variable {X : Cx} {K : PySem.W.Frag} {e a b c : Expr} {es : List Expr} {fe fa fb fc : DE} {ft fu : DT} {fs : DA} {pos : Pos} {S : Sto} {H : Hp}
/-! ### text.split(sep) -/
def gSplit : D → GN := fun x vs S Q => match x, vs with
  | .str z, [.str y] => (y.length == 0) = false ∧ z.length + 2 ≤ sizeLine ∧ ∀ p, S p = none → Q (.ref p) (updS S p (.lst ((Txt.split z y).map .str)))
  | _, _ => False
/-! ### xs.extend(ys) -/
def rExtT (K : PySem.W.Frag) : V → List V → Hp → VK → Prop := fun x vs H Q => ∃ l b xs zs, x = .ref l ∧ vs = [.ref b] ∧ H l = some (.lst xs) ∧ SqT K H b zs ∧ xs.length + zs.length ≤ sizeLine ∧ Q .non (upd H l (.lst (xs ++ zs)))
def gExtend : D → GN := fun x vs S Q => match x, vs with
  | .ref p, [.tup ds] => ∃ xs, S p = some (.lst xs) ∧ xs.length + ds.length ≤ sizeLine ∧ Q .non (updS S p (.lst (xs ++ ds)))
  | _, _ => False
/-! ### int(text) -/
def gInt2 : GN := fun xs S Q => match xs with
  | [.str z] => ∃ n, PySem.intText? z = some n ∧ z.length ≤ 640 ∧ Q (.int n) S
  | ys => gInt1 ys S Q
/-! ### range(i, j, c) -/
def stepD (lo c : Int) (n : Nat) : List D := (List.range n).map fun i => .int (lo + (i : Nat) * c)
/-- a step upwards -/
def iRange3 (fs : DA) : DI := fun σ S Q => fs σ S fun xs S1 => match xs with
  | [.int i, .int j, .int c] => ∃ n, RgC i j c n ∧ Q (stepD i c n) (fun _ => True) S1
  | _ => False
/-! ### d.get(key, x) of a dict of the module, its values tuples of numbers -/
def TabW (K : PySem.W.Frag) (a : Addr) : List (Str × List Int) → Prop
  | [] => True
  | q :: r => (∃ b od its n sl, PySem.W.nsIn K a q.1 = some (some (.ref b)) ∧ K.lookup b = some ⟨.type "tuple", od, .seq its n, sl⟩ ∧ its.size ≤ sizeLine ∧ Vals (q.2.map V.int) its.toList) ∧ TabW K a r
theorem TabW.mem {K : PySem.W.Frag} {a : Addr} : ∀ {tab : List (Str × List Int)}, TabW K a tab → ∀ q ∈ tab, ∃ b od its n sl, PySem.W.nsIn K a q.1 = some (some (.ref b)) ∧ K.lookup b = some ⟨.type "tuple", od, .seq its n, sl⟩ ∧ its.size ≤ sizeLine ∧ Vals (q.2.map V.int) its.toList
  | _ :: _, ⟨h, t⟩, q, hq => by
    rcases List.mem_cons.mp hq with rfl | hq
    · exact h
    · exact t.mem q hq
structure TabWC (K : PySem.W.Frag) (w : World) (mg : Str → Option Value) (x : Str) (tab : List (Str × List Int)) : Prop where
  ex : ∃ (a : Addr) (es : Array DictEntry) (n : Nat), mg x = some (.ref a) ∧ KDict K w a es n ∧ TabW K a tab
def tabWAt (tab : List (Str × List Int)) (z : Str) : Option (List Int) := (tab.find? fun q => decide (q.1 = z)).map (·.2)
/-- keys that are there -/
def eTabW (tab : List (Str × List Int)) (fe ff : DE) : DE := fun σ S Q => fe σ S fun y S1 => ff σ S1 fun _ S2 => match y with
  | .str z => ∃ is, tabWAt tab z = some is ∧ Q (.tup (is.map .int)) S2
  | _ => False
def tTabW (K : PySem.W.Frag) (a : Addr) (te tf : TE) : TE := fun σ H Q => te σ H fun y H1 => tf σ H1 fun _ H2 => ∃ z b, y = .str z ∧ PySem.W.nsIn K a z = some (some (.ref b)) ∧ Q (.ref b) H2
end
end DL
/-! defs that may raise own exceptions without __init__ -/
namespace DL
open PySem PySem.Spec PyProof.Rows L2
/-- the exceptional end, by the class's name -/
abbrev EK := Str → Sto → Prop
abbrev MFX := List D → Sto → DK → EK → Prop
abbrev DSX := DEnds → EK → Env → Sto → Prop
abbrev DEX := EK → DE
def RchK (K : PySem.W.Frag) (mg : Str → Option Value) (S : Sto) (H : Hp) (Ed : EK) (E : XK) : Prop := ∀ c cls S' H', Stp K S H S' H' → SRep K S' H' → mg c = some cls → Ed c S' → E cls none H'
theorem RchK.stp {K : PySem.W.Frag} {mg : Str → Option Value} {S S1 : Sto} {H H1 : Hp} {Ed : EK} {E : XK} (k : RchK K mg S H Ed E) (s : Stp K S H S1 H1) : RchK K mg S1 H1 Ed E := fun c cls S2 H2 s2 r e q => k c cls S2 H2 (s.trans s2) r e q
abbrev WXE (E : XK) : WX := fun cls d _ H => E cls d H
def SndX (K : PySem.W.Frag) (mg : Str → Option Value) (t : XK → TE) (f : DEX) : Prop := ∀ (Ed : EK) (E : XK) (σ : Env) (S : Sto) (Q : DK) (sv : L2.St) (H : Hp) (Kt : VK), ERep K H sv σ → SRep K S H → f Ed σ S Q → Rch K S H Q Kt → RchK K mg S H Ed E → t E sv H Kt
def SndSX (K : PySem.W.Frag) (mg : Str → Option Value) (t : XK → TS) (f : DSX) : Prop := ∀ (D0 : DEnds) (Ed : EK) (σ : Env) (S : Sto) (Dv : Ends) (E : XK) (sv : L2.St) (H : Hp), ERep K H sv σ → SRep K S H → f D0 Ed σ S → RchE K S H D0 Dv → RchK K mg S H Ed E → t E Dv sv H
structure CEX (X : Cx) (e : Expr) (f : DEX) : Prop where
  ok : ∃ t : XK → TE, (∀ E : XK, L2.Takes X (WXE E) → PE X e (t E)) ∧ SndX X.K X.mg t f
structure CSX (X : Cx) (st : Stmt) (f : DSX) : Prop where
  ok : ∃ t : XK → TS, (∀ E : XK, L2.Takes X (WXE E) → PS X st (t E)) ∧ SndSX X.K X.mg t f
structure CSsX (X : Cx) (st : List Stmt) (f : DSX) : Prop where
  ok : ∃ t : XK → TS, (∀ E : XK, L2.Takes X (WXE E) → PSs X st (t E)) ∧ SndSX X.K X.mg t f
/-- a def that may raise does m -/
def spX (K : PySem.W.Frag) (mg : Str → Option Value) (n : Nat) (m : MFX) : Sp := fun vs H Q E => vs.length = n ∧ ∃ ds S Qd Ed, Reps K H vs ds ∧ SRep K S H ∧ m ds S Qd Ed ∧ Rch K S H Qd Q ∧ RchK K mg S H Ed E
structure OkfX (P : Program) (w : World) (K : PySem.W.Frag) (mg : Str → Option Value) (base : Heap) (k : Nat) (x : Str) (n : Nat) (m : MFX) : Prop where
  ex : ∃ (f : Addr) (fd : FuncData) (ps : List Str), ps.length = n ∧ FnG P w K mg base (L2.CX P w) k f fd ps (spX K mg n m) ∧ mg x = some (.ref f) ∧ PySem.W.keepIn K (.ref f) = true ∧ Binds K fd ps []
section
variable {X : Cx} {st : Stmt} {rest body orelse : List Stmt} {a c : Expr} {es : List Expr} {fs : DA} {fa : DEX} {ft : DT} {f g : DSX} {pos : Pos}
def xE (f : DE) : DEX := fun _ => f
def eCallX (n : Nat) (m : MFX) (fs : DA) : DEX := fun Ed σ S Q => fs σ S fun ds S1 => ds.length = n ∧ m ds S1 Q Ed
theorem cx_fn {k j n : Nat} {m : MFX} {x : Str} {p : Pos} (hr : RoomG j X.A) (F : OkfX X.prog X.w X.K X.mg X.base k x n m) (hk : k ≤ j) (ha : CA X (a :: es) fs) (hg : Gl X x := by rfl)
    (hdb : (x == ("__debug__" : Str)) = false := by decide) (he : starEach (a :: es) X.env = (false, eval a X.env) :: starEach es X.env := by rfl) (hpl : (backTo pos (starEach es X.env)).any (·.1) = false := by rfl) :
    CEX X (.Call (.Name x p) (a :: es) [] pos) (eCallX n m fs) := by
  obtain ⟨f, fd, ps, hl, F, hm, hk2, hb⟩ := F
  obtain ⟨ta, ha, sa⟩ := ha
  refine ⟨fun E => tCall (spX X.K X.mg n m) [] E ta, fun E tk => pe_callG F (hr.mono' hk) hg hm hk2 hb .nil (L2.passes_call tk fun _ _ _ _ h => h) ha hdb he hpl, fun Ed E σ S Q sv H Kt re rs q k kx => sa σ S _ sv H _ re rs q fun vs ds S1 H1 s1 r1 v1 q1 => ?_⟩
  rw [List.append_nil]
  exact ⟨by rw [v1.length]; exact q1.1, ds, S1, Q, Ed, v1, r1, q1.2, fun v d S2 H2 s2 r2 v2 q2 => k v d S2 H2 (s1.trans s2) r2 v2 q2, kx.stp s1⟩
/-- called where nothing is raised -/
def mNo (m : MFX) : MF := fun ds S Q => m ds S Q fun _ _ => False
theorem c_fnX {k j n : Nat} {m : MFX} {x : Str} {p : Pos} (hr : RoomG j X.A) (F : OkfX X.prog X.w X.K X.mg X.base k x n m) (hk : k ≤ j) (ha : CA X (a :: es) fs) (hg : Gl X x := by rfl)
    (hdb : (x == ("__debug__" : Str)) = false := by decide) (he : starEach (a :: es) X.env = (false, eval a X.env) :: starEach es X.env := by rfl) (hpl : (backTo pos (starEach es X.env)).any (·.1) = false := by rfl) :
    CE X (.Call (.Name x p) (a :: es) [] pos) (eCall n (mNo m) fs) := by
  obtain ⟨f, fd, ps, hl, F, hm, hk2, hb⟩ := F
  obtain ⟨ta, ha, sa⟩ := ha
  refine ⟨tCall (spX X.K X.mg n m) [] E0 ta, pe_callG F (hr.mono' hk) hg hm hk2 hb .nil passL ha hdb he hpl, fun σ S Q sv H Kt re rs q k => sa σ S _ sv H _ re rs q fun vs ds S1 H1 s1 r1 v1 q1 => ?_⟩
  rw [List.append_nil]
  exact ⟨by rw [v1.length]; exact q1.1, ds, S1, Q, _, v1, r1, q1.2, fun v d S2 H2 s2 r2 v2 q2 => k v d S2 H2 (s1.trans s2) r2 v2 q2, fun c cls S2 H2 s2 r2 e2 q2 => q2⟩
/-! ### statements -/
def xS (f : DS) : DSX := fun D0 _ σ S => f D0 σ S
theorem sx_of {fd : DS} (h : CS X st fd) : CSX X st (xS fd) := let ⟨t, h, s⟩ := h.ok; ⟨fun _ => t, fun _ _ => h, fun D0 Ed σ S Dv E sv H re rs q k _ => s D0 σ S Dv sv H re rs q k⟩
theorem ssx_of {fd : DS} (h : CSs X body fd) : CSsX X body (xS fd) := let ⟨t, h, s⟩ := h.ok; ⟨fun _ => t, fun _ _ => h, fun D0 Ed σ S Dv E sv H re rs q k _ => s D0 σ S Dv sv H re rs q k⟩
def xSeq (f g : DSX) : DSX := fun D0 Ed σ S => f { D0 with nx := g D0 Ed } Ed σ S
theorem ssx_nil : CSsX X [] (xS sNext) := ssx_of ss_nil
theorem ssx_cons (h1 : CSX X st f) (h2 : CSsX X rest g) : CSsX X (st :: rest) (xSeq f g) := by
  obtain ⟨t, h1, s1⟩ := h1
  obtain ⟨u, h2, s2⟩ := h2
  refine ⟨fun E => tSeq (t E) (u E), fun E tk => pss_cons (h1 E tk) (h2 E tk), fun D0 Ed σ S Dv E sv H re rs q k kx => s1 { D0 with nx := g D0 Ed } Ed σ S { Dv with nx := u E Dv } E sv H re rs q ⟨?_, k.rt, k.bk, k.ct⟩ kx⟩
  exact fun sv' σ' S' H' st' r' e' q' => s2 D0 Ed σ' S' Dv E sv' H' e' r' q' (k.stp st') (kx.stp st')
theorem ssx_one (h1 : CSX X st f) : CSsX X [st] f := let ⟨t, h, s⟩ := h1.ok; ⟨t, fun E tk => pss_one (h E tk), s⟩
def xExpr (fa : DEX) : DSX := fun D0 Ed σ S => fa Ed σ S fun _ S1 => D0.nx σ S1
def xRet (fa : DEX) : DSX := fun D0 Ed σ S => fa Ed σ S D0.rt
def xSet (i : Nat) (fa : DEX) : DSX := fun D0 Ed σ S => fa Ed σ S fun d S1 => D0.nx (setS i d σ) S1
theorem sx_set {i : Nat} {x : Str} {pos' : Pos} (hN : X.N.Nodup) (hi : X.N[i]? = some x) (hx : Loc X.env.scope x) (ha : CEX X a fa) (hs : swapsWith a (some (.Name x pos')) pos.line X.env = pure false := by rfl) (hf : X.fn x = true ∨ X.env.scope.names.lookup x = some .local := by first | exact .inl rfl | exact .inr rfl | assumption) :
    CSX X (.Assign [.Name x pos'] a pos) (xSet i fa) := by
  obtain ⟨t, h, s⟩ := ha
  exact ⟨_, fun E tk => ps_set hN hi hx (h E tk) hs hf, fun D0 Ed σ S Dv E sv H re rs q k kx => s Ed E σ S _ sv H _ re rs q (fun v d S1 H1 s1 r1 v1 q1 => k.nx _ _ _ _ s1 r1 ((re.mono s1.tx).set v1) q1) kx⟩
def xIf (ft : DT) (f g : DSX) : DSX := fun D0 Ed σ S => ft σ S fun k S1 => if k = true then f D0 Ed σ S1 else g D0 Ed σ S1
theorem sx_if (hc : CT X c ft) (ha : CSsX X body f) (hb : CSsX X orelse g) : CSX X (.If c body orelse pos) (xIf ft f g) := by
  obtain ⟨tc, hc, sc⟩ := hc
  obtain ⟨ta, ha, sa⟩ := ha
  obtain ⟨tb, hb, sb⟩ := hb
  refine ⟨_, fun E tk => ps_if hc (ha E tk) (hb E tk), fun D0 Ed σ S Dv E sv H re rs q k kx => sc σ S _ sv H _ re rs q fun kk S1 H1 s1 r1 q1 => ?_⟩
  cases kk with
  | true => exact sa D0 Ed σ S1 Dv E sv H1 (re.mono s1.tx) r1 q1 (k.stp s1) (kx.stp s1)
  | false => exact sb D0 Ed σ S1 Dv E sv H1 (re.mono s1.tx) r1 q1 (k.stp s1) (kx.stp s1)
def xFor (fi : DI) (g : DG) (b : DSX) : DSX := fun D0 Ed σ S => sFor fi g (fun D1 σ S => b D1 Ed σ S) D0 σ S
/-! ### raise -/
/-- an own exception class over ValueError, without __init__ -/
structure ExT (K : PySem.W.Frag) (mg : Str → Option Value) (c : Str) : Prop where
  ex : ∃ C : Addr, mg c = some (.ref C) ∧ PySem.W.excIn K C [.type "ValueError", .type "Exception", .type "BaseException", .type "object"] "ValueError.__new__" = true ∧ PySem.W.keepIn K (.ref C) = true ∧ PySem.W.subIn K (.ref C) (.type "BaseException") = some true ∧ PySem.W.typeIn K (.ref C) = some (.type "type")
def xRaise (c : Str) : DSX := fun _ Ed _ S => Ed c S
theorem sx_raise {x m : Str} {j : Nat} {p p2 pos' : Pos} (hc : X.calm = true) (T : ExT X.K X.mg x) (hg : Gl X x := by rfl) (hdb : (x == ("__debug__" : Str)) = false := by decide) :
    CSX X (.Raise (some (.Call (.Name x p) [.Constant (.str m) j p2] [] pos)) none pos') (xRaise x) := by
  obtain ⟨C, gC, xC, kC, bC, tC⟩ := T
  exact ⟨fun E => _, fun E tk => ps_raise hc tk (pmk_own PySem.F.excBase_ValueError xC gC kC (raises_own bC tC) hg hdb), fun D0 Ed σ S Dv E sv H re rs q k kx => kx x (.ref C) S H .refl rs gC q⟩
end
end DL
/-! a def that may raise, whole; try: x = f(..) / except C: .. -/
namespace DL
open PySem PySem.Spec PyProof.Rows L2
theorem okfX_of {P : Program} {w : World} {K : PySem.W.Frag} {mg : Str → Option Value} {base : Heap} {x : Str} {st : Stmt} {N ps : List Str} {k : Nat} {b : DSX} {m : MFX} (T : FT K mg x st ps) (Sc : FnScope N ps (defScope st)) (hm : ∀ ds S Q Ed, m ds S Q Ed = b (endsD Q) Ed (startD N.length ds) S)
    (h : ∀ (f : Addr) (cdv : Value) (A : Around) (outer : List PySem.Env) (s : Shared) (H : Hp) (E : XK), RoomG k (A.deeper (envOfC x (defScope st) s.heap.objs.size f cdv)) → CSsX (cxOf (L2.CX P w) P w K mg base N x (defScope st) f cdv A outer s H E) (defBody st) b) :
    OkfX P w K mg base (k + 1) x ps.length m := by
  obtain ⟨f, fd, F, B, g⟩ := T
  have hF : FnG P w K mg base (L2.CX P w) (k + 1) f fd ps (spX K mg ps.length m) := by
    obtain ⟨oc, od, kV, doc, pm, an, cdv, ct, osl, e, lk, hcd⟩ := F.ex
    subst e
    refine fn_ofG lk hcd Sc (fun vs H Q E h => h.1) fun A outer s H vs Q E hr hsp => ?_
    obtain ⟨t, p, sn⟩ := h f cdv A outer s H E hr
    refine ⟨t E, p E (takes_of rfl rfl rfl rfl), ?_⟩
    obtain ⟨hl, ds, S, Qd, Ed, r, sr, q, kk, kx⟩ := hsp
    rw [hm] at q
    refine sn (endsD Qd) Ed _ S _ E _ H (erep_start r) sr q ⟨fun sv σ S' H' s' r' e' q' => ?_, kk, fun _ _ _ _ _ _ _ z => z.elim, fun _ _ _ _ _ _ _ z => z.elim⟩ kx
    exact kk .non .non S' H' s' r' .non q'
  exact ⟨f, fd, ps, rfl, hF, g, F.kp, B⟩
section
variable {X : Cx} {k : Nat} {f : Addr} {fd : FuncData} {ps : List Str} {sp : Sp} {E : L2.St → XK} {x : Str} {p pos : Pos} {e a : Expr} {es : List Expr} {t : TA} {CX : CXT}
theorem run_fnGS {pins : List (Addr × Obj)} {σ : L2.St} {H : Hp} {s : Shared} {Q : VK} {us : List Value} {vs : List V} (F : FnG X.prog X.w X.K X.mg X.base CX k f fd ps sp) (hr : RoomG k X.A) (hb : Binds X.K fd ps []) (hx : PassesAt CX X σ (E σ))
    (I : L2.Inv X pins σ H s) (r : Vals vs us) (h : sp vs H Q (E σ)) : wpAny (model X.prog X.w) X.A (call (.ref f) us) (EP X pins σ Q) X.xe s := by
  have hl : us.length = ps.length := by rw [← r.length]; exact F.len _ _ _ _ h
  have b := hb s us I.kIn (by rw [List.append_nil]; exact hl)
  rw [List.append_nil] at b
  refine wpAny_call (codeAny_mono (F.run X.A X.stack s H ⟨us, []⟩ us vs Q (E σ) hr I.env0 b r h) fun r s' hq => ?_)
  match r, hq with
  | .error e, hq => exact hx pins H s e s' I hq
  | .ok (.ret u), hq => exact I.after hq
  | .ok .next, hq => exact hq.elim
  | .ok .brk, hq => exact hq.elim
  | .ok .cont, hq => exact hq.elim
theorem pe_callGS (F : FnG X.prog X.w X.K X.mg X.base CX k f fd ps sp) (hr : RoomG k X.A) (hg : Gl X x) (hm : X.mg x = some (.ref f)) (hk : PySem.W.keepIn X.K (.ref f) = true) (hb : Binds X.K fd ps []) (hx : ∀ σ, PassesAt CX X σ (E σ))
    (ha : PA X (e :: es) t) (hdb : (x == ("__debug__" : Str)) = false) (he : starEach (e :: es) X.env = (false, eval e X.env) :: starEach es X.env) (hpl : (backTo pos (starEach es X.env)).any (·.1) = false) :
    PE X (.Call (.Name x p) (e :: es) [] pos) (tCallS sp E t) := by
  refine ⟨fun pins s σ H Q I h => ?_⟩
  refine wpAny_Call_Name_kw (ld_glob I hg hm ?_ hdb)
  refine PySem.W.callWith_K (h₀ := X.base) I.ok.mod.kin hk (thn (ha.run pos pins s σ H _ I h) fun us s1 ⟨vs, H1, I1, r, q⟩ => ⟨I1.kIn, ?_⟩) he hpl
  exact run_fnGS F hr hb (hx σ) I1 r q
/-! ### arguments that are names -/
structure CAU (X : Cx) (es : List Expr) (f : DA) : Prop where
  ok : ∃ t : TA, (∀ (pn : List (Addr × Obj)) (xe : Value → Shared → Prop), PA (X.tr pn xe) es t) ∧ SndA X.K t f
theorem au_nil : CAU X [] aNil := ⟨_, fun _ _ => pa_nil, fun σ S Q sv H Kt re rs q k => k _ _ _ _ .refl rs .nil q⟩
theorem snd_var {K : PySem.W.Frag} {i : Nat} : Snd K (tVar i) (eVar i) := fun σ S Q sv H Kt he hs h k => by
  unfold eVar at h
  cases q : getS i σ with
  | none => rw [q] at h; exact h.elim
  | some d =>
    rw [q] at h
    obtain ⟨v, e1, r⟩ := he.at_ i d q
    exact ⟨v, e1, k.now hs r h⟩
theorem au_var {fs : DA} (i : Nat) {x : Str} (h : CAU X es fs) (hN : X.N[i]? = some x := by rfl) (hv : Vis X.env.scope x := by first | exact Or.inl rfl | exact Or.inr (Or.inl rfl) | exact Or.inr (Or.inr rfl)) (hd : (x == ("__debug__" : Str)) = false := by decide)
    (hcd : (x == ("__classdict__" : Str)) = false := by decide) (hs : starEach (.Name x pos :: es) X.env = (false, eval (.Name x pos) X.env) :: starEach es X.env := by rfl) : CAU X (.Name x pos :: es) (aCons (eVar i) fs) := by
  obtain ⟨tr, hr, sr⟩ := h
  refine ⟨tCons (tVar i) tr, fun pn xe => pa_cons (X := X.tr pn xe) (pe_var (X := X.tr pn xe) (i := i) hN hv hd hcd) (hr pn xe) hs, fun σ S Q sv H Kt re rs q k => snd_var σ S _ sv H _ re rs q fun v d S1 H1 s1 r1 v1 q1 => ?_⟩
  exact sr σ S1 _ sv H1 _ (re.mono s1.tx) r1 q1 fun vs ds S2 H2 s2 r2 vs2 q2 => k _ _ S2 H2 (s1.trans s2) r2 (.cons (v1.mono s2.tx) vs2) q2
/-- an except suite: it runs alike whatever exception is held -/
structure CSu (X : Cx) (suite : List Stmt) (f : DS) : Prop where
  ok : ∃ t : TS, (∀ (a : Addr) (oe : Obj) (pn : List (Addr × Obj)), PSs (X.suite a ((a, oe) :: pn)) suite t) ∧ SndS X.K t f
theorem su_retN {j : Nat} {p pos : Pos} : CSu X [.Return (some (.Constant .none j p)) pos] (sRet (eC .non)) :=
  ⟨tRet (tC .non), fun a oe pn => pss_one (ps_ret pe_non), fun D0 σ S Dv sv H re rs q k => snd_c (fun _ => .non) σ S _ sv H _ re rs q k.rt⟩
/-- try: x = f(..) / except C: suite; L: the classes that C takes -/
def sTry (i n : Nat) (m : MFX) (fs : DA) (L : List Str) (g : DS) : DS := fun D0 σ S => fs σ S fun ds S1 => ds.length = n ∧ m ds S1 (fun d S2 => D0.nx (setS i d σ) S2) fun c S2 => c ∈ L ∧ g D0 σ S2
theorem s_trySet {i j kk n : Nat} {m : MFX} {y fx c0 : Str} {C : Value} {L : List Str} {fs : DA} {g : DS} {b₀ : Stmt} {suite : List Stmt} {p1 pp np pos2 pos3 pos4 : Pos} (hs : X.stack = X.env :: X.outer) (hf : X.env.frame = some X.env.locals) (hN : X.N.Nodup) (hi : X.N[i]? = some y) (hx : Loc X.env.scope y) (hf2 : X.fn y = true ∨ X.env.scope.names.lookup y = some .local)
    (hr : RoomG j X.A) (F : OkfX X.prog X.w X.K X.mg X.base kk fx n m) (hk : kk ≤ j) (ha : CAU X (a :: es) fs) (hc0 : Names X c0 C) (hL : ∀ c ∈ L, ∃ cls, X.mg c = some cls ∧ PySem.W.exmOne X.K cls C = some true) (hsu : CSu X (b₀ :: suite) g)
    (hg : Gl X fx := by rfl) (hdb : (fx == ("__debug__" : Str)) = false := by decide) (he : starEach (a :: es) X.env = (false, eval a X.env) :: starEach es X.env := by rfl) (hpl : (backTo pos (starEach es X.env)).any (·.1) = false := by rfl)
    (hsw : swapsWith (.Call (.Name fx pp) (a :: es) [] pos) (some (.Name y p1)) pos2.line X.env = pure false := by rfl) :
    CS X (.Try [.Assign [.Name y p1] (.Call (.Name fx pp) (a :: es) [] pos) pos2] [.ExceptHandler (some (.Name c0 np)) none (b₀ :: suite) pos3] [] [] pos4) (sTry i n m fs L g) := by
  obtain ⟨f, fd, ps, hl, F, hm, hk2, hb⟩ := F
  obtain ⟨ta, ha, sa⟩ := ha
  obtain ⟨tg, hgs, sg⟩ := hsu
  refine ⟨_, ps_try_only hs hf hc0 takes0 (tb := fun W => tAsg (tCallS (spX X.K X.mg n m) (WE W) ta) (gName i)) (ts := fun _ _ _ => tg) (fun W pn xe tk _ => pss_one (ps_set (X := X.tr pn xe) hN hi hx (pe_callGS (X := X.tr pn xe) F (hr.mono' hk) hg hm hk2 hb (fun σ => passAt tk σ) (ha pn xe) hdb he hpl) hsw hf2)) (fun a oe cls d pn _ _ => hgs a oe pn),
    fun D0 σ S Dv sv H re rs q k => ?_⟩
  refine sa σ S _ sv H _ re rs q fun vs ds S1 H1 s1 r1 v1 q1 => ?_
  refine ⟨by rw [v1.length]; exact q1.1, ds, S1, _, _, v1, r1, q1.2, fun v d S2 H2 s2 r2 v2 q2 => ?_, fun c cls S2 H2 s2 r2 e2 q2 => ?_⟩
  · exact k.nx _ _ _ _ (s1.trans s2) r2 ((re.mono (s1.trans s2).tx).set v2) q2
  · obtain ⟨hc, q2⟩ := q2
    obtain ⟨cls', g1, g2⟩ := hL c hc
    rw [e2] at g1
    cases g1
    exact ⟨true, g2, fun _ a ha => sg D0 σ S2 Dv sv H2 (re.mono (s1.trans s2).tx) r2 q2 (k.stp (s1.trans s2)), fun z => nomatch z⟩
end
end DL
/-! try: .. / except C as e: y = e: the caught exception is kept; its class is asked for behind it -/
namespace L2
open PySem PySem.Spec PyProof.Rows DL
section
variable {X : Cx} {pins : List (Addr × Obj)} {σ : St} {H : Hp} {s : Shared}
theorem exC_ok {P : Program} {w : World} {h : Heap} {a C : Addr} {oe : Obj} {vs : Array Value} (e : h.get? a = some oe) (z : Zc (.ref C) none oe) (d : oe.data = .fields vs) : ObjOk P w H h a (ExC a C) :=
  ⟨⟨oe, vs, e, z, d⟩, ⟨oe, e⟩, fun _ _ ⟨o, v, q, r⟩ k => ⟨o, v, k o q, r⟩⟩
/-- a pinned exception of ours is tracked -/
theorem Inv.adopt {a C : Addr} {oe : Obj} {vs : Array Value} (I : Inv X ((a, oe) :: pins) σ H s) (hz : Zc (.ref C) none oe) (hd : oe.data = .fields vs) (n0 : X.s_0.heap.get? a = none) (np : ∀ p ∈ X.pn ++ pins, p.1 ≠ a) : Inv X pins σ (upd H a (ExC a C)) s := by
  obtain ⟨ha, hna, hnL, hnF, hnc⟩ := I.pin (a, oe) (List.mem_append_right _ List.mem_cons_self)
  refine ⟨I.ok, I.os, I.bare, ⟨I.base.keep, I.base.slot, fun b o q n hx => ?_, I.base.there, fun b xs q => ?_, fun b o u q => ?_, fun b ps q => ?_⟩, I.loc, I.cell, ?_, fun x c e => ?_, fun p hp => ?_, I.hok.laidN (fun _ _ z => z) hna (exC_ok ha hz hd), I.len⟩
  · rw [upd_ne (fun e => by rw [e, n0] at q; cases q)]
    exact I.base.free b o q n hx
  · have := I.base.tups b xs q
    rw [upd_ne (ne_of_none this hna)]
    exact this
  · have := I.base.frzs b o u q
    rw [upd_ne (ne_of_none this hna)]
    exact this
  · obtain ⟨m, z⟩ := I.base.tbls b ps q
    exact ⟨m, by rw [upd_ne (ne_of_none z hna)]; exact z⟩
  · rw [upd_ne (Ne.symm hnL)]
    exact I.free
  · rw [upd_ne (fun e2 => ?_)]
    · exact I.freeC x c e
    · obtain ⟨v, o, ho, hd2⟩ := I.cell x c e
      rw [e2] at ho
      have ha' : s.heap.get? a = some oe := ha
      rw [ha'] at ho
      cases ho
      exact hnc _ hd2
  · obtain ⟨e, n, ne, nf, d⟩ := I.pin p (by
      rcases List.mem_append.mp hp with h | h
      · exact List.mem_append_left _ h
      · exact List.mem_append_right _ (List.mem_cons_of_mem _ h))
    exact ⟨e, by rw [upd_ne (np p hp)]; exact n, ne, nf, d⟩
/-- what the clause 'except x as n: y = n' wishes of an exception of the body: slot i is n's, slot j y's -/
def wKeep (K : PySem.W.Frag) (c : Value) (i j : Nat) (Wout : WX) (D : Ends) : WX := fun cls d σ H =>
  ∃ b, PySem.W.exmOne K cls c = some b ∧ (b = true → ∃ C : Addr, cls = .ref C ∧ d = none ∧ ∀ a, H a = none → D.nx ((σ.set j (some (.ref a))).set i none) (upd H a (ExC a C))) ∧ (b = false → Wout cls d σ H)
end
section
variable {X : Cx} {x n y : Str} {c : Value} {i j : Nat} {body : List Stmt} {np pos pos' p1 p2 p3 : Pos} {tb : WX → TS} {Wout : WX}
theorem ps_try_keep (hs : X.stack = X.env :: X.outer) (hf : X.env.frame = some X.env.locals) (hex : X.ex = []) (hN : X.N.Nodup) (hi : X.N[i]? = some n) (hln : X.env.kindOf n = some .local) (hvn : Vis X.env.scope n) (hdn : (n == ("__debug__" : Str)) = false) (hcn : (n == ("__classdict__" : Str)) = false)
    (hj : X.N[j]? = some y) (hly : X.env.scope.names.lookup y = some .local) (hij : i ≠ j) (hc : Names X x c) (tk : Takes X Wout)
    (hsw : swapsWith (.Name n p2) (some (.Name y p1)) p3.line X.env = pure false)
    (hb : ∀ (W : WX) (pn : List (Addr × Obj)) (xe : Value → Shared → Prop), Takes (X.tr pn xe) W → PassesOwn (model X.prog X.w) X.A X.env xe → PSs (X.tr pn xe) body (tb W)) :
    PS X (.Try body [.ExceptHandler (some (.Name x np)) (some n) [.Assign [.Name y p1] (.Name n p2) p3] pos'] [] [] pos) (fun D σ H => tb (wKeep X.K c i j Wout D) D σ H) := by
  refine ⟨fun pins s σ H D I h => ?_⟩
  have ok := I.ok
  have hfr : X.A.frames = some (X.env :: X.outer) := by rw [ok.frames, hs]
  have hloc : Loc X.env.scope n := .inl hln
  refine wpAny_Try_except ?_
  refine wpAny_mono ((hb (wKeep X.K c i j Wout D) (X.pn ++ pins) (fun e s₁ => wpAny (model X.prog X.w) X.A (noteFrame e X.env) (fun _ s₂ => wpAny (model X.prog X.w) X.A (setFlight e none) (fun _ s₃ =>
    wpAny (model X.prog X.w) X.A (handleBy e X.env [.ExceptHandler (some (.Name x np)) (some n) [.Assign [.Name y p1] (.Name n p2) p3] pos']) (SP X pins D) X.xe s₃) X.xe s₂) X.xe s₁) (fun u s' xx => ?_) PassesOwn.looking).run [] s σ H D (I.toTry _) h) (fun f s1 hsp => ?_) (fun e s1 he => he)
  · -- the catch
    obtain ⟨a, B, sI, pins', σ', H', cls, d, rfl, J', nb, up, sky, na, os, ag, b, hb1, hyes, hno⟩ := xx
    have J : Inv X pins σ' H' sI := J'.ofTry ok
    have sky' : Sky B (X.env :: X.outer) a (Zc cls d) X.env.locals s'.heap := by rw [← hs]; exact sky
    show wpAny (model X.prog X.w) X.A (noteFrame (.ref a) X.env) _ _ _
    refine Sky.land Zc.steady hfr hf sky' fun h3 fl3 up3 => ?_
    have J3 : Inv X pins σ' H' { s' with heap := h3 } := J.landed nb fl3.1 (up.trans up3) os ag
    obtain ⟨oe3, vs3, he3, hz3, hd3⟩ := fl3.there
    have notFr : ∀ {h : Heap} {o : Obj} {vs : Array Value}, h.FunFrames B (X.env :: X.outer) → h.get? a = some o → o.data = .fields vs → a ∉ frs (X.env :: X.outer) := fun {h o vs} ff e dd hm => by
      obtain ⟨_, o', e', hnf⟩ := ff.mem hm
      rw [e] at e'; cases e'
      exact hnf _ dd
    have nfr := notFr fl3.2.2.1 he3 hd3
    have nL : a ≠ X.env.locals := fun z => nfr (List.mem_filterMap.mpr ⟨X.env, List.mem_cons_self, by rw [hf, z]⟩)
    have nF : a ∉ X.fs := fun hm => by
      obtain ⟨e, he, q⟩ := List.mem_filterMap.mp hm
      exact nfr (List.mem_filterMap.mpr ⟨e, List.mem_cons_of_mem _ he, q⟩)
    have nB : B.get? a = none := fl3.2.1
    have nfrX : a ∉ frs X.stack := by rw [hs]; exact nfr
    have n0 : X.s_0.heap.get? a = none := by
      cases q : X.s_0.heap.get? a with
      | none => rfl
      | some o =>
        obtain ⟨o', q'⟩ := J.base.there a o q (by rw [hex]; exact fun z => nomatch z)
        have := nb a o' q' nfrX
        rw [nB] at this
        cases this
    have np' : ∀ p ∈ X.pn ++ pins, p.1 ≠ a := fun p hp e => by
      obtain ⟨e1, _, e3, e4, _⟩ := J.pin p hp
      have hns : p.1 ∉ frs X.stack := fun hm => by
        rcases List.mem_cons.mp (J.stkSub _ hm) with z | z
        · exact e3 z
        · exact e4 z
      have := nb p.1 p.2 e1 hns
      rw [e, nB] at this
      cases this
    have S3 := J3.suite he3 hd3 na nL nF
    refine wpAny_handleBy_cons (codeAny_handlers_test ?_) (by intro q; cases q)
    have LT : PySem.W.Looks (model X.prog X.w) h3 (typeOf (.ref a)) cls := fun A Q E s k q => wpAny_typeOf_ref (k _ _ he3) (by rw [hz3.1]; exact q)
    have LM := PySem.W.exm_one (M := model X.prog X.w) (J3.kIn) LT hb1
    have test : ∀ {Q : Value → Shared → Prop} {E : Value → Shared → Prop}, Q c { s' with heap := h3 } → wpAny (model X.prog X.w) (X.A.mark (some (.ref a))) (eval (.Name x np) X.env) Q E { s' with heap := h3 } := fun {Q E} q => by
      obtain ⟨hg, hdbg, hm | ⟨hm, hv, hnn⟩⟩ := hc
      · exact ld_glob (X := X.suite a ((a, oe3) :: (X.pn ++ pins))) S3 hg hm q hdbg
      · exact ld_blt (X := X.suite a ((a, oe3) :: (X.pn ++ pins))) S3 hg hm hv q hnn hdbg
    refine test (LM.here ?_)
    cases b with
    | true =>
      obtain ⟨C, rfl, rfl, hnx⟩ := hyes rfl
      refine codeAny_handlers_suite_as ?_
      refine HandSPX.lands_againZ fl3 fun h4 fl4 up4 => ?_
      have J4 : Inv X pins σ' H' { s' with heap := h4 } := J.landed nb fl4.1 ((up.trans up3).trans up4) os ag
      obtain ⟨oe4, vs4, he4, hz4, hd4⟩ := fl4.there
      have S4 := J4.suite he4 hd4 na nL nF
      refine store_ok (X := X.suite a ((a, oe4) :: (X.pn ++ pins))) (v := .ref a) S4 hN hi hloc rfl (fun s5 S5 => ?_) (.inr hln)
      have hsu : PSs (X.suite a ((a, oe4) :: (X.pn ++ pins))) [.Assign [.Name y p1] (.Name n p2) p3] (tAsg (tVar i) (gName j)) :=
        pss_one (ps_set (X := X.suite a ((a, oe4) :: (X.pn ++ pins))) hN hj (.inl hly) (pe_var (X := X.suite a ((a, oe4) :: (X.pn ++ pins))) (i := i) hi hvn hdn hcn) hsw (.inr hly))
      have hlen : i < σ'.length := by
        rw [J.len]
        exact (List.getElem?_eq_some_iff.mp hi).1
      have hget : (σ'.set i (some (.ref a)))[i]? = some (some (V.ref a)) := List.getElem?_set_self hlen
      refine wpAny_mono (hsu.run [] s5 _ H' { nx := fun σ6 H6 => σ6 = (σ'.set i (some (.ref a))).set j (some (.ref a)) ∧ H6 = H', rt := fun _ _ => False } S5 ⟨_, hget, rfl, rfl⟩) (fun f s6 hsp => ?_) (fun _ _ z => False.elim z)
      cases f with
      | next =>
        obtain ⟨σ6, H6, S6, e61, e62⟩ := hsp
        rw [e61, e62] at S6
        have J6 : Inv X ((a, oe4) :: pins) ((σ'.set i (some (.ref a))).set j (some (.ref a))) H' s6 :=
          ⟨ok, S6.os, S6.bare, S6.base, S6.loc, S6.cell, S6.free, S6.freeC, fun p hp => S6.pin p (List.mem_append_left _ (by
            rcases List.mem_append.mp hp with z | z
            · exact List.mem_cons_of_mem _ (List.mem_append_left _ z)
            · rcases List.mem_cons.mp z with z | z
              · rw [z]; exact List.mem_cons_self
              · exact List.mem_cons_of_mem _ (List.mem_append_right _ z))), S6.hok, S6.len⟩
        show wpAny (model X.prog X.w) X.A (do bindName X.env n .none; unbindBehindTheSuite X.env n pos') _ X.xe s6
        refine gone_ok J6 hN hi hln fun s7 J7 => ?_
        have e7 : ((σ'.set i (some (V.ref a))).set j (some (.ref a))).set i none = (σ'.set j (some (.ref a))).set i none := by
          rw [List.set_comm _ _ hij, List.set_set]
        rw [e7] at J7
        exact ⟨_, _, J7.adopt hz4 hd4 n0 np', hnx a na⟩
      | brk =>
        obtain ⟨_, _, _, z⟩ := hsp
        exact z.elim
      | cont =>
        obtain ⟨_, _, _, z⟩ := hsp
        exact z.elim
      | ret u =>
        obtain ⟨_, _, _, _, _, z⟩ := hsp
        exact z.elim
    | false =>
      show wpAny _ X.A (handleBy (.ref a) X.env []) _ _ _
      refine wpAny_handleBy_nil ?_
      obtain ⟨k1, k2, k3, oe, vs, T, oT, ts', he, hz, hd, h1, hr⟩ := id fl3
      unfold PySem.passOn
      refine wpAny_bind (wpAny_field he hd h1 ?_)
      rw [if_neg (show ¬ ((Value.ref T == Value.none) = true) from by simp)]
      have fin : wpAny (model X.prog X.w) X.A (setFlight (.ref a) X.env.frame) (fun _ s4 => wpAny (model X.prog X.w) X.A (throw (.ref a) : Sem Flow) (SP X pins D) X.xe s4) X.xe { s' with heap := h3 } := by
        rw [hf]
        refine HandSPX.setFlight_upZ fl3 fun h4 hh4 up4 => wpAny_throw (tk _ _ ?_)
        exact ⟨a, B, sI, pins, σ', H', cls, d, rfl, J, nb, (up.trans up3).trans up4, .inr (.inr (by rw [hs]; exact hh4)), na, os, ag, hno rfl⟩
      first
        | exact wpAny_bind (wpAny_pure (wpAny_bind fin))
        | exact wpAny_bind fin
  · cases f with
    | next =>
      obtain ⟨σ', H', J', q⟩ := hsp
      exact wpAny_execs_nil ⟨σ', H', J'.ofTry ok, q⟩
    | brk =>
      obtain ⟨σ', H', J', q⟩ := hsp
      exact ⟨σ', H', J'.ofTry ok, q⟩
    | cont =>
      obtain ⟨σ', H', J', q⟩ := hsp
      exact ⟨σ', H', J'.ofTry ok, q⟩
    | ret u =>
      obtain ⟨v, σ', H', J', r, q⟩ := hsp
      exact ⟨v, σ', H', J'.ofTry ok, r, q⟩
end
end L2
/-! caught exceptions: their class asked for; own classes by name; try: f(..) / except C as e: y = e -/
namespace DL
open PySem PySem.Spec PyProof.Rows L2
/-- what isinstance tells of an exception of the class called c, of the classes in l -/
structure XIs (K : PySem.W.Frag) (c : Str) (l : List (Str × Bool)) : Prop where
  ex : ∃ C : Addr, PySem.W.nsIn K mainGlobals c = some (some (.ref C)) ∧ ExcC K C ∧ PySem.W.kitOne K (.ref C) (.type "ValueError") = some true ∧ ∀ q ∈ l, ∃ C' : Addr, PySem.W.nsIn K mainGlobals q.1 = some (some (.ref C')) ∧ PySem.W.kitOne K (.ref C) (.ref C') = some q.2
abbrev XTab := List (Str × List (Str × Bool))
def XTok (K : PySem.W.Frag) (T : XTab) : Prop := ∀ q ∈ T, XIs K q.1 q.2
def lookX {α : Type} : List (Str × α) → Str → Option α
  | [], _ => none
  | (a, b) :: r, x => if a = x then some b else lookX r x
theorem lookX_mem {α : Type} : ∀ {l : List (Str × α)} {x : Str} {b : α}, lookX l x = some b → (x, b) ∈ l
  | [], _, _, h => by cases h
  | (a, b) :: r, x, c, h => by
    unfold lookX at h
    by_cases e : a = x
    · rw [if_pos e] at h
      cases h
      rw [e]
      exact List.mem_cons_self
    · rw [if_neg e] at h
      exact List.mem_cons_of_mem _ (lookX_mem h)
def anyX (l : List (Str × Bool)) : List D → Option Bool
  | [] => some false
  | .cls c :: r => match lookX l c, anyX l r with
    | some b, some b' => some (b || b')
    | _, _ => none
  | _ => none
def gIsX (T : XTab) : GN := fun xs S Q => match xs with
  | [.exc c, .cls c'] => ∃ l b, lookX T c = some l ∧ lookX l c' = some b ∧ Q (.bl b) S
  | [.exc c, .tup ds] => ∃ l b, lookX T c = some l ∧ anyX l ds = some b ∧ Q (.bl b) S
  | [.exc c, .ty n] => (lookX T c).isSome ∧ n = "ValueError" ∧ Q (.bl true) S
  | _ => False
def rIsX (K : PySem.W.Frag) : List V → Hp → VK → Prop := fun xs H Q => ∃ (a C : Addr) (c : V) (b : Bool), xs = [.ref a, c] ∧ H a = some (ExC a C) ∧ ExcC K C ∧
  ((∃ cv, ClsV c cv ∧ PySem.W.kitOne K (.ref C) cv = some b) ∨ ∃ (tp : Addr) (cs : List V) (us : List Value), c = .ref tp ∧ SqT K H tp cs ∧ Paired ClsV cs us ∧ PySem.W.kitAny K (.ref C) us = some b) ∧ Q (.bl b) H
section
variable {X : Cx}
theorem call_isX : CallR X (.builtin "isinstance") (rIsX X.K) := by
  intro pins s σ H xs us Q I r h
  obtain ⟨a, C, c, b, rfl, ha, EC, how, q⟩ := h
  obtain ⟨u1, u2, rfl, r1, r2⟩ := vals2 r
  cases (show u1 = Value.ref a from r1)
  obtain ⟨⟨oe, vs, e, hz, hd⟩, _⟩ := (show ObjOk X.prog X.w H s.heap a (ExC a C) from I.hok a _ ha)
  have J : PySem.W.InstAt s.heap a oe C none := by
    obtain ⟨oc, od, oda, osl⟩ := oe
    obtain ⟨h1, h2⟩ := hz
    dsimp only at h1 h2 hd
    subst h1 h2 hd
    exact ⟨e, rfl, rfl, trivial⟩
  have Z := PySem.W.handS_kitx_exc (x := a) (ox := oe) EC.hg EC.hk EC.hs EC.hd EC.ha EC.hn EC.ht EC.hm
  rcases how with ⟨cv, k, e2⟩ | ⟨tp, cs, ws, rfl, hT, k, e2⟩
  · have e3 := k.eq r2
    subst e3
    exact PySem.W.kia_one Z I.kIn J e2 (fun z => nomatch z) fun tk => ⟨.bl b, H, I.tok tk, rfl, q⟩
  · cases (show u2 = Value.ref tp from r2)
    obtain ⟨its, rv, ⟨o, h1, h2, n, h3⟩, _⟩ := I.tuple hT
    have e3 := ClsV.all k rv
    subst e3
    obtain ⟨oc, od, dt, sl⟩ := o
    simp only at h2 h3
    subst h2 h3
    exact PySem.W.kia_tup Z I.kIn J h1 e2 (fun z => nomatch z) fun tk => ⟨.bl b, H, I.tok tk, rfl, q⟩
theorem anyX_ok {K : PySem.W.Frag} {H : Hp} {C : Addr} {l : List (Str × Bool)} (hl : ∀ q ∈ l, ∃ C' : Addr, PySem.W.nsIn K mainGlobals q.1 = some (some (.ref C')) ∧ PySem.W.kitOne K (.ref C) (.ref C') = some q.2) :
    ∀ {ds : List D} {vs : List V} {b : Bool}, Reps K H vs ds → anyX l ds = some b → ∃ us, Paired ClsV vs us ∧ (PySem.W.kitAny K (.ref C) us = some b)
  | [], _, b, .nil, h => by
    cases h
    exact ⟨[], .nil, kitAny_nil⟩
  | d :: ds, _, b, .cons (v := v) (vs := vs) hr rr, h => by
    cases d with
    | cls c =>
      unfold anyX at h
      cases hr with
      | @cls C1 c n =>
        cases q : lookX l c with
        | none => rw [q] at h; cases h
        | some b1 =>
          obtain ⟨C', n', k⟩ := hl _ (lookX_mem q)
          rw [n] at n'
          cases n'
          cases q2 : anyX l ds with
          | none => rw [q, q2] at h; cases h
          | some b2 =>
            rw [q, q2] at h
            cases h
            obtain ⟨us, p, k2⟩ := anyX_ok hl rr q2
            exact ⟨_, .cons (.own C1) p, kitAny_cons (b := b1) k (fun e => by rw [e, k2]; rfl) fun e => by rw [e]; rfl⟩
    | _ => cases h
theorem b_isX {T : XTab} (hT : XTok X.K T) : CB X "isinstance" (gIsX T) := by
  refine ⟨_, call_isX, fun xs as S H Q Kt s r q k => ?_⟩
  match as, q with
  | [.exc c, .cls c'], q =>
    obtain ⟨v, v2, rfl, rv, rv2⟩ := reps2 r
    obtain ⟨l, b, h1, h2, q⟩ := q
    obtain ⟨C, n1, EC, _, hl⟩ := hT _ (lookX_mem h1)
    cases rv with
    | @exc a C0 c n h =>
      have n1 : PySem.W.nsIn X.K mainGlobals c = some (some (.ref C)) := n1
      rw [n] at n1
      cases n1
      cases rv2 with
      | @cls C1 c' n2 =>
        obtain ⟨C', n', kk⟩ := hl _ (lookX_mem h2)
        have n' : PySem.W.nsIn X.K mainGlobals c' = some (some (.ref C')) := n'
        rw [n2] at n'
        cases n'
        exact ⟨a, _, _, b, rfl, h, EC, .inl ⟨_, .own C1, kk⟩, k.now s (.bl _) q⟩
  | [.exc c, .ty n], q =>
    obtain ⟨v, v2, rfl, rv, rv2⟩ := reps2 r
    obtain ⟨h1, rfl, q⟩ := q
    obtain ⟨l, h1⟩ := Option.isSome_iff_exists.mp h1
    obtain ⟨C, n1, EC, kv, _⟩ := hT _ (lookX_mem h1)
    cases rv with
    | @exc a C0 c n h =>
      have n1 : PySem.W.nsIn X.K mainGlobals c = some (some (.ref C)) := n1
      rw [n] at n1
      cases n1
      cases rv2
      exact ⟨a, _, _, true, rfl, h, EC, .inl ⟨_, .ty _, kv⟩, k.now s (.bl _) q⟩
  | [.exc c, .tup ds], q =>
    obtain ⟨v, v2, rfl, rv, rv2⟩ := reps2 r
    obtain ⟨l, b, h1, h2, q⟩ := q
    obtain ⟨C, n1, EC, _, hl⟩ := hT _ (lookX_mem h1)
    cases rv with
    | @exc a C0 c n h =>
      have n1 : PySem.W.nsIn X.K mainGlobals c = some (some (.ref C)) := n1
      rw [n] at n1
      cases n1
      cases rv2 with
      | @tup tp vs ds hs rr =>
        obtain ⟨us, p, kk⟩ := anyX_ok hl rr h2
        exact ⟨a, _, _, b, rfl, h, EC, .inr ⟨tp, vs, us, rfl, hs, p, kk⟩, k.now s (.bl _) q⟩
/-- an own class by its name -/
structure ClsT (K : PySem.W.Frag) (mg : Str → Option Value) (c : Str) : Prop where
  ex : ∃ C : Addr, mg c = some (.ref C) ∧ PySem.W.nsIn K mainGlobals c = some (some (.ref C))
theorem c_cls {x : Str} {pos : Pos} (h : ClsT X.K X.mg x) (hg : Gl X x := by rfl) (hd : (x == ("__debug__" : Str)) = false := by decide) : CE X (.Name x pos) (eC (.cls x)) :=
  let ⟨C, h1, h2⟩ := h.ex; c_glob (v := .ref C) hg h1 rfl (fun _ => .cls h2) hd
/-- try: f(..) / except C as e: y = e; slot i is e's, slot j y's; L: the classes that C takes -/
def sKeep (i j n : Nat) (m : MFX) (fs : DA) (L : List Str) : DS := fun D0 σ S => fs σ S fun ds S1 => ds.length = n ∧ m ds S1 (fun _ S2 => D0.nx σ S2) fun c S2 => c ∈ L ∧ D0.nx ((setS j (.exc c) σ).set i none) S2
/-- .. z = f(..) .. -/
def sKeepS (i j z n : Nat) (m : MFX) (fs : DA) (L : List Str) : DS := fun D0 σ S => fs σ S fun ds S1 => ds.length = n ∧ m ds S1 (fun d S2 => D0.nx (setS z d σ) S2) fun c S2 => c ∈ L ∧ D0.nx ((setS j (.exc c) σ).set i none) S2
variable {a : Expr} {es : List Expr} {fs : DA} {pos : Pos}
/-- what is told of a kept exception -/
theorem keep_rch {i j : Nat} {σ : Env} {S S2 : Sto} {H H2 : Hp} {sv : L2.St} {D0 : DEnds} {Dv : Ends} {K : PySem.W.Frag} {c : Str} {C b : Addr} (re : ERep K H sv σ) (k : RchE K S H D0 Dv) (s2 : Stp K S H S2 H2) (r2 : SRep K S2 H2) (n : PySem.W.nsIn K mainGlobals c = some (some (.ref C))) (hb : H2 b = none)
    (q : D0.nx ((setS j (.exc c) σ).set i none) S2) : Dv.nx ((sv.set j (some (.ref b))).set i none) (upd H2 b (ExC b C)) := by
  have tx := tx_new (K := K) (ho := ExC b C) hb
  have r3 : SRep K S2 (upd H2 b (ExC b C)) := fun a o e => (r2 a o e).mono tx (upd_ne (neS e (r2.free hb)))
  have st : Stp K S2 H2 S2 (upd H2 b (ExC b C)) := ⟨tx, fun z o a e n => ⟨a, by rw [upd_ne (ne_of_none e hb)]; exact e⟩, fun z ob u e => by rw [upd_ne (ne_of_none e hb)]; exact e⟩
  have e3 := ((re.mono s2.tx).mono tx).set (i := j) (v := .ref b) (d := .exc c) (.exc n upd_same)
  exact k.nx _ _ _ _ (s2.trans st) r3 (e3.wipe1 (i := i)) q
end
end DL
namespace DL
open PySem PySem.Spec PyProof.Rows L2
/-- an except clause's class, and classes that it takes -/
structure HndT (K : PySem.W.Frag) (mg : Str → Option Value) (c0 : Str) (L : List Str) : Prop where
  ex : ∃ C : Addr, mg c0 = some (.ref C) ∧ ∀ c ∈ L, ∃ C' : Addr, mg c = some (.ref C') ∧ PySem.W.nsIn K mainGlobals c = some (some (.ref C')) ∧ PySem.W.exmOne K (.ref C') (.ref C) = some true
section
variable {X : Cx} {a : Expr} {es : List Expr} {fs : DA} {pos : Pos}
theorem s_tryS (i : Nat) {j kk n : Nat} {m : MFX} {y fx c0 : Str} {L : List Str} {g : DS} {b₀ : Stmt} {suite : List Stmt} {p1 pp np pos2 pos3 pos4 : Pos} (hN : X.N.Nodup) (hr : RoomG j X.A) (F : OkfX X.prog X.w X.K X.mg X.base kk fx n m) (hk : kk ≤ j) (ha : CAU X (a :: es) fs) (Hd : HndT X.K X.mg c0 L) (hsu : CSu X (b₀ :: suite) g)
    (hs : X.stack = X.env :: X.outer := by rfl) (hf : X.env.frame = some X.env.locals := by rfl) (hi : X.N[i]? = some y := by rfl) (hx : X.env.scope.names.lookup y = some .local := by rfl) (hg0 : Gl X c0 := by rfl) (hd0 : (c0 == ("__debug__" : Str)) = false := by decide)
    (hg : Gl X fx := by rfl) (hdb : (fx == ("__debug__" : Str)) = false := by decide) (he : starEach (a :: es) X.env = (false, eval a X.env) :: starEach es X.env := by rfl) (hpl : (backTo pos (starEach es X.env)).any (·.1) = false := by rfl)
    (hsw : swapsWith (.Call (.Name fx pp) (a :: es) [] pos) (some (.Name y p1)) pos2.line X.env = pure false := by rfl) :
    CS X (.Try [.Assign [.Name y p1] (.Call (.Name fx pp) (a :: es) [] pos) pos2] [.ExceptHandler (some (.Name c0 np)) none (b₀ :: suite) pos3] [] [] pos4) (sTry i n m fs L g) := by
  obtain ⟨C, h1, h2⟩ := Hd
  exact s_trySet hs hf hN hi (.inl hx) (.inr hx) hr F hk ha (C := .ref C) ⟨hg0, hd0, .inl h1⟩ (fun c hc => let ⟨C', g1, _, g3⟩ := h2 c hc; ⟨_, g1, g3⟩) hsu hg hdb he hpl hsw
end
end DL
namespace DL
open PySem PySem.Spec PyProof.Rows L2
section
variable {K : PySem.W.Frag} {h : Heap} {mg : Str → Option Value} {c : Str} {C C' : Addr} {b : Bool} {L : List Str}
theorem kitOne_own (hs : PySem.W.subIn K (.ref C) (.ref C) = some true) (hd : PySem.W.isClsIn K C' = true) (ht : PySem.W.typeIn K (.ref C') = some (.type "type")) (hb : PySem.W.subIn K (.ref C) (.ref C') = some b) : PySem.W.kitOne K (.ref C) (.ref C') = some b := by
  unfold PySem.W.kitOne
  by_cases e : C = C'
  · subst e
    rw [hs] at hb
    cases hb
    rw [if_pos (beq_self_eq_true _)]
  · rw [if_neg (fun z => e (Value.ref.inj (beq_iff_eq.mp z)))]
    unfold PySem.W.kitCls
    have e2 : ((PySem.W.clsIn K C').isSome && PySem.W.typeIn K (.ref C') == some (.type "type")) = true := by
      have h2' : (PySem.W.clsIn K C').isSome = true := hd
      rw [h2', ht] <;> rfl
    show (if ((PySem.W.clsIn K C').isSome && PySem.W.typeIn K (.ref C') == some (.type "type")) = true then PySem.W.subIn K (.ref C) (.ref C') else none) = some b
    rw [if_pos e2]
    exact hb
theorem kitOne_ve (hb : PySem.W.subIn K (.ref C) (.type "ValueError") = some true) : PySem.W.kitOne K (.ref C) (.type "ValueError") = some true := by
  unfold PySem.W.kitOne
  rw [if_neg (fun z => by cases beq_iff_eq.mp z)]
  show (if PySem.W.kitMeta "ValueError" = true then PySem.W.subIn K (.ref C) (.type "ValueError") else none) = some true
  rw [if_pos (by decide +kernel)]
  exact hb
theorem clsT_mk (X : K.In h) (G : h.Ns mainGlobals mg) (a : PySem.W.nsIn K mainGlobals c = some (some (.ref C))) : ClsT K mg c := ⟨C, PySem.W.mg_of X G a, a⟩
theorem exT_mk (X : K.In h) (G : h.Ns mainGlobals mg) (a : PySem.W.nsIn K mainGlobals c = some (some (.ref C))) (x : PySem.W.excIn K C [.type "ValueError", .type "Exception", .type "BaseException", .type "object"] "ValueError.__new__" = true) (k : PySem.W.keepIn K (.ref C) = true)
    (bb : PySem.W.subIn K (.ref C) (.type "BaseException") = some true) (t : PySem.W.typeIn K (.ref C) = some (.type "type")) : ExT K mg c := ⟨C, PySem.W.mg_of X G a, x, k, bb, t⟩
theorem sub_mk (a : PySem.W.nsIn K mainGlobals c = some (some (.ref C'))) (s : PySem.W.subIn K (.ref C') (.ref C) = some true) : ∃ C' : Addr, PySem.W.nsIn K mainGlobals c = some (some (.ref C')) ∧ PySem.W.subIn K (.ref C') (.ref C) = some true := ⟨C', a, s⟩
theorem hndT_mk (X : K.In h) (G : h.Ns mainGlobals mg) (a : PySem.W.nsIn K mainGlobals c = some (some (.ref C))) (bb : PySem.W.subIn K (.ref C) (.type "BaseException") = some true) (hd : PySem.W.hasDictIn K C = true) (t : PySem.W.typeIn K (.ref C) = some (.type "type"))
    (hl : ∀ c ∈ L, ∃ C' : Addr, PySem.W.nsIn K mainGlobals c = some (some (.ref C')) ∧ PySem.W.subIn K (.ref C') (.ref C) = some true) : HndT K mg c L :=
  ⟨C, PySem.W.mg_of X G a, fun c1 hc => let ⟨C', h1, h2⟩ := hl c1 hc; ⟨C', PySem.W.mg_of X G h1, h1, PySem.W.exm_ref bb hd t h2⟩⟩
theorem isa_mk {q : Str × Bool} (a : PySem.W.nsIn K mainGlobals q.1 = some (some (.ref C'))) (hd : PySem.W.isClsIn K C' = true) (ht : PySem.W.typeIn K (.ref C') = some (.type "type")) (hb : PySem.W.subIn K (.ref C) (.ref C') = some q.2) :
    ∃ C' : Addr, PySem.W.nsIn K mainGlobals q.1 = some (some (.ref C')) ∧ PySem.W.isClsIn K C' = true ∧ PySem.W.typeIn K (.ref C') = some (.type "type") ∧ PySem.W.subIn K (.ref C) (.ref C') = some q.2 := ⟨C', a, hd, ht, hb⟩
theorem xis_mk {l : List (Str × Bool)} (a : PySem.W.nsIn K mainGlobals c = some (some (.ref C))) (e1 : PySem.W.findIn K (.ref C) "__getattribute__" = some (some (.builtin "BaseException.__getattribute__"))) (e2 : PySem.W.findIn K (.ref C) "__getattr__" = some none)
    (e3 : PySem.W.subIn K (.ref C) (.type "BaseException") = some true) (e4 : PySem.W.hasDictIn K C = true) (e5 : PySem.W.findIn K (.ref C) "__class__" = some (some (.builtin "object.__class__"))) (e6 : PySem.W.specialIn K (.builtin "object.__class__") "__get__" = some (some (.builtin "getset_descriptor.__get__")))
    (e7 : PySem.W.takesIn K (.builtin "object.__class__") = some true) (e8 : PySem.W.mroIn K C (.type "object") = some true) (ve : PySem.W.subIn K (.ref C) (.type "ValueError") = some true) (hs : PySem.W.subIn K (.ref C) (.ref C) = some true)
    (hl : ∀ q ∈ l, ∃ C' : Addr, PySem.W.nsIn K mainGlobals q.1 = some (some (.ref C')) ∧ PySem.W.isClsIn K C' = true ∧ PySem.W.typeIn K (.ref C') = some (.type "type") ∧ PySem.W.subIn K (.ref C) (.ref C') = some q.2) : XIs K c l :=
  ⟨C, a, ⟨e1, e2, e3, e4, e5, e6, e7, e8⟩, kitOne_ve ve, fun q hq => let ⟨C', h1, h2, h3, h4⟩ := hl q hq; ⟨C', h1, kitOne_own hs h2 h3 h4⟩⟩
end
end DL
/-! sorted of tuples that are alike up to the first place that differs -/
namespace DL
open PySem PySem.Spec PyProof.Rows L2 PySem.W PySem.Calls PySem.SeqAt
def likeL : List PyData → List PyData → Bool
  | p :: ps, q :: qs => alike p q && (!(PyData.eqv p q) || likeL ps qs)
  | _, _ => true
def LikeAll (ds : List PyData) : Prop := ∀ d ∈ ds, ∃ p ps, d = .tuple (p :: ps) ∧ ∀ e ∈ ds, ∃ q qs, e = .tuple (q :: qs) ∧ likeL (p :: ps) (q :: qs) = true
section
variable {prog : Program} {w : World} {A : Around} {s : Shared}
end
section
/-- sorted(xs), where the data are told by enc -/
def rSE (K : PySem.W.Frag) : List V → Hp → VK → Prop := fun vs H Q => ∃ (a : Addr) (xs : List V) (ds : List D) (S : Sto) (kd : D → PyData), vs = [V.ref a] ∧ (SqL K H a xs ∨ SqT K H a xs) ∧ Reps K H xs ds ∧ SRep K S H ∧
  (∀ d ∈ ds, PD S d (kd d)) ∧ LikeAll (ds.map kd) ∧ (∀ d ∈ ds, (kd d).depth ≤ 32) ∧
  ∀ (p : Addr) (ys : List V), H p = none → Reps K H ys (ds.mergeSort (dataLe false kd)) → Q (.ref p) (upd H p (.lst ys))
/-- sorted of data, by themselves -/
def gSorted3 : GN := fun xs S Q => ∃ d ds kd, xs = [d] ∧ (itmD S d = some ds ∨ d = .tup ds) ∧ (∀ x ∈ ds, PD S x (kd x)) ∧ LikeAll (ds.map kd) ∧ (∀ x ∈ ds, (kd x).depth ≤ 32) ∧
  ∀ n, S n = none → Q (.ref n) (updS S n (.lst (ds.mergeSort (dataLe false kd))))
/-- sorted: all of these -/
def gSortedB : GN := fun xs S Q => gSortedA xs S Q ∨ gSorted3 xs S Q
end
end DL
/-! x in a list or tuple of data; list.count of data; a tuple whose first thing may raise -/
namespace DL
open PySem PySem.Spec PyProof.Rows L2
section
variable {X : Cx} {K : PySem.W.Frag} {S : Sto} {H : Hp} {a : Expr} {es : List Expr} {fs : DA} {fa : DEX} {pos : Pos}
def gInP (f : Bool → Bool) : G2 := fun x y S Q => ∃ px q ps, PD S x px ∧ PD S y q ∧ (q = .list ps ∨ q = .tuple ps) ∧ px.depth ≤ 64 ∧ Q (.bl (f (ps.any fun p => PyData.eqv p px))) S
def rInP (K : PySem.W.Frag) (f : Bool → Bool) : R2 := fun x y H Q => ∃ d e ps, Dp K H x d ∧ Dp K H y e ∧ (e = .list ps ∨ e = .tuple ps) ∧ d.plain = true ∧ e.plain = true ∧ d.depth ≤ 64 ∧ Q (.bl (f (ps.any fun p => PyData.eqv p d))) H
/-- xs.count(x) -/
def gCount : D → GN := fun x vs S Q => match x, vs with
  | .ref p, [d] => ∃ xs ps q, S p = some (.lst xs) ∧ PDs S xs ps ∧ PD S d q ∧ q.depth ≤ 64 ∧ Q (.int (ps.countP fun y => PyData.eqv y q)) S
  | _, _ => False
def rCnt (K : PySem.W.Frag) : V → List V → Hp → VK → Prop := fun x vs H Q => ∃ v d ps, vs = [v] ∧ Dp K H v d ∧ Dp K H x (.list ps) ∧ d.plain = true ∧ PyData.plainAll ps = true ∧ d.depth ≤ 64 ∧ Q (.int (ps.countP fun y => PyData.eqv y d)) H
/-- a tuple whose first thing may raise -/
def xTup1 (fa : DEX) (fs : DA) : DEX := fun Ed σ S Q => fa Ed σ S fun d S1 => fs σ S1 fun ds S2 => ds.length + 1 ≤ sizeLine ∧ Q (.tup (d :: ds)) S2
end
end DL
/-! dicts whose keys are tuples; a call of a local name that holds a def -/
namespace DL
open PySem PySem.Spec PyProof.Rows L2
def toKeys : List D → Option (List Key)
  | [] => some []
  | d :: r => match toKey d, toKeys r with
    | some k, some ks => some (k :: ks)
    | _, _ => none
def kD : Key → D
  | .inl i => .int i
  | .inr s => .str s
def upD : D → D
  | .kt ks => .tup (ks.map kD)
  | .nt xs => .tup xs
  | d => d
section
variable {X : Cx} {K : PySem.W.Frag} {e a b c : Expr} {es : List Expr} {fe fa fb fc : DE} {fs : DA} {pos : Pos} {S : Sto} {H : Hp}
theorem rep_kD : ∀ k : Key, Rep K H (kV k) (kD k)
  | .inl i => .int i
  | .inr s => .str s
theorem reps_kD : ∀ ks : List Key, Reps K H (ks.map kV) (ks.map kD)
  | [] => .nil
  | k :: r => .cons (rep_kD k) (reps_kD r)
theorem Rep.up {v : V} {d : D} (r : Rep K H v d) : Rep K H v (upD d) := by
  cases r with
  | kt h => exact .tup (.inl (.inl h)) (reps_kD _)
  | nt h r => exact .tup h.sq r
  | non => exact .non
  | bl b => exact .bl b
  | int i => exact .int i
  | str s => exact .str s
  | ref a => exact .ref a
  | ty n => exact .ty n
  | tup h r => exact .tup h r
  | fl h r => exact .fl h r
  | exc n h => exact .exc n h
  | cls n => exact .cls n
/-- a tuple that is to be a key -/
def eTupK (fs : DA) : DE := fun σ S Q => fs σ S fun xs S1 => xs.length ≤ sizeLine ∧ ∃ ks, toKeys xs = some ks ∧ Q (.kt ks) S1
/-- a key as a tuple -/
def eUp (f : DE) : DE := fun σ S Q => f σ S fun d S1 => Q (upD d) S1
def eDictT0 : DE := fun _ S Q => ∀ p, S p = none → Q (.ref p) (updS S p (.dt []))
/-- list(d), the keys tuples -/
def gListK : GN := fun xs S Q => match xs with
  | [.ref q] => ∃ kvs, S q = some (.dt kvs) ∧ ∀ p, S p = none → Q (.ref p) (updS S p (.lst (kvs.map fun kv => .kt kv.1)))
  | _ => False
end
/-! a call of a local name that holds a def of a table -/
abbrev FTab := List (Str × MF)
structure FtOk (P : Program) (w : World) (K : PySem.W.Frag) (mg : Str → Option Value) (base : Heap) (k n : Nat) (tab : FTab) : Prop where
  ok : ∀ c m, (c, m) ∈ tab → ∃ j, j ≤ k ∧ Okf P w K mg base j c n m
def eCallV (i n : Nat) (tab : FTab) (fs : DA) : DE := fun σ S Q => ∃ c m, getS i σ = some (.cls c) ∧ (c, m) ∈ tab ∧ fs σ S fun ds S1 => ds.length = n ∧ m ds S1 Q
def tCallV (K : PySem.W.Frag) (i n : Nat) (tab : FTab) (t : TA) : TE := fun σ H Q => ∃ c m C, σ[i]? = some (some (.ref C)) ∧ PySem.W.nsIn K mainGlobals c = some (some (.ref C)) ∧ (c, m) ∈ tab ∧ t σ H fun vs H1 => spD K n m vs H1 Q (fun _ _ _ => False)
section
variable {X : Cx} {e : Expr} {es : List Expr} {fs : DA} {pos : Pos}
end
end DL
/-! sorted(xs, key=lambda x: ..), the lambda's captured names too -/
namespace DL
open PySem PySem.Spec PyProof.Rows L2 LamX NdefX
/-- tuples and lists of H, locked as they stand in h -/
def lkH (h : Heap) (H : Hp) : Hp := fun b => match H b with
  | some (.tup xs) => (h.get? b).map fun o => .frz o (.tup xs)
  | some (.lst xs) => (h.get? b).map fun o => .frz o (.lst xs)
  | some (.frz o (.tup xs)) => some (.frz o (.tup xs))
  | some (.frz o (.lst xs)) => some (.frz o (.lst xs))
  | _ => none
section
variable {P : Program} {w : World} {K : PySem.W.Frag} {h h1 : Heap} {H : Hp}
theorem lkH_tup {a : Addr} {xs : List V} (ok : HOk P w H h) (k : ∀ b o, H b ≠ none → h.get? b = some o → h1.get? b = some o) (e : Rd H a (.tup xs)) : Rd (lkH h1 H) a (.tup xs) := by
  rcases e with e | ⟨o, e⟩
  · obtain ⟨_, its, r, o, e1, _⟩ := (show ObjOk P w H h a (.tup xs) from ok a _ e)
    refine .inr ⟨o, ?_⟩
    unfold lkH
    rw [e]
    dsimp only
    rw [k a o (by rw [e]; exact fun z => by cases z) e1]
    rfl
  · refine .inr ⟨o, ?_⟩
    unfold lkH
    rw [e]
mutual
theorem rep_lk (ok : HOk P w H h) (k : ∀ b o, H b ≠ none → h.get? b = some o → h1.get? b = some o) : ∀ {v : V} {d : D}, Rep K H v d → nr d = true → Rep K (lkH h1 H) v d
  | _, _, .non, _ => .non
  | _, _, .bl b, _ => .bl b
  | _, _, .int b, _ => .int b
  | _, _, .str b, _ => .str b
  | _, _, .ty b, _ => .ty b
  | _, _, .ref b, hn => by unfold nr at hn; cases hn
  | _, _, .fl h r, hn => by unfold nr at hn; cases hn
  | _, _, .exc n h, hn => by unfold nr at hn; cases hn
  | _, _, .kt h, hn => by unfold nr at hn; cases hn
  | _, _, .nt h _, hn => by unfold nr at hn; cases hn
  | _, _, .cls n, hn => .cls n
  | _, _, .tup h2 r, hn => by
    unfold nr at hn
    refine .tup ?_ (reps_lk ok k r hn)
    rcases h2 with h2 | h2
    · exact .inl (lkH_tup ok k h2)
    · exact .inr h2
theorem reps_lk (ok : HOk P w H h) (k : ∀ b o, H b ≠ none → h.get? b = some o → h1.get? b = some o) : ∀ {vs : List V} {ds : List D}, Reps K H vs ds → nrs ds = true → Reps K (lkH h1 H) vs ds
  | _, _, .nil, _ => .nil
  | _, _, .cons h r, hn => by
    unfold nrs at hn
    rw [Bool.and_eq_true] at hn
    exact .cons (rep_lk ok k h hn.1) (reps_lk ok k r hn.2)
end
end
/-- what a captured name holds, as the lambda sees it while the list is sorted -/
def CapV (K : PySem.W.Frag) (H : Hp) (v : V) (d : D) : Prop := (Rep K H v d ∧ nr d = true) ∨ ∃ b vs ds, v = .ref b ∧ H b = some (.lst vs) ∧ Reps K H vs ds ∧ nrs ds = true ∧ d = .fl ds
abbrev lamNF (qual : Str) (params : Arguments) (scope : Scope) (cl : List (Str × Addr)) (c' : Addr) : NF := ⟨"<lambda>", qual, params, [], scope, cl, c'⟩
section
variable {X : Cx} {pins : List (Addr × Obj)} {σ : L2.St} {H : Hp} {s s1 : Shared}
end
end DL
namespace DL
open PySem PySem.Spec PyProof.Rows L2 LamX NdefX
section
open PySem.W
variable {X : Cx} {pins : List (Addr × Obj)} {σ : L2.St} {H : Hp} {s : Shared}
end
/-! ### the tables that the store tells -/
def tabsBelow (S : Sto) (n : Nat) : List (Addr × Str) := (List.range n).filterMap fun a => match S a with
  | some (.tab q) => some (a, q)
  | _ => none
theorem tabs_mem {S : Sto} {n : Nat} {a : Addr} {q : Str} (h : a < n) (e : S a = some (.tab q)) : (a, q) ∈ tabsBelow S n := by
  unfold tabsBelow
  rw [List.mem_filterMap]
  exact ⟨a, List.mem_range.mpr h, by rw [e]⟩
theorem tabs_in {S : Sto} {n : Nat} {p : Addr × Str} (h : p ∈ tabsBelow S n) : S p.1 = some (.tab p.2) := by
  unfold tabsBelow at h
  rw [List.mem_filterMap] at h
  obtain ⟨a, _, e⟩ := h
  cases ea : S a with
  | none => rw [ea] at e; cases e
  | some o =>
    rw [ea] at e
    cases o with
    | tab q => cases e; exact ea
    | _ => cases e
theorem srep_ext {K : PySem.W.Frag} {S : Sto} {H H1 : Hp} (rs : SRep K S H) (e : ExtN H H1) (t : ∀ a q, S a = some (.tab q) → TabS H1 a q) : Stp K S H S H1 ∧ SRep K S H1 := by
  have tx : Tx K H H1 := by
    refine ⟨fun a vs h => ?_, fun a vs h => ?_, fun a φ h => e a _ h (fun _ z => nomatch z), fun a vs h => e a _ h (fun _ z => nomatch z), fun a o vs h => e a _ h (fun _ z => nomatch z)⟩
    · rcases h with (h | ⟨o, h⟩) | h
      · exact .inl (.inl (e a _ h (fun _ z => nomatch z)))
      · exact .inl (.inr ⟨o, e a _ h (fun _ z => nomatch z)⟩)
      · exact .inr h
    · rcases h with ⟨o, h⟩ | h
      · exact .inl ⟨o, e a _ h (fun _ z => nomatch z)⟩
      · exact .inr h
  refine ⟨⟨tx, fun z o a b n => ⟨a, e z o b n⟩, fun z ob u b => e z _ b (fun _ z => nomatch z)⟩, fun a o h => ?_⟩
  have h0 := rs a o h
  cases o with
  | lst ds => obtain ⟨vs, e1, r⟩ := h0; exact ⟨vs, e a _ e1 (fun _ z => nomatch z), r.mono tx⟩
  | dk kvs => obtain ⟨vs, e1, r⟩ := h0; exact ⟨vs, e a _ e1 (fun _ z => nomatch z), KReps.mono tx r⟩
  | dt kvs => obtain ⟨vs, e1, r⟩ := h0; exact ⟨vs, e a _ e1 (fun _ z => nomatch z), TReps.mono tx r⟩
  | tab q => exact t a q h
  | fz kvs => obtain ⟨ob, vs, e1, r⟩ := h0; exact ⟨ob, vs, e a _ e1 (fun _ z => nomatch z), KReps.mono tx r⟩
  | ins c fs => obtain ⟨C, dx, ws, n, e1, r⟩ := h0; exact ⟨C, dx, ws, n, e a _ e1 (fun _ z => nomatch z), FReps.mono tx r⟩
/-! ### the rule -/
/-- what a slot holds, as the lambda sees it -/
def CapD (S : Sto) (σ : Env) (j : Nat) (d : D) : Prop := (getS j σ = some d ∧ nr d = true) ∨ ∃ b ds, getS j σ = some (.ref b) ∧ S b = some (.lst ds) ∧ nrs ds = true ∧ d = .fl ds
def keyedL (fb : DE) (cs : List D) (xs : List D) (R : List D → Prop) : Prop := ∃ kd : D → PyData, (∀ d ∈ xs, nr d = true ∧ fb (some d :: cs.map some) S0 fun e _ => PD S0 e (kd d)) ∧ PySem.W.AllAlike (xs.map kd) ∧ PySem.W.Sortable (xs.map kd) ∧ (∀ d ∈ xs, (kd d).depth ≤ 32) ∧ R (xs.mergeSort (PySem.W.dataLe false kd))
def eSortL (P : Addr) (q : Str) (js : List Nat) (fb : DE) (fa : DE) : DE := fun σ S Q => fa σ S fun x S1 => match x with
  | .ref p => S1 P = some (.tab q) ∧ ∃ xs cs, S1 p = some (.lst xs) ∧ cs.length = js.length ∧ (∀ (i j : Nat) (d : D), js[i]? = some j → cs[i]? = some d → CapD S1 σ j d) ∧ keyedL fb cs xs fun ys => ∀ n, S1 n = none → Q (.ref n) (updS S1 n (.lst ys))
  | _ => False
def SLq (K : PySem.W.Frag) (P : Addr) (q : Str) (js : List Nat) (fb : DE) (sv : L2.St) (Kt : VK) (v : V) (H1 : Hp) : Prop := ∃ (a : Addr) (xs : List V) (ds : List D) (kd : D → PyData) (S : Sto) (cs : List D), v = V.ref a ∧ SqL K H1 a xs ∧ Reps K H1 xs ds ∧ SRep K S H1 ∧ S P = some (.tab q) ∧ cs.length = js.length ∧
  (∀ (i j : Nat) (d : D), js[i]? = some j → cs[i]? = some d → ∃ cv, sv[j]? = some (some cv) ∧ ((Rep K H1 cv d ∧ nr d = true) ∨ ∃ b ds, cv = .ref b ∧ S b = some (.lst ds) ∧ nrs ds = true ∧ d = .fl ds)) ∧
  (∀ d ∈ ds, nr d = true ∧ fb (some d :: cs.map some) S0 fun e _ => PD S0 e (kd d)) ∧ PySem.W.AllAlike (ds.map kd) ∧ PySem.W.Sortable (ds.map kd) ∧ (∀ d ∈ ds, (kd d).depth ≤ 32) ∧
  ∀ (H2 : Hp) (p : Addr) (ys : List V), Stp K S H1 S H2 → SRep K S H2 → H2 p = none → Reps K H2 ys (ds.mergeSort (PySem.W.dataLe false kd)) → Kt (.ref p) (upd H2 p (.lst ys))
def tSL (K : PySem.W.Frag) (P : Addr) (q : Str) (js : List Nat) (fb : DE) (te : TE) : TE := fun sv H Kt => te sv H (SLq K P q js fb sv Kt)
def one1 (F : V → Hp → Prop) (vs : List V) (H : Hp) : Prop := match vs with
  | [v] => F v H
  | _ => False
section
variable {X : Cx}
end
end DL
/-! d.pop(k), xs.index(x); a def whose code object is known; the end of a law with tables -/
namespace DL
open PySem PySem.Spec PyProof.Rows L2 LamX NdefX
section
variable {X : Cx} {K : PySem.W.Frag} {S : Sto} {H : Hp}
/-! ### d.pop(k), there -/
def rPopK : V → List V → Hp → VK → Prop := fun x xs H Q => ∃ (a : Addr) (kvs : List (Key × V)) (k : Key) (v : V), x = .ref a ∧ xs = [kV k] ∧ H a = some (.dK kvs) ∧ valV kvs k = some v ∧ Q v (upd H a (.dK (dropK kvs k)))
def gPopK : D → GN := fun x vs S Q => match x, vs with
  | .ref p, [y] => ∃ kvs k d, S p = some (.dk kvs) ∧ toKey y = some k ∧ valD kvs k = some d ∧ Q d (updS S p (.dk (dropD kvs k)))
  | _, _ => False
/-! ### xs.index(y) -/
def gIndex : D → GN := fun x vs S Q => ∃ ys y, itmD S x = some ys ∧ vs = [y] ∧ flatD y = true ∧ ys.all flatD = true ∧ ∃ (j : Nat) (z : D), ys[j]? = some z ∧ eqF z y = true ∧ (∀ (m : Nat) (z' : D), m < j → ys[m]? = some z' → eqF z' y = false) ∧ Q (.int (j : Nat)) S
theorem m_index : CM X "list" "index" gIndex := by
  refine ⟨_, _, PySem.F.plainAttrs_list, PySem.F.slot_list_index, PySem.F.type_list_index, mt_index, fun x a xs as S H Q Kt s rx r q k => ?_⟩
  obtain ⟨ys, y, hi, rfl, fy, fys, j, z, hj, ez, hm, q⟩ := q
  obtain ⟨v, rfl, rv⟩ := reps1 r
  obtain ⟨l, vs, rfl, hs, rr⟩ := itmD_rep s rx hi
  obtain ⟨zv, hz, rz⟩ := rr.get hj
  refine ⟨l, vs, v, j, zv, rfl, rfl, hs, flat_rep rv fy, flat_reps rr fys, hz, ?_, fun m z' hlt hz' => ?_, k.now s (.int _) q⟩
  · rw [eqF_rep rz rv (List.all_eq_true.mp fys z (List.mem_of_getElem? hj)) fy]
    exact ez
  · obtain ⟨d', hd', rd'⟩ := rr.getV hz'
    rw [eqF_rep rd' rv (List.all_eq_true.mp fys d' (List.mem_of_getElem? hd')) fy]
    exact hm m d' hlt hd'
end
/-! ### a def whose code object is known -/
structure FTC (K : PySem.W.Frag) (mg : Str → Option Value) (x : Str) (st : Stmt) (ps : List Str) (c : Addr) : Prop where
  ex : ∃ (f : Addr) (oc : Value) (od an : Option Addr) (kV doc pm ct : Value) (osl : Array (Option Value)),
    K.lookup f = some ⟨oc, od, .func (PySem.W.fnOf x x (defArgs st) (defBody st) (defScope st) .none kV doc pm an (.ref c) ct), osl⟩ ∧ PySem.W.codeIn K (.ref c) x = true ∧ PySem.W.keepIn K (.ref f) = true ∧
    Binds K (PySem.W.fnOf x x (defArgs st) (defBody st) (defScope st) .none kV doc pm an (.ref c) ct) ps [] ∧ mg x = some (.ref f)
theorem okf_ofC {P : Program} {w : World} {K : PySem.W.Frag} {mg : Str → Option Value} {base : Heap} {x : Str} {st : Stmt} {N ps : List Str} {k : Nat} {b : DS} {m : MF} {c : Addr} (T : FTC K mg x st ps c) (Sc : FnScope N ps (defScope st)) (hm : ∀ ds S Q, m ds S Q = b (endsD Q) (startD N.length ds) S)
    (h : ∀ (f : Addr) (A : Around) (outer : List PySem.Env) (s : Shared) (H : Hp) (E : XK), RoomG k (A.deeper (envOfC x (defScope st) s.heap.objs.size f (.ref c))) → CSs (cxOf CX0 P w K mg base N x (defScope st) f (.ref c) A outer s H E).nox (defBody st) b) :
    Okf P w K mg base (k + 1) x ps.length m := by
  obtain ⟨f, oc, od, an, kV, doc, pm, ct, osl, lk, hcd, kp, B, g⟩ := T
  have e : m = fun ds S Q => b (endsD Q) (startD N.length ds) S := funext fun ds => funext fun S => funext fun Q => hm ds S Q
  rw [e]
  refine ⟨f, _, ps, rfl, ?_, g, kp, B⟩
  refine fn_ofG lk hcd Sc (fun vs H Q E h => h.1) (fun A outer s H vs Q E hr hq => ?_)
  obtain ⟨t, p, sn⟩ := h f A outer s H E hr
  refine ⟨t, p.nox, ?_⟩
  obtain ⟨hl, ds, S, Qd, r, sr, q, kk⟩ := hq
  refine sn (endsD Qd) _ S _ _ H (erep_start r) sr q ⟨fun sv σ S' H' s' r' e' q' => ?_, kk, fun _ _ _ _ _ _ _ z => z.elim, fun _ _ _ _ _ _ _ z => z.elim⟩
  exact kk .non .non S' H' s' r' .non q'
/-! ### the end of a law with tables -/
/-- what is told of the heap at the law's call: the tables ts, and the script where the written part has it not -/
def hpT (K : PySem.W.Frag) (a : Addr) (oa : Obj) (ns : List Int) (ts : List Addr) : Hp := fun b =>
  if b ∈ ts then some (.tbl #[]) else if b = a then (match K.lookup a with
    | some _ => none
    | none => some (.frz oa (.lst (ns.map V.int)))) else none
theorem hpT_none {K : PySem.W.Frag} {a b : Addr} {oa : Obj} {ns : List Int} {ts : List Addr} (h1 : b ∉ ts) (h2 : b ≠ a ∨ K.lookup a ≠ none) : hpT K a oa ns ts b = none := by
  unfold hpT
  rw [if_neg h1]
  by_cases e : b = a
  · rw [if_pos e]
    cases q : K.lookup a with
    | none => rcases h2 with z | z
              · exact absurd e z
              · exact absurd q z
    | some o => rfl
  · rw [if_neg e]
theorem hpT_cases {K : PySem.W.Frag} {a b : Addr} {oa : Obj} {ns : List Int} {ts : List Addr} {u : HO} (e : hpT K a oa ns ts b = some u) : (b ∈ ts ∧ u = .tbl #[]) ∨ (b ∉ ts ∧ b = a ∧ K.lookup a = none ∧ u = .frz oa (.lst (ns.map V.int))) := by
  unfold hpT at e
  by_cases h1 : b ∈ ts
  · rw [if_pos h1] at e; cases e; exact .inl ⟨h1, rfl⟩
  · rw [if_neg h1] at e
    by_cases h2 : b = a
    · rw [if_pos h2] at e
      cases q : K.lookup a with
      | none => rw [q] at e; cases e; exact .inr ⟨h1, h2, rfl, rfl⟩
      | some o => rw [q] at e; cases e
    · rw [if_neg h2] at e; cases e
end DL
namespace DL
open PySem PySem.Spec PyProof.Rows L2 LamX NdefX
/-- no object of the kind tells a place of the heap -/
def TabOnly (ts : List Addr) (H : Hp) : Prop := ∀ b, H b = none ∨ (b ∈ ts ∧ H b = some (.tbl #[])) ∨ ∃ o xs, H b = some (.frz o (.lst xs))
theorem callT {P : Program} {w : World} {K : PySem.W.Frag} {mg mb : Str → Option Value} {k : Nat} {fa a : Addr} {cs : List (Addr × Addr)} {fd : FuncData} {x : Str} {sp : Sp} {t : Shared} {us : List Value} {ns : List Int}
    (kx : K.In t.heap) (gn : t.heap.Ns mainGlobals mg) (bn : t.heap.Ns builtinsNs mb) (bb : ∀ x : Str, x ≠ "__name__" → mb x = bootBuiltins x) (nl : t.heap.NoLimit) (ng : t.gens = #[])
    (tb : ∀ p ∈ cs, PySem.W.CodeHd t.heap p.1 p.2 ∧ t.heap.get? p.2 = some { cls := .none, data := .fields #[] }) (nk : ∀ p ∈ cs, K.lookup p.2 = none)
    (bm : ∃ (bm : Addr) (ob : Obj), mg "__builtins__" = some (.ref bm) ∧ bm ≠ builtinsNs ∧ t.heap.get? bm = some ob ∧ ob.cls = .type "module" ∧ ob.dict = some builtinsNs ∧ ob.data = .plain)
    (at_ : t.heap.get? a = some { cls := .type "list", data := .seq us.toArray }) (ia : IntsAre us ns) (sl : ns.length ≤ sizeLine) (room : RoomG k callerA)
    (F : ∀ base : Heap, K.In base → base.Ns mainGlobals mg → (∀ p ∈ cs, TabB base mg p.1 p.2) → FnG P w K mg base CX0 k fa fd [x] sp) (bd : ∀ (s : Shared) (u : Value), BindsTo s fd ⟨[u], []⟩ [(x, u)])
    (pr : ∀ H : Hp, TabOnly (cs.map (·.2)) H → (∀ p ∈ cs, H p.2 = some (.tbl #[])) → SqL K H a (ns.map V.int) → sp [.ref a] H (fun v _ => v = .bl true) fun _ _ _ => False) :
    codeAny (model P w) callerA (.call (.ref fa) ⟨[.ref a], []⟩) (fun r s' => r = .ok (.ret (.bool true)) ∧ OldK t.heap s'.heap ∧ s'.os = t.os ∧ AllBare s'.gens) t := by
  have rv := vals_ints ia
  have len := ia.length
  have inT : ∀ b ∈ cs.map (·.2), ∃ p ∈ cs, p.2 = b := fun b hb => let ⟨p, hp, e⟩ := List.mem_map.mp hb; ⟨p, hp, e⟩
  have aNot : a ∉ cs.map (·.2) := fun z => by
    obtain ⟨p, hp, e⟩ := inT a z
    have q := (tb p hp).2
    rw [e, at_] at q
    exact nomatch (congrArg Obj.data (Option.some.inj q) : Data.seq us.toArray _ = Data.fields #[])
  obtain ⟨H, eH⟩ : ∃ H : Hp, H = hpT K a { cls := .type "list", data := .seq us.toArray } ns (cs.map (·.2)) := ⟨_, rfl⟩
  have okH : HOk P w H t.heap := fun b u e => by
    rw [eH] at e
    rcases hpT_cases e with ⟨hb, rfl⟩ | ⟨_, rfl, _, rfl⟩
    · obtain ⟨p, hp, rfl⟩ := inT b hb
      exact (tb p hp).2
    · exact ⟨at_, by rw [List.length_map]; exact sl, us, 0, rv, at_⟩
  have tell : ∀ p ∈ cs, H p.2 = some (.tbl #[]) := fun p hp => by
    rw [eH]
    unfold hpT
    rw [if_pos (List.mem_map.mpr ⟨p, hp, rfl⟩)]
  have only : TabOnly (cs.map (·.2)) H := fun b => by
    cases e : H b with
    | none => exact .inl rfl
    | some u =>
      have e2 := e
      rw [eH] at e2
      rcases hpT_cases e2 with ⟨hb, rfl⟩ | ⟨_, rfl, _, rfl⟩
      · exact .inr (.inl ⟨hb, rfl⟩)
      · exact .inr (.inr ⟨_, _, rfl⟩)
  -- what is neither a list nor an empty table is hidden
  have hid : ∀ {b : Addr} {o : Obj}, t.heap.get? b = some o → (∀ vs n, o.data ≠ .seq vs n) → o.data ≠ .fields #[] → H b = none := fun {b o} e h1 h2 => by
    rw [eH]
    refine hpT_none (fun hb => ?_) (.inl fun z => ?_)
    · obtain ⟨p, hp, rfl⟩ := inT b hb
      rw [(tb p hp).2] at e
      cases e
      exact h2 rfl
    · rw [z, at_] at e
      cases e
      exact h1 _ _ rfl
  have below : ∀ {b : Addr} {o : Obj}, t.heap.get? b = some o → (∀ vs n, o.data ≠ .seq vs n) → o.data ≠ .fields #[] → (hidT t.heap H).get? b = some o := fun e h1 h2 => hidT_get e (hid e h1 h2)
  have nsK : ∀ {b : Addr} {m : Str → Option Value}, t.heap.Ns b m → (hidT t.heap H).Ns b m := fun {b m} ⟨o, es, ep, e, d, r⟩ =>
    ⟨o, es, ep, below e (fun vs n z => by rw [d] at z; exact nomatch z) (fun z => by rw [d] at z; exact nomatch z), d, r⟩
  have kIn : K.In (hidT t.heap H) := fun b o e => hidT_get (kx b o e) (by
    rw [eH]
    refine hpT_none (fun hb => ?_) ?_
    · obtain ⟨p, hp, rfl⟩ := inT b hb
      rw [nk p hp] at e
      cases e
    · by_cases z : b = a
      · exact .inr (by rw [← z, e]; exact fun z => nomatch z)
      · exact .inl z)
  have md : L2.Mod K mg (hidT t.heap H) := ⟨kIn, nsK gn, ⟨mb, nsK bn, bb⟩, let ⟨mc, h1, h2⟩ := nl; ⟨mc, nsK h1, h2⟩⟩
  have notG : ∀ {b : Addr} {o : Obj} {m : Str → Option Value}, t.heap.get? b = some o → (∀ es ep, o.data ≠ .dict es ep) → t.heap.Ns mainGlobals m → mainGlobals ≠ b := fun {b o m} e h1 ⟨o2, es, ep, e2, d2, _⟩ z => by
    rw [z, e] at e2
    cases e2
    exact h1 _ _ d2
  have tB : ∀ p ∈ cs, TabB (hidT t.heap H) mg p.1 p.2 := fun p hp => by
    obtain ⟨hc, ht⟩ := tb p hp
    refine ⟨?_, ?_, notG ht (fun _ _ z => nomatch z) gn⟩
    · obtain ⟨o, vs, fi, tf, fl, tg, iF, tx, tt, e1, e2, e3, e4, r⟩ := hc
      exact ⟨o, vs, fi, tf, fl, tg, iF, tx, tt, below e1 (fun us n z => by rw [e3] at z; exact nomatch z) (fun z => by rw [e3] at z; cases z; simp at e4), e2, e3, e4, r⟩
    · obtain ⟨m, ob, h1, h2, h3, h4, h5, h6⟩ := bm
      have nP : m ≠ p.2 := fun z => by
        rw [z, ht] at h3
        cases h3
        exact nomatch h6
      have b3 := below h3 (fun us n z => by rw [h6] at z; exact nomatch z) (fun z => by rw [h6] at z; exact nomatch z)
      have nG := Ne.symm (notG h3 (fun _ _ z => by rw [h6] at z; exact nomatch z) gn)
      exact ⟨m, ob, h1, h2, nG, nP, b3, h4, h5, h6⟩
  have env : Env0 P w K mg (hidT t.heap H) callerA [] t H := ⟨rfl, md, fun b o e => of_hidT e, Nat.le_of_eq (hidT_size _ _), trivial, (fun _ hb => nomatch hb), okH, .of_eq ng⟩
  have seq : SqL K H a (ns.map V.int) := by
    cases q : K.lookup a with
    | some o =>
      have e := kx a o q
      rw [at_] at e
      cases e
      exact .inr ⟨_, us.toArray, _, q, rfl, rfl, rfl, by rw [List.size_toArray, len]; exact sl, by simpa using rv⟩
    | none =>
      refine .inl (.inr ⟨{ cls := .type "list", data := .seq us.toArray }, ?_⟩)
      rw [eH]
      unfold hpT
      rw [if_neg aNot, if_pos rfl, q]
  refine codeAny_mono ((F _ kIn (nsK gn) tB).run callerA [] t H ⟨[.ref a], []⟩ [.ref a] [.ref a] (fun v _ => v = .bl true) (fun _ _ _ => False) room env (bd t (.ref a)) (.cons rfl .nil) (pr H only tell seq)) fun r s' hq => ?_
  match r, hq with
  | .error e, hq => exact hq.elim
  | .ok .next, hq => exact hq.elim
  | .ok .brk, hq => exact hq.elim
  | .ok .cont, hq => exact hq.elim
  | .ok (.ret u), hq =>
    obtain ⟨v, H', os, bare, un, ok', r', q⟩ := hq
    subst q
    obtain rfl : u = Value.bool true := r'
    have same : ∀ b o, b ∉ cs.map (·.2) → t.heap.get? b = some o → s'.heap.get? b = some o := fun b o nb e => by
      rcases only b with z | ⟨z, _⟩ | ⟨ob, xs, z⟩
      · exact un.keep b o e z (fun hb => nomatch hb) (fun hb => nomatch hb)
      · exact absurd z nb
      · have e1 := (okH b _ z).1
        have e2 := (ok' b _ (un.frzs b ob _ z)).1
        rw [e] at e1
        cases e1
        exact e2
    have more : ∀ p ∈ cs, ∃ m : Array Value, s'.heap.get? p.2 = some { cls := .none, data := .fields m } := fun p hp => let ⟨m, z⟩ := un.tbls p.2 #[] (tell p hp); ⟨_, ok' p.2 _ z⟩
    refine ⟨rfl, ⟨fun b o e => ?_, fun b o e => ?_⟩, os, bare⟩
    · by_cases hb : b ∈ cs.map (·.2)
      · obtain ⟨p, hp, rfl⟩ := inT b hb
        obtain ⟨hc, ht⟩ := tb p hp
        obtain ⟨m, hm⟩ := more p hp
        rw [ht] at e
        cases e
        exact .inr (.inl ⟨(hc.tab ht).isCodeTable, rfl, #[], m, rfl, by rw [Array.empty_append]; exact hm⟩)
      · exact .inl (same b o hb e)
    · by_cases hb : b ∈ cs.map (·.2)
      · obtain ⟨p, hp, rfl⟩ := inT b hb
        obtain ⟨m, hm⟩ := more p hp
        exact ⟨_, hm⟩
      · exact ⟨o, same b o hb e⟩
theorem codeHd_l {K : PySem.W.Frag} {h : Heap} {c P : Addr} {o : Obj} (X : K.In h) (l : K.lookup c = some o) (e : PySem.W.codeHdIn [(c, o)] c P = true) : PySem.W.CodeHd h c P := by
  refine PySem.W.codeHd_of_K (K := [(c, o)]) (fun b u z => ?_) e
  have z : List.lookup b [(c, o)] = some u := z
  simp only [List.lookup] at z
  split at z
  · rename_i hb
    have hb : b = c := by simpa using hb
    cases z
    rw [hb]
    exact X c o l
  · cases z
theorem km_none {K : Params → PySem.W.Frag} {as : List Addr} {e : ∀ P, as = (K P).map (·.1)} {ts : List Addr} {w : World} {h : Heap} {P : Addr} (Y : (PySem.W.kmHook K as e ts).says w h) (n : as.contains P = false) : (K w.params).lookup P = none := by
  have q := e w.params
  have hn : P ∉ (K w.params).map (·.1) := by
    rw [← q]
    intro z
    rw [List.contains_eq_mem, decide_eq_false_iff_not] at n
    exact n z
  generalize K w.params = F at hn
  induction F with
  | nil => rfl
  | cons p r ih =>
    rw [List.map_cons, List.mem_cons, not_or] at hn
    obtain ⟨b, u⟩ := p
    show List.lookup P ((b, u) :: r) = none
    rw [List.lookup_cons]
    have : (P == b) = false := by simpa using hn.1
    rw [this]
    exact ih hn.2
/-- the store at the law's call: the tables, each with the name of its code objects -/
def tabS (T : List (Addr × Str)) : Sto := fun b => match T.find? (fun p => p.1 == b) with
  | some p => some (.tab p.2)
  | none => none
theorem walk_ofT {l : PySem.W.OpenLaw} {n k : Nat} {q : Program} {loose : List Str} {XP : (Str → Option Value) → Heap → Prop} {YP : World → Heap → Prop} {d : DefRec} {K : Params → PySem.W.Frag} {x : Str} {m : MF} (T : List (Str × Addr × Addr × Str))
    (hn : l.most = some n) (hn2 : n ≤ sizeLine) (hdf : d.params.defaults = []) (hr : Room k callerA) (hY : ∀ (w : World) (h : Heap), YP w h → (K w.params).In h)
    (hK : ∀ (w : World) (h : Heap), YP w h → ∀ t ∈ T, PySem.W.CodeHd h t.2.1 t.2.2.1 ∧ h.get? t.2.2.1 = some { cls := .none, data := .fields #[] } ∧ (K w.params).lookup t.2.2.1 = none)
    (F : ∀ (w : World) (mg : Str → Option Value) (fa : Addr) (h : Heap), YP w h → (K w.params).In h → h.Ns mainGlobals mg → mg d.name = some (.ref fa) → ∃ fd, (∀ (s : Shared) (u : Value), BindsTo s fd ⟨[u], []⟩ [(x, u)]) ∧ ∀ base : Heap, (K w.params).In base → base.Ns mainGlobals mg → (∀ t ∈ T, TabB base mg t.2.1 t.2.2.1) → FnG l.prog w (K w.params) mg base CX0 k fa fd [x] (spD (K w.params) 1 m))
    (law : ∀ ns : List Int, ns.length ≤ n → m [.fl (ns.map .int)] (tabS (T.map fun t => (t.2.2.1, t.2.2.2))) (fun d _ => d = .bl true)) :
    PySem.W.WalkO q loose XP YP l.row.toRowW d [] fun f vs => PySem.call f vs :=
  Att.attach_callB hn hdf fun w s₀ s₁ mg mb fa o pm cd doc a vs ns G Y ho hd hcd hmg hobj hints hlen _ hg => by
    have KX := hY w s₁.heap Y
    obtain ⟨fd, hb, hF⟩ := F w mg fa s₁.heap Y KX G.T.g hmg
    refine callT (cs := T.map fun t => (t.2.1, t.2.2.1)) KX G.T.g G.T.b G.T.builtins G.T.nolimit hg (fun p hp => ?_) (fun p hp => ?_) G.T.bmain hobj hints (Nat.le_trans hlen hn2) ⟨hr, rfl⟩ (fun base h1 h2 h3 => hF base h1 h2 fun t ht => h3 _ (List.mem_map.mpr ⟨t, ht, rfl⟩)) hb fun H hO hH hS => ?_
    · obtain ⟨t, ht, rfl⟩ := List.mem_map.mp hp
      exact ⟨(hK w _ Y t ht).1, (hK w _ Y t ht).2.1⟩
    · obtain ⟨t, ht, rfl⟩ := List.mem_map.mp hp
      exact (hK w _ Y t ht).2.2
    · refine ⟨rfl, [.fl (ns.map .int)], tabS (T.map fun t => (t.2.2.1, t.2.2.2)), fun d _ => d = .bl true, .cons (.fl ?_ ints_reps) .nil, fun b o e => ?_, law ns hlen, fun v d S' H' _ _ r e => ?_⟩
      · rcases hS with (h | ⟨o, h⟩) | h
        · rcases hO a with z | ⟨_, z⟩ | ⟨o, xs, z⟩ <;> rw [h] at z <;> cases z
        · exact .inl ⟨o, h⟩
        · exact .inr h
      · unfold tabS at e
        cases hf : (T.map fun t => (t.2.2.1, t.2.2.2)).find? (fun p => p.1 == b) with
        | none => rw [hf] at e; cases e
        | some p =>
          rw [hf] at e
          cases e
          have hp := List.mem_of_find?_eq_some hf
          have he : p.1 = b := beq_iff_eq.mp (List.find?_some (p := fun p : Addr × Str => p.1 == b) hf)
          obtain ⟨t, ht, rfl⟩ := List.mem_map.mp hp
          have := hH _ (List.mem_map.mpr ⟨t, ht, rfl⟩)
          rw [← he]
          exact TabS.nil this
      · subst e
        cases r
        rfl
end DL
/-! t.index(x) of a tuple of data -/
namespace DL
open PySem PySem.Spec PyProof.Rows L2
section
variable {X : Cx} {K : PySem.W.Frag} {S : Sto} {H : Hp}
def gIndexT : D → GN := fun x vs S Q => match x, vs with
  | .tup ys, [d] => ∃ ps q j z, PDs S ys ps ∧ PD S d q ∧ q.depth ≤ 64 ∧ ps[j]? = some z ∧ PyData.eqv z q = true ∧ (∀ (m : Nat) (z' : PyData), m < j → ps[m]? = some z' → PyData.eqv z' q = false) ∧ Q (.int (j : Nat)) S
  | _, _ => False
def rIdxT (K : PySem.W.Frag) : V → List V → Hp → VK → Prop := fun x vs H Q => ∃ v d ps j z, vs = [v] ∧ Dp K H v d ∧ Dp K H x (.tuple ps) ∧ d.plain = true ∧ PyData.plainAll ps = true ∧ d.depth ≤ 64 ∧ ps[j]? = some z ∧ PyData.eqv z d = true ∧ (∀ (m : Nat) (z' : PyData), m < j → ps[m]? = some z' → PyData.eqv z' d = false) ∧ Q (.int (j : Nat)) H
end
end DL
/-! d.get(k) -/
namespace DL
open PySem PySem.Spec PyProof.Rows L2
section
variable {X : Cx} {pos : Pos} {e : Expr}
def eGet1 (fo fe : DE) : DE := fun σ S Q => fo σ S fun o S1 => match o with
  | .ref p => (∃ kvs, S1 p = some (.dk kvs)) ∧ fe σ S1 fun y S2 => ∃ kvs k, S2 p = some (.dk kvs) ∧ toKey y = some k ∧ Q ((valD kvs k).getD .non) S2
  | _ => False
end
/-! ### repr of any small thing -/
def flatShow : D → Option Str
  | .non => some "None"
  | .bl b => some (if b then "True" else "False")
  | .str z => some (reprText z)
  | _ => none
def gReprV : GN := fun xs S Q => gRepr xs S Q ∨ ∃ d z, xs = [d] ∧ flatShow d = some z ∧ z.length ≤ sizeLine ∧ Q (.str z) S
def rReprF : List V → Hp → VK → Prop := fun xs H Q => (xs = [.non] ∧ Q (.str "None") H) ∨ (∃ b : Bool, xs = [.bl b] ∧ Q (.str (if b then "True" else "False")) H) ∨ ∃ z, xs = [.str z] ∧ (reprText z).length ≤ sizeLine ∧ Q (.str (reprText z)) H
end DL
/-! dict(list of pairs) -/
namespace DL
open PySem PySem.Spec PyProof.Rows L2
section
variable {X : Cx} {K : PySem.W.Frag} {S : Sto} {H : Hp}
/-- pairs, each with a key ahead -/
def pairsD : List D → Option (List (Key × D))
  | [] => some []
  | .tup [y, d] :: r => match toKey y, pairsD r with
    | some k, some l => some ((k, d) :: l)
    | _, _ => none
  | _ => none
def gDictP : GN := fun xs S Q => match xs with
  | [.ref a] => ∃ ds kvs, S a = some (.lst ds) ∧ pairsD ds = some kvs ∧ ∀ p, S p = none → Q (.ref p) (updS S p (.dk (mergeD [] kvs)))
  | _ => False
end
end DL
/-! dicts that are walked: keys, values, items, while they are locked -/
namespace DL
open PySem PySem.Spec PyProof.Rows L2
section
variable {X : Cx} {K : PySem.W.Frag} {e a b c : Expr} {es : List Expr} {fe fa fb fc : DE} {fs : DA} {pos : Pos} {S S1 S' : Sto} {H H1 H' : Hp} {p : Addr} {kvs : List (Key × D)} {ws : List (Key × V)} {od : Obj}
/-- an expression while a dict is locked -/
def eLk (f : DE) : DE := fun σ S Q => ∃ p kvs, S p = some (.dk kvs) ∧ f σ (updS S p (.fz kvs)) fun d S' => Q d (updS S' p (.dk kvs))
def DEnds.lk (D0 : DEnds) (p : Addr) (kvs : List (Key × D)) : DEnds := ⟨fun σ S => D0.nx σ (updS S p (.dk kvs)), fun d S => D0.rt d (updS S p (.dk kvs)), fun σ S => D0.bk σ (updS S p (.dk kvs)), fun σ S => D0.ct σ (updS S p (.dk kvs))⟩
/-- a statement while a dict is locked -/
def sLk (f : DS) : DS := fun D0 σ S => ∃ p kvs, S p = some (.dk kvs) ∧ f (D0.lk p kvs) σ (updS S p (.fz kvs))
/-! what is walked -/
def itemsD (kvs : List (Key × D)) : List D := kvs.map fun kv => .tup [kD kv.1, kv.2]
def keysD (kvs : List (Key × D)) : List D := kvs.map fun kv => kD kv.1
def valsD (kvs : List (Key × D)) : List D := kvs.map fun kv => kv.2
def iFz (f : List (Key × D) → List D) (fa : DE) : DI := fun σ S Q => fa σ S fun x S1 => match x with
  | .ref p => ∃ kvs, S1 p = some (.fz kvs) ∧ Q (f kvs) (fun S => S p = some (.fz kvs)) S1
  | _ => False
/-- a target that takes keys as tuples -/
def nUp (g : DG) : DG := fun d σ S Q => g (upD d) σ S Q
end
end DL
/-! sorted(dict); x <= y of tuples -/
namespace DL
open PySem PySem.Spec PyProof.Rows L2
def srtS (ks : List Str) : List Str := ks.mergeSort (PySem.W.dataLe false PyData.str)
section
open PySem.W
variable {X : Cx} {K : PySem.W.Frag} {S : Sto} {H : Hp}
/-- sorted of a dict's keys, texts -/
def gSortedKy : GN := fun xs S Q => match xs with
  | [.ref p] => ∃ kvs ks, S p = some (.dk kvs) ∧ kvs.map (·.1) = ks.map (Sum.inr : Str → Key) ∧ ∀ n, S n = none → Q (.ref n) (updS S n (.lst ((srtS ks).map .str)))
  | _ => False
/-! x <= y -/
def gLe2 : G2 := fun x y S Q => match x, y with
  | .int i, .int j => Q (.bl (decide (i ≤ j))) S
  | .tup xs, .tup ys => ∃ p q, PDs S xs p ∧ PDs S ys q ∧ PySem.W.alikeAll p q = true ∧ (PyData.tuple p).depth ≤ 64 ∧ Q (.bl (!PySem.W.dataLt (.tuple q) (.tuple p))) S
  | _, _ => False
def rLeP (K : PySem.W.Frag) : R2 := fun x y H Q => ∃ d e, Dp K H x d ∧ Dp K H y e ∧ PySem.W.alike d e = true ∧ d ≠ .none ∧ d.depth ≤ 64 ∧ Q (.bl (!PySem.W.dataLt e d)) H
end
end DL
/-! repr of an int, a text or what else is small -/
namespace DL
open PySem L2
def gReprI : GN := fun xs S Q => gReprV xs S Q ∨ ∃ n : Int, xs = [.int n] ∧ n.natAbs.log2 < 1920 ∧ Q (.str (toString n)) S
def rReprI : List V → Hp → VK → Prop := fun xs H Q => ∃ n : Int, xs = [.int n] ∧ n.natAbs.log2 < 1920 ∧ Q (.str (toString n)) H
end DL
/-! set(list of keys), the order of its table followed -/
namespace DL
open PySem PySem.Spec PyProof.Rows L2
section
variable {κ : Type} [DecidableEq κ] {prog : Program} {w : World}
/-- two entries of unlike keys -/
def UnE (knd : PySem.KeyKind prog w κ) (e e' : Int × Value) : Prop := ∀ k, knd.is k e.2 = true → knd.is k e'.2 = true → False
/-- a set whose table can be followed -/
def SetL (knd : PySem.KeyKind prog w κ) (h : Heap) (a : Addr) (S : κ → Bool) (n : Nat) : Prop :=
  ∃ o es ep t, h.get? a = some o ∧ o.ExactSet ∧ o.data = .set es ep t ∧ ElemsOf knd es.toList ∧ (∀ k, S k = true ↔ ∃ e ∈ es.toList, knd.is k e.2 = true) ∧ es.size < scanBound ∧ t.fits es.size = true ∧ es.size = n ∧
    Ris t.place.toList ∧ (w.params.followText "set-order" = true ∨ t.led = true) ∧ es.toList.Pairwise (UnE knd)
variable {knd : PySem.KeyKind prog w κ} {A : Around} {E : Value → Shared → Prop} {s : Shared}
theorem SetL.congr {h : Heap} {a : Addr} {S S' : κ → Bool} {n n' : Nat} (x : SetL knd h a S n) (e : ∀ k, S k = S' k) (en : n = n') : SetL knd h a S' n' := by
  have : S = S' := funext e
  subst this; subst en; exact x
end
end DL
/-! sorted(set(list of texts)) -/
namespace DL
open PySem PySem.Spec PyProof.Rows L2
section
open PySem.W
variable {X : Cx} {K : PySem.W.Frag} {S : Sto} {H : Hp}
def tSortSet (K : PySem.W.Frag) (ta : TE) : TE := fun σ H Q => ta σ H fun x H1 => ∃ (l : Addr) (ks : List Str), x = V.ref l ∧ SqL K H1 l (ks.map V.str) ∧ ks.length + 1 < 4096 ∧
  ∀ us : List Str, us.Nodup → (∀ z, z ∈ us ↔ z ∈ ks) → ∀ p, H1 p = none → Q (.ref p) (upd H1 p (.lst ((srtS us).map V.str)))
def eSortSet (fe : DE) : DE := fun σ S Q => fe σ S fun d S1 => ∃ zs : List Str, itmD S1 d = some (zs.map .str) ∧ zs.length + 1 < 4096 ∧ ∀ us : List Str, us.Nodup → (∀ z, z ∈ us ↔ z ∈ zs) → ∀ n, S1 n = none → Q (.ref n) (updS S1 n (.lst ((srtS us).map .str)))
end
end DL
/-! enumerate(tuple) -/
namespace DL
open PySem PySem.Spec PyProof.Rows L2
/-- the tuple at a, each item in a new pair -/
def IteT (K : PySem.W.Frag) (a : Addr) : It :=
  ⟨fun i H => ∃ (xs : List V) (x : V), SqT K H a xs ∧ xs[i]? = some x, fun i H v H' => ∃ T x, v = .ref T ∧ H T = none ∧ H' = upd H T (.tup [.int (i : Nat), x]) ∧ ∀ xs, SqT K H a xs → xs[i]? = some x, fun i H => ∃ xs : List V, SqT K H a xs ∧ xs.length ≤ i⟩
def iEnumTI (K : PySem.W.Frag) (ta : TA) : TI := fun σ H R => ta σ H fun vs H1 => ∃ a xs, vs = [.ref a] ∧ SqT K H1 a xs ∧ R (IteT K a) H1
section
variable {X : Cx} {fs : DA} {a : Expr} {pos : Pos}
def iEnumT (fs : DA) : DI := fun σ S Q => fs σ S fun ds S1 => match ds with
  | [.tup xs] => Q (enumD xs) (fun _ => True) S1
  | _ => False
end
end DL
/-! xs.extend(a list) -/
namespace DL
open PySem PySem.Spec PyProof.Rows L2
section
variable {X : Cx}
def rExtL (K : PySem.W.Frag) : V → List V → Hp → VK → Prop := fun x vs H Q => rExtT K x vs H Q ∨ ∃ l b xs zs, x = .ref l ∧ vs = [.ref b] ∧ H l = some (.lst xs) ∧ H b = some (.lst zs) ∧ xs.length + zs.length ≤ sizeLine ∧ Q .non (upd H l (.lst (xs ++ zs)))
def gExtendL : D → GN := fun x vs S Q => match x, vs with
  | .ref p, [.tup ds] => ∃ xs, S p = some (.lst xs) ∧ xs.length + ds.length ≤ sizeLine ∧ Q .non (updS S p (.lst (xs ++ ds)))
  | .ref p, [.ref b] => ∃ xs ds, S p = some (.lst xs) ∧ S b = some (.lst ds) ∧ xs.length + ds.length ≤ sizeLine ∧ Q .non (updS S p (.lst (xs ++ ds)))
  | _, _ => False
end
end DL
/-! sum(d.values()) -/
namespace DL
open PySem PySem.Spec PyProof.Rows L2
section
variable {prog : Program} {w : World} {A : Around} {E : Value → Shared → Prop} {s : Shared} {T : String} {r d : Addr} {n : Nat} {P : Nat → Value → Prop} {OK : Heap → Prop} {Q : Value → Shared → Prop}
end
section
variable {X : Cx} {o : Expr} {p pos apos mpos : Pos} {td : TE} {fo : DE}
def tSumVals (td : TE) : TE := fun σ H Q => td σ H fun x H1 => ∃ (a : Addr) (kvs : List (Key × V)) (ns : List Int), x = V.ref a ∧ H1 a = some (.dK kvs) ∧ kvs.map (·.2) = ns.map V.int ∧ Q (.int ns.sum) H1
def eSumV (fo : DE) : DE := fun σ S Q => fo σ S fun o S1 => match o with
  | .ref p => ∃ (kvs : List (Key × D)) (ns : List Int), S1 p = some (.dk kvs) ∧ kvs.map (·.2) = ns.map D.int ∧ Q (.int ns.sum) S1
  | _ => False
end
end DL
/-! sorted(set(list of ints)) -/
namespace DL
open PySem PySem.Spec PyProof.Rows L2
def srtI (ks : List Int) : List Int := ks.mergeSort (PySem.W.dataLe false PyData.int)
section
open PySem.W
variable {X : Cx} {K : PySem.W.Frag} {S : Sto} {H : Hp}
def tSortSetI (K : PySem.W.Frag) (ta : TE) : TE := fun σ H Q => ta σ H fun x H1 => ∃ (l : Addr) (ks : List Int), x = V.ref l ∧ SqL K H1 l (ks.map V.int) ∧ ks.length + 1 < 4096 ∧
  ∀ us : List Int, us.Nodup → (∀ z, z ∈ us ↔ z ∈ ks) → ∀ p, H1 p = none → Q (.ref p) (upd H1 p (.lst ((srtI us).map V.int)))
def eSortSetI (fe : DE) : DE := fun σ S Q => fe σ S fun d S1 => ∃ zs : List Int, itmD S1 d = some (zs.map .int) ∧ zs.length + 1 < 4096 ∧ ∀ us : List Int, us.Nodup → (∀ z, z ∈ us ↔ z ∈ zs) → ∀ n, S1 n = none → Q (.ref n) (updS S1 n (.lst ((srtI us).map .int)))
end
end DL
/-! zip(a tuple, a list, a list) -/
namespace DL
open PySem PySem.Spec PyProof.Rows L2
/-- the tuple at a and the lists at b and c as they stand at each turn, the items in new triples -/
def It3 (K : PySem.W.Frag) (a b c : Addr) : It :=
  ⟨fun i H => ∃ (xs ys zs : List V) (x y z : V), SqT K H a xs ∧ SqL K H b ys ∧ SqL K H c zs ∧ xs[i]? = some x ∧ ys[i]? = some y ∧ zs[i]? = some z,
    fun i H v H' => ∃ T x y z, v = .ref T ∧ H T = none ∧ H' = upd H T (.tup [x, y, z]) ∧ (∀ xs, SqT K H a xs → xs[i]? = some x) ∧ (∀ ys, SqL K H b ys → ys[i]? = some y) ∧ ∀ zs, SqL K H c zs → zs[i]? = some z,
    fun i H => ∃ xs ys zs : List V, SqT K H a xs ∧ SqL K H b ys ∧ SqL K H c zs ∧ i ≤ xs.length ∧ i ≤ ys.length ∧ i ≤ zs.length ∧ (i = xs.length ∨ i = ys.length ∨ i = zs.length)⟩
def iZip3A (K : PySem.W.Frag) (ta : TA) : TI := fun σ H R => ta σ H fun vs H1 => ∃ a b c xs ys zs, vs = [.ref a, .ref b, .ref c] ∧ SqT K H1 a xs ∧ SqL K H1 b ys ∧ SqL K H1 c zs ∧ R (It3 K a b c) H1
section
variable {X : Cx} {fs : DA} {a b c : Expr} {pos : Pos}
def trips (xs ys zs : List D) : List D := (xs.zip (ys.zip zs)).map fun p => .tup [p.1, p.2.1, p.2.2]
def iZip3D (fs : DA) : DI := fun σ S Q => fs σ S fun ds S1 => match ds with
  | [.tup xs, .ref q, .ref r] => ∃ ys zs, S1 q = some (.lst ys) ∧ S1 r = some (.lst zs) ∧ Q (trips xs ys zs) (fun S => S q = some (.lst ys) ∧ S r = some (.lst zs)) S1
  | _ => False
end
end DL
/-! zip(a tuple, a list) -/
namespace DL
open PySem PySem.Spec PyProof.Rows L2
/-- the tuple at a and the list at b as they stand at each turn, the items in new pairs -/
def It2 (K : PySem.W.Frag) (a b : Addr) : It :=
  ⟨fun i H => ∃ (xs ys : List V) (x y : V), SqT K H a xs ∧ SqL K H b ys ∧ xs[i]? = some x ∧ ys[i]? = some y,
    fun i H v H' => ∃ T x y, v = .ref T ∧ H T = none ∧ H' = upd H T (.tup [x, y]) ∧ (∀ xs, SqT K H a xs → xs[i]? = some x) ∧ (∀ ys, SqL K H b ys → ys[i]? = some y),
    fun i H => ∃ xs ys : List V, SqT K H a xs ∧ SqL K H b ys ∧ i ≤ xs.length ∧ i ≤ ys.length ∧ (i = xs.length ∨ i = ys.length)⟩
def iZipMA (K : PySem.W.Frag) (ta : TA) : TI := fun σ H R => ta σ H fun vs H1 => ∃ a b xs ys, vs = [.ref a, .ref b] ∧ SqT K H1 a xs ∧ SqL K H1 b ys ∧ R (It2 K a b) H1
section
variable {X : Cx} {fs : DA} {a b : Expr} {pos : Pos}
def iZipM (fs : DA) : DI := fun σ S Q => fs σ S fun ds S1 => match ds with
  | [.tup xs, .ref q] => ∃ ys, S1 q = some (.lst ys) ∧ Q (pairs xs ys) (fun S => S q = some (.lst ys)) S1
  | _ => False
end
end DL
/-! x or y, x and y, not x as values, by truth -/
namespace DL
open PySem PySem.Spec PyProof.Rows L2
section
variable {X : Cx} {K : PySem.W.Frag} {e a b c : Expr} {es : List Expr} {fe fa fb fc : DE} {pos : Pos} {S : Sto} {H : Hp} {rest : List Expr}
/-- the truth of data -/
def truD (d : D) (S : Sto) (R : Bool → Prop) : Prop := match d with
  | .non => R false
  | .bl k => R k
  | .int i => R (i != 0)
  | .str y => y.length ≤ sizeLine ∧ R (y.length != 0)
  | .tup xs => R (!xs.isEmpty)
  | .ref p => (match S p with
    | some (.lst xs) => R (!xs.isEmpty)
    | some (.dk kvs) => R (!kvs.isEmpty)
    | _ => False)
  | _ => False
def eOrT (fa fb : DE) : DE := fun σ S Q => fa σ S fun x S1 => truD x S1 fun k => if k = true then Q x S1 else fb σ S1 Q
def eAndT (fa fb : DE) : DE := fun σ S Q => fa σ S fun x S1 => truD x S1 fun k => if k = true then fb σ S1 Q else Q x S1
end
end DL
/-! sorted(xs, key=lambda x: ..), dicts among the captured names -/
namespace DL
open PySem PySem.Spec PyProof.Rows L2 LamX NdefX
/-- tuples and lists of H, locked as they stand in h -/
def lkG (h : Heap) (H : Hp) : Hp := fun b => match H b with
  | some (.tup xs) => (h.get? b).map fun o => .frz o (.tup xs)
  | some (.lst xs) => (h.get? b).map fun o => .frz o (.lst xs)
  | some (.dK xs) => (h.get? b).map fun o => .frz o (.dK xs)
  | some (.frz o (.tup xs)) => some (.frz o (.tup xs))
  | some (.frz o (.lst xs)) => some (.frz o (.lst xs))
  | _ => none
section
variable {P : Program} {w : World} {K : PySem.W.Frag} {h h1 : Heap} {H : Hp}
theorem lkG_tup {a : Addr} {xs : List V} (ok : HOk P w H h) (k : ∀ b o, H b ≠ none → h.get? b = some o → h1.get? b = some o) (e : Rd H a (.tup xs)) : Rd (lkG h1 H) a (.tup xs) := by
  rcases e with e | ⟨o, e⟩
  · obtain ⟨_, its, r, o, e1, _⟩ := (show ObjOk P w H h a (.tup xs) from ok a _ e)
    refine .inr ⟨o, ?_⟩
    unfold lkG
    rw [e]
    dsimp only
    rw [k a o (by rw [e]; exact fun z => by cases z) e1]
    rfl
  · refine .inr ⟨o, ?_⟩
    unfold lkG
    rw [e]
mutual
theorem rep_lkG (ok : HOk P w H h) (k : ∀ b o, H b ≠ none → h.get? b = some o → h1.get? b = some o) : ∀ {v : V} {d : D}, Rep K H v d → nr d = true → Rep K (lkG h1 H) v d
  | _, _, .non, _ => .non
  | _, _, .bl b, _ => .bl b
  | _, _, .int b, _ => .int b
  | _, _, .str b, _ => .str b
  | _, _, .ty b, _ => .ty b
  | _, _, .ref b, hn => by unfold nr at hn; cases hn
  | _, _, .fl h r, hn => by unfold nr at hn; cases hn
  | _, _, .exc n h, hn => by unfold nr at hn; cases hn
  | _, _, .kt h, hn => by unfold nr at hn; cases hn
  | _, _, .nt h _, hn => by unfold nr at hn; cases hn
  | _, _, .cls n, hn => .cls n
  | _, _, .tup h2 r, hn => by
    unfold nr at hn
    refine .tup ?_ (reps_lkG ok k r hn)
    rcases h2 with h2 | h2
    · exact .inl (lkG_tup ok k h2)
    · exact .inr h2
theorem reps_lkG (ok : HOk P w H h) (k : ∀ b o, H b ≠ none → h.get? b = some o → h1.get? b = some o) : ∀ {vs : List V} {ds : List D}, Reps K H vs ds → nrs ds = true → Reps K (lkG h1 H) vs ds
  | _, _, .nil, _ => .nil
  | _, _, .cons h r, hn => by
    unfold nrs at hn
    rw [Bool.and_eq_true] at hn
    exact .cons (rep_lkG ok k h hn.1) (reps_lkG ok k r hn.2)
end
end
/-- what a captured name holds, as the lambda sees it while the list is sorted -/
def CapG (K : PySem.W.Frag) (H : Hp) (v : V) (d : D) : Prop := (Rep K H v d ∧ nr d = true) ∨ (∃ b vs ds, v = .ref b ∧ H b = some (.lst vs) ∧ Reps K H vs ds ∧ nrs ds = true ∧ d = .fl ds) ∨ ∃ b, v = .ref b ∧ d = .ref b
/-- the dicts that a lambda reads -/
def DictsG (K : PySem.W.Frag) (H : Hp) (Sf : Sto) : Prop := ∀ b o, Sf b = some o → ∃ kvs ws, o = .fz kvs ∧ H b = some (.dK ws) ∧ KReps K H ws kvs ∧ ∀ p ∈ kvs, nr p.2 = true
section
variable {X : Cx} {pins : List (Addr × Obj)} {σ : L2.St} {H : Hp} {s s1 : Shared}
end
section
open PySem.W
variable {X : Cx} {pins : List (Addr × Obj)} {σ : L2.St} {H : Hp} {s : Shared}
end
/-! ### the rule -/
/-- what a slot holds, as the lambda sees it -/
def CapDG (S : Sto) (σ : Env) (j : Nat) (d : D) : Prop := (getS j σ = some d ∧ nr d = true) ∨ (∃ b ds, getS j σ = some (.ref b) ∧ S b = some (.lst ds) ∧ nrs ds = true ∧ d = .fl ds) ∨ ∃ b, getS j σ = some (.ref b) ∧ d = .ref b
/-- dicts of the store, read alone -/
def DictsS (S Sf : Sto) : Prop := ∀ b o, Sf b = some o → ∃ kvs, o = .fz kvs ∧ S b = some (.dk kvs) ∧ ∀ p ∈ kvs, nr p.2 = true
theorem DictsS.g {K : PySem.W.Frag} {S Sf : Sto} {H : Hp} (h : DictsS S Sf) (r : SRep K S H) : DictsG K H Sf := fun b o e => by
  obtain ⟨kvs, rfl, e1, n⟩ := h b o e
  obtain ⟨ws, e2, e3⟩ := r b _ e1
  exact ⟨kvs, ws, rfl, e2, e3, n⟩
def keyedLG (fb : DE) (cs : List D) (Sf : Sto) (xs : List D) (R : List D → Prop) : Prop := ∃ kd : D → PyData, (∀ d ∈ xs, nr d = true ∧ fb (some d :: cs.map some) Sf fun e _ => PD S0 e (kd d)) ∧ PySem.W.AllAlike (xs.map kd) ∧ PySem.W.Sortable (xs.map kd) ∧ (∀ d ∈ xs, (kd d).depth ≤ 32) ∧ R (xs.mergeSort (PySem.W.dataLe false kd))
def eSortLG (P : Addr) (q : Str) (js : List Nat) (fb : DE) (fa : DE) : DE := fun σ S Q => fa σ S fun x S1 => match x with
  | .ref p => S1 P = some (.tab q) ∧ ∃ xs cs Sf, S1 p = some (.lst xs) ∧ DictsS S1 Sf ∧ cs.length = js.length ∧ (∀ (i j : Nat) (d : D), js[i]? = some j → cs[i]? = some d → CapDG S1 σ j d) ∧ keyedLG fb cs Sf xs fun ys => ∀ n, S1 n = none → Q (.ref n) (updS S1 n (.lst ys))
  | _ => False
def SLqG (K : PySem.W.Frag) (P : Addr) (q : Str) (js : List Nat) (fb : DE) (sv : L2.St) (Kt : VK) (v : V) (H1 : Hp) : Prop := ∃ (a : Addr) (xs : List V) (ds : List D) (kd : D → PyData) (S : Sto) (cs : List D) (Sf : Sto), v = V.ref a ∧ DictsS S Sf ∧ SqL K H1 a xs ∧ Reps K H1 xs ds ∧ SRep K S H1 ∧ S P = some (.tab q) ∧ cs.length = js.length ∧
  (∀ (i j : Nat) (d : D), js[i]? = some j → cs[i]? = some d → ∃ cv, sv[j]? = some (some cv) ∧ ((Rep K H1 cv d ∧ nr d = true) ∨ (∃ b ds, cv = .ref b ∧ S b = some (.lst ds) ∧ nrs ds = true ∧ d = .fl ds) ∨ ∃ b, cv = .ref b ∧ d = .ref b)) ∧
  (∀ d ∈ ds, nr d = true ∧ fb (some d :: cs.map some) Sf fun e _ => PD S0 e (kd d)) ∧ PySem.W.AllAlike (ds.map kd) ∧ PySem.W.Sortable (ds.map kd) ∧ (∀ d ∈ ds, (kd d).depth ≤ 32) ∧
  ∀ (H2 : Hp) (p : Addr) (ys : List V), Stp K S H1 S H2 → SRep K S H2 → H2 p = none → Reps K H2 ys (ds.mergeSort (PySem.W.dataLe false kd)) → Kt (.ref p) (upd H2 p (.lst ys))
def tSLG (K : PySem.W.Frag) (P : Addr) (q : Str) (js : List Nat) (fb : DE) (te : TE) : TE := fun sv H Kt => te sv H (SLqG K P q js fb sv Kt)
section
variable {X : Cx}
end
end DL
/-! dict(d); list(d); d.update(list of pairs) -/
namespace DL
open PySem PySem.Spec PyProof.Rows L2
section
variable {X : Cx} {K : PySem.W.Frag} {S : Sto} {H : Hp}
def gDictC : GN := fun xs S Q => match xs with
  | [.ref a] => ∃ kvs, S a = some (.dk kvs) ∧ ∀ p, S p = none → Q (.ref p) (updS S p (.dk kvs))
  | _ => False
def gListC : GN := fun xs S Q => match xs with
  | [.ref a] => ∃ kvs, S a = some (.dk kvs) ∧ ∀ p, S p = none → Q (.ref p) (updS S p (.lst (kvs.map fun q => kD q.1)))
  | _ => False
/-! ### d.update(pairs) -/
def rUpdP (K : PySem.W.Frag) : V → List V → Hp → VK → Prop := fun x xs H Q => ∃ (d l : Addr) (ps : List Addr) (acc kvs : List (Key × V)), x = .ref d ∧ xs = [.ref l] ∧ H d = some (.dK acc) ∧ SqL K H l (ps.map V.ref) ∧ Paired (fun p kv => SqT K H p [kV kv.1, kv.2]) ps kvs ∧
  acc.length + kvs.length ≤ sizeLine ∧ Q .non (upd H d (.dK (mergeK acc kvs)))
def gUpdP : D → GN := fun x xs S Q => match x, xs with
  | .ref d, [.ref a] => ∃ acc ds kvs, S d = some (.dk acc) ∧ S a = some (.lst ds) ∧ pairsD ds = some kvs ∧ acc.length + kvs.length ≤ sizeLine ∧ Q .non (updS S d (.dk (mergeD acc kvs)))
  | _, _ => False
end
end DL
/-! len(set(list)) of texts, whole numbers, None; a text times 0 or 1 -/
namespace DL
open PySem PySem.Spec PyProof.Rows L2
/-- how many unlike leaves -/
def dstL (ks : List Leaf) : Nat := cntU (fun i => ks.getD i .none) ks.length
def lfV : Leaf → V
  | .none => .non
  | .num i => .int i
  | .text x => .str x
def toLf : D → Option Leaf
  | .non => some .none
  | .int i => some (.num i)
  | .str x => some (.text x)
  | _ => none
def asLs : List D → Option (List Leaf)
  | [] => some []
  | d :: r => match toLf d, asLs r with
    | some k, some ks => some (k :: ks)
    | _, _ => none
def tLenSetL (K : PySem.W.Frag) (ta : TE) : TE := fun σ H Q => ta σ H fun x H1 => ∃ l ks, x = V.ref l ∧ SqL K H1 l (ks.map lfV) ∧ ks.length + 1 < 4096 ∧ Q (.int (dstL ks)) H1
def eLenSetL (fe : DE) : DE := fun σ S Q => fe σ S fun d S1 => ∃ ds ks, itmD S1 d = some ds ∧ asLs ds = some ks ∧ ks.length + 1 < 4096 ∧ Q (.int (dstL ks)) S1
/-! ### a text times 0 or 1 -/
section
variable {X : Cx} {a b : Expr} {fa fb : DE} {pos : Pos}
def mulS1 (z : Str) (k : Int) : Str := if k < 1 then Str.empty else z
def rMulS : R2 := fun x y H Q => ∃ z k, x = .str z ∧ y = .int k ∧ 0 ≤ k ∧ k ≤ 1 ∧ Q (.str (mulS1 z k)) H
def gMulS : G2 := fun x y S Q => match x, y with
  | .str z, .int k => 0 ≤ k ∧ k ≤ 1 ∧ Q (.str (mulS1 z k)) S
  | _, _ => False
end
end DL
/-! a lambda without parameters handed to a def that catches what it raises -/
namespace DL
open PySem PySem.Spec PyProof.Rows L2 LamX
abbrev ASK := Sto → DK → EK → Prop
abbrev MFL := ASK → Sto → DK → Prop
/-- what the lambda's body does, read at the env of the def that made it -/
def TLd (K : PySem.W.Frag) (mg : Str → Option Value) (sv : L2.St) (fe : DEX) : XK → Hp → VK → Prop := fun E H Q => ∃ (σ : Env) (S : Sto) (Qd : DK) (Ed : EK), ERep K H sv σ ∧ SRep K S H ∧ fe Ed σ S Qd ∧ Rch K S H Qd Q ∧ RchK K mg S H Ed E
section
variable {X : Cx} {pins : List (Addr × Obj)} {σ : L2.St} {H HZ : Hp} {s s1 : Shared}
theorem pe_actG {CXg : CXT} {Eg : XK} {Ng : List Str} {qg : Str} {sg : Scope} {g f c' : Addr} {cdg pm ctv : Value} {params : Arguments} {body : Expr} {scope : Scope} {k i : Nat} {a : Str} {pn : List (Addr × Obj)} {xe : Value → Shared → Prop} {W : WX} {fe : DEX} {p1 p2 : Pos}
    (I : Inv X pins σ H s) (L : LamS X.env.scope scope) (hf : s.heap.get? f = some (PySem.W.kla_obj "<lambda>" (X.env.qual ++ "<lambda>") params body scope (cloFrom X.env.cells scope.names []) pm c' ctv)) (hfn : H f = none) (hfr : f ∉ frs X.stack)
    (hbind : bindArgs (PySem.W.kla_fn "<lambda>" (X.env.qual ++ "<lambda>") params body scope (cloFrom X.env.cells scope.names []) pm (.ref c') ctv) ⟨[], []⟩ = pure [])
    (tk : L2.Takes ((cxOf CXg X.prog X.w X.K X.mg X.base Ng qg sg g cdg X.A X.stack s H Eg).tr pn xe) W) (hr : RoomG (k + 1) (X.A.deeper (envOfC qg sg s.heap.objs.size g cdg)))
    (hbody : ∀ (A : Around) (outer : List PySem.Env) (s : Shared) (H : Hp) (E : XK), RoomG k (A.deeper (lamEnv X scope s.heap.objs.size f c')) → CEX (lamCx X A outer s H E scope f c') body fe)
    (hN : Ng[i]? = some a) (hv : Vis sg a) (hd : (a == ("__debug__" : Str)) = false := by decide) (hcd : (a == ("__classdict__" : Str)) = false := by decide) :
    PE ((cxOf CXg X.prog X.w X.K X.mg X.base Ng qg sg g cdg X.A X.stack s H Eg).tr pn xe) (.Call (.Name a p1) [] [] p2)
      (fun σZ HZ Q => σZ[i]? = some (some (.ref f)) ∧ HZ c' = some (CodeO c' (X.env.qual ++ "<lambda>")) ∧ TLd X.K X.mg σ fe (WE W σZ) HZ Q) := by
  refine ⟨fun pinsZ sZ σZ HZ Q IZ h => ?_⟩
  obtain ⟨hs, hc, ht⟩ := h
  refine wpAny_Call_Name_kw (thn ((pe_var (pos := p1) (i := i) hN hv hd hcd).run pinsZ sZ σZ HZ (fun v H1 => v = .ref f ∧ H1 = HZ) IZ ⟨.ref f, hs, rfl, rfl⟩) fun u s1 ⟨v, H1, I1, r1, q1⟩ => ?_)
  obtain ⟨ev, eH⟩ := q1
  subst ev
  rw [eH] at I1
  obtain rfl : u = Value.ref f := r1
  have of1 : s1.heap.get? f = some (PySem.W.kla_obj "<lambda>" (X.env.qual ++ "<lambda>") params body scope (cloFrom X.env.cells scope.names []) pm c' ctv) := I1.base.keep f _ hf hfn hfr (fun z => nomatch (show f ∈ ([] : List Addr) from z))
  refine PySem.W.callWith_F0 ⟨_, _, _, _, of1⟩ ?_
  have un : Un (frs X.stack) [] H HZ s.heap s1.heap := I1.base
  obtain ⟨⟨oc, vs, t, hoc, hdc, hvc⟩, _, _⟩ := I1.hok c' _ hc
  have rc : codeAny (model X.prog X.w) (X.A.deeper (envOfC qg sg s.heap.objs.size g cdg)) (.call (.ref f) ⟨[], []⟩) (CR (L2.CX X.prog X.w) (envOfC qg sg s.heap.objs.size g cdg :: X.stack) X.prog X.w HZ s1 Q (WE W σZ)) s1 := by
    refine PySem.W.kla_callFunE hr.toRoom.depth of1 rfl L.co L.gen rfl ⟨c', oc, vs, t, rfl, hoc, hdc, hvc⟩ ?_
    rw [hbind]
    refine wpAny_pure (wpAny_newFunctionEnv (fun y hy => (L.own y hy).2) (fun y hy => absurd hy (by simp)) (fun h₁ hns hsb => ⟨I1.nolimit.fresh _ hsb, ?_⟩) L.kind)
    show codeAny _ _ (.expr body (lamEnv X scope s1.heap.objs.size f c')) _ _
    have kp : ∀ b o, s1.heap.get? b = some o → h₁.get? b = some o := fun b o e => hsb.extBut b o (Nat.ne_of_lt (Heap.lt_size e)) (Heap.get?_push_of_some _ e)
    have J : Inv (lamCx X (X.A.deeper (envOfC qg sg s.heap.objs.size g cdg)) (envOfC qg sg s.heap.objs.size g cdg :: X.stack) s1 HZ (WE W σZ) scope f c') [] σ HZ { s1 with heap := h₁, toks := s1.toks + ([] : List (Str × Value)).length } :=
      lam_start2 I L I1.env0 hr.hd un hns kp
    obtain ⟨tb, hb, sn⟩ := (hbody (X.A.deeper (envOfC qg sg s.heap.objs.size g cdg)) (envOfC qg sg s.heap.objs.size g cdg :: X.stack) s1 HZ (WE W σZ) ⟨hr.toRoom.deeper _, hr.gd⟩).ok
    obtain ⟨σd, Sd, Qd, Ed, h1, h2, h3, h4, h5⟩ := ht
    refine PySem.W.kla_codeExpr (wpAny_mono ((hb (WE W σZ) (takes_of rfl rfl rfl rfl)).run [] _ _ HZ Q J (sn Ed (WE W σZ) σd Sd Qd σ HZ Q h1 h2 h3 h4 h5)) (fun v s' hq => ?_) fun e s' hq => hq)
    obtain ⟨w', H', J', rv, q⟩ := hq
    exact ⟨w', H', J'.os, J'.bare, J'.base, J'.hok, rv, q⟩
  refine wpAny_call (codeAny_mono rc fun r s' hq => ?_)
  cases r with
  | error e => exact passAt tk σZ pinsZ HZ s1 e s' I1 hq
  | ok fl =>
    cases fl with
    | ret u => exact I1.after hq
    | next => exact False.elim hq
    | brk => exact False.elim hq
    | cont => exact False.elim hq
end
theorem run_ofSG {CX : CXT} {P : Program} {w : World} {K : PySem.W.Frag} {mg : Str → Option Value} {base : Heap} {k : Nat} {f : Addr} {name qual : Str} {params : Arguments} {body : List Stmt} {scope : Scope} {dV kV doc pm cdv ct oc : Value} {an od : Option Addr}
    {osl : Array (Option Value)} {N ps : List Str} (lk : K.lookup f = some ⟨oc, od, .func (PySem.W.fnOf name qual params body scope dV kV doc pm an cdv ct), osl⟩) (hcd : PySem.W.codeIn K cdv qual = true) (S : FnScope N ps scope)
    {A : Around} {outer : List PySem.Env} {s : Shared} {H : Hp} {args : Args} {us : List Value} {vs : List V} {Q : VK} {E : XK} (hr : RoomG (k + 1) A) (e0 : Env0 P w K mg base A outer s H) (hb : BindsTo s (PySem.W.fnOf name qual params body scope dV kV doc pm an cdv ct) args (ps.zip us)) (r : Vals vs us) (hl : vs.length = ps.length)
    (hbody : RoomG k (A.deeper (envOfC qual scope s.heap.objs.size f cdv)) → ∃ t, PSs (cxOf CX P w K mg base N qual scope f cdv A outer s H E) body t ∧ t { nx := fun _ H' => Q .non H', rt := Q } (L2.start N vs) H) :
    codeAny (model P w) A (.call (.ref f) args) (CR CX outer P w H s Q E) s := by
  have KX : K.In s.heap := e0.mod.kin.keeps fun b o e => (e0.bs b o e).1
  have lim : s.heap.NoLimit := e0.mod.nolimit.keeps fun b o e => (e0.bs b o e).1
  have hkind : ∀ y ∈ ps.zip us, scope.names.lookup y.1 = some .local ∨ (scope.names.lookup y.1 = some .cell ∧ ((cellsFrom (s.heap.objs.size + 1) scope.names []).lookup y.1).isSome = true) := fun ⟨n, v⟩ hy => by
    rcases S.par n (List.of_mem_zip hy).1 with q | q
    · exact .inl q
    · exact .inr ⟨q, PySem.W.cellsFrom_some _ _ _ (.inl q)⟩
  refine codeAny_call_function hr.toRoom.depth (KX _ _ lk) rfl S.co S.gen rfl (PySem.W.codeRec_of KX hcd) (hb _ _ _ _ ?_)
  refine wpAny_newFunctionEnv_cells S.kind hkind fun env he s1 x => ?_
  subst he
  refine ⟨lim.keeps x.toInCall.keep, codeAny_func ?_⟩
  obtain ⟨t, ht, hq⟩ := hbody ⟨hr.toRoom.deeper _, hr.gd⟩
  have I : Inv (cxOf CX P w K mg base N qual scope f cdv A outer s H E) [] (L2.start N vs) H s1 := inv_start S hr.hd e0 hl r x
  refine wpAny_mono (ht.run [] s1 (L2.start N vs) H _ I hq) (fun fl s' hs => ?_) fun e s' hs => hs
  have fin : ∀ {σ' : L2.St} {H' : Hp} {v : V} {u : Value}, Inv (cxOf CX P w K mg base N qual scope f cdv A outer s H E) [] σ' H' s' → L2.RelV v u → Q v H' → L2.CE outer P w H s Q u s' :=
    fun {σ' H' v u} J rv q => ⟨v, H', J.os, J.bare, J.base, J.hok, rv, q⟩
  cases fl with
  | ret u =>
    obtain ⟨v, σ', H', J, rv, q⟩ := hs
    exact fin J rv q
  | next =>
    obtain ⟨σ', H', J, q⟩ := hs
    exact fin (v := V.non) (u := Value.none) J rfl q
  | brk =>
    obtain ⟨_, _, _, q⟩ := hs
    exact False.elim q
  | cont =>
    obtain ⟨_, _, _, q⟩ := hs
    exact False.elim q
/-! ### the def that gets the lambda -/
/-- a(), in the context X: its reading -/
def ActOk (X : Cx) (a : Str) (f c' : Addr) (q : Str) (tl : XK → Hp → VK → Prop) : Prop :=
  ∀ (W : WX) (pn : List (Addr × Obj)) (xe : Value → Shared → Prop) (p1 p2 : Pos), L2.Takes (X.tr pn xe) W → PE (X.tr pn xe) (.Call (.Name a p1) [] [] p2) (fun σZ HZ Q => σZ[0]? = some (some (.ref f)) ∧ HZ c' = some (CodeO c' q) ∧ tl (WE W σZ) HZ Q)
def AskAt (K : PySem.W.Frag) (mg : Str → Option Value) (S : Sto) (H : Hp) (ask : ASK) (tl : XK → Hp → VK → Prop) : Prop := ∀ (Qd : DK) (Ed : EK) (Q : VK) (E : XK), ask S Qd Ed → Rch K S H Qd Q → RchK K mg S H Ed E → tl E H Q
structure CSG (X : Cx) (a : Str) (body : List Stmt) (g : ASK → DS) : Prop where
  ok : ∀ (f c' : Addr) (q : Str) (tl : XK → Hp → VK → Prop), ActOk X a f c' q tl → ∃ t : TS, PSs X.nox body t ∧
    ∀ (D0 : DEnds) (σ : Env) (S : Sto) (Dv : Ends) (sv : L2.St) (H : Hp) (ask : ASK), ERep X.K H sv σ → SRep X.K S H → g ask D0 σ S → RchE X.K S H D0 Dv → H c' = some (CodeO c' q) → sv[0]? = some (some (.ref f)) → AskAt X.K X.mg S H ask tl → t Dv sv H
section
variable {X : Cx}
theorem csg_none {a y : Str} {i : Nat} {rest : List Stmt} {g : ASK → DS} {j : Nat} {p1 p2 pos : Pos} (i0 : i ≠ 0) (hN : X.N.Nodup) (hi : X.N[i]? = some y) (hx : Loc X.env.scope y) (h : CSG X a rest g) (hs : swapsWith (.Constant .none j p2) (some (.Name y p1)) pos.line X.env = pure false := by rfl)
    (hf : X.fn y = true ∨ X.env.scope.names.lookup y = some .local := by first | exact .inl rfl | exact .inr rfl | assumption) :
    CSG X a (.Assign [.Name y p1] (.Constant .none j p2) pos :: rest) (fun ask D0 σ S => g ask D0 (setS i .non σ) S) := by
  refine ⟨fun f c' q tl act => ?_⟩
  obtain ⟨t, ht, sn⟩ := h.ok f c' q tl act
  refine ⟨_, pss_cons (ps_set (X := X.nox) hN hi hx pe_non hs hf) ht, fun D0 σ S Dv sv H ask re rs q k hc h0 hA => ?_⟩
  refine sn D0 (setS i .non σ) S Dv (sv.set i (some .non)) H ask (re.set .non) rs q k hc ?_ hA
  rw [List.getElem?_set_ne i0]
  exact h0
/-- try: a() / except C as e: y = e; the rest -/
def gAsk (i j : Nat) (L : List Str) (g : DS) : ASK → DS := fun ask D0 σ S => ask S (fun _ S2 => g D0 σ S2) fun c S2 => c ∈ L ∧ g D0 ((setS j (.exc c) σ).set i none) S2
/-- try: z = a() / except C as e: y = e; the rest -/
def gAskS (i j z : Nat) (L : List Str) (g : DS) : ASK → DS := fun ask D0 σ S => ask S (fun d S2 => g D0 (setS z d σ) S2) fun c S2 => c ∈ L ∧ g D0 ((setS j (.exc c) σ).set i none) S2
theorem csg_tryS {i j z : Nat} {a y e y2 c0 : Str} {L : List Str} {rest : List Stmt} {g : DS} {np pp p1 p2 p3 p4 pos pos2 pos3 pos4 : Pos} (hs : X.stack = X.env :: X.outer) (hf : X.env.frame = some X.env.locals) (hex : X.ex = []) (hN : X.N.Nodup) (hi : X.N[i]? = some e) (hln : X.env.scope.names.lookup e = some .local)
    (hj : X.N[j]? = some y) (hly : X.env.scope.names.lookup y = some .local) (hz : X.N[z]? = some y2) (hlz : X.env.scope.names.lookup y2 = some .local) (hij : i ≠ j) (Hd : HndT X.K X.mg c0 L) (hrest : CSs X.nox rest g) (hg0 : Gl X.nox c0 := by rfl) (hdb : (c0 == ("__debug__" : Str)) = false := by decide) (hdn : (e == ("__debug__" : Str)) = false := by decide) (hcn : (e == ("__classdict__" : Str)) = false := by decide)
    (hsw : swapsWith (.Name e p2) (some (.Name y p1)) p3.line X.env = pure false := by rfl) (hsw2 : swapsWith (.Call (.Name a pp) [] [] pos) (some (.Name y2 p4)) pos2.line X.env = pure false := by rfl) :
    CSG X a (.Try [.Assign [.Name y2 p4] (.Call (.Name a pp) [] [] pos) pos2] [.ExceptHandler (some (.Name c0 np)) (some e) [.Assign [.Name y p1] (.Name e p2) p3] pos3] [] [] pos4 :: rest) (gAskS i j z L g) := by
  refine ⟨fun f c' q tl act => ?_⟩
  obtain ⟨C, hC, hL⟩ := Hd.ex
  obtain ⟨tr, hr, sr⟩ := hrest.ok
  have hc0 : Names X.nox c0 (.ref C) := ⟨hg0, hdb, .inl hC⟩
  refine ⟨_, pss_cons (ps_try_keep (X := X.nox) hs hf hex hN hi hln (.inl hln) hdn hcn hj hly hij hc0 L2.takes0 hsw
      (tb := fun W D σ H => σ[0]? = some (some (.ref f)) ∧ H c' = some (CodeO c' q) ∧ tl (WE W σ) H fun v H' => D.nx (σ.set z (some v)) H') (fun W pn xe tk _ => ?_)) hr, fun D0 σ S Dv sv H ask re rs qq k hc h0 hA => ?_⟩
  · refine pss_one ⟨fun pins s σ H D I h => ?_⟩
    exact (ps_set (X := X.nox.tr pn xe) hN hz (.inl hlz) (act W pn xe pp pos tk) hsw2 (.inr hlz)).run pins s σ H D I h
  · have kk : RchE X.K S H { D0 with nx := g D0 } { Dv with nx := tr Dv } := ⟨fun sv' σ' S' H' st' r' e' q' => sr D0 σ' S' Dv sv' H' e' r' q' (k.stp st'), k.rt, k.bk, k.ct⟩
    refine ⟨h0, hc, hA (fun d S2 => g D0 (setS z d σ) S2) (fun c S2 => c ∈ L ∧ g D0 ((setS j (.exc c) σ).set i none) S2) _ _ qq (fun v d S2 H2 s2 r2 v2 q2 => ?_) (fun c cls S2 H2 s2 r2 e2 q2 => ?_)⟩
    · exact kk.nx _ _ _ _ s2 r2 ((re.mono s2.tx).set v2) q2
    · obtain ⟨hc, q2⟩ := q2
      obtain ⟨C', g1, n1, g2⟩ := hL c hc
      rw [e2] at g1
      cases g1
      exact ⟨true, g2, fun _ => ⟨C', rfl, rfl, fun b hb => keep_rch re kk s2 r2 n1 hb q2⟩, fun z => nomatch z⟩
end
/-! ### the call -/
/-- a def that gets one lambda does m -/
structure OkL (P : Program) (w : World) (K : PySem.W.Frag) (mg : Str → Option Value) (base : Heap) (k : Nat) (x : Str) (m : MFL) : Prop where
  ex : ∃ (g : Addr) (pg : Arguments) (bg : List Stmt) (sg : Scope) (kV doc pm cdv ct oc : Value) (an od : Option Addr) (osl : Array (Option Value)) (a : Str) (Ng : List Str) (b : ASK → DS), mg x = some (.ref g) ∧ PySem.W.keepIn K (.ref g) = true ∧
    K.lookup g = some ⟨oc, od, .func (PySem.W.fnOf x x pg bg sg .none kV doc pm an cdv ct), osl⟩ ∧ PySem.W.codeIn K cdv x = true ∧ Binds K (PySem.W.fnOf x x pg bg sg .none kV doc pm an cdv ct) [a] [] ∧ FnScope Ng [a] sg ∧ Ng[0]? = some a ∧ Vis sg a ∧ (a == ("__debug__" : Str)) = false ∧ (a == ("__classdict__" : Str)) = false ∧
    (∀ ask S Q f, m ask S Q → b ask (endsD Q) (startD Ng.length [.ref f]) S) ∧
    ∀ (A : Around) (outer : List PySem.Env) (s : Shared) (H : Hp), RoomG k (A.deeper (envOfC x sg s.heap.objs.size g cdv)) → CSG (cxOf CX0 P w K mg base Ng x sg g cdv A outer s H E0) a bg b
theorem okl_of {P : Program} {w : World} {K : PySem.W.Frag} {mg : Str → Option Value} {base : Heap} {x a : Str} {st : Stmt} {N : List Str} {k : Nat} {b : ASK → DS} {m : MFL} (T : FT K mg x st [a]) (Sc : FnScope N [a] (defScope st)) (h0 : N[0]? = some a) (hv : Vis (defScope st) a) (hm : ∀ ask S Q f, m ask S Q → b ask (endsD Q) (startD N.length [.ref f]) S)
    (h : ∀ (f : Addr) (cdv : Value) (A : Around) (outer : List PySem.Env) (s : Shared) (H : Hp), RoomG k (A.deeper (envOfC x (defScope st) s.heap.objs.size f cdv)) → CSG (cxOf CX0 P w K mg base N x (defScope st) f cdv A outer s H E0) a (defBody st) b) (hd : (a == ("__debug__" : Str)) = false := by decide) (hcd : (a == ("__classdict__" : Str)) = false := by decide) :
    OkL P w K mg base k x m := by
  obtain ⟨f, fd, F, B, g⟩ := T
  have kp := F.kp
  obtain ⟨oc, od, kV, doc, pm, an, cdv, ct, osl, e, lk, hcd2⟩ := F.ex
  subst e
  exact ⟨f, _, _, _, kV, doc, pm, cdv, ct, oc, an, od, osl, a, N, b, g, kp, lk, hcd2, B, Sc, h0, hv, hd, hcd, hm, fun A outer s H hr => h f cdv A outer s H hr⟩
/-- x(lambda: e) -/
def eLamC (P : Addr) (q : Str) (m : MFL) (fe : DEX) : DE := fun σ S Q => S P = some (.tab q) ∧ m (fun S' Qd Ed => fe Ed σ S' Qd) S Q
section
variable {X : Cx}
theorem pe_lamC {x : Str} {c P : Addr} {k : Nat} {q : Str} {m : MFL} {fe : DEX} {params : Arguments} {body : Expr} {scope : Scope} {p lpos pos : Pos} (hg : Gl X x) (F : OkL X.prog X.w X.K X.mg X.base (k + 1) x m)
    (TB : TabB X.base X.mg c P) (hcode : X.env.code = .ref c) (hq : X.env.qual ++ "<lambda>" = q) (hr : RoomG (k + 2) X.A) (L : LamS X.env.scope scope) (hdef : defaultsOf params X.env = ([], []))
    (hbind : ∀ (q : Str) (cl : List (Str × Addr)) (pm cv ctv : Value), bindArgs (PySem.W.kla_fn "<lambda>" q params body scope cl pm cv ctv) ⟨[], []⟩ = pure [])
    (hbody : ∀ (A : Around) (outer : List PySem.Env) (s : Shared) (H : Hp) (E : XK) (f c' : Addr), RoomG k (A.deeper (lamEnv X scope s.heap.objs.size f c')) → CEX (lamCx X A outer s H E scope f c') body fe)
    (hdb : (x == ("__debug__" : Str)) = false := by decide) :
    PE X (.Call (.Name x p) [.Lambda params body scope lpos] [] pos) (fun sv H Kt => ∃ (S : Sto) (σ : Env) (Qd : DK), ERep X.K H sv σ ∧ SRep X.K S H ∧ eLamC P q m fe σ S Qd ∧ Rch X.K S H Qd Kt) := by
  obtain ⟨g, pg, bg, sg, kV, doc, pmg, cdv, ct, oc, an, od, osl, a, Ng, b, hm, hk, lk, hcg, hb, Sg, hNg, hva, hda, hca, hmb, hG⟩ := F.ex
  refine ⟨fun pins s σv H Q I h => ?_⟩
  obtain ⟨S, σ, Qd, ere, rs, ⟨hT, hq1⟩, hkt⟩ := h
  have below : ∀ a q', S a = some (.tab q') → (a, q') ∈ tabsBelow S s.heap.objs.size := fun a q' e => by
    obtain ⟨ps, e1, _⟩ := (show TabS H a q' from rs a _ e)
    exact tabs_mem (ObjOk.lt (I.hok a _ e1)) e
  refine wpAny_Call_Name_kw (ld_glob I hg hm ?_ hdb)
  refine PySem.W.callWith_K (h₀ := X.base) I.ok.mod.kin hk ?_ (by rfl) (by rfl)
  show wpAny _ _ (spliced ((false, eval (.Lambda params body scope lpos) X.env) :: backTo pos (starEach [] X.env))) _ _ s
  refine Calls.spliced_cons (lam_make2 (T := tabsBelow S s.heap.objs.size) I TB hcode (by rw [hq]; exact below P q hT) (fun p hp e => ?_) (fun p hp => rs p.1 _ (tabs_in hp)) hdef (L.has I.ok) fun f c' pm' ctv H1 s' I1 eN T1 hf hfn hfr hco => ?_)
  · have := tabs_in hp
    rw [e, hT] at this
    cases this
    exact hq.symm
  obtain ⟨st, rs2⟩ := srep_ext rs eN fun a q' e => T1 _ (below a q' e)
  refine Calls.spliced_nil ⟨I1.kIn, ?_⟩
  have rc : codeAny (model X.prog X.w) X.A (.call (.ref g) ⟨[.ref f], []⟩) (CR CX0 X.stack X.prog X.w H1 s' Q E0) s' := by
    refine run_ofSG (N := Ng) (ps := [a]) (us := [.ref f]) (vs := [.ref f]) lk hcg Sg hr I1.env0 (hb s' [.ref f] I1.kIn rfl) (.cons rfl .nil) rfl fun hr' => ?_
    obtain ⟨t, ht, sn⟩ := (hG X.A X.stack s' H1 hr').ok f c' (X.env.qual ++ "<lambda>") (TLd X.K X.mg σv fe) fun W pn xe p1 p2 tk => pe_actG (i := 0) I1 L hf hfn hfr (hbind _ _ _ _ _) tk hr' (fun A outer s H E hr2 => hbody A outer s H E f c' hr2) hNg hva hda hca
    refine ⟨t, ht.nox, sn (endsD Qd) (startD Ng.length [.ref f]) S { nx := fun _ H' => Q .non H', rt := Q } (L2.start Ng [.ref f]) H1 _ (erep_start (.cons (.ref f) .nil)) rs2 (hmb _ S Qd f hq1) ⟨fun sv' σ' S' H' s' r' e' q' => ?_, hkt.stp st, fun _ _ _ _ _ _ _ z => z.elim, fun _ _ _ _ _ _ _ z => z.elim⟩ hco ?_ fun Qd' Ed Q' E' h1 h2 h3 => ⟨σ, S, Qd', Ed, ere.mono st.tx, rs2, h1, h2, h3⟩⟩
    · exact hkt.stp st .non .non S' H' s' r' .non q'
    · unfold L2.start
      rfl
  refine wpAny_call (codeAny_mono rc fun r s2 hq => ?_)
  cases r with
  | error e => exact (show False from hq).elim
  | ok fl =>
    cases fl with
    | ret u => exact I1.after hq
    | next => exact False.elim hq
    | brk => exact False.elim hq
    | cont => exact False.elim hq
theorem c_lamC {x : Str} {c P : Addr} {k : Nat} (q : Str) {m : MFL} {fe : DEX} {params : Arguments} {body : Expr} {scope : Scope} {p lpos pos : Pos} (F : OkL X.prog X.w X.K X.mg X.base (k + 1) x m)
    (TB : TabB X.base X.mg c P) (hcode : X.env.code = .ref c) (hq : X.env.qual ++ "<lambda>" = q) (hr : RoomG (k + 2) X.A) (L : lamSB X.env.scope scope = true)
    (hbody : ∀ (A : Around) (outer : List PySem.Env) (s : Shared) (H : Hp) (E : XK) (f c' : Addr), RoomG k (A.deeper (lamEnv X scope s.heap.objs.size f c')) → CEX (lamCx X A outer s H E scope f c') body fe) (hdef : defaultsOf params X.env = ([], []) := by rfl)
    (hbind : ∀ (q : Str) (cl : List (Str × Addr)) (pm cv ctv : Value), bindArgs (PySem.W.kla_fn "<lambda>" q params body scope cl pm cv ctv) ⟨[], []⟩ = pure [] := by intros; rfl) (hg : Gl X x := by rfl) (hdb : (x == ("__debug__" : Str)) = false := by decide) :
    CE X (.Call (.Name x p) [.Lambda params body scope lpos] [] pos) (eLamC P q m fe) :=
  ⟨_, pe_lamC hg F TB hcode hq hr (lamS_by L) hdef hbind hbody hdb, fun σ S Q sv H Kt re rs q k => ⟨S, σ, Q, re, rs, q, k⟩⟩
end
end DL
/-! sorted(a tuple, key=a def) -/
namespace DL
open PySem PySem.Spec PyProof.Rows L2
section
open PySem.W
theorem sorted_of_seq {prog : Program} {w : World} {A : Around} {E : Value → Shared → Prop} {s : Shared} {l : Addr} {T : String} {o : Obj} {n : Nat} {vs : List Value} {kw : List (Str × Value)} {Q : Value → Shared → Prop} (hT : T = "list" ∨ T = "tuple") (ho : s.heap.get? l = some o) (hc : o.cls = .type T) (hd : o.data = .seq vs.toArray n) (hL : vs.length ≤ sizeLine) (ha1 : argsOk "sorted" ⟨[.ref l], kw⟩) (ha2 : ∀ x, argsOk "list.sort" ⟨[.ref x], kw⟩)
    (body : ∀ (E' : Value → Shared → Prop) (h1 : Heap), (∀ b o', s.heap.get? b = some o' → h1.get? b = some o') → wpAny (model prog w) A.in1.in1 (Builtin.«list.sort» ⟨[.ref h1.objs.size], kw⟩) (fun f s' => f = .done (.ret .none) ∧ Q (.ref h1.objs.size) s') E' { s with heap := h1.push (seqObj "list" vs.toArray 0) }) :
    wpAny (model prog w) A (call (.builtin "sorted") [.ref l] kw) Q E s := by
  refine call_function_entry_kw kind_sorted plain_sorted entry_sorted ha1 ?_
  unfold Builtin.«sorted»
  refine wpAny_bind (m := checkCount "sorted" 1 1 _) (wpAny_pure ?_)
  refine wpAny_bind (wpAny_collect_seq l hT ho hc hd (fun h1 k1 => ?_) (by simpa using hL))
  refine wpAny_bind (wpAny_newList ?_ (by simpa using hL))
  have hat : (h1.push { cls := Value.type "list", data := Data.seq vs.toArray }).get? h1.objs.size = some (seqObj "list" vs.toArray 0) := Heap.get?_push_size h1 rfl
  refine wpAny_bind (wpAny_holding (wpAny_call_entry_kw slot_list_sort ⟨_, hat, rfl⟩ entry_list_sort ?body (ha2 _)))
  case body =>
    show wpAny (model prog w) A.in1.in1 (Builtin.«list.sort» ⟨[.ref h1.objs.size], kw⟩) _ _ _
    refine wpAny_mono (body _ h1 k1) (fun f s' hf => ?_) fun _ _ e => e
    obtain ⟨rfl, hq⟩ := hf
    exact ⟨_, rfl, wpAny_pure ⟨_, rfl, hq⟩⟩
def rSKT (K : PySem.W.Frag) (f : Addr) (m : MF) : List V → List V → Hp → VK → Prop := fun vs zs H Q => ∃ (a : Addr) (xs : List V) (ds : List D) (kd : D → PyData), vs = [V.ref a] ∧ zs = [V.ref f] ∧ SqT K H a xs ∧ Reps K H xs ds ∧
  (∀ d ∈ ds, nr d = true ∧ m [d] S0 fun e _ => PD S0 e (kd d)) ∧ AllAlike (ds.map kd) ∧ Sortable (ds.map kd) ∧ (∀ d ∈ ds, (kd d).depth ≤ 32) ∧
  ∀ (p : Addr) (ys : List V), H p = none → Reps K H ys (ds.mergeSort (dataLe false kd)) → Q (.ref p) (upd H p (.lst ys))
theorem cr_sortKeyT {X : Cx} {k : Nat} {f : Addr} {fd : FuncData} {ps : List Str} {m : MF} (F : FnG X.prog X.w X.K X.mg X.base CX0 k f fd ps (spD X.K 1 m)) (hb : Binds X.K fd ps []) (hr : RoomG (k + 1) X.A) : CallRK X (.builtin "sorted") [Str.ofString "key"] (rSKT X.K f m) := by
  intro pins s σ H vs zs us ws Q I r rz h
  obtain ⟨a, xs, ds, kd, rfl, rfl, hs, rp, hm, hal, hso, hd, q⟩ := h
  obtain rfl := Vals.ref1 r
  obtain ⟨w1, rfl, e1⟩ := vals1 rz
  obtain rfl : w1 = Value.ref f := e1
  obtain ⟨its, rv, ⟨oT, ho, hc0, nT, hdT⟩, hz⟩ := I.tuple hs
  have ei := each_of rp rv
  have hlen : its.length = ds.length := ei.length
  have hlx : xs.length = its.length := rv.length
  show wpAny (model X.prog X.w) X.A (call (.builtin "sorted") [.ref a] [(Str.ofString "key", .ref f)]) (EP X pins σ Q) X.xe s
  refine sorted_of_seq (.inr rfl) ho hc0 hdT (by rw [← hlx]; exact hz) (ksk_s1 _ _) (fun _ => ksk_l1 _ _) fun E' h1 k1 => ?_
  have I1 := I.kept (h' := h1) (t' := s.toks) k1
  have E0 := I1.env0
  rw [ksk_t1]
  have hat : (h1.push (seqObj "list" its.toArray 0)).get? h1.objs.size = some (seqObj "list" its.toArray 0) := Heap.get?_push_size h1 rfl
  have k2 : ∀ b o, h1.get? b = some o → (h1.push (seqObj "list" its.toArray 0)).get? b = some o := fun b o e => Heap.get?_push_of_some _ e
  have hff : ∀ b ∈ frs X.stack, b < h1.objs.size := fun b hb => by
    obtain ⟨_, o, e, _⟩ := E0.funs.mem hb
    exact Heap.lt_size e
  have hc : ∀ b o, h1.get? b = some o → b ≠ h1.objs.size := fun b o e z => by
    have := Heap.lt_size e
    rw [z] at this
    exact Nat.lt_irrefl _ this
  refine keyS_tree (kz := ds.map kd) (fs := frs X.stack) (s := { s with heap := h1.push (seqObj "list" its.toArray 0) }) I.bare hat (fun z => Nat.lt_irrefl _ (hff _ z)) (fun b hb => ?_) (by rw [List.length_map]; exact hlen.symm) (by rw [← hlx]; exact hz) hal hso (fun d hd2 => ?_)
    (fun i u kz hi hk s1 old hos hbare hat2 => ?_) fun s' out c hos hbare old hg ko => ?_
  · exact Nat.lt_trans (hff b hb) (Heap.lt_size hat)
  · obtain ⟨d0, h0, rfl⟩ := List.mem_map.mp hd2
    have := hd d0 h0
    have := hr.un
    show X.A.units + 1 + 1 + _ < _
    omega
  · obtain ⟨d, hd1, v, rv1, rd1⟩ := each_at ei hi
    have hkd : kz = kd d := by
      rw [List.getElem?_map, hd1] at hk
      cases hk
      rfl
    subst hkd
    have hmem := List.mem_of_getElem? hd1
    obtain ⟨o, ho2⟩ := hat2
    exact key_turn F hb hr I1 (fun b o e => old b o (hc b o e) (k2 b o e)) hos hbare (Nat.le_of_lt (Heap.lt_size ho2)) rv1 rd1 (hm d hmem).1 (hm d hmem).2
  · refine ⟨rfl, ?_⟩
    have eo := keyedOut_each kd ko ei
    obtain ⟨ys, yv, yr⟩ := of_each eo
    have np : H h1.objs.size = none := I1.hok.fresh (Nat.le_refl _)
    have ys_len : ys.length ≤ sizeLine := by
      have h1 := yv.length
      have h2 := eo.length
      rw [List.length_mergeSort] at h2
      omega
    have kp : ∀ b o, b ∉ frs X.stack → h1.get? b = some o → s'.heap.get? b = some o := fun b o hb e => by
      obtain ⟨sl, e1, k1⟩ := old b o (hc b o e) (k2 b o e)
      rw [k1 hb] at e1
      exact e1
    have un : Un (frs X.stack) [] H (upd H h1.objs.size (.lst ys)) h1 s'.heap :=
      { keep := fun b o e _ hb _ => kp b o hb e
        slot := fun b o e _ _ _ => let ⟨sl, e1, _⟩ := old b o (hc b o e) (k2 b o e); ⟨sl, e1⟩
        free := fun b o e n _ => by rw [upd_ne (hc b o e)]; exact n
        there := fun b o e _ => let ⟨sl, e1, _⟩ := old b o (hc b o e) (k2 b o e); ⟨_, e1⟩
        tups := fun b xs e => by rw [upd_ne (ne_of_none e np)]; exact e
        frzs := fun b o u e => by rw [upd_ne (ne_of_none e np)]; exact e
        tbls := fun b ps e => ⟨#[], by rw [upd_ne (ne_of_none e np)]; simpa using e⟩ }
    have hok : HOk X.prog X.w (upd H h1.objs.size (.lst ys)) s'.heap := fun b o e => by
      by_cases hb : b = h1.objs.size
      · subst hb
        rw [upd_same] at e
        cases e
        exact ⟨ys_len, out, c, yv, hg⟩
      · rw [upd_ne hb] at e
        refine (I1.hok b o e).stay (fun b2 u h2 e2 => kp b2 u (fun z => ?_) e2) (fun b2 e2 => by rw [upd_ne (ne_of_none e2 np)]; exact e2) fun b2 xs e2 => by rw [upd_ne (ne_of_none e2 np)]; exact e2
        have n := E0.frf b2 z
        rcases h2 with rfl | h2
        · rw [e] at n; cases n
        · rw [h2] at n; cases n
    obtain ⟨hh, g, dr, t, os'⟩ := s'
    obtain rfl : os' = s.os := hos
    exact ⟨.ref _, _, L2.Inv.call (s := { s with heap := h1, toks := s.toks }) (h' := hh) (g' := g) (d' := dr) (t' := t) (ch := []) I1 un hok hbare (fun b z => absurd z (by simp)), rfl, q _ ys np yr⟩
def eSortKT (m : MF) (fa : DE) : DE := fun σ S Q => fa σ S fun x S1 => match x with
  | .tup xs => keyed m xs fun ys => ∀ n, S1 n = none → Q (.ref n) (updS S1 n (.lst ys))
  | _ => False
theorem cr_sortKeyA {X : Cx} {k : Nat} {f : Addr} {fd : FuncData} {ps : List Str} {m : MF} (F : FnG X.prog X.w X.K X.mg X.base CX0 k f fd ps (spD X.K 1 m)) (hb : Binds X.K fd ps []) (hr : RoomG (k + 1) X.A) : CallRK X (.builtin "sorted") [Str.ofString "key"] (fun vs zs H Q => rSK X.K f m vs zs H Q ∨ rSKT X.K f m vs zs H Q) := by
  intro pins s σ H vs zs us ws Q I r rz h
  rcases h with h | h
  · exact cr_sortKey F hb hr pins s σ H vs zs us ws Q I r rz h
  · exact cr_sortKeyT F hb hr pins s σ H vs zs us ws Q I r rz h
def eSortKA (m : MF) (fa : DE) : DE := fun σ S Q => fa σ S fun x S1 => match x with
  | .ref p => ∃ xs, S1 p = some (.lst xs) ∧ keyed m xs fun ys => ∀ n, S1 n = none → Q (.ref n) (updS S1 n (.lst ys))
  | .tup xs => keyed m xs fun ys => ∀ n, S1 n = none → Q (.ref n) (updS S1 n (.lst ys))
  | _ => False
theorem c_sortKeyA {X : Cx} {e : Expr} {fe : DE} {pos p p3 kpos : Pos} {j k : Nat} {g : Str} {m : MF} (hr : RoomG j X.A) (G : Okf X.prog X.w X.K X.mg X.base k g 1 m) (hk : k + 1 ≤ j) (hm : X.mg "sorted" = none) (ha : CE X e fe) (hgg : Gl X g := by rfl) (hg : Gl X "sorted" := by rfl)
    (hdd : (g == ("__debug__" : Str)) = false := by decide +kernel)
    (he : backTo pos (starEach [e] X.env) = (false, eval e X.env) :: backTo pos (starEach [] X.env) := by rfl) (hpl : (backTo pos (starEach [e] X.env)).any (·.1) = false := by rfl)
    (hall : (backToKw pos (keywordEach [⟨some (Str.ofString "key"), .Name g p3, kpos⟩] X.env)).all (·.1.isSome) = true := by rfl) (hnone : (backToKw pos (keywordEach [⟨some (Str.ofString "key"), .Name g p3, kpos⟩] X.env)).any (·.1.isNone) = false := by rfl)
    (hks : (backToKw pos (keywordEach [⟨some (Str.ofString "key"), .Name g p3, kpos⟩] X.env)).filterMap (·.1) = [Str.ofString "key"] := by rfl) (hst : starEach [e] X.env = (false, eval e X.env) :: starEach [] X.env := by rfl) :
    CE X (.Call (.Name "sorted" p) [e] [⟨some (Str.ofString "key"), .Name g p3, kpos⟩] pos) (eSortKA m fe) := by
  obtain ⟨f, fd, ps, hl, F, hmg, hkk, hb⟩ := G
  obtain ⟨te, he2, se⟩ := ha
  refine ⟨_, pe_callBK (cr_sortKeyA F hb (hr.mono' hk)) hg hm (by rfl) (pa_cons he2 pa_nil hst) (pk_cons (pe_glob hgg hmg (v := .ref f) rfl hdd) pk_nil) (by decide +kernel) (by decide +kernel) he hpl hall hnone hks, fun σ S Q sv H Kt re rs q kt => se σ S _ sv H _ re rs q fun v d S1 H1 s1 r1 v1 q1 => ?_⟩
  cases v1 with
  | ref a =>
    obtain ⟨xs, e0, kd, hm1, ha1, hs1, hd1, q1⟩ := q1
    obtain ⟨ws, e3, r3⟩ := r1 _ _ e0
    refine .inl ⟨a, ws, xs, kd, rfl, rfl, .inl (.inl e3), r3, hm1, ha1, hs1, hd1, fun p2 ys np rys => ?_⟩
    obtain ⟨st, sr⟩ := stp_new (o := .lst (xs.mergeSort (dataLe false kd))) (ho := .lst ys) r1 np ⟨ys, upd_same, rys.mono (tx_new np)⟩
    exact kt _ _ _ _ (s1.trans st) sr (.ref p2) (q1 p2 (r1.free np))
  | @tup a vs ds h r =>
    obtain ⟨kd, hm1, ha1, hs1, hd1, q1⟩ := q1
    refine .inr ⟨a, vs, ds, kd, rfl, rfl, h, r, hm1, ha1, hs1, hd1, fun p2 ys np rys => ?_⟩
    obtain ⟨st, sr⟩ := stp_new (o := .lst (ds.mergeSort (dataLe false kd))) (ho := .lst ys) r1 np ⟨ys, upd_same, rys.mono (tx_new np)⟩
    exact kt _ _ _ _ (s1.trans st) sr (.ref p2) (q1 p2 (r1.free np))
  | _ => exact False.elim q1
end
end DL
/-! a text repeated -/
namespace DL
open PySem PySem.Spec PyProof.Rows L2
section
variable {X : Cx} {a b : Expr} {fa fb : DE} {pos : Pos}
def mulR (z : Str) (k : Int) : Str := if k < 1 then Str.empty else if (k == 1 || z.length == 0) = true then z else ⟨(List.replicate k.toNat z.cps).foldl (· ++ ·) #[]⟩
def rMulR : R2 := fun x y H Q => ∃ z k, x = .str z ∧ y = .int k ∧ 0 ≤ k ∧ k ≤ 1000 ∧ z.length ≤ 1000 ∧ Q (.str (mulR z k)) H
def gMulR : G2 := fun x y S Q => match x, y with
  | .str z, .int k => 0 ≤ k ∧ k ≤ 1000 ∧ z.length ≤ 1000 ∧ Q (.str (mulR z k)) S
  | _, _ => False
end
end DL
/-! neat tuples: made by tuple(list), their object is known; t.index(x) of such a one -/
namespace DL
open PySem PySem.Spec PyProof.Rows L2
mutual
/-- what it is, neatness forgotten -/
def wkD : D → D
  | .nt xs => .tup (wkDs xs)
  | .tup xs => .tup (wkDs xs)
  | d => d
def wkDs : List D → List D
  | [] => []
  | x :: xs => wkD x :: wkDs xs
end
mutual
theorem Rep.wk {K : PySem.W.Frag} {H : Hp} : ∀ {v : V} {d : D}, Rep K H v d → Rep K H v (wkD d)
  | _, _, .non => .non
  | _, _, .bl b => .bl b
  | _, _, .int i => .int i
  | _, _, .str s => .str s
  | _, _, .ref a => .ref a
  | _, _, .ty n => .ty n
  | _, _, .tup h r => .tup h (Reps.wk r)
  | _, _, .fl h r => .fl h r
  | _, _, .exc n h => .exc n h
  | _, _, .cls n => .cls n
  | _, _, .kt h => .kt h
  | _, _, .nt h r => .tup h.sq (Reps.wk r)
theorem Reps.wk {K : PySem.W.Frag} {H : Hp} : ∀ {vs : List V} {ds : List D}, Reps K H vs ds → Reps K H vs (wkDs ds)
  | _, _, .nil => .nil
  | _, _, .cons h r => .cons (Rep.wk h) (Reps.wk r)
end
section
variable {X : Cx} {K : PySem.W.Frag} {e a b c o : Expr} {es : List Expr} {fe fa fb fc fo : DE} {fs : DA} {pos : Pos} {S : Sto} {H : Hp} {p : Addr}
/-- e, neatness forgotten -/
def eWk (f : DE) : DE := fun σ S Q => f σ S fun d S1 => Q (wkD d) S1
/-! ### tuple(x), a new one of known form -/
def gTupleN : GN := fun xs S Q => match xs with
  | [.ref a] => ∃ ys, S a = some (.lst ys) ∧ Q (.nt ys) S
  | _ => False
/-! ### t.index(x) -/
def gIdxN : D → GN := fun x vs S Q => match x, vs with
  | .nt ys, [d] => ∃ ps q j z, PDs S (wkDs ys) ps ∧ PD S (wkD d) q ∧ q.depth ≤ 64 ∧ ps[j]? = some z ∧ PyData.eqv z q = true ∧ (∀ (m : Nat) (z' : PyData), m < j → ps[m]? = some z' → PyData.eqv z' q = false) ∧ Q (.int (j : Nat)) S
  | _, _ => False
def eIdxN (fo : DE) (fs : DA) : DE := fun σ S Q => fo σ S fun x S1 => (∃ ys, x = .nt ys) ∧ fs σ S1 fun xs S2 => gIdxN x xs S2 Q
end
end DL
/-! a law's own def whose code object is known (lambdas in the law itself) -/
namespace DL
open PySem PySem.Spec PyProof.Rows L2 LamX NdefX
end DL
/-! == of a text and a dict -/
namespace PySem.SeqAt
open AutoSeq1 (wpAny_loadPart')
open MeetsSeq
theorem str_eq_declines_dict (b : Str) (u : Tok) (l : Addr) (c : Value) (es : Array DictEntry) (ep : Nat) (dd : Option Addr) (sl : Array (Option Value)) :
    Meets (Builtin.«str.__eq__» ⟨[.str b u, .ref l], []⟩) (fun _ R s => s.heap.get? l = some { cls := c, dict := dd, data := .dict es ep, slots := sl } ∧ R (.ok (.ret .notImplemented)) s) :=
  .of_wp fun prog w A R s h => by obtain ⟨hp, g, d, tk, os⟩ := s; obtain ⟨hl, h⟩ := h; wp_walk using wpAny_loadPart' hl, wpAny_load hl; exact ⟨_, rfl, h⟩
theorem dict_eq_declines_str (l : Addr) (es : Array DictEntry) (ep : Nat) (dd : Option Addr) (sl : Array (Option Value)) (b : Str) (u : Tok) :
    Meets (Builtin.«dict.__eq__» ⟨[.ref l, .str b u], []⟩) (fun _ R s => s.heap.get? l = some { cls := .type "dict", dict := dd, data := .dict es ep, slots := sl } ∧ R (.ok (.ret .notImplemented)) s) :=
  .of_wp fun prog w A R s h => by obtain ⟨hp, g, d, tk, os⟩ := s; obtain ⟨hl, h⟩ := h; have f1 := F.sub_str_dict; wp_walk using wpAny_loadPart' hl; exact ⟨_, rfl, h⟩
end PySem.SeqAt
namespace DL
open PySem PySem.Spec PyProof.Rows L2
section
variable {X : Cx} {K : PySem.W.Frag} {S : Sto} {H : Hp}
theorem rc_str_dict {A : Around} {s : Shared} {l : Addr} {o : Obj} {es : Array DictEntry} {ep : Nat} (b : Str) (u : Tok) (ho : s.heap.get? l = some o) (hc : o.cls = .type "dict") (hd : o.data = .dict es ep) (hu : A.units < cLine) : SeqAt.RcAt A s (.str b u) (.ref l) false := fun prog w E Q h => by
  obtain ⟨cls, dd, data, sl⟩ := o
  simp only at hc hd
  subst hc hd
  exact SeqAt.rc_eq_decline_or (k := false) (typeIs_str s b u) ⟨_, ho, rfl⟩ (by decide) PySem.F.sub_dict_str PySem.F.slot_str_eq PySem.F.slot_dict_eq_refl
    (fun _ hq => call_meets PySem.F.slot_str_eq (typeIs_str s b u) PySem.F.entry_str_eq (PySem.F.args_str_eq_2 _ _) (SeqAt.str_eq_declines_dict b u l (.type "dict") es ep dd sl) ⟨ho, hq⟩)
    (fun _ hq => call_meets PySem.F.slot_dict_eq_refl ⟨_, ho, rfl⟩ PySem.F.entry_dict_eq (PySem.F.args_dict_eq_2 _ _) (SeqAt.dict_eq_declines_str l es ep dd sl b u) ⟨ho, hq⟩)
    (fun _ hq => wpAny_of_eq (rfl : isSame (.str b u) (.ref l) = pure false) hq) (.inr hu) h
def rEqSD : R2 := fun x y H Q => (∃ (z : Str) (p : Addr) (kvs : List (Key × V)), x = .str z ∧ y = .ref p ∧ H p = some (.dK kvs)) ∧ Q (.bl false) H
theorem opEqSD (hu : X.A.units + 64 < cLine) : OpR X (compareOp .Eq) rEqSD := fun pins s σ H x y v u Q I rx ry ⟨⟨z, p, kvs, ex, ey, e⟩, q⟩ => by
  subst ex ey
  obtain ⟨t, rfl⟩ := rx
  cases ry
  obtain ⟨_, _, vs, _, o, es, ep, h1, h2, h3, _⟩ := (show ObjOk X.prog X.w H s.heap p (.dK kvs) from I.hok p _ e)
  exact rc_str_dict z t h1 h2.1 h3 (by omega) X.prog X.w _ _ ⟨.bl false, H, I, rfl, q⟩
/-- ==, a text and a dict too -/
def gEqX (f : Bool → Bool) : G2 := fun x y S Q => match x, y with
  | .str z, .ref p => (∃ kvs, S p = some (.dk kvs) ∧ Q (.bl (f false)) S) ∨ gEq f (.str z) (.ref p) S Q
  | x, y => gEq f x y S Q
theorem o_eqX (hu : X.A.units + 64 < cLine) : CO X .Eq (gEqX id) := by
  refine ⟨_, OpR.or (opEqSD hu) (opEqP hu), fun x y a b S H Q Kt s ra rb q k => ?_⟩
  have old : gEq id a b S Q → rEqP X.K x y H Kt := fun q => by
    obtain ⟨p, e, h1, h2, h3, q⟩ := eq_pd q
    exact ⟨p, e, PD.dp s h1 ra, PD.dp s h2 rb, h1.plain, h2.plain, h3, k.now s (.bl _) q⟩
  cases ra with
  | str z =>
    cases rb with
    | ref p =>
      rcases q with ⟨kvs, e, q⟩ | q
      · obtain ⟨ws, e1, r⟩ := s _ _ e
        exact .inl ⟨⟨z, p, ws, rfl, rfl, e1⟩, k.now s (.bl _) q⟩
      · exact .inr (old q)
    | _ => exact .inr (old q)
  | _ => exact .inr (old q)
end
end DL
/-! list(d.items()) -/
namespace DL
open PySem PySem.Spec PyProof.Rows L2
section
variable {X : Cx} {K : PySem.W.Frag} {o : Expr} {p pos apos mpos : Pos} {td : TE} {fo : DE} {S : Sto} {H H' : Hp} {h h' : Heap}
/-- the list of a dict's pairs is laid: at L, the pairs at as -/
structure Itms (H H' : Hp) (L : Addr) (as : List Addr) (kvs : List (Key × V)) : Prop where
  hs : ∀ b u, H b = some u → H' b = some u
  len : as.length = kvs.length
  l0 : H L = none
  l1 : H' L = some (.lst (as.map V.ref))
  at_ : ∀ (j : Nat) (a : Addr) (kv : Key × V), as[j]? = some a → kvs[j]? = some kv → H' a = some (.tup [kV kv.1, kv.2])
def tListItems (td : TE) : TE := fun σ H Q => td σ H fun x H1 => ∃ a kvs, x = V.ref a ∧ H1 a = some (.dK kvs) ∧ ∀ L as H', Itms H1 H' L as kvs → Q (.ref L) H'
def eListI (fo : DE) : DE := fun σ S Q => fo σ S fun o S1 => match o with
  | .ref p => ∃ kvs, S1 p = some (.dk kvs) ∧ ∀ a, S1 a = none → Q (.ref a) (updS S1 a (.lst (kvs.map fun kv => .tup [kD kv.1, kv.2])))
  | _ => False
end
end DL
/-! a dict just made is locked for good: to be walked -/
namespace DL
open PySem PySem.Spec PyProof.Rows L2
section
variable {X : Cx} {e : Expr} {fe : DE}
def eFz (f : DE) : DE := fun σ S Q => f σ S fun x S1 => match x with
  | .ref p => ∃ kvs, S1 p = some (.dk kvs) ∧ Q (.ref p) (updS S1 p (.fz kvs))
  | _ => False
end
end DL
/-! x in a list of texts, x a dict too -/
namespace PySem.SeqAt
open AutoSeq1 (wpAny_loadPart')
open MeetsSeq MeetsSeq2 MeetsSeq3 SeqRoads2
end PySem.SeqAt
namespace DL
open PySem PySem.Spec PyProof.Rows L2
section
variable {X : Cx} {K : PySem.W.Frag} {S : Sto} {H : Hp}
/-- a dict in a list of texts -/
def gInD (f : Bool → Bool) : G2 := fun x y S Q => match x, y with
  | .ref p, .ref q => (∃ (kvs : List (Key × D)) (zs : List Str), S p = some (.dk kvs) ∧ S q = some (.lst (zs.map D.str)) ∧ Q (.bl (f false)) S) ∨ gInP f (.ref p) (.ref q) S Q
  | x, y => gInP f x y S Q
def rInSD (f : Bool → Bool) : R2 := fun x y H Q => ∃ (p q : Addr) (kvs : List (Key × V)) (vs : List V), x = .ref p ∧ y = .ref q ∧ H p = some (.dK kvs) ∧ H q = some (.lst vs) ∧ (∀ v ∈ vs, ∃ z, v = V.str z) ∧ Q (.bl (f false)) H
end
end DL
/-! calls that may raise within larger expressions -/
namespace DL
open PySem PySem.Spec PyProof.Rows L2
abbrev DAX := EK → DA
def SndAX (K : PySem.W.Frag) (mg : Str → Option Value) (t : XK → TA) (f : DAX) : Prop := ∀ (Ed : EK) (E : XK) (σ : Env) (S : Sto) (Q : List D → Sto → Prop) (sv : L2.St) (H : Hp) (Kt : List V → Hp → Prop), ERep K H sv σ → SRep K S H → f Ed σ S Q →
  (∀ vs ds S' H', Stp K S H S' H' → SRep K S' H' → Reps K H' vs ds → Q ds S' → Kt vs H') → RchK K mg S H Ed E → t E sv H Kt
structure CAX (X : Cx) (es : List Expr) (f : DAX) : Prop where
  ok : ∃ t : XK → TA, (∀ E : XK, L2.Takes X (WXE E) → PA X es (t E)) ∧ SndAX X.K X.mg t f
section
variable {X : Cx} {a : Expr} {es : List Expr} {fs : DA} {fx : DAX} {fa : DEX} {pos : Pos}
def xA (f : DA) : DAX := fun _ => f
def xCons (fa : DEX) (fs : DAX) : DAX := fun Ed σ S Q => fa Ed σ S fun x S1 => fs Ed σ S1 fun xs S2 => Q (x :: xs) S2
def xCall (n : Nat) (m : MFX) (fs : DAX) : DEX := fun Ed σ S Q => fs Ed σ S fun ds S1 => ds.length = n ∧ m ds S1 Q Ed
def xCB (g : GN) (fs : DAX) : DEX := fun Ed σ S Q => fs Ed σ S fun ds S1 => g ds S1 Q
def xGet2 (fo : DEX) (fe ff : DE) : DEX := fun Ed σ S Q => fo Ed σ S fun o S1 => match o with
  | .ref p => (∃ kvs, S1 p = some (.dk kvs)) ∧ fe σ S1 fun y S2 => ff σ S2 fun z S3 => ∃ kvs k, S3 p = some (.dk kvs) ∧ toKey y = some k ∧ Q ((valD kvs k).getD z) S3
  | _ => False
end
end DL
/-! a comprehension within another one, which asks for the outer one's names -/
namespace DL
open PySem PySem.Spec PyProof.Rows L2
end DL
/-! list(range(n)) -/
namespace DL
open PySem PySem.Spec PyProof.Rows L2
section
variable {X : Cx} {K : PySem.W.Frag} {H : Hp} {a : Expr} {p p2 pos pos2 : Pos} {fa : DA}
def eListRg (fo : DE) : DE := fun σ S Q => fo σ S fun o S1 => match o with
  | .int j => (-(2 ^ 62) ≤ j ∧ j < 2 ^ 62 ∧ j.toNat ≤ 2 ^ 24) ∧ ∀ a, S1 a = none → Q (.ref a) (updS S1 a (.lst (rangeD 0 j.toNat)))
  | _ => False
end
end DL
/-! xs.insert(i, y) -/
namespace DL
open PySem PySem.Spec PyProof.Rows L2
section
variable {X : Cx}
def gInsert : D → GN := fun x vs S Q => match x, vs with
  | .ref p, [.int i, y] => ∃ xs, S p = some (.lst xs) ∧ xs.length < sizeLine ∧ 0 ≤ i ∧ i < 2 ^ 62 ∧ Q .non (updS S p (.lst (xs.take i.toNat ++ [y] ++ xs.drop i.toNat)))
  | _, _ => False
end
end DL
/-! a while whose body may raise -/
namespace DL
open PySem PySem.Spec PyProof.Rows L2
section
variable {X : Cx} {c : Expr} {ft : DT} {pos : Pos}
def xWhile (fc : DT) (b : DSX) : DSX := fun D0 Ed σ S => sWhile fc (fun D1 σ S => b D1 Ed σ S) D0 σ S
end
end DL
/-! plain rules for the mirrors: loops, comprehensions -/
namespace DL
open PySem L2
theorem seq_i {f g : DS} {D0 : DEnds} {σ : Env} {S : Sto} (h : f ⟨g D0, D0.rt, D0.bk, D0.ct⟩ σ S) : sSeq f g D0 σ S := h
theorem forL_inv {stab : Sto → Prop} {g : DG} {body : DS} {D0 : DEnds} (items : List D) (I : Nat → Env → Sto → Prop) (hst : ∀ i σ S, I i σ S → stab S)
    (turn : ∀ (i : Nat) (x : D) (σ : Env) (S : Sto) (N : Env → Sto → Prop), items[i]? = some x → I i σ S → (∀ σ' S', I (i + 1) σ' S' → N σ' S') → g x σ S fun σ2 S2 => body ⟨N, D0.rt, D0.nx, N⟩ σ2 S2)
    (hend : ∀ σ S, I items.length σ S → D0.nx σ S) {σ : Env} {S : Sto} (h0 : I 0 σ S) : forL stab g body D0 items σ S := by
  have key : ∀ (m i : Nat), m = items.length - i → i ≤ items.length → ∀ σ S, I i σ S → forL stab g body D0 (items.drop i) σ S := by
    intro m
    induction m with
    | zero =>
      intro i hm hi σ S h
      have e : i = items.length := by omega
      subst e
      rw [List.drop_length]
      exact ⟨hst _ _ _ h, hend σ S h⟩
    | succ m ih =>
      intro i hm hi σ S h
      have hlt : i < items.length := by omega
      rw [List.drop_eq_getElem_cons hlt]
      exact ⟨hst _ _ _ h, turn i _ σ S _ (List.getElem?_eq_getElem hlt) h fun σ' S' h' => ih (i + 1) (by omega) hlt σ' S' h'⟩
  exact key _ 0 rfl (Nat.zero_le _) σ S h0
/-- a for over a range -/
theorem forR_inv {stab : Sto → Prop} {g : DG} {body : DS} {D0 : DEnds} (lo : Int) (n : Nat) (I : Nat → Env → Sto → Prop) (hst : ∀ i σ S, I i σ S → stab S)
    (turn : ∀ (i : Nat) (σ : Env) (S : Sto) (N : Env → Sto → Prop), i < n → I i σ S → (∀ σ' S', I (i + 1) σ' S' → N σ' S') → g (.int (lo + (i : Nat))) σ S fun σ2 S2 => body ⟨N, D0.rt, D0.nx, N⟩ σ2 S2)
    (hend : ∀ σ S, I n σ S → D0.nx σ S) {σ : Env} {S : Sto} (h0 : I 0 σ S) : forL stab g body D0 (rangeD lo n) σ S := by
  have hl : (rangeD lo n).length = n := by simp [rangeD]
  refine forL_inv _ I hst (fun i x σ S N hx h hN => ?_) (by rw [hl]; exact hend) h0
  have hlt : i < n := by
    have := (List.getElem?_eq_some_iff.mp hx).1
    omega
  have hx2 : (rangeD lo n)[i]? = some (.int (lo + (i : Nat))) := by
    unfold rangeD
    rw [List.getElem?_map, List.getElem?_range hlt]
    rfl
  rw [hx2] at hx
  cases hx
  exact turn i σ S N hlt h hN
theorem lcL_inv {stab : Sto → Prop} {g : DG} {tests : DT} {elt : DE} {σ : Env} {k : List D → Sto → Prop} (items : List D) (I : Nat → List D → Sto → Prop) (hst : ∀ i acc S, I i acc S → stab S)
    (turn : ∀ (i : Nat) (x : D) (acc : List D) (S : Sto) (N : List D → Sto → Prop), items[i]? = some x → I i acc S → (∀ acc' S', I (i + 1) acc' S' → N acc' S') →
      g x σ S fun σ2 S2 => tests σ2 S2 fun b S3 => if b = true then elt σ2 S3 fun d S4 => acc.length < sizeLine ∧ N (acc ++ [d]) S4 else N acc S3)
    (hend : ∀ acc S, I items.length acc S → k acc S) {S : Sto} (h0 : I 0 [] S) : lcL stab g tests elt σ k items [] S := by
  have key : ∀ (m i : Nat), m = items.length - i → i ≤ items.length → ∀ acc S, I i acc S → lcL stab g tests elt σ k (items.drop i) acc S := by
    intro m
    induction m with
    | zero =>
      intro i hm hi acc S h
      have e : i = items.length := by omega
      subst e
      rw [List.drop_length]
      exact ⟨hst _ _ _ h, hend acc S h⟩
    | succ m ih =>
      intro i hm hi acc S h
      have hlt : i < items.length := by omega
      rw [List.drop_eq_getElem_cons hlt]
      exact ⟨hst _ _ _ h, turn i _ acc S (fun acc' S' => lcL stab g tests elt σ k (items.drop (i + 1)) acc' S') (List.getElem?_eq_getElem hlt) h fun acc' S' h' => ih (i + 1) (by omega) hlt acc' S' h'⟩
  exact key _ 0 rfl (Nat.zero_le _) [] S h0
/-- [f x for x in items], the store as it is -/
theorem lcL_map {stab : Sto → Prop} {g : DG} {elt : DE} {σ : Env} {k : List D → Sto → Prop} (f : D → D) (items : List D) {S : Sto} (hs : stab S) (hz : items.length ≤ sizeLine)
    (ht : ∀ x ∈ items, ∀ Q : DK, Q (f x) S → g x σ S fun σ2 S2 => elt σ2 S2 Q) (h : k (items.map f) S) : lcL stab g tsYes elt σ k items [] S := by
  refine lcL_inv items (fun i acc S' => S' = S ∧ acc = (items.take i).map f) (fun i acc S' ⟨e, _⟩ => by rw [e]; exact hs) (fun i x acc S' N hx ⟨e1, e2⟩ hN => ?_) (fun acc S' ⟨e1, e2⟩ => ?_) ⟨rfl, by simp⟩
  · subst e1 e2
    have hlt := (List.getElem?_eq_some_iff.mp hx).1
    show g x σ S' fun σ2 S2 => elt σ2 S2 fun d S4 => ((items.take i).map f).length < sizeLine ∧ N ((items.take i).map f ++ [d]) S4
    refine ht x (List.mem_of_getElem? hx) _ ⟨?_, hN _ _ ⟨rfl, ?_⟩⟩
    · rw [List.length_map, List.length_take]
      omega
    · rw [List.take_add_one, hx, List.map_append]
      rfl
  · subst e1 e2
    rw [List.take_of_length_le (Nat.le_refl _)]
    exact h
/-- [f x for x in items if p x], the store as it is -/
theorem lcL_filter {stab : Sto → Prop} {g : DG} {tests : DT} {elt : DE} {σ : Env} {k : List D → Sto → Prop} (f : D → D) (p : D → Bool) (items : List D) {S : Sto} (hs : stab S) (hz : items.length ≤ sizeLine)
    (h : k ((items.filter p).map f) S)
    (hk : ∀ x ∈ items, ∀ (T : DK) (G : Sto → Prop), (p x = true → T (f x) S) → (p x = false → G S) → g x σ S fun σ2 S2 => tests σ2 S2 fun b S3 => if b = true then elt σ2 S3 T else G S3) : lcL stab g tests elt σ k items [] S := by
  refine lcL_inv items (fun i acc S' => S' = S ∧ acc = ((items.take i).filter p).map f) (fun i acc S' ⟨e, _⟩ => by rw [e]; exact hs) (fun i x acc S' N hx ⟨e1, e2⟩ hN => ?_) (fun acc S' ⟨e1, e2⟩ => ?_) ⟨rfl, by simp⟩
  · subst e1
    have hlt := (List.getElem?_eq_some_iff.mp hx).1
    have hl : acc.length < sizeLine := by
      rw [e2, List.length_map]
      have := List.length_filter_le p (items.take i)
      rw [List.length_take] at this
      omega
    refine hk x (List.mem_of_getElem? hx) _ (fun S4 => N acc S4) (fun hp => ⟨hl, hN _ _ ⟨rfl, ?_⟩⟩) (fun hp => hN _ _ ⟨rfl, ?_⟩)
    · rw [List.take_add_one, hx, e2, List.filter_append, List.map_append]
      simp [hp]
    · rw [List.take_add_one, hx, e2, List.filter_append, List.map_append]
      simp [hp]
  · subst e1 e2
    rw [List.take_of_length_le (Nat.le_refl _)]
    exact h
end DL
namespace DL
open PySem L2
theorem pds_map {α : Type} {S : Sto} {f : α → D} {g : α → PyData} (h : ∀ x, PD S (f x) (g x)) : ∀ xs : List α, PDs S (xs.map f) (xs.map g)
  | [] => .nil
  | x :: xs => .cons (h x) (pds_map h xs)
theorem pds_ints {S : Sto} (xs : List Int) : PDs S (xs.map .int) (xs.map .int) := pds_map .int xs
theorem depth_map {α : Type} {g : α → PyData} {n : Nat} (h : ∀ x, (g x).depth ≤ n) : ∀ xs : List α, PyData.depthAll (xs.map g) ≤ n
  | [] => Nat.zero_le _
  | x :: xs => by
    show PyData.depthAll (g x :: xs.map g) ≤ n
    unfold PyData.depthAll
    exact Nat.max_le.mpr ⟨h x, depth_map h xs⟩
theorem depth_ints (xs : List Int) : (PyData.list (xs.map .int)).depth ≤ 64 := by
  have := depth_map (g := PyData.int) (n := 0) (fun _ => Nat.le_refl 0) xs
  show PyData.depthAll _ + 1 ≤ 64
  omega
theorem eqv_nil (xs : List PyData) : PyData.eqv (.list xs) (.list []) = xs.isEmpty := by cases xs <;> simp [PyData.eqv, PyData.eqvAll]
/-- xs == [] of a list of the store -/
theorem eq_nil {f : Bool → Bool} {S : Sto} {p q : Addr} {xs : List D} {ps : List PyData} {Q : DK} (h1 : S p = some (.lst xs)) (h2 : S q = some (.lst [])) (hp : PDs S xs ps) (hd : (PyData.list ps).depth ≤ 64) (hq : Q (.bl (f xs.isEmpty)) S) : gEq f (.ref p) (.ref q) S Q := by
  refine ⟨.list ps, .list [], .lst h1 hp, .lst h2 .nil, hd, ?_⟩
  rw [eqv_nil]
  have e : ps.isEmpty = xs.isEmpty := by cases hp <;> rfl
  rw [e]
  exact hq
/-- numbers that may be multiplied -/
theorem mulS {i j : Int} (h1 : -(1000000000000000000000) < i) (h2 : i < 1000000000000000000000) (h3 : -(1000000000000000000000) < j) (h4 : j < 1000000000000000000000) : CMulW i j :=
  wide_mul (a := 80) (b := 80) (by have : (2 : Nat) ^ 80 = 1208925819614629174706176 := by decide
                                   omega) (by have : (2 : Nat) ^ 80 = 1208925819614629174706176 := by decide
                                              omega) (by decide) (by decide) (by decide)
theorem fdivS {i j : Int} (h0 : 0 < j) (h : j < 1000000000000000000000) : CDivW i j :=
  wide_div h0 (b := 80) (by have : (2 : Nat) ^ 80 = 1208925819614629174706176 := by decide
                            omega) (by decide) (by decide)
theorem powS {i : Int} {j : Int} (h0 : 0 ≤ j) (h1 : j ≤ 1000000) (h2 : -(18446744073709551616) < i) (h3 : i < 18446744073709551616) : CPow i j := ⟨h0, h1, by
  have : (2 : Nat) ^ 64 = 18446744073709551616 := by decide
  omega⟩
end DL
namespace DL
open PySem L2
section
variable {f : Bool → Bool} {S : Sto} {Q : DK}
theorem gEq_ii {i j : Int} : gEq f (.int i) (.int j) S Q = Q (.bl (f (decide (i = j)))) S := rfl
theorem gEq_ss {i j : Str} : gEq f (.str i) (.str j) S Q = Q (.bl (f (decide (i = j)))) S := rfl
theorem gEq_bb {i j : Bool} : gEq f (.bl i) (.bl j) S Q = Q (.bl (f (decide (i = j)))) S := rfl
theorem gEq_nn : gEq f .non .non S Q = Q (.bl (f true)) S := rfl
theorem gEq_ni {i : Int} : gEq f .non (.int i) S Q = Q (.bl (f false)) S := rfl
theorem gEq_in {i : Int} : gEq f (.int i) .non S Q = Q (.bl (f false)) S := rfl
theorem gEq_ns {i : Str} : gEq f .non (.str i) S Q = Q (.bl (f false)) S := rfl
theorem gEq_sn {i : Str} : gEq f (.str i) .non S Q = Q (.bl (f false)) S := rfl
theorem gEq_si {i : Str} {j : Int} : gEq f (.str i) (.int j) S Q = Q (.bl (f false)) S := rfl
theorem gEq_is {i : Int} {j : Str} : gEq f (.int i) (.str j) S Q = Q (.bl (f false)) S := rfl
end
end DL
namespace DL
open PySem L2
theorem ret_i {fa : DE} {D0 : DEnds} {σ : Env} {S : Sto} (h : fa σ S D0.rt) : sRet fa D0 σ S := h
theorem for_i {fi : DI} {g : DG} {body : DS} {D0 : DEnds} {σ : Env} {S : Sto} (h : fi σ S fun items stab S1 => forL stab g body D0 items σ S1) : sFor fi g body D0 σ S := h
end DL
namespace DL
theorem rangeD_len (lo : Int) (n : Nat) : (rangeD lo n).length = n := by unfold rangeD; rw [List.length_map, List.length_range]
end DL
/-! what the mirrors' words are at known data: rows for simp -/
namespace DL
open PySem L2 PyProof.Rows
section
variable {σ : Env} {S : Sto} {Q : DK} {T : Bool → Sto → Prop} {f g : DE} {p q : Addr} {a b : G2}
/-! tests -/
def vTru (d : D) (S : Sto) (T : Bool → Sto → Prop) : Prop := tTr (eC d) [] S T
def oTru (o : Option O) (S : Sto) (T : Bool → Sto → Prop) : Prop := match o with
  | some (.lst xs) => T (!xs.isEmpty) S
  | some (.dk kvs) => T (!kvs.isEmpty) S
  | some (.dt _) => False
  | some (.tab _) => False | some (.ins _ _) => False
  | some (.fz _) => False
  | none => False
theorem tTr_e : tTr f σ S T = f σ S fun d S1 => vTru d S1 T := rfl
theorem vTru_non : vTru .non S T = T false S := rfl
theorem vTru_bl {k} : vTru (.bl k) S T = T k S := rfl
theorem vTru_int {i} : vTru (.int i) S T = T (i != 0) S := rfl
theorem vTru_str {y} : vTru (.str y) S T = (y.length ≤ sizeLine ∧ T (y.length != 0) S) := rfl
theorem vTru_tup {xs} : vTru (.tup xs) S T = T (!xs.isEmpty) S := rfl
theorem vTru_ref : vTru (.ref p) S T = oTru (S p) S T := by
  show (match S p with | some (.lst xs) => T (!xs.isEmpty) S | some (.dk kvs) => T (!kvs.isEmpty) S | some (.dt _) => False | some (.tab _) => False | some (.ins _ _) => False | some (.fz _) => False | none => False) = _
  unfold oTru
  cases S p with
  | none => rfl
  | some o => cases o <;> rfl
theorem oTru_l {xs} : oTru (some (.lst xs)) S T = T (!xs.isEmpty) S := rfl
theorem oTru_d {xs} : oTru (some (.dk xs)) S T = T (!xs.isEmpty) S := rfl
def vBl (d : D) (S : Sto) (T : Bool → Sto → Prop) : Prop := match d with
  | .bl k => T k S
  | _ => False
theorem tBl_e : tBl f σ S T = f σ S fun d S1 => vBl d S1 T := rfl
theorem vBl_bl {k} : vBl (.bl k) S T = T k S := rfl
/-! values -/
def vNeg (d : D) (S : Sto) (Q : DK) : Prop := eNeg (eC d) [] S Q
theorem eNeg_e : eNeg f σ S Q = f σ S fun d S1 => vNeg d S1 Q := rfl
theorem vNeg_int {i} : vNeg (.int i) S Q = Q (.int (-i)) S := rfl
theorem eChain_e {f2 f3 : DE} : eChain a b f f2 f3 σ S Q = f σ S fun x S1 => f2 σ S1 fun y S2 => a x y S2 fun z S3 => vBl z S3 fun k S3 => if k = true then f3 σ S3 fun u S4 => b y u S4 Q else Q (.bl false) S3 := rfl
theorem eAnd_e : eAnd f g σ S Q = f σ S fun x S1 => vBl x S1 fun k S1 => if k = true then g σ S1 Q else Q (.bl false) S1 := rfl
theorem eOr_e : eOr f g σ S Q = f σ S fun x S1 => vBl x S1 fun k S1 => if k = true then Q (.bl true) S1 else g σ S1 Q := rfl
theorem eNot_e : eNot f σ S Q = f σ S fun x S1 => vBl x S1 fun k S1 => Q (.bl (!k)) S1 := rfl
def vSome (d : D) (S : Sto) (R : Option Int → Sto → Prop) : Prop := oSome (eC d) [] S R
theorem oSome_e {R} : oSome f σ S R = f σ S fun d S1 => vSome d S1 R := rfl
theorem vSome_int {i R} : vSome (.int i) S R = R (some i) S := rfl
theorem gAdd_ii {i j} : gAdd (.int i) (.int j) S Q = Q (.int (i + j)) S := rfl
theorem gAdd_ss {i j} : gAdd (.str i) (.str j) S Q = (i.length + j.length ≤ sizeLine ∧ Q (.str (i ++ j)) S) := rfl
theorem gAdd_tt {xs ys} : gAdd (.tup xs) (.tup ys) S Q = (xs.length + ys.length ≤ sizeLine ∧ Q (.tup (xs ++ ys)) S) := rfl
theorem gAdd_rr : gAdd (.ref p) (.ref q) S Q = ∃ xs ys, S p = some (.lst xs) ∧ S q = some (.lst ys) ∧ xs.length + ys.length ≤ sizeLine ∧ ∀ n, S n = none → Q (.ref n) (updS S n (.lst (xs ++ ys))) := rfl
theorem gI_ii {C : Int → Int → Prop} {h : Int → Int → D} {i j} : gI C h (.int i) (.int j) S Q = (C i j ∧ Q (h i j) S) := rfl
theorem gI0_ii {h : Int → Int → D} {i j} : gI0 h (.int i) (.int j) S Q = Q (h i j) S := rfl
theorem gMulA_ii {i j} : gMulA (.int i) (.int j) S Q = (CMulW i j ∧ Q (.int (i * j)) S) := rfl
theorem gMulA_ri {k} : gMulA (.ref p) (.int k) S Q = ∃ xs, S p = some (.lst xs) ∧ -(2 ^ 63) ≤ k ∧ k < 2 ^ 63 ∧ xs.length * k.toNat ≤ sizeLine ∧ ∀ n, S n = none → Q (.ref n) (updS S n (.lst (List.replicate k.toNat xs).flatten)) := rfl
theorem gMulA_ti {xs k} : gMulA (.tup xs) (.int k) S Q = (xs ≠ [] ∧ 2 ≤ k ∧ k ≤ 1000 ∧ xs.length ≤ 1000 ∧ Q (.tup (List.replicate k.toNat xs).flatten) S) := rfl
theorem gLt_ii {i j} : gLt (.int i) (.int j) S Q = Q (.bl (decide (i < j))) S := rfl
theorem gLt_ss {i j : Str} : gLt (.str i) (.str j) S Q = Q (.bl (decide (i.cps.toList < j.cps.toList))) S := rfl
theorem gIs_n {k : Bool → Bool} {x} : gIs k x .non S Q = Q (.bl (k (isNon x))) S := rfl
theorem gIs_b {k : Bool → Bool} {x c} : gIs k (.bl x) (.bl c) S Q = Q (.bl (k (decide (x = c)))) S := rfl
theorem isNon_n : isNon .non = true := rfl
theorem isNon_b {k} : isNon (.bl k) = false := rfl
theorem isNon_i {k} : isNon (.int k) = false := rfl
theorem isNon_s {k} : isNon (.str k) = false := rfl
theorem isNon_t {k} : isNon (.tup k) = false := rfl
theorem isNon_r : isNon (.ref p) = false := rfl
def oIx (o : Option O) (y : D) (S : Sto) (Q : DK) : Prop := match o with
  | some (.lst xs) => (match y with
    | .int i => ∃ d, atI xs i = some d ∧ Q d S
    | _ => False)
  | some (.dk kvs) => ∃ k d, toKey y = some k ∧ valD kvs k = some d ∧ Q d S
  | some (.dt kvs) => (match y with
    | .kt ks => ∃ d, valT kvs ks = some d ∧ Q d S
    | _ => False)
  | some (.tab _) => False | some (.ins _ _) => False
  | some (.fz kvs) => ∃ k d, toKey y = some k ∧ valD kvs k = some d ∧ Q d S
  | none => False
theorem gIx_r {y} : gIx (.ref p) y S Q = oIx (S p) y S Q := by
  unfold gIx oIx
  dsimp only
  all_goals cases S p with
  | none => rfl
  | some o => cases o <;> rfl
theorem oIx_li {xs i} : oIx (some (.lst xs)) (.int i) S Q = ∃ d, atI xs i = some d ∧ Q d S := rfl
theorem oIx_ds {kvs} {x : Str} : oIx (some (.dk kvs)) (.str x) S Q = ∃ d, valD kvs (.inr x) = some d ∧ Q d S := by
  show (∃ k d, some (Sum.inr x) = some k ∧ valD kvs k = some d ∧ Q d S) = _
  simp only [Option.some.injEq, exists_and_left, exists_eq_left']
theorem oIx_di {kvs} {x : Int} : oIx (some (.dk kvs)) (.int x) S Q = ∃ d, valD kvs (.inl x) = some d ∧ Q d S := by
  show (∃ k d, some (Sum.inl x) = some k ∧ valD kvs k = some d ∧ Q d S) = _
  simp only [Option.some.injEq, exists_and_left, exists_eq_left']
theorem gIx_ti {xs i} : gIx (.tup xs) (.int i) S Q = ∃ d, atI xs i = some d ∧ Q d S := rfl
theorem gIx_fi {xs i} : gIx (.fl xs) (.int i) S Q = ∃ d, atI xs i = some d ∧ Q d S := rfl
theorem gIx_si {z i} : gIx (.str z) (.int i) S Q = (z.length ≤ sizeLine ∧ ∃ c, atI z.cps.toList i = some c ∧ Q (.str ⟨#[c]⟩) S) := rfl
theorem gSl_t {xs l h} : gSl (.tup xs) l h S Q = Q (.tup (cutL xs l h)) S := rfl
theorem gSl_s {z l h} : gSl (.str z) l h S Q = (z.length ≤ sizeLine ∧ Q (.str (cutS z l h)) S) := rfl
theorem gSl_f {xs l h} : gSl (.fl xs) l h S Q = ∀ p, S p = none → Q (.ref p) (updS S p (.lst (cutL xs l h))) := rfl
theorem gSl_r {l h} : gSl (.ref p) l h S Q = ∃ xs, S p = some (.lst xs) ∧ ∀ n, S n = none → Q (.ref n) (updS S n (.lst (cutL xs l h))) := rfl
def oIn (k : Bool → Bool) (o : Option O) (x : D) (S : Sto) (Q : DK) : Prop := match o with
  | some (.lst ys) => flatD x = true ∧ ys.all flatD = true ∧ Q (.bl (k (ys.any fun z => eqF z x))) S
  | some (.dk kvs) => ∃ j, toKey x = some j ∧ Q (.bl (k (hasD kvs j))) S
  | some (.dt kvs) => (match x with
    | .kt ks => Q (.bl (k (hasT kvs ks))) S
    | _ => False)
  | some (.tab _) => False | some (.ins _ _) => False
  | some (.fz kvs) => ∃ j, toKey x = some j ∧ Q (.bl (k (hasD kvs j))) S
  | none => False
theorem gIn_ss {k : Bool → Bool} {i j} : gIn k (.str i) (.str j) S Q = Q (.bl (k (inStr i j))) S := rfl
theorem gIn_t {k : Bool → Bool} {x ys} : gIn k x (.tup ys) S Q = (flatD x = true ∧ ys.all flatD = true ∧ Q (.bl (k (ys.any fun z => eqF z x))) S) := by cases x <;> rfl
theorem gIn_r {k : Bool → Bool} {x} : gIn k x (.ref p) S Q = oIn k (S p) x S Q := by
  unfold gIn oIn
  dsimp only
  all_goals cases S p with
  | none => rfl
  | some o => cases o <;> rfl
theorem oIn_l {k : Bool → Bool} {x ys} : oIn k (some (.lst ys)) x S Q = (flatD x = true ∧ ys.all flatD = true ∧ Q (.bl (k (ys.any fun z => eqF z x))) S) := rfl
theorem oIn_ds {k : Bool → Bool} {kvs} {x : Str} : oIn k (some (.dk kvs)) (.str x) S Q = Q (.bl (k (hasD kvs (.inr x)))) S := by
  show (∃ j, some (Sum.inr x) = some j ∧ Q (.bl (k (hasD kvs j))) S) = _
  simp only [Option.some.injEq, exists_eq_left']
def oLen (o : Option O) (S : Sto) (Q : DK) : Prop := match o with
  | some (.lst ys) => Q (.int ys.length) S
  | some (.dk kvs) => Q (.int kvs.length) S
  | some (.dt _) => False
  | some (.tab _) => False | some (.ins _ _) => False
  | some (.fz kvs) => Q (.int kvs.length) S
  | none => False
theorem gLen_s {z} : gLen [.str z] S Q = (z.length ≤ sizeLine ∧ Q (.int z.length) S) := rfl
theorem gLen_t {xs} : gLen [.tup xs] S Q = Q (.int xs.length) S := rfl
theorem gLen_f {xs} : gLen [.fl xs] S Q = Q (.int xs.length) S := rfl
theorem gLen_r : gLen [.ref p] S Q = oLen (S p) S Q := by
  unfold gLen oLen
  dsimp only
  all_goals cases S p with
  | none => rfl
  | some o => cases o <;> rfl
theorem oLen_l {xs} : oLen (some (.lst xs)) S Q = Q (.int xs.length) S := rfl
theorem oLen_d {xs} : oLen (some (.dk xs)) S Q = Q (.int xs.length) S := rfl
theorem gAbs_i {i} : gAbs [.int i] S Q = Q (.int (if i < 0 then -i else i)) S := rfl
theorem gMax2_ii {i j} : gMax2 [.int i, .int j] S Q = Q (.int (if j > i then j else i)) S := rfl
theorem gMin2_ii {i j} : gMin2 [.int i, .int j] S Q = Q (.int (if j < i then j else i)) S := rfl
theorem gInt1_i {i} : gInt1 [.int i] S Q = Q (.int i) S := rfl
theorem gInt1_b {i} : gInt1 [.bl i] S Q = Q (.int (if i then 1 else 0)) S := rfl
theorem gList_t {xs} : gList [.tup xs] S Q = ∀ p, S p = none → Q (.ref p) (updS S p (.lst xs)) := rfl
theorem gList_f {xs} : gList [.fl xs] S Q = ∀ p, S p = none → Q (.ref p) (updS S p (.lst xs)) := rfl
theorem gList_r : gList [.ref q] S Q = ∃ ys, S q = some (.lst ys) ∧ ∀ p, S p = none → Q (.ref p) (updS S p (.lst ys)) := rfl
theorem gTuple_t {xs} : gTuple [.tup xs] S Q = Q (.tup xs) S := rfl
theorem gTuple_f {xs} : gTuple [.fl xs] S Q = Q (.tup xs) S := rfl
theorem gTuple_r : gTuple [.ref q] S Q = ∃ ys, S q = some (.lst ys) ∧ Q (.tup ys) S := rfl
theorem gSum_r : gSum [.ref q] S Q = ∃ ns : List Int, S q = some (.lst (ns.map .int)) ∧ Q (.int ns.sum) S := rfl
theorem gAll_r {k : List Bool → Bool} : gAll k [.ref q] S Q = ∃ bs : List Bool, S q = some (.lst (bs.map .bl)) ∧ Q (.bl (k bs)) S := rfl
theorem gIsi_x {x n} : gIsi [x, .ty n] S Q = (n ∈ isiCls ∧ ∃ t, tyD x S = some t ∧ Q (.bl (isiN t n)) S) := rfl
def oTy (o : Option O) : Option String := match o with
  | some (.lst _) => some "list"
  | some (.dk _) => some "dict"
  | some (.dt _) => some "dict"
  | some (.tab _) => none | some (.ins _ _) => none
  | some (.fz _) => none
  | none => none
theorem tyD_n : tyD .non S = some "NoneType" := rfl
theorem tyD_b {k} : tyD (.bl k) S = some "bool" := rfl
theorem tyD_i {k} : tyD (.int k) S = some "int" := rfl
theorem tyD_s {k} : tyD (.str k) S = some "str" := rfl
theorem tyD_t {k} : tyD (.tup k) S = some "tuple" := rfl
theorem tyD_f {k} : tyD (.fl k) S = some "list" := rfl
theorem tyD_r : tyD (.ref p) S = oTy (S p) := by
  unfold tyD oTy
  dsimp only
  all_goals cases S p with
  | none => rfl
  | some o => cases o <;> rfl
theorem oTy_l {xs} : oTy (some (.lst xs)) = some "list" := rfl
theorem oTy_d {xs} : oTy (some (.dk xs)) = some "dict" := rfl
def oTyM (T : String) (o : Option O) : Prop := match o with
  | some (.lst _) => T = "list"
  | some (.dk _) => T = "dict"
  | some (.dt _) => T = "dict"
  | some (.tab _) => False | some (.ins _ _) => False
  | some (.fz _) => False
  | none => False
theorem tyM_s {T k} : tyM T (.str k) S = (T = "str") := rfl
theorem tyM_r {T} : tyM T (.ref p) S = oTyM T (S p) := by
  unfold tyM oTyM
  dsimp only
  all_goals cases S p with
  | none => rfl
  | some o => cases o <;> rfl
theorem oTyM_l {T xs} : oTyM T (some (.lst xs)) = (T = "list") := rfl
theorem oTyM_d {T xs} : oTyM T (some (.dk xs)) = (T = "dict") := rfl
theorem gAppend_r {d} : gAppend (.ref p) [d] S Q = ∃ xs, S p = some (.lst xs) ∧ xs.length < sizeLine ∧ Q .non (updS S p (.lst (xs ++ [d]))) := rfl
theorem gPop0_r : gPop0 (.ref p) [] S Q = ∃ xs d, S p = some (.lst xs) ∧ xs[xs.length - 1]? = some d ∧ Q d (updS S p (.lst xs.dropLast)) := rfl
theorem gPopAt_r {i} : gPopAt (.ref p) [.int i] S Q = ∃ xs j d, S p = some (.lst xs) ∧ -(2 ^ 63) ≤ i ∧ i < 2 ^ 63 ∧ seqIndex? i xs.length = some j ∧ xs[j]? = some d ∧ Q d (updS S p (.lst (xs.eraseIdx j))) := rfl
theorem gClear_r : gClear (.ref p) [] S Q = ∃ xs, S p = some (.lst xs) ∧ Q .non (updS S p (.lst [])) := rfl
theorem gReverse_r : gReverse (.ref p) [] S Q = ∃ xs, S p = some (.lst xs) ∧ Q .non (updS S p (.lst xs.reverse)) := rfl
theorem gJoin_r {z} : gJoin (.str z) [.ref p] S Q = ∃ ys : List Str, S p = some (.lst (ys.map .str)) ∧ (ys.map (·.length)).sum + ys.length * z.length ≤ 16777216 ∧ Q (.str (Txt.join z ys)) S := rfl
theorem gUpper_s {z} : gUpper (.str z) [] S Q = (z.length ≤ 5592405 ∧ Q (.str (Txt.upper z)) S) := rfl
theorem gStr_i {i} : gStr [.int i] S Q = (i.natAbs.log2 < 1920 ∧ Q (.str (toString i)) S) := rfl
theorem gSorted_r : gSorted [.ref p] S Q = ((∃ ns : List Int, S p = some (.lst (ns.map .int)) ∧ ∀ ns' : List Int, ns'.Perm ns → ns'.Pairwise (· ≤ ·) → ∀ n, S n = none → Q (.ref n) (updS S n (.lst (ns'.map .int)))) ∨
      ∃ ns : List Str, S p = some (.lst (ns.map .str)) ∧ ns.length < 64 ∧ ∀ ns' : List Str, ns'.Perm ns → sortedS ns' = true → ∀ n, S n = none → Q (.ref n) (updS S n (.lst (ns'.map .str)))) := rfl
/-! what is walked -/
variable {R : List D → (Sto → Prop) → Sto → Prop} {fs : DA}
def vSeq (d : D) (S : Sto) (R : List D → (Sto → Prop) → Sto → Prop) : Prop := iSeq (eC d) [] S R
theorem iSeq_e : iSeq f σ S R = f σ S fun d S1 => vSeq d S1 R := rfl
theorem vSeq_r : vSeq (.ref p) S R = ∃ xs, S p = some (.lst xs) ∧ R xs (fun S => S p = some (.lst xs)) S := rfl
theorem vSeq_f {xs} : vSeq (.fl xs) S R = R xs (fun _ => True) S := rfl
theorem vSeq_t {xs} : vSeq (.tup xs) S R = R xs (fun _ => True) S := rfl
theorem vSeq_s {z} : vSeq (.str z) S R = R (z.cps.toList.map fun c => .str ⟨#[c]⟩) (fun _ => True) S := rfl
def vRng1 (ds : List D) (S : Sto) (R : List D → (Sto → Prop) → Sto → Prop) : Prop := iRange1 (fun _ S Q => Q ds S) [] S R
theorem iRange1_e : iRange1 fs σ S R = fs σ S fun ds S1 => vRng1 ds S1 R := rfl
theorem vRng1_i {j} : vRng1 [.int j] S R = (-(2 ^ 62) ≤ j ∧ j < 2 ^ 62 ∧ R (rangeD 0 j.toNat) (fun _ => True) S) := rfl
def vRng2 (ds : List D) (S : Sto) (R : List D → (Sto → Prop) → Sto → Prop) : Prop := iRange2 (fun _ S Q => Q ds S) [] S R
theorem iRange2_e : iRange2 fs σ S R = fs σ S fun ds S1 => vRng2 ds S1 R := rfl
theorem vRng2_i {i j} : vRng2 [.int i, .int j] S R = ((-(2 ^ 62) ≤ i ∧ i < 2 ^ 62 ∧ -(2 ^ 62) ≤ j ∧ j < 2 ^ 62) ∧ R (rangeD i (j - i).toNat) (fun _ => True) S) := rfl
def vZip (ds : List D) (S : Sto) (R : List D → (Sto → Prop) → Sto → Prop) : Prop := iZipD (fun _ S Q => Q ds S) [] S R
theorem iZipD_e : iZipD fs σ S R = fs σ S fun ds S1 => vZip ds S1 R := rfl
theorem vZip_r : vZip [.ref p, .ref q] S R = ∃ xs ys, S p = some (.lst xs) ∧ S q = some (.lst ys) ∧ R (pairs xs ys) (fun S => S p = some (.lst xs) ∧ S q = some (.lst ys)) S := rfl
theorem vZip_t {xs ys} : vZip [.tup xs, .tup ys] S R = R (pairs xs ys) (fun _ => True) S := rfl
def vEnum (ds : List D) (S : Sto) (R : List D → (Sto → Prop) → Sto → Prop) : Prop := iEnumD (fun _ S Q => Q ds S) [] S R
theorem iEnumD_e : iEnumD fs σ S R = fs σ S fun ds S1 => vEnum ds S1 R := rfl
theorem vEnum_r : vEnum [.ref p] S R = ∃ xs, S p = some (.lst xs) ∧ R (enumD xs) (fun S => S p = some (.lst xs)) S := rfl
/-! targets, stores -/
variable {N : Env → Sto → Prop} {gs : List D → Env → Sto → (Env → Sto → Prop) → Prop} {gg : DG}
theorem nTupL_t {n ds} : nTupL n gs (.tup ds) σ S N = (ds.length = n ∧ gs ds σ S N) := rfl
theorem nTupL_r {n} : nTupL n gs (.ref p) σ S N = ∃ ds, S p = some (.lst ds) ∧ ds.length = n ∧ gs ds σ S N := rfl
theorem nCons_c {d r} : nCons gg gs (d :: r) σ S N = gg d σ S fun σ1 S1 => gs r σ1 S1 N := rfl
theorem nNil_n : nNil [] σ S N = N σ S := rfl
def oPut (o : Option O) (p : Addr) (i d : D) (S : Sto) (N : Sto → Prop) : Prop := match o with
  | some (.dk kvs) => ∃ k, toKey i = some k ∧ kvs.length < sizeLine ∧ N (updS S p (.dk (putD kvs k d)))
  | some (.dt kvs) => (match i with
    | .kt ks => kvs.length < sizeLine ∧ N (updS S p (.dt (putT kvs ks d)))
    | _ => False)
  | some (.lst xs) => (match i with
    | .int n => ∃ j, ixN xs.length n = some j ∧ N (updS S p (.lst (xs.set j d)))
    | _ => False)
  | some (.tab _) => False | some (.ins _ _) => False
  | some (.fz _) => False
  | none => False
def vPut (o i d : D) (S : Sto) (N : Sto → Prop) : Prop := match o with
  | .ref p => oPut (S p) p i d S N
  | _ => False
theorem sSub_e {fv fo fi : DE} {D0 : DEnds} : sSub fv fo fi D0 σ S = fv σ S fun d S1 => fo σ S1 fun o S2 => fi σ S2 fun i S3 => vPut o i d S3 (D0.nx σ) := by
  unfold sSub
  refine congrArg (fv σ S) (funext fun d => funext fun S1 => congrArg (fo σ S1) (funext fun o => funext fun S2 => congrArg (fi σ S2) (funext fun i => funext fun S3 => ?_)))
  unfold vPut oPut
  cases o with
  | ref p =>
    dsimp only
    all_goals cases S3 p with
    | none => rfl
    | some u => cases u <;> rfl
  | _ => rfl
theorem vPut_r {i d M} : vPut (.ref p) i d S M = oPut (S p) p i d S M := rfl
theorem oPut_ds {kvs} {x : Str} {d M} : oPut (some (.dk kvs)) p (.str x) d S M = (kvs.length < sizeLine ∧ M (updS S p (.dk (putD kvs (.inr x) d)))) := by
  show (∃ k, some (Sum.inr x) = some k ∧ kvs.length < sizeLine ∧ M (updS S p (.dk (putD kvs k d)))) = _
  simp only [Option.some.injEq, exists_eq_left']
theorem oPut_di {kvs} {x : Int} {d M} : oPut (some (.dk kvs)) p (.int x) d S M = (kvs.length < sizeLine ∧ M (updS S p (.dk (putD kvs (.inl x) d)))) := by
  show (∃ k, some (Sum.inl x) = some k ∧ kvs.length < sizeLine ∧ M (updS S p (.dk (putD kvs k d)))) = _
  simp only [Option.some.injEq, exists_eq_left']
theorem oPut_l {xs n d M} : oPut (some (.lst xs)) p (.int n) d S M = ∃ j, ixN xs.length n = some j ∧ M (updS S p (.lst (xs.set j d))) := rfl
end
end DL
namespace DL
section
variable {n : Env → Sto → Prop} {r : DK} {b c : Env → Sto → Prop}
theorem nx_mk : DEnds.nx ⟨n, r, b, c⟩ = n := id rfl
theorem rt_mk : DEnds.rt ⟨n, r, b, c⟩ = r := id rfl
theorem bk_mk : DEnds.bk ⟨n, r, b, c⟩ = b := id rfl
theorem ct_mk : DEnds.ct ⟨n, r, b, c⟩ = c := id rfl
end
end DL
/-! rows of the mirrors, continued -/
namespace DL
open PySem L2
section
variable {S S1 S' : Sto} {Q : DK} {σ : DL.Env} {p q : Addr} {fo fe ff fa : DE} {m : MF}
theorem gLt2_ii {i j} : gLt2 (.int i) (.int j) S Q = Q (.bl (decide (i < j))) S := rfl
theorem gLt2_ss {i j : Str} : gLt2 (.str i) (.str j) S Q = Q (.bl (decide (i.cps.toList < j.cps.toList))) S := rfl
def vTab (tab : List (Str × Int)) (y : D) (S : Sto) (Q : DK) : Prop := eTab tab (eC y) [] S Q
theorem eTab_e {tab : List (Str × Int)} {f : DE} : eTab tab f σ S Q = f σ S fun y S1 => vTab tab y S1 Q := rfl
theorem vTab_s {tab : List (Str × Int)} {z : Str} : vTab tab (.str z) S Q = ∃ i, tabAt tab z = some i ∧ Q (.int i) S := rfl
def vGet2 (p : Addr) (y z : D) (S : Sto) (Q : DK) : Prop := ∃ kvs k, S p = some (.dk kvs) ∧ toKey y = some k ∧ Q ((valD kvs k).getD z) S
def vGetO (o : D) (S : Sto) (R : Addr → Prop) : Prop := match o with
  | .ref p => (∃ kvs, S p = some (.dk kvs)) ∧ R p
  | _ => False
theorem eGet2_e : eGet2 fo fe ff σ S Q = fo σ S fun o S1 => vGetO o S1 fun p => fe σ S1 fun y S2 => ff σ S2 fun z S3 => vGet2 p y z S3 Q := by
  unfold eGet2 vGetO
  refine congrArg (fo σ S) (funext fun o => funext fun S1 => ?_)
  cases o <;> rfl
theorem vGetO_r {R : Addr → Prop} : vGetO (.ref p) S R = ((∃ kvs, S p = some (.dk kvs)) ∧ R p) := rfl
theorem vGet2_s {x : Str} {z : D} : vGet2 p (.str x) z S Q = ∃ kvs, S p = some (.dk kvs) ∧ Q ((valD kvs (.inr x)).getD z) S := by
  show (∃ kvs k, S p = some (.dk kvs) ∧ some (Sum.inr x) = some k ∧ Q ((valD kvs k).getD z) S) = _
  refine propext ⟨fun ⟨kvs, k, h1, h2, h3⟩ => ?_, fun ⟨kvs, h1, h3⟩ => ⟨kvs, _, h1, rfl, h3⟩⟩
  cases h2
  exact ⟨kvs, h1, h3⟩
end
end DL
/-! rows of the mirrors: repr, len(set(..)), [::-1] -/
namespace DL
open PySem L2
section
variable {S S1 S' : Sto} {Q : DK} {σ : DL.Env} {p q : Addr} {fo fe ff fa : DE} {m : MF}
def vLenSet (d : D) (S : Sto) (Q : DK) : Prop := ∃ ds ks, itmD S d = some ds ∧ asKs ds = some ks ∧ ks.length + 1 < 4096 ∧ Q (.int (dst ks)) S
theorem eLenSet_e : eLenSet fe σ S Q = fe σ S fun d S1 => vLenSet d S1 Q := rfl
def vRev (d : D) (S : Sto) (Q : DK) : Prop := match d with
  | .tup ds => Q (.tup ds.reverse) S
  | d => ∃ ds, itmD S d = some ds ∧ ∀ q, S q = none → Q (.ref q) (updS S q (.lst ds.reverse))
theorem eRev_e : eRev fe σ S Q = fe σ S fun d S1 => vRev d S1 Q := by
  unfold eRev vRev
  refine congrArg (fe σ S) (funext fun d => funext fun S1 => ?_)
  cases d <;> rfl
theorem vRev_t {ds : List D} : vRev (.tup ds) S Q = Q (.tup ds.reverse) S := rfl
theorem gStr2_i {i} : gStr2 [.int i] S Q = (i.natAbs.log2 < 1920 ∧ Q (.str (Str.ofString (toString i))) S) := rfl
theorem gStr2_s {z} : gStr2 [.str z] S Q = Q (.str z) S := rfl
def boxD : D → Bool
  | .tup _ => true
  | .fl _ => true
  | .ref _ => true
  | _ => false
theorem repr_i {d : D} {pd : PyData} (h : RP S d pd) (hd : boxD d = true) (hs : pd.showable = true) (hp : pd.depth ≤ 32) (hl : pd.shown.length ≤ sizeLine) (q : Q (.str pd.shown) S) : gRepr [d] S Q := by
  cases d <;> first | exact ⟨_, pd, rfl, h, trivial, hs, hp, hl, q⟩ | (unfold boxD at hd; cases hd)
end
end DL
/-! rows of the mirrors: tables, pairs -/
namespace DL
open PySem L2
section
variable {S S1 S' : Sto} {Q : DK} {σ : DL.Env} {p q : Addr} {fe : DE} {fs : DA} {D0 : DEnds}
def vTabIn (tab : List (Str × Int)) (f : Bool → Bool) (y : D) (S : Sto) (Q : DK) : Prop := eTabIn tab f (eC y) [] S Q
theorem eTabIn_e {tab : List (Str × Int)} {f : Bool → Bool} : eTabIn tab f fe σ S Q = fe σ S fun y S1 => vTabIn tab f y S1 Q := rfl
theorem vTabIn_s {tab : List (Str × Int)} {f : Bool → Bool} {z : Str} : vTabIn tab f (.str z) S Q = ((tabAt tab z).isSome = true ∧ Q (.bl (f true)) S) := rfl
def vPar (i j : Nat) (ds : List D) (D0 : DEnds) (σ : DL.Env) (S : Sto) : Prop := sPar i j (fun _ S K => K ds S) D0 σ S
theorem sPar_e {i j : Nat} : sPar i j fs D0 σ S = fs σ S fun ds S1 => vPar i j ds D0 σ S1 := rfl
theorem vPar_2 {i j : Nat} {v w : D} : vPar i j [v, w] D0 σ S = D0.nx (setS j w (setS i v σ)) S := rfl
end
end DL
namespace LW
open PySem L2 DL
section
variable {S S1 S' : Sto} {Q : DK} {σ : DL.Env} {p q : Addr} {fo fe ff fa : DE} {m : MF}
def vListV (o : D) (S : Sto) (Q : DK) : Prop := match o with
  | .ref p => ∃ kvs, S p = some (.dk kvs) ∧ ∀ a, S a = none → Q (.ref a) (updS S a (.lst (kvs.map (·.2))))
  | _ => False
theorem eListV_e : eListV fo σ S Q = fo σ S fun o S1 => vListV o S1 Q := by
  unfold eListV vListV
  rfl
theorem vListV_r : vListV (.ref p) S Q = ∃ kvs, S p = some (.dk kvs) ∧ ∀ a, S a = none → Q (.ref a) (updS S a (.lst (kvs.map (·.2)))) := rfl
def vSortK (m : MF) (o : D) (S : Sto) (Q : DK) : Prop := match o with
  | .ref p => ∃ xs, S p = some (.lst xs) ∧ keyed m xs fun ys => ∀ n, S n = none → Q (.ref n) (updS S n (.lst ys))
  | _ => False
theorem eSortK_e : eSortK m fa σ S Q = fa σ S fun o S1 => vSortK m o S1 Q := by
  unfold eSortK vSortK
  rfl
theorem vSortK_r : vSortK m (.ref p) S Q = ∃ xs, S p = some (.lst xs) ∧ keyed m xs fun ys => ∀ n, S n = none → Q (.ref n) (updS S n (.lst ys)) := rfl
end
end LW
namespace LW
open PySem L2 DL
section
variable {S S1 S' : Sto} {Q : DK} {R : List D → (Sto → Prop) → Sto → Prop} {σ : DL.Env} {p q : Addr} {fo fe ff fa : DE} {fs : DA} {m : MF}
theorem gSplit_s {z y : Str} : gSplit (.str z) [.str y] S Q = ((y.length == 0) = false ∧ z.length + 2 ≤ sizeLine ∧ ∀ p, S p = none → Q (.ref p) (updS S p (.lst ((Txt.split z y).map .str)))) := rfl
theorem gExtend_rt {ds : List D} : gExtend (.ref p) [.tup ds] S Q = ∃ xs, S p = some (.lst xs) ∧ xs.length + ds.length ≤ sizeLine ∧ Q .non (updS S p (.lst (xs ++ ds))) := rfl
theorem gInt2_s {z : Str} : gInt2 [.str z] S Q = ∃ n, PySem.intText? z = some n ∧ z.length ≤ 640 ∧ Q (.int n) S := rfl
def vRng3 (ds : List D) (S : Sto) (R : List D → (Sto → Prop) → Sto → Prop) : Prop := iRange3 (fun _ S Q => Q ds S) [] S R
theorem iRange3_e : iRange3 fs σ S R = fs σ S fun ds S1 => vRng3 ds S1 R := rfl
theorem vRng3_i {i j c : Int} : vRng3 [.int i, .int j, .int c] S R = ∃ n, RgC i j c n ∧ R (stepD i c n) (fun _ => True) S := rfl
def vTabW (tab : List (Str × List Int)) (y : D) (S : Sto) (Q : DK) : Prop := match y with
  | .str z => ∃ is, tabWAt tab z = some is ∧ Q (.tup (is.map .int)) S
  | _ => False
theorem eTabW_e {tab : List (Str × List Int)} : eTabW tab fe ff σ S Q = fe σ S fun y S1 => ff σ S1 fun _ S2 => vTabW tab y S2 Q := rfl
theorem vTabW_s {tab : List (Str × List Int)} {z : Str} : vTabW tab (.str z) S Q = ∃ is, tabWAt tab z = some is ∧ Q (.tup (is.map .int)) S := rfl
end
end LW
namespace LW
open PySem L2 DL
section
variable {S S1 S' : Sto} {Q : DK} {D0 : DEnds} {Ed : EK} {σ : DL.Env} {f g : DSX}
theorem seqx_i (h : f { D0 with nx := g D0 Ed } Ed σ S) : xSeq f g D0 Ed σ S := h
end
end LW
namespace LW
open PySem L2 DL
section
variable {S S1 S' : Sto} {Q : DK} {σ : DL.Env} {fs : DA} {f : DE} {p q : Addr}
theorem eTupK_e : eTupK fs σ S Q = fs σ S fun xs S1 => xs.length ≤ sizeLine ∧ ∃ ks, toKeys xs = some ks ∧ Q (.kt ks) S1 := id rfl
theorem eUp_e : eUp f σ S Q = f σ S fun d S1 => Q (upD d) S1 := id rfl
theorem eDictT0_e : eDictT0 σ S Q = ∀ p, S p = none → Q (.ref p) (updS S p (.dt [])) := id rfl
theorem gListK_r : gListK [.ref q] S Q = ∃ kvs, S q = some (.dt kvs) ∧ ∀ p, S p = none → Q (.ref p) (updS S p (.lst (kvs.map fun kv => .kt kv.1))) := id rfl
theorem oIx_t {kvs ks} : oIx (some (.dt kvs)) (.kt ks) S Q = ∃ d, valT kvs ks = some d ∧ Q d S := id rfl
theorem oPut_t {kvs ks d} {M : Sto → Prop} : oPut (some (.dt kvs)) p (.kt ks) d S M = (kvs.length < sizeLine ∧ M (updS S p (.dt (putT kvs ks d)))) := id rfl
theorem toKeys_ss {a b : Str} : toKeys [.str a, .str b] = some [.inr a, .inr b] := id rfl
theorem upD_k {ks} : upD (.kt ks) = .tup (ks.map kD) := id rfl
end
end LW
namespace LW
open PySem L2 DL
section
variable {S S1 S' : Sto} {Q : DK} {σ : DL.Env} {fs : DA} {f : DE} {p q : Addr}
theorem eLk_e : eLk f σ S Q = ∃ p kvs, S p = some (.dk kvs) ∧ f σ (updS S p (.fz kvs)) fun d S' => Q d (updS S' p (.dk kvs)) := id rfl
def vFz (g : List (Key × DL.D) → List DL.D) (d : DL.D) (S : Sto) (Q : List DL.D → (Sto → Prop) → Sto → Prop) : Prop := match d with
  | .ref p => ∃ kvs, S p = some (.fz kvs) ∧ Q (g kvs) (fun S => S p = some (.fz kvs)) S
  | _ => False
theorem iFz_e {g} {Q : List DL.D → (Sto → Prop) → Sto → Prop} : iFz g f σ S Q = f σ S fun d S1 => vFz g d S1 Q := id rfl
theorem vFz_r {g} {Q : List DL.D → (Sto → Prop) → Sto → Prop} : vFz g (.ref p) S Q = ∃ kvs, S p = some (.fz kvs) ∧ Q (g kvs) (fun S => S p = some (.fz kvs)) S := id rfl
theorem nUp_e {g : DG} {d : DL.D} {Q : DL.Env → Sto → Prop} : nUp g d σ S Q = g (upD d) σ S Q := id rfl
theorem upD_t {xs} : upD (.tup xs) = .tup xs := id rfl
theorem upD_r : upD (.ref p) = .ref p := id rfl
theorem oIx_zs {kvs} {x : Str} : oIx (some (.fz kvs)) (.str x) S Q = ∃ d, valD kvs (.inr x) = some d ∧ Q d S := by
  show (∃ k d, some (Sum.inr x) = some k ∧ valD kvs k = some d ∧ Q d S) = _
  simp only [Option.some.injEq, exists_and_left, exists_eq_left']
theorem oIn_zs {k : Bool → Bool} {kvs} {x : Str} : oIn k (some (.fz kvs)) (.str x) S Q = Q (.bl (k (hasD kvs (.inr x)))) S := by
  show (∃ j, some (Sum.inr x) = some j ∧ Q (.bl (k (hasD kvs j))) S) = _
  simp only [Option.some.injEq, exists_eq_left']
theorem gLe2_ii {i j} : gLe2 (.int i) (.int j) S Q = Q (.bl (decide (i ≤ j))) S := id rfl
theorem toKeys_si {a : Str} {b : Int} : toKeys [.str a, .int b] = some [.inr a, .inl b] := id rfl
theorem gInt2_b {b : Bool} : gInt2 [.bl b] S Q = Q (.int (if b = true then 1 else 0)) S := by rfl
end
end LW
namespace LW
open PySem L2 DL
section
variable {S S1 S' : Sto} {Q : DK} {σ : DL.Env} {f : DE} {p q : Addr}
def vSortSet (d : DL.D) (S : Sto) (Q : DK) : Prop := ∃ zs : List Str, itmD S d = some (zs.map .str) ∧ zs.length + 1 < 4096 ∧ ∀ us : List Str, us.Nodup → (∀ z, z ∈ us ↔ z ∈ zs) → ∀ n, S n = none → Q (.ref n) (updS S n (.lst ((srtS us).map .str)))
theorem eSortSet_e : eSortSet f σ S Q = f σ S fun d S1 => vSortSet d S1 Q := rfl
/-- each once -/
def onceS : List Str → List Str
  | [] => []
  | x :: r => if x ∈ onceS r then onceS r else x :: onceS r
/-- the set's members, each once, in their order -/
def uniqS (zs : List Str) : List Str := srtS (onceS zs)
end
end LW
namespace LW
open PySem L2 DL
section
variable {S : Sto} {fs : DA} {σ : DL.Env} {R : List DL.D → (Sto → Prop) → Sto → Prop}
def vEnumT (ds : List DL.D) (S : Sto) (R : List DL.D → (Sto → Prop) → Sto → Prop) : Prop := iEnumT (fun _ S Q => Q ds S) [] S R
theorem iEnumT_e : iEnumT fs σ S R = fs σ S fun ds S1 => vEnumT ds S1 R := rfl
theorem vEnumT_t {xs} : vEnumT [.tup xs] S R = R (enumD xs) (fun _ => True) S := rfl
end
end LW
namespace LW
open PySem L2 DL
section
variable {S : Sto} {Q : DK} {p b : Addr}
theorem gExtendL_rt {ds} : gExtendL (.ref p) [.tup ds] S Q = ∃ xs, S p = some (.lst xs) ∧ xs.length + ds.length ≤ sizeLine ∧ Q .non (updS S p (.lst (xs ++ ds))) := rfl
theorem gExtendL_rr : gExtendL (.ref p) [.ref b] S Q = ∃ xs ds, S p = some (.lst xs) ∧ S b = some (.lst ds) ∧ xs.length + ds.length ≤ sizeLine ∧ Q .non (updS S p (.lst (xs ++ ds))) := rfl
end
end LW
namespace LW
open PySem L2 DL
section
variable {S : Sto} {Q : DK} {p : Addr} {f : DE} {σ : DL.Env}
def vSumV (o : DL.D) (S : Sto) (Q : DK) : Prop := match o with
  | .ref p => ∃ (kvs : List (Key × DL.D)) (ns : List Int), S p = some (.dk kvs) ∧ kvs.map (·.2) = ns.map DL.D.int ∧ Q (.int ns.sum) S
  | _ => False
theorem eSumV_e : eSumV f σ S Q = f σ S fun d S1 => vSumV d S1 Q := by
  unfold eSumV vSumV
  rfl
theorem vSumV_r : vSumV (.ref p) S Q = ∃ (kvs : List (Key × DL.D)) (ns : List Int), S p = some (.dk kvs) ∧ kvs.map (·.2) = ns.map DL.D.int ∧ Q (.int ns.sum) S := rfl
def vSortSetI (d : DL.D) (S : Sto) (Q : DK) : Prop := ∃ zs : List Int, itmD S d = some (zs.map .int) ∧ zs.length + 1 < 4096 ∧ ∀ us : List Int, us.Nodup → (∀ z, z ∈ us ↔ z ∈ zs) → ∀ n, S n = none → Q (.ref n) (updS S n (.lst ((srtI us).map .int)))
theorem eSortSetI_e : eSortSetI f σ S Q = f σ S fun d S1 => vSortSetI d S1 Q := rfl
end
end LW
namespace LW
open PySem L2 DL
section
variable {S : Sto} {fs : DA} {σ : DL.Env} {R : List DL.D → (Sto → Prop) → Sto → Prop}
def vZip3 (ds : List DL.D) (S : Sto) (R : List DL.D → (Sto → Prop) → Sto → Prop) : Prop := iZip3D (fun _ S Q => Q ds S) [] S R
theorem iZip3D_e : iZip3D fs σ S R = fs σ S fun ds S1 => vZip3 ds S1 R := rfl
theorem vZip3_t {xs : List DL.D} {q r : Addr} : vZip3 [.tup xs, .ref q, .ref r] S R = ∃ ys zs, S q = some (.lst ys) ∧ S r = some (.lst zs) ∧ R (trips xs ys zs) (fun S => S q = some (.lst ys) ∧ S r = some (.lst zs)) S := rfl
end
end LW
namespace LW
open PySem L2 DL
section
variable {S : Sto} {fs : DA} {σ : DL.Env} {R : List DL.D → (Sto → Prop) → Sto → Prop}
def vZipM (ds : List DL.D) (S : Sto) (R : List DL.D → (Sto → Prop) → Sto → Prop) : Prop := iZipM (fun _ S Q => Q ds S) [] S R
theorem iZipM_e : iZipM fs σ S R = fs σ S fun ds S1 => vZipM ds S1 R := rfl
theorem vZipM_t {xs : List DL.D} {q : Addr} : vZipM [.tup xs, .ref q] S R = ∃ ys, S q = some (.lst ys) ∧ R (pairs xs ys) (fun S => S q = some (.lst ys)) S := rfl
end
end LW
namespace LW
open PySem L2 DL
section
variable {S : Sto} {f g : DE} {σ : DL.Env} {Q : DK} {R : Bool → Prop}
theorem eOrT_e : eOrT f g σ S Q = f σ S fun x S1 => truD x S1 fun k => if k = true then Q x S1 else g σ S1 Q := rfl
theorem eAndT_e : eAndT f g σ S Q = f σ S fun x S1 => truD x S1 fun k => if k = true then g σ S1 Q else Q x S1 := rfl
theorem truD_n : truD .non S R = R false := rfl
theorem truD_b {k : Bool} : truD (.bl k) S R = R k := rfl
theorem truD_i {i : Int} : truD (.int i) S R = R (i != 0) := rfl
theorem truD_t {xs : List DL.D} : truD (.tup xs) S R = R (!xs.isEmpty) := rfl
end
end LW
namespace LW
open PySem L2 DL
section
variable {S : Sto} {f g : DE} {σ : DL.Env} {Q : DK} {a p d : Addr}
theorem gDictC_r : gDictC [.ref a] S Q = ∃ kvs, S a = some (.dk kvs) ∧ ∀ p, S p = none → Q (.ref p) (updS S p (.dk kvs)) := rfl
theorem gListC_r : gListC [.ref a] S Q = ∃ kvs, S a = some (.dk kvs) ∧ ∀ p, S p = none → Q (.ref p) (updS S p (.lst (kvs.map fun q => kD q.1))) := rfl
theorem gUpdP_r : gUpdP (.ref d) [.ref a] S Q = ∃ acc ds kvs, S d = some (.dk acc) ∧ S a = some (.lst ds) ∧ pairsD ds = some kvs ∧ acc.length + kvs.length ≤ sizeLine ∧ Q .non (updS S d (.dk (mergeD acc kvs))) := rfl
theorem gMulS_i {z : Str} {k : Int} : gMulS (.str z) (.int k) S Q = (0 ≤ k ∧ k ≤ 1 ∧ Q (.str (mulS1 z k)) S) := rfl
def vLenSetL (d : DL.D) (S : Sto) (Q : DK) : Prop := ∃ ds ks, itmD S d = some ds ∧ asLs ds = some ks ∧ ks.length + 1 < 4096 ∧ Q (.int (dstL ks)) S
theorem eLenSetL_e : eLenSetL f σ S Q = f σ S fun d S1 => vLenSetL d S1 Q := rfl
/-- a None or a text -/
def optD : Option Str → DL.D
  | none => .non
  | some z => .str z
def optL : Option Str → Leaf
  | none => .none
  | some z => .text z
end
end LW
namespace LW
open PySem L2 DL
section
variable {S : Sto} {Q : DK} {p : Addr} {m : MF} {fa : DE} {σ : DL.Env}
def vSortKA (m : MF) (o : DL.D) (S : Sto) (Q : DK) : Prop := match o with
  | .ref p => ∃ xs, S p = some (.lst xs) ∧ keyed m xs fun ys => ∀ n, S n = none → Q (.ref n) (updS S n (.lst ys))
  | .tup xs => keyed m xs fun ys => ∀ n, S n = none → Q (.ref n) (updS S n (.lst ys))
  | _ => False
theorem eSortKA_e : eSortKA m fa σ S Q = fa σ S fun o S1 => vSortKA m o S1 Q := by
  unfold eSortKA vSortKA
  rfl
theorem vSortKA_r : vSortKA m (.ref p) S Q = ∃ xs, S p = some (.lst xs) ∧ keyed m xs fun ys => ∀ n, S n = none → Q (.ref n) (updS S n (.lst ys)) := rfl
theorem gMulR_i {z : Str} {k : Int} : gMulR (.str z) (.int k) S Q = (0 ≤ k ∧ k ≤ 1000 ∧ z.length ≤ 1000 ∧ Q (.str (mulR z k)) S) := rfl
theorem vSortKA_t {xs} : vSortKA m (.tup xs) S Q = keyed m xs fun ys => ∀ n, S n = none → Q (.ref n) (updS S n (.lst ys)) := rfl
end
end LW
namespace LW
open PySem L2 DL
section
variable {S : Sto} {Q : DK} {p : Addr} {fa : DE} {fs : DA} {σ : DL.Env}
theorem eWk_e : eWk fa σ S Q = fa σ S fun d S1 => Q (wkD d) S1 := rfl
theorem wkD_i {i} : wkD (.int i) = .int i := by unfold wkD; rfl
theorem wkD_s {z} : wkD (.str z) = .str z := by unfold wkD; rfl
theorem wkD_b {z} : wkD (.bl z) = .bl z := by unfold wkD; rfl
theorem wkD_r {z} : wkD (.ref z) = .ref z := by unfold wkD; rfl
theorem wkD_n : wkD .non = .non := by unfold wkD; rfl
theorem gTupleN_r : gTupleN [.ref p] S Q = ∃ ys, S p = some (.lst ys) ∧ Q (.nt ys) S := rfl
theorem eIdxN_e {fo : DE} : eIdxN fo fs σ S Q = fo σ S fun x S1 => (∃ ys, x = .nt ys) ∧ fs σ S1 fun xs S2 => gIdxN x xs S2 Q := rfl
end
end LW
namespace LW
open PySem L2 DL
section
variable {S : Sto} {Q : DK} {p : Addr} {f : Bool → Bool} {z : Str}
theorem gEqX_ss {y} : gEqX f (.str z) (.str y) S Q = gEq f (.str z) (.str y) S Q := rfl
theorem gEqX_sn : gEqX f (.str z) .non S Q = gEq f (.str z) .non S Q := rfl
theorem gEqX_sb {y} : gEqX f (.str z) (.bl y) S Q = gEq f (.str z) (.bl y) S Q := rfl
theorem gEqX_si {y} : gEqX f (.str z) (.int y) S Q = gEq f (.str z) (.int y) S Q := rfl
theorem gEqX_st {y} : gEqX f (.str z) (.tup y) S Q = gEq f (.str z) (.tup y) S Q := rfl
end
end LW
/-! rows: what may raise within larger expressions -/
namespace DL
open PySem L2
section
variable {Ed : EK} {σ : Env} {S : Sto} {Q : DK} {QL : List D → Sto → Prop}
theorem xA_e {f : DA} : xA f Ed σ S QL = f σ S QL := rfl
theorem xCons_e {fa : DEX} {fs : DAX} : xCons fa fs Ed σ S QL = fa Ed σ S fun x S1 => fs Ed σ S1 fun xs S2 => QL (x :: xs) S2 := rfl
theorem xCall_e {n : Nat} {m : MFX} {fs : DAX} : xCall n m fs Ed σ S Q = fs Ed σ S fun ds S1 => ds.length = n ∧ m ds S1 Q Ed := rfl
theorem xCB_e {g : GN} {fs : DAX} : xCB g fs Ed σ S Q = fs Ed σ S fun ds S1 => g ds S1 Q := rfl
def vGetX (o : D) (fe ff : DE) (σ : Env) (S1 : Sto) (Q : DK) : Prop := match o with
  | .ref p => (∃ kvs, S1 p = some (.dk kvs)) ∧ fe σ S1 fun y S2 => ff σ S2 fun z S3 => ∃ kvs k, S3 p = some (.dk kvs) ∧ toKey y = some k ∧ Q ((valD kvs k).getD z) S3
  | _ => False
theorem xGet2_e {fo : DEX} {fe ff : DE} : xGet2 fo fe ff Ed σ S Q = fo Ed σ S fun o S1 => vGetX o fe ff σ S1 Q := rfl
theorem vGetX_r {p : Addr} {fe ff : DE} : vGetX (.ref p) fe ff σ S Q = ((∃ kvs, S p = some (.dk kvs)) ∧ fe σ S fun y S2 => ff σ S2 fun z S3 => ∃ kvs k, S3 p = some (.dk kvs) ∧ toKey y = some k ∧ Q ((valD kvs k).getD z) S3) := rfl
end
end DL
/-! rows: list(range(n)) -/
namespace DL
open PySem L2
section
variable {σ : Env} {S : Sto} {Q : DK}
def vListRg (o : D) (S1 : Sto) (Q : DK) : Prop := match o with
  | .int j => (-(2 ^ 62) ≤ j ∧ j < 2 ^ 62 ∧ j.toNat ≤ 2 ^ 24) ∧ ∀ a, S1 a = none → Q (.ref a) (updS S1 a (.lst (rangeD 0 j.toNat)))
  | _ => False
theorem eListRg_e {fo : DE} : eListRg fo σ S Q = fo σ S fun o S1 => vListRg o S1 Q := rfl
theorem vListRg_i {j : Int} : vListRg (.int j) S Q = ((-(2 ^ 62) ≤ j ∧ j < 2 ^ 62 ∧ j.toNat ≤ 2 ^ 24) ∧ ∀ a, S a = none → Q (.ref a) (updS S a (.lst (rangeD 0 j.toNat)))) := rfl
end
end DL
/-! rows: insert -/
namespace DL
open PySem L2
section
variable {S : Sto} {Q : DK}
theorem gInsert_r {p : Addr} {i : Int} {y : D} : gInsert (.ref p) [.int i, y] S Q = ∃ xs, S p = some (.lst xs) ∧ xs.length < sizeLine ∧ 0 ≤ i ∧ i < 2 ^ 62 ∧ Q .non (updS S p (.lst (xs.take i.toNat ++ [y] ++ xs.drop i.toNat))) := rfl
end
end DL
open PySem L2 DL LW
local macro_rules | `(tactic| simp_arith [$xs,*]) => `(tactic| simp (config := {implicitDefEqProofs := false, proj := false}) only [nx_mk, rt_mk, bk_mk, ct_mk, gInsert_r, eListRg_e, vListRg_i, xA_e, xCons_e, xCall_e, xCB_e, xGet2_e, vGetX_r, gEqX_ss, gEqX_sn, gEqX_sb, gEqX_si, gEqX_st, eWk_e, wkD_i, wkD_s, wkD_b, wkD_r, wkD_n, gTupleN_r, eIdxN_e, gMulR_i, eSortKA_e, vSortKA_r, vSortKA_t, gDictC_r, gListC_r, gUpdP_r, gMulS_i, eLenSetL_e, eOrT_e, eAndT_e, truD_n, truD_b, truD_i, truD_t, List.isEmpty_cons, List.isEmpty_nil, iZipM_e, vZipM_t, iZip3D_e, vZip3_t, eSortSetI_e, eSumV_e, vSumV_r, gExtendL_rt, gExtendL_rr, gInt2_b, iEnumT_e, vEnumT_t, eSortSet_e, eLk_e, iFz_e, vFz_r, nUp_e, upD_t, upD_r, oIx_zs, oIn_zs, gLe2_ii, toKeys_si, eTupK_e, eUp_e, eDictT0_e, gListK_r, oIx_t, oPut_t, toKeys_ss, upD_k, xS, xIf, xSet, xRet, xExpr, xRaise, eCallX, mNo, xE, sTry, sKeep, xFor, eVar, eC, eOp, eIf, eTup, eLst, eDict0, eDict, eSl, oNo, eCall, eCB, eM, eLc, eIsi2, aNil, aCons, pNil, pCons, tAndD, tOrD, tNotD, tsYes, gMns, gMod, gFdiv, gPow, gLe, gGt, gGe, gEq_ii, gEq_ss, gEq_bb, gEq_nn, gEq_ni, gEq_in, gEq_ns, gEq_sn, gEq_si, gEq_is, sAsg, nName, sRet, sRetN, sExpr, sIf, sNext, sBreak, sCont, sFor, getS, setS, wipeS, endsD, asKeys, toKey, List.length_cons, List.length_nil, List.set_cons_zero, List.set_cons_succ, List.set_nil, Nat.zero_add, Nat.reduceAdd, Option.some.injEq, exists_and_left, exists_eq_left', exists_eq_left, id_eq, if_true, if_false, ite_true, ite_false, Bool.not_true, Bool.not_false, Bool.false_eq_true, not_false_eq_true, not_true_eq_false, reduceCtorEq, true_and, and_true, ne_eq, decide_eq_true_eq, isiN, isiCls, List.mem_cons, String.reduceEq, String.reduceBEq, or_true, true_or, or_false, false_or, Bool.or_true, Bool.true_or, Bool.false_or, Bool.or_false, Bool.and_false, Bool.false_and, Bool.true_and, Bool.and_true, beq_self_eq_true, decide_true, decide_false, tTr_e, vTru_non, vTru_bl, vTru_int, vTru_str, vTru_tup, vTru_ref, oTru_l, oTru_d, tBl_e, vBl_bl, eNeg_e, vNeg_int, eChain_e, eAnd_e, eOr_e, eNot_e, oSome_e, vSome_int, gAdd_ii, gAdd_ss, gAdd_tt, gAdd_rr, gI_ii, eTabIn_e, vTabIn_s, sPar_e, vPar_2, eLenSet_e, gSplit_s, gExtend_rt, gInt2_s, iRange3_e, vRng3_i, eTabW_e, vTabW_s, eListV_e, vListV_r, eSortK_e, vSortK_r, eRev_e, vRev_t, gStr2_i, gStr2_s, gI0_ii, gMulA_ii, gMulA_ri, gMulA_ti, gLt_ii, gLt_ss, gLt2_ii, gLt2_ss, eTab_e, vTab_s, eGet2_e, vGetO_r, vGet2_s, gIs_n, gIs_b, isNon_n, isNon_b, isNon_i, isNon_s, isNon_t, isNon_r, gIx_r, oIx_li, oIx_ds, oIx_di, gIx_ti, gIx_fi, gIx_si, gSl_t, gSl_s, gSl_f, gSl_r, gIn_ss, gIn_t, gIn_r, oIn_l, oIn_ds, gLen_s, gLen_t, gLen_f, gLen_r, oLen_l, oLen_d, gAbs_i, gMax2_ii, gMin2_ii, gInt1_i, gInt1_b, gList_t, gList_f, gList_r, gTuple_t, gTuple_f, gTuple_r, gSum_r, gAll_r, gIsi_x, tyD_n, tyD_b, tyD_i, tyD_s, tyD_t, tyD_f, tyD_r, oTy_l, oTy_d, tyM_s, tyM_r, oTyM_l, oTyM_d, gAppend_r, gPop0_r, gPopAt_r, gClear_r, gReverse_r, gJoin_r, gUpper_s, gStr_i, gSorted_r, iSeq_e, vSeq_r, vSeq_f, vSeq_t, vSeq_s, iRange1_e, vRng1_i, iRange2_e, vRng2_i, iZipD_e, vZip_r, vZip_t, iEnumD_e, vEnum_r, nTupL_t, nTupL_r, nCons_c, nNil_n, sSub_e, vPut_r, oPut_ds, oPut_di, oPut_l, $xs,*])
local macro_rules | `(tactic| simp_arith! [$xs,*]) => `(tactic| simp (config := {implicitDefEqProofs := false, proj := false}) only [nx_mk, rt_mk, bk_mk, ct_mk, eVar, eC, eOp, eIf, eTup, eLst, eDict0, eDict, eSl, oNo, eCall, eCB, eM, eLc, eIsi2, aNil, aCons, pNil, pCons, tAndD, tOrD, tNotD, tsYes, gMns, gMod, gFdiv, gPow, gLe, gGt, gGe, gEq_ii, gEq_ss, gEq_bb, gEq_nn, gEq_ni, gEq_in, gEq_ns, gEq_sn, gEq_si, gEq_is, sAsg, nName, sRet, sRetN, sExpr, sIf, sNext, sBreak, sCont, sFor, getS, setS, wipeS, endsD, asKeys, toKey, List.length_cons, List.length_nil, List.set_cons_zero, List.set_cons_succ, List.set_nil, Nat.zero_add, Nat.reduceAdd, Option.some.injEq, exists_and_left, exists_eq_left', exists_eq_left, id_eq, if_true, if_false, ite_true, ite_false, Bool.not_true, Bool.not_false, Bool.false_eq_true, not_false_eq_true, not_true_eq_false, reduceCtorEq, true_and, and_true, ne_eq, decide_eq_true_eq, isiN, isiCls, List.mem_cons, String.reduceEq, String.reduceBEq, or_true, true_or, or_false, false_or, Bool.or_true, Bool.true_or, Bool.false_or, Bool.or_false, Bool.and_false, Bool.false_and, Bool.true_and, Bool.and_true, beq_self_eq_true, decide_true, decide_false, tTr_e, vTru_non, vTru_bl, vTru_int, vTru_str, vTru_tup, vTru_ref, oTru_l, oTru_d, tBl_e, vBl_bl, eNeg_e, vNeg_int, eChain_e, eAnd_e, eOr_e, eNot_e, oSome_e, vSome_int, gAdd_ii, gAdd_ss, gAdd_tt, gAdd_rr, gI_ii, eLenSet_e, eRev_e, vRev_t, gStr2_i, gStr2_s, gI0_ii, gMulA_ii, gMulA_ri, gMulA_ti, gLt_ii, gLt_ss, gLt2_ii, gLt2_ss, eTab_e, vTab_s, eGet2_e, vGetO_r, vGet2_s, gIs_n, gIs_b, isNon_n, isNon_b, isNon_i, isNon_s, isNon_t, isNon_r, gIx_r, oIx_li, oIx_ds, oIx_di, gIx_ti, gIx_fi, gIx_si, gSl_t, gSl_s, gSl_f, gSl_r, gIn_ss, gIn_t, gIn_r, oIn_l, oIn_ds, gLen_s, gLen_t, gLen_f, gLen_r, oLen_l, oLen_d, gAbs_i, gMax2_ii, gMin2_ii, gInt1_i, gInt1_b, gList_t, gList_f, gList_r, gTuple_t, gTuple_f, gTuple_r, gSum_r, gAll_r, gIsi_x, tyD_n, tyD_b, tyD_i, tyD_s, tyD_t, tyD_f, tyD_r, oTy_l, oTy_d, tyM_s, tyM_r, oTyM_l, oTyM_d, gAppend_r, gPop0_r, gPopAt_r, gClear_r, gReverse_r, gJoin_r, gUpper_s, gStr_i, gSorted_r, iSeq_e, vSeq_r, vSeq_f, vSeq_t, vSeq_s, iRange1_e, vRng1_i, iRange2_e, vRng2_i, iZipD_e, vZip_r, vZip_t, iEnumD_e, vEnum_r, nTupL_t, nTupL_r, nCons_c, nNil_n, sSub_e, vPut_r, oPut_ds, oPut_di, oPut_l, $xs,*])
local macro_rules | `(tactic| simp_all_arith [$xs,*]) => `(tactic| simp (config := {implicitDefEqProofs := false, proj := false}) only [nx_mk, rt_mk, bk_mk, ct_mk, eVar, eC, eOp, eIf, eTup, eLst, eDict0, eDict, eSl, oNo, eCall, eCB, eM, eLc, eIsi2, aNil, aCons, pNil, pCons, tAndD, tOrD, tNotD, tsYes, gMns, gMod, gFdiv, gPow, gLe, gGt, gGe, gEq_ii, gEq_ss, gEq_bb, gEq_nn, gEq_ni, gEq_in, gEq_ns, gEq_sn, gEq_si, gEq_is, sAsg, nName, sRet, sRetN, sExpr, sIf, sNext, sBreak, sCont, sFor, getS, setS, wipeS, endsD, asKeys, toKey, List.length_cons, List.length_nil, List.set_cons_zero, List.set_cons_succ, List.set_nil, Nat.zero_add, Nat.reduceAdd, Option.some.injEq, exists_and_left, exists_eq_left', exists_eq_left, id_eq, if_true, if_false, ite_true, ite_false, Bool.not_true, Bool.not_false, Bool.false_eq_true, not_false_eq_true, not_true_eq_false, reduceCtorEq, true_and, and_true, ne_eq, decide_eq_true_eq, isiN, isiCls, List.mem_cons, String.reduceEq, String.reduceBEq, or_true, true_or, or_false, false_or, Bool.or_true, Bool.true_or, Bool.false_or, Bool.or_false, Bool.and_false, Bool.false_and, Bool.true_and, Bool.and_true, beq_self_eq_true, decide_true, decide_false, tTr_e, vTru_non, vTru_bl, vTru_int, vTru_str, vTru_tup, vTru_ref, oTru_l, oTru_d, tBl_e, vBl_bl, eNeg_e, vNeg_int, eChain_e, eAnd_e, eOr_e, eNot_e, oSome_e, vSome_int, gAdd_ii, gAdd_ss, gAdd_tt, gAdd_rr, gI_ii, eTabIn_e, vTabIn_s, sPar_e, vPar_2, eLenSet_e, eRev_e, vRev_t, gStr2_i, gStr2_s, gI0_ii, gMulA_ii, gMulA_ri, gMulA_ti, gLt_ii, gLt_ss, gLt2_ii, gLt2_ss, eTab_e, vTab_s, eGet2_e, vGetO_r, vGet2_s, gIs_n, gIs_b, isNon_n, isNon_b, isNon_i, isNon_s, isNon_t, isNon_r, gIx_r, oIx_li, oIx_ds, oIx_di, gIx_ti, gIx_fi, gIx_si, gSl_t, gSl_s, gSl_f, gSl_r, gIn_ss, gIn_t, gIn_r, oIn_l, oIn_ds, gLen_s, gLen_t, gLen_f, gLen_r, oLen_l, oLen_d, gAbs_i, gMax2_ii, gMin2_ii, gInt1_i, gInt1_b, gList_t, gList_f, gList_r, gTuple_t, gTuple_f, gTuple_r, gSum_r, gAll_r, gIsi_x, tyD_n, tyD_b, tyD_i, tyD_s, tyD_t, tyD_f, tyD_r, oTy_l, oTy_d, tyM_s, tyM_r, oTyM_l, oTyM_d, gAppend_r, gPop0_r, gPopAt_r, gClear_r, gReverse_r, gJoin_r, gUpper_s, gStr_i, gSorted_r, iSeq_e, vSeq_r, vSeq_f, vSeq_t, vSeq_s, iRange1_e, vRng1_i, iRange2_e, vRng2_i, iZipD_e, vZip_r, vZip_t, iEnumD_e, vEnum_r, nTupL_t, nTupL_r, nCons_c, nNil_n, sSub_e, vPut_r, oPut_ds, oPut_di, oPut_l, $xs,*])
local macro_rules | `(tactic| simp_all_arith! [$xs,*]) => `(tactic| simp (config := {implicitDefEqProofs := false, proj := false}) only [nx_mk, rt_mk, bk_mk, ct_mk, xS, xIf, xSet, xRet, xExpr, xRaise, eCallX, mNo, xE, sTry, sKeep, xFor, eVar, eC, eOp, eIf, eTup, eLst, eDict0, eDict, eSl, oNo, eCall, eCB, eM, eLc, eIsi2, aNil, aCons, pNil, pCons, tAndD, tOrD, tNotD, tsYes, gMns, gMod, gFdiv, gPow, gLe, gGt, gGe, gEq_ii, gEq_ss, gEq_bb, gEq_nn, gEq_ni, gEq_in, gEq_ns, gEq_sn, gEq_si, gEq_is, sAsg, nName, sRet, sRetN, sExpr, sIf, sNext, sBreak, sCont, sFor, getS, setS, wipeS, endsD, asKeys, toKey, List.length_cons, List.length_nil, List.set_cons_zero, List.set_cons_succ, List.set_nil, Nat.zero_add, Nat.reduceAdd, Option.some.injEq, exists_and_left, exists_eq_left', exists_eq_left, id_eq, if_true, if_false, ite_true, ite_false, Bool.not_true, Bool.not_false, Bool.false_eq_true, not_false_eq_true, not_true_eq_false, reduceCtorEq, true_and, and_true, ne_eq, decide_eq_true_eq, isiN, isiCls, List.mem_cons, String.reduceEq, String.reduceBEq, or_true, true_or, or_false, false_or, Bool.or_true, Bool.true_or, Bool.false_or, Bool.or_false, Bool.and_false, Bool.false_and, Bool.true_and, Bool.and_true, beq_self_eq_true, decide_true, decide_false, tTr_e, vTru_non, vTru_bl, vTru_int, vTru_str, vTru_tup, vTru_ref, oTru_l, oTru_d, tBl_e, vBl_bl, eNeg_e, vNeg_int, eChain_e, eAnd_e, eOr_e, eNot_e, oSome_e, vSome_int, gAdd_ii, gAdd_ss, gAdd_tt, gAdd_rr, gI_ii, eTabIn_e, vTabIn_s, sPar_e, vPar_2, eLenSet_e, gSplit_s, gExtend_rt, gInt2_s, iRange3_e, vRng3_i, eTabW_e, vTabW_s, eListV_e, vListV_r, eSortK_e, vSortK_r, eRev_e, vRev_t, gStr2_i, gStr2_s, gI0_ii, gMulA_ii, gMulA_ri, gMulA_ti, gLt_ii, gLt_ss, gLt2_ii, gLt2_ss, eTab_e, vTab_s, eGet2_e, vGetO_r, vGet2_s, gIs_n, gIs_b, isNon_n, isNon_b, isNon_i, isNon_s, isNon_t, isNon_r, gIx_r, oIx_li, oIx_ds, oIx_di, gIx_ti, gIx_fi, gIx_si, gSl_t, gSl_s, gSl_f, gSl_r, gIn_ss, gIn_t, gIn_r, oIn_l, oIn_ds, gLen_s, gLen_t, gLen_f, gLen_r, oLen_l, oLen_d, gAbs_i, gMax2_ii, gMin2_ii, gInt1_i, gInt1_b, gList_t, gList_f, gList_r, gTuple_t, gTuple_f, gTuple_r, gSum_r, gAll_r, gIsi_x, tyD_n, tyD_b, tyD_i, tyD_s, tyD_t, tyD_f, tyD_r, oTy_l, oTy_d, tyM_s, tyM_r, oTyM_l, oTyM_d, gAppend_r, gPop0_r, gPopAt_r, gClear_r, gReverse_r, gJoin_r, gUpper_s, gStr_i, gSorted_r, iSeq_e, vSeq_r, vSeq_f, vSeq_t, vSeq_s, iRange1_e, vRng1_i, iRange2_e, vRng2_i, iZipD_e, vZip_r, vZip_t, iEnumD_e, vEnum_r, nTupL_t, nTupL_r, nCons_c, nNil_n, sSub_e, vPut_r, oPut_ds, oPut_di, oPut_l, $xs,*])
namespace LW
open PySem PySem.Spec PyProof.Rows L2 DL
def topS (i : Nat) : Stmt := PySem.Challenge.pw_dykelengths_k07_rows_put_in_and_left_out.main.body.getD i (.Pass ⟨0, 0, 0, 0⟩)
def tab_SIZES : List (Str × Int) := [("part", 5), ("join", 5), ("forfeit", 5), ("measure", 5), ("mend", 5), ("alone", 4), ("breach", 7), ("view", 6)]
def tab_RANKS : List (Str × Int) := [("measure", 0), ("part", 1), ("join", 1), ("forfeit", 1), ("mend", 2), ("alone", 2), ("breach", 3), ("view", 3)]
def xtab : XTab := [("NoName", [("NoRow", false), ("NoRoll", false), ("NoName", true), ("Twice", false), ("TooMany", false), ("NoThen", false), ("NoMend", false), ("Clash", false), ("NoBreach", false), ("NoField", false), ("NoInch", false), ("NoOrder", false), ("NoText", false)]), ("NoRow", [("NoRow", true), ("NoRoll", false), ("NoName", false), ("Twice", false), ("TooMany", false), ("NoThen", false), ("NoMend", false), ("Clash", false), ("NoBreach", false), ("NoField", false), ("NoInch", false), ("NoOrder", false), ("NoText", false)]), ("TooMany", [("NoRow", false), ("NoRoll", false), ("NoName", false), ("Twice", false), ("TooMany", true), ("NoThen", false), ("NoMend", false), ("Clash", false), ("NoBreach", false), ("NoField", false), ("NoInch", false), ("NoOrder", false), ("NoText", false)]), ("Twice", [("NoRow", false), ("NoRoll", false), ("NoName", false), ("Twice", true), ("TooMany", false), ("NoThen", false), ("NoMend", false), ("Clash", false), ("NoBreach", false), ("NoField", false), ("NoInch", false), ("NoOrder", false), ("NoText", false)])]
abbrev s_wpen : Stmt := topS 52
abbrev s_wtake : Stmt := topS 53
abbrev s_wnames : Stmt := topS 54
abbrev s_wsorts : Stmt := topS 55
abbrev s_wdays : Stmt := topS 56
abbrev s_wnumber : Stmt := topS 57
abbrev s_wlaying : Stmt := topS 58
abbrev s_wsome : Stmt := topS 59
abbrev s_wrow_of : Stmt := topS 60
abbrev s_wrow : Stmt := topS 61
abbrev s_wturned : Stmt := topS 62
abbrev s_wlisted : Stmt := topS 63
abbrev s_wtwin : Stmt := topS 67
abbrev s_wput_in : Stmt := topS 68
abbrev s_wplace : Stmt := topS 64
abbrev s_as_tuple : Stmt := topS 37
abbrev s_with_tuples : Stmt := topS 38
abbrev s_is_name : Stmt := topS 18
abbrev s_are_names : Stmt := topS 19
abbrev s_is_within : Stmt := topS 20
abbrev s_is_part : Stmt := topS 31
abbrev s_in_order : Stmt := topS 39
abbrev s_is_rising : Stmt := topS 32
abbrev s_are_parts : Stmt := topS 33
abbrev s_are_lands : Stmt := topS 34
abbrev s_has_right_rest : Stmt := topS 35
abbrev s_is_row : Stmt := topS 36
abbrev s_row_of : Stmt := topS 40
abbrev s_field_of : Stmt := topS 41
abbrev s_is_row_of : Stmt := topS 43
abbrev s_row_in : Stmt := topS 47
abbrev s_order_of : Stmt := topS 42
abbrev s_sorted_rows : Stmt := topS 46
abbrev s_with_row : Stmt := topS 49
abbrev s_wclass : Stmt := topS 65
abbrev s_wtold : Stmt := topS 66
abbrev s_wwith_right : Stmt := topS 69
abbrev s_row_called : Stmt := topS 48
abbrev s_without_row : Stmt := topS 50
abbrev s_wwithout_right : Stmt := topS 70
abbrev s_wnot_called : Stmt := topS 71
abbrev s_law : Stmt := topS 72
def tC_wwith_right : Addr := 433
def tP_wwith_right : Addr := 429
def tC_wnot_called : Addr := 445
def tP_wnot_called : Addr := 441
noncomputable def b_wpen : DS := (sRet (eDict (pCons (eC (.str "cells")) (eCB gList (aCons (eSl (eVar 0) oNo (oSome (eC (.int 63)))) aNil)) (pCons (eC (.str "at")) (eC (.int 0)) (pCons (eC (.str "left")) (eC (.int 0)) pNil)))))
theorem x_m_wpen : ∃ m : MF, m = fun ds S Q => b_wpen (endsD Q) (startD 1 ds) S := ⟨_, rfl⟩
noncomputable def m_wpen : MF := Classical.choose x_m_wpen
theorem q_m_wpen : m_wpen = fun ds S Q => b_wpen (endsD Q) (startD 1 ds) S := Classical.choose_spec x_m_wpen
theorem e_wpen (a0 : D) (S : Sto) (Q : DK) : m_wpen [a0] S Q = b_wpen (endsD Q) [some a0] S := by rw [q_m_wpen]; rfl
theorem sc_wpen : FnScope ["_law_script"] ["_law_script"] (defScope s_wpen) := ⟨rfl, rfl, rfl, by decide +kernel, rfl, by decide +kernel, by decide +kernel⟩
noncomputable def t_wtake_4 : DS := (sRet (eVar 7))
noncomputable def t_wtake_3 : DS := (sSeq (sSub (eOp gFdiv (eOp gIx (eVar 0) (eC (.str "left"))) (eVar 1)) (eVar 0) (eC (.str "left"))) t_wtake_4)
noncomputable def t_wtake_13 : DS := (sRet (eOp gMod (eCB gAbs (aCons (eVar 4) aNil)) (eVar 1)))
noncomputable def t_wtake_16 : DS := (sRet (eOp gMod (eOp gFdiv (eOp gMod (eOp gMulA (eVar 6) (eOp gAdd (eOp gMod (eVar 5) (eC (.int 64007))) (eC (.int 1)))) (eC (.int 2147483579))) (eC (.int 64))) (eVar 1)))
noncomputable def t_wtake_15 : DS := (sSeq (sAsg (eOp gMod (eOp gPow (eOp gAdd (eOp gAdd (eVar 5) (eOp gMulA (eOp gMulA (eC (.int 1213)) (eVar 2)) (eVar 2))) (eC (.int 3))) (eC (.int 5))) (eC (.int 2147483543))) (nName 6)) t_wtake_16)
noncomputable def t_wtake_14 : DS := (sSeq (sAsg (eOp gMod (eOp gPow (eOp gAdd (eOp gAdd (eOp gMod (eVar 4) (eC (.int 2147483587))) (eOp gMulA (eC (.int 45007)) (eVar 2))) (eC (.int 11))) (eC (.int 3))) (eC (.int 2147483629))) (nName 5)) t_wtake_15)
noncomputable def t_wtake_11 : DS := (sSeq (sIf (tAndD (tBl (eOp gLt2 (eVar 2) (eCB gLen (aCons (eVar 3) aNil)))) (tBl (eOp gGe (eCB gAbs (aCons (eVar 4) aNil)) (eOp gPow (eC (.int 10)) (eC (.int 18)))))) (sSeq (sSub (eOp gFdiv (eCB gAbs (aCons (eVar 4) aNil)) (eVar 1)) (eVar 0) (eC (.str "left"))) t_wtake_13) sNext) t_wtake_14)
noncomputable def t_wtake_9 : DS := (sSeq (sIf (tBl (eOp (gEq not) (eVar 3) (eLst aNil))) (sAsg (eOp gIx (eVar 3) (eOp gMod (eVar 2) (eCB gLen (aCons (eVar 3) aNil)))) (nName 4)) sNext) t_wtake_11)
noncomputable def t_wtake_8 : DS := (sSeq (sAsg (eOp gAdd (eOp gAdd (eOp gMulA (eOp gMulA (eC (.int 70207)) (eVar 2)) (eVar 2)) (eOp gMulA (eC (.int 131)) (eVar 2))) (eC (.int 29))) (nName 4)) t_wtake_9)
noncomputable def t_wtake_7 : DS := (sSeq (sAsg (eOp gIx (eVar 0) (eC (.str "cells"))) (nName 3)) t_wtake_8)
noncomputable def t_wtake_6 : DS := (sSeq (sSub (eOp gAdd (eVar 2) (eC (.int 1))) (eVar 0) (eC (.str "at"))) t_wtake_7)
noncomputable def t_wtake_5 : DS := (sSeq (sAsg (eOp gIx (eVar 0) (eC (.str "at"))) (nName 2)) t_wtake_6)
noncomputable def b_wtake : DS := (sSeq (sIf (tBl (eOp gGt (eOp gIx (eVar 0) (eC (.str "left"))) (eC (.int 0)))) (sSeq (sAsg (eOp gMod (eOp gIx (eVar 0) (eC (.str "left"))) (eVar 1)) (nName 7)) t_wtake_3) sNext) t_wtake_5)
theorem x_m_wtake : ∃ m : MF, m = fun ds S Q => b_wtake (endsD Q) (startD 8 ds) S := ⟨_, rfl⟩
noncomputable def m_wtake : MF := Classical.choose x_m_wtake
theorem q_m_wtake : m_wtake = fun ds S Q => b_wtake (endsD Q) (startD 8 ds) S := Classical.choose_spec x_m_wtake
theorem e_wtake (a0 a1 : D) (S : Sto) (Q : DK) : m_wtake [a0, a1] S Q = b_wtake (endsD Q) [some a0, some a1, none, none, none, none, none, none] S := by rw [q_m_wtake]; rfl
theorem sc_wtake : FnScope ["_law_pen_here", "_law_many", "_law_at", "_law_cells", "_law_cell", "_law_one", "_law_two", "_law_found"] ["_law_pen_here", "_law_many"] (defScope s_wtake) := ⟨rfl, rfl, rfl, by decide +kernel, rfl, by decide +kernel, by decide +kernel⟩
noncomputable def c_wnames_4 : DE := (eOp gIx (eVar 2) (eCall 2 m_wtake (aCons (eVar 0) (aCons (eC (.int 26)) aNil))))
noncomputable def t_wnames_15 : DS := (sAsg (eOp gFdiv (eOp gMns (eVar 11) (eC (.int 1))) (eC (.int 2))) (nName 11))
noncomputable def l_wnames_13 : DS := (sSeq (sAsg (eOp gAdd (eOp gIx (eVar 2) (eOp gMod (eOp gAdd (eVar 4) (eOp gMulA (eC (.int 9)) (eOp gMod (eVar 11) (eC (.int 2))))) (eC (.int 26)))) (eVar 10)) (nName 10)) t_wnames_15)
noncomputable def t_wnames_13 : DS := (sWhile (tBl (eOp gGt (eVar 11) (eC (.int 0)))) l_wnames_13)
noncomputable def t_wnames_12 : DS := (sSeq (sAsg (eOp gAdd (eVar 8) (eC (.int 1))) (nName 11)) t_wnames_13)
noncomputable def t_wnames_16 : DS := (sExpr (eM "list" gAppend (eVar 7) (aCons (eVar 10) aNil)))
noncomputable def t_wnames_10 : DS := (sSeq (sIf (tBl (eOp (gEq id) (eVar 3) (eC (.int 1)))) (sSeq (sAsg (eC (.str "")) (nName 10)) t_wnames_12) sNext) t_wnames_16)
noncomputable def t_wnames_9 : DS := (sSeq (sAsg (eOp gAdd (eOp gAdd (eSl (eVar 5) oNo (oSome (eVar 6))) (eVar 10)) (eSl (eVar 5) (oSome (eVar 6)) oNo)) (nName 10)) t_wnames_10)
noncomputable def l_wnames_7 : DS := (sSeq (sAsg (eOp gAdd (eOp gIx (eVar 2) (eOp gMod (eOp gAdd (eVar 4) (eOp gMulA (eC (.int 7)) (eVar 8))) (eC (.int 26)))) (eOp gIx (eVar 2) (eOp gMod (eOp gAdd (eVar 4) (eOp gFdiv (eVar 8) (eC (.int 26)))) (eC (.int 26))))) (nName 10)) t_wnames_9)
noncomputable def l_wnames_19 : DS := (sIf (tAndD (tBl (eOp (gEq id) (eCall 2 m_wtake (aCons (eVar 0) (aCons (eC (.int 2)) aNil))) (eC (.int 0)))) (tBl (eOp (gIn not) (eOp gIx (eVar 9) (eVar 8)) (eVar 7)))) (sSub (eOp gIx (eVar 9) (eVar 8)) (eVar 7) (eVar 8)) sNext)
noncomputable def t_wnames_22 : DS := (sRet (eVar 7))
noncomputable def t_wnames_18 : DS := (sSeq (sIf (tBl (eOp (gEq id) (eCall 2 m_wtake (aCons (eVar 0) (aCons (eC (.int 4)) aNil))) (eC (.int 0)))) (sFor (iRange1 (aCons (eCB gMin2 (aCons (eVar 1) (aCons (eC (.int 9)) aNil))) aNil)) (nName 8) l_wnames_19) sNext) t_wnames_22)
noncomputable def t_wnames_17 : DS := (sSeq (sAsg (eLst (aCons (eC (.str "as")) (aCons (eC (.str "with")) (aCons (eC (.str "part")) (aCons (eC (.str "field")) (aCons (eC (.str "none")) (aCons (eC (.str "done")) (aCons (eC (.str "write")) (aCons (eC (.str "back")) (aCons (eC (.str "join")) aNil)))))))))) (nName 9)) t_wnames_18)
noncomputable def t_wnames_7 : DS := (sSeq (sFor (iRange1 (aCons (eVar 1) aNil)) (nName 8) l_wnames_7) t_wnames_17)
noncomputable def t_wnames_6 : DS := (sSeq (sAsg (eLst aNil) (nName 7)) t_wnames_7)
noncomputable def t_wnames_5 : DS := (sSeq (sAsg (eCall 2 m_wtake (aCons (eVar 0) (aCons (eOp gAdd (eCB gLen (aCons (eVar 5) aNil)) (eC (.int 1))) aNil))) (nName 6)) t_wnames_6)
noncomputable def t_wnames_4 : DS := (sSeq (sAsg (eM "str" gJoin (eC (.str "")) (aCons (eLc (iRange1 (aCons (eOp gIx (eLst (aCons (eCall 2 m_wtake (aCons (eVar 0) (aCons (eC (.int 7)) aNil))) (aCons (eC (.int 0)) (aCons (eC (.int 6)) aNil)))) (eVar 3)) aNil)) (nName 8) tsYes c_wnames_4 [8]) aNil)) (nName 5)) t_wnames_5)
noncomputable def t_wnames_3 : DS := (sSeq (sAsg (eCall 2 m_wtake (aCons (eVar 0) (aCons (eC (.int 26)) aNil))) (nName 4)) t_wnames_4)
noncomputable def t_wnames_2 : DS := (sSeq (sAsg (eCall 2 m_wtake (aCons (eVar 0) (aCons (eC (.int 3)) aNil))) (nName 3)) t_wnames_3)
noncomputable def b_wnames : DS := (sSeq (sAsg (eC (.str "abcdefghijklmnopqrstuvwxyz")) (nName 2)) t_wnames_2)
theorem x_m_wnames : ∃ m : MF, m = fun ds S Q => b_wnames (endsD Q) (startD 12 ds) S := ⟨_, rfl⟩
noncomputable def m_wnames : MF := Classical.choose x_m_wnames
theorem q_m_wnames : m_wnames = fun ds S Q => b_wnames (endsD Q) (startD 12 ds) S := Classical.choose_spec x_m_wnames
theorem e_wnames (a0 a1 : D) (S : Sto) (Q : DK) : m_wnames [a0, a1] S Q = b_wnames (endsD Q) [some a0, some a1, none, none, none, none, none, none, none, none, none, none] S := by rw [q_m_wnames]; rfl
theorem sc_wnames : FnScope ["_law_pen_here", "_law_many", "_law_letters", "_law_way", "_law_turn", "_law_base", "_law_spot", "_law_found", "_law_k", "_law_terms", "_law_word", "_law_rest"] ["_law_pen_here", "_law_many"] (defScope s_wnames) := ⟨rfl, rfl, rfl, by decide +kernel, rfl, by decide +kernel, by decide +kernel⟩
noncomputable def t_wsorts_3 : DS := (sRet (eTup (aCons (eSl (eVar 5) oNo (oSome (eVar 1))) (aCons (eSl (eVar 5) oNo (oSome (eC (.int 10)))) (aCons (eSl (eVar 5) oNo (oSome (eC (.int 5)))) (aCons (eSl (eVar 5) oNo (oSome (eVar 2))) aNil))))))
noncomputable def t_wsorts_6 : DS := (sRet (eTup (aCons (eCall 2 m_wnames (aCons (eVar 0) (aCons (eVar 1) aNil))) (aCons (eVar 3) (aCons (eVar 4) (aCons (eCall 2 m_wnames (aCons (eVar 0) (aCons (eVar 2) aNil))) aNil))))))
noncomputable def t_wsorts_5 : DS := (sSeq (sAsg (eCall 2 m_wnames (aCons (eVar 0) (aCons (eC (.int 5)) aNil))) (nName 4)) t_wsorts_6)
noncomputable def t_wsorts_4 : DS := (sSeq (sAsg (eCall 2 m_wnames (aCons (eVar 0) (aCons (eC (.int 10)) aNil))) (nName 3)) t_wsorts_5)
noncomputable def b_wsorts : DS := (sSeq (sIf (tBl (eOp (gEq id) (eCall 2 m_wtake (aCons (eVar 0) (aCons (eC (.int 4)) aNil))) (eC (.int 0)))) (sSeq (sAsg (eCall 2 m_wnames (aCons (eVar 0) (aCons (eC (.int 44)) aNil))) (nName 5)) t_wsorts_3) sNext) t_wsorts_4)
theorem x_m_wsorts : ∃ m : MF, m = fun ds S Q => b_wsorts (endsD Q) (startD 6 ds) S := ⟨_, rfl⟩
noncomputable def m_wsorts : MF := Classical.choose x_m_wsorts
theorem q_m_wsorts : m_wsorts = fun ds S Q => b_wsorts (endsD Q) (startD 6 ds) S := Classical.choose_spec x_m_wsorts
theorem e_wsorts (a0 a1 a2 : D) (S : Sto) (Q : DK) : m_wsorts [a0, a1, a2] S Q = b_wsorts (endsD Q) [some a0, some a1, some a2, none, none, none] S := by rw [q_m_wsorts]; rfl
theorem sc_wsorts : FnScope ["_law_pen_here", "_law_fields", "_law_rows", "_law_plots", "_law_houses", "_law_some_here"] ["_law_pen_here", "_law_fields", "_law_rows"] (defScope s_wsorts) := ⟨rfl, rfl, rfl, by decide +kernel, rfl, by decide +kernel, by decide +kernel⟩
noncomputable def c_wdays_3 : DE := (eOp gIx (eVar 3) (eCall 2 m_wtake (aCons (eVar 0) (aCons (eC (.int 6)) aNil))))
noncomputable def l_wdays_5 : DS := (sExpr (eM "list" gAppend (eVar 5) (aCons (eOp gIx (eLst (aCons (eOp gIx (eVar 4) (eCall 2 m_wtake (aCons (eVar 0) (aCons (eCB gLen (aCons (eVar 4) aNil)) aNil)))) (aCons (eCall 2 m_wtake (aCons (eVar 0) (aCons (eC (.int 10000)) aNil))) aNil))) (eCB gInt1 (aCons (eOp (gEq id) (eVar 2) (eC (.int 0))) aNil))) aNil)))
noncomputable def t_wdays_7 : DS := (sRet (eVar 5))
noncomputable def t_wdays_5 : DS := (sSeq (sFor (iRange1 (aCons (eVar 1) aNil)) (nName 6) l_wdays_5) t_wdays_7)
noncomputable def t_wdays_4 : DS := (sSeq (sAsg (eLst aNil) (nName 5)) t_wdays_5)
noncomputable def t_wdays_3 : DS := (sSeq (sAsg (eLc (iRange1 (aCons (eOp gAdd (eC (.int 1)) (eCall 2 m_wtake (aCons (eVar 0) (aCons (eC (.int 4)) aNil)))) aNil)) (nName 6) tsYes c_wdays_3 [6]) (nName 4)) t_wdays_4)
noncomputable def t_wdays_2 : DS := (sSeq (sAsg (eLst (aCons (eC (.int 0)) (aCons (eC (.int 1)) (aCons (eC (.int 9)) (aCons (eC (.int 9999)) (aCons (eCall 2 m_wtake (aCons (eVar 0) (aCons (eC (.int 10000)) aNil))) (aCons (eCall 2 m_wtake (aCons (eVar 0) (aCons (eC (.int 10000)) aNil))) aNil))))))) (nName 3)) t_wdays_3)
noncomputable def b_wdays : DS := (sSeq (sAsg (eCall 2 m_wtake (aCons (eVar 0) (aCons (eC (.int 4)) aNil))) (nName 2)) t_wdays_2)
theorem x_m_wdays : ∃ m : MF, m = fun ds S Q => b_wdays (endsD Q) (startD 7 ds) S := ⟨_, rfl⟩
noncomputable def m_wdays : MF := Classical.choose x_m_wdays
theorem q_m_wdays : m_wdays = fun ds S Q => b_wdays (endsD Q) (startD 7 ds) S := Classical.choose_spec x_m_wdays
theorem e_wdays (a0 a1 : D) (S : Sto) (Q : DK) : m_wdays [a0, a1] S Q = b_wdays (endsD Q) [some a0, some a1, none, none, none, none, none] S := by rw [q_m_wdays]; rfl
theorem sc_wdays : FnScope ["_law_pen_here", "_law_many", "_law_way", "_law_some_here", "_law_few", "_law_found", "_law_k"] ["_law_pen_here", "_law_many"] (defScope s_wdays) := ⟨rfl, rfl, rfl, by decide +kernel, rfl, by decide +kernel, by decide +kernel⟩
noncomputable def t_wnumber_3 : DS := (sRet (eOp gIx (eLst (aCons (eVar 1) (aCons (eVar 2) (aCons (eVar 4) (aCons (eOp gAdd (eVar 1) (eCall 2 m_wtake (aCons (eVar 0) (aCons (eOp gAdd (eOp gMns (eVar 2) (eVar 1)) (eC (.int 1))) aNil)))) aNil))))) (eVar 3)))
noncomputable def t_wnumber_2 : DS := (sSeq (sAsg (eOp gAdd (eVar 1) (eCall 2 m_wtake (aCons (eVar 0) (aCons (eCB gMin2 (aCons (eC (.int 12)) (aCons (eOp gAdd (eOp gMns (eVar 2) (eVar 1)) (eC (.int 1))) aNil))) aNil)))) (nName 4)) t_wnumber_3)
noncomputable def b_wnumber : DS := (sSeq (sAsg (eCall 2 m_wtake (aCons (eVar 0) (aCons (eC (.int 4)) aNil))) (nName 3)) t_wnumber_2)
theorem x_m_wnumber : ∃ m : MF, m = fun ds S Q => b_wnumber (endsD Q) (startD 5 ds) S := ⟨_, rfl⟩
noncomputable def m_wnumber : MF := Classical.choose x_m_wnumber
theorem q_m_wnumber : m_wnumber = fun ds S Q => b_wnumber (endsD Q) (startD 5 ds) S := Classical.choose_spec x_m_wnumber
theorem e_wnumber (a0 a1 a2 : D) (S : Sto) (Q : DK) : m_wnumber [a0, a1, a2] S Q = b_wnumber (endsD Q) [some a0, some a1, some a2, none, none] S := by rw [q_m_wnumber]; rfl
theorem sc_wnumber : FnScope ["_law_pen_here", "_law_bottom", "_law_most", "_law_way", "_law_near"] ["_law_pen_here", "_law_bottom", "_law_most"] (defScope s_wnumber) := ⟨rfl, rfl, rfl, by decide +kernel, rfl, by decide +kernel, by decide +kernel⟩
noncomputable def t_wlaying_4 : DS := (sExpr (eM "list" gAppend (eVar 3) (aCons (eTup (aCons (eVar 4) (aCons (eVar 5) (aCons (eCall 3 m_wnumber (aCons (eVar 0) (aCons (eC (.int 1)) (aCons (eOp gPow (eC (.int 10)) (eC (.int 6))) aNil)))) (aCons (eCall 3 m_wnumber (aCons (eVar 0) (aCons (eC (.int 0)) (aCons (eOp gPow (eC (.int 10)) (eC (.int 7))) aNil)))) aNil))))) aNil)))
noncomputable def l_wlaying_2 : DS := (sSeq (sAsg (eOp gIx (eVar 2) (eCall 2 m_wtake (aCons (eVar 0) (aCons (eCB gLen (aCons (eVar 2) aNil)) aNil)))) (nName 5)) t_wlaying_4)
noncomputable def t_wlaying_5 : DS := (sRet (eCB gTuple (aCons (eVar 3) aNil)))
noncomputable def t_wlaying_2 : DS := (sSeq (sFor (iSeq (eVar 1)) (nName 4) l_wlaying_2) t_wlaying_5)
noncomputable def b_wlaying : DS := (sSeq (sAsg (eLst aNil) (nName 3)) t_wlaying_2)
theorem x_m_wlaying : ∃ m : MF, m = fun ds S Q => b_wlaying (endsD Q) (startD 6 ds) S := ⟨_, rfl⟩
noncomputable def m_wlaying : MF := Classical.choose x_m_wlaying
theorem q_m_wlaying : m_wlaying = fun ds S Q => b_wlaying (endsD Q) (startD 6 ds) S := Classical.choose_spec x_m_wlaying
theorem e_wlaying (a0 a1 a2 : D) (S : Sto) (Q : DK) : m_wlaying [a0, a1, a2] S Q = b_wlaying (endsD Q) [some a0, some a1, some a2, none, none, none] S := by rw [q_m_wlaying]; rfl
theorem sc_wlaying : FnScope ["_law_pen_here", "_law_fields", "_law_houses", "_law_found", "_law_field", "_law_house"] ["_law_pen_here", "_law_fields", "_law_houses"] (defScope s_wlaying) := ⟨rfl, rfl, rfl, by decide +kernel, rfl, by decide +kernel, by decide +kernel⟩
noncomputable def c_wsome_2 : DE := (eM "list" gPopAt (eVar 3) (aCons (eCall 2 m_wtake (aCons (eVar 0) (aCons (eCB gLen (aCons (eVar 3) aNil)) aNil))) aNil))
noncomputable def t_wsome_3 : DS := (sRet (eCB gSortedA (aCons (eVar 4) aNil)))
noncomputable def t_wsome_2 : DS := (sSeq (sAsg (eLc (iRange1 (aCons (eVar 2) aNil)) (nName 5) tsYes c_wsome_2 [5]) (nName 4)) t_wsome_3)
noncomputable def b_wsome : DS := (sSeq (sAsg (eCB gList (aCons (eVar 1) aNil)) (nName 3)) t_wsome_2)
theorem x_m_wsome : ∃ m : MF, m = fun ds S Q => b_wsome (endsD Q) (startD 6 ds) S := ⟨_, rfl⟩
noncomputable def m_wsome : MF := Classical.choose x_m_wsome
theorem q_m_wsome : m_wsome = fun ds S Q => b_wsome (endsD Q) (startD 6 ds) S := Classical.choose_spec x_m_wsome
theorem e_wsome (a0 a1 a2 : D) (S : Sto) (Q : DK) : m_wsome [a0, a1, a2] S Q = b_wsome (endsD Q) [some a0, some a1, some a2, none, none, none] S := by rw [q_m_wsome]; rfl
theorem sc_wsome : FnScope ["_law_pen_here", "_law_names_here", "_law_many", "_law_left", "_law_found", "_law_k"] ["_law_pen_here", "_law_names_here", "_law_many"] (defScope s_wsome) := ⟨rfl, rfl, rfl, by decide +kernel, rfl, by decide +kernel, by decide +kernel⟩
noncomputable def c_wrow_of_10 : DE := (eTup (aCons (eVar 15) (aCons (eOp gIx (eVar 12) (eCall 2 m_wtake (aCons (eVar 0) (aCons (eCB gLen (aCons (eVar 12) aNil)) aNil)))) (aCons (eCall 3 m_wnumber (aCons (eVar 0) (aCons (eC (.int 1)) (aCons (eOp gPow (eC (.int 10)) (eC (.int 7))) aNil)))) aNil))))
noncomputable def t_wrow_of_11 : DS := (sRet (eTup (aCons (eVar 1) (aCons (eVar 2) (aCons (eVar 3) (aCons (eVar 5) (aCons (eCB gTuple (aCons (eVar 14) aNil)) aNil)))))))
noncomputable def t_wrow_of_10 : DS := (sSeq (sAsg (eLc (iSeq (eVar 13)) (nName 15) tsYes c_wrow_of_10 [15]) (nName 14)) t_wrow_of_11)
noncomputable def t_wrow_of_8 : DS := (sSeq (sIf (tBl (eOp (gEq id) (eVar 1) (eC (.str "join")))) (sRet (eTup (aCons (eVar 1) (aCons (eVar 2) (aCons (eVar 3) (aCons (eCB gTuple (aCons (eVar 13) aNil)) (aCons (eVar 5) aNil))))))) sNext) t_wrow_of_10)
noncomputable def t_wrow_of_23 : DS := (sRet (eTup (aCons (eVar 1) (aCons (eVar 2) (aCons (eVar 3) (aCons (eVar 8) (aCons (eVar 9) (aCons (eCall 3 m_wnumber (aCons (eVar 0) (aCons (eC (.int 0)) (aCons (eOp gPow (eC (.int 10)) (eC (.int 9))) aNil)))) (aCons (eCall 3 m_wnumber (aCons (eVar 0) (aCons (eC (.int 0)) (aCons (eOp gPow (eC (.int 10)) (eC (.int 6))) aNil)))) aNil)))))))))
noncomputable def t_wrow_of_21 : DS := (sSeq (sIf (tBl (eOp (gEq id) (eVar 1) (eC (.str "view")))) (sRet (eTup (aCons (eVar 1) (aCons (eVar 2) (aCons (eVar 3) (aCons (eVar 8) (aCons (eVar 9) (aCons (eVar 7) aNil)))))))) sNext) t_wrow_of_23)
noncomputable def t_wrow_of_20 : DS := (sSeq (sAsg (eCall 3 m_wnumber (aCons (eVar 0) (aCons (eC (.int 0)) (aCons (eOp gMns (eOp gPow (eC (.int 10)) (eC (.int 7))) (eC (.int 1))) aNil)))) (nName 9)) t_wrow_of_21)
noncomputable def t_wrow_of_18 : DS := (sSeq (sIf (tBl (eOp (gEq id) (eVar 1) (eC (.str "alone")))) (sRet (eTup (aCons (eVar 1) (aCons (eVar 2) (aCons (eVar 3) (aCons (eVar 7) aNil)))))) sNext) t_wrow_of_20)
noncomputable def t_wrow_of_16 : DS := (sSeq (sIf (tBl (eOp (gEq id) (eVar 1) (eC (.str "mend")))) (sRet (eTup (aCons (eVar 1) (aCons (eVar 2) (aCons (eVar 3) (aCons (eVar 7) (aCons (eOp gIx (eVar 12) (eOp gMod (eOp gAdd (eOp gAdd (eVar 6) (eC (.int 1))) (eCall 2 m_wtake (aCons (eVar 0) (aCons (eOp gMns (eCB gLen (aCons (eVar 12) aNil)) (eC (.int 1))) aNil)))) (eCB gLen (aCons (eVar 12) aNil)))) aNil))))))) sNext) t_wrow_of_18)
noncomputable def t_wrow_of_14 : DS := (sSeq (sIf (tBl (eOp (gEq id) (eVar 1) (eC (.str "measure")))) (sRet (eTup (aCons (eVar 1) (aCons (eVar 2) (aCons (eVar 3) (aCons (eVar 8) (aCons (eCall 3 m_wnumber (aCons (eVar 0) (aCons (eC (.int 0)) (aCons (eOp gPow (eC (.int 10)) (eC (.int 7))) aNil)))) aNil))))))) sNext) t_wrow_of_16)
noncomputable def t_wrow_of_12 : DS := (sSeq (sIf (tBl (eOp (gEq id) (eVar 1) (eC (.str "forfeit")))) (sRet (eTup (aCons (eVar 1) (aCons (eVar 2) (aCons (eVar 3) (aCons (eVar 5) (aCons (eVar 7) aNil))))))) sNext) t_wrow_of_14)
noncomputable def t_wrow_of_6 : DS := (sSeq (sIf (tBl (eOp (gIn id) (eVar 1) (eTup (aCons (eC (.str "part")) (aCons (eC (.str "join")) aNil))))) (sSeq (sAsg (eCall 3 m_wsome (aCons (eVar 0) (aCons (eVar 11) (aCons (eOp gIx (eLst (aCons (eC (.int 2)) (aCons (eC (.int 6)) (aCons (eOp gAdd (eC (.int 2)) (eCall 2 m_wtake (aCons (eVar 0) (aCons (eC (.int 5)) aNil)))) aNil)))) (eCall 2 m_wtake (aCons (eVar 0) (aCons (eC (.int 3)) aNil)))) aNil)))) (nName 13)) t_wrow_of_8) sNext) t_wrow_of_12)
noncomputable def t_wrow_of_5 : DS := (sSeq (sAsg (eOp gIx (eVar 10) (eCall 2 m_wtake (aCons (eVar 0) (aCons (eCB gLen (aCons (eVar 10) aNil)) aNil)))) (nName 8)) t_wrow_of_6)
noncomputable def t_wrow_of_4 : DS := (sSeq (sAsg (eOp gIx (eVar 12) (eVar 6)) (nName 7)) t_wrow_of_5)
noncomputable def t_wrow_of_3 : DS := (sSeq (sAsg (eCall 2 m_wtake (aCons (eVar 0) (aCons (eCB gLen (aCons (eVar 12) aNil)) aNil))) (nName 6)) t_wrow_of_4)
noncomputable def t_wrow_of_2 : DS := (sSeq (sAsg (eOp gIx (eVar 11) (eCall 2 m_wtake (aCons (eVar 0) (aCons (eCB gLen (aCons (eVar 11) aNil)) aNil)))) (nName 5)) t_wrow_of_3)
noncomputable def b_wrow_of : DS := (sSeq (sAsg (eVar 4) (nTupL 3 (nCons (nName 10) (nCons (nName 11) (nCons (nName 12) nNil))))) t_wrow_of_2)
theorem x_m_wrow_of : ∃ m : MF, m = fun ds S Q => b_wrow_of (endsD Q) (startD 16 ds) S := ⟨_, rfl⟩
noncomputable def m_wrow_of : MF := Classical.choose x_m_wrow_of
theorem q_m_wrow_of : m_wrow_of = fun ds S Q => b_wrow_of (endsD Q) (startD 16 ds) S := Classical.choose_spec x_m_wrow_of
theorem e_wrow_of (a0 a1 a2 a3 a4 : D) (S : Sto) (Q : DK) : m_wrow_of [a0, a1, a2, a3, a4] S Q = b_wrow_of (endsD Q) [some a0, some a1, some a2, some a3, some a4, none, none, none, none, none, none, none, none, none, none, none] S := by rw [q_m_wrow_of]; rfl
theorem sc_wrow_of : FnScope ["_law_pen_here", "_law_word", "_law_name", "_law_day", "_law_sorts_here", "_law_land", "_law_at", "_law_house", "_law_field", "_law_inch", "_law_fields", "_law_plots", "_law_houses", "_law_some_here", "_law_parts", "_law_one"] ["_law_pen_here", "_law_word", "_law_name", "_law_day", "_law_sorts_here"] (defScope s_wrow_of) := ⟨rfl, rfl, rfl, by decide +kernel, rfl, by decide +kernel, by decide +kernel⟩
noncomputable def t_wrow_2 : DS := (sRet (eCall 5 m_wrow_of (aCons (eVar 0) (aCons (eOp gIx (eVar 4) (eCall 2 m_wtake (aCons (eVar 0) (aCons (eC (.int 10)) aNil)))) (aCons (eVar 1) (aCons (eVar 2) (aCons (eVar 3) aNil)))))))
noncomputable def b_wrow : DS := (sSeq (sAsg (eLst (aCons (eC (.str "part")) (aCons (eC (.str "join")) (aCons (eC (.str "forfeit")) (aCons (eC (.str "measure")) (aCons (eC (.str "mend")) (aCons (eC (.str "alone")) (aCons (eC (.str "breach")) (aCons (eC (.str "view")) (aCons (eC (.str "part")) (aCons (eC (.str "join")) aNil))))))))))) (nName 4)) t_wrow_2)
theorem x_m_wrow : ∃ m : MF, m = fun ds S Q => b_wrow (endsD Q) (startD 5 ds) S := ⟨_, rfl⟩
noncomputable def m_wrow : MF := Classical.choose x_m_wrow
theorem q_m_wrow : m_wrow = fun ds S Q => b_wrow (endsD Q) (startD 5 ds) S := Classical.choose_spec x_m_wrow
theorem e_wrow (a0 a1 a2 a3 : D) (S : Sto) (Q : DK) : m_wrow [a0, a1, a2, a3] S Q = b_wrow (endsD Q) [some a0, some a1, some a2, some a3, none] S := by rw [q_m_wrow]; rfl
theorem sc_wrow : FnScope ["_law_pen_here", "_law_name", "_law_day", "_law_sorts_here", "_law_terms"] ["_law_pen_here", "_law_name", "_law_day", "_law_sorts_here"] (defScope s_wrow) := ⟨rfl, rfl, rfl, by decide +kernel, rfl, by decide +kernel, by decide +kernel⟩
noncomputable def c_wturned_2 : DE := (eM "list" gPopAt (eVar 2) (aCons (eCall 2 m_wtake (aCons (eVar 0) (aCons (eCB gLen (aCons (eVar 2) aNil)) aNil))) aNil))
noncomputable def t_wturned_2 : DS := (sRet (eLc (iRange1 (aCons (eCB gLen (aCons (eVar 1) aNil)) aNil)) (nName 3) tsYes c_wturned_2 [3]))
noncomputable def b_wturned : DS := (sSeq (sAsg (eCB gList (aCons (eVar 1) aNil)) (nName 2)) t_wturned_2)
theorem x_m_wturned : ∃ m : MF, m = fun ds S Q => b_wturned (endsD Q) (startD 4 ds) S := ⟨_, rfl⟩
noncomputable def m_wturned : MF := Classical.choose x_m_wturned
theorem q_m_wturned : m_wturned = fun ds S Q => b_wturned (endsD Q) (startD 4 ds) S := Classical.choose_spec x_m_wturned
theorem e_wturned (a0 a1 : D) (S : Sto) (Q : DK) : m_wturned [a0, a1] S Q = b_wturned (endsD Q) [some a0, some a1, none, none] S := by rw [q_m_wturned]; rfl
theorem sc_wturned : FnScope ["_law_pen_here", "_law_some_here", "_law_left", "_law_k"] ["_law_pen_here", "_law_some_here"] (defScope s_wturned) := ⟨rfl, rfl, rfl, by decide +kernel, rfl, by decide +kernel, by decide +kernel⟩
noncomputable def c_wlisted_5 : DE := (eIf (tAndD (tTr (eCB gIsi (aCons (eVar 5) (aCons (eC (.ty "tuple")) aNil)))) (tBl (eOp (gEq id) (eCall 2 m_wtake (aCons (eVar 0) (aCons (eC (.int 2)) aNil))) (eC (.int 0))))) (eCB gList (aCons (eVar 5) aNil)) (eVar 5))
noncomputable def t_wlisted_6 : DS := (sSub (eOp gIx (eLst (aCons (eVar 4) (aCons (eCB gTuple (aCons (eVar 4) aNil)) aNil))) (eCall 2 m_wtake (aCons (eVar 0) (aCons (eC (.int 2)) aNil)))) (eVar 2) (eVar 3))
noncomputable def t_wlisted_5 : DS := (sSeq (sAsg (eLc (iSeq (eVar 4)) (nName 5) tsYes c_wlisted_5 [5]) (nName 4)) t_wlisted_6)
noncomputable def l_wlisted_2 : DS := (sIf (tTr (eCB gIsi (aCons (eOp gIx (eVar 1) (eVar 3)) (aCons (eC (.ty "tuple")) aNil)))) (sSeq (sAsg (eCall 2 m_wturned (aCons (eVar 0) (aCons (eOp gIx (eVar 1) (eVar 3)) aNil))) (nName 4)) t_wlisted_5) sNext)
noncomputable def t_wlisted_7 : DS := (sRet (eOp gIx (eLst (aCons (eVar 2) (aCons (eCB gTuple (aCons (eVar 2) aNil)) aNil))) (eCall 2 m_wtake (aCons (eVar 0) (aCons (eC (.int 2)) aNil)))))
noncomputable def t_wlisted_2 : DS := (sSeq (sFor (iRange1 (aCons (eCB gLen (aCons (eVar 1) aNil)) aNil)) (nName 3) l_wlisted_2) t_wlisted_7)
noncomputable def b_wlisted : DS := (sSeq (sAsg (eCB gList (aCons (eVar 1) aNil)) (nName 2)) t_wlisted_2)
theorem x_m_wlisted : ∃ m : MF, m = fun ds S Q => b_wlisted (endsD Q) (startD 6 ds) S := ⟨_, rfl⟩
noncomputable def m_wlisted : MF := Classical.choose x_m_wlisted
theorem q_m_wlisted : m_wlisted = fun ds S Q => b_wlisted (endsD Q) (startD 6 ds) S := Classical.choose_spec x_m_wlisted
theorem e_wlisted (a0 a1 : D) (S : Sto) (Q : DK) : m_wlisted [a0, a1] S Q = b_wlisted (endsD Q) [some a0, some a1, none, none, none, none] S := by rw [q_m_wlisted]; rfl
theorem sc_wlisted : FnScope ["_law_pen_here", "_law_row_here", "_law_found", "_law_at", "_law_some_here", "_law_one"] ["_law_pen_here", "_law_row_here"] (defScope s_wlisted) := ⟨rfl, rfl, rfl, by decide +kernel, rfl, by decide +kernel, by decide +kernel⟩
noncomputable def l_wtwin_3 : DS := (sIf (tAndD (tTr (eCB gIsi (aCons (eOp gIx (eVar 3) (eVar 4)) (aCons (eC (.ty "int")) aNil)))) (tBl (eOp (gIn id) (eOp gIx (eVar 3) (eVar 4)) (eTup (aCons (eC (.int 0)) (aCons (eC (.int 1)) aNil)))))) (sExpr (eM "list" gAppend (eVar 2) (aCons (eOp gAdd (eOp gAdd (eSl (eVar 3) oNo (oSome (eVar 4))) (eTup (aCons (eOp (gEq id) (eOp gIx (eVar 3) (eVar 4)) (eC (.int 1))) aNil))) (eSl (eVar 3) (oSome (eOp gAdd (eVar 4) (eC (.int 1)))) oNo)) aNil))) sNext)
noncomputable def l_wtwin_2 : DS := (sFor (iRange2 (aCons (eC (.int 2)) (aCons (eCB gLen (aCons (eVar 3) aNil)) aNil))) (nName 4) l_wtwin_3)
noncomputable def t_wtwin_8 : DS := (sRet (eOp gIx (eVar 2) (eCall 2 m_wtake (aCons (eVar 0) (aCons (eCB gLen (aCons (eVar 2) aNil)) aNil)))))
noncomputable def t_wtwin_6 : DS := (sSeq (sIf (tBl (eOp (gEq id) (eVar 2) (eLst aNil))) (sRet (eC .non)) sNext) t_wtwin_8)
noncomputable def t_wtwin_2 : DS := (sSeq (sFor (iSeq (eVar 1)) (nName 3) l_wtwin_2) t_wtwin_6)
noncomputable def b_wtwin : DS := (sSeq (sAsg (eLst aNil) (nName 2)) t_wtwin_2)
theorem x_m_wtwin : ∃ m : MF, m = fun ds S Q => b_wtwin (endsD Q) (startD 5 ds) S := ⟨_, rfl⟩
noncomputable def m_wtwin : MF := Classical.choose x_m_wtwin
theorem q_m_wtwin : m_wtwin = fun ds S Q => b_wtwin (endsD Q) (startD 5 ds) S := Classical.choose_spec x_m_wtwin
theorem e_wtwin (a0 a1 : D) (S : Sto) (Q : DK) : m_wtwin [a0, a1] S Q = b_wtwin (endsD Q) [some a0, some a1, none, none, none] S := by rw [q_m_wtwin]; rfl
theorem sc_wtwin : FnScope ["_law_pen_here", "_law_rows", "_law_some_here", "_law_row_here", "_law_at"] ["_law_pen_here", "_law_rows"] (defScope s_wtwin) := ⟨rfl, rfl, rfl, by decide +kernel, rfl, by decide +kernel, by decide +kernel⟩
noncomputable def c_wput_in_12 : DE := (eOp gIx (eVar 10) (eC (.int 1)))
noncomputable def t_wput_in_19 : DS := (sRet (eTup (aCons (eOp gIx (eVar 7) (eCall 2 m_wtake (aCons (eVar 0) (aCons (eC (.int 12)) aNil)))) (aCons (eC (.str "NoRow")) aNil))))
noncomputable def t_wput_in_18 : DS := (sSeq (sAsg (eOp gAdd (eVar 7) (eLst (aCons (eTup (aCons (eC (.str "alone")) (aCons (eVar 5) (aCons (eC (.int 10000)) (aCons (eC (.str "a")) aNil))))) (aCons (eLst (aCons (eC (.str "alone")) (aCons (eVar 5) (aCons (eC (.bl true)) (aCons (eC (.str "a")) aNil))))) aNil)))) (nName 7)) t_wput_in_19)
noncomputable def t_wput_in_17 : DS := (sSeq (sAsg (eLst (aCons (eC .non) (aCons (eC (.bl true)) (aCons (eC (.int 7)) (aCons (eC (.str "")) (aCons (eTup aNil) (aCons (eLst aNil) (aCons eDict0 (aCons (eSl (eVar 2) oNo (oSome (eNeg (eC (.int 1))))) (aCons (eOp gAdd (eVar 2) (eTup (aCons (eC (.int 1)) aNil))) (aCons (eTup (aCons (eC (.str "view")) (aCons (eVar 5) (aCons (eC (.int 0)) (aCons (eVar 3) (aCons (eC (.int 0)) (aCons (eC (.str "a")) aNil))))))) aNil))))))))))) (nName 7)) t_wput_in_18)
noncomputable def t_wput_in_15 : DS := (sSeq (sIf (tBl (eOp (gEq id) (eVar 4) (eC (.int 6)))) (sRet (eTup (aCons (eCall 2 m_wtwin (aCons (eVar 0) (aCons (eVar 9) aNil))) (aCons (eC (.str "NoRow")) aNil)))) sNext) t_wput_in_17)
noncomputable def t_wput_in_13 : DS := (sSeq (sIf (tBl (eOp (gIn id) (eVar 4) (eTup (aCons (eC (.int 4)) (aCons (eC (.int 5)) aNil))))) (sRet (eTup (aCons (eTup (aCons (eC (.str "measure")) (aCons (eVar 5) (aCons (eC (.int 0)) (aCons (eVar 3) (aCons (eC (.int 0)) aNil)))))) (aCons (eC (.str "NoRow")) aNil)))) sNext) t_wput_in_15)
noncomputable def t_wput_in_11 : DS := (sSeq (sIf (tAndD (tBl (eOp (gEq id) (eVar 4) (eC (.int 3)))) (tBl (eOp (gEq not) (eVar 9) (eTup aNil)))) (sRet (eTup (aCons (eOp gIx (eVar 9) (eM "list" gIndex (eLc (iSeq (eVar 9)) (nName 10) tsYes c_wput_in_12 [10]) (aCons (eVar 5) aNil))) (aCons (eC (.str "Twice")) aNil)))) sNext) t_wput_in_13)
noncomputable def t_wput_in_9 : DS := (sSeq (sIf (tBl (eOp gLt2 (eVar 4) (eC (.int 3)))) (sRet (eTup (aCons (eCall 2 m_wlisted (aCons (eVar 0) (aCons (eOp gAdd (eOp gAdd (eSl (eVar 2) oNo (oSome (eC (.int 1)))) (eTup (aCons (eVar 5) aNil))) (eSl (eVar 2) (oSome (eC (.int 2))) oNo)) aNil))) (aCons (eVar 6) aNil)))) sNext) t_wput_in_11)
noncomputable def t_wput_in_7 : DS := (sSeq (sIf (tBl (eOp (gEq id) (eVar 5) (eOp gIx (eVar 2) (eC (.int 1))))) (sAsg (eOp gIx (eLst (aCons (eC (.str "")) (aCons (eC (.str "TooMany")) aNil))) (eCB gInt1 (aCons (eOp (gEq id) (eCB gLen (aCons (eVar 9) aNil)) (eC (.int 40))) aNil))) (nName 6)) sNext) t_wput_in_9)
noncomputable def t_wput_in_6 : DS := (sSeq (sAsg (eC (.str "Twice")) (nName 6)) t_wput_in_7)
noncomputable def t_wput_in_4 : DS := (sSeq (sIf (tAndD (tBl (eOp (gEq not) (eVar 9) (eTup aNil))) (tBl (eOp (gIn id) (eVar 4) (eTup (aCons (eC (.int 2)) (aCons (eC (.int 3)) (aCons (eC (.int 5)) aNil))))))) (sAsg (eOp gIx (eOp gIx (eVar 9) (eCall 2 m_wtake (aCons (eVar 0) (aCons (eCB gLen (aCons (eVar 9) aNil)) aNil)))) (eC (.int 1))) (nName 5)) sNext) t_wput_in_6)
noncomputable def t_wput_in_3 : DS := (sSeq (sAsg (eOp gIx (eVar 2) (eC (.int 1))) (nName 5)) t_wput_in_4)
noncomputable def t_wput_in_2 : DS := (sSeq (sAsg (eCall 2 m_wtake (aCons (eVar 0) (aCons (eC (.int 8)) aNil))) (nName 4)) t_wput_in_3)
noncomputable def b_wput_in : DS := (sSeq (sAsg (eVar 1) (nTupL 2 (nCons (nName 8) (nCons (nName 9) nNil)))) t_wput_in_2)
theorem x_m_wput_in : ∃ m : MF, m = fun ds S Q => b_wput_in (endsD Q) (startD 11 ds) S := ⟨_, rfl⟩
noncomputable def m_wput_in : MF := Classical.choose x_m_wput_in
theorem q_m_wput_in : m_wput_in = fun ds S Q => b_wput_in (endsD Q) (startD 11 ds) S := Classical.choose_spec x_m_wput_in
theorem e_wput_in (a0 a1 a2 a3 : D) (S : Sto) (Q : DK) : m_wput_in [a0, a1, a2, a3] S Q = b_wput_in (endsD Q) [some a0, some a1, some a2, some a3, none, none, none, none, none, none, none] S := by rw [q_m_wput_in]; rfl
theorem sc_wput_in : FnScope ["_law_pen_here", "_law_roll", "_law_fresh", "_law_strange", "_law_way", "_law_name", "_law_word", "_law_odd", "_law_laying_here", "_law_rows", "_law_row_here"] ["_law_pen_here", "_law_roll", "_law_fresh", "_law_strange"] (defScope s_wput_in) := ⟨rfl, rfl, rfl, by decide +kernel, rfl, by decide +kernel, by decide +kernel⟩
noncomputable def t_wplace_2 : DS := (sRet (eTup (aCons (eOp gIx (eVar 0) (eC (.int 2))) (aCons (eGet2 (eVar 1) (eOp gIx (eVar 0) (eC (.int 0))) (eC (.int 1))) (aCons (eOp gIx (eVar 0) (eC (.int 1))) aNil)))))
noncomputable def b_wplace : DS := (sSeq (sAsg (eDict (pCons (eC (.str "measure")) (eC (.int 0)) (pCons (eC (.str "mend")) (eC (.int 2)) (pCons (eC (.str "alone")) (eC (.int 2)) (pCons (eC (.str "breach")) (eC (.int 3)) (pCons (eC (.str "view")) (eC (.int 3)) pNil)))))) (nName 1)) t_wplace_2)
theorem x_m_wplace : ∃ m : MF, m = fun ds S Q => b_wplace (endsD Q) (startD 2 ds) S := ⟨_, rfl⟩
noncomputable def m_wplace : MF := Classical.choose x_m_wplace
theorem q_m_wplace : m_wplace = fun ds S Q => b_wplace (endsD Q) (startD 2 ds) S := Classical.choose_spec x_m_wplace
theorem e_wplace (a0 : D) (S : Sto) (Q : DK) : m_wplace [a0] S Q = b_wplace (endsD Q) [some a0, none] S := by rw [q_m_wplace]; rfl
theorem sc_wplace : FnScope ["_law_row_here", "_law_ranks"] ["_law_row_here"] (defScope s_wplace) := ⟨rfl, rfl, rfl, by decide +kernel, rfl, by decide +kernel, by decide +kernel⟩
noncomputable def t_as_tuple_3 : DS := (sRet (eVar 0))
noncomputable def b_as_tuple : DS := (sSeq (sIf (tTr (eCB gIsi (aCons (eVar 0) (aCons (eC (.ty "list")) aNil)))) (sRet (eCB gTuple (aCons (eVar 0) aNil))) sNext) t_as_tuple_3)
theorem x_m_as_tuple : ∃ m : MF, m = fun ds S Q => b_as_tuple (endsD Q) (startD 1 ds) S := ⟨_, rfl⟩
noncomputable def m_as_tuple : MF := Classical.choose x_m_as_tuple
theorem q_m_as_tuple : m_as_tuple = fun ds S Q => b_as_tuple (endsD Q) (startD 1 ds) S := Classical.choose_spec x_m_as_tuple
theorem e_as_tuple (a0 : D) (S : Sto) (Q : DK) : m_as_tuple [a0] S Q = b_as_tuple (endsD Q) [some a0] S := by rw [q_m_as_tuple]; rfl
theorem sc_as_tuple : FnScope ["thing"] ["thing"] (defScope s_as_tuple) := ⟨rfl, rfl, rfl, by decide +kernel, rfl, by decide +kernel, by decide +kernel⟩
noncomputable def c_with_tuples_2 : DE := (eCall 1 m_as_tuple (aCons (eVar 1) aNil))
noncomputable def t_with_tuples_3 : DS := (sRet (eVar 0))
noncomputable def b_with_tuples : DS := (sSeq (sIf (tTr (eIsi2 "list" "tuple" (eVar 0))) (sRet (eCB gTuple (aCons (eLc (iSeq (eVar 0)) (nName 1) tsYes c_with_tuples_2 [1]) aNil))) sNext) t_with_tuples_3)
theorem x_m_with_tuples : ∃ m : MF, m = fun ds S Q => b_with_tuples (endsD Q) (startD 2 ds) S := ⟨_, rfl⟩
noncomputable def m_with_tuples : MF := Classical.choose x_m_with_tuples
theorem q_m_with_tuples : m_with_tuples = fun ds S Q => b_with_tuples (endsD Q) (startD 2 ds) S := Classical.choose_spec x_m_with_tuples
theorem e_with_tuples (a0 : D) (S : Sto) (Q : DK) : m_with_tuples [a0] S Q = b_with_tuples (endsD Q) [some a0, none] S := by rw [q_m_with_tuples]; rfl
theorem sc_with_tuples : FnScope ["thing", "part"] ["thing"] (defScope s_with_tuples) := ⟨rfl, rfl, rfl, by decide +kernel, rfl, by decide +kernel, by decide +kernel⟩
noncomputable def c_is_name_3 : DE := (eOp (gIn id) (eVar 1) (eC (.str "abcdefghijklmnopqrstuvwxyz")))
noncomputable def t_is_name_3 : DS := (sRet (eCB (gAll fun bs => bs.all id) (aCons (eLc (iSeq (eVar 0)) (nName 1) tsYes c_is_name_3 [1]) aNil)))
noncomputable def b_is_name : DS := (sSeq (sIf (tOrD (tNotD (tTr (eCB gIsi (aCons (eVar 0) (aCons (eC (.ty "str")) aNil))))) (tNotD (tBl (eChain gLe gLe (eC (.int 1)) (eCB gLen (aCons (eVar 0) aNil)) (eC (.int 8)))))) (sRet (eC (.bl false))) sNext) t_is_name_3)
theorem x_m_is_name : ∃ m : MF, m = fun ds S Q => b_is_name (endsD Q) (startD 2 ds) S := ⟨_, rfl⟩
noncomputable def m_is_name : MF := Classical.choose x_m_is_name
theorem q_m_is_name : m_is_name = fun ds S Q => b_is_name (endsD Q) (startD 2 ds) S := Classical.choose_spec x_m_is_name
theorem e_is_name (a0 : D) (S : Sto) (Q : DK) : m_is_name [a0] S Q = b_is_name (endsD Q) [some a0, none] S := by rw [q_m_is_name]; rfl
theorem sc_is_name : FnScope ["thing", "sign"] ["thing"] (defScope s_is_name) := ⟨rfl, rfl, rfl, by decide +kernel, rfl, by decide +kernel, by decide +kernel⟩
noncomputable def c_are_names_1 : DE := (eCall 1 m_is_name (aCons (eVar 1) aNil))
noncomputable def b_are_names : DS := (sRet (eCB (gAll fun bs => bs.all id) (aCons (eLc (iSeq (eVar 0)) (nName 1) tsYes c_are_names_1 [1]) aNil)))
theorem x_m_are_names : ∃ m : MF, m = fun ds S Q => b_are_names (endsD Q) (startD 2 ds) S := ⟨_, rfl⟩
noncomputable def m_are_names : MF := Classical.choose x_m_are_names
theorem q_m_are_names : m_are_names = fun ds S Q => b_are_names (endsD Q) (startD 2 ds) S := Classical.choose_spec x_m_are_names
theorem e_are_names (a0 : D) (S : Sto) (Q : DK) : m_are_names [a0] S Q = b_are_names (endsD Q) [some a0, none] S := by rw [q_m_are_names]; rfl
theorem sc_are_names : FnScope ["things", "thing"] ["things"] (defScope s_are_names) := ⟨rfl, rfl, rfl, by decide +kernel, rfl, by decide +kernel, by decide +kernel⟩
noncomputable def b_is_within : DS := (sRet (eAnd (eCB gIsi (aCons (eVar 0) (aCons (eC (.ty "int")) aNil))) (eAnd (eNot (eCB gIsi (aCons (eVar 0) (aCons (eC (.ty "bool")) aNil)))) (eChain gLe gLe (eVar 1) (eVar 0) (eVar 2)))))
theorem x_m_is_within : ∃ m : MF, m = fun ds S Q => b_is_within (endsD Q) (startD 3 ds) S := ⟨_, rfl⟩
noncomputable def m_is_within : MF := Classical.choose x_m_is_within
theorem q_m_is_within : m_is_within = fun ds S Q => b_is_within (endsD Q) (startD 3 ds) S := Classical.choose_spec x_m_is_within
theorem e_is_within (a0 a1 a2 : D) (S : Sto) (Q : DK) : m_is_within [a0, a1, a2] S Q = b_is_within (endsD Q) [some a0, some a1, some a2] S := by rw [q_m_is_within]; rfl
theorem sc_is_within : FnScope ["thing", "least", "most"] ["thing", "least", "most"] (defScope s_is_within) := ⟨rfl, rfl, rfl, by decide +kernel, rfl, by decide +kernel, by decide +kernel⟩
noncomputable def t_is_part_3 : DS := (sRet (eAnd (eCall 1 m_are_names (aCons (eSl (eVar 0) oNo (oSome (eC (.int 2)))) aNil)) (eCall 3 m_is_within (aCons (eOp gIx (eVar 0) (eC (.int 2))) (aCons (eC (.int 1)) (aCons (eC (.int 10000000)) aNil))))))
noncomputable def b_is_part : DS := (sSeq (sIf (tOrD (tNotD (tTr (eCB gIsi (aCons (eVar 0) (aCons (eC (.ty "tuple")) aNil))))) (tBl (eOp (gEq not) (eCB gLen (aCons (eVar 0) aNil)) (eC (.int 3))))) (sRet (eC (.bl false))) sNext) t_is_part_3)
theorem x_m_is_part : ∃ m : MF, m = fun ds S Q => b_is_part (endsD Q) (startD 1 ds) S := ⟨_, rfl⟩
noncomputable def m_is_part : MF := Classical.choose x_m_is_part
theorem q_m_is_part : m_is_part = fun ds S Q => b_is_part (endsD Q) (startD 1 ds) S := Classical.choose_spec x_m_is_part
theorem e_is_part (a0 : D) (S : Sto) (Q : DK) : m_is_part [a0] S Q = b_is_part (endsD Q) [some a0] S := by rw [q_m_is_part]; rfl
theorem sc_is_part : FnScope ["thing"] ["thing"] (defScope s_is_part) := ⟨rfl, rfl, rfl, by decide +kernel, rfl, by decide +kernel, by decide +kernel⟩
noncomputable def c_in_order_4 : DE := (eCall 1 m_is_part (aCons (eVar 2) aNil))
noncomputable def t_in_order_6 : DS := (sRet (eVar 0))
noncomputable def t_in_order_4 : DS := (sSeq (sIf (tOrD (tTr (eCB (gAll fun bs => bs.all id) (aCons (eLc (iSeq (eVar 1)) (nName 2) tsYes c_in_order_4 [2]) aNil))) (tTr (eCall 1 m_are_names (aCons (eVar 1) aNil)))) (sRet (eCB gTuple (aCons (eCB gSortedA (aCons (eVar 1) aNil)) aNil))) sNext) t_in_order_6)
noncomputable def t_in_order_2 : DS := (sSeq (sIf (tNotD (tTr (eCB gIsi (aCons (eVar 1) (aCons (eC (.ty "tuple")) aNil))))) (sRet (eVar 0)) sNext) t_in_order_4)
noncomputable def b_in_order : DS := (sSeq (sAsg (eCall 1 m_with_tuples (aCons (eVar 0) aNil)) (nName 1)) t_in_order_2)
theorem x_m_in_order : ∃ m : MF, m = fun ds S Q => b_in_order (endsD Q) (startD 3 ds) S := ⟨_, rfl⟩
noncomputable def m_in_order : MF := Classical.choose x_m_in_order
theorem q_m_in_order : m_in_order = fun ds S Q => b_in_order (endsD Q) (startD 3 ds) S := Classical.choose_spec x_m_in_order
theorem e_in_order (a0 : D) (S : Sto) (Q : DK) : m_in_order [a0] S Q = b_in_order (endsD Q) [some a0, none, none] S := by rw [q_m_in_order]; rfl
theorem sc_in_order : FnScope ["thing", "some", "part"] ["thing"] (defScope s_in_order) := ⟨rfl, rfl, rfl, by decide +kernel, rfl, by decide +kernel, by decide +kernel⟩
noncomputable def c_is_rising_1 : DE := (eOp gLt2 (eVar 1) (eVar 2))
noncomputable def b_is_rising : DS := (sRet (eCB (gAll fun bs => bs.all id) (aCons (eLc (iZipD (aCons (eVar 0) (aCons (eSl (eVar 0) (oSome (eC (.int 1))) oNo) aNil))) (nTupL 2 (nCons (nName 1) (nCons (nName 2) nNil))) tsYes c_is_rising_1 [1, 2]) aNil)))
theorem x_m_is_rising : ∃ m : MF, m = fun ds S Q => b_is_rising (endsD Q) (startD 3 ds) S := ⟨_, rfl⟩
noncomputable def m_is_rising : MF := Classical.choose x_m_is_rising
theorem q_m_is_rising : m_is_rising = fun ds S Q => b_is_rising (endsD Q) (startD 3 ds) S := Classical.choose_spec x_m_is_rising
theorem e_is_rising (a0 : D) (S : Sto) (Q : DK) : m_is_rising [a0] S Q = b_is_rising (endsD Q) [some a0, none, none] S := by rw [q_m_is_rising]; rfl
theorem sc_is_rising : FnScope ["some", "one", "other"] ["some"] (defScope s_is_rising) := ⟨rfl, rfl, rfl, by decide +kernel, rfl, by decide +kernel, by decide +kernel⟩
noncomputable def c_are_parts_3 : DE := (eCall 1 m_is_part (aCons (eVar 1) aNil))
noncomputable def c_are_parts_3b : DE := (eOp gIx (eVar 1) (eC (.int 0)))
noncomputable def t_are_parts_3 : DS := (sRet (eAnd (eCB (gAll fun bs => bs.all id) (aCons (eLc (iSeq (eVar 0)) (nName 1) tsYes c_are_parts_3 [1]) aNil)) (eCall 1 m_is_rising (aCons (eLc (iSeq (eVar 0)) (nName 1) tsYes c_are_parts_3b [1]) aNil))))
noncomputable def b_are_parts : DS := (sSeq (sIf (tOrD (tNotD (tTr (eCB gIsi (aCons (eVar 0) (aCons (eC (.ty "tuple")) aNil))))) (tNotD (tBl (eChain gLe gLe (eC (.int 2)) (eCB gLen (aCons (eVar 0) aNil)) (eC (.int 6)))))) (sRet (eC (.bl false))) sNext) t_are_parts_3)
theorem x_m_are_parts : ∃ m : MF, m = fun ds S Q => b_are_parts (endsD Q) (startD 2 ds) S := ⟨_, rfl⟩
noncomputable def m_are_parts : MF := Classical.choose x_m_are_parts
theorem q_m_are_parts : m_are_parts = fun ds S Q => b_are_parts (endsD Q) (startD 2 ds) S := Classical.choose_spec x_m_are_parts
theorem e_are_parts (a0 : D) (S : Sto) (Q : DK) : m_are_parts [a0] S Q = b_are_parts (endsD Q) [some a0, none] S := by rw [q_m_are_parts]; rfl
theorem sc_are_parts : FnScope ["thing", "part"] ["thing"] (defScope s_are_parts) := ⟨rfl, rfl, rfl, by decide +kernel, rfl, by decide +kernel, by decide +kernel⟩
noncomputable def t_are_lands_3 : DS := (sRet (eAnd (eCall 1 m_are_names (aCons (eVar 0) aNil)) (eCall 1 m_is_rising (aCons (eVar 0) aNil))))
noncomputable def b_are_lands : DS := (sSeq (sIf (tOrD (tNotD (tTr (eCB gIsi (aCons (eVar 0) (aCons (eC (.ty "tuple")) aNil))))) (tNotD (tBl (eChain gLe gLe (eC (.int 2)) (eCB gLen (aCons (eVar 0) aNil)) (eC (.int 6)))))) (sRet (eC (.bl false))) sNext) t_are_lands_3)
theorem x_m_are_lands : ∃ m : MF, m = fun ds S Q => b_are_lands (endsD Q) (startD 1 ds) S := ⟨_, rfl⟩
noncomputable def m_are_lands : MF := Classical.choose x_m_are_lands
theorem q_m_are_lands : m_are_lands = fun ds S Q => b_are_lands (endsD Q) (startD 1 ds) S := Classical.choose_spec x_m_are_lands
theorem e_are_lands (a0 : D) (S : Sto) (Q : DK) : m_are_lands [a0] S Q = b_are_lands (endsD Q) [some a0] S := by rw [q_m_are_lands]; rfl
theorem sc_are_lands : FnScope ["thing"] ["thing"] (defScope s_are_lands) := ⟨rfl, rfl, rfl, by decide +kernel, rfl, by decide +kernel, by decide +kernel⟩
noncomputable def t_has_right_rest_16 : DS := (sRet (eAnd (eCall 3 m_is_within (aCons (eOp gIx (eVar 2) (eC (.int 2))) (aCons (eC (.int 0)) (aCons (eC (.int 1000000000)) aNil)))) (eCall 3 m_is_within (aCons (eOp gIx (eVar 2) (eC (.int 3))) (aCons (eC (.int 0)) (aCons (eC (.int 1000000)) aNil))))))
noncomputable def t_has_right_rest_14 : DS := (sSeq (sIf (tBl (eOp (gEq id) (eVar 1) (eC (.str "view")))) (sRet (eCall 1 m_is_name (aCons (eOp gIx (eVar 2) (eC (.int 2))) aNil))) sNext) t_has_right_rest_16)
noncomputable def t_has_right_rest_12 : DS := (sSeq (sIf (tOrD (tNotD (tTr (eCall 1 m_is_name (aCons (eOp gIx (eVar 2) (eC (.int 0))) aNil)))) (tNotD (tTr (eCall 3 m_is_within (aCons (eOp gIx (eVar 2) (eC (.int 1))) (aCons (eC (.int 0)) (aCons (eOp gMns (eC (.int 10000000)) (eC (.int 1))) aNil))))))) (sRet (eC (.bl false))) sNext) t_has_right_rest_14)
noncomputable def t_has_right_rest_10 : DS := (sSeq (sIf (tBl (eOp (gIn id) (eVar 1) (eTup (aCons (eC (.str "forfeit")) (aCons (eC (.str "alone")) aNil))))) (sRet (eCall 1 m_are_names (aCons (eVar 2) aNil))) sNext) t_has_right_rest_12)
noncomputable def t_has_right_rest_8 : DS := (sSeq (sIf (tBl (eOp (gEq id) (eVar 1) (eC (.str "mend")))) (sRet (eAnd (eCall 1 m_are_names (aCons (eVar 2) aNil)) (eOp (gEq not) (eOp gIx (eVar 2) (eC (.int 0))) (eOp gIx (eVar 2) (eC (.int 1)))))) sNext) t_has_right_rest_10)
noncomputable def t_has_right_rest_6 : DS := (sSeq (sIf (tBl (eOp (gEq id) (eVar 1) (eC (.str "measure")))) (sRet (eAnd (eCall 1 m_is_name (aCons (eOp gIx (eVar 2) (eC (.int 0))) aNil)) (eCall 3 m_is_within (aCons (eOp gIx (eVar 2) (eC (.int 1))) (aCons (eC (.int 0)) (aCons (eC (.int 10000000)) aNil)))))) sNext) t_has_right_rest_8)
noncomputable def t_has_right_rest_4 : DS := (sSeq (sIf (tBl (eOp (gEq id) (eVar 1) (eC (.str "join")))) (sRet (eAnd (eCall 1 m_are_lands (aCons (eOp gIx (eVar 2) (eC (.int 0))) aNil)) (eCall 1 m_is_name (aCons (eOp gIx (eVar 2) (eC (.int 1))) aNil)))) sNext) t_has_right_rest_6)
noncomputable def t_has_right_rest_2 : DS := (sSeq (sIf (tBl (eOp (gEq id) (eVar 1) (eC (.str "part")))) (sRet (eAnd (eCall 1 m_is_name (aCons (eOp gIx (eVar 2) (eC (.int 0))) aNil)) (eCall 1 m_are_parts (aCons (eOp gIx (eVar 2) (eC (.int 1))) aNil)))) sNext) t_has_right_rest_4)
noncomputable def b_has_right_rest : DS := (sSeq (sPar 1 2 (aCons (eOp gIx (eVar 0) (eC (.int 0))) (aCons (eSl (eVar 0) (oSome (eC (.int 3))) oNo) aNil))) t_has_right_rest_2)
theorem x_m_has_right_rest : ∃ m : MF, m = fun ds S Q => b_has_right_rest (endsD Q) (startD 3 ds) S := ⟨_, rfl⟩
noncomputable def m_has_right_rest : MF := Classical.choose x_m_has_right_rest
theorem q_m_has_right_rest : m_has_right_rest = fun ds S Q => b_has_right_rest (endsD Q) (startD 3 ds) S := Classical.choose_spec x_m_has_right_rest
theorem e_has_right_rest (a0 : D) (S : Sto) (Q : DK) : m_has_right_rest [a0] S Q = b_has_right_rest (endsD Q) [some a0, none, none] S := by rw [q_m_has_right_rest]; rfl
theorem sc_has_right_rest : FnScope ["row", "word", "rest"] ["row"] (defScope s_has_right_rest) := ⟨rfl, rfl, rfl, by decide +kernel, rfl, by decide +kernel, by decide +kernel⟩
noncomputable def t_is_row_5 : DS := (sRet (eAnd (eCall 1 m_is_name (aCons (eOp gIx (eVar 0) (eC (.int 1))) aNil)) (eAnd (eCall 3 m_is_within (aCons (eOp gIx (eVar 0) (eC (.int 2))) (aCons (eC (.int 0)) (aCons (eC (.int 9999)) aNil)))) (eCall 1 m_has_right_rest (aCons (eVar 0) aNil)))))
noncomputable def t_is_row_3 : DS := (sSeq (sIf (tOrD (tBl (eTabIn tab_SIZES not (eOp gIx (eVar 0) (eC (.int 0))))) (tBl (eOp (gEq not) (eCB gLen (aCons (eVar 0) aNil)) (eTab tab_SIZES (eOp gIx (eVar 0) (eC (.int 0))))))) (sRet (eC (.bl false))) sNext) t_is_row_5)
noncomputable def b_is_row : DS := (sSeq (sIf (tOrD (tNotD (tTr (eCB gIsi (aCons (eVar 0) (aCons (eC (.ty "tuple")) aNil))))) (tOrD (tBl (eOp gLt2 (eCB gLen (aCons (eVar 0) aNil)) (eC (.int 4)))) (tNotD (tTr (eCB gIsi (aCons (eOp gIx (eVar 0) (eC (.int 0))) (aCons (eC (.ty "str")) aNil))))))) (sRet (eC (.bl false))) sNext) t_is_row_3)
theorem x_m_is_row : ∃ m : MF, m = fun ds S Q => b_is_row (endsD Q) (startD 1 ds) S := ⟨_, rfl⟩
noncomputable def m_is_row : MF := Classical.choose x_m_is_row
theorem q_m_is_row : m_is_row = fun ds S Q => b_is_row (endsD Q) (startD 1 ds) S := Classical.choose_spec x_m_is_row
theorem e_is_row (a0 : D) (S : Sto) (Q : DK) : m_is_row [a0] S Q = b_is_row (endsD Q) [some a0] S := by rw [q_m_is_row]; rfl
theorem sc_is_row : FnScope ["thing"] ["thing"] (defScope s_is_row) := ⟨rfl, rfl, rfl, by decide +kernel, rfl, by decide +kernel, by decide +kernel⟩
noncomputable def t_row_of_9 : DSX := (xS (sRet (eVar 1)))
noncomputable def t_row_of_7 : DSX := (xSeq (xIf (tNotD (tTr (eCall 1 m_is_row (aCons (eVar 1) aNil)))) (xRaise "NoRow") (xS sNext)) t_row_of_9)
noncomputable def t_row_of_2 : DSX := (xSeq (xS (sIf (tAndD (tTr (eCB gIsi (aCons (eVar 1) (aCons (eC (.ty "tuple")) aNil)))) (tBl (eOp (gEq id) (eCB gLen (aCons (eVar 1) aNil)) (eC (.int 5))))) (sIf (tBl (eOp (gEq id) (eOp gIx (eVar 1) (eC (.int 0))) (eC (.str "part")))) (sAsg (eOp gAdd (eSl (eVar 1) oNo (oSome (eC (.int 4)))) (eTup (aCons (eCall 1 m_in_order (aCons (eOp gIx (eVar 1) (eC (.int 4))) aNil)) aNil))) (nName 1)) (sIf (tBl (eOp (gEq id) (eOp gIx (eVar 1) (eC (.int 0))) (eC (.str "join")))) (sAsg (eOp gAdd (eOp gAdd (eSl (eVar 1) oNo (oSome (eC (.int 3)))) (eTup (aCons (eCall 1 m_in_order (aCons (eOp gIx (eVar 1) (eC (.int 3))) aNil)) aNil))) (eSl (eVar 1) (oSome (eC (.int 4))) oNo)) (nName 1)) sNext)) sNext)) t_row_of_7)
noncomputable def b_row_of : DSX := (xSeq (xS (sAsg (eCall 1 m_as_tuple (aCons (eVar 0) aNil)) (nName 1))) t_row_of_2)
theorem x_m_row_of : ∃ m : MFX, m = fun ds S Q E => b_row_of (endsD Q) E (startD 2 ds) S := ⟨_, rfl⟩
noncomputable def m_row_of : MFX := Classical.choose x_m_row_of
theorem q_m_row_of : m_row_of = fun ds S Q E => b_row_of (endsD Q) E (startD 2 ds) S := Classical.choose_spec x_m_row_of
theorem e_row_of (a0 : D) (S : Sto) (Q : DK) (E : EK) : m_row_of [a0] S Q E = b_row_of (endsD Q) E [some a0, none] S := by rw [q_m_row_of]; rfl
theorem sc_row_of : FnScope ["thing", "parts"] ["thing"] (defScope s_row_of) := ⟨rfl, rfl, rfl, by decide +kernel, rfl, by decide +kernel, by decide +kernel⟩
noncomputable def t_field_of_3 : DS := (sRet (eC .non))
noncomputable def b_field_of : DS := (sSeq (sIf (tBl (eOp (gIn id) (eOp gIx (eVar 0) (eC (.int 0))) (eC (.tup [.str "measure", .str "breach", .str "view"])))) (sRet (eOp gIx (eVar 0) (eC (.int 3)))) sNext) t_field_of_3)
theorem x_m_field_of : ∃ m : MF, m = fun ds S Q => b_field_of (endsD Q) (startD 1 ds) S := ⟨_, rfl⟩
noncomputable def m_field_of : MF := Classical.choose x_m_field_of
theorem q_m_field_of : m_field_of = fun ds S Q => b_field_of (endsD Q) (startD 1 ds) S := Classical.choose_spec x_m_field_of
theorem e_field_of (a0 : D) (S : Sto) (Q : DK) : m_field_of [a0] S Q = b_field_of (endsD Q) [some a0] S := by rw [q_m_field_of]; rfl
theorem sc_field_of : FnScope ["row"] ["row"] (defScope s_field_of) := ⟨rfl, rfl, rfl, by decide +kernel, rfl, by decide +kernel, by decide +kernel⟩
noncomputable def c_is_row_of_1 : DE := (eOp gIx (eVar 2) (eC (.int 0)))
noncomputable def b_is_row_of : DS := (sRet (eOp (gIn id) (eCall 1 m_field_of (aCons (eVar 1) aNil)) (eOp gAdd (eLst (aCons (eC .non) aNil)) (eLc (iSeq (eVar 0)) (nName 2) tsYes c_is_row_of_1 [2]))))
theorem x_m_is_row_of : ∃ m : MF, m = fun ds S Q => b_is_row_of (endsD Q) (startD 3 ds) S := ⟨_, rfl⟩
noncomputable def m_is_row_of : MF := Classical.choose x_m_is_row_of
theorem q_m_is_row_of : m_is_row_of = fun ds S Q => b_is_row_of (endsD Q) (startD 3 ds) S := Classical.choose_spec x_m_is_row_of
theorem e_is_row_of (a0 a1 : D) (S : Sto) (Q : DK) : m_is_row_of [a0, a1] S Q = b_is_row_of (endsD Q) [some a0, some a1, none] S := by rw [q_m_is_row_of]; rfl
theorem sc_is_row_of : FnScope ["laying", "row", "part"] ["laying", "row"] (defScope s_is_row_of) := ⟨rfl, rfl, rfl, by decide +kernel, rfl, by decide +kernel, by decide +kernel⟩
noncomputable def t_row_in_7 : DS := (sRet (eC .non))
noncomputable def t_row_in_5 : DS := (sSeq (sIf (tTr (eCall 2 m_is_row_of (aCons (eVar 0) (aCons (eVar 2) aNil)))) (sRet (eVar 2)) sNext) t_row_in_7)
noncomputable def b_row_in : DS := (sSeq (sTry 2 1 m_row_of (aCons (eVar 1) aNil) ["NoRow"] (sRet (eC .non))) t_row_in_5)
theorem x_m_row_in : ∃ m : MF, m = fun ds S Q => b_row_in (endsD Q) (startD 3 ds) S := ⟨_, rfl⟩
noncomputable def m_row_in : MF := Classical.choose x_m_row_in
theorem q_m_row_in : m_row_in = fun ds S Q => b_row_in (endsD Q) (startD 3 ds) S := Classical.choose_spec x_m_row_in
theorem e_row_in (a0 a1 : D) (S : Sto) (Q : DK) : m_row_in [a0, a1] S Q = b_row_in (endsD Q) [some a0, some a1, none] S := by rw [q_m_row_in]; rfl
theorem sc_row_in : FnScope ["laying", "thing", "row"] ["laying", "thing"] (defScope s_row_in) := ⟨rfl, rfl, rfl, by decide +kernel, rfl, by decide +kernel, by decide +kernel⟩
noncomputable def b_order_of : DS := (sRet (eTup (aCons (eOp gIx (eVar 0) (eC (.int 2))) (aCons (eTab tab_RANKS (eOp gIx (eVar 0) (eC (.int 0)))) (aCons (eOp gIx (eVar 0) (eC (.int 1))) aNil)))))
theorem x_m_order_of : ∃ m : MF, m = fun ds S Q => b_order_of (endsD Q) (startD 1 ds) S := ⟨_, rfl⟩
noncomputable def m_order_of : MF := Classical.choose x_m_order_of
theorem q_m_order_of : m_order_of = fun ds S Q => b_order_of (endsD Q) (startD 1 ds) S := Classical.choose_spec x_m_order_of
theorem e_order_of (a0 : D) (S : Sto) (Q : DK) : m_order_of [a0] S Q = b_order_of (endsD Q) [some a0] S := by rw [q_m_order_of]; rfl
theorem sc_order_of : FnScope ["row"] ["row"] (defScope s_order_of) := ⟨rfl, rfl, rfl, by decide +kernel, rfl, by decide +kernel, by decide +kernel⟩
noncomputable def b_sorted_rows : DS := (sRet (eCB gTuple (aCons (eSortKA m_order_of (eVar 0)) aNil)))
theorem x_m_sorted_rows : ∃ m : MF, m = fun ds S Q => b_sorted_rows (endsD Q) (startD 1 ds) S := ⟨_, rfl⟩
noncomputable def m_sorted_rows : MF := Classical.choose x_m_sorted_rows
theorem q_m_sorted_rows : m_sorted_rows = fun ds S Q => b_sorted_rows (endsD Q) (startD 1 ds) S := Classical.choose_spec x_m_sorted_rows
theorem e_sorted_rows (a0 : D) (S : Sto) (Q : DK) : m_sorted_rows [a0] S Q = b_sorted_rows (endsD Q) [some a0] S := by rw [q_m_sorted_rows]; rfl
theorem sc_sorted_rows : FnScope ["rows"] ["rows"] (defScope s_sorted_rows) := ⟨rfl, rfl, rfl, by decide +kernel, rfl, by decide +kernel, by decide +kernel⟩
noncomputable def c_with_row_5 : DE := (eOp gIx (eVar 5) (eC (.int 1)))
noncomputable def t_with_row_9 : DSX := (xS (sRet (eTup (aCons (eVar 3) (aCons (eCall 1 m_sorted_rows (aCons (eOp gAdd (eVar 4) (eTup (aCons (eVar 2) aNil))) aNil)) aNil)))))
noncomputable def t_with_row_7 : DSX := (xSeq (xIf (tBl (eOp gGe (eCB gLen (aCons (eVar 4) aNil)) (eC (.int 40)))) (xRaise "TooMany") (xS sNext)) t_with_row_9)
noncomputable def t_with_row_5 : DSX := (xSeq (xIf (tBl (eOp (gIn id) (eOp gIx (eVar 2) (eC (.int 1))) (eLc (iSeq (eVar 4)) (nName 5) tsYes c_with_row_5 [5]))) (xRaise "Twice") (xS sNext)) t_with_row_7)
noncomputable def t_with_row_3 : DSX := (xSeq (xIf (tBl (eOp (gIs id) (eVar 2) (eC .non))) (xRaise "NoRow") (xS sNext)) t_with_row_5)
noncomputable def t_with_row_2 : DSX := (xSeq (xS (sAsg (eCall 2 m_row_in (aCons (eVar 3) (aCons (eVar 1) aNil))) (nName 2))) t_with_row_3)
noncomputable def b_with_row : DSX := (xSeq (xS (sAsg (eVar 0) (nTupL 2 (nCons (nName 3) (nCons (nName 4) nNil))))) t_with_row_2)
theorem x_m_with_row : ∃ m : MFX, m = fun ds S Q E => b_with_row (endsD Q) E (startD 6 ds) S := ⟨_, rfl⟩
noncomputable def m_with_row : MFX := Classical.choose x_m_with_row
theorem q_m_with_row : m_with_row = fun ds S Q E => b_with_row (endsD Q) E (startD 6 ds) S := Classical.choose_spec x_m_with_row
theorem e_with_row (a0 a1 : D) (S : Sto) (Q : DK) (E : EK) : m_with_row [a0, a1] S Q E = b_with_row (endsD Q) E [some a0, some a1, none, none, none, none] S := by rw [q_m_with_row]; rfl
theorem sc_with_row : FnScope ["roll", "thing", "row", "laying", "rows", "other"] ["roll", "thing"] (defScope s_with_row) := ⟨rfl, rfl, rfl, by decide +kernel, rfl, by decide +kernel, by decide +kernel⟩
noncomputable def t_wclass_20 : DS := (sRet (eOp gIx (eVar 1) (eC (.int 0))))
noncomputable def t_wclass_18 : DS := (sSeq (sIf (tBl (eOp (gEq not) (eCB gLen (aCons (eVar 1) aNil)) (eC (.int 1)))) (sRet (eC (.str ""))) sNext) t_wclass_20)
noncomputable def t_wclass_16 : DS := (sSeq (sIf (tOrD (tTr (eCB (gIsX xtab) (aCons (eVar 0) (aCons (eTup (aCons (eC (.cls "Clash")) (aCons (eC (.cls "NoBreach")) (aCons (eC (.cls "NoField")) (aCons (eC (.cls "NoInch")) (aCons (eC (.cls "NoOrder")) (aCons (eC (.cls "NoText")) aNil))))))) aNil)))) (tNotD (tTr (eCB (gIsX xtab) (aCons (eVar 0) (aCons (eC (.ty "ValueError")) aNil)))))) (sRet (eC (.str ""))) sNext) t_wclass_18)
noncomputable def t_wclass_14 : DS := (sSeq (sIf (tTr (eCB (gIsX xtab) (aCons (eVar 0) (aCons (eC (.cls "NoMend")) aNil)))) (sExpr (eM "list" gAppend (eVar 1) (aCons (eC (.str "NoMend")) aNil))) sNext) t_wclass_16)
noncomputable def t_wclass_12 : DS := (sSeq (sIf (tTr (eCB (gIsX xtab) (aCons (eVar 0) (aCons (eC (.cls "NoThen")) aNil)))) (sExpr (eM "list" gAppend (eVar 1) (aCons (eC (.str "NoThen")) aNil))) sNext) t_wclass_14)
noncomputable def t_wclass_10 : DS := (sSeq (sIf (tTr (eCB (gIsX xtab) (aCons (eVar 0) (aCons (eC (.cls "TooMany")) aNil)))) (sExpr (eM "list" gAppend (eVar 1) (aCons (eC (.str "TooMany")) aNil))) sNext) t_wclass_12)
noncomputable def t_wclass_8 : DS := (sSeq (sIf (tTr (eCB (gIsX xtab) (aCons (eVar 0) (aCons (eC (.cls "Twice")) aNil)))) (sExpr (eM "list" gAppend (eVar 1) (aCons (eC (.str "Twice")) aNil))) sNext) t_wclass_10)
noncomputable def t_wclass_6 : DS := (sSeq (sIf (tTr (eCB (gIsX xtab) (aCons (eVar 0) (aCons (eC (.cls "NoName")) aNil)))) (sExpr (eM "list" gAppend (eVar 1) (aCons (eC (.str "NoName")) aNil))) sNext) t_wclass_8)
noncomputable def t_wclass_4 : DS := (sSeq (sIf (tTr (eCB (gIsX xtab) (aCons (eVar 0) (aCons (eC (.cls "NoRoll")) aNil)))) (sExpr (eM "list" gAppend (eVar 1) (aCons (eC (.str "NoRoll")) aNil))) sNext) t_wclass_6)
noncomputable def t_wclass_2 : DS := (sSeq (sIf (tTr (eCB (gIsX xtab) (aCons (eVar 0) (aCons (eC (.cls "NoRow")) aNil)))) (sExpr (eM "list" gAppend (eVar 1) (aCons (eC (.str "NoRow")) aNil))) sNext) t_wclass_4)
noncomputable def b_wclass : DS := (sSeq (sAsg (eLst aNil) (nName 1)) t_wclass_2)
theorem x_m_wclass : ∃ m : MF, m = fun ds S Q => b_wclass (endsD Q) (startD 2 ds) S := ⟨_, rfl⟩
noncomputable def m_wclass : MF := Classical.choose x_m_wclass
theorem q_m_wclass : m_wclass = fun ds S Q => b_wclass (endsD Q) (startD 2 ds) S := Classical.choose_spec x_m_wclass
theorem e_wclass (a0 : D) (S : Sto) (Q : DK) : m_wclass [a0] S Q = b_wclass (endsD Q) [some a0, none] S := by rw [q_m_wclass]; rfl
theorem sc_wclass : FnScope ["_law_caught", "_law_found"] ["_law_caught"] (defScope s_wclass) := ⟨rfl, rfl, rfl, by decide +kernel, rfl, by decide +kernel, by decide +kernel⟩
noncomputable def t_wtold_9 : DS := (sRet (eLst (aCons (eC (.str "refused")) (aCons (eCall 1 m_wclass (aCons (eVar 1) aNil)) aNil))))
noncomputable def r_wtold : DS := (sSeq (sIf (tBl (eOp (gIs id) (eVar 1) (eC .non))) (sRet (eLst (aCons (eC (.str "told")) (aCons (eVar 2) aNil)))) sNext) t_wtold_9)
noncomputable def b_wtold : ASK → DS := fun ask D0 σ S => (fun ask D0 σ S => (gAskS 3 1 2 ["NoName", "NoRow", "TooMany", "Twice"] r_wtold) ask D0 (setS 2 .non σ) S) ask D0 (setS 1 .non σ) S
theorem x_m_wtold : ∃ m : MFL, m = fun ask S Q => ∀ f : Addr, b_wtold ask (endsD Q) (startD 4 [.ref f]) S := ⟨_, rfl⟩
noncomputable def m_wtold : MFL := Classical.choose x_m_wtold
theorem q_m_wtold : m_wtold = fun ask S Q => ∀ f : Addr, b_wtold ask (endsD Q) (startD 4 [.ref f]) S := Classical.choose_spec x_m_wtold
theorem e_wtold (ask : ASK) (S : Sto) (Q : DK) : m_wtold ask S Q = ∀ f : Addr, b_wtold ask (endsD Q) [some (.ref f), none, none, none] S := by rw [q_m_wtold]; rfl
theorem sc_wtold : FnScope ["_law_ask", "_law_caught", "_law_found", "e"] ["_law_ask"] (defScope s_wtold) := ⟨rfl, rfl, rfl, by decide +kernel, rfl, by decide +kernel, by decide +kernel⟩
noncomputable def t_wwith_right_8 : DS := (sRet (eAnd (eOp (gEq id) (eOp gIx (eVar 5) (eC (.int 0))) (eC (.str "told"))) (eAnd (eOp (gEq id) (eCB gRepr (aCons (eOp gIx (eVar 5) (eC (.int 1))) aNil)) (eCB gRepr (aCons (eVar 7) aNil))) (eOp (gEq id) (eCB gRepr (aCons (eLst (aCons (eVar 1) (aCons (eVar 8) aNil))) aNil)) (eVar 4)))))
noncomputable def t_wwith_right_7 : DS := (sSeq (sAsg (eTup (aCons (eOp gIx (eVar 1) (eC (.int 0))) (aCons (eCB gTuple (aCons (eSortKA m_wplace (eVar 6)) aNil)) aNil))) (nName 7)) t_wwith_right_8)
noncomputable def t_wwith_right_6 : DS := (sSeq (sAsg (eOp gAdd (eOp gIx (eVar 1) (eC (.int 1))) (eTup (aCons (eVar 2) aNil))) (nName 6)) t_wwith_right_7)
noncomputable def t_wwith_right_4 : DS := (sSeq (sIf (tBl (eOp (gEq not) (eVar 9) (eC (.str "")))) (sRet (eAnd (eOp (gEq id) (eVar 5) (eLst (aCons (eC (.str "refused")) (aCons (eVar 9) aNil)))) (eOp (gEq id) (eCB gRepr (aCons (eLst (aCons (eVar 1) (aCons (eVar 8) aNil))) aNil)) (eVar 4)))) sNext) t_wwith_right_6)
noncomputable def t_wwith_right_3 : DS := (sSeq (sAsg (eLamC tP_wwith_right "_law_with_right.<locals>.<lambda>" m_wtold (eCallX 2 m_with_row (aCons (eVar 1) (aCons (eVar 8) aNil)))) (nName 5)) t_wwith_right_4)
noncomputable def t_wwith_right_2 : DS := (sSeq (sAsg (eCB gRepr (aCons (eLst (aCons (eVar 1) (aCons (eVar 8) aNil))) aNil)) (nName 4)) t_wwith_right_3)
noncomputable def b_wwith_right : DS := (sSeq (sAsg (eCall 4 m_wput_in (aCons (eVar 0) (aCons (eVar 1) (aCons (eVar 2) (aCons (eVar 3) aNil))))) (nTupL 2 (nCons (nName 8) (nCons (nName 9) nNil)))) t_wwith_right_2)
theorem x_m_wwith_right : ∃ m : MF, m = fun ds S Q => b_wwith_right (endsD Q) (startD 10 ds) S := ⟨_, rfl⟩
noncomputable def m_wwith_right : MF := Classical.choose x_m_wwith_right
theorem q_m_wwith_right : m_wwith_right = fun ds S Q => b_wwith_right (endsD Q) (startD 10 ds) S := Classical.choose_spec x_m_wwith_right
theorem e_wwith_right (a0 a1 a2 a3 : D) (S : Sto) (Q : DK) : m_wwith_right [a0, a1, a2, a3] S Q = b_wwith_right (endsD Q) [some a0, some a1, some a2, some a3, none, none, none, none, none, none] S := by rw [q_m_wwith_right]; rfl
theorem sc_wwith_right : FnScope ["_law_pen_here", "_law_roll", "_law_fresh", "_law_strange", "_law_kept", "_law_found", "_law_more", "_law_owed", "_law_thing", "_law_word"] ["_law_pen_here", "_law_roll", "_law_fresh", "_law_strange"] (defScope s_wwith_right) := ⟨rfl, rfl, rfl, by decide +kernel, rfl, by decide +kernel, by decide +kernel⟩
noncomputable def l_row_called_1 : DS := (sIf (tBl (eOp (gEqX id) (eOp gIx (eVar 2) (eC (.int 1))) (eVar 1))) (sRet (eVar 2)) sNext)
noncomputable def t_row_called_4 : DSX := (xRaise "NoName")
noncomputable def b_row_called : DSX := (xSeq (xS (sFor (iSeq (eOp gIx (eVar 0) (eC (.int 1)))) (nName 2) l_row_called_1)) t_row_called_4)
theorem x_m_row_called : ∃ m : MFX, m = fun ds S Q E => b_row_called (endsD Q) E (startD 3 ds) S := ⟨_, rfl⟩
noncomputable def m_row_called : MFX := Classical.choose x_m_row_called
theorem q_m_row_called : m_row_called = fun ds S Q E => b_row_called (endsD Q) E (startD 3 ds) S := Classical.choose_spec x_m_row_called
theorem e_row_called (a0 a1 : D) (S : Sto) (Q : DK) (E : EK) : m_row_called [a0, a1] S Q E = b_row_called (endsD Q) E [some a0, some a1, none] S := by rw [q_m_row_called]; rfl
theorem sc_row_called : FnScope ["roll", "name", "row"] ["roll", "name"] (defScope s_row_called) := ⟨rfl, rfl, rfl, by decide +kernel, rfl, by decide +kernel, by decide +kernel⟩
noncomputable def c_without_row_2 : DE := (eVar 3)
noncomputable def t_without_row_2 : DSX := (xS (sRet (eTup (aCons (eOp gIx (eVar 0) (eC (.int 0))) (aCons (eCB gTuple (aCons (eLc (iSeq (eOp gIx (eVar 0) (eC (.int 1)))) (nName 3) (tBl (eOp (gEq not) (eVar 3) (eVar 2))) c_without_row_2 [3]) aNil)) aNil)))))
noncomputable def b_without_row : DSX := (xSeq (xSet 2 (eCallX 2 m_row_called (aCons (eVar 0) (aCons (eVar 1) aNil)))) t_without_row_2)
theorem x_m_without_row : ∃ m : MFX, m = fun ds S Q E => b_without_row (endsD Q) E (startD 4 ds) S := ⟨_, rfl⟩
noncomputable def m_without_row : MFX := Classical.choose x_m_without_row
theorem q_m_without_row : m_without_row = fun ds S Q E => b_without_row (endsD Q) E (startD 4 ds) S := Classical.choose_spec x_m_without_row
theorem e_without_row (a0 a1 : D) (S : Sto) (Q : DK) (E : EK) : m_without_row [a0, a1] S Q E = b_without_row (endsD Q) E [some a0, some a1, none, none] S := by rw [q_m_without_row]; rfl
theorem sc_without_row : FnScope ["roll", "name", "gone", "row"] ["roll", "name"] (defScope s_without_row) := ⟨rfl, rfl, rfl, by decide +kernel, rfl, by decide +kernel, by decide +kernel⟩
noncomputable def c_wwithout_right_3 : DE := (eVar 4)
noncomputable def t_wwithout_right_7 : DS := (sRet (eOp (gEq id) (eCB gRepr (aCons (eCall 2 (mNo m_with_row) (aCons (eVar 3) (aCons (eVar 1) aNil))) aNil)) (eCB gRepr (aCons (eVar 0) aNil))))
noncomputable def t_wwithout_right_5 : DS := (sSeq (sIf (tBl (eOp (gEq not) (eCB gRepr (aCons (eVar 3) aNil)) (eCB gRepr (aCons (eVar 2) aNil)))) (sRet (eC (.bl false))) sNext) t_wwithout_right_7)
noncomputable def t_wwithout_right_4 : DS := (sSeq (sAsg (eCall 2 (mNo m_without_row) (aCons (eVar 0) (aCons (eOp gIx (eVar 1) (eC (.int 1))) aNil))) (nName 3)) t_wwithout_right_5)
noncomputable def t_wwithout_right_3 : DS := (sSeq (sAsg (eTup (aCons (eOp gIx (eVar 0) (eC (.int 0))) (aCons (eCB gTuple (aCons (eLc (iSeq (eOp gIx (eVar 0) (eC (.int 1)))) (nName 4) (tBl (eOp (gEq not) (eVar 4) (eVar 1))) c_wwithout_right_3 [4]) aNil)) aNil))) (nName 2)) t_wwithout_right_4)
noncomputable def b_wwithout_right : DS := (sSeq (sIf (tBl (eOp (gEq not) (eCB gRepr (aCons (eCall 2 (mNo m_row_called) (aCons (eVar 0) (aCons (eOp gIx (eVar 1) (eC (.int 1))) aNil))) aNil)) (eCB gRepr (aCons (eVar 1) aNil)))) (sRet (eC (.bl false))) sNext) t_wwithout_right_3)
theorem x_m_wwithout_right : ∃ m : MF, m = fun ds S Q => b_wwithout_right (endsD Q) (startD 5 ds) S := ⟨_, rfl⟩
noncomputable def m_wwithout_right : MF := Classical.choose x_m_wwithout_right
theorem q_m_wwithout_right : m_wwithout_right = fun ds S Q => b_wwithout_right (endsD Q) (startD 5 ds) S := Classical.choose_spec x_m_wwithout_right
theorem e_wwithout_right (a0 a1 : D) (S : Sto) (Q : DK) : m_wwithout_right [a0, a1] S Q = b_wwithout_right (endsD Q) [some a0, some a1, none, none, none] S := by rw [q_m_wwithout_right]; rfl
theorem sc_wwithout_right : FnScope ["_law_roll", "_law_row_here", "_law_owed", "_law_found", "_law_other"] ["_law_roll", "_law_row_here"] (defScope s_wwithout_right) := ⟨rfl, rfl, rfl, by decide +kernel, rfl, by decide +kernel, by decide +kernel⟩
noncomputable def t_wnot_called_4 : DS := (sIf (tBl (eOp (gEq not) (eLamC tP_wnot_called "_law_not_called.<locals>.<lambda>" m_wtold (eCallX 2 m_without_row (aCons (eVar 0) (aCons (eVar 2) aNil)))) (eLst (aCons (eC (.str "refused")) (aCons (eC (.str "NoName")) aNil))))) (sRet (eC (.bl false))) sNext)
noncomputable def l_wnot_called_1 : DS := (sSeq (sIf (tBl (eOp (gEq not) (eLamC tP_wnot_called "_law_not_called.<locals>.<lambda>" m_wtold (eCallX 2 m_row_called (aCons (eVar 0) (aCons (eVar 2) aNil)))) (eLst (aCons (eC (.str "refused")) (aCons (eC (.str "NoName")) aNil))))) (sRet (eC (.bl false))) sNext) t_wnot_called_4)
noncomputable def t_wnot_called_6 : DS := (sRet (eC (.bl true)))
noncomputable def b_wnot_called : DS := (sSeq (sFor (iSeq (eOp gAdd (eVar 1) (eLst (aCons (eC .non) (aCons (eC (.bl true)) (aCons (eC (.int 7)) (aCons (eC (.str "")) (aCons (eC (.str "A")) (aCons (eLst (aCons (eC (.str "a")) aNil)) (aCons (eTup (aCons (eC (.str "a")) aNil)) (aCons eDict0 aNil))))))))))) (nName 2) l_wnot_called_1) t_wnot_called_6)
theorem x_m_wnot_called : ∃ m : MF, m = fun ds S Q => b_wnot_called (endsD Q) (startD 3 ds) S := ⟨_, rfl⟩
noncomputable def m_wnot_called : MF := Classical.choose x_m_wnot_called
theorem q_m_wnot_called : m_wnot_called = fun ds S Q => b_wnot_called (endsD Q) (startD 3 ds) S := Classical.choose_spec x_m_wnot_called
theorem e_wnot_called (a0 a1 : D) (S : Sto) (Q : DK) : m_wnot_called [a0, a1] S Q = b_wnot_called (endsD Q) [some a0, some a1, none] S := by rw [q_m_wnot_called]; rfl
theorem sc_wnot_called : FnScope ["_law_roll", "_law_names_here", "_law_name"] ["_law_roll", "_law_names_here"] (defScope s_wnot_called) := ⟨rfl, rfl, rfl, by decide +kernel, rfl, by decide +kernel, by decide +kernel⟩
noncomputable def c_law_6 : DE := (eCall 4 m_wrow (aCons (eVar 1) (aCons (eOp gIx (eVar 13) (eVar 14)) (aCons (eOp gIx (eVar 3) (eVar 14)) (aCons (eTup (aCons (eVar 10) (aCons (eVar 11) (aCons (eVar 12) aNil)))) aNil)))))
noncomputable def c_law_8 : DE := (eVar 15)
noncomputable def l_law_10 : DS := (sIf (tNotD (tTr (eCall 4 m_wwith_right (aCons (eVar 1) (aCons (eVar 6) (aCons (eVar 8) (aCons (eVar 7) aNil))))))) (sRet (eC (.bl false))) sNext)
noncomputable def c_law_13 : DE := (eCall 2 m_wwithout_right (aCons (eVar 6) (aCons (eVar 16) aNil)))
noncomputable def t_law_15 : DS := (sRet (eCall 2 m_wnot_called (aCons (eVar 6) (aCons (eSl (eVar 13) (oSome (eC (.int 42))) oNo) aNil))))
noncomputable def t_law_13 : DS := (sSeq (sIf (tNotD (tTr (eCB (gAll fun bs => bs.all id) (aCons (eLc (iSeq (eOp gIx (eVar 6) (eC (.int 1)))) (nName 16) tsYes c_law_13 [16]) aNil)))) (sRet (eC (.bl false))) sNext) t_law_15)
noncomputable def t_law_10 : DS := (sSeq (sFor (iRange1 (aCons (eC (.int 10)) aNil)) (nName 9) l_law_10) t_law_13)
noncomputable def t_law_9 : DS := (sSeq (sAsg (eCall 4 m_wrow (aCons (eVar 1) (aCons (eOp gIx (eVar 13) (eC (.int 41))) (aCons (eOp gIx (eVar 3) (eC (.int 41))) (aCons (eTup (aCons (eVar 10) (aCons (eVar 11) (aCons (eVar 12) aNil)))) aNil))))) (nName 8)) t_law_10)
noncomputable def t_law_8 : DS := (sSeq (sAsg (eOp gIx (eLc (iSeq (eOp gAdd (eLst (aCons (eC (.str "zq")) (aCons (eC (.str "zqz")) (aCons (eC (.str "zqzq")) (aCons (eC (.str "qz")) aNil))))) (eVar 10))) (nName 15) (tBl (eOp (gIn not) (eVar 15) (eVar 10))) c_law_8 [15]) (eC (.int 0))) (nName 7)) t_law_9)
noncomputable def t_law_7 : DS := (sSeq (sAsg (eTup (aCons (eVar 4) (aCons (eCB gTuple (aCons (eSortK m_wplace (eVar 5)) aNil)) aNil))) (nName 6)) t_law_8)
noncomputable def t_law_6 : DS := (sSeq (sAsg (eLc (iRange1 (aCons (eVar 2) aNil)) (nName 14) tsYes c_law_6 [14]) (nName 5)) t_law_7)
noncomputable def t_law_5 : DS := (sSeq (sAsg (eCall 3 m_wlaying (aCons (eVar 1) (aCons (eVar 10) (aCons (eVar 12) aNil)))) (nName 4)) t_law_6)
noncomputable def t_law_4 : DS := (sSeq (sAsg (eCall 2 m_wdays (aCons (eVar 1) (aCons (eC (.int 42)) aNil))) (nName 3)) t_law_5)
noncomputable def t_law_3 : DS := (sSeq (sAsg (eCall 3 m_wsorts (aCons (eVar 1) (aCons (eOp gAdd (eC (.int 1)) (eCall 2 m_wtake (aCons (eVar 1) (aCons (eC (.int 8)) aNil)))) (aCons (eC (.int 44)) aNil)))) (nTupL 4 (nCons (nName 10) (nCons (nName 11) (nCons (nName 12) (nCons (nName 13) nNil)))))) t_law_4)
noncomputable def t_law_2 : DS := (sSeq (sAsg (eOp gIx (eLst (aCons (eC (.int 40)) (aCons (eC (.int 0)) (aCons (eCall 2 m_wtake (aCons (eVar 1) (aCons (eC (.int 41)) aNil))) (aCons (eC (.int 39)) (aCons (eCall 2 m_wtake (aCons (eVar 1) (aCons (eC (.int 9)) aNil))) aNil)))))) (eCall 2 m_wtake (aCons (eVar 1) (aCons (eC (.int 5)) aNil)))) (nName 2)) t_law_3)
noncomputable def b_law : DS := (sSeq (sAsg (eCall 1 m_wpen (aCons (eVar 0) aNil)) (nName 1)) t_law_2)
theorem x_m_law : ∃ m : MF, m = fun ds S Q => b_law (endsD Q) (startD 17 ds) S := ⟨_, rfl⟩
noncomputable def m_law : MF := Classical.choose x_m_law
theorem q_m_law : m_law = fun ds S Q => b_law (endsD Q) (startD 17 ds) S := Classical.choose_spec x_m_law
theorem e_law (a0 : D) (S : Sto) (Q : DK) : m_law [a0] S Q = b_law (endsD Q) [some a0, none, none, none, none, none, none, none, none, none, none, none, none, none, none, none, none] S := by rw [q_m_law]; rfl
theorem sc_law : FnScope ["_law_script", "_law_pen_here", "_law_many", "_law_days_here", "_law_laying_here", "_law_rows", "_law_roll", "_law_strange", "_law_fresh", "_law_turn", "_law_fields", "_law_plots", "_law_houses", "_law_names_here", "_law_k", "_law_name", "_law_row_here"] ["_law_script"] (defScope s_law) := ⟨rfl, rfl, rfl, by decide +kernel, rfl, by decide +kernel, by decide +kernel⟩
structure Txt (w : World) (K : PySem.W.Frag) (mg : Str → Option Value) : Prop where
  f_wpen : FT K mg "_law_pen" s_wpen ["_law_script"]
  f_wtake : FT K mg "_law_take" s_wtake ["_law_pen_here", "_law_many"]
  f_wnames : FT K mg "_law_names" s_wnames ["_law_pen_here", "_law_many"]
  f_wsorts : FT K mg "_law_sorts" s_wsorts ["_law_pen_here", "_law_fields", "_law_rows"]
  f_wdays : FT K mg "_law_days" s_wdays ["_law_pen_here", "_law_many"]
  f_wnumber : FT K mg "_law_number" s_wnumber ["_law_pen_here", "_law_bottom", "_law_most"]
  f_wlaying : FT K mg "_law_laying" s_wlaying ["_law_pen_here", "_law_fields", "_law_houses"]
  f_wsome : FT K mg "_law_some" s_wsome ["_law_pen_here", "_law_names_here", "_law_many"]
  f_wrow_of : FT K mg "_law_row_of" s_wrow_of ["_law_pen_here", "_law_word", "_law_name", "_law_day", "_law_sorts_here"]
  f_wrow : FT K mg "_law_row" s_wrow ["_law_pen_here", "_law_name", "_law_day", "_law_sorts_here"]
  f_wturned : FT K mg "_law_turned" s_wturned ["_law_pen_here", "_law_some_here"]
  f_wlisted : FT K mg "_law_listed" s_wlisted ["_law_pen_here", "_law_row_here"]
  f_wtwin : FT K mg "_law_twin" s_wtwin ["_law_pen_here", "_law_rows"]
  f_wput_in : FT K mg "_law_put_in" s_wput_in ["_law_pen_here", "_law_roll", "_law_fresh", "_law_strange"]
  f_wplace : FT K mg "_law_place" s_wplace ["_law_row_here"]
  f_as_tuple : FT K mg "as_tuple" s_as_tuple ["thing"]
  f_with_tuples : FT K mg "with_tuples" s_with_tuples ["thing"]
  f_is_name : FT K mg "is_name" s_is_name ["thing"]
  f_are_names : FT K mg "are_names" s_are_names ["things"]
  f_is_within : FT K mg "is_within" s_is_within ["thing", "least", "most"]
  f_is_part : FT K mg "is_part" s_is_part ["thing"]
  f_in_order : FT K mg "in_order" s_in_order ["thing"]
  f_is_rising : FT K mg "is_rising" s_is_rising ["some"]
  f_are_parts : FT K mg "are_parts" s_are_parts ["thing"]
  f_are_lands : FT K mg "are_lands" s_are_lands ["thing"]
  f_has_right_rest : FT K mg "has_right_rest" s_has_right_rest ["row"]
  f_is_row : FT K mg "is_row" s_is_row ["thing"]
  f_row_of : FT K mg "row_of" s_row_of ["thing"]
  f_field_of : FT K mg "field_of" s_field_of ["row"]
  f_is_row_of : FT K mg "is_row_of" s_is_row_of ["laying", "row"]
  f_row_in : FT K mg "row_in" s_row_in ["laying", "thing"]
  f_order_of : FT K mg "order_of" s_order_of ["row"]
  f_sorted_rows : FT K mg "sorted_rows" s_sorted_rows ["rows"]
  f_with_row : FT K mg "with_row" s_with_row ["roll", "thing"]
  f_wclass : FT K mg "_law_class" s_wclass ["_law_caught"]
  f_wtold : FT K mg "_law_told" s_wtold ["_law_ask"]
  f_wwith_right : FTC K mg "_law_with_right" s_wwith_right ["_law_pen_here", "_law_roll", "_law_fresh", "_law_strange"] tC_wwith_right
  f_row_called : FT K mg "row_called" s_row_called ["roll", "name"]
  f_without_row : FT K mg "without_row" s_without_row ["roll", "name"]
  f_wwithout_right : FT K mg "_law_without_right" s_wwithout_right ["_law_roll", "_law_row_here"]
  f_wnot_called : FTC K mg "_law_not_called" s_wnot_called ["_law_roll", "_law_names_here"] tC_wnot_called
  f_law : FT K mg "law" s_law ["_law_script"]
  n_range : mg "range" = none
  n_tuple : mg "tuple" = none
  n_sorted : mg "sorted" = none
  n_all : mg "all" = none
  n_list : mg "list" = none
  n_len : mg "len" = none
  n_abs : mg "abs" = none
  n_min : mg "min" = none
  n_int : mg "int" = none
  n_repr : mg "repr" = none
  n_isinstance : mg "isinstance" = none
  n_str : mg "str" = none
  n_bool : mg "bool" = none
  n_zip : mg "zip" = none
  n_ValueError : mg "ValueError" = none
  c_MOST_ROWS : ∃ t, mg "MOST_ROWS" = some (.int 40 t)
  c_MOST_INCHES : ∃ t, mg "MOST_INCHES" = some (.int 10000000 t)
  c_LONGEST : ∃ t, mg "LONGEST" = some (.int 8 t)
  c_SMALL : ∃ t, mg "SMALL" = some (.str "abcdefghijklmnopqrstuvwxyz" t)
  c_LAST_DAY : ∃ t, mg "LAST_DAY" = some (.int 9999 t)
  c_MOST_PENCE : ∃ t, mg "MOST_PENCE" = some (.int 1000000000 t)
  c_MOST_SPADES : ∃ t, mg "MOST_SPADES" = some (.int 1000000 t)
  c_LEAST_PARTS : ∃ t, mg "LEAST_PARTS" = some (.int 2 t)
  c_MOST_PARTS : ∃ t, mg "MOST_PARTS" = some (.int 6 t)
  t_SIZES : TabC K w mg "SIZES" tab_SIZES
  t_RANKS : TabC K w mg "RANKS" tab_RANKS
  k_NoRow : ClsT K mg "NoRow"
  k_NoRoll : ClsT K mg "NoRoll"
  k_NoName : ClsT K mg "NoName"
  k_Twice : ClsT K mg "Twice"
  k_TooMany : ClsT K mg "TooMany"
  k_NoThen : ClsT K mg "NoThen"
  k_NoMend : ClsT K mg "NoMend"
  k_NoText : ClsT K mg "NoText"
  k_NoOrder : ClsT K mg "NoOrder"
  k_NoInch : ClsT K mg "NoInch"
  k_NoField : ClsT K mg "NoField"
  k_NoBreach : ClsT K mg "NoBreach"
  k_Clash : ClsT K mg "Clash"
  e_NoRow : ExT K mg "NoRow"
  e_Twice : ExT K mg "Twice"
  e_TooMany : ExT K mg "TooMany"
  e_NoName : ExT K mg "NoName"
  h_NoRow_0 : HndT K mg "NoRow" ["NoRow"]
  h_DykeError_1 : HndT K mg "DykeError" ["NoName", "NoRow", "TooMany", "Twice"]
  x_tab : XTok K xtab
  p_OF_FIELDS : TupC K mg "OF_FIELDS" ["measure", "breach", "view"]
abbrev tabT : List (Str × Addr × Addr × Str) := [("_law_with_right", tC_wwith_right, tP_wwith_right, "_law_with_right.<locals>.<lambda>"), ("_law_not_called", tC_wnot_called, tP_wnot_called, "_law_not_called.<locals>.<lambda>")]
structure Tbs (base : Heap) (mg : Str → Option Value) : Prop where
  t_wwith_right : LamX.TabB base mg tC_wwith_right tP_wwith_right
  t_wnot_called : LamX.TabB base mg tC_wnot_called tP_wnot_called
section
variable {P : Program} {w : World} {K : PySem.W.Frag} {mg : Str → Option Value} {base : Heap}
theorem ok_wpen (T : Txt w K mg) (B : Tbs base mg) : Okf P w K mg base 1 "_law_pen" 1 m_wpen := by
  have Sc := sc_wpen
  refine okf_of (b := b_wpen) T.f_wpen Sc (fun ds S Q => by rw [q_m_wpen]; rfl) fun f cdv A outer s H E hr => ?_
  have hu := hu_of hr.toRoom
  exact (ss_one (s_ret (c_dict (ps_cons0 c_str (c_callTy y_list (by rfl) T.n_list (by decide +kernel) (a_cons (c_sl (c_var 0) p_none (p_some c_int)) a_nil)) (ps_cons0 c_str c_int (ps_cons0 c_str c_int ps_nil0))) (by rfl) (by rfl) (fun z => by cases z) (by decide))))
theorem ok_wtake (T : Txt w K mg) (B : Tbs base mg) : Okf P w K mg base 1 "_law_take" 2 m_wtake := by
  have Sc := sc_wtake
  refine okf_of (b := b_wtake) T.f_wtake Sc (fun ds S Q => by rw [q_m_wtake]; rfl) fun f cdv A outer s H E hr => ?_
  have hu := hu_of hr.toRoom
  exact (ss_cons (s_if (k_cmp o_gt (c_ix hu (c_var 0) c_str) c_int (nomark _)) (ss_cons (s_set (i := 7) Sc.nd rfl (by first | exact .inl rfl | exact .inr rfl) (c_mod (c_ix hu (c_var 0) c_str) (c_var 1))) (ss_cons (s_sub hu (c_fdiv (c_ix hu (c_var 0) c_str) (c_var 1)) (c_var 0) c_str) (ss_one (s_ret (c_var 7))))) ss_nil) (ss_cons (s_set (i := 2) Sc.nd rfl (by first | exact .inl rfl | exact .inr rfl) (c_ix hu (c_var 0) c_str)) (ss_cons (s_sub hu (c_add (c_var 2) c_int) (c_var 0) c_str) (ss_cons (s_set (i := 3) Sc.nd rfl (by first | exact .inl rfl | exact .inr rfl) (c_ix hu (c_var 0) c_str)) (ss_cons (s_set (i := 4) Sc.nd rfl (by first | exact .inl rfl | exact .inr rfl) (c_add (c_add (c_mulA (c_mulA c_int (c_var 2)) (c_var 2)) (c_mulA c_int (c_var 2))) c_int)) (ss_cons (s_if (k_cmp (o_ne hr.units) (c_var 3) (c_lst a_nil) (nomark _)) (ss_one (s_set (i := 4) Sc.nd rfl (by first | exact .inl rfl | exact .inr rfl) (c_ix hu (c_var 3) (c_mod (c_var 2) (c_callB b_len (by rfl) T.n_len (by decide +kernel) (a_cons (c_var 3) a_nil)))))) ss_nil) (ss_cons (s_if (k_w (w_and (k_cmp (o_lt2 hr.units) (c_var 2) (c_callB b_len (by rfl) T.n_len (by decide +kernel) (a_cons (c_var 3) a_nil)) (nomark _)) (w_and1 (k_cmp o_ge (c_callB b_abs (by rfl) T.n_abs (by decide +kernel) (a_cons (c_var 4) a_nil)) (c_pow c_int c_int) (nomark _))))) (ss_cons (s_sub hu (c_fdiv (c_callB b_abs (by rfl) T.n_abs (by decide +kernel) (a_cons (c_var 4) a_nil)) (c_var 1)) (c_var 0) c_str) (ss_one (s_ret (c_mod (c_callB b_abs (by rfl) T.n_abs (by decide +kernel) (a_cons (c_var 4) a_nil)) (c_var 1))))) ss_nil) (ss_cons (s_set (i := 5) Sc.nd rfl (by first | exact .inl rfl | exact .inr rfl) (c_mod (c_pow (c_add (c_add (c_mod (c_var 4) c_int) (c_mulA c_int (c_var 2))) c_int) c_int) c_int)) (ss_cons (s_set (i := 6) Sc.nd rfl (by first | exact .inl rfl | exact .inr rfl) (c_mod (c_pow (c_add (c_add (c_var 5) (c_mulA (c_mulA c_int (c_var 2)) (c_var 2))) c_int) c_int) c_int)) (ss_one (s_ret (c_mod (c_fdiv (c_mod (c_mulA (c_var 6) (c_add (c_mod (c_var 5) c_int) c_int)) c_int) c_int) (c_var 1)))))))))))))
theorem ok_wnames (T : Txt w K mg) (B : Tbs base mg) : Okf P w K mg base 2 "_law_names" 2 m_wnames := by
  have Sc := sc_wnames
  refine okf_of (b := b_wnames) T.f_wnames Sc (fun ds S Q => by rw [q_m_wnames]; rfl) fun f cdv A outer s H E hr => ?_
  have hu := hu_of hr.toRoom
  exact (ss_cons (s_set (i := 2) Sc.nd rfl (by first | exact .inl rfl | exact .inr rfl) c_str) (ss_cons (s_set (i := 3) Sc.nd rfl (by first | exact .inl rfl | exact .inr rfl) (c_fn hr (ok_wtake T B) (by decide) (a_cons (c_var 0) (a_cons c_int a_nil)))) (ss_cons (s_set (i := 4) Sc.nd rfl (by first | exact .inl rfl | exact .inr rfl) (c_fn hr (ok_wtake T B) (by decide) (a_cons (c_var 0) (a_cons c_int a_nil)))) (ss_cons (s_set (i := 5) Sc.nd rfl (by first | exact .inl rfl | exact .inr rfl) (c_m m_join c_str (a_cons (c_lc (own := [("_law_k", 8)]) (gown := [8]) rfl Sc.nd (i_range1 (by rfl) T.n_range (a_cons (c_ix hu (c_lst (a_cons (c_fn hr (ok_wtake T B) (by decide) (a_cons (c_var 0) (a_cons c_int a_nil))) (a_cons c_int (a_cons c_int a_nil)))) (c_var 3)) a_nil)) (blkOk_by (N := ["_law_pen_here", "_law_many", "_law_letters", "_law_way", "_law_turn", "_law_base", "_law_spot", "_law_found", "_law_k", "_law_terms", "_law_word", "_law_rest"]) (sc := defScope s_wnames) (by decide +kernel)) (fun _ _ _ _ _ => (g_name (i := 8) Sc.nd rfl (by first | exact .inl rfl | exact .inr rfl))) (by decide) (fun _ _ _ _ _ => ts_nil) (fun _ _ _ _ _ => (c_ix hu (c_var 2) (c_fn hr (ok_wtake T B) (by decide) (a_cons (c_var 0) (a_cons c_int a_nil)))))) a_nil))) (ss_cons (s_set (i := 6) Sc.nd rfl (by first | exact .inl rfl | exact .inr rfl) (c_fn hr (ok_wtake T B) (by decide) (a_cons (c_var 0) (a_cons (c_add (c_callB b_len (by rfl) T.n_len (by decide +kernel) (a_cons (c_var 5) a_nil)) c_int) a_nil)))) (ss_cons (s_set (i := 7) Sc.nd rfl (by first | exact .inl rfl | exact .inr rfl) (c_lst a_nil)) (ss_cons (s_for PassesOwn.never rfl (i_range1 (by rfl) T.n_range (a_cons (c_var 1) a_nil)) (g_name (i := 8) Sc.nd rfl (by first | exact .inl rfl | exact .inr rfl)) (ss_cons (s_set (i := 10) Sc.nd rfl (by first | exact .inl rfl | exact .inr rfl) (c_add (c_ix hu (c_var 2) (c_mod (c_add (c_var 4) (c_mulA c_int (c_var 8))) c_int)) (c_ix hu (c_var 2) (c_mod (c_add (c_var 4) (c_fdiv (c_var 8) c_int)) c_int)))) (ss_cons (s_set (i := 10) Sc.nd rfl (by first | exact .inl rfl | exact .inr rfl) (c_add (c_add (c_sl (c_var 5) p_none (p_some (c_var 6))) (c_var 10)) (c_sl (c_var 5) (p_some (c_var 6)) p_none))) (ss_cons (s_if (k_cmp (o_eq hr.units) (c_var 3) c_int (nomark _)) (ss_cons (s_set (i := 10) Sc.nd rfl (by first | exact .inl rfl | exact .inr rfl) c_str) (ss_cons (s_set (i := 11) Sc.nd rfl (by first | exact .inl rfl | exact .inr rfl) (c_add (c_var 8) c_int)) (ss_one (s_while PassesOwn.never (k_cmp o_gt (c_var 11) c_int (nomark _)) (ss_cons (s_set (i := 10) Sc.nd rfl (by first | exact .inl rfl | exact .inr rfl) (c_add (c_ix hu (c_var 2) (c_mod (c_add (c_var 4) (c_mulA c_int (c_mod (c_var 11) c_int))) c_int)) (c_var 10))) (ss_one (s_set (i := 11) Sc.nd rfl (by first | exact .inl rfl | exact .inr rfl) (c_fdiv (c_sub (c_var 11) c_int) c_int)))))))) ss_nil) (ss_one (s_expr (c_m m_append (c_var 7) (a_cons (c_var 10) a_nil)))))))) (ss_cons (s_set (i := 9) Sc.nd rfl (by first | exact .inl rfl | exact .inr rfl) (c_lst (a_cons c_str (a_cons c_str (a_cons c_str (a_cons c_str (a_cons c_str (a_cons c_str (a_cons c_str (a_cons c_str (a_cons c_str a_nil))))))))))) (ss_cons (s_if (k_cmp (o_eq hr.units) (c_fn hr (ok_wtake T B) (by decide) (a_cons (c_var 0) (a_cons c_int a_nil))) c_int (nomark _)) (ss_one (s_for PassesOwn.never rfl (i_range1 (by rfl) T.n_range (a_cons (c_callB (b_min2 rfl) (by rfl) T.n_min (by decide +kernel) (a_cons (c_var 1) (a_cons c_int a_nil))) a_nil)) (g_name (i := 8) Sc.nd rfl (by first | exact .inl rfl | exact .inr rfl)) (ss_one (s_if (k_w (w_and (k_cmp (o_eq hr.units) (c_fn hr (ok_wtake T B) (by decide) (a_cons (c_var 0) (a_cons c_int a_nil))) c_int (nomark _)) (w_and1 (k_cmp (o_notIn hu) (c_ix hu (c_var 9) (c_var 8)) (c_var 7) (by with_unfolding_all rfl))))) (ss_one (s_sub hu (c_ix hu (c_var 9) (c_var 8)) (c_var 7) (c_var 8))) ss_nil)))) ss_nil) (ss_one (s_ret (c_var 7))))))))))))
theorem ok_wsorts (T : Txt w K mg) (B : Tbs base mg) : Okf P w K mg base 3 "_law_sorts" 3 m_wsorts := by
  have Sc := sc_wsorts
  refine okf_of (b := b_wsorts) T.f_wsorts Sc (fun ds S Q => by rw [q_m_wsorts]; rfl) fun f cdv A outer s H E hr => ?_
  have hu := hu_of hr.toRoom
  exact (ss_cons (s_if (k_cmp (o_eq hr.units) (c_fn hr (ok_wtake T B) (by decide) (a_cons (c_var 0) (a_cons c_int a_nil))) c_int (nomark _)) (ss_cons (s_set (i := 5) Sc.nd rfl (by first | exact .inl rfl | exact .inr rfl) (c_fn hr (ok_wnames T B) (by decide) (a_cons (c_var 0) (a_cons c_int a_nil)))) (ss_one (s_ret (c_tup (a_cons (c_sl (c_var 5) p_none (p_some (c_var 1))) (a_cons (c_sl (c_var 5) p_none (p_some c_int)) (a_cons (c_sl (c_var 5) p_none (p_some c_int)) (a_cons (c_sl (c_var 5) p_none (p_some (c_var 2))) a_nil)))))))) ss_nil) (ss_cons (s_set (i := 3) Sc.nd rfl (by first | exact .inl rfl | exact .inr rfl) (c_fn hr (ok_wnames T B) (by decide) (a_cons (c_var 0) (a_cons c_int a_nil)))) (ss_cons (s_set (i := 4) Sc.nd rfl (by first | exact .inl rfl | exact .inr rfl) (c_fn hr (ok_wnames T B) (by decide) (a_cons (c_var 0) (a_cons c_int a_nil)))) (ss_one (s_ret (c_tup (a_cons (c_fn hr (ok_wnames T B) (by decide) (a_cons (c_var 0) (a_cons (c_var 1) a_nil))) (a_cons (c_var 3) (a_cons (c_var 4) (a_cons (c_fn hr (ok_wnames T B) (by decide) (a_cons (c_var 0) (a_cons (c_var 2) a_nil))) a_nil))))))))))
theorem ok_wdays (T : Txt w K mg) (B : Tbs base mg) : Okf P w K mg base 2 "_law_days" 2 m_wdays := by
  have Sc := sc_wdays
  refine okf_of (b := b_wdays) T.f_wdays Sc (fun ds S Q => by rw [q_m_wdays]; rfl) fun f cdv A outer s H E hr => ?_
  have hu := hu_of hr.toRoom
  exact (ss_cons (s_set (i := 2) Sc.nd rfl (by first | exact .inl rfl | exact .inr rfl) (c_fn hr (ok_wtake T B) (by decide) (a_cons (c_var 0) (a_cons c_int a_nil)))) (ss_cons (s_set (i := 3) Sc.nd rfl (by first | exact .inl rfl | exact .inr rfl) (c_lst (a_cons c_int (a_cons c_int (a_cons c_int (a_cons c_int (a_cons (c_fn hr (ok_wtake T B) (by decide) (a_cons (c_var 0) (a_cons c_int a_nil))) (a_cons (c_fn hr (ok_wtake T B) (by decide) (a_cons (c_var 0) (a_cons c_int a_nil))) a_nil)))))))) (ss_cons (s_setLc (i := 4) (own := [("_law_k", 6)]) (gown := [6]) rfl Sc.nd rfl rfl (sw_true rfl rfl rfl (by decide +kernel)) (i_range1 (by rfl) T.n_range (a_cons (c_add c_int (c_fn hr (ok_wtake T B) (by decide) (a_cons (c_var 0) (a_cons c_int a_nil)))) a_nil)) (blkOk_by (N := ["_law_pen_here", "_law_many", "_law_way", "_law_some_here", "_law_few", "_law_found", "_law_k"]) (sc := defScope s_wdays) (by decide +kernel)) (fun _ _ _ _ _ => (g_name (i := 6) Sc.nd rfl (by first | exact .inl rfl | exact .inr rfl))) (by decide) (fun _ _ _ _ _ => ts_nil) (fun _ _ _ _ _ => (c_ix hu (c_var 3) (c_fn hr (ok_wtake T B) (by decide) (a_cons (c_var 0) (a_cons c_int a_nil)))))) (ss_cons (s_set (i := 5) Sc.nd rfl (by first | exact .inl rfl | exact .inr rfl) (c_lst a_nil)) (ss_cons (s_for PassesOwn.never rfl (i_range1 (by rfl) T.n_range (a_cons (c_var 1) a_nil)) (g_name (i := 6) Sc.nd rfl (by first | exact .inl rfl | exact .inr rfl)) (ss_one (s_expr (c_m m_append (c_var 5) (a_cons (c_ix hu (c_lst (a_cons (c_ix hu (c_var 4) (c_fn hr (ok_wtake T B) (by decide) (a_cons (c_var 0) (a_cons (c_callB b_len (by rfl) T.n_len (by decide +kernel) (a_cons (c_var 4) a_nil)) a_nil)))) (a_cons (c_fn hr (ok_wtake T B) (by decide) (a_cons (c_var 0) (a_cons c_int a_nil))) a_nil))) (c_callTy y_int (by rfl) T.n_int (by decide +kernel) (a_cons (c_cmp (o_eq hr.units) (c_var 2) c_int (nomark _)) a_nil))) a_nil))))) (ss_one (s_ret (c_var 5))))))))
theorem ok_wnumber (T : Txt w K mg) (B : Tbs base mg) : Okf P w K mg base 2 "_law_number" 3 m_wnumber := by
  have Sc := sc_wnumber
  refine okf_of (b := b_wnumber) T.f_wnumber Sc (fun ds S Q => by rw [q_m_wnumber]; rfl) fun f cdv A outer s H E hr => ?_
  have hu := hu_of hr.toRoom
  exact (ss_cons (s_set (i := 3) Sc.nd rfl (by first | exact .inl rfl | exact .inr rfl) (c_fn hr (ok_wtake T B) (by decide) (a_cons (c_var 0) (a_cons c_int a_nil)))) (ss_cons (s_set (i := 4) Sc.nd rfl (by first | exact .inl rfl | exact .inr rfl) (c_add (c_var 1) (c_fn hr (ok_wtake T B) (by decide) (a_cons (c_var 0) (a_cons (c_callB (b_min2 rfl) (by rfl) T.n_min (by decide +kernel) (a_cons c_int (a_cons (c_add (c_sub (c_var 2) (c_var 1)) c_int) a_nil))) a_nil))))) (ss_one (s_ret (c_ix hu (c_lst (a_cons (c_var 1) (a_cons (c_var 2) (a_cons (c_var 4) (a_cons (c_add (c_var 1) (c_fn hr (ok_wtake T B) (by decide) (a_cons (c_var 0) (a_cons (c_add (c_sub (c_var 2) (c_var 1)) c_int) a_nil)))) a_nil))))) (c_var 3))))))
theorem ok_wlaying (T : Txt w K mg) (B : Tbs base mg) : Okf P w K mg base 3 "_law_laying" 3 m_wlaying := by
  have Sc := sc_wlaying
  refine okf_of (b := b_wlaying) T.f_wlaying Sc (fun ds S Q => by rw [q_m_wlaying]; rfl) fun f cdv A outer s H E hr => ?_
  have hu := hu_of hr.toRoom
  exact (ss_cons (s_set (i := 3) Sc.nd rfl (by first | exact .inl rfl | exact .inr rfl) (c_lst a_nil)) (ss_cons (s_for PassesOwn.never rfl (i_seq (c_var 1)) (g_name (i := 4) Sc.nd rfl (by first | exact .inl rfl | exact .inr rfl)) (ss_cons (s_set (i := 5) Sc.nd rfl (by first | exact .inl rfl | exact .inr rfl) (c_ix hu (c_var 2) (c_fn hr (ok_wtake T B) (by decide) (a_cons (c_var 0) (a_cons (c_callB b_len (by rfl) T.n_len (by decide +kernel) (a_cons (c_var 2) a_nil)) a_nil))))) (ss_one (s_expr (c_m m_append (c_var 3) (a_cons (c_tup (a_cons (c_var 4) (a_cons (c_var 5) (a_cons (c_fn hr (ok_wnumber T B) (by decide) (a_cons (c_var 0) (a_cons c_int (a_cons (c_pow c_int c_int) a_nil)))) (a_cons (c_fn hr (ok_wnumber T B) (by decide) (a_cons (c_var 0) (a_cons c_int (a_cons (c_pow c_int c_int) a_nil)))) a_nil))))) a_nil)))))) (ss_one (s_ret (c_callTy y_tuple (by rfl) T.n_tuple (by decide +kernel) (a_cons (c_var 3) a_nil))))))
theorem ok_wsome (T : Txt w K mg) (B : Tbs base mg) : Okf P w K mg base 2 "_law_some" 3 m_wsome := by
  have Sc := sc_wsome
  refine okf_of (b := b_wsome) T.f_wsome Sc (fun ds S Q => by rw [q_m_wsome]; rfl) fun f cdv A outer s H E hr => ?_
  have hu := hu_of hr.toRoom
  exact (ss_cons (s_set (i := 3) Sc.nd rfl (by first | exact .inl rfl | exact .inr rfl) (c_callTy y_list (by rfl) T.n_list (by decide +kernel) (a_cons (c_var 1) a_nil))) (ss_cons (s_setLc (i := 4) (own := [("_law_k", 5)]) (gown := [5]) rfl Sc.nd rfl rfl (sw_true rfl rfl rfl (by decide +kernel)) (i_range1 (by rfl) T.n_range (a_cons (c_var 2) a_nil)) (blkOk_by (N := ["_law_pen_here", "_law_names_here", "_law_many", "_law_left", "_law_found", "_law_k"]) (sc := defScope s_wsome) (by decide +kernel)) (fun _ _ _ _ _ => (g_name (i := 5) Sc.nd rfl (by first | exact .inl rfl | exact .inr rfl))) (by decide) (fun _ _ _ _ _ => ts_nil) (fun _ _ _ _ _ => (c_m m_popAt (c_var 3) (a_cons (c_fn hr (ok_wtake T B) (by decide) (a_cons (c_var 0) (a_cons (c_callB b_len (by rfl) T.n_len (by decide +kernel) (a_cons (c_var 3) a_nil)) a_nil))) a_nil)))) (ss_one (s_ret (c_callB (b_sortedA hr) (by rfl) T.n_sorted (by decide +kernel) (a_cons (c_var 4) a_nil))))))
theorem ok_wrow_of (T : Txt w K mg) (B : Tbs base mg) : Okf P w K mg base 3 "_law_row_of" 5 m_wrow_of := by
  have Sc := sc_wrow_of
  refine okf_of (b := b_wrow_of) T.f_wrow_of Sc (fun ds S Q => by rw [q_m_wrow_of]; rfl) fun f cdv A outer s H E hr => ?_
  have hu := hu_of hr.toRoom
  exact (ss_cons (s_asg (c_var 4) (g_tupL rfl (gs_cons (g_name (i := 10) Sc.nd rfl (by first | exact .inl rfl | exact .inr rfl)) (gs_cons (g_name (i := 11) Sc.nd rfl (by first | exact .inl rfl | exact .inr rfl)) (gs_cons (g_name (i := 12) Sc.nd rfl (by first | exact .inl rfl | exact .inr rfl)) gs_nil))))) (ss_cons (s_set (i := 5) Sc.nd rfl (by first | exact .inl rfl | exact .inr rfl) (c_ix hu (c_var 11) (c_fn hr (ok_wtake T B) (by decide) (a_cons (c_var 0) (a_cons (c_callB b_len (by rfl) T.n_len (by decide +kernel) (a_cons (c_var 11) a_nil)) a_nil))))) (ss_cons (s_set (i := 6) Sc.nd rfl (by first | exact .inl rfl | exact .inr rfl) (c_fn hr (ok_wtake T B) (by decide) (a_cons (c_var 0) (a_cons (c_callB b_len (by rfl) T.n_len (by decide +kernel) (a_cons (c_var 12) a_nil)) a_nil)))) (ss_cons (s_set (i := 7) Sc.nd rfl (by first | exact .inl rfl | exact .inr rfl) (c_ix hu (c_var 12) (c_var 6))) (ss_cons (s_set (i := 8) Sc.nd rfl (by first | exact .inl rfl | exact .inr rfl) (c_ix hu (c_var 10) (c_fn hr (ok_wtake T B) (by decide) (a_cons (c_var 0) (a_cons (c_callB b_len (by rfl) T.n_len (by decide +kernel) (a_cons (c_var 10) a_nil)) a_nil))))) (ss_cons (s_if (k_cmp (o_in hu) (c_var 1) (c_tup (a_cons c_str (a_cons c_str a_nil))) (by with_unfolding_all rfl)) (ss_cons (s_set (i := 13) Sc.nd rfl (by first | exact .inl rfl | exact .inr rfl) (c_fn hr (ok_wsome T B) (by decide) (a_cons (c_var 0) (a_cons (c_var 11) (a_cons (c_ix hu (c_lst (a_cons c_int (a_cons c_int (a_cons (c_add c_int (c_fn hr (ok_wtake T B) (by decide) (a_cons (c_var 0) (a_cons c_int a_nil)))) a_nil)))) (c_fn hr (ok_wtake T B) (by decide) (a_cons (c_var 0) (a_cons c_int a_nil)))) a_nil))))) (ss_cons (s_if (k_cmp (o_eq hr.units) (c_var 1) c_str (nomark _)) (ss_one (s_ret (c_tup (a_cons (c_var 1) (a_cons (c_var 2) (a_cons (c_var 3) (a_cons (c_callTy y_tuple (by rfl) T.n_tuple (by decide +kernel) (a_cons (c_var 13) a_nil)) (a_cons (c_var 5) a_nil)))))))) ss_nil) (ss_cons (s_setLc (i := 14) (own := [("_law_one", 15)]) (gown := [15]) rfl Sc.nd rfl rfl (sw_true rfl rfl rfl (by decide +kernel)) (i_seq (c_var 13)) (blkOk_by (N := ["_law_pen_here", "_law_word", "_law_name", "_law_day", "_law_sorts_here", "_law_land", "_law_at", "_law_house", "_law_field", "_law_inch", "_law_fields", "_law_plots", "_law_houses", "_law_some_here", "_law_parts", "_law_one"]) (sc := defScope s_wrow_of) (by decide +kernel)) (fun _ _ _ _ _ => (g_name (i := 15) Sc.nd rfl (by first | exact .inl rfl | exact .inr rfl))) (by decide) (fun _ _ _ _ _ => ts_nil) (fun _ _ _ _ _ => (c_tup (a_cons (c_var 15) (a_cons (c_ix hu (c_var 12) (c_fn hr (ok_wtake T B) (by decide) (a_cons (c_var 0) (a_cons (c_callB b_len (by rfl) T.n_len (by decide +kernel) (a_cons (c_var 12) a_nil)) a_nil)))) (a_cons (c_fn hr (ok_wnumber T B) (by decide) (a_cons (c_var 0) (a_cons c_int (a_cons (c_pow c_int c_int) a_nil)))) a_nil)))))) (ss_one (s_ret (c_tup (a_cons (c_var 1) (a_cons (c_var 2) (a_cons (c_var 3) (a_cons (c_var 5) (a_cons (c_callTy y_tuple (by rfl) T.n_tuple (by decide +kernel) (a_cons (c_var 14) a_nil)) a_nil))))))))))) ss_nil) (ss_cons (s_if (k_cmp (o_eq hr.units) (c_var 1) c_str (nomark _)) (ss_one (s_ret (c_tup (a_cons (c_var 1) (a_cons (c_var 2) (a_cons (c_var 3) (a_cons (c_var 5) (a_cons (c_var 7) a_nil)))))))) ss_nil) (ss_cons (s_if (k_cmp (o_eq hr.units) (c_var 1) c_str (nomark _)) (ss_one (s_ret (c_tup (a_cons (c_var 1) (a_cons (c_var 2) (a_cons (c_var 3) (a_cons (c_var 8) (a_cons (c_fn hr (ok_wnumber T B) (by decide) (a_cons (c_var 0) (a_cons c_int (a_cons (c_pow c_int c_int) a_nil)))) a_nil)))))))) ss_nil) (ss_cons (s_if (k_cmp (o_eq hr.units) (c_var 1) c_str (nomark _)) (ss_one (s_ret (c_tup (a_cons (c_var 1) (a_cons (c_var 2) (a_cons (c_var 3) (a_cons (c_var 7) (a_cons (c_ix hu (c_var 12) (c_mod (c_add (c_add (c_var 6) c_int) (c_fn hr (ok_wtake T B) (by decide) (a_cons (c_var 0) (a_cons (c_sub (c_callB b_len (by rfl) T.n_len (by decide +kernel) (a_cons (c_var 12) a_nil)) c_int) a_nil)))) (c_callB b_len (by rfl) T.n_len (by decide +kernel) (a_cons (c_var 12) a_nil)))) a_nil)))))))) ss_nil) (ss_cons (s_if (k_cmp (o_eq hr.units) (c_var 1) c_str (nomark _)) (ss_one (s_ret (c_tup (a_cons (c_var 1) (a_cons (c_var 2) (a_cons (c_var 3) (a_cons (c_var 7) a_nil))))))) ss_nil) (ss_cons (s_set (i := 9) Sc.nd rfl (by first | exact .inl rfl | exact .inr rfl) (c_fn hr (ok_wnumber T B) (by decide) (a_cons (c_var 0) (a_cons c_int (a_cons (c_sub (c_pow c_int c_int) c_int) a_nil))))) (ss_cons (s_if (k_cmp (o_eq hr.units) (c_var 1) c_str (nomark _)) (ss_one (s_ret (c_tup (a_cons (c_var 1) (a_cons (c_var 2) (a_cons (c_var 3) (a_cons (c_var 8) (a_cons (c_var 9) (a_cons (c_var 7) a_nil))))))))) ss_nil) (ss_one (s_ret (c_tup (a_cons (c_var 1) (a_cons (c_var 2) (a_cons (c_var 3) (a_cons (c_var 8) (a_cons (c_var 9) (a_cons (c_fn hr (ok_wnumber T B) (by decide) (a_cons (c_var 0) (a_cons c_int (a_cons (c_pow c_int c_int) a_nil)))) (a_cons (c_fn hr (ok_wnumber T B) (by decide) (a_cons (c_var 0) (a_cons c_int (a_cons (c_pow c_int c_int) a_nil)))) a_nil))))))))))))))))))))))
theorem ok_wrow (T : Txt w K mg) (B : Tbs base mg) : Okf P w K mg base 4 "_law_row" 4 m_wrow := by
  have Sc := sc_wrow
  refine okf_of (b := b_wrow) T.f_wrow Sc (fun ds S Q => by rw [q_m_wrow]; rfl) fun f cdv A outer s H E hr => ?_
  have hu := hu_of hr.toRoom
  exact (ss_cons (s_set (i := 4) Sc.nd rfl (by first | exact .inl rfl | exact .inr rfl) (c_lst (a_cons c_str (a_cons c_str (a_cons c_str (a_cons c_str (a_cons c_str (a_cons c_str (a_cons c_str (a_cons c_str (a_cons c_str (a_cons c_str a_nil)))))))))))) (ss_one (s_ret (c_fn hr (ok_wrow_of T B) (by decide) (a_cons (c_var 0) (a_cons (c_ix hu (c_var 4) (c_fn hr (ok_wtake T B) (by decide) (a_cons (c_var 0) (a_cons c_int a_nil)))) (a_cons (c_var 1) (a_cons (c_var 2) (a_cons (c_var 3) a_nil)))))))))
theorem ok_wturned (T : Txt w K mg) (B : Tbs base mg) : Okf P w K mg base 2 "_law_turned" 2 m_wturned := by
  have Sc := sc_wturned
  refine okf_of (b := b_wturned) T.f_wturned Sc (fun ds S Q => by rw [q_m_wturned]; rfl) fun f cdv A outer s H E hr => ?_
  have hu := hu_of hr.toRoom
  exact (ss_cons (s_set (i := 2) Sc.nd rfl (by first | exact .inl rfl | exact .inr rfl) (c_callTy y_list (by rfl) T.n_list (by decide +kernel) (a_cons (c_var 1) a_nil))) (ss_one (s_ret (c_lc (own := [("_law_k", 3)]) (gown := [3]) rfl Sc.nd (i_range1 (by rfl) T.n_range (a_cons (c_callB b_len (by rfl) T.n_len (by decide +kernel) (a_cons (c_var 1) a_nil)) a_nil)) (blkOk_by (N := ["_law_pen_here", "_law_some_here", "_law_left", "_law_k"]) (sc := defScope s_wturned) (by decide +kernel)) (fun _ _ _ _ _ => (g_name (i := 3) Sc.nd rfl (by first | exact .inl rfl | exact .inr rfl))) (by decide) (fun _ _ _ _ _ => ts_nil) (fun _ _ _ _ _ => (c_m m_popAt (c_var 2) (a_cons (c_fn hr (ok_wtake T B) (by decide) (a_cons (c_var 0) (a_cons (c_callB b_len (by rfl) T.n_len (by decide +kernel) (a_cons (c_var 2) a_nil)) a_nil))) a_nil)))))))
theorem ok_wlisted (T : Txt w K mg) (B : Tbs base mg) : Okf P w K mg base 3 "_law_listed" 2 m_wlisted := by
  have Sc := sc_wlisted
  refine okf_of (b := b_wlisted) T.f_wlisted Sc (fun ds S Q => by rw [q_m_wlisted]; rfl) fun f cdv A outer s H E hr => ?_
  have hu := hu_of hr.toRoom
  exact (ss_cons (s_set (i := 2) Sc.nd rfl (by first | exact .inl rfl | exact .inr rfl) (c_callTy y_list (by rfl) T.n_list (by decide +kernel) (a_cons (c_var 1) a_nil))) (ss_cons (s_for PassesOwn.never rfl (i_range1 (by rfl) T.n_range (a_cons (c_callB b_len (by rfl) T.n_len (by decide +kernel) (a_cons (c_var 1) a_nil)) a_nil)) (g_name (i := 3) Sc.nd rfl (by first | exact .inl rfl | exact .inr rfl)) (ss_one (s_if (k_tru (c_callB b_isi (by rfl) T.n_isinstance (by decide +kernel) (a_cons (c_ix hu (c_var 1) (c_var 3)) (a_cons (c_bltn (by rfl) T.n_tuple (by decide +kernel)) a_nil)))) (ss_cons (s_set (i := 4) Sc.nd rfl (by first | exact .inl rfl | exact .inr rfl) (c_fn hr (ok_wturned T B) (by decide) (a_cons (c_var 0) (a_cons (c_ix hu (c_var 1) (c_var 3)) a_nil)))) (ss_cons (s_setLc (i := 4) (own := [("_law_one", 5)]) (gown := [5]) rfl Sc.nd rfl rfl (sw_true rfl rfl rfl (by decide +kernel)) (i_seq (c_var 4)) (blkOk_by (N := ["_law_pen_here", "_law_row_here", "_law_found", "_law_at", "_law_some_here", "_law_one"]) (sc := defScope s_wlisted) (by decide +kernel)) (fun _ _ _ _ _ => (g_name (i := 5) Sc.nd rfl (by first | exact .inl rfl | exact .inr rfl))) (by decide) (fun _ _ _ _ _ => ts_nil) (fun _ _ _ _ _ => (c_if (k_w (w_and (k_tru (c_callB b_isi (by rfl) T.n_isinstance (by decide +kernel) (a_cons (c_var 5) (a_cons (c_bltn (by rfl) T.n_tuple (by decide +kernel)) a_nil)))) (w_and1 (k_cmp (o_eq hr.units) (c_fn hr (ok_wtake T B) (by decide) (a_cons (c_var 0) (a_cons c_int a_nil))) c_int (nomark _))))) (c_callTy y_list (by rfl) T.n_list (by decide +kernel) (a_cons (c_var 5) a_nil)) (c_var 5)))) (ss_one (s_sub hu (c_ix hu (c_lst (a_cons (c_var 4) (a_cons (c_callTy y_tuple (by rfl) T.n_tuple (by decide +kernel) (a_cons (c_var 4) a_nil)) a_nil))) (c_fn hr (ok_wtake T B) (by decide) (a_cons (c_var 0) (a_cons c_int a_nil)))) (c_var 2) (c_var 3))))) ss_nil))) (ss_one (s_ret (c_ix hu (c_lst (a_cons (c_var 2) (a_cons (c_callTy y_tuple (by rfl) T.n_tuple (by decide +kernel) (a_cons (c_var 2) a_nil)) a_nil))) (c_fn hr (ok_wtake T B) (by decide) (a_cons (c_var 0) (a_cons c_int a_nil))))))))
theorem ok_wtwin (T : Txt w K mg) (B : Tbs base mg) : Okf P w K mg base 2 "_law_twin" 2 m_wtwin := by
  have Sc := sc_wtwin
  refine okf_of (b := b_wtwin) T.f_wtwin Sc (fun ds S Q => by rw [q_m_wtwin]; rfl) fun f cdv A outer s H E hr => ?_
  have hu := hu_of hr.toRoom
  exact (ss_cons (s_set (i := 2) Sc.nd rfl (by first | exact .inl rfl | exact .inr rfl) (c_lst a_nil)) (ss_cons (s_for PassesOwn.never rfl (i_seq (c_var 1)) (g_name (i := 3) Sc.nd rfl (by first | exact .inl rfl | exact .inr rfl)) (ss_one (s_for PassesOwn.never rfl (i_range2 (by rfl) T.n_range (a_cons c_int (a_cons (c_callB b_len (by rfl) T.n_len (by decide +kernel) (a_cons (c_var 3) a_nil)) a_nil))) (g_name (i := 4) Sc.nd rfl (by first | exact .inl rfl | exact .inr rfl)) (ss_one (s_if (k_w (w_and (k_tru (c_callB b_isi (by rfl) T.n_isinstance (by decide +kernel) (a_cons (c_ix hu (c_var 3) (c_var 4)) (a_cons (c_bltn (by rfl) T.n_int (by decide +kernel)) a_nil)))) (w_and1 (k_cmp (o_in hu) (c_ix hu (c_var 3) (c_var 4)) (c_tup (a_cons c_int (a_cons c_int a_nil))) (by with_unfolding_all rfl))))) (ss_one (s_expr (c_m m_append (c_var 2) (a_cons (c_add (c_add (c_sl (c_var 3) p_none (p_some (c_var 4))) (c_tup (a_cons (c_cmp (o_eq hr.units) (c_ix hu (c_var 3) (c_var 4)) c_int (nomark _)) a_nil))) (c_sl (c_var 3) (p_some (c_add (c_var 4) c_int)) p_none)) a_nil)))) ss_nil))))) (ss_cons (s_if (k_cmp (o_eq hr.units) (c_var 2) (c_lst a_nil) (nomark _)) (ss_one (s_ret c_non)) ss_nil) (ss_one (s_ret (c_ix hu (c_var 2) (c_fn hr (ok_wtake T B) (by decide) (a_cons (c_var 0) (a_cons (c_callB b_len (by rfl) T.n_len (by decide +kernel) (a_cons (c_var 2) a_nil)) a_nil)))))))))
theorem ok_wput_in (T : Txt w K mg) (B : Tbs base mg) : Okf P w K mg base 4 "_law_put_in" 4 m_wput_in := by
  have Sc := sc_wput_in
  refine okf_of (b := b_wput_in) T.f_wput_in Sc (fun ds S Q => by rw [q_m_wput_in]; rfl) fun f cdv A outer s H E hr => ?_
  have hu := hu_of hr.toRoom
  exact (ss_cons (s_asg (c_var 1) (g_tupL rfl (gs_cons (g_name (i := 8) Sc.nd rfl (by first | exact .inl rfl | exact .inr rfl)) (gs_cons (g_name (i := 9) Sc.nd rfl (by first | exact .inl rfl | exact .inr rfl)) gs_nil)))) (ss_cons (s_set (i := 4) Sc.nd rfl (by first | exact .inl rfl | exact .inr rfl) (c_fn hr (ok_wtake T B) (by decide) (a_cons (c_var 0) (a_cons c_int a_nil)))) (ss_cons (s_set (i := 5) Sc.nd rfl (by first | exact .inl rfl | exact .inr rfl) (c_ix hu (c_var 2) c_int)) (ss_cons (s_if (k_w (w_and (k_cmp (o_ne hr.units) (c_var 9) (c_tup a_nil) (nomark _)) (w_and1 (k_cmp (o_in hu) (c_var 4) (c_tup (a_cons c_int (a_cons c_int (a_cons c_int a_nil)))) (by with_unfolding_all rfl))))) (ss_one (s_set (i := 5) Sc.nd rfl (by first | exact .inl rfl | exact .inr rfl) (c_ix hu (c_ix hu (c_var 9) (c_fn hr (ok_wtake T B) (by decide) (a_cons (c_var 0) (a_cons (c_callB b_len (by rfl) T.n_len (by decide +kernel) (a_cons (c_var 9) a_nil)) a_nil)))) c_int))) ss_nil) (ss_cons (s_set (i := 6) Sc.nd rfl (by first | exact .inl rfl | exact .inr rfl) c_str) (ss_cons (s_if (k_cmp (o_eq hr.units) (c_var 5) (c_ix hu (c_var 2) c_int) (nomark _)) (ss_one (s_set (i := 6) Sc.nd rfl (by first | exact .inl rfl | exact .inr rfl) (c_ix hu (c_lst (a_cons c_str (a_cons c_str a_nil))) (c_callTy y_int (by rfl) T.n_int (by decide +kernel) (a_cons (c_cmp (o_eq hr.units) (c_callB b_len (by rfl) T.n_len (by decide +kernel) (a_cons (c_var 9) a_nil)) c_int (nomark _)) a_nil))))) ss_nil) (ss_cons (s_if (k_cmp (o_lt2 hr.units) (c_var 4) c_int (nomark _)) (ss_one (s_ret (c_tup (a_cons (c_fn hr (ok_wlisted T B) (by decide) (a_cons (c_var 0) (a_cons (c_add (c_add (c_sl (c_var 2) p_none (p_some c_int)) (c_tup (a_cons (c_var 5) a_nil))) (c_sl (c_var 2) (p_some c_int) p_none)) a_nil))) (a_cons (c_var 6) a_nil))))) ss_nil) (ss_cons (s_if (k_w (w_and (k_cmp (o_eq hr.units) (c_var 4) c_int (nomark _)) (w_and1 (k_cmp (o_ne hr.units) (c_var 9) (c_tup a_nil) (nomark _))))) (ss_one (s_ret (c_tup (a_cons (c_ix hu (c_var 9) (c_m m_index (c_lc (own := [("_law_row_here", 10)]) (gown := [10]) rfl Sc.nd (i_seq (c_var 9)) (blkOk_by (N := ["_law_pen_here", "_law_roll", "_law_fresh", "_law_strange", "_law_way", "_law_name", "_law_word", "_law_odd", "_law_laying_here", "_law_rows", "_law_row_here"]) (sc := defScope s_wput_in) (by decide +kernel)) (fun _ _ _ _ _ => (g_name (i := 10) Sc.nd rfl (by first | exact .inl rfl | exact .inr rfl))) (by decide) (fun _ _ _ _ _ => ts_nil) (fun _ _ _ _ _ => (c_ix hu (c_var 10) c_int))) (a_cons (c_var 5) a_nil))) (a_cons c_str a_nil))))) ss_nil) (ss_cons (s_if (k_cmp (o_in hu) (c_var 4) (c_tup (a_cons c_int (a_cons c_int a_nil))) (by with_unfolding_all rfl)) (ss_one (s_ret (c_tup (a_cons (c_tup (a_cons c_str (a_cons (c_var 5) (a_cons c_int (a_cons (c_var 3) (a_cons c_int a_nil)))))) (a_cons c_str a_nil))))) ss_nil) (ss_cons (s_if (k_cmp (o_eq hr.units) (c_var 4) c_int (nomark _)) (ss_one (s_ret (c_tup (a_cons (c_fn hr (ok_wtwin T B) (by decide) (a_cons (c_var 0) (a_cons (c_var 9) a_nil))) (a_cons c_str a_nil))))) ss_nil) (ss_cons (s_set (i := 7) Sc.nd rfl (by first | exact .inl rfl | exact .inr rfl) (c_lst (a_cons c_non (a_cons c_bl (a_cons c_int (a_cons c_str (a_cons (c_tup a_nil) (a_cons (c_lst a_nil) (a_cons c_dict0 (a_cons (c_sl (c_var 2) p_none (p_some (c_neg c_int))) (a_cons (c_add (c_var 2) (c_tup (a_cons c_int a_nil))) (a_cons (c_tup (a_cons c_str (a_cons (c_var 5) (a_cons c_int (a_cons (c_var 3) (a_cons c_int (a_cons c_str a_nil))))))) a_nil)))))))))))) (ss_cons (s_set (i := 7) Sc.nd rfl (by first | exact .inl rfl | exact .inr rfl) (c_add (c_var 7) (c_lst (a_cons (c_tup (a_cons c_str (a_cons (c_var 5) (a_cons c_int (a_cons c_str a_nil))))) (a_cons (c_lst (a_cons c_str (a_cons (c_var 5) (a_cons c_bl (a_cons c_str a_nil))))) a_nil))))) (ss_one (s_ret (c_tup (a_cons (c_ix hu (c_var 7) (c_fn hr (ok_wtake T B) (by decide) (a_cons (c_var 0) (a_cons c_int a_nil)))) (a_cons c_str a_nil)))))))))))))))))
theorem ok_wplace (T : Txt w K mg) (B : Tbs base mg) : Okf P w K mg base 1 "_law_place" 1 m_wplace := by
  have Sc := sc_wplace
  refine okf_of (b := b_wplace) T.f_wplace Sc (fun ds S Q => by rw [q_m_wplace]; rfl) fun f cdv A outer s H E hr => ?_
  have hu := hu_of hr.toRoom
  exact (ss_cons (s_set (i := 1) Sc.nd rfl (by first | exact .inl rfl | exact .inr rfl) (c_dict (ps_cons0 c_str c_int (ps_cons0 c_str c_int (ps_cons0 c_str c_int (ps_cons0 c_str c_int (ps_cons0 c_str c_int ps_nil0))))) (by rfl) (by rfl) (fun z => by cases z) (by decide))) (ss_one (s_ret (c_tup (a_cons (c_ix hu (c_var 0) c_int) (a_cons (c_get2 hu (c_var 1) (c_ix hu (c_var 0) c_int) c_int) (a_cons (c_ix hu (c_var 0) c_int) a_nil)))))))
theorem ok_as_tuple (T : Txt w K mg) (B : Tbs base mg) : Okf P w K mg base 1 "as_tuple" 1 m_as_tuple := by
  have Sc := sc_as_tuple
  refine okf_of (b := b_as_tuple) T.f_as_tuple Sc (fun ds S Q => by rw [q_m_as_tuple]; rfl) fun f cdv A outer s H E hr => ?_
  have hu := hu_of hr.toRoom
  exact (ss_cons (s_if (k_tru (c_callB b_isi (by rfl) T.n_isinstance (by decide +kernel) (a_cons (c_var 0) (a_cons (c_bltn (by rfl) T.n_list (by decide +kernel)) a_nil)))) (ss_one (s_ret (c_callTy y_tuple (by rfl) T.n_tuple (by decide +kernel) (a_cons (c_var 0) a_nil)))) ss_nil) (ss_one (s_ret (c_var 0))))
theorem ok_with_tuples (T : Txt w K mg) (B : Tbs base mg) : Okf P w K mg base 2 "with_tuples" 1 m_with_tuples := by
  have Sc := sc_with_tuples
  refine okf_of (b := b_with_tuples) T.f_with_tuples Sc (fun ds S Q => by rw [q_m_with_tuples]; rfl) fun f cdv A outer s H E hr => ?_
  have hu := hu_of hr.toRoom
  exact (ss_cons (s_if (k_tru (c_isi2 (by rfl) T.n_isinstance (by decide +kernel) (c_var 0) (by rfl) T.n_list (by decide +kernel) (by rfl) T.n_tuple (by decide +kernel))) (ss_one (s_ret (c_callTy y_tuple (by rfl) T.n_tuple (by decide +kernel) (a_cons (c_lc (own := [("part", 1)]) (gown := [1]) rfl Sc.nd (i_seq (c_var 0)) (blkOk_by (N := ["thing", "part"]) (sc := defScope s_with_tuples) (by decide +kernel)) (fun _ _ _ _ _ => (g_name (i := 1) Sc.nd rfl (by first | exact .inl rfl | exact .inr rfl))) (by decide) (fun _ _ _ _ _ => ts_nil) (fun _ _ _ _ _ => (c_fn hr (ok_as_tuple T B) (by decide) (a_cons (c_var 1) a_nil)))) a_nil)))) ss_nil) (ss_one (s_ret (c_var 0))))
theorem ok_is_name (T : Txt w K mg) (B : Tbs base mg) : Okf P w K mg base 1 "is_name" 1 m_is_name := by
  have Sc := sc_is_name
  refine okf_of (b := b_is_name) T.f_is_name Sc (fun ds S Q => by rw [q_m_is_name]; rfl) fun f cdv A outer s H E hr => ?_
  have hu := hu_of hr.toRoom
  exact (ss_cons (s_if (k_w (w_or (k_not (k_tru (c_callB b_isi (by rfl) T.n_isinstance (by decide +kernel) (a_cons (c_var 0) (a_cons (c_bltn (by rfl) T.n_str (by decide +kernel)) a_nil))))) (w_or1 (k_not (k_chain o_le o_le c_int (c_callB b_len (by rfl) T.n_len (by decide +kernel) (a_cons (c_var 0) a_nil)) (c_globI T.c_LONGEST)))))) (ss_one (s_ret c_bl)) ss_nil) (ss_one (s_ret (c_callB (b_all rfl) (by rfl) T.n_all (by decide +kernel) (a_cons (c_lc (own := [("sign", 1)]) (gown := [1]) rfl Sc.nd (i_seq (c_var 0)) (blkOk_by (N := ["thing", "sign"]) (sc := defScope s_is_name) (by decide +kernel)) (fun _ _ _ _ _ => (g_name (i := 1) Sc.nd rfl (by first | exact .inl rfl | exact .inr rfl))) (by decide) (fun _ _ _ _ _ => ts_nil) (fun _ _ _ _ _ => (c_cmp (o_in hu) (c_var 1) (c_globS T.c_SMALL) (by with_unfolding_all rfl)))) a_nil)))))
theorem ok_are_names (T : Txt w K mg) (B : Tbs base mg) : Okf P w K mg base 2 "are_names" 1 m_are_names := by
  have Sc := sc_are_names
  refine okf_of (b := b_are_names) T.f_are_names Sc (fun ds S Q => by rw [q_m_are_names]; rfl) fun f cdv A outer s H E hr => ?_
  have hu := hu_of hr.toRoom
  exact (ss_one (s_ret (c_callB (b_all rfl) (by rfl) T.n_all (by decide +kernel) (a_cons (c_lc (own := [("thing", 1)]) (gown := [1]) rfl Sc.nd (i_seq (c_var 0)) (blkOk_by (N := ["things", "thing"]) (sc := defScope s_are_names) (by decide +kernel)) (fun _ _ _ _ _ => (g_name (i := 1) Sc.nd rfl (by first | exact .inl rfl | exact .inr rfl))) (by decide) (fun _ _ _ _ _ => ts_nil) (fun _ _ _ _ _ => (c_fn hr (ok_is_name T B) (by decide) (a_cons (c_var 1) a_nil)))) a_nil))))
theorem ok_is_within (T : Txt w K mg) (B : Tbs base mg) : Okf P w K mg base 1 "is_within" 3 m_is_within := by
  have Sc := sc_is_within
  refine okf_of (b := b_is_within) T.f_is_within Sc (fun ds S Q => by rw [q_m_is_within]; rfl) fun f cdv A outer s H E hr => ?_
  have hu := hu_of hr.toRoom
  exact (ss_one (s_ret (c_and (c_callB b_isi (by rfl) T.n_isinstance (by decide +kernel) (a_cons (c_var 0) (a_cons (c_bltn (by rfl) T.n_int (by decide +kernel)) a_nil))) (c_and (c_not (c_callB b_isi (by rfl) T.n_isinstance (by decide +kernel) (a_cons (c_var 0) (a_cons (c_bltn (by rfl) T.n_bool (by decide +kernel)) a_nil)))) (c_one (c_chain o_le o_le (c_var 1) (c_var 0) (c_var 2)))))))
theorem ok_is_part (T : Txt w K mg) (B : Tbs base mg) : Okf P w K mg base 3 "is_part" 1 m_is_part := by
  have Sc := sc_is_part
  refine okf_of (b := b_is_part) T.f_is_part Sc (fun ds S Q => by rw [q_m_is_part]; rfl) fun f cdv A outer s H E hr => ?_
  have hu := hu_of hr.toRoom
  exact (ss_cons (s_if (k_w (w_or (k_not (k_tru (c_callB b_isi (by rfl) T.n_isinstance (by decide +kernel) (a_cons (c_var 0) (a_cons (c_bltn (by rfl) T.n_tuple (by decide +kernel)) a_nil))))) (w_or1 (k_cmp (o_ne hr.units) (c_callB b_len (by rfl) T.n_len (by decide +kernel) (a_cons (c_var 0) a_nil)) c_int (nomark _))))) (ss_one (s_ret c_bl)) ss_nil) (ss_one (s_ret (c_and (c_fn hr (ok_are_names T B) (by decide) (a_cons (c_sl (c_var 0) p_none (p_some c_int)) a_nil)) (c_one (c_fn hr (ok_is_within T B) (by decide) (a_cons (c_ix hu (c_var 0) c_int) (a_cons c_int (a_cons (c_globI T.c_MOST_INCHES) a_nil)))))))))
theorem ok_in_order (T : Txt w K mg) (B : Tbs base mg) : Okf P w K mg base 4 "in_order" 1 m_in_order := by
  have Sc := sc_in_order
  refine okf_of (b := b_in_order) T.f_in_order Sc (fun ds S Q => by rw [q_m_in_order]; rfl) fun f cdv A outer s H E hr => ?_
  have hu := hu_of hr.toRoom
  exact (ss_cons (s_set (i := 1) Sc.nd rfl (by first | exact .inl rfl | exact .inr rfl) (c_fn hr (ok_with_tuples T B) (by decide) (a_cons (c_var 0) a_nil))) (ss_cons (s_if (k_not (k_tru (c_callB b_isi (by rfl) T.n_isinstance (by decide +kernel) (a_cons (c_var 1) (a_cons (c_bltn (by rfl) T.n_tuple (by decide +kernel)) a_nil))))) (ss_one (s_ret (c_var 0))) ss_nil) (ss_cons (s_if (k_w (w_or (k_tru (c_callB (b_all rfl) (by rfl) T.n_all (by decide +kernel) (a_cons (c_lc (own := [("part", 2)]) (gown := [2]) rfl Sc.nd (i_seq (c_var 1)) (blkOk_by (N := ["thing", "some", "part"]) (sc := defScope s_in_order) (by decide +kernel)) (fun _ _ _ _ _ => (g_name (i := 2) Sc.nd rfl (by first | exact .inl rfl | exact .inr rfl))) (by decide) (fun _ _ _ _ _ => ts_nil) (fun _ _ _ _ _ => (c_fn hr (ok_is_part T B) (by decide) (a_cons (c_var 2) a_nil)))) a_nil))) (w_or1 (k_tru (c_fn hr (ok_are_names T B) (by decide) (a_cons (c_var 1) a_nil)))))) (ss_one (s_ret (c_callTy y_tuple (by rfl) T.n_tuple (by decide +kernel) (a_cons (c_callB (b_sortedA hr) (by rfl) T.n_sorted (by decide +kernel) (a_cons (c_var 1) a_nil)) a_nil)))) ss_nil) (ss_one (s_ret (c_var 0))))))
theorem ok_is_rising (T : Txt w K mg) (B : Tbs base mg) : Okf P w K mg base 1 "is_rising" 1 m_is_rising := by
  have Sc := sc_is_rising
  refine okf_of (b := b_is_rising) T.f_is_rising Sc (fun ds S Q => by rw [q_m_is_rising]; rfl) fun f cdv A outer s H E hr => ?_
  have hu := hu_of hr.toRoom
  exact (ss_one (s_ret (c_callB (b_all rfl) (by rfl) T.n_all (by decide +kernel) (a_cons (c_lc (own := [("one", 1), ("other", 2)]) (gown := [1, 2]) rfl Sc.nd (i_zip (by rfl) T.n_zip (a_cons (c_var 0) (a_cons (c_sl (c_var 0) (p_some c_int) p_none) a_nil))) (blkOk_by (N := ["some", "one", "other"]) (sc := defScope s_is_rising) (by decide +kernel)) (fun _ _ _ _ _ => (g_tupL rfl (gs_cons (g_name (i := 1) Sc.nd rfl (by first | exact .inl rfl | exact .inr rfl)) (gs_cons (g_name (i := 2) Sc.nd rfl (by first | exact .inl rfl | exact .inr rfl)) gs_nil)))) (by decide) (fun _ _ _ _ _ => ts_nil) (fun _ _ _ _ _ => (c_cmp (o_lt2 hr.units) (c_var 1) (c_var 2) (nomark _)))) a_nil))))
theorem ok_are_parts (T : Txt w K mg) (B : Tbs base mg) : Okf P w K mg base 4 "are_parts" 1 m_are_parts := by
  have Sc := sc_are_parts
  refine okf_of (b := b_are_parts) T.f_are_parts Sc (fun ds S Q => by rw [q_m_are_parts]; rfl) fun f cdv A outer s H E hr => ?_
  have hu := hu_of hr.toRoom
  exact (ss_cons (s_if (k_w (w_or (k_not (k_tru (c_callB b_isi (by rfl) T.n_isinstance (by decide +kernel) (a_cons (c_var 0) (a_cons (c_bltn (by rfl) T.n_tuple (by decide +kernel)) a_nil))))) (w_or1 (k_not (k_chain o_le o_le (c_globI T.c_LEAST_PARTS) (c_callB b_len (by rfl) T.n_len (by decide +kernel) (a_cons (c_var 0) a_nil)) (c_globI T.c_MOST_PARTS)))))) (ss_one (s_ret c_bl)) ss_nil) (ss_one (s_ret (c_and (c_callB (b_all rfl) (by rfl) T.n_all (by decide +kernel) (a_cons (c_lc (own := [("part", 1)]) (gown := [1]) rfl Sc.nd (i_seq (c_var 0)) (blkOk_by (N := ["thing", "part"]) (sc := defScope s_are_parts) (by decide +kernel)) (fun _ _ _ _ _ => (g_name (i := 1) Sc.nd rfl (by first | exact .inl rfl | exact .inr rfl))) (by decide) (fun _ _ _ _ _ => ts_nil) (fun _ _ _ _ _ => (c_fn hr (ok_is_part T B) (by decide) (a_cons (c_var 1) a_nil)))) a_nil)) (c_one (c_fn hr (ok_is_rising T B) (by decide) (a_cons (c_lc (own := [("part", 1)]) (gown := [1]) rfl Sc.nd (i_seq (c_var 0)) (blkOk_by (N := ["thing", "part"]) (sc := defScope s_are_parts) (by decide +kernel)) (fun _ _ _ _ _ => (g_name (i := 1) Sc.nd rfl (by first | exact .inl rfl | exact .inr rfl))) (by decide) (fun _ _ _ _ _ => ts_nil) (fun _ _ _ _ _ => (c_ix hu (c_var 1) c_int))) a_nil)))))))
theorem ok_are_lands (T : Txt w K mg) (B : Tbs base mg) : Okf P w K mg base 3 "are_lands" 1 m_are_lands := by
  have Sc := sc_are_lands
  refine okf_of (b := b_are_lands) T.f_are_lands Sc (fun ds S Q => by rw [q_m_are_lands]; rfl) fun f cdv A outer s H E hr => ?_
  have hu := hu_of hr.toRoom
  exact (ss_cons (s_if (k_w (w_or (k_not (k_tru (c_callB b_isi (by rfl) T.n_isinstance (by decide +kernel) (a_cons (c_var 0) (a_cons (c_bltn (by rfl) T.n_tuple (by decide +kernel)) a_nil))))) (w_or1 (k_not (k_chain o_le o_le (c_globI T.c_LEAST_PARTS) (c_callB b_len (by rfl) T.n_len (by decide +kernel) (a_cons (c_var 0) a_nil)) (c_globI T.c_MOST_PARTS)))))) (ss_one (s_ret c_bl)) ss_nil) (ss_one (s_ret (c_and (c_fn hr (ok_are_names T B) (by decide) (a_cons (c_var 0) a_nil)) (c_one (c_fn hr (ok_is_rising T B) (by decide) (a_cons (c_var 0) a_nil)))))))
theorem ok_has_right_rest (T : Txt w K mg) (B : Tbs base mg) : Okf P w K mg base 5 "has_right_rest" 1 m_has_right_rest := by
  have Sc := sc_has_right_rest
  refine okf_of (b := b_has_right_rest) T.f_has_right_rest Sc (fun ds S Q => by rw [q_m_has_right_rest]; rfl) fun f cdv A outer s H E hr => ?_
  have hu := hu_of hr.toRoom
  exact (ss_cons (s_par (i := 1) (j := 2) rfl Sc.nd rfl rfl (by decide) rfl rfl (a_cons (c_ix hu (c_var 0) c_int) (a_cons (c_sl (c_var 0) (p_some c_int) p_none) a_nil))) (ss_cons (s_if (k_cmp (o_eq hr.units) (c_var 1) c_str (nomark _)) (ss_one (s_ret (c_and (c_fn hr (ok_is_name T B) (by decide) (a_cons (c_ix hu (c_var 2) c_int) a_nil)) (c_one (c_fn hr (ok_are_parts T B) (by decide) (a_cons (c_ix hu (c_var 2) c_int) a_nil)))))) ss_nil) (ss_cons (s_if (k_cmp (o_eq hr.units) (c_var 1) c_str (nomark _)) (ss_one (s_ret (c_and (c_fn hr (ok_are_lands T B) (by decide) (a_cons (c_ix hu (c_var 2) c_int) a_nil)) (c_one (c_fn hr (ok_is_name T B) (by decide) (a_cons (c_ix hu (c_var 2) c_int) a_nil)))))) ss_nil) (ss_cons (s_if (k_cmp (o_eq hr.units) (c_var 1) c_str (nomark _)) (ss_one (s_ret (c_and (c_fn hr (ok_is_name T B) (by decide) (a_cons (c_ix hu (c_var 2) c_int) a_nil)) (c_one (c_fn hr (ok_is_within T B) (by decide) (a_cons (c_ix hu (c_var 2) c_int) (a_cons c_int (a_cons (c_globI T.c_MOST_INCHES) a_nil)))))))) ss_nil) (ss_cons (s_if (k_cmp (o_eq hr.units) (c_var 1) c_str (nomark _)) (ss_one (s_ret (c_and (c_fn hr (ok_are_names T B) (by decide) (a_cons (c_var 2) a_nil)) (c_one (c_cmp (o_ne hr.units) (c_ix hu (c_var 2) c_int) (c_ix hu (c_var 2) c_int) (nomark _)))))) ss_nil) (ss_cons (s_if (k_cmp (o_in hu) (c_var 1) (c_tup (a_cons c_str (a_cons c_str a_nil))) (by with_unfolding_all rfl)) (ss_one (s_ret (c_fn hr (ok_are_names T B) (by decide) (a_cons (c_var 2) a_nil)))) ss_nil) (ss_cons (s_if (k_w (w_or (k_not (k_tru (c_fn hr (ok_is_name T B) (by decide) (a_cons (c_ix hu (c_var 2) c_int) a_nil)))) (w_or1 (k_not (k_tru (c_fn hr (ok_is_within T B) (by decide) (a_cons (c_ix hu (c_var 2) c_int) (a_cons c_int (a_cons (c_sub (c_globI T.c_MOST_INCHES) c_int) a_nil))))))))) (ss_one (s_ret c_bl)) ss_nil) (ss_cons (s_if (k_cmp (o_eq hr.units) (c_var 1) c_str (nomark _)) (ss_one (s_ret (c_fn hr (ok_is_name T B) (by decide) (a_cons (c_ix hu (c_var 2) c_int) a_nil)))) ss_nil) (ss_one (s_ret (c_and (c_fn hr (ok_is_within T B) (by decide) (a_cons (c_ix hu (c_var 2) c_int) (a_cons c_int (a_cons (c_globI T.c_MOST_PENCE) a_nil)))) (c_one (c_fn hr (ok_is_within T B) (by decide) (a_cons (c_ix hu (c_var 2) c_int) (a_cons c_int (a_cons (c_globI T.c_MOST_SPADES) a_nil))))))))))))))))
theorem ok_is_row (T : Txt w K mg) (B : Tbs base mg) : Okf P w K mg base 6 "is_row" 1 m_is_row := by
  have Sc := sc_is_row
  refine okf_of (b := b_is_row) T.f_is_row Sc (fun ds S Q => by rw [q_m_is_row]; rfl) fun f cdv A outer s H E hr => ?_
  have hu := hu_of hr.toRoom
  exact (ss_cons (s_if (k_w (w_or (k_not (k_tru (c_callB b_isi (by rfl) T.n_isinstance (by decide +kernel) (a_cons (c_var 0) (a_cons (c_bltn (by rfl) T.n_tuple (by decide +kernel)) a_nil))))) (w_or (k_cmp (o_lt2 hr.units) (c_callB b_len (by rfl) T.n_len (by decide +kernel) (a_cons (c_var 0) a_nil)) c_int (nomark _)) (w_or1 (k_not (k_tru (c_callB b_isi (by rfl) T.n_isinstance (by decide +kernel) (a_cons (c_ix hu (c_var 0) c_int) (a_cons (c_bltn (by rfl) T.n_str (by decide +kernel)) a_nil))))))))) (ss_one (s_ret c_bl)) ss_nil) (ss_cons (s_if (k_w (w_or (k_tabNotIn T.t_SIZES (c_ix hu (c_var 0) c_int)) (w_or1 (k_cmp (o_ne hr.units) (c_callB b_len (by rfl) T.n_len (by decide +kernel) (a_cons (c_var 0) a_nil)) (c_tab T.t_SIZES (c_ix hu (c_var 0) c_int)) (nomark _))))) (ss_one (s_ret c_bl)) ss_nil) (ss_one (s_ret (c_and (c_fn hr (ok_is_name T B) (by decide) (a_cons (c_ix hu (c_var 0) c_int) a_nil)) (c_and (c_fn hr (ok_is_within T B) (by decide) (a_cons (c_ix hu (c_var 0) c_int) (a_cons c_int (a_cons (c_globI T.c_LAST_DAY) a_nil)))) (c_one (c_fn hr (ok_has_right_rest T B) (by decide) (a_cons (c_var 0) a_nil)))))))))
theorem ok_row_of (T : Txt w K mg) (B : Tbs base mg) : OkfX P w K mg base 7 "row_of" 1 m_row_of := by
  have Sc := sc_row_of
  refine okfX_of (b := b_row_of) T.f_row_of Sc (fun ds S Q E => by rw [q_m_row_of]; rfl) fun f cdv A outer s H E hr => ?_
  have hu := hu_of hr.toRoom
  exact (ssx_cons (sx_of (s_set (i := 1) Sc.nd rfl (by first | exact .inl rfl | exact .inr rfl) (c_fn hr (ok_as_tuple T B) (by decide) (a_cons (c_var 0) a_nil)))) (ssx_cons (sx_of (s_if (k_w (w_and (k_tru (c_callB b_isi (by rfl) T.n_isinstance (by decide +kernel) (a_cons (c_var 1) (a_cons (c_bltn (by rfl) T.n_tuple (by decide +kernel)) a_nil)))) (w_and1 (k_cmp (o_eq hr.units) (c_callB b_len (by rfl) T.n_len (by decide +kernel) (a_cons (c_var 1) a_nil)) c_int (nomark _))))) (ss_one (s_if (k_cmp (o_eq hr.units) (c_ix hu (c_var 1) c_int) c_str (nomark _)) (ss_one (s_set (i := 1) Sc.nd rfl (by first | exact .inl rfl | exact .inr rfl) (c_add (c_sl (c_var 1) p_none (p_some c_int)) (c_tup (a_cons (c_fn hr (ok_in_order T B) (by decide) (a_cons (c_ix hu (c_var 1) c_int) a_nil)) a_nil))))) (ss_one (s_if (k_cmp (o_eq hr.units) (c_ix hu (c_var 1) c_int) c_str (nomark _)) (ss_one (s_set (i := 1) Sc.nd rfl (by first | exact .inl rfl | exact .inr rfl) (c_add (c_add (c_sl (c_var 1) p_none (p_some c_int)) (c_tup (a_cons (c_fn hr (ok_in_order T B) (by decide) (a_cons (c_ix hu (c_var 1) c_int) a_nil)) a_nil))) (c_sl (c_var 1) (p_some c_int) p_none)))) ss_nil)))) ss_nil)) (ssx_cons (sx_if (k_not (k_tru (c_fn hr (ok_is_row T B) (by decide) (a_cons (c_var 1) a_nil)))) (ssx_one (sx_raise rfl T.e_NoRow)) ssx_nil) (ssx_one (sx_of (s_ret (c_var 1)))))))
theorem ok_field_of (T : Txt w K mg) (B : Tbs base mg) : Okf P w K mg base 1 "field_of" 1 m_field_of := by
  have Sc := sc_field_of
  refine okf_of (b := b_field_of) T.f_field_of Sc (fun ds S Q => by rw [q_m_field_of]; rfl) fun f cdv A outer s H E hr => ?_
  have hu := hu_of hr.toRoom
  exact (ss_cons (s_if (k_cmp (o_in hu) (c_ix hu (c_var 0) c_int) (c_globT (x := "OF_FIELDS") (zs := ["measure", "breach", "view"]) T.p_OF_FIELDS) (by with_unfolding_all rfl)) (ss_one (s_ret (c_ix hu (c_var 0) c_int))) ss_nil) (ss_one (s_ret c_non)))
theorem ok_is_row_of (T : Txt w K mg) (B : Tbs base mg) : Okf P w K mg base 2 "is_row_of" 2 m_is_row_of := by
  have Sc := sc_is_row_of
  refine okf_of (b := b_is_row_of) T.f_is_row_of Sc (fun ds S Q => by rw [q_m_is_row_of]; rfl) fun f cdv A outer s H E hr => ?_
  have hu := hu_of hr.toRoom
  exact (ss_one (s_ret (c_cmp (o_in hu) (c_fn hr (ok_field_of T B) (by decide) (a_cons (c_var 1) a_nil)) (c_add (c_lst (a_cons c_non a_nil)) (c_lc (own := [("part", 2)]) (gown := [2]) rfl Sc.nd (i_seq (c_var 0)) (blkOk_by (N := ["laying", "row", "part"]) (sc := defScope s_is_row_of) (by decide +kernel)) (fun _ _ _ _ _ => (g_name (i := 2) Sc.nd rfl (by first | exact .inl rfl | exact .inr rfl))) (by decide) (fun _ _ _ _ _ => ts_nil) (fun _ _ _ _ _ => (c_ix hu (c_var 2) c_int)))) (by with_unfolding_all rfl))))
theorem ok_row_in (T : Txt w K mg) (B : Tbs base mg) : Okf P w K mg base 8 "row_in" 2 m_row_in := by
  have Sc := sc_row_in
  refine okf_of (b := b_row_in) T.f_row_in Sc (fun ds S Q => by rw [q_m_row_in]; rfl) fun f cdv A outer s H E hr => ?_
  have hu := hu_of hr.toRoom
  exact (ss_cons (s_tryS 2 Sc.nd hr (ok_row_of T B) (by decide) (au_var 1 au_nil) T.h_NoRow_0 su_retN) (ss_cons (s_if (k_tru (c_fn hr (ok_is_row_of T B) (by decide) (a_cons (c_var 0) (a_cons (c_var 2) a_nil)))) (ss_one (s_ret (c_var 2))) ss_nil) (ss_one (s_ret c_non))))
theorem ok_order_of (T : Txt w K mg) (B : Tbs base mg) : Okf P w K mg base 1 "order_of" 1 m_order_of := by
  have Sc := sc_order_of
  refine okf_of (b := b_order_of) T.f_order_of Sc (fun ds S Q => by rw [q_m_order_of]; rfl) fun f cdv A outer s H E hr => ?_
  have hu := hu_of hr.toRoom
  exact (ss_one (s_ret (c_tup (a_cons (c_ix hu (c_var 0) c_int) (a_cons (c_tab T.t_RANKS (c_ix hu (c_var 0) c_int)) (a_cons (c_ix hu (c_var 0) c_int) a_nil))))))
theorem ok_sorted_rows (T : Txt w K mg) (B : Tbs base mg) : Okf P w K mg base 3 "sorted_rows" 1 m_sorted_rows := by
  have Sc := sc_sorted_rows
  refine okf_of (b := b_sorted_rows) T.f_sorted_rows Sc (fun ds S Q => by rw [q_m_sorted_rows]; rfl) fun f cdv A outer s H E hr => ?_
  have hu := hu_of hr.toRoom
  exact (ss_one (s_ret (c_callTy y_tuple (by rfl) T.n_tuple (by decide +kernel) (a_cons (c_sortKeyA hr (ok_order_of T B) (by decide) T.n_sorted (c_var 0)) a_nil))))
theorem ok_with_row (T : Txt w K mg) (B : Tbs base mg) : OkfX P w K mg base 9 "with_row" 2 m_with_row := by
  have Sc := sc_with_row
  refine okfX_of (b := b_with_row) T.f_with_row Sc (fun ds S Q E => by rw [q_m_with_row]; rfl) fun f cdv A outer s H E hr => ?_
  have hu := hu_of hr.toRoom
  exact (ssx_cons (sx_of (s_asg (c_var 0) (g_tupL rfl (gs_cons (g_name (i := 3) Sc.nd rfl (by first | exact .inl rfl | exact .inr rfl)) (gs_cons (g_name (i := 4) Sc.nd rfl (by first | exact .inl rfl | exact .inr rfl)) gs_nil))))) (ssx_cons (sx_of (s_set (i := 2) Sc.nd rfl (by first | exact .inl rfl | exact .inr rfl) (c_fn hr (ok_row_in T B) (by decide) (a_cons (c_var 3) (a_cons (c_var 1) a_nil))))) (ssx_cons (sx_if (k_cmp o_is (c_var 2) c_non (nomark _)) (ssx_one (sx_raise rfl T.e_NoRow)) ssx_nil) (ssx_cons (sx_if (k_cmp (o_in hu) (c_ix hu (c_var 2) c_int) (c_lc (own := [("other", 5)]) (gown := [5]) rfl Sc.nd (i_seq (c_var 4)) (blkOk_by (N := ["roll", "thing", "row", "laying", "rows", "other"]) (sc := defScope s_with_row) (by decide +kernel)) (fun _ _ _ _ _ => (g_name (i := 5) Sc.nd rfl (by first | exact .inl rfl | exact .inr rfl))) (by decide) (fun _ _ _ _ _ => ts_nil) (fun _ _ _ _ _ => (c_ix hu (c_var 5) c_int))) (by with_unfolding_all rfl)) (ssx_one (sx_raise rfl T.e_Twice)) ssx_nil) (ssx_cons (sx_if (k_cmp o_ge (c_callB b_len (by rfl) T.n_len (by decide +kernel) (a_cons (c_var 4) a_nil)) (c_globI T.c_MOST_ROWS) (nomark _)) (ssx_one (sx_raise rfl T.e_TooMany)) ssx_nil) (ssx_one (sx_of (s_ret (c_tup (a_cons (c_var 3) (a_cons (c_fn hr (ok_sorted_rows T B) (by decide) (a_cons (c_add (c_var 4) (c_tup (a_cons (c_var 2) a_nil))) a_nil)) a_nil)))))))))))
theorem ok_wclass (T : Txt w K mg) (B : Tbs base mg) : Okf P w K mg base 1 "_law_class" 1 m_wclass := by
  have Sc := sc_wclass
  refine okf_of (b := b_wclass) T.f_wclass Sc (fun ds S Q => by rw [q_m_wclass]; rfl) fun f cdv A outer s H E hr => ?_
  have hu := hu_of hr.toRoom
  exact (ss_cons (s_set (i := 1) Sc.nd rfl (by first | exact .inl rfl | exact .inr rfl) (c_lst a_nil)) (ss_cons (s_if (k_tru (c_callB (b_isX T.x_tab) (by rfl) T.n_isinstance (by decide +kernel) (a_cons (c_var 0) (a_cons (c_cls T.k_NoRow) a_nil)))) (ss_one (s_expr (c_m m_append (c_var 1) (a_cons c_str a_nil)))) ss_nil) (ss_cons (s_if (k_tru (c_callB (b_isX T.x_tab) (by rfl) T.n_isinstance (by decide +kernel) (a_cons (c_var 0) (a_cons (c_cls T.k_NoRoll) a_nil)))) (ss_one (s_expr (c_m m_append (c_var 1) (a_cons c_str a_nil)))) ss_nil) (ss_cons (s_if (k_tru (c_callB (b_isX T.x_tab) (by rfl) T.n_isinstance (by decide +kernel) (a_cons (c_var 0) (a_cons (c_cls T.k_NoName) a_nil)))) (ss_one (s_expr (c_m m_append (c_var 1) (a_cons c_str a_nil)))) ss_nil) (ss_cons (s_if (k_tru (c_callB (b_isX T.x_tab) (by rfl) T.n_isinstance (by decide +kernel) (a_cons (c_var 0) (a_cons (c_cls T.k_Twice) a_nil)))) (ss_one (s_expr (c_m m_append (c_var 1) (a_cons c_str a_nil)))) ss_nil) (ss_cons (s_if (k_tru (c_callB (b_isX T.x_tab) (by rfl) T.n_isinstance (by decide +kernel) (a_cons (c_var 0) (a_cons (c_cls T.k_TooMany) a_nil)))) (ss_one (s_expr (c_m m_append (c_var 1) (a_cons c_str a_nil)))) ss_nil) (ss_cons (s_if (k_tru (c_callB (b_isX T.x_tab) (by rfl) T.n_isinstance (by decide +kernel) (a_cons (c_var 0) (a_cons (c_cls T.k_NoThen) a_nil)))) (ss_one (s_expr (c_m m_append (c_var 1) (a_cons c_str a_nil)))) ss_nil) (ss_cons (s_if (k_tru (c_callB (b_isX T.x_tab) (by rfl) T.n_isinstance (by decide +kernel) (a_cons (c_var 0) (a_cons (c_cls T.k_NoMend) a_nil)))) (ss_one (s_expr (c_m m_append (c_var 1) (a_cons c_str a_nil)))) ss_nil) (ss_cons (s_if (k_w (w_or (k_tru (c_callB (b_isX T.x_tab) (by rfl) T.n_isinstance (by decide +kernel) (a_cons (c_var 0) (a_cons (c_tup (a_cons (c_cls T.k_Clash) (a_cons (c_cls T.k_NoBreach) (a_cons (c_cls T.k_NoField) (a_cons (c_cls T.k_NoInch) (a_cons (c_cls T.k_NoOrder) (a_cons (c_cls T.k_NoText) a_nil))))))) a_nil)))) (w_or1 (k_not (k_tru (c_callB (b_isX T.x_tab) (by rfl) T.n_isinstance (by decide +kernel) (a_cons (c_var 0) (a_cons (c_bltn (by rfl) T.n_ValueError (by decide +kernel)) a_nil)))))))) (ss_one (s_ret c_str)) ss_nil) (ss_cons (s_if (k_cmp (o_ne hr.units) (c_callB b_len (by rfl) T.n_len (by decide +kernel) (a_cons (c_var 1) a_nil)) c_int (nomark _)) (ss_one (s_ret c_str)) ss_nil) (ss_one (s_ret (c_ix hu (c_var 1) c_int)))))))))))))
theorem ok_wtold (T : Txt w K mg) (B : Tbs base mg) {k : Nat} (hk : 1 ≤ k) : OkL P w K mg base k "_law_told" m_wtold := by
  have Sc := sc_wtold
  refine okl_of (b := b_wtold) T.f_wtold Sc rfl (by first | exact Or.inl rfl | exact Or.inr (Or.inl rfl)) (fun ask S Q f h => by rw [q_m_wtold] at h; exact h f) fun f cdv A outer s H hr => ?_
  have hr := hr.mono' hk
  have hu := hu_of hr.toRoom
  exact (csg_none (by decide) Sc.nd rfl (.inl rfl) (csg_none (by decide) Sc.nd rfl (.inl rfl) (csg_tryS (i := 3) (j := 1) (z := 2) rfl rfl rfl Sc.nd rfl rfl rfl rfl rfl rfl (by decide) T.h_DykeError_1 (ss_cons (s_if (k_cmp o_is (c_var 1) c_non (nomark _)) (ss_one (s_ret (c_lst (a_cons c_str (a_cons (c_var 2) a_nil))))) ss_nil) (ss_one (s_ret (c_lst (a_cons c_str (a_cons (c_fn hr (ok_wclass T B) (by decide) (a_cons (c_var 1) a_nil)) a_nil)))))))))
theorem ok_wwith_right (T : Txt w K mg) (B : Tbs base mg) : Okf P w K mg base 12 "_law_with_right" 4 m_wwith_right := by
  have Sc := sc_wwith_right
  refine okf_ofC (b := b_wwith_right) T.f_wwith_right Sc (fun ds S Q => by rw [q_m_wwith_right]; rfl) fun f A outer s H E hr => ?_
  have hu := hu_of hr.toRoom
  exact (ss_cons (s_asg (c_fn hr (ok_wput_in T B) (by decide) (a_cons (c_var 0) (a_cons (c_var 1) (a_cons (c_var 2) (a_cons (c_var 3) a_nil))))) (g_tupL rfl (gs_cons (g_name (i := 8) Sc.nd rfl (by first | exact .inl rfl | exact .inr rfl)) (gs_cons (g_name (i := 9) Sc.nd rfl (by first | exact .inl rfl | exact .inr rfl)) gs_nil)))) (ss_cons (s_set (i := 4) Sc.nd rfl (by first | exact .inl rfl | exact .inr rfl) (c_callB (b_repr hr) (by rfl) T.n_repr (by decide +kernel) (a_cons (c_lst (a_cons (c_var 1) (a_cons (c_var 8) a_nil))) a_nil))) (ss_cons (s_set (i := 5) Sc.nd rfl (by first | exact .inl rfl | exact .inr rfl) (c_lamC (k := 9) "_law_with_right.<locals>.<lambda>" (ok_wtold T B (by decide)) (B.t_wwith_right) rfl rfl (hr.mono' (by decide)) (show LamX.lamSB (defScope s_wwith_right) _ = true by decide +kernel) (fun A outer s H E f c' hr => have hu := hu_of hr.toRoom; (cx_fn hr (ok_with_row T B) (by decide) (a_cons (c_var 1) (a_cons (c_var 8) a_nil)))))) (ss_cons (s_if (k_cmp (o_ne hr.units) (c_var 9) c_str (nomark _)) (ss_one (s_ret (c_and (c_cmp (o_eq hr.units) (c_var 5) (c_lst (a_cons c_str (a_cons (c_var 9) a_nil))) (nomark _)) (c_one (c_cmp (o_eq hr.units) (c_callB (b_repr hr) (by rfl) T.n_repr (by decide +kernel) (a_cons (c_lst (a_cons (c_var 1) (a_cons (c_var 8) a_nil))) a_nil)) (c_var 4) (nomark _)))))) ss_nil) (ss_cons (s_set (i := 6) Sc.nd rfl (by first | exact .inl rfl | exact .inr rfl) (c_add (c_ix hu (c_var 1) c_int) (c_tup (a_cons (c_var 2) a_nil)))) (ss_cons (s_set (i := 7) Sc.nd rfl (by first | exact .inl rfl | exact .inr rfl) (c_tup (a_cons (c_ix hu (c_var 1) c_int) (a_cons (c_callTy y_tuple (by rfl) T.n_tuple (by decide +kernel) (a_cons (c_sortKeyA hr (ok_wplace T B) (by decide) T.n_sorted (c_var 6)) a_nil)) a_nil)))) (ss_one (s_ret (c_and (c_cmp (o_eq hr.units) (c_ix hu (c_var 5) c_int) c_str (nomark _)) (c_and (c_cmp (o_eq hr.units) (c_callB (b_repr hr) (by rfl) T.n_repr (by decide +kernel) (a_cons (c_ix hu (c_var 5) c_int) a_nil)) (c_callB (b_repr hr) (by rfl) T.n_repr (by decide +kernel) (a_cons (c_var 7) a_nil)) (nomark _)) (c_one (c_cmp (o_eq hr.units) (c_callB (b_repr hr) (by rfl) T.n_repr (by decide +kernel) (a_cons (c_lst (a_cons (c_var 1) (a_cons (c_var 8) a_nil))) a_nil)) (c_var 4) (nomark _)))))))))))))
theorem ok_row_called (T : Txt w K mg) (B : Tbs base mg) : OkfX P w K mg base 1 "row_called" 2 m_row_called := by
  have Sc := sc_row_called
  refine okfX_of (b := b_row_called) T.f_row_called Sc (fun ds S Q E => by rw [q_m_row_called]; rfl) fun f cdv A outer s H E hr => ?_
  have hu := hu_of hr.toRoom
  exact (ssx_cons (sx_of (s_for (passes_of rfl) rfl (i_seq (c_ix hu (c_var 0) c_int)) (g_name (i := 2) Sc.nd rfl (by first | exact .inl rfl | exact .inr rfl)) (ss_one (s_if (k_cmp (o_eqX hr.units) (c_ix hu (c_var 2) c_int) (c_var 1) (nomark _)) (ss_one (s_ret (c_var 2))) ss_nil)))) (ssx_one (sx_raise rfl T.e_NoName)))
theorem ok_without_row (T : Txt w K mg) (B : Tbs base mg) : OkfX P w K mg base 2 "without_row" 2 m_without_row := by
  have Sc := sc_without_row
  refine okfX_of (b := b_without_row) T.f_without_row Sc (fun ds S Q E => by rw [q_m_without_row]; rfl) fun f cdv A outer s H E hr => ?_
  have hu := hu_of hr.toRoom
  exact (ssx_cons (sx_set (i := 2) Sc.nd rfl (by first | exact .inl rfl | exact .inr rfl) (cx_fn hr (ok_row_called T B) (by decide) (a_cons (c_var 0) (a_cons (c_var 1) a_nil)))) (ssx_one (sx_of (s_ret (c_tup (a_cons (c_ix hu (c_var 0) c_int) (a_cons (c_callTy y_tuple (by rfl) T.n_tuple (by decide +kernel) (a_cons (c_lc (own := [("row", 3)]) (gown := [3]) rfl Sc.nd (i_seq (c_ix hu (c_var 0) c_int)) (blkOk_by (N := ["roll", "name", "gone", "row"]) (sc := defScope s_without_row) (by decide +kernel)) (fun _ _ _ _ _ => (g_name (i := 3) Sc.nd rfl (by first | exact .inl rfl | exact .inr rfl))) (by decide) (fun _ _ _ _ _ => (ts_one (k_cmp (o_ne hr.units) (c_var 3) (c_var 2) (nomark _)))) (fun _ _ _ _ _ => (c_var 3))) a_nil)) a_nil)))))))
theorem ok_wwithout_right (T : Txt w K mg) (B : Tbs base mg) : Okf P w K mg base 10 "_law_without_right" 2 m_wwithout_right := by
  have Sc := sc_wwithout_right
  refine okf_of (b := b_wwithout_right) T.f_wwithout_right Sc (fun ds S Q => by rw [q_m_wwithout_right]; rfl) fun f cdv A outer s H E hr => ?_
  have hu := hu_of hr.toRoom
  exact (ss_cons (s_if (k_cmp (o_ne hr.units) (c_callB (b_repr hr) (by rfl) T.n_repr (by decide +kernel) (a_cons (c_fnX hr (ok_row_called T B) (by decide) (a_cons (c_var 0) (a_cons (c_ix hu (c_var 1) c_int) a_nil))) a_nil)) (c_callB (b_repr hr) (by rfl) T.n_repr (by decide +kernel) (a_cons (c_var 1) a_nil)) (nomark _)) (ss_one (s_ret c_bl)) ss_nil) (ss_cons (s_set (i := 2) Sc.nd rfl (by first | exact .inl rfl | exact .inr rfl) (c_tup (a_cons (c_ix hu (c_var 0) c_int) (a_cons (c_callTy y_tuple (by rfl) T.n_tuple (by decide +kernel) (a_cons (c_lc (own := [("_law_other", 4)]) (gown := [4]) rfl Sc.nd (i_seq (c_ix hu (c_var 0) c_int)) (blkOk_by (N := ["_law_roll", "_law_row_here", "_law_owed", "_law_found", "_law_other"]) (sc := defScope s_wwithout_right) (by decide +kernel)) (fun _ _ _ _ _ => (g_name (i := 4) Sc.nd rfl (by first | exact .inl rfl | exact .inr rfl))) (by decide) (fun _ _ _ _ _ => (ts_one (k_cmp (o_ne hr.units) (c_var 4) (c_var 1) (nomark _)))) (fun _ _ _ _ _ => (c_var 4))) a_nil)) a_nil)))) (ss_cons (s_set (i := 3) Sc.nd rfl (by first | exact .inl rfl | exact .inr rfl) (c_fnX hr (ok_without_row T B) (by decide) (a_cons (c_var 0) (a_cons (c_ix hu (c_var 1) c_int) a_nil)))) (ss_cons (s_if (k_cmp (o_ne hr.units) (c_callB (b_repr hr) (by rfl) T.n_repr (by decide +kernel) (a_cons (c_var 3) a_nil)) (c_callB (b_repr hr) (by rfl) T.n_repr (by decide +kernel) (a_cons (c_var 2) a_nil)) (nomark _)) (ss_one (s_ret c_bl)) ss_nil) (ss_one (s_ret (c_cmp (o_eq hr.units) (c_callB (b_repr hr) (by rfl) T.n_repr (by decide +kernel) (a_cons (c_fnX hr (ok_with_row T B) (by decide) (a_cons (c_var 3) (a_cons (c_var 1) a_nil))) a_nil)) (c_callB (b_repr hr) (by rfl) T.n_repr (by decide +kernel) (a_cons (c_var 0) a_nil)) (nomark _))))))))
theorem ok_wnot_called (T : Txt w K mg) (B : Tbs base mg) : Okf P w K mg base 5 "_law_not_called" 2 m_wnot_called := by
  have Sc := sc_wnot_called
  refine okf_ofC (b := b_wnot_called) T.f_wnot_called Sc (fun ds S Q => by rw [q_m_wnot_called]; rfl) fun f A outer s H E hr => ?_
  have hu := hu_of hr.toRoom
  exact (ss_cons (s_for PassesOwn.never rfl (i_seq (c_add (c_var 1) (c_lst (a_cons c_non (a_cons c_bl (a_cons c_int (a_cons c_str (a_cons c_str (a_cons (c_lst (a_cons c_str a_nil)) (a_cons (c_tup (a_cons c_str a_nil)) (a_cons c_dict0 a_nil))))))))))) (g_name (i := 2) Sc.nd rfl (by first | exact .inl rfl | exact .inr rfl)) (ss_cons (s_if (k_cmp (o_ne hr.units) (c_lamC (k := 2) "_law_not_called.<locals>.<lambda>" (ok_wtold T B (by decide)) (B.t_wnot_called) rfl rfl (hr.mono' (by decide)) (show LamX.lamSB (defScope s_wnot_called) _ = true by decide +kernel) (fun A outer s H E f c' hr => have hu := hu_of hr.toRoom; (cx_fn hr (ok_row_called T B) (by decide) (a_cons (c_var 0) (a_cons (c_var 2) a_nil))))) (c_lst (a_cons c_str (a_cons c_str a_nil))) (nomark _)) (ss_one (s_ret c_bl)) ss_nil) (ss_one (s_if (k_cmp (o_ne hr.units) (c_lamC (k := 2) "_law_not_called.<locals>.<lambda>" (ok_wtold T B (by decide)) (B.t_wnot_called) rfl rfl (hr.mono' (by decide)) (show LamX.lamSB (defScope s_wnot_called) _ = true by decide +kernel) (fun A outer s H E f c' hr => have hu := hu_of hr.toRoom; (cx_fn hr (ok_without_row T B) (by decide) (a_cons (c_var 0) (a_cons (c_var 2) a_nil))))) (c_lst (a_cons c_str (a_cons c_str a_nil))) (nomark _)) (ss_one (s_ret c_bl)) ss_nil)))) (ss_one (s_ret c_bl)))
theorem fn_law (T : Txt w K mg) (B : Tbs base mg) {f : Addr} {fd : FuncData} (F : Fun K "law" "law" s_law f fd) : FnG P w K mg base CX0 13 f fd ["_law_script"] (spD K 1 m_law) := by
  have Sc := sc_law
  rw [q_m_law]
  refine def_ok (b := b_law) F Sc fun cdv A outer s H E hr => ?_
  have hu := hu_of hr.toRoom
  exact (ss_cons (s_set (i := 1) Sc.nd rfl (by first | exact .inl rfl | exact .inr rfl) (c_fn hr (ok_wpen T B) (by decide) (a_cons (c_var 0) a_nil))) (ss_cons (s_set (i := 2) Sc.nd rfl (by first | exact .inl rfl | exact .inr rfl) (c_ix hu (c_lst (a_cons c_int (a_cons c_int (a_cons (c_fn hr (ok_wtake T B) (by decide) (a_cons (c_var 1) (a_cons c_int a_nil))) (a_cons c_int (a_cons (c_fn hr (ok_wtake T B) (by decide) (a_cons (c_var 1) (a_cons c_int a_nil))) a_nil)))))) (c_fn hr (ok_wtake T B) (by decide) (a_cons (c_var 1) (a_cons c_int a_nil))))) (ss_cons (s_asg (c_fn hr (ok_wsorts T B) (by decide) (a_cons (c_var 1) (a_cons (c_add c_int (c_fn hr (ok_wtake T B) (by decide) (a_cons (c_var 1) (a_cons c_int a_nil)))) (a_cons c_int a_nil)))) (g_tupL rfl (gs_cons (g_name (i := 10) Sc.nd rfl (by first | exact .inl rfl | exact .inr rfl)) (gs_cons (g_name (i := 11) Sc.nd rfl (by first | exact .inl rfl | exact .inr rfl)) (gs_cons (g_name (i := 12) Sc.nd rfl (by first | exact .inl rfl | exact .inr rfl)) (gs_cons (g_name (i := 13) Sc.nd rfl (by first | exact .inl rfl | exact .inr rfl)) gs_nil)))))) (ss_cons (s_set (i := 3) Sc.nd rfl (by first | exact .inl rfl | exact .inr rfl) (c_fn hr (ok_wdays T B) (by decide) (a_cons (c_var 1) (a_cons c_int a_nil)))) (ss_cons (s_set (i := 4) Sc.nd rfl (by first | exact .inl rfl | exact .inr rfl) (c_fn hr (ok_wlaying T B) (by decide) (a_cons (c_var 1) (a_cons (c_var 10) (a_cons (c_var 12) a_nil))))) (ss_cons (s_setLc (i := 5) (own := [("_law_k", 14)]) (gown := [14]) rfl Sc.nd rfl rfl (sw_true rfl rfl rfl (by decide +kernel)) (i_range1 (by rfl) T.n_range (a_cons (c_var 2) a_nil)) (blkOk_by (N := ["_law_script", "_law_pen_here", "_law_many", "_law_days_here", "_law_laying_here", "_law_rows", "_law_roll", "_law_strange", "_law_fresh", "_law_turn", "_law_fields", "_law_plots", "_law_houses", "_law_names_here", "_law_k", "_law_name", "_law_row_here"]) (sc := defScope s_law) (by decide +kernel)) (fun _ _ _ _ _ => (g_name (i := 14) Sc.nd rfl (by first | exact .inl rfl | exact .inr rfl))) (by decide) (fun _ _ _ _ _ => ts_nil) (fun _ _ _ _ _ => (c_fn hr (ok_wrow T B) (by decide) (a_cons (c_var 1) (a_cons (c_ix hu (c_var 13) (c_var 14)) (a_cons (c_ix hu (c_var 3) (c_var 14)) (a_cons (c_tup (a_cons (c_var 10) (a_cons (c_var 11) (a_cons (c_var 12) a_nil)))) a_nil))))))) (ss_cons (s_set (i := 6) Sc.nd rfl (by first | exact .inl rfl | exact .inr rfl) (c_tup (a_cons (c_var 4) (a_cons (c_callTy y_tuple (by rfl) T.n_tuple (by decide +kernel) (a_cons (c_sortKey hr (ok_wplace T B) (by decide) T.n_sorted (c_var 5)) a_nil)) a_nil)))) (ss_cons (s_set (i := 7) Sc.nd rfl (by first | exact .inl rfl | exact .inr rfl) (c_ix hu (c_lc (own := [("_law_name", 15)]) (gown := [15]) rfl Sc.nd (i_seq (c_add (c_lst (a_cons c_str (a_cons c_str (a_cons c_str (a_cons c_str a_nil))))) (c_var 10))) (blkOk_by (N := ["_law_script", "_law_pen_here", "_law_many", "_law_days_here", "_law_laying_here", "_law_rows", "_law_roll", "_law_strange", "_law_fresh", "_law_turn", "_law_fields", "_law_plots", "_law_houses", "_law_names_here", "_law_k", "_law_name", "_law_row_here"]) (sc := defScope s_law) (by decide +kernel)) (fun _ _ _ _ _ => (g_name (i := 15) Sc.nd rfl (by first | exact .inl rfl | exact .inr rfl))) (by decide) (fun _ _ _ _ _ => (ts_one (k_cmp (o_notIn hu) (c_var 15) (c_var 10) (by with_unfolding_all rfl)))) (fun _ _ _ _ _ => (c_var 15))) c_int)) (ss_cons (s_set (i := 8) Sc.nd rfl (by first | exact .inl rfl | exact .inr rfl) (c_fn hr (ok_wrow T B) (by decide) (a_cons (c_var 1) (a_cons (c_ix hu (c_var 13) c_int) (a_cons (c_ix hu (c_var 3) c_int) (a_cons (c_tup (a_cons (c_var 10) (a_cons (c_var 11) (a_cons (c_var 12) a_nil)))) a_nil)))))) (ss_cons (s_for PassesOwn.never rfl (i_range1 (by rfl) T.n_range (a_cons c_int a_nil)) (g_name (i := 9) Sc.nd rfl (by first | exact .inl rfl | exact .inr rfl)) (ss_one (s_if (k_not (k_tru (c_fn hr (ok_wwith_right T B) (by decide) (a_cons (c_var 1) (a_cons (c_var 6) (a_cons (c_var 8) (a_cons (c_var 7) a_nil))))))) (ss_one (s_ret c_bl)) ss_nil))) (ss_cons (s_if (k_not (k_tru (c_callB (b_all rfl) (by rfl) T.n_all (by decide +kernel) (a_cons (c_lc (own := [("_law_row_here", 16)]) (gown := [16]) rfl Sc.nd (i_seq (c_ix hu (c_var 6) c_int)) (blkOk_by (N := ["_law_script", "_law_pen_here", "_law_many", "_law_days_here", "_law_laying_here", "_law_rows", "_law_roll", "_law_strange", "_law_fresh", "_law_turn", "_law_fields", "_law_plots", "_law_houses", "_law_names_here", "_law_k", "_law_name", "_law_row_here"]) (sc := defScope s_law) (by decide +kernel)) (fun _ _ _ _ _ => (g_name (i := 16) Sc.nd rfl (by first | exact .inl rfl | exact .inr rfl))) (by decide) (fun _ _ _ _ _ => ts_nil) (fun _ _ _ _ _ => (c_fn hr (ok_wwithout_right T B) (by decide) (a_cons (c_var 6) (a_cons (c_var 16) a_nil))))) a_nil)))) (ss_one (s_ret c_bl)) ss_nil) (ss_one (s_ret (c_fn hr (ok_wnot_called T B) (by decide) (a_cons (c_var 6) (a_cons (c_sl (c_var 13) (p_some c_int) p_none) a_nil))))))))))))))))
end
theorem ft_mk {K : PySem.W.Frag} {h : Heap} {mg : Str → Option Value} {x : Str} {st : Stmt} {ps : List Str} {f : Addr} {od an : Option Addr} {sl : Array (Option Value)} {oc kV dc pm cd ct : Value} (X : K.In h) (G : h.Ns mainGlobals mg)
    (a : PySem.W.nsIn K mainGlobals x = some (some (.ref f))) (l : K.lookup f = some ⟨oc, od, .func (PySem.W.fnOf x x (defArgs st) (defBody st) (defScope st) .none kV dc pm an cd ct), sl⟩) (c : PySem.W.codeIn K cd x = true) (k : PySem.W.keepIn K (.ref f) = true)
    (b : ∀ (kV doc pm : Value) (an : Option Addr) (cdv ct : Value) (us : List Value), us.length = ps.length → bindArgs (PySem.W.fnOf x x (defArgs st) (defBody st) (defScope st) .none kV doc pm an cdv ct) ⟨us, []⟩ = pure (ps.zip us)) : FT K mg x st ps :=
  have F := fun_mk (st := st) l c k
  ⟨f, _, F, F.binds b, PySem.W.mg_of X G a⟩
theorem ftc_mk {K : PySem.W.Frag} {h : Heap} {mg : Str → Option Value} {x : Str} {st : Stmt} {ps : List Str} {f c : Addr} {od an : Option Addr} {sl : Array (Option Value)} {oc kV dc pm ct : Value} (X : K.In h) (G : h.Ns mainGlobals mg)
    (a : PySem.W.nsIn K mainGlobals x = some (some (.ref f))) (l : K.lookup f = some ⟨oc, od, .func (PySem.W.fnOf x x (defArgs st) (defBody st) (defScope st) .none kV dc pm an (.ref c) ct), sl⟩) (cc : PySem.W.codeIn K (.ref c) x = true) (k : PySem.W.keepIn K (.ref f) = true)
    (b : ∀ (kV doc pm : Value) (an : Option Addr) (cdv ct : Value) (us : List Value), us.length = ps.length → bindArgs (PySem.W.fnOf x x (defArgs st) (defBody st) (defScope st) .none kV doc pm an cdv ct) ⟨us, []⟩ = pure (ps.zip us)) : FTC K mg x st ps c :=
  have F := fun_mk (st := st) l cc k
  ⟨f, _, _, _, _, _, _, _, _, l, cc, k, F.binds b, PySem.W.mg_of X G a⟩
theorem law_mk {l : PySem.W.OpenLaw} {w : World} {K : PySem.W.Frag} {h : Heap} {mg : Str → Option Value} {fa f2 : Addr} (X : K.In h) (G : h.Ns mainGlobals mg) (hfa : mg "law" = some (.ref fa)) (T : Txt w K mg)
    {od an : Option Addr} {sl : Array (Option Value)} {oc kV dc pm cd ct : Value}
    (a2 : PySem.W.nsIn K mainGlobals "law" = some (some (.ref f2))) (l2 : K.lookup f2 = some ⟨oc, od, .func (PySem.W.fnOf "law" "law" (defArgs s_law) (defBody s_law) (defScope s_law) .none kV dc pm an cd ct), sl⟩) (c2 : PySem.W.codeIn K cd "law" = true) (k2 : PySem.W.keepIn K (.ref f2) = true) :
    ∃ fd : FuncData, (∀ (s : Shared) (v : Value), BindsTo s fd ⟨[v], []⟩ [("_law_script", v)]) ∧ ∀ base : Heap, K.In base → base.Ns mainGlobals mg → (∀ t ∈ tabT, LamX.TabB base mg t.2.1 t.2.2.1) → FnG l.prog w K mg base CX0 13 fa fd ["_law_script"] (spD K 1 m_law) := by
  have e := hfa.symm.trans (PySem.W.mg_of X G a2)
  cases e
  exact ⟨PySem.W.fnOf "law" "law" (defArgs s_law) (defBody s_law) (defScope s_law) .none kV dc pm an cd ct, fun s v => .of_eq rfl, fun base _ _ hB => fn_law T ⟨hB _ (.head _), hB _ (.tail _ (.head _))⟩ (fun_mk l2 c2 k2)⟩
end LW
namespace LW
open PySem L2 DL
abbrev kS (x : Str) : Key := Sum.inr x
def penKv (c : Addr) (a l : Int) : List (Key × D) := [(kS "cells", .ref c), (kS "at", .int a), (kS "left", .int l)]
theorem k_ca : ¬ (kS "cells" = kS "at") := by decide +kernel
theorem k_cl : ¬ (kS "cells" = kS "left") := by decide +kernel
theorem k_al : ¬ (kS "at" = kS "left") := by decide +kernel
theorem k_la : ¬ (kS "left" = kS "at") := by decide +kernel
theorem pen_cells {c a l} : valD (penKv c a l) (kS "cells") = some (.ref c) := by unfold penKv valD; rw [if_pos rfl]
theorem pen_at {c a l} : valD (penKv c a l) (kS "at") = some (.int a) := by unfold penKv valD; rw [if_neg k_ca]; unfold valD; rw [if_pos rfl]
theorem pen_left {c a l} : valD (penKv c a l) (kS "left") = some (.int l) := by unfold penKv valD; rw [if_neg k_cl]; unfold valD; rw [if_neg k_al]; unfold valD; rw [if_pos rfl]
theorem put_at {c a l v} : putD (penKv c a l) (kS "at") (.int v) = penKv c v l := by
  unfold putD hasD
  rw [pen_at]
  show replD (penKv c a l) (kS "at") (.int v) = _
  unfold penKv
  simp only [replD, if_neg k_ca, if_neg k_la, if_true]
theorem put_left {c a l v} : putD (penKv c a l) (kS "left") (.int v) = penKv c a v := by
  unfold putD hasD
  rw [pen_left]
  show replD (penKv c a l) (kS "left") (.int v) = _
  unfold penKv
  simp only [replD, if_neg k_cl, if_neg k_al, if_true]
theorem pen_len {c a l} : (penKv c a l).length = 3 := rfl
theorem three_line : 3 < sizeLine := by decide
theorem nil_line : 0 ≤ sizeLine := Nat.zero_le _
structure Pen (S : Sto) (p c : Addr) (b : Nat) : Prop where
  ex : ∃ (ns : List Int) (a l : Int), S p = some (.dk (penKv c a l)) ∧ S c = some (.lst (ns.map .int)) ∧ ns.length ≤ 63 ∧ 0 ≤ a ∧ a ≤ b ∧ 0 ≤ l
/-- all but the pen stays -/
def Kp (p : Addr) (S S' : Sto) : Prop := ∀ a o, a ≠ p → S a = some o → S' a = some o
theorem Kp.trans {p : Addr} {S S1 S2 : Sto} (x : Kp p S S1) (y : Kp p S1 S2) : Kp p S S2 := fun a o n h => y a o n (x a o n h)
theorem Kp.refl {p : Addr} {S : Sto} : Kp p S S := fun _ _ _ h => h
theorem Kp.new {p q : Addr} {S : Sto} {o : O} (h : S q = none) : Kp p S (updS S q o) := fun a u _ e => by rw [updS_ne (neS e h)]; exact e
theorem Kp.put {p : Addr} {S : Sto} {o : O} : Kp p S (updS S p o) := fun a u n e => by rw [updS_ne n]; exact e
theorem Pen.keep {p pc : Addr} {S S' : Sto} {b : Nat} (h : Pen S p pc b) (k : ∀ a o, S a = some o → S' a = some o) : Pen S' p pc b :=
  let ⟨ns, a, l, h1, h2, h3⟩ := h.ex; ⟨ns, a, l, k _ _ h1, k _ _ h2, h3⟩
theorem Pen.new {p pc q : Addr} {S : Sto} {o : O} {b : Nat} (h : Pen S p pc b) (hq : S q = none) : Pen (updS S q o) p pc b := h.keep fun a u e => by rw [updS_ne (neS e hq)]; exact e
theorem Pen.mono {p pc : Addr} {S : Sto} {b b2 : Nat} (h : Pen S p pc b) (hb : b ≤ b2) : Pen S p pc b2 := let ⟨ns, a, l, h1, h2, h3, h4, h5, h6⟩ := h.ex; ⟨ns, a, l, h1, h2, h3, h4, by omega, h6⟩
theorem get_ints {ns : List Int} {i : Int} (h0 : 0 ≤ i) (h : i < ns.length) : ∃ z, atI (ns.map D.int) i = some (.int z) := by
  obtain ⟨k, rfl⟩ : ∃ k : Nat, i = (k : Nat) := ⟨i.toNat, by omega⟩
  have hl : k < ns.length := by omega
  refine ⟨ns[k], atI_nat ?_⟩
  rw [List.getElem?_map]
  simp [hl]
theorem take_spec {S : Sto} {p c : Addr} {b : Nat} {n : Int} {Q : DK} (h : Pen S p c b) (hb : b + 1 ≤ 100000000) (hn : 0 < n) (hm : n.natAbs.log2 < 9000)
   (q : ∀ (k : Int) (S' : Sto), 0 ≤ k → k < n → Pen S' p c (b + 1) → Kp p S S' → Q (.int k) S') : m_wtake [.ref p, .int n] S Q := by
  obtain ⟨ns, a, l, h1, h2, h3, h4, h5, h6⟩ := h
  have hcp : c ≠ p := fun e => by subst e; rw [h1] at h2; cases h2
  rw [e_wtake]
  refine seq_i ?_
  simp_arith! [h1, pen_left]
  by_cases hl : 0 < l
  · rw [if_pos hl]
    refine seq_i ?_
    simp_arith! [h1, pen_left]
    refine ⟨hn, seq_i ?_⟩
    simp_arith! [h1, pen_left, put_left, pen_len]
    refine ⟨⟨hn, hm⟩, three_line, ret_i ?_⟩
    simp_arith! []
    exact q _ _ (Int.emod_nonneg _ (by omega)) (Int.emod_lt_of_pos _ hn) ⟨ns, a, l / n, updS_same, by rw [updS_ne hcp]; exact h2, h3, h4, by omega, Int.ediv_nonneg h6 (by omega)⟩ .put
  · rw [if_neg hl]
    refine seq_i ?_
    simp_arith! [h1, pen_at]
    refine seq_i ?_
    simp_arith! [h1, put_at, pen_len]
    refine ⟨three_line, seq_i ?_⟩
    simp_arith! [updS_same, pen_cells]
    have hS : Kp p S (updS S p (.dk (penKv c (a + 1) l))) := .put
    have hc : updS S p (.dk (penKv c (a + 1) l)) c = some (.lst (ns.map .int)) := by rw [updS_ne hcp]; exact h2
    have hpp : updS S p (.dk (penKv c (a + 1) l)) p = some (.dk (penKv c (a + 1) l)) := updS_same
    generalize updS S p (.dk (penKv c (a + 1) l)) = S1 at hS hc hpp
    refine seq_i ?_
    simp_arith! []
    refine ⟨mulS (by omega) (by omega) (by omega) (by omega), mulS (by omega) (by omega) (by omega) (by omega), mulS (by omega) (by omega) (by omega) (by omega), ?_⟩
    generalize 70207 * a * a + 131 * a + 29 = z0
    refine seq_i ?_
    simp_arith! []
    refine ⟨nil_line, fun p1 hp1 => ?_⟩
    have hcp1 : c ≠ p1 := neS hc hp1
    have hpp1 : p ≠ p1 := neS hpp hp1
    refine eq_nil (by rw [updS_ne hcp1]; exact hc) updS_same (pds_ints ns) (depth_ints ns) ?_
    have hc2 : updS S1 p1 (.lst []) c = some (.lst (ns.map .int)) := by rw [updS_ne hcp1]; exact hc
    have hpp2 : updS S1 p1 (.lst []) p = some (.dk (penKv c (a + 1) l)) := by rw [updS_ne hpp1]; exact hpp
    have hS2 : Kp p S (updS S1 p1 (.lst [])) := hS.trans (.new hp1)
    generalize updS S1 p1 (.lst []) = S2 at hc2 hpp2 hS2
    simp_arith! [List.isEmpty_map, hc2]
    -- the cell
    have rest : ∀ z, t_wtake_11 ⟨fun x S => Q .non S, Q, fun _ _ => False, fun _ _ => False⟩ [some (.ref p), some (.int n), some (.int a), some (.ref c), some (.int z), none, none, none] S2 := by
      intro z
      have fin : t_wtake_14 ⟨fun x S => Q .non S, Q, fun _ _ => False, fun _ _ => False⟩ [some (.ref p), some (.int n), some (.int a), some (.ref c), some (.int z), none, none, none] S2 := by
        refine seq_i ?_
        simp_arith! []
        have z1 : 0 ≤ z % 2147483587 := Int.emod_nonneg _ (by decide)
        have z2 : z % 2147483587 < 2147483587 := Int.emod_lt_of_pos _ (by decide)
        refine ⟨by decide, mulS (by omega) (by omega) (by omega) (by omega), powS (by decide) (by decide) (by omega) (by omega), by decide, seq_i ?_⟩
        have y1 : 0 ≤ (z % 2147483587 + 45007 * a + 11) ^ Int.toNat 3 % 2147483629 := Int.emod_nonneg _ (by decide)
        have y2 : (z % 2147483587 + 45007 * a + 11) ^ Int.toNat 3 % 2147483629 < 2147483629 := Int.emod_lt_of_pos _ (by decide)
        generalize (z % 2147483587 + 45007 * a + 11) ^ Int.toNat 3 % 2147483629 = one at y1 y2
        simp_arith! []
        have x1 : 1213 * a * a ≤ 1213 * 100000000 * 100000000 := Int.mul_le_mul (by omega) (by omega) h4 (by omega)
        have x0 : 0 ≤ 1213 * a * a := Int.mul_nonneg (by omega) h4
        refine ⟨mulS (by omega) (by omega) (by omega) (by omega), mulS (by omega) (by omega) (by omega) (by omega), powS (by decide) (by decide) (by omega) (by omega), by decide, ret_i ?_⟩
        simp_arith! []
        have w1 : 0 ≤ (one + 1213 * a * a + 3) ^ Int.toNat 5 % 2147483543 := Int.emod_nonneg _ (by decide)
        have w2 : (one + 1213 * a * a + 3) ^ Int.toNat 5 % 2147483543 < 2147483543 := Int.emod_lt_of_pos _ (by decide)
        generalize (one + 1213 * a * a + 3) ^ Int.toNat 5 % 2147483543 = two at w1 w2
        have v1 : 0 ≤ one % 64007 := Int.emod_nonneg _ (by decide)
        have v2 : one % 64007 < 64007 := Int.emod_lt_of_pos _ (by decide)
        refine ⟨by decide, mulS (by omega) (by omega) (by omega) (by omega), by decide, fdivS (by decide) (by decide), hn, ?_⟩
        exact q _ _ (Int.emod_nonneg _ (by omega)) (Int.emod_lt_of_pos _ hn) ⟨ns, a + 1, l, hpp2, hc2, h3, by omega, by omega, h6⟩ hS2
      refine seq_i ?_
      simp_arith! [hc2, List.length_map]
      by_cases ha : a < ns.length
      · rw [if_pos ha]
        refine ⟨powS (by decide) (by decide) (by decide) (by decide), ?_⟩
        by_cases hz : (10 : Int) ^ Int.toNat 18 ≤ if z < 0 then -z else z
        · rw [if_pos hz]
          refine seq_i ?_
          simp_arith! [hpp2, put_left, pen_len]
          refine ⟨⟨hn, hm⟩, three_line, hn, ?_⟩
          refine q _ _ (Int.emod_nonneg _ (by omega)) (Int.emod_lt_of_pos _ hn) ⟨ns, a + 1, _, updS_same, by rw [updS_ne hcp]; exact hc2, h3, by omega, by omega, Int.ediv_nonneg (by split <;> omega) (by omega)⟩ (hS2.trans .put)
        · rw [if_neg hz]
          exact fin
      · rw [if_neg ha]
        exact fin
    by_cases he : ns.isEmpty
    · simp_arith! [he]
      exact rest z0
    · simp_arith! [he]
      have hpos : 0 < ns.length := by cases ns with
        | nil => exact (he rfl).elim
        | cons x r => simp
      refine ⟨by rw [List.length_map]; omega, ?_⟩
      rw [List.length_map]
      obtain ⟨z, hz⟩ := get_ints (ns := ns) (i := a % (ns.length : Int)) (Int.emod_nonneg _ (by omega)) (Int.emod_lt_of_pos _ (by omega))
      exact ⟨_, hz, rest z⟩
end LW
/-! names: the plain part -/
namespace LW
open PySem L2 DL
theorem small_line {n : Nat} (h : n ≤ 100000) : n ≤ sizeLine := Nat.le_trans h (by decide)
def wordA (t k : Nat) : List Nat := [97 + (t + 7 * k) % 26, 97 + (t + k / 26) % 26]
def bw (t r : Nat) : List Nat := if h : r = 0 then [] else bw t ((r - 1) / 2) ++ [97 + (t + 9 * (r % 2)) % 26]
termination_by r
decreasing_by omega
theorem bw_zero (t : Nat) : bw t 0 = [] := by rw [bw]; simp
theorem bw_pos {t r : Nat} (h : 0 < r) : bw t r = bw t ((r - 1) / 2) ++ [97 + (t + 9 * (r % 2)) % 26] := by
  rw [bw]
  rw [dif_neg (by omega)]
theorem bw_len (t : Nat) : ∀ r, (bw t r).length ≤ r := by
  intro r
  induction r using Nat.strongRecOn with
  | _ r ih =>
    by_cases h : r = 0
    · subst h; rw [bw_zero]; simp
    · rw [bw_pos (by omega), List.length_append]
      have := ih ((r - 1) / 2) (by omega)
      simp
      omega
theorem bw_len2 (t : Nat) : ∀ n r, r + 2 ≤ 2 ^ (n + 1) → (bw t r).length ≤ n := by
  intro n
  induction n with
  | zero => intro r h; have : r = 0 := by omega
            subst this; rw [bw_zero]; simp
  | succ n ih =>
    intro r h
    by_cases h0 : r = 0
    · subst h0; rw [bw_zero]; simp
    · rw [bw_pos (by omega), List.length_append]
      have e : 2 ^ (n + 1 + 1) = 2 * 2 ^ (n + 1) := by rw [Nat.pow_succ]; omega
      have := ih ((r - 1) / 2) (by omega)
      simp
      omega
/-- small letters -/
def Lt (l : List Nat) : Prop := ∀ c ∈ l, 97 ≤ c ∧ c < 123
theorem Lt.app {a b : List Nat} (x : Lt a) (y : Lt b) : Lt (a ++ b) := fun c hc => (List.mem_append.mp hc).elim (x c) (y c)
theorem bw_lt (t : Nat) : ∀ r, Lt (bw t r) := by
  intro r
  induction r using Nat.strongRecOn with
  | _ r ih =>
    by_cases h : r = 0
    · subst h; rw [bw_zero]; intro c hc; cases hc
    · rw [bw_pos (by omega)]
      refine Lt.app (ih ((r - 1) / 2) (by omega)) fun c hc => ?_
      rw [List.mem_singleton] at hc
      omega
theorem bw_inj (t : Nat) : ∀ r s, bw t r = bw t s → r = s := by
  intro r
  induction r using Nat.strongRecOn with
  | _ r ih =>
    intro s e
    by_cases h : r = 0
    · subst h
      by_cases h2 : s = 0
      · exact h2.symm
      · rw [bw_zero, bw_pos (r := s) (by omega)] at e
        simp at e
    · by_cases h2 : s = 0
      · subst h2
        rw [bw_zero, bw_pos (r := r) (by omega)] at e
        simp at e
      · rw [bw_pos (r := r) (by omega), bw_pos (r := s) (by omega)] at e
        obtain ⟨e1, e2⟩ := List.append_inj' e rfl
        have e3 := ih _ (by omega) _ e1
        have e4 : 97 + (t + 9 * (r % 2)) % 26 = 97 + (t + 9 * (s % 2)) % 26 := by simpa using e2
        omega
def nameL (way : Int) (B : List Nat) (sp t k : Nat) : List Nat := if way = 1 then bw t (k + 1) else B.take sp ++ wordA t k ++ B.drop sp
theorem nameL_inj {way : Int} {B : List Nat} {sp t k j : Nat} (hk : k < 182) (hj : j < 182) (e : nameL way B sp t k = nameL way B sp t j) : k = j := by
  unfold nameL at e
  by_cases h : way = 1
  · rw [if_pos h, if_pos h] at e
    have := bw_inj t _ _ e
    omega
  · rw [if_neg h, if_neg h] at e
    have e1 := List.append_cancel_right e
    have e2 := List.append_cancel_left e1
    unfold wordA at e2
    simp only [List.cons.injEq, and_true] at e2
    obtain ⟨a, b⟩ := e2
    have h2 : k / 26 = j / 26 := by
      have h3 : k / 26 < 7 := by omega
      have h4 : j / 26 < 7 := by omega
      clear a e e1
      generalize k / 26 = x at b h3
      generalize j / 26 = y at b h4
      omega
    have h1 : k % 26 = j % 26 := by
      clear b h2 e e1
      omega
    omega
theorem nameL_lt {way : Int} {B : List Nat} {sp t k : Nat} (hB : Lt B) : Lt (nameL way B sp t k) := by
  unfold nameL
  by_cases h : way = 1
  · rw [if_pos h]; exact bw_lt t _
  · rw [if_neg h]
    refine Lt.app (Lt.app (fun c hc => hB c (List.mem_of_mem_take hc)) fun c hc => ?_) fun c hc => hB c (List.mem_of_mem_drop hc)
    unfold wordA at hc
    simp only [List.mem_cons, List.not_mem_nil, or_false] at hc
    rcases hc with hc | hc <;> subst hc <;> omega
theorem nameL_len8 {way : Int} {B : List Nat} {sp t k : Nat} (hB : B.length ≤ 6) (hk : k < 61) : 1 ≤ (nameL way B sp t k).length ∧ (nameL way B sp t k).length ≤ 8 := by
  unfold nameL
  by_cases h : way = 1
  · rw [if_pos h]
    have h1 := bw_len2 t 6 (k + 1) (by have : 2 ^ 7 = 128 := rfl; omega)
    refine ⟨?_, by omega⟩
    rw [bw_pos (by omega), List.length_append]
    simp
  · rw [if_neg h]
    simp only [List.length_append, List.length_take, List.length_drop]
    unfold wordA
    simp only [List.length_cons, List.length_nil]
    omega
def ofL (l : List Nat) : Str := ⟨l.toArray⟩
theorem ofL_inj {a b : List Nat} (h : ofL a = ofL b) : a = b := by
  unfold ofL at h
  simpa using h
def nameS (way : Int) (B : List Nat) (sp t k : Nat) : Str := ofL (nameL way B sp t k)
def namesS (way : Int) (B : List Nat) (sp t n : Nat) : List Str := (List.range n).map (nameS way B sp t)
theorem names_nodup {way : Int} {B : List Nat} {sp t n : Nat} (h : n ≤ 182) : (namesS way B sp t n).Nodup := by
  unfold namesS
  rw [List.nodup_iff_pairwise_ne, List.pairwise_map]
  refine List.Pairwise.imp_of_mem (fun ha hb hab e => hab ?_) List.nodup_range
  rw [List.mem_range] at ha hb
  exact nameL_inj (by omega) (by omega) (ofL_inj e)
/-- a term put in where it isn't yet -/
theorem set_nodup {xs : List Str} {i : Nat} {z : Str} (h : xs.Nodup) (hz : z ∉ xs) : (xs.set i z).Nodup := by
  induction xs generalizing i with
  | nil => simpa using h
  | cons x r ih =>
    rw [List.nodup_cons] at h
    rw [List.mem_cons, not_or] at hz
    cases i with
    | zero => rw [List.set_cons_zero, List.nodup_cons]; exact ⟨hz.2, h.2⟩
    | succ i =>
      rw [List.set_cons_succ, List.nodup_cons]
      refine ⟨fun hm => ?_, ih h.2 hz.2⟩
      rcases List.mem_or_eq_of_mem_set hm with hm | hm
      · exact h.1 hm
      · exact hz.1 hm.symm
end LW
/-! names: the walk -/
namespace LW
open PySem L2 DL
def abc : Str := "abcdefghijklmnopqrstuvwxyz"
theorem abc_len : abc.length = 26 := by decide +kernel
theorem abc_get : ∀ j : Fin 26, abc.cps.toList[j.val]? = some (97 + j.val) := by decide +kernel
theorem abc_at {i : Int} {j : Nat} (e : i = (j : Nat)) (h : j < 26) : atI abc.cps.toList i = some (97 + j) := by
  subst e
  exact atI_nat (abc_get ⟨j, h⟩)
theorem ofL_app (a b : List Nat) : ofL a ++ ofL b = ofL (a ++ b) := by
  show (⟨a.toArray ++ b.toArray⟩ : Str) = ⟨(a ++ b).toArray⟩
  simp
theorem ofL_len (a : List Nat) : (ofL a).length = a.length := by
  show (a.toArray).size = _
  simp
theorem ofL_one (c : Nat) : (⟨#[c]⟩ : Str) = ofL [c] := rfl
theorem cut_to {z : Str} {s : Nat} (h : s ≤ z.length) : cutS z none (some (s : Int)) = ofL (z.cps.toList.take s) := by
  unfold cutS
  rw [HT.sIx_none, show HT.sIx z.length z.length (some (s : Int)) = min s z.length from HT.sIx_nat _ _ s]
  rw [List.drop_zero, Nat.sub_zero, Nat.min_eq_left h]
  rfl
theorem cut_from {z : Str} {s : Nat} (h : s ≤ z.length) : cutS z (some (s : Int)) none = ofL (z.cps.toList.drop s) := by
  unfold cutS
  rw [HT.sIx_none, show HT.sIx z.length 0 (some (s : Int)) = min s z.length from HT.sIx_nat _ _ s]
  rw [Nat.min_eq_left h]
  unfold ofL
  rw [List.take_of_length_le (by rw [List.length_drop, Array.length_toList]; exact Nat.le_refl _)]
theorem while_i {fc : DT} {body : DS} {D0 : DEnds} {σ : DL.Env} {S : Sto} (W : Nat → DL.Env → Sto → Prop) (m : Nat) (h0 : W m σ S)
    (turn : ∀ m σ S, W m σ S → ∀ N : DL.Env → Sto → Prop, (∀ m2 σ2 S2, m2 < m → W m2 σ2 S2 → N σ2 S2) → fc σ S fun k S1 => if k = true then body ⟨N, D0.rt, D0.nx, N⟩ σ S1 else D0.nx σ S1) : sWhile fc body D0 σ S :=
  ⟨W, ⟨m, h0⟩, fun m σ S h => turn m σ S h _ fun m2 σ2 S2 hm hw => ⟨m2, hm, hw⟩⟩
theorem name_turn {p a : Addr} {many way : Int} {B : Str} {t sp k : Nat} {u9 u10 u11 : Option D} {S : Sto} {xs : List D} {D0 : DEnds} (hk : k < 182) (ht : t < 26) (hB : B.length ≤ 6) (hs : sp ≤ B.length) (ha : S a = some (.lst xs)) (hx : xs.length ≤ 200)
    (q : ∀ u11, D0.nx [some (.ref p), some (.int many), some (.str abc), some (.int way), some (.int t), some (.str B), some (.int sp), some (.ref a), some (.int (k : Nat)), u9, some (.str (nameS way B.cps.toList sp t k)), u11] (updS S a (.lst (xs ++ [.str (nameS way B.cps.toList sp t k)])))) :
    l_wnames_7 D0 [some (.ref p), some (.int many), some (.str abc), some (.int way), some (.int t), some (.str B), some (.int sp), some (.ref a), some (.int (k : Nat)), u9, u10, u11] S := by
  have hl : abc.length ≤ sizeLine := by rw [abc_len]; exact small_line (by omega)
  refine seq_i ?_
  simp_arith! []
  refine ⟨mulS (by omega) (by omega) (by omega) (by omega), by decide, hl, _, abc_at (j := (t + 7 * k) % 26) (by omega) (by omega), fdivS (by decide) (by decide), by decide, hl, _, abc_at (j := (t + k / 26) % 26) (by omega) (by omega), small_line (show (1 : Nat) + 1 ≤ 100000 by decide), ?_⟩
  refine seq_i ?_
  rw [ofL_one, ofL_one, ofL_app]
  simp_arith! [cut_to hs, cut_from hs, ofL_app]
  have hBL : B.cps.toList.length ≤ 6 := by rw [Array.length_toList]; exact hB
  refine ⟨small_line (by omega), small_line ?_, small_line (by omega), small_line ?_, seq_i ?_⟩
  · rw [ofL_len, ofL_len, List.length_take]
    simp only [List.length_append, List.length_cons, List.length_nil]
    omega
  · rw [ofL_len, ofL_len, List.length_append, List.length_take, List.length_drop]
    simp only [List.length_append, List.length_cons, List.length_nil]
    omega
  have app : ∀ (z : Str) (u11 : Option D), z = nameS way B.cps.toList sp t k → t_wnames_16 D0 [some (.ref p), some (.int many), some (.str abc), some (.int way), some (.int t), some (.str B), some (.int sp), some (.ref a), some (.int (k : Nat)), u9, some (.str z), u11] S := by
    intro z u11 ez
    subst ez
    simp_arith! [t_wnames_16, ha]
    exact ⟨xs, rfl, Nat.lt_of_lt_of_le (show xs.length < 201 by omega) (by decide), q _⟩
  simp_arith! []
  by_cases hw : way = 1
  · rw [if_pos hw]
    refine seq_i ?_
    simp_arith! []
    refine seq_i ?_
    simp_arith! []
    refine while_i (fun m σ S' => ∃ word : List Nat, σ = [some (.ref p), some (.int many), some (.str abc), some (.int way), some (.int t), some (.str B), some (.int sp), some (.ref a), some (.int (k : Nat)), u9, some (.str (ofL word)), some (.int (m : Nat))] ∧ S' = S ∧ bw t m ++ word = bw t (k + 1) ∧ m ≤ k + 1)
      (k + 1) ⟨[], rfl, rfl, List.append_nil _, Nat.le_refl _⟩ fun m σ S' hi N hN => ?_
    obtain ⟨word, rfl, rfl, hword, hm⟩ := hi
    simp_arith! []
    by_cases h0 : (0 : Int) < (m : Int)
    · rw [if_pos h0]
      have hwl : word.length ≤ k + 1 := by
        have h1 := congrArg List.length hword
        rw [List.length_append] at h1
        have h2 := bw_len t (k + 1)
        omega
      refine seq_i ?_
      simp_arith! []
      refine ⟨by decide, mulS (by decide) (by decide) (by omega) (by omega), by decide, hl, _, abc_at (j := (t + 9 * (m % 2)) % 26) (by omega) (by omega), ?_⟩
      rw [ofL_one, ofL_app]
      refine ⟨small_line ?_, ?_⟩
      · rw [ofL_len, ofL_len]
        simp only [List.length_cons, List.length_nil]
        omega
      simp_arith! [t_wnames_15]
      refine ⟨fdivS (by decide) (by decide), ?_⟩
      have em : ((m : Int) - 1) / 2 = (((m - 1) / 2 : Nat) : Int) := by omega
      rw [em]
      refine hN ((m - 1) / 2) _ _ (by omega) ⟨_, rfl, rfl, ?_, by omega⟩
      rw [← hword, bw_pos (t := t) (r := m) (by omega), List.append_assoc]
    · rw [if_neg h0]
      have : m = 0 := by omega
      subst this
      refine app _ _ ?_
      rw [bw_zero, List.nil_append] at hword
      unfold nameS nameL
      rw [if_pos hw, hword]
  · rw [if_neg hw]
    refine app _ _ ?_
    unfold nameS nameL
    rw [if_neg hw]
    rfl
end LW
namespace LW
open PySem L2 DL
def termsL : List Str := ["as", "with", "part", "field", "none", "done", "write", "back", "join"]
/-- a name: one to eight small letters -/
structure Nm (z : Str) : Prop where
  lo : 1 ≤ z.length
  hi : z.length ≤ 8
  lt : Lt z.cps.toList
structure NmOk (zs : List Str) : Prop where
  nd : zs.Nodup
  nm : ∀ z ∈ zs, Nm z
  zq : ¬ (("zq" : Str) ∈ zs.take 8 ∧ ("zqzq" : Str) ∈ zs.take 8)
theorem bw_hi (t : Nat) : ∀ r, 2 ^ (bw t r).length ≤ r + 1 := by
  intro r
  induction r using Nat.strongRecOn with
  | _ r ih =>
    by_cases h : r = 0
    · subst h; rw [bw_zero]; decide
    · rw [bw_pos (by omega), List.length_append]
      have h1 := ih ((r - 1) / 2) (by omega)
      have e : 2 ^ ((bw t ((r - 1) / 2)).length + 1) = 2 * 2 ^ (bw t ((r - 1) / 2)).length := by rw [Nat.pow_succ]; omega
      simp only [List.length_cons, List.length_nil, Nat.zero_add]
      omega
theorem names_zq {way : Int} {B : List Nat} {sp t n : Nat} : ¬ (("zq" : Str) ∈ (namesS way B sp t n).take 8 ∧ ("zqzq" : Str) ∈ (namesS way B sp t n).take 8) := by
  have tl : ∀ k, (nameS way B sp t k).cps.toList = nameL way B sp t k := fun k => by unfold nameS ofL; simp
  have at8 : ∀ z, z ∈ (namesS way B sp t n).take 8 → ∃ k < 8, z = nameS way B sp t k := fun z hz => by
    unfold namesS at hz
    rw [← List.map_take] at hz
    obtain ⟨k, hk, e⟩ := List.mem_map.mp hz
    rw [List.take_range, List.mem_range] at hk
    exact ⟨k, by omega, e.symm⟩
  rintro ⟨h1, h2⟩
  obtain ⟨j, hj, e1⟩ := at8 _ h1
  obtain ⟨k, hk, e2⟩ := at8 _ h2
  have l1 : (nameL way B sp t j).length = 2 := by rw [← tl, ← e1]; decide +kernel
  have l2 : (nameL way B sp t k).length = 4 := by rw [← tl, ← e2]; decide +kernel
  by_cases hw : way = 1
  · unfold nameL at l2
    rw [if_pos hw] at l2
    have := bw_hi t (k + 1)
    rw [l2] at this
    omega
  · have ex : ∀ k, nameL way B sp t k = B.take sp ++ wordA t k ++ B.drop sp := fun k => by unfold nameL; rw [if_neg hw]
    rw [ex] at l1 l2
    rw [List.length_append, List.length_append] at l1 l2
    have w : ∀ k, (wordA t k).length = 2 := fun k => rfl
    rw [w] at l1 l2
    omega
theorem NmOk.len {zs : List Str} (h : NmOk zs) : ∀ z ∈ zs, z.length ≤ 200 := fun z hz => Nat.le_trans (h.nm z hz).hi (by decide)
theorem terms_nm : ∀ z ∈ termsL, Nm z := by
  have h : ∀ z ∈ termsL, (1 ≤ z.length ∧ z.length ≤ 8) ∧ ∀ c ∈ z.cps.toList, 97 ≤ c ∧ c < 123 := by decide +kernel
  exact fun z hz => ⟨(h z hz).1.1, (h z hz).1.2, (h z hz).2⟩
theorem terms_zq : ∀ z ∈ termsL, z ≠ ("zq" : Str) ∧ z ≠ ("zqzq" : Str) := by decide +kernel
theorem NmOk.set {zs : List Str} (h : NmOk zs) {i : Nat} {z : Str} (hz : z ∉ zs) (hl : Nm z) (hs : z ≠ ("zq" : Str) ∧ z ≠ ("zqzq" : Str)) : NmOk (zs.set i z) :=
  ⟨set_nodup h.nd hz, fun y hy => (List.mem_or_eq_of_mem_set hy).elim (h.nm y) fun e => by rw [e]; exact hl, fun ⟨a, b⟩ => by
    rw [List.take_set] at a b
    refine h.zq ⟨?_, ?_⟩
    · exact (List.mem_or_eq_of_mem_set a).elim id fun e => absurd e.symm hs.1
    · exact (List.mem_or_eq_of_mem_set b).elim id fun e => absurd e.symm hs.2⟩
theorem ixN_of {n j : Nat} (hj : j < n) : ixN n (j : Int) = some j := by
  unfold ixN
  simp
  omega
theorem any_str (zs : List Str) (x : Str) : ((zs.map D.str).any fun z => eqF z (.str x)) = decide (x ∈ zs) := by
  induction zs with
  | nil => simp
  | cons z r ih =>
    rw [List.map_cons, List.any_cons, ih]
    show ((z == x) || decide (x ∈ r)) = decide (x ∈ z :: r)
    by_cases h : z = x
    · subst h; simp
    · have h2 : ¬ x = z := fun e => h e.symm
      simp [h, h2]
theorem flat_strs (zs : List Str) : (zs.map D.str).all flatD = true := by
  rw [List.all_map, List.all_eq_true]
  intro z _
  rfl
theorem term_turn {p pc a c : Addr} {b k : Nat} {many way : Int} {B : Str} {t sp : Int} {u10 u11 : Option D} {S : Sto} {zs : List Str} {D0 : DEnds} (h : Pen S p pc b) (hb : b + 1 ≤ 100000) (ha : S a = some (.lst (zs.map .str))) (hc : S c = some (.lst (termsL.map .str))) (hap : a ≠ p) (hac : a ≠ pc) (hcp : c ≠ p) (hne : c ≠ a) (hz : NmOk zs) (hk : k < 9) (hkz : k < zs.length)
    (q : ∀ zs' S', NmOk zs' → zs'.length = zs.length → Pen S' p pc (b + 1) → S' a = some (.lst (zs'.map .str)) → S' c = some (.lst (termsL.map .str)) → (∀ z o, z ≠ p → z ≠ a → S z = some o → S' z = some o) → D0.nx [some (.ref p), some (.int many), some (.str abc), some (.int way), some (.int t), some (.str B), some (.int sp), some (.ref a), some (.int (k : Nat)), some (.ref c), u10, u11] S') :
    l_wnames_19 D0 [some (.ref p), some (.int many), some (.str abc), some (.int way), some (.int t), some (.str B), some (.int sp), some (.ref a), some (.int (k : Nat)), some (.ref c), u10, u11] S := by
  simp_arith! [l_wnames_19]
  refine take_spec h (by omega) (by decide) (by decide) fun j S1 _ _ p1 h1 => ?_
  try simp_arith! []
  have ha1 := h1 _ _ hap ha
  have hc1 := h1 _ _ hcp hc
  by_cases hj : j = 0
  · rw [if_pos hj]
    obtain ⟨x, hg⟩ : ∃ x, termsL[k]? = some x := ⟨_, List.getElem?_eq_getElem (show k < termsL.length from hk)⟩
    have hg2 : (termsL.map D.str)[k]? = some (.str x) := by rw [List.getElem?_map, hg]; rfl
    simp_arith! [hc1]
    refine ⟨_, atI_nat hg2, ?_⟩
    rw [ha1, oIn_l]
    refine ⟨rfl, flat_strs zs, ?_⟩
    rw [any_str]
    by_cases hin : x ∈ zs
    · rw [decide_eq_true hin]
      simp_arith! []
      exact q zs S1 hz rfl p1 ha1 hc1 (fun z o e1 _ e => h1 z o e1 e)
    · rw [decide_eq_false hin]
      simp_arith! [hc1]
      refine ⟨_, atI_nat hg2, ?_⟩
      rw [ha1, oPut_l]
      refine ⟨k, ixN_of (by rw [List.length_map]; exact hkz), ?_⟩
      rw [← List.map_set]
      refine q (zs.set k x) _ (hz.set hin (terms_nm x (List.mem_of_getElem? hg)) (terms_zq x (List.mem_of_getElem? hg))) List.length_set ?_ updS_same (by rw [updS_ne hne]; exact hc1) fun z o e1 e2 e => by rw [updS_ne e2]; exact h1 z o e1 e
      obtain ⟨ns, y, l, h1, h3, h4⟩ := p1.ex
      exact ⟨ns, y, l, by rw [updS_ne (Ne.symm hap)]; exact h1, by rw [updS_ne (Ne.symm hac)]; exact h3, h4⟩
  · rw [if_neg hj]
    exact q zs S1 hz rfl p1 ha1 hc1 (fun z o e1 _ e => h1 z o e1 e)
end LW
namespace LW
open PySem L2 DL
theorem joinL_len : ∀ ls : List (List Nat), (TL.joinL [] ls).length = (ls.map List.length).sum
  | [] => rfl
  | [l] => by simp [TL.joinL]
  | l :: m :: r => by
    have ih := joinL_len (m :: r)
    rw [TL.joinL]
    simp only [List.nil_append, List.append_nil, List.length_append, ih, List.map_cons, List.sum_cons]
theorem sum_ones : ∀ {ys : List Str}, (∀ y ∈ ys, y.length = 1) → (ys.map (·.length)).sum = ys.length
  | [], _ => rfl
  | y :: r, h => by
    rw [List.map_cons, List.sum_cons, sum_ones fun x hx => h x (List.mem_cons_of_mem _ hx), h y List.mem_cons_self, List.length_cons, Nat.add_comm]
theorem len_join {ys : List Str} (h : ∀ y ∈ ys, y.length = 1) : (Txt.join "" ys).length = ys.length := by
  rw [TL.join_eq, TL.len_tl, TL.tl_join, show TL.tl ("" : Str) = [] from by decide +kernel, joinL_len, List.map_map]
  induction ys with
  | nil => rfl
  | cons y r ih =>
    rw [List.map_cons, List.sum_cons, ih (fun x hx => h x (List.mem_cons_of_mem _ hx)), List.length_cons]
    have := h y List.mem_cons_self
    rw [TL.len_tl] at this
    show (TL.tl y).length + r.length = r.length + 1
    omega
theorem joinL_lt : ∀ {ls : List (List Nat)}, (∀ l ∈ ls, Lt l) → Lt (TL.joinL [] ls)
  | [], _ => fun c hc => by cases hc
  | [l], h => by simpa [TL.joinL] using h l (by simp)
  | l :: m :: r, h => by
    have ih := joinL_lt (ls := m :: r) fun x hx => h x (List.mem_cons_of_mem _ hx)
    rw [TL.joinL]
    simp only [List.nil_append, List.append_nil]
    exact Lt.app (h l (by simp)) ih
theorem join_lt {ys : List Str} (h : ∀ y ∈ ys, Lt y.cps.toList) : Lt (Txt.join "" ys).cps.toList := by
  rw [TL.join_eq]
  show Lt (TL.tl _)
  rw [TL.tl_join, show TL.tl ("" : Str) = [] from by decide +kernel]
  refine joinL_lt fun l hl => ?_
  obtain ⟨y, hy, rfl⟩ := List.mem_map.mp hl
  exact h y hy
theorem Pen.ne {S : Sto} {p pc q : Addr} {b : Nat} (h : Pen S p pc b) (hq : S q = none) : q ≠ p ∧ q ≠ pc := by
  obtain ⟨ns, a, l, h1, h2, _⟩ := h.ex
  exact ⟨Ne.symm (neS h1 hq), Ne.symm (neS h2 hq)⟩
theorem base_spec {p pc : Addr} {b n : Nat} {many way t : Int} {u5 u6 u7 u8 u9 u10 u11 : Option D} {S : Sto} {K : List D → Sto → Prop} (h : Pen S p pc b) (hn : n ≤ 6) (hb : b + n ≤ 100000)
    (q : ∀ (ys : List Str) (S' : Sto), (∀ y ∈ ys, y.length = 1) → (∀ y ∈ ys, Lt y.cps.toList) → ys.length = n → Pen S' p pc (b + n) → Kp p S S' → K (ys.map .str) S') :
    lcL (fun _ => True) (nName 8) tsYes c_wnames_4 [some (.ref p), some (.int many), some (.str abc), some (.int way), some (.int t), u5, u6, u7, u8, u9, u10, u11] K (rangeD 0 n) [] S := by
  refine lcL_inv _ (fun j acc S' => Pen S' p pc (b + j) ∧ Kp p S S' ∧ ∃ ys : List Str, acc = ys.map D.str ∧ (∀ y ∈ ys, y.length = 1) ∧ (∀ y ∈ ys, Lt y.cps.toList) ∧ ys.length = j) (fun _ _ _ _ => trivial) (fun j x acc S4 N2 hx h3 hN2 => ?el) (fun acc S4 h3 => ?af) ⟨h, .refl, [], rfl, (fun _ z => nomatch z), (fun _ z => nomatch z), rfl⟩
  case el =>
    obtain ⟨n5, g5, ys, ea, hy, hyl, hl⟩ := h3
    have hj : j < n := by
      have := (List.getElem?_eq_some_iff.mp hx).1
      rw [rangeD_len] at this
      exact this
    simp_arith! [c_wnames_4]
    refine take_spec n5 (by omega) (by decide) (by decide) fun k S5 a5 b5 n6 g6 => ?_
    have b5 : k < 26 := b5
    simp_arith! []
    refine ⟨by rw [abc_len]; exact small_line (by omega), _, abc_at (j := k.toNat) (by omega) (by omega), ?_, hN2 _ _ ⟨n6, g5.trans g6, ys ++ [⟨#[97 + k.toNat]⟩], ?_, fun y hy2 => ?_, fun y hy2 => ?_, ?_⟩⟩
    · rw [ea, List.length_map]
      exact Nat.lt_of_lt_of_le (show ys.length < 401 by omega) (by decide)
    · rw [ea, List.map_append]
      rfl
    · rcases List.mem_append.mp hy2 with hy2 | hy2
      · exact hy y hy2
      · rw [List.mem_singleton] at hy2
        subst hy2
        rfl
    · rcases List.mem_append.mp hy2 with hy2 | hy2
      · exact hyl y hy2
      · rw [List.mem_singleton] at hy2
        subst hy2
        intro c hc
        have hc : c ∈ [97 + k.toNat] := hc
        rw [List.mem_singleton] at hc
        omega
    · rw [List.length_append, hl]
      rfl
  case af =>
    obtain ⟨n5, g5, ys, ea, hy, hyl, hl⟩ := h3
    rw [rangeD_len] at hl n5
    subst ea
    exact q ys S4 hy hyl hl n5 g5
theorem names_spec {p pc : Addr} {b n : Nat} {S : Sto} {Q : DK} (h : Pen S p pc b) (hb : b + 20 ≤ 100000) (hn : n ≤ 44)
    (q : ∀ (a : Addr) (zs : List Str) (S' : Sto), NmOk zs → zs.length = n → Pen S' p pc (b + 20) → S' a = some (.lst (zs.map .str)) → S a = none → Kp p S S' → Q (.ref a) S') : m_wnames [.ref p, .int (n : Nat)] S Q := by
  rw [e_wnames]
  refine seq_i ?_
  try simp_arith! []
  refine seq_i ?_
  try simp_arith! []
  refine take_spec h (by omega) (by decide) (by decide) fun way S1 w0 w1 p1 h1 => seq_i ?_
  try simp_arith! []
  refine take_spec p1 (by omega) (by decide) (by decide) fun tt S2 t0 t1 p2 h2 => seq_i ?_
  obtain ⟨t, rfl⟩ : ∃ t : Nat, tt = (t : Nat) := ⟨tt.toNat, by omega⟩
  try simp_arith! []
  refine take_spec p2 (by omega) (by decide) (by decide) fun k S3 k0 k1 p3 h3 => ?_
  have k1 : k < 7 := k1
  have w1 : way < 3 := w1
  try simp_arith! []
  refine ⟨by decide, fun c0 hc0 => ?_⟩
  have hm : ∃ m : Nat, m ≤ 6 ∧ atI [D.int k, D.int 0, D.int 6] way = some (.int (m : Nat)) := by
    obtain ⟨j, rfl⟩ : ∃ j : Nat, way = (j : Nat) := ⟨way.toNat, by omega⟩
    match j, w1 with
    | 0, _ => exact ⟨k.toNat, by omega, by rw [show ((k.toNat : Nat) : Int) = k by omega]; rfl⟩
    | 1, _ => exact ⟨0, by omega, rfl⟩
    | 2, _ => exact ⟨6, by omega, rfl⟩
    | j + 3, h => exact absurd h (by omega)
  obtain ⟨m, hm6, hm⟩ := hm
  rw [updS_same, oIx_li]
  refine ⟨_, hm, ?_⟩
  try simp_arith! []
  refine ⟨by omega, by omega, ?_⟩
  rw [Int.toNat_natCast]
  have g3 : Kp p S (updS S3 c0 (.lst [.int k, .int 0, .int 6])) := ((h1.trans h2).trans h3).trans (.new hc0)
  refine base_spec (p3.new hc0) hm6 (by omega) fun ys S4 hy hyl hl p4 h4 p5 hp5 => ⟨ys, updS_same, ?_, ?_⟩
  · rw [sum_ones hy, hl, show (Str.ofString "").length = 0 from by decide +kernel]
    omega
  have hB : (Txt.join "" ys).length ≤ 6 := by rw [len_join hy, hl]; exact hm6
  have hBl := join_lt hyl
  generalize Txt.join "" ys = B at hB hBl
  refine seq_i ?_
  try simp_arith! []
  refine ⟨small_line (by omega), ?_⟩
  refine take_spec (p4.new hp5) (by omega) (by omega) ?_ fun sp S6 s0 s1 p6 h6 => ?_
  · have : ((B.length : Int) + 1).natAbs ≤ 7 := by omega
    refine Nat.lt_of_le_of_lt (Nat.log2_le_self _) (by omega)
  obtain ⟨sp, rfl⟩ : ∃ j : Nat, sp = (j : Nat) := ⟨sp.toNat, by omega⟩
  refine seq_i ?_
  try simp_arith! []
  refine ⟨nil_line, fun a ha => seq_i ?_⟩
  try simp_arith! []
  refine ⟨by omega, by omega, ?_⟩
  have p7 := p6.new (o := .lst []) ha
  have g7 : Kp p S (updS S6 a (.lst [])) := ((g3.trans h4).trans (.new hp5)).trans (h6.trans (.new ha))
  have sa : S a = none := by
    have ⟨n1, _⟩ := p6.ne ha
    cases e : S a with
    | none => rfl
    | some o => have := (((g3.trans h4).trans (.new hp5)).trans h6) a o n1 e; rw [ha] at this; cases this
  have ⟨nap, nac⟩ := p6.ne ha
  have ha0 : updS S6 a (.lst []) a = some (.lst []) := updS_same
  generalize updS S6 a (.lst []) = S7 at p7 g7 ha0
  have bump : b + 1 + 1 + 1 + m + 1 ≤ b + 10 := by omega
  refine forR_inv 0 n (fun i σ S' => (∃ u8 u10 u11, σ = [some (.ref p), some (.int (n : Nat)), some (.str abc), some (.int way), some (.int (t : Nat)), some (.str B), some (.int (sp : Nat)), some (.ref a), u8, none, u10, u11]) ∧ Pen S' p pc (b + 10) ∧ Kp p S S' ∧ S' a = some (.lst ((namesS way B.cps.toList sp t i).map .str)))
    (fun _ _ _ _ => trivial) (fun i σ S' N hi hI hN => ?turn) (fun σ S' hI => ?fin) ⟨⟨none, none, none, rfl⟩, p7.mono (by omega), g7, ha0⟩
  case turn =>
    obtain ⟨⟨u8, u10, u11, rfl⟩, pi, gi, ai⟩ := hI
    try simp_arith! []
    rw [Int.zero_add]
    refine name_turn (by omega) (by omega) hB (by omega) ai (by rw [List.length_map]; unfold namesS; rw [List.length_map, List.length_range]; omega) fun u11 => ?_
    refine hN _ _ ⟨⟨_, _, _, rfl⟩, ?_, ?_, ?_⟩
    · obtain ⟨ns, y, l, e1, e3, e4⟩ := pi.ex
      exact ⟨ns, y, l, by rw [updS_ne (Ne.symm nap)]; exact e1, by rw [updS_ne (Ne.symm nac)]; exact e3, e4⟩
    · intro z o hz e
      rw [updS_ne (neS e sa)]
      exact gi z o hz e
    · rw [updS_same]
      unfold namesS
      rw [List.range_succ, List.map_append, List.map_append]
      rfl
  case fin =>
    obtain ⟨⟨u8, u10, u11, rfl⟩, pi, gi, ai⟩ := hI
    refine seq_i ?_
    try simp_arith! []
    refine ⟨by decide, fun c hc => ?_⟩
    have ⟨ncp, ncc⟩ := pi.ne hc
    have nca : c ≠ a := Ne.symm (neS ai hc)
    generalize hS9 : updS S' c _ = S9
    have pc1 : Pen S9 p pc (b + 10) := by rw [← hS9]; exact pi.new hc
    have ac1 : S9 a = some (.lst ((namesS way B.cps.toList sp t n).map .str)) := by rw [← hS9, updS_ne (Ne.symm nca)]; exact ai
    have cc1 : S9 c = some (.lst (termsL.map .str)) := by rw [← hS9, updS_same]; rfl
    have gc1 : Kp p S S9 := by rw [← hS9]; exact gi.trans (.new hc)
    have hz : NmOk (namesS way B.cps.toList sp t n) := by
      refine ⟨names_nodup (by omega), fun z hz => ?_, names_zq⟩
      unfold namesS at hz
      obtain ⟨k, hk, rfl⟩ := List.mem_map.mp hz
      rw [List.mem_range] at hk
      unfold nameS
      have := nameL_len8 (way := way) (B := B.cps.toList) (sp := sp) (t := t) (k := k) (by rw [Array.length_toList]; exact hB) (by omega)
      refine ⟨by rw [ofL_len]; exact this.1, by rw [ofL_len]; exact this.2, ?_⟩
      have e : (ofL (nameL way B.cps.toList sp t k)).cps.toList = nameL way B.cps.toList sp t k := by unfold ofL; simp
      rw [e]
      exact nameL_lt hBl
    have hzl : (namesS way B.cps.toList sp t n).length = n := by unfold namesS; rw [List.length_map, List.length_range]
    generalize namesS way B.cps.toList sp t n = zs at hz hzl ac1
    simp_arith! [t_wnames_18]
    refine seq_i ?_
    simp_arith! []
    refine take_spec pc1 (by omega) (by decide) (by decide) fun k9 S10 _ _ p10 h10 => ?_
    simp_arith! []
    have a10 := h10 _ _ nap ac1
    have c10 := h10 _ _ ncp cc1
    have g10 := gc1.trans h10
    by_cases h9 : k9 = 0
    · rw [if_pos h9]
      obtain ⟨mn, emn, m9, mnn⟩ : ∃ mn : Nat, (if (9 : Int) < (n : Int) then (9 : Int) else (n : Int)) = (mn : Nat) ∧ mn ≤ 9 ∧ mn ≤ n := by
        by_cases h : (9 : Int) < (n : Int)
        · exact ⟨9, if_pos h, by omega, by omega⟩
        · exact ⟨n, if_neg h, by omega, by omega⟩
      rw [emn, Int.toNat_natCast]
      refine ⟨by omega, by omega, ?_⟩
      refine forR_inv 0 mn (fun i σ S' => ∃ zs2 : List Str, (∃ u8, σ = [some (.ref p), some (.int (n : Nat)), some (.str abc), some (.int way), some (.int (t : Nat)), some (.str B), some (.int (sp : Nat)), some (.ref a), u8, some (.ref c), u10, u11]) ∧ NmOk zs2 ∧ zs2.length = n ∧ Pen S' p pc (b + 11 + i) ∧ S' a = some (.lst (zs2.map .str)) ∧ S' c = some (.lst (termsL.map .str)) ∧ Kp p S S')
        (fun _ _ _ _ => trivial) (fun i σ S' N hi hI hN => ?turn2) (fun σ S' hI => ?fin2) ⟨zs, ⟨u8, rfl⟩, hz, hzl, p10.mono (by omega), a10, c10, g10⟩
      case turn2 =>
        obtain ⟨zs2, ⟨u8, rfl⟩, hz2, hzl2, pi2, ai2, ci2, gi2⟩ := hI
        simp_arith! []
        rw [Int.zero_add]
        refine term_turn pi2 (by omega) ai2 ci2 nap nac ncp nca hz2 (by omega) (by omega) fun zs3 S12 hz3 hl3 p12 a12 c12 k12 => hN _ _ ⟨zs3, ⟨_, rfl⟩, hz3, by omega, p12.mono (by omega), a12, c12, fun z o hzp e => k12 z o hzp (neS e sa) (gi2 z o hzp e)⟩
      case fin2 =>
        obtain ⟨zs2, ⟨u8, rfl⟩, hz2, hzl2, pi2, ai2, ci2, gi2⟩ := hI
        simp_arith! [t_wnames_22]
        exact q a zs2 S' hz2 hzl2 (pi2.mono (by omega)) ai2 sa gi2
    · rw [if_neg h9]
      try simp_arith! [t_wnames_22]
      exact q a zs S10 hz hzl (p10.mono (by omega)) a10 sa g10
end LW
namespace LW
open PySem L2 DL
/-- bounds of what is taken by -/
theorem log_small {x : Int} (h0 : 0 ≤ x) (h : x ≤ 100000000000) : x.natAbs.log2 < 9000 := by
  by_cases hz : x.natAbs = 0
  · rw [hz]; decide
  · rw [Nat.log2_lt hz]
    have h1 : x.natAbs ≤ 100000000000 := by omega
    have : (2 : Nat) ^ 240 ≤ 2 ^ 9000 := Nat.pow_le_pow_right (by decide) (by decide)
    have e : (2 : Nat) ^ 240 = 1766847064778384329583297500742918515827483896875618958121606201292619776 := by decide +kernel
    exact Nat.lt_of_lt_of_le (by rw [e]; omega) this
theorem number_spec {p pc : Addr} {b : Nat} {lo hi : Int} {S : Sto} {Q : DK} (h : Pen S p pc b) (hb : b + 3 ≤ 100000) (h0 : 0 ≤ lo) (hl : lo ≤ hi) (hh : hi ≤ 10000000000)
    (q : ∀ (v : Int) (S' : Sto), lo ≤ v → v ≤ hi → Pen S' p pc (b + 3) → Kp p S S' → Q (.int v) S') : m_wnumber [.ref p, .int lo, .int hi] S Q := by
  rw [e_wnumber]
  refine seq_i ?_
  try simp_arith! []
  refine take_spec h (by omega) (by decide) (by decide) fun way S1 w0 w1 p1 h1 => seq_i ?_
  have w1 : way < 4 := w1
  try simp_arith! []
  obtain ⟨mn, emn, m0, m12, mh⟩ : ∃ mn : Int, (if hi - lo + 1 < 12 then hi - lo + 1 else 12) = mn ∧ 0 < mn ∧ mn ≤ 12 ∧ mn ≤ hi - lo + 1 := by
    by_cases h : hi - lo + 1 < 12
    · exact ⟨_, if_pos h, by omega, by omega, by omega⟩
    · exact ⟨_, if_neg h, by omega, by omega, by omega⟩
  rw [emn]
  refine take_spec p1 (by omega) m0 (log_small (by omega) (by omega)) fun k1 S2 a1 b1 p2 h2 => ?_
  try simp_arith! []
  refine ret_i ?_
  try simp_arith! []
  refine take_spec p2 (by omega) (by omega) (log_small (by omega) (by omega)) fun k2 S3 a2 b2 p3 h3 => ?_
  try simp_arith! []
  refine ⟨by decide, fun c hc => ?_⟩
  try simp_arith! []
  rw [updS_same, oIx_li]
  have g : Kp p S (updS S3 c (.lst [.int lo, .int hi, .int (lo + k1), .int (lo + k2)])) := ((h1.trans h2).trans h3).trans (.new hc)
  have pn := p3.new (o := .lst [.int lo, .int hi, .int (lo + k1), .int (lo + k2)]) hc
  obtain ⟨j, rfl⟩ : ∃ j : Nat, way = (j : Nat) := ⟨way.toNat, by omega⟩
  match j, w1 with
  | 0, _ => exact ⟨_, rfl, q _ _ (by omega) (by omega) pn g⟩
  | 1, _ => exact ⟨_, rfl, q _ _ (by omega) (by omega) pn g⟩
  | 2, _ => exact ⟨_, rfl, q _ _ (by omega) (by omega) pn g⟩
  | 3, _ => exact ⟨_, rfl, q _ _ (by omega) (by omega) pn g⟩
  | j + 4, h => exact absurd h (by omega)
theorem cut_strs (zs : List Str) (n : Nat) : cutL (zs.map D.str) none (some (n : Int)) = (zs.take n).map D.str := by
  unfold cutL
  rw [HT.sIx_none, show HT.sIx (zs.map D.str).length (zs.map D.str).length (some (n : Int)) = min n (zs.map D.str).length from HT.sIx_nat _ _ n]
  rw [List.drop_zero, Nat.sub_zero, List.length_map, List.map_take]
  by_cases h : n ≤ zs.length
  · rw [Nat.min_eq_left h]
  · rw [Nat.min_eq_right (by omega), List.take_of_length_le (by rw [List.length_map]; exact Nat.le_refl _), List.take_of_length_le (by rw [List.length_map]; omega)]
theorem NmOk.take {zs : List Str} (h : NmOk zs) (n : Nat) : NmOk (zs.take n) := ⟨h.nd.sublist (List.take_sublist _ _), fun z hz => h.nm z (List.mem_of_mem_take hz), fun ⟨a, b⟩ => by
  rw [List.take_take, Nat.min_comm, ← List.take_take] at a b
  exact h.zq ⟨List.mem_of_mem_take a, List.mem_of_mem_take b⟩⟩
/-- a list of texts, apart from the pen -/
structure Txs (S : Sto) (p a : Addr) (zs : List Str) : Prop where
  at_ : S a = some (.lst (zs.map .str))
  ne : a ≠ p
  ok : NmOk zs
theorem Txs.kp {S S' : Sto} {p a : Addr} {zs : List Str} (h : Txs S p a zs) (k : Kp p S S') : Txs S' p a zs := ⟨k _ _ h.ne h.at_, h.ne, h.ok⟩
theorem Txs.new {S : Sto} {p a c : Addr} {zs : List Str} {o : O} (h : Txs S p a zs) (hc : S c = none) : Txs (updS S c o) p a zs := h.kp (.new hc)
theorem sorts_spec {p pc : Addr} {b nf nr : Nat} {S : Sto} {Q : DK} (h : Pen S p pc b) (hb : b + 100 ≤ 100000) (h1 : nf ≤ 10) (h2 : nr ≤ 44)
    (q : ∀ (f pl ho na : Addr) (fs ps hs ns : List Str) (S' : Sto), Txs S' p f fs → Txs S' p pl ps → Txs S' p ho hs → Txs S' p na ns → fs.length = nf → ps.length = 10 → hs.length = 5 → ns.length = nr → Pen S' p pc (b + 90) → Kp p S S' → Q (.tup [.ref f, .ref pl, .ref ho, .ref na]) S') :
    m_wsorts [.ref p, .int (nf : Nat), .int (nr : Nat)] S Q := by
  rw [e_wsorts]
  refine seq_i ?_
  try simp_arith! []
  refine take_spec h (by omega) (by decide) (by decide) fun k S1 _ _ p1 g1 => ?_
  simp_arith! []
  by_cases hk : k = 0
  · rw [if_pos hk]
    refine seq_i ?_
    try simp_arith! []
    refine names_spec (n := 44) p1 (by omega) (by omega) fun a zs S2 ok hl p2 ha hn g2 => ?_
    have nap := (p1.ne hn).1
    have t0 : Txs S2 p a zs := ⟨ha, nap, ok⟩
    simp_arith! [t_wsorts_3]
    refine ⟨_, ha, fun c1 hc1 => ?_⟩
    rw [cut_strs]
    have t1 := t0.new (o := .lst ((zs.take nf).map .str)) hc1
    have q1 := p2.new (o := .lst ((zs.take nf).map .str)) hc1
    have k1 : Txs (updS S2 c1 (.lst ((zs.take nf).map .str))) p c1 (zs.take nf) := ⟨updS_same, (p2.ne hc1).1, ok.take _⟩
    have f1 : Kp p S (updS S2 c1 (.lst ((zs.take nf).map .str))) := (g1.trans g2).trans (.new hc1)
    generalize updS S2 c1 (.lst ((zs.take nf).map .str)) = S3 at t1 q1 k1 f1
    refine ⟨_, t1.at_, fun c2 hc2 => ?_⟩
    rw [show (10 : Int) = ((10 : Nat) : Int) from rfl, cut_strs]
    have t2 := t1.new (o := .lst ((zs.take 10).map .str)) hc2
    have q2 := q1.new (o := .lst ((zs.take 10).map .str)) hc2
    have k1 := k1.new (o := .lst ((zs.take 10).map .str)) hc2
    have k2 : Txs (updS S3 c2 (.lst ((zs.take 10).map .str))) p c2 (zs.take 10) := ⟨updS_same, (q1.ne hc2).1, ok.take _⟩
    have f2 : Kp p S (updS S3 c2 (.lst ((zs.take 10).map .str))) := f1.trans (.new hc2)
    generalize updS S3 c2 (.lst ((zs.take 10).map .str)) = S4 at t2 q2 k1 k2 f2
    refine ⟨_, t2.at_, fun c3 hc3 => ?_⟩
    rw [show (5 : Int) = ((5 : Nat) : Int) from rfl, cut_strs]
    have t3 := t2.new (o := .lst ((zs.take 5).map .str)) hc3
    have q3 := q2.new (o := .lst ((zs.take 5).map .str)) hc3
    have k1 := k1.new (o := .lst ((zs.take 5).map .str)) hc3
    have k2 := k2.new (o := .lst ((zs.take 5).map .str)) hc3
    have k3 : Txs (updS S4 c3 (.lst ((zs.take 5).map .str))) p c3 (zs.take 5) := ⟨updS_same, (q2.ne hc3).1, ok.take _⟩
    have f3 : Kp p S (updS S4 c3 (.lst ((zs.take 5).map .str))) := f2.trans (.new hc3)
    generalize updS S4 c3 (.lst ((zs.take 5).map .str)) = S5 at t3 q3 k1 k2 k3 f3
    refine ⟨_, t3.at_, fun c4 hc4 => ⟨by decide, ?_⟩⟩
    rw [cut_strs]
    exact q c1 c2 c3 c4 (zs.take nf) (zs.take 10) (zs.take 5) (zs.take nr) _ (k1.new hc4) (k2.new hc4) (k3.new hc4) ⟨updS_same, (q3.ne hc4).1, ok.take _⟩ (by rw [List.length_take]; omega) (by rw [List.length_take]; omega) (by rw [List.length_take]; omega) (by rw [List.length_take]; omega) ((q3.new hc4).mono (by omega)) (f3.trans (.new hc4))
  · rw [if_neg hk]
    simp_arith! [t_wsorts_4]
    refine seq_i ?_
    try simp_arith! []
    refine names_spec (n := 10) p1 (by omega) (by omega) fun a zs S2 ok hl p2 ha hn g2 => ?_
    have nap := (p1.ne hn).1
    simp_arith! [t_wsorts_5]
    refine seq_i ?_
    try simp_arith! []
    refine names_spec (n := 5) p2 (by omega) (by omega) fun a2 zs2 S3 ok2 hl2 p3 ha2 hn2 g3 => ?_
    have nap2 := (p2.ne hn2).1
    simp_arith! [t_wsorts_6]
    refine names_spec p3 (by omega) (by omega) fun a3 zs3 S4 ok3 hl3 p4 ha3 hn3 g4 => ?_
    have nap3 := (p3.ne hn3).1
    refine names_spec p4 (by omega) h2 fun a4 zs4 S5 ok4 hl4 p5 ha4 hn4 g5 => ?_
    have nap4 := (p4.ne hn4).1
    refine ⟨by decide, q a3 a a2 a4 zs3 zs zs2 zs4 S5 ⟨g5 _ _ nap3 ha3, nap3, ok3⟩ ⟨g5 _ _ nap (g4 _ _ nap (g3 _ _ nap ha)), nap, ok⟩ ⟨g5 _ _ nap2 (g4 _ _ nap2 ha2), nap2, ok2⟩ ⟨ha4, nap4, ok4⟩ hl3 hl hl2 hl4 (p5.mono (by omega)) (g1.trans (g2.trans (g3.trans (g4.trans g5))))⟩
end LW
namespace LW
open PySem L2 DL
theorem get_str {zs : List Str} {i : Int} (h0 : 0 ≤ i) (h : i < zs.length) : ∃ z, atI (zs.map D.str) i = some (.str z) ∧ z ∈ zs := by
  obtain ⟨k, rfl⟩ : ∃ k : Nat, i = (k : Nat) := ⟨i.toNat, by omega⟩
  have hl : k < zs.length := by omega
  refine ⟨zs[k], atI_nat ?_, List.getElem_mem hl⟩
  rw [List.getElem?_map]
  simp [hl]
theorem powI {i j : Int} (h0 : 0 ≤ j) (h1 : j ≤ 1000) (h2 : 0 ≤ i) (h3 : i ≤ 1000) : CPow i j := powS h0 (by omega) (by omega) (by omega)
/-- a field of a laying -/
structure Fd where
  f : Str
  h : Str
  a : Int
  n : Int
def Fd.D (x : Fd) : DL.D := .tup [.str x.f, .str x.h, .int x.a, .int x.n]
structure Fd.ok (x : Fd) : Prop where
  hf : Nm x.f
  hh : Nm x.h
  a1 : 1 ≤ x.a
  a2 : x.a ≤ 1000000
  n1 : 0 ≤ x.n
  n2 : x.n ≤ 10000000
theorem laying_spec {p pc f ho : Addr} {b : Nat} {fs hs : List Str} {S : Sto} {Q : DK} (h : Pen S p pc b) (hb : b + 100 ≤ 100000) (tf : Txs S p f fs) (th : Txs S p ho hs) (hf : fs.length ≤ 10) (hh : 0 < hs.length) (hh2 : hs.length ≤ 100)
    (q : ∀ (xs : List Fd) (S' : Sto), xs.map (·.f) = fs → (∀ x ∈ xs, x.ok) → Pen S' p pc (b + 90) → Kp p S S' → Q (.tup (xs.map Fd.D)) S') : m_wlaying [.ref p, .ref f, .ref ho] S Q := by
  rw [e_wlaying]
  refine seq_i ?_
  try simp_arith! []
  refine ⟨nil_line, fun a ha => ?_⟩
  have na := h.ne ha
  have tf1 := tf.new (o := .lst []) ha
  have th1 := th.new (o := .lst []) ha
  have p1 := h.new (o := .lst []) ha
  have g1 : Kp p S (updS S a (.lst [])) := .new ha
  have a1 : updS S a (.lst []) a = some (.lst []) := updS_same
  generalize updS S a (.lst []) = S1 at tf1 th1 p1 g1 a1
  have nfa : f ≠ a := neS tf.at_ ha
  have nha : ho ≠ a := neS th.at_ ha
  simp_arith! [t_wlaying_2]
  refine seq_i ?_
  try simp_arith! []
  refine ⟨_, tf1.at_, ?_⟩
  refine forL_inv _ (fun i σ S' => (∃ u4 u5, σ = [some (.ref p), some (.ref f), some (.ref ho), some (.ref a), u4, u5]) ∧ Pen S' p pc (b + 7 * i) ∧ Kp p S S' ∧ S' f = some (.lst (fs.map .str)) ∧ S' ho = some (.lst (hs.map .str)) ∧ ∃ xs : List Fd, S' a = some (.lst (xs.map Fd.D)) ∧ xs.map (·.f) = fs.take i ∧ ∀ x ∈ xs, x.ok)
    (fun i σ S' hi => hi.2.2.2.1) (fun i x σ S' N hx hI hN => ?turn) (fun σ S' hI => ?fin) ⟨⟨_, _, rfl⟩, p1, g1, tf1.at_, th1.at_, [], a1, rfl, fun _ z => nomatch z⟩
  case turn =>
    obtain ⟨⟨u4, u5, rfl⟩, pi, gi, ef, eh, xs, ea, hxf, hok⟩ := hI
    have hi := (List.getElem?_eq_some_iff.mp hx).1
    rw [List.length_map] at hi
    have hx2 : fs[i]? = some fs[i] := List.getElem?_eq_getElem hi
    have ex : x = .str fs[i] := by rw [List.getElem?_map, hx2] at hx; exact (Option.some.inj hx).symm
    subst ex
    have hxl : xs.length = i := by have := congrArg List.length hxf; rw [List.length_map, List.length_take] at this; omega
    simp_arith! [l_wlaying_2]
    refine seq_i ?_
    simp_arith! [eh, List.length_map]
    refine take_spec pi (by omega) (by omega) (log_small (by omega) (by omega)) fun j S2 a2 b2 p2 g2 => ?_
    obtain ⟨z, ez, hzm⟩ := get_str a2 b2
    rw [g2 _ _ th.ne eh, oIx_li]
    refine ⟨_, ez, ?_⟩
    simp_arith! [t_wlaying_4]
    have na2 : a ≠ p := na.1
    have a2' := g2 _ _ na2 ea
    rw [a2']
    rw [show (10 : Int) ^ Int.toNat 6 = 1000000 from by decide +kernel, show (10 : Int) ^ Int.toNat 7 = 10000000 from by decide +kernel]
    refine ⟨rfl, powI (by decide) (by decide) (by decide) (by decide), number_spec p2 (by omega) (by decide) (by decide) (by decide) fun v1 S3 l1 m1 p3 g3 => ⟨powI (by decide) (by decide) (by decide) (by decide), number_spec p3 (by omega) (by decide) (by decide) (by decide) fun v2 S4 l2 m2 p4 g4 => ⟨by decide, xs.map Fd.D, (g4 _ _ na2 (g3 _ _ na2 a2')), by rw [List.length_map]; exact Nat.lt_of_lt_of_le (show xs.length < 401 by omega) (by decide), ?_⟩⟩⟩
    have gg := g2.trans (g3.trans g4)
    refine hN _ _ ⟨⟨_, _, rfl⟩, ?_, fun y o hy e2 => by rw [updS_ne (neS e2 ha)]; exact gg y o hy (gi y o hy e2), by rw [updS_ne nfa]; exact gg _ _ tf.ne ef, by rw [updS_ne nha]; exact gg _ _ th.ne eh, xs ++ [⟨fs[i], z, v1, v2⟩], by rw [updS_same, List.map_append]; rfl, by rw [List.map_append, hxf, List.take_succ, hx2]; rfl, fun y hy => ?_⟩
    rotate_left
    · rcases List.mem_append.mp hy with hy | hy
      · exact hok y hy
      · rw [List.mem_singleton] at hy
        subst hy
        exact ⟨tf.ok.nm _ (List.getElem_mem hi), th.ok.nm _ hzm, l1, m1, l2, m2⟩
    obtain ⟨ns, y, l, e1, e3, e4⟩ := (p4.mono (b2 := b + 7 * (i + 1)) (by omega)).ex
    exact ⟨ns, y, l, by rw [updS_ne (Ne.symm na.1)]; exact e1, by rw [updS_ne (Ne.symm na.2)]; exact e3, e4⟩
  case fin =>
    obtain ⟨⟨u4, u5, rfl⟩, pi, gi, ef, eh, xs, ea, hxf, hok⟩ := hI
    rw [List.length_map] at pi hxf
    rw [List.take_of_length_le (Nat.le_refl _)] at hxf
    simp_arith! [t_wlaying_5]
    exact ⟨xs.map Fd.D, ea, q xs S' hxf hok (pi.mono (by omega)) gi⟩
end LW
namespace LW
open PySem L2 DL
/-- a list of days, apart from the pen -/
structure Dys (S : Sto) (p a : Addr) (ds : List Int) : Prop where
  at_ : S a = some (.lst (ds.map .int))
  ne : a ≠ p
  ok : ∀ d ∈ ds, 0 ≤ d ∧ d ≤ 9999
theorem Dys.kp {S S' : Sto} {p a : Addr} {zs : List Int} (h : Dys S p a zs) (k : Kp p S S') : Dys S' p a zs := ⟨k _ _ h.ne h.at_, h.ne, h.ok⟩
theorem get_int {ds : List Int} {i : Int} (h0 : 0 ≤ i) (h : i < ds.length) (ok : ∀ d ∈ ds, 0 ≤ d ∧ d ≤ 9999) : ∃ z, atI (ds.map D.int) i = some (.int z) ∧ 0 ≤ z ∧ z ≤ 9999 := by
  obtain ⟨k, rfl⟩ : ∃ k : Nat, i = (k : Nat) := ⟨i.toNat, by omega⟩
  have hl : k < ds.length := by omega
  refine ⟨ds[k], atI_nat ?_, ok _ (List.getElem_mem hl)⟩
  rw [List.getElem?_map]
  simp [hl]
theorem wdays_spec {p pc : Addr} {b n : Nat} {S : Sto} {Q : DK} (h : Pen S p pc b) (hb : b + 200 ≤ 100000) (hn : n ≤ 44)
    (q : ∀ (a : Addr) (ds : List Int) (S' : Sto), Dys S' p a ds → ds.length = n → Pen S' p pc (b + 110) → Kp p S S' → Q (.ref a) S') : m_wdays [.ref p, .int (n : Nat)] S Q := by
  rw [e_wdays]
  refine seq_i ?_
  try simp_arith! []
  refine take_spec h (by omega) (by decide) (by decide) fun way S1 _ _ p1 g1 => ?_
  simp_arith! [t_wdays_2]
  refine seq_i ?_
  try simp_arith! []
  refine take_spec p1 (by omega) (by decide) (by decide) fun k1 S2 a1 b1 p2 g2 => ?_
  refine take_spec p2 (by omega) (by decide) (by decide) fun k2 S3 a2 b2 p3 g3 => ?_
  have b1 : k1 < 10000 := b1
  have b2 : k2 < 10000 := b2
  refine ⟨by decide, fun c hc => ?_⟩
  have dc : Dys (updS S3 c (.lst ([0, 1, 9, 9999, k1, k2].map .int))) p c [0, 1, 9, 9999, k1, k2] := ⟨updS_same, (p3.ne hc).1, fun d hd => by
    simp only [List.mem_cons, List.not_mem_nil, or_false] at hd
    rcases hd with rfl | rfl | rfl | rfl | rfl | rfl <;> omega⟩
  generalize hS4 : updS S3 c _ = S4
  have dc : Dys S4 p c [0, 1, 9, 9999, k1, k2] := by rw [← hS4]; exact dc
  have p4 : Pen S4 p pc (b + 1 + 1 + 1) := by rw [← hS4]; exact p3.new hc
  have g4 : Kp p S S4 := by rw [← hS4]; exact ((g1.trans g2).trans g3).trans (.new hc)
  simp_arith! [t_wdays_3]
  refine seq_i ?_
  try simp_arith! []
  refine take_spec p4 (by omega) (by decide) (by decide) fun k3 S5 a3 b3 p5 g5 => ?_
  have b3 : k3 < 4 := b3
  try simp_arith! []
  refine ⟨by omega, by omega, ?_⟩
  have dc5 := dc.kp g5
  have g6 := g4.trans g5
  refine lcL_inv _ (fun i acc S' => Pen S' p pc (b + 4 + i) ∧ Kp p S5 S' ∧ ∃ ys : List Int, acc = ys.map .int ∧ ys.length = i ∧ ∀ d ∈ ys, 0 ≤ d ∧ d ≤ 9999) (fun _ _ _ _ => trivial) (fun i x acc S6 N hx hI hN => ?el) (fun acc S6 hI => ?af) ⟨p5, .refl, [], rfl, rfl, fun _ h => nomatch h⟩
  case el =>
    obtain ⟨p6, g7, ys, rfl, hl, hy⟩ := hI
    have hi := (List.getElem?_eq_some_iff.mp hx).1
    rw [rangeD_len] at hi
    simp_arith! [c_wdays_3]
    refine take_spec p6 (by omega) (by decide) (by decide) fun j S7 a4 b4 p7 g8 => ?_
    rw [(dc5.kp (g7.trans g8)).at_, oIx_li]
    obtain ⟨z, ez, z0, z1⟩ := get_int (ds := [0, 1, 9, 9999, k1, k2]) a4 b4 dc.ok
    refine ⟨_, ez, by rw [List.length_map, hl]; exact Nat.lt_of_lt_of_le (show i < 401 by omega) (by decide), hN _ _ ⟨p7, g7.trans g8, ys ++ [z], by rw [List.map_append]; rfl, by rw [List.length_append, hl]; rfl, fun d hd => ?_⟩⟩
    rcases List.mem_append.mp hd with hd | hd
    · exact hy d hd
    · rw [List.mem_singleton] at hd; subst hd; exact ⟨z0, z1⟩
  case af =>
    obtain ⟨p6, g7, few, rfl, hl, hy⟩ := hI
    rw [rangeD_len] at hl p6
    intro e he
    have df : Dys (updS S6 e (.lst (few.map .int))) p e few := ⟨updS_same, (p6.ne he).1, hy⟩
    have p8 := p6.new (o := .lst (few.map .int)) he
    have g8 : Kp p S (updS S6 e (.lst (few.map .int))) := (g6.trans g7).trans (.new he)
    generalize updS S6 e (.lst (few.map .int)) = S8 at df p8 g8
    simp_arith! [t_wdays_4]
    refine seq_i ?_
    try simp_arith! []
    refine ⟨nil_line, fun a ha => ?_⟩
    have da : Dys (updS S8 a (.lst (([] : List Int).map .int))) p a [] := ⟨updS_same, (p8.ne ha).1, fun _ h => nomatch h⟩
    have nac := (p8.ne ha).2
    have ea : e ≠ a := neS df.at_ ha
    generalize hS9 : updS S8 a _ = S9
    have da : Dys S9 p a [] := by rw [← hS9]; exact da
    have df : Dys S9 p e few := by rw [← hS9]; exact df.kp (.new ha)
    have p9 : Pen S9 p pc (b + 14) := by rw [← hS9]; exact (p8.new ha).mono (by omega)
    have sa : S a = none := by
      cases e2 : S a with
      | none => rfl
      | some o => have := g8 a o (p8.ne ha).1 e2; rw [ha] at this; cases this
    have g9 : Kp p S S9 := by rw [← hS9]; exact g8.trans (.new ha)
    simp_arith! [t_wdays_5]
    refine seq_i ?_
    try simp_arith! []
    refine ⟨by omega, by omega, ?_⟩
    rw [Int.toNat_natCast]
    refine forR_inv 0 n (fun i σ S' => ∃ ds : List Int, (∃ u6, σ = [some (.ref p), some (.int (n : Nat)), some (.int way), some (.ref c), some (.ref e), some (.ref a), u6]) ∧ ds.length = i ∧ Dys S' p a ds ∧ Dys S' p e few ∧ Pen S' p pc (b + 14 + 2 * i) ∧ Kp p S S') (fun _ _ _ _ => trivial) (fun i σ S' N hi hI hN => ?turn) (fun σ S' hI => ?fin) ⟨[], ⟨none, rfl⟩, rfl, da, df, p9, g9⟩
    case turn =>
      obtain ⟨ds, ⟨u6, rfl⟩, hdl, dai, dfi, pi, gi⟩ := hI
      simp_arith! [l_wdays_5, dai.at_, dfi.at_]
      have pos : 0 < few.length := by omega
      have hfl : few.length ≤ 4 := by omega
      rw [List.length_map]
      refine take_spec pi (by omega) (by omega) (log_small (by omega) (by omega)) fun j1 S10 a5 b5 p10 g10 => ?_
      have df10 := dfi.kp g10
      obtain ⟨z, ez, z0, z1⟩ := get_int a5 b5 df10.ok
      rw [df10.at_, oIx_li]
      refine ⟨_, ez, ?_⟩
      refine take_spec p10 (by omega) (by decide) (by decide) fun j2 S11 a6 b6 p11 g11 => ?_
      have b6 : j2 < 10000 := b6
      have da11 := (dai.kp g10).kp g11
      have df11 := df10.kp g11
      refine ⟨by decide, fun r hr => ?_⟩
      have hpick : ∃ v, atI [D.int z, D.int j2] (if way = 0 then 1 else 0) = some (.int v) ∧ 0 ≤ v ∧ v ≤ 9999 := by
        by_cases hw : way = 0
        · rw [if_pos hw]; exact ⟨_, rfl, by omega, by omega⟩
        · rw [if_neg hw]; exact ⟨_, rfl, z0, z1⟩
      obtain ⟨v, ev, v0, v1⟩ := hpick
      rw [updS_same, oIx_li]
      refine ⟨_, ev, ?_⟩
      have da12 := da11.kp (.new (o := .lst [.int z, .int j2]) hr)
      have df12 := df11.kp (.new (o := .lst [.int z, .int j2]) hr)
      have p12 := p11.new (o := .lst [.int z, .int j2]) hr
      have g12 : Kp p S (updS S11 r (.lst [.int z, .int j2])) := ((gi.trans g10).trans g11).trans (.new hr)
      generalize updS S11 r (.lst [.int z, .int j2]) = S12 at da12 df12 p12 g12
      refine ⟨_, da12.at_, by rw [List.length_map]; exact Nat.lt_of_lt_of_le (show ds.length < 401 by omega) (by decide), hN _ _ ⟨ds ++ [v], ⟨_, rfl⟩, by rw [List.length_append, hdl]; rfl, ⟨by rw [updS_same, List.map_append]; rfl, da12.ne, fun d hd => ?_⟩, ⟨by rw [updS_ne ea]; exact df12.at_, df12.ne, df12.ok⟩, ?_, fun y o hy e2 => by rw [updS_ne (neS e2 sa)]; exact g12 y o hy e2⟩⟩
      · rcases List.mem_append.mp hd with hd | hd
        · exact da12.ok d hd
        · rw [List.mem_singleton] at hd; subst hd; exact ⟨v0, v1⟩
      · obtain ⟨ns, y, l, e1, e3, e4⟩ := (p12.mono (b2 := b + 14 + 2 * (i + 1)) (by omega)).ex
        exact ⟨ns, y, l, by rw [updS_ne (Ne.symm da12.ne)]; exact e1, by rw [updS_ne (Ne.symm nac)]; exact e3, e4⟩
    case fin =>
      obtain ⟨ds, ⟨u6, rfl⟩, hdl, dai, dfi, pi, gi⟩ := hI
      simp_arith! [t_wdays_7]
      exact q a ds S' dai hdl (pi.mono (by omega)) gi
end LW
namespace LW
open PySem L2 DL
/-- texts, each less than those behind it -/
def Rise (zs : List Str) : Prop := zs.Pairwise fun a b => a.cps.toList < b.cps.toList
theorem pop_perm {α : Type} : ∀ (l : List α) (k : Nat) (h : k < l.length), (l[k] :: l.eraseIdx k).Perm l
  | [], _, h => absurd h (by simp)
  | x :: r, 0, _ => .refl _
  | x :: r, k + 1, h => by
    have ih := pop_perm r k (by simpa using h)
    show (r[k]'(by simpa using h) :: x :: r.eraseIdx k).Perm (x :: r)
    exact (List.Perm.swap ..).trans (ih.cons x)
theorem strs_inj : ∀ {a b : List Str}, a.map D.str = b.map D.str → a = b
  | [], [], _ => rfl
  | [], _ :: _, h => by cases h
  | _ :: _, [], h => by cases h
  | x :: a, y :: b, h => by
    rw [List.map_cons, List.map_cons] at h
    injection h with h1 h2
    injection h1 with h3
    rw [h3, strs_inj h2]
theorem lt_iff : ∀ a b : List Nat, PySem.Spec.ltCps a b = true ↔ a < b
  | [], [] => by simp [PySem.Spec.ltCps]
  | [], b :: bs => by simp [PySem.Spec.ltCps]
  | a :: as, [] => by simp [PySem.Spec.ltCps]
  | a :: as, b :: bs => by
    rw [PySem.Spec.ltCps, List.cons_lt_cons_iff]
    have ih := lt_iff as bs
    by_cases h : a < b
    · simp [h]
    · by_cases h2 : a = b
      · subst h2; simp [h, ih]
      · simp [h, h2, ih]
theorem str_ext {a b : Str} (h : a.cps.toList = b.cps.toList) : a = b := by
  cases a; cases b
  simp at h
  rw [h]
theorem lt_or {a b : Str} (h : ¬ b.cps.toList < a.cps.toList) (ne : a ≠ b) : a.cps.toList < b.cps.toList := by
  have h1 : a.cps.toList ≤ b.cps.toList := h
  rcases List.le_iff_lt_or_eq.mp h1 with h2 | h2
  · exact h2
  · exact absurd (str_ext h2) ne
theorem rising_pw : ∀ (l : List Str) (x : Str), PyProof.Rows.risingS x l = true → (x :: l).Nodup → Rise (x :: l)
  | [], x, _, _ => by unfold Rise; simp
  | y :: r, x, h, hn => by
    rw [PyProof.Rows.risingS, Bool.and_eq_true] at h
    rw [List.nodup_cons] at hn
    have ih := rising_pw r y h.2 hn.2
    have hxy : x.cps.toList < y.cps.toList := lt_or (fun z => by
      have := (lt_iff _ _).mpr z
      rw [this] at h
      exact absurd h.1 (by decide)) fun e => hn.1 (by rw [e]; exact List.mem_cons_self ..)
    refine List.Pairwise.cons (fun z hz => ?_) ih
    rcases List.mem_cons.mp hz with rfl | hz
    · exact hxy
    · exact List.lt_trans hxy ((List.pairwise_cons.mp ih).1 z hz)
theorem rise_of {zs : List Str} (h : PyProof.Rows.sortedS zs = true) (hn : zs.Nodup) : Rise zs := by
  cases zs with
  | nil => exact List.Pairwise.nil
  | cons x l => exact rising_pw l x h hn
theorem erase_map {α β : Type} (f : α → β) : ∀ (l : List α) (k : Nat), (l.map f).eraseIdx k = (l.eraseIdx k).map f
  | [], _ => rfl
  | _ :: _, 0 => rfl
  | x :: r, k + 1 => by
    show f x :: (r.map f).eraseIdx k = f x :: (r.eraseIdx k).map f
    rw [erase_map f r k]
theorem some_spec {p pc pl : Addr} {b n : Nat} {ps : List Str} {S : Sto} {Q : DK} (h : Pen S p pc b) (hb : b + 100 ≤ 100000) (tp : Txs S p pl ps) (hp : ps.length = 10) (hn : n ≤ 6)
    (q : ∀ (a : Addr) (zs : List Str) (S' : Sto), S' a = some (.lst (zs.map .str)) → a ≠ p → zs.length = n → Rise zs → (∀ z ∈ zs, Nm z) → Pen S' p pc (b + 6) → Kp p S S' → Q (.ref a) S') : m_wsome [.ref p, .ref pl, .int (n : Nat)] S Q := by
  rw [e_wsome]
  refine seq_i ?_
  try simp_arith! []
  refine ⟨_, tp.at_, fun l hl => ?_⟩
  have nl := h.ne hl
  have p1 := h.new (o := .lst (ps.map .str)) hl
  have g1 : Kp p S (updS S l (.lst (ps.map .str))) := .new hl
  have l1 : updS S l (.lst (ps.map .str)) l = some (.lst (ps.map .str)) := updS_same
  generalize updS S l (.lst (ps.map .str)) = S1 at p1 g1 l1
  simp_arith! [t_wsome_2]
  refine seq_i ?_
  try simp_arith! []
  refine ⟨by omega, by omega, ?_⟩
  rw [Int.toNat_natCast]
  refine lcL_inv _ (fun i acc S' => Pen S' p pc (b + i) ∧ Kp p S S' ∧ (∃ ys : List Str, acc = ys.map .str ∧ ys.length = i) ∧ ∃ left : List Str, S' l = some (.lst (left.map .str)) ∧ left.length = 10 - i ∧ ∀ ys : List Str, acc = ys.map .str → (ys ++ left).Perm ps) (fun _ _ _ _ => trivial) (fun i x acc S6 N hx hI hN => ?el) (fun acc S6 hI => ?af) ⟨p1, g1, ⟨[], rfl, rfl⟩, ps, l1, hp, fun ys e => by cases ys <;> first | exact .refl _ | cases e⟩
  case el =>
    obtain ⟨p6, g6, ⟨ys, rfl, hyl⟩, left, ll, hll, hpm⟩ := hI
    have hi := (List.getElem?_eq_some_iff.mp hx).1
    rw [rangeD_len] at hi
    simp_arith! [c_wsome_2, ll, List.length_map]
    refine take_spec p6 (by omega) (by omega) (log_small (by omega) (by omega)) fun j S7 a7 b7 p7 g7 => ?_
    have ll7 := g7 _ _ nl.1 ll
    obtain ⟨k, rfl⟩ : ∃ k : Nat, j = (k : Nat) := ⟨j.toNat, by omega⟩
    have hk : k < left.length := by omega
    rw [gPopAt_r]
    have hg : (left.map D.str)[k]? = some (.str left[k]) := by rw [List.getElem?_map]; simp [hk]
    have hyz : ys.length < sizeLine := by rw [hyl]; exact Nat.lt_of_lt_of_le (show i < 401 by omega) (by decide)
    refine ⟨left.map .str, k, .str left[k], ll7, by omega, by omega, (ixN_seq (ixN_of (by rw [List.length_map]; exact hk))).1, hg, hyz, hN _ _ ⟨?_, fun y o hy e2 => by rw [updS_ne (neS e2 hl)]; exact g7 y o hy (g6 y o hy e2), ⟨ys ++ [left[k]], by rw [List.map_append]; rfl, by rw [List.length_append, hyl]; rfl⟩, left.eraseIdx k, by rw [updS_same, erase_map], by rw [List.length_eraseIdx_of_lt hk]; omega, fun ys2 e => ?_⟩⟩
    rotate_left
    · have e2 : ys2 = ys ++ [left[k]] := strs_inj (by rw [← e, List.map_append]; rfl)
      subst e2
      have h1 := hpm ys rfl
      rw [List.append_assoc]
      exact ((pop_perm left k hk).append_left ys).trans h1
    obtain ⟨ns, y, l2, e1, e3, e4⟩ := p7.ex
    exact ⟨ns, y, l2, by rw [updS_ne (Ne.symm nl.1)]; exact e1, by rw [updS_ne (Ne.symm nl.2)]; exact e3, e4⟩
  case af =>
    obtain ⟨p6, g6, ⟨ys, rfl, hyl⟩, left, ll, hll, hpm⟩ := hI
    rw [rangeD_len] at p6 hyl
    intro c hc
    simp_arith! [t_wsome_3]
    refine .inl (.inr ⟨ys, updS_same, by omega, fun zs hp hs r hr => ?_⟩)
    have q1 := p6.new (o := .lst (ys.map .str)) hc
    refine q r zs _ updS_same (q1.ne hr).1 (by rw [hp.length_eq]; exact hyl) (rise_of hs ?_) (fun z hz => ?_) ((q1.new hr).mono (by omega)) ((g6.trans (.new hc)).trans (.new hr))
    · have h1 := (hpm ys rfl).nodup_iff.mpr tp.ok.nd
      rw [List.nodup_append] at h1
      exact hp.nodup_iff.mpr h1.1
    · exact tp.ok.nm z ((hpm ys rfl).mem_iff.mp (List.mem_append_left _ (hp.mem_iff.mp hz)))
end LW
namespace LW
open PySem L2 DL
/-- a part of a land -/
structure Pt where
  o : Str
  h : Str
  n : Int
def Pt.D (x : Pt) : DL.D := .tup [.str x.o, .str x.h, .int x.n]
structure Pt.ok (x : Pt) : Prop where
  ho : Nm x.o
  hh : Nm x.h
  n1 : 1 ≤ x.n
  n2 : x.n ≤ 10000000
/-- a row of a word, a name, a day -/
inductive RowOk (n : Str) (d : Int) : Str → D → Prop
  | part {la : Str} {ps : List Pt} (hl : Nm la) (h2 : 2 ≤ ps.length) (h6 : ps.length ≤ 6) (hr : Rise (ps.map (·.o))) (hp : ∀ x ∈ ps, x.ok) : RowOk n d "part" (.tup [.str "part", .str n, .int d, .str la, .tup (ps.map Pt.D)])
  | join {ls : List Str} {la : Str} (h2 : 2 ≤ ls.length) (h6 : ls.length ≤ 6) (hr : Rise ls) (hp : ∀ z ∈ ls, Nm z) (hl : Nm la) : RowOk n d "join" (.tup [.str "join", .str n, .int d, .tup (ls.map .str), .str la])
  | forfeit {la h : Str} (hl : Nm la) (hh : Nm h) : RowOk n d "forfeit" (.tup [.str "forfeit", .str n, .int d, .str la, .str h])
  | measure {f : Str} {i : Int} (hf : Nm f) (i0 : 0 ≤ i) (i1 : i ≤ 10000000) : RowOk n d "measure" (.tup [.str "measure", .str n, .int d, .str f, .int i])
  | mend {h g : Str} (hh : Nm h) (hg : Nm g) (ne : h ≠ g) : RowOk n d "mend" (.tup [.str "mend", .str n, .int d, .str h, .str g])
  | alone {h : Str} (hh : Nm h) : RowOk n d "alone" (.tup [.str "alone", .str n, .int d, .str h])
  | breach {f : Str} {i c s : Int} (hf : Nm f) (i0 : 0 ≤ i) (i1 : i ≤ 9999999) (c0 : 0 ≤ c) (c1 : c ≤ 1000000000) (s0 : 0 ≤ s) (s1 : s ≤ 1000000) : RowOk n d "breach" (.tup [.str "breach", .str n, .int d, .str f, .int i, .int c, .int s])
  | view {f : Str} {i : Int} {h : Str} (hf : Nm f) (i0 : 0 ≤ i) (i1 : i ≤ 9999999) (hh : Nm h) : RowOk n d "view" (.tup [.str "view", .str n, .int d, .str f, .int i, .str h])
def three : List Str := ["measure", "breach", "view"]
/-- the row's field, where it has one, is such a one -/
def FIn (P : Str → Prop) (w : Str) (R : D) : Prop := w ∈ three → ∀ a b x r, R = .tup (.str w :: a :: b :: .str x :: r) → P x
def words : List Str := ["part", "join", "forfeit", "measure", "mend", "alone", "breach", "view"]
abbrev rEnv (p f pl ho : Addr) (w n : Str) (d : Int) (la hou fie : Str) (at_ : Int) (u4 u9 u13 u14 u15 : Option D) : DL.Env :=
  [some (.ref p), some (.str w), some (.str n), some (.int d), u4, some (.str la), some (.int at_), some (.str hou), some (.str fie), u9, some (.ref f), some (.ref pl), some (.ref ho), u13, u14, u15]
theorem row20 {p pc f pl ho : Addr} {b : Nat} {w n : Str} {d : Int} {la hou fie : Str} {at_ : Int} {u4 u9 u13 u14 u15 : Option D} {S : Sto} {Q : DK} {D0 : DEnds} (hQ : D0.rt = Q) (h : Pen S p pc b) (hb : b + 20 ≤ 100000) (hla : Nm la) (hho : Nm hou) (hfi : Nm fie) (hw : w = "view" ∨ w = "breach")
    (q : ∀ R S', RowOk n d w R → FIn (· = fie) w R → Pen S' p pc (b + 9) → Kp p S S' → Q R S') : t_wrow_of_20 D0 (rEnv p f pl ho w n d la hou fie at_ u4 u9 u13 u14 u15) S := by
  have e7 : (10 : Int) ^ Int.toNat 7 = 10000000 := by decide +kernel
  have e9 : (10 : Int) ^ Int.toNat 9 = 1000000000 := by decide +kernel
  have e6 : (10 : Int) ^ Int.toNat 6 = 1000000 := by decide +kernel
  refine seq_i ?_
  simp_arith! []
  rw [e7]
  refine ⟨powI (by decide) (by decide) (by decide) (by decide), number_spec h (by omega) (by decide) (by decide) (by decide) fun v1 S1 l1 m1 p1 g1 => ?_⟩
  refine seq_i ?_
  simp_arith! []
  by_cases hv : w = "view"
  · rw [if_pos hv, hQ]
    subst hv
    exact ⟨by decide, q _ _ (.view hfi l1 (by omega) hho) (fun _ a b x r e => by simp only [D.tup.injEq, List.cons.injEq, D.str.injEq] at e; exact e.2.2.2.1.symm) (p1.mono (by omega)) g1⟩
  · rw [if_neg hv]
    simp_arith! [t_wrow_of_23, hQ]
    rw [e9, e6]
    refine ⟨powI (by decide) (by decide) (by decide) (by decide), number_spec p1 (by omega) (by decide) (by decide) (by decide) fun v2 S2 l2 m2 p2 g2 => ⟨powI (by decide) (by decide) (by decide) (by decide), number_spec p2 (by omega) (by decide) (by decide) (by decide) fun v3 S3 l3 m3 p3 g3 => ⟨by decide, ?_⟩⟩⟩
    have hw := hw.resolve_left hv
    subst hw
    exact q _ _ (.breach hfi l1 (by omega) l2 (by omega) l3 (by omega)) (fun _ a b x r e => by simp only [D.tup.injEq, List.cons.injEq, D.str.injEq] at e; exact e.2.2.2.1.symm) (p3.mono (by omega)) (g1.trans (g2.trans g3))
theorem other_house {hs : List Str} {hou : Str} {at_ j : Int} (hat : ∃ k : Nat, at_ = (k : Nat) ∧ hs[k]? = some hou) (nd : hs.Nodup) (hl : hs.length = 5) (j0 : 0 ≤ j) (j1 : j < (hs.length : Int) - 1) :
    ∃ z, atI (hs.map D.str) ((at_ + 1 + j) % (hs.length : Int)) = some (.str z) ∧ z ∈ hs ∧ hou ≠ z := by
  obtain ⟨k, rfl, hk⟩ := hat
  have hkl := (List.getElem?_eq_some_iff.mp hk).1
  rw [hl] at j1 hkl ⊢
  obtain ⟨jn, rfl⟩ : ∃ jn : Nat, j = (jn : Nat) := ⟨j.toNat, by omega⟩
  have e : (((k : Nat) : Int) + 1 + (jn : Nat)) % ((5 : Nat) : Int) = (((k + 1 + jn) % 5 : Nat) : Int) := by omega
  rw [e]
  have hm : (k + 1 + jn) % 5 < hs.length := by omega
  refine ⟨hs[(k + 1 + jn) % 5], atI_nat ?_, List.getElem_mem hm, fun e2 => ?_⟩
  · rw [List.getElem?_map, List.getElem?_eq_getElem hm]; rfl
  · have e3 : hs[k]? = hs[(k + 1 + jn) % 5]? := by rw [hk, List.getElem?_eq_getElem hm, e2]
    have := (List.getElem?_inj (by omega) nd).mp e3
    omega
theorem row18 {p pc f pl ho : Addr} {b : Nat} {w n : Str} {d : Int} {la hou fie : Str} {at_ : Int} {u4 u9 u13 u14 u15 : Option D} {hs : List Str} {S : Sto} {Q : DK} {D0 : DEnds} (hQ : D0.rt = Q) (h : Pen S p pc b) (hb : b + 20 ≤ 100000) (th : Txs S p ho hs) (hl : hs.length = 5) (hla : Nm la) (hho : Nm hou) (hfi : Nm fie) (hat : ∃ k : Nat, at_ = (k : Nat) ∧ hs[k]? = some hou) (hw : w ∈ words) (hnp : w ≠ "part") (hnj : w ≠ "join")
    (q : ∀ R S', RowOk n d w R → FIn (· = fie) w R → Pen S' p pc (b + 9) → Kp p S S' → Q R S') : t_wrow_of_12 D0 (rEnv p f pl ho w n d la hou fie at_ u4 u9 u13 u14 u15) S := by
  have e7 : (10 : Int) ^ Int.toNat 7 = 10000000 := by decide +kernel
  refine seq_i ?_
  simp_arith! []
  by_cases h1 : w = "forfeit"
  · rw [if_pos h1, hQ]
    subst h1
    exact ⟨by decide, q _ _ (.forfeit hla hho) (fun hw => absurd hw (by decide +kernel)) (h.mono (by omega)) .refl⟩
  rw [if_neg h1]
  refine seq_i ?_
  simp_arith! []
  by_cases h2 : w = "measure"
  · rw [if_pos h2]
    simp_arith! [hQ]
    rw [e7]
    exact ⟨powI (by decide) (by decide) (by decide) (by decide), number_spec h (by omega) (by decide) (by decide) (by decide) fun v1 S1 l1 m1 p1 g1 => ⟨by decide, q _ _ (h2 ▸ .measure hfi l1 m1) (fun _ a b x r e => by simp only [D.tup.injEq, List.cons.injEq, D.str.injEq] at e; exact e.2.2.2.1.symm) (p1.mono (by omega)) g1⟩⟩
  rw [if_neg h2]
  refine seq_i ?_
  simp_arith! []
  by_cases h3 : w = "mend"
  · rw [if_pos h3]
    simp_arith! [hQ, th.at_, List.length_map]
    refine take_spec h (by omega) (by omega) (log_small (by omega) (by omega)) fun j S1 a1 b1 p1 g1 => ?_
    have e1 := (th.kp g1).at_
    rw [gAdd_ii, e1, oLen_l, List.length_map, gI_ii, e1]
    have m0 : 0 ≤ (at_ + 1 + j) % (hs.length : Int) := Int.emod_nonneg _ (by omega)
    have m1 : (at_ + 1 + j) % (hs.length : Int) < hs.length := Int.emod_lt_of_pos _ (by omega)
    obtain ⟨z, ez, hzm, hne⟩ := other_house hat th.ok.nd hl a1 b1
    exact ⟨by omega, _, ez, by decide, q _ _ (h3 ▸ .mend hho (th.ok.nm z hzm) hne) (fun hw => absurd hw (by rw [h3]; decide +kernel)) (p1.mono (by omega)) g1⟩
  rw [if_neg h3]
  refine seq_i ?_
  simp_arith! []
  by_cases h4 : w = "alone"
  · rw [if_pos h4, hQ]
    subst h4
    exact ⟨by decide, q _ _ (.alone hho) (fun hw => absurd hw (by decide +kernel)) (h.mono (by omega)) .refl⟩
  rw [if_neg h4]
  refine row20 hQ h hb hla hho hfi ?_ q
  unfold words at hw
  simp only [List.mem_cons, List.not_mem_nil, or_false, hnp, hnj, h1, h2, h3, h4, false_or] at hw
  exact hw.symm
theorem row8 {p pc f pl ho c : Addr} {b : Nat} {w n : Str} {d : Int} {la hou fie : Str} {at_ : Int} {u4 u9 u14 u15 : Option D} {hs zs : List Str} {S : Sto} {Q : DK} {D0 : DEnds} (hQ : D0.rt = Q) (h : Pen S p pc b) (hb : b + 100 ≤ 100000) (th : Txs S p ho hs) (hl : hs.length = 5)
    (ec : S c = some (.lst (zs.map .str))) (hcp : c ≠ p) (hz2 : 2 ≤ zs.length) (hzl : zs.length ≤ 6) (hrz : Rise zs) (hzn : ∀ z ∈ zs, Nm z) (hla : Nm la) (hw : w = "part" ∨ w = "join")
    (q : ∀ R S', RowOk n d w R → Pen S' p pc (b + 30) → Kp p S S' → Q R S') : t_wrow_of_8 D0 (rEnv p f pl ho w n d la hou fie at_ u4 u9 (some (.ref c)) u14 u15) S := by
  have e7 : (10 : Int) ^ Int.toNat 7 = 10000000 := by decide +kernel
  refine seq_i ?_
  simp_arith! []
  by_cases h1 : w = "join"
  · rw [if_pos h1]
    simp_arith! [hQ]
    exact ⟨_, ec, by decide, q _ _ (h1 ▸ .join hz2 hzl hrz hzn hla) (h.mono (by omega)) .refl⟩
  rw [if_neg h1]
  have hw := hw.resolve_right h1
  subst hw
  refine seq_i ?_
  simp_arith! []
  refine ⟨_, ec, ?_⟩
  refine lcL_inv _ (fun i acc S' => Pen S' p pc (b + 4 * i) ∧ Kp p S S' ∧ ∃ pts : List Pt, acc = pts.map Pt.D ∧ pts.map (·.o) = zs.take i ∧ ∀ x ∈ pts, x.ok) (fun i acc S' hi => hi.2.1 _ _ hcp ec) (fun i x acc S6 N hx hI hN => ?el) (fun acc S6 hI => ?af) ⟨h, .refl, [], rfl, rfl, fun _ z => nomatch z⟩
  case el =>
    obtain ⟨p6, g6, pts, rfl, hpo, hpk⟩ := hI
    have hi := (List.getElem?_eq_some_iff.mp hx).1
    rw [List.length_map] at hi
    rw [List.getElem?_map] at hx
    obtain ⟨z, hz, rfl⟩ := Option.map_eq_some_iff.mp hx
    have hal : pts.length = i := by have := congrArg List.length hpo; rw [List.length_map, List.length_take] at this; omega
    simp_arith! [c_wrow_of_10, (th.kp g6).at_, List.length_map]
    refine take_spec p6 (by omega) (by omega) (log_small (by omega) (by omega)) fun j S1 a1 b1 p1 g1 => ?_
    rw [(th.kp (g6.trans g1)).at_, oIx_li]
    obtain ⟨y, ey, hym⟩ := get_str (zs := hs) a1 (by omega)
    refine ⟨_, ey, ?_⟩
    rw [e7]
    refine ⟨powI (by decide) (by decide) (by decide) (by decide), number_spec p1 (by omega) (by decide) (by decide) (by decide) fun v1 S2 l1 m1 p2 g2 => ⟨by decide, by rw [hal]; exact Nat.lt_of_lt_of_le (show i < 401 by omega) (by decide), hN _ _ ⟨p2.mono (by omega), g6.trans (g1.trans g2), pts ++ [⟨z, y, v1⟩], by rw [List.map_append]; rfl, by rw [List.map_append, hpo, List.take_add_one, hz]; rfl, fun x hx2 => ?_⟩⟩⟩
    rcases List.mem_append.mp hx2 with hx2 | hx2
    · exact hpk x hx2
    · rw [List.mem_singleton] at hx2
      subst hx2
      exact ⟨hzn z (List.mem_of_getElem? hz), th.ok.nm y hym, l1, m1⟩
  case af =>
    obtain ⟨p6, g6, pts, rfl, hpo, hpk⟩ := hI
    rw [List.length_map] at p6 hpo
    rw [List.take_of_length_le (Nat.le_refl _)] at hpo
    have hal : pts.length = zs.length := by rw [← hpo, List.length_map]
    intro r hr
    simp_arith! [t_wrow_of_11, updS_same, hQ]
    exact ⟨pts.map Pt.D, rfl, by decide, q _ _ (.part hla (by omega) (by omega) (by rw [hpo]; exact hrz) hpk) ((p6.new hr).mono (by omega)) (g6.trans (.new hr))⟩
theorem get_str2 {zs : List Str} {i : Int} (h0 : 0 ≤ i) (h : i < zs.length) : ∃ z, atI (zs.map D.str) i = some (.str z) ∧ z ∈ zs ∧ ∃ k : Nat, i = (k : Nat) ∧ zs[k]? = some z := by
  obtain ⟨k, rfl⟩ : ∃ k : Nat, i = (k : Nat) := ⟨i.toNat, by omega⟩
  have hl : k < zs.length := by omega
  refine ⟨zs[k], atI_nat ?_, List.getElem_mem hl, k, rfl, List.getElem?_eq_getElem hl⟩
  rw [List.getElem?_map]
  simp [hl]
theorem pj_eq (w : Str) : ([D.str "part", D.str "join"].any fun z => eqF z (D.str w)) = decide (w = "part" ∨ w = "join") := by
  have := any_str ["part", "join"] w
  rw [show ([D.str "part", D.str "join"]) = (["part", "join"] : List Str).map D.str from rfl, this]
  simp
theorem pj_true {w : Str} (h : ([D.str "part", D.str "join"].any fun z => eqF z (D.str w)) = true) : w = "part" ∨ w = "join" := by
  rw [pj_eq, decide_eq_true_eq] at h
  exact h
theorem pj_false {w : Str} (h : ¬ ([D.str "part", D.str "join"].any fun z => eqF z (D.str w)) = true) : w ≠ "part" ∧ w ≠ "join" := by
  rw [pj_eq, decide_eq_true_eq, not_or] at h
  exact h
theorem rowof_spec {p pc f pl ho : Addr} {b : Nat} {w n : Str} {d : Int} {fs ps hs : List Str} {S : Sto} {Q : DK} (h : Pen S p pc b) (hb : b + 200 ≤ 100000) (tf : Txs S p f fs) (tp : Txs S p pl ps) (th : Txs S p ho hs) (hf : 0 < fs.length) (hf2 : fs.length ≤ 10) (hp : ps.length = 10) (hl : hs.length = 5)
    (hw : w ∈ words)
    (q : ∀ R S', RowOk n d w R → FIn (· ∈ fs) w R → Pen S' p pc (b + 50) → Kp p S S' → Q R S') : m_wrow_of [.ref p, .str w, .str n, .int d, .tup [.ref f, .ref pl, .ref ho]] S Q := by
  rw [e_wrow_of]
  refine seq_i ?_
  simp_arith! []
  refine seq_i ?_
  simp_arith! [tp.at_, List.length_map]
  refine take_spec h (by omega) (by omega) (log_small (by omega) (by omega)) fun j1 S1 a1 b1 p1 g1 => ?_
  rw [(tp.kp g1).at_, oIx_li]
  obtain ⟨la, ela, hla⟩ := get_str (zs := ps) a1 (by omega)
  refine ⟨_, ela, ?_⟩
  simp_arith! [t_wrow_of_3]
  refine seq_i ?_
  simp_arith! [(th.kp g1).at_, List.length_map]
  refine take_spec p1 (by omega) (by omega) (log_small (by omega) (by omega)) fun j2 S2 a2 b2 p2 g2 => ?_
  simp_arith! [t_wrow_of_4]
  refine seq_i ?_
  have g2' := g1.trans g2
  simp_arith! [(th.kp g2').at_]
  obtain ⟨hou, ehou, hhou, hat⟩ := get_str2 (zs := hs) a2 (by omega)
  refine ⟨_, ehou, ?_⟩
  simp_arith! [t_wrow_of_5]
  refine seq_i ?_
  simp_arith! [(tf.kp g2').at_, List.length_map]
  refine take_spec p2 (by omega) (by omega) (log_small (by omega) (by omega)) fun j3 S3 a3 b3 p3 g3 => ?_
  have g3' := g2'.trans g3
  rw [(tf.kp g3').at_, oIx_li]
  obtain ⟨fie, efie, hfie⟩ := get_str (zs := fs) a3 (by omega)
  refine ⟨_, efie, ?_⟩
  simp_arith! [t_wrow_of_6]
  refine seq_i ?_
  simp_arith! []
  refine ⟨by decide, rfl, rfl, ?_⟩
  by_cases hw2 : ([D.str "part", D.str "join"].any fun z => eqF z (D.str w)) = true
  · rw [if_pos hw2]
    refine seq_i ?_
    simp_arith! []
    refine take_spec p3 (by omega) (by decide) (by decide) fun j4 S4 a4 b4 p4 g4 => ?_
    have b4 : j4 < 5 := b4
    refine ⟨by decide, fun r hr => ?_⟩
    refine take_spec (p4.new hr) (by omega) (by decide) (by decide) fun j5 S5 a5 b5 p5 g5 => ?_
    have b5 : j5 < 3 := b5
    have nr := (p4.ne hr).1
    rw [g5 _ _ nr updS_same, oIx_li]
    have hpick : ∃ m : Nat, atI [D.int 2, D.int 6, D.int (2 + j4)] j5 = some (.int (m : Nat)) ∧ m ≤ 6 ∧ 2 ≤ m := by
      obtain ⟨j, rfl⟩ : ∃ j : Nat, j5 = (j : Nat) := ⟨j5.toNat, by omega⟩
      match j, b5 with
      | 0, _ => exact ⟨2, rfl, by omega, by omega⟩
      | 1, _ => exact ⟨6, rfl, by omega, by omega⟩
      | 2, _ => exact ⟨(2 + j4).toNat, by rw [show (((2 + j4).toNat : Nat) : Int) = 2 + j4 by omega]; rfl, by omega, by omega⟩
      | j + 3, h => exact absurd h (by omega)
    obtain ⟨m, em, hm, hm2⟩ := hpick
    refine ⟨_, em, ?_⟩
    have g5' := g3'.trans (g4.trans ((Kp.new hr).trans g5))
    refine some_spec p5 (by omega) (tp.kp g5') hp hm fun c zs S6 ec ncp hzl hrz hzn p6 g6 => ?_
    refine row8 rfl p6 (by omega) (th.kp (g5'.trans g6)) hl ec ncp (by omega) (by omega) hrz hzn (tp.ok.nm _ hla) (pj_true hw2) fun rest S' hn hpn hg => q rest S' hn (fun hw => by rcases pj_true hw2 with e | e <;> (rw [e] at hw; exact absurd hw (by decide +kernel))) (hpn.mono (by omega)) ((g5'.trans g6).trans hg)
  · rw [if_neg hw2]
    obtain ⟨n1, n2⟩ := pj_false hw2
    exact row18 rfl p3 (by omega) (th.kp g3') hl (tp.ok.nm _ hla) (th.ok.nm _ hhou) (tf.ok.nm _ hfie) hat hw n1 n2 fun rest S' hn hF hpn hg => q rest S' hn (fun hw a b x r e => by rw [hF hw a b x r e]; exact hfie) (hpn.mono (by omega)) (g3'.trans hg)
end LW
namespace LW
open PySem L2 DL
/-- the store has grown -/
def Gr (S S' : Sto) : Prop := ∀ a o, S a = some o → S' a = some o
theorem Gr.refl {S : Sto} : Gr S S := fun _ _ h => h
theorem Gr.trans {S S1 S2 : Sto} (x : Gr S S1) (y : Gr S1 S2) : Gr S S2 := fun a o h => y a o (x a o h)
theorem Gr.new {q : Addr} {S : Sto} {o : O} (h : S q = none) : Gr S (updS S q o) := fun a u e => by rw [updS_ne (neS e h)]; exact e
theorem Gr.kp {p : Addr} {S S' : Sto} (g : Gr S S') : Kp p S S' := fun a o _ h => g a o h
/-- a sign of the alphabet -/
def inA (c : Nat) : Bool := inStr ⟨#[c]⟩ "abcdefghijklmnopqrstuvwxyz"
def nm (z : Str) : Bool := decide (1 ≤ z.length) && decide (z.length ≤ 8) && z.cps.toList.all inA
theorem inA_lt : ∀ j : Fin 26, inA (97 + j.val) = true := by decide +kernel
theorem Nm.nm {z : Str} (h : Nm z) : nm z = true := by
  unfold LW.nm
  rw [decide_eq_true h.lo, decide_eq_true h.hi]
  simp only [Bool.true_and]
  rw [List.all_eq_true]
  intro c hc
  obtain ⟨h1, h2⟩ := h.lt c hc
  have := inA_lt ⟨c - 97, by omega⟩
  rw [show c = 97 + (c - 97) by omega]
  exact this
theorem isn_spec {z : Str} {S : Sto} {Q : DK} (hz : z.length ≤ sizeLine) (q : ∀ S', Gr S S' → Q (.bl (nm z)) S') : m_is_name [.str z] S Q := by
  rw [e_is_name]
  refine seq_i ?_
  simp_arith! [hz]
  by_cases h1 : (1 : Int) ≤ z.length
  · rw [if_pos h1]
    by_cases h2 : (z.length : Int) ≤ 8
    · rw [decide_eq_true h2]
      simp_arith! []
      refine ret_i ?_
      simp_arith! []
      refine lcL_map (fun d => match d with | .str s => .bl (inStr s "abcdefghijklmnopqrstuvwxyz") | _ => .non) _ trivial (by rw [List.length_map, Array.length_toList]; exact hz) (fun x hx Q hq => ?_) (fun p hp => ?_)
      · obtain ⟨c, _, rfl⟩ := List.mem_map.mp hx
        simp_arith! [c_is_name_3]
        exact hq
      · refine ⟨z.cps.toList.map inA, ?_, ?_⟩
        · rw [updS_same, List.map_map, List.map_map]
          rfl
        · have e : (z.cps.toList.map inA).all id = nm z := by
            unfold nm
            rw [decide_eq_true (show 1 ≤ z.length by omega), decide_eq_true (show z.length ≤ 8 by omega), List.all_map]
            simp only [Bool.true_and]
            rfl
          rw [e]
          exact q _ (.new hp)
    · rw [decide_eq_false h2]
      have e : nm z = false := by
        unfold nm
        rw [decide_eq_false (show ¬ z.length ≤ 8 by omega)]
        simp
      rw [e] at q
      simp_arith! []
      exact q _ .refl
  · rw [if_neg h1]
    have e : nm z = false := by
      unfold nm
      rw [decide_eq_false (show ¬ 1 ≤ z.length by omega)]
      simp
    rw [e] at q
    try simp_arith! []
    exact q _ .refl
/-- of what is no text -/
theorem isn_no {x : D} {t : String} {S : Sto} {Q : DK} (h : tyD x S = some t) (ht : t ≠ "str") (q : Q (.bl false) S) : m_is_name [x] S Q := by
  rw [e_is_name]
  refine seq_i ?_
  have e : (t == "str") = false := by simp [ht]
  simp_arith! [h, e]
  exact q
/-- what can be asked -/
inductive OkT (S : Sto) : D → Prop
  | str {z : Str} (h : z.length ≤ 100000) : OkT S (.str z)
  | tup {ds : List D} (hl : ds.length ≤ 100000) (h : ∀ x ∈ ds, OkT S x) : OkT S (.tup ds)
  | oth {d : D} {t : String} (h : tyD d S = some t) (h1 : t ≠ "str") (h2 : t ≠ "tuple") : OkT S d
theorem tyD_gr {S S' : Sto} {d : D} {t : String} (g : Gr S S') (h : tyD d S = some t) : tyD d S' = some t := by
  cases d with
  | ref p =>
    rw [tyD_r] at h ⊢
    cases e : S p with
    | none => rw [e] at h; cases h
    | some o => rw [e] at h; rw [g _ _ e]; exact h
  | _ => exact h
theorem OkT.gr {S S' : Sto} (g : Gr S S') {d : D} (h : OkT S d) : OkT S' d := by
  induction h with
  | str h => exact .str h
  | tup hl h ih => exact .tup hl ih
  | oth h h1 h2 => exact .oth (tyD_gr g h) h1 h2
def nmD : D → Bool
  | .str z => nm z
  | _ => false
theorem nmD_no {S : Sto} {d : D} {t : String} (h : tyD d S = some t) (ht : t ≠ "str") : nmD d = false := by
  cases d <;> first | rfl | (cases h; exact absurd rfl ht)
theorem isn_all {d : D} {S : Sto} {Q : DK} (h : OkT S d) (q : ∀ S', Gr S S' → Q (.bl (nmD d)) S') : m_is_name [d] S Q := by
  cases h with
  | str hz => exact isn_spec (small_line hz) q
  | tup _ _ => exact isn_no rfl (by decide) (q _ .refl)
  | oth h1 h2 h3 => rw [nmD_no h1 h2] at q; exact isn_no h1 h2 (q _ .refl)
def whD (lo hi : Int) : D → Bool
  | .int i => decide (lo ≤ i) && decide (i ≤ hi)
  | _ => false
theorem whD_no {S : Sto} {d : D} {t : String} {lo hi : Int} (h : tyD d S = some t) (ht : t ≠ "int") : whD lo hi d = false := by
  cases d <;> first | rfl | (cases h; exact absurd rfl ht)
theorem within_all {d : D} {lo hi : Int} {S : Sto} {Q : DK} (h : OkT S d) (q : Q (.bl (whD lo hi d)) S) : m_is_within [d, .int lo, .int hi] S Q := by
  rw [e_is_within]
  have main : ∀ t, tyD d S = some t → b_is_within (endsD Q) [some d, some (.int lo), some (.int hi)] S := by
    intro t ht
    by_cases h1 : t = "int"
    · cases d <;> first | (cases ht; done) | skip
      all_goals try (cases ht; exact absurd h1 (by decide))
      · rename_i i
        simp_arith! [b_is_within]
        by_cases hlo : lo ≤ i
        · rw [if_pos hlo]
          have e : whD lo hi (.int i) = decide (i ≤ hi) := by show (decide (lo ≤ i) && decide (i ≤ hi)) = _; rw [decide_eq_true hlo, Bool.true_and]
          rw [e] at q
          exact q
        · rw [if_neg hlo]
          have e : whD lo hi (.int i) = false := by show (decide (lo ≤ i) && decide (i ≤ hi)) = _; rw [decide_eq_false hlo, Bool.false_and]
          rw [e] at q
          exact q
      · rename_i p
        rw [tyD_r] at ht
        cases e : S p with
        | none => rw [e] at ht; cases ht
        | some o => rw [e] at ht; cases o <;> first | (cases ht; done) | (cases ht; exact absurd h1 (by decide))
    · rw [whD_no ht h1] at q
      have e1 : (t == "int") = false := by simp [h1]
      by_cases h2 : t = "bool"
      · subst h2
        simp_arith! [b_is_within, ht]
        exact q
      · have e2 : (t == "bool") = false := by simp [h2]
        simp_arith! [b_is_within, ht, e1, e2]
        exact q
  cases h with
  | str hz => exact main _ rfl
  | tup _ _ => exact main _ rfl
  | oth h1 _ _ => exact main _ h1
theorem names_all {ds : List D} {S : Sto} {Q : DK} (hl : ds.length ≤ 1000) (h : ∀ x ∈ ds, OkT S x) (q : ∀ S', Gr S S' → Q (.bl (ds.all nmD)) S') : m_are_names [.tup ds] S Q := by
  rw [e_are_names]
  simp_arith! [b_are_names]
  refine lcL_inv _ (fun i acc S' => Gr S S' ∧ acc = (ds.take i).map fun d => .bl (nmD d)) (fun _ _ _ _ => trivial) (fun i x acc S' N hx ⟨g, e⟩ hN => ?el) (fun acc S' ⟨g, e⟩ => ?fin) ⟨.refl, by simp⟩
  case el =>
    have hm := List.mem_of_getElem? hx
    have hi := (List.getElem?_eq_some_iff.mp hx).1
    simp_arith! [c_are_names_1]
    refine isn_all ((h x hm).gr g) fun S2 g2 => ⟨by rw [e, List.length_map, List.length_take]; exact Nat.lt_of_lt_of_le (show min i ds.length < 1001 by omega) (by decide), hN _ _ ⟨g.trans g2, ?_⟩⟩
    rw [e, List.take_add_one, hx, List.map_append]
    rfl
  case fin =>
    intro p hp
    rw [List.take_of_length_le (Nat.le_refl _)] at e
    refine ⟨ds.map nmD, by rw [updS_same, e, List.map_map]; rfl, ?_⟩
    rw [List.all_map]
    exact q _ (g.trans (.new hp))
theorem isn_nm {z : Str} (h : Nm z) {S : Sto} {Q : DK} (q : ∀ S', Gr S S' → Q (.bl true) S') : m_is_name [.str z] S Q := by
  have := h.nm
  exact isn_spec (small_line (Nat.le_trans h.hi (by decide))) fun S' g => by rw [this]; exact q S' g
theorem Nm.okT {S : Sto} {z : Str} (h : Nm z) : OkT S (.str z) := .str (Nat.le_trans h.hi (by decide))
theorem names_nm {zs : List Str} (h : ∀ z ∈ zs, Nm z) (hl : zs.length ≤ 1000) {S : Sto} {Q : DK} (q : ∀ S', Gr S S' → Q (.bl true) S') : m_are_names [.tup (zs.map .str)] S Q := by
  refine names_all (by rw [List.length_map]; exact hl) (fun x hx => ?_) fun S' g => ?_
  · obtain ⟨z, hz, rfl⟩ := List.mem_map.mp hx
    exact (h z hz).okT
  · have e : (zs.map D.str).all nmD = true := by
      rw [List.all_map, List.all_eq_true]
      exact fun z hz => (h z hz).nm
    rw [e]
    exact q S' g
theorem within_ok {i lo hi : Int} (h0 : lo ≤ i) (h1 : i ≤ hi) {S : Sto} {Q : DK} (q : Q (.bl true) S) : m_is_within [.int i, .int lo, .int hi] S Q := by
  refine within_all (.oth rfl (by decide) (by decide)) ?_
  have e : whD lo hi (.int i) = true := by show (decide (lo ≤ i) && decide (i ≤ hi)) = true; rw [decide_eq_true h0, decide_eq_true h1]; rfl
  rw [e]
  exact q
end LW
/-! what is in order stays, sorted -/
namespace LW
open PySem L2 DL
theorem sort_back {β : Type} {k : β → PyData} {xs T : List β} (hp : T.Perm xs) (hlt : xs.Pairwise fun a b => PyProof.Rows.lexLt PyProof.Rows.itemOrd (PySem.W.keyToks (k a)) (PySem.W.keyToks (k b)) = true) : T.mergeSort (PySem.W.dataLe false k) = xs := by
  let O := PyProof.Rows.listOrd PyProof.Rows.itemOrd
  have le_def : ∀ a b, PySem.W.dataLe false k a b = !(O.blt (PySem.W.keyToks (k b)) (PySem.W.keyToks (k a))) := fun a b => rfl
  have asy : ∀ a b, O.blt a b = true → O.blt b a = false := fun a b h => by
    cases h2 : O.blt b a with
    | false => rfl
    | true => have := O.trans _ _ _ h h2; rw [O.irrefl] at this; cases this
  refine List.Perm.eq_of_pairwise (le := fun a b => PySem.W.dataLe false k a b = true) (fun a b ha hb h1 h2 => ?_) (List.pairwise_mergeSort (fun a b c h1 h2 => ?_) (fun a b => ?_) T) (hlt.imp fun {a b} h => ?_) ((List.mergeSort_perm ..).trans hp)
  · rw [le_def, Bool.not_eq_true'] at h1 h2
    have ha' : a ∈ xs := hp.mem_iff.mp ((List.mergeSort_perm ..).mem_iff.mp ha)
    have key : ∀ {l : List β}, l.Pairwise (fun a b => PyProof.Rows.lexLt PyProof.Rows.itemOrd (PySem.W.keyToks (k a)) (PySem.W.keyToks (k b)) = true) → a ∈ l → b ∈ l → a = b := by
      intro l hl ha hb
      induction hl with
      | nil => cases ha
      | @cons x l hx _ ih =>
        rcases List.mem_cons.mp ha with e1 | ha2
        · rcases List.mem_cons.mp hb with e2 | hb2
          · rw [e1, e2]
          · have := hx b hb2
            rw [← e1] at this
            exact absurd (h2.symm.trans this) (by decide)
        · rcases List.mem_cons.mp hb with e2 | hb2
          · have := hx a ha2
            rw [← e2] at this
            exact absurd (h1.symm.trans this) (by decide)
          · exact ih ha2 hb2
    exact key hlt ha' hb
  · rw [le_def, Bool.not_eq_true'] at h1 h2 ⊢
    cases h3 : O.blt (PySem.W.keyToks (k c)) (PySem.W.keyToks (k a)) with
    | false => rfl
    | true =>
      rcases O.negTrans _ (PySem.W.keyToks (k b)) _ h3 with h4 | h4
      · rw [h4] at h2; cases h2
      · rw [h4] at h1; cases h1
  · rw [le_def, le_def]
    cases h3 : O.blt (PySem.W.keyToks (k b)) (PySem.W.keyToks (k a)) with
    | false => rfl
    | true => rw [asy _ _ h3]; rfl
  · rw [le_def, Bool.not_eq_true']
    exact asy _ _ h
theorem strKind_lt {a b : List Nat} (h : a < b) : PyProof.Rows.strKind.blt a b = true := by
  simp [PyProof.Rows.strKind]
  exact h
theorem lex_str {a b : Str} {r s : List (Int ⊕ List Nat)} (h : a.cps.toList < b.cps.toList) : PyProof.Rows.lexLt PyProof.Rows.itemOrd (.inr a.cps.toList :: r) (.inr b.cps.toList :: s) = true := by
  rw [PyProof.Rows.lexLt]
  have : PyProof.Rows.itemOrd.blt (.inr a.cps.toList) (.inr b.cps.toList) = true := strKind_lt h
  rw [this]
  rfl
theorem lex_one {r s : List (Int ⊕ List Nat)} (h : PyProof.Rows.lexLt PyProof.Rows.itemOrd r s = true) : PyProof.Rows.lexLt PyProof.Rows.itemOrd (.inl 1 :: r) (.inl 1 :: s) = true := by
  rw [PyProof.Rows.lexLt, PyProof.Rows.itemOrd.irrefl, h]
  rfl
end LW
namespace LW
open PySem L2 DL
mutual
theorem RP_gr {S S' : Sto} (g : Gr S S') : ∀ {d : D} {p : PyData}, RP S d p → RP S' d p
  | _, _, .non => .non
  | _, _, .bl b => .bl b
  | _, _, .int i => .int i
  | _, _, .str z => .str z
  | _, _, .tup h => .tup (RPs_gr g h)
  | _, _, .fl h => .fl (RPs_gr g h)
  | _, _, .lst e h => .lst (g _ _ e) (RPs_gr g h)
  | _, _, .dct e h => .dct (g _ _ e) (RKs_gr g h)
theorem RPs_gr {S S' : Sto} (g : Gr S S') : ∀ {d : List D} {p : List PyData}, RPs S d p → RPs S' d p
  | _, _, .nil => .nil
  | _, _, .cons h t => .cons (RP_gr g h) (RPs_gr g t)
theorem RKs_gr {S S' : Sto} (g : Gr S S') : ∀ {d : List (Key × D)} {p : List (PyData × PyData)}, RKs S d p → RKs S' d p
  | _, _, .nil => .nil
  | _, _, .cons h t => .cons (RP_gr g h) (RKs_gr g t)
end
/-- how it is shown: small -/
def Sm (S : Sto) (k m : Nat) (d : D) : Prop := ∃ p, RP S d p ∧ p.showable = true ∧ p.depth ≤ k ∧ p.bulk ≤ m ∧ p.leavesShort 14 = true
theorem Sm.gr {S S' : Sto} (g : Gr S S') {k m : Nat} {d : D} : Sm S k m d → Sm S' k m d := fun ⟨p, h, r⟩ => ⟨p, RP_gr g h, r⟩
theorem Sm.mono {S : Sto} {k m k2 m2 : Nat} {d : D} (hk : k ≤ k2) (hm : m ≤ m2) : Sm S k m d → Sm S k2 m2 d := fun ⟨p, h, a, b, c, e⟩ => ⟨p, h, a, by omega, by omega, e⟩
theorem sm_non {S : Sto} {k m : Nat} : Sm S k m .non := ⟨.none, .non, rfl, Nat.zero_le _, Nat.zero_le _, rfl⟩
theorem sm_bl {S : Sto} {k m : Nat} (b : Bool) : Sm S k m (.bl b) := ⟨.bool b, .bl b, rfl, Nat.zero_le _, Nat.zero_le _, rfl⟩
theorem sm_str {S : Sto} {k m : Nat} {z : Str} (h : z.length ≤ m) (hc : (z.cps.toList.all fun c => decide (c < 16 ^ 8)) = true) : Sm S k m (.str z) :=
  ⟨.str z, .str z, rfl, Nat.zero_le _, h, hc⟩
theorem sm_int {S : Sto} {k m : Nat} {i : Int} (h1 : -1000000000000 < i) (h2 : i < 1000000000000) : Sm S k m (.int i) := by
  refine ⟨.int i, .int i, ?_, Nat.zero_le _, Nat.zero_le _, ?_⟩
  · rw [PyData.showable.eq_4, decide_eq_true_eq]
    by_cases hz : i.natAbs = 0
    · rw [hz]; decide
    · rw [Nat.log2_lt hz]
      have e : (2 : Nat) ^ 40 = 1099511627776 := by decide +kernel
      exact Nat.lt_of_lt_of_le (show i.natAbs < 2 ^ 40 by rw [e]; omega) (Nat.pow_le_pow_right (by decide) (by decide))
  · have h := PyData.intsShortAll_ints [i] (by
      intro n hn
      rw [List.mem_singleton] at hn
      subst hn
      have e : (10 : Nat) ^ 12 = 1000000000000 := by decide +kernel
      rw [e]
      omega)
    have h3 : (PyData.int i).shown.length ≤ 13 := by
      have : PyData.intsShort 13 (.int i) = true := by
        simpa [PyData.intsShortAll] using h
      simpa [PyData.intsShort] using this
    rw [PyData.leavesShort.eq_3, decide_eq_true_eq]
    omega
theorem sms_of {S : Sto} {k m : Nat} : ∀ {ds : List D}, (∀ x ∈ ds, Sm S k m x) → ∃ ps, RPs S ds ps ∧ PyData.showableAll ps = true ∧ PyData.depthAll ps ≤ k ∧ PyData.bulkAll ps ≤ ds.length * (m + 1) ∧ PyData.leavesShortAll 14 ps = true
  | [], _ => ⟨[], .nil, rfl, Nat.zero_le _, Nat.zero_le _, rfl⟩
  | d :: ds, h => by
    obtain ⟨p, h1, h2, h3, h4, h5⟩ := h d (by simp)
    obtain ⟨ps, i1, i2, i3, i4, i5⟩ := sms_of (ds := ds) fun x hx => h x (by simp [hx])
    refine ⟨p :: ps, .cons h1 i1, by rw [PyData.showableAll.eq_2, h2, i2]; rfl, by rw [PyData.depthAll.eq_2]; omega, ?_, by rw [PyData.leavesShortAll.eq_2, h5, i5]; rfl⟩
    rw [PyData.bulkAll.eq_2, List.length_cons, Nat.succ_mul]
    omega
theorem sm_tup {S : Sto} {k m n : Nat} {ds : List D} (h : ∀ x ∈ ds, Sm S k m x) (hl : ds.length ≤ n) : Sm S (k + 1) (n * (m + 1)) (.tup ds) := by
  obtain ⟨ps, i1, i2, i3, i4, i5⟩ := sms_of h
  exact ⟨.tuple ps, .tup i1, i2, by rw [PyData.depth.eq_2]; omega, by rw [PyData.bulk.eq_3]; exact Nat.le_trans i4 (Nat.mul_le_mul_right _ hl), i5⟩
theorem sm_lst {S : Sto} {k m n : Nat} {ds : List D} {p : Addr} (e : S p = some (.lst ds)) (h : ∀ x ∈ ds, Sm S k m x) (hl : ds.length ≤ n) : Sm S (k + 1) (n * (m + 1)) (.ref p) := by
  obtain ⟨ps, i1, i2, i3, i4, i5⟩ := sms_of h
  exact ⟨.list ps, .lst e i1, i2, by rw [PyData.depth.eq_1]; omega, by rw [PyData.bulk.eq_2]; exact Nat.le_trans i4 (Nat.mul_le_mul_right _ hl), i5⟩
theorem sm_dct {S : Sto} {k m : Nat} {p : Addr} (e : S p = some (.dk [])) : Sm S (k + 1) m (.ref p) :=
  ⟨.dict [], .dct e .nil, rfl, by rw [PyData.depth.eq_3]; show 0 + 1 ≤ _; omega, Nat.zero_le _, rfl⟩
theorem sm_nm {S : Sto} {k m : Nat} {z : Str} (h : Nm z) (hm : 8 ≤ m) : Sm S k m (.str z) := sm_str (Nat.le_trans h.hi hm) (by
  rw [List.all_eq_true]
  intro c hc
  have := h.lt c hc
  rw [decide_eq_true_eq]
  have e : (16 : Nat) ^ 8 = 4294967296 := by decide +kernel
  rw [e]
  omega)
theorem Sm.repr {S : Sto} {d : D} (h : Sm S 30 900000 d) (hb : boxD d = true) : ∃ z, ∀ S' (Q : DK), Gr S S' → Q (.str z) S' → gRepr [d] S' Q := by
  obtain ⟨p, h1, h2, h3, h4, h5⟩ := h
  have := PyData.shown_le_bulk 14 (by decide) p h5
  exact ⟨p.shown, fun S' Q g q => repr_i (RP_gr g h1) hb h2 (by omega) (Nat.le_trans (show p.shown.length ≤ 16000000 by omega) (by decide)) q⟩
end LW
namespace LW
open PySem L2 DL
theorem cut3 (a b c : D) : cutL [a, b, c] none (some 2) = [a, b] := by
  unfold cutL
  rw [HT.sIx_none, show HT.sIx [a, b, c].length [a, b, c].length (some 2) = min 2 3 from HT.sIx_nat _ _ 2]
  rfl
theorem part_spec {x : Pt} (h : x.ok) {S : Sto} {Q : DK} (q : ∀ S', Gr S S' → Q (.bl true) S') : m_is_part [x.D] S Q := by
  rw [e_is_part]
  refine seq_i ?_
  unfold Pt.D
  simp_all_arith []
  rw [if_neg (by decide)]
  simp_all_arith [t_is_part_3, cut3]
  have e : [D.str x.o, D.str x.h] = ([x.o, x.h] : List Str).map .str := rfl
  rw [e]
  refine names_nm (fun z hz => ?_) (by simp) fun S1 g1 => ?_
  · simp only [List.mem_cons, List.not_mem_nil, or_false] at hz
    rcases hz with rfl | rfl
    · exact h.ho
    · exact h.hh
  simp_all_arith []
  exact ⟨_, atI_nat (j := 2) rfl, within_ok h.n1 h.n2 (q _ g1)⟩
theorem part_no {z : Str} {S : Sto} {Q : DK} (q : Q (.bl false) S) : m_is_part [.str z] S Q := by
  rw [e_is_part]
  refine seq_i ?_
  simp_all_arith []
  exact q
theorem cutL_from (ds : List D) (n : Nat) : cutL ds (some (n : Int)) none = ds.drop n := by
  unfold cutL
  rw [HT.sIx_none, show HT.sIx ds.length 0 (some (n : Int)) = min n ds.length from HT.sIx_nat _ _ n]
  by_cases h : n ≤ ds.length
  · rw [Nat.min_eq_left h, List.take_of_length_le (by rw [List.length_drop]; exact Nat.le_refl _)]
  · rw [Nat.min_eq_right (by omega), List.drop_of_length_le (Nat.le_refl _), List.drop_of_length_le (by omega)]
    simp
theorem cutL_to (ds : List D) (n : Nat) : cutL ds none (some (n : Int)) = ds.take n := by
  unfold cutL
  rw [HT.sIx_none, show HT.sIx ds.length ds.length (some (n : Int)) = min n ds.length from HT.sIx_nat _ _ n]
  rw [List.drop_zero, Nat.sub_zero]
  by_cases h : n ≤ ds.length
  · rw [Nat.min_eq_left h]
  · rw [Nat.min_eq_right (by omega), List.take_of_length_le (Nat.le_refl _), List.take_of_length_le (by omega)]
theorem zip_tail_mem {α : Type} {R : α → α → Prop} : ∀ {zs : List α}, zs.Pairwise R → ∀ {p : α × α}, p ∈ zs.zip zs.tail → R p.1 p.2
  | [], _, p, hp => by simp at hp
  | [x], _, p, hp => by simp at hp
  | x :: y :: r, h, p, hp => by
    rw [List.tail_cons, List.zip_cons_cons] at hp
    rcases List.mem_cons.mp hp with rfl | hp
    · exact (List.pairwise_cons.mp h).1 y (by simp)
    · exact zip_tail_mem (List.pairwise_cons.mp h).2 hp
theorem cut_tail (zs : List Str) : cutL (zs.map D.str) (some 1) none = zs.tail.map .str := by
  have := cutL_from (zs.map D.str) 1
  rw [show (((1 : Nat) : Int)) = 1 from rfl] at this
  rw [this, List.drop_one, List.map_tail]
theorem all_true {α : Type} (l : List α) : ∃ bs : List Bool, (l.map fun _ => D.bl true) = bs.map .bl ∧ bs.all id = true := ⟨l.map fun _ => true, by rw [List.map_map]; rfl, by rw [List.all_map, List.all_eq_true]; exact fun _ _ => rfl⟩
theorem rise_lc {zs : List Str} {S : Sto} {st : Sto → Prop} {u0 u1 u2 : Option D} {K : List D → Sto → Prop} (h : Rise zs) (hl : zs.length ≤ 100) (hs : st S) (k : K ((pairs (zs.map .str) (zs.tail.map .str)).map fun _ => .bl true) S) :
    lcL st (nTupL 2 (nCons (nName 1) (nCons (nName 2) nNil))) tsYes c_is_rising_1 [u0, u1, u2] K (pairs (zs.map .str) (zs.tail.map .str)) [] S := by
  refine lcL_map (fun _ => .bl true) _ hs (small_line ?_) (fun x hx Q q => ?_) k
  · unfold pairs
    rw [List.length_map, List.length_zip, List.length_map]
    omega
  · unfold pairs at hx
    obtain ⟨⟨a, b⟩, hab, rfl⟩ := List.mem_map.mp hx
    rw [List.zip_map] at hab
    obtain ⟨⟨x, y⟩, hxy, e⟩ := List.mem_map.mp hab
    cases e
    have hlt := zip_tail_mem h hxy
    simp_all_arith [c_is_rising_1]
    show gLt2 (D.str x) (D.str y) S Q
    rw [gLt2_ss, decide_eq_true hlt]
    exact q
theorem rising_l {p : Addr} {zs : List Str} {S : Sto} {Q : DK} (e : S p = some (.lst (zs.map .str))) (h : Rise zs) (hl : zs.length ≤ 100) (q : ∀ S', Gr S S' → Q (.bl true) S') : m_is_rising [.ref p] S Q := by
  rw [e_is_rising]
  simp_all_arith [b_is_rising, e]
  refine ⟨_, rfl, fun n hn => ?_⟩
  rw [cut_tail]
  have hpn := neS e hn
  refine ⟨zs.map .str, by rw [updS_ne hpn]; exact e, zs.tail.map .str, updS_same, rise_lc h hl ⟨by rw [updS_ne hpn]; exact e, updS_same⟩ fun p2 hp2 => ?_⟩
  obtain ⟨bs, e1, e2⟩ := all_true (pairs (zs.map .str) (zs.tail.map .str))
  refine ⟨bs, by rw [updS_same, e1], ?_⟩
  rw [e2]
  exact q _ ((Gr.new hn).trans (.new hp2))
theorem rising_t {zs : List Str} {S : Sto} {Q : DK} (h : Rise zs) (hl : zs.length ≤ 100) (q : ∀ S', Gr S S' → Q (.bl true) S') : m_is_rising [.tup (zs.map .str)] S Q := by
  rw [e_is_rising]
  simp_all_arith [b_is_rising]
  rw [cut_tail]
  refine rise_lc h hl trivial fun p2 hp2 => ?_
  obtain ⟨bs, e1, e2⟩ := all_true (pairs (zs.map .str) (zs.tail.map .str))
  refine ⟨bs, by rw [updS_same, e1], ?_⟩
  rw [e2]
  exact q _ (.new hp2)
theorem parts_spec {ps : List Pt} {S : Sto} {Q : DK} (h2 : 2 ≤ ps.length) (h6 : ps.length ≤ 6) (hr : Rise (ps.map (·.o))) (hp : ∀ x ∈ ps, x.ok) (q : ∀ S', Gr S S' → Q (.bl true) S') : m_are_parts [.tup (ps.map Pt.D)] S Q := by
  rw [e_are_parts]
  refine seq_i ?_
  simp_all_arith [List.length_map]
  rw [if_pos (show (2 : Int) ≤ ps.length by omega), decide_eq_true (show (ps.length : Int) ≤ 6 by omega)]
  simp_all_arith [t_are_parts_3]
  refine lcL_inv _ (fun i acc S' => Gr S S' ∧ acc = (ps.take i).map fun _ => .bl true) (fun _ _ _ _ => trivial) (fun i x acc S' N hx ⟨g, e⟩ hN => ?el) (fun acc S' ⟨g, e⟩ => ?fin) ⟨.refl, by simp⟩
  case el =>
    rw [List.getElem?_map] at hx
    obtain ⟨z, hz, rfl⟩ := Option.map_eq_some_iff.mp hx
    have hi := (List.getElem?_eq_some_iff.mp hz).1
    simp_all_arith [c_are_parts_3]
    refine part_spec (hp z (List.mem_of_getElem? hz)) fun S2 g2 => ⟨by rw [e, List.length_map, List.length_take]; exact Nat.lt_of_lt_of_le (show min i ps.length < 1001 by omega) (by decide), hN _ _ ⟨g.trans g2, ?_⟩⟩
    rw [e, List.take_add_one, hz, List.map_append]
    rfl
  case fin =>
    rw [List.length_map, List.take_of_length_le (Nat.le_refl _)] at e
    intro p hp2
    obtain ⟨bs, e1, e2⟩ := all_true ps
    refine ⟨bs, by rw [updS_same, e, e1], ?_⟩
    rw [e2]
    have g2 := g.trans (Gr.new (o := .lst acc) hp2)
    generalize updS S' p (.lst acc) = S3 at g2
    simp_all_arith []
    refine lcL_map (fun d => match d with | .tup (x :: _) => x | _ => .non) _ trivial (by rw [List.length_map]; exact small_line (by omega)) (fun x hx Q hq => ?_) (fun p2 hp2 => ?_)
    · obtain ⟨z, hz, rfl⟩ := List.mem_map.mp hx
      unfold Pt.D at hq ⊢
      simp_all_arith [c_are_parts_3b]
      exact ⟨_, atI_nat (j := 0) rfl, hq⟩
    · refine rising_l (zs := ps.map (·.o)) (by rw [updS_same, List.map_map, List.map_map]; rfl) hr (by rw [List.length_map]; omega) fun S5 g5 => ?_
      exact q _ (g2.trans ((Gr.new hp2).trans g5))
theorem lands_spec {zs : List Str} {S : Sto} {Q : DK} (h2 : 2 ≤ zs.length) (h6 : zs.length ≤ 6) (hr : Rise zs) (hp : ∀ z ∈ zs, Nm z) (q : ∀ S', Gr S S' → Q (.bl true) S') : m_are_lands [.tup (zs.map .str)] S Q := by
  rw [e_are_lands]
  refine seq_i ?_
  simp_all_arith [List.length_map]
  rw [if_pos (show (2 : Int) ≤ zs.length by omega), decide_eq_true (show (zs.length : Int) ≤ 6 by omega)]
  simp_all_arith [t_are_lands_3]
  refine names_nm hp (by omega) fun S1 g1 => ?_
  simp_all_arith []
  exact rising_t hr (by omega) fun S2 g2 => q _ (g1.trans g2)
end LW
namespace LW
open PySem L2 DL
theorem drop3 (a b c : D) (r : List D) : cutL (a :: b :: c :: r) (some 3) none = r := by
  have := cutL_from (a :: b :: c :: r) 3
  rw [show (((3 : Nat) : Int)) = 3 from rfl] at this
  rw [this]
  rfl
theorem wq_part_join : (("part" : Str) = "join") = False := eq_false (by decide +kernel)
theorem wq_part_forfeit : (("part" : Str) = "forfeit") = False := eq_false (by decide +kernel)
theorem wq_part_measure : (("part" : Str) = "measure") = False := eq_false (by decide +kernel)
theorem wq_part_mend : (("part" : Str) = "mend") = False := eq_false (by decide +kernel)
theorem wq_part_alone : (("part" : Str) = "alone") = False := eq_false (by decide +kernel)
theorem wq_part_breach : (("part" : Str) = "breach") = False := eq_false (by decide +kernel)
theorem wq_part_view : (("part" : Str) = "view") = False := eq_false (by decide +kernel)
theorem wq_join_part : (("join" : Str) = "part") = False := eq_false (by decide +kernel)
theorem wq_join_forfeit : (("join" : Str) = "forfeit") = False := eq_false (by decide +kernel)
theorem wq_join_measure : (("join" : Str) = "measure") = False := eq_false (by decide +kernel)
theorem wq_join_mend : (("join" : Str) = "mend") = False := eq_false (by decide +kernel)
theorem wq_join_alone : (("join" : Str) = "alone") = False := eq_false (by decide +kernel)
theorem wq_join_breach : (("join" : Str) = "breach") = False := eq_false (by decide +kernel)
theorem wq_join_view : (("join" : Str) = "view") = False := eq_false (by decide +kernel)
theorem wq_forfeit_part : (("forfeit" : Str) = "part") = False := eq_false (by decide +kernel)
theorem wq_forfeit_join : (("forfeit" : Str) = "join") = False := eq_false (by decide +kernel)
theorem wq_forfeit_measure : (("forfeit" : Str) = "measure") = False := eq_false (by decide +kernel)
theorem wq_forfeit_mend : (("forfeit" : Str) = "mend") = False := eq_false (by decide +kernel)
theorem wq_forfeit_alone : (("forfeit" : Str) = "alone") = False := eq_false (by decide +kernel)
theorem wq_forfeit_breach : (("forfeit" : Str) = "breach") = False := eq_false (by decide +kernel)
theorem wq_forfeit_view : (("forfeit" : Str) = "view") = False := eq_false (by decide +kernel)
theorem wq_measure_part : (("measure" : Str) = "part") = False := eq_false (by decide +kernel)
theorem wq_measure_join : (("measure" : Str) = "join") = False := eq_false (by decide +kernel)
theorem wq_measure_forfeit : (("measure" : Str) = "forfeit") = False := eq_false (by decide +kernel)
theorem wq_measure_mend : (("measure" : Str) = "mend") = False := eq_false (by decide +kernel)
theorem wq_measure_alone : (("measure" : Str) = "alone") = False := eq_false (by decide +kernel)
theorem wq_measure_breach : (("measure" : Str) = "breach") = False := eq_false (by decide +kernel)
theorem wq_measure_view : (("measure" : Str) = "view") = False := eq_false (by decide +kernel)
theorem wq_mend_part : (("mend" : Str) = "part") = False := eq_false (by decide +kernel)
theorem wq_mend_join : (("mend" : Str) = "join") = False := eq_false (by decide +kernel)
theorem wq_mend_forfeit : (("mend" : Str) = "forfeit") = False := eq_false (by decide +kernel)
theorem wq_mend_measure : (("mend" : Str) = "measure") = False := eq_false (by decide +kernel)
theorem wq_mend_alone : (("mend" : Str) = "alone") = False := eq_false (by decide +kernel)
theorem wq_mend_breach : (("mend" : Str) = "breach") = False := eq_false (by decide +kernel)
theorem wq_mend_view : (("mend" : Str) = "view") = False := eq_false (by decide +kernel)
theorem wq_alone_part : (("alone" : Str) = "part") = False := eq_false (by decide +kernel)
theorem wq_alone_join : (("alone" : Str) = "join") = False := eq_false (by decide +kernel)
theorem wq_alone_forfeit : (("alone" : Str) = "forfeit") = False := eq_false (by decide +kernel)
theorem wq_alone_measure : (("alone" : Str) = "measure") = False := eq_false (by decide +kernel)
theorem wq_alone_mend : (("alone" : Str) = "mend") = False := eq_false (by decide +kernel)
theorem wq_alone_breach : (("alone" : Str) = "breach") = False := eq_false (by decide +kernel)
theorem wq_alone_view : (("alone" : Str) = "view") = False := eq_false (by decide +kernel)
theorem wq_breach_part : (("breach" : Str) = "part") = False := eq_false (by decide +kernel)
theorem wq_breach_join : (("breach" : Str) = "join") = False := eq_false (by decide +kernel)
theorem wq_breach_forfeit : (("breach" : Str) = "forfeit") = False := eq_false (by decide +kernel)
theorem wq_breach_measure : (("breach" : Str) = "measure") = False := eq_false (by decide +kernel)
theorem wq_breach_mend : (("breach" : Str) = "mend") = False := eq_false (by decide +kernel)
theorem wq_breach_alone : (("breach" : Str) = "alone") = False := eq_false (by decide +kernel)
theorem wq_breach_view : (("breach" : Str) = "view") = False := eq_false (by decide +kernel)
theorem wq_view_part : (("view" : Str) = "part") = False := eq_false (by decide +kernel)
theorem wq_view_join : (("view" : Str) = "join") = False := eq_false (by decide +kernel)
theorem wq_view_forfeit : (("view" : Str) = "forfeit") = False := eq_false (by decide +kernel)
theorem wq_view_measure : (("view" : Str) = "measure") = False := eq_false (by decide +kernel)
theorem wq_view_mend : (("view" : Str) = "mend") = False := eq_false (by decide +kernel)
theorem wq_view_alone : (("view" : Str) = "alone") = False := eq_false (by decide +kernel)
theorem wq_view_breach : (("view" : Str) = "breach") = False := eq_false (by decide +kernel)
theorem fa_yes {w : Str} (h : w = "forfeit" ∨ w = "alone") : ([D.str "forfeit", D.str "alone"].any fun z => eqF z (D.str w)) = true := by
  rw [show ([D.str "forfeit", D.str "alone"]) = (["forfeit", "alone"] : List Str).map D.str from rfl, any_str, decide_eq_true_eq]
  rcases h with h | h <;> subst h <;> simp
theorem fa_no {w : Str} (h1 : w ≠ "forfeit") (h2 : w ≠ "alone") : ¬ ([D.str "forfeit", D.str "alone"].any fun z => eqF z (D.str w)) = true := by
  rw [show ([D.str "forfeit", D.str "alone"]) = (["forfeit", "alone"] : List Str).map D.str from rfl, any_str, decide_eq_true_eq]
  simp [h1, h2]
theorem rest_spec {n w : Str} {d : Int} {R : D} (h : RowOk n d w R) {S : Sto} {Q : DK} (q : ∀ S', Gr S S' → Q (.bl true) S') : m_has_right_rest [R] S Q := by
  rw [e_has_right_rest]
  refine seq_i ?_
  have two : ∀ a b : Str, Nm a → Nm b → ∀ z ∈ [a, b], Nm z := fun a b ha hb z hz => by
    simp only [List.mem_cons, List.not_mem_nil, or_false] at hz
    rcases hz with rfl | rfl <;> assumption
  cases h with
  | @part la ps hl h2 h6 hr hp =>
    simp_all_arith [drop3]
    refine ⟨_, atI_nat (j := 0) rfl, ?_⟩
    simp_all_arith [t_has_right_rest_2]
    refine seq_i ?_
    simp_all_arith []
    refine ⟨_, atI_nat (j := 0) rfl, isn_nm hl fun S1 g1 => ?_⟩
    simp_all_arith []
    exact ⟨_, atI_nat (j := 1) rfl, parts_spec h2 h6 hr hp fun S2 g2 => q _ (g1.trans g2)⟩
  | @join ls la h2 h6 hr hp hl =>
    simp_all_arith [drop3]
    refine ⟨_, atI_nat (j := 0) rfl, ?_⟩
    simp_all_arith [t_has_right_rest_2]
    refine seq_i ?_
    simp_all_arith [wq_part_join, wq_part_forfeit, wq_part_measure, wq_part_mend, wq_part_alone, wq_part_breach, wq_part_view, wq_join_part, wq_join_forfeit, wq_join_measure, wq_join_mend, wq_join_alone, wq_join_breach, wq_join_view, wq_forfeit_part, wq_forfeit_join, wq_forfeit_measure, wq_forfeit_mend, wq_forfeit_alone, wq_forfeit_breach, wq_forfeit_view, wq_measure_part, wq_measure_join, wq_measure_forfeit, wq_measure_mend, wq_measure_alone, wq_measure_breach, wq_measure_view, wq_mend_part, wq_mend_join, wq_mend_forfeit, wq_mend_measure, wq_mend_alone, wq_mend_breach, wq_mend_view, wq_alone_part, wq_alone_join, wq_alone_forfeit, wq_alone_measure, wq_alone_mend, wq_alone_breach, wq_alone_view, wq_breach_part, wq_breach_join, wq_breach_forfeit, wq_breach_measure, wq_breach_mend, wq_breach_alone, wq_breach_view, wq_view_part, wq_view_join, wq_view_forfeit, wq_view_measure, wq_view_mend, wq_view_alone, wq_view_breach]
    simp_all_arith [t_has_right_rest_4]
    refine seq_i ?_
    simp_all_arith [wq_part_join, wq_part_forfeit, wq_part_measure, wq_part_mend, wq_part_alone, wq_part_breach, wq_part_view, wq_join_part, wq_join_forfeit, wq_join_measure, wq_join_mend, wq_join_alone, wq_join_breach, wq_join_view, wq_forfeit_part, wq_forfeit_join, wq_forfeit_measure, wq_forfeit_mend, wq_forfeit_alone, wq_forfeit_breach, wq_forfeit_view, wq_measure_part, wq_measure_join, wq_measure_forfeit, wq_measure_mend, wq_measure_alone, wq_measure_breach, wq_measure_view, wq_mend_part, wq_mend_join, wq_mend_forfeit, wq_mend_measure, wq_mend_alone, wq_mend_breach, wq_mend_view, wq_alone_part, wq_alone_join, wq_alone_forfeit, wq_alone_measure, wq_alone_mend, wq_alone_breach, wq_alone_view, wq_breach_part, wq_breach_join, wq_breach_forfeit, wq_breach_measure, wq_breach_mend, wq_breach_alone, wq_breach_view, wq_view_part, wq_view_join, wq_view_forfeit, wq_view_measure, wq_view_mend, wq_view_alone, wq_view_breach]
    refine ⟨_, atI_nat (j := 0) rfl, lands_spec h2 h6 hr hp fun S1 g1 => ?_⟩
    simp_all_arith []
    exact ⟨_, atI_nat (j := 1) rfl, isn_nm hl fun S2 g2 => q _ (g1.trans g2)⟩
  | @forfeit la h hl hh =>
    simp_all_arith [drop3]
    refine ⟨_, atI_nat (j := 0) rfl, ?_⟩
    simp_all_arith [t_has_right_rest_2]
    refine seq_i ?_
    simp_all_arith [wq_part_join, wq_part_forfeit, wq_part_measure, wq_part_mend, wq_part_alone, wq_part_breach, wq_part_view, wq_join_part, wq_join_forfeit, wq_join_measure, wq_join_mend, wq_join_alone, wq_join_breach, wq_join_view, wq_forfeit_part, wq_forfeit_join, wq_forfeit_measure, wq_forfeit_mend, wq_forfeit_alone, wq_forfeit_breach, wq_forfeit_view, wq_measure_part, wq_measure_join, wq_measure_forfeit, wq_measure_mend, wq_measure_alone, wq_measure_breach, wq_measure_view, wq_mend_part, wq_mend_join, wq_mend_forfeit, wq_mend_measure, wq_mend_alone, wq_mend_breach, wq_mend_view, wq_alone_part, wq_alone_join, wq_alone_forfeit, wq_alone_measure, wq_alone_mend, wq_alone_breach, wq_alone_view, wq_breach_part, wq_breach_join, wq_breach_forfeit, wq_breach_measure, wq_breach_mend, wq_breach_alone, wq_breach_view, wq_view_part, wq_view_join, wq_view_forfeit, wq_view_measure, wq_view_mend, wq_view_alone, wq_view_breach]
    simp_all_arith [t_has_right_rest_4]
    refine seq_i ?_
    simp_all_arith [wq_part_join, wq_part_forfeit, wq_part_measure, wq_part_mend, wq_part_alone, wq_part_breach, wq_part_view, wq_join_part, wq_join_forfeit, wq_join_measure, wq_join_mend, wq_join_alone, wq_join_breach, wq_join_view, wq_forfeit_part, wq_forfeit_join, wq_forfeit_measure, wq_forfeit_mend, wq_forfeit_alone, wq_forfeit_breach, wq_forfeit_view, wq_measure_part, wq_measure_join, wq_measure_forfeit, wq_measure_mend, wq_measure_alone, wq_measure_breach, wq_measure_view, wq_mend_part, wq_mend_join, wq_mend_forfeit, wq_mend_measure, wq_mend_alone, wq_mend_breach, wq_mend_view, wq_alone_part, wq_alone_join, wq_alone_forfeit, wq_alone_measure, wq_alone_mend, wq_alone_breach, wq_alone_view, wq_breach_part, wq_breach_join, wq_breach_forfeit, wq_breach_measure, wq_breach_mend, wq_breach_alone, wq_breach_view, wq_view_part, wq_view_join, wq_view_forfeit, wq_view_measure, wq_view_mend, wq_view_alone, wq_view_breach]
    simp_all_arith [t_has_right_rest_6]
    refine seq_i ?_
    simp_all_arith [wq_part_join, wq_part_forfeit, wq_part_measure, wq_part_mend, wq_part_alone, wq_part_breach, wq_part_view, wq_join_part, wq_join_forfeit, wq_join_measure, wq_join_mend, wq_join_alone, wq_join_breach, wq_join_view, wq_forfeit_part, wq_forfeit_join, wq_forfeit_measure, wq_forfeit_mend, wq_forfeit_alone, wq_forfeit_breach, wq_forfeit_view, wq_measure_part, wq_measure_join, wq_measure_forfeit, wq_measure_mend, wq_measure_alone, wq_measure_breach, wq_measure_view, wq_mend_part, wq_mend_join, wq_mend_forfeit, wq_mend_measure, wq_mend_alone, wq_mend_breach, wq_mend_view, wq_alone_part, wq_alone_join, wq_alone_forfeit, wq_alone_measure, wq_alone_mend, wq_alone_breach, wq_alone_view, wq_breach_part, wq_breach_join, wq_breach_forfeit, wq_breach_measure, wq_breach_mend, wq_breach_alone, wq_breach_view, wq_view_part, wq_view_join, wq_view_forfeit, wq_view_measure, wq_view_mend, wq_view_alone, wq_view_breach]
    simp_all_arith [t_has_right_rest_8]
    refine seq_i ?_
    simp_all_arith [wq_part_join, wq_part_forfeit, wq_part_measure, wq_part_mend, wq_part_alone, wq_part_breach, wq_part_view, wq_join_part, wq_join_forfeit, wq_join_measure, wq_join_mend, wq_join_alone, wq_join_breach, wq_join_view, wq_forfeit_part, wq_forfeit_join, wq_forfeit_measure, wq_forfeit_mend, wq_forfeit_alone, wq_forfeit_breach, wq_forfeit_view, wq_measure_part, wq_measure_join, wq_measure_forfeit, wq_measure_mend, wq_measure_alone, wq_measure_breach, wq_measure_view, wq_mend_part, wq_mend_join, wq_mend_forfeit, wq_mend_measure, wq_mend_alone, wq_mend_breach, wq_mend_view, wq_alone_part, wq_alone_join, wq_alone_forfeit, wq_alone_measure, wq_alone_mend, wq_alone_breach, wq_alone_view, wq_breach_part, wq_breach_join, wq_breach_forfeit, wq_breach_measure, wq_breach_mend, wq_breach_alone, wq_breach_view, wq_view_part, wq_view_join, wq_view_forfeit, wq_view_measure, wq_view_mend, wq_view_alone, wq_view_breach]
    simp_all_arith [t_has_right_rest_10]
    refine seq_i ?_
    simp_all_arith [wq_part_join, wq_part_forfeit, wq_part_measure, wq_part_mend, wq_part_alone, wq_part_breach, wq_part_view, wq_join_part, wq_join_forfeit, wq_join_measure, wq_join_mend, wq_join_alone, wq_join_breach, wq_join_view, wq_forfeit_part, wq_forfeit_join, wq_forfeit_measure, wq_forfeit_mend, wq_forfeit_alone, wq_forfeit_breach, wq_forfeit_view, wq_measure_part, wq_measure_join, wq_measure_forfeit, wq_measure_mend, wq_measure_alone, wq_measure_breach, wq_measure_view, wq_mend_part, wq_mend_join, wq_mend_forfeit, wq_mend_measure, wq_mend_alone, wq_mend_breach, wq_mend_view, wq_alone_part, wq_alone_join, wq_alone_forfeit, wq_alone_measure, wq_alone_mend, wq_alone_breach, wq_alone_view, wq_breach_part, wq_breach_join, wq_breach_forfeit, wq_breach_measure, wq_breach_mend, wq_breach_alone, wq_breach_view, wq_view_part, wq_view_join, wq_view_forfeit, wq_view_measure, wq_view_mend, wq_view_alone, wq_view_breach]
    refine ⟨by decide, rfl, rfl, ?_⟩
    rw [if_pos (fa_yes (.inl rfl))]
    exact names_nm (zs := [la, h]) (two _ _ hl hh) (by simp) q
  | @measure f i hf i0 i1 =>
    simp_all_arith [drop3]
    refine ⟨_, atI_nat (j := 0) rfl, ?_⟩
    simp_all_arith [t_has_right_rest_2]
    refine seq_i ?_
    simp_all_arith [wq_part_join, wq_part_forfeit, wq_part_measure, wq_part_mend, wq_part_alone, wq_part_breach, wq_part_view, wq_join_part, wq_join_forfeit, wq_join_measure, wq_join_mend, wq_join_alone, wq_join_breach, wq_join_view, wq_forfeit_part, wq_forfeit_join, wq_forfeit_measure, wq_forfeit_mend, wq_forfeit_alone, wq_forfeit_breach, wq_forfeit_view, wq_measure_part, wq_measure_join, wq_measure_forfeit, wq_measure_mend, wq_measure_alone, wq_measure_breach, wq_measure_view, wq_mend_part, wq_mend_join, wq_mend_forfeit, wq_mend_measure, wq_mend_alone, wq_mend_breach, wq_mend_view, wq_alone_part, wq_alone_join, wq_alone_forfeit, wq_alone_measure, wq_alone_mend, wq_alone_breach, wq_alone_view, wq_breach_part, wq_breach_join, wq_breach_forfeit, wq_breach_measure, wq_breach_mend, wq_breach_alone, wq_breach_view, wq_view_part, wq_view_join, wq_view_forfeit, wq_view_measure, wq_view_mend, wq_view_alone, wq_view_breach]
    simp_all_arith [t_has_right_rest_4]
    refine seq_i ?_
    simp_all_arith [wq_part_join, wq_part_forfeit, wq_part_measure, wq_part_mend, wq_part_alone, wq_part_breach, wq_part_view, wq_join_part, wq_join_forfeit, wq_join_measure, wq_join_mend, wq_join_alone, wq_join_breach, wq_join_view, wq_forfeit_part, wq_forfeit_join, wq_forfeit_measure, wq_forfeit_mend, wq_forfeit_alone, wq_forfeit_breach, wq_forfeit_view, wq_measure_part, wq_measure_join, wq_measure_forfeit, wq_measure_mend, wq_measure_alone, wq_measure_breach, wq_measure_view, wq_mend_part, wq_mend_join, wq_mend_forfeit, wq_mend_measure, wq_mend_alone, wq_mend_breach, wq_mend_view, wq_alone_part, wq_alone_join, wq_alone_forfeit, wq_alone_measure, wq_alone_mend, wq_alone_breach, wq_alone_view, wq_breach_part, wq_breach_join, wq_breach_forfeit, wq_breach_measure, wq_breach_mend, wq_breach_alone, wq_breach_view, wq_view_part, wq_view_join, wq_view_forfeit, wq_view_measure, wq_view_mend, wq_view_alone, wq_view_breach]
    simp_all_arith [t_has_right_rest_6]
    refine seq_i ?_
    simp_all_arith [wq_part_join, wq_part_forfeit, wq_part_measure, wq_part_mend, wq_part_alone, wq_part_breach, wq_part_view, wq_join_part, wq_join_forfeit, wq_join_measure, wq_join_mend, wq_join_alone, wq_join_breach, wq_join_view, wq_forfeit_part, wq_forfeit_join, wq_forfeit_measure, wq_forfeit_mend, wq_forfeit_alone, wq_forfeit_breach, wq_forfeit_view, wq_measure_part, wq_measure_join, wq_measure_forfeit, wq_measure_mend, wq_measure_alone, wq_measure_breach, wq_measure_view, wq_mend_part, wq_mend_join, wq_mend_forfeit, wq_mend_measure, wq_mend_alone, wq_mend_breach, wq_mend_view, wq_alone_part, wq_alone_join, wq_alone_forfeit, wq_alone_measure, wq_alone_mend, wq_alone_breach, wq_alone_view, wq_breach_part, wq_breach_join, wq_breach_forfeit, wq_breach_measure, wq_breach_mend, wq_breach_alone, wq_breach_view, wq_view_part, wq_view_join, wq_view_forfeit, wq_view_measure, wq_view_mend, wq_view_alone, wq_view_breach]
    refine ⟨_, atI_nat (j := 0) rfl, isn_nm hf fun S1 g1 => ?_⟩
    simp_all_arith []
    exact ⟨_, atI_nat (j := 1) rfl, within_ok i0 i1 (q _ g1)⟩
  | @mend h g hh hg ne =>
    simp_all_arith [drop3]
    refine ⟨_, atI_nat (j := 0) rfl, ?_⟩
    simp_all_arith [t_has_right_rest_2]
    refine seq_i ?_
    simp_all_arith [wq_part_join, wq_part_forfeit, wq_part_measure, wq_part_mend, wq_part_alone, wq_part_breach, wq_part_view, wq_join_part, wq_join_forfeit, wq_join_measure, wq_join_mend, wq_join_alone, wq_join_breach, wq_join_view, wq_forfeit_part, wq_forfeit_join, wq_forfeit_measure, wq_forfeit_mend, wq_forfeit_alone, wq_forfeit_breach, wq_forfeit_view, wq_measure_part, wq_measure_join, wq_measure_forfeit, wq_measure_mend, wq_measure_alone, wq_measure_breach, wq_measure_view, wq_mend_part, wq_mend_join, wq_mend_forfeit, wq_mend_measure, wq_mend_alone, wq_mend_breach, wq_mend_view, wq_alone_part, wq_alone_join, wq_alone_forfeit, wq_alone_measure, wq_alone_mend, wq_alone_breach, wq_alone_view, wq_breach_part, wq_breach_join, wq_breach_forfeit, wq_breach_measure, wq_breach_mend, wq_breach_alone, wq_breach_view, wq_view_part, wq_view_join, wq_view_forfeit, wq_view_measure, wq_view_mend, wq_view_alone, wq_view_breach]
    simp_all_arith [t_has_right_rest_4]
    refine seq_i ?_
    simp_all_arith [wq_part_join, wq_part_forfeit, wq_part_measure, wq_part_mend, wq_part_alone, wq_part_breach, wq_part_view, wq_join_part, wq_join_forfeit, wq_join_measure, wq_join_mend, wq_join_alone, wq_join_breach, wq_join_view, wq_forfeit_part, wq_forfeit_join, wq_forfeit_measure, wq_forfeit_mend, wq_forfeit_alone, wq_forfeit_breach, wq_forfeit_view, wq_measure_part, wq_measure_join, wq_measure_forfeit, wq_measure_mend, wq_measure_alone, wq_measure_breach, wq_measure_view, wq_mend_part, wq_mend_join, wq_mend_forfeit, wq_mend_measure, wq_mend_alone, wq_mend_breach, wq_mend_view, wq_alone_part, wq_alone_join, wq_alone_forfeit, wq_alone_measure, wq_alone_mend, wq_alone_breach, wq_alone_view, wq_breach_part, wq_breach_join, wq_breach_forfeit, wq_breach_measure, wq_breach_mend, wq_breach_alone, wq_breach_view, wq_view_part, wq_view_join, wq_view_forfeit, wq_view_measure, wq_view_mend, wq_view_alone, wq_view_breach]
    simp_all_arith [t_has_right_rest_6]
    refine seq_i ?_
    simp_all_arith [wq_part_join, wq_part_forfeit, wq_part_measure, wq_part_mend, wq_part_alone, wq_part_breach, wq_part_view, wq_join_part, wq_join_forfeit, wq_join_measure, wq_join_mend, wq_join_alone, wq_join_breach, wq_join_view, wq_forfeit_part, wq_forfeit_join, wq_forfeit_measure, wq_forfeit_mend, wq_forfeit_alone, wq_forfeit_breach, wq_forfeit_view, wq_measure_part, wq_measure_join, wq_measure_forfeit, wq_measure_mend, wq_measure_alone, wq_measure_breach, wq_measure_view, wq_mend_part, wq_mend_join, wq_mend_forfeit, wq_mend_measure, wq_mend_alone, wq_mend_breach, wq_mend_view, wq_alone_part, wq_alone_join, wq_alone_forfeit, wq_alone_measure, wq_alone_mend, wq_alone_breach, wq_alone_view, wq_breach_part, wq_breach_join, wq_breach_forfeit, wq_breach_measure, wq_breach_mend, wq_breach_alone, wq_breach_view, wq_view_part, wq_view_join, wq_view_forfeit, wq_view_measure, wq_view_mend, wq_view_alone, wq_view_breach]
    simp_all_arith [t_has_right_rest_8]
    refine seq_i ?_
    simp_all_arith [wq_part_join, wq_part_forfeit, wq_part_measure, wq_part_mend, wq_part_alone, wq_part_breach, wq_part_view, wq_join_part, wq_join_forfeit, wq_join_measure, wq_join_mend, wq_join_alone, wq_join_breach, wq_join_view, wq_forfeit_part, wq_forfeit_join, wq_forfeit_measure, wq_forfeit_mend, wq_forfeit_alone, wq_forfeit_breach, wq_forfeit_view, wq_measure_part, wq_measure_join, wq_measure_forfeit, wq_measure_mend, wq_measure_alone, wq_measure_breach, wq_measure_view, wq_mend_part, wq_mend_join, wq_mend_forfeit, wq_mend_measure, wq_mend_alone, wq_mend_breach, wq_mend_view, wq_alone_part, wq_alone_join, wq_alone_forfeit, wq_alone_measure, wq_alone_mend, wq_alone_breach, wq_alone_view, wq_breach_part, wq_breach_join, wq_breach_forfeit, wq_breach_measure, wq_breach_mend, wq_breach_alone, wq_breach_view, wq_view_part, wq_view_join, wq_view_forfeit, wq_view_measure, wq_view_mend, wq_view_alone, wq_view_breach]
    refine names_nm (zs := [h, g]) (two _ _ hh hg) (by simp) fun S1 g1 => ?_
    simp_all_arith []
    refine ⟨_, atI_nat (j := 0) rfl, _, atI_nat (j := 1) rfl, ?_⟩
    simp_all_arith [ne]
    exact q _ g1
  | @alone h hh =>
    simp_all_arith [drop3]
    refine ⟨_, atI_nat (j := 0) rfl, ?_⟩
    simp_all_arith [t_has_right_rest_2]
    refine seq_i ?_
    simp_all_arith [wq_part_join, wq_part_forfeit, wq_part_measure, wq_part_mend, wq_part_alone, wq_part_breach, wq_part_view, wq_join_part, wq_join_forfeit, wq_join_measure, wq_join_mend, wq_join_alone, wq_join_breach, wq_join_view, wq_forfeit_part, wq_forfeit_join, wq_forfeit_measure, wq_forfeit_mend, wq_forfeit_alone, wq_forfeit_breach, wq_forfeit_view, wq_measure_part, wq_measure_join, wq_measure_forfeit, wq_measure_mend, wq_measure_alone, wq_measure_breach, wq_measure_view, wq_mend_part, wq_mend_join, wq_mend_forfeit, wq_mend_measure, wq_mend_alone, wq_mend_breach, wq_mend_view, wq_alone_part, wq_alone_join, wq_alone_forfeit, wq_alone_measure, wq_alone_mend, wq_alone_breach, wq_alone_view, wq_breach_part, wq_breach_join, wq_breach_forfeit, wq_breach_measure, wq_breach_mend, wq_breach_alone, wq_breach_view, wq_view_part, wq_view_join, wq_view_forfeit, wq_view_measure, wq_view_mend, wq_view_alone, wq_view_breach]
    simp_all_arith [t_has_right_rest_4]
    refine seq_i ?_
    simp_all_arith [wq_part_join, wq_part_forfeit, wq_part_measure, wq_part_mend, wq_part_alone, wq_part_breach, wq_part_view, wq_join_part, wq_join_forfeit, wq_join_measure, wq_join_mend, wq_join_alone, wq_join_breach, wq_join_view, wq_forfeit_part, wq_forfeit_join, wq_forfeit_measure, wq_forfeit_mend, wq_forfeit_alone, wq_forfeit_breach, wq_forfeit_view, wq_measure_part, wq_measure_join, wq_measure_forfeit, wq_measure_mend, wq_measure_alone, wq_measure_breach, wq_measure_view, wq_mend_part, wq_mend_join, wq_mend_forfeit, wq_mend_measure, wq_mend_alone, wq_mend_breach, wq_mend_view, wq_alone_part, wq_alone_join, wq_alone_forfeit, wq_alone_measure, wq_alone_mend, wq_alone_breach, wq_alone_view, wq_breach_part, wq_breach_join, wq_breach_forfeit, wq_breach_measure, wq_breach_mend, wq_breach_alone, wq_breach_view, wq_view_part, wq_view_join, wq_view_forfeit, wq_view_measure, wq_view_mend, wq_view_alone, wq_view_breach]
    simp_all_arith [t_has_right_rest_6]
    refine seq_i ?_
    simp_all_arith [wq_part_join, wq_part_forfeit, wq_part_measure, wq_part_mend, wq_part_alone, wq_part_breach, wq_part_view, wq_join_part, wq_join_forfeit, wq_join_measure, wq_join_mend, wq_join_alone, wq_join_breach, wq_join_view, wq_forfeit_part, wq_forfeit_join, wq_forfeit_measure, wq_forfeit_mend, wq_forfeit_alone, wq_forfeit_breach, wq_forfeit_view, wq_measure_part, wq_measure_join, wq_measure_forfeit, wq_measure_mend, wq_measure_alone, wq_measure_breach, wq_measure_view, wq_mend_part, wq_mend_join, wq_mend_forfeit, wq_mend_measure, wq_mend_alone, wq_mend_breach, wq_mend_view, wq_alone_part, wq_alone_join, wq_alone_forfeit, wq_alone_measure, wq_alone_mend, wq_alone_breach, wq_alone_view, wq_breach_part, wq_breach_join, wq_breach_forfeit, wq_breach_measure, wq_breach_mend, wq_breach_alone, wq_breach_view, wq_view_part, wq_view_join, wq_view_forfeit, wq_view_measure, wq_view_mend, wq_view_alone, wq_view_breach]
    simp_all_arith [t_has_right_rest_8]
    refine seq_i ?_
    simp_all_arith [wq_part_join, wq_part_forfeit, wq_part_measure, wq_part_mend, wq_part_alone, wq_part_breach, wq_part_view, wq_join_part, wq_join_forfeit, wq_join_measure, wq_join_mend, wq_join_alone, wq_join_breach, wq_join_view, wq_forfeit_part, wq_forfeit_join, wq_forfeit_measure, wq_forfeit_mend, wq_forfeit_alone, wq_forfeit_breach, wq_forfeit_view, wq_measure_part, wq_measure_join, wq_measure_forfeit, wq_measure_mend, wq_measure_alone, wq_measure_breach, wq_measure_view, wq_mend_part, wq_mend_join, wq_mend_forfeit, wq_mend_measure, wq_mend_alone, wq_mend_breach, wq_mend_view, wq_alone_part, wq_alone_join, wq_alone_forfeit, wq_alone_measure, wq_alone_mend, wq_alone_breach, wq_alone_view, wq_breach_part, wq_breach_join, wq_breach_forfeit, wq_breach_measure, wq_breach_mend, wq_breach_alone, wq_breach_view, wq_view_part, wq_view_join, wq_view_forfeit, wq_view_measure, wq_view_mend, wq_view_alone, wq_view_breach]
    simp_all_arith [t_has_right_rest_10]
    refine seq_i ?_
    simp_all_arith [wq_part_join, wq_part_forfeit, wq_part_measure, wq_part_mend, wq_part_alone, wq_part_breach, wq_part_view, wq_join_part, wq_join_forfeit, wq_join_measure, wq_join_mend, wq_join_alone, wq_join_breach, wq_join_view, wq_forfeit_part, wq_forfeit_join, wq_forfeit_measure, wq_forfeit_mend, wq_forfeit_alone, wq_forfeit_breach, wq_forfeit_view, wq_measure_part, wq_measure_join, wq_measure_forfeit, wq_measure_mend, wq_measure_alone, wq_measure_breach, wq_measure_view, wq_mend_part, wq_mend_join, wq_mend_forfeit, wq_mend_measure, wq_mend_alone, wq_mend_breach, wq_mend_view, wq_alone_part, wq_alone_join, wq_alone_forfeit, wq_alone_measure, wq_alone_mend, wq_alone_breach, wq_alone_view, wq_breach_part, wq_breach_join, wq_breach_forfeit, wq_breach_measure, wq_breach_mend, wq_breach_alone, wq_breach_view, wq_view_part, wq_view_join, wq_view_forfeit, wq_view_measure, wq_view_mend, wq_view_alone, wq_view_breach]
    refine ⟨by decide, rfl, rfl, ?_⟩
    rw [if_pos (fa_yes (.inr rfl))]
    exact names_nm (zs := [h]) (fun z hz => by rw [List.mem_singleton] at hz; subst hz; exact hh) (by simp) q
  | @breach f i c s hf i0 i1 c0 c1 s0 s1 =>
    simp_all_arith [drop3]
    refine ⟨_, atI_nat (j := 0) rfl, ?_⟩
    simp_all_arith [t_has_right_rest_2]
    refine seq_i ?_
    simp_all_arith [wq_part_join, wq_part_forfeit, wq_part_measure, wq_part_mend, wq_part_alone, wq_part_breach, wq_part_view, wq_join_part, wq_join_forfeit, wq_join_measure, wq_join_mend, wq_join_alone, wq_join_breach, wq_join_view, wq_forfeit_part, wq_forfeit_join, wq_forfeit_measure, wq_forfeit_mend, wq_forfeit_alone, wq_forfeit_breach, wq_forfeit_view, wq_measure_part, wq_measure_join, wq_measure_forfeit, wq_measure_mend, wq_measure_alone, wq_measure_breach, wq_measure_view, wq_mend_part, wq_mend_join, wq_mend_forfeit, wq_mend_measure, wq_mend_alone, wq_mend_breach, wq_mend_view, wq_alone_part, wq_alone_join, wq_alone_forfeit, wq_alone_measure, wq_alone_mend, wq_alone_breach, wq_alone_view, wq_breach_part, wq_breach_join, wq_breach_forfeit, wq_breach_measure, wq_breach_mend, wq_breach_alone, wq_breach_view, wq_view_part, wq_view_join, wq_view_forfeit, wq_view_measure, wq_view_mend, wq_view_alone, wq_view_breach]
    simp_all_arith [t_has_right_rest_4]
    refine seq_i ?_
    simp_all_arith [wq_part_join, wq_part_forfeit, wq_part_measure, wq_part_mend, wq_part_alone, wq_part_breach, wq_part_view, wq_join_part, wq_join_forfeit, wq_join_measure, wq_join_mend, wq_join_alone, wq_join_breach, wq_join_view, wq_forfeit_part, wq_forfeit_join, wq_forfeit_measure, wq_forfeit_mend, wq_forfeit_alone, wq_forfeit_breach, wq_forfeit_view, wq_measure_part, wq_measure_join, wq_measure_forfeit, wq_measure_mend, wq_measure_alone, wq_measure_breach, wq_measure_view, wq_mend_part, wq_mend_join, wq_mend_forfeit, wq_mend_measure, wq_mend_alone, wq_mend_breach, wq_mend_view, wq_alone_part, wq_alone_join, wq_alone_forfeit, wq_alone_measure, wq_alone_mend, wq_alone_breach, wq_alone_view, wq_breach_part, wq_breach_join, wq_breach_forfeit, wq_breach_measure, wq_breach_mend, wq_breach_alone, wq_breach_view, wq_view_part, wq_view_join, wq_view_forfeit, wq_view_measure, wq_view_mend, wq_view_alone, wq_view_breach]
    simp_all_arith [t_has_right_rest_6]
    refine seq_i ?_
    simp_all_arith [wq_part_join, wq_part_forfeit, wq_part_measure, wq_part_mend, wq_part_alone, wq_part_breach, wq_part_view, wq_join_part, wq_join_forfeit, wq_join_measure, wq_join_mend, wq_join_alone, wq_join_breach, wq_join_view, wq_forfeit_part, wq_forfeit_join, wq_forfeit_measure, wq_forfeit_mend, wq_forfeit_alone, wq_forfeit_breach, wq_forfeit_view, wq_measure_part, wq_measure_join, wq_measure_forfeit, wq_measure_mend, wq_measure_alone, wq_measure_breach, wq_measure_view, wq_mend_part, wq_mend_join, wq_mend_forfeit, wq_mend_measure, wq_mend_alone, wq_mend_breach, wq_mend_view, wq_alone_part, wq_alone_join, wq_alone_forfeit, wq_alone_measure, wq_alone_mend, wq_alone_breach, wq_alone_view, wq_breach_part, wq_breach_join, wq_breach_forfeit, wq_breach_measure, wq_breach_mend, wq_breach_alone, wq_breach_view, wq_view_part, wq_view_join, wq_view_forfeit, wq_view_measure, wq_view_mend, wq_view_alone, wq_view_breach]
    simp_all_arith [t_has_right_rest_8]
    refine seq_i ?_
    simp_all_arith [wq_part_join, wq_part_forfeit, wq_part_measure, wq_part_mend, wq_part_alone, wq_part_breach, wq_part_view, wq_join_part, wq_join_forfeit, wq_join_measure, wq_join_mend, wq_join_alone, wq_join_breach, wq_join_view, wq_forfeit_part, wq_forfeit_join, wq_forfeit_measure, wq_forfeit_mend, wq_forfeit_alone, wq_forfeit_breach, wq_forfeit_view, wq_measure_part, wq_measure_join, wq_measure_forfeit, wq_measure_mend, wq_measure_alone, wq_measure_breach, wq_measure_view, wq_mend_part, wq_mend_join, wq_mend_forfeit, wq_mend_measure, wq_mend_alone, wq_mend_breach, wq_mend_view, wq_alone_part, wq_alone_join, wq_alone_forfeit, wq_alone_measure, wq_alone_mend, wq_alone_breach, wq_alone_view, wq_breach_part, wq_breach_join, wq_breach_forfeit, wq_breach_measure, wq_breach_mend, wq_breach_alone, wq_breach_view, wq_view_part, wq_view_join, wq_view_forfeit, wq_view_measure, wq_view_mend, wq_view_alone, wq_view_breach]
    simp_all_arith [t_has_right_rest_10]
    refine seq_i ?_
    simp_all_arith [wq_part_join, wq_part_forfeit, wq_part_measure, wq_part_mend, wq_part_alone, wq_part_breach, wq_part_view, wq_join_part, wq_join_forfeit, wq_join_measure, wq_join_mend, wq_join_alone, wq_join_breach, wq_join_view, wq_forfeit_part, wq_forfeit_join, wq_forfeit_measure, wq_forfeit_mend, wq_forfeit_alone, wq_forfeit_breach, wq_forfeit_view, wq_measure_part, wq_measure_join, wq_measure_forfeit, wq_measure_mend, wq_measure_alone, wq_measure_breach, wq_measure_view, wq_mend_part, wq_mend_join, wq_mend_forfeit, wq_mend_measure, wq_mend_alone, wq_mend_breach, wq_mend_view, wq_alone_part, wq_alone_join, wq_alone_forfeit, wq_alone_measure, wq_alone_mend, wq_alone_breach, wq_alone_view, wq_breach_part, wq_breach_join, wq_breach_forfeit, wq_breach_measure, wq_breach_mend, wq_breach_alone, wq_breach_view, wq_view_part, wq_view_join, wq_view_forfeit, wq_view_measure, wq_view_mend, wq_view_alone, wq_view_breach]
    refine ⟨by decide, rfl, rfl, ?_⟩
    rw [if_neg (fa_no (by decide +kernel) (by decide +kernel))]
    simp_all_arith [t_has_right_rest_12]
    refine seq_i ?_
    simp_all_arith [wq_part_join, wq_part_forfeit, wq_part_measure, wq_part_mend, wq_part_alone, wq_part_breach, wq_part_view, wq_join_part, wq_join_forfeit, wq_join_measure, wq_join_mend, wq_join_alone, wq_join_breach, wq_join_view, wq_forfeit_part, wq_forfeit_join, wq_forfeit_measure, wq_forfeit_mend, wq_forfeit_alone, wq_forfeit_breach, wq_forfeit_view, wq_measure_part, wq_measure_join, wq_measure_forfeit, wq_measure_mend, wq_measure_alone, wq_measure_breach, wq_measure_view, wq_mend_part, wq_mend_join, wq_mend_forfeit, wq_mend_measure, wq_mend_alone, wq_mend_breach, wq_mend_view, wq_alone_part, wq_alone_join, wq_alone_forfeit, wq_alone_measure, wq_alone_mend, wq_alone_breach, wq_alone_view, wq_breach_part, wq_breach_join, wq_breach_forfeit, wq_breach_measure, wq_breach_mend, wq_breach_alone, wq_breach_view, wq_view_part, wq_view_join, wq_view_forfeit, wq_view_measure, wq_view_mend, wq_view_alone, wq_view_breach]
    refine ⟨_, atI_nat (j := 0) rfl, isn_nm hf fun S1 g1 => ?_⟩
    simp_all_arith []
    refine ⟨_, atI_nat (j := 1) rfl, ?_⟩
    rw [show (10000000 : Int) - 1 = 9999999 from rfl]
    refine within_ok i0 i1 ?_
    simp_all_arith [t_has_right_rest_14]
    refine seq_i ?_
    simp_all_arith [wq_part_join, wq_part_forfeit, wq_part_measure, wq_part_mend, wq_part_alone, wq_part_breach, wq_part_view, wq_join_part, wq_join_forfeit, wq_join_measure, wq_join_mend, wq_join_alone, wq_join_breach, wq_join_view, wq_forfeit_part, wq_forfeit_join, wq_forfeit_measure, wq_forfeit_mend, wq_forfeit_alone, wq_forfeit_breach, wq_forfeit_view, wq_measure_part, wq_measure_join, wq_measure_forfeit, wq_measure_mend, wq_measure_alone, wq_measure_breach, wq_measure_view, wq_mend_part, wq_mend_join, wq_mend_forfeit, wq_mend_measure, wq_mend_alone, wq_mend_breach, wq_mend_view, wq_alone_part, wq_alone_join, wq_alone_forfeit, wq_alone_measure, wq_alone_mend, wq_alone_breach, wq_alone_view, wq_breach_part, wq_breach_join, wq_breach_forfeit, wq_breach_measure, wq_breach_mend, wq_breach_alone, wq_breach_view, wq_view_part, wq_view_join, wq_view_forfeit, wq_view_measure, wq_view_mend, wq_view_alone, wq_view_breach]
    simp_all_arith [t_has_right_rest_16]
    refine ⟨_, atI_nat (j := 2) rfl, within_ok c0 c1 ?_⟩
    simp_all_arith []
    exact ⟨_, atI_nat (j := 3) rfl, within_ok s0 s1 (q _ g1)⟩
  | @view f i h hf i0 i1 hh =>
    simp_all_arith [drop3]
    refine ⟨_, atI_nat (j := 0) rfl, ?_⟩
    simp_all_arith [t_has_right_rest_2]
    refine seq_i ?_
    simp_all_arith [wq_part_join, wq_part_forfeit, wq_part_measure, wq_part_mend, wq_part_alone, wq_part_breach, wq_part_view, wq_join_part, wq_join_forfeit, wq_join_measure, wq_join_mend, wq_join_alone, wq_join_breach, wq_join_view, wq_forfeit_part, wq_forfeit_join, wq_forfeit_measure, wq_forfeit_mend, wq_forfeit_alone, wq_forfeit_breach, wq_forfeit_view, wq_measure_part, wq_measure_join, wq_measure_forfeit, wq_measure_mend, wq_measure_alone, wq_measure_breach, wq_measure_view, wq_mend_part, wq_mend_join, wq_mend_forfeit, wq_mend_measure, wq_mend_alone, wq_mend_breach, wq_mend_view, wq_alone_part, wq_alone_join, wq_alone_forfeit, wq_alone_measure, wq_alone_mend, wq_alone_breach, wq_alone_view, wq_breach_part, wq_breach_join, wq_breach_forfeit, wq_breach_measure, wq_breach_mend, wq_breach_alone, wq_breach_view, wq_view_part, wq_view_join, wq_view_forfeit, wq_view_measure, wq_view_mend, wq_view_alone, wq_view_breach]
    simp_all_arith [t_has_right_rest_4]
    refine seq_i ?_
    simp_all_arith [wq_part_join, wq_part_forfeit, wq_part_measure, wq_part_mend, wq_part_alone, wq_part_breach, wq_part_view, wq_join_part, wq_join_forfeit, wq_join_measure, wq_join_mend, wq_join_alone, wq_join_breach, wq_join_view, wq_forfeit_part, wq_forfeit_join, wq_forfeit_measure, wq_forfeit_mend, wq_forfeit_alone, wq_forfeit_breach, wq_forfeit_view, wq_measure_part, wq_measure_join, wq_measure_forfeit, wq_measure_mend, wq_measure_alone, wq_measure_breach, wq_measure_view, wq_mend_part, wq_mend_join, wq_mend_forfeit, wq_mend_measure, wq_mend_alone, wq_mend_breach, wq_mend_view, wq_alone_part, wq_alone_join, wq_alone_forfeit, wq_alone_measure, wq_alone_mend, wq_alone_breach, wq_alone_view, wq_breach_part, wq_breach_join, wq_breach_forfeit, wq_breach_measure, wq_breach_mend, wq_breach_alone, wq_breach_view, wq_view_part, wq_view_join, wq_view_forfeit, wq_view_measure, wq_view_mend, wq_view_alone, wq_view_breach]
    simp_all_arith [t_has_right_rest_6]
    refine seq_i ?_
    simp_all_arith [wq_part_join, wq_part_forfeit, wq_part_measure, wq_part_mend, wq_part_alone, wq_part_breach, wq_part_view, wq_join_part, wq_join_forfeit, wq_join_measure, wq_join_mend, wq_join_alone, wq_join_breach, wq_join_view, wq_forfeit_part, wq_forfeit_join, wq_forfeit_measure, wq_forfeit_mend, wq_forfeit_alone, wq_forfeit_breach, wq_forfeit_view, wq_measure_part, wq_measure_join, wq_measure_forfeit, wq_measure_mend, wq_measure_alone, wq_measure_breach, wq_measure_view, wq_mend_part, wq_mend_join, wq_mend_forfeit, wq_mend_measure, wq_mend_alone, wq_mend_breach, wq_mend_view, wq_alone_part, wq_alone_join, wq_alone_forfeit, wq_alone_measure, wq_alone_mend, wq_alone_breach, wq_alone_view, wq_breach_part, wq_breach_join, wq_breach_forfeit, wq_breach_measure, wq_breach_mend, wq_breach_alone, wq_breach_view, wq_view_part, wq_view_join, wq_view_forfeit, wq_view_measure, wq_view_mend, wq_view_alone, wq_view_breach]
    simp_all_arith [t_has_right_rest_8]
    refine seq_i ?_
    simp_all_arith [wq_part_join, wq_part_forfeit, wq_part_measure, wq_part_mend, wq_part_alone, wq_part_breach, wq_part_view, wq_join_part, wq_join_forfeit, wq_join_measure, wq_join_mend, wq_join_alone, wq_join_breach, wq_join_view, wq_forfeit_part, wq_forfeit_join, wq_forfeit_measure, wq_forfeit_mend, wq_forfeit_alone, wq_forfeit_breach, wq_forfeit_view, wq_measure_part, wq_measure_join, wq_measure_forfeit, wq_measure_mend, wq_measure_alone, wq_measure_breach, wq_measure_view, wq_mend_part, wq_mend_join, wq_mend_forfeit, wq_mend_measure, wq_mend_alone, wq_mend_breach, wq_mend_view, wq_alone_part, wq_alone_join, wq_alone_forfeit, wq_alone_measure, wq_alone_mend, wq_alone_breach, wq_alone_view, wq_breach_part, wq_breach_join, wq_breach_forfeit, wq_breach_measure, wq_breach_mend, wq_breach_alone, wq_breach_view, wq_view_part, wq_view_join, wq_view_forfeit, wq_view_measure, wq_view_mend, wq_view_alone, wq_view_breach]
    simp_all_arith [t_has_right_rest_10]
    refine seq_i ?_
    simp_all_arith [wq_part_join, wq_part_forfeit, wq_part_measure, wq_part_mend, wq_part_alone, wq_part_breach, wq_part_view, wq_join_part, wq_join_forfeit, wq_join_measure, wq_join_mend, wq_join_alone, wq_join_breach, wq_join_view, wq_forfeit_part, wq_forfeit_join, wq_forfeit_measure, wq_forfeit_mend, wq_forfeit_alone, wq_forfeit_breach, wq_forfeit_view, wq_measure_part, wq_measure_join, wq_measure_forfeit, wq_measure_mend, wq_measure_alone, wq_measure_breach, wq_measure_view, wq_mend_part, wq_mend_join, wq_mend_forfeit, wq_mend_measure, wq_mend_alone, wq_mend_breach, wq_mend_view, wq_alone_part, wq_alone_join, wq_alone_forfeit, wq_alone_measure, wq_alone_mend, wq_alone_breach, wq_alone_view, wq_breach_part, wq_breach_join, wq_breach_forfeit, wq_breach_measure, wq_breach_mend, wq_breach_alone, wq_breach_view, wq_view_part, wq_view_join, wq_view_forfeit, wq_view_measure, wq_view_mend, wq_view_alone, wq_view_breach]
    refine ⟨by decide, rfl, rfl, ?_⟩
    rw [if_neg (fa_no (by decide +kernel) (by decide +kernel))]
    simp_all_arith [t_has_right_rest_12]
    refine seq_i ?_
    simp_all_arith [wq_part_join, wq_part_forfeit, wq_part_measure, wq_part_mend, wq_part_alone, wq_part_breach, wq_part_view, wq_join_part, wq_join_forfeit, wq_join_measure, wq_join_mend, wq_join_alone, wq_join_breach, wq_join_view, wq_forfeit_part, wq_forfeit_join, wq_forfeit_measure, wq_forfeit_mend, wq_forfeit_alone, wq_forfeit_breach, wq_forfeit_view, wq_measure_part, wq_measure_join, wq_measure_forfeit, wq_measure_mend, wq_measure_alone, wq_measure_breach, wq_measure_view, wq_mend_part, wq_mend_join, wq_mend_forfeit, wq_mend_measure, wq_mend_alone, wq_mend_breach, wq_mend_view, wq_alone_part, wq_alone_join, wq_alone_forfeit, wq_alone_measure, wq_alone_mend, wq_alone_breach, wq_alone_view, wq_breach_part, wq_breach_join, wq_breach_forfeit, wq_breach_measure, wq_breach_mend, wq_breach_alone, wq_breach_view, wq_view_part, wq_view_join, wq_view_forfeit, wq_view_measure, wq_view_mend, wq_view_alone, wq_view_breach]
    refine ⟨_, atI_nat (j := 0) rfl, isn_nm hf fun S1 g1 => ?_⟩
    simp_all_arith []
    refine ⟨_, atI_nat (j := 1) rfl, ?_⟩
    rw [show (10000000 : Int) - 1 = 9999999 from rfl]
    refine within_ok i0 i1 ?_
    simp_all_arith [t_has_right_rest_14]
    refine seq_i ?_
    simp_all_arith [wq_part_join, wq_part_forfeit, wq_part_measure, wq_part_mend, wq_part_alone, wq_part_breach, wq_part_view, wq_join_part, wq_join_forfeit, wq_join_measure, wq_join_mend, wq_join_alone, wq_join_breach, wq_join_view, wq_forfeit_part, wq_forfeit_join, wq_forfeit_measure, wq_forfeit_mend, wq_forfeit_alone, wq_forfeit_breach, wq_forfeit_view, wq_measure_part, wq_measure_join, wq_measure_forfeit, wq_measure_mend, wq_measure_alone, wq_measure_breach, wq_measure_view, wq_mend_part, wq_mend_join, wq_mend_forfeit, wq_mend_measure, wq_mend_alone, wq_mend_breach, wq_mend_view, wq_alone_part, wq_alone_join, wq_alone_forfeit, wq_alone_measure, wq_alone_mend, wq_alone_breach, wq_alone_view, wq_breach_part, wq_breach_join, wq_breach_forfeit, wq_breach_measure, wq_breach_mend, wq_breach_alone, wq_breach_view, wq_view_part, wq_view_join, wq_view_forfeit, wq_view_measure, wq_view_mend, wq_view_alone, wq_view_breach]
    exact ⟨_, atI_nat (j := 2) rfl, isn_nm hh fun S2 g2 => q _ (g1.trans g2)⟩
end LW
namespace LW
open PySem L2 DL
theorem row_spec {n w : Str} {d : Int} {R : D} (hn : Nm n) (d0 : 0 ≤ d) (d1 : d ≤ 9999) (h : RowOk n d w R) {S : Sto} {Q : DK} (q : ∀ S', Gr S S' → Q (.bl true) S') : m_is_row [R] S Q := by
  rw [e_is_row]
  have hd : ∃ rest : List D, R = .tup (.str w :: .str n :: .int d :: rest) ∧ tabAt tab_SIZES w = some ((3 + rest.length : Nat) : Int) ∧ 1 ≤ rest.length := by
    have t : ∀ (w : Str) (k : Nat) (rest : List D), rest.length = k → tabAt tab_SIZES w = some ((3 + k : Nat) : Int) → tabAt tab_SIZES w = some ((3 + rest.length : Nat) : Int) := fun w k rest e h => by rw [e]; exact h
    cases h <;> first | exact ⟨_, rfl, t _ 1 _ rfl (by decide +kernel), by simp⟩ | exact ⟨_, rfl, t _ 2 _ rfl (by decide +kernel), by simp⟩ | exact ⟨_, rfl, t _ 3 _ rfl (by decide +kernel), by simp⟩ | exact ⟨_, rfl, t _ 4 _ rfl (by decide +kernel), by simp⟩
  obtain ⟨rest, rfl, ht, hl⟩ := hd
  refine seq_i ?_
  simp_all_arith []
  rw [if_neg (show ¬ ((((rest.length + 1 + 1 + 1 : Nat)) : Int) < 4) by omega)]
  refine ⟨_, atI_nat (j := 0) rfl, _, rfl, ?_⟩
  simp_all_arith []
  simp_all_arith [t_is_row_3]
  refine seq_i ?_
  simp_all_arith []
  refine ⟨_, atI_nat (j := 0) rfl, ?_⟩
  simp_all_arith [ht]
  refine ⟨rfl, _, atI_nat (j := 0) rfl, ?_⟩
  have el : (((rest.length + 1 + 1 + 1 : Nat) : Int) = ((3 + rest.length : Nat) : Int)) := by omega
  simp_all_arith [ht, el]
  simp_all_arith [t_is_row_5]
  refine ⟨_, atI_nat (j := 1) rfl, isn_nm hn fun S1 g1 => ?_⟩
  simp_all_arith []
  refine ⟨_, atI_nat (j := 2) rfl, within_ok d0 d1 ?_⟩
  simp_all_arith []
  exact rest_spec h fun S2 g2 => q _ (g1.trans g2)
end LW
namespace LW
open PySem L2 DL
/-- what stands for t: it, or a list of what it holds -/
inductive Lo (S : Sto) : D → D → Prop
  | same (t : D) : Lo S t t
  | lst {q : Addr} {ts : List D} (e : S q = some (.lst ts)) : Lo S (.ref q) (.tup ts)
inductive Los (S : Sto) : List D → List D → Prop
  | nil : Los S [] []
  | cons {y t : D} {ys ts : List D} (h : Lo S y t) (r : Los S ys ts) : Los S (y :: ys) (t :: ts)
theorem Lo.gr {S S' : Sto} (g : Gr S S') {y t : D} (h : Lo S y t) : Lo S' y t := by
  cases h with
  | same => exact .same _
  | lst e => exact .lst (g _ _ e)
theorem Los.gr {S S' : Sto} (g : Gr S S') : ∀ {ys ts : List D}, Los S ys ts → Los S' ys ts
  | _, _, .nil => .nil
  | _, _, .cons h r => .cons (h.gr g) (r.gr g)
theorem Los.len {S : Sto} : ∀ {ys ts : List D}, Los S ys ts → ys.length = ts.length
  | _, _, .nil => rfl
  | _, _, .cons _ r => by rw [List.length_cons, List.length_cons, r.len]
theorem Los.get {S : Sto} : ∀ {ys ts : List D}, Los S ys ts → ∀ {i : Nat} {y : D}, ys[i]? = some y → ∃ t, ts[i]? = some t ∧ Lo S y t
  | _, _, .nil, i, y, e => by cases e
  | _, _, .cons h _, 0, y, e => by cases e; exact ⟨_, rfl, h⟩
  | _, _, .cons _ r, i + 1, y, e => r.get (i := i) e
def plD : D → Bool
  | .tup _ => true
  | .str _ => true
  | .int _ => true
  | _ => false
theorem as_tuple_spec {S : Sto} {y t : D} {Q : DK} (h : Lo S y t) (hp : plD t = true) (q : Q t S) : m_as_tuple [y] S Q := by
  rw [e_as_tuple]
  refine seq_i ?_
  cases h with
  | same =>
    cases y <;> first | (cases hp; done) | skip
    all_goals
      simp_all_arith []
      simp_all_arith [t_as_tuple_3]
      exact q
  | @lst p ts e =>
    simp_all_arith [e]
    exact ⟨_, rfl, q⟩
/-- a tuple or a list of such -/
def Con (S : Sto) (P : D) (ys : List D) : Prop := P = .tup ys ∨ ∃ c, P = .ref c ∧ S c = some (.lst ys)
theorem Con.gr {S S' : Sto} (g : Gr S S') {P : D} {ys : List D} (h : Con S P ys) : Con S' P ys := h.imp id fun ⟨c, e1, e2⟩ => ⟨c, e1, g _ _ e2⟩
theorem with_tuples_spec {S : Sto} {P : D} {ys ts : List D} {Q : DK} (hc : Con S P ys) (h : Los S ys ts) (hp : ∀ t ∈ ts, plD t = true) (hl : ts.length ≤ 100) (q : ∀ S', Gr S S' → Q (.tup ts) S') : m_with_tuples [P] S Q := by
  rw [e_with_tuples]
  refine seq_i ?_
  have run : ∀ st : Sto → Prop, st S → lcL st (nName 1) tsYes c_with_tuples_2 [some P, none] (fun acc S2 => ∀ p, S2 p = none → ∃ zs, updS S2 p (.lst acc) p = some (.lst zs) ∧ Q (.tup zs) (updS S2 p (.lst acc))) ys [] S := by
    intro st hst
    refine lcL_inv _ (fun i acc S' => S' = S ∧ acc = ts.take i) (fun _ _ _ e => by rw [e.1]; exact hst) (fun i x acc S' N hx ⟨e1, e2⟩ hN => ?el) (fun acc S' ⟨e1, e2⟩ => ?fin) ⟨rfl, by simp⟩
    case el =>
      subst e1
      obtain ⟨t, ht, hlo⟩ := h.get hx
      have hi := (List.getElem?_eq_some_iff.mp ht).1
      simp_all_arith [c_with_tuples_2]
      refine as_tuple_spec hlo (hp t (List.mem_of_getElem? ht)) ⟨by rw [e2, List.length_take]; exact Nat.lt_of_lt_of_le (show min i ts.length < 1001 by omega) (by decide), hN _ _ ⟨rfl, ?_⟩⟩
      rw [e2, List.take_add_one, ht]
      rfl
    case fin =>
      subst e1
      intro p hp2
      rw [h.len, List.take_of_length_le (Nat.le_refl _)] at e2
      subst e2
      exact ⟨_, updS_same, q _ (.new hp2)⟩
  rcases hc with rfl | ⟨c, rfl, e⟩
  · simp_all_arith []
    exact run _ trivial
  · simp_all_arith [e]
    exact ⟨_, rfl, run _ e⟩
def kdP : D → PyData
  | .tup [.str o, .str h, .int n] => .tuple [.str o, .str h, .int n]
  | .str z => .str z
  | _ => .none
/-- what is put in order: the parts, or the lands -/
inductive Ord : List D → Prop
  | parts {ps : List Pt} (h2 : 2 ≤ ps.length) (h6 : ps.length ≤ 6) (hr : Rise (ps.map (·.o))) (hp : ∀ x ∈ ps, x.ok) : Ord (ps.map Pt.D)
  | lands {ls : List Str} (h2 : 2 ≤ ls.length) (h6 : ls.length ≤ 6) (hr : Rise ls) (hp : ∀ z ∈ ls, Nm z) : Ord (ls.map .str)
theorem Ord.len {O : List D} (h : Ord O) : 2 ≤ O.length ∧ O.length ≤ 6 := by
  cases h <;> (rw [List.length_map]; exact ⟨by assumption, by assumption⟩)
theorem Ord.pl {O : List D} (h : Ord O) : ∀ t ∈ O, plD t = true := by
  cases h <;> (intro t ht; obtain ⟨x, _, rfl⟩ := List.mem_map.mp ht; rfl)
theorem Ord.pd {O : List D} (h : Ord O) {S : Sto} : ∀ t ∈ O, PD S t (kdP t) := by
  cases h <;> (intro t ht; obtain ⟨x, _, rfl⟩ := List.mem_map.mp ht)
  · exact .tup (.cons (.str _) (.cons (.str _) (.cons (.int _) .nil)))
  · exact .str _
theorem Ord.sorted {O T : List D} (h : Ord O) (hp : T.Perm O) : T.mergeSort (PySem.W.dataLe false kdP) = O := by
  refine sort_back hp ?_
  cases h with
  | parts h2 h6 hr hp2 =>
    unfold Rise at hr
    rw [List.pairwise_map] at hr ⊢
    refine hr.imp fun {a b} hab => ?_
    show PyProof.Rows.lexLt PyProof.Rows.itemOrd (PySem.W.keyToks (.tuple [.str a.o, .str a.h, .int a.n])) (PySem.W.keyToks (.tuple [.str b.o, .str b.h, .int b.n])) = true
    rw [PySem.W.keyToks.eq_6, PySem.W.keyToks.eq_6, PySem.W.keyToksAll.eq_2, PySem.W.keyToksAll.eq_2, PySem.W.keyToks.eq_4, PySem.W.keyToks.eq_4]
    exact lex_one (lex_str hab)
  | lands h2 h6 hr hp2 =>
    unfold Rise at hr
    rw [List.pairwise_map]
    refine hr.imp fun {a b} hab => ?_
    show PyProof.Rows.lexLt PyProof.Rows.itemOrd (PySem.W.keyToks (.str a)) (PySem.W.keyToks (.str b)) = true
    rw [PySem.W.keyToks.eq_4, PySem.W.keyToks.eq_4]
    exact lex_str hab
theorem Ord.alike {O T : List D} (h : Ord O) (hp : T.Perm O) : PySem.W.AllAlike (T.map kdP) ∧ PySem.W.Sortable (T.map kdP) ∧ ∀ x ∈ T, (kdP x).depth ≤ 32 := by
  cases h with
  | @parts ps h2 h6 hr hp2 =>
    have hm : ∀ t ∈ T, ∃ x : Pt, kdP t = .tuple [.str x.o, .str x.h, .int x.n] := fun t ht => by
      obtain ⟨x, _, rfl⟩ := List.mem_map.mp (hp.mem_iff.mp ht)
      exact ⟨x, rfl⟩
    refine ⟨fun a ha b hb => ?_, .inl fun a ha => ?_, fun t ht => ?_⟩
    · obtain ⟨t, ht, rfl⟩ := List.mem_map.mp ha
      obtain ⟨u, hu, rfl⟩ := List.mem_map.mp hb
      obtain ⟨x, e⟩ := hm t ht
      obtain ⟨y, e2⟩ := hm u hu
      rw [e, e2]
      simp [PySem.W.alikeAll, PySem.W.alike]
    · obtain ⟨t, ht, rfl⟩ := List.mem_map.mp ha
      obtain ⟨x, e⟩ := hm t ht
      exact ⟨_, _, e⟩
    · obtain ⟨x, e⟩ := hm t ht
      rw [e]
      exact Nat.le_trans (Nat.le_of_eq (show _ = 1 from rfl)) (by decide)
  | @lands ls h2 h6 hr hp2 =>
    have hm : ∀ t ∈ T, ∃ z : Str, kdP t = .str z := fun t ht => by
      obtain ⟨x, _, rfl⟩ := List.mem_map.mp (hp.mem_iff.mp ht)
      exact ⟨x, rfl⟩
    refine ⟨fun a ha b hb => ?_, .inr fun a ha => ?_, fun t ht => ?_⟩
    · obtain ⟨t, ht, rfl⟩ := List.mem_map.mp ha
      obtain ⟨u, hu, rfl⟩ := List.mem_map.mp hb
      obtain ⟨x, e⟩ := hm t ht
      obtain ⟨y, e2⟩ := hm u hu
      rw [e, e2]
      simp [PySem.W.alike]
    · obtain ⟨t, ht, rfl⟩ := List.mem_map.mp ha
      obtain ⟨x, e⟩ := hm t ht
      rw [e]
      exact ⟨by simp, by simp⟩
    · obtain ⟨x, e⟩ := hm t ht
      rw [e]
      exact Nat.zero_le _
theorem in_order_spec {S : Sto} {P : D} {ys ts O : List D} {Q : DK} (hc : Con S P ys) (h : Los S ys ts) (hp : ts.Perm O) (hO : Ord O) (q : ∀ S', Gr S S' → Q (.tup O) S') : m_in_order [P] S Q := by
  rw [e_in_order]
  refine seq_i ?_
  simp_all_arith []
  have hl := hp.length_eq
  obtain ⟨l2, l6⟩ := hO.len
  refine with_tuples_spec hc h (fun t ht => hO.pl t (hp.mem_iff.mp ht)) (by omega) fun S1 g1 => ?_
  simp_all_arith [t_in_order_2]
  refine seq_i ?_
  simp_all_arith []
  have g0 : Gr S S1 := g1
  simp_all_arith [t_in_order_4]
  refine seq_i ?_
  simp_all_arith []
  -- sorted, and that as a tuple
  have srt : ∀ S2, Gr S S2 → gSortedA [.tup ts] S2 fun d S3 => gTuple [d] S3 Q := by
    intro S2 g2
    obtain ⟨al, so, dp⟩ := hO.alike hp
    refine .inr ⟨.tup ts, ts, kdP, rfl, .inr rfl, fun t ht => hO.pd t (hp.mem_iff.mp ht), al, so, dp, fun n hn => ?_⟩
    rw [hO.sorted hp]
    simp_all_arith [updS_same]
    exact ⟨_, rfl, q _ (g2.trans (.new hn))⟩
  have run : ∀ (b : Bool), (∀ t ∈ ts, ∀ S2 (R : DK), (∀ S3, Gr S2 S3 → R (.bl b) S3) → m_is_part [t] S2 R) → ∀ K : List D → Sto → Prop, (∀ S2, Gr S S2 → K (ts.map fun _ => .bl b) S2) →
      lcL (fun _ => True) (nName 2) tsYes c_in_order_4 [some P, some (.tup ts), none] K ts [] S1 := by
    intro b hb K k
    refine lcL_inv _ (fun i acc S' => Gr S S' ∧ acc = (ts.take i).map fun _ => .bl b) (fun _ _ _ _ => trivial) (fun i x acc S' N hx ⟨g, e⟩ hN => ?el) (fun acc S' ⟨g, e⟩ => ?fin) ⟨g1, by simp⟩
    case el =>
      have hi := (List.getElem?_eq_some_iff.mp hx).1
      simp_all_arith [c_in_order_4]
      refine hb x (List.mem_of_getElem? hx) _ _ fun S3 g3 => ⟨by rw [e, List.length_map, List.length_take]; exact Nat.lt_of_lt_of_le (show min i ts.length < 1001 by omega) (by decide), hN _ _ ⟨g.trans g3, ?_⟩⟩
      rw [e, List.take_add_one, hx, List.map_append]
      rfl
    case fin =>
      rw [List.take_of_length_le (Nat.le_refl _)] at e
      subst e
      exact k _ g
  have hm : ∀ t ∈ ts, t ∈ O := fun t ht => hp.mem_iff.mp ht
  cases hO with
  | @parts ps h2 h6 hr hp2 =>
    refine run true (fun t ht S2 R r => ?_) _ fun S2 g2 p hp3 => ?_
    · obtain ⟨x, hx, rfl⟩ := List.mem_map.mp (hm t ht)
      exact part_spec (hp2 x hx) r
    · obtain ⟨bs, e1, e2⟩ := all_true ts
      refine ⟨bs, by rw [updS_same, e1], ?_⟩
      rw [e2, if_pos rfl]
      exact srt _ (g2.trans (.new hp3))
  | @lands ls h2 h6 hr hp2 =>
    refine run false (fun t ht S2 R r => ?_) _ fun S2 g2 p hp3 => ?_
    · obtain ⟨x, hx, rfl⟩ := List.mem_map.mp (hm t ht)
      exact part_no (r _ .refl)
    · refine ⟨ts.map fun _ => false, by rw [updS_same, List.map_map]; rfl, ?_⟩
      have e2 : ((ts.map fun _ => false).all id) = false := by
        cases ts with
        | nil => simp at hl; omega
        | cons t r => rfl
      rw [e2, if_neg (by decide)]
      have g3 := g2.trans (Gr.new (o := .lst (ts.map fun _ => D.bl false)) hp3)
      refine names_all (by omega) (fun t ht => ?_) fun S4 g4 => ?_
      · obtain ⟨x, hx, rfl⟩ := List.mem_map.mp (hm t ht)
        exact (hp2 x hx).okT
      · have e3 : ts.all nmD = true := by
          rw [List.all_eq_true]
          intro t ht
          obtain ⟨x, hx, rfl⟩ := List.mem_map.mp (hm t ht)
          exact (hp2 x hx).nm
        rw [e3]
        simp_all_arith []
        exact srt _ (g3.trans g4)
end LW
namespace LW
open PySem L2 DL
/-- what a field is -/
def fldD : D → Bool
  | .tup [a, b, c, e] => nmD a && nmD b && whD 1 1000000 c && whD 0 10000000 e
  | _ => false
def fstD : D → Str
  | .tup (.str z :: _) => z
  | _ => ""
/-- what a laying is -/
def layD : D → Bool
  | .tup ds => decide (1 ≤ ds.length) && decide (ds.length ≤ 8) && ds.all fldD && decide ((ds.map fstD).Nodup)
  | _ => false
end LW
namespace LW
open PySem L2 DL
theorem row_head {w : Str} {a b : D} {rest : List D} (ht : tabAt tab_SIZES w = some ((3 + rest.length : Nat) : Int)) (hl : 1 ≤ rest.length) {S : Sto} {Q : DK} (ha : OkT S a) (hb : OkT S b)
    (q1 : (nmD a && whD 0 9999 b) = false → ∀ S', Gr S S' → Q (.bl false) S') (q2 : nmD a = true → whD 0 9999 b = true → ∀ S', Gr S S' → m_has_right_rest [.tup (.str w :: a :: b :: rest)] S' Q) : m_is_row [.tup (.str w :: a :: b :: rest)] S Q := by
  rw [e_is_row]
  refine seq_i ?_
  simp_all_arith! []
  rw [if_neg (show ¬ ((((rest.length + 1 + 1 + 1 : Nat)) : Int) < 4) by omega)]
  refine ⟨_, atI_nat (j := 0) rfl, _, rfl, ?_⟩
  simp_all_arith! []
  simp_all_arith! [t_is_row_3]
  refine seq_i ?_
  simp_all_arith! []
  refine ⟨_, atI_nat (j := 0) rfl, ?_⟩
  simp_all_arith! [ht]
  refine ⟨rfl, _, atI_nat (j := 0) rfl, ?_⟩
  have el : (((rest.length + 1 + 1 + 1 : Nat) : Int) = ((3 + rest.length : Nat) : Int)) := by omega
  simp_all_arith! [ht, el]
  simp_all_arith! [t_is_row_5]
  refine ⟨_, atI_nat (j := 1) rfl, isn_all ha fun S1 g1 => ?_⟩
  cases e1 : nmD a with
  | false =>
    simp_all_arith! []
    exact q1 (by rw [e1]; rfl) _ g1
  | true =>
    simp_all_arith! []
    refine ⟨_, atI_nat (j := 2) rfl, within_all (hb.gr g1) ?_⟩
    cases e2 : whD 0 9999 b with
    | false =>
      simp_all_arith! []
      exact q1 (by rw [e1, e2]; rfl) _ g1
    | true =>
      simp_all_arith! []
      exact q2 e1 e2 _ g1
theorem okT_bl {S : Sto} (b : Bool) : OkT S (.bl b) := .oth (t := "bool") rfl (by decide) (by decide)
theorem okT_int {S : Sto} (b : Int) : OkT S (.int b) := .oth (t := "int") rfl (by decide) (by decide)
theorem rest_measure {a b x : D} {f : Str} (hf : Nm f) {S : Sto} {Q : DK} (hx : OkT S x) (q : ∀ S', Gr S S' → Q (.bl (whD 0 10000000 x)) S') : m_has_right_rest [.tup [.str "measure", a, b, .str f, x]] S Q := by
  rw [e_has_right_rest]
  refine seq_i ?_
  simp_all_arith! [drop3]
  refine ⟨_, atI_nat (j := 0) rfl, ?_⟩
  simp_all_arith! [t_has_right_rest_2]
  refine seq_i ?_
  simp_all_arith! [wq_part_join, wq_part_forfeit, wq_part_measure, wq_part_mend, wq_part_alone, wq_part_breach, wq_part_view, wq_join_part, wq_join_forfeit, wq_join_measure, wq_join_mend, wq_join_alone, wq_join_breach, wq_join_view, wq_forfeit_part, wq_forfeit_join, wq_forfeit_measure, wq_forfeit_mend, wq_forfeit_alone, wq_forfeit_breach, wq_forfeit_view, wq_measure_part, wq_measure_join, wq_measure_forfeit, wq_measure_mend, wq_measure_alone, wq_measure_breach, wq_measure_view, wq_mend_part, wq_mend_join, wq_mend_forfeit, wq_mend_measure, wq_mend_alone, wq_mend_breach, wq_mend_view, wq_alone_part, wq_alone_join, wq_alone_forfeit, wq_alone_measure, wq_alone_mend, wq_alone_breach, wq_alone_view, wq_breach_part, wq_breach_join, wq_breach_forfeit, wq_breach_measure, wq_breach_mend, wq_breach_alone, wq_breach_view, wq_view_part, wq_view_join, wq_view_forfeit, wq_view_measure, wq_view_mend, wq_view_alone, wq_view_breach]
  simp_all_arith! [t_has_right_rest_4]
  refine seq_i ?_
  simp_all_arith! [wq_part_join, wq_part_forfeit, wq_part_measure, wq_part_mend, wq_part_alone, wq_part_breach, wq_part_view, wq_join_part, wq_join_forfeit, wq_join_measure, wq_join_mend, wq_join_alone, wq_join_breach, wq_join_view, wq_forfeit_part, wq_forfeit_join, wq_forfeit_measure, wq_forfeit_mend, wq_forfeit_alone, wq_forfeit_breach, wq_forfeit_view, wq_measure_part, wq_measure_join, wq_measure_forfeit, wq_measure_mend, wq_measure_alone, wq_measure_breach, wq_measure_view, wq_mend_part, wq_mend_join, wq_mend_forfeit, wq_mend_measure, wq_mend_alone, wq_mend_breach, wq_mend_view, wq_alone_part, wq_alone_join, wq_alone_forfeit, wq_alone_measure, wq_alone_mend, wq_alone_breach, wq_alone_view, wq_breach_part, wq_breach_join, wq_breach_forfeit, wq_breach_measure, wq_breach_mend, wq_breach_alone, wq_breach_view, wq_view_part, wq_view_join, wq_view_forfeit, wq_view_measure, wq_view_mend, wq_view_alone, wq_view_breach]
  simp_all_arith! [t_has_right_rest_6]
  refine seq_i ?_
  simp_all_arith! [wq_part_join, wq_part_forfeit, wq_part_measure, wq_part_mend, wq_part_alone, wq_part_breach, wq_part_view, wq_join_part, wq_join_forfeit, wq_join_measure, wq_join_mend, wq_join_alone, wq_join_breach, wq_join_view, wq_forfeit_part, wq_forfeit_join, wq_forfeit_measure, wq_forfeit_mend, wq_forfeit_alone, wq_forfeit_breach, wq_forfeit_view, wq_measure_part, wq_measure_join, wq_measure_forfeit, wq_measure_mend, wq_measure_alone, wq_measure_breach, wq_measure_view, wq_mend_part, wq_mend_join, wq_mend_forfeit, wq_mend_measure, wq_mend_alone, wq_mend_breach, wq_mend_view, wq_alone_part, wq_alone_join, wq_alone_forfeit, wq_alone_measure, wq_alone_mend, wq_alone_breach, wq_alone_view, wq_breach_part, wq_breach_join, wq_breach_forfeit, wq_breach_measure, wq_breach_mend, wq_breach_alone, wq_breach_view, wq_view_part, wq_view_join, wq_view_forfeit, wq_view_measure, wq_view_mend, wq_view_alone, wq_view_breach]
  refine ⟨_, atI_nat (j := 0) rfl, isn_nm hf fun S1 g1 => ?_⟩
  simp_all_arith! []
  exact ⟨_, atI_nat (j := 1) rfl, within_all (hx.gr g1) (q _ g1)⟩
theorem to12 {w : Str} (h1 : w ≠ "part") (h2 : w ≠ "join") (h3 : w ≠ "measure") (h4 : w ≠ "mend") (h5 : w ≠ "forfeit") (h6 : w ≠ "alone") {rest : List D} {R : D} {S : Sto} {Q : DK}
    (q : t_has_right_rest_12 (endsD Q) [some R, some (.str w), some (.tup rest)] S) : t_has_right_rest_2 (endsD Q) [some R, some (.str w), some (.tup rest)] S := by
  simp_all_arith! [t_has_right_rest_2]
  refine seq_i ?_
  simp_all_arith! []
  rw [if_neg h1]
  simp_all_arith! [t_has_right_rest_4]
  refine seq_i ?_
  simp_all_arith! []
  rw [if_neg h2]
  simp_all_arith! [t_has_right_rest_6]
  refine seq_i ?_
  simp_all_arith! []
  rw [if_neg h3]
  simp_all_arith! [t_has_right_rest_8]
  refine seq_i ?_
  simp_all_arith! []
  rw [if_neg h4]
  simp_all_arith! [t_has_right_rest_10]
  refine seq_i ?_
  simp_all_arith! []
  refine ⟨by decide, rfl, rfl, ?_⟩
  rw [if_neg (fa_no h5 h6)]
  exact q
theorem rest_breach {a b i c s : D} {f : Str} (hf : Nm f) {S : Sto} {Q : DK} (hi : OkT S i) (hc : OkT S c) (hs : OkT S s) (q : ∀ S', Gr S S' → Q (.bl (whD 0 9999999 i && whD 0 1000000000 c && whD 0 1000000 s)) S') : m_has_right_rest [.tup [.str "breach", a, b, .str f, i, c, s]] S Q := by
  rw [e_has_right_rest]
  refine seq_i ?_
  simp_all_arith! [drop3]
  refine ⟨_, atI_nat (j := 0) rfl, ?_⟩
  refine to12 (by decide +kernel) (by decide +kernel) (by decide +kernel) (by decide +kernel) (by decide +kernel) (by decide +kernel) ?_
  simp_all_arith! [t_has_right_rest_12]
  refine seq_i ?_
  simp_all_arith! []
  refine ⟨_, atI_nat (j := 0) rfl, isn_nm hf fun S1 g1 => ?_⟩
  simp_all_arith! []
  refine ⟨_, atI_nat (j := 1) rfl, within_all (hi.gr g1) ?_⟩
  rw [show (10000000 - 1 : Int) = 9999999 from rfl]
  cases e1 : whD 0 9999999 i with
  | false =>
    rw [e1] at q
    simp_all_arith! []
    exact q _ g1
  | true =>
    rw [e1, Bool.true_and] at q
    simp_all_arith! [t_has_right_rest_14]
    refine seq_i ?_
    simp_all_arith! [wq_part_join, wq_part_forfeit, wq_part_measure, wq_part_mend, wq_part_alone, wq_part_breach, wq_part_view, wq_join_part, wq_join_forfeit, wq_join_measure, wq_join_mend, wq_join_alone, wq_join_breach, wq_join_view, wq_forfeit_part, wq_forfeit_join, wq_forfeit_measure, wq_forfeit_mend, wq_forfeit_alone, wq_forfeit_breach, wq_forfeit_view, wq_measure_part, wq_measure_join, wq_measure_forfeit, wq_measure_mend, wq_measure_alone, wq_measure_breach, wq_measure_view, wq_mend_part, wq_mend_join, wq_mend_forfeit, wq_mend_measure, wq_mend_alone, wq_mend_breach, wq_mend_view, wq_alone_part, wq_alone_join, wq_alone_forfeit, wq_alone_measure, wq_alone_mend, wq_alone_breach, wq_alone_view, wq_breach_part, wq_breach_join, wq_breach_forfeit, wq_breach_measure, wq_breach_mend, wq_breach_alone, wq_breach_view, wq_view_part, wq_view_join, wq_view_forfeit, wq_view_measure, wq_view_mend, wq_view_alone, wq_view_breach]
    simp_all_arith! [t_has_right_rest_16]
    refine ⟨_, atI_nat (j := 2) rfl, within_all (hc.gr g1) ?_⟩
    cases e2 : whD 0 1000000000 c with
    | false =>
      rw [e2] at q
      simp_all_arith! []
      exact q _ g1
    | true =>
      rw [e2, Bool.true_and] at q
      simp_all_arith! []
      exact ⟨_, atI_nat (j := 3) rfl, within_all (hs.gr g1) (q _ g1)⟩
theorem rest_view {a b i h : D} {f : Str} (hf : Nm f) {S : Sto} {Q : DK} (hi : OkT S i) (hb : whD 0 9999999 i = false) (q : ∀ S', Gr S S' → Q (.bl false) S') : m_has_right_rest [.tup [.str "view", a, b, .str f, i, h]] S Q := by
  rw [e_has_right_rest]
  refine seq_i ?_
  simp_all_arith! [drop3]
  refine ⟨_, atI_nat (j := 0) rfl, ?_⟩
  refine to12 (by decide +kernel) (by decide +kernel) (by decide +kernel) (by decide +kernel) (by decide +kernel) (by decide +kernel) ?_
  simp_all_arith! [t_has_right_rest_12]
  refine seq_i ?_
  simp_all_arith! []
  refine ⟨_, atI_nat (j := 0) rfl, isn_nm hf fun S1 g1 => ?_⟩
  simp_all_arith! []
  refine ⟨_, atI_nat (j := 1) rfl, within_all (hi.gr g1) ?_⟩
  rw [show (10000000 - 1 : Int) = 9999999 from rfl, hb]
  simp_all_arith! []
  exact q _ g1
end LW
namespace LW
open PySem L2 DL
def rank (w : Str) : Int := if w = "measure" then 0 else if w = "mend" ∨ w = "alone" then 2 else if w = "breach" ∨ w = "view" then 3 else 1
abbrev rowD (w n : Str) (d : Int) (rest : List D) : D := .tup (.str w :: .str n :: .int d :: rest)
def keyD (w n : Str) (d : Int) : D := .tup [.int d, .int (rank w), .str n]
theorem tab_rank {w : Str} (h : w ∈ words) : tabAt tab_RANKS w = some (rank w) := by
  unfold words at h
  simp only [List.mem_cons, List.not_mem_nil, or_false] at h
  rcases h with rfl | rfl | rfl | rfl | rfl | rfl | rfl | rfl <;> decide +kernel
theorem order_spec {w n : Str} {d : Int} {rest : List D} {S : Sto} {Q : DK} (h : w ∈ words) (q : ∀ S', Gr S S' → Q (keyD w n d) S') : m_order_of [rowD w n d rest] S Q := by
  rw [e_order_of]
  simp_all_arith! [b_order_of]
  refine ⟨_, atI_nat (j := 2) rfl, _, atI_nat (j := 0) rfl, ?_⟩
  simp_all_arith! []
  refine ⟨_, tab_rank h, _, atI_nat (j := 1) rfl, by decide, q _ .refl⟩
def ranksKv : List (Key × D) := [(kS "measure", .int 0), (kS "mend", .int 2), (kS "alone", .int 2), (kS "breach", .int 3), (kS "view", .int 3)]
theorem isI {x : D} {i : Int} (h : (match x with | .int j => decide (j = i) | _ => false) = true) : x = .int i := by
  cases x with
  | int j => rw [of_decide_eq_true h]
  | _ => cases h
theorem kv_rank {w : Str} (h : w ∈ words) : (valD (mergeD [] ranksKv) (kS w)).getD (.int 1) = .int (rank w) := by
  unfold words at h
  simp only [List.mem_cons, List.not_mem_nil, or_false] at h
  rcases h with rfl | rfl | rfl | rfl | rfl | rfl | rfl | rfl <;> exact isI (by decide +kernel)
theorem place_spec {w n : Str} {d : Int} {rest : List D} {S : Sto} {Q : DK} (h : w ∈ words) (q : ∀ S', Gr S S' → Q (keyD w n d) S') : m_wplace [rowD w n d rest] S Q := by
  rw [e_wplace]
  refine seq_i ?_
  simp_all_arith! []
  refine ⟨_, rfl, by show 5 ≤ 15; decide, fun p hp => ?_⟩
  simp_all_arith! [t_wplace_2]
  refine ⟨_, atI_nat (j := 2) rfl, ⟨_, updS_same⟩, ?_⟩
  refine ⟨_, atI_nat (j := 0) rfl, ?_⟩
  simp_all_arith! []
  refine ⟨_, updS_same, _, atI_nat (j := 1) rfl, by decide, ?_⟩
  show Q (.tup [.int d, (valD (mergeD [] ranksKv) (kS w)).getD (.int 1), .str n]) _
  rw [kv_rank h]
  exact q _ (.new hp)
def keyP (w n : Str) (d : Int) : PyData := .tuple [.int d, .int (rank w), .str n]
theorem keyP_ne {w n w2 n2 : Str} {d d2 : Int} (h : n ≠ n2) : PySem.W.keyToks (keyP w n d) ≠ PySem.W.keyToks (keyP w2 n2 d2) := by
  intro e
  unfold keyP at e
  simp [PySem.W.keyToks, PySem.W.keyToksAll] at e
  exact h (PySem.W.str_of_cps (by simp [e.2.2]))
def kdOf : D → PyData := fun x => match x with
  | .tup (.str w :: .str n :: .int d :: _) => keyP w n d
  | _ => .none
/-- a row, told apart -/
structure Ro where
  w : Str
  n : Str
  d : Int
  R : D
structure Ro.ok (r : Ro) : Prop where
  hn : Nm r.n
  d0 : 0 ≤ r.d
  d1 : r.d ≤ 9999
  row : RowOk r.n r.d r.w r.R
theorem nrs_str : ∀ zs : List Str, nrs (zs.map .str) = true
  | [] => rfl
  | _ :: r => nrs_str r
theorem nrs_pt : ∀ ps : List Pt, nrs (ps.map Pt.D) = true
  | [] => rfl
  | _ :: r => nrs_pt r
theorem row_shape {n w : Str} {d : Int} {R : D} (h : RowOk n d w R) : w ∈ words ∧ ∃ rest, R = rowD w n d rest ∧ nrs rest = true := by
  cases h with
  | @part la ps hl h2 h6 hr hp => exact ⟨by decide +kernel, _, rfl, by show (nrs (ps.map Pt.D) && true) = true; rw [nrs_pt]; rfl⟩
  | @join ls la h2 h6 hr hp hl => exact ⟨by decide +kernel, _, rfl, by show (nrs (ls.map .str) && _) = true; rw [nrs_str]; rfl⟩
  | forfeit hl hh => exact ⟨by decide +kernel, _, rfl, rfl⟩
  | measure hf i0 i1 => exact ⟨by decide +kernel, _, rfl, rfl⟩
  | mend hh hg ne => exact ⟨by decide +kernel, _, rfl, rfl⟩
  | alone hh => exact ⟨by decide +kernel, _, rfl, rfl⟩
  | breach hf i0 i1 c0 c1 s0 s1 => exact ⟨by decide +kernel, _, rfl, rfl⟩
  | view hf i0 i1 hh => exact ⟨by decide +kernel, _, rfl, rfl⟩
theorem Ro.ok.kd {r : Ro} (h : r.ok) : kdOf r.R = keyP r.w r.n r.d := by
  obtain ⟨_, rest, e, _⟩ := row_shape h.row
  rw [e]; rfl
/-- the rows in order -/
noncomputable def srt (rows : List Ro) : List D := (rows.map Ro.R).mergeSort (PySem.W.dataLe false kdOf)
theorem key_ne {rows : List Ro} (ok : ∀ r ∈ rows, r.ok) (nd : (rows.map Ro.n).Nodup) : (rows.map Ro.R).Pairwise fun a b => PySem.W.keyToks (kdOf a) ≠ PySem.W.keyToks (kdOf b) := by
  induction rows with
  | nil => exact .nil
  | cons r rs ih =>
    have h2 := List.forall_mem_cons.mp ok
    rw [List.map_cons, List.nodup_cons] at nd
    refine .cons (fun x hx => ?_) (ih h2.2 nd.2)
    obtain ⟨r2, hr2, rfl⟩ := List.mem_map.mp hx
    rw [h2.1.kd, (h2.2 r2 hr2).kd]
    exact keyP_ne fun e => nd.1 (by rw [e]; exact List.mem_map.mpr ⟨r2, hr2, rfl⟩)
theorem srt_lt {rows : List Ro} (ok : ∀ r ∈ rows, r.ok) (nd : (rows.map Ro.n).Nodup) : (srt rows).Pairwise fun a b => PyProof.Rows.lexLt PyProof.Rows.itemOrd (PySem.W.keyToks (kdOf a)) (PySem.W.keyToks (kdOf b)) = true := by
  let O := PyProof.Rows.listOrd PyProof.Rows.itemOrd
  have le_def : ∀ a b, PySem.W.dataLe false kdOf a b = !(O.blt (PySem.W.keyToks (kdOf b)) (PySem.W.keyToks (kdOf a))) := fun a b => rfl
  have asy : ∀ a b, O.blt a b = true → O.blt b a = false := fun a b h => by
    cases h2 : O.blt b a with
    | false => rfl
    | true => have := O.trans _ _ _ h h2; rw [O.irrefl] at this; cases this
  have h1 : (srt rows).Pairwise fun a b => PySem.W.dataLe false kdOf a b = true := by
    refine List.pairwise_mergeSort (fun a b c h1 h2 => ?_) (fun a b => ?_) _
    · rw [le_def, Bool.not_eq_true'] at h1 h2 ⊢
      cases h3 : O.blt (PySem.W.keyToks (kdOf c)) (PySem.W.keyToks (kdOf a)) with
      | false => rfl
      | true =>
        rcases O.negTrans _ (PySem.W.keyToks (kdOf b)) _ h3 with h4 | h4
        · rw [h4] at h2; cases h2
        · rw [h4] at h1; cases h1
    · rw [le_def, le_def]
      cases h3 : O.blt (PySem.W.keyToks (kdOf b)) (PySem.W.keyToks (kdOf a)) with
      | false => rfl
      | true => rw [asy _ _ h3]; rfl
  have h2 : (srt rows).Pairwise fun a b => PySem.W.keyToks (kdOf a) ≠ PySem.W.keyToks (kdOf b) :=
    (List.Perm.pairwise_iff (fun {a b} h => Ne.symm h) (List.mergeSort_perm ..)).mpr (key_ne ok nd)
  refine (h1.and h2).imp fun {a b} h => ?_
  obtain ⟨h3, h4⟩ := h
  rw [le_def, Bool.not_eq_true'] at h3
  cases h5 : PyProof.Rows.lexLt PyProof.Rows.itemOrd (PySem.W.keyToks (kdOf a)) (PySem.W.keyToks (kdOf b)) with
  | true => rfl
  | false => exact absurd (PyProof.Rows.lex_total _ _ h5 h3) h4
theorem srt_perm {rows : List Ro} (ok : ∀ r ∈ rows, r.ok) (nd : (rows.map Ro.n).Nodup) {T : List D} (hp : T.Perm (rows.map Ro.R)) : T.mergeSort (PySem.W.dataLe false kdOf) = srt rows :=
  sort_back (hp.trans (List.mergeSort_perm ..).symm) (srt_lt ok nd)
theorem keyed_ro {m : MF} (hm : ∀ {w n : Str} {d : Int} {rest : List D} {S : Sto} {Q : DK}, w ∈ words → (∀ S', Gr S S' → Q (keyD w n d) S') → m [rowD w n d rest] S Q) {rows : List Ro} (ok : ∀ r ∈ rows, r.ok) (nd : (rows.map Ro.n).Nodup) {T : List D} (hp : T.Perm (rows.map Ro.R)) {R : List D → Prop} (q : R (srt rows)) : keyed m T R := by
  have hT : ∀ x ∈ T, ∃ r : Ro, r.ok ∧ r.R = x := fun x hx => by
    obtain ⟨r, hr, e⟩ := List.mem_map.mp (hp.mem_iff.mp hx)
    exact ⟨r, ok r hr, e⟩
  refine ⟨kdOf, fun x hx => ?_, ?_, ?_, fun x hx => ?_, by rw [srt_perm ok nd hp]; exact q⟩
  · obtain ⟨r, hr, rfl⟩ := hT x hx
    obtain ⟨hw, rest, e, hnr⟩ := row_shape hr.row
    refine ⟨?_, ?_⟩
    · rw [e]
      show (true && (true && (true && nrs rest))) = true
      rw [hnr]; rfl
    · rw [hr.kd, e]
      exact hm hw fun S' _ => .tup (.cons (.int _) (.cons (.int _) (.cons (.str _) .nil)))
  · intro d hd d2 hd2
    obtain ⟨x, hx, rfl⟩ := List.mem_map.mp hd
    obtain ⟨x2, hx2, rfl⟩ := List.mem_map.mp hd2
    obtain ⟨r, hr, rfl⟩ := hT x hx
    obtain ⟨r2, hr2, rfl⟩ := hT x2 hx2
    rw [hr.kd, hr2.kd]
    show PySem.W.alike (keyP r.w r.n r.d) (keyP r2.w r2.n r2.d) = true
    unfold keyP
    simp [PySem.W.alikeAll, PySem.W.alike]
  · refine .inl fun d hd => ?_
    obtain ⟨x, hx, rfl⟩ := List.mem_map.mp hd
    obtain ⟨r, hr, rfl⟩ := hT x hx
    rw [hr.kd]
    exact ⟨_, _, rfl⟩
  · obtain ⟨r, hr, rfl⟩ := hT x hx
    rw [hr.kd]
    exact Nat.le_trans (Nat.le_of_eq (show _ = 1 from rfl)) (by decide)
def tens : List Str := ["part", "join", "forfeit", "measure", "mend", "alone", "breach", "view", "part", "join"]
theorem tens_words : ∀ z ∈ tens, z ∈ words := by decide +kernel
theorem wrow_spec {p pc f pl ho : Addr} {b : Nat} {n : Str} {d : Int} {fs ps hs : List Str} {S : Sto} {Q : DK} (h : Pen S p pc b) (hb : b + 300 ≤ 100000) (tf : Txs S p f fs) (tp : Txs S p pl ps) (th : Txs S p ho hs) (hf : 0 < fs.length) (hf2 : fs.length ≤ 10) (hp : ps.length = 10) (hl : hs.length = 5)
    (q : ∀ w R S', RowOk n d w R → FIn (· ∈ fs) w R → Pen S' p pc (b + 60) → Kp p S S' → Q R S') : m_wrow [.ref p, .str n, .int d, .tup [.ref f, .ref pl, .ref ho]] S Q := by
  rw [e_wrow]
  refine seq_i ?_
  simp_all_arith! []
  refine ⟨by decide, fun c hc => ?_⟩
  have ncp := (h.ne hc).1
  generalize hS1 : updS S c _ = S1
  have c1 : S1 c = some (.lst (tens.map .str)) := by rw [← hS1, updS_same]; rfl
  have p1 : Pen S1 p pc b := by rw [← hS1]; exact h.new hc
  have g1 : Kp p S S1 := by rw [← hS1]; exact .new hc
  simp_all_arith! [t_wrow_2]
  refine take_spec p1 (by omega) (by decide) (by decide) fun j S2 a2 b2 p2 g2 => ?_
  have b2 : j < 10 := b2
  rw [g2 _ _ ncp c1, oIx_li]
  obtain ⟨w, ew, hw⟩ := get_str (zs := tens) a2 b2
  refine ⟨_, ew, ?_⟩
  have g := g1.trans g2
  refine rowof_spec p2 (by omega) (tf.kp g) (tp.kp g) (th.kp g) hf hf2 hp hl (tens_words w hw) fun R S' hR hF hpn hg => ?_
  exact q w R S' hR hF (hpn.mono (by omega)) (g.trans hg)
end LW
namespace LW
open PySem L2 DL
def leafD (x : D) : Prop := (∃ z, Nm z ∧ x = .str z) ∨ ∃ i : Int, -1000000000000 < i ∧ i < 1000000000000 ∧ x = .int i
def thD (t : D) : Prop := leafD t ∨ ∃ ts, t = .tup ts ∧ ts.length ≤ 3 ∧ ∀ x ∈ ts, leafD x
def itemD (x : D) : Prop := leafD x ∨ ∃ O, x = .tup O ∧ O.length ≤ 6 ∧ ∀ t ∈ O, thD t
theorem leaf_sm {S : Sto} {k m : Nat} {x : D} (h : leafD x) (hm : 8 ≤ m) : Sm S k m x := by
  rcases h with ⟨z, hz, rfl⟩ | ⟨i, h1, h2, rfl⟩
  · exact sm_nm hz hm
  · exact sm_int h1 h2
theorem th_sm {S : Sto} {t : D} (h : thD t) : Sm S 1 27 t := by
  rcases h with h | ⟨ts, rfl, h3, hx⟩
  · exact leaf_sm h (by decide)
  · exact sm_tup (k := 0) (n := 3) (m := 8) (fun x hm => leaf_sm (hx x hm) (Nat.le_refl _)) h3
theorem item_sm {S : Sto} {t : D} (h : itemD t) : Sm S 2 168 t := by
  rcases h with h | ⟨ts, rfl, h3, hx⟩
  · exact leaf_sm h (by decide)
  · exact sm_tup (k := 1) (n := 6) (m := 27) (fun x hm => th_sm (hx x hm)) h3
theorem words_nm : ∀ z ∈ words, Nm z := by
  have h : ∀ z ∈ words, (1 ≤ z.length ∧ z.length ≤ 8) ∧ ∀ c ∈ z.cps.toList, 97 ≤ c ∧ c < 123 := by decide +kernel
  exact fun z hz => ⟨(h z hz).1.1, (h z hz).1.2, (h z hz).2⟩
theorem lf_w {z : Str} (h : z ∈ words) : itemD (.str z) := .inl (.inl ⟨z, words_nm z h, rfl⟩)
theorem lf_s {z : Str} (h : Nm z) : itemD (.str z) := .inl (.inl ⟨z, h, rfl⟩)
theorem lf_i {i : Int} (h0 : 0 ≤ i) (h1 : i ≤ 1000000000) : itemD (.int i) := .inl (.inr ⟨i, by omega, by omega, rfl⟩)
theorem row_items {n w : Str} {d : Int} {R : D} (hn : Nm n) (d0 : 0 ≤ d) (d1 : d ≤ 9999) (h : RowOk n d w R) : ∃ items, R = .tup items ∧ items.length ≤ 7 ∧ ∀ x ∈ items, itemD x := by
  have hd : itemD (.int d) := lf_i d0 (by omega)
  have hn' := lf_s hn
  have em : ∀ x ∈ ([] : List D), itemD x := fun x hx => by cases hx
  cases h with
  | @part la ps hl h2 h6 hr hp =>
    refine ⟨_, rfl, by simp, List.forall_mem_cons.mpr ⟨lf_w (by decide +kernel), List.forall_mem_cons.mpr ⟨hn', List.forall_mem_cons.mpr ⟨hd, List.forall_mem_cons.mpr ⟨lf_s hl, List.forall_mem_cons.mpr ⟨.inr ⟨_, rfl, by rw [List.length_map]; exact h6, fun t ht => ?_⟩, em⟩⟩⟩⟩⟩⟩
    obtain ⟨x, hx, rfl⟩ := List.mem_map.mp ht
    have hk := hp x hx
    refine .inr ⟨_, rfl, by simp, ?_⟩
    exact List.forall_mem_cons.mpr ⟨.inl ⟨_, hk.ho, rfl⟩, List.forall_mem_cons.mpr ⟨.inl ⟨_, hk.hh, rfl⟩, List.forall_mem_cons.mpr ⟨.inr ⟨_, by have := hk.n1; omega, by have := hk.n2; omega, rfl⟩, fun x hx => by cases hx⟩⟩⟩
  | @join ls la h2 h6 hr hp hl =>
    refine ⟨_, rfl, by simp, List.forall_mem_cons.mpr ⟨lf_w (by decide +kernel), List.forall_mem_cons.mpr ⟨hn', List.forall_mem_cons.mpr ⟨hd, List.forall_mem_cons.mpr ⟨.inr ⟨_, rfl, by rw [List.length_map]; exact h6, fun t ht => ?_⟩, List.forall_mem_cons.mpr ⟨lf_s hl, em⟩⟩⟩⟩⟩⟩
    obtain ⟨x, hx, rfl⟩ := List.mem_map.mp ht
    exact .inl (.inl ⟨_, hp x hx, rfl⟩)
  | forfeit hl hh => exact ⟨_, rfl, by simp, List.forall_mem_cons.mpr ⟨lf_w (by decide +kernel), List.forall_mem_cons.mpr ⟨hn', List.forall_mem_cons.mpr ⟨hd, List.forall_mem_cons.mpr ⟨lf_s hl, List.forall_mem_cons.mpr ⟨lf_s hh, em⟩⟩⟩⟩⟩⟩
  | measure hf i0 i1 => exact ⟨_, rfl, by simp, List.forall_mem_cons.mpr ⟨lf_w (by decide +kernel), List.forall_mem_cons.mpr ⟨hn', List.forall_mem_cons.mpr ⟨hd, List.forall_mem_cons.mpr ⟨lf_s hf, List.forall_mem_cons.mpr ⟨lf_i i0 (by omega), em⟩⟩⟩⟩⟩⟩
  | mend hh hg ne => exact ⟨_, rfl, by simp, List.forall_mem_cons.mpr ⟨lf_w (by decide +kernel), List.forall_mem_cons.mpr ⟨hn', List.forall_mem_cons.mpr ⟨hd, List.forall_mem_cons.mpr ⟨lf_s hh, List.forall_mem_cons.mpr ⟨lf_s hg, em⟩⟩⟩⟩⟩⟩
  | alone hh => exact ⟨_, rfl, by simp, List.forall_mem_cons.mpr ⟨lf_w (by decide +kernel), List.forall_mem_cons.mpr ⟨hn', List.forall_mem_cons.mpr ⟨hd, List.forall_mem_cons.mpr ⟨lf_s hh, em⟩⟩⟩⟩⟩
  | breach hf i0 i1 c0 c1 s0 s1 => exact ⟨_, rfl, by simp, List.forall_mem_cons.mpr ⟨lf_w (by decide +kernel), List.forall_mem_cons.mpr ⟨hn', List.forall_mem_cons.mpr ⟨hd, List.forall_mem_cons.mpr ⟨lf_s hf, List.forall_mem_cons.mpr ⟨lf_i i0 (by omega), List.forall_mem_cons.mpr ⟨lf_i c0 (by omega), List.forall_mem_cons.mpr ⟨lf_i s0 (by omega), em⟩⟩⟩⟩⟩⟩⟩⟩
  | view hf i0 i1 hh => exact ⟨_, rfl, by simp, List.forall_mem_cons.mpr ⟨lf_w (by decide +kernel), List.forall_mem_cons.mpr ⟨hn', List.forall_mem_cons.mpr ⟨hd, List.forall_mem_cons.mpr ⟨lf_s hf, List.forall_mem_cons.mpr ⟨lf_i i0 (by omega), List.forall_mem_cons.mpr ⟨lf_s hh, em⟩⟩⟩⟩⟩⟩⟩
theorem pds_of {S : Sto} {k : Nat} : ∀ {ds : List D}, (∀ x ∈ ds, ∃ p, PD S x p ∧ p.depth ≤ k) → ∃ ps, PDs S ds ps ∧ PyData.depthAll ps ≤ k
  | [], _ => ⟨[], .nil, Nat.zero_le _⟩
  | x :: r, h => by
    have h2 := List.forall_mem_cons.mp h
    obtain ⟨p, h3, h4⟩ := h2.1
    obtain ⟨ps, h5, h6⟩ := pds_of h2.2
    exact ⟨p :: ps, .cons h3 h5, by rw [PyData.depthAll.eq_2]; omega⟩
theorem leaf_pd {S : Sto} {x : D} (h : leafD x) : ∃ p, PD S x p ∧ p.depth ≤ 0 := by
  rcases h with ⟨z, _, rfl⟩ | ⟨i, _, _, rfl⟩
  · exact ⟨_, .str z, Nat.le_of_eq rfl⟩
  · exact ⟨_, .int i, Nat.le_of_eq rfl⟩
theorem tup_pd {S : Sto} {k : Nat} {ds : List D} (h : ∀ x ∈ ds, ∃ p, PD S x p ∧ p.depth ≤ k) : ∃ p, PD S (.tup ds) p ∧ p.depth ≤ k + 1 := by
  obtain ⟨ps, h1, h2⟩ := pds_of h
  exact ⟨_, .tup h1, by rw [show (PyData.tuple ps).depth = PyData.depthAll ps + 1 from by unfold PyData.depth; rfl]; omega⟩
theorem pd_up {S : Sto} {k j : Nat} {x : D} (hk : k ≤ j) (h : ∃ p, PD S x p ∧ p.depth ≤ k) : ∃ p, PD S x p ∧ p.depth ≤ j := let ⟨p, a, b⟩ := h; ⟨p, a, by omega⟩
theorem th_pd {S : Sto} {x : D} (h : thD x) : ∃ p, PD S x p ∧ p.depth ≤ 1 := by
  rcases h with h | ⟨ts, rfl, _, hx⟩
  · exact pd_up (by decide) (leaf_pd h)
  · exact tup_pd fun y hy => leaf_pd (hx y hy)
theorem item_pd {S : Sto} {x : D} (h : itemD x) : ∃ p, PD S x p ∧ p.depth ≤ 2 := by
  rcases h with h | ⟨ts, rfl, _, hx⟩
  · exact pd_up (by decide) (leaf_pd h)
  · exact tup_pd fun y hy => th_pd (hx y hy)
theorem line_of {n : Nat} (h : n ≤ 4000) : n < sizeLine := Nat.lt_of_lt_of_le (show n < 4001 by omega) (by decide)
theorem fr_of {p : Addr} {S S' : Sto} (k : Kp p S S') {c : Addr} (hcp : c ≠ p) (e : S' c = none) : S c = none := by
  by_cases e2 : S c = none
  · exact e2
  · obtain ⟨o, ho⟩ := Option.ne_none_iff_exists'.mp e2
    rw [k _ _ hcp ho] at e
    cases e
theorem row_sm {r : Ro} (h : r.ok) {S : Sto} : Sm S 3 1183 r.R := by
  obtain ⟨items, e, h7, hi⟩ := row_items h.hn h.d0 h.d1 h.row
  rw [e]
  exact sm_tup (k := 2) (n := 7) (m := 168) (fun x hx => item_sm (hi x hx)) h7
theorem fd_leaf {x : Fd} (h : x.ok) : ∀ y ∈ [D.str x.f, .str x.h, .int x.a, .int x.n], leafD y := 
  List.forall_mem_cons.mpr ⟨.inl ⟨_, h.hf, rfl⟩, List.forall_mem_cons.mpr ⟨.inl ⟨_, h.hh, rfl⟩, List.forall_mem_cons.mpr ⟨.inr ⟨_, by have := h.a1; omega, by have := h.a2; omega, rfl⟩, List.forall_mem_cons.mpr ⟨.inr ⟨_, by have := h.n1; omega, by have := h.n2; omega, rfl⟩, fun z hz => by cases hz⟩⟩⟩⟩
theorem fd_sm {x : Fd} (h : x.ok) {S : Sto} : Sm S 1 36 x.D := sm_tup (k := 0) (n := 4) (m := 8) (fun y hy => leaf_sm (fd_leaf h y hy) (Nat.le_refl _)) (by simp)
end LW
namespace LW
open PySem L2 DL
theorem ten_line {n : Nat} (h : n ≤ 100) : n ≤ sizeLine := Nat.le_trans h (by decide)
/-- a row's items, as handed in -/
inductive RowL (S : Sto) (n : Str) (d : Int) : Str → D → List D → Prop
  | part {la : Str} {P : D} {ys ts : List D} {ps : List Pt} (hc : Con S P ys) (hl : Los S ys ts) (hp : ts.Perm (ps.map Pt.D)) : RowL S n d "part" (.tup [.str "part", .str n, .int d, .str la, .tup (ps.map Pt.D)]) [.str "part", .str n, .int d, .str la, P]
  | join {la : Str} {P : D} {ys ts : List D} {ls : List Str} (hc : Con S P ys) (hl : Los S ys ts) (hp : ts.Perm (ls.map .str)) : RowL S n d "join" (.tup [.str "join", .str n, .int d, .tup (ls.map .str), .str la]) [.str "join", .str n, .int d, P, .str la]
  | oth {w : Str} {rest : List D} (h1 : w ≠ "part") (h2 : w ≠ "join") : RowL S n d w (.tup (.str w :: .str n :: .int d :: rest)) (.str w :: .str n :: .int d :: rest)
theorem RowL.gr {S S' : Sto} (g : Gr S S') {n w : Str} {d : Int} {R : D} {L : List D} (h : RowL S n d w R L) : RowL S' n d w R L := by
  cases h with
  | part hc hl hp => exact .part (hc.gr g) (hl.gr g) hp
  | join hc hl hp => exact .join (hc.gr g) (hl.gr g) hp
  | oth h1 h2 => exact .oth h1 h2
theorem Con.lo {S : Sto} {P : D} {ys : List D} (h : Con S P ys) : Lo S P (.tup ys) := by
  rcases h with rfl | ⟨c, rfl, e⟩
  · exact .same _
  · exact .lst e
theorem ord_part {n la : Str} {d : Int} {items : List D} (h : RowOk n d "part" (.tup [.str "part", .str n, .int d, .str la, .tup items])) : Ord items := by
  generalize e : D.tup [.str "part", .str n, .int d, .str la, .tup items] = R at h
  generalize ew : ("part" : Str) = w at h
  cases h with
  | part hl h2 h6 hr hp =>
    simp only [D.tup.injEq, List.cons.injEq, true_and, and_true] at e
    rw [e.2]
    exact .parts h2 h6 hr hp
  | _ => exact absurd ew (by decide +kernel)
theorem ord_join {n la : Str} {d : Int} {items : List D} (h : RowOk n d "join" (.tup [.str "join", .str n, .int d, .tup items, .str la])) : Ord items := by
  generalize e : D.tup [.str "join", .str n, .int d, .tup items, .str la] = R at h
  generalize ew : ("join" : Str) = w at h
  cases h with
  | join h2 h6 hr hp hl =>
    simp only [D.tup.injEq, List.cons.injEq, true_and, and_true] at e
    rw [e.1]
    exact .lands h2 h6 hr hp
  | _ => exact absurd ew (by decide +kernel)
/-- what stands behind the form's own places -/
theorem row_of_end {X R : D} {S : Sto} {Q : DK} {E : EK} {b : Bool} (hr : ∀ S' (Q : DK), Gr S S' → (∀ S2, Gr S' S2 → Q (.bl b) S2) → m_is_row [R] S' Q) (q : ∀ S', Gr S S' → if b = true then Q R S' else E "NoRow" S') {S1 : Sto} (g1 : Gr S S1) : t_row_of_7 (endsD Q) E [some X, some R] S1 := by
  refine seqx_i ?_
  simp_all_arith! []
  refine hr _ _ g1 fun S2 g2 => ?_
  have := q _ (g1.trans g2)
  cases b with
  | true =>
    simp_all_arith! []
    simp_all_arith! [t_row_of_9]
    exact this
  | false =>
    simp_all_arith! []
    exact this
theorem row_of_spec {n w : Str} {d : Int} {R X : D} {L : List D} (hn : Nm n) (d0 : 0 ≤ d) (d1 : d ≤ 9999) (hR : RowOk n d w R) {S : Sto} {Q : DK} {E : EK} (hL : RowL S n d w R L) (hX : Con S X L) (q : ∀ S', Gr S S' → Q R S') : m_row_of [X] S Q E := by
  rw [e_row_of]
  refine seqx_i ?_
  simp_all_arith! []
  refine as_tuple_spec hX.lo rfl ?_
  have fin : ∀ S1, Gr S S1 → t_row_of_7 ⟨fun x S => Q .non S, Q, fun _ _ => False, fun _ _ => False⟩ E [some X, some R] S1 := fun S1 g1 =>
    row_of_end (b := true) (fun S' Q g h => row_spec hn d0 d1 hR h) q g1
  simp_all_arith! [t_row_of_2]
  refine seqx_i ?_
  simp_all_arith! []
  cases hL with
  | @part la P ys ts ps hc hl hp =>
    have hO : Ord (ps.map Pt.D) := ord_part hR
    have c4 : cutL [D.str "part", .str n, .int d, .str la, P] none (some 4) = [.str "part", .str n, .int d, .str la] := cutL_to _ 4
    rw [if_pos (by exact rfl)]
    refine ⟨_, atI_nat (j := 0) rfl, ?_⟩
    simp_all_arith! []
    refine ⟨_, atI_nat (j := 4) rfl, in_order_spec hc hl hp hO fun S1 g1 => ?_⟩
    rw [c4]
    exact ⟨by decide, ten_line (by simp), fin S1 g1⟩
  | @join la P ys ts ls hc hl hp =>
    have hO : Ord (ls.map .str) := ord_join hR
    have c3 : cutL [D.str "join", .str n, .int d, P, .str la] none (some 3) = [.str "join", .str n, .int d] := cutL_to _ 3
    have c4 : cutL [D.str "join", .str n, .int d, P, .str la] (some 4) none = [.str la] := cutL_from _ 4
    rw [if_pos (by exact rfl)]
    refine ⟨_, atI_nat (j := 0) rfl, ?_⟩
    simp_all_arith! [wq_part_join, wq_part_forfeit, wq_part_measure, wq_part_mend, wq_part_alone, wq_part_breach, wq_part_view, wq_join_part, wq_join_forfeit, wq_join_measure, wq_join_mend, wq_join_alone, wq_join_breach, wq_join_view, wq_forfeit_part, wq_forfeit_join, wq_forfeit_measure, wq_forfeit_mend, wq_forfeit_alone, wq_forfeit_breach, wq_forfeit_view, wq_measure_part, wq_measure_join, wq_measure_forfeit, wq_measure_mend, wq_measure_alone, wq_measure_breach, wq_measure_view, wq_mend_part, wq_mend_join, wq_mend_forfeit, wq_mend_measure, wq_mend_alone, wq_mend_breach, wq_mend_view, wq_alone_part, wq_alone_join, wq_alone_forfeit, wq_alone_measure, wq_alone_mend, wq_alone_breach, wq_alone_view, wq_breach_part, wq_breach_join, wq_breach_forfeit, wq_breach_measure, wq_breach_mend, wq_breach_alone, wq_breach_view, wq_view_part, wq_view_join, wq_view_forfeit, wq_view_measure, wq_view_mend, wq_view_alone, wq_view_breach]
    refine ⟨_, atI_nat (j := 0) rfl, ?_⟩
    simp_all_arith! []
    refine ⟨_, atI_nat (j := 3) rfl, in_order_spec hc hl hp hO fun S1 g1 => ?_⟩
    rw [c3, c4]
    exact ⟨by decide, ten_line (by simp), ten_line (by simp), fin S1 g1⟩
  | @oth _ rest h1 h2 =>
    split
    · refine ⟨_, atI_nat (j := 0) rfl, ?_⟩
      simp_all_arith! [h1]
      refine ⟨_, atI_nat (j := 0) rfl, ?_⟩
      simp_all_arith! [h2]
      exact fin S .refl
    · exact fin S .refl
theorem los_self {S : Sto} : ∀ {O : List D}, Los S O O
  | [] => .nil
  | _ :: _ => .cons (.same _) los_self
/-- a row is what it is made of -/
theorem rowL_self {S : Sto} {n w : Str} {d : Int} {R : D} (h : RowOk n d w R) : ∃ L, R = .tup L ∧ RowL S n d w R L := by
  cases h with
  | part hl h2 h6 hr hp => exact ⟨_, rfl, .part (.inl rfl) los_self (.refl _)⟩
  | join h2 h6 hr hp hl => exact ⟨_, rfl, .join (.inl rfl) los_self (.refl _)⟩
  | forfeit hl hh => exact ⟨_, rfl, .oth (by decide +kernel) (by decide +kernel)⟩
  | measure hf i0 i1 => exact ⟨_, rfl, .oth (by decide +kernel) (by decide +kernel)⟩
  | mend hh hg ne => exact ⟨_, rfl, .oth (by decide +kernel) (by decide +kernel)⟩
  | alone hh => exact ⟨_, rfl, .oth (by decide +kernel) (by decide +kernel)⟩
  | breach hf i0 i1 c0 c1 s0 s1 => exact ⟨_, rfl, .oth (by decide +kernel) (by decide +kernel)⟩
  | view hf i0 i1 hh => exact ⟨_, rfl, .oth (by decide +kernel) (by decide +kernel)⟩
theorem row_of_self {r : Ro} (h : r.ok) {S : Sto} {Q : DK} {E : EK} (q : ∀ S', Gr S S' → Q r.R S') : m_row_of [r.R] S Q E := by
  obtain ⟨L, e, hL⟩ := rowL_self (S := S) h.row
  exact row_of_spec h.hn h.d0 h.d1 h.row hL (.inl e) q
/-- as_tuple of what is no list -/
theorem as_tuple_id {y : D} {ty : String} {S : Sto} {Q : DK} (h : tyD y S = some ty) (hn : ty ≠ "list") (q : Q y S) : m_as_tuple [y] S Q := by
  rw [e_as_tuple]
  refine seq_i ?_
  have e : (ty == "list") = false := by simp [hn]
  simp_all_arith! [h, e]
  simp_all_arith! [t_as_tuple_3]
  exact q
/-- row_of of what is no tuple, or a tuple not of five -/
theorem row_of_bad {X R : D} {S : Sto} {Q : DK} {E : EK} (ha : ∀ Q : DK, Q R S → m_as_tuple [X] S Q) (h5 : (∃ ty, tyD R S = some ty ∧ ty ≠ "tuple") ∨ ∃ ds, R = .tup ds ∧ ds.length ≠ 5)
    (hr : ∀ S' (Q : DK), Gr S S' → (∀ S2, Gr S' S2 → Q (.bl false) S2) → m_is_row [R] S' Q) (q : ∀ S', Gr S S' → E "NoRow" S') : m_row_of [X] S Q E := by
  rw [e_row_of]
  refine seqx_i ?_
  simp_all_arith! []
  refine ha _ ?_
  have fin : t_row_of_7 ⟨fun x S => Q .non S, Q, fun _ _ => False, fun _ _ => False⟩ E [some X, some R] S := row_of_end (b := false) hr (fun S' g => q S' g) .refl
  simp_all_arith! [t_row_of_2]
  refine seqx_i ?_
  rcases h5 with ⟨ty, h1, h2⟩ | ⟨ds, rfl, h2⟩
  · have e : (ty == "tuple") = false := by simp [h2]
    simp_all_arith! [h1, e]
    exact fin
  · have h3 : ¬ ((ds.length : Int) = 5) := by omega
    simp_all_arith! [h3]
    exact fin
end LW
namespace LW
open PySem L2 DL
theorem three_no {w : Str} (h : ([D.str "measure", .str "breach", .str "view"].any fun z => eqF z (.str w)) = false) {r : List D} {S : Sto} {Q : DK} (q : Q .non S) : m_field_of [.tup (.str w :: r)] S Q := by
  rw [e_field_of]
  refine seq_i ?_
  simp_all_arith! []
  refine ⟨_, atI_nat (j := 0) rfl, rfl, rfl, ?_⟩
  rw [h, if_neg (by decide)]
  simp_all_arith! [t_field_of_3]
  exact q
theorem three_yes {w : Str} (h : ([D.str "measure", .str "breach", .str "view"].any fun z => eqF z (.str w)) = true) {a b x : D} {r : List D} {S : Sto} {Q : DK} (q : Q x S) : m_field_of [.tup (.str w :: a :: b :: x :: r)] S Q := by
  rw [e_field_of]
  refine seq_i ?_
  simp_all_arith! []
  refine ⟨_, atI_nat (j := 0) rfl, rfl, rfl, ?_⟩
  rw [h, if_pos rfl]
  exact ⟨_, atI_nat (j := 3) rfl, q⟩
theorem field_spec {n w : Str} {d : Int} {R : D} {P : Str → Prop} (h : RowOk n d w R) (hF : FIn P w R) {S : Sto} {Q : DK} (q0 : w ∉ three → Q .non S) (q1 : ∀ z, P z → Q (.str z) S) : m_field_of [R] S Q := by
  cases h with
  | part hl h2 h6 hr hp => exact three_no (by decide +kernel) (q0 (by decide +kernel))
  | join h2 h6 hr hp hl => exact three_no (by decide +kernel) (q0 (by decide +kernel))
  | forfeit hl hh => exact three_no (by decide +kernel) (q0 (by decide +kernel))
  | mend hh hg ne => exact three_no (by decide +kernel) (q0 (by decide +kernel))
  | alone hh => exact three_no (by decide +kernel) (q0 (by decide +kernel))
  | measure hf i0 i1 => exact three_yes (by decide +kernel) (q1 _ (hF (by decide +kernel) _ _ _ _ rfl))
  | breach hf i0 i1 c0 c1 s0 s1 => exact three_yes (by decide +kernel) (q1 _ (hF (by decide +kernel) _ _ _ _ rfl))
  | view hf i0 i1 hh => exact three_yes (by decide +kernel) (q1 _ (hF (by decide +kernel) _ _ _ _ rfl))
/-- whether a field is none, or one of the laying's -/
def inLay (xs : List Fd) (v : D) : Bool := match v with
  | .non => true
  | .str z => decide (z ∈ xs.map (·.f))
  | _ => false
theorem is_row_of_gen {n w : Str} {d : Int} {R : D} {xs : List Fd} {P : Str → Prop} (h : RowOk n d w R) (hF : FIn P w R) (h8 : xs.length ≤ 8) {S : Sto} {Q : DK}
    (q : ∀ v S', (v = D.non ∧ w ∉ three ∨ ∃ z, P z ∧ v = .str z) → Gr S S' → Q (.bl (inLay xs v)) S') : m_is_row_of [.tup (xs.map Fd.D), R] S Q := by
  rw [e_is_row_of]
  simp_all_arith! [b_is_row_of]
  have key : ∀ K : DK, (∀ v : D, (v = D.non ∧ w ∉ three ∨ ∃ z, P z ∧ v = D.str z) → K v S) → m_field_of [R] S K := fun K hk => field_spec h hF (fun h3 => hk _ (.inl ⟨rfl, h3⟩)) fun z hz => hk _ (.inr ⟨z, hz, rfl⟩)
  refine key _ fun v hv => ?_
  refine ⟨by decide, fun p hp => ?_⟩
  have e1 : updS S p (.lst [D.non]) p = some (.lst [D.non]) := updS_same
  have g1 : Gr S (updS S p (.lst [D.non])) := .new hp
  generalize updS S p (.lst [D.non]) = S1 at e1 g1
  refine lcL_inv _ (fun i acc S' => Gr S1 S' ∧ acc = ((xs.map (·.f)).take i).map .str) (fun _ _ _ _ => trivial) (fun i x acc S' N hxi ⟨g, e⟩ hN => ?el2) (fun acc S' ⟨g, e⟩ => ?fin2) ⟨.refl, by simp⟩
  case el2 =>
    have hi := (List.getElem?_eq_some_iff.mp hxi).1
    rw [List.length_map] at hi
    rw [List.getElem?_map, List.getElem?_eq_getElem hi] at hxi
    injection hxi with hxi
    rw [← hxi]
    simp_all_arith! [c_is_row_of_1]
    rw [show Fd.D xs[i] = D.tup [.str xs[i].f, .str xs[i].h, .int xs[i].a, .int xs[i].n] from rfl]
    simp_all_arith! []
    refine ⟨_, atI_nat (j := 0) rfl, by rw [e, List.length_map, List.length_take]; exact line_of (by rw [List.length_map]; omega), hN _ _ ⟨g, ?_⟩⟩
    rw [e, List.take_add_one, List.getElem?_map, List.getElem?_eq_getElem hi, List.map_append]
    rfl
  case fin2 =>
    rw [List.length_map, List.take_of_length_le (by rw [List.length_map]; exact Nat.le_refl _)] at e
    subst e
    intro p2 hp2
    have g3 := g.trans (Gr.new (o := .lst ((xs.map (·.f)).map .str)) hp2)
    have e3 : updS S' p2 (.lst ((xs.map (·.f)).map .str)) p2 = some (.lst ((xs.map (·.f)).map .str)) := updS_same
    generalize updS S' p2 (.lst ((xs.map (·.f)).map .str)) = S3 at g3 e3
    refine ⟨_, g3 _ _ e1, _, e3, ?_, fun n hn => ?_⟩
    · rw [List.length_map, List.length_map]
      exact small_line (by simp; omega)
    rw [updS_same, oIn_l]
    have ev : flatD v = true := by rcases hv with ⟨rfl, _⟩ | ⟨z, _, rfl⟩ <;> rfl
    have ea : ([D.non] ++ (xs.map (·.f)).map D.str).all flatD = true := by
      rw [List.all_eq_true]
      intro y hy
      rcases List.mem_append.mp hy with hy | hy
      · rw [List.mem_singleton] at hy; subst hy; rfl
      · obtain ⟨z, _, rfl⟩ := List.mem_map.mp hy; rfl
    have en : ([D.non] ++ (xs.map (·.f)).map D.str).any (fun z => eqF z v) = inLay xs v := by
      rcases hv with ⟨rfl, _⟩ | ⟨z, hz, rfl⟩
      · rfl
      · show (false || ((xs.map (·.f)).map D.str).any fun y => eqF y (.str z)) = decide (z ∈ xs.map (·.f))
        rw [Bool.false_or, List.any_map, Bool.eq_iff_iff, List.any_eq_true, decide_eq_true_eq]
        constructor
        · rintro ⟨y, hy, e⟩
          have e : (y == z) = true := e
          rw [← eq_of_beq e]
          exact hy
        · intro hm
          exact ⟨z, hm, by show (z == z) = true; exact beq_self_eq_true z⟩
    refine ⟨ev, ea, ?_⟩
    rw [en]
    exact q v _ hv ((g1.trans g3).trans (.new hn))
/-- a row of a field that isn't there -/
theorem row_in_strange {r : Ro} {xs : List Fd} (hr : r.ok) (hw : r.w ∈ three) (hF : FIn (· ∉ xs.map (·.f)) r.w r.R) (h8 : xs.length ≤ 8) {S : Sto} {Q : DK} (q : ∀ S', Gr S S' → Q .non S') : m_row_in [.tup (xs.map Fd.D), r.R] S Q := by
  rw [e_row_in]
  refine seq_i ?_
  simp_all_arith! []
  refine row_of_self hr fun S1 g1 => ?_
  simp_all_arith! [t_row_in_5]
  refine seq_i ?_
  simp_all_arith! []
  refine is_row_of_gen hr.row hF h8 fun v S2 hv g2 => ?_
  have e : inLay xs v = false := by
    rcases hv with ⟨_, h3⟩ | ⟨z, hz, rfl⟩
    · exact absurd hw h3
    · exact decide_eq_false hz
  rw [e]
  simp_all_arith! [t_row_in_7]
  exact q _ (g1.trans g2)
/-- what makes no row -/
theorem row_in_bad {P X : D} {S : Sto} {Q : DK} (hX : ∀ (Q : DK) (E : EK), (∀ S', Gr S S' → E "NoRow" S') → m_row_of [X] S Q E) (q : ∀ S', Gr S S' → Q .non S') : m_row_in [P, X] S Q := by
  rw [e_row_in]
  refine seq_i ?_
  simp_all_arith! []
  refine hX _ _ fun S1 g1 => ?_
  simp_all_arith! []
  exact q _ g1
end LW
namespace LW
open PySem L2 DL
/-- no list, whatever the store -/
def noL (x : D) : Prop := ∃ ty, (∀ S, tyD x S = some ty) ∧ ty ≠ "list"
theorem Fd.okT {x : Fd} (h : x.ok) {S : Sto} : OkT S x.D := .tup (by simp) (List.forall_mem_cons.mpr ⟨h.hf.okT, List.forall_mem_cons.mpr ⟨h.hh.okT, List.forall_mem_cons.mpr ⟨okT_int _, List.forall_mem_cons.mpr ⟨okT_int _, fun _ z => nomatch z⟩⟩⟩⟩)
end LW
namespace LW
open PySem L2 DL
theorem turned_spec {p pc : Addr} {b : Nat} {items : List D} {S : Sto} {Q : DK} (h : Pen S p pc b) (hb : b + 100 ≤ 100000) (hl : items.length ≤ 6)
    (q : ∀ c Y S', S' c = some (.lst Y) → Y.Perm items → S c = none → Pen S' p pc (b + 6) → Kp p S S' → Q (.ref c) S') : m_wturned [.ref p, .tup items] S Q := by
  rw [e_wturned]
  refine seq_i ?_
  simp_all_arith! []
  intro l hll
  have nl := h.ne hll
  have p1 := h.new (o := .lst items) hll
  have g1 : Kp p S (updS S l (.lst items)) := .new hll
  have l1 : updS S l (.lst items) l = some (.lst items) := updS_same
  generalize updS S l (.lst items) = S1 at p1 g1 l1
  simp_all_arith! [t_wturned_2]
  refine ⟨by omega, by omega, ?_⟩
  rw [Int.toNat_natCast]
  refine lcL_inv _ (fun i acc S' => Pen S' p pc (b + i) ∧ Kp p S S' ∧ acc.length = i ∧ ∃ left : List D, S' l = some (.lst left) ∧ left.length = items.length - i ∧ (acc ++ left).Perm items) (fun _ _ _ _ => trivial) (fun i x acc S6 N hx hI hN => ?el) (fun acc S6 hI => ?af) ⟨p1, g1, rfl, items, l1, rfl, .refl _⟩
  case el =>
    obtain ⟨p6, g6, hyl, left, ll, hll2, hpm⟩ := hI
    have hi := (List.getElem?_eq_some_iff.mp hx).1
    rw [rangeD_len] at hi
    simp_all_arith! [c_wturned_2, ll]
    refine take_spec p6 (by omega) (by omega) (log_small (by omega) (by omega)) fun j S7 a7 b7 p7 g7 => ?_
    have ll7 := g7 _ _ nl.1 ll
    obtain ⟨k, rfl⟩ : ∃ k : Nat, j = (k : Nat) := ⟨j.toNat, by omega⟩
    have hk : k < left.length := by omega
    rw [gPopAt_r]
    have hg : left[k]? = some left[k] := by simp [hk]
    have hyz : acc.length < sizeLine := by rw [hyl]; exact Nat.lt_of_lt_of_le (show i < 401 by omega) (by decide)
    refine ⟨left, k, left[k], ll7, by omega, by omega, (ixN_seq (ixN_of hk)).1, hg, hyz, hN _ _ ⟨?_, fun y o hy e2 => by rw [updS_ne (neS e2 hll)]; exact g7 y o hy (g6 y o hy e2), by rw [List.length_append, hyl]; rfl, left.eraseIdx k, updS_same, by rw [List.length_eraseIdx_of_lt hk]; omega, ?_⟩⟩
    rotate_left
    · rw [List.append_assoc]
      exact ((pop_perm left k hk).append_left acc).trans hpm
    obtain ⟨ns, y, l2, e1, e3, e4⟩ := p7.ex
    exact ⟨ns, y, l2, by rw [updS_ne (Ne.symm nl.1)]; exact e1, by rw [updS_ne (Ne.symm nl.2)]; exact e3, e4⟩
  case af =>
    obtain ⟨p6, g6, hyl, left, ll, hll2, hpm⟩ := hI
    rw [rangeD_len] at p6 hyl hll2
    intro c hc
    have hL : left = [] := List.eq_nil_of_length_eq_zero (by omega)
    subst hL
    rw [List.append_nil] at hpm
    exact q c acc _ updS_same hpm (by
      by_cases e : S c = none
      · exact e
      · obtain ⟨o, ho⟩ := Option.ne_none_iff_exists'.mp e
        by_cases hcp : c = p
        · subst hcp
          exact absurd rfl (p6.ne hc).1
        · rw [g6 _ _ hcp ho] at hc
          cases hc) ((p6.new hc).mono (by omega)) (g6.trans (.new hc))
/-! ### listed -/
theorem th_smL {S : Sto} {y t : D} (h : thD t) (hl : Lo S y t) : Sm S 1 27 y := by
  cases hl with
  | same =>
    rcases h with h | ⟨ts, rfl, h3, hx⟩
    · exact leaf_sm h (by decide)
    · exact sm_tup (k := 0) (n := 3) (m := 8) (fun x hm => leaf_sm (hx x hm) (Nat.le_refl _)) h3
  | lst e =>
    rcases h with h | ⟨ts, e2, h3, hx⟩
    · rcases h with ⟨z, _, e2⟩ | ⟨i, _, _, e2⟩ <;> cases e2
    · cases e2
      exact sm_lst (k := 0) (n := 3) (m := 8) e (fun x hm => leaf_sm (hx x hm) (Nat.le_refl _)) h3
/-- an item as handed in: fresh where it is a list -/
inductive It (S0 S : Sto) : D → D → Prop
  | leaf {x : D} (h : leafD x) : It S0 S x x
  | tup {y : D} {O ys ts : List D} (hc : Con S y ys) (hl : Los S ys ts) (hp : ts.Perm O) (hO : ∀ t ∈ O, thD t) (h6 : O.length ≤ 6) (hf : ∀ a, y = .ref a → S0 a = none) : It S0 S y (.tup O)
theorem It.gr {S0 S S' : Sto} (g : Gr S S') {y x : D} (h : It S0 S y x) : It S0 S' y x := by
  cases h with
  | leaf h => exact .leaf h
  | tup hc hl hp hO h6 hf => exact .tup (hc.gr g) (hl.gr g) hp hO h6 hf
inductive Its (S0 S : Sto) : List D → List D → Prop
  | nil : Its S0 S [] []
  | cons {y x : D} {ys xs : List D} (h : It S0 S y x) (r : Its S0 S ys xs) : Its S0 S (y :: ys) (x :: xs)
theorem Its.gr {S0 S S' : Sto} (g : Gr S S') : ∀ {ys xs : List D}, Its S0 S ys xs → Its S0 S' ys xs
  | _, _, .nil => .nil
  | _, _, .cons h r => .cons (h.gr g) (r.gr g)
theorem Its.add {S0 S : Sto} {y x : D} (h : It S0 S y x) : ∀ {ys xs : List D}, Its S0 S ys xs → Its S0 S (ys ++ [y]) (xs ++ [x])
  | _, _, .nil => .cons h .nil
  | _, _, .cons a r => .cons a (r.add h)
theorem los_sm {S : Sto} : ∀ {ys ts : List D}, Los S ys ts → (∀ t ∈ ts, thD t) → ∀ y ∈ ys, Sm S 1 27 y
  | _, _, .nil, _, y, hy => by cases hy
  | _, _, .cons h r, ht, y, hy => by
    rcases List.mem_cons.mp hy with rfl | hy
    · exact th_smL (ht _ (List.mem_cons_self ..)) h
    · exact los_sm r (fun t hm => ht t (List.mem_cons_of_mem _ hm)) y hy
theorem It.sm {S0 S : Sto} {y x : D} (h : It S0 S y x) : Sm S 2 168 y := by
  cases h with
  | leaf h => exact leaf_sm h (by decide)
  | tup hc hl hp hO h6 hf =>
    have h1 := los_sm hl fun t hm => hO t (hp.mem_iff.mp hm)
    have h2 := hl.len.trans hp.length_eq
    rcases hc with rfl | ⟨c, rfl, e⟩
    · exact sm_tup (k := 1) (n := 6) (m := 27) h1 (by omega)
    · exact sm_lst (k := 1) (n := 6) (m := 27) e h1 (by omega)
theorem Its.sm {S0 S : Sto} : ∀ {ys xs : List D}, Its S0 S ys xs → ∀ y ∈ ys, Sm S 2 168 y
  | _, _, .nil, y, hy => by cases hy
  | _, _, .cons h r, y, hy => by
    rcases List.mem_cons.mp hy with rfl | hy
    · exact h.sm
    · exact r.sm y hy
theorem Its.fresh {S0 S : Sto} : ∀ {ys xs : List D}, Its S0 S ys xs → ∀ a, D.ref a ∈ ys → S0 a = none
  | _, _, .nil, y, hy => by cases hy
  | _, _, .cons h r, a, hy => by
    rcases List.mem_cons.mp hy with e | hy
    · cases h with
      | leaf h => rcases h with ⟨z, _, e2⟩ | ⟨i, _, _, e2⟩ <;> (subst e2; cases e)
      | tup hc hl hp hO h6 hf => exact hf a e.symm
    · exact r.fresh a hy
end LW
namespace LW
open PySem L2 DL
/-- the store but p and f -/
def mk2 (p f : Addr) (S : Sto) : Sto := fun a => if a = p ∨ a = f then none else S a
theorem mk2_at {p f a : Addr} {S : Sto} {o : O} (h1 : a ≠ p) (h2 : a ≠ f) (e : S a = some o) : mk2 p f S a = some o := by
  unfold mk2
  rw [if_neg (fun h => h.elim h1 h2)]
  exact e
theorem mk2_ne {p f a : Addr} {S : Sto} {o : O} (e : mk2 p f S a = some o) : a ≠ p ∧ a ≠ f ∧ S a = some o := by
  unfold mk2 at e
  split at e
  · cases e
  · rename_i h
    exact ⟨fun x => h (.inl x), fun x => h (.inr x), e⟩
theorem mk2_gr {p f : Addr} {S : Sto} : Gr (mk2 p f S) S := fun a o e => (mk2_ne e).2.2
theorem mk2_pp {p f : Addr} {S : Sto} : Gr (mk2 p f S) (mk2 p p S) := fun a o e => mk2_at (mk2_ne e).1 (mk2_ne e).1 (mk2_ne e).2.2
theorem Kp.mk2 {p f : Addr} {S S' : Sto} (k : Kp p S S') : Gr (mk2 p f S) (mk2 p f S') := fun a o e => by
  obtain ⟨h1, h2, e⟩ := mk2_ne e
  exact mk2_at h1 h2 (k a o h1 e)
theorem mk2_put {p f : Addr} {S : Sto} {o : O} : Gr (LW.mk2 p f S) (LW.mk2 p f (updS S f o)) := fun a u e => by
  obtain ⟨h1, h2, e⟩ := mk2_ne e
  exact mk2_at h1 h2 (by rw [updS_ne h2]; exact e)
theorem Pen.put2 {p pc f : Addr} {S : Sto} {o : O} {b : Nat} (h : Pen S p pc b) (h1 : f ≠ p) (h2 : f ≠ pc) : Pen (updS S f o) p pc b := by
  obtain ⟨ns, y, l2, e1, e3, e4⟩ := h.ex
  exact ⟨ns, y, l2, by rw [updS_ne (Ne.symm h1)]; exact e1, by rw [updS_ne (Ne.symm h2)]; exact e3, e4⟩
theorem Los.add {S : Sto} {y t : D} (h : Lo S y t) : ∀ {ys ts : List D}, Los S ys ts → Los S (ys ++ [y]) (ts ++ [t])
  | _, _, .nil => .cons h .nil
  | _, _, .cons a r => .cons a (r.add h)
theorem wl5 {p pc f c : Addr} {b i : Nat} {R : D} {u5 : Option D} {S : Sto} {D0 : DEnds} {L Y : List D} (h : Pen S p pc b) (hb : b + 100 ≤ 100000) (ef : S f = some (.lst L)) (hfp : f ≠ p) (hfc : f ≠ pc) (hi : i < L.length)
    (ec : S c = some (.lst Y)) (hcp : c ≠ p) (hcf : c ≠ f) (hY : ∀ t ∈ Y, thD t) (h6 : Y.length ≤ 6)
    (q : ∀ y ys u4 u5 S', Con (mk2 p f S') y ys → Los (mk2 p f S') ys Y → (∀ a, y = .ref a → S a = none) → S' f = some (.lst (L.set i y)) → Pen S' p pc (b + 10) → Gr (mk2 p f S) (mk2 p f S') → D0.nx [some (.ref p), some R, some (.ref f), some (.int (i : Nat)), u4, u5] S') :
    t_wlisted_5 D0 [some (.ref p), some R, some (.ref f), some (.int (i : Nat)), some (.ref c), u5] S := by
  refine seq_i ?_
  simp_all_arith! []
  refine ⟨_, ec, ?_⟩
  refine lcL_inv _ (fun i acc S' => Pen S' p pc (b + i) ∧ Kp p S S' ∧ Los (mk2 p f S') acc (Y.take i)) (fun i acc S' hI => hI.2.1 _ _ hcp ec) (fun i x acc S6 N hx hI hN => ?el) (fun acc S6 hI => ?af) ⟨h, .refl, .nil⟩
  case el =>
    obtain ⟨p6, g6, hl⟩ := hI
    have hi := (List.getElem?_eq_some_iff.mp hx).1
    simp_all_arith! [c_wlisted_5]
    have hyz : acc.length < sizeLine := by
      have := hl.len
      rw [List.length_take] at this
      exact Nat.lt_of_lt_of_le (show acc.length < 401 by omega) (by decide)
    have nx : ∀ y S7, Lo (mk2 p f S7) y x → Pen S7 p pc (b + (i + 1)) → Kp p S6 S7 → N (acc ++ [y]) S7 := fun y S7 hy p7 g7 => hN _ _ ⟨p7, g6.trans g7, by
      rw [List.take_add_one, hx]
      exact (hl.gr g7.mk2).add hy⟩
    rcases hY x (List.mem_of_getElem? hx) with hx' | ⟨ts, rfl, h3, hx'⟩
    · have e : ∃ t, tyD x S6 = some t ∧ (t == "tuple") = false := by rcases hx' with ⟨z, _, rfl⟩ | ⟨j, _, _, rfl⟩ <;> exact ⟨_, rfl, by decide⟩
      obtain ⟨t, e1, e2⟩ := e
      refine ⟨t, e1, ?_⟩
      rw [e2, if_neg (by decide)]
      exact ⟨hyz, nx _ _ (.same _) (p6.mono (by omega)) .refl⟩
    · refine ⟨_, rfl, ?_⟩
      rw [if_pos (by rfl)]
      refine take_spec p6 (by omega) (by decide) (by decide) fun k S7 a7 b7 p7 g7 => ?_
      simp_all_arith! []
      split
      · intro c2 hc2
        have n2 := p7.ne hc2
        exact ⟨hyz, nx _ _ (.lst (mk2_at n2.1 (fun e => by
          subst e
          rw [g7 _ _ hfp (g6 _ _ hfp ef)] at hc2
          cases hc2) updS_same)) ((p7.new hc2).mono (by omega)) (g7.trans (.new hc2))⟩
      · exact ⟨hyz, nx _ _ (.same _) (p7.mono (by omega)) g7⟩
  case af =>
    obtain ⟨p6, g6, hl⟩ := hI
    intro c2 hc2
    simp_all_arith! [t_wlisted_6]
    have e2 : updS S6 c2 (.lst acc) c2 = some (.lst acc) := updS_same
    have n2 := p6.ne hc2
    have gA : Kp p S6 (updS S6 c2 (.lst acc)) := .new hc2
    have pA := p6.new (o := .lst acc) hc2
    generalize updS S6 c2 (.lst acc) = SA at e2 gA pA
    refine ⟨_, e2, by decide, fun c3 hc3 => ?_⟩
    have n3 := pA.ne hc3
    have e3 : updS SA c3 (.lst [.ref c2, .tup acc]) c3 = some (.lst [.ref c2, .tup acc]) := updS_same
    have gB : Kp p SA (updS SA c3 (.lst [.ref c2, .tup acc])) := .new hc3
    have pB := pA.new (o := .lst [.ref c2, .tup acc]) hc3
    generalize updS SA c3 (.lst [.ref c2, .tup acc]) = SB at e3 gB pB
    refine take_spec pB (by omega) (by decide) (by decide) fun k S7 a7 b7 p7 g7 => ?_
    rw [g7 _ _ n3.1 e3, oIx_li]
    have gS := g6.trans (gA.trans (gB.trans g7))
    have ef7 := gS _ _ hfp ef
    have hcf2 : c2 ≠ f := fun e => by
      subst e
      rw [g6 _ _ hfp ef] at hc2
      cases hc2
    have ec7 : S7 c2 = some (.lst acc) := g7 _ _ n2.1 (gB _ _ n2.1 e2)
    rw [List.take_length] at hl
    have fin : ∀ y, Con (mk2 p f (updS S7 f (.lst (L.set i y)))) y acc → (∀ a, y = .ref a → S a = none) → D0.nx [some (.ref p), some R, some (.ref f), some (.int (i : Nat)), some (.ref c2), u5] (updS S7 f (.lst (L.set i y))) := fun y hc hf =>
      q y acc _ _ _ hc (hl.gr ((gA.trans (gB.trans g7)).mk2.trans mk2_put)) hf updS_same ((p7.put2 hfp hfc).mono (by omega)) (gS.mk2.trans mk2_put)
    obtain ⟨j, rfl⟩ : ∃ j : Nat, k = (j : Nat) := ⟨k.toNat, by omega⟩
    have hput : ∀ y, D0.nx [some (.ref p), some R, some (.ref f), some (.int (i : Nat)), some (.ref c2), u5] (updS S7 f (.lst (L.set i y))) → oPut (S7 f) f (D.int (i : Nat)) y S7 (D0.nx [some (.ref p), some R, some (.ref f), some (.int (i : Nat)), some (.ref c2), u5]) := by
      intro y hq
      rw [ef7, oPut_l]
      exact ⟨i, ixN_of hi, hq⟩
    match j, b7 with
    | 0, _ =>
      refine ⟨.ref c2, rfl, ?_⟩
      refine hput _ (fin _ (.inr ⟨c2, rfl, mk2_at n2.1 hcf2 (by rw [updS_ne hcf2]; exact ec7)⟩) fun a e => by
        cases e
        by_cases e : S c2 = none
        · exact e
        · obtain ⟨o, ho⟩ := Option.ne_none_iff_exists'.mp e
          rw [g6 _ _ n2.1 ho] at hc2
          cases hc2)
    | 1, _ =>
      refine ⟨.tup acc, rfl, ?_⟩
      refine hput _ (fin _ (.inl rfl) fun a e => by cases e)
    | j + 2, h => exact absurd h (by omega)
theorem set_mid {F : List D} {i : Nat} {x y : D} {r : List D} (h : F.length = i) : (F ++ x :: r).set i y = F ++ y :: r := by
  subst h
  induction F with
  | nil => rfl
  | cons a F ih => exact congrArg (a :: ·) ih
theorem Its.nof {S0 S : Sto} {p f : Addr} : ∀ {ys xs : List D}, Its S0 (mk2 p f S) ys xs → D.ref f ∉ ys
  | _, _, .nil, hm => by cases hm
  | _, _, .cons h r, hm => by
    rcases List.mem_cons.mp hm with e | hm
    · cases h with
      | leaf h => rcases h with ⟨z, _, e2⟩ | ⟨i, _, _, e2⟩ <;> (subst e2; cases e)
      | tup hc hl hp hO h6 hf =>
        subst e
        rcases hc with e | ⟨c, e, e2⟩
        · cases e
        · cases e
          exact (mk2_ne e2).2.1 rfl
    · exact r.nof hm
theorem wlisted_spec {p pc : Addr} {b : Nat} {items : List D} {S : Sto} {Q : DK} (h : Pen S p pc b) (hb : b + 300 ≤ 100000) (hI : ∀ x ∈ items, itemD x) (hl : items.length ≤ 7)
    (q : ∀ X L S', Con (mk2 p p S') X L → (∀ a, X = .ref a → S a = none ∧ .ref a ∉ L) → Its S (mk2 p p S') L items → Pen S' p pc (b + 150) → Kp p S S' → Q X S') : m_wlisted [.ref p, .tup items] S Q := by
  rw [e_wlisted]
  refine seq_i ?_
  simp_all_arith! []
  intro f hf
  have nf := h.ne hf
  have p1 := h.new (o := .lst items) hf
  have g1 : Kp p S (updS S f (.lst items)) := .new hf
  have l1 : updS S f (.lst items) f = some (.lst items) := updS_same
  generalize updS S f (.lst items) = S1 at p1 g1 l1
  simp_all_arith! [t_wlisted_2]
  refine seq_i ?_
  simp_all_arith! []
  refine ⟨by omega, by omega, ?_⟩
  rw [Int.toNat_natCast]
  have kp_of : ∀ S', Kp p S S1 → Gr (mk2 p f S1) (mk2 p f S') → Kp p S S' := fun S' k g a o hn e => by
    have hne : a ≠ f := fun x => by subst x; rw [hf] at e; cases e
    exact (mk2_ne (g _ _ (mk2_at hn hne (k a o hn e)))).2.2
  have fr : ∀ S', Kp p S S' → ∀ c, c ≠ p → S' c = none → S c = none := fun S' k c hcp e => by
    by_cases e2 : S c = none
    · exact e2
    · obtain ⟨o, ho⟩ := Option.ne_none_iff_exists'.mp e2
      rw [k _ _ hcp ho] at e
      cases e
  refine forR_inv 0 items.length (fun i σ S' => (∃ u4 u5, ∃ u3, σ = [some (.ref p), some (.tup items), some (.ref f), u3, u4, u5]) ∧ Pen S' p pc (b + 20 * i) ∧ Gr (mk2 p f S1) (mk2 p f S') ∧ ∃ F, S' f = some (.lst (F ++ items.drop i)) ∧ F.length = i ∧ Its S (mk2 p f S') F (items.take i))
    (fun _ _ _ _ => trivial) (fun i σ S' N hi hJ hN => ?turn) (fun σ S' hJ => ?fin) ⟨⟨_, _, _, rfl⟩, p1, .refl, [], l1, rfl, .nil⟩
  case turn =>
    obtain ⟨⟨u4, u5, u3, rfl⟩, p6, g6, F, eF, hF, hIt⟩ := hJ
    have hi' : i < items.length := by omega
    have hx : items[i]? = some items[i] := List.getElem?_eq_getElem hi'
    generalize items[i] = x at hx
    have e0 : (0 : Int) + (i : Nat) = (i : Nat) := by omega
    have hd : items.drop i = x :: items.drop (i + 1) := by
      rw [List.drop_eq_getElem_cons hi']
      rw [List.getElem?_eq_getElem hi'] at hx
      injection hx with hx
      rw [hx]
    have ht : items.take (i + 1) = items.take i ++ [x] := by rw [List.take_add_one, hx]; rfl
    have pl : i < (F ++ items.drop i).length := by rw [List.length_append, List.length_drop]; omega
    simp_all_arith! [l_wlisted_2]
    rw [e0]
    refine ⟨x, atI_nat hx, ?_⟩
    rcases hI x (List.mem_of_getElem? hx) with hx' | ⟨O, rfl, h3, hx'⟩
    · have e : ∃ t, tyD x S' = some t ∧ (t == "tuple") = false := by rcases hx' with ⟨z, _, rfl⟩ | ⟨j, _, _, rfl⟩ <;> exact ⟨_, rfl, by decide⟩
      obtain ⟨t, e1, e2⟩ := e
      refine ⟨t, e1, ?_⟩
      rw [e2, if_neg (by decide)]
      exact hN _ _ ⟨⟨_, _, _, rfl⟩, p6.mono (by omega), g6, F ++ [x], by rw [eF, hd, List.append_assoc]; rfl, by rw [List.length_append, hF]; rfl, by rw [ht]; exact hIt.add (.leaf hx')⟩
    · refine ⟨_, rfl, ?_⟩
      rw [if_pos (by rfl)]
      refine seq_i ?_
      simp_all_arith! []
      refine ⟨_, atI_nat hx, ?_⟩
      refine turned_spec p6 (by omega) h3 fun c Y S7 ec hp hc p7 g7 => ?_
      have g6' := kp_of _ g1 g6
      have nc := p6.ne hc
      have ncf : c ≠ f := fun e => by
        subst e
        rw [eF] at hc
        cases hc
      refine wl5 (L := F ++ items.drop i) (Y := Y) p7 (by omega) (g7 _ _ nf.1 eF) nf.1 nf.2 pl ec nc.1 ncf (fun t ht => hx' t (hp.mem_iff.mp ht)) (by rw [hp.length_eq]; exact h3) fun y ys u4 u5 S8 hC hL hf8 e8 p8 g8 => ?_
      refine hN _ _ ⟨⟨_, _, _, rfl⟩, p8.mono (by omega), g6.trans (g7.mk2.trans g8), F ++ [y], ?_, by rw [List.length_append, hF]; rfl, ?_⟩
      · rw [e8, hd, List.append_assoc]
        exact congrArg (fun l => some (DL.O.lst l)) (set_mid hF)
      · rw [ht]
        exact (hIt.gr (g7.mk2.trans g8)).add (.tup hC hL hp hx' h3 fun a e => fr _ (g6'.trans g7) a (p7.ne (hf8 a e)).1 (hf8 a e))
  case fin =>
    obtain ⟨⟨u4, u5, u3, rfl⟩, p6, g6, F, eF, hF, hIt⟩ := hJ
    simp_all_arith! [t_wlisted_7]
    rw [List.drop_length, List.append_nil] at eF
    rw [List.take_length] at hIt
    have g0 := kp_of _ g1 g6
    refine ⟨_, eF, by decide, fun c3 hc3 => ?_⟩
    have n3 := p6.ne hc3
    have e3 : updS S' c3 (.lst [.ref f, .tup F]) c3 = some (.lst [.ref f, .tup F]) := updS_same
    have gB : Kp p S' (updS S' c3 (.lst [.ref f, .tup F])) := .new hc3
    have pB := p6.new (o := .lst [.ref f, .tup F]) hc3
    generalize updS S' c3 (.lst [.ref f, .tup F]) = SB at e3 gB pB
    refine take_spec pB (by omega) (by decide) (by decide) fun k S7 a7 b7 p7 g7 => ?_
    rw [g7 _ _ n3.1 e3, oIx_li]
    have gS := g0.trans (gB.trans g7)
    have ef7 := (gB.trans g7) _ _ nf.1 eF
    have hI7 := (hIt.gr (gB.trans g7).mk2).gr mk2_pp
    obtain ⟨j, rfl⟩ : ∃ j : Nat, k = (j : Nat) := ⟨k.toNat, by omega⟩
    match j, b7 with
    | 0, _ => exact ⟨.ref f, rfl, q _ F _ (.inr ⟨f, rfl, mk2_at nf.1 nf.1 ef7⟩) (fun a e => by cases e; exact ⟨hf, fun hm => hIt.nof hm⟩) hI7 (p7.mono (by omega)) gS⟩
    | 1, _ => exact ⟨.tup F, rfl, q _ F _ (.inl rfl) (fun a e => by cases e) hI7 (p7.mono (by omega)) gS⟩
    | j + 2, h => exact absurd h (by omega)
end LW
namespace LW
open PySem L2 DL
theorem it_leaf {S0 S : Sto} {y x : D} (h : It S0 S y x) (hx : plD x = true) (hn : ∀ O, x ≠ .tup O) : y = x := by
  cases h with
  | leaf h => rfl
  | tup hc hl hp hO h6 hf => exact absurd rfl (hn _)
theorem it_s {S0 S : Sto} {y : D} {z : Str} (h : It S0 S y (.str z)) : y = .str z := it_leaf h rfl fun O e => by cases e
theorem it_i {S0 S : Sto} {y : D} {z : Int} (h : It S0 S y (.int z)) : y = .int z := it_leaf h rfl fun O e => by cases e
theorem it_t {S0 S : Sto} {y : D} {O : List D} (h : It S0 S y (.tup O)) : ∃ ys ts, Con S y ys ∧ Los S ys ts ∧ ts.Perm O := by
  cases h with
  | leaf h => rcases h with ⟨z, _, e2⟩ | ⟨i, _, _, e2⟩ <;> cases e2
  | tup hc hl hp hO h6 hf => exact ⟨_, _, hc, hl, hp⟩
theorem its_cons {S0 S : Sto} {L : List D} {x : D} {xs : List D} (h : Its S0 S L (x :: xs)) : ∃ y ys, L = y :: ys ∧ It S0 S y x ∧ Its S0 S ys xs := by
  cases h with
  | cons h r => exact ⟨_, _, rfl, h, r⟩
theorem its_nil {S0 S : Sto} {L : List D} (h : Its S0 S L []) : L = [] := by
  cases h; rfl
theorem its_row {n w : Str} {d : Int} {S0 S : Sto} {R : D} {L items : List D} (h : RowOk n d w R) (e : R = .tup items) (hI : Its S0 S L items) : RowL S n d w R L := by
  cases h with
  | @part la ps hl h2 h6 hr hp =>
    cases e
    obtain ⟨y0, r0, rfl, i0, hI⟩ := its_cons hI
    obtain ⟨y1, r1, rfl, i1, hI⟩ := its_cons hI
    obtain ⟨y2, r2, rfl, i2, hI⟩ := its_cons hI
    obtain ⟨y3, r3, rfl, i3, hI⟩ := its_cons hI
    obtain ⟨y4, r4, rfl, i4, hI⟩ := its_cons hI
    obtain ⟨ys, ts, a1, a2, a3⟩ := it_t i4
    rw [its_nil hI, it_s i0, it_s i1, it_i i2, it_s i3]
    exact .part a1 a2 a3
  | @join ls la h2 h6 hr hp hl =>
    cases e
    obtain ⟨y0, r0, rfl, i0, hI⟩ := its_cons hI
    obtain ⟨y1, r1, rfl, i1, hI⟩ := its_cons hI
    obtain ⟨y2, r2, rfl, i2, hI⟩ := its_cons hI
    obtain ⟨y3, r3, rfl, i3, hI⟩ := its_cons hI
    obtain ⟨y4, r4, rfl, i4, hI⟩ := its_cons hI
    obtain ⟨ys, ts, a1, a2, a3⟩ := it_t i3
    rw [its_nil hI, it_s i0, it_s i1, it_i i2, it_s i4]
    exact .join a1 a2 a3
  | forfeit hl hh =>
    cases e
    obtain ⟨y0, r0, rfl, i0, hI⟩ := its_cons hI
    obtain ⟨y1, r1, rfl, i1, hI⟩ := its_cons hI
    obtain ⟨y2, r2, rfl, i2, hI⟩ := its_cons hI
    obtain ⟨y3, r3, rfl, i3, hI⟩ := its_cons hI
    obtain ⟨y4, r4, rfl, i4, hI⟩ := its_cons hI
    rw [its_nil hI, it_s i0, it_s i1, it_i i2, it_s i3, it_s i4]
    exact .oth (by decide +kernel) (by decide +kernel)
  | measure hf a0 a1 =>
    cases e
    obtain ⟨y0, r0, rfl, i0, hI⟩ := its_cons hI
    obtain ⟨y1, r1, rfl, i1, hI⟩ := its_cons hI
    obtain ⟨y2, r2, rfl, i2, hI⟩ := its_cons hI
    obtain ⟨y3, r3, rfl, i3, hI⟩ := its_cons hI
    obtain ⟨y4, r4, rfl, i4, hI⟩ := its_cons hI
    rw [its_nil hI, it_s i0, it_s i1, it_i i2, it_s i3, it_i i4]
    exact .oth (by decide +kernel) (by decide +kernel)
  | mend hh hg ne =>
    cases e
    obtain ⟨y0, r0, rfl, i0, hI⟩ := its_cons hI
    obtain ⟨y1, r1, rfl, i1, hI⟩ := its_cons hI
    obtain ⟨y2, r2, rfl, i2, hI⟩ := its_cons hI
    obtain ⟨y3, r3, rfl, i3, hI⟩ := its_cons hI
    obtain ⟨y4, r4, rfl, i4, hI⟩ := its_cons hI
    rw [its_nil hI, it_s i0, it_s i1, it_i i2, it_s i3, it_s i4]
    exact .oth (by decide +kernel) (by decide +kernel)
  | alone hh =>
    cases e
    obtain ⟨y0, r0, rfl, i0, hI⟩ := its_cons hI
    obtain ⟨y1, r1, rfl, i1, hI⟩ := its_cons hI
    obtain ⟨y2, r2, rfl, i2, hI⟩ := its_cons hI
    obtain ⟨y3, r3, rfl, i3, hI⟩ := its_cons hI
    rw [its_nil hI, it_s i0, it_s i1, it_i i2, it_s i3]
    exact .oth (by decide +kernel) (by decide +kernel)
  | breach hf a0 a1 c0 c1 s0 s1 =>
    cases e
    obtain ⟨y0, r0, rfl, i0, hI⟩ := its_cons hI
    obtain ⟨y1, r1, rfl, i1, hI⟩ := its_cons hI
    obtain ⟨y2, r2, rfl, i2, hI⟩ := its_cons hI
    obtain ⟨y3, r3, rfl, i3, hI⟩ := its_cons hI
    obtain ⟨y4, r4, rfl, i4, hI⟩ := its_cons hI
    obtain ⟨y5, r5, rfl, i5, hI⟩ := its_cons hI
    obtain ⟨y6, r6, rfl, i6, hI⟩ := its_cons hI
    rw [its_nil hI, it_s i0, it_s i1, it_i i2, it_s i3, it_i i4, it_i i5, it_i i6]
    exact .oth (by decide +kernel) (by decide +kernel)
  | view hf a0 a1 hh =>
    cases e
    obtain ⟨y0, r0, rfl, i0, hI⟩ := its_cons hI
    obtain ⟨y1, r1, rfl, i1, hI⟩ := its_cons hI
    obtain ⟨y2, r2, rfl, i2, hI⟩ := its_cons hI
    obtain ⟨y3, r3, rfl, i3, hI⟩ := its_cons hI
    obtain ⟨y4, r4, rfl, i4, hI⟩ := its_cons hI
    obtain ⟨y5, r5, rfl, i5, hI⟩ := its_cons hI
    rw [its_nil hI, it_s i0, it_s i1, it_i i2, it_s i3, it_i i4, it_s i5]
    exact .oth (by decide +kernel) (by decide +kernel)
theorem its_self {S0 S : Sto} : ∀ {items : List D}, (∀ x ∈ items, itemD x) → Its S0 S items items
  | [], _ => .nil
  | x :: r, h => by
    have h2 := List.forall_mem_cons.mp h
    refine .cons ?_ (its_self h2.2)
    rcases h2.1 with hx | ⟨O, rfl, h3, hx⟩
    · exact .leaf hx
    · exact .tup (.inl rfl) los_self (.refl _) hx h3 fun a e => by cases e
theorem Its.len {S0 S : Sto} : ∀ {ys xs : List D}, Its S0 S ys xs → ys.length = xs.length
  | _, _, .nil => rfl
  | _, _, .cons _ r => by rw [List.length_cons, List.length_cons, r.len]
end LW
/-! classes of refusals -/
namespace LW
open PySem L2 DL
theorem gIsX_t {T : XTab} {c : Str} {ds : List D} {S : Sto} {Q : DK} : gIsX T [.exc c, .tup ds] S Q = ∃ l b, lookX T c = some l ∧ anyX l ds = some b ∧ Q (.bl b) S := rfl
theorem gIsX_c {T : XTab} {c c' : Str} {S : Sto} {Q : DK} : gIsX T [.exc c, .cls c'] S Q = ∃ l b, lookX T c = some l ∧ lookX l c' = some b ∧ Q (.bl b) S := rfl
theorem gIsX_v {T : XTab} {c : Str} {n : String} {S : Sto} {Q : DK} : gIsX T [.exc c, .ty n] S Q = ((lookX T c).isSome ∧ n = "ValueError" ∧ Q (.bl true) S) := rfl
theorem class_NoRow {S : Sto} {Q : DK} (q : ∀ S', Gr S S' → Q (.str "NoRow") S') : m_wclass [.exc "NoRow"] S Q := by
  rw [e_wclass]
  refine seq_i ?_
  simp_arith []
  refine ⟨by decide, fun p hp => ?_⟩
  have es : ∀ L, updS S p (.lst L) p = some (.lst L) := fun L => updS_same
  have gs : ∀ L, Gr S (updS S p (.lst L)) := fun L => Gr.new hp
  unfold t_wclass_2
  refine seq_i ?_
  simp_arith [gIsX_c]
  refine ⟨_, rfl, true, by decide +kernel, ?_⟩
  simp_arith [es, updS_updS]
  refine ⟨_, rfl, by decide, ?_⟩
  unfold t_wclass_4
  refine seq_i ?_
  simp_arith [gIsX_c]
  refine ⟨_, rfl, false, by decide +kernel, ?_⟩
  simp_arith []
  unfold t_wclass_6
  refine seq_i ?_
  simp_arith [gIsX_c]
  refine ⟨_, rfl, false, by decide +kernel, ?_⟩
  simp_arith []
  unfold t_wclass_8
  refine seq_i ?_
  simp_arith [gIsX_c]
  refine ⟨_, rfl, false, by decide +kernel, ?_⟩
  simp_arith []
  unfold t_wclass_10
  refine seq_i ?_
  simp_arith [gIsX_c]
  refine ⟨_, rfl, false, by decide +kernel, ?_⟩
  simp_arith []
  unfold t_wclass_12
  refine seq_i ?_
  simp_arith [gIsX_c]
  refine ⟨_, rfl, false, by decide +kernel, ?_⟩
  simp_arith []
  unfold t_wclass_14
  refine seq_i ?_
  simp_arith [gIsX_c]
  refine ⟨_, rfl, false, by decide +kernel, ?_⟩
  simp_arith []
  unfold t_wclass_16
  refine seq_i ?_
  simp_arith [gIsX_t]
  refine ⟨by decide, _, rfl, false, by decide +kernel, ?_⟩
  simp_arith [gIsX_v]
  refine ⟨rfl, ?_⟩
  unfold t_wclass_18
  refine seq_i ?_
  simp_arith [es]
  rw [if_neg (by decide)]
  unfold t_wclass_20
  refine ret_i ?_
  simp_arith [es]
  exact ⟨_, atI_nat (j := 0) rfl, q _ (gs _)⟩
theorem class_Twice {S : Sto} {Q : DK} (q : ∀ S', Gr S S' → Q (.str "Twice") S') : m_wclass [.exc "Twice"] S Q := by
  rw [e_wclass]
  refine seq_i ?_
  simp_arith []
  refine ⟨by decide, fun p hp => ?_⟩
  have es : ∀ L, updS S p (.lst L) p = some (.lst L) := fun L => updS_same
  have gs : ∀ L, Gr S (updS S p (.lst L)) := fun L => Gr.new hp
  unfold t_wclass_2
  refine seq_i ?_
  simp_arith [gIsX_c]
  refine ⟨_, rfl, false, by decide +kernel, ?_⟩
  simp_arith []
  unfold t_wclass_4
  refine seq_i ?_
  simp_arith [gIsX_c]
  refine ⟨_, rfl, false, by decide +kernel, ?_⟩
  simp_arith []
  unfold t_wclass_6
  refine seq_i ?_
  simp_arith [gIsX_c]
  refine ⟨_, rfl, false, by decide +kernel, ?_⟩
  simp_arith []
  unfold t_wclass_8
  refine seq_i ?_
  simp_arith [gIsX_c]
  refine ⟨_, rfl, true, by decide +kernel, ?_⟩
  simp_arith [es, updS_updS]
  refine ⟨_, rfl, by decide, ?_⟩
  unfold t_wclass_10
  refine seq_i ?_
  simp_arith [gIsX_c]
  refine ⟨_, rfl, false, by decide +kernel, ?_⟩
  simp_arith []
  unfold t_wclass_12
  refine seq_i ?_
  simp_arith [gIsX_c]
  refine ⟨_, rfl, false, by decide +kernel, ?_⟩
  simp_arith []
  unfold t_wclass_14
  refine seq_i ?_
  simp_arith [gIsX_c]
  refine ⟨_, rfl, false, by decide +kernel, ?_⟩
  simp_arith []
  unfold t_wclass_16
  refine seq_i ?_
  simp_arith [gIsX_t]
  refine ⟨by decide, _, rfl, false, by decide +kernel, ?_⟩
  simp_arith [gIsX_v]
  refine ⟨rfl, ?_⟩
  unfold t_wclass_18
  refine seq_i ?_
  simp_arith [es]
  rw [if_neg (by decide)]
  unfold t_wclass_20
  refine ret_i ?_
  simp_arith [es]
  exact ⟨_, atI_nat (j := 0) rfl, q _ (gs _)⟩
theorem class_TooMany {S : Sto} {Q : DK} (q : ∀ S', Gr S S' → Q (.str "TooMany") S') : m_wclass [.exc "TooMany"] S Q := by
  rw [e_wclass]
  refine seq_i ?_
  simp_arith []
  refine ⟨by decide, fun p hp => ?_⟩
  have es : ∀ L, updS S p (.lst L) p = some (.lst L) := fun L => updS_same
  have gs : ∀ L, Gr S (updS S p (.lst L)) := fun L => Gr.new hp
  unfold t_wclass_2
  refine seq_i ?_
  simp_arith [gIsX_c]
  refine ⟨_, rfl, false, by decide +kernel, ?_⟩
  simp_arith []
  unfold t_wclass_4
  refine seq_i ?_
  simp_arith [gIsX_c]
  refine ⟨_, rfl, false, by decide +kernel, ?_⟩
  simp_arith []
  unfold t_wclass_6
  refine seq_i ?_
  simp_arith [gIsX_c]
  refine ⟨_, rfl, false, by decide +kernel, ?_⟩
  simp_arith []
  unfold t_wclass_8
  refine seq_i ?_
  simp_arith [gIsX_c]
  refine ⟨_, rfl, false, by decide +kernel, ?_⟩
  simp_arith []
  unfold t_wclass_10
  refine seq_i ?_
  simp_arith [gIsX_c]
  refine ⟨_, rfl, true, by decide +kernel, ?_⟩
  simp_arith [es, updS_updS]
  refine ⟨_, rfl, by decide, ?_⟩
  unfold t_wclass_12
  refine seq_i ?_
  simp_arith [gIsX_c]
  refine ⟨_, rfl, false, by decide +kernel, ?_⟩
  simp_arith []
  unfold t_wclass_14
  refine seq_i ?_
  simp_arith [gIsX_c]
  refine ⟨_, rfl, false, by decide +kernel, ?_⟩
  simp_arith []
  unfold t_wclass_16
  refine seq_i ?_
  simp_arith [gIsX_t]
  refine ⟨by decide, _, rfl, false, by decide +kernel, ?_⟩
  simp_arith [gIsX_v]
  refine ⟨rfl, ?_⟩
  unfold t_wclass_18
  refine seq_i ?_
  simp_arith [es]
  rw [if_neg (by decide)]
  unfold t_wclass_20
  refine ret_i ?_
  simp_arith [es]
  exact ⟨_, atI_nat (j := 0) rfl, q _ (gs _)⟩
theorem class_NoName {S : Sto} {Q : DK} (q : ∀ S', Gr S S' → Q (.str "NoName") S') : m_wclass [.exc "NoName"] S Q := by
  rw [e_wclass]
  refine seq_i ?_
  simp_arith []
  refine ⟨by decide, fun p hp => ?_⟩
  have es : ∀ L, updS S p (.lst L) p = some (.lst L) := fun L => updS_same
  have gs : ∀ L, Gr S (updS S p (.lst L)) := fun L => Gr.new hp
  unfold t_wclass_2
  refine seq_i ?_
  simp_arith [gIsX_c]
  refine ⟨_, rfl, false, by decide +kernel, ?_⟩
  simp_arith []
  unfold t_wclass_4
  refine seq_i ?_
  simp_arith [gIsX_c]
  refine ⟨_, rfl, false, by decide +kernel, ?_⟩
  simp_arith []
  unfold t_wclass_6
  refine seq_i ?_
  simp_arith [gIsX_c]
  refine ⟨_, rfl, true, by decide +kernel, ?_⟩
  simp_arith [es, updS_updS]
  refine ⟨_, rfl, by decide, ?_⟩
  unfold t_wclass_8
  refine seq_i ?_
  simp_arith [gIsX_c]
  refine ⟨_, rfl, false, by decide +kernel, ?_⟩
  simp_arith []
  unfold t_wclass_10
  refine seq_i ?_
  simp_arith [gIsX_c]
  refine ⟨_, rfl, false, by decide +kernel, ?_⟩
  simp_arith []
  unfold t_wclass_12
  refine seq_i ?_
  simp_arith [gIsX_c]
  refine ⟨_, rfl, false, by decide +kernel, ?_⟩
  simp_arith []
  unfold t_wclass_14
  refine seq_i ?_
  simp_arith [gIsX_c]
  refine ⟨_, rfl, false, by decide +kernel, ?_⟩
  simp_arith []
  unfold t_wclass_16
  refine seq_i ?_
  simp_arith [gIsX_t]
  refine ⟨by decide, _, rfl, false, by decide +kernel, ?_⟩
  simp_arith [gIsX_v]
  refine ⟨rfl, ?_⟩
  unfold t_wclass_18
  refine seq_i ?_
  simp_arith [es]
  rw [if_neg (by decide)]
  unfold t_wclass_20
  refine ret_i ?_
  simp_arith [es]
  exact ⟨_, atI_nat (j := 0) rfl, q _ (gs _)⟩
theorem told_x {ask : ASK} {c : Str} {S : Sto} {Q : DK} (hc : c = "NoRow" ∨ c = "Twice" ∨ c = "TooMany" ∨ c = "NoName") (h : ∀ (Qd : DK) (Ed : EK), (∀ S', Gr S S' → Ed c S') → ask S Qd Ed) (q : ∀ r S', Gr S S' → S' r = some (.lst ([("refused" : Str), c].map .str)) → Q (.ref r) S') : m_wtold ask S Q := by
  rw [e_wtold]
  intro f
  unfold b_wtold gAskS
  simp_arith []
  refine h _ _ fun S1 g1 => ⟨by rcases hc with rfl | rfl | rfl | rfl <;> decide, ?_⟩
  unfold r_wtold
  refine seq_i ?_
  simp_arith []
  rw [if_neg (show ¬ (DL.isNon (D.exc c) = true) from fun z => Bool.noConfusion z)]
  unfold t_wtold_9
  refine ret_i ?_
  simp_arith []
  have cl : ∀ {S : Sto} {Q : DK}, (∀ S', Gr S S' → Q (.str c) S') → m_wclass [.exc c] S Q := fun {S Q} q => by
    rcases hc with rfl | rfl | rfl | rfl
    · exact class_NoRow q
    · exact class_Twice q
    · exact class_TooMany q
    · exact class_NoName q
  refine cl fun S2 g2 => ⟨by decide, fun r hr => q r _ (g1.trans (g2.trans (.new hr))) updS_same⟩
theorem told_t {ask : ASK} {P : DL.D → Sto → Prop} {S : Sto} {Q : DK} (h : ∀ (Qd : DK) (Ed : EK), (∀ d S', Gr S S' → P d S' → Qd d S') → ask S Qd Ed) (q : ∀ r d S', S' r = none → Gr S S' → P d S' → Q (.ref r) (updS S' r (.lst [.str "told", d]))) : m_wtold ask S Q := by
  rw [e_wtold]
  intro f
  unfold b_wtold gAskS
  simp_arith []
  refine h _ _ fun d S1 g1 hd => ?_
  unfold r_wtold
  refine seq_i ?_
  simp_arith []
  exact ⟨by decide, fun r hr => q r d S1 hr g1 hd⟩
end LW
namespace LW
open PySem L2 DL
structure Th (S0 S : Sto) (r : Ro) (X : D) : Prop where
  ex : ∃ L items, Con S X L ∧ r.R = .tup items ∧ items.length ≤ 7 ∧ Its S0 S L items
  fr : ∀ a, X = .ref a → S0 a = none
theorem Th.gr {S0 S S' : Sto} (g : Gr S S') {r : Ro} {X : D} (h : Th S0 S r X) : Th S0 S' r X := by
  obtain ⟨L, items, h1, h2, h3, h4⟩ := h.ex
  exact ⟨⟨L, items, h1.gr g, h2, h3, h4.gr g⟩, h.fr⟩
theorem con_sm2 {S0 S : Sto} {X : D} {L items : List D} (hc : Con S X L) (hI : Its S0 S L items) (hl : items.length ≤ 7) : Sm S 3 1183 X := by
  have h1 := hI.sm
  have h2 := hI.len
  rcases hc with rfl | ⟨c, rfl, e⟩
  · exact sm_tup (k := 2) (n := 7) (m := 168) h1 (by omega)
  · exact sm_lst (k := 2) (n := 7) (m := 168) e h1 (by omega)
theorem Th.sm {S0 S : Sto} {r : Ro} {X : D} (h : Th S0 S r X) : Sm S 3 1183 X := by
  obtain ⟨L, items, h1, _, h3, h4⟩ := h.ex
  exact con_sm2 h1 h4 h3
theorem It.base {S0 S1 S : Sto} (hb : ∀ a, S1 a = none → S0 a = none) {y x : D} (h : It S1 S y x) : It S0 S y x := by
  cases h with
  | leaf h => exact .leaf h
  | tup hc hl hp hO h6 hf => exact .tup hc hl hp hO h6 fun a e => hb a (hf a e)
theorem Its.base {S0 S1 S : Sto} (hb : ∀ a, S1 a = none → S0 a = none) : ∀ {ys xs : List D}, Its S1 S ys xs → Its S0 S ys xs
  | _, _, .nil => .nil
  | _, _, .cons h r => .cons (h.base hb) (r.base hb)
theorem th_self {S0 S : Sto} {r : Ro} (h : r.ok) : Th S0 S r r.R := by
  obtain ⟨items, e, h7, hi⟩ := row_items h.hn h.d0 h.d1 h.row
  exact ⟨⟨items, items, .inl e, e, h7, its_self hi⟩, fun a e2 => by rw [e] at e2; cases e2⟩
theorem listed_th {p pc : Addr} {b b0 : Nat} {r : Ro} {S0 S : Sto} {Q : DK} (p0 : Pen S0 p pc b0) (h : Pen S p pc b) (hb : b + 300 ≤ 100000) (k : Kp p S0 S) (hr : r.ok)
    (q : ∀ X S', Th S0 (mk2 p p S') r X → Pen S' p pc (b + 150) → Kp p S S' → Q X S') : m_wlisted [.ref p, r.R] S Q := by
  obtain ⟨items, e, h7, hi⟩ := row_items hr.hn hr.d0 hr.d1 hr.row
  rw [e]
  have hbase : ∀ a, S a = none → S0 a = none := fun a ea => fr_of k (h.ne ea).1 ea
  refine wlisted_spec h hb hi h7 fun X L S' hX hf hI p' k' => ?_
  exact q X S' ⟨⟨L, items, hX, e, h7, hI.base hbase⟩, fun a ea => hbase a (hf a ea).1⟩ p' k'
theorem row_in_th {r : Ro} {xs : List Fd} (hr : r.ok) (hF : FIn (· ∈ xs.map (·.f)) r.w r.R) (h8 : xs.length ≤ 8) {S0 S : Sto} {X : D} (h : Th S0 S r X) {Q : DK} (q : ∀ S', Gr S S' → Q r.R S') : m_row_in [.tup (xs.map Fd.D), X] S Q := by
  obtain ⟨L, items, h1, h2, h3, h4⟩ := h.ex
  rw [e_row_in]
  refine seq_i ?_
  simp_arith []
  refine row_of_spec hr.hn hr.d0 hr.d1 hr.row (its_row hr.row h2 h4) h1 fun S1 g1 => ?_
  simp_arith [t_row_in_5]
  refine seq_i ?_
  simp_arith []
  refine is_row_of_gen hr.row hF h8 fun v S2 hv g2 => ?_
  have e : inLay xs v = true := by
    rcases hv with ⟨rfl, _⟩ | ⟨z, hz, rfl⟩
    · rfl
    · exact decide_eq_true hz
  rw [e]
  simp_arith []
  exact q _ (g1.trans g2)
end LW
namespace LW
open PySem L2 DL PySem.W PyProof.Rows
/-! ### whole numbers, texts, tuples of these -/
mutual
def toP : D → PyData
  | .int i => .int i
  | .str z => .str z
  | .tup ds => .tuple (toPs ds)
  | _ => .none
def toPs : List D → List PyData
  | [] => []
  | d :: ds => toP d :: toPs ds
end
mutual
def purD : D → Bool
  | .int _ => true
  | .str _ => true
  | .tup ds => purDs ds
  | _ => false
def purDs : List D → Bool
  | [] => true
  | d :: ds => purD d && purDs ds
end
theorem purDs_of : ∀ {ds : List D}, (∀ d ∈ ds, purD d = true) → purDs ds = true
  | [], _ => by unfold purDs; rfl
  | d :: ds, h => by
    unfold purDs
    rw [h d List.mem_cons_self, purDs_of fun e he => h e (List.mem_cons_of_mem _ he)]
    rfl
mutual
theorem toP_pd {S : Sto} : ∀ {d : D}, purD d = true → PD S d (toP d)
  | .int i, _ => by unfold toP; exact .int i
  | .str z, _ => by unfold toP; exact .str z
  | .tup ds, h => by unfold toP; unfold purD at h; exact .tup (toPs_pd h)
  | .non, h | .bl _, h | .ref _, h | .fl _, h | .ty _, h | .exc _, h | .cls _, h => by unfold purD at h; cases h
theorem toPs_pd {S : Sto} : ∀ {ds : List D}, purDs ds = true → PDs S ds (toPs ds)
  | [], _ => by unfold toPs; exact .nil
  | d :: ds, h => by
    unfold purDs at h
    rw [Bool.and_eq_true] at h
    unfold toPs
    exact .cons (toP_pd h.1) (toPs_pd h.2)
end
mutual
theorem toP_eq : ∀ {a b : D}, purD a = true → purD b = true → PyData.eqv (toP a) (toP b) = true → a = b
  | .int i, b, _, hb, e => by
    cases b with
    | int j => unfold toP at e; simp [PyData.eqv] at e; rw [e]
    | str j => unfold toP at e; simp [PyData.eqv] at e
    | tup j => unfold toP at e; simp [PyData.eqv] at e
    | _ => unfold purD at hb; cases hb
  | .str i, b, _, hb, e => by
    cases b with
    | str j => unfold toP at e; simp [PyData.eqv] at e; rw [e]
    | int j => unfold toP at e; simp [PyData.eqv] at e
    | tup j => unfold toP at e; simp [PyData.eqv] at e
    | _ => unfold purD at hb; cases hb
  | .tup xs, b, ha, hb, e => by
    cases b with
    | tup ys =>
      unfold toP at e
      unfold purD at ha hb
      simp only [PyData.eqv] at e
      rw [toPs_eq ha hb e]
    | int j => unfold toP at e; simp [PyData.eqv] at e
    | str j => unfold toP at e; simp [PyData.eqv] at e
    | _ => unfold purD at hb; cases hb
  | .non, _, h, _, _ | .bl _, _, h, _, _ | .ref _, _, h, _, _ | .fl _, _, h, _, _ | .ty _, _, h, _, _ | .exc _, _, h, _, _ | .cls _, _, h, _, _ => by unfold purD at h; cases h
theorem toPs_eq : ∀ {xs ys : List D}, purDs xs = true → purDs ys = true → PyData.eqvAll (toPs xs) (toPs ys) = true → xs = ys
  | [], [], _, _, _ => rfl
  | [], y :: ys, _, _, e => by unfold toPs at e; simp [PyData.eqvAll] at e
  | x :: xs, [], _, _, e => by unfold toPs at e; simp [PyData.eqvAll] at e
  | x :: xs, y :: ys, ha, hb, e => by
    unfold toPs at e
    unfold purDs at ha hb
    rw [Bool.and_eq_true] at ha hb
    simp only [PyData.eqvAll, Bool.and_eq_true] at e
    rw [toP_eq ha.1 hb.1 e.1, toPs_eq ha.2 hb.2 e.2]
end
theorem toP_iff {a b : D} (ha : purD a = true) (hb : purD b = true) : PyData.eqv (toP a) (toP b) = true ↔ a = b :=
  ⟨toP_eq ha hb, fun e => by subst e; exact PySem.SeqAt.eqv_refl_plain _ (toP_pd (S := fun _ => none) ha).plain⟩
end LW
namespace LW
open PySem L2 DL PySem.W PyProof.Rows
/-! ### rows: what stands at their places -/
inductive Sh where
  | s | i | ts | tp
  deriving DecidableEq
def HasSh : Sh → D → Prop
  | .s, x => ∃ z, x = .str z
  | .i, x => ∃ k, x = .int k
  | .ts, x => ∃ zs : List Str, x = .tup (zs.map .str)
  | .tp, x => ∃ ps : List Pt, x = .tup (ps.map Pt.D)
inductive HasShs : List Sh → List D → Prop
  | nil : HasShs [] []
  | cons {h : Sh} {x : D} {hs : List Sh} {xs : List D} (a : HasSh h x) (b : HasShs hs xs) : HasShs (h :: hs) (x :: xs)
def shapes (w : Str) : List Sh :=
  if w = "part" then [.s, .tp] else if w = "join" then [.ts, .s] else if w = "forfeit" then [.s, .s] else if w = "measure" then [.s, .i] else if w = "mend" then [.s, .s] else if w = "alone" then [.s] else if w = "breach" then [.s, .i, .i, .i] else [.s, .i, .s]
theorem RowOk.sh {n w : Str} {d : Int} {R : D} (h : RowOk n d w R) : ∃ rest, R = .tup (.str w :: .str n :: .int d :: rest) ∧ HasShs (shapes w) rest := by
  cases h with
  | part => exact ⟨_, rfl, by rw [show shapes "part" = [.s, .tp] by decide +kernel]; exact .cons ⟨_, rfl⟩ (.cons ⟨_, rfl⟩ .nil)⟩
  | join => exact ⟨_, rfl, by rw [show shapes "join" = [.ts, .s] by decide +kernel]; exact .cons ⟨_, rfl⟩ (.cons ⟨_, rfl⟩ .nil)⟩
  | forfeit => exact ⟨_, rfl, by rw [show shapes "forfeit" = [.s, .s] by decide +kernel]; exact .cons ⟨_, rfl⟩ (.cons ⟨_, rfl⟩ .nil)⟩
  | measure => exact ⟨_, rfl, by rw [show shapes "measure" = [.s, .i] by decide +kernel]; exact .cons ⟨_, rfl⟩ (.cons ⟨_, rfl⟩ .nil)⟩
  | mend => exact ⟨_, rfl, by rw [show shapes "mend" = [.s, .s] by decide +kernel]; exact .cons ⟨_, rfl⟩ (.cons ⟨_, rfl⟩ .nil)⟩
  | alone => exact ⟨_, rfl, by rw [show shapes "alone" = [.s] by decide +kernel]; exact .cons ⟨_, rfl⟩ .nil⟩
  | breach => exact ⟨_, rfl, by rw [show shapes "breach" = [.s, .i, .i, .i] by decide +kernel]; exact .cons ⟨_, rfl⟩ (.cons ⟨_, rfl⟩ (.cons ⟨_, rfl⟩ (.cons ⟨_, rfl⟩ .nil)))⟩
  | view => exact ⟨_, rfl, by rw [show shapes "view" = [.s, .i, .s] by decide +kernel]; exact .cons ⟨_, rfl⟩ (.cons ⟨_, rfl⟩ (.cons ⟨_, rfl⟩ .nil))⟩
theorem pur_strs : ∀ zs : List Str, purDs (zs.map .str) = true := fun zs => purDs_of fun d hd => by
  obtain ⟨z, _, rfl⟩ := List.mem_map.mp hd
  unfold purD; rfl
theorem pur_pts (ps : List Pt) : purDs (ps.map Pt.D) = true := purDs_of fun d hd => by
  obtain ⟨z, _, rfl⟩ := List.mem_map.mp hd
  unfold Pt.D
  simp [purD, purDs]
theorem HasSh.pur {h : Sh} {x : D} (a : HasSh h x) : purD x = true := by
  cases h with
  | s => obtain ⟨z, rfl⟩ := a; unfold purD; rfl
  | i => obtain ⟨z, rfl⟩ := a; unfold purD; rfl
  | ts => obtain ⟨z, rfl⟩ := a; unfold purD; exact pur_strs z
  | tp => obtain ⟨z, rfl⟩ := a; unfold purD; exact pur_pts z
theorem HasShs.pur : ∀ {hs : List Sh} {xs : List D}, HasShs hs xs → purDs xs = true
  | _, _, .nil => by unfold purDs; rfl
  | _, _, .cons a b => by unfold purDs; rw [a.pur, b.pur]; rfl
theorem Ro.ok.pur {r : Ro} (h : r.ok) : purD r.R = true := by
  obtain ⟨rest, e, hs⟩ := h.row.sh
  rw [e]
  simp [purD, purDs, hs.pur]
/-- rows, rising -/
noncomputable def srR (rows : List Ro) : List D := (rows.map Ro.R).mergeSort (dataLe false toP)
/-- texts, rising -/
noncomputable def srS (zs : List Str) : List D := (zs.map D.str).mergeSort (dataLe false toP)
end LW
/-! k07: rolls, the program -/
namespace LW
open PySem L2 DL
noncomputable def rollR (xs : List Fd) (rows : List Ro) : DL.D := .tup [.tup (xs.map Fd.D), .tup (srt rows)]
theorem srt_mem {rows : List Ro} {x : DL.D} : x ∈ srt rows ↔ x ∈ rows.map Ro.R := (List.mergeSort_perm ..).mem_iff
theorem srt_pm {rows : List Ro} : (srt rows).Perm (rows.map Ro.R) := List.mergeSort_perm ..
theorem srt_len (rows : List Ro) : (srt rows).length = rows.length := by rw [srt_pm.length_eq, List.length_map]
theorem ro_tup {r : Ro} (h : r.ok) : ∃ rest, r.R = .tup (.str r.w :: .str r.n :: .int r.d :: rest) := by
  obtain ⟨rest, e, _⟩ := h.row.sh
  exact ⟨rest, e⟩
theorem nd_inj {α β : Type} {f : α → β} : ∀ {l : List α}, (l.map f).Nodup → ∀ {x y : α}, x ∈ l → y ∈ l → f x = f y → x = y
  | [], _, _, _, h, _, _ => (nomatch h)
  | a :: r, nd, x, y, hx, hy, e => by
    rw [List.map_cons, List.nodup_cons] at nd
    rcases List.mem_cons.mp hx with h1 | h1
    · rcases List.mem_cons.mp hy with h2 | h2
      · rw [h1, h2]
      · exact absurd (List.mem_map.mpr ⟨y, h2, by rw [← e, h1]⟩) nd.1
    · rcases List.mem_cons.mp hy with h2 | h2
      · exact absurd (List.mem_map.mpr ⟨x, h1, by rw [e, h2]⟩) nd.1
      · exact nd_inj nd.2 h1 h2 e
theorem ro_uniq {rows : List Ro} (nd : (rows.map Ro.n).Nodup) {x r : Ro} (hx : x ∈ rows) (hr : r ∈ rows) (e : x.n = r.n) : x = r := nd_inj nd hx hr e
theorem row_called_hit {xs : List Fd} {rows : List Ro} {r : Ro} (ok : ∀ r ∈ rows, r.ok) (nd : (rows.map Ro.n).Nodup) (hr : r ∈ rows) {S : Sto} {Q : DK} {E : EK} (q : Q r.R S) : m_row_called [rollR xs rows, .str r.n] S Q E := by
  rw [e_row_called, rollR]
  refine seqx_i ?_
  simp_arith []
  refine ⟨_, atI_nat (j := 1) rfl, ?_⟩
  simp_arith []
  refine forL_inv _ (fun i σ S' => (∃ u2, σ = [some (.tup [.tup (xs.map Fd.D), .tup (srt rows)]), some (.str r.n), u2]) ∧ S' = S ∧ r.R ∉ (srt rows).take i) (fun _ _ _ _ => trivial) (fun i y σ S' N hxi hJ hN => ?turn) (fun σ S' hJ => ?fin) ⟨⟨none, rfl⟩, rfl, by simp⟩
  case fin =>
    obtain ⟨_, _, hn⟩ := hJ
    rw [List.take_of_length_le (Nat.le_refl _)] at hn
    exact absurd (srt_mem.mpr (List.mem_map_of_mem hr)) hn
  case turn =>
    obtain ⟨⟨u2, rfl⟩, rfl, hn⟩ := hJ
    obtain ⟨x, hx, e⟩ := List.mem_map.mp (srt_mem.mp (List.mem_of_getElem? hxi))
    subst e
    obtain ⟨rest, ex⟩ := ro_tup (ok x hx)
    have hi := (List.getElem?_eq_some_iff.mp hxi).1
    have et : (srt rows).take (i + 1) = (srt rows).take i ++ [x.R] := by rw [List.take_add_one, hxi]; rfl
    unfold l_row_called_1
    have go : ¬ x = r → N [some (.tup [.tup (xs.map Fd.D), .tup (srt rows)]), some (.str r.n), some x.R] S' := fun hxr => by
      refine hN _ _ ⟨⟨_, rfl⟩, rfl, ?_⟩
      rw [et, List.mem_append, not_or, List.mem_singleton]
      refine ⟨hn, fun z => hxr ?_⟩
      obtain ⟨rest2, er⟩ := ro_tup (ok r hr)
      rw [ex, er] at z
      injection z with z
      injection z with _ z
      injection z with z
      injection z with z
      exact ro_uniq nd hx hr z.symm
    by_cases c : x = r
    · subst c
      rw [ex]
      simp_arith []
      refine ⟨_, atI_nat (j := 1) rfl, ?_⟩
      simp_arith []
      rw [ex] at q
      exact q
    · have cn : ¬ x.n = r.n := fun e => c (ro_uniq nd hx hr e)
      rw [ex] at go ⊢
      simp_arith []
      refine ⟨_, atI_nat (j := 1) rfl, ?_⟩
      simp_arith []
      rw [if_neg cn]
      exact go c
/-- no row is called so -/
def NoNm (S : Sto) (d : DL.D) (rows : List Ro) : Prop := ∀ x ∈ rows, ∀ K : DK, K (.bl false) S → gEqX id (.str x.n) d S K
theorem row_called_none {xs : List Fd} {rows : List Ro} {d : DL.D} (ok : ∀ r ∈ rows, r.ok) {S : Sto} {Q : DK} {E : EK} (h : NoNm S d rows) (q : E "NoName" S) : m_row_called [rollR xs rows, d] S Q E := by
  rw [e_row_called, rollR]
  refine seqx_i ?_
  simp_arith []
  refine ⟨_, atI_nat (j := 1) rfl, ?_⟩
  simp_arith []
  refine forL_inv _ (fun i σ S' => (∃ u2, σ = [some (.tup [.tup (xs.map Fd.D), .tup (srt rows)]), some d, u2]) ∧ S' = S) (fun _ _ _ _ => trivial) (fun i y σ S' N hxi hJ hN => ?turn) (fun σ S' hJ => ?fin) ⟨⟨none, rfl⟩, rfl⟩
  case fin =>
    obtain ⟨⟨u2, rfl⟩, rfl⟩ := hJ
    simp_arith [t_row_called_4]
    exact q
  case turn =>
    obtain ⟨⟨u2, rfl⟩, rfl⟩ := hJ
    obtain ⟨x, hx, e⟩ := List.mem_map.mp (srt_mem.mp (List.mem_of_getElem? hxi))
    subst e
    obtain ⟨rest, ex⟩ := ro_tup (ok x hx)
    unfold l_row_called_1
    rw [ex]
    simp_arith []
    refine ⟨_, atI_nat (j := 1) rfl, ?_⟩
    refine h x hx _ ?_
    simp_arith []
    exact hN _ _ ⟨⟨_, rfl⟩, rfl⟩
/-- rows sorted, of a tuple or a list -/
theorem sorted_rows_t {rows : List Ro} {T : List DL.D} (ok : ∀ r ∈ rows, r.ok) (nd : (rows.map Ro.n).Nodup) (hT : T.Perm (rows.map Ro.R)) {S : Sto} {Q : DK} (q : ∀ S', Gr S S' → Q (.tup (srt rows)) S') : m_sorted_rows [.tup T] S Q := by
  rw [e_sorted_rows]
  simp_arith [b_sorted_rows]
  exact keyed_ro order_spec ok nd hT fun n hn => ⟨_, updS_same, q _ (.new hn)⟩
def nameD : DL.D → DL.D
  | .tup (_ :: x :: _) => x
  | _ => .non
theorem nameD_ro {r : Ro} (h : r.ok) : nameD r.R = .str r.n := by
  obtain ⟨rest, e⟩ := ro_tup h
  rw [e]
  rfl
theorem any_nmsX {f : Str} (l : List Str) : ((l.map DL.D.str).any fun z => eqF z (.str f)) = decide (f ∈ l) := by
  induction l with
  | nil => rfl
  | cons a r ih =>
    rw [List.map_cons, List.any_cons, ih]
    show ((a == f) || decide (f ∈ r)) = decide (f ∈ a :: r)
    by_cases c : a = f
    · subst c
      simp
    · have : (a == f) = false := by simpa using c
      rw [this, Bool.false_or]
      have : (f ∈ a :: r) ↔ f ∈ r := ⟨fun h => (List.mem_cons.mp h).resolve_left fun e => c e.symm, List.mem_cons_of_mem _⟩
      rw [decide_eq_decide]
      exact this.symm
theorem flat_nmsX (l : List Str) : (l.map DL.D.str).all flatD = true := by
  rw [List.all_eq_true]
  intro y hy
  obtain ⟨z, _, rfl⟩ := List.mem_map.mp hy
  rfl
theorem srt_names {rows : List Ro} (ok : ∀ r ∈ rows, r.ok) : ∃ ns : List Str, (srt rows).map nameD = ns.map .str ∧ ns.Perm (rows.map Ro.n) := by
  have key : ∀ T : List DL.D, (∀ x ∈ T, x ∈ rows.map Ro.R) → ∃ ns : List Str, T.map nameD = ns.map .str := fun T => by
    induction T with
    | nil => intro _; exact ⟨[], rfl⟩
    | cons x t ih =>
      intro h
      obtain ⟨ns, e⟩ := ih fun y hy => h y (by simp [hy])
      obtain ⟨r, hr, e2⟩ := List.mem_map.mp (h x (by simp))
      exact ⟨r.n :: ns, by rw [List.map_cons, List.map_cons, e, ← e2, nameD_ro (ok r hr)]⟩
  obtain ⟨ns, e⟩ := key (srt rows) fun x hx => srt_mem.mp hx
  refine ⟨ns, e, ?_⟩
  have p1 : (ns.map DL.D.str).Perm ((rows.map Ro.n).map .str) := by
    rw [← e]
    refine (srt_pm.map nameD).trans (.of_eq ?_)
    rw [List.map_map, List.map_map]
    exact List.map_congr_left fun r hr => nameD_ro (ok r hr)
  have p2 := p1.map fun d => match d with | .str z => z | _ => ""
  rw [List.map_map, List.map_map] at p2
  have e1 : ∀ l : List Str, l.map ((fun d => match d with | DL.D.str z => z | _ => "") ∘ DL.D.str) = l := fun l => by
    induction l with
    | nil => rfl
    | cons a r ih => rw [List.map_cons, ih]; rfl
  rw [e1, e1] at p2
  exact p2
theorem with_row_bad {xs : List Fd} {rows : List Ro} {X : DL.D} {S : Sto} {Q : DK} {E : EK} (hX : ∀ Q : DK, (∀ S', Gr S S' → Q .non S') → m_row_in [.tup (xs.map Fd.D), X] S Q) (q : ∀ S', Gr S S' → E "NoRow" S') : m_with_row [rollR xs rows, X] S Q E := by
  rw [e_with_row, rollR]
  refine seqx_i ?_
  simp_arith []
  unfold t_with_row_2
  refine seqx_i ?_
  simp_arith []
  refine hX _ fun S1 g1 => ?_
  unfold t_with_row_3
  refine seqx_i ?_
  simp_arith []
  exact q _ g1
theorem with_row_go {xs : List Fd} {rows : List Ro} {r : Ro} {X : DL.D} (ok : ∀ r ∈ rows, r.ok) (nd : (rows.map Ro.n).Nodup) (hr : r.ok) (hl : rows.length ≤ 100) {S : Sto} {Q : DK} {E : EK} (hX : ∀ Q : DK, (∀ S', Gr S S' → Q r.R S') → m_row_in [.tup (xs.map Fd.D), X] S Q)
    (q1 : r.n ∈ rows.map Ro.n → ∀ S', Gr S S' → E "Twice" S') (q2 : r.n ∉ rows.map Ro.n → 40 ≤ rows.length → ∀ S', Gr S S' → E "TooMany" S') (q3 : r.n ∉ rows.map Ro.n → rows.length < 40 → ∀ S', Gr S S' → Q (rollR xs (rows ++ [r])) S') : m_with_row [rollR xs rows, X] S Q E := by
  obtain ⟨rest, er⟩ := ro_tup hr
  obtain ⟨ns, en, pn⟩ := srt_names ok
  have nl : (srt rows).length ≤ 100 := by rw [srt_len]; exact hl
  rw [e_with_row, rollR]
  refine seqx_i ?_
  simp_arith []
  unfold t_with_row_2
  refine seqx_i ?_
  simp_arith []
  refine hX _ fun S1 g1 => ?_
  have isn : DL.isNon r.R = false := by rw [er]; rfl
  unfold t_with_row_3
  refine seqx_i ?_
  simp_arith []
  rw [if_neg (show ¬ (DL.isNon r.R = true) by rw [isn]; decide)]
  unfold t_with_row_5
  refine seqx_i ?_
  rw [er]
  simp_arith []
  refine ⟨_, atI_nat (j := 1) rfl, ?_⟩
  refine lcL_map nameD _ trivial (small_line (by omega)) (fun y hy K hK => ?_) fun n hn => ?_
  · obtain ⟨x, hx, e⟩ := List.mem_map.mp (srt_mem.mp hy)
    subst e
    obtain ⟨rest2, ex⟩ := ro_tup (ok x hx)
    rw [ex] at hK ⊢
    simp_arith [c_with_row_5]
    exact ⟨_, atI_nat (j := 1) rfl, hK⟩
  rw [en]
  have f1 : updS S1 n (.lst (ns.map .str)) n = some (.lst (ns.map .str)) := updS_same
  have g2 := g1.trans (Gr.new (o := .lst (ns.map .str)) hn)
  generalize updS S1 n (.lst (ns.map .str)) = S2 at f1 g2
  simp_arith [f1]
  refine ⟨rfl, flat_nmsX _, ?_⟩
  rw [any_nmsX]
  simp_arith []
  by_cases c : r.n ∈ ns
  · rw [if_pos c]
    exact q1 (pn.mem_iff.mp c) _ g2
  · rw [if_neg c]
    have c' : r.n ∉ rows.map Ro.n := fun z => c (pn.mem_iff.mpr z)
    unfold t_with_row_7
    refine seqx_i ?_
    simp_arith []
    rw [srt_len]
    by_cases c2 : (40 : Int) ≤ (rows.length : Nat)
    · rw [if_pos c2]
      exact q2 c' (by omega) _ g2
    · rw [if_neg c2]
      unfold t_with_row_9
      simp_arith []
      refine ⟨by decide, small_line (by rw [srt_len]; simp; omega), ?_⟩
      have ok2 : ∀ x ∈ rows ++ [r], x.ok := fun x hx => by
        rcases List.mem_append.mp hx with hx | hx
        · exact ok x hx
        · rw [List.mem_singleton.mp hx]; exact hr
      have nd2 : ((rows ++ [r]).map Ro.n).Nodup := by
        rw [List.map_append, List.nodup_append]
        refine ⟨nd, by simp, fun a ha b hb e => ?_⟩
        rw [List.map_cons, List.map_nil, List.mem_singleton] at hb
        rw [e, hb] at ha
        exact c' ha
      refine sorted_rows_t ok2 nd2 (by rw [List.map_append, ← er]; exact srt_pm.append_right _) fun S3 g3 => ?_
      exact ⟨by decide, q3 c' (by omega) _ (g2.trans g3)⟩
end LW
namespace LW
open PySem L2 DL
/-- what row_in takes for no row: facts that stand in M -/
def NoR (M : Sto) (Z : D) : Prop := ∀ S, Gr M S → ∀ (Q : DK) (E : EK), (∀ S', Gr S S' → E "NoRow" S') → m_row_of [Z] S Q E
theorem NoR.gr {M M' : Sto} (g : Gr M M') {Z : D} (h : NoR M Z) : NoR M' Z := fun S g' => h S (g.trans g')
/-- of what is no tuple and no list -/
theorem noR_oth {M : Sto} {Z : D} {ty : String} (h : tyD Z M = some ty) (h1 : ty ≠ "list") (h2 : ty ≠ "tuple") : NoR M Z := fun S g Q E hE => by
  have h' := tyD_gr g h
  refine row_of_bad (R := Z) (fun Q q => as_tuple_id h' h1 q) (.inl ⟨ty, h', h2⟩) (fun S' Q g' q => ?_) hE
  have h'' := tyD_gr g' h'
  rw [e_is_row]
  refine seq_i ?_
  have e : (ty == "tuple") = false := by simp [h2]
  simp_arith [h'', e]
  exact q _ .refl
/-- of a short tuple -/
theorem short_row {ds : List D} (h : ds.length < 4) {S : Sto} {Q : DK} (q : ∀ S', Gr S S' → Q (.bl false) S') : m_is_row [.tup ds] S Q := by
  rw [e_is_row]
  refine seq_i ?_
  simp_arith []
  rw [if_pos (by omega)]
  exact q _ .refl
theorem noR_short {M : Sto} {ds : List D} (h : ds.length < 4) : NoR M (.tup ds) := fun S g Q E hE =>
  row_of_bad (R := .tup ds) (fun Q q => as_tuple_id (ty := "tuple") rfl (by decide) q) (.inr ⟨ds, rfl, by omega⟩) (fun S' Q g' q => short_row h q) hE
theorem noR_list {M : Sto} {c : Addr} (e : M c = some (.lst [])) : NoR M (.ref c) := fun S g Q E hE =>
  row_of_bad (R := .tup []) (fun Q q => as_tuple_spec (.lst (g _ _ e)) rfl q) (.inr ⟨[], rfl, by decide⟩) (fun S' Q g' q => short_row (by decide) q) hE
/-- of four things whose name or day is none -/
theorem noR_four {M : Sto} {a b c : D} (ha : OkT M a) (hb : OkT M b) (h : (nmD a && whD 0 9999 b) = false) : NoR M (.tup [.str "alone", a, b, c]) := fun S g Q E hE =>
  row_of_bad (R := .tup [.str "alone", a, b, c]) (fun Q q => as_tuple_id (ty := "tuple") rfl (by decide) q) (.inr ⟨_, rfl, by simp⟩)
    (fun S' Q g' q => row_head (rest := [c]) (show tabAt tab_SIZES "alone" = some ((3 + 1 : Nat) : Int) by decide +kernel) (show 1 ≤ 1 from Nat.le_refl _) ((ha.gr g).gr g') ((hb.gr g).gr g') (fun _ => q) fun h1 h2 => by rw [h1, h2] at h; cases h) hE
end LW
namespace LW
open PySem L2 DL
/-- row_of of a tuple whose parts or lands, if any, are in order -/
theorem noR_any {M : Sto} {w : Str} {a b : D} {rest : List D} (hp : w = "part" → ∃ la O, rest = [la, .tup O] ∧ Ord O) (hj : w = "join" → ∃ O la, rest = [.tup O, la] ∧ Ord O)
    (hr : ∀ S (Q : DK), Gr M S → (∀ S2, Gr S S2 → Q (.bl false) S2) → m_is_row [.tup (.str w :: a :: b :: rest)] S Q) : NoR M (.tup (.str w :: a :: b :: rest)) := fun S g Q E hE => by
  by_cases h5 : rest.length = 2
  · rw [e_row_of]
    refine seqx_i ?_
    simp_arith []
    refine as_tuple_id (ty := "tuple") rfl (by decide) ?_
    have fin : ∀ S1, Gr S S1 → t_row_of_7 ⟨fun x S => Q .non S, Q, fun _ _ => False, fun _ _ => False⟩ E [some (.tup (.str w :: a :: b :: rest)), some (.tup (.str w :: a :: b :: rest))] S1 := fun S1 g1 =>
      row_of_end (S := S) (b := false) (fun S' Q g' q => hr S' Q (g.trans g') q) (fun S' g' => hE S' g') g1
    simp_arith [t_row_of_2]
    refine seqx_i ?_
    simp_arith []
    rw [if_pos (by omega)]
    refine ⟨_, atI_nat (j := 0) rfl, ?_⟩
    simp_arith []
    by_cases h1 : w = "part"
    · obtain ⟨la, O, rfl, hO⟩ := hp h1
      rw [if_pos h1]
      have c4 : cutL [D.str w, a, b, la, .tup O] none (some 4) = [.str w, a, b, la] := cutL_to _ 4
      refine ⟨_, atI_nat (j := 4) rfl, in_order_spec (.inl rfl) los_self (.refl _) hO fun S1 g1 => ?_⟩
      rw [c4]
      exact ⟨by decide, by show 4 + 1 ≤ sizeLine; decide, fin S1 g1⟩
    · rw [if_neg h1]
      refine ⟨_, atI_nat (j := 0) rfl, ?_⟩
      simp_arith []
      by_cases h2 : w = "join"
      · obtain ⟨O, la, rfl, hO⟩ := hj h2
        rw [if_pos h2]
        have c3 : cutL [D.str w, a, b, .tup O, la] none (some 3) = [.str w, a, b] := cutL_to _ 3
        have c4 : cutL [D.str w, a, b, .tup O, la] (some 4) none = [la] := cutL_from _ 4
        refine ⟨_, atI_nat (j := 3) rfl, in_order_spec (.inl rfl) los_self (.refl _) hO fun S1 g1 => ?_⟩
        rw [c3, c4]
        exact ⟨by decide, by show 3 + 1 ≤ sizeLine; decide, by show 4 + 1 ≤ sizeLine; decide, fin S1 g1⟩
      · rw [if_neg h2]
        exact fin S .refl
  · exact row_of_bad (R := .tup (.str w :: a :: b :: rest)) (fun Q q => as_tuple_id (ty := "tuple") rfl (by decide) q) (.inr ⟨_, rfl, by simp only [List.length_cons]; omega⟩) (fun S' Q g' q => hr S' Q (g.trans g') q) hE
/-- a row with a truth in the place of its day -/
theorem noR_day {M : Sto} {w : Str} {a : D} {rest : List D} {t : Bool} (hp : w = "part" → ∃ la O, rest = [la, .tup O] ∧ Ord O) (hj : w = "join" → ∃ O la, rest = [.tup O, la] ∧ Ord O) (ht : tabAt tab_SIZES w = some ((3 + rest.length : Nat) : Int)) (hl : 1 ≤ rest.length) (ha : OkT M a) : NoR M (.tup (.str w :: a :: .bl t :: rest)) :=
  noR_any hp hj fun S Q g q => row_head ht hl (ha.gr g) (okT_bl t) (fun _ => q) fun _ h => by cases h
theorem no_wd {P : Prop} {a b : Str} (h : a ≠ b) : a = b → P := fun e => absurd e h
theorem twin_noR {M : Sto} {n w : Str} {d : Int} {R : D} (hn : Nm n) (h : RowOk n d w R) {items : List D} (e : R = .tup items) {j : Nat} {i : Int} (j2 : 2 ≤ j) (hi : items[j]? = some (.int i)) (t : Bool) : NoR M (.tup (items.set j (.bl t))) := by
  have np : ∀ {w : Str} {P : Prop}, w ∈ (["forfeit", "measure", "mend", "alone", "breach", "view"] : List Str) → (w = "part" → P) ∧ (w = "join" → P) := fun {w P} hw => by
    have h2 : ∀ z ∈ (["forfeit", "measure", "mend", "alone", "breach", "view"] : List Str), z ≠ "part" ∧ z ≠ "join" := by decide +kernel
    exact ⟨fun e => absurd e (h2 w hw).1, fun e => absurd e (h2 w hw).2⟩
  obtain ⟨k, rfl⟩ : ∃ k, j = k + 2 := ⟨j - 2, by omega⟩
  cases h with
  | @part la ps hl h2 h6 hr hp =>
    cases e
    match k, hi with
    | 0, _ => exact noR_day (fun _ => ⟨_, _, rfl, .parts h2 h6 hr hp⟩) (no_wd (show ("part" : Str) ≠ "join" by decide +kernel)) (show tabAt tab_SIZES "part" = some ((3 + 2 : Nat) : Int) by decide +kernel) (by show 1 ≤ 2; decide) hn.okT
    | 1, hi => cases hi
    | 2, hi => cases hi
    | k + 3, hi => cases hi
  | @join ls la h2 h6 hr hp hl =>
    cases e
    match k, hi with
    | 0, _ => exact noR_day (no_wd (show ("join" : Str) ≠ "part" by decide +kernel)) (fun _ => ⟨_, _, rfl, .lands h2 h6 hr hp⟩) (show tabAt tab_SIZES "join" = some ((3 + 2 : Nat) : Int) by decide +kernel) (by show 1 ≤ 2; decide) hn.okT
    | 1, hi => cases hi
    | 2, hi => cases hi
    | k + 3, hi => cases hi
  | @forfeit la h hl hh =>
    cases e
    match k, hi with
    | 0, _ => exact noR_day (np (by decide +kernel)).1 (np (by decide +kernel)).2 (show tabAt tab_SIZES "forfeit" = some ((3 + 2 : Nat) : Int) by decide +kernel) (by show 1 ≤ 2; decide) hn.okT
    | 1, hi => cases hi
    | 2, hi => cases hi
    | k + 3, hi => cases hi
  | @measure f i hf i0 i1 =>
    cases e
    match k, hi with
    | 0, _ => exact noR_day (np (by decide +kernel)).1 (np (by decide +kernel)).2 (show tabAt tab_SIZES "measure" = some ((3 + 2 : Nat) : Int) by decide +kernel) (by show 1 ≤ 2; decide) hn.okT
    | 1, hi => cases hi
    | 2, _ => exact noR_any (rest := [.str f, .bl t]) (np (by decide +kernel)).1 (np (by decide +kernel)).2 fun S Q g q => row_head (show tabAt tab_SIZES "measure" = some ((3 + 2 : Nat) : Int) by decide +kernel) (by show 1 ≤ 2; decide) hn.okT (okT_int _) (fun _ => q) fun _ _ S2 g2 => rest_measure hf (okT_bl t) fun S3 g3 => q _ (g2.trans g3)
    | k + 3, hi => cases hi
  | @mend h g hh hg ne =>
    cases e
    match k, hi with
    | 0, _ => exact noR_day (np (by decide +kernel)).1 (np (by decide +kernel)).2 (show tabAt tab_SIZES "mend" = some ((3 + 2 : Nat) : Int) by decide +kernel) (by show 1 ≤ 2; decide) hn.okT
    | 1, hi => cases hi
    | 2, hi => cases hi
    | k + 3, hi => cases hi
  | @alone h hh =>
    cases e
    match k, hi with
    | 0, _ => exact noR_day (np (by decide +kernel)).1 (np (by decide +kernel)).2 (show tabAt tab_SIZES "alone" = some ((3 + 1 : Nat) : Int) by decide +kernel) (by show 1 ≤ 1; decide) hn.okT
    | 1, hi => cases hi
    | k + 2, hi => cases hi
  | @breach f i c s hf i0 i1 c0 c1 s0 s1 =>
    cases e
    match k, hi with
    | 0, _ => exact noR_day (np (by decide +kernel)).1 (np (by decide +kernel)).2 (show tabAt tab_SIZES "breach" = some ((3 + 4 : Nat) : Int) by decide +kernel) (by show 1 ≤ 4; decide) hn.okT
    | 1, hi => cases hi
    | 2, _ => exact noR_any (rest := [.str f, .bl t, .int c, .int s]) (np (by decide +kernel)).1 (np (by decide +kernel)).2 fun S Q g q => row_head (show tabAt tab_SIZES "breach" = some ((3 + 4 : Nat) : Int) by decide +kernel) (by show 1 ≤ 4; decide) hn.okT (okT_int _) (fun _ => q) fun _ _ S2 g2 => rest_breach hf (okT_bl t) (okT_int _) (okT_int _) fun S3 g3 => q _ (g2.trans g3)
    | 3, _ => exact noR_any (rest := [.str f, .int i, .bl t, .int s]) (np (by decide +kernel)).1 (np (by decide +kernel)).2 fun S Q g q => row_head (show tabAt tab_SIZES "breach" = some ((3 + 4 : Nat) : Int) by decide +kernel) (by show 1 ≤ 4; decide) hn.okT (okT_int _) (fun _ => q) fun _ _ S2 g2 => rest_breach hf (okT_int _) (okT_bl t) (okT_int _) fun S3 g3 => by rw [show whD 0 1000000000 (.bl t) = false from rfl, Bool.and_false, Bool.false_and]; exact q _ (g2.trans g3)
    | 4, _ => exact noR_any (rest := [.str f, .int i, .int c, .bl t]) (np (by decide +kernel)).1 (np (by decide +kernel)).2 fun S Q g q => row_head (show tabAt tab_SIZES "breach" = some ((3 + 4 : Nat) : Int) by decide +kernel) (by show 1 ≤ 4; decide) hn.okT (okT_int _) (fun _ => q) fun _ _ S2 g2 => rest_breach hf (okT_int _) (okT_int _) (okT_bl t) fun S3 g3 => by rw [show whD 0 1000000 (.bl t) = false from rfl, Bool.and_false]; exact q _ (g2.trans g3)
    | k + 5, hi => cases hi
  | @view f i h hf i0 i1 hh =>
    cases e
    match k, hi with
    | 0, _ => exact noR_day (np (by decide +kernel)).1 (np (by decide +kernel)).2 (show tabAt tab_SIZES "view" = some ((3 + 3 : Nat) : Int) by decide +kernel) (by show 1 ≤ 3; decide) hn.okT
    | 1, hi => cases hi
    | 2, _ => exact noR_any (rest := [.str f, .bl t, .str h]) (np (by decide +kernel)).1 (np (by decide +kernel)).2 fun S Q g q => row_head (show tabAt tab_SIZES "view" = some ((3 + 3 : Nat) : Int) by decide +kernel) (by show 1 ≤ 3; decide) hn.okT (okT_int _) (fun _ => q) fun _ _ S2 g2 => rest_view hf (okT_bl t) rfl fun S3 g3 => q _ (g2.trans g3)
    | 3, hi => cases hi
    | k + 4, hi => cases hi
end LW
namespace LW
open PySem L2 DL
theorem log_smallN {n : Nat} (h0 : 0 < n) (h : n ≤ 10000) : ((n : Nat) : Int).natAbs.log2 < 9000 := by
  show n.log2 < 9000
  rw [Nat.log2_lt (by omega)]
  exact Nat.lt_of_le_of_lt h (Nat.lt_of_lt_of_le (show 10000 < 2 ^ 14 by decide) (Nat.pow_le_pow_right (by decide) (by decide)))
theorem set_cut (l : List D) (i : Nat) (hi : i < l.length) (d : D) : l.take i ++ [d] ++ l.drop (i + 1) = l.set i d := by
  rw [List.append_assoc, List.set_eq_take_append_cons_drop, if_pos hi]
  rfl
/-- the things of a row -/
def RI (items : List D) : Prop := items.length ≤ 7 ∧ ∀ x ∈ items, (∃ z, x = .str z) ∨ (∃ i, x = .int i) ∨ ∃ l, x = .tup l
def riD : D → Bool
  | .str _ => true
  | .int _ => true
  | .tup _ => true
  | _ => false
theorem riD_of : ∀ {x : D}, riD x = true → (∃ z, x = .str z) ∨ (∃ i, x = .int i) ∨ ∃ l, x = .tup l
  | .str z, _ => .inl ⟨_, rfl⟩
  | .int z, _ => .inr (.inl ⟨_, rfl⟩)
  | .tup z, _ => .inr (.inr ⟨_, rfl⟩)
theorem RowOk.ri {n w : Str} {d : Int} {R : D} (h : RowOk n d w R) : ∃ items, R = .tup items ∧ RI items := by
  have fin : ∀ {items : List D}, (decide (items.length ≤ 7) && items.all riD) = true → RI items := fun e => by
    rw [Bool.and_eq_true, decide_eq_true_eq, List.all_eq_true] at e
    exact ⟨e.1, fun x hx => riD_of (e.2 x hx)⟩
  cases h <;> exact ⟨_, rfl, fin rfl⟩
/-- a row with a truth in the place of a number -/
def Tw (rows : List Ro) (d : D) : Prop := ∃ r ∈ rows, ∃ (items : List D) (j : Nat) (i : Int) (t : Bool), r.R = .tup items ∧ 2 ≤ j ∧ items[j]? = some (.int i) ∧ d = .tup (items.set j (.bl t))
theorem Tw.items {rows : List Ro} (ok : ∀ r ∈ rows, r.ok) {d : D} (h : Tw rows d) : ∃ ds, d = .tup ds ∧ ds.length ≤ 7 ∧ ∀ x ∈ ds, itemD x ∨ ∃ t, x = .bl t := by
  obtain ⟨r, hr, items, j, i, t, hR, h2, hi, rfl⟩ := h
  have ro := ok r hr
  obtain ⟨items2, e, hl, hit⟩ := row_items ro.hn ro.d0 ro.d1 ro.row
  rw [hR] at e
  cases e
  refine ⟨_, rfl, by rw [List.length_set]; exact hl, fun x hx => ?_⟩
  rcases List.mem_or_eq_of_mem_set hx with hx | hx
  · exact .inl (hit x hx)
  · exact .inr ⟨t, hx⟩
theorem Tw.pd {rows : List Ro} (ok : ∀ r ∈ rows, r.ok) {d : D} (h : Tw rows d) {S : Sto} : ∃ p, PD S d p ∧ p.depth ≤ 4 := by
  obtain ⟨ds, rfl, hl, hx⟩ := h.items ok
  refine pd_up (show 2 + 1 ≤ 4 by decide) (tup_pd fun y hy => ?_)
  rcases hx y hy with h | ⟨t, rfl⟩
  · exact item_pd h
  · exact ⟨_, .bl t, Nat.zero_le _⟩
theorem Tw.sm {rows : List Ro} (ok : ∀ r ∈ rows, r.ok) {d : D} (h : Tw rows d) {S : Sto} : Sm S 3 1183 d := by
  obtain ⟨ds, rfl, hl, hx⟩ := h.items ok
  refine sm_tup (k := 2) (m := 168) (n := 7) (fun y hy => ?_) hl
  rcases hx y hy with h | ⟨t, rfl⟩
  · exact item_sm h
  · exact sm_bl t
theorem line_le {n : Nat} (h : n ≤ 4000) : n ≤ sizeLine := Nat.le_of_lt (line_of h)
theorem eqv_nil {ps : List PyData} : PyData.eqv (.list ps) (.list []) = ps.isEmpty := by
  cases ps <;> simp [PyData.eqv, PyData.eqvAll]
mutual
theorem PD.gr {S S' : Sto} (g : Gr S S') : ∀ {d : D} {p : PyData}, PD S d p → PD S' d p
  | _, _, .non => .non
  | _, _, .bl b => .bl b
  | _, _, .int i => .int i
  | _, _, .str x => .str x
  | _, _, .tup q => .tup (PDs.gr g q)
  | _, _, .kt ks => .kt ks
  | _, _, .lst e q => .lst (g _ _ e) (PDs.gr g q)
theorem PDs.gr {S S' : Sto} (g : Gr S S') : ∀ {ds : List D} {ps : List PyData}, PDs S ds ps → PDs S' ds ps
  | _, _, .nil => .nil
  | _, _, .cons q t => .cons (PD.gr g q) (PDs.gr g t)
end
theorem twin_spec {p pc : Addr} {b : Nat} {rows : List Ro} {S : Sto} {Q : DK} (h : Pen S p pc b) (hb : b + 10 ≤ 100000) (ok : ∀ r ∈ rows, r.ok) (hl : rows.length ≤ 100) (T : List D) (hT : T.Perm (rows.map Ro.R))
    (q : ∀ d S', d = .non ∨ Tw rows d → Pen S' p pc (b + 1) → Kp p S S' → Q d S') : m_wtwin [.ref p, .tup T] S Q := by
  rw [e_wtwin]
  refine seq_i ?_
  simp_arith []
  refine ⟨by decide, fun f hf => ?_⟩
  have nf := h.ne hf
  have e1 : updS S f (.lst []) f = some (.lst []) := updS_same
  have k1 : Kp p S (updS S f (.lst [])) := .new hf
  have p1 := h.new (o := .lst []) hf
  have hTl : T.length = rows.length := by rw [hT.length_eq, List.length_map]
  generalize updS S f (.lst []) = S1 at e1 k1 p1
  simp_arith [t_wtwin_2]
  refine seq_i ?_
  simp_arith []
  refine forL_inv _ (fun i σ S' => (∃ u3 u4, σ = [some (.ref p), some (.tup T), some (.ref f), u3, u4]) ∧ Pen S' p pc b ∧ Kp p S S' ∧ ∃ found : List D, S' f = some (.lst found) ∧ found.length ≤ 7 * i ∧ ∀ z ∈ found, Tw rows z)
    (fun i σ S' hI => trivial) (fun i x σ S' N hi hI hN => ?turn) (fun σ S' hI => ?fin) ⟨⟨_, _, rfl⟩, p1, k1, [], e1, Nat.le_refl _, fun z hz => nomatch hz⟩
  case turn =>
    obtain ⟨⟨u3, u4, rfl⟩, p2, g2, found, ef, hfl, hfY⟩ := hI
    have hil := (List.getElem?_eq_some_iff.mp hi).1
    have hTl : T.length = rows.length := by rw [hT.length_eq, List.length_map]
    obtain ⟨r, hr, hre⟩ := List.mem_map.mp (hT.mem_iff.mp (List.mem_of_getElem? hi))
    subst hre
    have hro := ok _ hr
    obtain ⟨items, hR, hi7, hit⟩ := hro.row.ri
    rw [hR]
    simp_arith [l_wtwin_2]
    refine ⟨by omega, ?_⟩
    rw [show ((items.length : Int) - 2).toNat = items.length - 2 by omega]
    refine forR_inv 2 (items.length - 2) (fun j σ S'' => (∃ u4, σ = [some (.ref p), some (.tup T), some (.ref f), some (.tup items), u4]) ∧ Pen S'' p pc b ∧ Kp p S S'' ∧ ∃ found : List D, S'' f = some (.lst found) ∧ found.length ≤ 7 * i + j ∧ ∀ z ∈ found, Tw rows z)
      (fun _ _ _ _ => trivial) (fun j σ S'' N2 hj hI2 hN2 => ?turn2) (fun σ S'' hI2 => ?fin2) ⟨⟨_, rfl⟩, p2, g2, found, ef, hfl, hfY⟩
    case turn2 =>
      obtain ⟨⟨u4, rfl⟩, p3, g3, found, ef, hfl, hfY⟩ := hI2
      have hj2 : j + 2 < items.length := by omega
      have ej : (2 : Int) + (j : Nat) = ((j + 2 : Nat) : Int) := by omega
      rw [ej]
      have eg : items[j + 2]? = some items[j + 2] := List.getElem?_eq_getElem hj2
      simp_arith [l_wtwin_3]
      refine ⟨_, atI_nat eg, ?_⟩
      have hno : hN2 = hN2 := rfl
      have done : N2 [some (.ref p), some (.tup T), some (.ref f), some (.tup items), some (.int ((j + 2 : Nat) : Int))] S'' := hN2 _ _ ⟨⟨_, rfl⟩, p3, g3, found, ef, by omega, hfY⟩
      rcases hit _ (List.getElem_mem hj2) with ⟨z, hz⟩ | ⟨k, hz⟩ | ⟨l, hz⟩
      · rw [hz]; simp_arith []; exact done
      · rw [hz] at eg ⊢
        simp_arith []
        refine ⟨_, atI_nat eg, by decide, rfl, rfl, ?_⟩
        split
        · have c1 : cutL items none (some ((j + 2 : Nat) : Int)) = items.take (j + 2) := cutL_to _ _
          have c2 : cutL items (some (((j + 2 : Nat) : Int) + 1)) none = items.drop (j + 2 + 1) := by rw [show ((j + 2 : Nat) : Int) + 1 = ((j + 2 + 1 : Nat) : Int) by omega]; exact cutL_from _ _
          rw [c1, c2, ef]
          refine ⟨rfl, _, atI_nat eg, ?_⟩
          simp_arith []
          rw [set_cut items (j + 2) hj2]
          have nfS : S f = none := hf
          refine ⟨by decide, line_le (by rw [List.length_take]; omega), line_le (by rw [List.length_append, List.length_take, List.length_drop]; show _ + 1 + _ ≤ _; omega), _, ef, line_of (by omega), hN2 _ _ ⟨⟨_, rfl⟩, p3.put2 nf.1 nf.2, fun a o hn e => ?_, found ++ [_], updS_same, by rw [List.length_append]; show _ + 1 ≤ _; omega, fun z hz2 => ?_⟩⟩
          · rw [updS_ne (fun x => by subst x; rw [hf] at e; cases e)]
            exact g3 a o hn e
          · rcases List.mem_append.mp hz2 with hz2 | hz2
            · exact hfY z hz2
            · rw [List.mem_singleton] at hz2
              exact ⟨r, hr, items, j + 2, k, _, hR, by omega, eg, hz2⟩
        · exact done
      · rw [hz]; simp_arith []; exact done
    case fin2 =>
      obtain ⟨⟨u4, rfl⟩, p3, g3, found, ef, hfl, hfY⟩ := hI2
      exact hN _ _ ⟨⟨_, _, rfl⟩, p3, g3, found, ef, by omega, hfY⟩
  case fin =>
    obtain ⟨⟨u3, u4, rfl⟩, p2, g2, found, ef, hfl, hfY⟩ := hI
    simp_arith [t_wtwin_6]
    refine seq_i ?_
    simp_arith []
    obtain ⟨ps, hps, hd⟩ := pds_of (S := S') (ds := found) (k := 4) fun x hx => Tw.pd ok (hfY x hx)
    refine ⟨nil_line, fun c2 hc2 => ?_⟩
    have nc2 : f ≠ c2 := neS ef hc2
    refine ⟨.list ps, .list [], .lst (by rw [updS_ne nc2]; exact ef) (LW.PDs.gr (fun a o e => by rw [updS_ne (neS e hc2)]; exact e) hps), .lst updS_same .nil, by rw [show (PyData.list ps).depth = PyData.depthAll ps + 1 from by unfold PyData.depth; rfl]; omega, ?_⟩
    rw [eqv_nil]
    have p4 := p2.new (o := .lst []) hc2
    have g4 : Kp p S (updS S' c2 (.lst [])) := g2.trans (.new hc2)
    have ef4 : updS S' c2 (.lst []) f = some (.lst found) := by rw [updS_ne nc2]; exact ef
    generalize updS S' c2 (.lst []) = S4 at p4 g4 ef4
    cases hps with
    | nil =>
      simp_arith []
      exact q _ _ (.inl rfl) (p4.mono (by omega)) g4
    | @cons d1 p1 ds1 ps1 _ _ =>
      simp_arith []
      simp_arith [t_wtwin_8]
      simp_arith [ef4]
      rw [List.length_cons] at hfl
      refine take_spec p4 (by omega) (by omega) (log_smallN (by omega) (by omega)) fun k S5 a5 b5 p5 g5 => ?_
      rw [g5 _ _ nf.1 ef4, oIx_li]
      obtain ⟨j, rfl⟩ : ∃ j : Nat, k = (j : Nat) := ⟨k.toNat, by omega⟩
      have hj : j < (d1 :: ds1).length := by rw [List.length_cons]; omega
      exact ⟨_, atI_nat (List.getElem?_eq_getElem hj), q _ _ (.inr (hfY _ (List.getElem_mem hj))) p5 (g4.trans g5)⟩
end LW
/-! k07: what is put in, plain -/
namespace LW
open PySem L2 DL
theorem RowOk.nm {n n' w : Str} {d : Int} {R : D} (h : RowOk n d w R) : ∃ rest, R = .tup (.str w :: .str n :: .int d :: rest) ∧ RowOk n' d w (.tup (.str w :: .str n' :: .int d :: rest)) := by
  cases h with
  | part hl h2 h6 hr hp => exact ⟨_, rfl, .part hl h2 h6 hr hp⟩
  | join h2 h6 hr hp hl => exact ⟨_, rfl, .join h2 h6 hr hp hl⟩
  | forfeit hl hh => exact ⟨_, rfl, .forfeit hl hh⟩
  | measure hf i0 i1 => exact ⟨_, rfl, .measure hf i0 i1⟩
  | mend hh hg ne => exact ⟨_, rfl, .mend hh hg ne⟩
  | alone hh => exact ⟨_, rfl, .alone hh⟩
  | breach hf i0 i1 c0 c1 s0 s1 => exact ⟨_, rfl, .breach hf i0 i1 c0 c1 s0 s1⟩
  | view hf i0 i1 hh => exact ⟨_, rfl, .view hf i0 i1 hh⟩
theorem FIn.nm {P : Str → Prop} {n n' w : Str} {d : Int} {rest : List D} (h : FIn P w (.tup (.str w :: .str n :: .int d :: rest))) : FIn P w (.tup (.str w :: .str n' :: .int d :: rest)) := fun hw a b x r e => by
  simp only [D.tup.injEq, List.cons.injEq, true_and] at e
  obtain ⟨_, _, e⟩ := e
  exact h hw _ _ x r (by rw [e])
/-- a row with another name -/
theorem ro_named {r : Ro} (h : r.ok) {n' : Str} (hn : Nm n') : ∃ (rest : List D) (r' : Ro), r.R = .tup (.str r.w :: .str r.n :: .int r.d :: rest) ∧ r'.ok ∧ r'.n = n' ∧ r'.w = r.w ∧ r'.R = .tup (.str r.w :: .str n' :: .int r.d :: rest) ∧ (n' = r.n → r' = r) ∧ ∀ P, FIn P r.w r.R → FIn P r'.w r'.R := by
  obtain ⟨rest, e, h2⟩ := h.row.nm (n' := n')
  refine ⟨rest, ⟨r.w, n', r.d, .tup (.str r.w :: .str n' :: .int r.d :: rest)⟩, e, ⟨hn, h.d0, h.d1, h2⟩, rfl, rfl, rfl, fun e2 => ?_, fun P hP => ?_⟩
  · subst e2
    cases r
    dsimp only at e ⊢
    rw [e]
  · rw [e] at hP
    exact hP.nm
def NoI (xs : List Fd) (X : D) (S : Sto) : Prop := ∀ S' (Q : DK), Gr S S' → (∀ S2, Gr S' S2 → Q .non S2) → m_row_in [.tup (xs.map Fd.D), X] S' Q
def RowI (xs : List Fd) (X : D) (r : Ro) (S : Sto) : Prop := ∀ S' (Q : DK), Gr S S' → (∀ S2, Gr S' S2 → Q r.R S2) → m_row_in [.tup (xs.map Fd.D), X] S' Q
structure PutOk (S : Sto) (xs : List Fd) (rows : List Ro) (fresh : Ro) (X : D) (word : Str) : Prop where
  sm : Sm S 4 2000 X
  cs : (word = "NoRow" ∧ NoI xs X S) ∨ ∃ r : Ro, r.ok ∧ RowI xs X r S ∧ ((word = "Twice" ∧ r.n ∈ rows.map Ro.n) ∨ (word = "TooMany" ∧ r.n ∉ rows.map Ro.n ∧ 40 ≤ rows.length) ∨ (word = "" ∧ r = fresh ∧ r.n ∉ rows.map Ro.n ∧ rows.length < 40))
theorem NoR.noI {S : Sto} {X : D} {xs : List Fd} (h : NoR S X) : NoI xs X S := fun S' Q g q => row_in_bad (fun Q E hE => h S' g Q E hE) q
theorem th_rowI {S0 S : Sto} {r : Ro} {X : D} {xs : List Fd} (hr : r.ok) (hF : FIn (· ∈ xs.map (·.f)) r.w r.R) (h8 : xs.length ≤ 8) (h : Th S0 S r X) : RowI xs X r S := fun S' Q g q => row_in_th hr hF h8 (h.gr g) q
/-- of a row that is too short or too long -/
theorem long_row {w : Str} {a b : D} {rest : List D} {n : Int} (ht : tabAt tab_SIZES w = some n) (hn : ((3 + rest.length : Nat) : Int) ≠ n) (hl : 1 ≤ rest.length) {S : Sto} {Q : DK} (q : ∀ S', Gr S S' → Q (.bl false) S') : m_is_row [.tup (.str w :: a :: b :: rest)] S Q := by
  rw [e_is_row]
  refine seq_i ?_
  simp_arith []
  rw [if_neg (show ¬ ((((rest.length + 1 + 1 + 1 : Nat)) : Int) < 4) by omega)]
  refine ⟨_, atI_nat (j := 0) rfl, _, rfl, ?_⟩
  simp_arith []
  simp_arith [t_is_row_3]
  refine seq_i ?_
  simp_arith []
  refine ⟨_, atI_nat (j := 0) rfl, ?_⟩
  simp_arith [ht]
  refine ⟨rfl, _, atI_nat (j := 0) rfl, ?_⟩
  have el : ¬ (((rest.length + 1 + 1 + 1 : Nat) : Int) = n) := fun e => hn (by rw [← e]; omega)
  simp_arith [ht, el]
  exact q _ .refl
theorem noR_len {M : Sto} {w : Str} {a b : D} {rest : List D} {n : Int} (ht : tabAt tab_SIZES w = some n) (hn : ((3 + rest.length : Nat) : Int) ≠ n) (h1 : 1 ≤ rest.length) (hpj : rest.length = 2 → w ≠ "part" ∧ w ≠ "join") : NoR M (.tup (.str w :: a :: b :: rest)) := by
  by_cases h5 : rest.length = 2
  · exact noR_any (fun e => absurd e (hpj h5).1) (fun e => absurd e (hpj h5).2) fun S Q g q => long_row ht hn h1 q
  · exact fun S g Q E hE => row_of_bad (R := .tup (.str w :: a :: b :: rest)) (fun Q q => as_tuple_id (ty := "tuple") rfl (by decide) q) (.inr ⟨_, rfl, by simp only [List.length_cons]; omega⟩) (fun S' Q g' q => long_row ht hn h1 q) hE
theorem short_noR {M : Sto} {n w : Str} {d : Int} {R : D} (h : RowOk n d w R) {items : List D} (e : R = .tup items) : NoR M (.tup items.dropLast) := by
  cases h with
  | part => injection e with e; subst e; exact noR_len (n := 5) (by decide +kernel) (by simp) (by simp) (fun h => by simp at h)
  | join => injection e with e; subst e; exact noR_len (n := 5) (by decide +kernel) (by simp) (by simp) (fun h => by simp at h)
  | forfeit => injection e with e; subst e; exact noR_len (n := 5) (by decide +kernel) (by simp) (by simp) (fun h => by simp at h)
  | measure => injection e with e; subst e; exact noR_len (n := 5) (by decide +kernel) (by simp) (by simp) (fun h => by simp at h)
  | mend => injection e with e; subst e; exact noR_len (n := 5) (by decide +kernel) (by simp) (by simp) (fun h => by simp at h)
  | alone => injection e with e; subst e; exact noR_short (by simp)
  | breach => injection e with e; subst e; exact noR_len (n := 7) (by decide +kernel) (by simp) (by simp) (fun h => by simp at h)
  | view => injection e with e; subst e; exact noR_len (n := 6) (by decide +kernel) (by simp) (by simp) (fun _ => ⟨by decide +kernel, by decide +kernel⟩)
theorem long_noR {M : Sto} {n w : Str} {d : Int} {R : D} (h : RowOk n d w R) {items : List D} (e : R = .tup items) : NoR M (.tup (items ++ [.int 1])) := by
  cases h with
  | part => injection e with e; subst e; exact noR_len (n := 5) (by decide +kernel) (by simp) (by simp) (fun h => by simp at h)
  | join => injection e with e; subst e; exact noR_len (n := 5) (by decide +kernel) (by simp) (by simp) (fun h => by simp at h)
  | forfeit => injection e with e; subst e; exact noR_len (n := 5) (by decide +kernel) (by simp) (by simp) (fun h => by simp at h)
  | measure => injection e with e; subst e; exact noR_len (n := 5) (by decide +kernel) (by simp) (by simp) (fun h => by simp at h)
  | mend => injection e with e; subst e; exact noR_len (n := 5) (by decide +kernel) (by simp) (by simp) (fun h => by simp at h)
  | alone => injection e with e; subst e; exact noR_len (n := 4) (by decide +kernel) (by simp) (by simp) (fun _ => ⟨by decide +kernel, by decide +kernel⟩)
  | breach => injection e with e; subst e; exact noR_len (n := 7) (by decide +kernel) (by simp) (by simp) (fun h => by simp at h)
  | view => injection e with e; subst e; exact noR_len (n := 6) (by decide +kernel) (by simp) (by simp) (fun h => by simp at h)
end LW
/-! k07: rows compared; what is put in -/
namespace LW
open PySem L2 DL
mutual
theorem pd_one {S : Sto} : ∀ {d : D} {p : PyData}, PD S d p → purD d = true → p = toP d
  | _, _, .int i, _ => by unfold toP; rfl
  | _, _, .str z, _ => by unfold toP; rfl
  | _, _, .tup h, e => by unfold toP; unfold purD at e; rw [pds_one h e]
  | _, _, .non, e => by unfold purD at e; cases e
  | _, _, .bl _, e => by unfold purD at e; cases e
  | _, _, .kt _, e => by unfold purD at e; cases e
  | _, _, .lst _ _, e => by unfold purD at e; cases e
theorem pds_one {S : Sto} : ∀ {ds : List D} {ps : List PyData}, PDs S ds ps → purDs ds = true → ps = toPs ds
  | _, _, .nil, _ => by unfold toPs; rfl
  | _, _, .cons h t, e => by
    unfold toPs
    unfold purDs at e
    rw [Bool.and_eq_true] at e
    rw [pd_one h e.1, pds_one t e.2]
end
theorem row_dep {r : Ro} (h : r.ok) : (toP r.R).depth ≤ 32 := by
  obtain ⟨items, e, hl, hi⟩ := row_items h.hn h.d0 h.d1 h.row
  obtain ⟨p, h1, h2⟩ := tup_pd (S := fun _ => none) (k := 2) fun y hy => item_pd (hi y hy)
  rw [← e] at h1
  have : p = toP r.R := pd_one h1 h.pur
  rw [← this]
  omega
open Classical in
theorem eq_rows {f : Bool → Bool} {x y : Ro} (hx : x.ok) (hy : y.ok) {S : Sto} {Q : DK} (q : Q (.bl (f (decide (x.R = y.R)))) S) : gEq f x.R y.R S Q := by
  obtain ⟨rx, ex⟩ := ro_tup hx
  have e0 : eqS x.R y.R = none := by
    obtain ⟨ry, ey⟩ := ro_tup hy
    rw [ex, ey]; rfl
  unfold gEq
  rw [e0]
  refine ⟨_, _, toP_pd hx.pur, toP_pd hy.pur, by have := row_dep hx; omega, ?_⟩
  have : PyData.eqv (toP x.R) (toP y.R) = decide (x.R = y.R) := by
    rw [Bool.eq_iff_iff, toP_iff hx.pur hy.pur, decide_eq_true_eq]
  rw [this]
  exact q
theorem row_pdd {r : Ro} (h : r.ok) {S : Sto} : ∃ p, PD S r.R p ∧ p.depth ≤ 3 := by
  obtain ⟨items, e, hl, hi⟩ := row_items h.hn h.d0 h.d1 h.row
  rw [e]
  exact tup_pd (k := 2) fun y hy => item_pd (hi y hy)
theorem eq_rows_nil {f : Bool → Bool} {rows : List Ro} (ok : ∀ r ∈ rows, r.ok) {S : Sto} {Q : DK} (q : Q (.bl (f (decide (rows = [])))) S) : gEq f (.tup (srt rows)) (.tup []) S Q := by
  obtain ⟨p, hp, hd⟩ := pds_of (S := S) (ds := srt rows) (k := 3) fun x hx => by
    obtain ⟨r, hr, e⟩ := List.mem_map.mp (srt_mem.mp hx)
    rw [← e]
    exact row_pdd (ok r hr)
  refine ⟨.tuple p, .tuple [], .tup hp, .tup .nil, by rw [show (PyData.tuple p).depth = PyData.depthAll p + 1 from by unfold PyData.depth; rfl]; omega, ?_⟩
  have hl := srt_len rows
  have : PyData.eqv (.tuple p) (.tuple []) = decide (rows = []) := by
    generalize srt rows = T at hp hl
    cases hp with
    | nil =>
      have hr : rows = [] := List.length_eq_zero_iff.mp hl.symm
      rw [decide_eq_true hr]
      simp [PyData.eqv, PyData.eqvAll]
    | cons a b =>
      have hr : rows ≠ [] := fun e => by
        rw [e] at hl
        cases hl
      rw [decide_eq_false hr]
      simp [PyData.eqv, PyData.eqvAll]
  rw [this]
  exact q
/-- the odd things -/
theorem put_odd {S : Sto} {xs : List Fd} {rows : List Ro} {fresh : Ro} {n' strange : Str} {a1 a2 a3 : Addr} {items : List DL.D} (hf : fresh.ok) (hfi : fresh.R = .tup items) (hn : Nm n') (hs : Nm strange) (hs2 : strange ∉ xs.map (·.f)) (h8 : xs.length ≤ 8)
    (e1 : S a1 = some (.lst [])) (e2 : S a2 = some (.dk [])) (e3 : S a3 = some (.lst [.str "alone", .str n', .bl true, .str "a"])) {z : DL.D}
    (hz : z ∈ [DL.D.non, .bl true, .int 7, .str "", .tup [], .ref a1, .ref a2, .tup items.dropLast, .tup (items ++ [.int 1]), .tup [.str "view", .str n', .int 0, .str strange, .int 0, .str "a"], .tup [.str "alone", .str n', .int 10000, .str "a"], .ref a3]) : PutOk S xs rows fresh z "NoRow" := by
  have na : Nm "a" := ⟨by decide +kernel, by decide +kernel, fun c hc => by
    have : c ∈ [97] := hc
    rw [List.mem_singleton] at this
    omega⟩
  have hl7 : items.length ≤ 7 ∧ ∀ x ∈ items, itemD x := by
    obtain ⟨items2, e, hl, hi⟩ := row_items hf.hn hf.d0 hf.d1 hf.row
    rw [hfi] at e
    cases e
    exact ⟨hl, hi⟩
  simp only [List.mem_cons, List.not_mem_nil, or_false] at hz
  rcases hz with rfl | rfl | rfl | rfl | rfl | rfl | rfl | rfl | rfl | rfl | rfl | rfl
  · exact ⟨sm_non, .inl ⟨rfl, (noR_oth (ty := "NoneType") rfl (by decide) (by decide)).noI⟩⟩
  · exact ⟨sm_bl _, .inl ⟨rfl, (noR_oth (ty := "bool") rfl (by decide) (by decide)).noI⟩⟩
  · exact ⟨sm_int (by decide) (by decide), .inl ⟨rfl, (noR_oth (ty := "int") rfl (by decide) (by decide)).noI⟩⟩
  · exact ⟨sm_str (by decide +kernel) (by decide +kernel), .inl ⟨rfl, (noR_oth (ty := "str") rfl (by decide) (by decide)).noI⟩⟩
  · exact ⟨(sm_tup (k := 0) (n := 0) (m := 0) (fun x hx => by cases hx) (Nat.le_refl _)).mono (by decide) (by decide), .inl ⟨rfl, (noR_short (by decide)).noI⟩⟩
  · exact ⟨(sm_lst (k := 0) (n := 0) (m := 0) e1 (fun x hx => by cases hx) (Nat.le_refl _)).mono (by decide) (by decide), .inl ⟨rfl, (noR_list e1).noI⟩⟩
  · exact ⟨(sm_dct (k := 0) (m := 0) e2).mono (by decide) (by decide), .inl ⟨rfl, (noR_oth (ty := "dict") (by rw [tyD_r, e2]; rfl) (by decide) (by decide)).noI⟩⟩
  · exact ⟨(sm_tup (k := 2) (n := 7) (m := 168) (fun x hx => item_sm (hl7.2 x ((List.dropLast_sublist _).subset hx))) (by rw [List.length_dropLast]; omega)).mono (by decide) (by decide), .inl ⟨rfl, (short_noR hf.row hfi).noI⟩⟩
  · refine ⟨(sm_tup (k := 2) (n := 8) (m := 168) (fun x hx => ?_) (by rw [List.length_append, List.length_singleton]; omega)).mono (by decide) (by decide), .inl ⟨rfl, (long_noR hf.row hfi).noI⟩⟩
    rcases List.mem_append.mp hx with hx | hx
    · exact item_sm (hl7.2 x hx)
    · rw [List.mem_singleton.mp hx]; exact sm_int (by decide) (by decide)
  · have hr : (⟨"view", n', 0, .tup [.str "view", .str n', .int 0, .str strange, .int 0, .str "a"]⟩ : Ro).ok := ⟨hn, Int.le_refl _, by show (0 : Int) ≤ 9999; decide, .view hs (by decide) (by decide) na⟩
    refine ⟨(th_self (S0 := S) (S := S) hr).sm.mono (by decide) (by decide), .inl ⟨rfl, fun S' Q g q => ?_⟩⟩
    refine row_in_strange hr (by show ("view" : Str) ∈ three; decide +kernel) (fun _ a b x r e => ?_) h8 q
    cases e
    exact hs2
  · have hr : (⟨"alone", n', 0, .tup [.str "alone", .str n', .int 0, .str "a"]⟩ : Ro).ok := ⟨hn, Int.le_refl _, by show (0 : Int) ≤ 9999; decide, .alone na⟩
    refine ⟨(sm_tup (k := 2) (n := 4) (m := 168) (fun x hx => ?_) (Nat.le_refl _)).mono (by decide) (by decide), .inl ⟨rfl, (noR_four hn.okT (okT_int _) (by rw [Bool.and_eq_false_iff]; exact .inr (by decide))).noI⟩⟩
    simp only [List.mem_cons, List.not_mem_nil, or_false] at hx
    rcases hx with rfl | rfl | rfl | rfl
    · exact sm_str (by decide +kernel) (by decide +kernel)
    · exact sm_nm hn (by decide)
    · exact sm_int (by decide) (by decide)
    · exact sm_nm na (by decide)
  · refine ⟨(sm_lst (k := 2) (n := 4) (m := 168) e3 (fun x hx => ?_) (Nat.le_refl _)).mono (by decide) (by decide), .inl ⟨rfl, ?_⟩⟩
    · simp only [List.mem_cons, List.not_mem_nil, or_false] at hx
      rcases hx with rfl | rfl | rfl | rfl
      · exact sm_str (by decide +kernel) (by decide +kernel)
      · exact sm_nm hn (by decide)
      · exact sm_bl _
      · exact sm_nm na (by decide)
    · exact (show NoR S (.ref a3) from fun S' g Q E hE => row_of_bad (R := .tup [.str "alone", .str n', .bl true, .str "a"]) (fun Q q => as_tuple_spec (.lst (g _ _ e3)) (by rfl) q) (.inr ⟨_, rfl, by simp⟩)
        (fun S2 Q g' q => row_head (rest := [.str "a"]) (show tabAt tab_SIZES "alone" = some ((3 + 1 : Nat) : Int) by decide +kernel) (Nat.le_refl _) hn.okT (okT_bl true) (fun _ => q) fun _ h => by cases h) hE).noI
end LW
/-! k07: what is put in, walked -/
namespace LW
open PySem L2 DL
theorem srt_nm {rows : List Ro} (ok : ∀ r ∈ rows, r.ok) {j : Nat} (hj : j < (srt rows).length) : ∃ r ∈ rows, (srt rows)[j] = r.R := by
  obtain ⟨r, hr, e⟩ := List.mem_map.mp (srt_mem.mp (List.getElem_mem hj))
  exact ⟨r, hr, e.symm⟩
noncomputable abbrev pEnv (p : Addr) (xs : List Fd) (rows : List Ro) (F : DL.D) (strange n' : Str) (way : Int) (u6 u7 u10 : Option DL.D) : DL.Env :=
  [some (.ref p), some (.tup [.tup (xs.map Fd.D), .tup (srt rows)]), some F, some (.str strange), some (.int way), some (.str n'), u6, u7, some (.tup (xs.map Fd.D)), some (.tup (srt rows)), u10]
theorem index_strS {c : Addr} {l : List Str} {h : Str} {S : Sto} {Q : DK} (e : S c = some (.lst (l.map .str))) (hm : h ∈ l) (q : Q (.int (l.idxOf h : Nat)) S) : gIndex (.ref c) [.str h] S Q := by
  have hj : l.idxOf h < l.length := List.idxOf_lt_length_iff.mpr hm
  refine ⟨_, _, by unfold itmD; dsimp only; rw [e], rfl, rfl, flat_nmsX l, l.idxOf h, .str h, by rw [List.getElem?_map, List.getElem?_eq_getElem hj, List.getElem_idxOf hj]; rfl, by show decide (h = h) = true; exact decide_eq_true rfl, fun m z hlt hz => ?_, q⟩
  have hml : m < l.length := by omega
  rw [List.getElem?_map, List.getElem?_eq_getElem hml] at hz
  cases hz
  show decide (l[m] = h) = false
  exact decide_eq_false (PySem.SeqAt.lt_idxOf_ne hlt hml)
theorem drawD {ds : List D} {i : Int} (h0 : 0 ≤ i) (h : i < ds.length) : ∃ z ∈ ds, atI ds i = some z := by
  obtain ⟨k, rfl⟩ : ∃ k : Nat, i = (k : Nat) := ⟨i.toNat, by omega⟩
  have hl : k < ds.length := by omega
  exact ⟨ds[k], List.getElem_mem hl, atI_nat (by simp [hl])⟩
theorem put_in_17 {p pc : Addr} {b : Nat} {xs : List Fd} {rows : List Ro} {fresh : Ro} {n' word strange : Str} {way : Int} {S : Sto} {Q : DK} {u7 u10 : Option DL.D} (h : Pen S p pc b) (hb : b + 300 ≤ 100000) (hf : fresh.ok) (hs : Nm strange) (hs2 : strange ∉ xs.map (·.f)) (h8 : xs.length ≤ 8) (hn : Nm n')
    (q : ∀ X word S', PutOk S' xs rows fresh X word → Pen S' p pc (b + 190) → Kp p S S' → Q (.tup [X, .str word]) S') : t_wput_in_17 (endsD Q) (pEnv p xs rows fresh.R strange n' way (some (.str word)) u7 u10) S := by
  obtain ⟨items, hfi, hl7, hit⟩ := hf.row.ri
  have cl : cutL items none (some (-1)) = items.dropLast := by
    unfold cutL
    rw [HT.sIx_none]
    rw [show HT.sIx items.length items.length (some (-1)) = items.length - 1 from by unfold HT.sIx; show (if (-1 : Int) < 0 then ((-1 : Int) + (items.length : Nat)).toNat else _) = _; rw [if_pos (by decide)]; omega, Nat.sub_zero, List.drop_zero, List.dropLast_eq_take]
  unfold t_wput_in_17
  refine seq_i ?_
  rw [hfi]
  simp_arith []
  rw [cl]
  refine ⟨Nat.zero_le _, Nat.zero_le _, fun a1 h1 a2 h2 => ⟨by decide, line_le (by omega), by decide, by decide, fun a3 h3 => ?_⟩⟩
  have nn1 := h.ne h1
  have p1 := h.new (o := .lst []) h1
  have nn2 := p1.ne h2
  have p2 := p1.new (o := .dk []) h2
  have g2 := (Gr.new (o := .lst []) h1).trans (Gr.new (o := .dk []) h2)
  have e1 : updS (updS S a1 (.lst [])) a2 (.dk []) a1 = some (.lst []) := (Gr.new (o := .dk []) h2) _ _ updS_same
  have e2 : updS (updS S a1 (.lst [])) a2 (.dk []) a2 = some (.dk []) := updS_same
  generalize updS (updS S a1 (.lst [])) a2 (.dk []) = S2 at p2 g2 e1 e2 h3
  generalize hL : [D.non, D.bl true, D.int 7, D.str (Str.ofString ""), D.tup [], D.ref a1, D.ref a2, D.tup items.dropLast, D.tup (items ++ [D.int 1]), D.tup [D.str (Str.ofString "view"), D.str n', D.int 0, D.str strange, D.int 0, D.str (Str.ofString "a")]] = L
  have hLl : L.length = 10 := by rw [← hL]; rfl
  have p3 := p2.new (o := .lst L) h3
  have g3 := g2.trans (Gr.new (o := .lst L) h3)
  have f1 := (Gr.new (o := .lst L) h3) _ _ e1
  have f2 := (Gr.new (o := .lst L) h3) _ _ e2
  have f3 : updS S2 a3 (.lst L) a3 = some (.lst L) := updS_same
  generalize updS S2 a3 (.lst L) = S3 at p3 g3 f1 f2 f3
  unfold t_wput_in_18
  refine seq_i ?_
  simp_arith []
  refine ⟨by decide, by decide, fun a4 h4 => ⟨by decide, fun a5 h5 => ?_⟩⟩
  have p4 := p3.new (o := .lst [.str "alone", .str n', .bl true, .str "a"]) h4
  have g4 := Gr.new (o := .lst [.str "alone", .str n', .bl true, .str "a"]) h4
  have f4 : updS S3 a4 (.lst [.str "alone", .str n', .bl true, .str "a"]) a4 = some (.lst [.str "alone", .str n', .bl true, .str "a"]) := updS_same
  have i1 := g4 _ _ f1
  have i2 := g4 _ _ f2
  have i3 := g4 _ _ f3
  have g04 := g3.trans g4
  generalize updS S3 a4 (.lst [.str "alone", .str n', .bl true, .str "a"]) = S4 at p4 g4 f4 i1 i2 i3 g04 h5
  have g5 := Gr.new (o := .lst [.tup [.str "alone", .str n', .int 10000, .str "a"], .ref a4]) h5
  have p5 := p4.new (o := .lst [.tup [.str "alone", .str n', .int 10000, .str "a"], .ref a4]) h5
  refine ⟨_, g5 _ _ i3, _, updS_same, by rw [hLl]; exact line_le (by simp), fun a6 h6 => ?_⟩
  have j1 := g5 _ _ i1
  have j2 := g5 _ _ i2
  have j4 := g5 _ _ f4
  have g05 := g04.trans g5
  generalize updS S4 a5 (.lst [.tup [.str "alone", .str n', .int 10000, .str "a"], .ref a4]) = S5 at g5 p5 j1 j2 j4 g05 h6
  generalize hM : L ++ [.tup [.str "alone", .str n', .int 10000, .str "a"], .ref a4] = M
  have hMl : M.length = 12 := by rw [← hM, List.length_append, hLl]; rfl
  have nn6 := p5.ne h6
  have p6 := p5.new (o := .lst M) h6
  have g6 := Gr.new (o := .lst M) h6
  have e6 : updS S5 a6 (.lst M) a6 = some (.lst M) := updS_same
  have m1 := g6 _ _ j1
  have m2 := g6 _ _ j2
  have m4 := g6 _ _ j4
  have g06 := g05.trans g6
  generalize updS S5 a6 (.lst M) = S6 at p6 g6 e6 m1 m2 m4 g06
  unfold t_wput_in_19
  refine ret_i ?_
  simp_arith []
  refine take_spec p6 (by omega) (by decide) (by decide) fun t S7 t0 t1 p7 k7 => ?_
  have e7 := k7 _ _ nn6.1 e6
  rw [e7]
  obtain ⟨z, hz, ez⟩ := drawD (ds := M) t0 (by rw [hMl]; exact t1)
  simp_arith []
  refine ⟨_, ez, by decide, ?_⟩
  have na1 : a1 ≠ p := nn1.1
  have na2 : a2 ≠ p := nn2.1
  have na4 : a4 ≠ p := (p3.ne h4).1
  refine q z _ S7 (put_odd hf hfi hn hs hs2 h8 (k7 _ _ na1 m1) (k7 _ _ na2 m2) (k7 _ _ na4 m4) ?_) (p7.mono (by omega)) (g06.kp.trans k7)
  rw [← hM, ← hL] at hz
  exact hz
theorem put_in_13 {p pc : Addr} {b : Nat} {xs : List Fd} {rows : List Ro} {fresh : Ro} {n' word strange : Str} {way : Int} {S : Sto} {Q : DK} {u7 u10 : Option DL.D} (h : Pen S p pc b) (hb : b + 300 ≤ 100000) (ok : ∀ r ∈ rows, r.ok) (hl : rows.length ≤ 40) (hf : fresh.ok) (hs : Nm strange) (hs2 : strange ∉ xs.map (·.f)) (h8 : xs.length ≤ 8) (hn : Nm n')
    (q : ∀ X word S', PutOk S' xs rows fresh X word → Pen S' p pc (b + 190) → Kp p S S' → Q (.tup [X, .str word]) S') : t_wput_in_13 (endsD Q) (pEnv p xs rows fresh.R strange n' way (some (.str word)) u7 u10) S := by
  have hr : (⟨"measure", n', 0, .tup [.str "measure", .str n', .int 0, .str strange, .int 0]⟩ : Ro).ok := ⟨hn, Int.le_refl _, by show (0 : Int) ≤ 9999; decide, .measure hs (by decide) (by decide)⟩
  unfold t_wput_in_13
  refine seq_i ?_
  simp_arith []
  refine ⟨by decide, rfl, by rfl, ?_⟩
  by_cases c : way = 4 ∨ way = 5
  · rw [if_pos (by rcases c with rfl | rfl <;> rfl)]
    refine ⟨by decide, by decide, q _ _ S ⟨(th_self (S0 := S) (S := S) hr).sm.mono (by decide) (by decide), .inl ⟨rfl, fun S' Q g q => ?_⟩⟩ (h.mono (by omega)) fun _ _ _ h => h⟩
    refine row_in_strange hr (by show ("measure" : Str) ∈ three; decide +kernel) (fun _ a b x r e => ?_) h8 q
    cases e
    exact hs2
  · rw [if_neg (fun z => c (by
      rw [List.any_cons, List.any_cons, List.any_nil, Bool.or_false, Bool.or_eq_true] at z
      rcases z with z | z
      · exact .inl (of_decide_eq_true (show decide ((4 : Int) = way) = true from z)).symm
      · exact .inr (of_decide_eq_true (show decide ((5 : Int) = way) = true from z)).symm))]
    unfold t_wput_in_15
    refine seq_i ?_
    simp_arith []
    by_cases c6 : way = 6
    · rw [if_pos c6]
      refine twin_spec h (by omega) ok (by omega) _ srt_pm fun d S1 hd p1 k1 => ?_
      refine ⟨by decide, q _ _ S1 ?_ (p1.mono (by omega)) k1⟩
      rcases hd with rfl | hd
      · exact ⟨sm_non, .inl ⟨rfl, (noR_oth (ty := "NoneType") rfl (by decide) (by decide)).noI⟩⟩
      · refine ⟨(hd.sm ok).mono (by decide) (by decide), .inl ⟨rfl, ?_⟩⟩
        obtain ⟨r, hr, items, j, i, t, hR, h2, hi, rfl⟩ := hd
        exact (twin_noR (ok r hr).hn (ok r hr).row hR h2 hi t).noI
    · rw [if_neg c6]
      exact put_in_17 h hb hf hs hs2 h8 hn q
/-- from the fourth way on -/
theorem put_in_tail {p pc : Addr} {b : Nat} {xs : List Fd} {rows : List Ro} {fresh : Ro} {n' word strange : Str} {way : Int} {S : Sto} {Q : DK} {u7 u10 : Option DL.D} (h : Pen S p pc b) (hb : b + 300 ≤ 100000) (ok : ∀ r ∈ rows, r.ok) (hl : rows.length ≤ 40) (hf : fresh.ok) (hs : Nm strange) (hs2 : strange ∉ xs.map (·.f)) (h8 : xs.length ≤ 8)
    (hRF : ∀ r ∈ rows, FIn (· ∈ xs.map (·.f)) r.w r.R) (hn : Nm n') (h3 : way = 3 → rows ≠ [] → n' ∈ rows.map Ro.n)
    (q : ∀ X word S', PutOk S' xs rows fresh X word → Pen S' p pc (b + 190) → Kp p S S' → Q (.tup [X, .str word]) S') : t_wput_in_11 (endsD Q) (pEnv p xs rows fresh.R strange n' way (some (.str word)) u7 u10) S := by
  obtain ⟨rest, ef⟩ := ro_tup hf
  unfold t_wput_in_11
  refine seq_i ?_
  simp_arith []
  by_cases c3 : way = 3
  · rw [if_pos c3]
    refine ⟨Nat.zero_le _, eq_rows_nil ok ?_⟩
    by_cases ce : rows = []
    · rw [decide_eq_true ce]
      simp_arith []
      exact put_in_13 h hb ok hl hf hs hs2 h8 hn q
    · rw [decide_eq_false ce]
      simp_arith []
      obtain ⟨ns, en, pn⟩ := srt_names ok
      have nsl : ns.length = rows.length := by rw [pn.length_eq, List.length_map]
      refine lcL_map nameD _ trivial (line_le (by rw [srt_len]; omega)) (fun y hy K hK => ?_) fun n hn2 => ?_
      · obtain ⟨x, hx, e⟩ := List.mem_map.mp (srt_mem.mp hy)
        subst e
        obtain ⟨rest2, ex⟩ := ro_tup (ok x hx)
        rw [ex] at hK ⊢
        simp_arith [c_wput_in_12]
        exact ⟨_, atI_nat (j := 1) rfl, hK⟩
      rw [en]
      have f1 : updS S n (.lst (ns.map .str)) n = some (.lst (ns.map .str)) := updS_same
      have p1 := h.new (o := .lst (ns.map .str)) hn2
      have g1 := Gr.new (o := .lst (ns.map .str)) hn2
      generalize updS S n (.lst (ns.map .str)) = S1 at f1 p1 g1
      simp_arith [f1]
      have hm : n' ∈ ns := pn.mem_iff.mpr (h3 c3 ce)
      have hj : ns.idxOf n' < ns.length := List.idxOf_lt_length_iff.mpr hm
      have hj2 : ns.idxOf n' < (srt rows).length := by rw [srt_len]; omega
      refine index_strS f1 hm ?_
      simp_arith []
      refine ⟨_, atI_nat (j := ns.idxOf n') (List.getElem?_eq_getElem hj2), by decide, ?_⟩
      obtain ⟨r, hr, er⟩ := srt_nm ok hj2
      rw [er]
      have rn : r.n ∈ rows.map Ro.n := List.mem_map_of_mem hr
      exact q _ _ S1 ⟨(th_self (S0 := S1) (S := S1) (ok r hr)).sm.mono (by decide) (by decide), .inr ⟨r, ok r hr, th_rowI (ok r hr) (hRF r hr) h8 (th_self (S0 := S1) (ok r hr)), .inl ⟨rfl, rn⟩⟩⟩ (p1.mono (by omega)) g1.kp
  · rw [if_neg c3]
    exact put_in_13 h hb ok hl hf hs hs2 h8 hn q
end LW
/-! k07: what is put in, the whole -/
namespace LW
open PySem L2 DL
theorem put_in_9 {p pc : Addr} {b : Nat} {xs : List Fd} {rows : List Ro} {fresh : Ro} {n' word strange : Str} {way : Int} {S : Sto} {Q : DK} {u7 u10 : Option DL.D} (h : Pen S p pc b) (hb : b + 350 ≤ 100000) (ok : ∀ r ∈ rows, r.ok) (hl : rows.length ≤ 40) (hf : fresh.ok) (hs : Nm strange) (hs2 : strange ∉ xs.map (·.f)) (h8 : xs.length ≤ 8)
    (hF : FIn (· ∈ xs.map (·.f)) fresh.w fresh.R) (hRF : ∀ r ∈ rows, FIn (· ∈ xs.map (·.f)) r.w r.R) (hn : Nm n') (h3 : way = 3 → rows ≠ [] → n' ∈ rows.map Ro.n)
    (hw : (word = "Twice" ∧ n' ∈ rows.map Ro.n) ∨ (word = "TooMany" ∧ n' = fresh.n ∧ n' ∉ rows.map Ro.n ∧ 40 ≤ rows.length) ∨ (word = "" ∧ n' = fresh.n ∧ n' ∉ rows.map Ro.n ∧ rows.length < 40))
    (q : ∀ X word S', PutOk S' xs rows fresh X word → Pen S' p pc (b + 190) → Kp p S S' → Q (.tup [X, .str word]) S') : t_wput_in_9 (endsD Q) (pEnv p xs rows fresh.R strange n' way (some (.str word)) u7 u10) S := by
  obtain ⟨rest, r', e, ok', hn', hw', hR', same, hFF⟩ := ro_named hf hn
  unfold t_wput_in_9
  refine seq_i ?_
  simp_arith []
  by_cases c : way < 3
  · rw [if_pos c, e]
    simp_arith []
    have c1 : cutL (.str fresh.w :: .str fresh.n :: .int fresh.d :: rest) none (some 1) = [.str fresh.w] := cutL_to _ 1
    have c2 : cutL (.str fresh.w :: .str fresh.n :: .int fresh.d :: rest) (some 2) none = .int fresh.d :: rest := cutL_from _ 2
    rw [c1, c2]
    have hl7 : rest.length ≤ 4 := by
      obtain ⟨items, ei, h7, _⟩ := row_items hf.hn hf.d0 hf.d1 hf.row
      rw [e] at ei
      cases ei
      simp only [List.length_cons] at h7
      omega
    have er : DL.D.tup ([.str fresh.w] ++ [.str n'] ++ .int fresh.d :: rest) = r'.R := by rw [hR']; rfl
    rw [er]
    refine ⟨by decide, line_le (by simp), line_le (by simp; omega), ?_⟩
    refine listed_th h h (by omega) (fun _ _ _ h => h) ok' fun X S' hX p' k' => ⟨by decide, ?_⟩
    have hX := hX.gr mk2_gr
    refine q X word S' ⟨hX.sm.mono (by decide) (by decide), .inr ⟨r', ok', th_rowI ok' (hFF _ hF) h8 hX, ?_⟩⟩ (p'.mono (by omega)) k'
    rw [hn']
    rcases hw with ⟨w1, w2⟩ | ⟨w1, w2, w3, w4⟩ | ⟨w1, w2, w3, w4⟩
    · exact .inl ⟨w1, w2⟩
    · exact .inr (.inl ⟨w1, w3, w4⟩)
    · exact .inr (.inr ⟨w1, same w2, w3, w4⟩)
  · rw [if_neg c]
    exact put_in_tail h (by omega) ok hl hf hs hs2 h8 hRF hn h3 q
theorem put_in_spec {p pc : Addr} {b : Nat} {xs : List Fd} {rows : List Ro} {fresh : Ro} {strange : Str} {S : Sto} {Q : DK} (h : Pen S p pc b) (hb : b + 400 ≤ 100000) (ok : ∀ r ∈ rows, r.ok) (hl : rows.length ≤ 40) (hf : fresh.ok) (hfn : fresh.n ∉ rows.map Ro.n) (hs : Nm strange) (hs2 : strange ∉ xs.map (·.f)) (h8 : xs.length ≤ 8)
    (hF : FIn (· ∈ xs.map (·.f)) fresh.w fresh.R) (hRF : ∀ r ∈ rows, FIn (· ∈ xs.map (·.f)) r.w r.R)
    (q : ∀ X word S', PutOk S' xs rows fresh X word → Pen S' p pc (b + 200) → Kp p S S' → Q (.tup [X, .str word]) S') : m_wput_in [.ref p, rollR xs rows, fresh.R, .str strange] S Q := by
  obtain ⟨rest, ef⟩ := ro_tup hf
  rw [e_wput_in, rollR]
  refine seq_i ?_
  simp_arith []
  unfold t_wput_in_2
  refine seq_i ?_
  simp_arith []
  refine take_spec h (by omega) (by decide) (by decide) fun way S1 w0 w1 p1 k1 => ?_
  have w1 : way < 8 := w1
  unfold t_wput_in_3
  refine seq_i ?_
  rw [ef]
  simp_arith []
  refine ⟨_, atI_nat (j := 1) rfl, ?_⟩
  rw [← ef]
  have mid : ∀ {n' : Str} {S2 : Sto}, Nm n' → (n' = fresh.n ∨ n' ∈ rows.map Ro.n) → (way = 3 → rows ≠ [] → n' ∈ rows.map Ro.n) → Pen S2 p pc (b + 2) → Kp p S S2 → t_wput_in_6 (endsD Q) (pEnv p xs rows fresh.R strange n' way none none none) S2 := fun {n' S2} hn hor h3 p2 k2 => by
    unfold t_wput_in_6
    refine seq_i ?_
    simp_arith []
    unfold t_wput_in_7
    refine seq_i ?_
    rw [ef]
    simp_arith []
    refine ⟨_, atI_nat (j := 1) rfl, ?_⟩
    simp_arith []
    rw [← ef]
    by_cases c : n' = fresh.n
    · rw [if_pos c]
      refine ⟨by decide, fun n hn2 => ?_⟩
      have p3 := p2.new (o := .lst [.str "", .str "TooMany"]) hn2
      have k3 := k2.trans (Gr.new (o := .lst [.str "", .str "TooMany"]) hn2).kp
      have e3 : updS S2 n (.lst [.str "", .str "TooMany"]) n = some (.lst [.str "", .str "TooMany"]) := updS_same
      generalize updS S2 n (.lst [.str "", .str "TooMany"]) = S3 at p3 k3 e3
      rw [e3, srt_len]
      have hnn : n' ∉ rows.map Ro.n := by rw [c]; exact hfn
      by_cases c40 : (rows.length : Int) = 40
      · rw [if_pos c40]
        simp_arith []
        refine ⟨_, atI_nat (j := 1) rfl, ?_⟩
        exact put_in_9 p3 (by omega) ok hl hf hs hs2 h8 hF hRF hn h3 (.inr (.inl ⟨rfl, c, hnn, by omega⟩)) fun X word S' hX p' k' => q X word S' hX (p'.mono (by omega)) (k3.trans k')
      · rw [if_neg c40]
        simp_arith []
        refine ⟨_, atI_nat (j := 0) rfl, ?_⟩
        exact put_in_9 p3 (by omega) ok hl hf hs hs2 h8 hF hRF hn h3 (.inr (.inr ⟨rfl, c, hnn, by omega⟩)) fun X word S' hX p' k' => q X word S' hX (p'.mono (by omega)) (k3.trans k')
    · rw [if_neg c]
      exact put_in_9 p2 (by omega) ok hl hf hs hs2 h8 hF hRF hn h3 (.inl ⟨rfl, hor.resolve_left c⟩) fun X word S' hX p' k' => q X word S' hX (p'.mono (by omega)) (k2.trans k')
  unfold t_wput_in_4
  refine seq_i ?_
  simp_arith []
  refine ⟨Nat.zero_le _, eq_rows_nil ok ?_⟩
  by_cases ce : rows = []
  · rw [decide_eq_true ce]
    simp_arith []
    exact mid hf.hn (.inl rfl) (fun _ h => absurd ce h) (p1.mono (by omega)) k1
  · rw [decide_eq_false ce]
    simp_arith []
    refine ⟨by decide, rfl, by rfl, ?_⟩
    have hpos : 0 < rows.length := List.length_pos_iff.mpr ce
    by_cases c : ([DL.D.int 2, DL.D.int 3, DL.D.int 5].any fun z => eqF z (DL.D.int way)) = true
    · rw [if_pos c, srt_len]
      refine take_spec p1 (by omega) (by omega) (log_smallN hpos (by omega)) fun k S2 a2 b2 p2 k2 => ?_
      obtain ⟨j, rfl⟩ : ∃ j : Nat, k = (j : Nat) := ⟨k.toNat, by omega⟩
      have hj : j < (srt rows).length := by rw [srt_len]; omega
      simp_arith []
      refine ⟨_, atI_nat (j := j) (List.getElem?_eq_getElem hj), ?_⟩
      obtain ⟨r, hr, er⟩ := srt_nm ok hj
      obtain ⟨rest2, er2⟩ := ro_tup (ok r hr)
      rw [er, er2]
      simp_arith []
      refine ⟨_, atI_nat (j := 1) rfl, ?_⟩
      have rn : r.n ∈ rows.map Ro.n := List.mem_map_of_mem hr
      exact mid (ok r hr).hn (.inr rn) (fun _ _ => rn) (p2.mono (by omega)) (k1.trans k2)
    · rw [if_neg c]
      refine mid hf.hn (.inl rfl) (fun e => ?_) (p1.mono (by omega)) k1
      subst e
      exact absurd rfl c
end LW
/-! k07: put in rightly -/
namespace LW
open PySem L2 DL
theorem repr_pair {S : Sto} {a b : DL.D} {m : Nat} (ha : Sm S 29 m a) (hb : Sm S 29 m b) (hm : 2 * (m + 1) ≤ 900000) : ∃ z, ∀ S' n (Q : DK), Gr S S' → S' n = some (.lst [a, b]) → Q (.str z) S' → gRepr [.ref n] S' Q := by
  obtain ⟨ps, i1, i2, i3, i4, i5⟩ := sms_of (ds := [a, b]) (k := 29) (m := m) (List.forall_mem_cons.mpr ⟨ha, List.forall_mem_cons.mpr ⟨hb, fun x hx => by cases hx⟩⟩)
  have h4 : (PyData.list ps).bulk ≤ 900000 := by rw [PyData.bulk.eq_2]; exact Nat.le_trans i4 hm
  have := PyData.shown_le_bulk 14 (by decide) (.list ps) i5
  refine ⟨(PyData.list ps).shown, fun S' n Q g e q => repr_i (.lst e (RPs_gr g i1)) rfl i2 (by rw [PyData.depth.eq_1]; omega) (Nat.le_trans (show (PyData.list ps).shown.length ≤ 16000000 by omega) (by decide)) q⟩
theorem pds_strsK {S : Sto} : ∀ l : List Str, PDs S (l.map DL.D.str) (l.map PyData.str)
  | [] => .nil
  | x :: r => .cons (.str x) (pds_strsK r)
theorem depth_strsK : ∀ l : List Str, PyData.depthAll (l.map PyData.str) = 0
  | [] => rfl
  | x :: r => by
    rw [List.map_cons, PyData.depthAll.eq_2, depth_strsK r]
    rfl
theorem eq_strsK {f : Bool → Bool} {a b : Addr} {zs : List Str} {S : Sto} {Q : DK} (ea : S a = some (.lst (zs.map .str))) (eb : S b = some (.lst (zs.map .str))) (q : Q (.bl (f true)) S) : gEq f (.ref a) (.ref b) S Q := by
  refine ⟨_, _, .lst ea (pds_strsK zs), .lst eb (pds_strsK zs), by rw [PyData.depth.eq_1, depth_strsK]; decide, ?_⟩
  rw [PySem.SeqAt.eqv_refl_plain _ (PD.plain (PD.lst ea (pds_strsK zs)))]
  exact q
theorem roll_sm5 {xs : List Fd} {rows : List Ro} {S : Sto} (hx : ∀ x ∈ xs, x.ok) (h8 : xs.length ≤ 8) (ok : ∀ r ∈ rows, r.ok) (hl : rows.length ≤ 40) : Sm S 5 94722 (rollR xs rows) := by
  have h1 : Sm S 4 47360 (.tup (xs.map Fd.D)) := (sm_tup (k := 1) (n := 8) (m := 36) (fun y hy => by
    obtain ⟨x, hx2, rfl⟩ := List.mem_map.mp hy
    exact fd_sm (hx x hx2)) (by rw [List.length_map]; exact h8)).mono (by decide) (by decide)
  have h2 : Sm S 4 47360 (.tup (srt rows)) := sm_tup (k := 3) (n := 40) (m := 1183) (fun y hy => by
    obtain ⟨r, hr, rfl⟩ := List.mem_map.mp (srt_mem.mp hy)
    exact row_sm (ok r hr)) (by rw [srt_len]; exact hl)
  exact (sm_tup (k := 4) (n := 2) (m := 47360) (List.forall_mem_cons.mpr ⟨h1, List.forall_mem_cons.mpr ⟨h2, fun x hx => by cases hx⟩⟩) (by simp)).mono (by decide) (by decide)
theorem Pen.grow {p pc : Addr} {b : Nat} {S S' : Sto} (h : Pen S p pc b) (g : Gr S S') : Pen S' p pc b := by
  obtain ⟨ns, y, l2, e1, e3, e4⟩ := h.ex
  exact ⟨ns, y, l2, g _ _ e1, g _ _ e3, e4⟩
abbrev TWr (S : Sto) : Prop := S tP_wwith_right = some (.tab "_law_with_right.<locals>.<lambda>")
theorem with_right_spec {p pc : Addr} {b : Nat} {xs : List Fd} {rows : List Ro} {fresh : Ro} {strange : Str} {S : Sto} {Q : DK} (hW : TWr S) (nW : tP_wwith_right ≠ p) (h : Pen S p pc b) (hb : b + 400 ≤ 100000) (hx : ∀ x ∈ xs, x.ok) (ok : ∀ r ∈ rows, r.ok) (nd : (rows.map Ro.n).Nodup) (hl : rows.length ≤ 40) (hf : fresh.ok) (hfn : fresh.n ∉ rows.map Ro.n) (hs : Nm strange) (hs2 : strange ∉ xs.map (·.f)) (h8 : xs.length ≤ 8)
    (hF : FIn (· ∈ xs.map (·.f)) fresh.w fresh.R) (hRF : ∀ r ∈ rows, FIn (· ∈ xs.map (·.f)) r.w r.R)
    (q : ∀ S', Pen S' p pc (b + 200) → Kp p S S' → Q (.bl true) S') : m_wwith_right [.ref p, rollR xs rows, fresh.R, .str strange] S Q := by
  rw [e_wwith_right]
  refine seq_i ?_
  simp_arith []
  refine put_in_spec h hb ok hl hf hfn hs hs2 h8 hF hRF fun X word S1 hX p1 k1 => ?_
  obtain ⟨z, hz⟩ := repr_pair (S := S1) (a := rollR xs rows) (b := X) (m := 94722) ((roll_sm5 hx h8 ok hl).mono (by decide) (Nat.le_refl _)) (hX.sm.mono (by decide) (by decide)) (by decide)
  simp_arith []
  unfold t_wwith_right_2
  refine seq_i ?_
  simp_arith []
  refine ⟨by decide, fun n hn => ?_⟩
  have g2 := Gr.new (o := .lst [rollR xs rows, X]) hn
  refine hz _ n _ g2 updS_same ?_
  have p2 := p1.new (o := .lst [rollR xs rows, X]) hn
  generalize updS S1 n (.lst [rollR xs rows, X]) = S2 at g2 p2
  unfold t_wwith_right_3
  refine seq_i ?_
  unfold eLamC
  simp_arith []
  refine ⟨g2 _ _ (k1 _ _ nW hW), ?_⟩
  have again : ∀ {S3 : Sto} {K : DK}, Gr S1 S3 → (∀ S4, Gr S3 S4 → K (.bl true) S4) → ∀ n3, S3 n3 = none → gRepr [.ref n3] (updS S3 n3 (.lst [rollR xs rows, X])) fun d S' => gEq id d (.str z) S' K := fun {S3 K} g k n3 h3 => by
    refine hz _ n3 _ (g.trans (.new h3)) updS_same ?_
    simp_arith []
    exact k _ (.new h3)
  have bad : ∀ {c : Str} {S3 : Sto} {r : Addr}, c ≠ "" → word = c → Gr S2 S3 → S3 r = some (.lst ([("refused" : Str), c].map .str)) → t_wwith_right_4 (endsD Q) [some (.ref p), some (rollR xs rows), some fresh.R, some (.str strange), some (.str z), some (.ref r), none, none, some X, some (.str word)] S3 := fun {c S3 r} hc hw g3 er => by
    subst hw
    unfold t_wwith_right_4
    refine seq_i ?_
    simp_arith []
    rw [if_pos (by rw [decide_eq_false hc]; rfl)]
    refine ⟨by decide, fun n4 h4 => ?_⟩
    have e4 : updS S3 n4 (.lst [.str "refused", .str word]) n4 = some (.lst ([("refused" : Str), word].map .str)) := updS_same
    have g4 := Gr.new (o := .lst [.str "refused", .str word]) h4
    have er4 := g4 _ _ er
    generalize updS S3 n4 (.lst [.str "refused", .str word]) = S4 at e4 g4 er4
    refine eq_strsK er4 e4 ?_
    simp_arith []
    refine ⟨by decide, again (g2.trans (g3.trans g4)) fun S5 g5 => ?_⟩
    exact q S5 (p2.grow ((g3.trans g4).trans g5)) (k1.trans ((g2.trans g3).trans (g4.trans g5)).kp)
  rcases hX.cs with ⟨hw, hno⟩ | ⟨r, hr, hro, hc⟩
  · refine told_x (c := "NoRow") (.inl rfl) (fun Qd Ed hE => ?_) fun r S3 g3 er => bad (by decide) hw g3 er
    exact with_row_bad (fun Q q => hno S2 Q g2 q) hE
  · rcases hc with ⟨hw, hm⟩ | ⟨hw, hm, h40⟩ | ⟨hw, hrf, hm, h40⟩
    · refine told_x (c := "Twice") (.inr (.inl rfl)) (fun Qd Ed hE => ?_) fun r S3 g3 er => bad (by decide) hw g3 er
      exact with_row_go ok nd hr (by omega) (fun Q q => hro S2 Q g2 q) (fun _ S' g => hE S' g) (fun h => absurd hm h) (fun h => absurd hm h)
    · refine told_x (c := "TooMany") (.inr (.inr (.inl rfl))) (fun Qd Ed hE => ?_) fun r S3 g3 er => bad (by decide) hw g3 er
      exact with_row_go ok nd hr (by omega) (fun Q q => hro S2 Q g2 q) (fun h => absurd h hm) (fun _ _ S' g => hE S' g) (fun _ h => by omega)
    · subst hrf
      subst hw
      refine told_t (P := fun d _ => d = rollR xs (rows ++ [r])) (fun Qd Ed hQ => ?_) fun n3 d S3 h3 g3 hd => ?_
      · exact with_row_go ok nd hr (by omega) (fun Q q => hro S2 Q g2 q) (fun h => absurd h hm) (fun _ h => by omega) (fun _ _ S' g => hQ _ S' g rfl)
      subst hd
      have ok2 : ∀ x ∈ rows ++ [r], x.ok := fun x hx => by
        rcases List.mem_append.mp hx with hx | hx
        · exact ok x hx
        · rw [List.mem_singleton.mp hx]; exact hr
      have nd2 : ((rows ++ [r]).map Ro.n).Nodup := by
        rw [List.map_append, List.nodup_append]
        refine ⟨nd, by simp, fun a ha b hb e => ?_⟩
        rw [List.map_cons, List.map_nil, List.mem_singleton] at hb
        rw [e, hb] at ha
        exact hm ha
      have l2 : (rows ++ [r]).length ≤ 40 := by rw [List.length_append, List.length_singleton]; omega
      obtain ⟨z2, hz2⟩ := (roll_sm5 (S := fun _ => none) hx h8 ok2 l2).mono (k2 := 30) (m2 := 900000) (by decide) (by decide) |>.repr rfl
      have gN : ∀ S' : Sto, Gr (fun _ => none) S' := fun S' a o e => by cases e
      have g4 := Gr.new (o := .lst [.str "told", rollR xs (rows ++ [r])]) h3
      have e4 : updS S3 n3 (.lst [.str "told", rollR xs (rows ++ [r])]) n3 = some (.lst [.str "told", rollR xs (rows ++ [r])]) := updS_same
      have p4 := p2.grow (g3.trans g4)
      generalize updS S3 n3 (.lst [.str "told", rollR xs (rows ++ [r])]) = S4 at g4 e4 p4
      unfold t_wwith_right_4
      refine seq_i ?_
      simp_arith []
      unfold t_wwith_right_6
      refine seq_i ?_
      rw [show rollR xs rows = .tup [.tup (xs.map Fd.D), .tup (srt rows)] from rfl]
      simp_arith []
      refine ⟨_, atI_nat (j := 1) rfl, ?_⟩
      simp_arith []
      refine ⟨by decide, line_le (by rw [srt_len]; omega), ?_⟩
      unfold t_wwith_right_7
      refine seq_i ?_
      simp_arith []
      refine ⟨_, atI_nat (j := 0) rfl, ?_⟩
      refine keyed_ro place_spec ok2 nd2 (by rw [List.map_append]; exact srt_pm.append_right _) fun n5 h5 => ?_
      refine ⟨_, updS_same, by decide, ?_⟩
      have g5 := Gr.new (o := .lst (srt (rows ++ [r]))) h5
      have e5 := g5 _ _ e4
      have p5 := p4.grow g5
      generalize updS S4 n5 (.lst (srt (rows ++ [r]))) = S5 at g5 e5 p5
      unfold t_wwith_right_8
      refine ret_i ?_
      simp_arith [e5]
      refine ⟨_, atI_nat (j := 0) rfl, ?_⟩
      simp_arith [e5]
      refine ⟨_, atI_nat (j := 1) rfl, ?_⟩
      refine hz2 S5 _ (gN S5) ?_
      refine hz2 S5 _ (gN S5) ?_
      simp_arith []
      refine ⟨by decide, again (g2.trans (g3.trans (g4.trans g5))) fun S6 g6 => ?_⟩
      exact q S6 (p5.grow g6) (k1.trans ((g2.trans g3).trans ((g4.trans g5).trans g6)).kp)
end LW
/-! k07: left out -/
namespace LW
open PySem L2 DL
theorem eq_rowsB {f : Bool → Bool} {x y : Ro} (hx : x.ok) (hy : y.ok) {S : Sto} {Q : DK} (q : ∀ b : Bool, (b = true ↔ x.R = y.R) → Q (.bl (f b)) S) : gEq f x.R y.R S Q := by
  classical
  exact eq_rows hx hy (q _ decide_eq_true_iff)
/-- the rows but one -/
def without (rows : List Ro) (r : Ro) : List Ro := rows.filter fun x => decide (x.n ≠ r.n)
open Classical in
noncomputable def keepB (r : Ro) : DL.D → Bool := fun y => decide (y ≠ r.R)
open Classical in
theorem keepB_no {r : Ro} {y : DL.D} (c : y = r.R) : keepB r y = false := by
  unfold keepB
  exact decide_eq_false fun z => z c
open Classical in
theorem keepB_yes {r : Ro} {y : DL.D} (c : ¬ y = r.R) : keepB r y = true := by
  unfold keepB
  exact decide_eq_true c
theorem keepB_iff {rows : List Ro} {r x : Ro} (ok : ∀ r ∈ rows, r.ok) (nd : (rows.map Ro.n).Nodup) (hr : r ∈ rows) (hx : x ∈ rows) : keepB r x.R = decide (x.n ≠ r.n) := by
  unfold keepB
  rw [decide_eq_decide]
  refine ⟨fun h e => h ?_, fun h e => h ?_⟩
  · rw [ro_uniq nd hx hr e]
  · obtain ⟨a, ea⟩ := ro_tup (ok x hx)
    obtain ⟨b, eb⟩ := ro_tup (ok r hr)
    rw [ea, eb] at e
    simp only [D.tup.injEq, List.cons.injEq, D.str.injEq] at e
    exact e.2.1
theorem srt_without {rows : List Ro} {r : Ro} (ok : ∀ r ∈ rows, r.ok) (nd : (rows.map Ro.n).Nodup) (hr : r ∈ rows) : (srt rows).filter (keepB r) = srt (without rows r) := by
  have ok2 : ∀ x ∈ without rows r, x.ok := fun x hx => ok x (List.mem_filter.mp hx).1
  have nd2 : ((without rows r).map Ro.n).Nodup := nd.sublist ((List.filter_sublist).map _)
  have pm : ((srt rows).filter (keepB r)).Perm ((without rows r).map Ro.R) := by
    refine (srt_pm.filter _).trans (.of_eq ?_)
    rw [List.filter_map]
    unfold without
    congr 1
    exact List.filter_congr fun x hx => keepB_iff ok nd hr hx
  rw [← srt_perm ok2 nd2 pm]
  refine (List.mergeSort_of_pairwise ?_).symm
  refine ((srt_lt ok nd).sublist List.filter_sublist).imp fun {a b} h => ?_
  let O := PyProof.Rows.listOrd PyProof.Rows.itemOrd
  show (!(O.blt (PySem.W.keyToks (kdOf b)) (PySem.W.keyToks (kdOf a)))) = true
  cases h2 : O.blt (PySem.W.keyToks (kdOf b)) (PySem.W.keyToks (kdOf a)) with
  | false => rfl
  | true =>
    have := O.trans _ _ _ (show O.blt (PySem.W.keyToks (kdOf a)) (PySem.W.keyToks (kdOf b)) = true from h) h2
    rw [O.irrefl] at this
    cases this
theorem without_len {rows : List Ro} {r : Ro} (hr : r ∈ rows) : (without rows r).length < rows.length := by
  unfold without
  refine Nat.lt_of_le_of_ne (List.length_filter_le _ _) fun e => ?_
  have := List.length_filter_eq_length_iff.mp e r hr
  exact absurd rfl (of_decide_eq_true this)
theorem without_back {rows : List Ro} {r : Ro} (ok : ∀ r ∈ rows, r.ok) (nd : (rows.map Ro.n).Nodup) (hr : r ∈ rows) : srt (without rows r ++ [r]) = srt rows := by
  have pm : (without rows r ++ [r]).Perm rows := by
    have h1 : rows.filter (fun x => !decide (x.n ≠ r.n)) = [r] := by
      have key : ∀ l : List Ro, (l.map Ro.n).Nodup → r ∈ l → l.filter (fun x => !decide (x.n ≠ r.n)) = [r] := fun l => by
        induction l with
        | nil => intro _ h; cases h
        | cons a t ih =>
          intro nd h
          rw [List.map_cons, List.nodup_cons] at nd
          have none : ∀ t : List Ro, r.n ∉ t.map Ro.n → t.filter (fun x => !decide (x.n ≠ r.n)) = [] := fun t ht => by
            rw [List.filter_eq_nil_iff]
            intro x hx e
            have : x.n = r.n := by simpa using e
            exact ht (by rw [← this]; exact List.mem_map_of_mem hx)
          rcases List.mem_cons.mp h with rfl | h
          · rw [List.filter_cons_of_pos (by simp), none t nd.1]
          · rw [List.filter_cons_of_neg, ih nd.2 h]
            intro e
            have : a.n = r.n := by simpa using e
            exact nd.1 (by rw [this]; exact List.mem_map_of_mem h)
      exact key rows nd hr
    have := List.filter_append_perm (fun x : Ro => decide (x.n ≠ r.n)) rows
    rw [h1] at this
    exact this
  have ok2 : ∀ x ∈ rows, x.ok := ok
  unfold srt
  exact srt_perm ok nd (pm.map _)
theorem without_row_hit {xs : List Fd} {rows : List Ro} {r : Ro} (ok : ∀ r ∈ rows, r.ok) (nd : (rows.map Ro.n).Nodup) (hl : rows.length ≤ 40) (hr : r ∈ rows) {S : Sto} {Q : DK} {E : EK} (q : ∀ S', Gr S S' → Q (rollR xs (without rows r)) S') : m_without_row [rollR xs rows, .str r.n] S Q E := by
  rw [e_without_row]
  refine seqx_i ?_
  simp_arith []
  refine row_called_hit ok nd hr ?_
  unfold t_without_row_2
  rw [show rollR xs rows = .tup [.tup (xs.map Fd.D), .tup (srt rows)] from rfl]
  simp_arith []
  refine ⟨_, atI_nat (j := 0) rfl, ?_⟩
  refine ⟨_, atI_nat (j := 1) rfl, ?_⟩
  simp_arith []
  refine lcL_filter (fun d => d) (keepB r) _ trivial (line_le (by rw [srt_len]; omega)) ?_ (fun y hy K G h1 h2 => ?_)
  rotate_left
  · obtain ⟨x, hx, rfl⟩ := List.mem_map.mp (srt_mem.mp hy)
    simp_arith []
    refine eq_rowsB (ok x hx) (ok r hr) fun bb hb => ?_
    by_cases c : x.R = r.R
    · rw [hb.mpr c]
      simp_arith []
      exact h2 (keepB_no c)
    · rw [show bb = false from by cases bb with | false => rfl | true => exact absurd (hb.mp rfl) c]
      simp_arith [c_without_row_2]
      exact h1 (keepB_yes c)
  intro n hn
  rw [List.map_id', srt_without ok nd hr]
  refine ⟨_, updS_same, by decide, q _ (.new hn)⟩
theorem without_right_spec {xs : List Fd} {rows : List Ro} {r : Ro} (hx : ∀ x ∈ xs, x.ok) (h8 : xs.length ≤ 8) (ok : ∀ r ∈ rows, r.ok) (nd : (rows.map Ro.n).Nodup) (hl : rows.length ≤ 40) (hr : r ∈ rows) (hF : FIn (· ∈ xs.map (·.f)) r.w r.R) {S : Sto} {Q : DK} (q : ∀ S', Gr S S' → Q (.bl true) S') : m_wwithout_right [rollR xs rows, r.R] S Q := by
  have gN : ∀ S' : Sto, Gr (fun _ => none) S' := fun S' a o e => by cases e
  obtain ⟨rest, er⟩ := ro_tup (ok r hr)
  have bx : boxD r.R = true := by rw [er]; rfl
  obtain ⟨z1, hz1⟩ := ((row_sm (ok r hr) (S := fun _ => none)).mono (k2 := 30) (m2 := 900000) (by decide) (by decide)).repr bx
  have okw : ∀ x ∈ without rows r, x.ok := fun x hx => ok x (List.mem_filter.mp hx).1
  have ndw : ((without rows r).map Ro.n).Nodup := nd.sublist ((List.filter_sublist).map _)
  have lw := without_len hr
  obtain ⟨z2, hz2⟩ := ((roll_sm5 (S := fun _ => none) hx h8 okw (by omega)).mono (k2 := 30) (m2 := 900000) (by decide) (by decide)).repr rfl
  obtain ⟨z3, hz3⟩ := ((roll_sm5 (S := fun _ => none) hx h8 ok hl).mono (k2 := 30) (m2 := 900000) (by decide) (by decide)).repr rfl
  rw [e_wwithout_right]
  refine seq_i ?_
  rw [er]
  simp_arith []
  refine ⟨_, atI_nat (j := 1) rfl, ?_⟩
  rw [← er]
  refine row_called_hit ok nd hr ?_
  refine hz1 _ _ (gN _) ?_
  refine hz1 _ _ (gN _) ?_
  simp_arith []
  unfold t_wwithout_right_3
  refine seq_i ?_
  rw [show rollR xs rows = .tup [.tup (xs.map Fd.D), .tup (srt rows)] from rfl]
  simp_arith []
  refine ⟨_, atI_nat (j := 0) rfl, ?_⟩
  refine ⟨_, atI_nat (j := 1) rfl, ?_⟩
  simp_arith []
  refine lcL_filter (fun d => d) (keepB r) _ trivial (line_le (by rw [srt_len]; omega)) ?_ (fun y hy K G h1 h2 => ?_)
  rotate_left
  · obtain ⟨x, hx, rfl⟩ := List.mem_map.mp (srt_mem.mp hy)
    simp_arith []
    refine eq_rowsB (ok x hx) (ok r hr) fun bb hb => ?_
    by_cases c : x.R = r.R
    · rw [hb.mpr c]
      simp_arith []
      exact h2 (keepB_no c)
    · rw [show bb = false from by cases bb with | false => rfl | true => exact absurd (hb.mp rfl) c]
      simp_arith [c_wwithout_right_3]
      exact h1 (keepB_yes c)
  intro n hn
  rw [List.map_id', srt_without ok nd hr]
  have g1 := Gr.new (o := .lst (srt (without rows r))) hn
  refine ⟨_, updS_same, by decide, ?_⟩
  generalize updS S n (.lst (srt (without rows r))) = S1 at g1
  unfold t_wwithout_right_4
  refine seq_i ?_
  rw [er]
  simp_arith []
  refine ⟨_, atI_nat (j := 1) rfl, ?_⟩
  rw [← er]
  refine without_row_hit (xs := xs) ok nd hl hr fun S2 g2 => ?_
  unfold t_wwithout_right_5
  refine seq_i ?_
  simp_arith []
  refine hz2 _ _ (gN _) ?_
  refine hz2 _ _ (gN _) ?_
  simp_arith []
  unfold t_wwithout_right_7
  refine ret_i ?_
  simp_arith []
  have hn' : r.n ∉ (without rows r).map Ro.n := fun h => by
    obtain ⟨x, hx, e⟩ := List.mem_map.mp h
    exact of_decide_eq_true (List.mem_filter.mp hx).2 e
  refine with_row_go okw ndw (ok r hr) (by omega) (fun Q q => row_in_th (ok r hr) hF h8 (th_self (S0 := S2) (S := S2) (ok r hr)) q) (fun h => absurd h hn') (fun _ h => by omega) fun _ _ S3 g3 => ?_
  rw [show rollR xs (without rows r ++ [r]) = rollR xs rows from by unfold rollR; rw [without_back ok nd hr]]
  refine hz3 _ _ (gN _) ?_
  refine hz3 _ _ (gN _) ?_
  simp_arith []
  exact q S3 (g1.trans (g2.trans g3))
end LW
/-! k07: not called -/
namespace LW
open PySem L2 DL
def NoX (S : Sto) (rows : List Ro) (x : DL.D) : Prop := ∀ S', Gr S S' → NoNm S' x rows
theorem noX_str {S : Sto} {rows : List Ro} {z : Str} (h : ∀ r ∈ rows, r.n ≠ z) : NoX S rows (.str z) := fun S' g r hr K k => by
  simp_arith []
  rw [decide_eq_false (h r hr)]
  exact k
theorem noX_non {S : Sto} {rows : List Ro} : NoX S rows .non := fun S' g r hr K k => by
  simp_arith []
  exact k
theorem noX_bl {S : Sto} {rows : List Ro} {b : Bool} : NoX S rows (.bl b) := fun S' g r hr K k => by
  simp_arith []
  exact k
theorem noX_int {S : Sto} {rows : List Ro} {b : Int} : NoX S rows (.int b) := fun S' g r hr K k => by
  simp_arith []
  exact k
theorem noX_tup {S : Sto} {rows : List Ro} {z : Str} : NoX S rows (.tup [.str z]) := fun S' g r hr K k => by
  exact ⟨_, _, .str _, .tup (.cons (.str _) .nil), Nat.zero_le _, k⟩
theorem noX_lst {S : Sto} {rows : List Ro} {a : Addr} {z : Str} (e : S a = some (.lst [.str z])) : NoX S rows (.ref a) := fun S' g r hr K k => by
  refine .inr ⟨_, _, .str _, .lst (g _ _ e) (.cons (.str _) .nil), Nat.zero_le _, ?_⟩
  exact k
theorem noX_dk {S : Sto} {rows : List Ro} {a : Addr} (e : S a = some (.dk [])) : NoX S rows (.ref a) := fun S' g r hr K k => .inl ⟨_, g _ _ e, k⟩
abbrev TWn (S : Sto) : Prop := S tP_wnot_called = some (.tab "_law_not_called.<locals>.<lambda>")
theorem not_called_spec {xs : List Fd} {rows : List Ro} {nl : Addr} {ns : List Str} (ok : ∀ r ∈ rows, r.ok) {S : Sto} {Q : DK} (hW : TWn S) (en : S nl = some (.lst (ns.map .str))) (hl : ns.length ≤ 100) (hn : ∀ z ∈ ns, ∀ r ∈ rows, r.n ≠ z) (q : ∀ S', Gr S S' → Q (.bl true) S') : m_wnot_called [rollR xs rows, .ref nl] S Q := by
  rw [e_wnot_called]
  refine seq_i ?_
  refine for_i ?_
  simp_arith []
  refine ⟨by decide, fun a1 h1 => ⟨by decide, fun a2 h2 => ⟨by decide, fun a3 h3 => ?_⟩⟩⟩
  have f1 : updS (updS S a1 (.lst [.str "a"])) a2 (.dk []) a1 = some (.lst [.str "a"]) := (Gr.new (o := .dk []) h2) _ _ updS_same
  have f2 : updS (updS S a1 (.lst [.str "a"])) a2 (.dk []) a2 = some (.dk []) := updS_same
  have g2 := (Gr.new (o := .lst [.str "a"]) h1).trans (Gr.new (o := .dk []) h2)
  generalize updS (updS S a1 (.lst [.str "a"])) a2 (.dk []) = S2 at f1 f2 g2 h3
  generalize hL : [DL.D.non, DL.D.bl true, DL.D.int 7, DL.D.str (Str.ofString ""), DL.D.str (Str.ofString "A"), DL.D.ref a1, DL.D.tup [DL.D.str (Str.ofString "a")], DL.D.ref a2] = L
  have hLl : L.length = 8 := by rw [← hL]; rfl
  have g3 := g2.trans (Gr.new (o := .lst L) h3)
  have e3 : updS S2 a3 (.lst L) a3 = some (.lst L) := updS_same
  have f1 := (Gr.new (o := .lst L) h3) _ _ f1
  have f2 := (Gr.new (o := .lst L) h3) _ _ f2
  generalize updS S2 a3 (.lst L) = S3 at g3 e3 f1 f2
  refine ⟨_, g3 _ _ en, _, e3, line_le (by rw [List.length_map, hLl]; omega), fun n hn2 => ?_⟩
  have e4 : updS S3 n (.lst (ns.map .str ++ L)) n = some (.lst (ns.map .str ++ L)) := updS_same
  have g4 := Gr.new (o := .lst (ns.map .str ++ L)) hn2
  have f1 := g4 _ _ f1
  have f2 := g4 _ _ f2
  have g4 := g3.trans g4
  generalize updS S3 n (.lst (ns.map .str ++ L)) = S4 at g4 e4 f1 f2
  refine ⟨_, e4, ?_⟩
  have all : ∀ x ∈ ns.map DL.D.str ++ L, NoX S4 rows x := fun x hx => by
    rcases List.mem_append.mp hx with hx | hx
    · obtain ⟨z, hz, rfl⟩ := List.mem_map.mp hx
      exact noX_str (hn z hz)
    · rw [← hL] at hx
      simp only [List.mem_cons, List.not_mem_nil, or_false] at hx
      rcases hx with rfl | rfl | rfl | rfl | rfl | rfl | rfl | rfl
      · exact noX_non
      · exact noX_bl
      · exact noX_int
      · refine noX_str fun r hr e => ?_
        have := (ok r hr).hn.lo
        rw [e] at this
        exact absurd this (by decide +kernel)
      · refine noX_str fun r hr e => ?_
        have := (ok r hr).hn.lt 65 (by rw [e]; decide +kernel)
        omega
      · exact noX_lst f1
      · exact noX_tup
      · exact noX_dk f2
  refine forL_inv _ (fun i σ S' => (∃ u, σ = [some (rollR xs rows), some (.ref nl), u]) ∧ Gr S4 S') (fun _ _ _ h => h.2 _ _ e4) (fun i x σ S' N hxi hJ hN => ?turn) (fun σ S' hJ => ?fin) ⟨⟨_, rfl⟩, .refl⟩
  case fin =>
    obtain ⟨⟨_, rfl⟩, g5⟩ := hJ
    unfold t_wnot_called_6
    simp_arith []
    exact q S' (g4.trans g5)
  case turn =>
    obtain ⟨⟨_, rfl⟩, g5⟩ := hJ
    have hx := all x (List.mem_of_getElem? hxi)
    unfold l_wnot_called_1
    refine seq_i ?_
    unfold eLamC
    simp_arith []
    refine ⟨(g4.trans g5) _ _ hW, ?_⟩
    refine told_x (c := "NoName") (.inr (.inr (.inr rfl))) (fun Qd Ed hE => ?_) fun r S6 g6 er => ?_
    · exact row_called_none ok (hx S' g5) (hE S' .refl)
    refine ⟨by decide, fun m hm => ?_⟩
    have g7 := g6.trans (Gr.new (o := .lst [.str "refused", .str "NoName"]) hm)
    refine eq_strsK (zs := ["refused", "NoName"]) ((Gr.new hm) _ _ er) updS_same ?_
    generalize updS S6 m (.lst [.str "refused", .str "NoName"]) = S7 at g7
    simp_arith []
    unfold t_wnot_called_4 eLamC
    simp_arith []
    refine ⟨(g4.trans (g5.trans g7)) _ _ hW, ?_⟩
    refine told_x (c := "NoName") (.inr (.inr (.inr rfl))) (fun Qd Ed hE => ?_) fun r S8 g8 er => ?_
    · rw [e_without_row]
      refine seqx_i ?_
      simp_arith []
      exact row_called_none ok (hx S7 (g5.trans g7)) (hE S7 .refl)
    refine ⟨by decide, fun m hm => ?_⟩
    have g9 := g8.trans (Gr.new (o := .lst [.str "refused", .str "NoName"]) hm)
    refine eq_strsK (zs := ["refused", "NoName"]) ((Gr.new hm) _ _ er) updS_same ?_
    simp_arith []
    exact hN _ _ ⟨⟨_, rfl⟩, g5.trans (g7.trans g9)⟩
end LW
/-! k07: the law -/
namespace LW
open PySem L2 DL
theorem pickL {p pc : Addr} {b : Nat} {L : List D} {n : Int} {S : Sto} {K : DK} (h : Pen S p pc b) (hb : b + 10 ≤ 100000) (hn : n = (L.length : Nat)) (h0 : 0 < L.length) (h1 : L.length ≤ 100) (q : ∀ d S', d ∈ L → Pen S' p pc (b + 1) → Kp p S S' → K d S') : ∀ c, S c = none → m_wtake [.ref p, .int n] (updS S c (.lst L)) fun y S2 => oIx (S2 c) y S2 K := fun c hc => by
  have nc := h.ne hc
  subst hn
  refine take_spec (h.new (o := .lst L) hc) (by omega) (by omega) (log_smallN h0 (by omega)) fun k S5 a5 b5 p5 g5 => ?_
  rw [g5 _ _ nc.1 updS_same]
  obtain ⟨z, hz, ez⟩ := drawD (ds := L) a5 b5
  cases hL : L with
  | nil => rw [hL] at h0; cases h0
  | cons x r =>
    rw [← hL]
    refine ⟨_, ez, q z S5 hz p5 ((Gr.new hc).kp.trans g5)⟩
theorem pen_spec {ns : List Int} {S : Sto} {Q : DK} (q : ∀ (p c : Addr) (S' : Sto), Pen S' p c 0 → Gr S S' → Q (.ref p) S') : m_wpen [.fl (ns.map .int)] S Q := by
  rw [e_wpen]
  simp_arith [b_wpen]
  intro p1 hp1
  refine ⟨_, updS_same, fun p2 hp2 => ⟨_, rfl, by show 3 ≤ 15; decide, fun p3 hp3 => ?_⟩⟩
  have n23 : p2 ≠ p3 := neS updS_same hp3
  have cut : cutL (ns.map D.int) none (some 63) = (ns.take 63).map D.int := by
    unfold cutL
    rw [HT.sIx_none, show HT.sIx (ns.map D.int).length (ns.map D.int).length (some 63) = min 63 (ns.map D.int).length from HT.sIx_nat _ _ 63]
    rw [List.drop_zero, List.map_take, Nat.sub_zero]
    by_cases h : 63 ≤ (ns.map D.int).length
    · rw [Nat.min_eq_left h]
    · rw [Nat.min_eq_right (by omega), List.take_of_length_le (Nat.le_refl _), List.take_of_length_le (by omega)]
  have e : mergeD [] [(kS "cells", D.ref p2), (kS "at", .int 0), (kS "left", .int 0)] = penKv p2 0 0 := by
    unfold mergeD penKv
    simp only [List.foldl, putD, hasD, valD, Option.isSome, if_neg k_ca, if_neg k_cl, if_neg k_al, if_false, Bool.false_eq_true, List.nil_append, List.cons_append]
  refine q p3 p2 _ ⟨ns.take 63, 0, 0, by rw [updS_same]; exact congrArg (fun t => some (O.dk t)) e, ?_, by rw [List.length_take]; omega, by decide, by decide, by decide⟩ ?_
  · rw [updS_ne n23, updS_same, cut]
  · exact ((Gr.new hp1).trans (.new hp2)).trans (.new hp3)
theorem take_snoc {α : Type} {l : List α} {j : Nat} (h : j < l.length) : l.take (j + 1) = l.take j ++ [l[j]] := by
  rw [List.take_succ, List.getElem?_eq_getElem h]
  rfl
theorem z4_nm : ∀ z ∈ (["zq", "zqz", "zqzq", "qz"] : List Str), Nm z := by
  have h : ∀ z ∈ (["zq", "zqz", "zqzq", "qz"] : List Str), (1 ≤ z.length ∧ z.length ≤ 8) ∧ ∀ c ∈ z.cps.toList, 97 ≤ c ∧ c < 123 := by decide +kernel
  exact fun z hz => ⟨(h z hz).1.1, (h z hz).1.2, (h z hz).2⟩
def Z4 : List Str := ["zq", "zqz", "zqzq", "qz"]
theorem law_true (ns_ : List Int) (hns : ns_.length ≤ 63) : m_law [.fl (ns_.map .int)] (tabS (tabT.map fun t => (t.2.2.1, t.2.2.2))) (fun d _ => d = .bl true) := by
  have hWr : TWr (tabS (tabT.map fun t => (t.2.2.1, t.2.2.2))) := rfl
  have hWn : TWn (tabS (tabT.map fun t => (t.2.2.1, t.2.2.2))) := rfl
  generalize tabS (tabT.map fun t => (t.2.2.1, t.2.2.2)) = S0 at hWr hWn
  rw [e_law]
  refine seq_i ?_
  simp_arith []
  refine pen_spec fun p pc S1 p1 g1 => ?_
  have nof : ∀ {a : Addr} {q : Str}, S1 a = some (.tab q) → a ≠ p := fun ha e => by
    obtain ⟨_, _, _, z, _⟩ := p1.ex
    rw [← e, ha] at z
    cases z
  have W1r : TWr S1 := g1 _ _ hWr
  have W1n : TWn S1 := g1 _ _ hWn
  have nWr := nof W1r
  have nWn := nof W1n
  clear hWr hWn g1 nof
  unfold t_law_2
  refine seq_i ?_
  simp_arith []
  refine take_spec p1 (by omega) (by decide) (by decide) fun a S2 a0 a1 p2 k2 => ?_
  have a1 : a < 41 := a1
  refine take_spec p2 (by omega) (by decide) (by decide) fun c S3 c0 c1 p3 k3 => ?_
  have c1 : c < 9 := c1
  refine ⟨by decide, pickL p3 (by omega) rfl (by show 0 < 5; decide) (by show 5 ≤ 100; decide) fun d S4 hd p4 k4 => ?_⟩
  obtain ⟨many, rfl, hm⟩ : ∃ j : Nat, d = .int (j : Nat) ∧ j ≤ 40 := by
    simp only [List.mem_cons, List.not_mem_nil, or_false] at hd
    rcases hd with rfl | rfl | rfl | rfl | rfl
    · exact ⟨40, rfl, by decide⟩
    · exact ⟨0, rfl, by decide⟩
    · exact ⟨a.toNat, by rw [show ((a.toNat : Nat) : Int) = a by omega], by omega⟩
    · exact ⟨39, rfl, by decide⟩
    · exact ⟨c.toNat, by rw [show ((c.toNat : Nat) : Int) = c by omega], by omega⟩
  have k14 := (k2.trans k3).trans k4
  unfold t_law_3
  refine seq_i ?_
  simp_arith []
  refine take_spec p4 (by omega) (by decide) (by decide) fun nf S5 nf0 nf1 p5 k5 => ?_
  have nf1 : nf < 8 := nf1
  obtain ⟨n8, hn8, hn1, hn2⟩ : ∃ n8 : Nat, 1 + nf = (n8 : Nat) ∧ 1 ≤ n8 ∧ n8 ≤ 8 := ⟨(1 + nf).toNat, by omega, by omega, by omega⟩
  simp_arith []
  rw [hn8]
  refine sorts_spec (nf := n8) (nr := 44) p5 (by omega) (by omega) (by omega) fun f pl ho na fs ps hs ns S6 tf tp th tn hfl hpl hhl hnl p6 k6 => ?_
  simp_arith []
  refine ⟨rfl, ?_⟩
  simp_arith [t_law_4]
  refine wdays_spec (n := 42) p6 (by omega) (by omega) fun da ds S7 td hdl p7 k7 => ?_
  unfold t_law_5
  refine seq_i ?_
  simp_arith []
  refine laying_spec p7 (by omega) (tf.kp k7) (th.kp k7) (by omega) (by omega) (by omega) fun xs S8 hxf hxok p8 k8 => ?_
  have hxl : xs.length = n8 := by have := congrArg List.length hxf; rw [List.length_map] at this; omega
  have ndx : (xs.map (·.f)).Nodup := by rw [hxf]; exact tf.ok.nd
  have k68 := k7.trans k8
  obtain ⟨B, hB, pB⟩ : ∃ B, B ≤ 5000 ∧ Pen S8 p pc B := ⟨_, by omega, p8⟩
  have kA := (((k14.trans k5).trans k6).trans k68)
  have WA := kA _ _ nWr W1r
  have WB := kA _ _ nWn W1n
  have tf8 := tf.kp k68
  have tp8 := tp.kp k68
  have th8 := th.kp k68
  have tn8 := tn.kp k68
  have td8 := td.kp k8
  clear p8 k8 k68 kA p7 k7 td tf tp th tn p6 k6 p5 k5 p4 k14 p3 k3 p2 k2 p1
  unfold t_law_6
  refine seq_i ?_
  simp_arith []
  refine ⟨by omega, by omega, ?_⟩
  rw [Int.toNat_natCast]
  refine lcL_inv _ (fun j acc S' => Pen S' p pc (B + 60 * j) ∧ Kp p S8 S' ∧ ∃ rs : List Ro, acc = rs.map Ro.R ∧ rs.length = j ∧ rs.map Ro.n = ns.take j ∧ ∀ r ∈ rs, r.ok ∧ FIn (· ∈ xs.map (·.f)) r.w r.R) (fun _ _ _ _ => trivial) (fun j x acc S' N2 hx h3 hN2 => ?el) (fun acc S' h3 => ?af) ⟨pB, fun _ _ _ h => h, [], rfl, rfl, rfl, fun _ z => nomatch z⟩
  case el =>
    obtain ⟨pj, kj, rs, ea, hl, hn, hk⟩ := h3
    have hj : j < many := by have := (List.getElem?_eq_some_iff.mp hx).1; rw [rangeD_len] at this; exact this
    have ex : x = .int (j : Nat) := by
      unfold rangeD at hx
      rw [List.getElem?_map, List.getElem?_range hj] at hx
      exact (Option.some.inj hx).symm.trans (congrArg D.int (Int.zero_add _))
    subst ex
    have tnj := tn8.kp kj
    have tdj := td8.kp kj
    have hjn : j < ns.length := by omega
    have hjd : j < ds.length := by omega
    simp_arith [c_law_6, tnj.at_, tdj.at_]
    refine ⟨_, atI_nat (by rw [List.getElem?_map, List.getElem?_eq_getElem hjn]; rfl), _, atI_nat (by rw [List.getElem?_map, List.getElem?_eq_getElem hjd]; rfl), ?_⟩
    have dok := tdj.ok _ (List.getElem_mem hjd)
    have nok := tnj.ok.nm _ (List.getElem_mem hjn)
    refine ⟨by decide, wrow_spec pj (by omega) (tf8.kp kj) (tp8.kp kj) (th8.kp kj) (by omega) (by omega) hpl hhl fun w R S14 hR hF p14 g14 => ?_⟩
    refine ⟨by rw [ea, List.length_map]; exact Nat.lt_of_lt_of_le (show rs.length < 401 by omega) (by decide), hN2 _ _ ⟨p14.mono (by omega), kj.trans g14, rs ++ [⟨w, ns[j], ds[j], R⟩], by rw [ea, List.map_append]; rfl, by rw [List.length_append, hl]; rfl, ?_, fun r hr => ?_⟩⟩
    · rw [List.map_append, hn]
      exact (take_snoc hjn).symm
    · rcases List.mem_append.mp hr with hr | hr
      · exact hk r hr
      · rw [List.mem_singleton] at hr
        subst hr
        exact ⟨⟨nok, dok.1, dok.2, hR⟩, by rw [hxf]; exact hF⟩
  case af =>
    obtain ⟨pj, kj, rs, ea, hl, hnn, hk⟩ := h3
    rw [rangeD_len] at hl hnn pj
    subst ea
    intro c hc
    have nc := pj.ne hc
    have p9 := pj.new (o := .lst (rs.map Ro.R)) hc
    have k9 := kj.trans (Gr.new (o := .lst (rs.map Ro.R)) hc).kp
    have e9 : updS S' c (.lst (rs.map Ro.R)) c = some (.lst (rs.map Ro.R)) := updS_same
    have ndr : (rs.map Ro.n).Nodup := by rw [hnn]; exact tn8.ok.nd.sublist (List.take_sublist _ _)
    generalize updS S' c (.lst (rs.map Ro.R)) = S9 at p9 k9 e9
    unfold t_law_7
    refine seq_i ?_
    simp_arith []
    refine ⟨_, e9, ?_⟩
    refine keyed_ro place_spec (fun r hr => (hk r hr).1) ndr (.refl _) fun n hn => ?_
    refine ⟨_, updS_same, by decide, ?_⟩
    have p10 := p9.new (o := .lst (srt rs)) hn
    have k10 := k9.trans (Gr.new (o := .lst (srt rs)) hn).kp
    generalize updS S9 n (.lst (srt rs)) = S10 at p10 k10
    have tf10 := tf8.kp k10
    unfold t_law_8
    refine seq_i ?_
    simp_arith [tf10.at_]
    refine ⟨by decide, fun c4 hc4 => ⟨_, updS_same, _, (Gr.new hc4) _ _ tf10.at_, ?_, fun n5 hn5 => ⟨_, updS_same, ?_⟩⟩⟩
    · show 4 + (fs.map DL.D.str).length ≤ sizeLine
      rw [List.length_map]
      exact Nat.le_trans (show 4 + fs.length ≤ 12 by omega) (by decide)
    have p11 := p10.new (o := .lst [DL.D.str "zq", .str "zqz", .str "zqzq", .str "qz"]) hc4
    have p12 := p11.new (o := .lst ([DL.D.str "zq", .str "zqz", .str "zqzq", .str "qz"] ++ fs.map .str)) hn5
    have k12 := (k10.trans (Gr.new (o := .lst [DL.D.str "zq", .str "zqz", .str "zqzq", .str "qz"]) hc4).kp).trans (Gr.new (o := .lst ([DL.D.str "zq", .str "zqz", .str "zqzq", .str "qz"] ++ fs.map .str)) hn5).kp
    have e12 : updS (updS S10 c4 (.lst [DL.D.str "zq", .str "zqz", .str "zqzq", .str "qz"])) n5 (.lst ([DL.D.str "zq", .str "zqz", .str "zqzq", .str "qz"] ++ fs.map .str)) n5 = some (.lst ([DL.D.str "zq", .str "zqz", .str "zqzq", .str "qz"] ++ fs.map .str)) := updS_same
    generalize updS (updS S10 c4 (.lst [DL.D.str "zq", .str "zqz", .str "zqzq", .str "qz"])) n5 (.lst ([DL.D.str "zq", .str "zqz", .str "zqzq", .str "qz"] ++ fs.map .str)) = S12 at p12 k12 e12
    have tf12 := tf8.kp k12
    have eI : [DL.D.str "zq", .str "zqz", .str "zqzq", .str "qz"] ++ fs.map DL.D.str = (Z4 ++ fs).map DL.D.str := by rw [List.map_append]; rfl
    rw [eI] at e12 ⊢
    refine lcL_inv _ (fun j acc S' => S' = S12 ∧ ∃ ws : List Str, acc = ws.map .str ∧ ws.length ≤ j ∧ (∀ z ∈ ws, z ∈ Z4 ++ fs ∧ z ∉ fs) ∧ ∀ z ∈ (Z4 ++ fs).take j, z ∉ fs → z ∈ ws) (fun _ _ _ h => h.1 ▸ e12) (fun j y acc S' N2 hyj h3 hN2 => ?el2) (fun acc S' h3 => ?af2) ⟨rfl, [], rfl, Nat.le_refl _, (fun _ z => nomatch z), fun _ z => nomatch z⟩
    case el2 =>
      obtain ⟨rfl, ws, ea, wl, w1, w2⟩ := h3
      obtain ⟨z, hz, rfl⟩ : ∃ z, (Z4 ++ fs)[j]? = some z ∧ y = .str z := by
        rw [List.getElem?_map] at hyj
        cases e : (Z4 ++ fs)[j]? with
        | none => rw [e] at hyj; cases hyj
        | some z => rw [e] at hyj; exact ⟨z, rfl, (Option.some.inj hyj).symm⟩
      simp_arith [tf12.at_]
      refine ⟨rfl, flat_strs fs, ?_⟩
      rw [any_str]
      have en : (Z4 ++ fs).take (j + 1) = (Z4 ++ fs).take j ++ [z] := by
        rw [List.take_succ, hz]
        rfl
      by_cases c : z ∈ fs
      · rw [decide_eq_true c]
        refine hN2 _ _ ⟨rfl, ws, ea, by omega, w1, fun x hx hn => ?_⟩
        rw [en] at hx
        rcases List.mem_append.mp hx with hx | hx
        · exact w2 x hx hn
        · rw [List.mem_singleton.mp hx] at hn; exact absurd c hn
      · rw [decide_eq_false c]
        simp_arith [c_law_8]
        refine ⟨by rw [ea, List.length_map]; exact Nat.lt_of_le_of_lt (show ws.length ≤ 400 by have := (List.getElem?_eq_some_iff.mp hz).1; rw [List.length_append, show Z4.length = 4 from rfl] at this; omega) (by decide), hN2 _ _ ⟨rfl, ws ++ [z], by rw [ea, List.map_append]; rfl, by rw [List.length_append]; show ws.length + 1 ≤ j + 1; omega, fun x hx => ?_, fun x hx hn => ?_⟩⟩
        · rcases List.mem_append.mp hx with hx | hx
          · exact w1 x hx
          · rw [List.mem_singleton.mp hx]; exact ⟨List.mem_of_getElem? hz, c⟩
        · rw [en] at hx
          rcases List.mem_append.mp hx with hx | hx
          · exact List.mem_append.mpr (.inl (w2 x hx hn))
          · exact List.mem_append.mpr (.inr hx)
    case af2 =>
      obtain ⟨rfl, ws, ea, wl, w1, w2⟩ := h3
      rw [List.length_map, List.take_of_length_le (Nat.le_refl _)] at w2
      have hq : ¬ (("zq" : Str) ∈ fs ∧ ("zqzq" : Str) ∈ fs) := by
        have := tf8.ok.zq
        rw [List.take_of_length_le (by omega)] at this
        exact this
      have hne : 0 < ws.length := by
        rcases Nat.eq_zero_or_pos ws.length with h | h
        · refine absurd ⟨Classical.byContradiction fun x => ?_, Classical.byContradiction fun x => ?_⟩ hq
          · have := w2 _ (List.mem_append.mpr (.inl (show ("zq" : Str) ∈ Z4 by decide))) x
            rw [List.length_eq_zero_iff.mp h] at this
            cases this
          · have := w2 _ (List.mem_append.mpr (.inl (show ("zqzq" : Str) ∈ Z4 by decide))) x
            rw [List.length_eq_zero_iff.mp h] at this
            cases this
        · exact h
      obtain ⟨z, hz, z1, z2⟩ : ∃ z, ws[0]? = some z ∧ Nm z ∧ z ∉ fs := by
        refine ⟨ws[0], List.getElem?_eq_getElem hne, ?_, (w1 _ (List.getElem_mem hne)).2⟩
        obtain ⟨m1, m2⟩ := w1 _ (List.getElem_mem hne)
        rcases List.mem_append.mp m1 with m1 | m1
        · exact z4_nm _ m1
        · exact absurd m1 m2
      subst ea
      intro c2 hc2
      have p13 := p12.new (o := .lst (ws.map DL.D.str)) hc2
      have k13 := k12.trans (Gr.new (o := .lst (ws.map DL.D.str)) hc2).kp
      have e13 : updS S' c2 (.lst (ws.map DL.D.str)) c2 = some (.lst (ws.map DL.D.str)) := updS_same
      generalize updS S' c2 (.lst (ws.map DL.D.str)) = S13 at p13 k13 e13
      simp_arith [e13]
      refine ⟨_, atI_nat (j := 0) (by rw [List.getElem?_map, hz]; rfl), ?_⟩
      unfold t_law_9
      refine seq_i ?_
      have tn13 := tn8.kp k13
      have td13 := td8.kp k13
      have j1 : 41 < ns.length := by omega
      have j2 : 41 < ds.length := by omega
      simp_arith [tn13.at_, td13.at_]
      refine ⟨_, atI_nat (j := 41) (by rw [List.getElem?_map, List.getElem?_eq_getElem j1]; rfl), _, atI_nat (j := 41) (by rw [List.getElem?_map, List.getElem?_eq_getElem j2]; rfl), ?_⟩
      have dok := td13.ok _ (List.getElem_mem j2)
      have nok := tn13.ok.nm _ (List.getElem_mem j1)
      refine ⟨by decide, wrow_spec p13 (by omega) (tf8.kp k13) (tp8.kp k13) (th8.kp k13) (by omega) (by omega) hpl hhl fun w R S14 hR hF p14 g14 => ?_⟩
      have fok : (⟨w, ns[41], ds[41], R⟩ : Ro).ok := ⟨nok, dok.1, dok.2, hR⟩
      have k14 := k13.trans g14
      obtain ⟨fresh, ef, hfok, hfn, hff⟩ : ∃ fr : Ro, fr.R = R ∧ fr.ok ∧ fr.n = ns[41] ∧ FIn (· ∈ xs.map (·.f)) fr.w fr.R := ⟨⟨w, ns[41], ds[41], R⟩, rfl, fok, rfl, by rw [hxf]; exact hF⟩
      have hfr : fresh.n ∉ rs.map Ro.n := fun hm => by
        rw [hnn, hfn] at hm
        obtain ⟨i, hi, e⟩ := List.getElem_of_mem hm
        rw [List.length_take] at hi
        rw [List.getElem_take] at e
        exact absurd e (List.pairwise_iff_getElem.mp tn8.ok.nd i 41 (by omega) j1 (by omega))
      subst ef
      clear fok hR hF
      have W14 := k14 _ _ nWr WA
      unfold t_law_10
      refine seq_i ?_
      simp_arith []
      refine ⟨by decide, by decide, ?_⟩
      obtain ⟨B2, hB2, p15⟩ : ∃ B2, B2 ≤ 9000 ∧ Pen S14 p pc B2 := ⟨_, by omega, p14⟩
      clear p14
      refine forR_inv 0 10 (fun i σ S' => (∃ u, σ = [some (.fl (ns_.map .int)), some (.ref p), some (.int (many : Nat)), some (.ref da), some (.tup (xs.map Fd.D)), some (.ref c), some (rollR xs rs), some (.str z), some fresh.R, u, some (.ref f), some (.ref pl), some (.ref ho), some (.ref na), none, none, none]) ∧ Pen S' p pc (B2 + 200 * i) ∧ Kp p S14 S') (fun _ _ _ _ => trivial) (fun i σ S' N hi hJ hN => ?turn) (fun σ S' hJ => ?fin) ⟨⟨_, rfl⟩, p15, fun _ _ _ h => h⟩
      case turn =>
        obtain ⟨⟨_, rfl⟩, pj, kj⟩ := hJ
        simp_arith [l_law_10]
        refine with_right_spec (kj _ _ nWr W14) nWr pj (by omega) hxok (fun r hr => (hk r hr).1) ndr (by omega) hfok hfr z1 (by rw [hxf]; exact z2) (by omega) hff (fun r hr => (hk r hr).2) fun S2 p2 k2 => ?_
        simp_arith []
        exact hN _ _ ⟨⟨_, rfl⟩, p2.mono (by omega), kj.trans k2⟩
      case fin =>
        obtain ⟨⟨u9, rfl⟩, pj, kj⟩ := hJ
        have k16 := k14.trans kj
        have tn16 := tn8.kp k16
        have W16 := k16 _ _ nWn WB
        simp only [nx_mk]
        unfold t_law_13
        refine seq_i ?_
        rw [show rollR xs rs = .tup [.tup (xs.map Fd.D), .tup (srt rs)] from rfl]
        simp_arith []
        refine ⟨_, atI_nat (j := 1) rfl, ?_⟩
        simp_arith []
        refine lcL_inv _ (fun j acc S4 => Gr S' S4 ∧ ∃ bs : List Bool, acc = bs.map .bl ∧ bs.all id = true ∧ bs.length = j) (fun _ _ _ _ => trivial) (fun j y acc S4 N2 hyj h3 hN2 => ?el3) (fun acc S4 h3 => ?af3) ⟨fun _ _ h => h, [], rfl, rfl, rfl⟩
        case el3 =>
          obtain ⟨g4, bs, ea, eb, bl⟩ := h3
          obtain ⟨r, hr, er⟩ := List.mem_map.mp (srt_mem.mp (List.mem_of_getElem? hyj))
          have hjl : j < (srt rs).length := (List.getElem?_eq_some_iff.mp hyj).1
          rw [srt_len] at hjl
          subst er
          simp_arith [c_law_13]
          show m_wwithout_right [rollR xs rs, r.R] S4 _
          refine without_right_spec hxok (by omega) (fun r hr => (hk r hr).1) ndr (by omega) hr (hk r hr).2 fun S5 g5 => ?_
          refine ⟨by rw [ea, List.length_map]; exact Nat.lt_of_le_of_lt (show bs.length ≤ 400 by omega) (by decide), hN2 _ _ ⟨g4.trans g5, bs ++ [true], by rw [ea, List.map_append]; rfl, by rw [List.all_append, eb]; rfl, by rw [List.length_append, bl]; rfl⟩⟩
        case af3 =>
          obtain ⟨g4, bs, ea, eb, bl⟩ := h3
          subst ea
          intro c5 hc5
          refine ⟨bs, updS_same, ?_⟩
          rw [eb, if_neg (by decide)]
          have g6 := g4.trans (Gr.new (o := .lst (bs.map DL.D.bl)) hc5)
          generalize updS S4 c5 (.lst (bs.map DL.D.bl)) = S6 at g6
          have e16 := g6 _ _ tn16.at_
          have W6 := g6 _ _ W16
          unfold t_law_15
          refine ret_i ?_
          simp_arith [e16]
          have ec : cutL (ns.map D.str) (some 42) none = (ns.drop 42).map D.str := by
            rw [show (42 : Int) = ((42 : Nat) : Int) from rfl, cutL_from, List.map_drop]
          refine ⟨_, rfl, fun n6 hn6 => ?_⟩
          rw [ec]
          have W7 := (Gr.new (o := .lst ((ns.drop 42).map D.str)) hn6) _ _ W6
          show m_wnot_called [rollR xs rs, .ref n6] _ _
          refine not_called_spec (fun r hr => (hk r hr).1) W7 updS_same (by rw [List.length_drop]; omega) (fun z5 hz5 r hr e5 => ?_) fun _ _ => rfl
          have hm5 : r.n ∈ rs.map Ro.n := List.mem_map_of_mem hr
          rw [hnn] at hm5
          obtain ⟨i, hi, e6⟩ := List.getElem_of_mem hm5
          obtain ⟨k, hk2, e7⟩ := List.getElem_of_mem hz5
          rw [List.length_take] at hi
          rw [List.length_drop] at hk2
          rw [List.getElem_take] at e6
          rw [List.getElem_drop] at e7
          exact absurd (e6.trans (e5.trans e7.symm)) (List.pairwise_iff_getElem.mp tn8.ok.nd i (42 + k) (by omega) (by omega) (by omega))
end LW
open PySem PySem.W PyProof.Rows
set_option maxHeartbeats 0 in
theorem PySem.Challenge.cw_dykelengths_k07_rows_put_in_and_left_out_holds : PySem.Challenge.rw_dykelengths_k07_rows_put_in_and_left_out.Holds := by
  w_on; o_law; k_head; (case hw => w_witness2)
  k_fill
  refine' DL.walk_ofT (l := PySem.Challenge.rw_dykelengths_k07_rows_put_in_and_left_out) (n := 63) (k := 13) (x := "_law_script") (m := LW.m_law) LW.tabT rfl (by decide) rfl ⟨rfl, by decide, by decide⟩ (fun w h Y => PySem.W.km_in_of Y) ?hK ?F LW.law_true
  case hK =>
    intro w h Y
    exact List.forall_mem_cons.mpr ⟨⟨DL.codeHd_l (PySem.W.km_in_of Y) (by k_is) (by rfl), PySem.W.km_tabs_of Y _ (by decide), DL.km_none Y (by decide +kernel)⟩, List.forall_mem_cons.mpr ⟨⟨DL.codeHd_l (PySem.W.km_in_of Y) (by k_is) (by rfl), PySem.W.km_tabs_of Y _ (by decide), DL.km_none Y (by decide +kernel)⟩, (fun _ z => nomatch z)⟩⟩
  case F =>
    intro w mg fa h Y KX G hmg
    refine' LW.law_mk KX G hmg ?T ?a2 ?l2 ?c2 ?k2
    (case a2 => k_is); (case l2 => k_is); (case c2 => k_is); (case k2 => k_is)
    case T =>
      refine' ⟨?f0, ?f1, ?f2, ?f3, ?f4, ?f5, ?f6, ?f7, ?f8, ?f9, ?f10, ?f11, ?f12, ?f13, ?f14, ?f15, ?f16, ?f17, ?f18, ?f19, ?f20, ?f21, ?f22, ?f23, ?f24, ?f25, ?f26, ?f27, ?f28, ?f29, ?f30, ?f31, ?f32, ?f33, ?f34, ?f35, ?f36, ?f37, ?f38, ?f39, ?f40, ?f41, ?n0, ?n1, ?n2, ?n3, ?n4, ?n5, ?n6, ?n7, ?n8, ?n9, ?n10, ?n11, ?n12, ?n13, ?n14, ?c0, ?c1, ?c2, ?c3, ?c4, ?c5, ?c6, ?c7, ?c8, ?t0, ?t1, ?k0, ?k1, ?k2, ?k3, ?k4, ?k5, ?k6, ?k7, ?k8, ?k9, ?k10, ?k11, ?k12, ?e0, ?e1, ?e2, ?e3, ?h0, ?h1, ?xt, ?p0⟩
      case f0 =>
        refine' LW.ft_mk KX G ?a ?l ?c ?k (fun _ _ _ _ _ _ us hl => match us, hl with | [_], _ => rfl)
        (case a => k_is); (case l => k_is); (case c => k_is); (case k => k_is)
      case f1 =>
        refine' LW.ft_mk KX G ?a ?l ?c ?k (fun _ _ _ _ _ _ us hl => match us, hl with | [_, _], _ => rfl)
        (case a => k_is); (case l => k_is); (case c => k_is); (case k => k_is)
      case f2 =>
        refine' LW.ft_mk KX G ?a ?l ?c ?k (fun _ _ _ _ _ _ us hl => match us, hl with | [_, _], _ => rfl)
        (case a => k_is); (case l => k_is); (case c => k_is); (case k => k_is)
      case f3 =>
        refine' LW.ft_mk KX G ?a ?l ?c ?k (fun _ _ _ _ _ _ us hl => match us, hl with | [_, _, _], _ => rfl)
        (case a => k_is); (case l => k_is); (case c => k_is); (case k => k_is)
      case f4 =>
        refine' LW.ft_mk KX G ?a ?l ?c ?k (fun _ _ _ _ _ _ us hl => match us, hl with | [_, _], _ => rfl)
        (case a => k_is); (case l => k_is); (case c => k_is); (case k => k_is)
      case f5 =>
        refine' LW.ft_mk KX G ?a ?l ?c ?k (fun _ _ _ _ _ _ us hl => match us, hl with | [_, _, _], _ => rfl)
        (case a => k_is); (case l => k_is); (case c => k_is); (case k => k_is)
      case f6 =>
        refine' LW.ft_mk KX G ?a ?l ?c ?k (fun _ _ _ _ _ _ us hl => match us, hl with | [_, _, _], _ => rfl)
        (case a => k_is); (case l => k_is); (case c => k_is); (case k => k_is)
      case f7 =>
        refine' LW.ft_mk KX G ?a ?l ?c ?k (fun _ _ _ _ _ _ us hl => match us, hl with | [_, _, _], _ => rfl)
        (case a => k_is); (case l => k_is); (case c => k_is); (case k => k_is)
      case f8 =>
        refine' LW.ft_mk KX G ?a ?l ?c ?k (fun _ _ _ _ _ _ us hl => match us, hl with | [_, _, _, _, _], _ => rfl)
        (case a => k_is); (case l => k_is); (case c => k_is); (case k => k_is)
      case f9 =>
        refine' LW.ft_mk KX G ?a ?l ?c ?k (fun _ _ _ _ _ _ us hl => match us, hl with | [_, _, _, _], _ => rfl)
        (case a => k_is); (case l => k_is); (case c => k_is); (case k => k_is)
      case f10 =>
        refine' LW.ft_mk KX G ?a ?l ?c ?k (fun _ _ _ _ _ _ us hl => match us, hl with | [_, _], _ => rfl)
        (case a => k_is); (case l => k_is); (case c => k_is); (case k => k_is)
      case f11 =>
        refine' LW.ft_mk KX G ?a ?l ?c ?k (fun _ _ _ _ _ _ us hl => match us, hl with | [_, _], _ => rfl)
        (case a => k_is); (case l => k_is); (case c => k_is); (case k => k_is)
      case f12 =>
        refine' LW.ft_mk KX G ?a ?l ?c ?k (fun _ _ _ _ _ _ us hl => match us, hl with | [_, _], _ => rfl)
        (case a => k_is); (case l => k_is); (case c => k_is); (case k => k_is)
      case f13 =>
        refine' LW.ft_mk KX G ?a ?l ?c ?k (fun _ _ _ _ _ _ us hl => match us, hl with | [_, _, _, _], _ => rfl)
        (case a => k_is); (case l => k_is); (case c => k_is); (case k => k_is)
      case f14 =>
        refine' LW.ft_mk KX G ?a ?l ?c ?k (fun _ _ _ _ _ _ us hl => match us, hl with | [_], _ => rfl)
        (case a => k_is); (case l => k_is); (case c => k_is); (case k => k_is)
      case f15 =>
        refine' LW.ft_mk KX G ?a ?l ?c ?k (fun _ _ _ _ _ _ us hl => match us, hl with | [_], _ => rfl)
        (case a => k_is); (case l => k_is); (case c => k_is); (case k => k_is)
      case f16 =>
        refine' LW.ft_mk KX G ?a ?l ?c ?k (fun _ _ _ _ _ _ us hl => match us, hl with | [_], _ => rfl)
        (case a => k_is); (case l => k_is); (case c => k_is); (case k => k_is)
      case f17 =>
        refine' LW.ft_mk KX G ?a ?l ?c ?k (fun _ _ _ _ _ _ us hl => match us, hl with | [_], _ => rfl)
        (case a => k_is); (case l => k_is); (case c => k_is); (case k => k_is)
      case f18 =>
        refine' LW.ft_mk KX G ?a ?l ?c ?k (fun _ _ _ _ _ _ us hl => match us, hl with | [_], _ => rfl)
        (case a => k_is); (case l => k_is); (case c => k_is); (case k => k_is)
      case f19 =>
        refine' LW.ft_mk KX G ?a ?l ?c ?k (fun _ _ _ _ _ _ us hl => match us, hl with | [_, _, _], _ => rfl)
        (case a => k_is); (case l => k_is); (case c => k_is); (case k => k_is)
      case f20 =>
        refine' LW.ft_mk KX G ?a ?l ?c ?k (fun _ _ _ _ _ _ us hl => match us, hl with | [_], _ => rfl)
        (case a => k_is); (case l => k_is); (case c => k_is); (case k => k_is)
      case f21 =>
        refine' LW.ft_mk KX G ?a ?l ?c ?k (fun _ _ _ _ _ _ us hl => match us, hl with | [_], _ => rfl)
        (case a => k_is); (case l => k_is); (case c => k_is); (case k => k_is)
      case f22 =>
        refine' LW.ft_mk KX G ?a ?l ?c ?k (fun _ _ _ _ _ _ us hl => match us, hl with | [_], _ => rfl)
        (case a => k_is); (case l => k_is); (case c => k_is); (case k => k_is)
      case f23 =>
        refine' LW.ft_mk KX G ?a ?l ?c ?k (fun _ _ _ _ _ _ us hl => match us, hl with | [_], _ => rfl)
        (case a => k_is); (case l => k_is); (case c => k_is); (case k => k_is)
      case f24 =>
        refine' LW.ft_mk KX G ?a ?l ?c ?k (fun _ _ _ _ _ _ us hl => match us, hl with | [_], _ => rfl)
        (case a => k_is); (case l => k_is); (case c => k_is); (case k => k_is)
      case f25 =>
        refine' LW.ft_mk KX G ?a ?l ?c ?k (fun _ _ _ _ _ _ us hl => match us, hl with | [_], _ => rfl)
        (case a => k_is); (case l => k_is); (case c => k_is); (case k => k_is)
      case f26 =>
        refine' LW.ft_mk KX G ?a ?l ?c ?k (fun _ _ _ _ _ _ us hl => match us, hl with | [_], _ => rfl)
        (case a => k_is); (case l => k_is); (case c => k_is); (case k => k_is)
      case f27 =>
        refine' LW.ft_mk KX G ?a ?l ?c ?k (fun _ _ _ _ _ _ us hl => match us, hl with | [_], _ => rfl)
        (case a => k_is); (case l => k_is); (case c => k_is); (case k => k_is)
      case f28 =>
        refine' LW.ft_mk KX G ?a ?l ?c ?k (fun _ _ _ _ _ _ us hl => match us, hl with | [_], _ => rfl)
        (case a => k_is); (case l => k_is); (case c => k_is); (case k => k_is)
      case f29 =>
        refine' LW.ft_mk KX G ?a ?l ?c ?k (fun _ _ _ _ _ _ us hl => match us, hl with | [_, _], _ => rfl)
        (case a => k_is); (case l => k_is); (case c => k_is); (case k => k_is)
      case f30 =>
        refine' LW.ft_mk KX G ?a ?l ?c ?k (fun _ _ _ _ _ _ us hl => match us, hl with | [_, _], _ => rfl)
        (case a => k_is); (case l => k_is); (case c => k_is); (case k => k_is)
      case f31 =>
        refine' LW.ft_mk KX G ?a ?l ?c ?k (fun _ _ _ _ _ _ us hl => match us, hl with | [_], _ => rfl)
        (case a => k_is); (case l => k_is); (case c => k_is); (case k => k_is)
      case f32 =>
        refine' LW.ft_mk KX G ?a ?l ?c ?k (fun _ _ _ _ _ _ us hl => match us, hl with | [_], _ => rfl)
        (case a => k_is); (case l => k_is); (case c => k_is); (case k => k_is)
      case f33 =>
        refine' LW.ft_mk KX G ?a ?l ?c ?k (fun _ _ _ _ _ _ us hl => match us, hl with | [_, _], _ => rfl)
        (case a => k_is); (case l => k_is); (case c => k_is); (case k => k_is)
      case f34 =>
        refine' LW.ft_mk KX G ?a ?l ?c ?k (fun _ _ _ _ _ _ us hl => match us, hl with | [_], _ => rfl)
        (case a => k_is); (case l => k_is); (case c => k_is); (case k => k_is)
      case f35 =>
        refine' LW.ft_mk KX G ?a ?l ?c ?k (fun _ _ _ _ _ _ us hl => match us, hl with | [_], _ => rfl)
        (case a => k_is); (case l => k_is); (case c => k_is); (case k => k_is)
      case f36 =>
        refine' LW.ftc_mk KX G ?a ?l ?c ?k (fun _ _ _ _ _ _ us hl => match us, hl with | [_, _, _, _], _ => rfl)
        (case a => k_is); (case l => k_is); (case c => k_is); (case k => k_is)
      case f37 =>
        refine' LW.ft_mk KX G ?a ?l ?c ?k (fun _ _ _ _ _ _ us hl => match us, hl with | [_, _], _ => rfl)
        (case a => k_is); (case l => k_is); (case c => k_is); (case k => k_is)
      case f38 =>
        refine' LW.ft_mk KX G ?a ?l ?c ?k (fun _ _ _ _ _ _ us hl => match us, hl with | [_, _], _ => rfl)
        (case a => k_is); (case l => k_is); (case c => k_is); (case k => k_is)
      case f39 =>
        refine' LW.ft_mk KX G ?a ?l ?c ?k (fun _ _ _ _ _ _ us hl => match us, hl with | [_, _], _ => rfl)
        (case a => k_is); (case l => k_is); (case c => k_is); (case k => k_is)
      case f40 =>
        refine' LW.ftc_mk KX G ?a ?l ?c ?k (fun _ _ _ _ _ _ us hl => match us, hl with | [_, _], _ => rfl)
        (case a => k_is); (case l => k_is); (case c => k_is); (case k => k_is)
      case f41 =>
        refine' LW.ft_mk KX G ?a ?l ?c ?k (fun _ _ _ _ _ _ us hl => match us, hl with | [_], _ => rfl)
        (case a => k_is); (case l => k_is); (case c => k_is); (case k => k_is)
      case n0 => exact PySem.W.mg_none_of KX G (by k_is)
      case n1 => exact PySem.W.mg_none_of KX G (by k_is)
      case n2 => exact PySem.W.mg_none_of KX G (by k_is)
      case n3 => exact PySem.W.mg_none_of KX G (by k_is)
      case n4 => exact PySem.W.mg_none_of KX G (by k_is)
      case n5 => exact PySem.W.mg_none_of KX G (by k_is)
      case n6 => exact PySem.W.mg_none_of KX G (by k_is)
      case n7 => exact PySem.W.mg_none_of KX G (by k_is)
      case n8 => exact PySem.W.mg_none_of KX G (by k_is)
      case n9 => exact PySem.W.mg_none_of KX G (by k_is)
      case n10 => exact PySem.W.mg_none_of KX G (by k_is)
      case n11 => exact PySem.W.mg_none_of KX G (by k_is)
      case n12 => exact PySem.W.mg_none_of KX G (by k_is)
      case n13 => exact PySem.W.mg_none_of KX G (by k_is)
      case n14 => exact PySem.W.mg_none_of KX G (by k_is)
      case c0 => exact ⟨_, PySem.W.mg_of KX G (by k_is)⟩
      case c1 => exact ⟨_, PySem.W.mg_of KX G (by k_is)⟩
      case c2 => exact ⟨_, PySem.W.mg_of KX G (by k_is)⟩
      case c3 => exact ⟨_, PySem.W.mg_of KX G (by k_is)⟩
      case c4 => exact ⟨_, PySem.W.mg_of KX G (by k_is)⟩
      case c5 => exact ⟨_, PySem.W.mg_of KX G (by k_is)⟩
      case c6 => exact ⟨_, PySem.W.mg_of KX G (by k_is)⟩
      case c7 => exact ⟨_, PySem.W.mg_of KX G (by k_is)⟩
      case c8 => exact ⟨_, PySem.W.mg_of KX G (by k_is)⟩
      case t0 =>
        refine' ⟨_, _, _, PySem.W.mg_of KX G (by k_is), ⟨?q2, ?q3, by decide⟩, ?q5⟩
        (case q2 => k_is)
        (case q3 => exact ⟨⟨_, _, rfl, rfl⟩, ⟨_, _, rfl, rfl⟩, ⟨_, _, rfl, rfl⟩, ⟨_, _, rfl, rfl⟩, ⟨_, _, rfl, rfl⟩, ⟨_, _, rfl, rfl⟩, ⟨_, _, rfl, rfl⟩, ⟨_, _, rfl, rfl⟩, trivial⟩)
        (case q5 => exact ⟨⟨_, by k_is⟩, ⟨_, by k_is⟩, ⟨_, by k_is⟩, ⟨_, by k_is⟩, ⟨_, by k_is⟩, ⟨_, by k_is⟩, ⟨_, by k_is⟩, ⟨_, by k_is⟩, trivial⟩)
      case t1 =>
        refine' ⟨_, _, _, PySem.W.mg_of KX G (by k_is), ⟨?q2, ?q3, by decide⟩, ?q5⟩
        (case q2 => k_is)
        (case q3 => exact ⟨⟨_, _, rfl, rfl⟩, ⟨_, _, rfl, rfl⟩, ⟨_, _, rfl, rfl⟩, ⟨_, _, rfl, rfl⟩, ⟨_, _, rfl, rfl⟩, ⟨_, _, rfl, rfl⟩, ⟨_, _, rfl, rfl⟩, ⟨_, _, rfl, rfl⟩, trivial⟩)
        (case q5 => exact ⟨⟨_, by k_is⟩, ⟨_, by k_is⟩, ⟨_, by k_is⟩, ⟨_, by k_is⟩, ⟨_, by k_is⟩, ⟨_, by k_is⟩, ⟨_, by k_is⟩, ⟨_, by k_is⟩, trivial⟩)
      case k0 => exact DL.clsT_mk KX G (by k_is)
      case k1 => exact DL.clsT_mk KX G (by k_is)
      case k2 => exact DL.clsT_mk KX G (by k_is)
      case k3 => exact DL.clsT_mk KX G (by k_is)
      case k4 => exact DL.clsT_mk KX G (by k_is)
      case k5 => exact DL.clsT_mk KX G (by k_is)
      case k6 => exact DL.clsT_mk KX G (by k_is)
      case k7 => exact DL.clsT_mk KX G (by k_is)
      case k8 => exact DL.clsT_mk KX G (by k_is)
      case k9 => exact DL.clsT_mk KX G (by k_is)
      case k10 => exact DL.clsT_mk KX G (by k_is)
      case k11 => exact DL.clsT_mk KX G (by k_is)
      case k12 => exact DL.clsT_mk KX G (by k_is)
      case e0 =>
        refine' DL.exT_mk KX G ?a ?x ?k ?b ?t
        (case a => k_is); (case x => k_exc); (case k => k_is); (case b => k_is); (case t => k_is)
      case e1 =>
        refine' DL.exT_mk KX G ?a ?x ?k ?b ?t
        (case a => k_is); (case x => k_exc); (case k => k_is); (case b => k_is); (case t => k_is)
      case e2 =>
        refine' DL.exT_mk KX G ?a ?x ?k ?b ?t
        (case a => k_is); (case x => k_exc); (case k => k_is); (case b => k_is); (case t => k_is)
      case e3 =>
        refine' DL.exT_mk KX G ?a ?x ?k ?b ?t
        (case a => k_is); (case x => k_exc); (case k => k_is); (case b => k_is); (case t => k_is)
      case h0 =>
        refine' DL.hndT_mk KX G ?a ?b ?d ?t ?l
        (case a => k_is); (case b => k_is); (case d => k_is); (case t => k_is)
        (case l => exact List.forall_mem_cons.mpr ⟨DL.sub_mk (by k_is) (by k_is), (fun _ z => nomatch z)⟩)
      case h1 =>
        refine' DL.hndT_mk KX G ?a ?b ?d ?t ?l
        (case a => k_is); (case b => k_is); (case d => k_is); (case t => k_is)
        (case l => exact List.forall_mem_cons.mpr ⟨DL.sub_mk (by k_is) (by k_is), List.forall_mem_cons.mpr ⟨DL.sub_mk (by k_is) (by k_is), List.forall_mem_cons.mpr ⟨DL.sub_mk (by k_is) (by k_is), List.forall_mem_cons.mpr ⟨DL.sub_mk (by k_is) (by k_is), (fun _ z => nomatch z)⟩⟩⟩⟩)
      case xt =>
        refine' List.forall_mem_cons.mpr ⟨?x0, List.forall_mem_cons.mpr ⟨?x1, List.forall_mem_cons.mpr ⟨?x2, List.forall_mem_cons.mpr ⟨?x3, (fun _ z => nomatch z)⟩⟩⟩⟩
        case x0 =>
          refine' DL.xis_mk ?a ?e1 ?e2 ?e3 ?e4 ?e5 ?e6 ?e7 ?e8 ?ve ?hs ?xqs
          (case a => k_is); (case e1 => k_is); (case e2 => k_is); (case e3 => k_is); (case e4 => k_is); (case e5 => k_is); (case e6 => k_is); (case e7 => k_is); (case e8 => k_is); (case ve => k_is); (case hs => k_is)
          (case xqs => exact List.forall_mem_cons.mpr ⟨DL.isa_mk (by k_is) (by k_is) (by k_is) (by k_is), List.forall_mem_cons.mpr ⟨DL.isa_mk (by k_is) (by k_is) (by k_is) (by k_is), List.forall_mem_cons.mpr ⟨DL.isa_mk (by k_is) (by k_is) (by k_is) (by k_is), List.forall_mem_cons.mpr ⟨DL.isa_mk (by k_is) (by k_is) (by k_is) (by k_is), List.forall_mem_cons.mpr ⟨DL.isa_mk (by k_is) (by k_is) (by k_is) (by k_is), List.forall_mem_cons.mpr ⟨DL.isa_mk (by k_is) (by k_is) (by k_is) (by k_is), List.forall_mem_cons.mpr ⟨DL.isa_mk (by k_is) (by k_is) (by k_is) (by k_is), List.forall_mem_cons.mpr ⟨DL.isa_mk (by k_is) (by k_is) (by k_is) (by k_is), List.forall_mem_cons.mpr ⟨DL.isa_mk (by k_is) (by k_is) (by k_is) (by k_is), List.forall_mem_cons.mpr ⟨DL.isa_mk (by k_is) (by k_is) (by k_is) (by k_is), List.forall_mem_cons.mpr ⟨DL.isa_mk (by k_is) (by k_is) (by k_is) (by k_is), List.forall_mem_cons.mpr ⟨DL.isa_mk (by k_is) (by k_is) (by k_is) (by k_is), List.forall_mem_cons.mpr ⟨DL.isa_mk (by k_is) (by k_is) (by k_is) (by k_is), (fun _ z => nomatch z)⟩⟩⟩⟩⟩⟩⟩⟩⟩⟩⟩⟩⟩)
        case x1 =>
          refine' DL.xis_mk ?a ?e1 ?e2 ?e3 ?e4 ?e5 ?e6 ?e7 ?e8 ?ve ?hs ?xqs
          (case a => k_is); (case e1 => k_is); (case e2 => k_is); (case e3 => k_is); (case e4 => k_is); (case e5 => k_is); (case e6 => k_is); (case e7 => k_is); (case e8 => k_is); (case ve => k_is); (case hs => k_is)
          (case xqs => exact List.forall_mem_cons.mpr ⟨DL.isa_mk (by k_is) (by k_is) (by k_is) (by k_is), List.forall_mem_cons.mpr ⟨DL.isa_mk (by k_is) (by k_is) (by k_is) (by k_is), List.forall_mem_cons.mpr ⟨DL.isa_mk (by k_is) (by k_is) (by k_is) (by k_is), List.forall_mem_cons.mpr ⟨DL.isa_mk (by k_is) (by k_is) (by k_is) (by k_is), List.forall_mem_cons.mpr ⟨DL.isa_mk (by k_is) (by k_is) (by k_is) (by k_is), List.forall_mem_cons.mpr ⟨DL.isa_mk (by k_is) (by k_is) (by k_is) (by k_is), List.forall_mem_cons.mpr ⟨DL.isa_mk (by k_is) (by k_is) (by k_is) (by k_is), List.forall_mem_cons.mpr ⟨DL.isa_mk (by k_is) (by k_is) (by k_is) (by k_is), List.forall_mem_cons.mpr ⟨DL.isa_mk (by k_is) (by k_is) (by k_is) (by k_is), List.forall_mem_cons.mpr ⟨DL.isa_mk (by k_is) (by k_is) (by k_is) (by k_is), List.forall_mem_cons.mpr ⟨DL.isa_mk (by k_is) (by k_is) (by k_is) (by k_is), List.forall_mem_cons.mpr ⟨DL.isa_mk (by k_is) (by k_is) (by k_is) (by k_is), List.forall_mem_cons.mpr ⟨DL.isa_mk (by k_is) (by k_is) (by k_is) (by k_is), (fun _ z => nomatch z)⟩⟩⟩⟩⟩⟩⟩⟩⟩⟩⟩⟩⟩)
        case x2 =>
          refine' DL.xis_mk ?a ?e1 ?e2 ?e3 ?e4 ?e5 ?e6 ?e7 ?e8 ?ve ?hs ?xqs
          (case a => k_is); (case e1 => k_is); (case e2 => k_is); (case e3 => k_is); (case e4 => k_is); (case e5 => k_is); (case e6 => k_is); (case e7 => k_is); (case e8 => k_is); (case ve => k_is); (case hs => k_is)
          (case xqs => exact List.forall_mem_cons.mpr ⟨DL.isa_mk (by k_is) (by k_is) (by k_is) (by k_is), List.forall_mem_cons.mpr ⟨DL.isa_mk (by k_is) (by k_is) (by k_is) (by k_is), List.forall_mem_cons.mpr ⟨DL.isa_mk (by k_is) (by k_is) (by k_is) (by k_is), List.forall_mem_cons.mpr ⟨DL.isa_mk (by k_is) (by k_is) (by k_is) (by k_is), List.forall_mem_cons.mpr ⟨DL.isa_mk (by k_is) (by k_is) (by k_is) (by k_is), List.forall_mem_cons.mpr ⟨DL.isa_mk (by k_is) (by k_is) (by k_is) (by k_is), List.forall_mem_cons.mpr ⟨DL.isa_mk (by k_is) (by k_is) (by k_is) (by k_is), List.forall_mem_cons.mpr ⟨DL.isa_mk (by k_is) (by k_is) (by k_is) (by k_is), List.forall_mem_cons.mpr ⟨DL.isa_mk (by k_is) (by k_is) (by k_is) (by k_is), List.forall_mem_cons.mpr ⟨DL.isa_mk (by k_is) (by k_is) (by k_is) (by k_is), List.forall_mem_cons.mpr ⟨DL.isa_mk (by k_is) (by k_is) (by k_is) (by k_is), List.forall_mem_cons.mpr ⟨DL.isa_mk (by k_is) (by k_is) (by k_is) (by k_is), List.forall_mem_cons.mpr ⟨DL.isa_mk (by k_is) (by k_is) (by k_is) (by k_is), (fun _ z => nomatch z)⟩⟩⟩⟩⟩⟩⟩⟩⟩⟩⟩⟩⟩)
        case x3 =>
          refine' DL.xis_mk ?a ?e1 ?e2 ?e3 ?e4 ?e5 ?e6 ?e7 ?e8 ?ve ?hs ?xqs
          (case a => k_is); (case e1 => k_is); (case e2 => k_is); (case e3 => k_is); (case e4 => k_is); (case e5 => k_is); (case e6 => k_is); (case e7 => k_is); (case e8 => k_is); (case ve => k_is); (case hs => k_is)
          (case xqs => exact List.forall_mem_cons.mpr ⟨DL.isa_mk (by k_is) (by k_is) (by k_is) (by k_is), List.forall_mem_cons.mpr ⟨DL.isa_mk (by k_is) (by k_is) (by k_is) (by k_is), List.forall_mem_cons.mpr ⟨DL.isa_mk (by k_is) (by k_is) (by k_is) (by k_is), List.forall_mem_cons.mpr ⟨DL.isa_mk (by k_is) (by k_is) (by k_is) (by k_is), List.forall_mem_cons.mpr ⟨DL.isa_mk (by k_is) (by k_is) (by k_is) (by k_is), List.forall_mem_cons.mpr ⟨DL.isa_mk (by k_is) (by k_is) (by k_is) (by k_is), List.forall_mem_cons.mpr ⟨DL.isa_mk (by k_is) (by k_is) (by k_is) (by k_is), List.forall_mem_cons.mpr ⟨DL.isa_mk (by k_is) (by k_is) (by k_is) (by k_is), List.forall_mem_cons.mpr ⟨DL.isa_mk (by k_is) (by k_is) (by k_is) (by k_is), List.forall_mem_cons.mpr ⟨DL.isa_mk (by k_is) (by k_is) (by k_is) (by k_is), List.forall_mem_cons.mpr ⟨DL.isa_mk (by k_is) (by k_is) (by k_is) (by k_is), List.forall_mem_cons.mpr ⟨DL.isa_mk (by k_is) (by k_is) (by k_is) (by k_is), List.forall_mem_cons.mpr ⟨DL.isa_mk (by k_is) (by k_is) (by k_is) (by k_is), (fun _ z => nomatch z)⟩⟩⟩⟩⟩⟩⟩⟩⟩⟩⟩⟩⟩)
      case p0 =>
        exact ⟨_, _, _, _, _, PySem.W.mg_of KX G (by k_is), by k_is, by decide, by exact .cons ⟨_, rfl⟩ (.cons ⟨_, rfl⟩ (.cons ⟨_, rfl⟩ (.nil)))⟩
