import PyProof.Rows.All
import Wide.All
import OpenK.AllK
import Wide.FinOn
import HandS.ForMost
import HandS.Lambda
import KE.SortData
import HandS.IsInst
import HandS.TupAny
import HandS.TupMul
import HandS.Wide
import HandS.Words
import HandS.Walk
import HandS.NoneIn
import KE.GoesZip
import KE.GoesMore
import HandS.Zip
import HandS.Star
import HandS.Style
import PyProof.EnumMake
import HandS.Ends
import HandS.EndTab
import KE.KNestM
import KE.KRevSl
import HandS.Replace
import HandS.Conv
import HandS.More
import HandS.Dict
import HandS.Small
import HandS.TupLe
import HandS.Nested
import HandS.SortKw
import KE.SortKeyHeap
import HandS.SetFor
import KE.KDictZip
import PyProof.ListNew
import KE.DataMinMax
import PyProof.Rows.RowBridgeK
import HandS.Defaults
import PySem.Challenge.RW_dittorows_k21_whole_sorted_tables
set_option Elab.async false
set_option linter.all false
set_option maxRecDepth 100000
set_option maxHeartbeats 4000000
/-! DA: data as trees, what they stand for on the abstract heap, owned trees, the state of a body. -/
namespace DL
open PySem L2

inductive D where
  | non | bl (b : Bool) | int (i : Int) | str (x : Str)
  | tup (xs : List D) | lst (xs : List D) | dic (ks vs : List D) | scr (ns : List Int) | opq (t : Nat) (a : Addr)

/-- what is frozen: an object that stays, or one of which a word that grows with the count stays true -/
structure Grw where
  f : Addr → Nat → Heap → Prop
  mono : ∀ a c h, f a c h → f a (c + 1) h
  stay : ∀ a c h1 h2, f a c h1 → (∀ o, h1.get? a = some o → h2.get? a = some o) → f a c h2
  obj : ∀ a c h, f a c h → ∃ o, h.get? a = some o
/-- tab q: a table of code objects of the name q, itself growing -/
inductive FO where
  | ho (o : HO) | grw (g : Grw) | tab (q : Str)
abbrev FH := Addr → Option FO
def hpo (F : FH) : Hp := fun a => match F a with
  | some (.ho o) => some o
  | _ => none
def TabF (F : FH) (q : Str) (ps : Array Value) : Prop := TriplesOk ps.toList ∧ ∀ (pos : Pos) (cv : Value), codeAmong pos ps.toList = some cv → ∃ c, cv = .ref c ∧ F c = some (.ho (LamX.CodeO c q))
def FO.In (F : FH) (H : Hp) (a : Addr) (c : Nat) : FO → Prop
  | .ho o => H a = some o
  | .grw g => H a = some (.ext (g.f a c))
  | .tab q => ∃ ps, H a = some (.tbl ps) ∧ TabF F q ps
def Ini (c : Nat) (F : FH) (H : Hp) : Prop := ∀ a f, F a = some f → f.In F H a c
def Le (F G : FH) : Prop := ∀ a f, F a = some f → G a = some f
theorem Le.refl (F : FH) : Le F F := fun _ _ h => h
theorem Le.trans {F G J : FH} (a : Le F G) (b : Le G J) : Le F J := fun x f h => b x f (a x f h)
theorem TabF.le {F G : FH} {q : Str} {ps : Array Value} (h : TabF F q ps) (l : Le F G) : TabF G q ps := ⟨h.1, fun pos cv e => by
  obtain ⟨c, h1, h2⟩ := h.2 pos cv e
  exact ⟨c, h1, l _ _ h2⟩⟩
theorem FO.In.ne {F : FH} {H : Hp} {a : Addr} {c : Nat} {f : FO} (h : f.In F H a c) : H a ≠ none := by
  cases f with
  | ho o => rw [show H a = some o from h]; simp
  | grw g => rw [show H a = some (.ext (g.f a c)) from h]; simp
  | tab q => obtain ⟨ps, h, _⟩ := h; rw [h]; simp
theorem FO.In.to {F G : FH} {H H' : Hp} {a : Addr} {c : Nat} {f : FO} (h : f.In F H a c) (e : H' a = H a) (l : Le F G) : f.In G H' a c := by
  cases f with
  | ho o => exact e.trans h
  | grw g => exact e.trans h
  | tab q =>
    obtain ⟨ps, h1, h2⟩ := h
    exact ⟨ps, e.trans h1, h2.le l⟩
theorem hpo_some {F : FH} {a : Addr} {o : HO} : hpo F a = some o ↔ F a = some (.ho o) := by
  unfold hpo
  cases h : F a with
  | none => simp
  | some f => cases f with
    | ho u => simp
    | grw g => simp
    | tab q => simp
theorem Le.hpo {F G : FH} (l : Le F G) : Same (hpo F) (hpo G) := fun a o h => hpo_some.mpr (l a _ (hpo_some.mp h))
theorem Ini.ho {c : Nat} {F : FH} {H : Hp} {a : Addr} {o : HO} (i : Ini c F H) (h : F a = some (.ho o)) : H a = some o := show FO.In F H a c (.ho o) from i a _ h
theorem Ini.grw {c : Nat} {F : FH} {H : Hp} {a : Addr} {g : Grw} (i : Ini c F H) (h : F a = some (.grw g)) : H a = some (.ext (g.f a c)) := show FO.In F H a c (.grw g) from i a _ h
theorem Ini.same {c : Nat} {F : FH} {H : Hp} (i : Ini c F H) : Same (hpo F) H := fun a o h => show FO.In F H a c (.ho o) from i a _ (hpo_some.mp h)
theorem Same.seqT {K : PySem.W.Frag} {H H' : Hp} {a : Addr} {xs : List V} (e : Same H H') (h : SqT K H a xs) : SqT K H' a xs := by
  rcases h with (h | ⟨o, h⟩) | h
  · exact .inl (.inl (e _ _ h))
  · exact .inl (.inr ⟨o, e _ _ h⟩)
  · exact .inr h

/-- keys of dicts: ints and texts; tuples of them -/
def kD : Key → D
  | .inl i => .int i
  | .inr x => .str x
def DicAt (H : Hp) (a : Addr) (ks : List D) (vs : List V) : Prop := ∃ kk : List Key, ks = kk.map kD ∧ kk.length = vs.length ∧ Rd H a (.dK (kk.zip vs))
theorem rd_same {H H' : Hp} {a : Addr} {u : HO} (e : Same H H') (h : Rd H a u) : Rd H' a u := by
  rcases h with h | ⟨o, h⟩
  · exact .inl (e _ _ h)
  · exact .inr ⟨o, e _ _ h⟩
theorem DicAt.same {H H' : Hp} {a : Addr} {ks : List D} {vs : List V} (e : Same H H') (h : DicAt H a ks vs) : DicAt H' a ks vs := by
  obtain ⟨kk, h1, h2, h3⟩ := h
  exact ⟨kk, h1, h2, rd_same e h3⟩

/-- sources of drawn numbers -/
def wInts (h : Heap) (a : Addr) (is : List Int) : Prop := ∃ (ts : List Value) (n : Nat), Vals (is.map V.int) ts ∧ h.get? a = some { cls := .type "list", data := .seq ts.toArray n }
def poolF (q : Addr) (c : Nat) (h : Heap) : Prop := ∃ i j k : Int, wInts h q [i, j, k] ∧ 0 ≤ k ∧ k ≤ 4000 + (c : Int)
def deckF (a p : Addr) (_ : Nat) (h : Heap) : Prop := ∃ (j : Int) (t : Tok) (n : Nat), 0 ≤ j ∧ h.get? a = some { cls := .type "list", data := .seq #[.ref p, .int j t] n }
def crateF (a : Addr) (c : Nat) (h : Heap) : Prop := ∃ i j k : Int, wInts h a [i, j, k] ∧ 0 ≤ j ∧ j < 2 ^ 200 ∧ 0 ≤ k ∧ k ≤ (c : Int)
def listF (p : Addr) (qs : List Addr) (_ : Nat) (h : Heap) : Prop := ∃ n : Nat, h.get? p = some { cls := .type "list", data := .seq (qs.map Value.ref).toArray n }
def poolG : Grw := ⟨poolF, fun a c h => by
  rintro ⟨i, j, k, h1, h2, h3⟩
  exact ⟨i, j, k, h1, h2, by omega⟩, fun a c h1 h2 => by
  rintro ⟨i, j, k, ⟨ts, n, e1, e2⟩, e3⟩ st
  exact ⟨i, j, k, ⟨ts, n, e1, st _ e2⟩, e3⟩, fun a c h => by
  rintro ⟨i, j, k, ⟨ts, n, e1, e2⟩, e3⟩
  exact ⟨_, e2⟩⟩
def deckG (p : Addr) : Grw := ⟨fun a c h => deckF a p c h, fun _ _ _ h => h, fun a c h1 h2 => by
  rintro ⟨j, t, n, e1, e2⟩ st
  exact ⟨j, t, n, e1, st _ e2⟩, fun a c h => by
  rintro ⟨j, t, n, e1, e2⟩
  exact ⟨_, e2⟩⟩
def listG (qs : List Addr) : Grw := ⟨fun p c h => listF p qs c h, fun _ _ _ h => h, fun a c h1 h2 => by
  rintro ⟨n, e⟩ st
  exact ⟨n, st _ e⟩, fun a c h => by
  rintro ⟨n, e⟩
  exact ⟨_, e⟩⟩
def crateG : Grw := ⟨crateF, fun a c h => by
  rintro ⟨i, j, k, h1, h2, h3, h4, h5⟩
  exact ⟨i, j, k, h1, h2, h3, h4, by omega⟩, fun a c h1 h2 => by
  rintro ⟨i, j, k, ⟨ts, n, e1, e2⟩, e3⟩ st
  exact ⟨i, j, k, ⟨ts, n, e1, st _ e2⟩, e3⟩, fun a c h => by
  rintro ⟨i, j, k, ⟨ts, n, e1, e2⟩, e3⟩
  exact ⟨_, e2⟩⟩
def Opq (t : Nat) (F : FH) (a : Addr) : Prop :=
  (t = 0 ∧ ∃ p qs, F a = some (.grw (deckG p)) ∧ F p = some (.grw (listG qs)) ∧ qs ≠ [] ∧ qs.length ≤ 63 ∧ ∀ q ∈ qs, F q = some (.grw poolG)) ∨
  (t = 1 ∧ F a = some (.grw crateG))
theorem Opq.le {t : Nat} {F G : FH} {a : Addr} (l : Le F G) (h : Opq t F a) : Opq t G a := by
  rcases h with ⟨e, p, qs, h1, h2, h3, h4, h5⟩ | ⟨e, h⟩
  · exact .inl ⟨e, p, qs, l _ _ h1, l _ _ h2, h3, h4, fun q hq => l _ _ (h5 q hq)⟩
  · exact .inr ⟨e, l _ _ h⟩

mutual
/-- d stands for v; lists, tuples, dicts are read on H, the rest on F -/
def Rp (K : PySem.W.Frag) (H : Hp) (F : FH) : D → V → Prop
  | .non, v => v = .non
  | .bl b, v => v = .bl b
  | .int i, v => v = .int i
  | .str x, v => v = .str x
  | .tup ds, v => ∃ a vs, v = .ref a ∧ SqT K H a vs ∧ RpL K H F ds vs
  | .lst ds, v => ∃ a vs, v = .ref a ∧ H a = some (.lst vs) ∧ RpL K H F ds vs
  | .dic ks ds, v => ∃ a vs, v = .ref a ∧ DicAt H a ks vs ∧ RpL K H F ds vs
  | .scr ns, v => ∃ a, v = .ref a ∧ SqL K H a (ns.map V.int)
  | .opq t b, v => v = .ref b ∧ Opq t F b
def RpL (K : PySem.W.Frag) (H : Hp) (F : FH) : List D → List V → Prop
  | [], vs => vs = []
  | d :: ds, vs => ∃ v ws, vs = v :: ws ∧ Rp K H F d v ∧ RpL K H F ds ws
end
/-- frozen data -/
abbrev Rf (K : PySem.W.Frag) (F : FH) : D → V → Prop := Rp K (hpo F) F
abbrev RfL (K : PySem.W.Frag) (F : FH) : List D → List V → Prop := RpL K (hpo F) F
section
variable {K : PySem.W.Frag} {H H' : Hp} {F G : FH}
mutual
theorem Rp.mono (e : Same H H') (l : Le F G) : ∀ (d : D) (v : V), Rp K H F d v → Rp K H' G d v
  | .non, v, h => by simpa [Rp] using h
  | .bl b, v, h => by simpa [Rp] using h
  | .int i, v, h => by simpa [Rp] using h
  | .str x, v, h => by simpa [Rp] using h
  | .tup ds, v, h => by
    rw [Rp] at h ⊢
    obtain ⟨a, vs, e1, e2, e3⟩ := h
    exact ⟨a, vs, e1, Same.seqT e e2, RpL.mono e l ds vs e3⟩
  | .lst ds, v, h => by
    rw [Rp] at h ⊢
    obtain ⟨a, vs, e1, e2, e3⟩ := h
    exact ⟨a, vs, e1, e _ _ e2, RpL.mono e l ds vs e3⟩
  | .dic ks ds, v, h => by
    rw [Rp] at h ⊢
    obtain ⟨a, vs, e1, e2, e3⟩ := h
    exact ⟨a, vs, e1, DicAt.same e e2, RpL.mono e l ds vs e3⟩
  | .scr ns, v, h => by
    rw [Rp] at h ⊢
    obtain ⟨a, e1, e2⟩ := h
    exact ⟨a, e1, Same.seq e e2⟩
  | .opq t b, v, h => by
    rw [Rp] at h ⊢
    exact ⟨h.1, h.2.le l⟩
theorem RpL.mono (e : Same H H') (l : Le F G) : ∀ (ds : List D) (vs : List V), RpL K H F ds vs → RpL K H' G ds vs
  | [], vs, h => by simpa [RpL] using h
  | d :: ds, vs, h => by
    rw [RpL] at h ⊢
    obtain ⟨v, ws, e1, e2, e3⟩ := h
    exact ⟨v, ws, e1, Rp.mono e l d v e2, RpL.mono e l ds ws e3⟩
end
theorem Rf.le (l : Le F G) {d : D} {v : V} (h : Rf K F d v) : Rf K G d v := Rp.mono l.hpo l d v h
theorem RfL.le (l : Le F G) {d : List D} {v : List V} (h : RfL K F d v) : RfL K G d v := RpL.mono l.hpo l d v h
theorem RpL.length : ∀ {ds : List D} {vs : List V}, RpL K H F ds vs → ds.length = vs.length
  | [], vs, h => by rw [RpL] at h; subst h; rfl
  | d :: ds, vs, h => by
    rw [RpL] at h
    obtain ⟨v, ws, rfl, _, h⟩ := h
    simp [RpL.length h]
theorem RpL.nil : RpL K H F [] [] := by rw [RpL]
theorem RpL.cons {d : D} {v : V} {ds : List D} {vs : List V} (h : Rp K H F d v) (t : RpL K H F ds vs) : RpL K H F (d :: ds) (v :: vs) := by
  rw [RpL]; exact ⟨v, vs, rfl, h, t⟩
theorem RpL.uncons {d : D} {ds : List D} {vs : List V} (h : RpL K H F (d :: ds) vs) : ∃ v ws, vs = v :: ws ∧ Rp K H F d v ∧ RpL K H F ds ws := by
  rw [RpL] at h; exact h
theorem RpL.nil_inv {vs : List V} (h : RpL K H F [] vs) : vs = [] := by rw [RpL] at h; exact h
theorem RpL.append : ∀ {ds es : List D} {vs ws : List V}, RpL K H F ds vs → RpL K H F es ws → RpL K H F (ds ++ es) (vs ++ ws)
  | [], es, vs, ws, h, h' => by rw [h.nil_inv]; exact h'
  | d :: ds, es, vs, ws, h, h' => by
    obtain ⟨v, us, rfl, a, b⟩ := h.uncons
    exact .cons a (RpL.append b h')
theorem RpL.split : ∀ {ds es : List D} {vs : List V}, RpL K H F (ds ++ es) vs → ∃ us ws, vs = us ++ ws ∧ RpL K H F ds us ∧ RpL K H F es ws
  | [], es, vs, h => ⟨[], vs, rfl, .nil, h⟩
  | d :: ds, es, vs, h => by
    obtain ⟨v, us, rfl, a, b⟩ := RpL.uncons (show RpL K H F (d :: (ds ++ es)) vs from h)
    obtain ⟨u1, u2, rfl, c, e⟩ := RpL.split b
    exact ⟨v :: u1, u2, rfl, .cons a c, e⟩
theorem RpL.get : ∀ {ds : List D} {vs : List V} {i : Nat} {d : D}, RpL K H F ds vs → ds[i]? = some d → ∃ v, vs[i]? = some v ∧ Rp K H F d v
  | [], _, _, _, _, e => by simp at e
  | d :: ds, vs, 0, x, h, e => by
    obtain ⟨v, us, rfl, a, b⟩ := h.uncons
    simp at e; subst e
    exact ⟨v, rfl, a⟩
  | d :: ds, vs, i + 1, x, h, e => by
    obtain ⟨v, us, rfl, a, b⟩ := h.uncons
    obtain ⟨w, h1, h2⟩ := RpL.get (i := i) b (by simpa using e)
    exact ⟨w, by simpa using h1, h2⟩
theorem RpL.get' {ds : List D} {vs : List V} {i : Nat} {v : V} (h : RpL K H F ds vs) (e : vs[i]? = some v) : ∃ d, ds[i]? = some d ∧ Rp K H F d v := by
  have hl := h.length
  have hi : i < vs.length := (List.getElem?_eq_some_iff.mp e).1
  have hd : ds[i]? = some ds[i] := List.getElem?_eq_getElem (by omega)
  obtain ⟨w, h1, h2⟩ := h.get hd
  rw [e] at h1; cases h1
  exact ⟨_, hd, h2⟩
theorem RpL.of_get : ∀ {ds : List D} {vs : List V}, ds.length = vs.length → (∀ (i : Nat) d v, ds[i]? = some d → vs[i]? = some v → Rp K H F d v) → RpL K H F ds vs
  | [], [], _, _ => .nil
  | [], _ :: _, h, _ => by simp at h
  | _ :: _, [], h, _ => by simp at h
  | d :: ds, v :: vs, h, g => .cons (g 0 d v rfl rfl) (RpL.of_get (by simpa using h) fun i x y a b => g (i + 1) x y (by simpa using a) (by simpa using b))
theorem RpL.take {ds : List D} {vs : List V} (n : Nat) (h : RpL K H F ds vs) : RpL K H F (ds.take n) (vs.take n) := by
  refine RpL.of_get (by rw [List.length_take, List.length_take, h.length]) fun i d v a b => ?_
  rw [List.getElem?_take] at a b
  split at a
  · rename_i hi
    rw [if_pos hi] at b
    obtain ⟨w, h1, h2⟩ := h.get a
    rw [b] at h1; cases h1; exact h2
  · cases a
theorem RpL.drop {ds : List D} {vs : List V} (n : Nat) (h : RpL K H F ds vs) : RpL K H F (ds.drop n) (vs.drop n) := by
  refine RpL.of_get (by rw [List.length_drop, List.length_drop, h.length]) fun i d v a b => ?_
  rw [List.getElem?_drop] at a b
  obtain ⟨w, h1, h2⟩ := h.get a
  rw [b] at h1; cases h1; exact h2
theorem RpL.reverse {ds : List D} {vs : List V} (h : RpL K H F ds vs) : RpL K H F ds.reverse vs.reverse := by
  have hl := h.length
  refine RpL.of_get (by rw [List.length_reverse, List.length_reverse, hl]) fun i d v a b => ?_
  have hi : i < ds.length := by have := (List.getElem?_eq_some_iff.mp a).1; simpa using this
  rw [List.getElem?_reverse hi] at a
  rw [List.getElem?_reverse (by omega)] at b
  rw [hl] at a
  obtain ⟨w, h1, h2⟩ := h.get a
  rw [b] at h1; cases h1; exact h2
theorem RpL.set {ds : List D} {vs : List V} {d : D} {v : V} (n : Nat) (h : RpL K H F ds vs) (hd : Rp K H F d v) : RpL K H F (ds.set n d) (vs.set n v) := by
  refine RpL.of_get (by rw [List.length_set, List.length_set, h.length]) fun i x y a b => ?_
  rw [List.getElem?_set] at a b
  split at a
  · rename_i e
    rw [if_pos e] at b
    have hl := h.length
    split at a
    · rename_i hi
      rw [if_pos (by omega)] at b
      cases a; cases b; exact hd
    · cases a
  · rename_i e
    rw [if_neg e] at b
    obtain ⟨w, h1, h2⟩ := h.get a
    rw [b] at h1; cases h1; exact h2
theorem RpL.replicate {d : D} {v : V} (hd : Rp K H F d v) (n : Nat) : RpL K H F (List.replicate n d) (List.replicate n v) := by
  refine RpL.of_get (by simp) fun i x y a b => ?_
  rw [List.getElem?_replicate] at a b
  split at a
  · rename_i e
    rw [if_pos e] at b
    cases a; cases b; exact hd
  · cases a
end

/-- an owned tree: frozen leaves; lists, dicts that only their holder knows -/
inductive OT where
  | fz (d : D) | lst (ts : List OT) | dic (ks vs : List D)
mutual
def OT.toD : OT → D
  | .fz d => d
  | .lst ts => .lst (OT.toDs ts)
  | .dic ks vs => .dic ks vs
def OT.toDs : List OT → List D
  | [] => []
  | t :: ts => t.toD :: OT.toDs ts
end
@[simp] theorem toD_fz (d : D) : (OT.fz d).toD = d := by simp [OT.toD]
@[simp] theorem toD_dic (ks vs : List D) : (OT.dic ks vs).toD = .dic ks vs := by simp [OT.toD]
@[simp] theorem toD_lst (ts : List OT) : (OT.lst ts).toD = .lst (OT.toDs ts) := by simp [OT.toD]
@[simp] theorem toDs_nil : OT.toDs [] = [] := by simp [OT.toDs]
@[simp] theorem toDs_cons (t : OT) (ts : List OT) : OT.toDs (t :: ts) = t.toD :: OT.toDs ts := by simp [OT.toDs]
@[simp] theorem toDs_fz (ds : List D) : OT.toDs (ds.map .fz) = ds := by
  induction ds with
  | nil => rfl
  | cons d r ih => simp [ih]
theorem toDs_append (a b : List OT) : OT.toDs (a ++ b) = OT.toDs a ++ OT.toDs b := by
  induction a with
  | nil => rfl
  | cons d r ih => simp [ih]
theorem toDs_length (a : List OT) : (OT.toDs a).length = a.length := by
  induction a with
  | nil => rfl
  | cons d r ih => simp [ih]
abbrev Foot := List (Addr × HO)
mutual
/-- t stands for v, its own objects are just O -/
def RpT (K : PySem.W.Frag) (F : FH) : Foot → OT → V → Prop
  | O, .fz d, v => O = [] ∧ Rf K F d v
  | O, .lst ts, v => ∃ a vs P, v = .ref a ∧ O = (a, .lst vs) :: P ∧ RpTL K F P ts vs
  | O, .dic ks ds, v => ∃ a vs o, v = .ref a ∧ O = [(a, o)] ∧ DicAt (fun b => if b = a then some o else none) a ks vs ∧ (∀ p u, o ≠ .frz p u) ∧ RfL K F ds vs
def RpTL (K : PySem.W.Frag) (F : FH) : Foot → List OT → List V → Prop
  | O, [], vs => O = [] ∧ vs = []
  | O, t :: ts, vs => ∃ v ws P1 P2, vs = v :: ws ∧ O = P1 ++ P2 ∧ RpT K F P1 t v ∧ RpTL K F P2 ts ws
end
/-- the slots -/
abbrev Env := List (Option OT)
def RpG (K : PySem.W.Frag) (F : FH) : Foot → Env → St → Prop
  | O, [], σ => O = [] ∧ σ = []
  | O, g :: Γ, σ => ∃ s ρ P1 P2, σ = s :: ρ ∧ O = P1 ++ P2 ∧ (match g with | none => P1 = [] | some t => ∃ v, s = some v ∧ RpT K F P1 t v) ∧ RpG K F P2 Γ ρ
section
variable {K : PySem.W.Frag} {F G : FH}
mutual
theorem RpT.le (l : Le F G) : ∀ (O : Foot) (t : OT) (v : V), RpT K F O t v → RpT K G O t v
  | O, .fz d, v, h => by
    rw [RpT] at h ⊢
    exact ⟨h.1, Rf.le l h.2⟩
  | O, .lst ts, v, h => by
    rw [RpT] at h ⊢
    obtain ⟨a, vs, P, e1, e2, e3⟩ := h
    exact ⟨a, vs, P, e1, e2, RpTL.le l P ts vs e3⟩
  | O, .dic ks ds, v, h => by
    rw [RpT] at h ⊢
    obtain ⟨a, vs, o, e1, e2, e3, e4, e5⟩ := h
    exact ⟨a, vs, o, e1, e2, e3, e4, RfL.le l e5⟩
theorem RpTL.le (l : Le F G) : ∀ (O : Foot) (ts : List OT) (vs : List V), RpTL K F O ts vs → RpTL K G O ts vs
  | O, [], vs, h => by
    rw [RpTL] at h ⊢
    exact h
  | O, t :: ts, vs, h => by
    rw [RpTL] at h ⊢
    obtain ⟨v, ws, P1, P2, e1, e2, e3, e4⟩ := h
    exact ⟨v, ws, P1, P2, e1, e2, RpT.le l P1 t v e3, RpTL.le l P2 ts ws e4⟩
end
theorem RpG.le (l : Le F G) : ∀ {Γ : Env} {O : Foot} {σ : St}, RpG K F O Γ σ → RpG K G O Γ σ
  | [], O, σ, h => by
    rw [RpG] at h ⊢
    exact h
  | g :: Γ, O, σ, h => by
    rw [RpG] at h ⊢
    obtain ⟨s, ρ, P1, P2, e1, e2, e3, e4⟩ := h
    refine ⟨s, ρ, P1, P2, e1, e2, ?_, RpG.le l e4⟩
    cases g with
    | none => exact e3
    | some t =>
      obtain ⟨v, e5, e6⟩ := e3
      exact ⟨v, e5, RpT.le l _ _ _ e6⟩
theorem RpG.length : ∀ {Γ : Env} {O : Foot} {σ : St}, RpG K F O Γ σ → Γ.length = σ.length
  | [], O, σ, h => by rw [RpG] at h; rw [h.2] <;> rfl
  | g :: Γ, O, σ, h => by
    rw [RpG] at h
    obtain ⟨s, ρ, P1, P2, rfl, e2, e3, e4⟩ := h
    simp [RpG.length e4]
/-- one slot, the others -/
theorem RpG.focus : ∀ {Γ : Env} {O : Foot} {σ : St} {i : Nat} {t : OT}, RpG K F O Γ σ → Γ[i]? = some (some t) →
    ∃ A B P v, O = A ++ P ++ B ∧ σ[i]? = some (some v) ∧ RpT K F P t v ∧ ∀ (G : FH) (Q : Foot) (t' : OT) (v' : V), Le F G → RpT K G Q t' v' → RpG K G (A ++ Q ++ B) (Γ.set i (some t')) (σ.set i (some v'))
  | [], O, σ, i, t, h, e => by simp at e
  | g :: Γ, O, σ, 0, t, h, e => by
    rw [RpG] at h
    obtain ⟨s, ρ, P1, P2, rfl, rfl, e3, e4⟩ := h
    simp at e; subst e
    obtain ⟨v, rfl, e6⟩ := e3
    refine ⟨[], P2, P1, v, by simp, by simp, e6, fun G Q t' v' l r => ?_⟩
    show RpG K G ([] ++ Q ++ P2) (some t' :: Γ) (some v' :: ρ)
    rw [RpG]
    exact ⟨some v', ρ, Q, P2, rfl, by simp, ⟨v', rfl, r⟩, e4.le l⟩
  | g :: Γ, O, σ, i + 1, t, h, e => by
    rw [RpG] at h
    obtain ⟨s, ρ, P1, P2, rfl, rfl, e3, e4⟩ := h
    obtain ⟨A, B, P, v, rfl, h2, h3, h4⟩ := RpG.focus (i := i) e4 (by simpa using e)
    refine ⟨P1 ++ A, B, P, v, by simp, by simpa using h2, h3, fun G Q t' v' l r => ?_⟩
    show RpG K G (P1 ++ A ++ Q ++ B) (g :: Γ.set i (some t')) (s :: ρ.set i (some v'))
    rw [RpG]
    refine ⟨s, ρ.set i (some v'), P1, A ++ Q ++ B, rfl, by simp, ?_, h4 G Q t' v' l r⟩
    cases g with
    | none => exact e3
    | some t =>
      obtain ⟨v, e5, e6⟩ := e3
      exact ⟨v, e5, RpT.le l _ _ _ e6⟩
/-- a slot is stored anew -/
theorem RpG.put : ∀ {Γ : Env} {O : Foot} {σ : St} {i : Nat} {Q : Foot} {t : OT} {v : V}, RpG K F O Γ σ → i < Γ.length → RpT K F Q t v →
    ∃ A B P, O = A ++ P ++ B ∧ RpG K F (A ++ Q ++ B) (Γ.set i (some t)) (σ.set i (some v))
  | [], O, σ, i, Q, t, v, h, e, r => by simp at e
  | g :: Γ, O, σ, 0, Q, t, v, h, e, r => by
    rw [RpG] at h
    obtain ⟨s, ρ, P1, P2, rfl, rfl, e3, e4⟩ := h
    refine ⟨[], P2, P1, by simp, ?_⟩
    show RpG K F ([] ++ Q ++ P2) (some t :: Γ) (some v :: ρ)
    rw [RpG]
    exact ⟨some v, ρ, Q, P2, rfl, by simp, ⟨v, rfl, r⟩, e4⟩
  | g :: Γ, O, σ, i + 1, Q, t, v, h, e, r => by
    rw [RpG] at h
    obtain ⟨s, ρ, P1, P2, rfl, rfl, e3, e4⟩ := h
    obtain ⟨A, B, P, rfl, h4⟩ := RpG.put (i := i) e4 (by simpa using e) r
    refine ⟨P1 ++ A, B, P, by simp, ?_⟩
    show RpG K F (P1 ++ A ++ Q ++ B) (g :: Γ.set i (some t)) (s :: ρ.set i (some v))
    rw [RpG]
    exact ⟨s, ρ.set i (some v), P1, A ++ Q ++ B, rfl, by simp, e3, h4⟩
/-- a slot is forgotten -/
theorem RpG.forget : ∀ {Γ : Env} {O : Foot} {σ : St} (i : Nat) (s : Option V), RpG K F O Γ σ → ∃ A B P, O = A ++ P ++ B ∧ RpG K F (A ++ B) (Γ.set i none) (σ.set i s)
  | [], O, σ, i, s, h => by
    rw [RpG] at h
    obtain ⟨rfl, rfl⟩ := h
    exact ⟨[], [], [], rfl, by simp [RpG]⟩
  | g :: Γ, O, σ, 0, s', h => by
    rw [RpG] at h
    obtain ⟨s, ρ, P1, P2, rfl, rfl, e3, e4⟩ := h
    refine ⟨[], P2, P1, by simp, ?_⟩
    show RpG K F ([] ++ P2) (none :: Γ) (s' :: ρ)
    rw [RpG]
    exact ⟨s', ρ, [], P2, rfl, by simp, rfl, e4⟩
  | g :: Γ, O, σ, i + 1, s', h => by
    rw [RpG] at h
    obtain ⟨s, ρ, P1, P2, rfl, rfl, e3, e4⟩ := h
    obtain ⟨A, B, P, rfl, h4⟩ := RpG.forget i s' e4
    refine ⟨P1 ++ A, B, P, by simp, ?_⟩
    show RpG K F (P1 ++ A ++ B) (g :: Γ.set i none) (s :: ρ.set i s')
    rw [RpG]
    exact ⟨s, ρ.set i s', P1, A ++ B, rfl, by simp, e3, h4⟩
end

/-! ### freezing -/
def adds (F : FH) : Foot → FH
  | [] => F
  | (a, o) :: r => fun b => if b = a then some (.ho o) else adds F r b
theorem adds_out {F : FH} : ∀ {O : Foot} {a : Addr}, a ∉ O.map (·.1) → adds F O a = F a
  | [], _, _ => rfl
  | (b, o) :: r, a, h => by
    simp only [List.map_cons, List.mem_cons, not_or] at h
    unfold adds
    rw [if_neg h.1, adds_out h.2]
theorem adds_in {F : FH} : ∀ {O : Foot} {p : Addr × HO}, (O.map (·.1)).Nodup → p ∈ O → adds F O p.1 = some (.ho p.2)
  | (b, o) :: r, p, nd, h => by
    unfold adds
    rw [List.map_cons, List.nodup_cons] at nd
    rcases List.mem_cons.mp h with rfl | h
    · rw [if_pos rfl]
    · rw [if_neg, adds_in nd.2 h]
      rintro e
      exact nd.1 (e ▸ List.mem_map.mpr ⟨p, h, rfl⟩)
theorem adds_le {F : FH} {O : Foot} (h : ∀ p ∈ O, F p.1 = none) : Le F (adds F O) := fun a f e => by
  rw [adds_out, e]
  intro hm
  obtain ⟨p, hp, rfl⟩ := List.mem_map.mp hm
  rw [h p hp] at e; cases e
theorem adds_some {F : FH} : ∀ {O : Foot} {a : Addr} {f : FO}, adds F O a = some f → (∃ o, (a, o) ∈ O ∧ f = .ho o) ∨ F a = some f
  | [], _, _, h => .inr h
  | (b, o) :: r, a, f, h => by
    unfold adds at h
    split at h
    · rename_i e
      cases h; subst e
      exact .inl ⟨o, List.mem_cons_self, rfl⟩
    · rcases adds_some h with ⟨o', h1, h2⟩ | h
      · exact .inl ⟨o', List.mem_cons_of_mem _ h1, h2⟩
      · exact .inr h
section
variable {K : PySem.W.Frag} {F : FH} {G : FH}
mutual
/-- a tree frozen: its objects stand in G -/
theorem RpT.frz (l : Le F G) : ∀ (O : Foot) (t : OT) (v : V), (∀ p ∈ O, G p.1 = some (.ho p.2)) → RpT K F O t v → Rf K G t.toD v
  | O, .fz d, v, g, h => by
    rw [RpT] at h
    rw [OT.toD]
    exact Rf.le l h.2
  | O, .lst ts, v, g, h => by
    rw [RpT] at h
    obtain ⟨a, vs, P, rfl, rfl, e3⟩ := h
    rw [OT.toD, Rf, Rp]
    exact ⟨a, vs, rfl, hpo_some.mpr (g (a, _) List.mem_cons_self), RpTL.frz l P ts vs (fun p hp => g p (List.mem_cons_of_mem _ hp)) e3⟩
  | O, .dic ks ds, v, g, h => by
    rw [RpT] at h
    obtain ⟨a, vs, o, rfl, rfl, e3, e4, e5⟩ := h
    rw [OT.toD, Rf, Rp]
    have ga : hpo G a = some o := hpo_some.mpr (g (a, o) List.mem_cons_self)
    refine ⟨a, vs, rfl, DicAt.same (fun b u e => ?_) e3, RfL.le l e5⟩
    split at e
    · rename_i hb; cases e; subst hb; exact ga
    · cases e
theorem RpTL.frz (l : Le F G) : ∀ (O : Foot) (ts : List OT) (vs : List V), (∀ p ∈ O, G p.1 = some (.ho p.2)) → RpTL K F O ts vs → RfL K G (OT.toDs ts) vs
  | O, [], vs, g, h => by
    rw [RpTL] at h
    rw [OT.toDs, h.2]
    exact .nil
  | O, t :: ts, vs, g, h => by
    rw [RpTL] at h
    obtain ⟨v, ws, P1, P2, rfl, rfl, e3, e4⟩ := h
    rw [OT.toDs]
    exact .cons (RpT.frz l P1 t v (fun p hp => g p (List.mem_append_left _ hp)) e3) (RpTL.frz l P2 ts ws (fun p hp => g p (List.mem_append_right _ hp)) e4)
end
theorem RpT.of_fz {d : D} {v : V} (h : Rf K F d v) : RpT K F [] (.fz d) v := by rw [RpT]; exact ⟨rfl, h⟩
theorem RpT.fz_inv {O : Foot} {d : D} {v : V} (h : RpT K F O (.fz d) v) : O = [] ∧ Rf K F d v := by rw [RpT] at h; exact h
theorem RpTL.of_fz {vs : List V} : ∀ {ds : List D} {vs : List V}, RfL K F ds vs → RpTL K F [] (ds.map .fz) vs
  | [], vs, h => by rw [RpL.nil_inv h, List.map_nil, RpTL]; exact ⟨rfl, rfl⟩
  | d :: ds, vs, h => by
    obtain ⟨v, ws, rfl, a, b⟩ := RpL.uncons h
    rw [List.map_cons, RpTL]
    exact ⟨v, ws, [], [], rfl, rfl, .of_fz a, RpTL.of_fz (vs := ws) b⟩
theorem RpTL.fz_inv : ∀ {ds : List D} {O : Foot} {vs : List V}, RpTL K F O (ds.map .fz) vs → O = [] ∧ RfL K F ds vs
  | [], O, vs, h => by rw [List.map_nil, RpTL] at h; rw [h.1, h.2]; exact ⟨rfl, .nil⟩
  | d :: ds, O, vs, h => by
    rw [List.map_cons, RpTL] at h
    obtain ⟨v, ws, P1, P2, rfl, rfl, e3, e4⟩ := h
    obtain ⟨rfl, a⟩ := e3.fz_inv
    obtain ⟨rfl, b⟩ := RpTL.fz_inv e4
    exact ⟨rfl, .cons a b⟩
end

/-! ### the state of a body -/
/-- the ground: what is frozen stands; what stood at the entry and is not frozen is as it was -/
structure Bse (H0 : Hp) (F0 : FH) (c : Nat) (F : FH) (H : Hp) : Prop where
  ini : Ini c F H
  le : Le F0 F
  old : ∀ a, F0 a = none → H0 a ≠ none → H a = H0 a ∧ F a = none
/-- the tables of the defs that make lambdas -/
def lamDefs : List Str := ["sequence_in", "sort_order"]
def TabK (K : PySem.W.Frag) (F : FH) : Prop := ∀ x ∈ lamDefs, ∀ c P, PySem.W.tabIn K x = some (c, P) → F P = some (.tab (x ++ ".<locals>.<lambda>"))
theorem TabK.le {K : PySem.W.Frag} {F G : FH} (h : TabK K F) (l : Le F G) : TabK K G := fun x hx c P e => l _ _ (h x hx c P e)
structure BseK (K : PySem.W.Frag) (H0 : Hp) (F0 : FH) (c : Nat) (F : FH) (H : Hp) : Prop extends Bse H0 F0 c F H where
  tk : TabK K F0
/-- owned objects as they lie -/
structure Own (H0 : Hp) (F : FH) (H : Hp) (O : Foot) : Prop where
  nd : (O.map (·.1)).Nodup
  at_ : ∀ p ∈ O, H p.1 = some p.2 ∧ F p.1 = none ∧ H0 p.1 = none
/-- T: what is on its way -/
def EOk (K : PySem.W.Frag) (H0 : Hp) (F0 : FH) (c : Nat) (Γ : Env) (F : FH) (σ : St) (H : Hp) (T : Foot) : Prop :=
  BseK K H0 F0 c F H ∧ ∃ O, RpG K F O Γ σ ∧ Own H0 F H (O ++ T)
section
variable {K : PySem.W.Frag} {H0 H H' : Hp} {F0 F F' : FH} {c c' : Nat} {Γ : Env} {σ : St} {T T1 T2 : Foot}
theorem Own.perm {O P : Foot} (h : Own H0 F H O) (p : O.Perm P) : Own H0 F H P :=
  ⟨(p.map _).nodup_iff.mp h.nd, fun q hq => h.at_ q (p.mem_iff.mpr hq)⟩
theorem Own.sub {O P : Foot} (h : Own H0 F H O) (s : P.Sublist O) : Own H0 F H P := ⟨h.nd.sublist (s.map _), fun q hq => h.at_ q (s.subset hq)⟩
theorem Own.ne {O : Foot} {a : Addr} (h : Own H0 F H O) (ha : H a = none) : a ∉ O.map (·.1) := fun hm => by
  obtain ⟨p, hp, rfl⟩ := List.mem_map.mp hm
  rw [(h.at_ p hp).1] at ha; cases ha
/-- the heap grows, the frozen part grows, nothing owned changes -/
structure Ext (c : Nat) (F : FH) (H : Hp) (c' : Nat) (F' : FH) (H' : Hp) : Prop where
  ini : Ini c' F' H'
  le : Le F F'
  old : ∀ a, F a = none → H a ≠ none → H' a = H a ∧ F' a = none
theorem Ext.base (x : Ext c F H c' F' H') : Bse H F c' F' H' := ⟨x.ini, x.le, x.old⟩
theorem Bse.ext (b : Bse H F c' F' H') : Ext c F H c' F' H' := ⟨b.ini, b.le, b.old⟩
theorem Bse.go (b : Bse H0 F0 c F H) (x : Ext c F H c' F' H') : Bse H0 F0 c' F' H' := ⟨x.ini, b.le.trans x.le, fun a h1 h2 => by
  obtain ⟨e1, e2⟩ := b.old a h1 h2
  obtain ⟨e3, e4⟩ := x.old a e2 (by rw [e1]; exact h2)
  exact ⟨e3.trans e1, e4⟩⟩
theorem Own.go {O : Foot} (h : Own H0 F H O) (x : Ext c F H c' F' H') : Own H0 F' H' O := ⟨h.nd, fun p hp => by
  obtain ⟨e1, e2, e3⟩ := h.at_ p hp
  obtain ⟨e4, e5⟩ := x.old p.1 e2 (by rw [e1]; simp)
  exact ⟨e4.trans e1, e5, e3⟩⟩
theorem BseK.go (b : BseK K H0 F0 c F H) (x : Ext c F H c' F' H') : BseK K H0 F0 c' F' H' := ⟨b.toBse.go x, b.tk⟩
theorem BseK.tab (b : BseK K H0 F0 c F H) : TabK K F := b.tk.le b.le
theorem EOk.go (h : EOk K H0 F0 c Γ F σ H T) (x : Ext c F H c' F' H') : EOk K H0 F0 c' Γ F' σ H' T := by
  obtain ⟨b, O, g, o⟩ := h
  exact ⟨b.go x, O, g.le x.le, o.go x⟩
theorem EOk.drop (h : EOk K H0 F0 c Γ F σ H T) (s : T1.Sublist T) : EOk K H0 F0 c Γ F σ H T1 := by
  obtain ⟨b, O, g, o⟩ := h
  exact ⟨b, O, g, o.sub (s.append_left O)⟩
theorem EOk.none_left (h : EOk K H0 F0 c Γ F σ H (T1 ++ T)) : EOk K H0 F0 c Γ F σ H T := h.drop (List.sublist_append_right _ _)
/-- a new object is laid: owned, on its way -/
theorem EOk.new {p : Addr} {o : HO} (h : EOk K H0 F0 c Γ F σ H T) (hp : H p = none) : EOk K H0 F0 c Γ F σ (upd H p o) ((p, o) :: T) := by
  obtain ⟨b, O, g, w⟩ := h
  have fp : F p = none := by
    cases e : F p with
    | none => rfl
    | some f => exact absurd hp (b.ini p f e).ne
  have f0p : F0 p = none := by
    cases e : F0 p with
    | none => rfl
    | some f => rw [b.le p f e] at fp; cases fp
  have h0p : H0 p = none := by
    cases e : H0 p with
    | none => rfl
    | some u => rw [(b.old p f0p (by rw [e]; simp)).1, e] at hp; cases hp
  refine ⟨⟨⟨fun a f e => ?_, b.le, fun a h1 h2 => ?_⟩, b.tk⟩, O, g, ?_, fun q hq => ?_⟩
  · exact (b.ini a f e).to (upd_ne (fun z => by subst z; rw [fp] at e; cases e)) (Le.refl F)
  · obtain ⟨e1, e2⟩ := b.old a h1 h2
    rw [upd_ne (fun z => h2 (by rw [z]; exact h0p))]
    exact ⟨e1, e2⟩
  · have hn := w.ne hp
    rw [List.map_append, List.map_cons]
    have := w.nd
    rw [List.map_append] at this
    rw [List.map_append, List.mem_append, not_or] at hn
    refine List.nodup_append.mpr ⟨(List.nodup_append.mp this).1, List.nodup_cons.mpr ⟨hn.2, (List.nodup_append.mp this).2.1⟩, fun a ha b' hb => ?_⟩
    rcases List.mem_cons.mp hb with rfl | hb
    · rintro rfl; exact hn.1 ha
    · exact (List.nodup_append.mp this).2.2 a ha b' hb
  · rcases List.mem_append.mp hq with hq | hq
    · obtain ⟨e1, e2, e3⟩ := w.at_ q (List.mem_append_left _ hq)
      exact ⟨by rw [upd_ne (ne_of_none e1 hp)]; exact e1, e2, e3⟩
    · rcases List.mem_cons.mp hq with rfl | hq
      · exact ⟨upd_same, fp, h0p⟩
      · obtain ⟨e1, e2, e3⟩ := w.at_ q (List.mem_append_right _ hq)
        exact ⟨by rw [upd_ne (ne_of_none e1 hp)]; exact e1, e2, e3⟩
/-- what is on its way is frozen -/
theorem EOk.freeze (h : EOk K H0 F0 c Γ F σ H (T1 ++ T)) : EOk K H0 F0 c Γ (adds F T1) σ H T ∧ Le F (adds F T1) ∧ ∀ p ∈ T1, adds F T1 p.1 = some (.ho p.2) := by
  obtain ⟨b, O, g, w⟩ := h
  have w1 : Own H0 F H T1 := w.sub ((List.sublist_append_left _ _).trans (List.sublist_append_right _ _))
  have l : Le F (adds F T1) := adds_le fun p hp => (w1.at_ p hp).2.1
  refine ⟨⟨⟨⟨fun a f e => ?_, b.le.trans l, fun a h1 h2 => ?_⟩, b.tk⟩, O, g.le l, ?_, fun q hq => ?_⟩, l, fun p hp => adds_in w1.nd hp⟩
  · rcases adds_some e with ⟨o, ho, rfl⟩ | e
    · exact (w1.at_ _ ho).1
    · exact (b.ini a f e).to rfl l
  · obtain ⟨e1, e2⟩ := b.old a h1 h2
    refine ⟨e1, ?_⟩
    rw [adds_out]
    · exact e2
    · intro hm
      obtain ⟨p, hp, rfl⟩ := List.mem_map.mp hm
      exact h2 (w1.at_ p hp).2.2
  · exact (w.sub ((List.sublist_append_right _ _).append_left O)).nd
  · have hq' : q ∈ O ++ (T1 ++ T) := by
      rcases List.mem_append.mp hq with z | z
      · exact List.mem_append_left _ z
      · exact List.mem_append_right _ (List.mem_append_right _ z)
    obtain ⟨e1, e2, e3⟩ := w.at_ q hq'
    refine ⟨e1, ?_, e3⟩
    rw [adds_out]
    · exact e2
    · intro hm
      have nd := w.nd
      rw [List.map_append, List.map_append] at nd
      obtain ⟨n1, n2, n3⟩ := List.nodup_append.mp nd
      obtain ⟨n4, n5, n6⟩ := List.nodup_append.mp n2
      rcases List.mem_append.mp hq with z | z
      · exact n3 q.1 (List.mem_map.mpr ⟨q, z, rfl⟩) q.1 (List.mem_append_left _ hm) rfl
      · exact n6 q.1 hm q.1 (List.mem_map.mpr ⟨q, z, rfl⟩) rfl
end
end DL

/-! DB: a small syntax without places, what it wants of data (wp), and its cost in draws. -/
namespace DL
open PySem L2

/-- an exception: its class by number, its field -/
structure Ex where
  cls : Nat
  arg : Option D := none
/-- what a def does: arguments, what is wanted of the result, of an exception -/
structure Spc where
  run : List D → (OT → Prop) → (Ex → Prop) → Prop
  ce : Nat
  ar : Nat

inductive BOp where | add | sub | mul | fdiv | mod | pow
inductive COp where | eq | ne | lt | le | gt | ge | is_ | isnt | in_ | nin | isB | isntB
inductive Bi where | len | tuple_ | list_ | sum_ | all_ | any_ | max2 | min2 | maxL | minL | abs_ | int_ | str_ | repr_ | sorted_ | set_ | join
inductive Mc where | append | pop | popAt | insert | remove | extend | reverse | clear | setix
inductive TyS where | int_ | bool_ | str_ | tuple_ | list_ | lort
inductive TyM where | str | list | tuple | dict
inductive Tg where | nm (i : Nat) | tup (ts : List Tg)
mutual
inductive SE where
  | var (i : Nat) | cst (d : D) | nop
  | bin (op : BOp) (a b : SE) | neg (a : SE)
  | cmp (op : COp) (a b : SE) | chain (o1 o2 : COp) (a b c : SE)
  | andE (a b : SE) | orE (a b : SE) | notE (a : SE) | ife (t a b : SE)
  | tup (es : List SX) | lst (es : List SX)
  | ix (a i : SE) | sl (a lo hi : SE) | rev (a : SE)
  | call (S : Spc) (es : List SE)
  | callL (S : Spc) (vs : List Nat) (es : List SE)
  | bi (b : Bi) (es : List SE)
  | isi (a : SE) (t : TyS)
  | lc (vs : List Nat) (tg : Tg) (it : SIt) (cs : List SE) (elt : SE)
  | mc (i : Nat) (m : Mc) (es : List SE)
  | apo (i : Nat) (a : SE) | mcp (i n : Nat) (m : Mc) (es : List SE)
  | frz (a : SE) | mv (i : Nat) | meth (T : TyM) (S : Spc) (o : SE) (es : List SE) | obr (i : Nat)
  | obm (S : Spc) (i : Nat) (es : List SE) | callB (S : Spc) (i : Nat) (es : List SE)
  | dic0 | ixk (a i : SE)
inductive SX where | one (e : SE) | star (e : SE)
inductive SIt where | seq (e : SE) | rng1 (es : List SE) | rng2 (es : List SE) | rngD (es : List SE) | zip2 (es : List SE) | zip3 (es : List SE) | enm (es : List SE)
end
inductive SS where
  | asg (tg : Tg) (e : SE)
  | par (is : List Nat) (es : List SX)
  | aug (i : Nat) (op : BOp) (e : SE)
  | expr (e : SE)
  | setix (i : Nat) (j e : SE)
  | ret (e : SE)
  | ifs (t : SE) (a b : List SS)
  | for_ (tg : Tg) (it : SIt) (body : List SS)
  | while_ (t : SE) (body : List SS)
  | brk | cnt | pass
  | raise_ (c : Nat)
  | setkey (i : Nat) (j e : SE)
  | swp (i j l : Nat) (es : List SX)

/-- lengths that no line of the model meets -/
abbrev LIM : Nat := 1000000
/-! ### values -/
def b2 (b : Bool) : Int := if b then 1 else 0
mutual
def D.py : D → PyData
  | .non => .none
  | .bl b => .bool b
  | .int i => .int i
  | .str x => .str x
  | .tup xs => .tuple (D.pys xs)
  | .lst xs => .list (D.pys xs)
  | .dic _ _ => .dict []
  | .scr ns => .list (ns.map .int)
  | .opq _ _ => .dict []
def D.pys : List D → List PyData
  | [] => []
  | x :: xs => x.py :: D.pys xs
end
mutual
/-- no dict, nothing hidden; nested at most n deep -/
def D.plain : Nat → D → Bool
  | _, .non => true
  | _, .bl _ => true
  | _, .int _ => true
  | _, .str x => x.cps.all (· < 0x110000)
  | 0, .tup _ => false
  | 0, .lst _ => false
  | n + 1, .tup xs => D.plains n xs
  | n + 1, .lst xs => D.plains n xs
  | _, .dic _ _ => false
  | _, .scr _ => false
  | _, .opq _ _ => false
def D.plains : Nat → List D → Bool
  | _, [] => true
  | n, x :: xs => D.plain n x && D.plains n xs
end
mutual
/-- == -/
def D.eqv : D → D → Bool
  | .non, .non => true
  | .bl a, .bl b => a == b
  | .bl a, .int j => b2 a == j
  | .int i, .bl b => i == b2 b
  | .int i, .int j => i == j
  | .str x, .str y => x == y
  | .tup xs, .tup ys => D.eqvs xs ys
  | .lst xs, .lst ys => D.eqvs xs ys
  | _, _ => false
def D.eqvs : List D → List D → Bool
  | [], [] => true
  | x :: xs, y :: ys => D.eqv x y && D.eqvs xs ys
  | _, _ => false
end
/-- how deep == may go -/
abbrev DEEP : Nat := 24
def mulOk (i j : Int) : Prop := (-(2 ^ 64) < i ∧ i < 2 ^ 64) ∨ (-(2 ^ 64) < j ∧ j < 2 ^ 64) ∨ (i.natAbs < 2 ^ 10000 ∧ j.natAbs < 2 ^ 10000)
def binD : BOp → D → D → (OT → Prop) → Prop
  | .add, .int i, .int j, k => k (.fz (.int (i + j)))
  | .add, .str x, .str y, k => x.length + y.length ≤ LIM ∧ k (.fz (.str (x ++ y)))
  | .add, .tup xs, .tup ys, k => xs.length + ys.length ≤ LIM ∧ k (.fz (.tup (xs ++ ys)))
  | .add, .lst xs, .lst ys, k => xs.length + ys.length ≤ LIM ∧ k (.lst ((xs ++ ys).map .fz))
  | .sub, .int i, .int j, k => k (.fz (.int (i - j)))
  | .mul, .int i, .int j, k => mulOk i j ∧ k (.fz (.int (i * j)))
  | .mul, .tup [x], .int n, k => 0 ≤ n ∧ n ≤ 1000 ∧ k (.fz (.tup (List.replicate n.toNat x)))
  | .mul, .tup (x :: y :: r), .int n, k => 2 ≤ n ∧ n ≤ 1000 ∧ r.length + 2 ≤ 1000 ∧ k (.fz (.tup (List.replicate n.toNat (x :: y :: r)).flatten))
  | .mul, .lst xs, .int n, k => 0 ≤ n ∧ n ≤ 1000 ∧ xs.length ≤ 1000 ∧ k (.lst ((List.replicate n.toNat xs).flatten.map .fz))
  | .fdiv, .int i, .int j, k => 0 < j ∧ j.natAbs < 2 ^ 8000 ∧ k (.fz (.int (i / j)))
  | .mod, .int i, .int j, k => 0 < j ∧ k (.fz (.int (i % j)))
  | .pow, .int i, .int j, k => 0 ≤ j ∧ j ≤ 1000 ∧ i.natAbs < 2 ^ 64 ∧ k (.fz (.int (i ^ j.toNat)))
  | _, _, _, _ => False
/-- x op= y: numbers alone -/
def augD : BOp → D → D → (OT → Prop) → Prop
  | .add, .int i, .int j, k => k (.fz (.int (i + j)))
  | .sub, .int i, .int j, k => k (.fz (.int (i - j)))
  | .mul, .int i, .int j, k => mulOk i j ∧ k (.fz (.int (i * j)))
  | .fdiv, .int i, .int j, k => 0 < j ∧ j.natAbs < 2 ^ 8000 ∧ k (.fz (.int (i / j)))
  | .mod, .int i, .int j, k => 0 < j ∧ k (.fz (.int (i % j)))
  | _, _, _, _ => False
/-- a list or tuple of data: its items -/
def D.seq? : D → Option (List D)
  | .lst xs => some xs
  | .tup xs => some xs
  | _ => none
def hasD (x : D) (xs : List D) : Bool := xs.any fun y => D.eqv y x
def D.flat : D → Bool
  | .non => true
  | .bl _ => true
  | .int _ => true
  | .str _ => true
  | _ => false
def D.isNon : D → Bool
  | .non => true
  | _ => false
def ltD : D → D → (Bool → Prop) → Prop
  | .int i, .int j, k => k (decide (i < j))
  | .str x, .str y, k => k (decide (x.cps.toList < y.cps.toList))
  | _, _, _ => False
def leD : D → D → (Bool → Prop) → Prop
  | .int i, .int j, k => k (decide (i ≤ j))
  | _, _, _ => False
def inD : D → D → (Bool → Prop) → Prop
  | x, .lst ys, k => x.flat = true ∧ ys.all D.flat = true ∧ k (hasD x ys)
  | x, .tup ys, k => x.flat = true ∧ ys.all D.flat = true ∧ k (hasD x ys)
  | .str x, .str y, k => ∃ c, x = ⟨#[c]⟩ ∧ k (decide (c ∈ y.cps.toList))
  | _, _, _ => False
/-- is, of bools -/
def isBD : D → D → (Bool → Prop) → Prop
  | .bl a, .bl b, k => k (decide (a = b))
  | _, _, _ => False
def cmpD : COp → D → D → (Bool → Prop) → Prop
  | .eq, x, y, k => x.plain DEEP = true ∧ y.plain DEEP = true ∧ k (D.eqv x y)
  | .ne, x, y, k => x.plain DEEP = true ∧ y.plain DEEP = true ∧ k (!D.eqv x y)
  | .lt, x, y, k => ltD x y k
  | .le, x, y, k => leD x y k
  | .gt, x, y, k => ltD y x k
  | .ge, x, y, k => leD y x k
  | .is_, x, y, k => y.isNon = true ∧ k x.isNon
  | .isnt, x, y, k => y.isNon = true ∧ k (!x.isNon)
  | .in_, x, y, k => inD x y k
  | .nin, x, y, k => inD x y fun b => k (!b)
  | .isB, x, y, k => isBD x y k
  | .isntB, x, y, k => isBD x y fun b => k (!b)
def TyS.int? : TyS → Bool
  | .int_ => true
  | _ => false
def TyS.bool? : TyS → Bool
  | .int_ => true
  | .bool_ => true
  | _ => false
def TyS.str? : TyS → Bool
  | .str_ => true
  | _ => false
def TyS.tup? : TyS → Bool
  | .tuple_ => true
  | .lort => true
  | _ => false
def TyS.lst? : TyS → Bool
  | .list_ => true
  | .lort => true
  | _ => false
def isiD (t : TyS) : D → Option Bool
  | .non => some false
  | .bl _ => some t.bool?
  | .int _ => some t.int?
  | .str _ => some t.str?
  | .tup _ => some t.tup?
  | .lst _ => some t.lst?
  | _ => none
def ixD : D → D → (OT → Prop) → Prop
  | .lst xs, .int i, k => ∃ d, atI xs i = some d ∧ k (.fz d)
  | .tup xs, .int i, k => ∃ d, atI xs i = some d ∧ k (.fz d)
  | .str z, .int i, k => z.length ≤ LIM ∧ ∃ c, atI z.cps.toList i = some c ∧ k (.fz (.str ⟨#[c]⟩))
  | .scr ns, .int i, k => ∃ n, atI ns i = some n ∧ k (.fz (.int n))
  | _, _, _ => False
def cutD {α : Type} (xs : List α) (lo hi : Option Int) : List α := (xs.drop (HT.sIx xs.length 0 lo)).take (HT.sIx xs.length xs.length hi - HT.sIx xs.length 0 lo)
def slD : D → Option Int → Option Int → (OT → Prop) → Prop
  | .lst xs, lo, hi, k => k (.lst ((cutD xs lo hi).map .fz))
  | .tup xs, lo, hi, k => k (.fz (.tup (cutD xs lo hi)))
  | .str z, lo, hi, k => z.length ≤ LIM ∧ k (.fz (.str (cutS z lo hi)))
  | _, _, _, _ => False
def revD : D → (OT → Prop) → Prop
  | .lst xs, k => k (.lst (xs.reverse.map .fz))
  | .tup xs, k => k (.fz (.tup xs.reverse))
  | _, _ => False
/-- the receiver's kind -/
def tyM : TyM → D → Bool
  | .str, .str _ => true
  | .list, .lst _ => true
  | .tuple, .tup _ => true
  | .dict, .dic _ _ => true
  | _, _ => false
def ints? : List D → Option (List Int)
  | [] => some []
  | .int i :: r => (ints? r).map (i :: ·)
  | _ => none
def bools? : List D → Option (List Bool)
  | [] => some []
  | .bl b :: r => (bools? r).map (b :: ·)
  | _ => none
def D.isSeq : D → Bool
  | .tup _ => true
  | .lst _ => true
  | _ => false
def strs? : List D → Option (List Str)
  | [] => some []
  | .str i :: r => (strs? r).map (i :: ·)
  | _ => none
/-- what sorted wants of its items; what it makes of them -/
def srtOk (xs : List D) : Prop := PySem.W.AllAlike (xs.map D.py) ∧ PySem.W.Sortable (xs.map D.py) ∧ D.plains 20 xs = true
def sortD (xs : List D) : List D := xs.mergeSort (PySem.W.dataLe false D.py)
def shownD (d : D) : Str := d.py.shown
def biD : Bi → List D → (OT → Prop) → Prop
  | .len, [.lst xs], k => k (.fz (.int xs.length))
  | .len, [.tup xs], k => k (.fz (.int xs.length))
  | .len, [.str x], k => x.length ≤ LIM ∧ k (.fz (.int x.length))
  | .len, [.scr xs], k => k (.fz (.int xs.length))
  | .tuple_, [.lst xs], k => k (.fz (.tup xs))
  | .tuple_, [.tup xs], k => k (.fz (.tup xs))
  | .list_, [.lst xs], k => k (.lst (xs.map .fz))
  | .list_, [.tup xs], k => k (.lst (xs.map .fz))
  | .sum_, [.lst xs], k => ∃ ns, ints? xs = some ns ∧ k (.fz (.int ns.sum))
  | .all_, [.lst xs], k => ∃ bs, bools? xs = some bs ∧ k (.fz (.bl (bs.all id)))
  | .any_, [.lst xs], k => ∃ bs, bools? xs = some bs ∧ k (.fz (.bl (bs.any id)))
  | .repr_, [d], k => d.isSeq = true ∧ d.plain DEEP = true ∧ d.py.showable = true ∧ (shownD d).length ≤ LIM ∧ k (.fz (.str (shownD d)))
  | .sorted_, [.lst xs], k => srtOk xs ∧ k (.lst ((sortD xs).map .fz))
  | .join, [.str sep, d], k => ∃ xs ys, d.seq? = some xs ∧ strs? xs = some ys ∧ (ys.map (·.length)).sum + ys.length * sep.length ≤ LIM ∧ k (.fz (.str (Txt.join sep ys)))
  | .max2, [.int i, .int j], k => k (.fz (.int (if j > i then j else i)))
  | .min2, [.int i, .int j], k => k (.fz (.int (if j < i then j else i)))
  | .abs_, [.int i], k => k (.fz (.int (if i < 0 then -i else i)))
  | .int_, [.int i], k => k (.fz (.int i))
  | .int_, [.bl b], k => k (.fz (.int (b2 b)))
  | _, _, _ => False
/-- what a mutating method makes of a list of frozen items, and what it answers -/
def mcD : Mc → List D → List D → (D → List D → Prop) → Prop
  | .append, xs, [y], k => xs.length < LIM ∧ k .non (xs ++ [y])
  | .pop, xs, [], k => ∃ y, xs[xs.length - 1]? = some y ∧ k y xs.dropLast
  | .popAt, xs, [.int i], k => xs.length ≤ LIM ∧ ∃ (j : Nat) (y : D), ixN xs.length i = some j ∧ xs[j]? = some y ∧ k y (xs.eraseIdx j)
  | .reverse, xs, [], k => k .non xs.reverse
  | .clear, _, [], k => k .non []
  | .insert, xs, [.int i, y], k => xs.length < LIM ∧ 0 ≤ i ∧ i ≤ (xs.length : Int) ∧ k .non (xs.take i.toNat ++ y :: xs.drop i.toNat)
  | .setix, xs, [.int i, y], k => ∃ j : Nat, ixN xs.length i = some j ∧ k .non (xs.set j y)
  | .extend, xs, [.lst ys], k => xs.length + ys.length ≤ LIM ∧ k .non (xs ++ ys)
  | .remove, xs, [.int i], k => ∃ (ns : List Int) (j : Nat), xs = ns.map D.int ∧ ns[j]? = some i ∧ (∀ m : Nat, m < j → ns[m]? ≠ some i) ∧ k .non (xs.eraseIdx j)
  | _, _, _, _ => False

/-! ### what an operand is: a value, or a name that is looked at last -/
inductive Opd where | val (t : OT) | late (i : Nat)
def fzs? : List OT → Option (List D)
  | [] => some []
  | .fz d :: r => (fzs? r).map (d :: ·)
  | _ => none
/-- a tree whose items are frozen, as data -/
def OT.flat? : OT → Option D
  | .fz d => some d
  | .lst ts => (fzs? ts).map .lst
  | .dic ks vs => some (.dic ks vs)
def Opd.at (Γ : Env) : Opd → Option OT
  | .val t => some t
  | .late i => (Γ[i]?).join
/-- as data, its items frozen -/
def Opd.fl (Γ : Env) (x : Opd) : Option D := (x.at Γ).bind OT.flat?
/-- as data, to be looked at -/
def Opd.ob (Γ : Env) (x : Opd) : Option D := (x.at Γ).map OT.toD
def osw (o : Option D) (k : D → Prop) : Prop := match o with
  | some d => k d
  | none => False
@[simp] theorem osw_some (d : D) (k : D → Prop) : osw (some d) k = k d := rfl

/- targets -/
mutual
def bindT : Tg → D → Env → (Env → Prop) → Prop
  | .nm i, d, Γ, k => i < Γ.length ∧ k (Γ.set i (some (.fz d)))
  | .tup ts, .tup ds, Γ, k => bindTs ts ds Γ k
  | .tup ts, .lst ds, Γ, k => bindTs ts ds Γ k
  | .tup _, _, _, _ => False
def bindTs : List Tg → List D → Env → (Env → Prop) → Prop
  | [], [], Γ, k => k Γ
  | t :: ts, d :: ds, Γ, k => bindT t d Γ fun Γ1 => bindTs ts ds Γ1 k
  | _, _, _, _ => False
end
def wipeG (Γ : Env) : List Nat → Env
  | [] => Γ
  | v :: vs => (wipeG Γ vs).set v none
/-- behind a comprehension: its own names as they were -/
def keepF : Option OT → Option OT
  | some (.fz d) => some (.fz d)
  | _ => none
def backG (Γ Δ : Env) : List Nat → Env
  | [] => Δ
  | v :: vs => (backG Γ Δ vs).set v (keepF (Γ[v]?).join)
def compW (bind : D → Env → (Env → Prop) → Prop) (cond : Env → (Bool → Env → Prop) → Prop) (elt : Env → (OT → Env → Prop) → Prop) (vs : List Nat) : List D → List D → Env → (List D → Env → Prop) → Prop
  | [], acc, Γ, k => k acc Γ
  | x :: xs, acc, Γ, k => bind x (wipeG Γ vs) fun Γ1 => cond Γ1 fun b Γ2 => if b = true then elt Γ2 fun t Γ3 => acc.length < LIM ∧ compW bind cond elt vs xs (acc ++ [t.toD]) Γ3 k else compW bind cond elt vs xs acc Γ2 k
structure DEnds where
  nx : Env → Prop
  rt : OT → Prop
  bk : Env → Prop := fun _ => False
  ct : Env → Prop := fun _ => False
def forW (bind : D → Env → (Env → Prop) → Prop) (body : Env → DEnds → Prop) : List D → Env → DEnds → Prop
  | [], Γ, K => K.nx Γ
  | x :: xs, Γ, K => bind x Γ fun Γ1 => body Γ1 { nx := fun Γ2 => forW bind body xs Γ2 K, rt := K.rt, bk := K.nx, ct := fun Γ2 => forW bind body xs Γ2 K }
def asB (k : Bool → Env → Prop) : OT → Env → Prop := fun t Γ => match t with
  | .fz (.bl b) => k b Γ
  | _ => False
def whW (c : Env → (OT → Env → Prop) → Prop) (body : Env → DEnds → Prop) : Nat → Env → DEnds → Prop
  | 0, _, _ => False
  | n + 1, Γ, K => c Γ (asB fun b Γ1 => if b = true then body Γ1 { nx := fun Γ2 => whW c body n Γ2 K, rt := K.rt, bk := K.nx, ct := fun Γ2 => whW c body n Γ2 K } else K.nx Γ1)
def asI (k : Option Int → Env → Prop) : OT → Env → Prop := fun t Γ => match t with
  | .fz (.int i) => k (some i) Γ
  | _ => False
def rangeD (lo hi : Int) : List D := (List.range (hi - lo).toNat).map fun i : Nat => .int (lo + (i : Int))
def zipD : List D → List D → List D
  | x :: xs, y :: ys => .tup [x, y] :: zipD xs ys
  | _, _ => []
def zip3D : List D → List D → List D → List D
  | x :: xs, y :: ys, z :: zs => .tup [x, y, z] :: zip3D xs ys zs
  | _, _, _ => []
def enumD : Nat → List D → List D
  | _, [] => []
  | n, x :: xs => .tup [.int (n : Int), x] :: enumD (n + 1) xs
def signsD (z : Str) : List D := z.cps.toList.map fun c => .str ⟨#[c]⟩

def isVar : SE → Option Nat
  | .var i => some i
  | _ => none
def isNop : SE → Bool
  | .nop => true
  | _ => false
/-- an operand: a name is looked at last -/
def asO (o : Option Nat) (w : (OT → Env → Prop) → Prop) (Γ : Env) (k : Opd → Env → Prop) : Prop := match o with
  | some i => ((Γ[i]?).join).isSome = true ∧ k (.late i) Γ
  | none => w fun t => k (.val t)
@[simp] theorem asO_some (i : Nat) (w : (OT → Env → Prop) → Prop) (Γ : Env) (k : Opd → Env → Prop) : asO (some i) w Γ k = (((Γ[i]?).join).isSome = true ∧ k (.late i) Γ) := rfl
@[simp] theorem asO_none (w : (OT → Env → Prop) → Prop) (Γ : Env) (k : Opd → Env → Prop) : asO none w Γ k = w fun t => k (.val t) := rfl
def asP (b : Bool) (w : (OT → Env → Prop) → Prop) (Γ : Env) (k : Option Int → Env → Prop) : Prop := if b = true then k none Γ else w (asI k)
abbrev EX := Ex → Env → Prop
def lstAt (Γ : Env) (i : Nat) : Bool := match Γ[i]? with
  | some (some (.lst _)) => true
  | _ => false
/-- the slots as they stand, as data -/
def slotsD (Γ : Env) : List Nat → Option (List D)
  | [] => some []
  | i :: r => match (Γ[i]?).join with
    | some t => (slotsD Γ r).map (t.toD :: ·)
    | none => none
def lstAt2 (Γ : Env) (i n : Nat) : Bool := match Γ[i]? with
  | some (some (.lst ts)) => match ts[n]? with
    | some (.lst _) => true
    | _ => false
  | _ => false
/-- keys of dicts -/
def D.isKey : D → Bool
  | .int _ => true
  | .str _ => true
  | _ => false
/-- d[k] of a dict: the first place of the key -/
def ixkD : D → D → (D → Prop) → Prop
  | .dic ks vs, y, k => ∃ (n : Nat) (d : D), y.isKey = true ∧ ks[n]? = some y ∧ (∀ m, m < n → ks[m]? ≠ some y) ∧ vs[n]? = some d ∧ k d
  | _, _, _ => False
/-- d[k] = v of a dict: a new key, or one that stands in it once -/
def putD (ks vs : List D) (y v : D) (k : List D → List D → Prop) : Prop := y.isKey = true ∧ (((∀ d ∈ ks, d ≠ y) ∧ k (ks ++ [y]) (vs ++ [v])) ∨
  ∃ (a b c e : List D) (w : D), ks = a ++ y :: b ∧ vs = c ++ w :: e ∧ a.length = c.length ∧ (∀ d ∈ a, d ≠ y) ∧ (∀ d ∈ b, d ≠ y) ∧ k ks (c ++ v :: e))
/-- a name whose tree is a list, owned or frozen -/
def lstO (Γ : Env) (i : Nat) : Bool := match Γ[i]? with
  | some (some t) => tyM .list t.toD
  | _ => false
mutual
def wpE (e : EX) : SE → Env → (OT → Env → Prop) → Prop
  | .var i, Γ, k => match Γ[i]? with
    | some (some (.fz d)) => k (.fz d) Γ
    | some (some t) => k (.fz t.toD) (Γ.set i (some (.fz t.toD)))
    | _ => False
  | .cst d, Γ, k => k (.fz d) Γ
  | .nop, _, _ => False
  | .bin op a b, Γ, k => asO (isVar a) (wpE e a Γ) Γ fun x Γ1 => asO (isVar b) (wpE e b Γ1) Γ1 fun y Γ2 => osw (x.fl Γ2) fun dx => osw (y.fl Γ2) fun dy => binD op dx dy fun r => k r Γ2
  | .neg a, Γ, k => wpE e a Γ fun t Γ1 => match t with
    | .fz (.int i) => k (.fz (.int (-i))) Γ1
    | _ => False
  | .cmp op a b, Γ, k => asO (isVar a) (wpE e a Γ) Γ fun x Γ1 => asO (isVar b) (wpE e b Γ1) Γ1 fun y Γ2 => osw (x.ob Γ2) fun dx => osw (y.ob Γ2) fun dy => cmpD op dx dy fun r => k (.fz (.bl r)) Γ2
  | .chain o1 o2 a b c, Γ, k => asO (isVar a) (wpE e a Γ) Γ fun x Γ1 => asO (isVar b) (wpE e b Γ1) Γ1 fun y Γ2 => osw (x.ob Γ2) fun dx => osw (y.ob Γ2) fun dy => cmpD o1 dx dy fun r =>
      if r = true then asO (isVar c) (wpE e c Γ2) Γ2 fun z Γ3 => osw (y.ob Γ3) fun dy => osw (z.ob Γ3) fun dz => cmpD o2 dy dz fun q => k (.fz (.bl q)) Γ3 else k (.fz (.bl false)) Γ2
  | .andE a b, Γ, k => wpE e a Γ (asB fun r Γ1 => if r = true then wpE e b Γ1 k else k (.fz (.bl false)) Γ1)
  | .orE a b, Γ, k => wpE e a Γ (asB fun r Γ1 => if r = true then k (.fz (.bl true)) Γ1 else wpE e b Γ1 k)
  | .notE a, Γ, k => wpE e a Γ (asB fun r Γ1 => k (.fz (.bl (!r))) Γ1)
  | .ife t a b, Γ, k => wpE e t Γ (asB fun r Γ1 => if r = true then wpE e a Γ1 k else wpE e b Γ1 k)
  | .tup es, Γ, k => wpX e es Γ fun ts Γ1 => ts.length ≤ LIM ∧ k (.fz (.tup (OT.toDs ts))) Γ1
  | .lst es, Γ, k => wpX e es Γ fun ts Γ1 => ts.length ≤ LIM ∧ k (.lst ts) Γ1
  | .ix a i, Γ, k => asO (isVar a) (wpE e a Γ) Γ fun x Γ1 => asO (isVar i) (wpE e i Γ1) Γ1 fun y Γ2 => osw (x.fl Γ2) fun dx => osw (y.fl Γ2) fun dy => ixD dx dy fun r => k r Γ2
  | .sl a lo hi, Γ, k => asO (isVar a) (wpE e a Γ) Γ fun x Γ1 => asP (isNop lo) (wpE e lo Γ1) Γ1 fun l Γ2 => asP (isNop hi) (wpE e hi Γ2) Γ2 fun h Γ3 => osw (x.fl Γ3) fun dx => slD dx l h fun r => k r Γ3
  | .rev a, Γ, k => asO (isVar a) (wpE e a Γ) Γ fun x Γ1 => osw (x.fl Γ1) fun dx => revD dx fun r => k r Γ1
  | .call S es, Γ, k => wpA e es Γ fun ds Γ1 => S.run ds (fun t => k t Γ1) (fun x => e x Γ1)
  | .bi b es, Γ, k => wpOs e es Γ fun xs Γ1 => match xs with
    | [x] => osw (x.fl Γ1) fun d => biD b [d] fun r => k r Γ1
    | [x, y] => osw (x.fl Γ1) fun d => osw (y.fl Γ1) fun d' => biD b [d, d'] fun r => k r Γ1
    | _ => False
  | .isi a t, Γ, k => asO (isVar a) (wpE e a Γ) Γ fun x Γ1 => osw (x.ob Γ1) fun d => match isiD t d with
    | some r => k (.fz (.bl r)) Γ1
    | none => False
  | .lc vs tg it cs elt, Γ, k => wpI e it Γ fun ds Γ1 => compW (bindT tg) (wpC e cs) (wpE e elt) vs ds [] Γ1 fun acc Δ => k (.lst (acc.map .fz)) (backG Γ1 Δ vs)
  | .mc i m es, Γ, k => lstAt Γ i = true ∧ wpA e es Γ fun ds Γ1 => match Γ1[i]? with
    | some (some (.lst ts)) => match fzs? ts with
      | some xs => mcD m xs ds fun y ys => k (.fz y) (Γ1.set i (some (.lst (ys.map .fz))))
      | none => False
    | _ => False
  | .apo i a, Γ, k => lstAt Γ i = true ∧ wpE e a Γ fun t Γ1 => match Γ1[i]? with
    | some (some (.lst ts)) => ts.length < LIM ∧ k (.fz .non) (Γ1.set i (some (.lst (ts ++ [t]))))
    | _ => False
  | .mcp i n m es, Γ, k => lstAt2 Γ i n = true ∧ wpA e es Γ fun ds Γ1 => match Γ1[i]? with
    | some (some (.lst ts)) => match ts[n]? with
      | some (.lst us) => match fzs? us with
        | some xs => mcD m xs ds fun y ys => k (.fz y) (Γ1.set i (some (.lst (ts.set n (.lst (ys.map .fz))))))
        | none => False
      | _ => False
    | _ => False
  | .callL S vs es, Γ, k => (slotsD Γ vs).isSome = true ∧ wpA e es Γ fun ds Γ1 => match slotsD Γ1 vs with
    | some xs => xs.length ≤ LIM ∧ S.run (.lst xs :: ds) (fun t => match t with
      | .fz d => d.flat = true ∧ k (.fz d) Γ1
      | _ => False) (fun x => e x Γ1)
    | none => False
  | .frz a, Γ, k => wpE e a Γ fun t Γ1 => k (.fz t.toD) Γ1
  | .mv i, Γ, k => match Γ[i]? with
    | some (some t) => k t (Γ.set i none)
    | _ => False
  | .meth T S o es, Γ, k => wpE e o Γ fun t Γ1 => tyM T t.toD = true ∧ wpA e es Γ1 fun ds Γ2 => S.run (t.toD :: ds) (fun t => k t Γ2) (fun x => e x Γ2)
  | .obr i, Γ, k => match Γ[i]? with
    | some (some t) => biD .repr_ [t.toD] fun r => k r Γ
    | _ => False
  | .obm S i es, Γ, k => lstO Γ i = true ∧ wpA e es Γ fun ds Γ1 => match Γ1[i]? with
    | some (some t) => S.run (t.toD :: ds) (fun r => k r Γ1) (fun x => e x Γ1)
    | _ => False
  | .callB S i es, Γ, k => (slotsD Γ [i]).isSome = true ∧ wpA e es Γ fun ds Γ1 => match Γ1[i]? with
    | some (some t) => S.run (t.toD :: ds) (fun r => match r with
      | .fz d => d.flat = true ∧ k (.fz d) Γ1
      | _ => False) (fun x => e x Γ1)
    | _ => False
  | .dic0, Γ, k => k (.dic [] []) Γ
  | .ixk a i, Γ, k => asO (isVar a) (wpE e a Γ) Γ fun x Γ1 => asO (isVar i) (wpE e i Γ1) Γ1 fun y Γ2 => osw (x.fl Γ2) fun dx => osw (y.fl Γ2) fun dy => ixkD dx dy fun d => k (.fz d) Γ2
def wpOs (e : EX) : List SE → Env → (List Opd → Env → Prop) → Prop
  | [], Γ, k => k [] Γ
  | a :: r, Γ, k => asO (isVar a) (wpE e a Γ) Γ fun x Γ1 => wpOs e r Γ1 fun xs Γ2 => k (x :: xs) Γ2
/-- arguments: frozen -/
def wpA (e : EX) : List SE → Env → (List D → Env → Prop) → Prop
  | [], Γ, k => k [] Γ
  | a :: r, Γ, k => wpE e a Γ fun t Γ1 => wpA e r Γ1 fun ds Γ2 => k (t.toD :: ds) Γ2
/-- items of a display -/
def wpX (e : EX) : List SX → Env → (List OT → Env → Prop) → Prop
  | [], Γ, k => k [] Γ
  | .one a :: r, Γ, k => wpE e a Γ fun t Γ1 => wpX e r Γ1 fun ts Γ2 => k (t :: ts) Γ2
  | .star a :: r, Γ, k => wpE e a Γ fun t Γ1 => match t.toD.seq? with
    | some xs => wpX e r Γ1 fun ts Γ2 => k (xs.map .fz ++ ts) Γ2
    | none => False
def wpC (e : EX) : List SE → Env → (Bool → Env → Prop) → Prop
  | [], Γ, k => k true Γ
  | c :: _, Γ, k => wpE e c Γ (asB k)
/-- what is walked -/
def wpI (e : EX) : SIt → Env → (List D → Env → Prop) → Prop
  | .seq a, Γ, k => wpE e a Γ fun t Γ1 => match t.toD with
    | .lst xs => k xs Γ1
    | .tup xs => k xs Γ1
    | .str z => z.length ≤ LIM ∧ k (signsD z) Γ1
    | _ => False
  | .rng1 es, Γ, k => wpA e es Γ fun ds Γ1 => match ds with
    | [.int j] => -(2 ^ 62) ≤ j ∧ j < 2 ^ 62 ∧ k (rangeD 0 j) Γ1
    | _ => False
  | .rng2 es, Γ, k => wpA e es Γ fun ds Γ1 => match ds with
    | [.int i, .int j] => (-(2 ^ 62) ≤ i ∧ i < 2 ^ 62 ∧ -(2 ^ 62) ≤ j ∧ j < 2 ^ 62) ∧ k (rangeD i j) Γ1
    | _ => False
  | .rngD es, Γ, k => wpA e es Γ fun ds Γ1 => match ds with
    | [.int i, .int j, .int (-1)] => (-(2 ^ 60) ≤ i ∧ i < 2 ^ 60 ∧ -(2 ^ 60) ≤ j ∧ j < 2 ^ 60) ∧ k ((rangeD (j + 1) (i + 1)).reverse) Γ1
    | _ => False
  | .zip2 es, Γ, k => wpA e es Γ fun ds Γ1 => match ds.map D.seq? with
    | [some xs, some ys] => k (zipD xs ys) Γ1
    | _ => False
  | .zip3 es, Γ, k => wpA e es Γ fun ds Γ1 => match ds.map D.seq? with
    | [some xs, some ys, some zs] => k (zip3D xs ys zs) Γ1
    | _ => False
  | .enm es, Γ, k => wpA e es Γ fun ds Γ1 => match ds.map D.seq? with
    | [some xs] => k (enumD 0 xs) Γ1
    | _ => False
end
abbrev wpO (e : EX) (a : SE) (Γ : Env) (k : Opd → Env → Prop) : Prop := asO (isVar a) (wpE e a Γ) Γ k
abbrev wpP (e : EX) (a : SE) (Γ : Env) (k : Option Int → Env → Prop) : Prop := asP (isNop a) (wpE e a Γ) Γ k
def putG (Γ : Env) : List Nat → List OT → Env
  | i :: is, t :: ts => putG (Γ.set i (some t)) is ts
  | _, _ => Γ
mutual
def wpS (e : EX) : SS → Env → DEnds → Prop
  | .asg (.nm i) a, Γ, K => wpE e a Γ fun t Γ1 => i < Γ1.length ∧ K.nx (Γ1.set i (some t))
  | .asg (.tup ts) a, Γ, K => wpE e a Γ fun t Γ1 => bindT (.tup ts) t.toD Γ1 K.nx
  | .par is es, Γ, K => wpX e es Γ fun ts Γ1 => (ts.length = is.length ∧ ∀ i ∈ is, i < Γ1.length) ∧ K.nx (putG Γ1 is ts)
  | .aug i op a, Γ, K => match Γ[i]? with
    | some (some (.fz d)) => asO (isVar a) (wpE e a Γ) Γ fun y Γ1 => osw (y.fl Γ1) fun dy => augD op d dy fun r => i < Γ1.length ∧ K.nx (Γ1.set i (some r))
    | _ => False
  | .expr a, Γ, K => wpE e a Γ fun _ Γ1 => K.nx Γ1
  | .setix i j a, Γ, K => wpE e a Γ fun t Γ1 => lstAt Γ1 i = true ∧ wpE e j Γ1 fun tj Γ2 => match tj, Γ2[i]? with
    | .fz (.int n), some (some (.lst ts)) => match fzs? ts with
      | some xs => mcD .setix xs [.int n, t.toD] fun _ ys => K.nx (Γ2.set i (some (.lst (ys.map .fz))))
      | none => False
    | _, _ => False
  | .ret a, Γ, K => wpE e a Γ fun t _ => K.rt t
  | .ifs t a b, Γ, K => wpE e t Γ (asB fun r Γ1 => if r = true then wpSs e a Γ1 K else wpSs e b Γ1 K)
  | .for_ tg it body, Γ, K => wpI e it Γ fun ds Γ1 => forW (bindT tg) (wpSs e body) ds Γ1 K
  | .while_ t body, Γ, K => ∃ n, n ≤ LIM ∧ whW (wpE e t) (wpSs e body) n Γ K
  | .brk, Γ, K => K.bk Γ
  | .cnt, Γ, K => K.ct Γ
  | .pass, Γ, K => K.nx Γ
  | .raise_ c, Γ, _ => e ⟨c, none⟩ Γ
  | .setkey i j a, Γ, K => wpE e a Γ fun t Γ1 => ((Γ1[i]?).join).isSome = true ∧ wpE e j Γ1 fun tj Γ2 => match tj, Γ2[i]? with
    | .fz y, some (some (.dic ks vs)) => ks.length < LIM ∧ putD ks vs y t.toD fun ks' vs' => K.nx (Γ2.set i (some (.dic ks' vs')))
    | _, _ => False
  | .swp i j l es, Γ, K => wpX e es Γ fun ts Γ1 => match ts, Γ1[i]?, Γ1[j]?, Γ1[l]? with
    | [t, u], some (some (.lst us)), some (some (.fz (.int a))), some (some (.fz (.int b))) => ∃ (xs : List D) (m n : Nat), fzs? us = some xs ∧ ixN xs.length a = some m ∧ ixN xs.length b = some n ∧ K.nx (Γ1.set i (some (.lst (((xs.set m t.toD).set n u.toD).map .fz))))
    | _, _, _, _ => False
def wpSs (e : EX) : List SS → Env → DEnds → Prop
  | [], Γ, K => K.nx Γ
  | s :: r, Γ, K => wpS e s Γ { K with nx := fun Γ1 => wpSs e r Γ1 K }
end

/-! ### loops by their parts, not opened by themselves -/
def forB (e : EX) (tg : Tg) (body : List SS) (ds : List D) (Γ : Env) (K : DEnds) : Prop := forW (bindT tg) (wpSs e body) ds Γ K
def whB (e : EX) (t : SE) (body : List SS) (n : Nat) (Γ : Env) (K : DEnds) : Prop := whW (wpE e t) (wpSs e body) n Γ K
def lcB (e : EX) (vs : List Nat) (tg : Tg) (cs : List SE) (elt : SE) (ds acc : List D) (Γ : Env) (k : List D → Env → Prop) : Prop := compW (bindT tg) (wpC e cs) (wpE e elt) vs ds acc Γ k
section
variable {e : EX} {tg : Tg} {body : List SS} {ds : List D} {x : D} {Γ : Env} {K : DEnds} {t : SE} {n : Nat} {vs : List Nat} {cs : List SE} {elt : SE} {acc : List D} {k : List D → Env → Prop}
theorem forB_nil : forB e tg body [] Γ K = K.nx Γ := rfl
theorem forB_cons : forB e tg body (x :: ds) Γ K = bindT tg x Γ fun Γ1 => wpSs e body Γ1 { nx := fun Γ2 => forB e tg body ds Γ2 K, rt := K.rt, bk := K.nx, ct := fun Γ2 => forB e tg body ds Γ2 K } := rfl
theorem whB_succ : whB e t body (n + 1) Γ K = wpE e t Γ (asB fun b Γ1 => if b = true then wpSs e body Γ1 { nx := fun Γ2 => whB e t body n Γ2 K, rt := K.rt, bk := K.nx, ct := fun Γ2 => whB e t body n Γ2 K } else K.nx Γ1) := rfl
theorem lcB_nil : lcB e vs tg cs elt [] acc Γ k = k acc Γ := rfl
theorem lcB_cons : lcB e vs tg cs elt (x :: ds) acc Γ k = bindT tg x (wipeG Γ vs) fun Γ1 => wpC e cs Γ1 fun b Γ2 => if b = true then wpE e elt Γ2 fun t Γ3 => acc.length < LIM ∧ lcB e vs tg cs elt ds (acc ++ [t.toD]) Γ3 k else lcB e vs tg cs elt ds acc Γ2 k := rfl
theorem wpS_for {it : SIt} : wpS e (.for_ tg it body) Γ K = wpI e it Γ fun ds Γ1 => forB e tg body ds Γ1 K := by rw [wpS] <;> rfl
theorem wpS_while : wpS e (.while_ t body) Γ K = ∃ n, n ≤ LIM ∧ whB e t body n Γ K := by rw [wpS] <;> rfl
theorem wpE_lc {it : SIt} {k : OT → Env → Prop} : wpE e (.lc vs tg it cs elt) Γ k = wpI e it Γ fun ds Γ1 => lcB e vs tg cs elt ds [] Γ1 fun acc Δ => k (.lst (acc.map .fz)) (backG Γ1 Δ vs) := by rw [wpE] <;> rfl
end
/-! ### how one statement, one expression opens -/
section
variable {e : EX} {Γ : Env} {K : DEnds} {k : OT → Env → Prop} {s : SS} {r : List SS} {a b c : SE}
theorem wpSs_nil : wpSs e [] Γ K = K.nx Γ := by rw [wpSs]
theorem wpSs_cons : wpSs e (s :: r) Γ K = wpS e s Γ { K with nx := fun Γ1 => wpSs e r Γ1 K } := by rw [wpSs]
theorem wpS_asg {i : Nat} : wpS e (.asg (.nm i) a) Γ K = wpE e a Γ fun t Γ1 => i < Γ1.length ∧ K.nx (Γ1.set i (some t)) := by rw [wpS]
theorem wpS_asgT {ts : List Tg} : wpS e (.asg (.tup ts) a) Γ K = wpE e a Γ fun t Γ1 => bindT (.tup ts) t.toD Γ1 K.nx := by rw [wpS]
theorem wpS_par {is : List Nat} {es : List SX} : wpS e (.par is es) Γ K = wpX e es Γ fun ts Γ1 => (ts.length = is.length ∧ ∀ i ∈ is, i < Γ1.length) ∧ K.nx (putG Γ1 is ts) := by rw [wpS]
theorem wpS_expr : wpS e (.expr a) Γ K = wpE e a Γ fun _ Γ1 => K.nx Γ1 := by rw [wpS]
theorem wpS_ret : wpS e (.ret a) Γ K = wpE e a Γ fun t _ => K.rt t := by rw [wpS]
theorem wpS_if {x y : List SS} : wpS e (.ifs a x y) Γ K = wpE e a Γ (asB fun r Γ1 => if r = true then wpSs e x Γ1 K else wpSs e y Γ1 K) := by rw [wpS]
theorem wpS_brk : wpS e .brk Γ K = K.bk Γ := by rw [wpS]
theorem wpS_cnt : wpS e .cnt Γ K = K.ct Γ := by rw [wpS]
theorem wpS_pass : wpS e .pass Γ K = K.nx Γ := by rw [wpS]
theorem wpS_raise {c : Nat} : wpS e (.raise_ c) Γ K = e ⟨c, none⟩ Γ := by rw [wpS]
end
theorem binD_addI (i j : Int) (k : OT → Prop) : binD .add (.int i) (.int j) k = k (.fz (.int (i + j))) := rfl
theorem binD_subI (i j : Int) (k : OT → Prop) : binD .sub (.int i) (.int j) k = k (.fz (.int (i - j))) := rfl
theorem binD_mulI (i j : Int) (k : OT → Prop) : binD .mul (.int i) (.int j) k = (mulOk i j ∧ k (.fz (.int (i * j)))) := rfl
theorem binD_fdivI (i j : Int) (k : OT → Prop) : binD .fdiv (.int i) (.int j) k = (0 < j ∧ j.natAbs < 2 ^ 8000 ∧ k (.fz (.int (i / j)))) := rfl
theorem binD_modI (i j : Int) (k : OT → Prop) : binD .mod (.int i) (.int j) k = (0 < j ∧ k (.fz (.int (i % j)))) := rfl
theorem binD_powI (i j : Int) (k : OT → Prop) : binD .pow (.int i) (.int j) k = (0 ≤ j ∧ j ≤ 1000 ∧ i.natAbs < 2 ^ 64 ∧ k (.fz (.int (i ^ j.toNat)))) := rfl
theorem binD_addT (i j : List D) (k : OT → Prop) : binD .add (.tup i) (.tup j) k = (i.length + j.length ≤ LIM ∧ k (.fz (.tup (i ++ j)))) := rfl
theorem binD_addL (i j : List D) (k : OT → Prop) : binD .add (.lst i) (.lst j) k = (i.length + j.length ≤ LIM ∧ k (.lst ((i ++ j).map .fz))) := rfl
theorem binD_addS (i j : Str) (k : OT → Prop) : binD .add (.str i) (.str j) k = (i.length + j.length ≤ LIM ∧ k (.fz (.str (i ++ j)))) := rfl
theorem binD_mulT (x : D) (n : Int) (k : OT → Prop) : binD .mul (.tup [x]) (.int n) k = (0 ≤ n ∧ n ≤ 1000 ∧ k (.fz (.tup (List.replicate n.toNat x)))) := rfl
theorem binD_mulL (xs : List D) (n : Int) (k : OT → Prop) : binD .mul (.lst xs) (.int n) k = (0 ≤ n ∧ n ≤ 1000 ∧ xs.length ≤ 1000 ∧ k (.lst ((List.replicate n.toNat xs).flatten.map .fz))) := rfl
theorem ltD_I (i j : Int) (k : Bool → Prop) : ltD (.int i) (.int j) k = k (decide (i < j)) := rfl
theorem ltD_S (x y : Str) (k : Bool → Prop) : ltD (.str x) (.str y) k = k (decide (x.cps.toList < y.cps.toList)) := rfl
theorem leD_I (i j : Int) (k : Bool → Prop) : leD (.int i) (.int j) k = k (decide (i ≤ j)) := rfl
theorem inD_L (x : D) (ys : List D) (k : Bool → Prop) : inD x (.lst ys) k = (x.flat = true ∧ ys.all D.flat = true ∧ k (hasD x ys)) := by unfold inD; cases x <;> rfl
theorem inD_T (x : D) (ys : List D) (k : Bool → Prop) : inD x (.tup ys) k = (x.flat = true ∧ ys.all D.flat = true ∧ k (hasD x ys)) := by unfold inD; cases x <;> rfl
theorem inD_S (x y : Str) (k : Bool → Prop) : inD (.str x) (.str y) k = ∃ c, x = ⟨#[c]⟩ ∧ k (decide (c ∈ y.cps.toList)) := rfl
theorem len_T (xs : List D) (k : OT → Prop) : biD .len [.tup xs] k = k (.fz (.int xs.length)) := rfl
theorem len_L (xs : List D) (k : OT → Prop) : biD .len [.lst xs] k = k (.fz (.int xs.length)) := rfl
theorem len_S (x : Str) (k : OT → Prop) : biD .len [.str x] k = (x.length ≤ LIM ∧ k (.fz (.int x.length))) := rfl
theorem len_R (xs : List Int) (k : OT → Prop) : biD .len [.scr xs] k = k (.fz (.int xs.length)) := rfl
theorem tuple_L (xs : List D) (k : OT → Prop) : biD .tuple_ [.lst xs] k = k (.fz (.tup xs)) := rfl
theorem tuple_T (xs : List D) (k : OT → Prop) : biD .tuple_ [.tup xs] k = k (.fz (.tup xs)) := rfl
theorem list_L (xs : List D) (k : OT → Prop) : biD .list_ [.lst xs] k = k (.lst (xs.map .fz)) := rfl
theorem list_T (xs : List D) (k : OT → Prop) : biD .list_ [.tup xs] k = k (.lst (xs.map .fz)) := rfl
theorem sum_L (xs : List D) (k : OT → Prop) : biD .sum_ [.lst xs] k = ∃ ns, ints? xs = some ns ∧ k (.fz (.int ns.sum)) := rfl
theorem all_L (xs : List D) (k : OT → Prop) : biD .all_ [.lst xs] k = ∃ bs, bools? xs = some bs ∧ k (.fz (.bl (bs.all id))) := rfl
theorem any_L (xs : List D) (k : OT → Prop) : biD .any_ [.lst xs] k = ∃ bs, bools? xs = some bs ∧ k (.fz (.bl (bs.any id))) := rfl
theorem max_I (i j : Int) (k : OT → Prop) : biD .max2 [.int i, .int j] k = k (.fz (.int (if j > i then j else i))) := rfl
theorem min_I (i j : Int) (k : OT → Prop) : biD .min2 [.int i, .int j] k = k (.fz (.int (if j < i then j else i))) := rfl
theorem abs_I (i : Int) (k : OT → Prop) : biD .abs_ [.int i] k = k (.fz (.int (if i < 0 then -i else i))) := rfl
theorem int_I (i : Int) (k : OT → Prop) : biD .int_ [.int i] k = k (.fz (.int i)) := rfl
theorem int_B (b : Bool) (k : OT → Prop) : biD .int_ [.bl b] k = k (.fz (.int (b2 b))) := rfl
theorem ix_T (xs : List D) (i : Int) (k : OT → Prop) : ixD (.tup xs) (.int i) k = ∃ d, atI xs i = some d ∧ k (.fz d) := rfl
theorem ix_L (xs : List D) (i : Int) (k : OT → Prop) : ixD (.lst xs) (.int i) k = ∃ d, atI xs i = some d ∧ k (.fz d) := rfl
theorem ix_R (xs : List Int) (i : Int) (k : OT → Prop) : ixD (.scr xs) (.int i) k = ∃ d, atI xs i = some d ∧ k (.fz (.int d)) := rfl
theorem ix_S (z : Str) (i : Int) (k : OT → Prop) : ixD (.str z) (.int i) k = (z.length ≤ LIM ∧ ∃ c, atI z.cps.toList i = some c ∧ k (.fz (.str ⟨#[c]⟩))) := rfl
theorem sl_T (xs : List D) (i j : Option Int) (k : OT → Prop) : slD (.tup xs) i j k = k (.fz (.tup (cutD xs i j))) := rfl
theorem sl_L (xs : List D) (i j : Option Int) (k : OT → Prop) : slD (.lst xs) i j k = k (.lst ((cutD xs i j).map .fz)) := rfl
theorem sl_S (z : Str) (i j : Option Int) (k : OT → Prop) : slD (.str z) i j k = (z.length ≤ LIM ∧ k (.fz (.str (cutS z i j)))) := rfl
theorem rev_T (xs : List D) (k : OT → Prop) : revD (.tup xs) k = k (.fz (.tup xs.reverse)) := rfl
theorem rev_L (xs : List D) (k : OT → Prop) : revD (.lst xs) k = k (.lst (xs.reverse.map .fz)) := rfl
theorem mc_app (xs : List D) (y : D) (k : D → List D → Prop) : mcD .append xs [y] k = (xs.length < LIM ∧ k .non (xs ++ [y])) := rfl
theorem asB_bl (k : Bool → Env → Prop) (b : Bool) (Γ : Env) : asB k (.fz (.bl b)) Γ = k b Γ := rfl
theorem asI_int (k : Option Int → Env → Prop) (b : Int) (Γ : Env) : asI k (.fz (.int b)) Γ = k (some b) Γ := rfl
theorem flat_fz (d : D) : OT.flat? (.fz d) = some d := rfl
theorem fzs_map (ds : List D) : fzs? (ds.map .fz) = some ds := by
  induction ds with
  | nil => rfl
  | cons d r ih => simp [fzs?, ih]
theorem fzs_nil : fzs? [] = some [] := rfl
theorem flat_lst (ds : List D) : OT.flat? (.lst (ds.map .fz)) = some (.lst ds) := by simp [OT.flat?, fzs_map]
theorem flat_nil : OT.flat? (.lst []) = some (.lst []) := rfl
theorem seq_T (xs : List D) : (D.tup xs).seq? = some xs := rfl
theorem seq_L (xs : List D) : (D.lst xs).seq? = some xs := rfl
theorem isNon_non : D.isNon .non = true := rfl
theorem isNon_tup (xs : List D) : D.isNon (.tup xs) = false := rfl
theorem isNon_lst (xs : List D) : D.isNon (.lst xs) = false := rfl
theorem isNon_int (i : Int) : D.isNon (.int i) = false := rfl
theorem isNon_str (x : Str) : D.isNon (.str x) = false := rfl
theorem isNon_bl (b : Bool) : D.isNon (.bl b) = false := rfl

/-! ### draws: an exponent -/
mutual
def costE : SE → Nat
  | .var _ => 0 | .cst _ => 0 | .nop => 0
  | .bin _ a b => costE a + costE b + 2 | .neg a => costE a
  | .cmp _ a b => costE a + costE b + 2
  | .chain _ _ a b c => costE a + costE b + costE c + 4
  | .andE a b => costE a + costE b + 2 | .orE a b => costE a + costE b + 2 | .notE a => costE a
  | .ife t a b => costE t + costE a + costE b + 4
  | .tup es => costX es | .lst es => costX es
  | .ix a i => costE a + costE i + 2
  | .sl a lo hi => costE a + costE lo + costE hi + 4
  | .rev a => costE a
  | .call S es => costL es + S.ce + 4
  | .callL S _ es => costL es + S.ce + 4
  | .bi _ es => costL es
  | .isi a _ => costE a
  | .lc _ _ it cs elt => costI it + costL cs + costE elt + 80
  | .mc _ _ es => costL es
  | .apo _ a => costE a
  | .mcp _ _ _ es => costL es
  | .frz a => costE a
  | .mv _ => 0
  | .meth _ S o es => costE o + costL es + S.ce + 6
  | .obr _ => 2
  | .obm S _ es => costL es + S.ce + 6
  | .callB S _ es => costL es + S.ce + 6
  | .dic0 => 0
  | .ixk a i => costE a + costE i + 2
def costX : List SX → Nat
  | [] => 0
  | .one a :: r => costE a + costX r + 2
  | .star a :: r => costE a + costX r + 2
def costL : List SE → Nat
  | [] => 0
  | a :: r => costE a + costL r + 2
def costI : SIt → Nat
  | .seq a => costE a
  | .rng1 es => costL es
  | .rng2 es => costL es
  | .rngD es => costL es
  | .zip2 es => costL es
  | .zip3 es => costL es
  | .enm es => costL es
end
mutual
def costS : SS → Nat
  | .asg _ a => costE a
  | .par _ es => costX es
  | .aug _ _ a => costE a
  | .expr a => costE a
  | .setix _ j a => costE a + costE j + 2
  | .ret a => costE a
  | .ifs t a b => costE t + costSs a + costSs b + 4
  | .for_ _ it body => costI it + costSs body + 80
  | .while_ t body => costE t + costSs body + 80
  | .brk => 0 | .cnt => 0 | .pass => 0 | .raise_ _ => 0
  | .setkey _ j a => costE a + costE j + 2
  | .swp _ _ _ es => costX es
def costSs : List SS → Nat
  | [] => 0
  | s :: r => costS s + costSs r + 2
end
end DL

/-! DC: the wp's readings on the abstract heap; expressions keep them. -/
namespace DL
open PySem L2

def BD : Nat := 2 ^ 1000000
theorem lep (a b : Nat) : 2 ^ a ≤ 2 ^ (a + b) := Nat.pow_le_pow_right (by omega) (by omega)
theorem le2 (a b : Nat) : 2 ^ a + 2 ^ b ≤ 2 ^ (a + b + 2) := by
  have h1 := lep a b
  have h2 := lep b a
  rw [Nat.add_comm b a] at h2
  rw [Nat.pow_add]
  omega
theorem le3 (a b c : Nat) : 2 ^ a + 2 ^ b + 2 ^ c ≤ 2 ^ (a + b + c + 4) := by
  have h1 := le2 a b
  have h2 := le2 (a + b + 2) c
  have h3 : a + b + 2 + c + 2 = a + b + c + 4 := by omega
  rw [h3] at h2
  omega
theorem lim_line : LIM ≤ sizeLine := by rw [sizeLine_eq]; decide
/-- no exception is let out -/
def XO (e : EX) : Prop := ∀ x Γ, ¬ e x Γ

/-! ### values -/
def RpO (K : PySem.W.Frag) (F : FH) (σ : St) (T : Foot) (x : Opd) (v : V) : Prop := match x with
  | .val t => RpT K F T t v
  | .late i => T = [] ∧ σ[i]? = some (some v)
/-- data whose items are frozen; itself it may be owned -/
def RpS (K : PySem.W.Frag) (H : Hp) (F : FH) (d : D) (v : V) : Prop := match d with
  | .lst ds => ∃ a vs, v = .ref a ∧ H a = some (.lst vs) ∧ RfL K F ds vs
  | .dic ks ds => ∃ a vs, v = .ref a ∧ DicAt H a ks vs ∧ RfL K F ds vs
  | d => Rf K F d v
section
variable {K : PySem.W.Frag} {H0 H H' : Hp} {F0 F F' : FH} {c c' : Nat} {Γ : Env} {σ : St} {T T1 T2 : Foot} {x : Opd} {v : V} {d : D} {t : OT}
theorem Rf.s (h : Rf K F d v) (i : Ini c F H) : RpS K H F d v := by
  cases d with
  | lst ds =>
    rw [Rf, Rp] at h
    obtain ⟨a, vs, e1, e2, e3⟩ := h
    exact ⟨a, vs, e1, i.same _ _ e2, e3⟩
  | dic ks ds =>
    rw [Rf, Rp] at h
    obtain ⟨a, vs, e1, e2, e3⟩ := h
    exact ⟨a, vs, e1, e2.same i.same, e3⟩
  | _ => exact h
theorem Rf.h (h : Rf K F d v) (i : Ini c F H) : Rp K H F d v := Rp.mono i.same (Le.refl F) d v h
theorem RfL.h {ds : List D} {vs : List V} (h : RfL K F ds vs) (i : Ini c F H) : RpL K H F ds vs := RpL.mono i.same (Le.refl F) ds vs h
theorem RpS.h (h : RpS K H F d v) (i : Ini c F H) : Rp K H F d v := by
  cases d with
  | lst ds =>
    obtain ⟨a, vs, e1, e2, e3⟩ := h
    rw [Rp]
    exact ⟨a, vs, e1, e2, e3.h i⟩
  | dic ks ds =>
    obtain ⟨a, vs, e1, e2, e3⟩ := h
    rw [Rp]
    exact ⟨a, vs, e1, e2, e3.h i⟩
  | _ => exact Rf.h h i
theorem RpO.le (l : Le F F') (h : RpO K F σ T x v) : RpO K F' σ T x v := by
  cases x with
  | val t => exact RpT.le l _ _ _ h
  | late i => exact h
theorem fzs_inv : ∀ {ts : List OT} {ds : List D}, fzs? ts = some ds → ts = ds.map .fz
  | [], ds, h => by simp [fzs?] at h; subst h; rfl
  | .fz d :: r, ds, h => by
    simp only [fzs?, Option.map_eq_some_iff] at h
    obtain ⟨a, h1, h2⟩ := h
    subst h2
    rw [fzs_inv h1]
    rfl
  | .lst _ :: r, ds, h => by simp [fzs?] at h
  | .dic _ _ :: r, ds, h => by simp [fzs?] at h
/-- a tree with frozen items, its objects standing -/
theorem RpT.s (h : RpT K F T t v) (i : Ini c F H) (o : ∀ p ∈ T, H p.1 = some p.2) (e : t.flat? = some d) : RpS K H F d v := by
  cases t with
  | fz d' =>
    cases e
    exact (h.fz_inv).2.s i
  | lst ts =>
    simp only [OT.flat?, Option.map_eq_some_iff] at e
    obtain ⟨ds, e1, rfl⟩ := e
    have e2 := fzs_inv e1
    subst e2
    rw [RpT] at h
    obtain ⟨a, vs, P, rfl, rfl, e3⟩ := h
    obtain ⟨rfl, e4⟩ := RpTL.fz_inv e3
    exact ⟨a, vs, rfl, o (a, _) List.mem_cons_self, e4⟩
  | dic ks vs =>
    cases e
    rw [RpT] at h
    obtain ⟨a, ws, o', rfl, rfl, e3, e4, e5⟩ := h
    refine ⟨a, ws, rfl, DicAt.same (fun b u q => ?_) e3, e5⟩
    split at q
    · rename_i hb
      rw [hb]; cases q
      exact o (a, _) List.mem_cons_self
    · cases q
mutual
/-- any tree, looked at -/
theorem RpT.h (i : Ini c F H) : ∀ (T : Foot) (t : OT) (v : V), RpT K F T t v → (∀ p ∈ T, H p.1 = some p.2) → Rp K H F t.toD v
  | T, .fz d, v, h, o => by rw [OT.toD]; exact (h.fz_inv).2.h i
  | T, .lst ts, v, h, o => by
    rw [RpT] at h
    obtain ⟨a, vs, P, rfl, rfl, e3⟩ := h
    rw [OT.toD, Rp]
    exact ⟨a, vs, rfl, o (a, _) List.mem_cons_self, RpTL.h i P ts vs e3 fun p hp => o p (List.mem_cons_of_mem _ hp)⟩
  | T, .dic ks ds, v, h, o => by
    have := RpT.s h i o (d := .dic ks ds) rfl
    rw [OT.toD]
    exact this.h i
theorem RpTL.h (i : Ini c F H) : ∀ (T : Foot) (ts : List OT) (vs : List V), RpTL K F T ts vs → (∀ p ∈ T, H p.1 = some p.2) → RpL K H F (OT.toDs ts) vs
  | T, [], vs, h, o => by rw [RpTL] at h; rw [OT.toDs, h.2]; exact .nil
  | T, t :: ts, vs, h, o => by
    rw [RpTL] at h
    obtain ⟨v, ws, P1, P2, rfl, rfl, e3, e4⟩ := h
    rw [OT.toDs]
    exact .cons (RpT.h i P1 t v e3 fun p hp => o p (List.mem_append_left _ hp)) (RpTL.h i P2 ts ws e4 fun p hp => o p (List.mem_append_right _ hp))
end
/-- an operand, in the end: its tree -/
theorem EOk.opd (h : EOk K H0 F0 c Γ F σ H T) (r : RpO K F σ T1 x v) (hT : ∀ p ∈ T1, p ∈ T) (e : x.at Γ = some t) : ∃ P, RpT K F P t v ∧ ∀ p ∈ P, H p.1 = some p.2 := by
  obtain ⟨b, O, g, w⟩ := h
  cases x with
  | val t' =>
    cases e
    exact ⟨T1, r, fun p hp => (w.at_ p (List.mem_append_right _ (hT p hp))).1⟩
  | late i =>
    have e' : (Γ[i]?).join = some t := e
    have e2 : Γ[i]? = some (some t) := by
      cases q : Γ[i]? with
      | none => rw [q] at e'; cases e'
      | some s => rw [q] at e'; exact congrArg some e'
    obtain ⟨A, B, P, v', rfl, h2, h3, _⟩ := g.focus e2
    rw [r.2] at h2; cases h2
    exact ⟨P, h3, fun p hp => (w.at_ p (List.mem_append_left _ (List.mem_append_left _ (List.mem_append_right _ hp)))).1⟩
theorem EOk.fl (h : EOk K H0 F0 c Γ F σ H T) (r : RpO K F σ T1 x v) (hT : ∀ p ∈ T1, p ∈ T) (e : x.fl Γ = some d) : RpS K H F d v := by
  unfold Opd.fl at e
  cases q : x.at Γ with
  | none => rw [q] at e; cases e
  | some t =>
    rw [q] at e
    obtain ⟨P, h1, h2⟩ := h.opd r hT q
    exact h1.s h.1.ini h2 e
theorem EOk.ob (h : EOk K H0 F0 c Γ F σ H T) (r : RpO K F σ T1 x v) (hT : ∀ p ∈ T1, p ∈ T) (e : x.ob Γ = some d) : Rp K H F d v := by
  unfold Opd.ob at e
  cases q : x.at Γ with
  | none => rw [q] at e; cases e
  | some t =>
    rw [q] at e
    cases e
    obtain ⟨P, h1, h2⟩ := h.opd r hT q
    exact RpT.h h.1.ini _ _ _ h1 h2
end

/-- how a result lies: it was there; it is new and owned; it is new and frozen -/
inductive Res (K : PySem.W.Frag) (F : FH) (H : Hp) : OT → V → Hp → Prop
  | old {d : D} {v : V} : Rf K F d v → Res K F H (.fz d) v H
  | own {p : Addr} {o : HO} {t : OT} : H p = none → RpT K F [(p, o)] t (.ref p) → Res K F H t (.ref p) (upd H p o)
  | frz {p : Addr} {o : HO} {d : D} : H p = none → Rf K (adds F [(p, o)]) d (.ref p) → Res K F H (.fz d) (.ref p) (upd H p o)
theorem Res.fin {K : PySem.W.Frag} {H0 H H' : Hp} {F0 F : FH} {c : Nat} {Γ : Env} {σ : St} {T : Foot} {t : OT} {v : V} (h : EOk K H0 F0 c Γ F σ H T) (r : Res K F H t v H') :
    ∃ F' T', Le F F' ∧ EOk K H0 F0 c Γ F' σ H' (T' ++ T) ∧ RpT K F' T' t v := by
  cases r with
  | old r => exact ⟨F, [], Le.refl F, h, .of_fz r⟩
  | @own p o _ hp r => exact ⟨F, [(p, o)], Le.refl F, h.new hp, r⟩
  | @frz p o _ hp r =>
    obtain ⟨h1, h2, _⟩ := (h.new (o := o) hp).freeze (T1 := [(p, o)])
    exact ⟨adds F [(p, o)], [], h2, h1, .of_fz r⟩
theorem Rf.tup {K : PySem.W.Frag} {F : FH} {ds : List D} {vs : List V} {p : Addr} (h : RfL K F ds vs) (hp : F p = none) : Rf K (adds F [(p, .tup vs)]) (.tup ds) (.ref p) := by
  rw [Rf, Rp]
  have l : Le F (adds F [(p, .tup vs)]) := adds_le fun q hq => by rw [List.mem_singleton.mp hq]; exact hp
  exact ⟨p, vs, rfl, .inl (.inl (hpo_some.mpr (adds_in (by simp) List.mem_cons_self))), h.le l⟩
theorem RpT.newL {K : PySem.W.Frag} {F : FH} {ds : List D} {vs : List V} {p : Addr} (h : RfL K F ds vs) : RpT K F [(p, .lst vs)] (.lst (ds.map .fz)) (.ref p) := by
  rw [RpT]
  exact ⟨p, vs, [], rfl, rfl, RpTL.of_fz (vs := vs) h⟩
theorem Ini.none {c : Nat} {F : FH} {H : Hp} {p : Addr} (i : Ini c F H) (h : H p = none) : F p = none := by
  cases e : F p with
  | none => rfl
  | some f => exact absurd h (i p f e).ne

/-! ### readings -/
section
variable (K : PySem.W.Frag)
def ER (w : EX → Env → (OT → Env → Prop) → Prop) (n : Nat) : TE := fun σ H Q => ∃ e H0 F0 Γ F c T k, XO e ∧ EOk K H0 F0 c Γ F σ H T ∧ c + n ≤ BD ∧ w e Γ k ∧
  ∀ t Γ' F' c' v H' T', k t Γ' → c' ≤ c + n → Le F F' → EOk K H0 F0 c' Γ' F' σ H' (T' ++ T) → RpT K F' T' t v → Q v H'
def OR (w : EX → Env → (Opd → Env → Prop) → Prop) (n : Nat) : TE := fun σ H Q => ∃ e H0 F0 Γ F c T k, XO e ∧ EOk K H0 F0 c Γ F σ H T ∧ c + n ≤ BD ∧ w e Γ k ∧
  ∀ t Γ' F' c' v H' T', k t Γ' → c' ≤ c + n → Le F F' → EOk K H0 F0 c' Γ' F' σ H' (T' ++ T) → RpO K F' σ T' t v → Q v H'
def TR (w : EX → Env → (OT → Env → Prop) → Prop) (n : Nat) : TT := fun σ H Q => ∃ e H0 F0 Γ F c T k, XO e ∧ EOk K H0 F0 c Γ F σ H T ∧ c + n ≤ BD ∧ w e Γ (asB k) ∧
  ∀ b Γ' F' c' H', k b Γ' → c' ≤ c + n → Le F F' → EOk K H0 F0 c' Γ' F' σ H' T → Q b H'
/-- frozen arguments -/
def AR (w : EX → Env → (List D → Env → Prop) → Prop) (n : Nat) : TA := fun σ H Q => ∃ e H0 F0 Γ F c T k, XO e ∧ EOk K H0 F0 c Γ F σ H T ∧ c + n ≤ BD ∧ w e Γ k ∧
  ∀ ds Γ' F' c' vs H', k ds Γ' → c' ≤ c + n → Le F F' → EOk K H0 F0 c' Γ' F' σ H' T → RfL K F' ds vs → Q vs H'
/-- items of a display -/
def XR (w : EX → Env → (List OT → Env → Prop) → Prop) (n : Nat) : TA := fun σ H Q => ∃ e H0 F0 Γ F c T k, XO e ∧ EOk K H0 F0 c Γ F σ H T ∧ c + n ≤ BD ∧ w e Γ k ∧
  ∀ ts Γ' F' c' vs H' T', k ts Γ' → c' ≤ c + n → Le F F' → EOk K H0 F0 c' Γ' F' σ H' (T' ++ T) → RpTL K F' T' ts vs → Q vs H'
inductive RpOL (K : PySem.W.Frag) (F : FH) (σ : St) : Foot → List Opd → List V → Prop
  | nil : RpOL K F σ [] [] []
  | cons {P1 P2 : Foot} {x : Opd} {v : V} {xs : List Opd} {vs : List V} : RpO K F σ P1 x v → RpOL K F σ P2 xs vs → RpOL K F σ (P1 ++ P2) (x :: xs) (v :: vs)
/-- operands -/
def OsR (w : EX → Env → (List Opd → Env → Prop) → Prop) (n : Nat) : TA := fun σ H Q => ∃ e H0 F0 Γ F c T k, XO e ∧ EOk K H0 F0 c Γ F σ H T ∧ c + n ≤ BD ∧ w e Γ k ∧
  ∀ xs Γ' F' c' vs H' T', k xs Γ' → c' ≤ c + n → Le F F' → EOk K H0 F0 c' Γ' F' σ H' (T' ++ T) → RpOL K F' σ T' xs vs → Q vs H'
end
theorem _root_.L2.PE.mono {X : Cx} {e : Expr} {t t' : TE} (h : PE X e t) (m : ∀ σ H Q, t' σ H Q → t σ H Q) : PE X e t' := ⟨fun pins s σ H Q I q => h.run pins s σ H Q I (m σ H Q q)⟩
theorem _root_.L2.PT.mono {X : Cx} {e : Expr} {t t' : TT} (h : PT X e t) (m : ∀ σ H Q, t' σ H Q → t σ H Q) : PT X e t' := ⟨fun pins s σ H Q I q => h.run pins s σ H Q I (m σ H Q q)⟩
theorem _root_.L2.PA.mono {X : Cx} {e : List Expr} {t t' : TA} (h : PA X e t) (m : ∀ σ H Q, t' σ H Q → t σ H Q) : PA X e t' := ⟨fun pos pins s σ H Q I q => h.run pos pins s σ H Q I (m σ H Q q)⟩
theorem _root_.L2.PS.mono {X : Cx} {e : Stmt} {t t' : TS} (h : PS X e t) (m : ∀ D σ H, t' D σ H → t D σ H) : PS X e t' := ⟨fun pins s σ H D I q => h.run pins s σ H D I (m D σ H q)⟩
theorem _root_.L2.PSs.mono {X : Cx} {e : List Stmt} {t t' : TS} (h : PSs X e t) (m : ∀ D σ H, t' D σ H → t D σ H) : PSs X e t' := ⟨fun pins s σ H D I q => h.run pins s σ H D I (m D σ H q)⟩
abbrev DE (X : Cx) (x : Expr) (a : SE) : Prop := PE X x (ER X.K (fun e => wpE e a) (2 ^ costE a))
abbrev DO (X : Cx) (x : Expr) (a : SE) : Prop := PE X x (OR X.K (fun e => wpO e a) (2 ^ costE a))
abbrev DT (X : Cx) (x : Expr) (a : SE) : Prop := PT X x (TR X.K (fun e => wpE e a) (2 ^ costE a))
abbrev DA (X : Cx) (x : List Expr) (a : List SE) : Prop := PA X x (AR X.K (fun e => wpA e a) (2 ^ costL a))
abbrev DOs (X : Cx) (x : List Expr) (a : List SE) : Prop := PA X x (OsR X.K (fun e => wpOs e a) (2 ^ costL a))
abbrev DX (X : Cx) (x : List Expr) (a : List SX) : Prop := PA X x (XR X.K (fun e => wpX e a) (2 ^ costX a))

section
variable {X : Cx} {a b x y : Expr} {sa sb sc : SE} {pos : Pos}
/-- an own slot frozen -/
theorem EOk.frzSlot {K : PySem.W.Frag} {H0 H : Hp} {F0 F : FH} {c : Nat} {Γ : Env} {σ : St} {T : Foot} {i : Nat} {t : OT} {v : V} (h : EOk K H0 F0 c Γ F σ H T) (e : Γ[i]? = some (some t)) (hv : σ[i]? = some (some v)) :
    ∃ F', Le F F' ∧ EOk K H0 F0 c (Γ.set i (some (.fz t.toD))) F' σ H T ∧ Rf K F' t.toD v := by
  obtain ⟨b, O, g, w⟩ := h
  obtain ⟨A, B, P, v', rfl, h2, h3, h4⟩ := g.focus e
  rw [hv] at h2; cases h2
  have pm : (A ++ P ++ B ++ T).Perm (P ++ (A ++ B ++ T)) := by
    simp only [List.append_assoc]
    exact List.perm_append_comm_assoc A P (B ++ T)
  have w2 := w.perm pm
  have w1 : Own H0 F H P := w2.sub (List.sublist_append_left _ _)
  have l : Le F (adds F P) := adds_le fun p hp => (w1.at_ p hp).2.1
  have gP : ∀ p ∈ P, adds F P p.1 = some (.ho p.2) := fun p hp => adds_in w1.nd hp
  have rf : Rf K (adds F P) t.toD v := RpT.frz l P t v gP h3
  have hs : σ.set i (some v) = σ := by
    obtain ⟨hi, e⟩ := List.getElem?_eq_some_iff.mp hv
    rw [← e]; exact List.set_getElem_self hi
  refine ⟨adds F P, l, ⟨⟨⟨fun a f q => ?_, b.le.trans l, fun a q1 q2 => ?_⟩, b.tk⟩, A ++ [] ++ B, ?_, ?_, fun p hp => ?_⟩, rf⟩
  · rcases adds_some q with ⟨o, ho, rfl⟩ | q
    · exact (w1.at_ _ ho).1
    · exact (b.ini a f q).to rfl l
  · obtain ⟨e1, e2⟩ := b.old a q1 q2
    refine ⟨e1, ?_⟩
    rw [adds_out]
    · exact e2
    · intro hm
      obtain ⟨p, hp, rfl⟩ := List.mem_map.mp hm
      exact q2 (w1.at_ p hp).2.2
  · have := h4 (adds F P) [] (.fz t.toD) v l (.of_fz rf)
    rw [hs] at this
    exact this
  · rw [List.append_nil]
    exact (w2.sub (List.sublist_append_right _ _)).nd
  · rw [List.append_nil] at hp
    have hp2 : p ∈ P ++ (A ++ B ++ T) := List.mem_append_right _ hp
    obtain ⟨e1, e2, e3⟩ := w2.at_ p hp2
    refine ⟨e1, ?_, e3⟩
    rw [adds_out]
    · exact e2
    · intro hm
      have nd := w2.nd
      rw [List.map_append] at nd
      exact (List.nodup_append.mp nd).2.2 p.1 hm p.1 (List.mem_map.mpr ⟨p, hp, rfl⟩) rfl
theorem EOk.slot {K : PySem.W.Frag} {H0 H : Hp} {F0 F : FH} {c : Nat} {Γ : Env} {σ : St} {T : Foot} {i : Nat} {t : OT} (h : EOk K H0 F0 c Γ F σ H T) (e : Γ[i]? = some (some t)) : ∃ v, σ[i]? = some (some v) := by
  obtain ⟨b, O, g, w⟩ := h
  obtain ⟨A, B, P, v', _, h2, _⟩ := g.focus e
  exact ⟨v', h2⟩
theorem EOk.slotF {K : PySem.W.Frag} {H0 H : Hp} {F0 F : FH} {c : Nat} {Γ : Env} {σ : St} {T : Foot} {i : Nat} {d : D} (h : EOk K H0 F0 c Γ F σ H T) (e : Γ[i]? = some (some (.fz d))) : ∃ v, σ[i]? = some (some v) ∧ Rf K F d v := by
  obtain ⟨b, O, g, w⟩ := h
  obtain ⟨A, B, P, v', _, h2, h3, _⟩ := g.focus e
  exact ⟨v', h2, h3.fz_inv.2⟩

theorem de_var {i : Nat} {n : Str} (h : PE X (.Name n pos) (tVar i)) : DE X (.Name n pos) (.var i) := by
  refine h.mono fun σ H Q ⟨e, H0, F0, Γ, F, c, T, k, xo, ok, hc, hw, fin⟩ => ?_
  have hw : wpE e (.var i) Γ k := hw
  rw [wpE] at hw
  split at hw
  · rename_i d hd
    obtain ⟨v, h1, h2⟩ := ok.slotF hd
    exact ⟨v, h1, fin _ Γ F c v H [] hw (Nat.le_add_right _ _) (Le.refl F) ok (.of_fz h2)⟩
  · rename_i t _ ht
    obtain ⟨v, hv⟩ := ok.slot ht
    obtain ⟨F', l, ok', rf⟩ := ok.frzSlot ht hv
    exact ⟨v, hv, fin _ _ F' c v H [] hw (Nat.le_add_right _ _) l ok' (.of_fz rf)⟩
  · exact hw.elim
theorem do_var {i : Nat} {n : Str} (h : PE X (.Name n pos) (tVar i)) : DO X (.Name n pos) (.var i) := by
  refine h.mono fun σ H Q ⟨e, H0, F0, Γ, F, c, T, k, xo, ok, hc, hw, fin⟩ => ?_
  obtain ⟨h1, h2⟩ : ((Γ[i]?).join).isSome = true ∧ k (.late i) Γ := hw
  cases q : Γ[i]? with
  | none => rw [q] at h1; simp at h1
  | some s =>
    cases s with
    | none => rw [q] at h1; simp at h1
    | some t =>
      obtain ⟨v, hv⟩ := ok.slot q
      exact ⟨v, hv, fin _ Γ F c v H [] h2 (Nat.le_add_right _ _) (Le.refl F) ok ⟨rfl, hv⟩⟩
/-- any other expression as an operand -/
theorem DE.o (h : DE X a sa) (hv : isVar sa = none := by rfl) : DO X a sa := by
  refine h.mono fun σ H Q ⟨e, H0, F0, Γ, F, c, T, k, xo, ok, hc, hw, fin⟩ => ?_
  have hw : asO (isVar sa) (wpE e sa Γ) Γ k := hw
  rw [hv] at hw
  exact ⟨e, H0, F0, Γ, F, c, T, _, xo, ok, hc, hw, fun t Γ' F' c' v H' T' q h1 h2 h3 h4 => fin _ Γ' F' c' v H' T' q h1 h2 h3 h4⟩
/-- a slot's tree is taken out -/
theorem RpG.take {K : PySem.W.Frag} {F : FH} : ∀ {Γ : Env} {O : Foot} {σ : St} {i : Nat} {t : OT}, RpG K F O Γ σ → Γ[i]? = some (some t) → ∃ A B P v, O = A ++ P ++ B ∧ σ[i]? = some (some v) ∧ RpT K F P t v ∧ RpG K F (A ++ B) (Γ.set i none) σ
  | [], O, σ, i, t, h, e => by simp at e
  | g :: Γ, O, σ, 0, t, h, e => by
    rw [RpG] at h
    obtain ⟨s, ρ, P1, P2, rfl, rfl, e3, e4⟩ := h
    simp at e; subst e
    obtain ⟨v, rfl, e6⟩ := e3
    refine ⟨[], P2, P1, v, by simp, by simp, e6, ?_⟩
    show RpG K F ([] ++ P2) (none :: Γ) (some v :: ρ)
    rw [RpG]
    exact ⟨some v, ρ, [], P2, rfl, by simp, rfl, e4⟩
  | g :: Γ, O, σ, i + 1, t, h, e => by
    rw [RpG] at h
    obtain ⟨s, ρ, P1, P2, rfl, rfl, e3, e4⟩ := h
    obtain ⟨A, B, P, v, rfl, h2, h3, h4⟩ := RpG.take (i := i) e4 (by simpa using e)
    refine ⟨P1 ++ A, B, P, v, by simp, by simpa using h2, h3, ?_⟩
    show RpG K F (P1 ++ A ++ B) (g :: Γ.set i none) (s :: ρ)
    rw [RpG]
    exact ⟨s, ρ, P1, A ++ B, rfl, by simp, e3, h4⟩
theorem de_mv {i : Nat} {n : Str} (h : PE X (.Name n pos) (tVar i)) : DE X (.Name n pos) (.mv i) := by
  refine h.mono fun σ H Q ⟨e, H0, F0, Γ, F, c, T, k, xo, ok, hc, hw, fin⟩ => ?_
  have hw : wpE e (.mv i) Γ k := hw
  rw [wpE] at hw
  split at hw
  · rename_i t ht
    obtain ⟨b, O, g, w⟩ := ok
    obtain ⟨A, B, P, v, rfl, h2, h3, h4⟩ := g.take ht
    have pm : (A ++ P ++ B ++ T).Perm (A ++ B ++ (P ++ T)) := by
      simp only [List.append_assoc]
      refine List.Perm.append_left A ?_
      rw [← List.append_assoc, ← List.append_assoc]
      exact List.Perm.append_right T List.perm_append_comm
    exact ⟨v, h2, fin t _ F c v H P hw (Nat.le_add_right _ _) (Le.refl F) ⟨b, A ++ B, h4, w.perm pm⟩ h3⟩
  · exact hw.elim
end
end DL

/-! DD: expressions keep their wp: operators, tests, displays, subscripts, built-ins. -/
namespace DL
open PySem L2

theorem bud2a {c a b : Nat} (h : c + 2 ^ (a + b + 2) ≤ BD) : c + 2 ^ a ≤ BD := by
  have := le2 a b
  generalize 2 ^ a = x at *; generalize 2 ^ b = y at *; generalize 2 ^ (a + b + 2) = z at *; omega
theorem bud2b {c c1 a b : Nat} (h : c + 2 ^ (a + b + 2) ≤ BD) (h1 : c1 ≤ c + 2 ^ a) : c1 + 2 ^ b ≤ BD := by
  have := le2 a b
  generalize 2 ^ a = x at *; generalize 2 ^ b = y at *; generalize 2 ^ (a + b + 2) = z at *; omega
theorem bud2c {c c1 c2 a b : Nat} (h1 : c1 ≤ c + 2 ^ a) (h2 : c2 ≤ c1 + 2 ^ b) : c2 ≤ c + 2 ^ (a + b + 2) := by
  have := le2 a b
  generalize 2 ^ a = x at *; generalize 2 ^ b = y at *; generalize 2 ^ (a + b + 2) = z at *; omega
theorem bud3a {c a b d : Nat} (h : c + 2 ^ (a + b + d + 4) ≤ BD) : c + 2 ^ a ≤ BD := by
  have := le3 a b d
  generalize 2 ^ a = x at *; generalize 2 ^ b = y at *; generalize 2 ^ d = w at *; generalize 2 ^ (a + b + d + 4) = z at *; omega
theorem bud3b {c c1 a b d : Nat} (h : c + 2 ^ (a + b + d + 4) ≤ BD) (h1 : c1 ≤ c + 2 ^ a) : c1 + 2 ^ b ≤ BD := by
  have := le3 a b d
  generalize 2 ^ a = x at *; generalize 2 ^ b = y at *; generalize 2 ^ d = w at *; generalize 2 ^ (a + b + d + 4) = z at *; omega
theorem bud3b' {c c1 a b d : Nat} (h : c + 2 ^ (a + b + d + 4) ≤ BD) (h1 : c1 ≤ c + 2 ^ a) : c1 + 2 ^ d ≤ BD := by
  have := le3 a b d
  generalize 2 ^ a = x at *; generalize 2 ^ b = y at *; generalize 2 ^ d = w at *; generalize 2 ^ (a + b + d + 4) = z at *; omega
theorem bud3c {c c1 c2 a b d : Nat} (h : c + 2 ^ (a + b + d + 4) ≤ BD) (h1 : c1 ≤ c + 2 ^ a) (h2 : c2 ≤ c1 + 2 ^ b) : c2 + 2 ^ d ≤ BD := by
  have := le3 a b d
  generalize 2 ^ a = x at *; generalize 2 ^ b = y at *; generalize 2 ^ d = w at *; generalize 2 ^ (a + b + d + 4) = z at *; omega
theorem bud3d {c c1 c2 c3 a b d : Nat} (h1 : c1 ≤ c + 2 ^ a) (h2 : c2 ≤ c1 + 2 ^ b) (h3 : c3 ≤ c2 + 2 ^ d) : c3 ≤ c + 2 ^ (a + b + d + 4) := by
  have := le3 a b d
  generalize 2 ^ a = x at *; generalize 2 ^ b = y at *; generalize 2 ^ d = w at *; generalize 2 ^ (a + b + d + 4) = z at *; omega
theorem bud3e {c c1 c2 a b d : Nat} (h1 : c1 ≤ c + 2 ^ a) (h2 : c2 ≤ c1 + 2 ^ b) : c2 ≤ c + 2 ^ (a + b + d + 4) := by
  have := le3 a b d
  generalize 2 ^ a = x at *; generalize 2 ^ b = y at *; generalize 2 ^ d = w at *; generalize 2 ^ (a + b + d + 4) = z at *; omega
theorem bud3f {c c1 c2 a b d : Nat} (h1 : c1 ≤ c + 2 ^ a) (h2 : c2 ≤ c1 + 2 ^ d) : c2 ≤ c + 2 ^ (a + b + d + 4) := by
  have := le3 a b d
  generalize 2 ^ a = x at *; generalize 2 ^ b = y at *; generalize 2 ^ d = w at *; generalize 2 ^ (a + b + d + 4) = z at *; omega
theorem bud2l {c c1 a b : Nat} (h1 : c1 ≤ c + 2 ^ a) : c1 ≤ c + 2 ^ (a + b + 2) := by
  have := le2 a b
  generalize 2 ^ a = x at *; generalize 2 ^ b = y at *; generalize 2 ^ (a + b + 2) = z at *; omega
theorem osw_inv {o : Option D} {k : D → Prop} (h : osw o k) : ∃ d, o = some d ∧ k d := by
  cases o with
  | none => exact h.elim
  | some d => exact ⟨d, rfl, h⟩
theorem asB_inv {k : Bool → Env → Prop} {t : OT} {Γ : Env} (h : asB k t Γ) : ∃ b, t = .fz (.bl b) ∧ k b Γ := by
  cases t with
  | fz d => cases d with
    | bl b => exact ⟨b, rfl, h⟩
    | _ => exact h.elim
  | _ => exact h.elim
theorem asI_inv {k : Option Int → Env → Prop} {t : OT} {Γ : Env} (h : asI k t Γ) : ∃ i, t = .fz (.int i) ∧ k (some i) Γ := by
  cases t with
  | fz d => cases d with
    | int b => exact ⟨b, rfl, h⟩
    | _ => exact h.elim
  | _ => exact h.elim

def OpV (K : PySem.W.Frag) (r : R2) (g : D → D → (OT → Prop) → Prop) : Prop := ∀ (x y : D) (vx vy : V) (c : Nat) (F : FH) (H : Hp) (k : OT → Prop) (Q : VK), Ini c F H → RpS K H F x vx → RpS K H F y vy → g x y k → (∀ t v H', k t → Res K F H t v H' → Q v H') → r vx vy H Q
def CmV (K : PySem.W.Frag) (r : R2) (g : D → D → (Bool → Prop) → Prop) : Prop := ∀ (x y : D) (vx vy : V) (F : FH) (H : Hp) (k : Bool → Prop) (Q : VK), Rp K H F x vx → Rp K H F y vy → g x y k → (∀ b, k b → Q (.bl b) H) → r vx vy H Q
section
variable {X : Cx} {a b x y z : Expr} {sa sb sc : SE} {pos : Pos} {r r' : R2}
theorem de_bin {op : Operator} {bop : BOp} (ho : OpR X (binaryOp op) r) (hv : OpV X.K r (binD bop)) (ha : DO X a sa) (hb : DO X b sb) : DE X (.BinOp a op b pos) (.bin bop sa sb) := by
  refine (pe_op ho ha hb).mono fun σ H Q ⟨e, H0, F0, Γ, F, c, T, k, xo, ok, hc, hw, fin⟩ => ?_
  have hw : wpE e (.bin bop sa sb) Γ k := hw
  rw [wpE] at hw
  rw [show costE (.bin bop sa sb) = costE sa + costE sb + 2 by rw [costE]] at hc fin
  refine ⟨e, H0, F0, Γ, F, c, T, _, xo, ok, bud2a hc, hw, fun ox Γ1 F1 c1 vx H1 T1 q1 hc1 l1 ok1 r1 => ⟨e, H0, F0, Γ1, F1, c1, T1 ++ T, _, xo, ok1, bud2b hc hc1, q1, fun oy Γ2 F2 c2 vy H2 T2 q2 hc2 l2 ok2 r2 => ?_⟩⟩
  obtain ⟨dx, ex, q2⟩ := osw_inv q2
  obtain ⟨dy, ey, q2⟩ := osw_inv q2
  have hx := ok2.fl (r1.le l2) (fun p hp => by simp [hp]) ex
  have hy := ok2.fl r2 (fun p hp => by simp [hp]) ey
  refine hv dx dy vx vy c2 F2 H2 _ _ ok2.1.ini hx hy q2 fun t v H' hk res => ?_
  obtain ⟨F', T', l3, ok3, rt⟩ := res.fin ok2.none_left.none_left
  exact fin t Γ2 F' c2 v H' T' hk (bud2c hc1 hc2) ((l1.trans l2).trans l3) ok3 rt
theorem de_cmp {op : CmpOp} {cop : COp} (ho : OpR X (compareOp op) r) (hm : behindInMarks op b = false) (hv : CmV X.K r (cmpD cop)) (ha : DO X a sa) (hb : DO X b sb) : DE X (.Compare a [op] [b] pos) (.cmp cop sa sb) := by
  refine (pe_cmpR ho ha hb hm).mono fun σ H Q ⟨e, H0, F0, Γ, F, c, T, k, xo, ok, hc, hw, fin⟩ => ?_
  have hw : wpE e (.cmp cop sa sb) Γ k := hw
  rw [wpE] at hw
  rw [show costE (.cmp cop sa sb) = costE sa + costE sb + 2 by rw [costE]] at hc fin
  refine ⟨e, H0, F0, Γ, F, c, T, _, xo, ok, bud2a hc, hw, fun ox Γ1 F1 c1 vx H1 T1 q1 hc1 l1 ok1 r1 => ⟨e, H0, F0, Γ1, F1, c1, T1 ++ T, _, xo, ok1, bud2b hc hc1, q1, fun oy Γ2 F2 c2 vy H2 T2 q2 hc2 l2 ok2 r2 => ?_⟩⟩
  obtain ⟨dx, ex, q2⟩ := osw_inv q2
  obtain ⟨dy, ey, q2⟩ := osw_inv q2
  have hx := ok2.ob (r1.le l2) (fun p hp => by simp [hp]) ex
  have hy := ok2.ob r2 (fun p hp => by simp [hp]) ey
  refine hv dx dy vx vy F2 H2 _ _ hx hy q2 fun t hk => ?_
  exact fin _ Γ2 F2 c2 _ H2 [] hk (bud2c hc1 hc2) (l1.trans l2) ok2.none_left.none_left (.of_fz (by rw [Rf, Rp]))
theorem de_chain {o1 o2 : CmpOp} {c1 c2 : COp} (ho : OpR X (compareOp o1) r) (ho' : OpR X (compareOp o2) r') (hv : CmV X.K r (cmpD c1)) (hv' : CmV X.K r' (cmpD c2)) (ha : DO X a sa) (hb : DO X b sb) (hcc : DO X z sc)
    (pc : ∀ {ta tb tc : TE}, PE X a ta → PE X b tb → PE X z tc → PE X (.Compare a [o1, o2] [b, z] pos) (tChain r r' ta tb tc)) : DE X (.Compare a [o1, o2] [b, z] pos) (.chain c1 c2 sa sb sc) := by
  refine (pc ha hb hcc).mono fun σ H Q ⟨e, H0, F0, Γ, F, c, T, k, xo, ok, hc, hw, fin⟩ => ?_
  have hw : wpE e (.chain c1 c2 sa sb sc) Γ k := hw
  rw [wpE] at hw
  rw [show costE (.chain c1 c2 sa sb sc) = costE sa + costE sb + costE sc + 4 by rw [costE]] at hc fin
  refine ⟨e, H0, F0, Γ, F, c, T, _, xo, ok, bud3a hc, hw, fun ox Γ1 F1 d1 vx H1 T1 q1 hc1 l1 ok1 r1 => ⟨e, H0, F0, Γ1, F1, d1, T1 ++ T, _, xo, ok1, bud3b hc hc1, q1, fun oy Γ2 F2 d2 vy H2 T2 q2 hc2 l2 ok2 r2 => ?_⟩⟩
  obtain ⟨dx, ex, q2⟩ := osw_inv q2
  obtain ⟨dy, ey, q2⟩ := osw_inv q2
  have hx := ok2.ob (r1.le l2) (fun p hp => by simp [hp]) ex
  have hy := ok2.ob r2 (fun p hp => by simp [hp]) ey
  refine hv dx dy vx vy F2 H2 _ _ hx hy q2 fun t hk => ⟨t, rfl, ?_⟩
  cases t with
  | false => exact fin _ Γ2 F2 d2 _ H2 [] hk (bud3e hc1 hc2) (l1.trans l2) ok2.none_left.none_left (.of_fz (by rw [Rf, Rp]))
  | true =>
    rw [if_pos rfl] at hk
    refine ⟨e, H0, F0, Γ2, F2, d2, T2 ++ (T1 ++ T), _, xo, ok2, bud3c hc hc1 hc2, hk, fun oz Γ3 F3 d3 vz H3 T3 q3 hc3 l3 ok3 r3 => ?_⟩
    obtain ⟨dy', ey', q3⟩ := osw_inv q3
    obtain ⟨dz, ez, q3⟩ := osw_inv q3
    have hy' := ok3.ob (r2.le l3) (fun p hp => by simp [hp]) ey'
    have hz := ok3.ob r3 (fun p hp => by simp [hp]) ez
    refine hv' dy' dz vy vz F3 H3 _ _ hy' hz q3 fun t hk => ?_
    exact fin _ Γ3 F3 d3 _ H3 [] hk (bud3d hc1 hc2 hc3) ((l1.trans l2).trans l3) ok3.none_left.none_left.none_left (.of_fz (by rw [Rf, Rp]))
theorem de_cst {u : Expr} {d : D} {v : V} (h : PE X u (tC v)) (r : ∀ F, Rf X.K F d v) : DE X u (.cst d) := by
  refine h.mono fun σ H Q ⟨e, H0, F0, Γ, F, c, T, k, xo, ok, hc, hw, fin⟩ => ?_
  have hw : wpE e (.cst d) Γ k := hw
  rw [wpE] at hw
  exact fin _ Γ F c v H [] hw (Nat.le_add_right _ _) (Le.refl F) ok (.of_fz (r F))
theorem de_int {i : Int} {j : Nat} : DE X (.Constant (.int i) j pos) (.cst (.int i)) := de_cst pe_int fun F => by rw [Rf, Rp]
theorem de_str {i : Str} {j : Nat} : DE X (.Constant (.str i) j pos) (.cst (.str i)) := de_cst pe_str fun F => by rw [Rf, Rp]
theorem de_bl {i : Bool} {j : Nat} : DE X (.Constant (.bool i) j pos) (.cst (.bl i)) := de_cst pe_bl fun F => by rw [Rf, Rp]
theorem de_non {j : Nat} : DE X (.Constant .none j pos) (.cst .non) := de_cst pe_non fun F => by rw [Rf, Rp]
theorem de_neg (ha : DE X a sa) : DE X (.UnaryOp .USub a pos) (.neg sa) := by
  refine (pe_un un_neg ha).mono fun σ H Q ⟨e, H0, F0, Γ, F, c, T, k, xo, ok, hc, hw, fin⟩ => ?_
  have hw : wpE e (.neg sa) Γ k := hw
  rw [wpE] at hw
  rw [show costE (.neg sa) = costE sa by rw [costE]] at hc fin
  refine ⟨e, H0, F0, Γ, F, c, T, _, xo, ok, hc, hw, fun t Γ1 F1 c1 v H1 T1 q1 hc1 l1 ok1 r1 => ?_⟩
  split at q1
  · rename_i i
    have r2 := r1.fz_inv.2
    rw [Rf, Rp] at r2
    exact ⟨i, r2, fin _ Γ1 F1 c1 _ H1 [] q1 hc1 l1 ok1.none_left (.of_fz (by rw [Rf, Rp]))⟩
  · exact q1.elim
/-! tests -/
theorem DE.t (h : DE X a sa) (he : ∀ whole, isTrue a X.env whole = (do let v ← whole; standAt a.pos; holding [v] (truthy v)) := by intro _; rfl) : DT X a sa := by
  refine (pt_val h he).mono fun σ H Q ⟨e, H0, F0, Γ, F, c, T, k, xo, ok, hc, hw, fin⟩ => ?_
  refine ⟨e, H0, F0, Γ, F, c, T, _, xo, ok, hc, hw, fun t Γ1 F1 c1 v H1 T1 q1 hc1 l1 ok1 r1 => ?_⟩
  obtain ⟨b, rfl, q⟩ := asB_inv q1
  have r2 := r1.fz_inv.2
  rw [Rf, Rp] at r2
  exact ⟨b, r2, fin b Γ1 F1 c1 H1 q hc1 l1 ok1.none_left⟩
theorem dt_cmp {op : CmpOp} {cop : COp} (ho : OpR X (compareOp op) r) (hm : behindInMarks op b = false) (hv : CmV X.K r (cmpD cop)) (ha : DO X a sa) (hb : DO X b sb) : DT X (.Compare a [op] [b] pos) (.cmp cop sa sb) := by
  refine (pt_cmpR ho ha hb hm).mono fun σ H Q ⟨e, H0, F0, Γ, F, c, T, k, xo, ok, hc, hw, fin⟩ => ?_
  have hw : wpE e (.cmp cop sa sb) Γ (asB k) := hw
  rw [wpE] at hw
  rw [show costE (.cmp cop sa sb) = costE sa + costE sb + 2 by rw [costE]] at hc fin
  refine ⟨e, H0, F0, Γ, F, c, T, _, xo, ok, bud2a hc, hw, fun ox Γ1 F1 c1 vx H1 T1 q1 hc1 l1 ok1 r1 => ⟨e, H0, F0, Γ1, F1, c1, T1 ++ T, _, xo, ok1, bud2b hc hc1, q1, fun oy Γ2 F2 c2 vy H2 T2 q2 hc2 l2 ok2 r2 => ?_⟩⟩
  obtain ⟨dx, ex, q2⟩ := osw_inv q2
  obtain ⟨dy, ey, q2⟩ := osw_inv q2
  have hx := ok2.ob (r1.le l2) (fun p hp => by simp [hp]) ex
  have hy := ok2.ob r2 (fun p hp => by simp [hp]) ey
  refine hv dx dy vx vy F2 H2 _ _ hx hy q2 fun t hk => ⟨t, rfl, ?_⟩
  exact fin t Γ2 F2 c2 H2 hk (bud2c hc1 hc2) (l1.trans l2) ok2.none_left.none_left
theorem dt_chain {o1 o2 : CmpOp} {c1 c2 : COp} (ho : OpR X (compareOp o1) r) (ho' : OpR X (compareOp o2) r') (hv : CmV X.K r (cmpD c1)) (hv' : CmV X.K r' (cmpD c2)) (ha : DO X a sa) (hb : DO X b sb) (hcc : DO X z sc)
    (pc : ∀ {ta tb tc : TE}, PE X a ta → PE X b tb → PE X z tc → PT X (.Compare a [o1, o2] [b, z] pos) (tTest (tChain r r' ta tb tc))) : DT X (.Compare a [o1, o2] [b, z] pos) (.chain c1 c2 sa sb sc) := by
  refine (pc ha hb hcc).mono fun σ H Q ⟨e, H0, F0, Γ, F, c, T, k, xo, ok, hc, hw, fin⟩ => ?_
  have hw : wpE e (.chain c1 c2 sa sb sc) Γ (asB k) := hw
  rw [wpE] at hw
  rw [show costE (.chain c1 c2 sa sb sc) = costE sa + costE sb + costE sc + 4 by rw [costE]] at hc fin
  refine ⟨e, H0, F0, Γ, F, c, T, _, xo, ok, bud3a hc, hw, fun ox Γ1 F1 d1 vx H1 T1 q1 hc1 l1 ok1 r1 => ⟨e, H0, F0, Γ1, F1, d1, T1 ++ T, _, xo, ok1, bud3b hc hc1, q1, fun oy Γ2 F2 d2 vy H2 T2 q2 hc2 l2 ok2 r2 => ?_⟩⟩
  obtain ⟨dx, ex, q2⟩ := osw_inv q2
  obtain ⟨dy, ey, q2⟩ := osw_inv q2
  have hx := ok2.ob (r1.le l2) (fun p hp => by simp [hp]) ex
  have hy := ok2.ob r2 (fun p hp => by simp [hp]) ey
  refine hv dx dy vx vy F2 H2 _ _ hx hy q2 fun t hk => ⟨t, rfl, ?_⟩
  cases t with
  | false => exact ⟨false, rfl, fin _ Γ2 F2 d2 H2 hk (bud3e hc1 hc2) (l1.trans l2) ok2.none_left.none_left⟩
  | true =>
    rw [if_pos rfl] at hk
    refine ⟨e, H0, F0, Γ2, F2, d2, T2 ++ (T1 ++ T), _, xo, ok2, bud3c hc hc1 hc2, hk, fun oz Γ3 F3 d3 vz H3 T3 q3 hc3 l3 ok3 r3 => ?_⟩
    obtain ⟨dy', ey', q3⟩ := osw_inv q3
    obtain ⟨dz, ez, q3⟩ := osw_inv q3
    have hy' := ok3.ob (r2.le l3) (fun p hp => by simp [hp]) ey'
    have hz := ok3.ob r3 (fun p hp => by simp [hp]) ez
    refine hv' dy' dz vy vz F3 H3 _ _ hy' hz q3 fun t hk => ?_
    exact ⟨t, rfl, fin t Γ3 F3 d3 H3 hk (bud3d hc1 hc2 hc3) ((l1.trans l2).trans l3) ok3.none_left.none_left.none_left⟩
theorem dt_not (ha : DT X a sa) : DT X (.UnaryOp .Not a pos) (.notE sa) := by
  refine (pt_not ha).mono fun σ H Q ⟨e, H0, F0, Γ, F, c, T, k, xo, ok, hc, hw, fin⟩ => ?_
  have hw : wpE e (.notE sa) Γ (asB k) := hw
  rw [wpE] at hw
  rw [show costE (.notE sa) = costE sa by rw [costE]] at hc fin
  exact ⟨e, H0, F0, Γ, F, c, T, _, xo, ok, hc, hw, fun b Γ1 F1 c1 H1 q1 hc1 l1 ok1 => fin _ Γ1 F1 c1 H1 q1 hc1 l1 ok1⟩
/-- of a chain of and, or: two at a time -/
theorem dt_and2 {rest : List Expr} (ha : DT X a sa) (hb : PW X (.BoolOp .And (b :: rest) pos) (TR X.K (fun e => wpE e sb) (2 ^ costE sb))) : PW X (.BoolOp .And (a :: b :: rest) pos) (TR X.K (fun e => wpE e (.andE sa sb)) (2 ^ costE (.andE sa sb))) := by
  refine ⟨fun wh pins s σ H Q I hq => (pw_and ha hb).run wh pins s σ H Q I ?_⟩
  obtain ⟨e, H0, F0, Γ, F, c, T, k, xo, ok, hc, hw, fin⟩ := hq
  have hw : wpE e (.andE sa sb) Γ (asB k) := hw
  rw [wpE] at hw
  rw [show costE (.andE sa sb) = costE sa + costE sb + 2 by rw [costE]] at hc fin
  refine ⟨e, H0, F0, Γ, F, c, T, _, xo, ok, bud2a hc, hw, fun q Γ1 F1 c1 H1 q1 hc1 l1 ok1 => ?_⟩
  cases q with
  | false => exact fin false Γ1 F1 c1 H1 q1 (bud2l hc1) l1 ok1
  | true => exact ⟨e, H0, F0, Γ1, F1, c1, T, _, xo, ok1, bud2b hc hc1, q1, fun q Γ2 F2 c2 H2 q2 hc2 l2 ok2 => fin q Γ2 F2 c2 H2 q2 (bud2c hc1 hc2) (l1.trans l2) ok2⟩
theorem dt_or2 {rest : List Expr} (ha : DT X a sa) (hb : PW X (.BoolOp .Or (b :: rest) pos) (TR X.K (fun e => wpE e sb) (2 ^ costE sb))) : PW X (.BoolOp .Or (a :: b :: rest) pos) (TR X.K (fun e => wpE e (.orE sa sb)) (2 ^ costE (.orE sa sb))) := by
  refine ⟨fun wh pins s σ H Q I hq => (pw_or ha hb).run wh pins s σ H Q I ?_⟩
  obtain ⟨e, H0, F0, Γ, F, c, T, k, xo, ok, hc, hw, fin⟩ := hq
  have hw : wpE e (.orE sa sb) Γ (asB k) := hw
  rw [wpE] at hw
  rw [show costE (.orE sa sb) = costE sa + costE sb + 2 by rw [costE]] at hc fin
  refine ⟨e, H0, F0, Γ, F, c, T, _, xo, ok, bud2a hc, hw, fun q Γ1 F1 c1 H1 q1 hc1 l1 ok1 => ?_⟩
  cases q with
  | true => exact fin true Γ1 F1 c1 H1 q1 (bud2l hc1) l1 ok1
  | false => exact ⟨e, H0, F0, Γ1, F1, c1, T, _, xo, ok1, bud2b hc hc1, q1, fun q Γ2 F2 c2 H2 q2 hc2 l2 ok2 => fin q Γ2 F2 c2 H2 q2 (bud2c hc1 hc2) (l1.trans l2) ok2⟩
theorem de_and2 {rest : List Expr} (ha : DE X a sa) (hb : DE X (.BoolOp .And (b :: rest) pos) sb) : DE X (.BoolOp .And (a :: b :: rest) pos) (.andE sa sb) := by
  refine (pe_and ha hb).mono fun σ H Q ⟨e, H0, F0, Γ, F, c, T, k, xo, ok, hc, hw, fin⟩ => ?_
  have hw : wpE e (.andE sa sb) Γ k := hw
  rw [wpE] at hw
  rw [show costE (.andE sa sb) = costE sa + costE sb + 2 by rw [costE]] at hc fin
  refine ⟨e, H0, F0, Γ, F, c, T, _, xo, ok, bud2a hc, hw, fun t Γ1 F1 c1 v H1 T1 q1 hc1 l1 ok1 r1 => ?_⟩
  obtain ⟨q, rfl, q1⟩ := asB_inv q1
  have r2 := r1.fz_inv.2
  rw [Rf, Rp] at r2
  refine ⟨q, r2, ?_⟩
  cases q with
  | false => exact fin _ Γ1 F1 c1 _ H1 [] q1 (bud2l hc1) l1 ok1.none_left (.of_fz (by rw [Rf, Rp]))
  | true => exact ⟨e, H0, F0, Γ1, F1, c1, T, _, xo, ok1.none_left, bud2b hc hc1, q1, fun t Γ2 F2 c2 v H2 T2 q2 hc2 l2 ok2 r2 => fin t Γ2 F2 c2 v H2 T2 q2 (bud2c hc1 hc2) (l1.trans l2) ok2 r2⟩
theorem de_or2 {rest : List Expr} (ha : DE X a sa) (hb : DE X (.BoolOp .Or (b :: rest) pos) sb) : DE X (.BoolOp .Or (a :: b :: rest) pos) (.orE sa sb) := by
  refine (pe_or ha hb).mono fun σ H Q ⟨e, H0, F0, Γ, F, c, T, k, xo, ok, hc, hw, fin⟩ => ?_
  have hw : wpE e (.orE sa sb) Γ k := hw
  rw [wpE] at hw
  rw [show costE (.orE sa sb) = costE sa + costE sb + 2 by rw [costE]] at hc fin
  refine ⟨e, H0, F0, Γ, F, c, T, _, xo, ok, bud2a hc, hw, fun t Γ1 F1 c1 v H1 T1 q1 hc1 l1 ok1 r1 => ?_⟩
  obtain ⟨q, rfl, q1⟩ := asB_inv q1
  have r2 := r1.fz_inv.2
  rw [Rf, Rp] at r2
  refine ⟨q, r2, ?_⟩
  cases q with
  | true => exact fin _ Γ1 F1 c1 _ H1 [] q1 (bud2l hc1) l1 ok1.none_left (.of_fz (by rw [Rf, Rp]))
  | false => exact ⟨e, H0, F0, Γ1, F1, c1, T, _, xo, ok1.none_left, bud2b hc hc1, q1, fun t Γ2 F2 c2 v H2 T2 q2 hc2 l2 ok2 r2 => fin t Γ2 F2 c2 v H2 T2 q2 (bud2c hc1 hc2) (l1.trans l2) ok2 r2⟩
theorem de_not (ha : DE X a sa) : DE X (.UnaryOp .Not a pos) (.notE sa) := by
  refine (pe_not ha).mono fun σ H Q ⟨e, H0, F0, Γ, F, c, T, k, xo, ok, hc, hw, fin⟩ => ?_
  have hw : wpE e (.notE sa) Γ k := hw
  rw [wpE] at hw
  rw [show costE (.notE sa) = costE sa by rw [costE]] at hc fin
  refine ⟨e, H0, F0, Γ, F, c, T, _, xo, ok, hc, hw, fun t Γ1 F1 c1 v H1 T1 q1 hc1 l1 ok1 r1 => ?_⟩
  obtain ⟨q, rfl, q1⟩ := asB_inv q1
  have r2 := r1.fz_inv.2
  rw [Rf, Rp] at r2
  exact ⟨q, r2, fin _ Γ1 F1 c1 _ H1 [] q1 hc1 l1 ok1.none_left (.of_fz (by rw [Rf, Rp]))⟩
theorem de_ife {q : Expr} (hq : DT X q sc) (ha : DE X a sa) (hb : DE X b sb) : DE X (.IfExp q a b pos) (.ife sc sa sb) := by
  refine (pe_ifExp hq ha hb).mono fun σ H Q ⟨e, H0, F0, Γ, F, c, T, k, xo, ok, hc, hw, fin⟩ => ?_
  have hw : wpE e (.ife sc sa sb) Γ k := hw
  rw [wpE] at hw
  rw [show costE (.ife sc sa sb) = costE sc + costE sa + costE sb + 4 by rw [costE]] at hc fin
  refine ⟨e, H0, F0, Γ, F, c, T, _, xo, ok, bud3a hc, hw, fun q Γ1 F1 c1 H1 q1 hc1 l1 ok1 => ?_⟩
  cases q with
  | true => exact ⟨e, H0, F0, Γ1, F1, c1, T, _, xo, ok1, bud3b hc hc1, q1, fun t Γ2 F2 c2 v H2 T2 q2 hc2 l2 ok2 r2 => fin t Γ2 F2 c2 v H2 T2 q2 (bud3e hc1 hc2) (l1.trans l2) ok2 r2⟩
  | false => exact ⟨e, H0, F0, Γ1, F1, c1, T, _, xo, ok1, bud3b' hc hc1, q1, fun t Γ2 F2 c2 v H2 T2 q2 hc2 l2 ok2 r2 => fin t Γ2 F2 c2 v H2 T2 q2 (bud3f hc1 hc2) (l1.trans l2) ok2 r2⟩
/-! lists of expressions -/
theorem da_nil : DA X [] [] := pa_nil.mono fun σ H Q ⟨e, H0, F0, Γ, F, c, T, k, xo, ok, hc, hw, fin⟩ => by
  have hw : wpA e [] Γ k := hw
  rw [wpA] at hw
  exact fin [] Γ F c [] H hw (Nat.le_add_right _ _) (Le.refl F) ok .nil
theorem da_cons {es : List Expr} {ss : List SE} (ha : DE X a sa) (hr : DA X es ss) (hs : starEach (a :: es) X.env = (false, eval a X.env) :: starEach es X.env := by rfl) : DA X (a :: es) (sa :: ss) := by
  refine (pa_cons ha hr hs).mono fun σ H Q ⟨e, H0, F0, Γ, F, c, T, k, xo, ok, hc, hw, fin⟩ => ?_
  have hw : wpA e (sa :: ss) Γ k := hw
  rw [wpA] at hw
  rw [show costL (sa :: ss) = costE sa + costL ss + 2 by rw [costL]] at hc fin
  refine ⟨e, H0, F0, Γ, F, c, T, _, xo, ok, bud2a hc, hw, fun t Γ1 F1 c1 v H1 T1 q1 hc1 l1 ok1 r1 => ?_⟩
  obtain ⟨ok2, l2, g2⟩ := ok1.freeze
  refine ⟨e, H0, F0, Γ1, _, c1, T, _, xo, ok2, bud2b hc hc1, q1, fun ds Γ3 F3 c3 vs H3 q3 hc3 l3 ok3 r3 => ?_⟩
  exact fin _ Γ3 F3 c3 _ H3 q3 (bud2c hc1 hc3) ((l1.trans l2).trans l3) ok3 (.cons (Rf.le l3 (RpT.frz l2 _ _ _ g2 r1)) r3)
/-- a value, frozen whole -/
theorem de_frz (ha : DE X a sa) : DE X a (.frz sa) := by
  refine ha.mono fun σ H Q ⟨e, H0, F0, Γ, F, c, T, k, xo, ok, hc, hw, fin⟩ => ?_
  have hw : wpE e (.frz sa) Γ k := hw
  rw [wpE] at hw
  rw [show costE (.frz sa) = costE sa by rw [costE]] at hc fin
  refine ⟨e, H0, F0, Γ, F, c, T, _, xo, ok, hc, hw, fun t Γ1 F1 c1 v H1 T1 q1 hc1 l1 ok1 r1 => ?_⟩
  obtain ⟨ok2, l2, g2⟩ := ok1.freeze
  exact fin _ Γ1 _ c1 _ H1 [] q1 hc1 (l1.trans l2) ok2 (.of_fz (RpT.frz l2 _ _ _ g2 r1))
theorem dos_nil : DOs X [] [] := pa_nil.mono fun σ H Q ⟨e, H0, F0, Γ, F, c, T, k, xo, ok, hc, hw, fin⟩ => by
  have hw : wpOs e [] Γ k := hw
  rw [wpOs] at hw
  exact fin [] Γ F c [] H [] hw (Nat.le_add_right _ _) (Le.refl F) ok .nil
theorem RpOL.le {K : PySem.W.Frag} {F F' : FH} {σ : St} {T : Foot} {xs : List Opd} {vs : List V} (l : Le F F') (h : RpOL K F σ T xs vs) : RpOL K F' σ T xs vs := by
  induction h with
  | nil => exact .nil
  | cons a _ ih => exact .cons (a.le l) ih
theorem RpOL.swap {K : PySem.W.Frag} {F : FH} {σ : St} {P1 P2 : Foot} {x : Opd} {v : V} {xs : List Opd} {vs : List V} (a : RpO K F σ P1 x v) (h : RpOL K F σ P2 xs vs) : RpOL K F σ (P1 ++ P2) (x :: xs) (v :: vs) := .cons a h
theorem dos_cons {es : List Expr} {ss : List SE} (ha : DO X a sa) (hr : DOs X es ss) (hs : starEach (a :: es) X.env = (false, eval a X.env) :: starEach es X.env := by rfl) : DOs X (a :: es) (sa :: ss) := by
  refine (pa_cons ha hr hs).mono fun σ H Q ⟨e, H0, F0, Γ, F, c, T, k, xo, ok, hc, hw, fin⟩ => ?_
  have hw : wpOs e (sa :: ss) Γ k := hw
  rw [wpOs] at hw
  rw [show costL (sa :: ss) = costE sa + costL ss + 2 by rw [costL]] at hc fin
  refine ⟨e, H0, F0, Γ, F, c, T, _, xo, ok, bud2a hc, hw, fun t Γ1 F1 c1 v H1 T1 q1 hc1 l1 ok1 r1 => ?_⟩
  refine ⟨e, H0, F0, Γ1, _, c1, T1 ++ T, _, xo, ok1, bud2b hc hc1, q1, fun ds Γ3 F3 c3 vs H3 T3 q3 hc3 l3 ok3 r3 => ?_⟩
  refine fin _ Γ3 F3 c3 _ H3 (T1 ++ T3) q3 (bud2c hc1 hc3) (l1.trans l3) ?_ (.cons (r1.le l3) r3)
  obtain ⟨b, O, g, w⟩ := ok3
  refine ⟨b, O, g, w.perm ?_⟩
  refine List.Perm.append_left O ?_
  rw [← List.append_assoc]
  exact List.Perm.append_right T List.perm_append_comm
theorem dx_nil : DX X [] [] := pa_nil.mono fun σ H Q ⟨e, H0, F0, Γ, F, c, T, k, xo, ok, hc, hw, fin⟩ => by
  have hw : wpX e [] Γ k := hw
  rw [wpX] at hw
  exact fin [] Γ F c [] H [] hw (Nat.le_add_right _ _) (Le.refl F) ok (by rw [RpTL]; exact ⟨rfl, rfl⟩)
theorem dx_cons {es : List Expr} {ss : List SX} (ha : DE X a sa) (hr : DX X es ss) (hs : starEach (a :: es) X.env = (false, eval a X.env) :: starEach es X.env := by rfl) : DX X (a :: es) (.one sa :: ss) := by
  refine (pa_cons ha hr hs).mono fun σ H Q ⟨e, H0, F0, Γ, F, c, T, k, xo, ok, hc, hw, fin⟩ => ?_
  have hw : wpX e (.one sa :: ss) Γ k := hw
  rw [wpX] at hw
  rw [show costX (.one sa :: ss) = costE sa + costX ss + 2 by rw [costX]] at hc fin
  refine ⟨e, H0, F0, Γ, F, c, T, _, xo, ok, bud2a hc, hw, fun t Γ1 F1 c1 v H1 T1 q1 hc1 l1 ok1 r1 => ?_⟩
  refine ⟨e, H0, F0, Γ1, _, c1, T1 ++ T, _, xo, ok1, bud2b hc hc1, q1, fun ds Γ3 F3 c3 vs H3 T3 q3 hc3 l3 ok3 r3 => ?_⟩
  refine fin _ Γ3 F3 c3 _ H3 (T1 ++ T3) q3 (bud2c hc1 hc3) (l1.trans l3) ?_ ?_
  · obtain ⟨b, O, g, w⟩ := ok3
    refine ⟨b, O, g, w.perm ?_⟩
    refine List.Perm.append_left O ?_
    rw [← List.append_assoc]
    exact List.Perm.append_right T List.perm_append_comm
  · rw [RpTL]
    exact ⟨v, vs, T1, T3, rfl, rfl, RpT.le l3 _ _ _ r1, r3⟩
theorem RpTL.length {K : PySem.W.Frag} {F : FH} : ∀ {ts : List OT} {T : Foot} {vs : List V}, RpTL K F T ts vs → ts.length = vs.length
  | [], T, vs, h => by rw [RpTL] at h; rw [h.2]; rfl
  | t :: ts, T, vs, h => by
    rw [RpTL] at h
    obtain ⟨v, ws, P1, P2, rfl, _, _, h⟩ := h
    simp [RpTL.length h]
theorem de_lst {es : List Expr} {ss : List SX} (h : DX X es ss) : DE X (.List es pos) (.lst ss) := by
  refine (pe_lst h).mono fun σ H Q ⟨e, H0, F0, Γ, F, c, T, k, xo, ok, hc, hw, fin⟩ => ?_
  have hw : wpE e (.lst ss) Γ k := hw
  rw [wpE] at hw
  rw [show costE (.lst ss) = costX ss by rw [costE]] at hc fin
  refine ⟨e, H0, F0, Γ, F, c, T, _, xo, ok, hc, hw, fun ts Γ1 F1 c1 vs H1 T1 q1 hc1 l1 ok1 r1 => ?_⟩
  refine ⟨by rw [← r1.length]; exact Nat.le_trans q1.1 lim_line, fun p hp => ?_⟩
  refine fin _ Γ1 F1 c1 _ _ ((p, .lst vs) :: T1) q1.2 hc1 l1 (ok1.new hp) ?_
  rw [RpT]
  exact ⟨p, vs, T1, rfl, rfl, r1⟩
theorem de_tup {es : List Expr} {ss : List SX} {x1 : Nat} (h : DX X es ss) : DE X (.Tuple es x1 pos) (.tup ss) := by
  refine (pe_tup h).mono fun σ H Q ⟨e, H0, F0, Γ, F, c, T, k, xo, ok, hc, hw, fin⟩ => ?_
  have hw : wpE e (.tup ss) Γ k := hw
  rw [wpE] at hw
  rw [show costE (.tup ss) = costX ss by rw [costE]] at hc fin
  refine ⟨e, H0, F0, Γ, F, c, T, _, xo, ok, hc, hw, fun ts Γ1 F1 c1 vs H1 T1 q1 hc1 l1 ok1 r1 => ?_⟩
  refine ⟨by rw [← r1.length]; exact Nat.le_trans q1.1 lim_line, fun p hp => ?_⟩
  have ok2 : EOk X.K H0 F0 c1 Γ1 F1 σ (upd H1 p (.tup vs)) (((p, .tup vs) :: T1) ++ T) := ok1.new hp
  obtain ⟨ok3, l3, g3⟩ := ok2.freeze
  refine fin _ Γ1 _ c1 _ _ [] q1.2 hc1 (l1.trans l3) ok3 (.of_fz ?_)
  rw [Rf, Rp]
  exact ⟨p, vs, rfl, .inl (.inl (hpo_some.mpr (g3 (p, _) List.mem_cons_self))), RpTL.frz l3 T1 ts vs (fun q hq => g3 q (List.mem_cons_of_mem _ hq)) r1⟩
/-! subscripts -/
theorem de_ix (hr : IxR X r) (hv : OpV X.K r ixD) (ha : DO X a sa) (hb : DO X b sb) (hs : PlainIx b) : DE X (.Subscript a b pos) (.ix sa sb) := by
  refine (pe_ix hr ha hb hs).mono fun σ H Q ⟨e, H0, F0, Γ, F, c, T, k, xo, ok, hc, hw, fin⟩ => ?_
  have hw : wpE e (.ix sa sb) Γ k := hw
  rw [wpE] at hw
  rw [show costE (.ix sa sb) = costE sa + costE sb + 2 by rw [costE]] at hc fin
  refine ⟨e, H0, F0, Γ, F, c, T, _, xo, ok, bud2a hc, hw, fun ox Γ1 F1 c1 vx H1 T1 q1 hc1 l1 ok1 r1 => ⟨e, H0, F0, Γ1, F1, c1, T1 ++ T, _, xo, ok1, bud2b hc hc1, q1, fun oy Γ2 F2 c2 vy H2 T2 q2 hc2 l2 ok2 r2 => ?_⟩⟩
  obtain ⟨dx, ex, q2⟩ := osw_inv q2
  obtain ⟨dy, ey, q2⟩ := osw_inv q2
  have hx := ok2.fl (r1.le l2) (fun p hp => by simp [hp]) ex
  have hy := ok2.fl r2 (fun p hp => by simp [hp]) ey
  refine hv dx dy vx vy c2 F2 H2 _ _ ok2.1.ini hx hy q2 fun t v H' hk res => ?_
  obtain ⟨F', T', l3, ok3, rt⟩ := res.fin ok2.none_left.none_left
  exact fin t Γ2 F' c2 v H' T' hk (bud2c hc1 hc2) ((l1.trans l2).trans l3) ok3 rt
def PoR (K : PySem.W.Frag) (w : EX → Env → (Option Int → Env → Prop) → Prop) (n : Nat) : TO := fun σ H Q => ∃ e H0 F0 Γ F c T k, XO e ∧ EOk K H0 F0 c Γ F σ H T ∧ c + n ≤ BD ∧ w e Γ k ∧
  ∀ o Γ' F' c' H', k o Γ' → c' ≤ c + n → Le F F' → EOk K H0 F0 c' Γ' F' σ H' T → Q o H'
abbrev DPo (X : Cx) (x : Option Expr) (s : SE) : Prop := PO X x (PoR X.K (fun e => wpP e s) (2 ^ costE s))
theorem _root_.L2.PO.mono {X : Cx} {e : Option Expr} {t t' : TO} (h : PO X e t) (m : ∀ σ H Q, t' σ H Q → t σ H Q) : PO X e t' := by
  cases e with
  | none => exact ⟨fun pins s σ H Q I q => h.run pins s σ H Q I (m σ H Q q)⟩
  | some e => exact ⟨fun pins s σ H Q I q => h.run pins s σ H Q I (m σ H Q q)⟩
theorem dpo_none : DPo X none .nop := po_none.mono fun σ H Q ⟨e, H0, F0, Γ, F, c, T, k, xo, ok, hc, hw, fin⟩ => by
  have hw : asP (isNop .nop) (wpE e .nop Γ) Γ k := hw
  unfold asP isNop at hw
  rw [if_pos rfl] at hw
  exact fin none Γ F c H hw (Nat.le_add_right _ _) (Le.refl F) ok
theorem dpo_some (ha : DE X a sa) (hn : isNop sa = false := by rfl) : DPo X (some a) sa := (po_some ha).mono fun σ H Q ⟨e, H0, F0, Γ, F, c, T, k, xo, ok, hc, hw, fin⟩ => by
  have hw : asP (isNop sa) (wpE e sa Γ) Γ k := hw
  rw [hn] at hw
  unfold asP at hw
  rw [if_neg (by decide)] at hw
  refine ⟨e, H0, F0, Γ, F, c, T, _, xo, ok, hc, hw, fun t Γ1 F1 c1 v H1 T1 q1 hc1 l1 ok1 r1 => ?_⟩
  obtain ⟨i, rfl, q1⟩ := asI_inv q1
  have r2 := r1.fz_inv.2
  rw [Rf, Rp] at r2
  exact ⟨i, r2, fin _ Γ1 F1 c1 H1 q1 hc1 l1 ok1.none_left⟩
def SlV (K : PySem.W.Frag) (r : V → Option Int → Option Int → Hp → VK → Prop) : Prop := ∀ (x : D) (lo hi : Option Int) (vx : V) (c : Nat) (F : FH) (H : Hp) (k : OT → Prop) (Q : VK), Ini c F H → RpS K H F x vx → slD x lo hi k → (∀ t v H', k t → Res K F H t v H' → Q v H') → r vx lo hi H Q
theorem de_sl {rs : V → Option Int → Option Int → Hp → VK → Prop} {lo hi : Option Expr} {p2 : Pos} (hr : SlR X rs) (hv : SlV X.K rs) (ha : DO X a sa) (hl : DPo X lo sb) (hh : DPo X hi sc) : DE X (.Subscript a (.Slice lo hi none p2) pos) (.sl sa sb sc) := by
  refine (pe_slice hr ha hl hh).mono fun σ H Q ⟨e, H0, F0, Γ, F, c, T, k, xo, ok, hc, hw, fin⟩ => ?_
  have hw : wpE e (.sl sa sb sc) Γ k := hw
  rw [wpE] at hw
  rw [show costE (.sl sa sb sc) = costE sa + costE sb + costE sc + 4 by rw [costE]] at hc fin
  refine ⟨e, H0, F0, Γ, F, c, T, _, xo, ok, bud3a hc, hw, fun ox Γ1 F1 d1 vx H1 T1 q1 hc1 l1 ok1 r1 => ⟨e, H0, F0, Γ1, F1, d1, T1 ++ T, _, xo, ok1, bud3b hc hc1, q1, fun o2 Γ2 F2 d2 H2 q2 hc2 l2 ok2 => ⟨e, H0, F0, Γ2, F2, d2, T1 ++ T, _, xo, ok2, bud3c hc hc1 hc2, q2, fun o3 Γ3 F3 d3 H3 q3 hc3 l3 ok3 => ?_⟩⟩⟩
  obtain ⟨dx, ex, q3⟩ := osw_inv q3
  have hx := ok3.fl ((r1.le l2).le l3) (fun p hp => by simp [hp]) ex
  refine hv dx _ _ vx d3 F3 H3 _ _ ok3.1.ini hx q3 fun t v H' hk res => ?_
  obtain ⟨F', T', l4, ok4, rt⟩ := res.fin ok3.none_left
  exact fin t Γ3 F' d3 v H' T' hk (bud3d hc1 hc2 hc3) (((l1.trans l2).trans l3).trans l4) ok4 rt
/-! built-ins -/
def BiV (K : PySem.W.Frag) (r : List V → Hp → VK → Prop) (b : Bi) : Prop := ∀ (xs : List D) (vs : List V) (c : Nat) (F : FH) (H : Hp) (k : OT → Prop) (Q : VK), Ini c F H → Paired (fun d v => RpS K H F d v) xs vs → biD b xs k → (∀ t v H', k t → Res K F H t v H' → Q v H') → r vs H Q
theorem de_bi {es : List Expr} {ss : List SE} {b : Bi} {rr : List V → Hp → VK → Prop} {u : Expr} (hp : ∀ {t : TA}, PA X es t → PE X u (tCB rr t)) (hv : BiV X.K rr b) (h : DOs X es ss) : DE X u (.bi b ss) := by
  refine (hp h).mono fun σ H Q ⟨e, H0, F0, Γ, F, c, T, k, xo, ok, hc, hw, fin⟩ => ?_
  have hw : wpE e (.bi b ss) Γ k := hw
  rw [wpE] at hw
  rw [show costE (.bi b ss) = costL ss by rw [costE]] at hc fin
  refine ⟨e, H0, F0, Γ, F, c, T, _, xo, ok, hc, hw, fun xs Γ1 F1 c1 vs H1 T1 q1 hc1 l1 ok1 r1 => ?_⟩
  have done : ∀ t v H', k t Γ1 → Res X.K F1 H1 t v H' → Q v H' := fun t v H' hk res => by
    obtain ⟨F', T', l4, ok4, rt⟩ := res.fin ok1.none_left
    exact fin t Γ1 F' c1 v H' T' hk hc1 (l1.trans l4) ok4 rt
  split at q1
  · rename_i x
    cases r1 with
    | cons ra rr =>
      cases rr
      obtain ⟨dx, ex, q1⟩ := osw_inv q1
      have hx := ok1.fl ra (fun p hp => by simp [hp]) ex
      exact hv _ _ c1 F1 H1 _ _ ok1.1.ini (.cons hx .nil) q1 done
  · rename_i x y
    cases r1 with
    | cons ra rr =>
      cases rr with
      | cons rb rr =>
        cases rr
        obtain ⟨dx, ex, q1⟩ := osw_inv q1
        obtain ⟨dy, ey, q1⟩ := osw_inv q1
        have hx := ok1.fl ra (fun p hp => by simp [hp]) ex
        have hy := ok1.fl rb (fun p hp => by simp [hp]) ey
        exact hv _ _ c1 F1 H1 _ _ ok1.1.ini (.cons hx (.cons hy .nil)) q1 done
  · exact q1.elim
end
end DL

/-! DF: the operators by values. -/
namespace DL
open PySem PySem.Spec PyProof.Rows L2

section
variable {K : PySem.W.Frag} {F : FH} {H : Hp} {v : V}
theorem rf_non : Rf K F .non v ↔ v = .non := by rw [Rf, Rp]
theorem rf_bl {b : Bool} : Rf K F (.bl b) v ↔ v = .bl b := by rw [Rf, Rp]
theorem rf_int {i : Int} : Rf K F (.int i) v ↔ v = .int i := by rw [Rf, Rp]
theorem rf_str {x : Str} : Rf K F (.str x) v ↔ v = .str x := by rw [Rf, Rp]
theorem rf_tup {ds : List D} : Rf K F (.tup ds) v ↔ ∃ a vs, v = .ref a ∧ SqT K (hpo F) a vs ∧ RfL K F ds vs := by rw [Rf, Rp]
theorem rf_scr {ns : List Int} : Rf K F (.scr ns) v ↔ ∃ a, v = .ref a ∧ SqL K (hpo F) a (ns.map V.int) := by rw [Rf, Rp]
theorem rs_int {i : Int} (h : RpS K H F (.int i) v) : v = .int i := rf_int.mp (show Rf K F (.int i) v from h)
theorem rs_bl {i : Bool} (h : RpS K H F (.bl i) v) : v = .bl i := rf_bl.mp (show Rf K F (.bl i) v from h)
theorem rs_str {i : Str} (h : RpS K H F (.str i) v) : v = .str i := rf_str.mp (show Rf K F (.str i) v from h)
theorem rs_tup {ds : List D} (h : RpS K H F (.tup ds) v) : ∃ a vs, v = .ref a ∧ SqT K (hpo F) a vs ∧ RfL K F ds vs := rf_tup.mp (show Rf K F (.tup ds) v from h)
theorem rs_scr {ns : List Int} (h : RpS K H F (.scr ns) v) : ∃ a, v = .ref a ∧ SqL K (hpo F) a (ns.map V.int) := rf_scr.mp (show Rf K F (.scr ns) v from h)
theorem Res.int {i : Int} : Res K F H (.fz (.int i)) (.int i) H := .old (rf_int.mpr rfl)
theorem Res.bl {i : Bool} : Res K F H (.fz (.bl i)) (.bl i) H := .old (rf_bl.mpr rfl)
theorem Res.str {i : Str} : Res K F H (.fz (.str i)) (.str i) H := .old (rf_str.mpr rfl)
theorem Res.non : Res K F H (.fz .non) .non H := .old (rf_non.mpr rfl)
theorem Res.newT {c : Nat} {ds : List D} {vs : List V} {p : Addr} (i : Ini c F H) (h : RfL K F ds vs) (hp : H p = none) : Res K F H (.fz (.tup ds)) (.ref p) (upd H p (.tup vs)) := .frz hp (Rf.tup h (i.none hp))
theorem Res.newL {ds : List D} {vs : List V} {p : Addr} (h : RfL K F ds vs) (hp : H p = none) : Res K F H (.lst (ds.map .fz)) (.ref p) (upd H p (.lst vs)) := .own hp (.newL h)
end

/-! ### tuple * n, n from 0 on -/
theorem mulTup1 (l : Addr) (its : Array Value) (n : Nat) (dd : Option Addr) (sl : Array (Option Value)) (u : Tok) :
    Meets (Builtin.«tuple.__mul__» ⟨[.ref l, .int 1 u], []⟩)
      (fun _ R s => s.heap.get? l = some { cls := .type "tuple", dict := dd, data := .seq its n, slots := sl } ∧ R (.ok (.ret (.ref l))) s) :=
  .of_wp fun prog w A R s h => by
    obtain ⟨hp, g, d, tk, os⟩ := s
    obtain ⟨hl, h⟩ := h
    have f1 := AutoSeq1.idx_int
    wp_walk using wpAny_loadPart' hl
    exact ⟨_, rfl, h⟩
theorem mulTup0 (l : Addr) (its : Array Value) (n : Nat) (dd : Option Addr) (sl : Array (Option Value)) (u : Tok) :
    Meets (Builtin.«tuple.__mul__» ⟨[.ref l, .int 0 u], []⟩)
      (fun _ R s => s.heap.get? l = some { cls := .type "tuple", dict := dd, data := .seq its n, slots := sl } ∧ its.isEmpty = false ∧
        R (.ok (.ret (.ref s.heap.objs.size))) { s with heap := s.heap.push { cls := Value.type "tuple", data := .seq #[] } }) :=
  .of_wp fun prog w A R s h => by
    obtain ⟨hp, g, d, tk, os⟩ := s
    obtain ⟨hl, he, h⟩ := h
    have f1 := AutoSeq1.idx_int
    wp_walk using wpAny_loadPart' hl
    exact ⟨_, rfl, h⟩
def rRep01 (K : PySem.W.Frag) : R2 := fun x y H Q => ∃ l xs, x = .ref l ∧ SqT K H l xs ∧ xs ≠ [] ∧
  ((y = .int 1 ∧ Q (.ref l) H) ∨ (y = .int 0 ∧ ∀ p, H p = none → Q (.ref p) (upd H p (.tup []))))
theorem op_rep01 {X : Cx} : OpR X (binaryOp .Mult) (rRep01 X.K) := by
  intro pins s σ H x y v u Q I rx ry h
  obtain ⟨l, xs, rfl, hT, hne, h⟩ := h
  cases rx
  obtain ⟨its, r, ⟨⟨cls, dd, data, sl⟩, ho, hc, n, hd⟩, hs⟩ := I.tuple hT
  simp only at hc hd
  subst hc hd
  have hi : its.toArray.isEmpty = false := by
    cases its with
    | nil => exact absurd (r.nil_iff.mp rfl) hne
    | cons a b => rfl
  rcases h with ⟨rfl, q⟩ | ⟨rfl, q⟩ <;> obtain ⟨t, rfl⟩ := ry
  · refine wpAny_binaryOp_repeat_ref (T := "tuple") (U := "int") (by decide) ⟨_, ho, rfl⟩ (fun s' => typeIs_int s' _ t) noFill_tuple_mul F.fills_int_mul F.slot_int_rmul repeat_tuple F.slot_int_index.lookup
      (call_meets F.slot_int_rmul (typeIs_int s _ t) F.entry_int_rmul (F.args_int_rmul_2 _ _) (int_rmul_tuple 1 t l its.toArray n dd sl)
        ⟨ho, rfl, ⟨_, ho, rfl⟩, call_meets F.slot_tuple_mul ⟨_, ho, rfl⟩ F.entry_tuple_mul (F.args_tuple_mul_2 _ _) (mulTup1 l its.toArray n dd sl t) ⟨ho, ?_⟩⟩)
    exact ⟨.ref l, H, I, rfl, q⟩
  · refine wpAny_binaryOp_repeat_ref (T := "tuple") (U := "int") (by decide) ⟨_, ho, rfl⟩ (fun s' => typeIs_int s' _ t) noFill_tuple_mul F.fills_int_mul F.slot_int_rmul repeat_tuple F.slot_int_index.lookup
      (call_meets F.slot_int_rmul (typeIs_int s _ t) F.entry_int_rmul (F.args_int_rmul_2 _ _) (int_rmul_tuple 0 t l its.toArray n dd sl)
        ⟨ho, rfl, ⟨_, ho, rfl⟩, call_meets F.slot_tuple_mul ⟨_, ho, rfl⟩ F.entry_tuple_mul (F.args_tuple_mul_2 _ _) (mulTup0 l its.toArray n dd sl t) ⟨ho, hi, ?_⟩⟩)
    refine ⟨.ref s.heap.objs.size, _, I.laid (t' := s.toks) (o := .tup []) (fun b ob q => Heap.get?_push_of_some _ q) (Nat.le_refl _) ?_, rfl, q _ (I.hok.fresh (Nat.le_refl _))⟩
    exact ⟨Nat.zero_le _, [], .nil, IsTup.new _ _⟩

section
variable {X : Cx}
def rAddA (K : PySem.W.Frag) : R2 := fun x y H Q => rI0 (fun i j => .int (i + j)) x y H Q ∨ ((∃ i j, x = .str i ∧ y = .str j ∧ i.length + j.length ≤ sizeLine ∧ Q (.str (i ++ j)) H) ∨ (rCatA K x y H Q ∨ rCat x y H Q))
theorem op_addA : OpR X (binaryOp .Add) (rAddA X.K) := op_add.or (op_add_str.or (op_catA.or op_cat))
theorem ov_add {K : PySem.W.Frag} : OpV K (rAddA K) (binD .add) := by
  intro x y vx vy c F H k Q i hx hy g fin
  cases x <;> cases y <;> simp only [binD] at g
  case int.int a b => exact .inl ⟨a, b, rs_int hx, rs_int hy, fin _ _ _ g .int⟩
  case str.str a b => exact .inr (.inl ⟨a, b, rs_str hx, rs_str hy, Nat.le_trans g.1 lim_line, fin _ _ _ g.2 .str⟩)
  case tup.tup xs ys =>
    obtain ⟨a, vs, rfl, h1, h2⟩ := rs_tup hx
    obtain ⟨b, ws, rfl, h3, h4⟩ := rs_tup hy
    refine .inr (.inr (.inl ⟨a, b, vs, ws, rfl, rfl, Same.seqT i.same h1, Same.seqT i.same h3, ?_, fun e => ?_, fun e1 e2 => ?_, fun e1 e2 p hp => ?_⟩))
    · rw [← h2.length, ← h4.length]; exact Nat.le_trans g.1 lim_line
    · subst e
      have : xs = [] := by have := h2.length; simpa using this
      subst this
      exact fin _ _ _ g.2 (.old hy)
    · subst e2
      have : ys = [] := by have := h4.length; simpa using this
      subst this
      rw [List.append_nil] at g
      exact fin _ _ _ g.2 (.old hx)
    · exact fin _ _ _ g.2 (Res.newT i (h2.append h4) hp)
  case lst.lst xs ys =>
    obtain ⟨a, vs, rfl, h1, h2⟩ := hx
    obtain ⟨b, ws, rfl, h3, h4⟩ := hy
    refine .inr (.inr (.inr ⟨a, b, vs, ws, rfl, rfl, h1, h3, ?_, fun p hp => ?_⟩))
    · rw [← h2.length, ← h4.length]; exact Nat.le_trans g.1 lim_line
    · exact fin _ _ _ g.2 (Res.newL (h2.append h4) hp)
theorem ov_sub {K : PySem.W.Frag} : OpV K (rI0 fun i j => .int (i - j)) (binD .sub) := by
  intro x y vx vy c F H k Q i hx hy g fin
  cases x <;> cases y <;> simp only [binD] at g
  case int.int a b => exact ⟨a, b, rs_int hx, rs_int hy, fin _ _ _ g .int⟩
def rMulA (K : PySem.W.Frag) : R2 := fun x y H Q => rI CMul (fun i j => .int (i * j)) x y H Q ∨ (rI CMulW (fun i j => .int (i * j)) x y H Q ∨ (rRep01 K x y H Q ∨ (rRepT K x y H Q ∨ rRep x y H Q)))
theorem op_mulA : OpR X (binaryOp .Mult) (rMulA X.K) := op_mul.or (op_mulW.or (op_rep01.or (op_repT.or op_rep)))
theorem flatten_rep1 {α : Type} (x : α) : ∀ n : Nat, (List.replicate n [x]).flatten = List.replicate n x
  | 0 => rfl
  | n + 1 => by rw [List.replicate_succ, List.flatten_cons, flatten_rep1 x n]; rfl
theorem RfL.rep {K : PySem.W.Frag} {F : FH} {ds : List D} {vs : List V} (h : RfL K F ds vs) : ∀ n : Nat, RfL K F (List.replicate n ds).flatten (List.replicate n vs).flatten
  | 0 => .nil
  | n + 1 => by
    rw [List.replicate_succ, List.flatten_cons, List.replicate_succ, List.flatten_cons]
    exact h.append (RfL.rep h n)
theorem ov_mul {K : PySem.W.Frag} : OpV K (rMulA K) (binD .mul) := by
  intro x y vx vy c F H k Q i hx hy g fin
  cases x <;> cases y <;> simp only [binD] at g
  case int.int a b =>
    rcases g.1 with h | h | ⟨h1, h2⟩
    · exact .inl ⟨a, b, rs_int hx, rs_int hy, .inl h, fin _ _ _ g.2 .int⟩
    · exact .inl ⟨a, b, rs_int hx, rs_int hy, .inr h, fin _ _ _ g.2 .int⟩
    · exact .inr (.inl ⟨a, b, rs_int hx, rs_int hy, wide_mul h1 h2 (by omega) (by omega) (by omega), fin _ _ _ g.2 .int⟩)
  case tup.int xs n =>
    cases xs with
    | nil => simp only [binD] at g
    | cons x r =>
      cases r with
      | cons y r =>
        simp only [binD] at g
        obtain ⟨g1, g2, g0, g3⟩ := g
        obtain ⟨a, vs, rfl, h1, h2⟩ := rs_tup hx
        have ey := rs_int hy
        subst ey
        have hl := h2.length
        refine .inr (.inr (.inr (.inl ⟨a, n, vs, rfl, rfl, Same.seqT i.same h1, fun e => ?_, g1, g2, ?_, fun p hp => ?_⟩)))
        · rw [e] at hl; simp at hl
        · rw [← hl]; simpa using g0
        · exact fin _ _ _ g3 (Res.newT i (RfL.rep h2 n.toNat) hp)
      | nil =>
        simp only [binD] at g
        obtain ⟨g1, g2, g3⟩ := g
        obtain ⟨a, vs, rfl, h1, h2⟩ := rs_tup hx
        have ey := rs_int hy
        subst ey
        obtain ⟨w, r0, rfl, h3, h4⟩ := h2.uncons
        obtain rfl := h4.nil_inv
        by_cases n0 : n = 0
        · subst n0
          refine .inr (.inr (.inl ⟨a, [w], rfl, Same.seqT i.same h1, by simp, .inr ⟨rfl, fun p hp => ?_⟩⟩))
          exact fin _ _ _ g3 (Res.newT i .nil hp)
        · by_cases n1 : n = 1
          · subst n1
            refine .inr (.inr (.inl ⟨a, [w], rfl, Same.seqT i.same h1, by simp, .inl ⟨rfl, ?_⟩⟩))
            exact fin _ _ _ g3 (.old hx)
          · refine .inr (.inr (.inr (.inl ⟨a, n, [w], rfl, rfl, Same.seqT i.same h1, by simp, by omega, by omega, by simp, fun p hp => ?_⟩)))
            rw [flatten_rep1]
            exact fin _ _ _ g3 (Res.newT i (RpL.replicate h3 _) hp)
  case lst.int xs n =>
    obtain ⟨g1, g2, g3, g4⟩ := g
    obtain ⟨a, vs, rfl, h1, h2⟩ := hx
    have ey := rs_int hy
    subst ey
    have hl := h2.length
    refine .inr (.inr (.inr (.inr ⟨a, n, vs, rfl, rfl, h1, by omega, by omega, ?_, fun p hp => ?_⟩)))
    · have a1 : vs.length * n.toNat ≤ 1000 * 1000 := Nat.mul_le_mul (by omega) (by omega)
      exact Nat.le_trans a1 (by rw [sizeLine_eq]; decide)
    · exact fin _ _ _ g4 (Res.newL (h2.rep _) hp)
theorem ov_fdiv {K : PySem.W.Frag} : OpV K (rI CDivW fun i j => .int (i / j)) (binD .fdiv) := by
  intro x y vx vy c F H k Q i hx hy g fin
  cases x <;> cases y <;> simp only [binD] at g
  case int.int a b => exact ⟨a, b, rs_int hx, rs_int hy, wide_div g.1 g.2.1 (by omega) (by omega), fin _ _ _ g.2.2 .int⟩
theorem ov_mod {K : PySem.W.Frag} : OpV K (rI (fun _ j => 0 < j) fun i j => .int (i % j)) (binD .mod) := by
  intro x y vx vy c F H k Q i hx hy g fin
  cases x <;> cases y <;> simp only [binD] at g
  case int.int a b => exact ⟨a, b, rs_int hx, rs_int hy, g.1, fin _ _ _ g.2 .int⟩
theorem ov_pow {K : PySem.W.Frag} : OpV K (rI CPow fun i j => .int (i ^ j.toNat)) (binD .pow) := by
  intro x y vx vy c F H k Q i hx hy g fin
  cases x <;> cases y <;> simp only [binD] at g
  case int.int a b => exact ⟨a, b, rs_int hx, rs_int hy, ⟨g.1, by omega, g.2.2.1⟩, fin _ _ _ g.2.2.2 .int⟩
end

/-! ### comparisons -/
mutual
theorem plain_lay : ∀ (n : Nat) (d : D), D.plain n d = true → d.py.canLay0 = true ∧ d.py.depth ≤ n
  | _, .non, h => by simp [D.py, PyData.canLay0, PyData.depth]
  | _, .bl _, h => by simp [D.py, PyData.canLay0, PyData.depth]
  | _, .int _, h => by simp [D.py, PyData.canLay0, PyData.depth]
  | _, .str x, h => by
    rw [D.plain] at h
    rw [D.py, PyData.canLay0, PyData.depth]
    exact ⟨h, Nat.zero_le _⟩
  | 0, .tup _, h => by simp [D.plain] at h
  | 0, .lst _, h => by simp [D.plain] at h
  | n + 1, .tup xs, h => by
    rw [D.plain] at h
    have := plains_lay n xs h
    rw [D.py, PyData.canLay0, PyData.depth]
    exact ⟨this.1, by omega⟩
  | n + 1, .lst xs, h => by
    rw [D.plain] at h
    have := plains_lay n xs h
    rw [D.py, PyData.canLay0, PyData.depth]
    exact ⟨this.1, by omega⟩
  | _, .dic _ _, h => by simp [D.plain] at h
  | _, .scr _, h => by simp [D.plain] at h
  | _, .opq _ _, h => by simp [D.plain] at h
theorem plains_lay : ∀ (n : Nat) (ds : List D), D.plains n ds = true → PyData.canLayAll0 (D.pys ds) = true ∧ PyData.depthAll (D.pys ds) ≤ n
  | n, [], h => by simp [D.pys, PyData.canLayAll0, PyData.depthAll]
  | n, d :: ds, h => by
    rw [D.plains, Bool.and_eq_true] at h
    have h1 := plain_lay n d h.1
    have h2 := plains_lay n ds h.2
    rw [D.pys, PyData.canLayAll0, PyData.depthAll, h1.1, h2.1]
    exact ⟨rfl, by omega⟩
end
theorem plain_shaped {d : D} (h : d.plain DEEP = true) : SeqAt.shaped d.py = true := by
  have := plain_lay DEEP d h
  unfold SeqAt.shaped
  rw [this.1, Bool.true_and]
  exact decide_eq_true (by have := this.2; unfold DEEP at this; omega)
mutual
theorem plain_dp {K : PySem.W.Frag} {H : Hp} {F : FH} : ∀ (n : Nat) (d : D) (v : V), D.plain n d = true → Rp K H F d v → Dp K H v d.py
  | _, .non, v, h, r => by rw [Rp] at r; subst r; rw [D.py]; exact .non
  | _, .bl _, v, h, r => by rw [Rp] at r; subst r; rw [D.py]; exact .bl _
  | _, .int _, v, h, r => by rw [Rp] at r; subst r; rw [D.py]; exact .int _
  | _, .str x, v, h, r => by rw [Rp] at r; subst r; rw [D.py]; exact .str _
  | 0, .tup _, v, h, r => by simp [D.plain] at h
  | 0, .lst _, v, h, r => by simp [D.plain] at h
  | n + 1, .tup xs, v, h, r => by
    rw [D.plain] at h
    rw [Rp] at r
    obtain ⟨a, vs, rfl, h1, h2⟩ := r
    rw [D.py]
    exact .tup h1 (plains_dp n xs vs h h2)
  | n + 1, .lst xs, v, h, r => by
    rw [D.plain] at h
    rw [Rp] at r
    obtain ⟨a, vs, rfl, h1, h2⟩ := r
    rw [D.py]
    exact .lst (SqL.of h1) (plains_dp n xs vs h h2)
  | _, .dic _ _, v, h, r => by simp [D.plain] at h
  | _, .scr _, v, h, r => by simp [D.plain] at h
  | _, .opq _ _, v, h, r => by simp [D.plain] at h
theorem plains_dp {K : PySem.W.Frag} {H : Hp} {F : FH} : ∀ (n : Nat) (ds : List D) (vs : List V), D.plains n ds = true → RpL K H F ds vs → DpAll K H vs (D.pys ds)
  | n, [], vs, h, r => by rw [r.nil_inv, D.pys]; exact .nil
  | n, d :: ds, vs, h, r => by
    rw [D.plains, Bool.and_eq_true] at h
    obtain ⟨v, ws, rfl, h1, h2⟩ := r.uncons
    rw [D.pys]
    exact .cons (plain_dp n d v h.1 h1) (plains_dp n ds ws h.2 h2)
end
mutual
theorem eqv_py : ∀ (n : Nat) (d e : D), D.plain n d = true → D.plain n e = true → PyData.eqv d.py e.py = D.eqv d e
  | n, .non, e, h, g => by cases e <;> simp [D.py, PyData.eqv, D.eqv, D.plain] at g ⊢
  | n, .bl _, e, h, g => by cases e <;> simp [D.py, PyData.eqv, D.eqv, D.plain, b2] at g ⊢
  | n, .int _, e, h, g => by cases e <;> simp [D.py, PyData.eqv, D.eqv, D.plain, b2] at g ⊢
  | n, .str _, e, h, g => by cases e <;> simp [D.py, PyData.eqv, D.eqv, D.plain] at g ⊢
  | 0, .tup _, e, h, g => by simp [D.plain] at h
  | 0, .lst _, e, h, g => by simp [D.plain] at h
  | n + 1, .tup xs, e, h, g => by
    cases e with
    | tup ys =>
      rw [D.plain] at h g
      rw [D.py, D.py, PyData.eqv, D.eqv]
      exact eqvs_py n xs ys h g
    | _ => simp [D.py, PyData.eqv, D.eqv, D.plain] at g ⊢
  | n + 1, .lst xs, e, h, g => by
    cases e with
    | lst ys =>
      rw [D.plain] at h g
      rw [D.py, D.py, PyData.eqv, D.eqv]
      exact eqvs_py n xs ys h g
    | _ => simp [D.py, PyData.eqv, D.eqv, D.plain] at g ⊢
  | _, .dic _ _, e, h, g => by simp [D.plain] at h
  | _, .scr _, e, h, g => by simp [D.plain] at h
  | _, .opq _ _, e, h, g => by simp [D.plain] at h
theorem eqvs_py : ∀ (n : Nat) (ds es : List D), D.plains n ds = true → D.plains n es = true → PyData.eqvAll (D.pys ds) (D.pys es) = D.eqvs ds es
  | n, [], [], h, g => by simp [D.pys, PyData.eqvAll, D.eqvs]
  | n, [], e :: es, h, g => by simp [D.pys, PyData.eqvAll, D.eqvs]
  | n, d :: ds, [], h, g => by simp [D.pys, PyData.eqvAll, D.eqvs]
  | n, d :: ds, e :: es, h, g => by
    rw [D.plains, Bool.and_eq_true] at h g
    rw [D.pys, D.pys, PyData.eqvAll, D.eqvs, eqv_py n d e h.1 g.1, eqvs_py n ds es h.2 g.2]
end
theorem eqv_pyD {d e : D} (h : d.plain DEEP = true) (g : e.plain DEEP = true) : PyData.eqv d.py e.py = D.eqv d e := eqv_py DEEP d e h g
section
variable {K : PySem.W.Frag} {X : Cx}
theorem cv_eq : CmV K (rEqD K) (cmpD .eq) := by
  intro x y vx vy F H k Q hx hy g fin
  simp only [cmpD] at g
  obtain ⟨g1, g2, g3⟩ := g
  refine ⟨x.py, y.py, plain_dp _ _ _ g1 hx, plain_dp _ _ _ g2 hy, plain_shaped g1, plain_shaped g2, ?_⟩
  rw [eqv_pyD g1 g2]
  exact fin _ g3
theorem cv_ne : CmV K (rNeD K) (cmpD .ne) := by
  intro x y vx vy F H k Q hx hy g fin
  simp only [cmpD] at g
  obtain ⟨g1, g2, g3⟩ := g
  refine ⟨x.py, y.py, plain_dp _ _ _ g1 hx, plain_dp _ _ _ g2 hy, plain_shaped g1, plain_shaped g2, ?_⟩
  rw [eqv_pyD g1 g2]
  exact fin _ g3
def rLtA : R2 := fun x y H Q => rI0 (fun i j => .bl (decide (i < j))) x y H Q ∨ (∃ i j, x = .str i ∧ y = .str j ∧ Q (.bl (decide (i.cps.toList < j.cps.toList))) H)
def rGtA : R2 := fun x y H Q => rI0 (fun i j => .bl (decide (j < i))) x y H Q ∨ (∃ i j, x = .str i ∧ y = .str j ∧ Q (.bl (decide (j.cps.toList < i.cps.toList))) H)
theorem op_ltA : OpR X (compareOp .Lt) rLtA := op_lt.or op_lt_str
theorem op_gtA : OpR X (compareOp .Gt) rGtA := op_gt.or op_gt_str
theorem rp_int {H : Hp} {F : FH} {i : Int} {v : V} (h : Rp K H F (.int i) v) : v = .int i := by rw [Rp] at h; exact h
theorem rp_str {H : Hp} {F : FH} {i : Str} {v : V} (h : Rp K H F (.str i) v) : v = .str i := by rw [Rp] at h; exact h
theorem cv_lt : CmV K rLtA (cmpD .lt) := by
  intro x y vx vy F H k Q hx hy g fin
  cases x <;> cases y <;> simp only [cmpD, ltD] at g
  case int.int a b => exact .inl ⟨a, b, rp_int hx, rp_int hy, fin _ g⟩
  case str.str a b => exact .inr ⟨a, b, rp_str hx, rp_str hy, fin _ g⟩
theorem cv_gt : CmV K rGtA (cmpD .gt) := by
  intro x y vx vy F H k Q hx hy g fin
  cases x <;> cases y <;> simp only [cmpD, ltD] at g
  case int.int a b => exact .inl ⟨a, b, rp_int hx, rp_int hy, fin _ g⟩
  case str.str a b => exact .inr ⟨a, b, rp_str hx, rp_str hy, fin _ g⟩
theorem cv_le : CmV K (rI0 fun i j => .bl (decide (i ≤ j))) (cmpD .le) := by
  intro x y vx vy F H k Q hx hy g fin
  cases x <;> cases y <;> simp only [cmpD, leD] at g
  case int.int a b => exact ⟨a, b, rp_int hx, rp_int hy, fin _ g⟩
theorem cv_ge : CmV K (rI0 fun i j => .bl (decide (j ≤ i))) (cmpD .ge) := by
  intro x y vx vy F H k Q hx hy g fin
  cases x <;> cases y <;> simp only [cmpD, leD] at g
  case int.int a b => exact ⟨a, b, rp_int hx, rp_int hy, fin _ g⟩
theorem rp_isNon {H : Hp} {F : FH} {d : D} {v : V} (h : Rp K H F d v) : decide (v = .non) = d.isNon := by
  cases d <;> rw [Rp] at h
  case non => subst h; rfl
  case bl => subst h; rfl
  case int => subst h; rfl
  case str => subst h; rfl
  case opq => obtain ⟨rfl, _⟩ := h; rfl
  case scr => obtain ⟨a, rfl, _⟩ := h; rfl
  all_goals
    obtain ⟨a, vs, rfl, _⟩ := h
    rfl
theorem cv_is : CmV K (fun x y H Q => y = .non ∧ Q (.bl (decide (x = .non))) H) (cmpD .is_) := by
  intro x y vx vy F H k Q hx hy g fin
  simp only [cmpD] at g
  obtain ⟨g1, g2⟩ := g
  have h1 := rp_isNon hy
  rw [g1] at h1
  refine ⟨of_decide_eq_true h1, ?_⟩
  rw [rp_isNon hx]
  exact fin _ g2
theorem cv_isnt : CmV K (fun x y H Q => y = .non ∧ Q (.bl (!decide (x = .non))) H) (cmpD .isnt) := by
  intro x y vx vy F H k Q hx hy g fin
  simp only [cmpD] at g
  obtain ⟨g1, g2⟩ := g
  have h1 := rp_isNon hy
  rw [g1] at h1
  refine ⟨of_decide_eq_true h1, ?_⟩
  rw [rp_isNon hx]
  exact fin _ g2
def fv : D → V
  | .bl b => .bl b
  | .int i => .int i
  | .str x => .str x
  | _ => .non
theorem flat_fv {H : Hp} {F : FH} {d : D} {v : V} (h : Rp K H F d v) (f : d.flat = true) : v = fv d := by
  cases d <;> first | (rw [Rp] at h; exact h) | (simp [D.flat] at f; done)
theorem flat_v {H : Hp} {F : FH} {d : D} {v : V} (h : Rp K H F d v) (f : d.flat = true) : flatV v = true := by
  rw [flat_fv h f]
  cases d <;> rfl
theorem eqv_v {H : Hp} {F : FH} {d e : D} {v w : V} (h : Rp K H F d v) (f : d.flat = true) (h' : Rp K H F e w) (f' : e.flat = true) : eqV v w = D.eqv d e := by
  rw [flat_fv h f, flat_fv h' f']
  cases d <;> first | (simp [D.flat] at f; done) | (cases e <;> first | (simp [D.flat] at f'; done) | (simp [fv, eqV, D.eqv, b2]; done) | rfl)
theorem flats_v {H : Hp} {F : FH} : ∀ {ds : List D} {vs : List V}, RpL K H F ds vs → ds.all D.flat = true → vs.all flatV = true
  | [], vs, h, f => by rw [h.nil_inv]; rfl
  | d :: ds, vs, h, f => by
    obtain ⟨v, ws, rfl, h1, h2⟩ := h.uncons
    rw [List.all_cons, Bool.and_eq_true] at f ⊢
    exact ⟨flat_v h1 f.1, flats_v h2 f.2⟩
theorem has_v {H : Hp} {F : FH} {d : D} {v : V} (h : Rp K H F d v) (f : d.flat = true) : ∀ {ds : List D} {vs : List V}, RpL K H F ds vs → ds.all D.flat = true → inV v vs = hasD d ds
  | [], vs, h', f' => by rw [h'.nil_inv]; rfl
  | e :: ds, vs, h', f' => by
    obtain ⟨w, ws, rfl, h1, h2⟩ := h'.uncons
    rw [List.all_cons, Bool.and_eq_true] at f'
    have := has_v h f h2 f'.2
    unfold inV hasD at this ⊢
    rw [List.any_cons, List.any_cons, this, eqv_v h1 f'.1 h f]
def rInA (K : PySem.W.Frag) : R2 := fun x y H Q => rIn K false x y H Q ∨ (∃ (c : Nat) (z : Str), x = .str ⟨#[c]⟩ ∧ y = .str z ∧ Q (.bl (decide (c ∈ z.cps.toList))) H)
def rNinA (K : PySem.W.Frag) : R2 := fun x y H Q => rIn K true x y H Q ∨ (∃ (c : Nat) (z : Str), x = .str ⟨#[c]⟩ ∧ y = .str z ∧ Q (.bl (!decide (c ∈ z.cps.toList))) H)
theorem op_inA : OpR X (compareOp .In) (rInA X.K) := op_in_seq.or op_in_sign
theorem op_ninA : OpR X (compareOp .NotIn) (rNinA X.K) := op_notIn_seq.or op_notIn_sign
theorem cv_in : CmV K (rInA K) (cmpD .in_) := by
  intro x y vx vy F H k Q hx hy g fin
  simp only [cmpD] at g
  cases y with
  | lst ys =>
    rw [inD_L] at g
    rw [Rp] at hy
    obtain ⟨a, vs, rfl, h1, h2⟩ := hy
    refine .inl ⟨a, vs, rfl, .inl (SqL.of h1), flat_v hx g.1, flats_v h2 g.2.1, ?_⟩
    rw [if_neg (by decide), has_v hx g.1 h2 g.2.1]
    exact fin _ g.2.2
  | tup ys =>
    rw [inD_T] at g
    rw [Rp] at hy
    obtain ⟨a, vs, rfl, h1, h2⟩ := hy
    refine .inl ⟨a, vs, rfl, .inr h1, flat_v hx g.1, flats_v h2 g.2.1, ?_⟩
    rw [if_neg (by decide), has_v hx g.1 h2 g.2.1]
    exact fin _ g.2.2
  | str y =>
    cases x with
    | str x =>
      rw [inD_S] at g
      obtain ⟨c, rfl, g⟩ := g
      exact .inr ⟨c, y, rp_str hx, rp_str hy, fin _ g⟩
    | _ => exact g.elim
  | _ => cases x <;> exact g.elim
theorem cv_nin : CmV K (rNinA K) (cmpD .nin) := by
  intro x y vx vy F H k Q hx hy g fin
  simp only [cmpD] at g
  cases y with
  | lst ys =>
    rw [inD_L] at g
    rw [Rp] at hy
    obtain ⟨a, vs, rfl, h1, h2⟩ := hy
    refine .inl ⟨a, vs, rfl, .inl (SqL.of h1), flat_v hx g.1, flats_v h2 g.2.1, ?_⟩
    rw [if_pos rfl, has_v hx g.1 h2 g.2.1]
    exact fin _ g.2.2
  | tup ys =>
    rw [inD_T] at g
    rw [Rp] at hy
    obtain ⟨a, vs, rfl, h1, h2⟩ := hy
    refine .inl ⟨a, vs, rfl, .inr h1, flat_v hx g.1, flats_v h2 g.2.1, ?_⟩
    rw [if_pos rfl, has_v hx g.1 h2 g.2.1]
    exact fin _ g.2.2
  | str y =>
    cases x with
    | str x =>
      rw [inD_S] at g
      obtain ⟨c, rfl, g⟩ := g
      exact .inr ⟨c, y, rp_str hx, rp_str hy, fin _ g⟩
    | _ => exact g.elim
  | _ => cases x <;> exact g.elim
end
end DL

/-! DG: statements, loops, calls of own functions. -/
namespace DL
open PySem L2

/-! ### slots stored anew -/
section
variable {K : PySem.W.Frag} {H0 H H' : Hp} {F0 F F' : FH} {c c' : Nat} {Γ Γ' : Env} {σ σ' : L2.St} {T T1 T2 : Foot} {t : OT} {v : V}
theorem EOk.len (h : EOk K H0 F0 c Γ F σ H T) : Γ.length = σ.length := h.2.elim fun _ g => g.1.length
/-- what is on its way goes into a slot -/
theorem EOk.store {i : Nat} (h : EOk K H0 F0 c Γ F σ H (T1 ++ T)) (r : RpT K F T1 t v) (hi : i < Γ.length) : EOk K H0 F0 c (Γ.set i (some t)) F (σ.set i (some v)) H T := by
  obtain ⟨b, O, g, w⟩ := h
  obtain ⟨A, B, P, rfl, g2⟩ := g.put hi r
  refine ⟨b, A ++ T1 ++ B, g2, ?_⟩
  have pm : (A ++ P ++ B ++ (T1 ++ T)).Perm (P ++ (A ++ T1 ++ B ++ T)) := by
    have e1 : (A ++ P ++ B ++ (T1 ++ T)).Perm (P ++ (A ++ B ++ (T1 ++ T))) := by
      simp only [List.append_assoc]
      exact List.perm_append_comm_assoc A P (B ++ (T1 ++ T))
    refine e1.trans (List.Perm.append_left P ?_)
    simp only [List.append_assoc]
    exact List.Perm.append_left A (List.perm_append_comm_assoc B T1 T)
  exact (w.perm pm).sub (List.sublist_append_right _ _)
/-- slots stored anew with frozen things, or forgotten -/
theorem RpG.redo : ∀ {Γ : Env} {O : Foot} {σ : L2.St} {Γ' : Env} {σ' : L2.St}, RpG K F O Γ σ → Γ'.length = Γ.length → σ'.length = σ.length →
    (∀ (i : Nat) (g : Option OT), Γ'[i]? = some g → (Γ[i]? = some g ∧ σ'[i]? = σ[i]?) ∨ g = none ∨ ∃ d v, g = some (.fz d) ∧ σ'[i]? = some (some v) ∧ Rf K F d v) → ∃ O', O'.Sublist O ∧ RpG K F O' Γ' σ'
  | [], O, σ, Γ', σ', h, l1, l2, q => by
    rw [RpG] at h
    obtain ⟨rfl, rfl⟩ := h
    have e1 : Γ' = [] := List.length_eq_zero_iff.mp l1
    have e2 : σ' = [] := List.length_eq_zero_iff.mp l2
    subst e1 e2
    exact ⟨[], List.Sublist.refl _, by rw [RpG]; exact ⟨rfl, rfl⟩⟩
  | g :: Γ, O, σ, Γ', σ', h, l1, l2, q => by
    rw [RpG] at h
    obtain ⟨s, ρ, P1, P2, rfl, rfl, e3, e4⟩ := h
    cases Γ' with
    | nil => simp at l1
    | cons g' Γ' =>
      cases σ' with
      | nil => simp at l2
      | cons s' ρ' =>
        obtain ⟨O', s1, r1⟩ := RpG.redo (Γ' := Γ') (σ' := ρ') e4 (by simpa using l1) (by simpa using l2) fun i g e => by simpa using q (i + 1) g (by simpa using e)
        rcases q 0 g' rfl with ⟨q1, q2⟩ | q1 | ⟨d, v, q1, q2, q3⟩
        · simp at q1 q2
          subst q1 q2
          exact ⟨P1 ++ O', s1.append_left P1, by rw [RpG]; exact ⟨s', ρ', P1, O', rfl, rfl, e3, r1⟩⟩
        · subst q1
          exact ⟨O', s1.trans (List.sublist_append_right _ _), by rw [RpG]; exact ⟨s', ρ', [], O', rfl, rfl, rfl, r1⟩⟩
        · subst q1
          simp at q2
          subst q2
          exact ⟨O', s1.trans (List.sublist_append_right _ _), by rw [RpG]; exact ⟨some v, ρ', [], O', rfl, rfl, ⟨v, rfl, .of_fz q3⟩, r1⟩⟩
theorem EOk.redo (h : EOk K H0 F0 c Γ F σ H T) (l1 : Γ'.length = Γ.length) (l2 : σ'.length = σ.length)
    (q : ∀ (i : Nat) (g : Option OT), Γ'[i]? = some g → (Γ[i]? = some g ∧ σ'[i]? = σ[i]?) ∨ g = none ∨ ∃ d v, g = some (.fz d) ∧ σ'[i]? = some (some v) ∧ Rf K F d v) : EOk K H0 F0 c Γ' F σ' H T := by
  obtain ⟨b, O, g, w⟩ := h
  obtain ⟨O', s, g'⟩ := g.redo l1 l2 q
  exact ⟨b, O', g', w.sub (s.append_right T)⟩
/-- an object on its way changes -/
theorem EOk.wr {a : Addr} {o o' : HO} (h : EOk K H0 F0 c Γ F σ H (T1 ++ (a, o) :: T)) : EOk K H0 F0 c Γ F σ (upd H a o') (T1 ++ (a, o') :: T) := by
  obtain ⟨b, O, g, w⟩ := h
  obtain ⟨e1, e2, e3⟩ := w.at_ (a, o) (List.mem_append_right _ (List.mem_append_right _ List.mem_cons_self))
  have nd := w.nd
  have key : ∀ p ∈ O ++ (T1 ++ (a, o') :: T), p = (a, o') ∨ (p ∈ O ++ (T1 ++ (a, o) :: T) ∧ p.1 ≠ a) := by
    intro p hp
    rw [List.map_append, List.map_append, List.map_cons] at nd
    obtain ⟨n1, n2, n3⟩ := List.nodup_append.mp nd
    obtain ⟨n4, n5, n6⟩ := List.nodup_append.mp n2
    have n7 := List.nodup_cons.mp n5
    rcases List.mem_append.mp hp with z | z
    · exact .inr ⟨List.mem_append_left _ z, n3 p.1 (List.mem_map.mpr ⟨p, z, rfl⟩) a (List.mem_append_right _ List.mem_cons_self)⟩
    · rcases List.mem_append.mp z with z | z
      · exact .inr ⟨List.mem_append_right _ (List.mem_append_left _ z), n6 p.1 (List.mem_map.mpr ⟨p, z, rfl⟩) a List.mem_cons_self⟩
      · rcases List.mem_cons.mp z with z | z
        · exact .inl z
        · exact .inr ⟨List.mem_append_right _ (List.mem_append_right _ (List.mem_cons_of_mem _ z)), fun e => n7.1 (e ▸ List.mem_map.mpr ⟨p, z, rfl⟩)⟩
  refine ⟨⟨⟨fun x f q => ?_, b.le, fun x q1 q2 => ?_⟩, b.tk⟩, O, g, ?_, fun p hp => ?_⟩
  · have hx : x ≠ a := fun z => by subst z; rw [e2] at q; cases q
    exact (b.ini x f q).to (upd_ne hx) (Le.refl F)
  · have hx : x ≠ a := fun z => by subst z; exact q2 e3
    rw [upd_ne hx]
    exact b.old x q1 q2
  · simpa using nd
  · rcases key p hp with rfl | ⟨hp, hn⟩
    · exact ⟨upd_same, e2, e3⟩
    · rw [upd_ne hn]
      exact w.at_ p hp
end

/-! ### statements -/
structure Fin4 (K : PySem.W.Frag) (H0 : Hp) (F0 F : FH) (c n : Nat) (J : DEnds) (D : Ends) : Prop where
  nx : ∀ Γ' F' c' σ' H', J.nx Γ' → c' ≤ c + n → Le F F' → EOk K H0 F0 c' Γ' F' σ' H' [] → D.nx σ' H'
  rt : ∀ t Γ' F' c' σ' v H' T', J.rt t → c' ≤ c + n → Le F F' → EOk K H0 F0 c' Γ' F' σ' H' T' → RpT K F' T' t v → D.rt v H'
  bk : ∀ Γ' F' c' σ' H', J.bk Γ' → c' ≤ c + n → Le F F' → EOk K H0 F0 c' Γ' F' σ' H' [] → D.bk σ' H'
  ct : ∀ Γ' F' c' σ' H', J.ct Γ' → c' ≤ c + n → Le F F' → EOk K H0 F0 c' Γ' F' σ' H' [] → D.ct σ' H'
theorem Fin4.sub {K : PySem.W.Frag} {H0 : Hp} {F0 F F1 : FH} {c n c1 m : Nat} {J : DEnds} {D : Ends} (f : Fin4 K H0 F0 F c n J D) (l : Le F F1) (h : c1 + m ≤ c + n) : Fin4 K H0 F0 F1 c1 m J D :=
  ⟨fun Γ' F' c' σ' H' q h1 l1 ok => f.nx Γ' F' c' σ' H' q (by omega) (l.trans l1) ok, fun t Γ' F' c' σ' v H' T' q h1 l1 ok r => f.rt t Γ' F' c' σ' v H' T' q (by omega) (l.trans l1) ok r,
   fun Γ' F' c' σ' H' q h1 l1 ok => f.bk Γ' F' c' σ' H' q (by omega) (l.trans l1) ok, fun Γ' F' c' σ' H' q h1 l1 ok => f.ct Γ' F' c' σ' H' q (by omega) (l.trans l1) ok⟩
mutual
theorem bindT_ex : ∀ {t : Tg} {d : D} {Γ : Env} {k : Env → Prop}, bindT t d Γ k → ∃ Γ', k Γ'
  | .nm i, d, Γ, k, h => by rw [bindT] at h; exact ⟨_, h.2⟩
  | .tup ts, .tup ds, Γ, k, h => by rw [bindT] at h; exact (bindTs_ex h).2
  | .tup ts, .non, Γ, k, h => by rw [bindT] at h <;> first | exact h.elim | (intros; simp_all)
  | .tup ts, .bl _, Γ, k, h => by rw [bindT] at h <;> first | exact h.elim | (intros; simp_all)
  | .tup ts, .int _, Γ, k, h => by rw [bindT] at h <;> first | exact h.elim | (intros; simp_all)
  | .tup ts, .str _, Γ, k, h => by rw [bindT] at h <;> first | exact h.elim | (intros; simp_all)
  | .tup ts, .lst ds, Γ, k, h => by rw [bindT] at h; exact (bindTs_ex h).2
  | .tup ts, .dic _ _, Γ, k, h => by rw [bindT] at h <;> first | exact h.elim | (intros; simp_all)
  | .tup ts, .scr _, Γ, k, h => by rw [bindT] at h <;> first | exact h.elim | (intros; simp_all)
  | .tup ts, .opq _ _, Γ, k, h => by rw [bindT] at h <;> first | exact h.elim | (intros; simp_all)
theorem bindTs_ex : ∀ {ts : List Tg} {ds : List D} {Γ : Env} {k : Env → Prop}, bindTs ts ds Γ k → ts.length = ds.length ∧ ∃ Γ', k Γ'
  | [], [], Γ, k, h => by rw [bindTs] at h; exact ⟨rfl, _, h⟩
  | t :: ts, d :: ds, Γ, k, h => by
    rw [bindTs] at h
    obtain ⟨Γ1, h1⟩ := bindT_ex h
    obtain ⟨h2, h3⟩ := bindTs_ex h1
    exact ⟨by simp [h2], h3⟩
  | [], _ :: _, Γ, k, h => by rw [bindTs] at h <;> first | exact h.elim | (intros; simp_all)
  | _ :: _, [], Γ, k, h => by rw [bindTs] at h <;> first | exact h.elim | (intros; simp_all)
end
section
variable (K : PySem.W.Frag)
def SR (w : EX → Env → DEnds → Prop) (n : Nat) : TS := fun D σ H => ∃ e H0 F0 Γ F c J, XO e ∧ EOk K H0 F0 c Γ F σ H [] ∧ c + n ≤ BD ∧ w e Γ J ∧ Fin4 K H0 F0 F c n J D
/-- a target -/
def GR (w : D → Env → (Env → Prop) → Prop) (is : List Nat) : TG := fun v σ H Q => ∃ d H0 F0 Γ F c T k, EOk K H0 F0 c Γ F σ H T ∧ Rf K F d v ∧ w d Γ k ∧
  ∀ Γ' σ', k Γ' → EOk K H0 F0 c Γ' F σ' H T → (∀ vs : List Nat, (∀ i ∈ is, i ∈ vs) → wipe σ' vs = wipe σ vs) → Q σ' H
def GsR (w : List D → Env → (Env → Prop) → Prop) (is : List Nat) : TGs := fun v σ H Q => ∃ d H0 F0 Γ F c T k, EOk K H0 F0 c Γ F σ H T ∧ RfL K F d v ∧ w d Γ k ∧
  ∀ Γ' σ', k Γ' → EOk K H0 F0 c Γ' F σ' H T → (∀ vs : List Nat, (∀ i ∈ is, i ∈ vs) → wipe σ' vs = wipe σ vs) → Q σ' H
end
mutual
def Tg.slots : Tg → List Nat
  | .nm i => [i]
  | .tup ts => Tg.slotss ts
def Tg.slotss : List Tg → List Nat
  | [] => []
  | t :: ts => t.slots ++ Tg.slotss ts
end
abbrev DS (X : Cx) (x : Stmt) (a : SS) : Prop := PS X x (SR X.K (fun e => wpS e a) (2 ^ costS a))
abbrev DSs (X : Cx) (x : List Stmt) (a : List SS) : Prop := PSs X x (SR X.K (fun e => wpSs e a) (2 ^ costSs a))
abbrev DG (X : Cx) (x : Expr) (a : Tg) : Prop := PG X x (GR X.K (bindT a) a.slots)
abbrev DGs (X : Cx) (x : List Expr) (a : List Tg) : Prop := PGs X x (GsR X.K (bindTs a) (Tg.slotss a))
theorem _root_.L2.PG.mono {X : Cx} {e : Expr} {t t' : TG} (h : PG X e t) (m : ∀ v σ H Q, t' v σ H Q → t v σ H Q) : PG X e t' := ⟨fun pins s σ H v u Q I r q => h.run pins s σ H v u Q I r (m v σ H Q q)⟩
theorem _root_.L2.PGs.mono {X : Cx} {e : List Expr} {t t' : TGs} (h : PGs X e t) (m : ∀ v σ H Q, t' v σ H Q → t v σ H Q) : PGs X e t' := ⟨fun pins s σ H v u Q I r q => h.run pins s σ H v u Q I r (m v σ H Q q)⟩
theorem set_wipe {σ : L2.St} {i : Nat} {x : Option V} : ∀ {vs : List Nat}, i ∈ vs → wipe (σ.set i x) vs = wipe σ vs
  | [], h => by simp at h
  | v :: vs, h => by
    unfold wipe
    by_cases hi : i ∈ vs
    · rw [set_wipe hi]
    · have e : i = v := by
        rcases List.mem_cons.mp h with e | e
        · exact e
        · exact absurd e hi
      subst e
      have key : ∀ ws : List Nat, i ∉ ws → wipe (σ.set i x) ws = (wipe σ ws).set i x := by
        intro ws
        induction ws with
        | nil => intro _; rfl
        | cons w ws ih =>
          intro hw
          simp only [List.mem_cons, not_or] at hw
          unfold wipe
          rw [ih hw.2, List.set_comm _ _ hw.1]
      rw [key vs hi, List.set_set]
section
variable {X : Cx} {a b x y z : Expr} {sa sb sc : SE} {pos : Pos} {r r' : R2} {st : Stmt} {rest : List Stmt} {s : SS} {ss s2 : List SS}
theorem dss_nil : DSs X [] [] := pss_nil.mono fun D σ H ⟨e, H0, F0, Γ, F, c, J, xo, ok, hc, hw, fin⟩ => by
  have hw : wpSs e [] Γ J := hw
  rw [wpSs] at hw
  exact fin.nx Γ F c σ H hw (Nat.le_add_right _ _) (Le.refl F) ok
theorem dss_cons (h1 : DS X st s) (h2 : DSs X rest ss) : DSs X (st :: rest) (s :: ss) := by
  refine (pss_cons h1 h2).mono fun D σ H ⟨e, H0, F0, Γ, F, c, J, xo, ok, hc, hw, fin⟩ => ?_
  have hw : wpSs e (s :: ss) Γ J := hw
  rw [wpSs] at hw
  rw [show costSs (s :: ss) = costS s + costSs ss + 2 by rw [costSs]] at hc fin
  have hb := le2 (costS s) (costSs ss)
  have f1 : Fin4 X.K H0 F0 F c (2 ^ costS s) J D := fin.sub (Le.refl F) (by generalize 2 ^ costS s = p at *; generalize 2 ^ costSs ss = q at *; generalize 2 ^ (costS s + costSs ss + 2) = r at *; omega)
  refine ⟨e, H0, F0, Γ, F, c, _, xo, ok, bud2a hc, hw, ⟨fun Γ1 F1 c1 σ1 H1 q h l ok1 => ?_, f1.rt, f1.bk, f1.ct⟩⟩
  exact ⟨e, H0, F0, Γ1, F1, c1, J, xo, ok1, bud2b hc h, q, fin.sub l (by generalize 2 ^ costS s = p at *; generalize 2 ^ costSs ss = q at *; generalize 2 ^ (costS s + costSs ss + 2) = r at *; omega)⟩
theorem ds_pass : DS X (.Pass pos) .pass := ps_pass.mono fun D σ H ⟨e, H0, F0, Γ, F, c, J, xo, ok, hc, hw, fin⟩ => by
  have hw : wpS e .pass Γ J := hw
  rw [wpS] at hw
  exact fin.nx Γ F c σ H hw (Nat.le_add_right _ _) (Le.refl F) ok
theorem ds_break : DS X (.Break pos) .brk := ps_break.mono fun D σ H ⟨e, H0, F0, Γ, F, c, J, xo, ok, hc, hw, fin⟩ => by
  have hw : wpS e .brk Γ J := hw
  rw [wpS] at hw
  exact fin.bk Γ F c σ H hw (Nat.le_add_right _ _) (Le.refl F) ok
theorem ds_continue : DS X (.Continue pos) .cnt := ps_continue.mono fun D σ H ⟨e, H0, F0, Γ, F, c, J, xo, ok, hc, hw, fin⟩ => by
  have hw : wpS e .cnt Γ J := hw
  rw [wpS] at hw
  exact fin.ct Γ F c σ H hw (Nat.le_add_right _ _) (Le.refl F) ok
/-- an exception is never raised -/
theorem ds_raise {cl : Nat} : DS X st (.raise_ cl) := (ps_never (X := X) (st := st)).mono fun D σ H ⟨e, H0, F0, Γ, F, c, J, xo, ok, hc, hw, fin⟩ => by
  have hw : wpS e (.raise_ cl) Γ J := hw
  rw [wpS] at hw
  exact (xo _ _ hw).elim
theorem ds_expr (ha : DE X a sa) (hs : swapsWith a none pos.line X.env = pure false := by rfl) : DS X (.Expr a pos) (.expr sa) := by
  refine (ps_expr ha hs).mono fun D σ H ⟨e, H0, F0, Γ, F, c, J, xo, ok, hc, hw, fin⟩ => ?_
  have hw : wpS e (.expr sa) Γ J := hw
  rw [wpS] at hw
  rw [show costS (.expr sa) = costE sa by rw [costS]] at hc fin
  exact ⟨e, H0, F0, Γ, F, c, [], _, xo, ok, hc, hw, fun t Γ1 F1 c1 v H1 T1 q1 hc1 l1 ok1 r1 => fin.nx Γ1 F1 c1 σ H1 q1 hc1 l1 ok1.none_left⟩
theorem ds_ret (ha : DE X a sa) : DS X (.Return (some a) pos) (.ret sa) := by
  refine (ps_ret ha).mono fun D σ H ⟨e, H0, F0, Γ, F, c, J, xo, ok, hc, hw, fin⟩ => ?_
  have hw : wpS e (.ret sa) Γ J := hw
  rw [wpS] at hw
  rw [show costS (.ret sa) = costE sa by rw [costS]] at hc fin
  exact ⟨e, H0, F0, Γ, F, c, [], _, xo, ok, hc, hw, fun t Γ1 F1 c1 v H1 T1 q1 hc1 l1 ok1 r1 => fin.rt t Γ1 F1 c1 σ v H1 T1 q1 hc1 l1 (by simpa using ok1) r1⟩
theorem ds_retN : DS X (.Return none pos) (.ret (.cst .non)) := ps_retN.mono fun D σ H ⟨e, H0, F0, Γ, F, c, J, xo, ok, hc, hw, fin⟩ => by
  have hw : wpS e (.ret (.cst .non)) Γ J := hw
  rw [wpS, wpE] at hw
  exact fin.rt _ Γ F c σ _ H [] hw (Nat.le_add_right _ _) (Le.refl F) ok (.of_fz (by rw [Rf, Rp]))
theorem ds_if {p q : List Stmt} (ht : DT X x sc) (ha : DSs X p ss) (hb : DSs X q s2) : DS X (.If x p q pos) (.ifs sc ss s2) := by
  refine (ps_if ht ha hb).mono fun D σ H ⟨e, H0, F0, Γ, F, c, J, xo, ok, hc, hw, fin⟩ => ?_
  have hw : wpS e (.ifs sc ss s2) Γ J := hw
  rw [wpS] at hw
  rw [show costS (.ifs sc ss s2) = costE sc + costSs ss + costSs s2 + 4 by rw [costS]] at hc fin
  have h3 := le3 (costE sc) (costSs ss) (costSs s2)
  refine ⟨e, H0, F0, Γ, F, c, [], _, xo, ok, bud3a hc, hw, fun q Γ1 F1 c1 H1 q1 hc1 l1 ok1 => ?_⟩
  cases q with
  | true => exact ⟨e, H0, F0, Γ1, F1, c1, J, xo, ok1, bud3b hc hc1, q1, fin.sub l1 (by generalize 2 ^ costE sc = p1 at *; generalize 2 ^ costSs ss = p2 at *; generalize 2 ^ costSs s2 = p3 at *; generalize 2 ^ (costE sc + costSs ss + costSs s2 + 4) = p4 at *; omega)⟩
  | false => exact ⟨e, H0, F0, Γ1, F1, c1, J, xo, ok1, bud3b' hc hc1, q1, fin.sub l1 (by generalize 2 ^ costE sc = p1 at *; generalize 2 ^ costSs ss = p2 at *; generalize 2 ^ costSs s2 = p3 at *; generalize 2 ^ (costE sc + costSs ss + costSs s2 + 4) = p4 at *; omega)⟩
/-! assignments -/
theorem ds_asg {i : Nat} {n : Str} {pos' : Pos} (hN : X.N.Nodup) (hi : X.N[i]? = some n) (hx : Loc X.env.scope n) (ha : DE X a sa) (hs : swapsWith a (some (.Name n pos')) pos.line X.env = pure false := by rfl)
    (hf : X.fn n = true ∨ X.env.scope.names.lookup n = some .local := by first | exact .inl rfl | exact .inr rfl | assumption) : DS X (.Assign [.Name n pos'] a pos) (.asg (.nm i) sa) := by
  refine (ps_set hN hi hx ha hs hf).mono fun D σ H ⟨e, H0, F0, Γ, F, c, J, xo, ok, hc, hw, fin⟩ => ?_
  have hw : wpS e (.asg (.nm i) sa) Γ J := hw
  rw [wpS] at hw
  rw [show costS (.asg (.nm i) sa) = costE sa by rw [costS]] at hc fin
  exact ⟨e, H0, F0, Γ, F, c, [], _, xo, ok, hc, hw, fun t Γ1 F1 c1 v H1 T1 q1 hc1 l1 ok1 r1 => fin.nx _ F1 c1 _ H1 q1.2 hc1 l1 (ok1.store r1 q1.1)⟩
theorem dg_nm {i : Nat} {n : Str} (hN : X.N.Nodup) (hi : X.N[i]? = some n) (hx : Loc X.env.scope n) (hf : X.fn n = true ∨ X.env.scope.names.lookup n = some .local := by first | exact .inl rfl | exact .inr rfl | assumption) :
    DG X (.Name n pos) (.nm i) := by
  refine (pg_name hN hi hx hf).mono fun v σ H Q ⟨d, H0, F0, Γ, F, c, T, k, ok, rf, hw, fin⟩ => ?_
  have hw : bindT (.nm i) d Γ k := hw
  rw [bindT] at hw
  have ok2 : EOk X.K H0 F0 c Γ F σ H ([] ++ T) := ok
  exact fin _ _ hw.2 (ok2.store (.of_fz rf) hw.1) fun vs h => set_wipe (h i (by simp [Tg.slots]))
theorem dgs_nil : DGs X [] [] := by
  refine pgs_nil.mono fun v σ H Q ⟨d, H0, F0, Γ, F, c, T, k, ok, rf, hw, fin⟩ => ?_
  cases d with
  | cons _ _ => have hw : bindTs [] _ Γ k := hw; rw [bindTs] at hw <;> first | exact hw.elim | (intros; simp_all)
  | nil =>
    have hw : bindTs [] [] Γ k := hw
    rw [bindTs] at hw
    exact ⟨rf.nil_inv, fin _ _ hw ok fun vs h => rfl⟩
theorem dgs_cons {t : Tg} {ts : List Tg} {es : List Expr} (h1 : DG X a t) (h2 : DGs X es ts) (hs : (assignEach (a :: es) X.env).map (·.2) = assign a X.env :: (assignEach es X.env).map (·.2) := by rfl) : DGs X (a :: es) (t :: ts) := by
  refine (pgs_cons h1 h2 hs).mono fun v σ H Q ⟨d, H0, F0, Γ, F, c, T, k, ok, rf, hw, fin⟩ => ?_
  cases d with
  | nil => have hw : bindTs (t :: ts) [] Γ k := hw; rw [bindTs] at hw <;> first | exact hw.elim | (intros; simp_all)
  | cons d ds =>
    have hw : bindTs (t :: ts) (d :: ds) Γ k := hw
    rw [bindTs] at hw
    obtain ⟨w, ws, rfl, r1, r2⟩ := rf.uncons
    refine ⟨w, ws, rfl, d, H0, F0, Γ, F, c, T, _, ok, r1, hw, fun Γ1 σ1 q1 ok1 w1 => ⟨ds, H0, F0, Γ1, F, c, T, _, ok1, r2, q1, fun Γ2 σ2 q2 ok2 w2 => fin Γ2 σ2 q2 ok2 fun vs h => ?_⟩⟩
    have h' : ∀ i ∈ t.slots ++ Tg.slotss ts, i ∈ vs := by rw [Tg.slotss] at h; exact h
    rw [w2 vs fun i hi => h' i (List.mem_append_right _ hi), w1 vs fun i hi => h' i (List.mem_append_left _ hi)]
theorem pg_or {X : Cx} {e : Expr} {t t' : TG} (h : PG X e t) (h' : PG X e t') : PG X e (fun v σ H Q => t v σ H Q ∨ t' v σ H Q) := ⟨fun pins s σ H v u Q I r q => q.elim (fun q => h.run pins s σ H v u Q I r q) fun q => h'.run pins s σ H v u Q I r q⟩
theorem dg_tup {ts : List Tg} {es : List Expr} {k : Nat} (hc : X.calm = true) (h : DGs X es ts) (n : Nat) (hn : (assignEach es X.env).length = n := by rfl) (hl : ts.length = n := by rfl) (hst : (assignEach es X.env).findIdx? (·.1) = none := by rfl) :
    DG X (.Tuple es k pos) (.tup ts) := by
  refine (pg_or (pg_tup hc h hn hst) (pg_unl hc h hn hst)).mono fun v σ H Q ⟨d, H0, F0, Γ, F, c, T, k, ok, rf, hw, fin⟩ => ?_
  have hw : bindT (.tup ts) d Γ k := hw
  cases d with
  | lst ds =>
    rw [bindT] at hw
    rw [Rf, Rp] at rf
    obtain ⟨p, xs, rfl, hq, r⟩ := rf
    refine .inr ⟨p, xs, rfl, .inl (.inl (ok.1.ini.same _ _ hq)), ?_, ds, H0, F0, Γ, F, c, T, k, ok, r, hw, fun Γ' σ' q1 q2 q3 => fin Γ' σ' q1 q2 fun vs h => q3 vs (by rw [Tg.slots] at h; exact h)⟩
    rw [← r.length, ← (bindTs_ex hw).1, hl]
  | tup ds =>
    rw [bindT] at hw
    rw [Rf, Rp] at rf
    obtain ⟨p, xs, rfl, hq, r⟩ := rf
    refine .inl ⟨p, xs, rfl, Same.seqT ok.1.ini.same hq, ?_, ds, H0, F0, Γ, F, c, T, k, ok, r, hw, fun Γ' σ' q1 q2 q3 => fin Γ' σ' q1 q2 fun vs h => q3 vs (by rw [Tg.slots] at h; exact h)⟩
    rw [← r.length, ← (bindTs_ex hw).1, hl]
  | _ => rw [bindT] at hw <;> first | exact hw.elim | (intros; simp_all)
theorem ds_asgT {ts : List Tg} (ha : DE X a sa) (hg : DG X x (.tup ts)) (hs : swapsWithSole [x] a pos.line X.env = pure false := by rfl) (hw : swappedStores [x] a X.env = pure none := by rfl)
    (h1 : (assignEach [x] X.env).map (·.2) = [assign x X.env] := by rfl) : DS X (.Assign [x] a pos) (.asg (.tup ts) sa) := by
  refine (ps_asg ha hg hs hw h1).mono fun D σ H ⟨e, H0, F0, Γ, F, c, J, xo, ok, hc, hw, fin⟩ => ?_
  have hw : wpS e (.asg (.tup ts) sa) Γ J := hw
  rw [wpS] at hw
  rw [show costS (.asg (.tup ts) sa) = costE sa by rw [costS]] at hc fin
  refine ⟨e, H0, F0, Γ, F, c, [], _, xo, ok, hc, hw, fun t Γ1 F1 c1 v H1 T1 q1 hc1 l1 ok1 r1 => ?_⟩
  obtain ⟨ok2, l2, g2⟩ := ok1.freeze
  exact ⟨t.toD, H0, F0, Γ1, _, c1, [], _, ok2, RpT.frz l2 _ _ _ g2 r1, q1, fun Γ' σ' q2 ok3 _ => fin.nx Γ' _ c1 σ' H1 q2 hc1 (l1.trans l2) ok3⟩
/-- names on the left, written items on the right: each keeps what it owns -/
def putS (σ : L2.St) : List Nat → List V → L2.St
  | i :: is, v :: vs => putS (σ.set i (some v)) is vs
  | _, _ => σ
theorem EOk.puts {K : PySem.W.Frag} {H0 H : Hp} {F0 F : FH} {c : Nat} {T : Foot} : ∀ {is : List Nat} {ts : List OT} {vs : List V} {T1 : Foot} {Γ : Env} {σ : L2.St}, EOk K H0 F0 c Γ F σ H (T1 ++ T) → RpTL K F T1 ts vs → (∀ i ∈ is, i < Γ.length) → ts.length = is.length →
    EOk K H0 F0 c (putG Γ is ts) F (putS σ is vs) H T
  | [], [], vs, T1, Γ, σ, h, r, hi, hl => by
    rw [RpTL] at r
    obtain ⟨rfl, rfl⟩ := r
    exact h
  | i :: is, t :: ts, vs, T1, Γ, σ, h, r, hi, hl => by
    rw [RpTL] at r
    obtain ⟨v, ws, P1, P2, rfl, rfl, r1, r2⟩ := r
    have h' : EOk K H0 F0 c Γ F σ H (P1 ++ (P2 ++ T)) := by simpa using h
    have h2 := h'.store r1 (hi i List.mem_cons_self)
    show EOk K H0 F0 c (putG (Γ.set i (some t)) is ts) F (putS (σ.set i (some v)) is ws) H T
    exact EOk.puts h2 r2 (fun j hj => by rw [List.length_set]; exact hi j (List.mem_cons_of_mem _ hj)) (by simpa using hl)
  | [], _ :: _, vs, T1, Γ, σ, h, r, hi, hl => by simp at hl
  | _ :: _, [], vs, T1, Γ, σ, h, r, hi, hl => by simp at hl
abbrev NmR (is : List Nat) : TGs := fun vs σ H Q => vs.length = is.length ∧ Q (putS σ is vs) H
theorem pgn_nil : PGs X [] (NmR []) := pgs_nil.mono fun v σ H Q h => by
  have e : v = [] := List.length_eq_zero_iff.mp h.1
  subst e
  exact ⟨rfl, h.2⟩
theorem pgn_cons {i : Nat} {is : List Nat} {n : Str} {es : List Expr} (h1 : PG X (.Name n pos) (gName i)) (h2 : PGs X es (NmR is)) (hs : (assignEach ((.Name n pos) :: es) X.env).map (·.2) = assign (.Name n pos) X.env :: (assignEach es X.env).map (·.2) := by rfl) :
    PGs X ((.Name n pos) :: es) (NmR (i :: is)) := by
  refine (pgs_cons h1 h2 hs).mono fun v σ H Q ⟨hl, h⟩ => ?_
  cases v with
  | nil => simp at hl
  | cons v vs => exact ⟨v, vs, rfl, by simpa using hl, h⟩
theorem RpTL.len' {K : PySem.W.Frag} {F : FH} {ts : List OT} {T : Foot} {vs : List V} (h : RpTL K F T ts vs) : ts.length = vs.length := h.length
theorem ds_parT {is : List Nat} {xs : List SX} {ns es : List Expr} {k x1 : Nat} {p1 p2 : Pos} (hc : X.calm = true) (hg : PGs X ns (NmR is)) (ha : DX X es xs) (n : Nat) (hn : (assignEach ns X.env).length = n := by rfl) (hl : is.length = n := by rfl) (hz : n ≤ 1000 := by decide)
    (hst : (assignEach ns X.env).findIdx? (·.1) = none := by rfl) (hs : swapsWithSole [.Tuple ns k p1] (.Tuple es x1 p2) pos.line X.env = pure false := by rfl) (hw : swappedStores [.Tuple ns k p1] (.Tuple es x1 p2) X.env = pure none := by rfl)
    (h1 : (assignEach [.Tuple ns k p1] X.env).map (·.2) = [assign (.Tuple ns k p1) X.env] := by rfl) : DS X (.Assign [.Tuple ns k p1] (.Tuple es x1 p2) pos) (.par is xs) := by
  refine (ps_asg (pe_tup ha) (pg_tup hc hg hn hst) hs hw h1).mono fun D σ H ⟨e, H0, F0, Γ, F, c, J, xo, ok, hcc, hw, fin⟩ => ?_
  have hw : wpS e (.par is xs) Γ J := hw
  rw [wpS] at hw
  rw [show costS (.par is xs) = costX xs by rw [costS]] at hcc fin
  refine ⟨e, H0, F0, Γ, F, c, [], _, xo, ok, hcc, hw, fun ts Γ1 F1 c1 vs H1 T1 q1 hc1 l1 ok1 r1 => ?_⟩
  have hlen : vs.length = is.length := by rw [← r1.length]; exact q1.1.1
  obtain ⟨⟨q0, q2⟩, q3⟩ := q1
  refine ⟨?_, fun p hp => ?_⟩
  · rw [hlen, hl]
    exact Nat.le_trans hz (Nat.le_trans (by decide) lim_line)
  have ok2 : EOk X.K H0 F0 c1 Γ1 F1 σ (upd H1 p (.tup vs)) ([(p, .tup vs)] ++ (T1 ++ [])) := ok1.new hp
  obtain ⟨ok3, l3, g3⟩ := ok2.freeze
  refine ⟨p, vs, rfl, .inl (.inl upd_same), hlen.trans hl, hlen, ?_⟩
  exact fin.nx _ _ c1 _ _ q3 hc1 (l1.trans l3) (EOk.puts ok3 (RpTL.le l3 _ _ _ r1) q2 q0)
theorem ds_par2 {i j : Nat} {n m : Str} {ea eb : Expr} {xs : List SX} {px py pt : Pos} {kt k2 : Nat} {pt2 : Pos} (hc : X.calm = true) (hN : X.N.Nodup) (hi : X.N[i]? = some n) (hj : X.N[j]? = some m) (hij : i ≠ j)
    (hx : X.env.scope.names.lookup n = some .local) (hy : X.env.scope.names.lookup m = some .local) (ha : DX X [ea, eb] xs)
    (hw : swappedStores [.Tuple [.Name n px, .Name m py] kt pt] (.Tuple [ea, eb] k2 pt2) X.env = pure (some [n, m]))
    (hs : swapsWithSole [.Tuple [.Name n px, .Name m py] kt pt] (.Tuple [ea, eb] k2 pt2) pos.line X.env = pure false := by rfl) :
    DS X (.Assign [.Tuple [.Name n px, .Name m py] kt pt] (.Tuple [ea, eb] k2 pt2) pos) (.par [i, j] xs) := by
  refine (ps_par hc hN hi hj hij hx hy ha hw hs).mono fun D σ H ⟨e, H0, F0, Γ, F, c, J, xo, ok, hcc, hw, fin⟩ => ?_
  have hw : wpS e (.par [i, j] xs) Γ J := hw
  rw [wpS] at hw
  rw [show costS (.par [i, j] xs) = costX xs by rw [costS]] at hcc fin
  refine ⟨e, H0, F0, Γ, F, c, [], _, xo, ok, hcc, hw, fun ts Γ1 F1 c1 vs H1 T1 q1 hc1 l1 ok1 r1 => ?_⟩
  obtain ⟨⟨q0, q2⟩, q3⟩ := q1
  have hlen : vs.length = 2 := by rw [← r1.length]; exact q0
  obtain ⟨v, w, rfl⟩ : ∃ v w, vs = [v, w] := match vs, hlen with | [v, w], _ => ⟨v, w, rfl⟩
  exact ⟨v, w, rfl, fin.nx _ _ c1 _ _ q3 hc1 l1 (EOk.puts ok1 r1 q2 q0)⟩
theorem ds_aug {i : Nat} {n : Str} {op : Operator} {bop : BOp} {ti : TIp} {pos' : Pos} (hN : X.N.Nodup) (hi : X.N[i]? = some n) (hx : Loc X.env.scope n) (ha : DO X a sa) (ho : PIp X op ti) (hv : OpV X.K ti (augD bop))
    (hf : X.fn n = true ∨ X.env.scope.names.lookup n = some .local := by first | exact .inl rfl | exact .inr rfl | assumption) : DS X (.AugAssign (.Name n pos') op a pos) (.aug i bop sa) := by
  refine (ps_aug hN hi hx ha ho hf).mono fun D σ H ⟨e, H0, F0, Γ, F, c, J, xo, ok, hc, hw, fin⟩ => ?_
  have hw : wpS e (.aug i bop sa) Γ J := hw
  rw [wpS] at hw
  rw [show costS (.aug i bop sa) = costE sa by rw [costS]] at hc fin
  split at hw
  · rename_i d hd
    obtain ⟨v, h1, h2⟩ := ok.slotF hd
    refine ⟨v, h1, e, H0, F0, Γ, F, c, [], _, xo, ok, hc, hw, fun t Γ1 F1 c1 u H1 T1 q1 hc1 l1 ok1 r1 => ?_⟩
    obtain ⟨dy, ey, q1⟩ := osw_inv q1
    have hy := ok1.fl r1 (fun p hp => by simp [hp]) ey
    refine hv d dy v u c1 F1 H1 _ _ ok1.1.ini ((h2.le l1).s ok1.1.ini) hy q1 fun t v H' hk res => ?_
    obtain ⟨F', T', l3, ok3, rt⟩ := res.fin ok1.none_left
    exact fin.nx _ F' c1 _ H' hk.2 hc1 (l1.trans l3) (ok3.store rt hk.1)
  · exact hw.elim
end
end DL

/-! DH: loops, what is walked, comprehensions. -/
namespace DL
open PySem L2

theorem bigN {a b n : Nat} (h : n ≤ 2 ^ 64) : 2 ^ a + n * 2 ^ b ≤ 2 ^ (a + b + 66) := by
  have h1 : n * 2 ^ b ≤ 2 ^ (64 + b) := by rw [Nat.pow_add]; exact Nat.mul_le_mul_right _ h
  have h2 := le2 a (64 + b)
  rw [show a + (64 + b) + 2 = a + b + 66 by omega] at h2
  omega
theorem pmono {a b : Nat} (h : a ≤ b) : 2 ^ a ≤ 2 ^ b := Nat.pow_le_pow_right (by omega) h

/-! ### while -/
section
variable {X : Cx} {a b x y z : Expr} {sa sb sc : SE} {pos : Pos} {body : List Stmt} {ss : List SS}
theorem ds_while (hp : PassesOwn (model X.prog X.w) X.A X.env X.xe) (ht : DT X x sc) (hb : DSs X body ss) : DS X (.While x body [] pos) (.while_ sc ss) := by
  refine (ps_while hp ht hb).mono fun D σ H ⟨e, H0, F0, Γ, F, c, J, xo, ok, hc, hw, fin⟩ => ?_
  have hw : wpS e (.while_ sc ss) Γ J := hw
  rw [wpS] at hw
  rw [show costS (.while_ sc ss) = costE sc + costSs ss + 80 by rw [costS]] at hc fin
  obtain ⟨n, hn, hw⟩ := hw
  have h0 := le2 (costE sc) (costSs ss)
  have hb0 := bigN (a := 0) (b := costE sc + costSs ss + 2) (n := n) (Nat.le_trans hn (by decide))
  have hb1 : 2 ^ (0 + (costE sc + costSs ss + 2) + 66) ≤ 2 ^ (costE sc + costSs ss + 80) := pmono (by omega)
  generalize hM : 2 ^ (costE sc + costSs ss + 80) = M at *
  generalize hB : 2 ^ (costE sc + costSs ss + 2) = B at *
  have hM2 : n * B ≤ M := by omega
  refine ⟨fun m σ' H' => ∃ Γ' F' c', whW (wpE e sc) (wpSs e ss) m Γ' J ∧ EOk X.K H0 F0 c' Γ' F' σ' H' [] ∧ Le F F' ∧ c' + m * B ≤ c + M, ⟨n, Γ, F, c, hw, ok, Le.refl F, by omega⟩, ?_⟩
  rintro m σ1 H1 ⟨Γ1, F1, c1, w1, ok1, l1, hc1⟩
  cases m with
  | zero => exact w1.elim
  | succ m =>
    have w1 : wpE e sc Γ1 (asB fun b Γ1 => if b = true then wpSs e ss Γ1 { nx := fun Γ2 => whW (wpE e sc) (wpSs e ss) m Γ2 J, rt := J.rt, bk := J.nx, ct := fun Γ2 => whW (wpE e sc) (wpSs e ss) m Γ2 J } else J.nx Γ1) := w1
    rw [Nat.succ_mul] at hc1
    refine ⟨e, H0, F0, Γ1, F1, c1, [], _, xo, ok1, by generalize 2 ^ costE sc = p at *; generalize 2 ^ costSs ss = q at *; generalize m * B = mB at *; omega, w1, fun q Γ2 F2 c2 H2 q2 hc2 l2 ok2 => ?_⟩
    cases q with
    | false => exact fin.nx Γ2 F2 c2 σ1 H2 q2 (by generalize 2 ^ costE sc = p at *; generalize 2 ^ costSs ss = q at *; generalize m * B = mB at *; omega) (l1.trans l2) ok2
    | true =>
      rw [if_pos rfl] at q2
      have again : ∀ Γ3 F3 c3 σ3 H3, whW (wpE e sc) (wpSs e ss) m Γ3 J → c3 ≤ c2 + 2 ^ costSs ss → Le F2 F3 → EOk X.K H0 F0 c3 Γ3 F3 σ3 H3 [] → ∃ Γ' F' c', whW (wpE e sc) (wpSs e ss) m Γ' J ∧ EOk X.K H0 F0 c' Γ' F' σ3 H3 [] ∧ Le F F' ∧ c' + m * B ≤ c + M :=
        fun Γ3 F3 c3 σ3 H3 q3 hc3 l3 ok3 => ⟨Γ3, F3, c3, q3, ok3, (l1.trans l2).trans l3, by generalize 2 ^ costE sc = p at *; generalize 2 ^ costSs ss = q at *; generalize m * B = mB at *; omega⟩
      refine ⟨fun σ' H' => ∃ Γ' F' c', whW (wpE e sc) (wpSs e ss) m Γ' J ∧ EOk X.K H0 F0 c' Γ' F' σ' H' [] ∧ Le F F' ∧ c' + m * B ≤ c + M, fun σ' H' h => ⟨m, Nat.lt_succ_self m, h⟩, ?_⟩
      refine ⟨e, H0, F0, Γ2, F2, c2, _, xo, ok2, by generalize 2 ^ costE sc = p at *; generalize 2 ^ costSs ss = q at *; generalize m * B = mB at *; omega, q2, ⟨again, fun t Γ3 F3 c3 σ3 v H3 T3 q3 hc3 l3 ok3 r3 => ?_, fun Γ3 F3 c3 σ3 H3 q3 hc3 l3 ok3 => ?_, again⟩⟩
      · exact fin.rt t Γ3 F3 c3 σ3 v H3 T3 q3 (by generalize 2 ^ costE sc = p at *; generalize 2 ^ costSs ss = q at *; generalize m * B = mB at *; omega) ((l1.trans l2).trans l3) ok3 r3
      · exact fin.nx Γ3 F3 c3 σ3 H3 q3 (by generalize 2 ^ costE sc = p at *; generalize 2 ^ costSs ss = q at *; generalize m * B = mB at *; omega) ((l1.trans l2).trans l3) ok3
end

/-! ### what is walked -/
structure WkD (K : PySem.W.Frag) (J : It) (F : FH) (ds : List D) : Prop where
  go : ∀ i c F' H, i < ds.length → Le F F' → Ini c F' H → J.go i H
  stop : ∀ c F' H, Le F F' → Ini c F' H → J.stop ds.length H
  yld : ∀ i c F' H x H', i < ds.length → Le F F' → Ini c F' H → J.yld i H x H' → ∃ d, ds[i]? = some d ∧ Res K F' H (.fz d) x H'
theorem wk_of {K : PySem.W.Frag} {J : It} {F : FH} {ds : List D} {n : Nat} {G : Hp → Prop} {Y : Nat → Hp → V → Hp → Prop} (w : Walk J n G Y) (hn : ds.length = n) (hG : ∀ c F' H, Le F F' → Ini c F' H → G H)
    (hY : ∀ i c F' H x H', i < ds.length → Le F F' → Ini c F' H → Y i H x H' → ∃ d, ds[i]? = some d ∧ Res K F' H (.fz d) x H') : WkD K J F ds := by
  subst hn
  exact ⟨fun i c F' H hi l q => w.goes i H hi (hG c F' H l q), fun c F' H l q => w.stops H (hG c F' H l q), fun i c F' H x H' hi l q y => hY i c F' H x H' hi l q (w.yields i H x H' hi (hG c F' H l q) y)⟩
section
variable {K : PySem.W.Frag} {F : FH} {ds : List D} {vs : List V} {a : Addr}
theorem wk_list (h : hpo F a = some (.lst vs)) (r : RfL K F ds vs) : WkD K (Itl K a) F ds :=
  wk_of (walk_list (K := K) (a := a) (xs := vs)) r.length (fun c F' H l q => .inl (.inl (q.same _ _ (l.hpo _ _ h)))) fun i c F' H x H' hi l q y => by
    obtain ⟨rfl, y⟩ := y
    obtain ⟨d, h1, h2⟩ := r.get' y
    exact ⟨d, h1, .old (Rf.le l h2)⟩
theorem wk_tup (h : SqT K (hpo F) a vs) (r : RfL K F ds vs) : WkD K (Itt K a) F ds :=
  wk_of (walk_tup (K := K) (a := a) (xs := vs)) r.length (fun c F' H l q => Same.seqT q.same (Same.seqT l.hpo h)) fun i c F' H x H' hi l q y => by
    obtain ⟨rfl, y⟩ := y
    obtain ⟨d, h1, h2⟩ := r.get' y
    exact ⟨d, h1, .old (Rf.le l h2)⟩
theorem wk_str {z : Str} : WkD K (Its z) F (signsD z) :=
  wk_of (walk_str (z := z)) (by simp [signsD]) (fun _ _ _ _ _ => trivial) fun i c F' H x H' hi l q y => by
    obtain ⟨rfl, c, y1, rfl⟩ := y
    refine ⟨.str ⟨#[c]⟩, ?_, .old (by rw [Rf, Rp])⟩
    unfold signsD
    rw [List.getElem?_map, Array.getElem?_toList, y1]
    rfl
theorem wk_range {lo hi : Int} {n : Nat} (hn : n = (hi - lo).toNat) : WkD K (Itr lo n) F (rangeD lo hi) :=
  wk_of (walk_range (lo := lo) (n := n)) (by simp [rangeD, hn]) (fun _ _ _ _ _ => trivial) fun i c F' H x H' hi' l q y => by
    obtain ⟨rfl, rfl⟩ := y
    refine ⟨.int (lo + i), ?_, .old (by rw [Rf, Rp])⟩
    have hi2 : i < (hi - lo).toNat := by simpa [rangeD] using hi'
    unfold rangeD
    rw [List.getElem?_map, List.getElem?_range hi2]
    rfl
theorem wk_down {i j : Int} : WkD K (Itc i (-1) (i - j).toNat) F (rangeD (j + 1) (i + 1)).reverse := by
  have hl : (rangeD (j + 1) (i + 1)).length = (i - j).toNat := by simp only [rangeD, List.length_map, List.length_range]; omega
  refine wk_of (walk_rangeC (lo := i) (c := -1) (n := (i - j).toNat)) (by rw [List.length_reverse, hl]) (fun _ _ _ _ _ => trivial) fun m c F' H x H' hi' l q y => ?_
  obtain ⟨rfl, rfl⟩ := y
  refine ⟨.int (i + (m : Nat) * -1), ?_, .old (by rw [Rf, Rp])⟩
  rw [List.length_reverse, hl] at hi'
  rw [List.getElem?_reverse (by rw [hl]; exact hi'), hl]
  unfold rangeD
  rw [List.getElem?_map, List.getElem?_range (by omega)]
  simp only [Option.map_some, Option.some.injEq, D.int.injEq]
  omega
end
def IR (K : PySem.W.Frag) (w : EX → Env → (List D → Env → Prop) → Prop) (n : Nat) : TI := fun σ H R => ∃ e H0 F0 Γ F c T k, XO e ∧ EOk K H0 F0 c Γ F σ H T ∧ c + n ≤ BD ∧ w e Γ k ∧
  ∀ ds Γ' F' c' H' J, k ds Γ' → c' ≤ c + n → Le F F' → EOk K H0 F0 c' Γ' F' σ H' T → WkD K J F' ds → ds.length ≤ 2 ^ 64 → R J H'
abbrev DI (X : Cx) (tg x : Expr) (a : SIt) : Prop := PI X tg x (IR X.K (fun e => wpI e a) (2 ^ costI a))
theorem _root_.L2.PI.mono {X : Cx} {tg e : Expr} {t t' : TI} (h : PI X tg e t) (m : ∀ σ H R, t' σ H R → t σ H R) : PI X tg e t' := ⟨fun pins s σ H R I q => h.run pins s σ H R I (m σ H R q)⟩
theorem size_le64 {n : Nat} (h : n ≤ sizeLine) : n ≤ 2 ^ 64 := by
  rw [sizeLine_eq] at h
  exact Nat.le_trans h (by decide)
section
variable {X : Cx} {tg a b x y z : Expr} {sa sb sc : SE} {pos : Pos} {body : List Stmt} {ss : List SS}
/-- a list, a tuple, a text: as it is found -/
def iSeq (K : PySem.W.Frag) (tl : TE) : TI := fun σ H R => tl σ H fun x H1 => (∃ a xs, x = .ref a ∧ SqL K H1 a xs ∧ (xs.length ≤ sizeLine → R (Itl K a) H1)) ∨ (∃ a xs, x = .ref a ∧ SqT K H1 a xs ∧ (xs.length ≤ sizeLine → R (Itt K a) H1)) ∨ ∃ z, x = .str z ∧ R (Its z) H1
theorem pi_seq {l : Expr} {tl : TE} (hl : PE X l tl) : PI X tg l (iSeq X.K tl) := by
  refine ⟨fun pins s σ H R I h => ?_⟩
  refine thn (hl.run pins s σ H _ I h) fun v s1 ⟨x, H1, I1, r1, q1⟩ => ?_
  rcases q1 with ⟨a, xs, e, hq, q⟩ | ⟨a, xs, e, hq, q⟩ | ⟨z, e, q⟩
  · subst e
    cases r1
    obtain ⟨its, rv, p, hz⟩ := I1.list hq
    exact wpAny_pyIter_list p.isList (pi_one (tk := s1.toks) I1 _ (turn_list a _) ⟨_, Heap.get?_push_size _ rfl, rfl, rfl⟩ (q hz))
  · subst e
    cases r1
    obtain ⟨its, rv, p, hz⟩ := I1.tuple hq
    exact wpAny_pyIter_tuple (show s1.heap.IsTuple a its.toArray from p) (pi_one (tk := s1.toks) I1 _ (turn_tuple a _) ⟨_, Heap.get?_push_size _ rfl, rfl, rfl⟩ (q hz))
  · subst e
    obtain ⟨t, rfl⟩ := r1
    cases ha : z.cps.all (· < 128)
    · exact wpAny_pyIter_wide ha (pi_one (tk := s1.toks) I1 _ (turn_str _ z t "str_iterator" (.inr rfl)) ⟨_, Heap.get?_push_size _ rfl, rfl, rfl⟩ q)
    · exact wpAny_pyIter_ascii ha (pi_one (tk := s1.toks) I1 _ (turn_str _ z t "str_ascii_iterator" (.inl rfl)) ⟨_, Heap.get?_push_size _ rfl, rfl, rfl⟩ q)
theorem di_seq (ha : DE X a sa) : DI X tg a (.seq sa) := by
  refine (pi_seq ha).mono fun σ H R ⟨e, H0, F0, Γ, F, c, T, k, xo, ok, hc, hw, fin⟩ => ?_
  have hw : wpI e (.seq sa) Γ k := hw
  rw [wpI] at hw
  rw [show costI (.seq sa) = costE sa by rw [costI]] at hc fin
  refine ⟨e, H0, F0, Γ, F, c, T, _, xo, ok, hc, hw, fun t Γ1 F1 c1 v H1 T1 q1 hc1 l1 ok1 r1 => ?_⟩
  obtain ⟨ok2, l2, g2⟩ := ok1.freeze
  have rf := RpT.frz l2 _ _ _ g2 r1
  split at q1
  · rename_i xs hx
    rw [hx, Rf, Rp] at rf
    obtain ⟨p, vs, rfl, e2, e3⟩ := rf
    exact .inl ⟨p, vs, rfl, .inl (.inl (ok2.1.ini.same _ _ e2)), fun hz => fin xs Γ1 _ c1 H1 _ q1 hc1 (l1.trans l2) ok2 (wk_list e2 e3) (size_le64 (by rw [RpL.length e3]; exact hz))⟩
  · rename_i xs hx
    rw [hx, Rf, Rp] at rf
    obtain ⟨p, vs, rfl, e2, e3⟩ := rf
    exact .inr (.inl ⟨p, vs, rfl, Same.seqT ok2.1.ini.same e2, fun hz => fin xs Γ1 _ c1 H1 _ q1 hc1 (l1.trans l2) ok2 (wk_tup e2 e3) (size_le64 (by rw [RpL.length e3]; exact hz))⟩)
  · rename_i z hx
    rw [hx, Rf, Rp] at rf
    subst rf
    refine .inr (.inr ⟨z, rfl, fin _ Γ1 _ c1 H1 _ q1.2 hc1 (l1.trans l2) ok2 wk_str ?_⟩)
    have hz : z.cps.size ≤ LIM := q1.1
    unfold signsD
    rw [List.length_map, Array.length_toList]
    exact Nat.le_trans hz (by decide)
  · exact q1.elim
theorem rangeD_len {lo hi : Int} : (rangeD lo hi).length = (hi - lo).toNat := by simp [rangeD]
theorem two62 {i : Int} (h : i < 2 ^ 62) : i < 4611686018427387904 := by
  have : (2 : Int) ^ 62 = 4611686018427387904 := by decide
  omega
theorem two62' {i : Int} (h : -(2 ^ 62) ≤ i) : -4611686018427387904 ≤ i := by
  have : (2 : Int) ^ 62 = 4611686018427387904 := by decide
  omega
theorem RfL.one {K : PySem.W.Frag} {F : FH} {d : D} {vs : List V} (h : RfL K F [d] vs) : ∃ v, vs = [v] ∧ Rf K F d v := by
  obtain ⟨v, ws, rfl, a1, a2⟩ := RpL.uncons h
  rw [a2.nil_inv]
  exact ⟨v, rfl, a1⟩
theorem RfL.two {K : PySem.W.Frag} {F : FH} {d e : D} {vs : List V} (h : RfL K F [d, e] vs) : ∃ v w, vs = [v, w] ∧ Rf K F d v ∧ Rf K F e w := by
  obtain ⟨v, ws, rfl, a1, a2⟩ := RpL.uncons h
  obtain ⟨w, rfl, a3⟩ := RfL.one a2
  exact ⟨v, w, rfl, a1, a3⟩
theorem RfL.three {K : PySem.W.Frag} {F : FH} {d e f : D} {vs : List V} (h : RfL K F [d, e, f] vs) : ∃ v w u, vs = [v, w, u] ∧ Rf K F d v ∧ Rf K F e w ∧ Rf K F f u := by
  obtain ⟨v, ws, rfl, a1, a2⟩ := RpL.uncons h
  obtain ⟨w, u, rfl, a3, a4⟩ := RfL.two a2
  exact ⟨v, w, u, rfl, a1, a3, a4⟩
theorem Rf.int_inv {K : PySem.W.Frag} {F : FH} {i : Int} {v : V} (h : Rf K F (.int i) v) : v = .int i := by rw [Rf, Rp] at h; exact h
theorem di_rng1 {p : Pos} (hg : Gl X "range") (hm : X.mg "range" = none) (ha : DA X [a] [sa]) (hs : starEach [a] X.env = [(false, eval a X.env)] := by rfl) : DI X tg (.Call (.Name "range" p) [a] [] pos) (.rng1 [sa]) := by
  refine (pi_range1 hg hm ha hs).mono fun σ H R ⟨e, H0, F0, Γ, F, c, T, k, xo, ok, hc, hw, fin⟩ => ?_
  have hw : wpI e (.rng1 [sa]) Γ k := hw
  rw [wpI] at hw
  rw [show costI (.rng1 [sa]) = costL [sa] by rw [costI]] at hc fin
  refine ⟨e, H0, F0, Γ, F, c, T, _, xo, ok, hc, hw, fun ds Γ1 F1 c1 vs H1 q1 hc1 l1 ok1 r1 => ?_⟩
  split at q1
  · rename_i j
    obtain ⟨v, rfl, a1⟩ := RfL.one r1
    rw [a1.int_inv]
    refine ⟨j, rfl, q1.1, q1.2.1, fin _ Γ1 F1 c1 H1 _ q1.2.2 hc1 l1 ok1 (wk_range (by simp)) ?_⟩
    rw [rangeD_len]
    have := two62 q1.2.1
    omega
  · exact q1.elim
theorem di_rng2 {p : Pos} (hg : Gl X "range") (hm : X.mg "range" = none) (ha : DA X [a, b] [sa, sb]) (hs : starEach [a, b] X.env = [(false, eval a X.env), (false, eval b X.env)] := by rfl) (hs2 : starEach [b] X.env = [(false, eval b X.env)] := by rfl) :
    DI X tg (.Call (.Name "range" p) [a, b] [] pos) (.rng2 [sa, sb]) := by
  refine (pi_range2 hg hm ha hs hs2).mono fun σ H R ⟨e, H0, F0, Γ, F, c, T, k, xo, ok, hc, hw, fin⟩ => ?_
  have hw : wpI e (.rng2 [sa, sb]) Γ k := hw
  rw [wpI] at hw
  rw [show costI (.rng2 [sa, sb]) = costL [sa, sb] by rw [costI]] at hc fin
  refine ⟨e, H0, F0, Γ, F, c, T, _, xo, ok, hc, hw, fun ds Γ1 F1 c1 vs H1 q1 hc1 l1 ok1 r1 => ?_⟩
  split at q1
  · rename_i i j
    obtain ⟨v, w, rfl, a1, a2⟩ := RfL.two r1
    rw [a1.int_inv, a2.int_inv]
    refine ⟨i, j, rfl, q1.1, fin _ Γ1 F1 c1 H1 _ q1.2 hc1 l1 ok1 (wk_range rfl) ?_⟩
    rw [rangeD_len]
    have := two62 q1.1.2.2.2
    have := two62' q1.1.1
    omega
  · exact q1.elim
theorem di_rngD {p : Pos} (hg : Gl X "range") (hm : X.mg "range" = none) (ha : DA X [a, b, x] [sa, sb, sc]) (hs : starEach [a, b, x] X.env = (false, eval a X.env) :: starEach [b, x] X.env := by rfl) (hpl : (backTo pos (starEach [b, x] X.env)).any (·.1) = false := by rfl) :
    DI X tg (.Call (.Name "range" p) [a, b, x] [] pos) (.rngD [sa, sb, sc]) := by
  refine (pi_range3 hg hm ha hs hpl).mono fun σ H R ⟨e, H0, F0, Γ, F, c, T, k, xo, ok, hc, hw, fin⟩ => ?_
  have hw : wpI e (.rngD [sa, sb, sc]) Γ k := hw
  rw [wpI] at hw
  rw [show costI (.rngD [sa, sb, sc]) = costL [sa, sb, sc] by rw [costI]] at hc fin
  refine ⟨e, H0, F0, Γ, F, c, T, _, xo, ok, hc, hw, fun ds Γ1 F1 c1 vs H1 q1 hc1 l1 ok1 r1 => ?_⟩
  split at q1
  · rename_i i j
    obtain ⟨v, w, u, rfl, a1, a2, a3⟩ := RfL.three r1
    rw [a1.int_inv, a2.int_inv, a3.int_inv]
    have e60 : (2 : Int) ^ 60 = 1152921504606846976 := by decide
    have e62 : (2 : Int) ^ 62 = 4611686018427387904 := by decide
    refine ⟨i, j, -1, (i - j).toNat, rfl, RgC.neg (by omega) (by omega) (by omega) (by omega), fin _ Γ1 F1 c1 H1 _ q1.2 hc1 l1 ok1 wk_down ?_⟩
    rw [List.length_reverse, rangeD_len]
    omega
  · exact q1.elim
end

/-! ### for -/
section
variable {X : Cx} {tg a b x y z : Expr} {sa sb sc : SE} {pos : Pos} {body : List Stmt} {ss : List SS} {it : SIt} {stg : Tg}
theorem Res.fz_fin {K : PySem.W.Frag} {H0 H H' : Hp} {F0 F : FH} {c : Nat} {Γ : Env} {σ : L2.St} {T : Foot} {d : D} {v : V} (h : EOk K H0 F0 c Γ F σ H T) (r : Res K F H (.fz d) v H') :
    ∃ F', Le F F' ∧ EOk K H0 F0 c Γ F' σ H' T ∧ Rf K F' d v := by
  obtain ⟨F', T', l, ok, rt⟩ := r.fin h
  obtain ⟨rfl, rf⟩ := rt.fz_inv
  exact ⟨F', l, ok, rf⟩
theorem ds_for (hp : PassesOwn (model X.prog X.w) X.A X.env X.xe) (hcm : X.calm = true) (hi : DI X tg x it) (hg : DG X tg stg) (hb : DSs X body ss) (hs : ∀ y, foldedSetIterable x X.env y = pure y := by intro _; rfl) :
    DS X (.For tg x body [] pos) (.for_ stg it ss) := by
  refine (ps_for hp hcm hi hg hb hs).mono fun D σ H ⟨e, H0, F0, Γ, F, c, J, xo, ok, hc, hw, fin⟩ => ?_
  have hw : wpS e (.for_ stg it ss) Γ J := hw
  rw [wpS] at hw
  rw [show costS (.for_ stg it ss) = costI it + costSs ss + 80 by rw [costS]] at hc fin
  have hbM : 2 ^ (costI it + costSs ss + 66) ≤ 2 ^ (costI it + costSs ss + 80) := pmono (by omega)
  have hbI : 2 ^ costI it ≤ 2 ^ (costI it + costSs ss + 80) := pmono (by omega)
  refine ⟨e, H0, F0, Γ, F, c, [], _, xo, ok, Nat.le_trans (Nat.add_le_add_left hbI _) hc, hw, fun ds Γ1 F1 c1 H1 It q1 hc1 l1 ok1 wk hlen => ?_⟩
  have hbn := bigN (a := costI it) (b := costSs ss) (n := ds.length) hlen
  generalize hM : 2 ^ (costI it + costSs ss + 80) = M at *
  generalize 2 ^ (costI it + costSs ss + 66) = M' at *
  generalize hB : 2 ^ costSs ss = B at *
  generalize 2 ^ costI it = A at *
  have hcn : c1 + ds.length * B ≤ c + M := by generalize ds.length * B = z at *; omega
  refine ⟨fun i m σ' H' => ∃ Γ' F' c', i + m = ds.length ∧ forW (bindT stg) (wpSs e ss) (ds.drop i) Γ' J ∧ EOk X.K H0 F0 c' Γ' F' σ' H' [] ∧ Le F1 F' ∧ c' + m * B ≤ c + M, ⟨ds.length, Γ1, F1, c1, by omega, q1, ok1, Le.refl F1, hcn⟩, ?_⟩
  rintro i m σ2 H2 ⟨Γ2, F2, c2, him, w2, ok2, l2, hc2⟩
  cases m with
  | zero =>
    have hi : i = ds.length := by omega
    subst hi
    rw [List.drop_length] at w2
    exact .inl ⟨wk.stop c2 F2 H2 l2 ok2.1.ini, fin.nx Γ2 F2 c2 σ2 H2 w2 (by omega) (l1.trans l2) ok2⟩
  | succ m =>
    have hi : i < ds.length := by omega
    rw [Nat.succ_mul] at hc2
    rw [List.drop_eq_getElem_cons hi] at w2
    have w2 : bindT stg ds[i] Γ2 fun Γ1 => wpSs e ss Γ1 { nx := fun Γ2 => forW (bindT stg) (wpSs e ss) (ds.drop (i + 1)) Γ2 J, rt := J.rt, bk := J.nx, ct := fun Γ2 => forW (bindT stg) (wpSs e ss) (ds.drop (i + 1)) Γ2 J } := w2
    have again : ∀ F3 c3, c3 + 0 ≤ c2 → Le F1 F3 → ∀ Γ4 F4 c4 σ4 H4, forW (bindT stg) (wpSs e ss) (ds.drop (i + 1)) Γ4 J → c4 ≤ c3 + B → Le F3 F4 → EOk X.K H0 F0 c4 Γ4 F4 σ4 H4 [] →
        ∃ Γ' F' c', (i + 1) + m = ds.length ∧ forW (bindT stg) (wpSs e ss) (ds.drop (i + 1)) Γ' J ∧ EOk X.K H0 F0 c' Γ' F' σ4 H4 [] ∧ Le F1 F' ∧ c' + m * B ≤ c + M := fun F3 c3 h3 l3 Γ4 F4 c4 σ4 H4 q4 hc4 l4 ok4 =>
      ⟨Γ4, F4, c4, by omega, q4, ok4, l3.trans l4, by generalize m * B = z at *; omega⟩
    refine .inr ⟨wk.go i c2 F2 H2 hi l2 ok2.1.ini, fun σ' H' => ∃ Γ' F' c', (i + 1) + m = ds.length ∧ forW (bindT stg) (wpSs e ss) (ds.drop (i + 1)) Γ' J ∧ EOk X.K H0 F0 c' Γ' F' σ' H' [] ∧ Le F1 F' ∧ c' + m * B ≤ c + M, fun σ' H' h => ⟨m, Nat.lt_succ_self m, h⟩, fun v H3 y => ?_⟩
    obtain ⟨d, hd, res⟩ := wk.yld i c2 F2 H2 v H3 hi l2 ok2.1.ini y
    rw [List.getElem?_eq_getElem hi] at hd
    cases hd
    obtain ⟨F3, l3, ok3, rf⟩ := res.fz_fin ok2
    refine ⟨ds[i], H0, F0, Γ2, F3, c2, [], _, ok3, rf, w2, fun Γ4 σ4 q4 ok4 _ => ?_⟩
    refine ⟨e, H0, F0, Γ4, F3, c2, _, xo, ok4, by generalize m * B = z at *; omega, q4, ⟨again F3 c2 (by omega) (l2.trans l3), fun t Γ5 F5 c5 σ5 v H5 T5 q5 hc5 l5 ok5 r5 => ?_, fun Γ5 F5 c5 σ5 H5 q5 hc5 l5 ok5 => ?_, again F3 c2 (by omega) (l2.trans l3)⟩⟩
    · exact fin.rt t Γ5 F5 c5 σ5 v H5 T5 q5 (by generalize m * B = z at *; omega) (((l1.trans l2).trans l3).trans l5) ok5 r5
    · exact fin.nx Γ5 F5 c5 σ5 H5 q5 (by generalize m * B = z at *; omega) (((l1.trans l2).trans l3).trans l5) ok5
end
end DL

/-! DI: comprehensions; contracts of own functions and their calls. -/
namespace DL
open PySem L2

theorem wipeG_len (Γ : Env) : ∀ vs : List Nat, (wipeG Γ vs).length = Γ.length
  | [] => rfl
  | v :: vs => by unfold wipeG; rw [List.length_set, wipeG_len Γ vs]
theorem wipeG_in {Γ : Env} {i : Nat} {g : Option OT} : ∀ {vs : List Nat}, i ∈ vs → (wipeG Γ vs)[i]? = some g → g = none
  | v :: vs, h, e => by
    unfold wipeG at e
    rw [List.getElem?_set] at e
    split at e
    · split at e
      · cases e; rfl
      · cases e
    · rename_i hv
      rcases List.mem_cons.mp h with q | q
      · exact absurd q.symm hv
      · exact wipeG_in q e
theorem wipeG_out {Γ : Env} {i : Nat} : ∀ {vs : List Nat}, i ∉ vs → (wipeG Γ vs)[i]? = Γ[i]?
  | [], h => rfl
  | v :: vs, h => by
    simp only [List.mem_cons, not_or] at h
    unfold wipeG
    rw [List.getElem?_set_ne (Ne.symm h.1), wipeG_out h.2]
theorem backG_len (Γ Δ : Env) : ∀ vs : List Nat, (backG Γ Δ vs).length = Δ.length
  | [] => rfl
  | v :: vs => by unfold backG; rw [List.length_set, backG_len Γ Δ vs]
theorem backG_in {Γ Δ : Env} {i : Nat} {g : Option OT} : ∀ {vs : List Nat}, i ∈ vs → (backG Γ Δ vs)[i]? = some g → g = keepF (Γ[i]?).join
  | v :: vs, h, e => by
    unfold backG at e
    rw [List.getElem?_set] at e
    split at e
    · rename_i hv
      split at e
      · cases e; rw [hv]
      · cases e
    · rename_i hv
      rcases List.mem_cons.mp h with q | q
      · exact absurd q.symm hv
      · exact backG_in q e
theorem backG_out {Γ Δ : Env} {i : Nat} : ∀ {vs : List Nat}, i ∉ vs → (backG Γ Δ vs)[i]? = Δ[i]?
  | [], h => rfl
  | v :: vs, h => by
    simp only [List.mem_cons, not_or] at h
    unfold backG
    rw [List.getElem?_set_ne (Ne.symm h.1), backG_out h.2]
theorem wipe_not {σ : L2.St} {i : Nat} : ∀ {vs : List Nat}, i ∉ vs → (wipe σ vs)[i]? = σ[i]?
  | [], h => rfl
  | v :: vs, h => by
    simp only [List.mem_cons, not_or] at h
    unfold wipe
    rw [List.getElem?_set_ne (Ne.symm h.1), wipe_not h.2]
theorem wipe_in {σ : L2.St} {i : Nat} : ∀ {vs : List Nat}, i ∈ vs → i < σ.length → (wipe σ vs)[i]? = some none
  | v :: vs, h, hl => by
    unfold wipe
    rw [List.getElem?_set]
    split
    · rename_i e
      subst e
      rw [if_pos (by rw [wipe_length]; exact hl)]
    · rename_i hv
      rcases List.mem_cons.mp h with q | q
      · exact absurd q.symm hv
      · exact wipe_in q hl
theorem wipe_wipe {σ : L2.St} {vs : List Nat} : wipe (wipe σ vs) vs = wipe σ vs := by
  refine List.ext_getElem? fun i => ?_
  by_cases hi : i ∈ vs
  · by_cases hl : i < σ.length
    · rw [wipe_in hi (by rw [wipe_length]; exact hl), wipe_in hi hl]
    · rw [List.getElem?_eq_none (by rw [wipe_length, wipe_length]; omega), List.getElem?_eq_none (by rw [wipe_length]; omega)]
  · rw [wipe_not hi]
section
variable {K : PySem.W.Frag} {H0 H H' : Hp} {F0 F F' : FH} {c c' : Nat} {Γ Γ' Δ : Env} {σ σ' : L2.St} {T T1 T2 : Foot} {t : OT} {v : V} {vs : List Nat}
theorem EOk.wipe (h : EOk K H0 F0 c Γ F σ H T) (e : wipe σ vs = σ') : EOk K H0 F0 c (wipeG Γ vs) F σ' H T := by
  subst e
  refine h.redo (wipeG_len Γ vs) (wipe_length σ vs) fun i g q => ?_
  by_cases hi : i ∈ vs
  · exact .inr (.inl (wipeG_in hi q))
  · exact .inl ⟨by rw [wipeG_out hi] at q; exact q, wipe_not hi⟩
theorem EOk.back (h : EOk K H0 F0 c (wipeG Δ vs) F (L2.wipe σ vs) H T) (own : ∀ i ∈ vs, ∀ d, Γ[i]? = some (some (.fz d)) → ∃ v, σ[i]? = some (some v) ∧ Rf K F d v) : EOk K H0 F0 c (backG Γ Δ vs) F σ H T := by
  have hl := wipe_length σ vs
  refine h.redo (by rw [backG_len, wipeG_len]) hl.symm fun i g q => ?_
  by_cases hi : i ∈ vs
  · have e := backG_in hi q
    cases hg : Γ[i]? with
    | none => rw [hg] at e; exact .inr (.inl e)
    | some s =>
      rw [hg] at e
      cases s with
      | none => exact .inr (.inl e)
      | some t =>
        cases t with
        | fz d =>
          obtain ⟨v, h1, h2⟩ := own i hi d hg
          exact .inr (.inr ⟨d, v, e, h1, h2⟩)
        | lst _ => exact .inr (.inl e)
        | dic _ _ => exact .inr (.inl e)
  · exact .inl ⟨by rw [backG_out hi] at q; rw [wipeG_out hi]; exact q, (wipe_not hi).symm⟩
end
/-- a clause's tests -/
def CsR (K : PySem.W.Frag) (w : EX → Env → (Bool → Env → Prop) → Prop) (n : Nat) : TT := fun σ H Q => ∃ e H0 F0 Γ F c T k, XO e ∧ EOk K H0 F0 c Γ F σ H T ∧ c + n ≤ BD ∧ w e Γ k ∧
  ∀ b Γ' F' c' H', k b Γ' → c' ≤ c + n → Le F F' → EOk K H0 F0 c' Γ' F' σ H' T → Q b H'
abbrev DCs (X : Cx) (x : List Expr) (a : List SE) : Prop := PTs X x (CsR X.K (fun e => wpC e a) (2 ^ costL a))
theorem _root_.L2.PTs.mono {X : Cx} {e : List Expr} {t t' : TT} (h : PTs X e t) (m : ∀ σ H Q, t' σ H Q → t σ H Q) : PTs X e t' := ⟨fun pins s σ H Q I q => h.run pins s σ H Q I (m σ H Q q)⟩
section
variable {X : Cx} {tg elt x y z : Expr} {sa sb sc : SE} {pos : Pos} {ifs : List Expr} {cs : List SE} {it : SIt} {stg : Tg}
theorem dcs_nil : DCs X [] [] := pts_nil.mono fun σ H Q ⟨e, H0, F0, Γ, F, c, T, k, xo, ok, hc, hw, fin⟩ => by
  have hw : wpC e [] Γ k := hw
  rw [wpC] at hw
  exact fin true Γ F c H hw (Nat.le_add_right _ _) (Le.refl F) ok
theorem dcs_one (h : DT X x sc) : DCs X [x] [sc] := (pts_one h).mono fun σ H Q ⟨e, H0, F0, Γ, F, c, T, k, xo, ok, hc, hw, fin⟩ => by
  have hw : wpC e [sc] Γ k := hw
  rw [wpC] at hw
  have hle : 2 ^ costE sc ≤ 2 ^ costL [sc] := pmono (by simp only [costL]; omega)
  exact ⟨e, H0, F0, Γ, F, c, T, _, xo, ok, Nat.le_trans (Nat.add_le_add_left hle _) hc, hw, fun b Γ' F' c' H' q h l ok => fin b Γ' F' c' H' q (Nat.le_trans h (Nat.add_le_add_left hle _)) l ok⟩
theorem lc_core' {own : List Nat} {wi : TI} {g : TG} {tt : TT} {te : TE} {it : SIt} {cs : List SE} {sa : SE} (hwi : wi = IR X.K (fun e => wpI e it) (2 ^ costI it)) (hg : g = GR X.K (bindT stg) stg.slots) (htt : tt = CsR X.K (fun e => wpC e cs) (2 ^ costL cs))
    (hte : te = ER X.K (fun e => wpE e sa) (2 ^ costE sa)) (hsub : ∀ i ∈ stg.slots, i ∈ own) (σ : L2.St) (H : Hp) (Q : VK) (h : ER X.K (fun e => wpE e (.lc own stg it cs sa)) (2 ^ costE (.lc own stg it cs sa)) σ H Q) : tLc wi g tt te own σ H Q := by
  subst hwi hg htt hte
  obtain ⟨e, H0, F0, Γ, F, c, T, k, xo, ok, hc, hw, fin⟩ := h
  have hw : wpE e (.lc own stg it cs sa) Γ k := hw
  rw [wpE] at hw
  rw [show costE (.lc own stg it cs sa) = costI it + costL cs + costE sa + 80 by rw [costE]] at hc fin
  have hbM : 2 ^ (costI it + (costL cs + costE sa + 2) + 66) ≤ 2 ^ (costI it + costL cs + costE sa + 80) := pmono (by omega)
  have hbI : 2 ^ costI it ≤ 2 ^ (costI it + costL cs + costE sa + 80) := pmono (by omega)
  have hbB := le2 (costL cs) (costE sa)
  refine ⟨e, H0, F0, Γ, F, c, T, _, xo, ok, Nat.le_trans (Nat.add_le_add_left hbI _) hc, hw, fun ds Γ1 F1 c1 H1 It q1 hc1 l1 ok1 wk hlen A hA => ?_⟩
  have hbn := bigN (a := costI it) (b := costL cs + costE sa + 2) (n := ds.length) hlen
  generalize hM : 2 ^ (costI it + costL cs + costE sa + 80) = M at *
  generalize 2 ^ (costI it + (costL cs + costE sa + 2) + 66) = M' at *
  generalize hB : 2 ^ (costL cs + costE sa + 2) = B at *
  generalize 2 ^ costI it = N1 at *
  have hcn : c1 + ds.length * B ≤ c + M := by generalize ds.length * B = z at *; omega
  have hown : ∀ i ∈ own, ∀ d, Γ1[i]? = some (some (.fz d)) → ∃ v, σ[i]? = some (some v) ∧ Rf X.K F1 d v := fun i _ d hd => ok1.slotF hd
  have okn : EOk X.K H0 F0 c1 Γ1 F1 σ (upd H1 A (.lst [])) ((A, .lst []) :: T) := ok1.new hA
  refine ⟨fun i m H' => ∃ Δ F' c' acc vs, i + m = ds.length ∧ EOk X.K H0 F0 c' (wipeG Δ own) F' (wipe σ own) H' ((A, .lst vs) :: T) ∧ RfL X.K F' acc vs ∧
      compW (bindT stg) (wpC e cs) (wpE e sa) own (ds.drop i) acc Δ (fun acc Δ => k (.lst (acc.map .fz)) (backG Γ1 Δ own)) ∧ Le F1 F' ∧ c' + m * B ≤ c + M,
    ⟨ds.length, Γ1, F1, c1, [], [], by omega, okn.wipe rfl, .nil, q1, Le.refl F1, hcn⟩, ?_⟩
  rintro i m H2 ⟨Δ, F2, c2, acc, vs, him, ok2, racc, w2, l2, hc2⟩
  cases m with
  | zero =>
    have hi : i = ds.length := by omega
    subst hi
    rw [List.drop_length] at w2
    refine .inl ⟨wk.stop c2 F2 H2 l2 ok2.1.ini, ?_⟩
    have ok3 := ok2.back (Γ := Γ1) fun i hi d hd => by
      obtain ⟨v, h1, h2⟩ := hown i hi d hd
      exact ⟨v, h1, h2.le l2⟩
    exact fin _ _ F2 c2 _ H2 [(A, .lst vs)] w2 (by omega) (l1.trans l2) ok3 (.newL racc)
  | succ m =>
    have hi : i < ds.length := by omega
    rw [Nat.succ_mul] at hc2
    rw [List.drop_eq_getElem_cons hi] at w2
    have w2 : bindT stg ds[i] (wipeG Δ own) fun Γ1' => wpC e cs Γ1' fun b Γ2 => if b = true then wpE e sa Γ2 fun t Γ3 => acc.length < LIM ∧ compW (bindT stg) (wpC e cs) (wpE e sa) own (ds.drop (i + 1)) (acc ++ [t.toD]) Γ3 (fun acc Δ => k (.lst (acc.map .fz)) (backG Γ1 Δ own))
        else compW (bindT stg) (wpC e cs) (wpE e sa) own (ds.drop (i + 1)) acc Γ2 (fun acc Δ => k (.lst (acc.map .fz)) (backG Γ1 Δ own)) := w2
    refine .inr ⟨wk.go i c2 F2 H2 hi l2 ok2.1.ini, fun H' => ∃ Δ F' c' acc vs, (i + 1) + m = ds.length ∧ EOk X.K H0 F0 c' (wipeG Δ own) F' (wipe σ own) H' ((A, .lst vs) :: T) ∧ RfL X.K F' acc vs ∧
      compW (bindT stg) (wpC e cs) (wpE e sa) own (ds.drop (i + 1)) acc Δ (fun acc Δ => k (.lst (acc.map .fz)) (backG Γ1 Δ own)) ∧ Le F1 F' ∧ c' + m * B ≤ c + M, fun H' h => ⟨m, Nat.lt_succ_self m, h⟩, fun v H3 y => ?_⟩
    obtain ⟨d, hd, res⟩ := wk.yld i c2 F2 H2 v H3 hi l2 ok2.1.ini y
    rw [List.getElem?_eq_getElem hi] at hd
    cases hd
    obtain ⟨F3, l3, ok3, rf⟩ := res.fz_fin ok2
    refine ⟨ds[i], H0, F0, wipeG Δ own, F3, c2, (A, .lst vs) :: T, _, ok3, rf, w2, fun Γ4 σ4 q4 ok4 hw4 => ⟨by rw [hw4 own hsub, wipe_wipe], ?_⟩⟩
    have hσ4 : wipe σ4 own = wipe σ own := by rw [hw4 own hsub, wipe_wipe]
    refine ⟨e, H0, F0, Γ4, F3, c2, (A, .lst vs) :: T, _, xo, ok4, by generalize m * B = z at *; generalize 2 ^ costL cs = z1 at *; generalize 2 ^ costE sa = z2 at *; omega, q4, fun b Γ5 F5 c5 H5 q5 hc5 l5 ok5 => ?_⟩
    cases b with
    | false => exact ⟨Γ5, F5, c5, acc, vs, by omega, ok5.wipe hσ4, (racc.le l3).le l5, q5, (l2.trans l3).trans l5, by generalize m * B = z at *; generalize 2 ^ costL cs = z1 at *; generalize 2 ^ costE sa = z2 at *; omega⟩
    | true =>
      rw [if_pos rfl] at q5
      refine ⟨e, H0, F0, Γ5, F5, c5, (A, .lst vs) :: T, _, xo, ok5, by generalize m * B = z at *; generalize 2 ^ costL cs = z1 at *; generalize 2 ^ costE sa = z2 at *; omega, q5, fun t Γ6 F6 c6 u H6 T6 q6 hc6 l6 ok6 r6 => ?_⟩
      obtain ⟨ok7, l7, g7⟩ := ok6.freeze
      have ru := RpT.frz l7 _ _ _ g7 r6
      have racc7 := ((((racc.le l3).le l5).le l6).le l7)
      have hst : H6 A = some (.lst vs) := by
        obtain ⟨b, O, g, w⟩ := ok7
        exact (w.at_ (A, .lst vs) (List.mem_append_right _ List.mem_cons_self)).1
      refine ⟨vs, hst, ?_, Γ6, _, c6, acc ++ [t.toD], vs ++ [u], by omega, (EOk.wr (T1 := []) ok7).wipe hσ4, racc7.append (.cons ru .nil), q6.2, (((l2.trans l3).trans l5).trans l6).trans l7, by generalize m * B = z at *; generalize 2 ^ costL cs = z1 at *; generalize 2 ^ costE sa = z2 at *; omega⟩
      rw [← racc7.length]
      exact Nat.lt_of_lt_of_le q6.1 lim_line
theorem de_lc {iter : Expr} {scope : Scope} {own : List (Str × Nat)} (hcm : X.calm = true) (hN : X.N.Nodup) (hi : DI X tg iter it) (ok : BlkOk X.N X.env.scope scope own) (hsub : ∀ i ∈ stg.slots, i ∈ own.map (·.2))
    (hg : ∀ (s : Shared) (H : Hp) (C : Addr) (cl : List (Str × Addr)) (fp : List Addr), DG (X.blk s H scope (compEnvC scope cl C X.env) fp) tg stg)
    (ht : ∀ (s : Shared) (H : Hp) (C : Addr) (cl : List (Str × Addr)) (fp : List Addr), DCs (X.blk s H scope (compEnvC scope cl C X.env) fp) ifs cs)
    (he : ∀ (s : Shared) (H : Hp) (C : Addr) (cl : List (Str × Addr)) (fp : List Addr), DE (X.blk s H scope (compEnvC scope cl C X.env) fp) elt sa) (hs : ∀ y, foldedSetIterable iter X.env y = pure y := by intro _; rfl) :
    DE X (.ListComp elt [⟨tg, iter, ifs, 0⟩] scope pos) (.lc (own.map (·.2)) stg it cs sa) :=
  (pe_lc hcm hN hi ok hg ht he hs).mono fun σ H Q h => lc_core' rfl rfl rfl rfl hsub σ H Q h
/-- name = [..] on one line, the name a local -/
theorem ds_asgLc {i : Nat} {n : Str} {py spos : Pos} {iter : Expr} {scope : Scope} {own : List (Str × Nat)} (hcm : X.calm = true) (hN : X.N.Nodup) (hy : X.N[i]? = some n) (hyl : X.env.scope.names.lookup n = some .local)
    (hsw : swapsWith (.ListComp elt [⟨tg, iter, ifs, 0⟩] scope pos) (some (.Name n py)) spos.line X.env = pure true) (hi : DI X tg iter it) (ok : BlkOk X.N X.env.scope scope own) (hsub : ∀ i ∈ stg.slots, i ∈ own.map (·.2))
    (hg : ∀ (s : Shared) (H : Hp) (C : Addr) (cl : List (Str × Addr)) (fp : List Addr), DG (X.blk s H scope (compEnvC scope cl C X.env) fp) tg stg)
    (ht : ∀ (s : Shared) (H : Hp) (C : Addr) (cl : List (Str × Addr)) (fp : List Addr), DCs (X.blk s H scope (compEnvC scope cl C X.env) fp) ifs cs)
    (he : ∀ (s : Shared) (H : Hp) (C : Addr) (cl : List (Str × Addr)) (fp : List Addr), DE (X.blk s H scope (compEnvC scope cl C X.env) fp) elt sa) (hs : ∀ y, foldedSetIterable iter X.env y = pure y := by intro _; rfl) :
    DS X (.Assign [.Name n py] (.ListComp elt [⟨tg, iter, ifs, 0⟩] scope pos) spos) (.asg (.nm i) (.lc (own.map (·.2)) stg it cs sa)) := by
  refine (ps_setLc (g := GR X.K (bindT stg) stg.slots) (tt := CsR X.K (fun e => wpC e cs) (2 ^ costL cs)) (te := ER X.K (fun e => wpE e sa) (2 ^ costE sa)) hcm hN hy hyl hsw hi ok hg ht he hs).mono fun D σ H ⟨e, H0, F0, Γ, F, c, J, xo, ok, hc, hw, fin⟩ => ?_
  have hw : wpS e (.asg (.nm i) (.lc (own.map (·.2)) stg it cs sa)) Γ J := hw
  rw [wpS] at hw
  generalize hA : SE.lc (own.map (·.2)) stg it cs sa = A at *
  rw [show costS (.asg (.nm i) A) = costE A by rw [costS]] at hc fin
  refine lc_core' rfl rfl rfl rfl hsub σ H _ ?_
  rw [hA]
  exact ⟨e, H0, F0, Γ, F, c, [], _, xo, ok, hc, hw, fun t Γ1 F1 c1 v H1 T1 q1 hc1 l1 ok1 r1 => fin.nx _ F1 c1 _ H1 q1.2 hc1 l1 (ok1.store r1 q1.1)⟩
end

/-! ### own functions -/
/-- behind a call: its result beside what was owned -/
theorem EOk.called {K : PySem.W.Frag} {H0 H H' : Hp} {F0 F F' : FH} {c c' : Nat} {Γ : Env} {σ : L2.St} {T T' : Foot} (h : EOk K H0 F0 c Γ F σ H T) (b : Bse H F c' F' H') (w : Own H F' H' T') : EOk K H0 F0 c' Γ F' σ H' (T' ++ T) := by
  obtain ⟨b1, O, g, w1⟩ := h
  have w2 := w1.go (b.ext (c := c))
  have nd : ((O ++ (T' ++ T)).map (·.1)).Nodup := by
    have e : (O ++ (T' ++ T)).Perm (T' ++ (O ++ T)) := by
      simpa only [List.append_assoc] using List.perm_append_comm_assoc O T' T
    refine ((e.map _).nodup_iff).mpr ?_
    rw [List.map_append]
    refine List.nodup_append.mpr ⟨w.nd, w1.nd, fun x hx y hy => ?_⟩
    obtain ⟨p, hp, rfl⟩ := List.mem_map.mp hx
    obtain ⟨q, hq, rfl⟩ := List.mem_map.mp hy
    rintro z
    have h1 := (w.at_ p hp).2.2
    have h2 := (w1.at_ q hq).1
    rw [z, h2] at h1
    cases h1
  refine ⟨b1.go (b.ext (c := c)), O, g.le b.le, nd, fun p hp => ?_⟩
  have hp' : p ∈ T' ∨ p ∈ O ++ T := by
    rcases List.mem_append.mp hp with z | z
    · exact .inr (List.mem_append_left _ z)
    · rcases List.mem_append.mp z with z | z
      · exact .inl z
      · exact .inr (List.mem_append_right _ z)
  rcases hp' with hp | hp
  · obtain ⟨e1, e2, e3⟩ := w.at_ p hp
    refine ⟨e1, e2, ?_⟩
    cases q : H0 p.1 with
    | none => rfl
    | some u =>
      cases r : F0 p.1 with
      | none =>
        have := (b1.old p.1 r (by rw [q]; simp)).1
        rw [e3, q] at this
        cases this
      | some f =>
        exact absurd e3 (b1.ini p.1 f (b1.le p.1 f r)).ne
  · exact w2.at_ p hp
def spG (K : PySem.W.Frag) (S : Spc) (vs : List V) (H : Hp) (Q : VK) : Prop := ∃ ds F c k x, (∀ y, ¬ x y) ∧ (Ini c F H ∧ TabK K F) ∧ c + 2 ^ S.ce ≤ BD ∧ RfL K F ds vs ∧ S.run ds k x ∧
  ∀ t F' c' v H' T', k t → c' ≤ c + 2 ^ S.ce → Bse H F c' F' H' → Own H F' H' T' → RpT K F' T' t v → Q v H'
structure FnG (P : Program) (w : World) (K : PySem.W.Frag) (mg : Str → Option Value) (base : Heap) (k : Nat) (f : Addr) (fd : FuncData) (ps : List Str) (S : Spc) : Prop where
  len : ∀ ds k x, S.run ds k x → ds.length = ps.length
  run : ∀ (A : Around) (outer : List PySem.Env) (s : Shared) (H : Hp) (args : Args) (us : List Value) (vs : List V) (Q : VK), Room k A → A.guards = some [] → Env0 P w K mg base A outer s H → BindsTo s fd args (ps.zip us) → Vals vs us → spG K S vs H Q →
    codeAny (model P w) A (.call (.ref f) args) (CR CX0 outer P w H s Q E0) s
section
variable {P : Program} {w : World} {K : PySem.W.Frag} {mg : Str → Option Value} {base : Heap} {j k : Nat} {f : Addr} {fd : FuncData} {ps : List Str} {S S' : Spc}
theorem FnG.mono (F : FnG P w K mg base j f fd ps S) (h : j ≤ k) : FnG P w K mg base k f fd ps S := ⟨F.len, fun A outer s H args us vs Q hr => F.run A outer s H args us vs Q (hr.mono h)⟩
theorem FnG.imp (F : FnG P w K mg base k f fd ps S) (hc : S.ce ≤ S'.ce) (h : ∀ ds k x, S'.run ds k x → S.run ds k x) : FnG P w K mg base k f fd ps S' :=
  ⟨fun ds k x q => F.len ds k x (h ds k x q), fun A outer s H args us vs Q hr hg he hb hv ⟨ds, F0, c, kk, x, h1, h2, h3, h4, h5, h6⟩ =>
    F.run A outer s H args us vs Q hr hg he hb hv ⟨ds, F0, c, kk, x, h1, h2, Nat.le_trans (Nat.add_le_add_left (pmono hc) _) h3, h4, h ds kk x h5, fun t F' c' v H' T' q1 q2 => h6 t F' c' v H' T' q1 (Nat.le_trans q2 (Nat.add_le_add_left (pmono hc) _))⟩⟩
/-- what is called: the name's function -/
structure Cb (P : Program) (w : World) (K : PySem.W.Frag) (mg : Str → Option Value) (base : Heap) (k : Nat) (x : Str) (f : Addr) (fd : FuncData) (ps : List Str) (S : Spc) : Prop where
  fn : FnG P w K mg base k f fd ps S
  g : mg x = some (.ref f)
  kp : PySem.W.keepIn K (.ref f) = true
  bi : Binds K fd ps []
end
section
variable {X : Cx} {k : Nat} {f : Addr} {fd : FuncData} {ps ks : List Str} {S : Spc} {n : Str} {p pos : Pos} {e : Expr} {es : List Expr} {t tk : TA} {ss : List SE} {kws : List Keyword}
theorem run_fnG {pins : List (Addr × Obj)} {σ : L2.St} {H : Hp} {s : Shared} {Q : VK} {us : List Value} {vs : List V} {args : Args} (F : FnG X.prog X.w X.K X.mg X.base k f fd ps S) (hr : Room k X.A) (hg : X.A.guards = some [])
    (I : Inv X pins σ H s) (hb : us.length = ps.length → BindsTo s fd args (ps.zip us)) (r : Vals vs us) (h : spG X.K S vs H Q) : codeAny (model X.prog X.w) X.A (.call (.ref f) args) (fun r s' => match r with | .ok (.ret u) => EP X pins σ Q u s' | .ok _ => False | .error e => X.xe e s') s := by
  have hl : us.length = ps.length := by
    obtain ⟨ds, F0, c, kk, x, h1, h2, h3, h4, h5, h6⟩ := h
    rw [← r.length, ← h4.length]
    exact F.len _ _ _ h5
  refine codeAny_mono (F.run X.A X.stack s H args us vs Q hr hg I.env0 (hb hl) r h) fun r s' hq => ?_
  cases r with
  | error e => exact False.elim hq
  | ok fl =>
    cases fl with
    | ret u => exact I.after hq
    | next => exact False.elim hq
    | brk => exact False.elim hq
    | cont => exact False.elim hq
theorem wp_call_of {M : Model} {A : Around} {f : Addr} {us : List Value} {kw : List (Str × Value)} {Q : Value → Shared → Prop} {E : Value → Shared → Prop} {s : Shared} (h : codeAny M A (.call (.ref f) ⟨us, kw⟩) (fun r s' => match r with | .ok (.ret u) => Q u s' | .ok _ => False | .error e => E e s') s) :
    wpAny M A (call (.ref f) us kw) Q E s := wpAny_call (codeAny_mono h fun r s' hq => by
  cases r with
  | error e => exact hq
  | ok fl =>
    cases fl with
    | ret u => exact hq
    | next => exact False.elim hq
    | brk => exact False.elim hq
    | cont => exact False.elim hq)
def tCallG (K : PySem.W.Frag) (S : Spc) (t : TA) : TE := fun σ H Q => t σ H fun vs H1 => spG K S vs H1 Q
theorem pe_callG (F : Cb X.prog X.w X.K X.mg X.base k n f fd ps S) (hr : Room k X.A) (hgd : X.A.guards = some []) (hg : Gl X n) (ha : PA X (e :: es) t)
    (hdb : (n == ("__debug__" : Str)) = false := by decide) (he : starEach (e :: es) X.env = (false, eval e X.env) :: starEach es X.env := by rfl) (hpl : (backTo pos (starEach es X.env)).any (·.1) = false := by rfl) :
    PE X (.Call (.Name n p) (e :: es) [] pos) (tCallG X.K S t) := by
  refine ⟨fun pins s σ H Q I h => ?_⟩
  refine wpAny_Call_Name_kw (ld_glob I hg F.g ?_ hdb)
  refine PySem.W.callWith_K (h₀ := X.base) I.ok.mod.kin F.kp (thn (ha.run pos pins s σ H _ I h) fun us s1 ⟨vs, H1, I1, r, q⟩ => ⟨I1.kIn, ?_⟩) he hpl
  exact wp_call_of (run_fnG F.fn hr hgd I1 (fun hl => by have := F.bi s1 us I1.kIn (by rw [List.append_nil]; exact hl); rw [List.append_nil] at this; exact this) r q)
theorem pe_callG0 (F : Cb X.prog X.w X.K X.mg X.base k n f fd ps S) (hr : Room k X.A) (hgd : X.A.guards = some []) (hg : Gl X n) (hdb : (n == ("__debug__" : Str)) = false := by decide) :
    PE X (.Call (.Name n p) [] [] pos) (tCallG X.K S tNil) := by
  refine ⟨fun pins s σ H Q I h => ?_⟩
  refine wpAny_Call_Name_kw (ld_glob I hg F.g ?_ hdb)
  exact PySem.W.callWith_K0 I.kIn F.kp (wp_call_of (run_fnG F.fn hr hgd I (fun hl => by have := F.bi s [] I.kIn (by rw [List.append_nil]; exact hl); rw [List.append_nil] at this; exact this) .nil h))
theorem callG_of (h : PE X e (tCallG X.K S (AR X.K (fun e => wpA e ss) (2 ^ costL ss)))) : DE X e (.call S ss) := by
  refine h.mono fun σ H Q ⟨e, H0, F0, Γ, F, c, T, k, xo, ok, hc, hw, fin⟩ => ?_
  have hw : wpE e (.call S ss) Γ k := hw
  rw [wpE] at hw
  rw [show costE (.call S ss) = costL ss + S.ce + 4 by rw [costE]] at hc fin
  have hb := le3 (costL ss) 0 S.ce
  rw [Nat.add_zero] at hb
  generalize hA : 2 ^ costL ss = A at *
  generalize hB : 2 ^ S.ce = B at *
  generalize hM : 2 ^ (costL ss + S.ce + 4) = M at *
  generalize 2 ^ 0 = O at *
  refine ⟨e, H0, F0, Γ, F, c, T, _, xo, ok, by omega, hw, fun ds Γ1 F1 c1 vs H1 q1 hc1 l1 ok1 r1 => ?_⟩
  refine ⟨ds, F1, c1, _, _, fun y => xo y Γ1, ⟨ok1.1.ini, ok1.1.tab⟩, by rw [hB]; omega, r1, q1, fun t F' c' v H' T' q2 hc2 b2 w2 r2 => ?_⟩
  rw [hB] at hc2
  exact fin t Γ1 F' c' v H' T' q2 (by omega) (l1.trans b2.le) (ok1.called b2 w2) r2
theorem de_call (F : Cb X.prog X.w X.K X.mg X.base k n f fd ps S) (hr : Room k X.A) (hgd : X.A.guards = some []) (hg : Gl X n) (ha : DA X (e :: es) ss)
    (hdb : (n == ("__debug__" : Str)) = false := by decide) (he : starEach (e :: es) X.env = (false, eval e X.env) :: starEach es X.env := by rfl) (hpl : (backTo pos (starEach es X.env)).any (·.1) = false := by rfl) :
    DE X (.Call (.Name n p) (e :: es) [] pos) (.call S ss) := callG_of (pe_callG F hr hgd hg ha hdb he hpl)
end
end DL

/-! DJ: a def keeps the contract that its body's wp tells; keywords; methods of lists. -/
namespace DL
open PySem PySem.Spec PyProof.Rows L2

def entry (n : Nat) (ds : List D) : Env := ds.map (fun d => some (.fz d)) ++ List.replicate (n - ds.length) none
def rawS (n m : Nat) (sb : List SS) : Spc where
  run := fun ds k x => ds.length = m ∧ wpSs (fun y _ => x y) sb (entry n ds) { nx := fun _ => k (.fz .non), rt := k }
  ce := costSs sb
  ar := m
theorem RpG.entryD {K : PySem.W.Frag} {F : FH} : ∀ {ds : List D} {vs : List V} {n : Nat}, RfL K F ds vs → RpG K F [] (ds.map (fun d => some (.fz d)) ++ List.replicate n none) (vs.map some ++ List.replicate n none)
  | [], vs, 0, h => by rw [h.nil_inv]; rw [List.map_nil, List.map_nil]; simp [RpG]
  | [], vs, n + 1, h => by
    have ih := RpG.entryD (ds := []) (n := n) h
    rw [h.nil_inv] at ih ⊢
    rw [List.map_nil, List.map_nil, List.nil_append, List.nil_append] at ih ⊢
    rw [List.replicate_succ, List.replicate_succ, RpG]
    exact ⟨none, _, [], [], rfl, rfl, rfl, ih⟩
  | d :: ds, vs, n, h => by
    obtain ⟨v, ws, rfl, a, b⟩ := RpL.uncons h
    have ih := RpG.entryD (n := n) b
    rw [List.map_cons, List.map_cons, List.cons_append, List.cons_append, RpG]
    exact ⟨some v, _, [], [], rfl, rfl, ⟨v, rfl, .of_fz a⟩, ih⟩
theorem EOk.entry {K : PySem.W.Frag} {F : FH} {c : Nat} {H : Hp} {N : List Str} {ds : List D} {vs : List V} (i : Ini c F H ∧ TabK K F) (r : RfL K F ds vs) : EOk K H F c (entry N.length ds) F (L2.start N vs) H [] := by
  refine ⟨⟨⟨i.1, Le.refl F, fun a h1 h2 => ⟨rfl, h1⟩⟩, i.2⟩, [], ?_, ⟨by simp, fun p hp => absurd hp (by simp)⟩⟩
  unfold DL.entry L2.start
  rw [← r.length]
  exact RpG.entryD r
section
variable {P : Program} {w : World} {K : PySem.W.Frag} {mg : Str → Option Value} {base : Heap}
/-- a def by its body's wp; cdv: its code object -/
def codeK (K : PySem.W.Frag) (f : Addr) : Option Value := match K.lookup f with
  | some ⟨_, _, .func fd, _⟩ => some fd.code
  | _ => none
theorem fng_ofC {x qual : Str} {st : Stmt} {f : Addr} {fd : FuncData} {N ps : List Str} {k : Nat} {sb : List SS} (Fu : Fun K x qual st f fd) (S : FnScope N ps (defScope st))
    (hbody : ∀ (cdv : Value) (A : Around) (outer : List PySem.Env) (s : Shared) (H : Hp), codeK K f = some cdv → Room k (A.deeper (envOfC qual (defScope st) s.heap.objs.size f cdv)) → (A.deeper (envOfC qual (defScope st) s.heap.objs.size f cdv)).guards = some [] →
      DSs (cxOf CX0 P w K mg base N qual (defScope st) f cdv A outer s H E0).nox (defBody st) sb) : FnG P w K mg base (k + 1) f fd ps (rawS N.length ps.length sb) := by
  refine ⟨fun ds k x h => h.1, fun A outer s H args us vs Q hr hgd e0 hb r hsp => ?_⟩
  obtain ⟨oc, od, kV, doc, pm, an, cdv, ct, osl, rfl, lk, hcd⟩ := Fu.ex
  obtain ⟨ds, F, c, kk, xk, hx, hini, hbud, hds, ⟨hlen, hrun⟩, hfin⟩ := hsp
  have hlv : vs.length = ps.length := by rw [← hds.length]; exact hlen
  have kIn : K.In s.heap := e0.mod.kin.keeps fun b o q => (e0.bs b o q).1
  have noL : s.heap.NoLimit := e0.mod.nolimit.keeps fun b o q => (e0.bs b o q).1
  have kinds : ∀ y ∈ ps.zip us, (defScope st).names.lookup y.1 = some .local ∨ ((defScope st).names.lookup y.1 = some .cell ∧ ((cellsFrom (s.heap.objs.size + 1) (defScope st).names []).lookup y.1).isSome = true) := fun y hy => by
    rcases S.par y.1 (List.of_mem_zip (a := y.1) (b := y.2) hy).1 with q | q
    · exact .inl q
    · exact .inr ⟨q, PySem.W.cellsFrom_some _ _ _ (.inl q)⟩
  refine codeAny_call_function hr.depth (kIn _ _ lk) rfl S.co S.gen rfl (PySem.W.codeRec_of kIn hcd) (hb _ _ _ _ ?_)
  refine wpAny_newFunctionEnv_cells S.kind kinds fun env hen s1 ic => ?_
  subst hen
  refine ⟨noL.keeps ic.toInCall.keep, codeAny_func ?_⟩
  have body := hbody cdv A outer s H (by unfold codeK; rw [lk]) (hr.deeper _) hgd
  have I : Inv (cxOf CX0 P w K mg base N qual (defScope st) f cdv A outer s H E0) [] (L2.start N vs) H s1 := inv_start S hr.hd e0 hlv r ic
  have ok := EOk.entry (N := N) hini hds
  have bud : c + 2 ^ costSs sb ≤ BD := hbud
  have fin4 : Fin4 K H F F c (2 ^ costSs sb) { nx := fun _ => kk (.fz .non), rt := kk } { nx := fun _ H' => Q .non H', rt := Q } :=
    ⟨fun Γ' F' c' σ' H' q h l ok' => by
      obtain ⟨b, O, g, ow⟩ := ok'
      exact hfin _ F' c' _ H' [] q h b.toBse (ow.sub (List.nil_sublist _)) (.of_fz (by rw [Rf, Rp])),
     fun t Γ' F' c' σ' v H' T' q h l ok' rt => by
      obtain ⟨b, O, g, ow⟩ := ok'
      exact hfin _ F' c' _ H' T' q h b.toBse (ow.sub (List.sublist_append_right _ _)) rt,
     fun Γ' F' c' σ' H' q => False.elim q, fun Γ' F' c' σ' H' q => False.elim q⟩
  have hsr : SR K (fun e => wpSs e sb) (2 ^ costSs sb) { nx := fun _ H' => Q .non H', rt := Q } (L2.start N vs) H :=
    ⟨_, H, F, _, F, c, _, fun y Γ => hx y, ok, bud, hrun, fin4⟩
  have fin : ∀ {σ' : L2.St} {H' : Hp} {v : V} {u : Value} {s' : Shared}, Inv (cxOf CX0 P w K mg base N qual (defScope st) f cdv A outer s H E0) [] σ' H' s' → RelV v u → Q v H' → CE outer P w H s Q u s' :=
    fun {σ' H' v u s'} J rv q => ⟨v, H', J.os, J.bare, J.base, J.hok, rv, q⟩
  refine wpAny_mono (body.nox.run [] s1 (L2.start N vs) H _ I hsr) (fun fl s' hs => ?_) fun e s' hs => hs
  cases fl with
  | ret u =>
    obtain ⟨v, σ', H', J, rv, q⟩ := hs
    exact fin J rv q
  | next =>
    obtain ⟨σ', H', J, q⟩ := hs
    exact fin (v := V.non) (u := Value.none) J rfl q
  | brk => exact hs.elim fun _ h => h.elim fun _ h => h.2.elim
  | cont => exact hs.elim fun _ h => h.elim fun _ h => h.2.elim
theorem fng_of {x qual : Str} {st : Stmt} {f : Addr} {fd : FuncData} {N ps : List Str} {k : Nat} {sb : List SS} (Fu : Fun K x qual st f fd) (S : FnScope N ps (defScope st))
    (hbody : ∀ (cdv : Value) (A : Around) (outer : List PySem.Env) (s : Shared) (H : Hp), Room k (A.deeper (envOfC qual (defScope st) s.heap.objs.size f cdv)) → (A.deeper (envOfC qual (defScope st) s.heap.objs.size f cdv)).guards = some [] →
      DSs (cxOf CX0 P w K mg base N qual (defScope st) f cdv A outer s H E0).nox (defBody st) sb) : FnG P w K mg base (k + 1) f fd ps (rawS N.length ps.length sb) := fng_ofC Fu S fun cdv A outer s H _ hr hgd => hbody cdv A outer s H hr hgd
end

/-! ### keywords -/
structure KBi (fd : FuncData) (ps ks : List Str) : Prop where
  to : ∀ (s : Shared) (us ws : List Value), ws.length = ks.length → (us ++ ws).length = ps.length → BindsTo s fd ⟨us, ks.zip ws⟩ (ps.zip (us ++ ws))
section
variable {X : Cx} {k : Nat} {f : Addr} {fd : FuncData} {ps ks : List Str} {S : Spc} {n : Str} {p pos : Pos} {e : Expr} {es : List Expr} {t tk : TA} {ss sk : List SE} {kws : List Keyword}
/-- the values of keywords -/
abbrev DK (X : Cx) (x : List Keyword) (a : List SE) : Prop := PK X x (AR X.K (fun e => wpA e a) (2 ^ costL a))
theorem _root_.L2.PK.mono {X : Cx} {e : List Keyword} {t t' : TA} (h : PK X e t) (m : ∀ σ H Q, t' σ H Q → t σ H Q) : PK X e t' := ⟨fun pos pins s σ H Q I q => h.run pos pins s σ H Q I (m σ H Q q)⟩
theorem ar_nil {K : PySem.W.Frag} {σ : L2.St} {H : Hp} {Q : List V → Hp → Prop} (h : AR K (fun e => wpA e []) (2 ^ costL []) σ H Q) : tNil σ H Q := by
  obtain ⟨e, H0, F0, Γ, F, c, T, k, xo, ok, hc, hw, fin⟩ := h
  have hw : wpA e [] Γ k := hw
  rw [wpA] at hw
  exact fin [] Γ F c [] H hw (Nat.le_add_right _ _) (Le.refl F) ok .nil
theorem dk_nil : DK X [] [] := pk_nil.mono fun σ H Q h => ar_nil h
theorem ar_cons {K : PySem.W.Frag} {σ : L2.St} {H : Hp} {Q : List V → Hp → Prop} {sa : SE} {ss : List SE} (h : AR K (fun e => wpA e (sa :: ss)) (2 ^ costL (sa :: ss)) σ H Q) : tCons (ER K (fun e => wpE e sa) (2 ^ costE sa)) (AR K (fun e => wpA e ss) (2 ^ costL ss)) σ H Q := by
  obtain ⟨e, H0, F0, Γ, F, c, T, k, xo, ok, hc, hw, fin⟩ := h
  have hw : wpA e (sa :: ss) Γ k := hw
  rw [wpA] at hw
  rw [show costL (sa :: ss) = costE sa + costL ss + 2 by rw [costL]] at hc fin
  refine ⟨e, H0, F0, Γ, F, c, T, _, xo, ok, bud2a hc, hw, fun t Γ1 F1 c1 v H1 T1 q1 hc1 l1 ok1 r1 => ?_⟩
  obtain ⟨ok2, l2, g2⟩ := ok1.freeze
  refine ⟨e, H0, F0, Γ1, _, c1, T, _, xo, ok2, bud2b hc hc1, q1, fun ds Γ3 F3 c3 vs H3 q3 hc3 l3 ok3 r3 => ?_⟩
  exact fin _ Γ3 F3 c3 _ H3 q3 (bud2c hc1 hc3) ((l1.trans l2).trans l3) ok3 (.cons (Rf.le l3 (RpT.frz l2 _ _ _ g2 r1)) r3)
theorem dk_cons {nm : Option Str} {kp : Pos} {sa : SE} (ha : DE X e sa) (hr : DK X kws ss) : DK X (⟨nm, e, kp⟩ :: kws) (sa :: ss) := (pk_cons ha hr).mono fun σ H Q h => ar_cons h
def tCallKG (K : PySem.W.Frag) (S : Spc) (n : Nat) (t tk : TA) : TE := fun σ H Q => t σ H fun vs H1 => tk σ H1 fun zs H2 => zs.length = n ∧ spG K S (vs ++ zs) H2 Q
theorem kg_fin (F : Cb X.prog X.w X.K X.mg X.base k n f fd ps S) (kb : KBi fd ps ks) (hr : Room k X.A) (hgd : X.A.guards = some []) {pins : List (Addr × Obj)} {σ : L2.St} {H2 : Hp} {Q : VK} {us ws : List Value} {vs zs : List V} {s2 : Shared}
    (I2 : Inv X pins σ H2 s2) (r1 : Vals vs us) (r2 : Vals zs ws) (hl : zs.length = ks.length) (q : spG X.K S (vs ++ zs) H2 Q) : wpAny (model X.prog X.w) X.A (call (.ref f) us (ks.zip ws)) (EP X pins σ Q) X.xe s2 :=
  wp_call_of (run_fnG F.fn hr hgd I2 (args := ⟨us, ks.zip ws⟩) (us := us ++ ws) (vs := vs ++ zs) (fun hl2 => kb.to s2 us ws (by rw [← r2.length]; exact hl) hl2) (r1.append r2) q)
theorem pe_callKG (F : Cb X.prog X.w X.K X.mg X.base k n f fd ps S) (kb : KBi fd ps ks) (hr : Room k X.A) (hgd : X.A.guards = some []) (hg : Gl X n) (ha : PA X (e :: es) t) (hkw : PK X kws tk)
    (hall : (backToKw pos (keywordEach kws X.env)).all (·.1.isSome) = true := by rfl) (hks : (backToKw pos (keywordEach kws X.env)).filterMap (·.1) = ks := by rfl)
    (hdb : (n == ("__debug__" : Str)) = false := by decide) (he : starEach (e :: es) X.env = (false, eval e X.env) :: starEach es X.env := by rfl)
    (hpl : ((backTo pos (starEach (e :: es) X.env)).any (·.1) || (backToKw pos (keywordEach kws X.env)).any (·.1.isNone)) = false := by rfl) :
    PE X (.Call (.Name n p) (e :: es) kws pos) (tCallKG X.K S ks.length t tk) := by
  refine ⟨fun pins s σ H Q I h0 => ?_⟩
  refine wpAny_Call_Name_kw (ld_glob I hg F.g ?_ hdb)
  refine PySem.W.callWith_KW (h₀ := X.base) I.ok.mod.kin F.kp hall (thn (ha.run pos pins s σ H _ I h0) fun us s1 ⟨vs, H1, I1, r, q⟩ => ?_) hpl he
  refine thn (hkw.run pos pins s1 σ H1 _ I1 q) fun ws s2 ⟨zs, H2, I2, rz, hl, q2⟩ => ⟨I2.kIn, ?_⟩
  rw [hks]
  exact kg_fin F kb hr hgd I2 r rz hl q2
theorem pe_callKG0 (F : Cb X.prog X.w X.K X.mg X.base k n f fd ps S) (kb : KBi fd ps ks) (hr : Room k X.A) (hgd : X.A.guards = some []) (hg : Gl X n) (hkw : PK X kws tk)
    (hall : (backToKw pos (keywordEach kws X.env)).all (·.1.isSome) = true := by rfl) (hks : (backToKw pos (keywordEach kws X.env)).filterMap (·.1) = ks := by rfl)
    (hdb : (n == ("__debug__" : Str)) = false := by decide)
    (hpl : ((backTo pos (starEach [] X.env)).any (·.1) || (backToKw pos (keywordEach kws X.env)).any (·.1.isNone)) = false := by rfl) :
    PE X (.Call (.Name n p) [] kws pos) (tCallKG X.K S ks.length tNil tk) := by
  refine ⟨fun pins s σ H Q I h0 => ?_⟩
  refine wpAny_Call_Name_kw (ld_glob I hg F.g ?_ hdb)
  refine PySem.W.callWith_KW0 (h₀ := X.base) I.ok.mod.kin F.kp hall (thn (hkw.run pos pins s σ H _ I h0) fun ws s2 ⟨zs, H2, I2, rz, hl, q2⟩ => ⟨I2.kIn, ?_⟩) hpl
  rw [hks]
  exact kg_fin F kb hr hgd I2 .nil rz hl q2
/-- arguments, then keywords: as one list -/
theorem wpA_app {e : EX} : ∀ {ss sk : List SE} {Γ : Env} {k : List D → Env → Prop}, wpA e (ss ++ sk) Γ k = wpA e ss Γ fun ds Γ1 => wpA e sk Γ1 fun es Γ2 => k (ds ++ es) Γ2
  | [], sk, Γ, k => by rw [wpA]; rfl
  | a :: ss, sk, Γ, k => by
    rw [List.cons_append, wpA, wpA]
    congr 1
    funext t Γ1
    rw [wpA_app]
    rfl
theorem wpA_len {e : EX} : ∀ {ss : List SE} {Γ : Env} {k : List D → Env → Prop}, wpA e ss Γ k = wpA e ss Γ fun ds Γ1 => ds.length = ss.length ∧ k ds Γ1
  | [], Γ, k => by rw [wpA, wpA]; simp
  | a :: ss, Γ, k => by
    rw [wpA, wpA]
    congr 1
    funext t Γ1
    rw [wpA_len (k := fun ds Γ2 => k (t.toD :: ds) Γ2), wpA_len (k := fun ds Γ2 => (t.toD :: ds).length = (a :: ss).length ∧ k (t.toD :: ds) Γ2)]
    congr 1
    funext ds Γ2
    refine propext ⟨fun h => ⟨h.1, by simp [h.1], h.2⟩, fun h => ⟨h.1, h.2.2⟩⟩
theorem costL_app : ∀ {ss sk : List SE}, costL (ss ++ sk) = costL ss + costL sk
  | [], sk => by rw [List.nil_append, show costL [] = 0 by rw [costL]]; omega
  | a :: ss, sk => by rw [List.cons_append, costL, costL, costL_app]; omega
theorem callKG_of {nk : Nat} (h : PE X e (tCallKG X.K S nk (AR X.K (fun e => wpA e ss) (2 ^ costL ss)) (AR X.K (fun e => wpA e sk) (2 ^ costL sk)))) (hn : sk.length = nk) : DE X e (.call S (ss ++ sk)) := by
  refine h.mono fun σ H Q ⟨e, H0, F0, Γ, F, c, T, k, xo, ok, hc, hw, fin⟩ => ?_
  have hw : wpE e (.call S (ss ++ sk)) Γ k := hw
  rw [wpE, wpA_app] at hw
  rw [show costE (.call S (ss ++ sk)) = costL ss + costL sk + S.ce + 4 by rw [costE, costL_app]] at hc fin
  have hb := le3 (costL ss) (costL sk) S.ce
  generalize hA : 2 ^ costL ss = A at *
  generalize hB : 2 ^ S.ce = B at *
  generalize hC : 2 ^ costL sk = C at *
  generalize hM : 2 ^ (costL ss + costL sk + S.ce + 4) = M at *
  refine ⟨e, H0, F0, Γ, F, c, T, _, xo, ok, by omega, hw, fun ds Γ1 F1 c1 vs H1 q1 hc1 l1 ok1 r1 => ?_⟩
  rw [wpA_len] at q1
  refine ⟨e, H0, F0, Γ1, F1, c1, T, _, xo, ok1, by omega, q1, fun es Γ2 F2 c2 zs H2 q2 hc2 l2 ok2 r2 => ⟨by rw [← r2.length, ← hn]; exact q2.1, ?_⟩⟩
  refine ⟨ds ++ es, F2, c2, _, _, fun y => xo y Γ2, ⟨ok2.1.ini, ok2.1.tab⟩, by rw [hB]; omega, (r1.le l2).append r2, q2.2, fun t F' c' v H' T' q3 hc3 b3 w3 r3 => ?_⟩
  rw [hB] at hc3
  exact fin t Γ2 F' c' v H' T' q3 (by omega) ((l1.trans l2).trans b3.le) (ok2.called b3 w3) r3
theorem da_nilS : PA X [] (AR X.K (fun e => wpA e []) (2 ^ costL [])) := da_nil
theorem callG0_of (h : PE X e (tCallG X.K S tNil)) : DE X e (.call S []) := callG_of (h.mono fun σ H Q ⟨e, H0, F0, Γ, F, c, T, k, xo, ok, hc, hw, fin⟩ => by
  have hw : wpA e [] Γ k := hw
  rw [wpA] at hw
  exact fin [] Γ F c [] H hw (Nat.le_add_right _ _) (Le.refl F) ok .nil)
theorem de_call0 (F : Cb X.prog X.w X.K X.mg X.base k n f fd ps S) (hr : Room k X.A) (hgd : X.A.guards = some []) (hg : Gl X n) (hdb : (n == ("__debug__" : Str)) = false := by decide) : DE X (.Call (.Name n p) [] [] pos) (.call S []) := callG0_of (pe_callG0 F hr hgd hg hdb)
theorem de_callK (F : Cb X.prog X.w X.K X.mg X.base k n f fd ps S) (kb : KBi fd ps ks) (hr : Room k X.A) (hgd : X.A.guards = some []) (hg : Gl X n) (ha : DA X (e :: es) ss) (hkw : DK X kws sk) (hn : sk.length = ks.length := by rfl)
    (hall : (backToKw pos (keywordEach kws X.env)).all (·.1.isSome) = true := by rfl) (hks : (backToKw pos (keywordEach kws X.env)).filterMap (·.1) = ks := by rfl)
    (hdb : (n == ("__debug__" : Str)) = false := by decide) (he : starEach (e :: es) X.env = (false, eval e X.env) :: starEach es X.env := by rfl)
    (hpl : ((backTo pos (starEach (e :: es) X.env)).any (·.1) || (backToKw pos (keywordEach kws X.env)).any (·.1.isNone)) = false := by rfl) :
    DE X (.Call (.Name n p) (e :: es) kws pos) (.call S (ss ++ sk)) := callKG_of (pe_callKG F kb hr hgd hg ha hkw hall hks hdb he hpl) hn
theorem de_callK0 (F : Cb X.prog X.w X.K X.mg X.base k n f fd ps S) (kb : KBi fd ps ks) (hr : Room k X.A) (hgd : X.A.guards = some []) (hg : Gl X n) (hkw : DK X kws sk) (hn : sk.length = ks.length := by rfl)
    (hall : (backToKw pos (keywordEach kws X.env)).all (·.1.isSome) = true := by rfl) (hks : (backToKw pos (keywordEach kws X.env)).filterMap (·.1) = ks := by rfl)
    (hdb : (n == ("__debug__" : Str)) = false := by decide)
    (hpl : ((backTo pos (starEach [] X.env)).any (·.1) || (backToKw pos (keywordEach kws X.env)).any (·.1.isNone)) = false := by rfl) :
    DE X (.Call (.Name n p) [] kws pos) (.call S sk) := by
  have h : PE X (.Call (.Name n p) [] kws pos) (tCallKG X.K S ks.length (AR X.K (fun e => wpA e []) (2 ^ costL [])) (AR X.K (fun e => wpA e sk) (2 ^ costL sk))) :=
    (pe_callKG0 F kb hr hgd hg hkw hall hks hdb hpl).mono fun σ H Q hq => ar_nil (Q := fun vs H1 => AR X.K (fun e => wpA e sk) (2 ^ costL sk) σ H1 fun zs H2 => zs.length = ks.length ∧ spG X.K S (vs ++ zs) H2 Q) hq
  exact callKG_of (ss := []) h hn
end
end DL

/-! DK: methods of lists, items stored, subscripts, slices, built-ins by values. -/
namespace DL
open PySem PySem.Spec PyProof.Rows L2

section
variable {K : PySem.W.Frag} {H0 H H' : Hp} {F0 F F' : FH} {c c' : Nat} {Γ : DL.Env} {σ : L2.St} {T : Foot} {t : OT} {v : V} {i : Nat}
/-- what a slot owns, taken out of it -/
theorem EOk.take (h : EOk K H0 F0 c Γ F σ H T) (e : Γ[i]? = some (some t)) : ∃ v P, σ[i]? = some (some v) ∧ RpT K F P t v ∧ EOk K H0 F0 c (Γ.set i none) F σ H (P ++ T) := by
  obtain ⟨b, O, g, w⟩ := h
  obtain ⟨A, B, P, v, rfl, h2, h3, h4⟩ := g.focus e
  have hi : i < Γ.length := (List.getElem?_eq_some_iff.mp e).1
  have hs : i < σ.length := (List.getElem?_eq_some_iff.mp h2).1
  have g2 := h4 F [] (.fz .non) .non (Le.refl F) (.of_fz (rf_non.mpr rfl))
  have pm : (A ++ P ++ B ++ T).Perm (A ++ [] ++ B ++ (P ++ T)) := by
    simp only [List.append_assoc, List.nil_append]
    refine List.Perm.append_left A ?_
    exact List.perm_append_comm_assoc P B T
  have ok : EOk K H0 F0 c (Γ.set i (some (.fz .non))) F (σ.set i (some .non)) H (P ++ T) := ⟨b, _, g2, w.perm pm⟩
  refine ⟨v, P, h2, h3, ok.redo (by simp) (by simp) fun j g q => ?_⟩
  by_cases hj : j = i
  · subst hj
    rw [List.getElem?_set_self hi] at q
    cases q
    exact .inr (.inl rfl)
  · rw [List.getElem?_set_ne (Ne.symm hj)] at q
    exact .inl ⟨by rw [List.getElem?_set_ne (Ne.symm hj)]; exact q, by rw [List.getElem?_set_ne (Ne.symm hj)]⟩
/-- the list in a slot is rewritten -/
theorem EOk.wrSlot {xs : List D} (h : EOk K H0 F0 c Γ F σ H T) (e : Γ[i]? = some (some (.lst (xs.map .fz)))) : ∃ a xvs, σ[i]? = some (some (.ref a)) ∧ H a = some (.lst xvs) ∧ RfL K F xs xvs ∧
    ∀ ys xvs', RfL K F ys xvs' → EOk K H0 F0 c (Γ.set i (some (.lst (ys.map .fz)))) F σ (upd H a (.lst xvs')) T := by
  obtain ⟨v, P, hv, r, ok⟩ := h.take e
  have hi : i < Γ.length := (List.getElem?_eq_some_iff.mp e).1
  rw [RpT] at r
  obtain ⟨a, vs, P', rfl, rfl, r⟩ := r
  obtain ⟨e0, r1⟩ := RpTL.fz_inv r
  subst e0
  have hst : H a = some (.lst vs) := by
    obtain ⟨b, O, g, w⟩ := ok
    exact (w.at_ (a, .lst vs) (List.mem_append_right _ (List.mem_append_left _ List.mem_cons_self))).1
  refine ⟨a, vs, hv, hst, r1, fun ys xvs' r' => ?_⟩
  have ok2 : EOk K H0 F0 c (Γ.set i none) F σ (upd H a (.lst xvs')) ([(a, .lst xvs')] ++ T) := EOk.wr (T1 := []) ok
  have ok3 := ok2.store (i := i) (RpT.newL r') (by simpa using hi)
  have hs : σ.set i (some (.ref a)) = σ := by
    obtain ⟨hl, q⟩ := List.getElem?_eq_some_iff.mp hv
    rw [← q]; exact List.set_getElem_self hl
  rw [List.set_set, hs] at ok3
  exact ok3
end
def MtV (K : PySem.W.Frag) (r : V → List V → Hp → VK → Prop) (m : Mc) : Prop := ∀ (xs ds : List D) (a : Addr) (xvs vs : List V) (F : FH) (H : Hp) (k : D → List D → Prop) (Q : VK), (∀ b u, hpo F b = some u → H b = some u) → H a = some (.lst xvs) → RfL K F xs xvs → RfL K F ds vs → mcD m xs ds k →
  (∀ y ys v xvs', k y ys → Rf K F y v → RfL K F ys xvs' → Q v (upd H a (.lst xvs'))) → r (.ref a) vs H Q
section
variable {X : Cx} {a b o e x y z : Expr} {es : List Expr} {sa sb sc : SE} {ss : List SE} {pos apos cpos : Pos} {i : Nat} {n name : Str} {id : String} {r : V → List V → Hp → VK → Prop} {m : Mc}
theorem lst_at {K : PySem.W.Frag} {H0 H : Hp} {F0 F : FH} {c : Nat} {Γ : DL.Env} {σ : L2.St} {T : Foot} (h : EOk K H0 F0 c Γ F σ H T) (e : lstAt Γ i = true) : ∃ a vs, σ[i]? = some (some (.ref a)) ∧ H a = some (.lst vs) := by
  unfold lstAt at e
  split at e
  · rename_i ts q
    obtain ⟨v, P, hv, r, ok⟩ := h.take q
    rw [RpT] at r
    obtain ⟨a, vs, P', rfl, rfl, r⟩ := r
    obtain ⟨b, O, g, w⟩ := ok
    exact ⟨a, vs, hv, (w.at_ (a, .lst vs) (List.mem_append_right _ (List.mem_append_left _ List.mem_cons_self))).1⟩
  · cases e
/-- behind the arguments: the method is run on the slot's list -/
theorem mc_fin {K : PySem.W.Frag} {H0 H : Hp} {F0 F : FH} {c : Nat} {Γ : DL.Env} {σ : L2.St} {T : Foot} {a : Addr} {ds : List D} {vs : List V} {k : OT → DL.Env → Prop} {Q : VK} (hv : MtV K r m) (ok : EOk K H0 F0 c Γ F σ H T) (hσ : σ[i]? = some (some (.ref a))) (rd : RfL K F ds vs)
    (q : match Γ[i]? with
      | some (some (.lst ts)) => match fzs? ts with
        | some xs => mcD m xs ds fun y ys => k (.fz y) (Γ.set i (some (.lst (ys.map .fz))))
        | none => False
      | _ => False) (fin : ∀ t Γ' v H', k t Γ' → EOk K H0 F0 c Γ' F σ H' ([] ++ T) → RpT K F [] t v → Q v H') : r (.ref a) vs H Q := by
  split at q
  · rename_i ts hts
    split at q
    · rename_i xs hxs
      have e := fzs_inv hxs
      subst e
      obtain ⟨a', xvs, h1, h2, h3, h4⟩ := ok.wrSlot hts
      rw [hσ] at h1
      cases h1
      exact hv xs ds a xvs vs F H _ Q ok.1.ini.same h2 h3 rd q fun y ys v xvs' hk rv ry => fin _ _ v _ hk (h4 ys xvs' ry) (.of_fz rv)
    · exact q.elim
  · exact q.elim
theorem de_mc (pa : PlainAttrs "list") (slot : Slot "list" name id) (hty : typeOf (.builtin id) = pure (.type "method_descriptor")) (hm : MtR X id r) (hv : MtV X.K r m) (ho : PE X o (tVar i)) (ha : DA X (e :: es) ss)
    (hbase : attributeBase o name X.env (eval o X.env) = eval o X.env := by rfl)
    (hfew : ((backTo cpos (starEach (e :: es) X.env)).all (fun x => !x.1) && (backToKw cpos (keywordEach [] X.env)).all (fun x => x.1.isSome) && decide ((e :: es).length + ([] : List Keyword).length + (if ([] : List Keyword).isEmpty then 0 else 1) < 30)) = true := by rfl)
    (hline : (apos.endLine == cpos.line) = true := by rfl) (hs : starEach (e :: es) X.env = (false, eval e X.env) :: starEach es X.env := by rfl) (hplain : (backTo cpos (starEach es X.env)).any (·.1) = false := by rfl) :
    DE X (.Call (.Attribute o name apos) (e :: es) [] cpos) (.mc i m ss) := by
  refine (pe_bm pa slot hty hm ho ha hbase hfew hline hs hplain).mono fun σ H Q ⟨e, H0, F0, Γ, F, c, T, k, xo, ok, hc, hw, fin⟩ => ?_
  have hw : wpE e (.mc i m ss) Γ k := hw
  rw [wpE] at hw
  rw [show costE (.mc i m ss) = costL ss by rw [costE]] at hc fin
  obtain ⟨h1, hw⟩ := hw
  obtain ⟨l, lvs, h2, h3⟩ := lst_at ok h1
  refine ⟨.ref l, h2, .inl ⟨rfl, lvs, .inl (.inl h3)⟩, e, H0, F0, Γ, F, c, T, _, xo, ok, hc, hw, fun ds Γ1 F1 c1 vs H1 q1 hc1 l1 ok1 r1 => ?_⟩
  exact mc_fin hv ok1 h2 r1 q1 fun t Γ' v H' hk ok' rt => fin t Γ' F1 c1 v H' [] hk hc1 l1 ok' rt
theorem de_mc0 (pa : PlainAttrs "list") (slot : Slot "list" name id) (hty : typeOf (.builtin id) = pure (.type "method_descriptor")) (hm : MtR X id r) (hv : MtV X.K r m) (ho : PE X o (tVar i))
    (hbase : attributeBase o name X.env (eval o X.env) = eval o X.env := by rfl) (hline : (apos.endLine == cpos.line) = true := by rfl) : DE X (.Call (.Attribute o name apos) [] [] cpos) (.mc i m []) := by
  refine (pe_bm0 pa slot hty hm ho hbase hline).mono fun σ H Q ⟨e, H0, F0, Γ, F, c, T, k, xo, ok, hc, hw, fin⟩ => ?_
  have hw : wpE e (.mc i m []) Γ k := hw
  rw [wpE, wpA] at hw
  rw [show costE (.mc i m []) = 0 by rw [costE, costL]] at hc fin
  obtain ⟨h1, hw⟩ := hw
  obtain ⟨l, lvs, h2, h3⟩ := lst_at ok h1
  refine ⟨.ref l, h2, .inl ⟨rfl, lvs, .inl (.inl h3)⟩, ?_⟩
  exact mc_fin hv ok h2 .nil hw fun t Γ' v H' hk ok' rt => fin t Γ' F c v H' [] hk (Nat.le_add_right _ _) (Le.refl F) ok' rt
theorem mv_append {K : PySem.W.Frag} : MtV K rAppend .append := by
  intro xs ds l xvs vs F H k Q i hl rx rd g fin
  unfold mcD at g
  split at g <;> first | exact g.elim | cases ‹Mc.append = _› | skip
  rename_i y
  obtain ⟨v, rfl, rv⟩ := RfL.one rd
  refine ⟨l, xvs, v, rfl, rfl, hl, ?_, fin _ _ .non _ g.2 (rf_non.mpr rfl) (rx.append (.cons rv .nil))⟩
  rw [← RpL.length rx]
  exact Nat.lt_of_lt_of_le g.1 lim_line
theorem mv_pop {K : PySem.W.Frag} : MtV K rPop .pop := by
  intro xs ds l xvs vs F H k Q i hl rx rd g fin
  cases ds with
  | cons _ _ => exact False.elim g
  | nil =>
    obtain ⟨y, hy, g⟩ := (show ∃ y, xs[xs.length - 1]? = some y ∧ k y xs.dropLast from g)
    rw [rd.nil_inv]
    obtain ⟨v, h1, h2⟩ := RpL.get rx hy
    rw [RpL.length rx] at h1
    refine ⟨l, xvs, v, rfl, rfl, hl, h1, fin _ _ v _ g h2 ?_⟩
    rw [List.dropLast_eq_take, List.dropLast_eq_take, RpL.length rx]
    exact RpL.take _ rx
theorem RpL.eraseIdx {K : PySem.W.Frag} {H : Hp} {F : FH} : ∀ {xs : List D} {vs : List V} (j : Nat), RpL K H F xs vs → RpL K H F (xs.eraseIdx j) (vs.eraseIdx j)
  | [], vs, j, h => by rw [h.nil_inv]; exact .nil
  | x :: xs, vs, 0, h => by
    obtain ⟨v, ws, rfl, h1, h2⟩ := h.uncons
    exact h2
  | x :: xs, vs, j + 1, h => by
    obtain ⟨v, ws, rfl, h1, h2⟩ := h.uncons
    exact .cons h1 (RpL.eraseIdx j h2)
theorem mv_popAt {K : PySem.W.Frag} : MtV K rPopAt .popAt := by
  intro xs ds l xvs vs F H k Q i hl rx rd g fin
  unfold mcD at g
  split at g <;> first | exact g.elim | cases ‹Mc.popAt = _› | skip
  rename_i j
  obtain ⟨hlim, jj, y, h1, h2, h3⟩ := g
  have hlim : _ ≤ 1000000 := hlim
  obtain ⟨v, rfl, rv⟩ := RfL.one rd
  rw [rv.int_inv]
  obtain ⟨q1, q2, q3, q4⟩ := ixN_seq h1
  obtain ⟨u, u1, u2⟩ := RpL.get rx h2
  exact ⟨l, xvs, j, jj, u, rfl, rfl, hl, by omega, by omega, by rw [← RpL.length rx]; exact q1, u1, fin _ _ u _ h3 u2 (RpL.eraseIdx jj rx)⟩
theorem mv_reverse {K : PySem.W.Frag} : MtV K rReverse .reverse := by
  intro xs ds l xvs vs F H k Q i hl rx rd g fin
  cases ds with
  | cons _ _ => exact False.elim g
  | nil =>
    rw [rd.nil_inv]
    exact ⟨l, xvs, rfl, rfl, hl, fin _ _ .non _ g (rf_non.mpr rfl) rx.reverse⟩
theorem mv_clear {K : PySem.W.Frag} : MtV K rClear .clear := by
  intro xs ds l xvs vs F H k Q i hl rx rd g fin
  cases ds with
  | cons _ _ => exact False.elim g
  | nil =>
    rw [rd.nil_inv]
    exact ⟨l, xvs, rfl, rfl, hl, fin _ _ .non _ g (rf_non.mpr rfl) .nil⟩
/-- name[j] = e -/
theorem ds_setix {p2 : Pos} (hv : DE X a sa) (ho : PE X o (tVar i)) (hj : DE X b sb) (hs : swapsWithSole [.Subscript o b p2] a pos.line X.env = pure false := by rfl) (hw : swappedStores [.Subscript o b p2] a X.env = pure none := by rfl)
    (h1 : (assignEach [.Subscript o b p2] X.env).map (·.2) = [assign (.Subscript o b p2) X.env] := by rfl)
    (hasg : ∀ v, assign (.Subscript o b p2) X.env v = (do let ov ← holding [v] (eval o X.env); let iv ← holding [v, ov] (eval b X.env); standAt p2; holding [v, ov, iv] (setItem ov iv v); release [v, ov, iv] []) := by intro _; rfl) :
    DS X (.Assign [.Subscript o b p2] a pos) (.setix i sb sa) := by
  refine (ps_asg hv (pg_sub ho hj set_list hasg) hs hw h1).mono fun D σ H ⟨e, H0, F0, Γ, F, c, J, xo, ok, hc, hw, fin⟩ => ?_
  have hw : wpS e (.setix i sb sa) Γ J := hw
  rw [wpS] at hw
  rw [show costS (.setix i sb sa) = costE sa + costE sb + 2 by rw [costS]] at hc fin
  refine ⟨e, H0, F0, Γ, F, c, [], _, xo, ok, bud2a hc, hw, fun t Γ1 F1 c1 v H1 T1 q1 hc1 l1 ok1 r1 => ?_⟩
  obtain ⟨ok2, l2, g2⟩ := ok1.freeze
  have rv := RpT.frz l2 _ _ _ g2 r1
  obtain ⟨q1a, q1⟩ := q1
  obtain ⟨l, lvs, hl1, hl2⟩ := lst_at ok2 q1a
  refine ⟨.ref l, hl1, e, H0, F0, Γ1, _, c1, [], _, xo, ok2, bud2b hc hc1, q1, fun tj Γ2 F2 c2 u H2 T2 q2 hc2 l3 ok3 r3 => ?_⟩
  split at q2
  · rename_i n ts hts
    split at q2
    · rename_i xs hxs
      have ex := fzs_inv hxs
      subst ex
      have r4 := r3.fz_inv.2
      rw [r4.int_inv]
      obtain ⟨a', xvs, g1, g3, g4, g5⟩ := ok3.none_left.wrSlot hts
      rw [hl1] at g1
      cases g1
      obtain ⟨j, hj1, hj2⟩ := (show ∃ j : Nat, ixN xs.length n = some j ∧ _ from q2)
      exact ⟨l, xvs, n, j, rfl, rfl, g3, by rw [← RpL.length g4]; exact hj1, fin.nx _ F2 c2 σ _ hj2 (bud2c hc1 hc2) ((l1.trans l2).trans l3) (g5 _ _ (RpL.set j g4 (rv.le l3)))⟩
    · exact q2.elim
  · exact q2.elim
end
/-! ### subscripts and slices by values -/
section
variable {K : PySem.W.Frag}
theorem atI_get {α β : Type} {xs : List α} {ys : List β} {i : Int} {x : α} (hl : xs.length = ys.length) (h : atI xs i = some x) : ∃ (j : Nat) (y : β), xs[j]? = some x ∧ ys[j]? = some y ∧ atI ys i = some y := by
  unfold atI at h ⊢
  rw [← hl]
  cases e : ixN xs.length i with
  | none => rw [e] at h; cases h
  | some j =>
    rw [e] at h
    have h : xs[j]? = some x := h
    have hj := (List.getElem?_eq_some_iff.mp h).1
    exact ⟨j, ys[j], h, List.getElem?_eq_getElem (by omega), List.getElem?_eq_getElem (by omega)⟩
theorem ov_ix : OpV K (rIx K) ixD := by
  intro x y vx vy c F H k Q i hx hy g fin
  unfold ixD at g
  split at g
  · obtain ⟨d, h1, h2⟩ := g
    obtain ⟨a, vs, rfl, ha, r⟩ := hx
    rw [rs_int hy]
    obtain ⟨j, v, e1, e2, e3⟩ := atI_get (RpL.length r) h1
    obtain ⟨w, w1, w2⟩ := RpL.get r e1
    rw [e2] at w1; cases w1
    exact .inl ⟨a, vs, _, v, rfl, rfl, .inl (.inl ha), e3, fin _ v H h2 (.old w2)⟩
  · obtain ⟨d, h1, h2⟩ := g
    obtain ⟨a, vs, rfl, ha, r⟩ := rs_tup hx
    rw [rs_int hy]
    obtain ⟨j, v, e1, e2, e3⟩ := atI_get (RpL.length r) h1
    obtain ⟨w, w1, w2⟩ := RpL.get r e1
    rw [e2] at w1; cases w1
    exact .inr (.inl ⟨a, vs, _, v, rfl, rfl, Same.seqT i.same ha, e3, fin _ v H h2 (.old w2)⟩)
  · obtain ⟨hz, d, h1, h2⟩ := g
    rw [rs_str hx, rs_int hy]
    exact .inr (.inr ⟨_, _, d, rfl, rfl, Nat.le_trans hz lim_line, h1, fin _ _ H h2 .str⟩)
  · obtain ⟨d, h1, h2⟩ := g
    obtain ⟨a, rfl, ha⟩ := rs_scr hx
    rw [rs_int hy]
    obtain ⟨j, v, e1, e2, e3⟩ := atI_get (ys := List.map V.int ‹List Int›) (by simp) h1
    rw [List.getElem?_map, e1] at e2
    cases e2
    exact .inl ⟨a, _, _, _, rfl, rfl, Same.seq i.same ha, e3, fin _ _ H h2 .int⟩
  · exact g.elim
theorem sIx_cut {α : Type} {xs : List α} {lo hi : Option Int} (h : HT.sIx xs.length 0 lo = 0 ∧ HT.sIx xs.length xs.length hi = xs.length) : cutD xs lo hi = xs := by
  unfold cutD
  rw [h.1, h.2]
  simp
theorem RpL.cut {H : Hp} {F : FH} {xs : List D} {vs : List V} (lo hi : Option Int) (h : RpL K H F xs vs) : RpL K H F (cutD xs lo hi) (cutV vs lo hi) := by
  unfold cutD cutV
  rw [h.length]
  exact (h.drop _).take _
def rSlD (K : PySem.W.Frag) : V → Option Int → Option Int → Hp → VK → Prop := fun x lo hi H Q => rSlL K x lo hi H Q ∨ (rSlA K x lo hi H Q ∨ rSlS x lo hi H Q)
theorem sl_D {X : Cx} : SlR X (rSlD X.K) := sl_list.or (sl_tupA.or sl_str)
theorem slv_D : SlV K (rSlD K) := by
  intro x lo hi vx c F H k Q i hx g fin
  unfold slD at g
  split at g
  · obtain ⟨a, vs, rfl, ha, r⟩ := hx
    exact .inl ⟨a, vs, rfl, .inl (.inl ha), fun p hp => fin _ _ _ g (.newL (RpL.cut lo hi r) hp)⟩
  · obtain ⟨a, vs, rfl, ha, r⟩ := rs_tup hx
    refine .inr (.inl ⟨a, vs, rfl, Same.seqT i.same ha, fun hw => ?_, fun _ p hp => fin _ _ _ g (.newT i (RpL.cut lo hi r) hp)⟩)
    refine fin _ _ H g (.old (rf_tup.mpr ⟨a, vs, rfl, ha, ?_⟩))
    rw [sIx_cut (by rw [RpL.length r]; exact hw)]
    exact r
  · rw [rs_str hx]
    exact .inr (.inr ⟨_, rfl, Nat.le_trans g.1 lim_line, fin _ _ H g.2 .str⟩)
  · exact g.elim
end
/-! ### built-ins by values -/
section
variable {K : PySem.W.Frag} {X : Cx}
def rLenD (K : PySem.W.Frag) : List V → Hp → VK → Prop := fun xs H Q => (∃ p ys, xs = [.ref p] ∧ (SqL K H p ys ∨ SqT K H p ys) ∧ Q (.int ys.length) H) ∨ (∃ z, xs = [.str z] ∧ z.length ≤ sizeLine ∧ Q (.int z.length) H)
theorem c_len : CallR X (.builtin "len") (rLenD X.K) := call_len_seq.or call_len_str
theorem p1 {F : FH} {H : Hp} {d : D} {vs : List V} (h : Paired (fun d v => RpS K H F d v) [d] vs) : ∃ v, vs = [v] ∧ RpS K H F d v := by
  cases h with
  | cons a b => cases b; exact ⟨_, rfl, a⟩
theorem p2 {F : FH} {H : Hp} {d e : D} {vs : List V} (h : Paired (fun d v => RpS K H F d v) [d, e] vs) : ∃ v w, vs = [v, w] ∧ RpS K H F d v ∧ RpS K H F e w := by
  cases h with
  | cons a b =>
    obtain ⟨w, rfl, r⟩ := p1 b
    exact ⟨_, w, rfl, a, r⟩
theorem bv_len : BiV K (rLenD K) .len := by
  intro xs vs c F H k Q i hp g fin
  unfold biD at g
  split at g <;> first | exact g.elim | cases ‹Bi.len = _› | skip
  · obtain ⟨v, rfl, r⟩ := p1 hp
    obtain ⟨a, ws, rfl, ha, rr⟩ := r
    exact .inl ⟨a, ws, rfl, .inl (.inl (.inl ha)), by rw [← RpL.length rr]; exact fin _ _ H g .int⟩
  · obtain ⟨v, rfl, r⟩ := p1 hp
    obtain ⟨a, ws, rfl, ha, rr⟩ := rs_tup r
    exact .inl ⟨a, ws, rfl, .inr (Same.seqT i.same ha), by rw [← RpL.length rr]; exact fin _ _ H g .int⟩
  · obtain ⟨v, rfl, r⟩ := p1 hp
    rw [rs_str r]
    exact .inr ⟨_, rfl, Nat.le_trans g.1 lim_line, fin _ _ H g.2 .int⟩
  · obtain ⟨v, rfl, r⟩ := p1 hp
    obtain ⟨a, rfl, ha⟩ := rs_scr r
    exact .inl ⟨a, _, rfl, .inl (Same.seq i.same ha), by rw [List.length_map]; exact fin _ _ H g .int⟩
def rTupD (K : PySem.W.Frag) : List V → Hp → VK → Prop := fun xs H Q => ∃ p ys, xs = [.ref p] ∧ ((SqL K H p ys ∧ ∀ l, H l = none → Q (.ref l) (upd H l (.tup ys))) ∨ (SqT K H p ys ∧ Q (.ref p) H))
theorem bv_tuple : BiV K (rTupD K) .tuple_ := by
  intro xs vs c F H k Q i hp g fin
  unfold biD at g
  split at g <;> first | exact g.elim | cases ‹Bi.tuple_ = _› | skip
  · obtain ⟨v, rfl, r⟩ := p1 hp
    obtain ⟨a, ws, rfl, ha, rr⟩ := r
    exact ⟨a, ws, rfl, .inl ⟨.inl (.inl ha), fun p h => fin _ _ _ g (.newT i rr h)⟩⟩
  · obtain ⟨v, rfl, r⟩ := p1 hp
    obtain ⟨a, ws, rfl, ha, rr⟩ := rs_tup r
    exact ⟨a, ws, rfl, .inr ⟨Same.seqT i.same ha, fin _ _ H g (.old r)⟩⟩
def rLstD (K : PySem.W.Frag) : List V → Hp → VK → Prop := fun xs H Q => ∃ p ys, xs = [.ref p] ∧ (SqL K H p ys ∨ SqT K H p ys) ∧ ∀ l, H l = none → Q (.ref l) (upd H l (.lst ys))
theorem bv_list : BiV K (rLstD K) .list_ := by
  intro xs vs c F H k Q i hp g fin
  unfold biD at g
  split at g <;> first | exact g.elim | cases ‹Bi.list_ = _› | skip
  · obtain ⟨v, rfl, r⟩ := p1 hp
    obtain ⟨a, ws, rfl, ha, rr⟩ := r
    exact ⟨a, ws, rfl, .inl (.inl (.inl ha)), fun p h => fin _ _ _ g (.newL rr h)⟩
  · obtain ⟨v, rfl, r⟩ := p1 hp
    obtain ⟨a, ws, rfl, ha, rr⟩ := rs_tup r
    exact ⟨a, ws, rfl, .inr (Same.seqT i.same ha), fun p h => fin _ _ _ g (.newL rr h)⟩
theorem ints_vs {F : FH} {H : Hp} : ∀ {xs : List D} {ns : List Int} {vs : List V}, ints? xs = some ns → RpL K H F xs vs → vs = ns.map V.int
  | [], ns, vs, h, r => by rw [r.nil_inv]; cases h; rfl
  | .int i :: xs, ns, vs, h, r => by
    obtain ⟨v, ws, rfl, a, b⟩ := r.uncons
    simp only [ints?, Option.map_eq_some_iff] at h
    obtain ⟨ms, h1, rfl⟩ := h
    rw [Rp] at a
    rw [a, ints_vs h1 b]
    rfl
  | .non :: xs, ns, vs, h, r => by simp [ints?] at h
  | .bl _ :: xs, ns, vs, h, r => by simp [ints?] at h
  | .str _ :: xs, ns, vs, h, r => by simp [ints?] at h
  | .tup _ :: xs, ns, vs, h, r => by simp [ints?] at h
  | .lst _ :: xs, ns, vs, h, r => by simp [ints?] at h
  | .dic _ _ :: xs, ns, vs, h, r => by simp [ints?] at h
  | .scr _ :: xs, ns, vs, h, r => by simp [ints?] at h
  | .opq _ _ :: xs, ns, vs, h, r => by simp [ints?] at h
theorem bools_vs {F : FH} {H : Hp} : ∀ {xs : List D} {ns : List Bool} {vs : List V}, bools? xs = some ns → RpL K H F xs vs → vs = ns.map V.bl
  | [], ns, vs, h, r => by rw [r.nil_inv]; cases h; rfl
  | .bl i :: xs, ns, vs, h, r => by
    obtain ⟨v, ws, rfl, a, b⟩ := r.uncons
    simp only [bools?, Option.map_eq_some_iff] at h
    obtain ⟨ms, h1, rfl⟩ := h
    rw [Rp] at a
    rw [a, bools_vs h1 b]
    rfl
  | .non :: xs, ns, vs, h, r => by simp [bools?] at h
  | .int _ :: xs, ns, vs, h, r => by simp [bools?] at h
  | .str _ :: xs, ns, vs, h, r => by simp [bools?] at h
  | .tup _ :: xs, ns, vs, h, r => by simp [bools?] at h
  | .lst _ :: xs, ns, vs, h, r => by simp [bools?] at h
  | .dic _ _ :: xs, ns, vs, h, r => by simp [bools?] at h
  | .scr _ :: xs, ns, vs, h, r => by simp [bools?] at h
  | .opq _ _ :: xs, ns, vs, h, r => by simp [bools?] at h
theorem bv_sum : BiV K (rSum K) .sum_ := by
  intro xs vs c F H k Q i hp g fin
  unfold biD at g
  split at g <;> first | exact g.elim | cases ‹Bi.sum_ = _› | skip
  obtain ⟨v, rfl, r⟩ := p1 hp
  obtain ⟨a, ws, rfl, ha, rr⟩ := r
  obtain ⟨ns, h1, h2⟩ := g
  have e := ints_vs h1 rr
  subst e
  exact ⟨a, ns, rfl, .inl (.inl ha), fin _ _ H h2 .int⟩
theorem bv_all : BiV K (rAll K) .all_ := by
  intro xs vs c F H k Q i hp g fin
  unfold biD at g
  split at g <;> first | exact g.elim | cases ‹Bi.all_ = _› | skip
  obtain ⟨v, rfl, r⟩ := p1 hp
  obtain ⟨a, ws, rfl, ha, rr⟩ := r
  obtain ⟨ns, h1, h2⟩ := g
  have e := bools_vs h1 rr
  subst e
  exact ⟨a, ns, rfl, .inl (.inl ha), fin _ _ H h2 .bl⟩
theorem bv_any : BiV K (rAny K) .any_ := by
  intro xs vs c F H k Q i hp g fin
  unfold biD at g
  split at g <;> first | exact g.elim | cases ‹Bi.any_ = _› | skip
  obtain ⟨v, rfl, r⟩ := p1 hp
  obtain ⟨a, ws, rfl, ha, rr⟩ := r
  obtain ⟨ns, h1, h2⟩ := g
  have e := bools_vs h1 rr
  subst e
  exact ⟨a, ns, rfl, .inl (.inl ha), fin _ _ H h2 .bl⟩
theorem bv_max2 : BiV K (fun xs H Q => ∃ i j, xs = [.int i, .int j] ∧ Q (.int (if j > i then j else i)) H) .max2 := by
  intro xs vs c F H k Q i hp g fin
  unfold biD at g
  split at g <;> first | exact g.elim | cases ‹Bi.max2 = _› | skip
  obtain ⟨v, w, rfl, r, r'⟩ := p2 hp
  rw [rs_int r, rs_int r']
  exact ⟨_, _, rfl, fin _ _ H g .int⟩
theorem bv_min2 : BiV K (fun xs H Q => ∃ i j, xs = [.int i, .int j] ∧ Q (.int (if j < i then j else i)) H) .min2 := by
  intro xs vs c F H k Q i hp g fin
  unfold biD at g
  split at g <;> first | exact g.elim | cases ‹Bi.min2 = _› | skip
  obtain ⟨v, w, rfl, r, r'⟩ := p2 hp
  rw [rs_int r, rs_int r']
  exact ⟨_, _, rfl, fin _ _ H g .int⟩
theorem bv_abs : BiV K (fun xs H Q => ∃ i, xs = [.int i] ∧ Q (.int (if i < 0 then -i else i)) H) .abs_ := by
  intro xs vs c F H k Q i hp g fin
  unfold biD at g
  split at g <;> first | exact g.elim | cases ‹Bi.abs_ = _› | skip
  obtain ⟨v, rfl, r⟩ := p1 hp
  rw [rs_int r]
  exact ⟨_, rfl, fin _ _ H g .int⟩
theorem bv_int : BiV K (fun xs H Q => (∃ i, xs = [.int i] ∧ Q (.int i) H) ∨ ∃ k, xs = [.bl k] ∧ Q (.int (if k then 1 else 0)) H) .int_ := by
  intro xs vs c F H k Q i hp g fin
  unfold biD at g
  split at g <;> first | exact g.elim | cases ‹Bi.int_ = _› | skip
  · obtain ⟨v, rfl, r⟩ := p1 hp
    rw [rs_int r]
    exact .inl ⟨_, rfl, fin _ _ H g .int⟩
  · obtain ⟨v, rfl, r⟩ := p1 hp
    rw [rs_bl r]
    exact .inr ⟨_, rfl, fin _ _ H g .int⟩
/-! isinstance -/
theorem tyx_of {F : FH} {H : Hp} {d : D} {v : V} {t : TyS} {b : Bool} (r : Rp K H F d v) (s : ∀ a u, hpo F a = some u → H a = some u) (h : isiD t d = some b) : ∃ n : String, TyX K H v (.type n) ∧
    ((n = "NoneType" ∧ d.isNon = true) ∨ (n = "bool" ∧ ∃ x, d = .bl x) ∨ (n = "int" ∧ ∃ x, d = .int x) ∨ (n = "str" ∧ ∃ x, d = .str x) ∨ (n = "tuple" ∧ ∃ x, d = .tup x) ∨ (n = "list" ∧ ∃ x, d = .lst x)) := by
  cases d with
  | non => rw [Rp] at r; subst r; exact ⟨_, .base .non, .inl ⟨rfl, rfl⟩⟩
  | bl x => rw [Rp] at r; subst r; exact ⟨_, .base (.bl x), .inr (.inl ⟨rfl, x, rfl⟩)⟩
  | int x => rw [Rp] at r; subst r; exact ⟨_, .base (.int x), .inr (.inr (.inl ⟨rfl, x, rfl⟩))⟩
  | str x => rw [Rp] at r; subst r; exact ⟨_, .base (.str x), .inr (.inr (.inr (.inl ⟨rfl, x, rfl⟩)))⟩
  | tup x =>
    rw [Rp] at r
    obtain ⟨a, vs, rfl, ha, _⟩ := r
    refine ⟨"tuple", ?_, .inr (.inr (.inr (.inr (.inl ⟨rfl, x, rfl⟩))))⟩
    rcases ha with (ha | ⟨o, ha⟩) | ⟨o, its, n, ha, hc, _⟩
    · exact .base (.tup ha)
    · exact .fTuple ha
    · exact .kTuple ha hc
  | lst x =>
    rw [Rp] at r
    obtain ⟨a, vs, rfl, ha, _⟩ := r
    exact ⟨"list", .base (.lst ha), .inr (.inr (.inr (.inr (.inr ⟨rfl, x, rfl⟩))))⟩
  | dic x y => cases h
  | scr x => cases h
  | opq x y => cases h
end
end DL

/-! DM: isinstance. -/
namespace DL
open PySem PySem.Spec PyProof.Rows L2
def TyS.nm : TyS → String
  | .int_ => "int" | .bool_ => "bool" | .str_ => "str" | .tuple_ => "tuple" | .list_ => "list" | .lort => "tuple"
theorem kits (t : TyS) (ht : t.lst? = false ∨ t.tup? = false) : kitB "NoneType" t.nm = some false ∧ kitB "bool" t.nm = some t.bool? ∧ kitB "int" t.nm = some t.int? ∧ kitB "str" t.nm = some t.str? ∧ kitB "tuple" t.nm = some t.tup? ∧ kitB "list" t.nm = some t.lst? := by
  cases t with
  | lort => rcases ht with h | h <;> cases h
  | _ => refine ⟨?_, ?_, ?_, ?_, ?_, ?_⟩ <;> decide +kernel
section
variable {K : PySem.W.Frag} {X : Cx} {F : FH} {H : Hp} {d : D} {v : V} {t : TyS} {b : Bool}
theorem isi_one (ht : t.lst? = false ∨ t.tup? = false) (r : Rp K H F d v) (s : ∀ a u, hpo F a = some u → H a = some u) (h : isiD t d = some b) : ∃ tv : Value, TyX K H v tv ∧ PySem.W.kitOne K tv (.type t.nm) = some b := by
  obtain ⟨n, h1, h2⟩ := tyx_of r s h
  obtain ⟨k1, k2, k3, k4, k5, k6⟩ := kits t ht
  refine ⟨.type n, h1, kit_ty ?_⟩
  rcases h2 with ⟨rfl, e⟩ | ⟨rfl, x, rfl⟩ | ⟨rfl, x, rfl⟩ | ⟨rfl, x, rfl⟩ | ⟨rfl, x, rfl⟩ | ⟨rfl, x, rfl⟩
  · cases d <;> first | cases e | skip
    cases h; exact k1
  · cases h; exact k2
  · cases h; exact k3
  · cases h; exact k4
  · cases h; exact k5
  · cases h; exact k6
theorem lort_kits : kitB "NoneType" "list" = some false ∧ kitB "NoneType" "tuple" = some false ∧ kitB "bool" "list" = some false ∧ kitB "bool" "tuple" = some false ∧ kitB "int" "list" = some false ∧ kitB "int" "tuple" = some false ∧
    kitB "str" "list" = some false ∧ kitB "str" "tuple" = some false ∧ kitB "tuple" "list" = some false ∧ kitB "tuple" "tuple" = some true ∧ kitB "list" "list" = some true := by
  refine ⟨?_, ?_, ?_, ?_, ?_, ?_, ?_, ?_, ?_, ?_, ?_⟩ <;> decide +kernel
theorem isi_two (r : Rp K H F d v) (s : ∀ a u, hpo F a = some u → H a = some u) (h : isiD .lort d = some b) : ∃ tv : Value, TyX K H v tv ∧ PySem.W.kitAny K tv [.type "list", .type "tuple"] = some b := by
  obtain ⟨n, h1, h2⟩ := tyx_of r s h
  obtain ⟨k1, k2, k3, k4, k5, k6, k7, k8, k9, k10, k11⟩ := lort_kits
  have no : ∀ n : String, kitB n "list" = some false → kitB n "tuple" = some false → PySem.W.kitAny K (.type n) [.type "list", .type "tuple"] = some false := fun n a b =>
    kitAny_cons (kit_ty a) (fun _ => kitAny_cons (kit_ty b) (fun _ => kitAny_nil) fun h => nomatch h) fun h => nomatch h
  refine ⟨.type n, h1, ?_⟩
  rcases h2 with ⟨rfl, e⟩ | ⟨rfl, x, rfl⟩ | ⟨rfl, x, rfl⟩ | ⟨rfl, x, rfl⟩ | ⟨rfl, x, rfl⟩ | ⟨rfl, x, rfl⟩
  · cases d <;> first | cases e | skip
    cases h; exact no _ k1 k2
  · cases h; exact no _ k3 k4
  · cases h; exact no _ k5 k6
  · cases h; exact no _ k7 k8
  · cases h; exact kitAny_cons (kit_ty k9) (fun _ => kitAny_cons (r := true) (kit_ty k10) (fun h => nomatch h) fun _ => rfl) fun h => nomatch h
  · cases h; exact kitAny_cons (kit_ty k11) (fun h => nomatch h) fun _ => rfl
end
section
variable {X : Cx} {a : Expr} {sa : SE} {pos p p2 q1 q2 q3 : Pos} {t : TyS} {x : Str} {k : Nat}
theorem de_isi (hg : Gl X "isinstance") (hm : X.mg "isinstance" = none) (ha : DO X a sa) (ht : t.lst? = false ∨ t.tup? = false) (gt : Gl X x) (mt : X.mg x = none) (bt : bootBuiltins x = some (.type t.nm)) (hn : x ≠ "__name__" := by decide) (hdb : (x == ("__debug__" : Str)) = false := by decide)
    (h1 : starEach [a, .Name x q1] X.env = (false, eval a X.env) :: starEach [.Name x q1] X.env := by rfl) (h2 : starEach [.Name x q1] X.env = (false, eval (.Name x q1) X.env) :: starEach [] X.env := by rfl) (hpl : (backTo pos (starEach [.Name x q1] X.env)).any (·.1) = false := by rfl) :
    DE X (.Call (.Name "isinstance" p) [a, .Name x q1] [] pos) (.isi sa t) := by
  have hty : PE X (.Name x q1) (tC (.ty t.nm)) := pe_bltn gt mt bt rfl hn hdb
  refine (pe_callB call_isi hg hm PyProof.Rows.boot_isinstance (pa_cons ha (pa_cons hty pa_nil h2) h1) (by decide) (by decide) h1 hpl).mono fun σ H Q ⟨e, H0, F0, Γ, F, c, T, k, xo, ok, hc, hw, fin⟩ => ?_
  have hw : wpE e (.isi sa t) Γ k := hw
  rw [wpE] at hw
  rw [show costE (.isi sa t) = costE sa by rw [costE]] at hc fin
  refine ⟨e, H0, F0, Γ, F, c, T, _, xo, ok, hc, hw, fun ox Γ1 F1 c1 v H1 T1 q1 hc1 l1 ok1 r1 => ?_⟩
  obtain ⟨d, ed, q1⟩ := osw_inv q1
  have hx := ok1.ob r1 (fun p hp => by simp [hp]) ed
  split at q1
  · rename_i b hb
    obtain ⟨tv, k1, k2⟩ := isi_one ht hx ok1.1.ini.same hb
    exact ⟨v, .ty t.nm, tv, _, b, rfl, .ty _, k1, k2, fin _ Γ1 F1 c1 _ H1 [] q1 hc1 l1 ok1.none_left (.of_fz (rf_bl.mpr rfl))⟩
  · exact q1.elim
theorem de_isi2 (hg : Gl X "isinstance") (hm : X.mg "isinstance" = none) (ha : DO X a sa) (gl : Gl X "list") (ml : X.mg "list" = none) (gt : Gl X "tuple") (mt : X.mg "tuple" = none)
    (h1 : starEach [a, .Tuple [.Name "list" q1, .Name "tuple" q2] k q3] X.env = (false, eval a X.env) :: starEach [.Tuple [.Name "list" q1, .Name "tuple" q2] k q3] X.env := by rfl)
    (h2 : starEach [.Tuple [.Name "list" q1, .Name "tuple" q2] k q3] X.env = (false, eval (.Tuple [.Name "list" q1, .Name "tuple" q2] k q3) X.env) :: starEach [] X.env := by rfl)
    (h3 : starEach [.Name "list" q1, .Name "tuple" q2] X.env = (false, eval (.Name "list" q1) X.env) :: starEach [.Name "tuple" q2] X.env := by rfl) (h4 : starEach [.Name "tuple" q2] X.env = (false, eval (.Name "tuple" q2) X.env) :: starEach [] X.env := by rfl)
    (hpl : (backTo pos (starEach [.Tuple [.Name "list" q1, .Name "tuple" q2] k q3] X.env)).any (·.1) = false := by rfl) :
    DE X (.Call (.Name "isinstance" p) [a, .Tuple [.Name "list" q1, .Name "tuple" q2] k q3] [] pos) (.isi sa .lort) := by
  have hl : PE X (.Name "list" q1) (tC (.ty "list")) := pe_bltn gl ml PyProof.Rows.boot_list rfl
  have ht : PE X (.Name "tuple" q2) (tC (.ty "tuple")) := pe_bltn gt mt PyProof.Rows.boot_tuple rfl
  refine (pe_callB call_isiT hg hm PyProof.Rows.boot_isinstance (pa_cons ha (pa_cons (pe_tup (pa_cons hl (pa_cons ht pa_nil h4) h3)) pa_nil h2) h1) (by decide) (by decide) h1 hpl).mono fun σ H Q ⟨e, H0, F0, Γ, F, c, T, k, xo, ok, hc, hw, fin⟩ => ?_
  have hw : wpE e (.isi sa .lort) Γ k := hw
  rw [wpE] at hw
  rw [show costE (.isi sa .lort) = costE sa by rw [costE]] at hc fin
  refine ⟨e, H0, F0, Γ, F, c, T, _, xo, ok, hc, hw, fun ox Γ1 F1 c1 v H1 T1 q1 hc1 l1 ok1 r1 => ⟨Nat.le_trans (by decide) lim_line, fun tp htp => ?_⟩⟩
  obtain ⟨d, ed, q1⟩ := osw_inv q1
  have ok2 : EOk X.K H0 F0 c1 Γ1 F1 σ (upd H1 tp (.tup [.ty "list", .ty "tuple"])) ((tp, .tup [.ty "list", .ty "tuple"]) :: (T1 ++ T)) := ok1.new htp
  have hx := ok2.ob r1 (fun p hp => by simp [hp]) ed
  split at q1
  · rename_i b hb
    obtain ⟨tv, k1, k2⟩ := isi_two hx ok2.1.ini.same hb
    exact ⟨v, tp, [.ty "list", .ty "tuple"], tv, [.type "list", .type "tuple"], b, rfl, upd_same, .cons (.ty _) (.cons (.ty _) .nil), k1, k2, fin _ Γ1 F1 c1 _ _ [] q1 hc1 l1 (ok2.drop (T1 := T) ((List.sublist_append_right T1 T).cons _)) (.of_fz (rf_bl.mpr rfl))⟩
  · exact q1.elim
end
end DL

/-! DN: small things that remained: one of and/or, x op= y. -/
namespace DL
open PySem PySem.Spec PyProof.Rows L2
section
variable {X : Cx} {a b : Expr} {sa sb : SE} {pos : Pos} {op : PySem.BoolOp}
theorem de_gint {x : Str} {i : Int} {t : Tok} (hg : Gl X x) (hm : X.mg x = some (.int i t)) (hdb : (x == ("__debug__" : Str)) = false := by decide) : DE X (.Name x pos) (.cst (.int i)) := de_cst (pe_glob (v := .int i) hg hm ⟨t, rfl⟩ hdb) fun F => rf_int.mpr rfl
theorem de_gstr {x : Str} {i : Str} {t : Tok} (hg : Gl X x) (hm : X.mg x = some (.str i t)) (hdb : (x == ("__debug__" : Str)) = false := by decide) : DE X (.Name x pos) (.cst (.str i)) := de_cst (pe_glob (v := .str i) hg hm ⟨t, rfl⟩ hdb) fun F => rf_str.mpr rfl
theorem de_one (h : DE X a sa) : DE X (.BoolOp op [a] pos) sa := pe_one h
def rMulI : R2 := fun x y H Q => rI CMul (fun i j => .int (i * j)) x y H Q ∨ rI CMulW (fun i j => .int (i * j)) x y H Q
theorem iop_mulW : OpR X (inplaceOp .Mult) (rI CMulW fun i j => .int (i * j)) := opI fun _ _ _ _ _ _ _ hc q => imul_int q hc.ok
theorem iop_fdivW : OpR X (inplaceOp .FloorDiv) (rI CDivW fun i j => .int (i / j)) := opI fun i j _ _ _ _ _ hc q => by
  have hj : (0 : Int) < j := hc.1
  exact ifloordiv_int (by omega) (by rw [Int.fdiv_eq_ediv_of_nonneg i (by omega)]; exact q) (.inl (PyProof.noPylong_of_log2 hc.2))
theorem ip_addA : PIp X .Add (rI0 fun i j => .int (i + j)) := iop_add
theorem ip_subA : PIp X .Sub (rI0 fun i j => .int (i - j)) := iop_sub
theorem ip_mulA : PIp X .Mult rMulI := iop_mul.or iop_mulW
theorem ip_fdivA : PIp X .FloorDiv (rI CDivW fun i j => .int (i / j)) := iop_fdivW
theorem ip_modA : PIp X .Mod (rI (fun _ j => 0 < j) fun i j => .int (i % j)) := iop_mod
end
section
variable {K : PySem.W.Frag}
theorem mul_ok {i j : Int} (h : mulOk i j) : CMul i j ∨ CMulW i j := by
  rcases h with h | h | h
  · exact .inl (.inl h)
  · exact .inl (.inr h)
  · exact .inr (wide_mul (a := 10000) (b := 10000) h.1 h.2 (by omega) (by omega) (by omega))
theorem oa_add : OpV K (rI0 fun i j => .int (i + j)) (augD .add) := by
  intro x y vx vy c F H k Q i hx hy g fin
  unfold augD at g
  split at g <;> first | exact g.elim | (rename_i q; cases q; done) | skip
  rw [rs_int hx, rs_int hy]
  exact ⟨_, _, rfl, rfl, fin _ _ H g .int⟩
theorem oa_sub : OpV K (rI0 fun i j => .int (i - j)) (augD .sub) := by
  intro x y vx vy c F H k Q i hx hy g fin
  unfold augD at g
  split at g <;> first | exact g.elim | (rename_i q; cases q; done) | skip
  rw [rs_int hx, rs_int hy]
  exact ⟨_, _, rfl, rfl, fin _ _ H g .int⟩
theorem oa_mul : OpV K rMulI (augD .mul) := by
  intro x y vx vy c F H k Q i hx hy g fin
  unfold augD at g
  split at g <;> first | exact g.elim | (rename_i q; cases q; done) | skip
  rw [rs_int hx, rs_int hy]
  rcases mul_ok g.1 with h | h
  · exact .inl ⟨_, _, rfl, rfl, h, fin _ _ H g.2 .int⟩
  · exact .inr ⟨_, _, rfl, rfl, h, fin _ _ H g.2 .int⟩
theorem oa_fdiv : OpV K (rI CDivW fun i j => .int (i / j)) (augD .fdiv) := by
  intro x y vx vy c F H k Q i hx hy g fin
  unfold augD at g
  split at g <;> first | exact g.elim | (rename_i q; cases q; done) | skip
  rw [rs_int hx, rs_int hy]
  exact ⟨_, _, rfl, rfl, wide_div (b := 8000) g.1 g.2.1 (by omega) (by omega), fin _ _ H g.2.2 .int⟩
theorem oa_mod : OpV K (rI (fun _ j => 0 < j) fun i j => .int (i % j)) (augD .mod) := by
  intro x y vx vy c F H k Q i hx hy g fin
  unfold augD at g
  split at g <;> first | exact g.elim | (rename_i q; cases q; done) | skip
  rw [rs_int hx, rs_int hy]
  exact ⟨_, _, rfl, rfl, g.1, fin _ _ H g.2 .int⟩
end
end DL

/-! DO: zip of two (each a list or a tuple), enumerate of a list or a tuple. -/
namespace DL
open PySem PySem.Spec PyProof.Rows L2

/-- true: a list, false: a tuple -/
def Sq (K : PySem.W.Frag) (l : Bool) (H : Hp) (a : Addr) (xs : List V) : Prop := match l with
  | true => SqL K H a xs
  | false => SqT K H a xs
def SI (l : Bool) (h : Heap) (it a : Addr) (i : Nat) : Prop := match l with
  | true => h.IsListIter it a i
  | false => h.IsTupleIter it a i
def IsS (l : Bool) (h : Heap) (a : Addr) (items : Array Value) : Prop := match l with
  | true => h.IsList a items
  | false => h.IsTuple a items
theorem IsS.push {l : Bool} {h : Heap} {a : Addr} {items : Array Value} (x : IsS l h a items) (o : Obj) : IsS l (h.push o) a items := by
  cases l with
  | true => obtain ⟨ob, e, r⟩ := (show h.IsList a items from x); exact ⟨ob, Heap.get?_push_of_some _ e, r⟩
  | false => exact Heap.IsTuple.push (show h.IsTuple a items from x) _
theorem IsS.lt {l : Bool} {h : Heap} {a : Addr} {items : Array Value} (x : IsS l h a items) : a < h.objs.size := by
  cases l with
  | true => obtain ⟨ob, e, r⟩ := (show h.IsList a items from x); exact Heap.lt_size e
  | false => obtain ⟨ob, e, r⟩ := (show h.IsTuple a items from x); exact Heap.lt_size e
theorem inv_sq {X : Cx} {pins : List (Addr × Obj)} {σ : L2.St} {H : Hp} {s : Shared} {l : Bool} {a : Addr} {xs : List V} (I : Inv X pins σ H s) (h : Sq X.K l H a xs) : ∃ its : List Value, Vals xs its ∧ IsS l s.heap a its.toArray ∧ xs.length ≤ sizeLine := by
  cases l with
  | true => obtain ⟨its, r, p, z⟩ := I.list h; exact ⟨its, r, p.isList, z⟩
  | false => obtain ⟨its, r, p, z⟩ := I.tuple h; exact ⟨its, r, p, z⟩
theorem sq_inj {X : Cx} {pins : List (Addr × Obj)} {σ : L2.St} {H : Hp} {s : Shared} {l : Bool} {a : Addr} {xs ys : List V} (I : Inv X pins σ H s) (h : Sq X.K l H a xs) (h' : Sq X.K l H a ys) : xs = ys := by
  cases l with
  | true => exact I.list_inj h h'
  | false => exact I.tuple_inj h h'
theorem si_draws {prog : Program} {w : World} {A : Around} (hh : A.handled = none) (l : Bool) (it a : Addr) (hne : a ≠ it) (items : Array Value) :
    Draws prog w A it [it, a] items.size (fun i v => items[i]? = some v) (fun i h => SI l h it a i ∧ IsS l h a items) := by
  cases l with
  | true => exact .list hh it a hne items
  | false => exact .tuple hh it a hne items
theorem SI.at {l : Bool} {h h' : Heap} {it a : Addr} {i : Nat} (x : SI l h it a i) (k : ∀ o, h.get? it = some o → h'.get? it = some o) : SI l h' it a i := by
  cases l with
  | true => exact Heap.IsListIter.at (show h.IsListIter it a i from x) k
  | false => exact Heap.IsTupleIter.at (show h.IsTupleIter it a i from x) k
theorem SI.obj {l : Bool} {h : Heap} {it a : Addr} {i : Nat} (x : SI l h it a i) : ∃ o, h.get? it = some o ∧ ∀ v, o.data ≠ .cell v := by
  cases l with
  | true => obtain ⟨o, e, _, d⟩ := (show h.IsListIter it a i from x); exact ⟨o, e, fun v z => by rw [d] at z; cases z⟩
  | false => obtain ⟨o, e, _, d⟩ := (show h.IsTupleIter it a i from x); exact ⟨o, e, fun v z => by rw [d] at z; cases z⟩
def ItzM (K : PySem.W.Frag) (l1 l2 : Bool) (a b : Addr) : It :=
  ⟨fun i H => ∃ (xs ys : List V) (x y : V), Sq K l1 H a xs ∧ Sq K l2 H b ys ∧ xs[i]? = some x ∧ ys[i]? = some y,
    fun i H v H' => ∃ T x y, v = .ref T ∧ H T = none ∧ H' = upd H T (.tup [x, y]) ∧ (∀ xs, Sq K l1 H a xs → xs[i]? = some x) ∧ ∀ ys, Sq K l2 H b ys → ys[i]? = some y,
    fun i H => ∃ xs ys : List V, Sq K l1 H a xs ∧ Sq K l2 H b ys ∧ i ≤ xs.length ∧ i ≤ ys.length ∧ (i = xs.length ∨ i = ys.length)⟩
theorem zsep {z TI TO i1 i2 a b : Addr} (D : ZipApart z TI TO i1 i2 a b) : ZipSep2 z TI TO i1 i2 [i1, a] [i2, b] where
  TIz := D.TIz
  TOz := D.TOz
  TITO := D.TITO
  TIi1 := D.TIi1
  mem1 := by simp
  zf1 := fun h => by
    rcases List.mem_cons.mp h with e | h
    · exact D.i1z e.symm
    · exact D.l1z (List.mem_singleton.mp h).symm
  Tf1 := fun h => by
    rcases List.mem_cons.mp h with e | h
    · exact D.TOi1 e
    · exact D.l1TO (List.mem_singleton.mp h).symm
  TIi2 := D.TIi2
  mem2 := by simp
  zf2 := fun h => by
    rcases List.mem_cons.mp h with e | h
    · exact D.i2z e.symm
    · exact D.l2z (List.mem_singleton.mp h).symm
  Tf2 := fun h => by
    rcases List.mem_cons.mp h with e | h
    · exact D.TOi2 e
    · exact D.l2TO (List.mem_singleton.mp h).symm
  sep1_2 := fun h => by
    rcases List.mem_cons.mp h with e | h
    · exact D.i12 e
    · exact D.l2i1 (List.mem_singleton.mp h).symm
  sep2_1 := fun h => by
    rcases List.mem_cons.mp h with e | h
    · exact D.i12 e.symm
    · exact D.l1i2 (List.mem_singleton.mp h).symm
theorem turn_zipM {P : Program} {w : World} {K : PySem.W.Frag} {elts : List Expr} {kk : Nat} {tpos : Pos} {l1 l2 : Bool} {a b z TI TO i1 i2 : Addr} (D : ZipApart z TI TO i1 i2 a b) :
    Turn P w K (.Tuple elts kk tpos) (ItzM K l1 l2 a b) [z, TI, TO, i1, i2] z (fun i h => IsZip h z TI TO .none ∧ IsTupOf2 h TI (.ref i1) (.ref i2) ∧ (∃ x y, IsTupOf2 h TO x y) ∧ SI l1 h i1 a i ∧ SI l2 h i2 b i) where
  mem := by simp
  obj := fun i h st c hcm => by
    obtain ⟨hz, hTI, ⟨x, y, hTO⟩, h1, h2⟩ := st
    have q : c = z ∨ c = TI ∨ c = TO ∨ c = i1 ∨ c = i2 := by simpa using hcm
    rcases q with rfl | rfl | rfl | rfl | rfl
    · exact ⟨_, hz, fun v q => nomatch q⟩
    · exact ⟨_, hTI, fun v q => nomatch q⟩
    · exact ⟨_, hTO, fun v q => nomatch q⟩
    · exact h1.obj
    · exact h2.obj
  keep := fun i h h' st kk => by
    obtain ⟨hz, hTI, ⟨x, y, hTO⟩, h1, h2⟩ := st
    exact ⟨kk z (by simp) _ hz, kk TI (by simp) _ hTI, ⟨x, y, kk TO (by simp) _ hTO⟩, h1.at fun o q => kk i1 (by simp) o q, h2.at fun o q => kk i2 (by simp) o q⟩
  item := by
    intro X hP hw hK hc i pins s σ H E I hf st hg
    subst hP hw hK
    obtain ⟨hz, hTI, ⟨x0, y0, hTO⟩, h1, h2⟩ := st
    obtain ⟨xs, ys, x, y, hqx, hqy, hx, hy⟩ := hg
    obtain ⟨its, rv, p, _⟩ := inv_sq I hqx
    obtain ⟨its2, rv2, p2, _⟩ := inv_sq I hqy
    obtain ⟨u, hu, ru⟩ := rv.get hx
    obtain ⟨u2, hu2, ru2⟩ := rv2.get hy
    have hzl : z < s.heap.objs.size := Heap.lt_size hz
    have n1 : i < its.toArray.size := by rw [List.size_toArray]; exact (List.getElem?_eq_some_iff.mp hu).1
    have n2 : i < its2.toArray.size := by rw [List.size_toArray]; exact (List.getElem?_eq_some_iff.mp hu2).1
    have dr1 := si_draws (prog := X.prog) (w := X.w) (A := X.A.in1) (I.ok.hd hc) l1 i1 a D.l1i1 its.toArray
    have dr2 := si_draws (prog := X.prog) (w := X.w) (A := X.A.in1) (I.ok.hd hc) l2 i2 b D.l2i2 its2.toArray
    refine wpAny_pyNext_zipD2_item (zsep D) dr1 dr2 hz hTI hTO ⟨h1, p⟩ ⟨h2, p2⟩ n1 n2 fun y1 y2 h' tk e1 e2 z' TO' s1' s2' hT hsz hk => ?_
    have w1 : y1 = u := by rw [List.getElem?_toArray, hu] at e1; exact (Option.some.inj e1).symm
    have w2 : y2 = u2 := by rw [List.getElem?_toArray, hu2] at e2; exact (Option.some.inj e2).symm
    subst w1 w2
    refine ⟨_, rfl, wpAny_letOwnedTupleGo_zip (s := { s with heap := h', toks := tk }) z' fun h'' z'' sb => ?_⟩
    have hT2 : h''.get? s.heap.objs.size = some { cls := .type "tuple", data := .seq #[y1, y2] } := (sb.2 _ (Nat.ne_of_gt hzl)).trans hT
    have new : ObjOk X.prog X.w (upd H s.heap.objs.size (.tup [x, y])) h'' s.heap.objs.size (.tup [x, y]) := ⟨by show 2 ≤ sizeLine; decide, [y1, y2], .cons ru (.cons ru2 .nil), ⟨_, hT2, rfl, _, rfl⟩⟩
    have I1 : Inv X pins σ (upd H s.heap.objs.size (.tup [x, y])) { s with heap := h'', toks := tk } :=
      I.turnedNew (t' := tk) (ch := [z, TI, TO, i1, i2]) (fun c o hb q => (sb.2 c (fun r => hb (by simp [r]))).trans (hk c o (fun r => hb (by simp [r])) (fun r => hb (by simp [r])) (fun r => hb (by simp [r])) (fun r => hb (by simp [r])) q)) hf (Nat.le_refl _) new
    refine ⟨.ref s.heap.objs.size, _, I1, rfl, ⟨_, x, y, rfl, I.hok.fresh (Nat.le_refl _), rfl, fun l hl => by rw [sq_inj I hl hqx]; exact hx, fun l hl => by rw [sq_inj I hl hqy]; exact hy⟩, ⟨z'', ?_, ⟨y1, y2, ?_⟩, ?_, ?_⟩, fun c hcm => ?_⟩
    · exact (sb.2 _ D.TIz).trans (hk _ _ D.TIz D.TITO D.TIi1 D.TIi2 hTI)
    · exact (sb.2 _ D.TOz).trans TO'
    · exact s1'.1.at fun o q => (sb.2 _ D.i1z).trans q
    · exact s2'.1.at fun o q => (sb.2 _ D.i2z).trans q
    · have hlt : c < s.heap.objs.size := by
        have q : c = z ∨ c = TI ∨ c = TO ∨ c = i1 ∨ c = i2 := by simpa using hcm
        rcases q with rfl | rfl | rfl | rfl | rfl
        · exact hzl
        · exact Heap.lt_size hTI
        · exact Heap.lt_size hTO
        · obtain ⟨_, q, _⟩ := h1.obj; exact Heap.lt_size q
        · obtain ⟨_, q, _⟩ := h2.obj; exact Heap.lt_size q
      rw [upd_ne (Nat.ne_of_lt hlt)]
      exact (hf c hcm).1
  done := by
    intro X hP hw hK hc i pins s σ H E I hf st hg
    subst hP hw hK
    obtain ⟨hz, hTI, ⟨x0, y0, hTO⟩, h1, h2⟩ := st
    obtain ⟨xs, ys, hqx, hqy, g1, g2, hend⟩ := hg
    obtain ⟨its, rv, p, _⟩ := inv_sq I hqx
    obtain ⟨its2, rv2, p2, _⟩ := inv_sq I hqy
    have e1 := rv.length
    have e2 := rv2.length
    have dr1 := si_draws (prog := X.prog) (w := X.w) (A := X.A.in1) (I.ok.hd hc) l1 i1 a D.l1i1 its.toArray
    have dr2 := si_draws (prog := X.prog) (w := X.w) (A := X.A.in1) (I.ok.hd hc) l2 i2 b D.l2i2 its2.toArray
    refine wpAny_pyNext_zipD2_end (zsep D) dr1 dr2 hz hTI hTO ⟨h1, p⟩ ⟨h2, p2⟩ (by rw [List.size_toArray]; omega) (by rw [List.size_toArray]; omega) (by rw [List.size_toArray, List.size_toArray]; omega) fun h' tk hk => ?_
    exact ⟨rfl, I.turnedL (t' := tk) (ch := [z, TI, TO, i1, i2]) (fun c o hb q => hk c o (fun r => hb (by simp [r])) (fun r => hb (by simp [r])) (fun r => hb (by simp [r])) (fun r => hb (by simp [r])) q) hf⟩
  self := fun A i s Q E st h => wpAny_pyIter_zip st.1 h
/-! the call -/
def itO (l : Bool) (a : Addr) : Obj := { cls := .type (if l = true then "list_iterator" else "tuple_iterator"), data := .fields #[.ref a, .int 0 0] }
theorem pyIter_S {prog : Program} {w : World} {A : Around} {E : Value → Shared → Prop} {s : Shared} {l : Bool} {a : Addr} {items : Array Value} {Q : Value → Shared → Prop} (x : IsS l s.heap a items)
    (hQ : Q (.ref s.heap.objs.size) { s with heap := s.heap.push (itO l a) }) : wpAny (model prog w) A (pyIter (.ref a)) Q E s := by
  cases l with
  | true => exact wpAny_pyIter_list (show s.heap.IsList a items from x) hQ
  | false => exact wpAny_pyIter_tuple (show s.heap.IsTuple a items from x) hQ
abbrev zmH1 (l1 : Bool) (h : Heap) (a : Addr) : Heap := h.push (itO l1 a)
abbrev zmH2 (l1 l2 : Bool) (h : Heap) (a b : Addr) : Heap := (zmH1 l1 h a).push (itO l2 b)
abbrev zmH3 (l1 l2 : Bool) (h : Heap) (a b : Addr) : Heap := (zmH2 l1 l2 h a b).push { cls := .type "tuple", data := .seq #[.ref h.objs.size, .ref (zmH1 l1 h a).objs.size] }
abbrev zmH4 (l1 l2 : Bool) (h : Heap) (a b : Addr) : Heap := (zmH3 l1 l2 h a b).push { cls := .type "tuple", data := .seq #[.none, .none] }
abbrev zmH5 (l1 l2 : Bool) (h : Heap) (a b : Addr) : Heap := (zmH4 l1 l2 h a b).push { cls := .type "zip", data := .fields #[.none, .bool false, .bool false, .ref (zmH2 l1 l2 h a b).objs.size, .ref (zmH3 l1 l2 h a b).objs.size] }
theorem meets_zipM (l1 l2 : Bool) (a b : Addr) (xs ys : Array Value) :
    Meets (Builtin.«zip.__new__» ⟨[.type "zip", .ref a, .ref b], []⟩) (fun _ R s => IsS l1 s.heap a xs ∧ IsS l2 s.heap b ys ∧ R (.ok (.ret (.ref (zmH4 l1 l2 s.heap a b).objs.size))) { s with heap := zmH5 l1 l2 s.heap a b }) :=
  .of_wp fun prog w A R s h => by
    obtain ⟨hp, g, d, tk, os⟩ := s
    obtain ⟨hl1, hl2, h⟩ := h
    have hsub := sub_zip
    have k1 : IsS l1 (Shared.heap ⟨hp, g, d, tk, os⟩) a xs := hl1
    have k2 : IsS l2 (Shared.heap ⟨hp.push (itO l1 a), g, d, tk, os⟩) b ys := IsS.push hl2 _
    wp_walk using pyIter_S k1, pyIter_S k2
    exact ⟨_, rfl, h⟩
theorem si_new (l : Bool) (h : Heap) (a : Addr) (it : Addr) (e : h.get? it = some (itO l a)) : SI l h it a 0 := by
  cases l with
  | true => exact ⟨_, e, rfl, rfl⟩
  | false => exact ⟨_, e, rfl, rfl⟩
theorem call_zipM {prog : Program} {w : World} {A : Around} {E : Value → Shared → Prop} {s : Shared} {l1 l2 : Bool} {a b : Addr} {xs ys : Array Value} {Q : Value → Shared → Prop} (hl1 : IsS l1 s.heap a xs) (hl2 : IsS l2 s.heap b ys)
    (h : ∀ h', IsZip h' (s.heap.objs.size + 4) (s.heap.objs.size + 2) (s.heap.objs.size + 3) .none → IsTupOf2 h' (s.heap.objs.size + 2) (.ref s.heap.objs.size) (.ref (s.heap.objs.size + 1)) →
      IsTupOf2 h' (s.heap.objs.size + 3) .none .none → SI l1 h' s.heap.objs.size a 0 → SI l2 h' (s.heap.objs.size + 1) b 0 → (∀ c o, s.heap.get? c = some o → h'.get? c = some o) → Q (.ref (s.heap.objs.size + 4)) { s with heap := h' }) :
    wpAny (model prog w) A (call (.type "zip") [.ref a, .ref b]) Q E s := by
  refine callType_new F.called_zip (by decide) (F.typeCall_zip_2 _ _) (F.newCall_zip_2 _ _) (fun obj => F.args_object_init_3 obj _ _) F.entry_zip_new (meets_zipM l1 l2 a b xs ys) ⟨hl1, hl2, ?_⟩
  have q1 : (zmH1 l1 s.heap a).objs.size = s.heap.objs.size + 1 := Heap.size_push ..
  have q2 : (zmH2 l1 l2 s.heap a b).objs.size = s.heap.objs.size + 2 := by rw [Heap.size_push, q1]
  have q3 : (zmH3 l1 l2 s.heap a b).objs.size = s.heap.objs.size + 3 := by rw [Heap.size_push, q2]
  have q4 : (zmH4 l1 l2 s.heap a b).objs.size = s.heap.objs.size + 4 := by rw [Heap.size_push, q3]
  have f1 : (itO l1 a).isFreed = false := by cases l1 <;> rfl
  have f2 : (itO l2 b).isFreed = false := by cases l2 <;> rfl
  have g5 : (zmH5 l1 l2 s.heap a b).get? (zmH4 l1 l2 s.heap a b).objs.size = some _ := Heap.get?_push_size _ rfl
  have g4 : (zmH5 l1 l2 s.heap a b).get? (zmH3 l1 l2 s.heap a b).objs.size = some _ := Heap.get?_push_of_some _ (Heap.get?_push_size _ rfl)
  have g3 : (zmH5 l1 l2 s.heap a b).get? (zmH2 l1 l2 s.heap a b).objs.size = some _ := Heap.get?_push_of_some _ (Heap.get?_push_of_some _ (Heap.get?_push_size _ rfl))
  have g2 : (zmH5 l1 l2 s.heap a b).get? (zmH1 l1 s.heap a).objs.size = some (itO l2 b) := Heap.get?_push_of_some _ (Heap.get?_push_of_some _ (Heap.get?_push_of_some _ (Heap.get?_push_size _ f2)))
  have g1 : (zmH5 l1 l2 s.heap a b).get? s.heap.objs.size = some (itO l1 a) := Heap.get?_push_of_some _ (Heap.get?_push_of_some _ (Heap.get?_push_of_some _ (Heap.get?_push_of_some _ (Heap.get?_push_size _ f1))))
  show _ ∧ _
  rw [q2, q3, q4] at g5
  rw [q1, q2] at g3
  rw [q3] at g4
  rw [q1] at g2
  rw [q4]
  exact ⟨⟨_, g5, rfl⟩, h _ g5 g3 g4 (si_new _ _ _ _ g1) (si_new _ _ _ _ g2) fun c o x =>
    Heap.get?_push_of_some _ (Heap.get?_push_of_some _ (Heap.get?_push_of_some _ (Heap.get?_push_of_some _ (Heap.get?_push_of_some _ x))))⟩
def iZipM (K : PySem.W.Frag) (ta : TA) : TI := fun σ H R => ta σ H fun vs H1 => ∃ l1 l2 a b xs ys, vs = [.ref a, .ref b] ∧ Sq K l1 H1 a xs ∧ Sq K l2 H1 b ys ∧ (xs.length ≤ sizeLine → R (ItzM K l1 l2 a b) H1)
theorem pi_zipM {X : Cx} {e e2 : Expr} {ta : TA} {p pos tpos : Pos} {elts : List Expr} {kk : Nat} (hg : Gl X "zip") (hm : X.mg "zip" = none) (ha : PA X [e, e2] ta)
    (hs : starEach [e, e2] X.env = (false, eval e X.env) :: starEach [e2] X.env := by rfl) (hpl : (backTo pos (starEach [e2] X.env)).any (·.1) = false := by rfl) :
    PI X (.Tuple elts kk tpos) (.Call (.Name "zip" p) [e, e2] [] pos) (iZipM X.K ta) := by
  refine ⟨fun pins s σ H R I h0 => ?_⟩
  refine Call_ (ld_blt I hg hm PyProof.Rows.boot_zip (PyProof.Rows.callWith_type1 (thn (ha.run pos pins s σ H _ I h0) fun us s1 ⟨vs, H1, I1, r1, q1⟩ => ?_) hs hpl))
  obtain ⟨l1, l2, a, b, xs, ys, ex, hqx, hqy, q⟩ := q1
  subst ex
  cases r1 with
  | cons r rr =>
    cases rr with
    | cons r' rr =>
      cases rr
      cases r
      cases r'
      obtain ⟨its, rv, p1, hz1⟩ := inv_sq I1 hqx
      obtain ⟨its2, rv2, p2, _⟩ := inv_sq I1 hqy
      refine call_zipM p1 p2 fun h' hz hTI hTO h1 h2 hk => wpAny_pyIter_zip hz ?_
      have I2 : Inv X pins σ H1 { s1 with heap := h' } := I1.kept (t' := s1.toks) hk
      refine ⟨s1.heap.objs.size + 4, [s1.heap.objs.size + 4, s1.heap.objs.size + 2, s1.heap.objs.size + 3, s1.heap.objs.size, s1.heap.objs.size + 1], _, _, H1, rfl, I2, turn_zipM (PySem.W.ktu_apart s1.heap.objs.size a b p1.lt p2.lt), ⟨hz, hTI, ⟨_, _, hTO⟩, h1, h2⟩, fun c hcm => ?_, q hz1⟩
      have hle : s1.heap.objs.size ≤ c := by
        have z : c = s1.heap.objs.size + 4 ∨ c = s1.heap.objs.size + 2 ∨ c = s1.heap.objs.size + 3 ∨ c = s1.heap.objs.size ∨ c = s1.heap.objs.size + 1 := by simpa using hcm
        rcases z with z | z | z | z | z
        · rw [z]; exact Nat.le_add_right s1.heap.objs.size 4
        · rw [z]; exact Nat.le_add_right s1.heap.objs.size 2
        · rw [z]; exact Nat.le_add_right s1.heap.objs.size 3
        · rw [z]; exact Nat.le_refl s1.heap.objs.size
        · rw [z]; exact Nat.le_add_right s1.heap.objs.size 1
      exact I1.fpOk hle (I1.hok.fresh hle)
/-- what is walked: pairs -/
theorem zipD_len : ∀ (xs ys : List D), (zipD xs ys).length = min xs.length ys.length
  | [], ys => by simp [zipD]
  | x :: xs, [] => by simp [zipD]
  | x :: xs, y :: ys => by simp only [zipD, List.length_cons, zipD_len xs ys]; omega
theorem zipD_get : ∀ (xs ys : List D) (i : Nat) (x y : D), xs[i]? = some x → ys[i]? = some y → (zipD xs ys)[i]? = some (.tup [x, y])
  | x :: xs, y :: ys, 0, a, b, h1, h2 => by simp at h1 h2; subst h1 h2; simp [zipD]
  | x :: xs, y :: ys, i + 1, a, b, h1, h2 => by simp only [zipD, List.getElem?_cons_succ]; exact zipD_get xs ys i a b (by simpa using h1) (by simpa using h2)
  | [], _, _, _, _, h1, _ => by simp at h1
  | _ :: _, [], _, _, _, _, h2 => by simp at h2
/-- a frozen list or tuple, by its items -/
theorem seq_sq {K : PySem.W.Frag} {F : FH} {d : D} {v : V} {xs : List D} (r : Rf K F d v) (e : d.seq? = some xs) : ∃ l a vs, v = .ref a ∧ Sq K l (hpo F) a vs ∧ RfL K F xs vs := by
  cases d <;> first | (cases e; done) | skip
  · cases e
    obtain ⟨a, vs, rfl, ha, rr⟩ := rf_tup.mp r
    exact ⟨false, a, vs, rfl, ha, rr⟩
  · cases e
    rw [Rf, Rp] at r
    obtain ⟨a, vs, rfl, ha, rr⟩ := r
    exact ⟨true, a, vs, rfl, .inl (.inl ha), rr⟩
theorem Sq.same {K : PySem.W.Frag} {l : Bool} {H H' : Hp} {a : Addr} {xs : List V} (e : L2.Same H H') (h : Sq K l H a xs) : Sq K l H' a xs := by
  cases l with
  | true => exact Same.seq e h
  | false => exact Same.seqT e h
theorem wk_zip {K : PySem.W.Frag} {F : FH} {xs ys : List D} {vs ws : List V} {a b : Addr} {l1 l2 : Bool} (ha : Sq K l1 (hpo F) a vs) (hb : Sq K l2 (hpo F) b ws) (r : RfL K F xs vs) (r' : RfL K F ys ws) : WkD K (ItzM K l1 l2 a b) F (zipD xs ys) := by
  have e1 := RpL.length r
  have e2 := RpL.length r'
  have el := zipD_len xs ys
  have go : ∀ (c : Nat) (F' : FH) (H : Hp), Le F F' → Ini c F' H → Sq K l1 H a vs ∧ Sq K l2 H b ws := fun c F' H l i => ⟨ha.same (fun p o q => i.same p o (l.hpo p o q)), hb.same (fun p o q => i.same p o (l.hpo p o q))⟩
  refine ⟨fun i c F' H hi l q => ?_, fun c F' H l q => ?_, fun i c F' H v H' hi l q y => ?_⟩
  · obtain ⟨s1, s2⟩ := go c F' H l q
    exact ⟨vs, ws, vs[i]'(by omega), ws[i]'(by omega), s1, s2, List.getElem?_eq_getElem _, List.getElem?_eq_getElem _⟩
  · obtain ⟨s1, s2⟩ := go c F' H l q
    exact ⟨vs, ws, s1, s2, by omega, by omega, by omega⟩
  · obtain ⟨s1, s2⟩ := go c F' H l q
    obtain ⟨T, x, z, rfl, hT, rfl, y1, y2⟩ := y
    obtain ⟨d1, k1, k2⟩ := r.get' (y1 _ s1)
    obtain ⟨d2, k3, k4⟩ := r'.get' (y2 _ s2)
    exact ⟨.tup [d1, d2], zipD_get xs ys i d1 d2 k1 k3, .newT q (.cons (Rf.le l k2) (.cons (Rf.le l k4) .nil)) hT⟩
theorem di_zip2 {X : Cx} {e e2 : Expr} {sa sb : SE} {p pos tpos : Pos} {elts : List Expr} {kk : Nat} (hg : Gl X "zip") (hm : X.mg "zip" = none) (ha : DA X [e, e2] [sa, sb])
    (hs : starEach [e, e2] X.env = (false, eval e X.env) :: starEach [e2] X.env := by rfl) (hpl : (backTo pos (starEach [e2] X.env)).any (·.1) = false := by rfl) :
    DI X (.Tuple elts kk tpos) (.Call (.Name "zip" p) [e, e2] [] pos) (.zip2 [sa, sb]) := by
  refine (pi_zipM hg hm ha hs hpl).mono fun σ H R ⟨e, H0, F0, Γ, F, c, T, k, xo, ok, hc, hw, fin⟩ => ?_
  have hw : wpI e (.zip2 [sa, sb]) Γ k := hw
  rw [wpI] at hw
  rw [show costI (.zip2 [sa, sb]) = costL [sa, sb] by rw [costI]] at hc fin
  refine ⟨e, H0, F0, Γ, F, c, T, _, xo, ok, hc, hw, fun ds Γ1 F1 c1 vs H1 q1 hc1 l1 ok1 r1 => ?_⟩
  split at q1
  · rename_i xs ys hds
    obtain ⟨d1, d2, rfl, s1, s2⟩ : ∃ d1 d2, ds = [d1, d2] ∧ d1.seq? = some xs ∧ d2.seq? = some ys := by
      cases ds with
      | nil => simp at hds
      | cons d1 r =>
        cases r with
        | nil => simp at hds
        | cons d2 r =>
          cases r with
          | nil => simp at hds; exact ⟨d1, d2, rfl, hds.1, hds.2⟩
          | cons _ _ => simp at hds
    obtain ⟨v, w, rfl, a1, a2⟩ := RfL.two r1
    obtain ⟨b1, a, us, rfl, h1, g1⟩ := seq_sq a1 s1
    obtain ⟨b2, b, ws, rfl, h2, g2⟩ := seq_sq a2 s2
    refine ⟨b1, b2, a, b, us, ws, rfl, h1.same ok1.1.ini.same, h2.same ok1.1.ini.same, fun hz => fin _ Γ1 F1 c1 H1 _ q1 hc1 l1 ok1 (wk_zip h1 h2 g1 g2) ?_⟩
    rw [zipD_len, RpL.length g1]
    exact size_le64 (Nat.le_trans (Nat.min_le_left _ _) hz)
  · exact q1.elim
end DL

/-! DP: enumerate; *e among written items; [::-1]. -/
namespace DL
open PySem PySem.Spec PyProof.Rows L2

theorem meets_enumM (l : Bool) (a : Addr) (xs : Array Value) :
    Meets (Builtin.«enumerate.__new__» ⟨[.type "enumerate", .ref a], []⟩) (fun _ R s => IsS l s.heap a xs ∧ (∃ o, s.heap.get? a = some o) ∧
      R (.ok (.ret (.ref (s.heap.push (itO l a)).objs.size))) { s with heap := (s.heap.push (itO l a)).push { cls := .type "enumerate", data := .fields #[.none, .bool false, .ref s.heap.objs.size, rawInt 0, .none, .none] } }) :=
  .of_wp fun prog w A R s h => by
    obtain ⟨hp, g, d, tk, os⟩ := s
    obtain ⟨k1, ⟨⟨c, dct, dt, sl⟩, hl⟩, h⟩ := h
    have hsub := sub_enumerate
    have k2 : IsS l (Shared.heap ⟨hp, g, d, tk, os⟩) a xs := k1
    wp_walk using AutoSeq1.wpAny_loadPart' hl
    refine wpAny_stack_any fun st => wpAny_pure ?_
    split
    · rename_i c' _ _ _ _ _
      cases (c' == Value.type "enumerate")
      · wp_walk using AutoSeq1.wpAny_loadPart' hl, pyIter_S k2
        exact ⟨_, rfl, h⟩
      · wp_walk using AutoSeq1.wpAny_loadPart' hl, pyIter_S k2
        exact ⟨_, rfl, h⟩
    · wp_walk using AutoSeq1.wpAny_loadPart' hl, pyIter_S k2
      exact ⟨_, rfl, h⟩
theorem call_enumM {prog : Program} {w : World} {A : Around} {E : Value → Shared → Prop} {s : Shared} {l : Bool} {a : Addr} {xs : Array Value} {Q : Value → Shared → Prop} (hl : IsS l s.heap a xs)
    (h : ∀ h', IsEnum h' (s.heap.objs.size + 1) s.heap.objs.size 0 .none → SI l h' s.heap.objs.size a 0 → (∀ b o, s.heap.get? b = some o → h'.get? b = some o) → Q (.ref (s.heap.objs.size + 1)) { s with heap := h' }) :
    wpAny (model prog w) A (call (.type "enumerate") [.ref a]) Q E s := by
  have ho : ∃ o, s.heap.get? a = some o := by
    cases l with
    | true => obtain ⟨o, e, _⟩ := (show s.heap.IsList a xs from hl); exact ⟨o, e⟩
    | false => obtain ⟨o, e, _⟩ := (show s.heap.IsTuple a xs from hl); exact ⟨o, e⟩
  refine callType_new F.called_enumerate (by decide) (F.typeCall_enumerate_1 _) (F.newCall_enumerate_1 _) (fun obj => F.args_object_init_2 obj _) F.entry_enumerate_new (meets_enumM l a xs) ⟨hl, ho, ?_⟩
  have hz : (s.heap.push (itO l a)).objs.size = s.heap.objs.size + 1 := Heap.size_push ..
  have f1 : (itO l a).isFreed = false := by cases l <;> rfl
  show _ ∧ _
  rw [hz]
  have he : IsEnum ((s.heap.push (itO l a)).push { cls := .type "enumerate", data := .fields #[.none, .bool false, .ref s.heap.objs.size, rawInt 0, .none, .none] }) (s.heap.objs.size + 1) s.heap.objs.size 0 .none := by
    have q := Heap.get?_push_size (s.heap.push (itO l a)) (o := { cls := .type "enumerate", data := .fields #[.none, .bool false, .ref s.heap.objs.size, rawInt 0, .none, .none] }) rfl
    rw [hz] at q
    exact q
  exact ⟨⟨_, he, rfl⟩, h _ he (si_new _ _ _ _ (Heap.get?_push_of_some _ (Heap.get?_push_size _ f1))) fun b o x => Heap.get?_push_of_some _ (Heap.get?_push_of_some _ x)⟩
def IteM (K : PySem.W.Frag) (l : Bool) (a : Addr) : It :=
  ⟨fun i H => ∃ (xs : List V) (x : V), Sq K l H a xs ∧ xs[i]? = some x, fun i H v H' => ∃ T x, v = .ref T ∧ H T = none ∧ H' = upd H T (.tup [.int (i : Nat), x]) ∧ ∀ xs, Sq K l H a xs → xs[i]? = some x, fun i H => ∃ xs : List V, Sq K l H a xs ∧ xs.length = i⟩
theorem turn_enumM {P : Program} {w : World} {K : PySem.W.Frag} {elts : List Expr} {kk : Nat} {tpos : Pos} {l : Bool} (a e it : Addr) (hae : a ≠ e) (hai : a ≠ it) :
    Turn P w K (.Tuple elts kk tpos) (IteM K l a) [e, it] e (fun i h => (∃ old, IsEnum h e it ((i : Nat) : Int) old) ∧ SI l h it a i ∧ e ≠ it) where
  mem := by simp
  obj := fun i h st b hb => by
    obtain ⟨⟨old, he⟩, hi, _⟩ := st
    have q : b = e ∨ b = it := by simpa using hb
    rcases q with rfl | rfl
    · exact ⟨_, he, fun v q => nomatch q⟩
    · exact hi.obj
  keep := fun i h h' st k => let ⟨⟨old, he⟩, hi, hne⟩ := st; ⟨⟨old, k e (by simp) _ he⟩, hi.at fun o q => k it (by simp) o q, hne⟩
  item := by
    intro X hP hw hK hc i pins s σ H E I hf st hg
    subst hP hw hK
    obtain ⟨⟨old, he⟩, hit, hne⟩ := st
    obtain ⟨xs, x, hq, hx⟩ := hg
    obtain ⟨its, rv, p, hz⟩ := inv_sq I hq
    obtain ⟨u, hu, ru⟩ := rv.get hx
    have hel : e < s.heap.objs.size := Heap.lt_size he
    have hil : it < s.heap.objs.size := by obtain ⟨_, q, _⟩ := hit.obj; exact Heap.lt_size q
    have dr := si_draws (prog := X.prog) (w := X.w) (A := X.A.in1) (I.ok.hd hc) l it a hai its.toArray
    have n1 : i < its.toArray.size := by rw [List.size_toArray]; exact (List.getElem?_eq_some_iff.mp hu).1
    have hef : e ∉ [it, a] := fun h => by
      rcases List.mem_cons.mp h with q | h
      · exact hne q
      · exact hae (List.mem_singleton.mp h).symm
    refine wpAny_pyNext_enum_itemD dr he ⟨hit, p⟩ n1 hne hef fun y h' tk e1 ho hit' hT hsz hk => ?_
    have w1 : y = u := by rw [List.getElem?_toArray, hu] at e1; exact (Option.some.inj e1).symm
    subst w1
    refine ⟨_, rfl, wpAny_letOwnedTupleGo_enum (s := { s with heap := h', toks := tk + 1 }) ho fun h'' he' sb => ?_⟩
    have hT2 : h''.get? s.heap.objs.size = some { cls := .type "tuple", data := .seq #[.int i tk, y] } := (sb.2 _ (Nat.ne_of_gt hel)).trans hT
    have new : ObjOk X.prog X.w (upd H s.heap.objs.size (.tup [.int (i : Nat), x])) h'' s.heap.objs.size (.tup [.int (i : Nat), x]) := ⟨by show 2 ≤ sizeLine; decide, [.int i tk, y], .cons ⟨_, rfl⟩ (.cons ru .nil), ⟨_, hT2, rfl, _, rfl⟩⟩
    have I1 : Inv X pins σ (upd H s.heap.objs.size (.tup [.int (i : Nat), x])) { s with heap := h'', toks := tk + 1 } :=
      I.turnedNew (t' := tk + 1) (ch := [e, it]) (fun b ob hb q => (sb.2 b (fun z => hb (by simp [z]))).trans (hk b ob (fun z => hb (by simp [z])) (fun z => hb (by simp [z])) q)) hf (Nat.le_refl _) new
    refine ⟨.ref s.heap.objs.size, _, I1, rfl, ⟨_, x, rfl, I.hok.fresh (Nat.le_refl _), rfl, fun ys hy => by rw [sq_inj I hy hq]; exact hx⟩, ⟨⟨y, ?_⟩, hit'.1.at fun o q => (sb.2 it (Ne.symm hne)).trans q, hne⟩, fun b hb => ?_⟩
    · rw [show ((i + 1 : Nat) : Int) = (i : Int) + 1 by omega]
      exact he'
    · have hb' : b < s.heap.objs.size := by
        have q : b = e ∨ b = it := by simpa using hb
        rcases q with rfl | rfl
        · exact hel
        · exact hil
      rw [upd_ne (Nat.ne_of_lt hb')]
      exact (hf b hb).1
  done := by
    intro X hP hw hK hc i pins s σ H E I hf st hg
    subst hP hw hK
    obtain ⟨⟨old, he⟩, hit, hne⟩ := st
    obtain ⟨xs, hq, hx⟩ := hg
    obtain ⟨its, rv, p, hz⟩ := inv_sq I hq
    obtain ⟨f0, f1, f2, f3, f4, f5⟩ := hf it (by simp)
    have hl : its.toArray.size = i := by rw [List.size_toArray, ← rv.length]; exact hx
    subst hl
    have dr := si_draws (prog := X.prog) (w := X.w) (A := X.A.in1) (I.ok.hd hc) l it a hai its.toArray
    exact wpAny_pyNext_enum_endD dr he ⟨hit, p⟩ fun h' eb => ⟨rfl, I.turned (t' := s.toks) (fun b o hb q => eb b o hb q) f0 f1 f3 f4 f5⟩
  self := fun A i s Q E st h => let ⟨⟨_, he⟩, _⟩ := st; wpAny_pyIter_enum he h
def iEnumM (K : PySem.W.Frag) (ta : TA) : TI := fun σ H R => ta σ H fun vs H1 => ∃ l a xs, vs = [.ref a] ∧ Sq K l H1 a xs ∧ (xs.length ≤ sizeLine → R (IteM K l a) H1)
theorem pi_enumM {X : Cx} {e : Expr} {ta : TA} {p pos tpos : Pos} {elts : List Expr} {kk : Nat} (hg : Gl X "enumerate") (hm : X.mg "enumerate" = none) (ha : PA X [e] ta) (hs : starEach [e] X.env = [(false, eval e X.env)] := by rfl) :
    PI X (.Tuple elts kk tpos) (.Call (.Name "enumerate" p) [e] [] pos) (iEnumM X.K ta) := by
  refine ⟨fun pins s σ H R I h0 => ?_⟩
  refine Call_ (ld_blt I hg hm boot_enumerate (PyProof.Rows.callWith_type1 (thn (ha.run pos pins s σ H _ I h0) fun us s1 ⟨vs, H1, I1, r1, q1⟩ => ?_) hs rfl))
  obtain ⟨l, a, xs, rfl, hq, q⟩ := q1
  cases r1 with
  | cons r rr =>
    cases rr
    cases r
    obtain ⟨its, rv, p', hz⟩ := inv_sq I1 hq
    refine call_enumM p' fun h' he hit hk => wpAny_pyIter_enum he ?_
    have I2 : Inv X pins σ H1 { s1 with heap := h' } := I1.kept (t' := s1.toks) hk
    have la : a < s1.heap.objs.size := p'.lt
    refine ⟨s1.heap.objs.size + 1, [s1.heap.objs.size + 1, s1.heap.objs.size], _, _, H1, rfl, I2, turn_enumM a (s1.heap.objs.size + 1) s1.heap.objs.size (Nat.ne_of_lt (Nat.lt_succ_of_lt la)) (Nat.ne_of_lt la), ⟨⟨.none, he⟩, hit, Nat.succ_ne_self _⟩, fun b hb => ?_, q hz⟩
    have q : b = s1.heap.objs.size + 1 ∨ b = s1.heap.objs.size := by simpa using hb
    have hle : s1.heap.objs.size ≤ b := by
      rcases q with z | z
      · rw [z]; exact Nat.le_add_right _ _
      · rw [z]; exact Nat.le_refl _
    exact I1.fpOk hle (I1.hok.fresh hle)
theorem enumD_len : ∀ (n : Nat) (xs : List D), (enumD n xs).length = xs.length
  | n, [] => by simp [enumD]
  | n, x :: xs => by simp [enumD, enumD_len (n + 1) xs]
theorem enumD_get : ∀ (n : Nat) (xs : List D) (i : Nat) (x : D), xs[i]? = some x → (enumD n xs)[i]? = some (.tup [.int ((n + i : Nat) : Int), x])
  | n, [], i, x, h => by simp at h
  | n, y :: xs, 0, x, h => by simp at h; subst h; simp [enumD]
  | n, y :: xs, i + 1, x, h => by
    simp only [enumD, List.getElem?_cons_succ]
    rw [enumD_get (n + 1) xs i x (by simpa using h)]
    rw [show n + 1 + i = n + (i + 1) by omega]
theorem wk_enum {K : PySem.W.Frag} {F : FH} {xs : List D} {vs : List V} {a : Addr} {l : Bool} (ha : Sq K l (hpo F) a vs) (r : RfL K F xs vs) : WkD K (IteM K l a) F (enumD 0 xs) := by
  have e1 := RpL.length r
  have el := enumD_len 0 xs
  have go : ∀ (c : Nat) (F' : FH) (H : Hp), Le F F' → Ini c F' H → Sq K l H a vs := fun c F' H l i => ha.same (fun p o q => i.same p o (l.hpo p o q))
  refine ⟨fun i c F' H hi l q => ?_, fun c F' H l q => ?_, fun i c F' H v H' hi l q y => ?_⟩
  · exact ⟨vs, vs[i]'(by omega), go c F' H l q, List.getElem?_eq_getElem _⟩
  · exact ⟨vs, go c F' H l q, by omega⟩
  · obtain ⟨T, x, rfl, hT, rfl, y1⟩ := y
    obtain ⟨d1, k1, k2⟩ := r.get' (y1 _ (go c F' H l q))
    have e2 := enumD_get 0 xs i d1 k1
    rw [Nat.zero_add] at e2
    exact ⟨_, e2, .newT q (.cons (rf_int.mpr rfl) (.cons (Rf.le l k2) .nil)) hT⟩
theorem di_enm {X : Cx} {e : Expr} {sa : SE} {p pos tpos : Pos} {elts : List Expr} {kk : Nat} (hg : Gl X "enumerate") (hm : X.mg "enumerate" = none) (ha : DA X [e] [sa]) (hs : starEach [e] X.env = [(false, eval e X.env)] := by rfl) :
    DI X (.Tuple elts kk tpos) (.Call (.Name "enumerate" p) [e] [] pos) (.enm [sa]) := by
  refine (pi_enumM hg hm ha hs).mono fun σ H R ⟨e, H0, F0, Γ, F, c, T, k, xo, ok, hc, hw, fin⟩ => ?_
  have hw : wpI e (.enm [sa]) Γ k := hw
  rw [wpI] at hw
  rw [show costI (.enm [sa]) = costL [sa] by rw [costI]] at hc fin
  refine ⟨e, H0, F0, Γ, F, c, T, _, xo, ok, hc, hw, fun ds Γ1 F1 c1 vs H1 q1 hc1 l1 ok1 r1 => ?_⟩
  split at q1
  · rename_i xs hds
    obtain ⟨d1, rfl, s1⟩ : ∃ d1, ds = [d1] ∧ d1.seq? = some xs := by
      cases ds with
      | nil => simp at hds
      | cons d1 r =>
        cases r with
        | nil => simp at hds; exact ⟨d1, rfl, hds⟩
        | cons _ _ => simp at hds
    obtain ⟨v, rfl, a1⟩ := RfL.one r1
    obtain ⟨b1, a, us, rfl, h1, g1⟩ := seq_sq a1 s1
    refine ⟨b1, a, us, rfl, h1.same ok1.1.ini.same, fun hz => fin _ Γ1 F1 c1 H1 _ q1 hc1 l1 ok1 (wk_enum h1 g1) ?_⟩
    rw [enumD_len, RpL.length g1]
    exact size_le64 hz
  · exact q1.elim
/-! *e -/
theorem dx_star {X : Cx} {a : Expr} {es : List Expr} {sa : SE} {ss : List SX} {p : Pos} (ha : DE X a sa) (hr : DX X es ss) (hs : starEach (.Starred a p :: es) X.env = (true, eval a X.env) :: starEach es X.env := by rfl) : DX X (.Starred a p :: es) (.star sa :: ss) := by
  refine (StX.pa_star ha hr hs).mono fun σ H Q ⟨e, H0, F0, Γ, F, c, T, k, xo, ok, hc, hw, fin⟩ => ?_
  have hw : wpX e (.star sa :: ss) Γ k := hw
  rw [wpX] at hw
  rw [show costX (.star sa :: ss) = costE sa + costX ss + 2 by rw [costX]] at hc fin
  refine ⟨e, H0, F0, Γ, F, c, T, _, xo, ok, bud2a hc, hw, fun t Γ1 F1 c1 v H1 T1 q1 hc1 l1 ok1 r1 => ?_⟩
  split at q1
  · rename_i xs hx
    obtain ⟨ok2, l2, g2⟩ := ok1.freeze
    obtain ⟨l, q, us, rfl, hq, rq⟩ := seq_sq (RpT.frz l2 _ _ _ g2 r1) hx
    have hq2 := hq.same ok2.1.ini.same
    refine ⟨q, us, rfl, ?_, e, H0, F0, Γ1, _, c1, T, _, xo, ok2, bud2b hc hc1, q1, fun ts Γ3 F3 c3 vs H3 T3 q3 hc3 l3 ok3 r3 => ?_⟩
    · cases l with
      | true => exact .inr hq2
      | false => exact .inl hq2
    · refine fin _ Γ3 F3 c3 _ H3 T3 q3 (bud2c hc1 hc3) ((l1.trans l2).trans l3) ok3 ?_
      have key : ∀ (xs : List D) (us : List V), RfL X.K F3 xs us → RpTL X.K F3 T3 (xs.map .fz ++ ts) (us ++ vs) := by
        intro xs
        induction xs with
        | nil => intro us r; rw [r.nil_inv]; exact r3
        | cons x xs ih =>
          intro us r
          obtain ⟨v, ws, rfl, a1, a2⟩ := RpL.uncons r
          rw [List.map_cons, List.cons_append, RpTL]
          exact ⟨v, ws ++ vs, [], T3, rfl, rfl, .of_fz a1, ih ws a2⟩
      exact key xs us (rq.le l3)
  · exact q1.elim
end DL

/-! DQ: repr, sorted, join. -/
namespace DL
open PySem PySem.Spec PyProof.Rows L2 PySem.W

section
variable {X : Cx}
/-- repr of a list, a tuple -/
def rRepr (K : PySem.W.Frag) : List V → Hp → VK → Prop := fun xs H Q => ∃ p d, xs = [.ref p] ∧ Dp K H (.ref p) d ∧ d.showable = true ∧ d.hasDict = false ∧ d.depth ≤ 24 ∧ d.shown.length ≤ sizeLine ∧ Q (.str d.shown) H
theorem c_repr (hg : X.A.guards = some []) (hu : X.A.units + 64 < cLine) : CallR X (.builtin "repr") (rRepr X.K) := by
  intro pins s σ H xs us Q I r h
  obtain ⟨p, d, rfl, hd, h1, h2, h3, h4, q⟩ := h
  cases r with
  | cons r rr =>
    cases rr
    cases r
    obtain ⟨as, rd⟩ := Dp.reads I d _ _ hd rfl
    refine repr_of_reads' rd h1 (PyData.noDict_hsm h2) hg (by omega) (fun _ _ e => e) (fun h' u tk hk => ?_) h4
    exact ⟨.str d.shown, H, I.kept (t' := tk) hk, ⟨_, rfl⟩, q⟩
end
theorem hasDicts_py : ∀ (n : Nat) (d : D), D.plain n d = true → d.py.hasDict = false := fun n d h => PyData.hasDict_of_canLay _ (plain_lay n d h).1
theorem bv_repr {K : PySem.W.Frag} : BiV K (rRepr K) .repr_ := by
  intro xs vs c F H k Q i hp g fin
  cases xs with
  | nil => exact False.elim (show False from g)
  | cons d r =>
    cases r with
    | cons e r => exact False.elim (show False from g)
    | nil =>
      obtain ⟨v, rfl, rv⟩ := p1 hp
      obtain ⟨g1, g2, g3, g4, g5⟩ := (show d.isSeq = true ∧ d.plain DEEP = true ∧ d.py.showable = true ∧ (shownD d).length ≤ LIM ∧ k (.fz (.str (shownD d))) from g)
      have hr := rv.h i
      have hd := plain_dp _ _ _ g2 hr
      obtain ⟨p, rfl⟩ : ∃ p, v = .ref p := by
        cases d <;> first | cases g1 | skip
        · obtain ⟨a, vs, rfl, _⟩ := rs_tup rv; exact ⟨a, rfl⟩
        · obtain ⟨a, vs, rfl, _⟩ := rv; exact ⟨a, rfl⟩
      exact ⟨p, d.py, rfl, hd, g3, hasDicts_py _ _ g2, (plain_lay _ _ g2).2, Nat.le_trans g4 lim_line, fin _ _ H g5 .str⟩
/-! sorted -/
def pairLe : D × V → D × V → Bool := dataLe false fun p => p.1.py
def rSortD (K : PySem.W.Frag) : List V → Hp → VK → Prop := fun xs H Q => ∃ p ds vs, xs = [.ref p] ∧ SqL K H p vs ∧ ds.length = vs.length ∧ DpAll K H vs (ds.map D.py) ∧ srtOk ds ∧
  ∀ l, H l = none → Q (.ref l) (upd H l (.lst (((ds.zip vs).mergeSort pairLe).map (·.2))))
theorem each_zip {X : Cx} {pins : List (Addr × Obj)} {σ : L2.St} {H : Hp} {s : Shared} (I : Inv X pins σ H s) : ∀ {ds : List D} {vs : List V} {us : List Value}, ds.length = vs.length → Vals vs us → DpAll X.K H vs (ds.map D.py) →
    EachIs (fun u (b : D × V) => RelV b.2 u) us (ds.zip vs) ∧ EachIs (fun u (b : D × V) => ∃ as, Reads s.heap u b.1.py as) us (ds.zip vs)
  | [], [], us, _, r, h => by cases r; exact ⟨.nil, .nil⟩
  | d :: ds, v :: vs, us, hl, r, h => by
    cases r with
    | cons r1 r2 =>
      cases h with
      | cons h1 h2 =>
        obtain ⟨e1, e2⟩ := each_zip I (by simpa using hl) r2 h2
        exact ⟨.cons r1 e1, .cons (Dp.reads I _ _ _ h1 r1) e2⟩
  | [], _ :: _, us, hl, r, h => by simp at hl
  | _ :: _, [], us, hl, r, h => by simp at hl
theorem vals_each : ∀ {us : List Value} {bs : List (D × V)}, EachIs (fun u (b : D × V) => RelV b.2 u) us bs → Vals (bs.map (·.2)) us
  | _, _, .nil => .nil
  | _, _, .cons h t => .cons h (vals_each t)
theorem zip_map1 {α β : Type} : ∀ {as : List α} {bs : List β}, as.length = bs.length → (as.zip bs).map Prod.fst = as
  | [], [], _ => rfl
  | a :: as, b :: bs, h => by simp [zip_map1 (as := as) (bs := bs) (by simpa using h)]
  | [], _ :: _, h => by simp at h
  | _ :: _, [], h => by simp at h
theorem plains_mem : ∀ {n : Nat} {ds : List D} {d : D}, D.plains n ds = true → d ∈ ds → D.plain n d = true
  | n, x :: xs, d, h, hm => by
    rw [D.plains, Bool.and_eq_true] at h
    rcases List.mem_cons.mp hm with rfl | hm
    · exact h.1
    · exact plains_mem h.2 hm
theorem c_sorted (hu : X.A.units + 64 < cLine) : CallR X (.builtin "sorted") (rSortD X.K) := by
  intro pins s σ H xs us Q I r h
  obtain ⟨p, ds, vs, rfl, hs, hl, hd, ⟨h1, h2, h3⟩, q⟩ := h
  cases r with
  | cons r rr =>
    cases rr
    cases r
    obtain ⟨its, rv, pl, hz⟩ := I.list hs
    obtain ⟨e1, e2⟩ := each_zip I hl rv hd
    have em : (ds.zip vs).map (fun b => b.1.py) = ds.map D.py := by
      rw [← zip_map1 hl, List.map_map, zip_map1 hl]
      rfl
    have ez : (ds.zip vs).length = ds.length := by rw [List.length_zip]; omega
    refine sorted_data (enc := fun b : D × V => b.1.py) pl.isList e1 e2 (by rw [em]; exact h1) (by rw [em]; exact h2) (by rw [ez, hl]; exact hz) (fun b hb => ?_) fun out ho eo => ?_
    · have hm : b.1 ∈ ds := (List.of_mem_zip (a := b.1) (b := b.2) hb).1
      have := (plain_lay 20 b.1 (plains_mem h3 hm)).2
      omega
    · obtain ⟨cc, hc⟩ := sortedAll_at s.heap its out.toArray
      have hn : H (s.heap.objs.size + 1) = none := I.hok.fresh (Nat.le_succ _)
      refine ⟨.ref (s.heap.objs.size + 1), _, I.laid (t' := s.toks) (fun b u q => sortedAll_old q) (Nat.le_succ _) ?_, rfl, q _ hn⟩
      refine ⟨?_, out, cc, vals_each eo, hc⟩
      rw [List.length_map, List.length_mergeSort, ez, hl]
      exact hz
theorem DpAll_of {K : PySem.W.Frag} {H : Hp} {F : FH} {ds : List D} {vs : List V} (h : D.plains 20 ds = true) (r : RpL K H F ds vs) : DpAll K H vs (ds.map D.py) := by
  have e : ds.map D.py = D.pys ds := by
    clear h r
    induction ds with
    | nil => rfl
    | cons d ds ih => rw [List.map_cons, D.pys, ih]
  rw [e]
  exact plains_dp 20 ds vs h r
theorem zip_rf {K : PySem.W.Frag} {F : FH} : ∀ {ds : List D} {vs : List V}, RfL K F ds vs → ∀ p ∈ ds.zip vs, Rf K F p.1 p.2
  | [], vs, h, p, hp => by simp at hp
  | d :: ds, vs, h, p, hp => by
    obtain ⟨v, ws, rfl, a, b⟩ := RpL.uncons h
    rcases List.mem_cons.mp hp with rfl | hp
    · exact a
    · exact zip_rf b p hp
theorem rf_pairs {K : PySem.W.Frag} {F : FH} : ∀ {bs : List (D × V)}, (∀ p ∈ bs, Rf K F p.1 p.2) → RfL K F (bs.map (·.1)) (bs.map (·.2))
  | [], _ => .nil
  | b :: bs, h => .cons (h b List.mem_cons_self) (rf_pairs fun p hp => h p (List.mem_cons_of_mem _ hp))
theorem bv_sorted {K : PySem.W.Frag} : BiV K (rSortD K) .sorted_ := by
  intro xs vs c F H k Q i hp g fin
  unfold biD at g
  split at g <;> first | exact g.elim | cases ‹Bi.sorted_ = _› | skip
  rename_i ds
  obtain ⟨v, rfl, rv⟩ := p1 hp
  obtain ⟨a, us, rfl, ha, rr⟩ := rv
  have hl := RpL.length rr
  refine ⟨a, ds, us, rfl, .inl (.inl ha), hl, DpAll_of g.1.2.2 (rr.h i), g.1, fun l hn => fin _ _ _ g.2 (.newL ?_ hn)⟩
  have e : sortD ds = ((ds.zip us).mergeSort pairLe).map (·.1) := by
    unfold sortD
    conv => lhs; rw [← zip_map1 hl]
    exact (List.map_mergeSort (r := pairLe) (s := dataLe false D.py) (f := Prod.fst) (fun a _ b _ => rfl)).symm
  rw [e]
  exact rf_pairs fun p hp => zip_rf rr p ((List.mergeSort_perm _ _).mem_iff.mp hp)
/-! join -/
theorem strs_vs {K : PySem.W.Frag} {F : FH} {H : Hp} : ∀ {xs : List D} {ns : List Str} {vs : List V}, strs? xs = some ns → RpL K H F xs vs → vs = ns.map V.str
  | [], ns, vs, h, r => by rw [r.nil_inv]; cases h; rfl
  | .str i :: xs, ns, vs, h, r => by
    obtain ⟨v, ws, rfl, a, b⟩ := r.uncons
    simp only [strs?, Option.map_eq_some_iff] at h
    obtain ⟨ms, h1, rfl⟩ := h
    rw [Rp] at a
    rw [a, strs_vs h1 b]
    rfl
  | .non :: xs, ns, vs, h, r => by simp [strs?] at h
  | .bl _ :: xs, ns, vs, h, r => by simp [strs?] at h
  | .int _ :: xs, ns, vs, h, r => by simp [strs?] at h
  | .tup _ :: xs, ns, vs, h, r => by simp [strs?] at h
  | .lst _ :: xs, ns, vs, h, r => by simp [strs?] at h
  | .dic _ _ :: xs, ns, vs, h, r => by simp [strs?] at h
  | .scr _ :: xs, ns, vs, h, r => by simp [strs?] at h
  | .opq _ _ :: xs, ns, vs, h, r => by simp [strs?] at h
theorem de_join {X : Cx} {e : Expr} {sa : SE} {sep : Str} {kk : Nat} {p0 apos pos : Pos} (he : DO X e sa) (hs : starEach [e] X.env = [(false, eval e X.env)] := by rfl)
    (hbase : attributeBase (.Constant (.str sep) kk p0) "join" X.env (eval (.Constant (.str sep) kk p0) X.env) = eval (.Constant (.str sep) kk p0) X.env := by rfl) (hline : (apos.endLine == pos.line) = true := by rfl) :
    DE X (.Call (.Attribute (.Constant (.str sep) kk p0) "join" apos) [e] [] pos) (.bi .join [.cst (.str sep), sa]) := by
  refine (pe_join pe_str he hs hbase hline).mono fun σ H Q ⟨e, H0, F0, Γ, F, c, T, k, xo, ok, hc, hw, fin⟩ => ?_
  have hw : wpE e (.bi .join [.cst (.str sep), sa]) Γ k := hw
  rw [wpE, wpOs, show isVar (.cst (.str sep)) = none from rfl, asO_none, wpE, wpOs] at hw
  have hle : 2 ^ costE sa ≤ 2 ^ costE (.bi .join [.cst (.str sep), sa]) := pmono (by simp only [costE, costL]; omega)
  refine ⟨⟨sep, rfl⟩, e, H0, F0, Γ, F, c, T, _, xo, ok, Nat.le_trans (Nat.add_le_add_left hle _) hc, hw, fun ox Γ1 F1 c1 v H1 T1 q1 hc1 l1 ok1 r1 => ?_⟩
  rw [wpOs] at q1
  obtain ⟨d, ed, q1⟩ := osw_inv q1
  obtain ⟨d2, ed2, q1⟩ := osw_inv q1
  have e0 : D.str sep = d := Option.some.inj ed
  subst e0
  have hx := ok1.fl r1 (fun p hp => by simp [hp]) ed2
  obtain ⟨xs, ys, h1, h2, h3, h4⟩ := (show ∃ xs ys, d2.seq? = some xs ∧ strs? xs = some ys ∧ (ys.map (·.length)).sum + ys.length * sep.length ≤ LIM ∧ k (.fz (.str (Txt.join sep ys))) Γ1 from q1)
  have hfin := fin _ Γ1 F1 c1 (.str (Txt.join sep ys)) H1 [] h4 (Nat.le_trans hc1 (Nat.add_le_add_left hle _)) l1 ok1.none_left (.of_fz (rf_str.mpr rfl))
  have hlim : LIM ≤ 16777216 := by decide
  cases d2 <;> first | (cases h1; done) | skip
  · cases h1
    obtain ⟨a, vs, rfl, ha, rr⟩ := rs_tup hx
    have ev := strs_vs h2 rr
    subst ev
    exact ⟨sep, a, ys, rfl, rfl, .inr (Same.seqT ok1.1.ini.same ha), Nat.le_trans h3 hlim, hfin⟩
  · cases h1
    obtain ⟨a, vs, rfl, ha, rr⟩ := hx
    have ev := strs_vs h2 rr
    subst ev
    exact ⟨sep, a, ys, rfl, rfl, .inl (.inl (.inl ha)), Nat.le_trans h3 hlim, hfin⟩
end DL

/-! DR: what is tracked told anew (draw sources); the law's own call. -/
namespace DL
open PySem PySem.Spec PyProof.Rows L2

/-- an abstract heap told anew: some entries by what is true of their objects -/
theorem hok_re {P : Program} {w : World} {H1 H2 : Hp} {h : Heap} (x : HOk P w H1 h) (k : ∀ b o, H2 b = some o → H1 b = some o ∨ ObjOk P w H2 h b o)
    (own : ∀ b c, H1 b = some (.own c) → H2 b = some (.own c)) (tup : ∀ b xs, H1 b = some (.tup xs) → H2 b = some (.tup xs)) : HOk P w H2 h := fun b o e => by
  rcases k b o e with q | q
  · exact (x b o q).stay (fun _ _ _ z => z) (fun c z => own c b z) fun c xs z => tup c xs z
  · exact q
theorem ce_re {P : Program} {w : World} {outer : List PySem.Env} {H Hs : Hp} {s s' : Shared} {Qs Q : VK} {u : Value} (h : CE outer P w Hs s Qs u s') (h1 : ∀ b, H b = none → Hs b = none)
    (h2 : ∀ v H1, Qs v H1 → HOk P w H1 s'.heap → (∀ b ps, Hs b = some (.tbl ps) → ∃ more : Array Value, H1 b = some (.tbl (ps ++ more))) → ∃ H', HOk P w H' s'.heap ∧ (∀ b, H b = none → H1 b = none → H' b = none) ∧ (∀ b xs, H b = some (.tup xs) → H' b = some (.tup xs)) ∧ (∀ b o u, H b = some (.frz o u) → H' b = some (.frz o u)) ∧
      (∀ b ps, H b = some (.tbl ps) → ∃ more : Array Value, H' b = some (.tbl (ps ++ more))) ∧ Q v H') : CE outer P w H s Q u s' := by
  obtain ⟨v, H1, os, bare, un, hok, rv, q⟩ := h
  obtain ⟨H', k1, k2, k3, k4, k5, k6⟩ := h2 v H1 q hok fun b ps e => un.tbls b ps e
  exact ⟨v, H', os, bare, ⟨fun b o e n f x => un.keep b o e (h1 b n) f x, fun b o e n f x => un.slot b o e (h1 b n) f x, fun b o e n x => k2 b n (un.free b o e (h1 b n) x), fun b o e x => un.there b o e x,
    k3, k4, k5⟩, k1, rv, k6⟩
/-- the count goes on -/
def bump (H : Hp) (F : FH) (c : Nat) : Hp := fun b => match F b with
  | some (.grw g) => some (.ext (g.f b c))
  | _ => H b
theorem bump_grw {H : Hp} {F : FH} {c : Nat} {b : Addr} {g : Grw} (h : F b = some (.grw g)) : bump H F c b = some (.ext (g.f b c)) := by unfold bump; rw [h]
theorem bump_other {H : Hp} {F : FH} {c : Nat} {b : Addr} (h : ∀ g, F b ≠ some (.grw g)) : bump H F c b = H b := by
  unfold bump
  split
  · rename_i g e; exact absurd e (h g)
  · rfl
theorem bump_base {H : Hp} {F : FH} {c c' : Nat} (i : Ini c F H) : Bse H F c' F (bump H F c') := by
  refine ⟨fun a f e => ?_, Le.refl F, fun a h1 h2 => ⟨?_, h1⟩⟩
  · cases f with
    | ho o => exact (bump_other (fun g z => by rw [e] at z; cases z)).trans (i a _ e)
    | grw g => exact bump_grw e
    | tab q => exact FO.In.to (c := c') (f := .tab q) (F := F) (H := H) (i a _ e) (bump_other (fun g z => by rw [e] at z; cases z)) (Le.refl F)
  · exact bump_other fun g z => by rw [h1] at z; cases z
theorem look_mem {β : Type} : ∀ {L : List (Addr × β)} {b : Addr} {o : β}, L.lookup b = some o → (b, o) ∈ L
  | (a, u) :: L, b, o, h => by
    rw [List.lookup_cons] at h
    cases e : b == a with
    | true => rw [e] at h; cases h; rw [eq_of_beq e]; exact List.mem_cons_self
    | false => rw [e] at h; exact List.mem_cons_of_mem _ (look_mem h)
/-- some entries over -/
def over (H : Hp) (L : List (Addr × HO)) : Hp := fun b => match L.lookup b with
  | some o => some o
  | none => H b
theorem over_some {H : Hp} {L : List (Addr × HO)} {b : Addr} {o : HO} (h : over H L b = some o) : (b, o) ∈ L ∨ (L.lookup b = none ∧ H b = some o) := by
  unfold over at h
  split at h
  · rename_i o' e; cases h; exact .inl (look_mem e)
  · rename_i e; exact .inr ⟨e, h⟩
theorem over_none {H : Hp} {L : List (Addr × HO)} {b : Addr} (hL : ∀ p ∈ L, ∃ o, H p.1 = some o) (h : H b = none) : over H L b = none := by
  unfold over
  split
  · rename_i o' e
    obtain ⟨o, ho⟩ := hL _ (look_mem e)
    rw [h] at ho; cases ho
  · exact h
/-- the sources' objects tracked as lists, a def run, the count gone on -/
theorem run_re {P : Program} {w : World} {K : PySem.W.Frag} {mg : Str → Option Value} {base : Heap} {k : Nat} {f : Addr} {fd : FuncData} {ps : List Str} {sp : Sp} (Fo : FnOk P w K mg base CX0 k f fd ps sp) {A : Around} {outer : List PySem.Env} {s : Shared} {H : Hp} {args : Args} {us : List Value} {vs : List V} {Q Qs : VK}
    {F : FH} {c c1 : Nat} {L : List (Addr × HO)} (hr : Room k A) (e0 : Env0 P w K mg base A outer s H) (hb : BindsTo s fd args (ps.zip us)) (r : Vals vs us) (hi : Ini c F H) (hc : c ≤ c1)
    (hL : ∀ p ∈ L, (∃ g, F p.1 = some (.grw g)) ∧ (∃ xs, p.2 = .lst xs) ∧ ∀ H', ObjOk P w H' s.heap p.1 p.2) (hsp : sp vs (over H L) Qs E0)
    (hq : ∀ v H1, Qs v H1 → (∃ L', H1 = over H L' ∧ (∀ b, L'.lookup b = none → ∀ g, F b = some (.grw g) → H b = some (.ext (g.f b c))) ∧ ∀ p ∈ L', ∃ g xs, F p.1 = some (.grw g) ∧ p.2 = .lst xs ∧ ∀ h, ObjOk P w H1 h p.1 p.2 → g.f p.1 c1 h) ∧ Q v (bump H F c1)) :
    codeAny (model P w) A (.call (.ref f) args) (CR CX0 outer P w H s Q E0) s := by
  have hg : ∀ p ∈ L, ∃ o, H p.1 = some o := fun p hp => by
    obtain ⟨⟨g, e⟩, _⟩ := hL p hp
    exact ⟨_, hi.grw e⟩
  have notL : ∀ b o, H b = some o → (∀ φ, o ≠ .ext φ) → L.lookup b = none := fun b o e ne => by
    cases q : L.lookup b with
    | none => rfl
    | some u =>
      obtain ⟨⟨g, e2⟩, _⟩ := hL _ (look_mem q)
      rw [hi.grw e2] at e
      cases e
      exact absurd rfl (ne _)
  have ov : ∀ b o, H b = some o → (∀ φ, o ≠ .ext φ) → over H L b = some o := fun b o e ne => by
    unfold over; rw [notL b o e ne]; exact e
  have hok : HOk P w (over H L) s.heap := hok_re e0.hok (fun b o e => by
      rcases over_some e with q | ⟨_, q⟩
      · exact .inr ((hL _ q).2.2 _)
      · exact .inl q) (fun b c e => ov b _ e fun φ z => nomatch z) fun b xs e => ov b _ e fun φ z => nomatch z
  have e1 : Env0 P w K mg base A outer s (over H L) := ⟨e0.frames, e0.mod, fun b o e => ⟨(e0.bs b o e).1, over_none hg (e0.bs b o e).2⟩, e0.bsz, e0.funs, fun b hb => over_none hg (e0.frf b hb), hok, e0.bare⟩
  refine codeAny_mono (Fo.run A outer s (over H L) args us vs Qs E0 hr e1 hb r hsp) fun res s' h => ?_
  cases res with
  | error e => exact h
  | ok fl =>
    cases fl with
    | next => exact h
    | brk => exact h
    | cont => exact h
    | ret u =>
      refine ce_re (show CE outer P w (over H L) s Qs u s' from h) (fun b n => over_none hg n) fun v H1 q hok1 _ => ?_
      obtain ⟨⟨L', rfl, hl', hp'⟩, q2⟩ := hq v H1 q
      have nog : ∀ b o, H b = some o → (∀ φ, o ≠ .ext φ) → ∀ g, F b ≠ some (.grw g) := fun b o e ne g z => by
        rw [hi.grw z] at e
        cases e
        exact ne _ rfl
      have mono : ∀ (g : Grw) (b : Addr) (h : Heap) (n : Nat), g.f b c h → g.f b (c + n) h := fun g b h n q => by
        induction n with
        | zero => exact q
        | succ n ih => exact g.mono _ _ _ ih
      refine ⟨bump H F c1, hok_re hok1 (fun b o e => ?_) (fun b cc e => ?_) (fun b xs e => ?_), fun b n _ => ?_, fun b xs e => ?_, fun b o u e => ?_, fun b ps e => ?_, q2⟩
      · by_cases hgb : ∃ g, F b = some (.grw g)
        · obtain ⟨g, hgb⟩ := hgb
          rw [bump_grw hgb] at e
          cases e
          refine .inr ?_
          have main : g.f b c1 s'.heap := by
            cases ql : L'.lookup b with
            | none =>
              have hb1 : over H L' b = some (.ext (g.f b c)) := by
                unfold over; rw [ql]; exact hl' b ql g hgb
              obtain ⟨z, _⟩ := hok1 b _ hb1
              have := mono g b _ (c1 - c) z
              rwa [show c + (c1 - c) = c1 by omega] at this
            | some o =>
              have hb1 : over H L' b = some o := by unfold over; rw [ql]
              obtain ⟨g', xs, z1, z2, z3⟩ := hp' _ (look_mem ql)
              have eg : g' = g := by
                have z1' : F b = some (.grw g') := z1
                rw [hgb] at z1'; cases z1'; rfl
              subst eg
              exact z3 _ (hok1 b _ hb1)
          exact ⟨main, g.obj _ _ _ main, fun h1 h2 a1 a2 => g.stay _ _ _ _ a1 a2⟩
        · have nb : ∀ g, F b ≠ some (.grw g) := fun g z => hgb ⟨g, z⟩
          rw [bump_other nb] at e
          refine .inl ?_
          unfold over
          cases ql : L'.lookup b with
          | none => exact e
          | some o' =>
            obtain ⟨g', xs, z1, _⟩ := hp' _ (look_mem ql)
            exact absurd z1 (nb g')
      · rcases over_some e with z | ⟨_, z⟩
        · obtain ⟨g', xs, _, z2, _⟩ := hp' _ z
          cases z2
        · rw [bump_other (nog b _ z fun φ r => nomatch r)]; exact z
      · rcases over_some e with z | ⟨_, z⟩
        · obtain ⟨g', ys, _, z2, _⟩ := hp' _ z
          cases z2
        · rw [bump_other (nog b _ z fun φ r => nomatch r)]; exact z
      · rw [bump_other (fun g z => by rw [hi.grw z] at n; cases n)]; exact n
      · rw [bump_other (nog b _ e fun φ r => nomatch r)]; exact e
      · rw [bump_other (nog b _ e fun φ r => nomatch r)]; exact e
      · exact ⟨#[], by rw [bump_other (nog b _ e fun φ r => nomatch r), Array.append_empty]; exact e⟩
end DL

/-! DS: the law's own call, from its contract; tables of code objects. -/
namespace DL
open PySem PySem.Spec PyProof.Rows L2

/-- the promise of the law at the script -/
def LawS (S : Spc) (n : Nat) : Prop := ∀ ns : List Int, ns.length ≤ n → S.run [.scr ns] (fun t => t = .fz (.bl true)) fun _ => False
/-- which def's table stands there -/
def tabF (K : PySem.W.Frag) (b : Addr) : Option Str := (lamDefs.find? fun x => match PySem.W.tabIn K x with
  | some q => q.2 == b
  | none => false).map fun x => x ++ ".<locals>.<lambda>"
def lawF (K : PySem.W.Frag) (H : Hp) : FH := fun b => match tabF K b with
  | some q => some (.tab q)
  | none => (H b).map FO.ho
def tbs (K : PySem.W.Frag) : List Addr := lamDefs.filterMap fun x => (PySem.W.tabIn K x).map (·.2)
/-- the tables are known, apart from one another, and no written part -/
def tabsGood (K : PySem.W.Frag) (ts : List Addr) : Bool := (lamDefs.all fun x => match PySem.W.tabIn K x with
  | some (c, p) => ts.contains p && PySem.W.codeHdIn K c p && (K.lookup p).isNone
  | none => true) && match PySem.W.tabIn K "sequence_in", PySem.W.tabIn K "sort_order" with
  | some q, some r => q.2 != r.2
  | _, _ => true
def TabsB (K : PySem.W.Frag) (base : Heap) (mg : Str → Option Value) : Prop := ∀ x ∈ lamDefs, ∀ c P, PySem.W.tabIn K x = some (c, P) → LamX.TabB base mg c P
theorem tabF_some {K : PySem.W.Frag} {b : Addr} {q : Str} (h : tabF K b = some q) : b ∈ tbs K := by
  unfold tabF at h
  rw [Option.map_eq_some_iff] at h
  obtain ⟨x, h, rfl⟩ := h
  have hm := List.mem_of_find?_eq_some h
  have h2 : (match PySem.W.tabIn K x with | some q => q.2 == b | none => false) = true := List.find?_some (p := fun x => match PySem.W.tabIn K x with | some q => q.2 == b | none => false) h
  split at h2
  · rename_i q hq
    refine List.mem_filterMap.mpr ⟨x, hm, ?_⟩
    rw [hq, Option.map_some]
    exact congrArg some (beq_iff_eq.mp h2)
  · cases h2
theorem tabK_law {K : PySem.W.Frag} {ts : List Addr} {H : Hp} (g : tabsGood K ts = true) : TabK K (lawF K H) := by
  intro x hx c P e
  have g2 := (Bool.and_eq_true_iff.mp g).2
  unfold lawF
  have key : tabF K P = some (x ++ ".<locals>.<lambda>") := by
    unfold tabF
    rw [Option.map_eq_some_iff]
    refine ⟨x, ?_, rfl⟩
    have hx2 : x = "sequence_in" ∨ x = "sort_order" := by simpa [lamDefs] using hx
    rcases hx2 with rfl | rfl
    · simp only [lamDefs, List.find?_cons, e, beq_self_eq_true]
    · simp only [lamDefs, List.find?_cons, e, beq_self_eq_true, List.find?_nil]
      cases q : PySem.W.tabIn K "sequence_in" with
      | none => rfl
      | some r =>
        rw [q, e] at g2
        have hne : (r.2 == P) = false := by simpa using g2
        simp only [hne]
  rw [key]
theorem tbs_ok {K : PySem.W.Frag} {ts : List Addr} (g : tabsGood K ts = true) : ∀ b ∈ tbs K, b ∈ ts ∧ K.lookup b = none := by
  intro b hb
  obtain ⟨x, hx, e⟩ := List.mem_filterMap.mp hb
  have g1 := List.all_eq_true.mp (Bool.and_eq_true_iff.mp g).1 x hx
  cases q : PySem.W.tabIn K x with
  | none => rw [q] at e; cases e
  | some r =>
    rw [q] at e g1
    cases e
    have g2 : (ts.contains r.2 && PySem.W.codeHdIn K r.1 r.2 && (K.lookup r.2).isNone) = true := g1
    simp only [Bool.and_eq_true] at g2
    exact ⟨by simpa using g2.1.1, by simpa using g2.2⟩
theorem tbs_hd {K : PySem.W.Frag} {ts : List Addr} {h : Heap} (KX : K.In h) (g : tabsGood K ts = true) {x : Str} (hx : x ∈ lamDefs) {c P : Addr} (e : PySem.W.tabIn K x = some (c, P)) : PySem.W.CodeHd h c P ∧ P ∈ tbs K := by
  have g1 := List.all_eq_true.mp (Bool.and_eq_true_iff.mp g).1 x hx
  rw [e] at g1
  have g2 : (ts.contains P && PySem.W.codeHdIn K c P && (K.lookup P).isNone) = true := g1
  simp only [Bool.and_eq_true] at g2
  exact ⟨PySem.W.codeHd_of_K KX g2.1.2, List.mem_filterMap.mpr ⟨x, hx, by rw [e]; rfl⟩⟩
theorem lawS_sp {K : PySem.W.Frag} {S : Spc} {H : Hp} {a : Addr} {ns : List Int} {n : Nat} {ts : List Addr} (g : tabsGood K ts = true) (hT : ∀ b ∈ tbs K, H b = some (.tbl #[])) (ha : a ∉ tbs K) (hS : LawS S n) (hce : S.ce ≤ 1000000) (hn : ns.length ≤ n) (hs : SqL K H a (ns.map V.int)) : spG K S [.ref a] H (fun v _ => v = .bl true) := by
  refine ⟨[.scr ns], lawF K H, 0, _, _, fun y h => h, ⟨fun b f e => ?_, tabK_law g⟩, ?_, .cons ?_ .nil, hS ns hn, fun t F' c' v H' T' e _ _ _ r => ?_⟩
  · unfold lawF at e
    split at e
    · rename_i q hq
      cases e
      exact ⟨#[], hT b (tabF_some hq), True.intro, fun pos cv hc => by
        have z : codeAmong pos [] = some cv := hc
        simp [codeAmong] at z⟩
    · cases q : H b with
      | none => rw [q] at e; cases e
      | some o => rw [q] at e; cases e; exact q
  · rw [Nat.zero_add]
    exact pmono hce
  · refine rf_scr.mpr ⟨a, rfl, ?_⟩
    have e : hpo (lawF K H) a = H a := by
      have e1 : lawF K H a = (H a).map FO.ho := by
        unfold lawF
        cases q : tabF K a with
        | none => rfl
        | some u => exact absurd (tabF_some q) ha
      unfold hpo
      rw [e1]
      cases q : H a with
      | none => rfl
      | some o => rfl
    rcases hs with (h | ⟨o, h⟩) | h
    · exact .inl (.inl (e.trans h))
    · exact .inl (.inr ⟨o, e.trans h⟩)
    · exact .inr h
  · subst e
    exact rf_bl.mp r.fz_inv.2
theorem law_callG {P : Program} {w : World} {K : PySem.W.Frag} {mg mb : Str → Option Value} {k n : Nat} {fa a : Addr} {fd : FuncData} {x : Str} {S : Spc} {s1 : Shared} {us : List Value} {ns : List Int} {ts : List Addr} (KX : K.In s1.heap) (hns : s1.heap.Ns mainGlobals mg) (hb : s1.heap.Ns builtinsNs mb)
    (hbb : ∀ x : Str, x ≠ "__name__" → mb x = bootBuiltins x) (hlim : s1.heap.NoLimit) (hg : s1.gens = #[]) (ha : s1.heap.get? a = some { cls := .type "list", data := .seq us.toArray }) (hi : IntsAre us ns) (hl : ns.length ≤ n) (hn2 : n ≤ sizeLine) (hr : Room k callerA)
    (hbm : ∃ (bm : Addr) (ob : Obj), mg "__builtins__" = some (.ref bm) ∧ bm ≠ builtinsNs ∧ s1.heap.get? bm = some ob ∧ ob.cls = .type "module" ∧ ob.dict = some builtinsNs ∧ ob.data = .plain)
    (tg : tabsGood K ts = true) (tt : ∀ P ∈ ts, s1.heap.get? P = some (PySem.W.tabObj #[]))
    (F : ∀ base : Heap, K.In base → base.Ns mainGlobals mg → TabsB K base mg → FnG P w K mg base k fa fd [x] S) (hbind : ∀ (s : Shared) (u : Value), BindsTo s fd ⟨[u], []⟩ [(x, u)]) (hS : LawS S n) (hce : S.ce ≤ 1000000) :
    codeAny (model P w) callerA (.call (.ref fa) ⟨[.ref a], []⟩) (fun r s' => r = .ok (.ret (.bool true)) ∧ OldK s1.heap s'.heap ∧ s'.os = s1.os ∧ AllBare s'.gens) s1 := by
  have rv := vals_ints hi
  have isT : ∀ b ∈ tbs K, s1.heap.get? b = some (PySem.W.tabObj #[]) := fun b hb => tt b (tbs_ok tg b hb).1
  have aT : a ∉ tbs K := fun z => by
    have q := isT a z
    rw [ha] at q
    have q := congrArg Obj.data (Option.some.inj q)
    cases q
  have main : ∀ H : Hp, (∀ b ∈ tbs K, H b = some (.tbl #[])) → (∀ b, b ∉ tbs K → H b = none ∨ ∃ ob xs, H b = some (.frz ob (.lst xs))) → SqL K H a (ns.map V.int) → HOk P w H s1.heap → (∀ b, H b ≠ none → b = a ∨ b ∈ tbs K) → (H a ≠ none → K.lookup a = none) →
      codeAny (model P w) callerA (.call (.ref fa) ⟨[.ref a], []⟩) (fun r s' => r = .ok (.ret (.bool true)) ∧ OldK s1.heap s'.heap ∧ s'.os = s1.os ∧ AllBare s'.gens) s1 := by
    intro H hTb hO hSq hok only notK
    have look : ∀ {b : Addr} {o : Obj}, s1.heap.get? b = some o → (∀ vs m, o.data ≠ .seq vs m) → o.data ≠ .fields #[] → H b = none := fun {b o} e d1 d2 => by
      cases q : H b with
      | none => rfl
      | some u =>
        rcases only b (by rw [q]; simp) with rfl | hb
        · rw [ha] at e
          cases e
          exact absurd rfl (d1 _ _)
        · rw [isT b hb] at e
          cases e
          exact absurd rfl d2
    have free : ∀ {b : Addr} {o : Obj} {es : Array DictEntry} {ep : Nat}, s1.heap.get? b = some o → o.data = .dict es ep → H b = none := fun e d =>
      look e (fun vs m z => by rw [d] at z; cases z) (fun z => by rw [d] at z; cases z)
    have ns2 : ∀ {b : Addr} {m : Str → Option Value}, s1.heap.Ns b m → (hidT s1.heap H).Ns b m := fun {b m} ⟨o, es, ep, e, d, r⟩ => ⟨o, es, ep, hidT_get e (free e d), d, r⟩
    have kb : K.In (hidT s1.heap H) := fun b o e => hidT_get (KX b o e) (by
      cases q : H b with
      | none => rfl
      | some u =>
        rcases only b (by rw [q]; simp) with rfl | hb
        · rw [notK (by rw [q]; simp)] at e
          cases e
        · rw [(tbs_ok tg b hb).2] at e
          cases e)
    have hMod : Mod K mg (hidT s1.heap H) := ⟨kb, ns2 hns, ⟨mb, ns2 hb, hbb⟩, let ⟨mc, z1, z2⟩ := hlim; ⟨mc, ns2 z1, z2⟩⟩
    have TB : TabsB K (hidT s1.heap H) mg := fun y hy c P e => by
      obtain ⟨hd, hPm⟩ := tbs_hd KX tg hy e
      have hP := isT P hPm
      refine ⟨?_, ?_, fun z => ?_⟩
      · obtain ⟨o, vs, file, tf, flags, tgg, inF, text, tt2, e1, e2, e3, e4, rest⟩ := hd
        refine ⟨o, vs, file, tf, flags, tgg, inF, text, tt2, hidT_get e1 (look e1 (fun vs m z => by rw [e3] at z; cases z) fun z => ?_), e2, e3, e4, rest⟩
        rw [e3] at z
        cases z
        simp at e4
      · obtain ⟨bm, ob, b1, b2, b3, b4, b5, b6⟩ := hbm
        refine ⟨bm, ob, b1, b2, fun q => ?_, fun q => ?_, hidT_get b3 (look b3 (fun vs m z => by rw [b6] at z; cases z) fun z => by rw [b6] at z; cases z), b4, b5, b6⟩
        · obtain ⟨o, es, ep, e, hd, _⟩ := hns
          rw [q, e] at b3
          cases b3
          rw [hd] at b6
          cases b6
        · rw [q, hP] at b3
          cases b3
          cases b6
      · obtain ⟨o, es, ep, e, hd, _⟩ := hns
        rw [z, hP] at e
        cases e
        cases hd
    have e0 : Env0 P w K mg (hidT s1.heap H) callerA [] s1 H := ⟨rfl, hMod, fun b o e => of_hidT e, Nat.le_of_eq (hidT_size _ _), trivial, fun b q => absurd (show b ∈ ([] : List Addr) from q) (by simp), hok, .of_eq hg⟩
    refine codeAny_mono ((F _ kb (ns2 hns) TB).run callerA [] s1 H ⟨[.ref a], []⟩ [.ref a] [.ref a] _ hr rfl e0 (hbind s1 (.ref a)) (.cons rfl .nil) (lawS_sp tg hTb aT hS hce hl hSq)) fun r s' h => ?_
    cases r with
    | error e => exact False.elim h
    | ok fl =>
      cases fl with
      | next => exact False.elim h
      | brk => exact False.elim h
      | cont => exact False.elim h
      | ret u =>
        obtain ⟨v, H', os, bare, un, hok2, r2, q⟩ := h
        obtain rfl : v = .bl true := q
        obtain rfl : u = Value.bool true := r2
        have plain : ∀ b o, b ∉ tbs K → s1.heap.get? b = some o → s'.heap.get? b = some o := fun b o nb e => by
          rcases hO b nb with z | ⟨ob, xs, z⟩
          · exact un.keep b o e z (by intro m; exact absurd (show b ∈ ([] : List Addr) from m) (by simp)) (by simp)
          · obtain ⟨e1, _⟩ := hok b _ z
            obtain ⟨e2, _⟩ := hok2 b _ (un.frzs b ob _ z)
            rw [e] at e1
            cases e1
            exact e2
        have tabs : ∀ b ∈ tbs K, ∃ more : Array Value, s'.heap.get? b = some { cls := .none, data := .fields more } := fun b hb => by
          obtain ⟨more, z⟩ := un.tbls b #[] (hTb b hb)
          exact ⟨_, hok2 b _ z⟩
        refine ⟨rfl, ⟨fun b o e => ?_, fun b o e => ?_⟩, os, bare⟩
        · by_cases hb : b ∈ tbs K
          · obtain ⟨more, hm⟩ := tabs b hb
            obtain ⟨x', hx', eq'⟩ := List.mem_filterMap.mp hb
            cases q : PySem.W.tabIn K x' with
            | none => rw [q] at eq'; cases eq'
            | some r =>
              rw [q] at eq'
              cases eq'
              have hd := (tbs_hd KX tg hx' (c := r.1) (P := r.2) q).1
              have hP := isT _ hb
              rw [hP] at e
              cases e
              exact .inr (.inl ⟨(hd.tab hP).isCodeTable, rfl, #[], more, rfl, by rw [Array.empty_append]; exact hm⟩)
          · exact .inl (plain b o hb e)
        · by_cases hb : b ∈ tbs K
          · obtain ⟨more, hm⟩ := tabs b hb
            exact ⟨_, hm⟩
          · exact ⟨o, plain b o hb e⟩
  have hlen : ns.length ≤ sizeLine := Nat.le_trans hl hn2
  cases hk : K.lookup a with
  | some o =>
    have e := KX a o hk
    rw [ha] at e
    cases e
    let G : Hp := fun b => if b ∈ tbs K then some (.tbl #[]) else none
    have gT : ∀ b ∈ tbs K, G b = some (.tbl #[]) := fun b hb => if_pos hb
    have gN : ∀ b, b ∉ tbs K → G b = none := fun b hb => if_neg hb
    refine main G gT (fun b hb => .inl (gN b hb)) (.inr ⟨_, us.toArray, _, hk, rfl, rfl, rfl, ?_, by simpa using rv⟩) (fun b u z => ?_) (fun b z => ?_) fun z => absurd (gN a aT) z
    · rw [List.size_toArray, hi.length]; exact hlen
    · by_cases hb : b ∈ tbs K
      · rw [gT b hb] at z; cases z; exact isT b hb
      · rw [gN b hb] at z; cases z
    · by_cases hb : b ∈ tbs K
      · exact .inr hb
      · exact absurd (gN b hb) z
  | none =>
    let G : Hp := fun b => if b = a then some (.frz { cls := .type "list", data := .seq us.toArray } (.lst (ns.map V.int))) else if b ∈ tbs K then some (.tbl #[]) else none
    have gA : G a = some (.frz { cls := .type "list", data := .seq us.toArray } (.lst (ns.map V.int))) := if_pos rfl
    have gT : ∀ b ∈ tbs K, G b = some (.tbl #[]) := fun b hb => (if_neg fun z : b = a => aT (z ▸ hb)).trans (if_pos hb)
    have gN : ∀ b, b ≠ a → b ∉ tbs K → G b = none := fun b h1 h2 => (if_neg h1).trans (if_neg h2)
    refine main G gT (fun b hb => ?_) (.inl (.inr ⟨_, gA⟩)) (fun b u z => ?_) (fun b z => ?_) fun _ => hk
    · by_cases q : b = a
      · subst q; exact .inr ⟨_, _, gA⟩
      · exact .inl (gN b q hb)
    · by_cases q : b = a
      · subst q
        rw [gA] at z
        cases z
        exact ⟨ha, by rw [List.length_map]; exact hlen, us, _, rv, ha⟩
      · by_cases hb : b ∈ tbs K
        · rw [gT b hb] at z; cases z; exact isT b hb
        · rw [gN b q hb] at z; cases z
    · by_cases q : b = a
      · exact .inl q
      · by_cases hb : b ∈ tbs K
        · exact .inr hb
        · exact absurd (gN b q hb) z
/-- the head's goal, from the law's contract -/
theorem walkG {l : PySem.W.OpenLaw} {n k : Nat} {q : Program} {loose : List Str} {XP : (Str → Option Value) → Heap → Prop} {YP : World → Heap → Prop} {d : DefRec} {K : Params → PySem.W.Frag} {S : Spc} {x : Str} {ts : List Addr} (hn : l.most = some n) (hn2 : n ≤ sizeLine) (hdf : d.params.defaults = []) (hr : Room k callerA)
    (hY : ∀ (w : World) (h : Heap), YP w h → (K w.params).In h ∧ ∀ P ∈ ts, h.get? P = some (PySem.W.tabObj #[])) (tg : ∀ w : World, tabsGood (K w.params) ts = true)
    (F : ∀ (w : World) (mg : Str → Option Value) (fa : Addr) (h : Heap), (K w.params).In h → h.Ns mainGlobals mg → mg d.name = some (.ref fa) →
      ∃ fd : FuncData, (∀ (s : Shared) (u : Value), BindsTo s fd ⟨[u], []⟩ [(x, u)]) ∧ ∀ base : Heap, (K w.params).In base → base.Ns mainGlobals mg → TabsB (K w.params) base mg → FnG l.prog w (K w.params) mg base k fa fd [x] S)
    (hS : LawS S n) (hce : S.ce ≤ 1000000) : PySem.W.WalkO q loose XP YP l.row.toRowW d [] (fun f vs => PySem.call f vs) := by
  refine Att.attach_call hn hdf fun w s₀ s1 mg mb fa o pm cd doc a us ns G Y ho hd hcd hmg hobj hints hlen hg => ?_
  obtain ⟨fd, hb, hF⟩ := F w mg fa _ (hY w _ Y).1 G.T.g hmg
  exact law_callG (hY w _ Y).1 G.T.g G.T.b G.T.builtins G.T.nolimit hg hobj hints hlen hn2 hr G.T.bmain (tg w) (hY w _ Y).2 hF hb hS hce
end DL

/-! DT: what the draw sources' own defs lean on. -/
namespace DL
open PySem PySem.Spec PyProof.Rows L2
/-- a third, a second power of a great number -/
def CPowW (i j : Int) : Prop := 0 ≤ j ∧ j ≤ 3 ∧ i.natAbs.log2 < 9000000
theorem op_powW {X : Cx} : OpR X (binaryOp .Pow) (rI CPowW fun i j => .int (i ^ j.toNat)) := opI fun i j _ _ _ _ _ hc q => by
  refine pow_int hc.1 ?_ q
  have hb : Builtin.Int.intBits i ≤ i.natAbs.log2 + 1 := by unfold Builtin.Int.intBits; split <;> omega
  have h3 : i.natAbs.log2 < 9000000 := hc.2.2
  have h1 : (Builtin.Int.intBits i : Int) * j ≤ (Builtin.Int.intBits i : Int) * 3 := Int.mul_le_mul_of_nonneg_left hc.2.1 (by omega)
  have h2 : (2 : Int) ^ 27 = 134217728 := by decide
  rw [h2]
  omega
theorem log2_of {i : Int} {n : Nat} (h0 : 0 ≤ i) (h : i < (2 : Int) ^ n) (hn : 0 < n) : i.natAbs.log2 < n := by
  refine PySem.Flt.log2_lt_of hn ?_
  have : ((i.natAbs : Nat) : Int) < ((2 ^ n : Nat) : Int) := by
    rw [Int.natAbs_of_nonneg h0]
    simpa using h
  exact_mod_cast this
/-- a remainder's shape, with a small multiple of a count -/
theorem mix_ok {m c k : Int} {n : Nat} (h0 : 0 ≤ m) (h1 : m < 2 ^ 200) (h2 : 0 ≤ c) (h3 : c < 2 ^ 64) (h4 : 0 ≤ k) (h5 : k ≤ 4000 + (n : Int)) (h6 : n ≤ BD) : CPowW (m + c * k) 3 := by
  refine ⟨by omega, by omega, ?_⟩
  have hb : (BD : Int) = (2 : Int) ^ 1000000 := by unfold BD; simp
  have hk : k ≤ 2 ^ 1000001 := by
    have e : (2 : Int) ^ 1000001 = 2 ^ 1000000 * 2 := Int.pow_succ ..
    have g : (4000 : Int) ≤ 2 ^ 1000000 := by
      have : (2 : Int) ^ 12 ≤ 2 ^ 1000000 := by
        have := Nat.pow_le_pow_right (n := 2) (by omega) (show 12 ≤ 1000000 by omega)
        exact_mod_cast this
      omega
    have g2 : (n : Int) ≤ BD := by exact_mod_cast h6
    omega
  have hck : c * k ≤ 2 ^ 64 * 2 ^ 1000001 := Int.mul_le_mul (by omega) hk h4 (by decide)
  have e2 : (2 : Int) ^ 64 * 2 ^ 1000001 = 2 ^ 1000065 := by rw [← Int.pow_add]
  have e3 : (2 : Int) ^ 1000066 = 2 ^ 1000065 * 2 := Int.pow_succ ..
  have e4 : (2 : Int) ^ 200 ≤ 2 ^ 1000065 := by
    have := Nat.pow_le_pow_right (n := 2) (by omega) (show 200 ≤ 1000065 by omega)
    exact_mod_cast this
  have hnn : 0 ≤ c * k := Int.mul_nonneg h2 h4
  refine Nat.lt_trans (log2_of (n := 1000066) (by omega) ?_ (by omega)) (by omega)
  rw [e3]
  rw [e2] at hck
  omega
end DL

/-! DU: the first draw source (a deck): what its two defs promise, as contracts over data. -/
namespace DL
open PySem PySem.Spec PyProof.Rows L2
def spDraw (K : PySem.W.Frag) : Sp := fun vs H Q _ => ∃ (a p q : Addr) (j m i0 i1 i2 : Int) (qs : List Addr) (n : Nat), vs = [.ref a, .int m] ∧ 0 < m ∧ m < 2582249878086908589655919172003011874329705792829223512830659356540647622016841194629645353280137831435903171972747493376 ∧ H a = some (.lst [.ref p, .int j]) ∧ H p = some (.lst (qs.map V.ref)) ∧ q ≠ a ∧
  atI (qs.map V.ref) (j % (qs.length : Int)) = some (.ref q) ∧ 0 < qs.length ∧ H q = some (.lst [.int i0, .int i1, .int i2]) ∧ 0 ≤ i2 ∧ i2 ≤ 4000 + (n : Int) ∧ n + 1 ≤ BD ∧
  ∀ r i0' i2', 0 ≤ r → r < m → 0 ≤ i2' → i2' ≤ i2 + 1 → Q (.int r) (upd (upd H a (.lst [.ref p, .int (j + 1)])) q (.lst [.int i0', .int i1, .int i2']))
/-- a draw from source t: any number below many -/
def drawS (t : Nat) : Spc where
  run := fun ds k _ => ∃ (a : Addr) (m : Int), ds = [.opq t a, .int m] ∧ 0 < m ∧ m < 2582249878086908589655919172003011874329705792829223512830659356540647622016841194629645353280137831435903171972747493376 ∧ ∀ r, 0 ≤ r → r < m → k (.fz (.int r))
  ce := 0
  ar := 2
theorem vals_refs : ∀ (qs : List Addr), Vals (qs.map V.ref) (qs.map Value.ref)
  | [] => .nil
  | q :: qs => .cons rfl (vals_refs qs)
theorem vals_refs_inv : ∀ {qs : List Addr} {us : List Value}, Vals (qs.map V.ref) us → us = qs.map Value.ref
  | [], _, .nil => rfl
  | q :: qs, _, .cons r t => by rw [vals_refs_inv t, (show _ = Value.ref q from r)]; rfl
theorem fng_draw {P : Program} {w : World} {K : PySem.W.Frag} {mg : Str → Option Value} {base : Heap} {k : Nat} {f : Addr} {fd : FuncData} {ps : List Str} (hps : ps.length = 2) (Fo : FnOk P w K mg base CX0 k f fd ps (spDraw K)) : FnG P w K mg base k f fd ps (drawS 0) := by
  refine ⟨fun ds kk x h => ?_, fun A outer s H args us vs Q hr hgd e0 hb r hsp => ?_⟩
  · obtain ⟨a, m, rfl, _⟩ := h
    exact hps.symm
  obtain ⟨ds, F, c, kk, x, hx, ⟨ini, tk⟩, bud, hds, ⟨a, m, rfl, hm, hm2, hk⟩, fin⟩ := hsp
  obtain ⟨v, u, rfl, hv, hu⟩ := RfL.two hds
  have eu := hu.int_inv
  subst eu
  rw [Rf, Rp] at hv
  obtain ⟨rfl, hv⟩ := hv
  rcases hv with ⟨_, p, qs, fa, fp, hne, hlen, fq⟩ | ⟨e, _⟩
  case inr => cases e
  obtain ⟨⟨j, tj, na, hj, ga⟩, _⟩ := e0.hok a _ (ini.grw fa)
  obtain ⟨⟨np, gp⟩, _⟩ := e0.hok p _ (ini.grw fp)
  have hl0 : 0 < qs.length := List.length_pos_iff.mpr hne
  have hjm : 0 ≤ j % (qs.length : Int) := Int.emod_nonneg j (by omega)
  have hjl : j % (qs.length : Int) < qs.length := Int.emod_lt_of_pos j (by omega)
  have hjn : (j % (qs.length : Int)).toNat < qs.length := by omega
  generalize hq : qs[(j % (qs.length : Int)).toNat] = q
  have hqm : q ∈ qs := by rw [← hq]; exact List.getElem_mem hjn
  obtain ⟨⟨i0, i1, i2, ⟨ts, nq, hts, gq⟩, h0, h1⟩, _⟩ := e0.hok q _ (ini.grw (fq q hqm))
  have hpa : p ≠ a := fun z => by
    subst z
    rw [ga] at gp
    have e := congrArg Obj.data (Option.some.inj gp)
    have e2 : (#[Value.ref p, .int j tj] : Array Value) = (qs.map Value.ref).toArray := by injection e
    have e3 : [Value.ref p, .int j tj] = qs.map Value.ref := congrArg Array.toList e2
    match qs, e3 with
    | [b, d], e3 => simp at e3
  have hqa : q ≠ a := fun z => by
    subst z
    rw [ga] at gq
    have e := congrArg Obj.data (Option.some.inj gq)
    have e2 : (#[Value.ref p, .int j tj] : Array Value) = ts.toArray := by injection e
    have e3 : [Value.ref p, .int j tj] = ts := congrArg Array.toList e2
    have := hts.length
    rw [← e3] at this
    simp at this
  have hqp : q ≠ p := fun z => by
    subst z
    rw [gp] at gq
    have e := congrArg Obj.data (Option.some.inj gq)
    have e2 : (qs.map Value.ref).toArray = ts.toArray := by injection e
    have e3 : qs.map Value.ref = ts := congrArg Array.toList e2
    rw [← e3] at hts
    cases qs with
    | nil => exact hne rfl
    | cons b bs =>
      cases hts with
      | cons z _ => obtain ⟨t, z⟩ := z; cases z
  have l1 : over H [(a, .lst [.ref p, .int j]), (p, .lst (qs.map V.ref)), (q, .lst [.int i0, .int i1, .int i2])] a = some (.lst [.ref p, .int j]) := by
    unfold over; rw [List.lookup_cons, beq_self_eq_true]
  have l2 : over H [(a, .lst [.ref p, .int j]), (p, .lst (qs.map V.ref)), (q, .lst [.int i0, .int i1, .int i2])] p = some (.lst (qs.map V.ref)) := by
    unfold over; rw [List.lookup_cons, beq_false_of_ne hpa, List.lookup_cons, beq_self_eq_true]
  have l3 : over H [(a, .lst [.ref p, .int j]), (p, .lst (qs.map V.ref)), (q, .lst [.int i0, .int i1, .int i2])] q = some (.lst [.int i0, .int i1, .int i2]) := by
    unfold over; rw [List.lookup_cons, beq_false_of_ne hqa, List.lookup_cons, beq_false_of_ne hqp, List.lookup_cons, beq_self_eq_true]
  have s64 : 64 ≤ sizeLine := by rw [sizeLine_eq]; decide
  refine run_re Fo (L := [(a, .lst [.ref p, .int j]), (p, .lst (qs.map V.ref)), (q, .lst [.int i0, .int i1, .int i2])]) (c1 := c + 1) (F := F) (c := c)
    (Qs := fun v H1 => ∃ r i0' i2', v = .int r ∧ 0 ≤ r ∧ r < m ∧ 0 ≤ i2' ∧ i2' ≤ i2 + 1 ∧ H1 = upd (upd (over H [(a, .lst [.ref p, .int j]), (p, .lst (qs.map V.ref)), (q, .lst [.int i0, .int i1, .int i2])]) a (.lst [.ref p, .int (j + 1)])) q (.lst [.int i0', .int i1, .int i2']))
    hr e0 hb r ini (Nat.le_succ c) (fun z hz => ?_) ⟨a, p, q, j, m, i0, i1, i2, qs, c, rfl, hm, hm2, l1, l2, hqa, ?_, hl0, l3, h0, h1, ?_, fun r i0' i2' a1 a2 a3 a4 => ⟨r, i0', i2', rfl, a1, a2, a3, a4, rfl⟩⟩ ?_
  · have hz' : z = (a, .lst [.ref p, .int j]) ∨ z = (p, .lst (qs.map V.ref)) ∨ z = (q, .lst [.int i0, .int i1, .int i2]) := by simpa using hz
    rcases hz' with rfl | rfl | rfl
    · exact ⟨⟨_, fa⟩, ⟨_, rfl⟩, fun H' => ⟨Nat.le_trans (show 2 ≤ 64 by omega) s64, [.ref p, .int j tj], na, .cons rfl (.cons ⟨tj, rfl⟩ .nil), ga⟩⟩
    · exact ⟨⟨_, fp⟩, ⟨_, rfl⟩, fun H' => ⟨by rw [List.length_map]; omega, qs.map Value.ref, np, vals_refs qs, gp⟩⟩
    · exact ⟨⟨_, fq q hqm⟩, ⟨_, rfl⟩, fun H' => ⟨Nat.le_trans (show 3 ≤ 64 by omega) s64, ts, nq, hts, gq⟩⟩
  · have e1 : (((j % (qs.length : Int)).toNat : Nat) : Int) = j % (qs.length : Int) := Int.toNat_of_nonneg hjm
    rw [← e1]
    refine atI_nat ?_
    rw [List.getElem?_map, List.getElem?_eq_getElem hjn, hq]
    rfl
  · have : c + 2 ^ 0 ≤ BD := bud
    omega
  · rintro v H1 ⟨r, i0', i2', rfl, b1, b2, b3, b4, rfl⟩
    refine ⟨⟨[(q, .lst [.int i0', .int i1, .int i2']), (a, .lst [.ref p, .int (j + 1)]), (p, .lst (qs.map V.ref))], ?_, fun b _ g hg => ini.grw hg, fun z hz => ?_⟩, ?_⟩
    · funext b
      by_cases e1 : b = q
      · subst e1
        rw [upd_same]; unfold over; rw [List.lookup_cons, beq_self_eq_true]
      · rw [upd_ne e1]
        by_cases e2 : b = a
        · subst e2
          rw [upd_same]; unfold over; rw [List.lookup_cons, beq_false_of_ne e1, List.lookup_cons, beq_self_eq_true]
        · rw [upd_ne e2]
          unfold over
          simp only [List.lookup_cons, beq_false_of_ne e1, beq_false_of_ne e2]
    · have hz' : z = (q, .lst [.int i0', .int i1, .int i2']) ∨ z = (a, .lst [.ref p, .int (j + 1)]) ∨ z = (p, .lst (qs.map V.ref)) := by simpa using hz
      rcases hz' with rfl | rfl | rfl
      · refine ⟨poolG, _, fq q hqm, rfl, fun h ok => ?_⟩
        obtain ⟨_, its, n, rv, g⟩ := ok
        exact ⟨i0', i1, i2', ⟨its, n, rv, g⟩, b3, by omega⟩
      · refine ⟨deckG p, _, fa, rfl, fun h ok => ?_⟩
        obtain ⟨_, its, n, rv, g⟩ := ok
        cases rv with
        | cons r1 r2 =>
          cases r2 with
          | cons r2 r3 =>
            cases r3
            obtain ⟨t, rfl⟩ := r2
            cases r1
            exact ⟨j + 1, t, n, by omega, g⟩
      · refine ⟨listG qs, _, fp, rfl, fun h ok => ?_⟩
        obtain ⟨_, its, n, rv, g⟩ := ok
        rw [vals_refs_inv rv] at g
        exact ⟨n, g⟩
    · exact fin _ F (c + 1) _ _ [] (hk r b1 b2) (by show c + 1 ≤ c + 2 ^ 0; omega) (bump_base ini) ⟨by simp, fun p hp => absurd hp (by simp)⟩ (.of_fz (rf_int.mpr rfl))
end DL

/-! DV: an owned item appended; an item's own list changed. -/
namespace DL
open PySem PySem.Spec PyProof.Rows L2
section
variable {K : PySem.W.Frag} {F : FH}
theorem RpTL.app1 : ∀ {ts : List OT} {P T1 : Foot} {vs : List V} {t : OT} {v : V}, RpTL K F P ts vs → RpT K F T1 t v → RpTL K F (P ++ T1) (ts ++ [t]) (vs ++ [v])
  | [], P, T1, vs, t, v, h, r => by
    rw [RpTL] at h
    obtain ⟨rfl, rfl⟩ := h
    rw [List.nil_append, List.nil_append, List.nil_append, RpTL]
    exact ⟨v, [], T1, [], rfl, by simp, r, by rw [RpTL]; exact ⟨rfl, rfl⟩⟩
  | x :: ts, P, T1, vs, t, v, h, r => by
    rw [RpTL] at h
    obtain ⟨y, ws, P1, P2, rfl, rfl, a, b⟩ := h
    rw [List.cons_append, List.cons_append, RpTL]
    exact ⟨y, ws ++ [v], P1, P2 ++ T1, rfl, by simp, a, RpTL.app1 b r⟩
theorem RpTL.focus : ∀ {ts : List OT} {P : Foot} {vs : List V} {n : Nat} {t : OT}, RpTL K F P ts vs → ts[n]? = some t → ∃ A B C v, P = A ++ B ++ C ∧ vs[n]? = some v ∧ RpT K F B t v ∧ ∀ B' t', RpT K F B' t' v → RpTL K F (A ++ B' ++ C) (ts.set n t') vs
  | [], P, vs, n, t, h, e => by simp at e
  | x :: ts, P, vs, 0, t, h, e => by
    rw [RpTL] at h
    obtain ⟨y, ws, P1, P2, rfl, rfl, a, b⟩ := h
    simp at e
    subst e
    refine ⟨[], P1, P2, y, by simp, by simp, a, fun B' t' r => ?_⟩
    show RpTL K F ([] ++ B' ++ P2) (t' :: ts) (y :: ws)
    rw [RpTL]
    exact ⟨y, ws, B', P2, rfl, by simp, r, b⟩
  | x :: ts, P, vs, n + 1, t, h, e => by
    rw [RpTL] at h
    obtain ⟨y, ws, P1, P2, rfl, rfl, a, b⟩ := h
    obtain ⟨A, B, C, v, rfl, h1, h2, h3⟩ := RpTL.focus (n := n) b (by simpa using e)
    refine ⟨P1 ++ A, B, C, v, by simp, by simpa using h1, h2, fun B' t' r => ?_⟩
    show RpTL K F (P1 ++ A ++ B' ++ C) (x :: ts.set n t') (y :: ws)
    rw [RpTL]
    exact ⟨y, ws, P1, A ++ B' ++ C, rfl, by simp, a, h3 B' t' r⟩
end
section
variable {X : Cx} {a o e : Expr} {es : List Expr} {sa : SE} {ss : List SE} {pos apos cpos : Pos} {i n : Nat} {name : Str} {id : String} {r : V → List V → Hp → VK → Prop} {m : Mc}
theorem set_self {σ : L2.St} {v : V} (h : σ[i]? = some (some v)) : σ.set i (some v) = σ := by
  obtain ⟨hl, q⟩ := List.getElem?_eq_some_iff.mp h
  rw [← q]
  exact List.set_getElem_self hl
theorem de_apo (ho : PE X o (tVar i)) (ha : DE X e sa)
    (hbase : attributeBase o "append" X.env (eval o X.env) = eval o X.env := by rfl)
    (hfew : ((backTo cpos (starEach [e] X.env)).all (fun x => !x.1) && (backToKw cpos (keywordEach [] X.env)).all (fun x => x.1.isSome) && decide ([e].length + ([] : List Keyword).length + (if ([] : List Keyword).isEmpty then 0 else 1) < 30)) = true := by rfl)
    (hline : (apos.endLine == cpos.line) = true := by rfl) (hs : starEach [e] X.env = (false, eval e X.env) :: starEach [] X.env := by rfl) (hplain : (backTo cpos (starEach [] X.env)).any (·.1) = false := by rfl) :
    DE X (.Call (.Attribute o "append" apos) [e] [] cpos) (.apo i sa) := by
  refine (pe_bm PySem.F.plainAttrs_list PySem.F.slot_list_append PySem.F.type_list_append mt_append ho (pa_cons ha pa_nil hs) hbase hfew hline hs hplain).mono fun σ H Q ⟨e, H0, F0, Γ, F, c, T, k, xo, ok, hc, hw, fin⟩ => ?_
  have hw : wpE e (.apo i sa) Γ k := hw
  rw [wpE] at hw
  rw [show costE (.apo i sa) = costE sa by rw [costE]] at hc fin
  obtain ⟨h1, hw⟩ := hw
  obtain ⟨l, lvs, h2, h3⟩ := lst_at ok h1
  refine ⟨.ref l, h2, .inl ⟨rfl, lvs, .inl (.inl h3)⟩, e, H0, F0, Γ, F, c, T, _, xo, ok, hc, hw, fun t Γ1 F1 c1 v H1 T1 q1 hc1 l1 ok1 r1 => ?_⟩
  split at q1
  · rename_i ts hts
    obtain ⟨v0, P, hv0, rp, ok2⟩ := ok1.take hts
    rw [h2] at hv0
    cases hv0
    rw [RpT] at rp
    obtain ⟨l', vs0, P', e1, rfl, rp⟩ := rp
    cases e1
    have hi : i < Γ1.length := (List.getElem?_eq_some_iff.mp hts).1
    have hst : H1 l = some (.lst vs0) := by
      obtain ⟨b, O, g, w⟩ := ok2
      exact (w.at_ (l, .lst vs0) (List.mem_append_right _ (List.mem_append_left _ List.mem_cons_self))).1
    have ok3 : EOk X.K H0 F0 c1 (Γ1.set i none) F1 σ (upd H1 l (.lst (vs0 ++ [v]))) (((l, .lst (vs0 ++ [v])) :: (P' ++ T1)) ++ T) := by
      have := EOk.wr (T1 := []) (o' := .lst (vs0 ++ [v])) ok2
      simpa using this
    have ok4 := ok3.store (i := i) (t := .lst (ts ++ [t])) (v := .ref l) (by rw [RpT]; exact ⟨l, vs0 ++ [v], P' ++ T1, rfl, rfl, rp.app1 r1⟩) (by simpa using hi)
    rw [List.set_set, set_self h2] at ok4
    refine ⟨l, vs0, v, rfl, rfl, hst, ?_, fin _ _ F1 c1 .non _ [] q1.2 hc1 l1 ok4 (.of_fz (rf_non.mpr rfl))⟩
    rw [← rp.length]
    exact Nat.lt_of_lt_of_le q1.1 lim_line
  · exact q1.elim
theorem lst_at2 {K : PySem.W.Frag} {H0 H : Hp} {F0 F : FH} {c : Nat} {Γ : DL.Env} {σ : L2.St} {T : Foot} (h : EOk K H0 F0 c Γ F σ H T) (e : lstAt2 Γ i n = true) : ∃ l vs l1 ws, σ[i]? = some (some (.ref l)) ∧ H l = some (.lst vs) ∧ vs[n]? = some (.ref l1) ∧ H l1 = some (.lst ws) := by
  unfold lstAt2 at e
  split at e
  · rename_i ts q
    split at e
    · rename_i us hu
      obtain ⟨v, P, hv, r, ok⟩ := h.take q
      rw [RpT] at r
      obtain ⟨l, vs, P', rfl, rfl, r⟩ := r
      obtain ⟨A, B, C, w, rfl, h1, h2, _⟩ := r.focus hu
      rw [RpT] at h2
      obtain ⟨l1, ws, B', rfl, rfl, _⟩ := h2
      obtain ⟨b, O, g, ow⟩ := ok
      exact ⟨l, vs, l1, ws, hv, (ow.at_ (l, .lst vs) (List.mem_append_right _ (List.mem_append_left _ List.mem_cons_self))).1, h1, (ow.at_ (l1, .lst ws) (by simp)).1⟩
    · cases e
  · cases e
/-- name[n].m(j), j a written number -/
theorem de_mcp {kk k2 : Nat} {j : Int} {p1 p2 p3 : Pos} (pa : PlainAttrs "list") (slot : Slot "list" name id) (hty : typeOf (.builtin id) = pure (.type "method_descriptor")) (hm : MtR X id r) (hv : MtV X.K r m) (ho : PE X o (tVar i))
    (hbase : attributeBase (.Subscript o (.Constant (.int (n : Int)) kk p1) p2) name X.env (eval (.Subscript o (.Constant (.int (n : Int)) kk p1) p2) X.env) = eval (.Subscript o (.Constant (.int (n : Int)) kk p1) p2) X.env := by rfl)
    (hfew : ((backTo cpos (starEach [.Constant (.int j) k2 p3] X.env)).all (fun x => !x.1) && (backToKw cpos (keywordEach [] X.env)).all (fun x => x.1.isSome) && decide ([Expr.Constant (.int j) k2 p3].length + ([] : List Keyword).length + (if ([] : List Keyword).isEmpty then 0 else 1) < 30)) = true := by rfl)
    (hline : (apos.endLine == cpos.line) = true := by rfl) (hs : starEach [.Constant (.int j) k2 p3] X.env = (false, eval (.Constant (.int j) k2 p3) X.env) :: starEach [] X.env := by rfl) (hplain : (backTo cpos (starEach [] X.env)).any (·.1) = false := by rfl) :
    DE X (.Call (.Attribute (.Subscript o (.Constant (.int (n : Int)) kk p1) p2) name apos) [.Constant (.int j) k2 p3] [] cpos) (.mcp i n m [.cst (.int j)]) := by
  refine (pe_bm pa slot hty hm (pe_ix ix_list ho pe_int (fun _ _ => rfl)) (pa_cons pe_int pa_nil hs) hbase hfew hline hs hplain).mono fun σ H Q ⟨e, H0, F0, Γ, F, c, T, k, xo, ok, hc, hw, fin⟩ => ?_
  have hw : wpE e (.mcp i n m [.cst (.int j)]) Γ k := hw
  rw [wpE, wpA, wpE, wpA] at hw
  obtain ⟨h1, hw⟩ := hw
  split at hw
  · rename_i ts hts
    split at hw
    · rename_i us hus
      split at hw
      · rename_i xs hxs
        have ex := fzs_inv hxs
        subst ex
        have hi : i < Γ.length := (List.getElem?_eq_some_iff.mp hts).1
        obtain ⟨v0, P, hv0, rp, ok2⟩ := ok.take hts
        rw [RpT] at rp
        obtain ⟨l, vs0, P', rfl, rfl, rp⟩ := rp
        obtain ⟨A, B, C, w, rfl, f1, f2, f3⟩ := rp.focus hus
        rw [RpT] at f2
        obtain ⟨l1, ws, B', rfl, rfl, f2⟩ := f2
        obtain ⟨eb, f4⟩ := RpTL.fz_inv f2
        subst eb
        have at_ : ∀ p ∈ ((l, HO.lst vs0) :: (A ++ [(l1, HO.lst ws)] ++ C)) ++ T, H p.1 = some p.2 := fun p hp => by
          obtain ⟨b, O, g, ow⟩ := ok2
          exact (ow.at_ p (List.mem_append_right _ hp)).1
        have g1 : H l = some (.lst vs0) := at_ (l, .lst vs0) (by simp)
        have g2 : H l1 = some (.lst ws) := at_ (l1, .lst ws) (by simp)
        refine ⟨.ref l, hv0, l, vs0, (n : Int), .ref l1, rfl, rfl, .inl (.inl g1), atI_nat f1, .inl ⟨rfl, ws, .inl (.inl g2)⟩, ?_⟩
        refine hv xs [.int j] l1 ws [.int j] F H _ Q ok.1.ini.same g2 f4 (.cons (rf_int.mpr rfl) .nil) hw fun y ys v ws' hk ry rys => ?_
        have ok3 : EOk X.K H0 F0 c (Γ.set i none) F σ (upd H l1 (.lst ws')) (((l, .lst vs0) :: A) ++ (l1, .lst ws') :: (C ++ T)) := EOk.wr (T1 := (l, .lst vs0) :: A) (o := .lst ws) (by simpa using ok2)
        have ok4 := (show EOk X.K H0 F0 c (Γ.set i none) F σ (upd H l1 (.lst ws')) (((l, .lst vs0) :: (A ++ [(l1, .lst ws')] ++ C)) ++ T) by simpa using ok3).store (i := i) (t := .lst (ts.set n (.lst (ys.map .fz)))) (v := .ref l)
          (by rw [RpT]; exact ⟨l, vs0, _, rfl, rfl, f3 _ _ (.newL rys)⟩) (by simpa using hi)
        rw [List.set_set, set_self hv0] at ok4
        exact fin _ _ F c v _ [] hk (Nat.le_add_right _ _) (Le.refl F) ok4 (.of_fz ry)
      · exact hw.elim
    · exact hw.elim
  · exact hw.elim
end
end DL

/-! DW: rules for the wp of loops and comprehensions; plain data of rows. -/
namespace DL
open PySem L2
/-- own names of a comprehension that hold nothing of their own -/
def keeps (Γ : Env) (vs : List Nat) : Bool := vs.all fun i => match Γ[i]? with
  | some (some (.fz _)) => true
  | some none => true
  | _ => false
theorem back_eq {Γ Δ : Env} {vs : List Nat} (hk : keeps Γ vs = true) (h : wipeG Δ vs = wipeG Γ vs) : backG Γ Δ vs = Γ := by
  have hl : Δ.length = Γ.length := by have := congrArg List.length h; rwa [wipeG_len, wipeG_len] at this
  refine List.ext_getElem? fun i => ?_
  by_cases hi : i ∈ vs
  · have hm := List.all_eq_true.mp hk i hi
    cases q : Γ[i]? with
    | none =>
      have hi2 : Γ.length ≤ i := List.getElem?_eq_none_iff.mp q
      rw [List.getElem?_eq_none (by rw [backG_len]; omega)]
    | some g =>
      have hi2 : i < Γ.length := (List.getElem?_eq_some_iff.mp q).1
      have hb : i < (backG Γ Δ vs).length := by rw [backG_len]; omega
      have e := backG_in (Γ := Γ) (Δ := Δ) hi (List.getElem?_eq_getElem hb)
      rw [List.getElem?_eq_getElem hb, e, q]
      rw [q] at hm
      cases g with
      | none => rfl
      | some t => cases t <;> first | rfl | cases hm
  · rw [backG_out hi, ← wipeG_out hi, h, wipeG_out hi]
inductive Each {α β : Type} (R : α → β → Prop) : List α → List β → Prop
  | nil : Each R [] []
  | cons {a : α} {b : β} {as : List α} {bs : List β} : R a b → Each R as bs → Each R (a :: as) (b :: bs)
theorem Each.length {α β : Type} {R : α → β → Prop} {as : List α} {bs : List β} (h : Each R as bs) : as.length = bs.length := by
  induction h with
  | nil => rfl
  | cons _ _ ih => simp [ih]
theorem Each.map_eq {α β : Type} {f : α → β} {as : List α} {bs : List β} (h : Each (fun a b => b = f a) as bs) : bs = as.map f := by
  induction h with
  | nil => rfl
  | cons r _ ih => rw [r, ih]; rfl
section
variable {e : EX} {tg : Tg} {vs : List Nat} {elt c : SE} {K : List D → Env → Prop}
theorem lc_loop (R : D → D → Prop) {Γw : Env} : ∀ (ds : List D) (acc : List D) (Δ : Env), wipeG Δ vs = Γw → acc.length + ds.length ≤ LIM →
    (∀ d ∈ ds, ∀ k : D → Env → Prop, (∀ r Δ', wipeG Δ' vs = Γw → R d r → k r Δ') → bindT tg d Γw fun Γ2 => wpE e elt Γ2 fun t Γ3 => k t.toD Γ3) →
    (∀ rs Δ', wipeG Δ' vs = Γw → Each R ds rs → K (acc ++ rs) Δ') → lcB e vs tg [] elt ds acc Δ K
  | [], acc, Δ, hw, hl, h, fin => by
    rw [lcB_nil]
    have := fin [] Δ hw .nil
    simpa using this
  | d :: ds, acc, Δ, hw, hl, h, fin => by
    rw [lcB_cons, hw]
    have hd := h d List.mem_cons_self (fun r Γ3 => acc.length < LIM ∧ lcB e vs tg [] elt ds (acc ++ [r]) Γ3 K) fun r Δ' hw' hr => by
      simp only [List.length_cons] at hl
      refine ⟨by omega, lc_loop R ds (acc ++ [r]) Δ' hw' (by simp; omega) (fun x hx => h x (List.mem_cons_of_mem _ hx)) fun rs Δ2 w2 e2 => ?_⟩
      have := fin (r :: rs) Δ2 w2 (.cons hr e2)
      simpa using this
    simpa only [wpC, if_true] using hd
theorem lc_rel (R : D → D → Prop) {Γ1 : Env} {ds : List D} (hv : keeps Γ1 vs = true) (hl : ds.length ≤ LIM)
    (h : ∀ d ∈ ds, ∀ k : D → Env → Prop, (∀ r Δ', wipeG Δ' vs = wipeG Γ1 vs → R d r → k r Δ') → bindT tg d (wipeG Γ1 vs) fun Γ2 => wpE e elt Γ2 fun t Γ3 => k t.toD Γ3)
    (fin : ∀ rs Δ, backG Γ1 Δ vs = Γ1 → Each R ds rs → K rs Δ) : lcB e vs tg [] elt ds [] Γ1 K :=
  lc_loop R ds [] Γ1 rfl (by simpa using hl) h fun rs Δ' hw he => fin rs Δ' (back_eq hv hw) he
theorem lc_map (f : D → D) {Γ1 : Env} {ds : List D} (hv : keeps Γ1 vs = true) (hl : ds.length ≤ LIM)
    (h : ∀ d ∈ ds, ∀ k : D → Env → Prop, (∀ Δ', wipeG Δ' vs = wipeG Γ1 vs → k (f d) Δ') → bindT tg d (wipeG Γ1 vs) fun Γ2 => wpE e elt Γ2 fun t Γ3 => k t.toD Γ3)
    (fin : ∀ Δ, backG Γ1 Δ vs = Γ1 → K (ds.map f) Δ) : lcB e vs tg [] elt ds [] Γ1 K :=
  lc_rel (fun d r => r = f d) hv hl (fun d hd k hk => h d hd k fun Δ' hw => hk _ Δ' hw rfl) fun rs Δ hb he => by rw [he.map_eq]; exact fin Δ hb
/-- with a test -/
theorem lc_filt (p : D → Bool) (f : D → D) {Γw : Env} : ∀ (ds : List D) (acc : List D) (Δ : Env), wipeG Δ vs = Γw → acc.length + ds.length ≤ LIM →
    (∀ d ∈ ds, ∀ k : Bool → D → Env → Prop, (∀ Δ', wipeG Δ' vs = Γw → k (p d) (f d) Δ') → bindT tg d Γw fun Γ1 => wpC e [c] Γ1 fun b Γ2 => if b = true then wpE e elt Γ2 fun t Γ3 => k true t.toD Γ3 else k false (f d) Γ2) →
    (∀ Δ', wipeG Δ' vs = Γw → K (acc ++ (ds.filter p).map f) Δ') → lcB e vs tg [c] elt ds acc Δ K
  | [], acc, Δ, hw, hl, h, fin => by
    rw [lcB_nil]
    have := fin Δ hw
    simpa using this
  | d :: ds, acc, Δ, hw, hl, h, fin => by
    rw [lcB_cons, hw]
    simp only [List.length_cons] at hl
    refine h d List.mem_cons_self (fun b r Γ3 => if b = true then acc.length < LIM ∧ lcB e vs tg [c] elt ds (acc ++ [r]) Γ3 K else lcB e vs tg [c] elt ds acc Γ3 K) (fun Δ' hw' => ?_)
    cases hp : p d with
    | true =>
      rw [if_pos rfl]
      refine ⟨by omega, lc_filt p f ds (acc ++ [f d]) Δ' hw' (by simp; omega) (fun x hx => h x (List.mem_cons_of_mem _ hx)) fun Δ2 w2 => ?_⟩
      have := fin Δ2 w2
      rw [List.filter_cons_of_pos hp] at this
      simpa using this
    | false =>
      rw [if_neg (by decide)]
      refine lc_filt p f ds acc Δ' hw' (by omega) (fun x hx => h x (List.mem_cons_of_mem _ hx)) fun Δ2 w2 => ?_
      have := fin Δ2 w2
      rw [List.filter_cons_of_neg (by rw [hp]; decide)] at this
      exact this
theorem lc_filter (p : D → Bool) (f : D → D) {Γ1 : Env} {ds : List D} (hv : keeps Γ1 vs = true) (hl : ds.length ≤ LIM)
    (h : ∀ d ∈ ds, ∀ k : Bool → D → Env → Prop, (∀ Δ', wipeG Δ' vs = wipeG Γ1 vs → k (p d) (f d) Δ') → bindT tg d (wipeG Γ1 vs) fun Γ1 => wpC e [c] Γ1 fun b Γ2 => if b = true then wpE e elt Γ2 fun t Γ3 => k true t.toD Γ3 else k false (f d) Γ2)
    (fin : ∀ Δ, backG Γ1 Δ vs = Γ1 → K ((ds.filter p).map f) Δ) : lcB e vs tg [c] elt ds [] Γ1 K :=
  lc_filt p f ds [] Γ1 rfl (by simpa using hl) h fun Δ' hw => fin Δ' (back_eq hv hw)
theorem for_inv {body : List SS} {J : DEnds} (I : List D → Env → Prop) : ∀ (ds : List D) (Γ : Env), I ds Γ →
    (∀ d r Γ (k : Env → Prop), I (d :: r) Γ → (∀ Γ', I r Γ' → k Γ') → bindT tg d Γ fun Γ1 => wpSs e body Γ1 { nx := k, rt := J.rt, bk := J.nx, ct := k }) → (∀ Γ, I [] Γ → J.nx Γ) → forB e tg body ds Γ J
  | [], Γ, i, h, fin => by rw [forB_nil]; exact fin Γ i
  | d :: ds, Γ, i, h, fin => by
    rw [forB_cons]
    exact h d ds Γ _ i fun Γ' i' => for_inv I ds Γ' i' h fin
theorem wh_inv {t : SE} {body : List SS} {J : DEnds} (I : Nat → Env → Prop) : ∀ (n m : Nat) (Γ : Env), m < n → I m Γ →
    (∀ m Γ (k : Env → Prop), I m Γ → (∀ m' Γ', m' < m → I m' Γ' → k Γ') → wpE e t Γ (asB fun b Γ1 => if b = true then wpSs e body Γ1 { nx := k, rt := J.rt, bk := J.nx, ct := k } else J.nx Γ1)) → whB e t body n Γ J
  | 0, m, Γ, hm, i, h => by omega
  | n + 1, m, Γ, hm, i, h => by
    rw [whB_succ]
    exact h m Γ _ i fun m' Γ' hl i' => wh_inv I n m' Γ' (by omega) i' h
end
theorem isi_non (t : TyS) : isiD t .non = some false := rfl
theorem isi_bl (t : TyS) (b : Bool) : isiD t (.bl b) = some t.bool? := rfl
theorem isi_int (t : TyS) (i : Int) : isiD t (.int i) = some t.int? := rfl
theorem isi_str (t : TyS) (x : Str) : isiD t (.str x) = some t.str? := rfl
theorem isi_tup (t : TyS) (x : List D) : isiD t (.tup x) = some t.tup? := rfl
theorem isi_lst (t : TyS) (x : List D) : isiD t (.lst x) = some t.lst? := rfl
end DL

/-! DX: a call f([name, ..], ..) that only looks at what the names own. -/
namespace DL
open PySem PySem.Spec PyProof.Rows L2
def NsR (vs : List Nat) : TA := fun σ H Q => ∃ ws : List V, vs.map (fun i => (σ[i]?).join) = ws.map some ∧ Q ws H
section
variable {X : Cx} {a : Expr} {es : List Expr} {i : Nat} {vs : List Nat}
theorem pan_nil : PA X [] (NsR []) := pa_nil.mono fun σ H Q ⟨ws, h, q⟩ => by
  have e : ws = [] := by
    cases ws with
    | nil => rfl
    | cons _ _ => simp at h
  subst e
  exact q
theorem pan_cons (h1 : PE X a (tVar i)) (h2 : PA X es (NsR vs)) (hs : starEach (a :: es) X.env = (false, eval a X.env) :: starEach es X.env := by rfl) : PA X (a :: es) (NsR (i :: vs)) := (pa_cons h1 h2 hs).mono fun σ H Q ⟨ws, h, q⟩ => by
  cases ws with
  | nil => simp at h
  | cons w ws =>
    rw [List.map_cons, List.map_cons, List.cons.injEq] at h
    refine ⟨w, ?_, ws, h.2, q⟩
    cases e : σ[i]? with
    | none => rw [e] at h; cases h.1
    | some s => rw [e] at h; exact congrArg some h.1
end
theorem flat_rf {K : PySem.W.Frag} {F G : FH} {d : D} {v : V} (h : Rf K F d v) (f : d.flat = true) : Rf K G d v := by
  cases d <;> first | (cases f; done) | (rw [Rf, Rp] at h ⊢; exact h)
theorem slots_vals {K : PySem.W.Frag} {H0 H : Hp} {F0 F : FH} {c : Nat} {Γ : DL.Env} {σ : L2.St} {T : Foot} (ok : EOk K H0 F0 c Γ F σ H T) : ∀ {vs : List Nat} {xs : List D}, slotsD Γ vs = some xs → ∃ ws : List V, vs.map (fun i => (σ[i]?).join) = ws.map some
  | [], xs, h => ⟨[], rfl⟩
  | i :: r, xs, h => by
    unfold slotsD at h
    split at h
    · rename_i t ht
      rw [Option.map_eq_some_iff] at h
      obtain ⟨ys, h1, h2⟩ := h
      obtain ⟨ws, hw⟩ := slots_vals ok h1
      have e : Γ[i]? = some (some t) := by
        cases q : Γ[i]? with
        | none => rw [q] at ht; cases ht
        | some s => rw [q] at ht; exact congrArg some ht
      obtain ⟨v, hv⟩ := ok.slot e
      exact ⟨v :: ws, by rw [List.map_cons, List.map_cons, hv, hw]; rfl⟩
    · cases h
theorem slots_frz {K : PySem.W.Frag} {F G : FH} {O : Foot} {Γ : DL.Env} {σ : L2.St} (g : RpG K F O Γ σ) (l : Le F G) (hG : ∀ p ∈ O, G p.1 = some (.ho p.2)) : ∀ {vs : List Nat} {xs : List D} {ws : List V}, slotsD Γ vs = some xs → vs.map (fun i => (σ[i]?).join) = ws.map some → RfL K G xs ws
  | [], xs, ws, h, e => by
    cases h
    cases ws with
    | nil => exact .nil
    | cons _ _ => simp at e
  | i :: r, xs, ws, h, e => by
    unfold slotsD at h
    split at h
    · rename_i t ht
      rw [Option.map_eq_some_iff] at h
      obtain ⟨ys, h1, rfl⟩ := h
      cases ws with
      | nil => simp at e
      | cons w ws =>
        rw [List.map_cons, List.map_cons, List.cons.injEq] at e
        have e2 : Γ[i]? = some (some t) := by
          cases q : Γ[i]? with
          | none => rw [q] at ht; cases ht
          | some s => rw [q] at ht; exact congrArg some ht
        obtain ⟨A, B, P, v, rfl, h2, h3, _⟩ := g.focus e2
        have ev : v = w := by rw [h2] at e; exact Option.some.inj e.1
        subst ev
        exact .cons (RpT.frz l P t v (fun p hp => hG p (List.mem_append_left _ (List.mem_append_right _ hp))) h3) (slots_frz g l hG h1 e.2)
    · cases h
/-- the frozen part, with the code objects that a call has made -/
def withC (F G : FH) : FH := fun b => match F b with
  | some f => some f
  | none => match G b with
    | some (.ho (.ext φ)) => some (.ho (.ext φ))
    | _ => none
theorem withC_le {F G : FH} : Le F (withC F G) := fun b f e => by unfold withC; rw [e]
theorem withC_none {F G : FH} {b : Addr} (h : F b = none) (g : ∀ φ, G b ≠ some (.ho (.ext φ))) : withC F G b = none := by
  unfold withC
  rw [h]
  show (match G b with | some (.ho (.ext φ)) => some (FO.ho (.ext φ)) | _ => none) = none
  split
  · rename_i φ e; exact absurd e (g φ)
  · rfl
theorem withC_ini {F G : FH} {c : Nat} {H : Hp} (l : Le F G) (i : Ini c G H) : Ini c (withC F G) H := fun b f e => by
  have hF : ∀ (b : Addr) (f : FO), withC F G b = some f → G b = some f := fun b f e => by
    unfold withC at e
    split at e
    · rename_i f' h; cases e; exact l _ _ h
    · split at e
      · rename_i φ h; cases e; exact h
      · cases e
  have h := i b f (hF b f e)
  cases f with
  | ho o => exact h
  | grw g => exact h
  | tab q =>
    obtain ⟨ps, h1, h2, h3⟩ := h
    refine ⟨ps, h1, h2, fun pos cv hc => ?_⟩
    obtain ⟨c', e1, e2⟩ := h3 pos cv hc
    refine ⟨c', e1, ?_⟩
    unfold withC
    split
    · rename_i f' h; rw [l _ _ h] at e2; exact e2
    · rw [e2]; rfl
section
variable {K : PySem.W.Frag} {F : FH}
mutual
theorem RpT.noext : ∀ (O : Foot) (t : OT) (v : V), RpT K F O t v → ∀ p ∈ O, ∀ φ, p.2 ≠ HO.ext φ
  | O, .fz d, v, h => by
    rw [RpT] at h
    intro p hp
    rw [h.1] at hp; cases hp
  | O, .lst ts, v, h => by
    rw [RpT] at h
    obtain ⟨a, vs, P, rfl, rfl, h3⟩ := h
    intro p hp φ
    rcases List.mem_cons.mp hp with rfl | hp
    · intro z; cases z
    · exact RpTL.noext P ts vs h3 p hp φ
  | O, .dic ks ds, v, h => by
    rw [RpT] at h
    obtain ⟨a, vs, o, rfl, rfl, h3, h4, h5⟩ := h
    intro p hp φ z
    obtain rfl : p = (a, o) := by simpa using hp
    obtain rfl : o = .ext φ := z
    obtain ⟨kk, e1, e2, e3⟩ := h3
    rcases e3 with e3 | ⟨o', e3⟩
    · have e3 := (if_pos rfl).symm.trans e3
      cases e3
    · have e3 := (if_pos rfl).symm.trans e3
      cases e3
theorem RpTL.noext : ∀ (O : Foot) (ts : List OT) (vs : List V), RpTL K F O ts vs → ∀ p ∈ O, ∀ φ, p.2 ≠ HO.ext φ
  | O, [], vs, h => by
    rw [RpTL] at h
    intro p hp
    rw [h.1] at hp; cases hp
  | O, t :: ts, vs, h => by
    rw [RpTL] at h
    obtain ⟨v, ws, P1, P2, rfl, rfl, e3, e4⟩ := h
    intro p hp φ
    rcases List.mem_append.mp hp with hp | hp
    · exact RpT.noext P1 t v e3 p hp φ
    · exact RpTL.noext P2 ts ws e4 p hp φ
end
theorem RpG.noext : ∀ {Γ : DL.Env} {O : Foot} {σ : L2.St}, RpG K F O Γ σ → ∀ p ∈ O, ∀ φ, p.2 ≠ HO.ext φ
  | [], O, σ, h => by
    rw [RpG] at h
    intro p hp
    rw [h.1] at hp; cases hp
  | g :: Γ, O, σ, h => by
    rw [RpG] at h
    obtain ⟨s, ρ, P1, P2, rfl, rfl, e3, e4⟩ := h
    intro p hp φ
    rcases List.mem_append.mp hp with hp | hp
    · cases g with
      | none => rw [show P1 = [] from e3] at hp; cases hp
      | some t =>
        obtain ⟨v, _, r⟩ := e3
        exact RpT.noext P1 t v r p hp φ
    · exact RpG.noext e4 p hp φ
end
section
variable {X : Cx} {k n1 : Nat} {f : Addr} {fd : FuncData} {ps : List Str} {S : Spc} {n : Str} {p pos lp : Pos} {es ns : List Expr} {ss : List SE} {vs : List Nat}
theorem de_callL (F : Cb X.prog X.w X.K X.mg X.base k n f fd ps S) (hr : Room k X.A) (hgd : X.A.guards = some []) (hg : Gl X n) (hns : PA X ns (NsR vs)) (ha : DA X es ss) (hvn : vs.length ≤ 1000 := by decide)
    (hdb : (n == ("__debug__" : Str)) = false := by decide) (he : starEach (.List ns lp :: es) X.env = (false, eval (.List ns lp) X.env) :: starEach es X.env := by rfl) (hpl : (backTo pos (starEach es X.env)).any (·.1) = false := by rfl) :
    DE X (.Call (.Name n p) (.List ns lp :: es) [] pos) (.callL S vs ss) := by
  refine (pe_callG F hr hgd hg (pa_cons (pe_lst hns) ha he) hdb he hpl).mono fun σ H Q ⟨e, H0, F0, Γ, F, c, T, k, xo, ok, hc, hw, fin⟩ => ?_
  have hw : wpE e (.callL S vs ss) Γ k := hw
  rw [wpE] at hw
  rw [show costE (.callL S vs ss) = costL ss + S.ce + 4 by rw [costE]] at hc fin
  obtain ⟨h1, hw⟩ := hw
  have hb := le3 (costL ss) 0 S.ce
  rw [Nat.add_zero] at hb
  generalize hA : 2 ^ costL ss = A at *
  generalize hB : 2 ^ S.ce = B at *
  generalize hM : 2 ^ (costL ss + S.ce + 4) = M at *
  generalize 2 ^ 0 = O1 at *
  obtain ⟨xs0, hx0⟩ := Option.isSome_iff_exists.mp h1
  obtain ⟨ws, hws⟩ := slots_vals ok hx0
  have hwl : ws.length = vs.length := by have := congrArg List.length hws; simpa using this.symm
  have key : ∀ {Γ : DL.Env} {vs : List Nat} {xs : List D}, slotsD Γ vs = some xs → xs.length = vs.length := by
    intro Γ vs
    induction vs with
    | nil => intro xs h; cases h; rfl
    | cons i r ih =>
      intro xs h
      unfold slotsD at h
      split at h
      · rw [Option.map_eq_some_iff] at h
        obtain ⟨ys, a1, rfl⟩ := h
        simp [ih a1]
      · cases h
  have hvl : vs.length ≤ sizeLine := Nat.le_trans hvn (Nat.le_trans (by decide) lim_line)
  refine ⟨ws, hws, by rw [hwl]; exact hvl, fun q hq => ?_⟩
  have okn : EOk X.K H0 F0 c Γ F σ (upd H q (.lst ws)) ((q, .lst ws) :: T) := ok.new hq
  refine ⟨e, H0, F0, Γ, F, c, _, _, xo, okn, by omega, hw, fun ds Γ1 F1 c1 us H1 q1 hc1 l1 ok1 r1 => ?_⟩
  split at q1
  · rename_i xs hxs
    obtain ⟨b, O, g, w⟩ := ok1
    have nd := w.nd
    have wB : Own H0 F1 H1 (O ++ [(q, .lst ws)]) := w.sub (List.Sublist.append_left (by simp) O)
    have l2 : Le F1 (adds F1 (O ++ [(q, .lst ws)])) := adds_le fun z hz => (wB.at_ z hz).2.1
    have inB : ∀ z ∈ O ++ [(q, HO.lst ws)], adds F1 (O ++ [(q, .lst ws)]) z.1 = some (.ho z.2) := fun z hz => adds_in wB.nd hz
    have rl := slots_frz g l2 (fun z hz => inB z (List.mem_append_left _ hz)) hxs hws
    refine ⟨.lst xs :: ds, adds F1 (O ++ [(q, .lst ws)]), c1, _, _, fun y => xo y Γ1, ⟨fun a f' ea => ?_, b.tab.le l2⟩, by rw [hB]; omega, .cons ?_ (r1.le l2), q1.2, fun t F' c' v H' T' q2 hc2 b2 w2 r2 => ?_⟩
    · rcases adds_some ea with ⟨o, ho, rfl⟩ | ea
      · exact (wB.at_ _ ho).1
      · exact (b.ini a f' ea).to rfl l2
    · rw [Rp]
      exact ⟨q, ws, rfl, hpo_some.mpr (inB (q, .lst ws) (by simp)), rl⟩
    · rw [hB] at hc2
      split at q2
      · rename_i d
        obtain ⟨e0, r3⟩ := r2.fz_inv
        subst e0
        have out : ∀ a, a ∉ (O ++ [(q, HO.lst ws)]).map (·.1) → adds F1 (O ++ [(q, .lst ws)]) a = F1 a := fun a h => adds_out h
        have nx := g.noext
        have inO : ∀ z ∈ O ++ [(q, HO.lst ws)], ∀ φ, z.2 ≠ HO.ext φ := fun z hz φ => by
          rcases List.mem_append.mp hz with hz | hz
          · exact nx z hz φ
          · obtain rfl : z = (q, HO.lst ws) := by simpa using hz
            intro z; cases z
        have lF : Le F1 (withC F1 F') := withC_le
        have outT : ∀ a, F1 a = none → a ∉ (O ++ [(q, HO.lst ws)]).map (·.1) → H1 a ≠ none → H' a = H1 a ∧ withC F1 F' a = none := fun a e2 na e1 => by
          have := b2.old a (by rw [out a na]; exact e2) e1
          exact ⟨this.1, withC_none e2 fun φ z => by rw [this.2] at z; cases z⟩
        have ok2 : EOk X.K H0 F0 c' Γ1 (withC F1 F') σ H' ([] ++ T) := by
          refine ⟨⟨⟨withC_ini (l2.trans b2.le) b2.ini, b.le.trans lF, fun a a1 a2 => ?_⟩, b.tk⟩, O, g.le lF, ⟨?_, fun z hz => ?_⟩⟩
          · obtain ⟨e1, e2⟩ := b.old a a1 a2
            have na : a ∉ (O ++ [(q, HO.lst ws)]).map (·.1) := fun hm => by
              obtain ⟨z, hz, rfl⟩ := List.mem_map.mp hm
              exact a2 (wB.at_ z hz).2.2
            obtain ⟨g1, g2⟩ := outT a e2 na (by rw [e1]; exact a2)
            exact ⟨g1.trans e1, g2⟩
          · exact (w.sub (List.Sublist.append_left (by simp) O)).nd
          · have hz' : z ∈ O ∨ z ∈ T := by simpa using hz
            rcases hz' with hz | hz
            · obtain ⟨e1, e2, e3⟩ := w.at_ z (List.mem_append_left _ hz)
              have hF := b2.le _ _ (inB z (List.mem_append_left _ hz))
              exact ⟨b2.ini.ho hF, withC_none e2 fun φ y => by rw [hF] at y; injection y with y; injection y with y; exact nx z hz φ y, e3⟩
            · obtain ⟨e1, e2, e3⟩ := w.at_ z (List.mem_append_right _ (List.mem_cons_of_mem _ hz))
              have na : z.1 ∉ (O ++ [(q, HO.lst ws)]).map (·.1) := fun hm => by
                have nd2 : ((O ++ [(q, HO.lst ws)]) ++ T).map (·.1) |>.Nodup := by simpa using nd
                rw [List.map_append] at nd2
                exact (List.nodup_append.mp nd2).2.2 z.1 hm z.1 (List.mem_map.mpr ⟨z, hz, rfl⟩) rfl
              obtain ⟨g1, g2⟩ := outT z.1 e2 na (by rw [e1]; simp)
              exact ⟨g1.trans e1, g2, e3⟩
        exact fin _ Γ1 (withC F1 F') c' v H' [] q2.2 (by omega) (l1.trans lF) ok2 (.of_fz (flat_rf r3 q2.1))
      · exact q2.elim
  · exact q1.elim
end
end DL

/-! DY: a shown text is a text of plain signs. -/
namespace DL
open PySem PySem.Spec PyProof.Rows L2
def Gc (l : List Nat) : Prop := ∀ c ∈ l, c < 0x110000
theorem gc_char (ch : Char) : ch.toNat < 0x110000 := by
  have h := ch.valid
  have e : ch.toNat = ch.val.toNat := rfl
  rw [e]
  rcases h with h | ⟨_, h⟩ <;> omega
theorem gc_of (s : String) : Gc (Str.ofString s).cps.toList := by
  rw [signs_ofString]
  intro c hc
  obtain ⟨ch, _, rfl⟩ := List.mem_map.mp hc
  exact gc_char ch
theorem gc_app {x y : Str} (hx : Gc x.cps.toList) (hy : Gc y.cps.toList) : Gc (x ++ y).cps.toList := by
  intro c hc
  rcases mem_cps_append.mp hc with hc | hc
  · exact hx c hc
  · exact hy c hc
theorem gc_join {sep : Str} {ts : List Str} (hs : Gc sep.cps.toList) (h : ∀ t ∈ ts, Gc t.cps.toList) : Gc (Str.join sep ts).cps.toList := by
  intro c hc
  rcases (mem_join sep c ts).mp hc with ⟨t, ht, hc⟩ | ⟨_, hc⟩
  · exact h t ht c hc
  · exact hs c hc
theorem gc_rc {q c : Nat} (hc : c < 0x110000) : Gc (PySem.Builtin.Str.reprChar q c) := by
  have hx : ∀ w, Gc (List.replicate (w - ((Nat.toDigits 16 c).map Char.toNat).length) 48 ++ (Nat.toDigits 16 c).map Char.toNat) := by
    intro w d hd
    rcases List.mem_append.mp hd with h | h
    · rw [List.eq_of_mem_replicate h]; decide
    · obtain ⟨ch, _, rfl⟩ := List.mem_map.mp h; exact gc_char ch
  intro d hd
  unfold PySem.Builtin.Str.reprChar at hd
  have two : ∀ a b : Nat, d ∈ [a, b] → a < 0x110000 → b < 0x110000 → d < 0x110000 := by
    intro a b h ha hb
    simp only [List.mem_cons, List.not_mem_nil, or_false] at h
    rcases h with rfl | rfl <;> assumption
  have app : ∀ a b w : Nat, d ∈ [a, b] ++ (List.replicate (w - ((Nat.toDigits 16 c).map Char.toNat).length) 48 ++ (Nat.toDigits 16 c).map Char.toNat) → a < 0x110000 → b < 0x110000 → d < 0x110000 := by
    intro a b w h ha hb
    rcases List.mem_append.mp h with h | h
    · exact two a b h ha hb
    · exact hx w d h
  simp only at hd
  split at hd
  · exact two _ _ hd (by decide) hc
  split at hd
  · exact two _ _ hd (by decide) (by decide)
  split at hd
  · exact two _ _ hd (by decide) (by decide)
  split at hd
  · exact two _ _ hd (by decide) (by decide)
  split at hd
  · obtain rfl := List.mem_singleton.mp hd
    exact hc
  split at hd
  · exact app _ _ 2 hd (by decide) (by decide)
  split at hd
  · exact app _ _ 4 hd (by decide) (by decide)
  · exact app _ _ 8 hd (by decide) (by decide)
theorem gc_quote (x : Str) : reprQuote x < 0x110000 := by
  unfold reprQuote
  split <;> decide
theorem gc_fold (q : Nat) : ∀ (l : List Nat) (acc : Array Nat), Gc l → Gc acc.toList → Gc (l.foldl (fun out c => out ++ (PySem.Builtin.Str.reprChar q c).toArray) acc).toList
  | [], acc, _, h => h
  | c :: l, acc, hl, h => by
    rw [List.foldl_cons]
    refine gc_fold q l _ (fun d hd => hl d (List.mem_cons_of_mem _ hd)) fun d hd => ?_
    rw [Array.toList_append] at hd
    rcases List.mem_append.mp hd with hd | hd
    · exact h d hd
    · exact gc_rc (hl c List.mem_cons_self) d hd
theorem gc_repr {x : Str} (h : Gc x.cps.toList) : Gc (reprText x).cps.toList := by
  unfold reprText
  rw [← Array.foldl_toList]
  intro c hc
  rw [Array.toList_push] at hc
  rcases List.mem_append.mp hc with hc | hc
  · refine gc_fold _ _ _ h (fun d hd => ?_) c hc
    obtain rfl : d = reprQuote x := by simpa using hd
    exact gc_quote x
  · obtain rfl : c = reprQuote x := by simpa using hc
    exact gc_quote x
mutual
theorem gc_shown : ∀ (n : Nat) (d : D), D.plain n d = true → Gc d.py.shown.cps.toList
  | n, .non, _ => by
    rw [D.py, PyData.shown_none]; exact gc_of _
  | n, .bl b, _ => by
    rw [D.py, PyData.shown_bool]
    cases b <;> exact gc_of _
  | n, .int i, _ => by
    rw [D.py, PyData.shown_int]; exact gc_of _
  | n, .str x, h => by
    rw [D.py, PyData.shown_str]
    refine gc_repr fun c hc => ?_
    cases n <;>
    · rw [D.plain, ← Array.all_toList] at h
      exact of_decide_eq_true (List.all_eq_true.mp h c hc)
  | n + 1, .tup xs, h => by
    rw [D.plain] at h
    rw [D.py, PyData.shown_tuple]
    refine gc_app (gc_app (gc_of _) (gc_join (gc_of _) (gc_shows n xs h))) ?_
    split <;> exact gc_of _
  | n + 1, .lst xs, h => by
    rw [D.plain] at h
    rw [D.py, PyData.shown_list]
    exact gc_app (gc_app (gc_of _) (gc_join (gc_of _) (gc_shows n xs h))) (gc_of _)
  | 0, .tup _, h => by rw [D.plain] at h; cases h
  | 0, .lst _, h => by rw [D.plain] at h; cases h
  | n, .dic _ _, h => by cases n <;> (rw [D.plain] at h; cases h)
  | n, .scr _, h => by cases n <;> (rw [D.plain] at h; cases h)
  | n, .opq _ _, h => by cases n <;> (rw [D.plain] at h; cases h)
theorem gc_shows : ∀ (n : Nat) (xs : List D), D.plains n xs = true → ∀ t ∈ PyData.shownAll (D.pys xs), Gc t.cps.toList
  | _, [], _, t, ht => by rw [D.pys, PyData.shownAll_nil] at ht; cases ht
  | n, x :: xs, h, t, ht => by
    rw [D.plains, Bool.and_eq_true] at h
    rw [D.pys, PyData.shownAll_cons] at ht
    rcases List.mem_cons.mp ht with rfl | ht
    · exact gc_shown n x h.1
    · exact gc_shows n xs h.2 t ht
end
theorem plain_shown {n : Nat} {d : D} (h : D.plain n d = true) (m : Nat) : D.plain m (.str (shownD d)) = true := by
  have e : (shownD d).cps.all (fun z => decide (z < 0x110000)) = true := by
    rw [← Array.all_toList, List.all_eq_true]
    exact fun c hc => decide_eq_true (gc_shown n d h c hc)
  cases m <;> exact e
end DL

/-! DZ: a fresh deck becomes a source of draws. -/
namespace DL
open PySem PySem.Spec PyProof.Rows L2
abbrev poolT (p : Int × Int × Int) : OT := .lst [.fz (.int p.1), .fz (.int p.2.1), .fz (.int p.2.2)]
def deckT (ps : List (Int × Int × Int)) : OT := .lst [.lst (ps.map poolT), .fz (.int 0)]
structure PoolsOk (ps : List (Int × Int × Int)) : Prop where
  ne : ps ≠ []
  len : ps.length ≤ 63
  ok : ∀ p ∈ ps, 0 ≤ p.2.2 ∧ p.2.2 ≤ 4000
def deckRS (ce : Nat) : Spc where
  run := fun ds k _ => ∃ ns, ds = [.scr ns] ∧ ∀ ps, PoolsOk ps → k (deckT ps)
  ce := ce
  ar := 1
def deckS (ce : Nat) : Spc where
  run := fun ds k _ => ∃ ns, ds = [.scr ns] ∧ ∀ a, k (.fz (.opq 0 a))
  ce := ce
  ar := 1
section
variable {K : PySem.W.Frag} {F : FH}
theorem rpt_pool {O : Foot} {p : Int × Int × Int} {v : V} (h : RpT K F O (poolT p) v) : ∃ q, v = .ref q ∧ O = [(q, .lst [.int p.1, .int p.2.1, .int p.2.2])] := by
  unfold poolT at h
  rw [RpT] at h
  obtain ⟨q, vs, P, rfl, rfl, h⟩ := h
  have h' : RpTL K F P ([D.int p.1, .int p.2.1, .int p.2.2].map .fz) vs := h
  obtain ⟨rfl, h2⟩ := RpTL.fz_inv h'
  obtain ⟨v1, ws, rfl, r1, h2⟩ := RpL.uncons h2
  obtain ⟨v2, ws, rfl, r2, h2⟩ := RpL.uncons h2
  obtain ⟨v3, ws, rfl, r3, h2⟩ := RpL.uncons h2
  obtain rfl := RpL.nil_inv h2
  obtain rfl := rf_int.mp r1
  obtain rfl := rf_int.mp r2
  obtain rfl := rf_int.mp r3
  exact ⟨q, rfl, rfl⟩
theorem rpt_pools : ∀ {ps : List (Int × Int × Int)} {O : Foot} {ws : List V}, RpTL K F O (ps.map poolT) ws → ws = (O.map (·.1)).map V.ref ∧ O.length = ps.length ∧ ∀ z ∈ O, ∃ p ∈ ps, z.2 = .lst [.int p.1, .int p.2.1, .int p.2.2]
  | [], O, ws, h => by
    rw [List.map_nil, RpTL] at h
    obtain ⟨rfl, rfl⟩ := h
    exact ⟨rfl, rfl, fun z hz => by cases hz⟩
  | p :: ps, O, ws, h => by
    rw [List.map_cons, RpTL] at h
    obtain ⟨v, vs, P1, P2, rfl, rfl, h1, h2⟩ := h
    obtain ⟨q, rfl, rfl⟩ := rpt_pool h1
    obtain ⟨rfl, hl, hz⟩ := rpt_pools h2
    refine ⟨rfl, by simp [hl], fun z hm => ?_⟩
    rcases List.mem_cons.mp hm with rfl | hm
    · exact ⟨p, List.mem_cons_self, rfl⟩
    · obtain ⟨p', h1, h2⟩ := hz z hm
      exact ⟨p', List.mem_cons_of_mem _ h1, h2⟩
end
/-- the frozen part, with the new source in it -/
def withDeck (F : FH) (a p : Addr) (qs : List Addr) : FH := fun b => if b = a then some (.grw (deckG p)) else if b = p then some (.grw (listG qs)) else if b ∈ qs then some (.grw poolG) else F b
theorem fng_deck {P : Program} {w : World} {K : PySem.W.Frag} {mg : Str → Option Value} {base : Heap} {k : Nat} {f : Addr} {fd : FuncData} {ps : List Str} {ce : Nat} (Fo : FnG P w K mg base k f fd ps (deckRS ce)) (hps : ps.length = 1) : FnG P w K mg base k f fd ps (deckS ce) := by
  refine ⟨fun ds kk x h => ?_, fun A outer s H args us vs Q hr hgd e0 hb r hsp => ?_⟩
  · obtain ⟨ns, rfl, _⟩ := h
    exact hps.symm
  obtain ⟨ds, F, c, kk, x, hx, ⟨ini, tk⟩, bud, hds, ⟨ns, rfl, hk⟩, fin⟩ := hsp
  have run := Fo.run A outer s H args us vs (fun v H1 => ∃ F' c' T' pl, PoolsOk pl ∧ c' ≤ c + 2 ^ ce ∧ Bse H F c' F' H1 ∧ Own H F' H1 T' ∧ RpT K F' T' (deckT pl) v) hr hgd e0 hb r
    ⟨[.scr ns], F, c, fun t => ∃ pl, PoolsOk pl ∧ t = deckT pl, x, hx, ⟨ini, tk⟩, bud, hds, ⟨ns, rfl, fun pl hp => ⟨pl, hp, rfl⟩⟩, fun t F' c' v H' T' ⟨pl, hp, ht⟩ h1 h2 h3 h4 => ⟨F', c', T', pl, hp, h1, h2, h3, ht ▸ h4⟩⟩
  refine codeAny_mono run fun res s' h => ?_
  cases res with
  | error e => exact h
  | ok fl =>
    cases fl with
    | next => exact h
    | brk => exact h
    | cont => exact h
    | ret u =>
      refine ce_re (show CE outer P w H s _ u s' from h) (fun b n => n) fun v H1 q hok tbl => ?_
      obtain ⟨F', c', T', pl, hp, hc, hB, hO, hT⟩ := q
      unfold deckT at hT
      rw [RpT] at hT
      obtain ⟨a, zs, P0, rfl, rfl, hT⟩ := hT
      rw [RpTL] at hT
      obtain ⟨v1, zs, P1, P2, rfl, rfl, h1, h2⟩ := hT
      obtain ⟨rfl, h3⟩ := RpTL.fz_inv (show RpTL K F' P2 ([D.int 0].map .fz) zs from h2)
      obtain ⟨v2, zs2, rfl, r2, h4⟩ := RpL.uncons h3
      obtain rfl := RpL.nil_inv h4
      obtain rfl := rf_int.mp r2
      rw [RpT] at h1
      obtain ⟨p, ws, P3, rfl, rfl, h1⟩ := h1
      obtain ⟨rfl, hlen, hz⟩ := rpt_pools h1
      rw [List.append_nil] at hO
      have nd := hO.nd
      generalize hqs : P3.map (·.1) = qs at *
      rw [List.map_cons, List.map_cons, hqs] at nd
      have hap : a ≠ p := fun z => by subst z; simp at nd
      have haq : a ∉ qs := fun z => (List.nodup_cons.mp nd).1 (List.mem_cons_of_mem _ z)
      have hpq : p ∉ qs := (List.nodup_cons.mp (List.nodup_cons.mp nd).2).1
      obtain ⟨a1, a2, a3⟩ := hO.at_ (a, .lst [.ref p, .int 0]) List.mem_cons_self
      obtain ⟨p1, p2, p3⟩ := hO.at_ (p, .lst (qs.map V.ref)) (List.mem_cons_of_mem _ List.mem_cons_self)
      have hq : ∀ b ∈ qs, ∃ i j l : Int, 0 ≤ l ∧ l ≤ 4000 ∧ H1 b = some (.lst [.int i, .int j, .int l]) ∧ F' b = none ∧ H b = none := fun b hb => by
        rw [← hqs] at hb
        obtain ⟨z, hm, rfl⟩ := List.mem_map.mp hb
        obtain ⟨q1, q2, q3⟩ := hO.at_ z (List.mem_cons_of_mem _ (List.mem_cons_of_mem _ hm))
        obtain ⟨pp, g1, g2⟩ := hz z hm
        obtain ⟨o1, o2⟩ := hp.ok pp g1
        exact ⟨_, _, _, o1, o2, by rw [q1, g2], q2, q3⟩
      have wa : withDeck F' a p qs a = some (.grw (deckG p)) := if_pos rfl
      have wp : withDeck F' a p qs p = some (.grw (listG qs)) := by
        unfold withDeck; rw [if_neg (Ne.symm hap), if_pos rfl]
      have wq : ∀ b ∈ qs, withDeck F' a p qs b = some (.grw poolG) := fun b hb => by
        unfold withDeck; rw [if_neg (fun z : b = a => haq (z ▸ hb)), if_neg (fun z : b = p => hpq (z ▸ hb)), if_pos hb]
      have wo : ∀ b, b ≠ a → b ≠ p → b ∉ qs → withDeck F' a p qs b = F' b := fun b n1 n2 n3 => by
        unfold withDeck; rw [if_neg n1, if_neg n2, if_neg n3]
      have le : Le F' (withDeck F' a p qs) := fun b f e => by
        rw [wo b (fun z => by rw [z, a2] at e; cases e) (fun z => by rw [z, p2] at e; cases e) (fun z => by
          obtain ⟨_, _, _, _, _, _, z, _⟩ := hq b z
          rw [z] at e; cases e)]
        exact e
      -- what stood at the call is not of the new source
      have out : ∀ b, H b ≠ none → b ≠ a ∧ b ≠ p ∧ b ∉ qs := fun b n => ⟨fun z => n (z ▸ a3), fun z => n (z ▸ p3), fun z => by
        obtain ⟨_, _, _, _, _, _, _, z⟩ := hq b z
        exact n z⟩
      have hini : Ini c' (withDeck F' a p qs) (bump H1 (withDeck F' a p qs) c') := fun b f e => by
        cases f with
        | grw g => exact bump_grw e
        | ho o =>
          show bump H1 (withDeck F' a p qs) c' b = some o
          rw [bump_other (fun g z => by rw [e] at z; cases z)]
          have n1 : b ≠ a := fun z => by rw [z, wa] at e; cases e
          have n2 : b ≠ p := fun z => by rw [z, wp] at e; cases e
          have n3 : b ∉ qs := fun z => by rw [wq b z] at e; cases e
          rw [wo b n1 n2 n3] at e
          exact hB.ini.ho e
        | tab q =>
          have n1 : b ≠ a := fun z => by rw [z, wa] at e; cases e
          have n2 : b ≠ p := fun z => by rw [z, wp] at e; cases e
          have n3 : b ∉ qs := fun z => by rw [wq b z] at e; cases e
          exact FO.In.to (c := c') (f := .tab q) (F := F') (H := H1) (hB.ini b _ (by rw [wo b n1 n2 n3] at e; exact e)) (bump_other (fun g z => by rw [e] at z; cases z)) le
      have base : Bse H F c' (withDeck F' a p qs) (bump H1 (withDeck F' a p qs) c') := by
        refine ⟨hini, hB.le.trans le, fun b n1 n2 => ?_⟩
        obtain ⟨e1, e2⟩ := hB.old b n1 n2
        obtain ⟨o1, o2, o3⟩ := out b n2
        have e3 : withDeck F' a p qs b = none := by rw [wo b o1 o2 o3]; exact e2
        exact ⟨by rw [bump_other (fun g z => by rw [e3] at z; cases z)]; exact e1, e3⟩
      -- old objects that are no words stay as they are
      have keep : ∀ b o, H b = some o → (∀ φ, o ≠ .ext φ) → (∀ ps, o ≠ .tbl ps) → bump H1 (withDeck F' a p qs) c' b = some o := fun b o e ne nt => by
        cases q : F b with
        | none => rw [(base.old b q (by rw [e]; simp)).1]; exact e
        | some f =>
          have e1 := ini b f q
          cases f with
          | grw g => have e1 := e.symm.trans (show H b = _ from e1); cases e1; exact absurd rfl (ne _)
          | ho o' =>
            have e1 := e.symm.trans (show H b = _ from e1)
            cases e1
            exact base.ini.ho (base.le b _ q)
          | tab q' => obtain ⟨ps, z, _⟩ := (show ∃ ps, H b = some (.tbl ps) ∧ TabF F q' ps from ini b _ q); rw [z] at e; cases e; exact absurd rfl (nt _)
      have hok1 : ∀ b g, withDeck F' a p qs b = some (.grw g) → g.f b c' s'.heap := fun b g e => by
        by_cases n1 : b = a
        · subst n1
          rw [wa] at e
          cases e
          obtain ⟨_, its, n, rv, gt⟩ := hok _ _ a1
          cases rv with
          | cons r1 r2 =>
            cases r2 with
            | cons r2 r3 =>
              cases r3
              obtain ⟨t, rfl⟩ := r2
              cases r1
              exact ⟨0, t, n, by omega, gt⟩
        by_cases n2 : b = p
        · subst n2
          rw [wp] at e
          cases e
          obtain ⟨_, its, n, rv, gt⟩ := hok _ _ p1
          rw [vals_refs_inv rv] at gt
          exact ⟨n, gt⟩
        by_cases n3 : b ∈ qs
        · rw [wq b n3] at e
          cases e
          obtain ⟨i, j, l, l1, l2, q1, _, _⟩ := hq b n3
          obtain ⟨_, its, n, rv, gt⟩ := hok _ _ q1
          exact ⟨i, j, l, ⟨its, n, rv, gt⟩, l1, by omega⟩
        · rw [wo b n1 n2 n3] at e
          exact (hok b _ (hB.ini.grw e)).1
      have nog : ∀ b o, H1 b = some o → (∀ φ, o ≠ .ext φ) → (∀ xs, o ≠ .lst xs) → bump H1 (withDeck F' a p qs) c' b = some o := fun b o e ne nl => by
        have n1 : b ≠ a := fun z => by rw [z, a1] at e; cases e; exact nl _ rfl
        have n2 : b ≠ p := fun z => by rw [z, p1] at e; cases e; exact nl _ rfl
        have n3 : b ∉ qs := fun z => by
          obtain ⟨_, _, _, _, _, q, _⟩ := hq b z
          rw [q] at e; cases e; exact nl _ rfl
        rw [bump_other fun g z => by
          rw [wo b n1 n2 n3] at z
          rw [hB.ini.grw z] at e
          cases e
          exact ne _ rfl]
        exact e
      refine ⟨bump H1 (withDeck F' a p qs) c', hok_re hok (fun b o e => ?_) (fun b cc e => nog b _ e (fun φ z => nomatch z) (fun xs z => nomatch z)) (fun b xs e => nog b _ e (fun φ z => nomatch z) (fun xs z => nomatch z)), fun b n0 n1 => ?_,
        fun b xs e => keep b _ e (fun φ z => nomatch z) (fun φ z => nomatch z), fun b o u e => keep b _ e (fun φ z => nomatch z) (fun φ z => nomatch z), fun b pz e => (tbl b pz e).imp fun more z => nog b _ z (fun φ r => nomatch r) (fun φ r => nomatch r),
        fin _ _ c' _ _ [] (hk a) hc base ⟨by simp, fun p hp => absurd hp (by simp)⟩ (.of_fz ?_)⟩
      · by_cases hg : ∃ g, withDeck F' a p qs b = some (.grw g)
        · obtain ⟨g, hg⟩ := hg
          rw [bump_grw hg] at e
          cases e
          have main := hok1 b g hg
          exact .inr ⟨main, g.obj _ _ _ main, fun h1 h2 a1 a2 => g.stay _ _ _ _ a1 a2⟩
        · rw [bump_other fun g z => hg ⟨g, z⟩] at e
          exact .inl e
      · rw [bump_other fun g z => ?_]
        · exact n1
        · have m1 : b ≠ a := fun z => by rw [z, a1] at n1; cases n1
          have m2 : b ≠ p := fun z => by rw [z, p1] at n1; cases n1
          have m3 : b ∉ qs := fun z => by
            obtain ⟨_, _, _, _, _, q, _⟩ := hq b z
            rw [q] at n1; cases n1
          rw [wo b m1 m2 m3] at z
          rw [hB.ini.grw z] at n1
          cases n1
      · rw [Rf, Rp]
        refine ⟨rfl, .inl ⟨rfl, p, qs, wa, wp, fun z => ?_, ?_, wq⟩⟩
        · have : qs.length = pl.length := by rw [← hqs, List.length_map]; exact hlen
          rw [z] at this
          exact hp.ne (List.length_eq_zero_iff.mp this.symm)
        · have : qs.length = pl.length := by rw [← hqs, List.length_map]; exact hlen
          have := hp.len
          omega
theorem FnG.to {P : Program} {w : World} {K : PySem.W.Frag} {mg : Str → Option Value} {base : Heap} {k : Nat} {f : Addr} {fd : FuncData} {ps : List Str} {S : Spc} (F : FnG P w K mg base k f fd ps S) {S' : Nat → Spc} (hc : ∀ c, (S' c).ce = c) (h : ∀ ds k x, (S' S.ce).run ds k x → S.run ds k x) : FnG P w K mg base k f fd ps (S' S.ce) :=
  F.imp (Nat.le_of_eq (hc _).symm) h
end DL

/-! EA: a whole list or tuple backwards, by a slice. -/
namespace DL
open PySem PySem.Spec PyProof.Rows L2
section
variable {prog : Program} {w : World} {A : Around} {E : Value → Shared → Prop} {s : Shared}
theorem adj_back (n : Nat) : Builtin.Slice.sliceAdjust none none (-1) (n : Int) = ((n : Int) - 1, -1) := rfl
theorem plc_back (n : Nat) : Builtin.Slice.slicePlaces ((n : Int) - 1) (-1) (-1) = n := by
  unfold Builtin.Slice.slicePlaces; have hz : ¬ ((-1 : Int) > 0) := by decide
  rw [if_neg hz]
  by_cases hn : ((n : Int) - 1 > -1)
  · rw [if_pos hn, show (-(-1) : Int) = 1 from rfl, Int.ediv_one]
    omega
  · rw [if_neg hn]
    omega
theorem app_back {z : Addr} {tk : Tok} {n : Nat} {Q : Int × Int × Nat → Shared → Prop} (hz : s.heap.IsSliceOf z .none .none (.int (-1) tk)) (h : Q ((n : Int) - 1, -1, n) s) : wpAny (model prog w) A (Builtin.Slice.sliceApplied (.ref z) (pure (n : Int))) Q E s := by
  obtain ⟨oz, h1, h2, h3⟩ := id hz
  unfold Builtin.Slice.sliceApplied; unfold Builtin.Slice.sliceFields
  refine wpAny_bind (wpAny_bind (wpAny_field h1 h3 (x := .none) rfl (wpAny_bind (wpAny_field h1 h3 (x := .none) rfl (wpAny_bind (wpAny_field h1 h3 (x := .int (-1) tk) rfl (wpAny_pure ?_)))))))
  refine wpAny_bind (HT.slicePart_ (.int (-1) tk) ?_)
  show wpAny _ _ (if (((-1 : Int)) == 0) = true then _ else _) _ _ s
  rw [if_neg (by decide)]
  refine wpAny_bind (HT.slicePart_ .none (wpAny_bind (HT.slicePart_ .none (wpAny_bind (wpAny_pure ?_)))))
  show wpAny _ _ (match Builtin.Slice.sliceAdjust none none (-1) (n : Int) with | (lo, hi) => pure (lo, (-1 : Int), Builtin.Slice.slicePlaces lo hi (-1))) _ _ s
  rw [adj_back n]
  show wpAny _ _ (pure ((n : Int) - 1, (-1 : Int), Builtin.Slice.slicePlaces ((n : Int) - 1) (-1) (-1))) _ _ s
  rw [plc_back]
  exact wpAny_pure h
theorem fm_cong {α β : Type} {f g : α → Option β} : ∀ (l : List α), (∀ x ∈ l, f x = g x) → l.filterMap f = l.filterMap g
  | [], _ => rfl
  | x :: l, h => by
    rw [List.filterMap_cons, List.filterMap_cons, h x List.mem_cons_self, fm_cong l fun y hy => h y (List.mem_cons_of_mem _ hy)]
theorem pick_back (xs : Array Value) : ((List.range xs.size).filterMap fun (m : Nat) => xs[((xs.size : Int) - 1 + (m : Int) * (-1)).toNat]?).toArray = xs.toList.reverse.toArray := by
  have e : ((List.range xs.size).filterMap fun (m : Nat) => xs[((xs.size : Int) - 1 + (m : Int) * (-1)).toNat]?) = ((List.range xs.size).map fun m => xs.size - 1 - m).filterMap (xs[·]?) := by
    rw [List.filterMap_map]
    refine fm_cong _ fun m hm => ?_
    have := List.mem_range.mp hm
    show xs[_]? = xs[xs.size - 1 - m]?
    congr 1
    omega
  rw [e, PySem.W.krv_range, List.filterMap_reverse, PySem.W.krv_all]
theorem tup_back {t z : Addr} {its : Array Value} {tk : Tok} {Q : Value → Shared → Prop} (ht : IsTup s.heap t its) (hz : s.heap.IsSliceOf z .none .none (.int (-1) tk))
    (h : Q (.ref s.heap.objs.size) { s with heap := s.heap.push { cls := .type "tuple", data := .seq its.toList.reverse.toArray } }) (hsz : its.size ≤ sizeLine) : wpAny (model prog w) A (getItem (.ref t) (.ref z)) Q E s := by
  have hok : sizeOk (.seq its.toList.reverse.toArray) := by
    show its.toList.reverse.toArray.size ≤ sizeLine
    rw [List.size_toArray, List.length_reverse, Array.length_toList]
    exact hsz
  obtain ⟨oz, h1, h2, h3⟩ := id hz
  have hTz : s.TypeIs (.ref z) "slice" := ⟨oz, h1, h2⟩
  unfold getItem
  try (with_reducible refine wpAny_holding ?_); try refine wpAny_bind (wpAny_pure ?_)
  refine wpAny_bind (wpAny_sequenceKey ht.typeIs (by exact rfl) ?_)
  refine wpAny_bind (wpAny_callSpecial?_slot (name := Str.ofString "__getitem__") ht.typeIs PyProof.Rows.slot_tuple_getitem (wpAny_call_entry PyProof.Rows.slot_tuple_getitem ht.typeIs PyProof.Rows.entry_tuple_getitem ?_ (PyProof.Rows.args_tuple_getitem _ _)))
  refine (show wpAny _ _ (Builtin.Tuple.tupleItemsOf (.ref t) >>= _) _ _ s from wpAny_bind (tupleItemsOf_ ht ?_))
  refine wpAny_bind (wpAny_typeOf hTz ?_)
  rw [if_pos (by decide)]
  refine wpAny_bind (app_back hz ?_)
  have hno : ¬ ((((its.size : Nat) : Int) - 1 == 0 && (-1 : Int) == 1 && its.size == its.size) = true) := by
    intro q
    simp only [Bool.and_eq_true] at q; exact absurd q.1.2 (by decide)
  show wpAny _ _ (if (((its.size : Nat) : Int) - 1 == 0 && (-1 : Int) == 1 && its.size == its.size) = true then _ else _) _ _ s
  rw [if_neg hno, pick_back]
  first
    | exact wpAny_bind (m := Builtin.Tuple.tupleExact _) (wpAny_newObj_type (wpAny_pure ⟨_, rfl, wpAny_pure h⟩) hok)
    | exact wpAny_bind (m := Builtin.Tuple.tupleExact _) (wpAny_newObj_type (wpAny_bind (wpAny_pure (wpAny_pure ⟨_, rfl, wpAny_pure h⟩))) hok)
    | exact wpAny_bind (wpAny_bind (m := Builtin.Tuple.tupleExact _) (wpAny_newObj_type (wpAny_pure (wpAny_pure ⟨_, rfl, wpAny_pure h⟩)) hok))
    | exact wpAny_bind (wpAny_bind (m := Builtin.Tuple.tupleExact _) (wpAny_newObj_type (wpAny_pure ⟨_, rfl, wpAny_pure h⟩) hok))
end
def rBack (K : PySem.W.Frag) : V → Hp → VK → Prop := fun y H Q => ∃ a ys, y = .ref a ∧ ((SqL K H a ys ∧ ∀ p, H p = none → Q (.ref p) (upd H p (.lst ys.reverse))) ∨ (SqT K H a ys ∧ ∀ p, H p = none → Q (.ref p) (upd H p (.tup ys.reverse))))
section
variable {X : Cx} {e : Expr} {te : TE} {sa : SE} {a : Expr}
theorem pe_back {k : Nat} {q1 q2 q3 q4 : Pos} (he : PE X e te) : PE X (.Subscript e (.Slice none none (some (.UnaryOp .USub (.Constant (.int 1) k q1) q2)) q3) q4) (fun σ H Q => te σ H fun y H1 => rBack X.K y H1 Q) := by
  refine ⟨fun pins s σ H Q I h => ?_⟩
  refine Subscript_ (thn (he.run pins s σ H _ I h) fun v s1 ⟨y, G1, J1, r1, z1⟩ => ?_)
  obtain ⟨a, ys, ey, z1⟩ := z1
  subst ey
  cases r1
  refine wpAny_Slice ?_
  rw [evalPart_none]
  refine wpAny_pure ?_
  refine wpAny_pure ?_
  rw [evalPart_some]
  have hst : PE X (.UnaryOp .USub (.Constant (.int 1) k q1) q2) (tUn (rU fun i => .int (-i)) (tC (.int 1))) := pe_un un_neg pe_int
  refine thn (hst.run pins s1 σ G1 (fun o G2 => o = .int (-1) ∧ G2 = G1) J1 ⟨1, rfl, rfl, rfl⟩) fun vs s4 ⟨o, G4, J4, r4, eo, e4⟩ => ?_
  subst eo e4
  obtain ⟨tk, rfl⟩ := r4
  have J5 : Inv X pins σ G4 { s4 with heap := s4.heap.push { cls := .type "slice", data := .fields #[.none, .none, .int (-1) tk] } } := J4.kept (t' := s4.toks) fun b ob q => Heap.get?_push_of_some _ q
  show wpAny (model X.prog X.w) X.A (subscriptTail e (.Slice none none (some (.UnaryOp .USub (.Constant (.int 1) k q1) q2)) q3) (.ref a) (.ref s4.heap.objs.size)) (EP X pins σ Q) X.xe { s4 with heap := s4.heap.push { cls := .type "slice", data := .fields #[.none, .none, .int (-1) tk] } }
  rcases z1 with ⟨hy, q⟩ | ⟨hy, q⟩
  · obtain ⟨its, r, ht, hz⟩ := J5.list hy
    have hlen := r.length
    refine tail_any (ops := [.ref a, .ref s4.heap.objs.size]) ht.isList.typeIs PySem.slot_list_getitem.lookup ?_ (by with_unfolding_all rfl)
    refine wpAny_getItem_list_slice ht.isList (Heap.IsSliceOf.new _ .none .none (.int (-1) tk)) .none .none (.int (-1) tk) (by decide) ?_ (by rw [List.size_toArray]; omega)
    rw [PySem.W.krv_pick its.toArray]
    refine ⟨.ref _, _, J5.laid (t' := s4.toks) (o := .lst ys.reverse) (fun b ob q => Heap.get?_push_of_some _ q) (Nat.le_refl _) ?_, rfl, q _ (J5.hok.fresh (Nat.le_refl _))⟩
    exact ⟨by rw [List.length_reverse]; omega, _, 0, r.reverse, Heap.get?_push_size _ rfl⟩
  · obtain ⟨its, r, ht, hz⟩ := J5.tuple hy
    have hlen := r.length
    refine tail_any (ops := [.ref a, .ref s4.heap.objs.size]) ht.typeIs (PyProof.Rows.slot_tuple_getitem.lookup) ?_ (by with_unfolding_all rfl)
    refine tup_back ht (Heap.IsSliceOf.new _ .none .none (.int (-1) tk)) ?_ (by rw [List.size_toArray]; omega)
    refine ⟨.ref _, _, J5.laid (t' := s4.toks) (o := .tup ys.reverse) (fun b ob q => Heap.get?_push_of_some _ q) (Nat.le_refl _) ?_, rfl, q _ (J5.hok.fresh (Nat.le_refl _))⟩
    exact ⟨by rw [List.length_reverse]; omega, _, r.reverse, IsTup.new _ _⟩
theorem de_rev {k : Nat} {q1 q2 q3 q4 : Pos} (ha : DO X a sa) : DE X (.Subscript a (.Slice none none (some (.UnaryOp .USub (.Constant (.int 1) k q1) q2)) q3) q4) (.rev sa) := by
  refine (pe_back ha).mono fun σ H Q ⟨e, H0, F0, Γ, F, c, T, k, xo, ok, hc, hw, fin⟩ => ?_
  have hw : wpE e (.rev sa) Γ k := hw
  rw [wpE] at hw
  rw [show costE (.rev sa) = costE sa by rw [costE]] at hc fin
  refine ⟨e, H0, F0, Γ, F, c, T, _, xo, ok, hc, hw, fun ox Γ1 F1 d1 vx H1 T1 q1 hc1 l1 ok1 r1 => ?_⟩
  obtain ⟨dx, ex, q1⟩ := osw_inv q1
  have hx := ok1.fl r1 (fun p hp => by simp [hp]) ex
  have done : ∀ t v H', k t Γ1 → Res X.K F1 H1 t v H' → Q v H' := fun t v H' hk res => by
    obtain ⟨F', T', l4, ok4, rt⟩ := res.fin ok1.none_left
    exact fin t Γ1 F' d1 v H' T' hk hc1 (l1.trans l4) ok4 rt
  unfold revD at q1
  split at q1
  · obtain ⟨b, vs, rfl, hb, r⟩ := hx
    exact ⟨b, vs, rfl, .inl ⟨.inl (.inl hb), fun p hp => done _ _ _ q1 (.newL r.reverse hp)⟩⟩
  · obtain ⟨b, vs, rfl, hb, r⟩ := rs_tup hx
    exact ⟨b, vs, rfl, .inr ⟨Same.seqT ok1.1.ini.same hb, fun p hp => done _ _ _ q1 (.newT ok1.1.ini r.reverse hp)⟩⟩
  · exact q1.elim
end
theorem augD_addI (i j : Int) (k : OT → Prop) : augD .add (.int i) (.int j) k = k (.fz (.int (i + j))) := rfl
theorem augD_subI (i j : Int) (k : OT → Prop) : augD .sub (.int i) (.int j) k = k (.fz (.int (i - j))) := rfl
theorem augD_mulI (i j : Int) (k : OT → Prop) : augD .mul (.int i) (.int j) k = (mulOk i j ∧ k (.fz (.int (i * j)))) := rfl
theorem augD_fdivI (i j : Int) (k : OT → Prop) : augD .fdiv (.int i) (.int j) k = (0 < j ∧ j.natAbs < 2 ^ 8000 ∧ k (.fz (.int (i / j)))) := rfl
theorem augD_modI (i j : Int) (k : OT → Prop) : augD .mod (.int i) (.int j) k = (0 < j ∧ k (.fz (.int (i % j)))) := rfl
theorem small_pow {i : Int} (h0 : 0 ≤ i) (h : i < 18446744073709551616) : i.natAbs < 2 ^ 8000 := by
  have e : (2 : Nat) ^ 64 ≤ 2 ^ 8000 := Nat.pow_le_pow_right (by decide) (by decide)
  have e2 : (2 : Nat) ^ 64 = 18446744073709551616 := by decide
  generalize (2 : Nat) ^ 8000 = z at e ⊢
  omega
end DL

/-! EB: list.extend; keywords in another order than the parameters. -/
namespace DL
open PySem PySem.Spec PyProof.Rows L2
theorem mv_extend {K : PySem.W.Frag} : MtV K rExtend .extend := by
  intro xs ds l xvs vs F H k Q i hl rx rd g fin
  unfold mcD at g
  split at g <;> first | exact g.elim | cases ‹Mc.extend = _› | skip
  rename_i ys
  obtain ⟨v, rfl, rv⟩ := RfL.one rd
  rw [Rf, Rp] at rv
  obtain ⟨b, zs, rfl, hb, rz⟩ := rv
  refine ⟨l, b, xvs, zs, rfl, rfl, hl, i b _ hb, ?_, fin _ _ .non _ g.2 (rf_non.mpr rfl) (rx.append rz)⟩
  rw [← RpL.length rx, ← RpL.length rz]
  exact Nat.le_trans g.1 lim_line
/-- places of a row -/
def prm {α : Type} (ix : List Nat) (l : List α) : List α := ix.filterMap (l[·]?)
def permS (S : Spc) (ix : List Nat) : Spc where
  run := fun ds k x => S.run (prm ix ds) k x
  ce := S.ce
  ar := S.ar
theorem permS_run (S : Spc) (ix : List Nat) (ds : List D) (k : OT → Prop) (x : Ex → Prop) : (permS S ix).run ds k x = S.run (prm ix ds) k x := rfl
theorem prm_10 {α : Type} (a b : α) : prm [1, 0] [a, b] = [b, a] := rfl
theorem prm_102 {α : Type} (a b c : α) : prm [1, 0, 2] [a, b, c] = [b, a, c] := rfl
theorem prm_201 {α : Type} (a b c : α) : prm [2, 0, 1] [a, b, c] = [c, a, b] := rfl
theorem prm_120 {α : Type} (a b c : α) : prm [1, 2, 0] [a, b, c] = [b, c, a] := rfl
theorem prm_210 {α : Type} (a b c : α) : prm [2, 1, 0] [a, b, c] = [c, b, a] := rfl
theorem rfl_prm {K : PySem.W.Frag} {F : FH} {ds : List D} {vs : List V} (h : RfL K F ds vs) : ∀ ix : List Nat, RfL K F (prm ix ds) (prm ix vs)
  | [] => .nil
  | i :: ix => by
    have ih := rfl_prm h ix
    unfold prm at ih ⊢
    rw [List.filterMap_cons, List.filterMap_cons]
    cases e : ds[i]? with
    | none =>
      have e2 : vs[i]? = none := by
        have := List.getElem?_eq_none_iff.mp e
        exact List.getElem?_eq_none (by rw [← RpL.length h]; exact this)
      rw [e2]
      exact ih
    | some d =>
      obtain ⟨v, h1, h2⟩ := RpL.get h e
      rw [h1]
      exact .cons h2 ih
theorem vals_get {vs : List V} {us : List Value} (h : Vals vs us) : ∀ i : Nat, (vs[i]? = none ∧ us[i]? = none) ∨ ∃ v u, vs[i]? = some v ∧ us[i]? = some u ∧ RelV v u := by
  induction h with
  | nil => exact fun i => .inl ⟨by simp, by simp⟩
  | cons r _ ih =>
    intro i
    cases i with
    | zero => exact .inr ⟨_, _, rfl, rfl, r⟩
    | succ i => simpa using ih i
theorem vals_prm {vs : List V} {us : List Value} (h : Vals vs us) : ∀ ix : List Nat, Vals (prm ix vs) (prm ix us)
  | [] => .nil
  | i :: ix => by
    have ih := vals_prm h ix
    unfold prm at ih ⊢
    rw [List.filterMap_cons, List.filterMap_cons]
    rcases vals_get h i with ⟨e1, e2⟩ | ⟨v, u, e1, e2, r⟩
    · rw [e1, e2]; exact ih
    · rw [e1, e2]; exact .cons r ih
structure KBiP (fd : FuncData) (ps ks : List Str) (ix : List Nat) : Prop where
  to : ∀ (s : Shared) (ws : List Value), ws.length = ks.length → BindsTo s fd ⟨[], ks.zip ws⟩ (ps.zip (prm ix ws))
section
variable {X : Cx} {k : Nat} {f : Addr} {fd : FuncData} {ps ks : List Str} {S : Spc} {n : Str} {p pos : Pos} {ix : List Nat} {tk : TA} {sk : List SE} {kws : List Keyword}
theorem pe_callKP (F : Cb X.prog X.w X.K X.mg X.base k n f fd ps S) (kb : KBiP fd ps ks ix) (hr : Room k X.A) (hgd : X.A.guards = some []) (hg : Gl X n) (hkw : PK X kws tk)
    (hall : (backToKw pos (keywordEach kws X.env)).all (·.1.isSome) = true := by rfl) (hks : (backToKw pos (keywordEach kws X.env)).filterMap (·.1) = ks := by rfl)
    (hdb : (n == ("__debug__" : Str)) = false := by decide)
    (hpl : ((backTo pos (starEach [] X.env)).any (·.1) || (backToKw pos (keywordEach kws X.env)).any (·.1.isNone)) = false := by rfl) :
    PE X (.Call (.Name n p) [] kws pos) (tCallKG X.K (permS S ix) ks.length tNil tk) := by
  refine ⟨fun pins s σ H Q I h0 => ?_⟩
  refine wpAny_Call_Name_kw (ld_glob I hg F.g ?_ hdb)
  refine PySem.W.callWith_KW0 (h₀ := X.base) I.ok.mod.kin F.kp hall (thn (hkw.run pos pins s σ H _ I h0) fun ws s2 ⟨zs, H2, I2, rz, hl, q2⟩ => ⟨I2.kIn, ?_⟩) hpl
  rw [hks]
  obtain ⟨ds, G, c, kk, x, hx, ini, bud, hds, hrun, fin⟩ := q2
  exact wp_call_of (run_fnG F.fn hr hgd I2 (args := ⟨[], ks.zip ws⟩) (us := prm ix ws) (vs := prm ix zs) (fun hl2 => kb.to s2 ws (by rw [← rz.length]; exact hl)) (vals_prm rz ix) ⟨prm ix ds, G, c, kk, x, hx, ini, bud, rfl_prm hds ix, hrun, fin⟩)
theorem de_callKP (F : Cb X.prog X.w X.K X.mg X.base k n f fd ps S) (kb : KBiP fd ps ks ix) (hr : Room k X.A) (hgd : X.A.guards = some []) (hg : Gl X n) (hkw : DK X kws sk) (hn : sk.length = ks.length := by rfl)
    (hall : (backToKw pos (keywordEach kws X.env)).all (·.1.isSome) = true := by rfl) (hks : (backToKw pos (keywordEach kws X.env)).filterMap (·.1) = ks := by rfl)
    (hdb : (n == ("__debug__" : Str)) = false := by decide)
    (hpl : ((backTo pos (starEach [] X.env)).any (·.1) || (backToKw pos (keywordEach kws X.env)).any (·.1.isNone)) = false := by rfl) :
    DE X (.Call (.Name n p) [] kws pos) (.call (permS S ix) sk) := by
  have h : PE X (.Call (.Name n p) [] kws pos) (tCallKG X.K (permS S ix) ks.length (AR X.K (fun e => wpA e []) (2 ^ costL [])) (AR X.K (fun e => wpA e sk) (2 ^ costL sk))) :=
    (pe_callKP F kb hr hgd hg hkw hall hks hdb hpl).mono fun σ H Q hq => ar_nil (Q := fun vs H1 => AR X.K (fun e => wpA e sk) (2 ^ costL sk) σ H1 fun zs H2 => zs.length = ks.length ∧ spG X.K (permS S ix) (vs ++ zs) H2 Q) hq
  exact callKG_of (ss := []) h hn
end
end DL

/-! EC: methods and built-ins as calls of contracts over data. -/
namespace DL
open PySem PySem.Spec PyProof.Rows L2
def tyT : TyM → String
  | .str => "str"
  | .list => "list"
  | .tuple => "tuple"
  | .dict => "dict"
/-- what a method makes of frozen data -/
def MeV (K : PySem.W.Frag) (r : V → List V → Hp → VK → Prop) (S : Spc) : Prop := ∀ (ds : List D) (v : V) (vs : List V) (c : Nat) (F : FH) (H : Hp) (k : OT → Prop) (x : Ex → Prop) (Q : VK), (∀ y, ¬ x y) → Ini c F H → RfL K F ds (v :: vs) → S.run ds k x →
  (∀ t u H', k t → Res K F H t u H' → Q u H') → r v vs H Q
def FnV (K : PySem.W.Frag) (r : List V → Hp → VK → Prop) (S : Spc) : Prop := ∀ (ds : List D) (vs : List V) (c : Nat) (F : FH) (H : Hp) (k : OT → Prop) (x : Ex → Prop) (Q : VK), (∀ y, ¬ x y) → Ini c F H → RfL K F ds vs → S.run ds k x →
  (∀ t u H', k t → Res K F H t u H' → Q u H') → r vs H Q
section
variable {X : Cx} {o e : Expr} {es : List Expr} {so : SE} {ss : List SE} {apos cpos : Pos} {name : Str} {id : String} {r : V → List V → Hp → VK → Prop} {rr : List V → Hp → VK → Prop} {S : Spc} {u : Expr}
theorem ty_of {T : TyM} {K : PySem.W.Frag} {H : Hp} {F : FH} {c : Nat} {d : D} {v : V} (i : Ini c F H) (h : Rf K F d v) (hT : tyM T d = true) (hn : T = .str ∨ T = .list) : tyV K (tyT T) v H := by
  rcases hn with rfl | rfl
  · cases d <;> first | (cases hT; done) | skip
    rw [rf_str.mp h]
    exact rfl
  · cases d <;> first | (cases hT; done) | skip
    rw [Rf, Rp] at h
    obtain ⟨a, vs, rfl, ha, _⟩ := h
    exact .inl ⟨rfl, vs, .inl (.inl (i.same _ _ ha))⟩
theorem de_meth {T : TyM} (hn : T = .str ∨ T = .list) (pa : PlainAttrs (tyT T)) (slot : Slot (tyT T) name id) (hty : typeOf (.builtin id) = pure (.type "method_descriptor")) (hm : MtR X id r) (hv : MeV X.K r S) (ho : DE X o so) (ha : DA X (e :: es) ss)
    (hbase : attributeBase o name X.env (eval o X.env) = eval o X.env := by rfl)
    (hfew : ((backTo cpos (starEach (e :: es) X.env)).all (fun x => !x.1) && (backToKw cpos (keywordEach [] X.env)).all (fun x => x.1.isSome) && decide ((e :: es).length + ([] : List Keyword).length + (if ([] : List Keyword).isEmpty then 0 else 1) < 30)) = true := by rfl)
    (hline : (apos.endLine == cpos.line) = true := by rfl) (hs : starEach (e :: es) X.env = (false, eval e X.env) :: starEach es X.env := by rfl) (hplain : (backTo cpos (starEach es X.env)).any (·.1) = false := by rfl) :
    DE X (.Call (.Attribute o name apos) (e :: es) [] cpos) (.meth T S so ss) := by
  refine (pe_bm pa slot hty hm ho ha hbase hfew hline hs hplain).mono fun σ H Q ⟨e, H0, F0, Γ, F, c, T0, k, xo, ok, hc, hw, fin⟩ => ?_
  have hw : wpE e (.meth T S so ss) Γ k := hw
  rw [wpE] at hw
  rw [show costE (.meth T S so ss) = costE so + costL ss + S.ce + 6 by rw [costE]] at hc fin
  have hb := le3 (costE so) (costL ss) S.ce
  have hb2 : 2 ^ (costE so + costL ss + S.ce + 4) ≤ 2 ^ (costE so + costL ss + S.ce + 6) := pmono (by omega)
  generalize hA : 2 ^ costE so = A at *
  generalize hC : 2 ^ costL ss = C at *
  generalize hB : 2 ^ S.ce = B at *
  generalize hM : 2 ^ (costE so + costL ss + S.ce + 4) = M at *
  generalize hM2 : 2 ^ (costE so + costL ss + S.ce + 6) = M2 at *
  refine ⟨e, H0, F0, Γ, F, c, T0, _, xo, ok, by omega, hw, fun t Γ1 F1 c1 v H1 T1 q1 hc1 l1 ok1 r1 => ?_⟩
  obtain ⟨ok2, l2, g2⟩ := ok1.freeze
  have rv := RpT.frz l2 _ _ _ g2 r1
  obtain ⟨hT, q1⟩ := q1
  refine ⟨ty_of ok2.1.ini rv hT hn, e, H0, F0, Γ1, _, c1, T0, _, xo, ok2, by omega, q1, fun ds Γ2 F2 c2 vs H2 q2 hc2 l3 ok3 r3 => ?_⟩
  refine hv _ v vs c2 F2 H2 _ _ Q (fun y => xo y Γ2) ok3.1.ini (.cons (Rf.le l3 rv) r3) q2 fun t u H' hk res => ?_
  obtain ⟨F', T', l4, ok4, rt⟩ := res.fin ok3
  exact fin t Γ2 F' c2 u H' T' hk (by omega) (((l1.trans l2).trans l3).trans l4) ok4 rt
theorem de_fn (hp : ∀ {t : TA}, PA X es t → PE X u (tCB rr t)) (hv : FnV X.K rr S) (h : DA X es ss) : DE X u (.call S ss) := by
  refine (hp h).mono fun σ H Q ⟨e, H0, F0, Γ, F, c, T0, k, xo, ok, hc, hw, fin⟩ => ?_
  have hw : wpE e (.call S ss) Γ k := hw
  rw [wpE] at hw
  have hle : 2 ^ costL ss ≤ 2 ^ costE (.call S ss) := pmono (by rw [costE]; omega)
  refine ⟨e, H0, F0, Γ, F, c, T0, _, xo, ok, Nat.le_trans (Nat.add_le_add_left hle _) hc, hw, fun ds Γ2 F2 c2 vs H2 q2 hc2 l3 ok3 r3 => ?_⟩
  refine hv _ vs c2 F2 H2 _ _ Q (fun y => xo y Γ2) ok3.1.ini r3 q2 fun t u H' hk res => ?_
  obtain ⟨F', T', l4, ok4, rt⟩ := res.fin ok3
  exact fin t Γ2 F' c2 u H' T' hk (Nat.le_trans hc2 (Nat.add_le_add_left hle _)) (l3.trans l4) ok4 rt
end
/-- text.index(sign) -/
def sindexS : Spc where
  run := fun ds k _ => ∃ (a b : Str) (i : Nat) (rest : List Nat), ds = [.str a, .str b] ∧ Builtin.Str.occurrences a b 0 a.length 1 = i :: rest ∧ k (.fz (.int (i : Nat)))
  ce := 0
  ar := 2
theorem mev_sindex {K : PySem.W.Frag} : MeV K (fun x xs H Q => ∃ a b i rest, x = .str a ∧ xs = [.str b] ∧ Builtin.Str.occurrences a b 0 a.length 1 = i :: rest ∧ Q (.int (i : Nat)) H) sindexS := by
  intro ds v vs c F H k x Q hx i rd h fin
  obtain ⟨a, b, j, rest, rfl, h1, h2⟩ := h
  obtain ⟨v1, ws, e1, r1, rd⟩ := RpL.uncons rd
  obtain ⟨v2, ws2, rfl, r2, rd⟩ := RpL.uncons rd
  obtain rfl := RpL.nil_inv rd
  cases e1
  exact ⟨a, b, j, rest, rf_str.mp r1, by rw [rf_str.mp r2], h1, fin _ _ H h2 .int⟩
end DL

/-! ED: list(range(n)), tuple(range(n)); the second draw source (a crate). -/
namespace DL
open PySem PySem.Spec PyProof.Rows L2
def lrangeS : Spc where
  run := fun ds k _ => ∃ n : Int, ds = [.int n] ∧ 0 ≤ n ∧ n ≤ 1000000 ∧ k (.lst ((rangeD 0 n).map .fz))
  ce := 0
  ar := 1
def trangeS : Spc where
  run := fun ds k _ => ∃ n : Int, ds = [.int n] ∧ 0 ≤ n ∧ n ≤ 1000000 ∧ k (.fz (.tup (rangeD 0 n)))
  ce := 0
  ar := 1
theorem rfl_range {K : PySem.W.Frag} {F : FH} (n : Int) : RfL K F (rangeD 0 n) (rgV 0 n) := by
  refine RpL.of_get (by unfold rangeD rgV; simp) fun i d v h1 h2 => ?_
  unfold rangeD at h1
  unfold rgV at h2
  rw [List.getElem?_map, Option.map_eq_some_iff] at h1 h2
  obtain ⟨a, h3, rfl⟩ := h1
  obtain ⟨b, h4, rfl⟩ := h2
  rw [h3] at h4
  cases h4
  exact rf_int.mpr rfl
section
variable {X : Cx} {a : Expr} {sa : SE} {p p2 pos pos2 : Pos}
theorem call1 {e : EX} {S : Spc} {Γ : DL.Env} {k : OT → DL.Env → Prop} (h : wpE e (.call S [sa]) Γ k) : wpE e sa Γ fun t Γ1 => S.run [t.toD] (fun t => k t Γ1) (fun x => e x Γ1) := by
  rw [wpE, wpA] at h
  simpa only [wpA] using h
theorem de_lrange (hc : X.calm = true) (hg : Gl X "list") (hm : X.mg "list" = none) (hg2 : Gl X "range") (hm2 : X.mg "range" = none) (ha : DE X a sa) (na : starEach [a] X.env = (false, eval a X.env) :: starEach [] X.env := by rfl)
    (nb : starEach [.Call (.Name "range" p2) [a] [] pos2] X.env = (false, eval (.Call (.Name "range" p2) [a] [] pos2) X.env) :: starEach [] X.env := by rfl) :
    DE X (.Call (.Name "list" p) [.Call (.Name "range" p2) [a] [] pos2] [] pos) (.call lrangeS [sa]) := by
  refine (pe_listRg hc hg hm (prg_1 hg2 hm2 ha na) nb).mono fun σ H Q ⟨e, H0, F0, Γ, F, c, T, k, xo, ok, hcc, hw, fin⟩ => ?_
  have hw := call1 hw
  have hle : 2 ^ costE sa ≤ 2 ^ costE (.call lrangeS [sa]) := pmono (by rw [costE, costL, costL]; omega)
  refine ⟨e, H0, F0, Γ, F, c, T, _, xo, ok, Nat.le_trans (Nat.add_le_add_left hle _) hcc, hw, fun t Γ1 F1 c1 v H1 T1 q1 hc1 l1 ok1 r1 => ?_⟩
  obtain ⟨n, et, h0, h1, q1⟩ := q1
  injection et with et _
  obtain ⟨ok2, l2, g2⟩ := ok1.freeze
  have rv := RpT.frz l2 _ _ _ g2 r1
  rw [et] at rv
  refine ⟨n, rf_int.mp rv, RgOk.of_le (by omega) (by omega) (by omega) h0, fun q hq => ?_⟩
  obtain ⟨F', T', l4, ok4, rt⟩ := (Res.newL (rfl_range (F := _) n) hq).fin ok2
  exact fin _ Γ1 F' c1 _ _ T' q1 (Nat.le_trans hc1 (Nat.add_le_add_left hle _)) ((l1.trans l2).trans l4) ok4 rt
theorem de_trange (hc : X.calm = true) (hg : Gl X "tuple") (hm : X.mg "tuple" = none) (hg2 : Gl X "range") (hm2 : X.mg "range" = none) (ha : DE X a sa) (na : starEach [a] X.env = (false, eval a X.env) :: starEach [] X.env := by rfl)
    (nb : starEach [.Call (.Name "range" p2) [a] [] pos2] X.env = (false, eval (.Call (.Name "range" p2) [a] [] pos2) X.env) :: starEach [] X.env := by rfl) :
    DE X (.Call (.Name "tuple" p) [.Call (.Name "range" p2) [a] [] pos2] [] pos) (.call trangeS [sa]) := by
  refine (pe_tupRg hc hg hm (prg_1 hg2 hm2 ha na) nb).mono fun σ H Q ⟨e, H0, F0, Γ, F, c, T, k, xo, ok, hcc, hw, fin⟩ => ?_
  have hw := call1 hw
  have hle : 2 ^ costE sa ≤ 2 ^ costE (.call trangeS [sa]) := pmono (by rw [costE, costL, costL]; omega)
  refine ⟨e, H0, F0, Γ, F, c, T, _, xo, ok, Nat.le_trans (Nat.add_le_add_left hle _) hcc, hw, fun t Γ1 F1 c1 v H1 T1 q1 hc1 l1 ok1 r1 => ?_⟩
  obtain ⟨n, et, h0, h1, q1⟩ := q1
  injection et with et _
  obtain ⟨ok2, l2, g2⟩ := ok1.freeze
  have rv := RpT.frz l2 _ _ _ g2 r1
  rw [et] at rv
  refine ⟨n, rf_int.mp rv, RgOk.of_le (by omega) (by omega) (by omega) h0, fun q hq => ?_⟩
  obtain ⟨F', T', l4, ok4, rt⟩ := (Res.newT ok2.1.ini (rfl_range n) hq).fin ok2
  exact fin _ Γ1 F' c1 _ _ T' q1 (Nat.le_trans hc1 (Nat.add_le_add_left hle _)) ((l1.trans l2).trans l4) ok4 rt
end
/-! ### a crate -/
def spPull (K : PySem.W.Frag) : Sp := fun vs H Q _ => ∃ (a : Addr) (m i j l : Int) (n : Nat), vs = [.ref a, .int m] ∧ 0 < m ∧ m < 2582249878086908589655919172003011874329705792829223512830659356540647622016841194629645353280137831435903171972747493376 ∧ H a = some (.lst [.int i, .int j, .int l]) ∧ 0 ≤ j ∧ j < 2 ^ 200 ∧ 0 ≤ l ∧ l ≤ (n : Int) ∧ n + 1 ≤ BD ∧
  ∀ r i' l', 0 ≤ r → r < m → 0 ≤ l' → l' ≤ l + 1 → Q (.int r) (upd H a (.lst [.int i', .int j, .int l']))
theorem fng_pull {P : Program} {w : World} {K : PySem.W.Frag} {mg : Str → Option Value} {base : Heap} {k : Nat} {f : Addr} {fd : FuncData} {ps : List Str} (hps : ps.length = 2) (Fo : FnOk P w K mg base CX0 k f fd ps (spPull K)) : FnG P w K mg base k f fd ps (drawS 1) := by
  refine ⟨fun ds kk x h => ?_, fun A outer s H args us vs Q hr hgd e0 hb r hsp => ?_⟩
  · obtain ⟨a, m, rfl, _⟩ := h
    exact hps.symm
  obtain ⟨ds, F, c, kk, x, hx, ⟨ini, tk⟩, bud, hds, ⟨a, m, rfl, hm, hm2, hk⟩, fin⟩ := hsp
  obtain ⟨v, u, rfl, hv, hu⟩ := RfL.two hds
  have eu := hu.int_inv
  subst eu
  rw [Rf, Rp] at hv
  obtain ⟨rfl, hv⟩ := hv
  rcases hv with ⟨e, _⟩ | ⟨_, fa⟩
  case inl => cases e
  obtain ⟨⟨i, j, l, ⟨ts, na, hts, ga⟩, hj0, hj1, hl0, hl1⟩, _⟩ := e0.hok a _ (ini.grw fa)
  have l1 : over H [(a, .lst [.int i, .int j, .int l])] a = some (.lst [.int i, .int j, .int l]) := by
    unfold over; rw [List.lookup_cons, beq_self_eq_true]
  have s64 : 64 ≤ sizeLine := by rw [sizeLine_eq]; decide
  refine run_re Fo (L := [(a, .lst [.int i, .int j, .int l])]) (c1 := c + 1) (F := F) (c := c)
    (Qs := fun v H1 => ∃ r i' l', v = .int r ∧ 0 ≤ r ∧ r < m ∧ 0 ≤ l' ∧ l' ≤ l + 1 ∧ H1 = upd (over H [(a, .lst [.int i, .int j, .int l])]) a (.lst [.int i', .int j, .int l']))
    hr e0 hb r ini (Nat.le_succ c) (fun z hz => ?_) ⟨a, m, i, j, l, c, rfl, hm, hm2, l1, hj0, hj1, hl0, hl1, ?_, fun r i' l' a1 a2 a3 a4 => ⟨r, i', l', rfl, a1, a2, a3, a4, rfl⟩⟩ ?_
  · obtain rfl : z = (a, .lst [.int i, .int j, .int l]) := by simpa using hz
    exact ⟨⟨_, fa⟩, ⟨_, rfl⟩, fun H' => ⟨Nat.le_trans (show 3 ≤ 64 by omega) s64, ts, na, hts, ga⟩⟩
  · have : c + 2 ^ 0 ≤ BD := bud
    omega
  · rintro v H1 ⟨r, i', l', rfl, b1, b2, b3, b4, rfl⟩
    refine ⟨⟨[(a, .lst [.int i', .int j, .int l'])], ?_, fun b _ g hg => ini.grw hg, fun z hz => ?_⟩, ?_⟩
    · funext b
      by_cases e2 : b = a
      · subst e2
        rw [upd_same]; unfold over; rw [List.lookup_cons, beq_self_eq_true]
      · rw [upd_ne e2]
        unfold over
        simp only [List.lookup_cons, beq_false_of_ne e2]
    · obtain rfl : z = (a, .lst [.int i', .int j, .int l']) := by simpa using hz
      refine ⟨crateG, _, fa, rfl, fun h ok => ?_⟩
      obtain ⟨_, its, n, rv, g⟩ := ok
      exact ⟨i', j, l', ⟨its, n, rv, g⟩, hj0, hj1, b3, by omega⟩
    · exact fin _ F (c + 1) _ _ [] (hk r b1 b2) (by show c + 1 ≤ c + 2 ^ 0; omega) (bump_base ini) ⟨by simp, fun p hp => absurd hp (by simp)⟩ (.of_fz (rf_int.mpr rfl))
def crateRS (ce : Nat) : Spc where
  run := fun ds k _ => ∃ (ns : List Int) (z : Int), ds = [.scr ns, .int z] ∧ 0 ≤ z ∧ z ≤ 63 ∧ ∀ i j : Int, 0 ≤ j → j < 2 ^ 200 → k (.lst ([D.int i, .int j, .int 0].map .fz))
  ce := ce
  ar := 2
def crateS (ce : Nat) : Spc where
  run := fun ds k _ => ∃ (ns : List Int) (z : Int), ds = [.scr ns, .int z] ∧ 0 ≤ z ∧ z ≤ 63 ∧ ∀ a, k (.fz (.opq 1 a))
  ce := ce
  ar := 2
def withCrate (F : FH) (a : Addr) : FH := fun b => if b = a then some (.grw crateG) else F b
theorem fng_crate {P : Program} {w : World} {K : PySem.W.Frag} {mg : Str → Option Value} {base : Heap} {k : Nat} {f : Addr} {fd : FuncData} {ps : List Str} {ce : Nat} (Fo : FnG P w K mg base k f fd ps (crateRS ce)) (hps : ps.length = 2) : FnG P w K mg base k f fd ps (crateS ce) := by
  refine ⟨fun ds kk x h => ?_, fun A outer s H args us vs Q hr hgd e0 hb r hsp => ?_⟩
  · obtain ⟨ns, z, rfl, _⟩ := h
    exact hps.symm
  obtain ⟨ds, F, c, kk, x, hx, ⟨ini, tk⟩, bud, hds, ⟨ns, z, rfl, hz0, hz1, hk⟩, fin⟩ := hsp
  have run := Fo.run A outer s H args us vs (fun v H1 => ∃ F' c' T' i j, 0 ≤ j ∧ j < 2 ^ 200 ∧ c' ≤ c + 2 ^ ce ∧ Bse H F c' F' H1 ∧ Own H F' H1 T' ∧ RpT K F' T' (.lst ([D.int i, .int j, .int 0].map .fz)) v) hr hgd e0 hb r
    ⟨[.scr ns, .int z], F, c, fun t => ∃ i j : Int, 0 ≤ j ∧ j < 2 ^ 200 ∧ t = .lst ([D.int i, .int j, .int 0].map .fz), x, hx, ⟨ini, tk⟩, bud, hds, ⟨ns, z, rfl, hz0, hz1, fun i j h0 h1 => ⟨i, j, h0, h1, rfl⟩⟩, fun t F' c' v H' T' ⟨i, j, h0, h1, ht⟩ g1 g2 g3 g4 => ⟨F', c', T', i, j, h0, h1, g1, g2, g3, ht ▸ g4⟩⟩
  refine codeAny_mono run fun res s' h => ?_
  cases res with
  | error e => exact h
  | ok fl =>
    cases fl with
    | next => exact h
    | brk => exact h
    | cont => exact h
    | ret u =>
      refine ce_re (show CE outer P w H s _ u s' from h) (fun b n => n) fun v H1 q hok tbl => ?_
      obtain ⟨F', c', T', i, j, hj0, hj1, hc, hB, hO, hT⟩ := q
      rw [RpT] at hT
      obtain ⟨a, zs, P0, rfl, rfl, hT⟩ := hT
      obtain ⟨rfl, h3⟩ := RpTL.fz_inv hT
      obtain ⟨v1, z1, rfl, r1, h3⟩ := RpL.uncons h3
      obtain ⟨v2, z2, rfl, r2, h3⟩ := RpL.uncons h3
      obtain ⟨v3, z3, rfl, r3, h3⟩ := RpL.uncons h3
      obtain rfl := RpL.nil_inv h3
      obtain rfl := rf_int.mp r1
      obtain rfl := rf_int.mp r2
      obtain rfl := rf_int.mp r3
      obtain ⟨a1, a2, a3⟩ := hO.at_ (a, .lst [.int i, .int j, .int 0]) List.mem_cons_self
      have wa : withCrate F' a a = some (.grw crateG) := if_pos rfl
      have wo : ∀ b, b ≠ a → withCrate F' a b = F' b := fun b n => if_neg n
      have le : Le F' (withCrate F' a) := fun b f e => by
        rw [wo b (fun z => by rw [z, a2] at e; cases e)]
        exact e
      have out : ∀ b, H b ≠ none → b ≠ a := fun b n z => n (z ▸ a3)
      have hini : Ini c' (withCrate F' a) (bump H1 (withCrate F' a) c') := fun b f e => by
        cases f with
        | grw g => exact bump_grw e
        | ho o =>
          show bump H1 (withCrate F' a) c' b = some o
          rw [bump_other (fun g z => by rw [e] at z; cases z)]
          have n1 : b ≠ a := fun z => by rw [z, wa] at e; cases e
          rw [wo b n1] at e
          exact hB.ini.ho e
        | tab q =>
          have n1 : b ≠ a := fun z => by rw [z, wa] at e; cases e
          exact FO.In.to (c := c') (f := .tab q) (F := F') (H := H1) (hB.ini b _ (by rw [wo b n1] at e; exact e)) (bump_other (fun g z => by rw [e] at z; cases z)) le
      have base : Bse H F c' (withCrate F' a) (bump H1 (withCrate F' a) c') := by
        refine ⟨hini, hB.le.trans le, fun b n1 n2 => ?_⟩
        obtain ⟨e1, e2⟩ := hB.old b n1 n2
        have e3 : withCrate F' a b = none := by rw [wo b (out b n2)]; exact e2
        exact ⟨by rw [bump_other (fun g z => by rw [e3] at z; cases z)]; exact e1, e3⟩
      have keep : ∀ b o, H b = some o → (∀ φ, o ≠ .ext φ) → (∀ ps, o ≠ .tbl ps) → bump H1 (withCrate F' a) c' b = some o := fun b o e ne nt => by
        cases q : F b with
        | none => rw [(base.old b q (by rw [e]; simp)).1]; exact e
        | some f =>
          have e1 := ini b f q
          cases f with
          | grw g => have e1 := e.symm.trans (show H b = _ from e1); cases e1; exact absurd rfl (ne _)
          | ho o' =>
            have e1 := e.symm.trans (show H b = _ from e1)
            cases e1
            exact base.ini.ho (base.le b _ q)
          | tab q' => obtain ⟨ps, z, _⟩ := (show ∃ ps, H b = some (.tbl ps) ∧ TabF F q' ps from ini b _ q); rw [z] at e; cases e; exact absurd rfl (nt _)
      have hok1 : ∀ b g, withCrate F' a b = some (.grw g) → g.f b c' s'.heap := fun b g e => by
        by_cases n1 : b = a
        · subst n1
          rw [wa] at e
          cases e
          obtain ⟨_, its, n, rv, gt⟩ := hok _ _ a1
          exact ⟨i, j, 0, ⟨its, n, rv, gt⟩, hj0, hj1, by omega, by omega⟩
        · rw [wo b n1] at e
          exact (hok b _ (hB.ini.grw e)).1
      have nog : ∀ b o, H1 b = some o → (∀ φ, o ≠ .ext φ) → (∀ xs, o ≠ .lst xs) → bump H1 (withCrate F' a) c' b = some o := fun b o e ne nl => by
        have n1 : b ≠ a := fun z => by rw [z, a1] at e; cases e; exact nl _ rfl
        rw [bump_other fun g z => by
          rw [wo b n1] at z
          rw [hB.ini.grw z] at e
          cases e
          exact ne _ rfl]
        exact e
      refine ⟨bump H1 (withCrate F' a) c', hok_re hok (fun b o e => ?_) (fun b cc e => nog b _ e (fun φ z => nomatch z) (fun xs z => nomatch z)) (fun b xs e => nog b _ e (fun φ z => nomatch z) (fun xs z => nomatch z)), fun b n0 n1 => ?_,
        fun b xs e => keep b _ e (fun φ z => nomatch z) (fun φ z => nomatch z), fun b o u e => keep b _ e (fun φ z => nomatch z) (fun φ z => nomatch z), fun b pz e => (tbl b pz e).imp fun more z => nog b _ z (fun φ r => nomatch r) (fun φ r => nomatch r),
        fin _ _ c' _ _ [] (hk a) hc base ⟨by simp, fun p hp => absurd hp (by simp)⟩ (.of_fz ?_)⟩
      · by_cases hg : ∃ g, withCrate F' a b = some (.grw g)
        · obtain ⟨g, hg⟩ := hg
          rw [bump_grw hg] at e
          cases e
          have main := hok1 b g hg
          exact .inr ⟨main, g.obj _ _ _ main, fun h1 h2 a1 a2 => g.stay _ _ _ _ a1 a2⟩
        · rw [bump_other fun g z => hg ⟨g, z⟩] at e
          exact .inl e
      · rw [bump_other fun g z => ?_]
        · exact n1
        · have m1 : b ≠ a := fun z => by rw [z, a1] at n1; cases n1
          rw [wo b m1] at z
          rw [hB.ini.grw z] at n1
          cases n1
      · rw [Rf, Rp]
        exact ⟨rfl, .inr ⟨rfl, wa⟩⟩
end DL

/-! EE: sorted of a tuple. -/
namespace DL
open PySem PySem.Spec PyProof.Rows L2
def rSortDT (K : PySem.W.Frag) : List V → Hp → VK → Prop := fun xs H Q => ∃ p ds vs, xs = [.ref p] ∧ SqT K H p vs ∧ ds.length = vs.length ∧ DpAll K H vs (ds.map D.py) ∧ srtOk ds ∧
  ∀ l, H l = none → Q (.ref l) (upd H l (.lst (((ds.zip vs).mergeSort pairLe).map (·.2))))
theorem c_sortedT {X : Cx} (hu : X.A.units + 64 < cLine) : CallR X (.builtin "sorted") (rSortDT X.K) := by
  intro pins s σ H xs us Q I r h
  obtain ⟨p, ds, vs, rfl, hs, hl, hd, ⟨h1, h2, h3⟩, q⟩ := h
  cases r with
  | cons r rr =>
    cases rr
    cases r
    obtain ⟨its, rv, ht, hz⟩ := I.tuple hs
    have hvl := rv.length
    obtain ⟨o, ho, hoc, _, hod⟩ := id ht
    refine Calls.call_function_entry PyProof.Rows.kind_sorted PyProof.Rows.plain_sorted PyProof.Rows.entry_sorted (PyProof.Rows.args_sorted1 _) ?_
    unfold Builtin.«sorted»
    refine wpAny_bind (m := checkCount "sorted" 1 1 _) (wpAny_pure ?_)
    refine wpAny_bind (wpAny_collect_seq (A := X.A.in1) p (T := "tuple") (.inr rfl) ho hoc hod (fun h' hk => ?_) (by rw [List.size_toArray]; omega))
    have I1 : Inv X pins σ H { s with heap := h' } := I.kept (t' := s.toks) hk
    have hat : (h'.push (seqObj "list" its.toArray 0)).get? h'.objs.size = some (seqObj "list" its.toArray 0) := Heap.get?_push_size _ rfl
    refine wpAny_bind (wpAny_newList ?_ (by rw [Array.length_toList, List.size_toArray]; omega))
    show wpAny _ _ _ _ _ { s with heap := h'.push (seqObj "list" its.toArray 0) }
    have I2 : Inv X pins σ H { s with heap := PySem.W.sortingHeap (h'.push (seqObj "list" its.toArray 0)) h'.objs.size its } := I1.kept (t' := s.toks) fun b u e => PySem.W.sortingHeap_old (Nat.ne_of_lt (Heap.lt_size e)) (Heap.get?_push_of_some _ e)
    obtain ⟨e1, e2⟩ := each_zip I2 hl rv hd
    have em : (ds.zip vs).map (fun b => b.1.py) = ds.map D.py := by
      rw [← zip_map1 hl, List.map_map, zip_map1 hl]
      rfl
    have ez : (ds.zip vs).length = ds.length := by rw [List.length_zip]; omega
    have S := PySem.W.SortsAt.data (prog := X.prog) (w := X.w) (A := X.A.in1.in1) (s := { s with heap := PySem.W.sortingHeap (h'.push (seqObj "list" its.toArray 0)) h'.objs.size its }) (ds := (ds.zip vs).map fun b => b.1.py)
      (PySem.W.each_map (R := fun v d => ∃ as, Reads (PySem.W.sortingHeap (h'.push (seqObj "list" its.toArray 0)) h'.objs.size its) v d as) (fun b : D × V => b.1.py) e2) (by rw [em]; exact h1) (by rw [em]; exact h2) (fun d hd => by
        rw [em] at hd
        obtain ⟨d0, hm, rfl⟩ := List.mem_map.mp hd
        have := (plain_lay 20 d0 (plains_mem h3 hm)).2
        show X.A.units + 1 + 1 + d0.py.depth < cLine
        omega)
    refine wpAny_bind (wpAny_holding (wpAny_call_entry PyProof.Rows.slot_list_sort ⟨_, hat, rfl⟩ PyProof.Rows.entry_list_sort
      (PySem.W.list_sort_vals (s := { s with heap := h'.push (seqObj "list" its.toArray 0) }) hat S (by omega) ⟨_, rfl, ?_⟩) (PyProof.Rows.args_list_sort _)))
    have eo := PySem.W.sortVals_data (R := fun u (b : D × V) => RelV b.2 u) (enc := fun b : D × V => b.1.py) false e1 e2 (by rw [em]; exact h1)
    obtain ⟨cc, hc⟩ := PyProof.Rows.sortedHeap_at (out := (PySem.W.sortVals (PySem.W.dataKind (PySem.W.sortingHeap (h'.push (seqObj "list" its.toArray 0)) h'.objs.size its) ((ds.zip vs).map fun b => b.1.py)) false its its).toArray) hat
    refine wpAny_pure ⟨_, rfl, .ref h'.objs.size, _, I1.laid (t' := s.toks) (o := .lst (((ds.zip vs).mergeSort pairLe).map (·.2))) (fun b u e => ?_) (Nat.le_refl _) ?_, rfl, q _ (I1.hok.fresh (Nat.le_refl _))⟩
    · have hb : b < h'.objs.size := Heap.lt_size e
      rw [PyProof.Rows.sortedHeap_old (Nat.ne_of_lt hb) (by rw [size_push']; exact Nat.lt_succ_of_lt hb)]
      exact Heap.get?_push_of_some _ e
    · refine ⟨?_, _, cc, vals_each eo, hc⟩
      rw [List.length_map, List.length_mergeSort, ez, hl]
      exact hz
def sortedTS : Spc where
  run := fun ds k _ => ∃ xs, ds = [.tup xs] ∧ srtOk xs ∧ k (.lst ((sortD xs).map .fz))
  ce := 0
  ar := 1
theorem fv_sortedT {K : PySem.W.Frag} : FnV K (rSortDT K) sortedTS := by
  intro ds vs c F H k x Q hx i rd h fin
  obtain ⟨xs, rfl, h1, h2⟩ := h
  obtain ⟨v, ws, rfl, rv, rd⟩ := RpL.uncons rd
  obtain rfl := RpL.nil_inv rd
  obtain ⟨a, us, rfl, ha, rr⟩ := rf_tup.mp rv
  have hl := RpL.length rr
  refine ⟨a, xs, us, rfl, Same.seqT i.same ha, hl, DpAll_of h1.2.2 (rr.h i), h1, fun l hn => fin _ _ _ h2 (.newL ?_ hn)⟩
  have e : sortD xs = ((xs.zip us).mergeSort pairLe).map (·.1) := by
    unfold sortD
    conv => lhs; rw [← zip_map1 hl]
    exact (List.map_mergeSort (r := pairLe) (s := PySem.W.dataLe false D.py) (f := Prod.fst) (fun a _ b _ => rfl)).symm
  rw [e]
  exact rf_pairs fun p hp => zip_rf rr p ((List.mergeSort_perm _ _).mem_iff.mp hp)
theorem ds_par3 {X : Cx} {pos : Pos} {i j l : Nat} {n m o : Str} {ea eb ec : Expr} {xs : List SX} {px py pz pt : Pos} {kt k2 : Nat} {pt2 : Pos} (hc : X.calm = true) (hN : X.N.Nodup) (hi : X.N[i]? = some n) (hj : X.N[j]? = some m) (hl : X.N[l]? = some o) (hne : i ≠ j ∧ i ≠ l ∧ j ≠ l)
    (hx : X.env.scope.names.lookup n = some .local) (hy : X.env.scope.names.lookup m = some .local) (hz : X.env.scope.names.lookup o = some .local) (ha : DX X [ea, eb, ec] xs)
    (hw : swappedStores [.Tuple [.Name n px, .Name m py, .Name o pz] kt pt] (.Tuple [ea, eb, ec] k2 pt2) X.env = pure (some [n, m, o]))
    (hs : swapsWithSole [.Tuple [.Name n px, .Name m py, .Name o pz] kt pt] (.Tuple [ea, eb, ec] k2 pt2) pos.line X.env = pure false := by rfl) :
    DS X (.Assign [.Tuple [.Name n px, .Name m py, .Name o pz] kt pt] (.Tuple [ea, eb, ec] k2 pt2) pos) (.par [i, j, l] xs) := by
  refine (ps_par3 hc hN hi hj hl hne.1 hne.2.1 hne.2.2 hx hy hz ha hw hs).mono fun D σ H ⟨e, H0, F0, Γ, F, c, J, xo, ok, hcc, hw, fin⟩ => ?_
  have hw : wpS e (.par [i, j, l] xs) Γ J := hw
  rw [wpS] at hw
  rw [show costS (.par [i, j, l] xs) = costX xs by rw [costS]] at hcc fin
  refine ⟨e, H0, F0, Γ, F, c, [], _, xo, ok, hcc, hw, fun ts Γ1 F1 c1 vs H1 T1 q1 hc1 l1 ok1 r1 => ?_⟩
  obtain ⟨⟨q0, q2⟩, q3⟩ := q1
  have hlen : vs.length = 3 := by rw [← r1.length]; exact q0
  obtain ⟨u, v, w, rfl⟩ : ∃ u v w, vs = [u, v, w] := match vs, hlen with | [u, v, w], _ => ⟨u, v, w, rfl⟩
  exact ⟨u, v, w, rfl, fin.nx _ _ c1 _ _ q3 hc1 l1 (EOk.puts ok1 r1 q2 q0)⟩
end DL

/-! EF: repr of a name's tree that is only looked at. -/
namespace DL
open PySem PySem.Spec PyProof.Rows L2
section
variable {X : Cx} {es : List Expr} {u : Expr} {i : Nat}
theorem de_obr (hp : ∀ {t : TA}, PA X es t → PE X u (tCB (rRepr X.K) t)) (h : DOs X es [.var i]) : DE X u (.obr i) := by
  refine (hp h).mono fun σ H Q ⟨e, H0, F0, Γ, F, c, T, k, xo, ok, hc, hw, fin⟩ => ?_
  have hw : wpE e (.obr i) Γ k := hw
  rw [wpE] at hw
  have ec : costE (.obr i) = 2 := by rw [costE]
  rw [ec] at hc fin
  have ec2 : costL [.var i] = 2 := by rw [costL, costL, costE]
  cases q : Γ[i]? with
  | none => rw [q] at hw; exact hw.elim
  | some s =>
    cases s with
    | none => rw [q] at hw; exact hw.elim
    | some t =>
      rw [q] at hw
      have hw : biD .repr_ [t.toD] fun r => k r Γ := hw
      refine ⟨e, H0, F0, Γ, F, c, T, fun xs Γ1 => xs = [.late i] ∧ Γ1 = Γ, xo, ok, by rw [ec2]; exact hc, ?_, fun xs Γ1 F1 c1 vs H1 T1 q1 hc1 l1 ok1 r1 => ?_⟩
      · show wpOs e [.var i] Γ _
        rw [wpOs]
        show asO (some i) _ Γ _
        rw [asO_some, q]
        refine ⟨rfl, ?_⟩
        rw [wpOs]
        exact ⟨rfl, rfl⟩
      · obtain ⟨rfl, rfl⟩ := q1
        cases r1 with
        | cons ra rr =>
          cases rr
          rename_i P1 v
          have hr := ok1.ob ra (fun p hp => by simp [hp]) (show (Opd.late i).ob Γ1 = some t.toD by show Option.map OT.toD ((Γ1[i]?).join) = _; rw [q]; rfl)
          generalize t.toD = d at hw hr
          obtain ⟨g1, g2, g3, g4, g5⟩ := (show d.isSeq = true ∧ d.plain DEEP = true ∧ d.py.showable = true ∧ (shownD d).length ≤ LIM ∧ k (.fz (.str (shownD d))) Γ1 from hw)
          have hd := plain_dp _ _ _ g2 hr
          obtain ⟨p, rfl⟩ : ∃ p, v = V.ref p := by
            cases d <;> first | cases g1 | skip
            · rw [Rp] at hr; obtain ⟨a, vs, rfl, _⟩ := hr; exact ⟨a, rfl⟩
            · rw [Rp] at hr; obtain ⟨a, vs, rfl, _⟩ := hr; exact ⟨a, rfl⟩
          refine ⟨p, d.py, rfl, hd, g3, hasDicts_py _ _ g2, (plain_lay _ _ g2).2, Nat.le_trans g4 lim_line, ?_⟩
          exact fin _ Γ1 F1 c1 _ H1 [] g5 (by rw [ec2] at hc1; exact hc1) l1 ok1.none_left (.of_fz (by rw [Rf, Rp]; rfl))
end
end DL

/-! EG: min, max of a list of ints. -/
namespace DL
open PySem PySem.Spec PyProof.Rows L2
def minLS : Spc where
  run := fun ds k _ => ∃ xs ns, ds = [.lst xs] ∧ ints? xs = some ns ∧ 0 < ns.length ∧ ∀ m, m ∈ ns → (∀ y, y ∈ ns → m ≤ y) → k (.fz (.int m))
  ce := 0
  ar := 1
def maxLS : Spc where
  run := fun ds k _ => ∃ xs ns, ds = [.lst xs] ∧ ints? xs = some ns ∧ 0 < ns.length ∧ ∀ m, m ∈ ns → (∀ y, y ∈ ns → y ≤ m) → k (.fz (.int m))
  ce := 0
  ar := 1
theorem fv_minL {K : PySem.W.Frag} : FnV K (rMin K) minLS := by
  intro ds vs c F H k x Q hx i rd h fin
  obtain ⟨xs, ns, rfl, h1, h2, h3⟩ := h
  obtain ⟨v, ws, rfl, rv, rd⟩ := RpL.uncons rd
  obtain rfl := RpL.nil_inv rd
  rw [Rp] at rv
  obtain ⟨a, us, rfl, ha, rr⟩ := rv
  have e := ints_vs h1 rr
  subst e
  exact ⟨a, ns, rfl, .inl (.inl (i.same _ _ ha)), h2, fun m hm hy => fin _ _ H (h3 m hm hy) .int⟩
theorem fv_maxL {K : PySem.W.Frag} : FnV K (rMax K) maxLS := by
  intro ds vs c F H k x Q hx i rd h fin
  obtain ⟨xs, ns, rfl, h1, h2, h3⟩ := h
  obtain ⟨v, ws, rfl, rv, rd⟩ := RpL.uncons rd
  obtain rfl := RpL.nil_inv rd
  rw [Rp] at rv
  obtain ⟨a, us, rfl, ha, rr⟩ := rv
  have e := ints_vs h1 rr
  subst e
  exact ⟨a, ns, rfl, .inl (.inl (i.same _ _ ha)), h2, fun m hm hy => fin _ _ H (h3 m hm hy) .int⟩
end DL

/-! EH: list.insert, list.index; a method, an own def that only looks at what a name owns. -/
namespace DL
open PySem PySem.Spec PyProof.Rows L2
theorem mv_insert {K : PySem.W.Frag} : MtV K (fun x vs H Q => ∃ (l : Addr) (xs : List V) (i : Int) (y : V), x = .ref l ∧ vs = [.int i, y] ∧ H l = some (.lst xs) ∧ xs.length < sizeLine ∧ 0 ≤ i ∧ i < 2 ^ 63 ∧
    Q .non (upd H l (.lst (xs.take i.toNat ++ [y] ++ xs.drop i.toNat)))) .insert := by
  intro xs ds l xvs vs F H k Q i hl rx rd g fin
  unfold mcD at g
  split at g <;> first | exact g.elim | cases ‹Mc.insert = _› | skip
  rename_i n y
  obtain ⟨g1, g2, g3, g4⟩ := g
  obtain ⟨v, u, rfl, r1, r2⟩ := RfL.two rd
  have hx := RpL.length rx
  refine ⟨l, xvs, n, u, rfl, by rw [rf_int.mp r1], hl, by rw [← hx]; exact Nat.lt_of_lt_of_le g1 lim_line, g2, ?_, fin _ _ .non _ g4 (rf_non.mpr rfl) ?_⟩
  · have e : LIM = 1000000 := rfl
    omega
  · rw [List.append_assoc]
    exact (RpL.take _ rx).append (.cons r2 (RpL.drop _ rx))
/-- list.index(value) -/
def lindexS : Spc where
  run := fun ds k _ => ∃ (xs : List D) (y z : D) (j : Nat), ds = [.lst xs, y] ∧ y.flat = true ∧ xs.all D.flat = true ∧ xs[j]? = some z ∧ D.eqv z y = true ∧ (∀ (m : Nat) (z' : D), m < j → xs[m]? = some z' → D.eqv z' y = false) ∧ k (.fz (.int (j : Nat)))
  ce := 0
  ar := 2
/-- what a method makes of a tree that it only looks at -/
def MoV (K : PySem.W.Frag) (r : V → List V → Hp → VK → Prop) (S : Spc) : Prop := ∀ (d : D) (ds : List D) (v : V) (vs : List V) (c : Nat) (F : FH) (H : Hp) (k : OT → Prop) (x : Ex → Prop) (Q : VK), (∀ y, ¬ x y) → Ini c F H → Rp K H F d v → RfL K F ds vs → S.run (d :: ds) k x →
  (∀ t u H', k t → Res K F H t u H' → Q u H') → r v vs H Q
theorem mov_index {K : PySem.W.Frag} : MoV K (rIndex K) lindexS := by
  intro d ds v vs c F H k x Q hx i rv rd h fin
  obtain ⟨xs, y, z, j, e, hy, hxs, hj, hz, hno, hk⟩ := h
  cases e
  obtain ⟨u, rfl, ru⟩ := RfL.one rd
  rw [Rp] at rv
  obtain ⟨a, us, rfl, ha, rr⟩ := rv
  have ru' : Rp K H F y u := Rp.mono i.same (Le.refl F) _ _ ru
  obtain ⟨w, hw, rw_⟩ := RpL.get rr hj
  have hzf : z.flat = true := List.all_eq_true.mp hxs z (List.mem_of_getElem? hj)
  refine ⟨a, us, u, j, w, rfl, rfl, .inl (.inl ha), flat_v ru' hy, flats_v rr hxs, hw, by rw [eqv_v rw_ hzf ru' hy]; exact hz, fun m z' hm hz' => ?_, fin _ _ H hk .int⟩
  obtain ⟨d', h1, h2⟩ := RpL.get' rr hz'
  rw [eqv_v h2 (List.all_eq_true.mp hxs d' (List.mem_of_getElem? h1)) ru' hy]
  exact hno m d' hm h1
section
variable {X : Cx} {o e : Expr} {es : List Expr} {ss : List SE} {apos cpos : Pos} {name : Str} {id : String} {r : V → List V → Hp → VK → Prop} {S : Spc} {i : Nat}
theorem de_obm (pa : PlainAttrs "list") (slot : Slot "list" name id) (hty : typeOf (.builtin id) = pure (.type "method_descriptor")) (hm : MtR X id r) (hv : MoV X.K r S) (ho : PE X o (tVar i)) (ha : DA X (e :: es) ss)
    (hbase : attributeBase o name X.env (eval o X.env) = eval o X.env := by rfl)
    (hfew : ((backTo cpos (starEach (e :: es) X.env)).all (fun x => !x.1) && (backToKw cpos (keywordEach [] X.env)).all (fun x => x.1.isSome) && decide ((e :: es).length + ([] : List Keyword).length + (if ([] : List Keyword).isEmpty then 0 else 1) < 30)) = true := by rfl)
    (hline : (apos.endLine == cpos.line) = true := by rfl) (hs : starEach (e :: es) X.env = (false, eval e X.env) :: starEach es X.env := by rfl) (hplain : (backTo cpos (starEach es X.env)).any (·.1) = false := by rfl) :
    DE X (.Call (.Attribute o name apos) (e :: es) [] cpos) (.obm S i ss) := by
  refine (pe_bm pa slot hty hm ho ha hbase hfew hline hs hplain).mono fun σ H Q ⟨e, H0, F0, Γ, F, c, T, k, xo, ok, hc, hw, fin⟩ => ?_
  have hw : wpE e (.obm S i ss) Γ k := hw
  rw [wpE] at hw
  have hle : 2 ^ costL ss ≤ 2 ^ costE (.obm S i ss) := pmono (by rw [costE]; omega)
  obtain ⟨h1, hw⟩ := hw
  unfold lstO at h1
  split at h1
  · rename_i t q
    obtain ⟨v, hv1⟩ := ok.slot q
    have hr := ok.none_left (T1 := []) |>.ob (x := .late i) (T1 := []) (v := v) ⟨rfl, hv1⟩ (fun p hp => by cases hp) (show (Opd.late i).ob Γ = some t.toD by show Option.map OT.toD ((Γ[i]?).join) = _; rw [q]; rfl)
    have hty2 : tyV X.K "list" v H := by
      generalize t.toD = d at h1 hr
      cases d <;> first | (cases h1; done) | skip
      rw [Rp] at hr
      obtain ⟨a, vs, rfl, ha, _⟩ := hr
      exact .inl ⟨rfl, vs, .inl (.inl ha)⟩
    refine ⟨v, hv1, hty2, e, H0, F0, Γ, F, c, T, _, xo, ok, Nat.le_trans (Nat.add_le_add_left hle _) hc, hw, fun ds Γ1 F1 c1 vs H1 q1 hc1 l1 ok1 r1 => ?_⟩
    split at q1
    · rename_i t1 hq1
      have hr1 := ok1.ob (x := .late i) (T1 := []) (v := v) ⟨rfl, hv1⟩ (fun p hp => by cases hp) (show (Opd.late i).ob Γ1 = some t1.toD by show Option.map OT.toD ((Γ1[i]?).join) = _; rw [hq1]; rfl)
      refine hv _ ds v vs c1 F1 H1 _ _ Q (fun y => xo y Γ1) ok1.1.ini hr1 r1 q1 fun t' u H' hk res => ?_
      obtain ⟨F', T', l4, ok4, rt⟩ := res.fin ok1
      exact fin t' Γ1 F' c1 u H' T' hk (Nat.le_trans hc1 (Nat.add_le_add_left hle _)) (l1.trans l4) ok4 rt
    · exact q1.elim
  · cases h1
end
section
variable {X : Cx} {k n1 : Nat} {f : Addr} {fd : FuncData} {ps : List Str} {S : Spc} {n : Str} {p pos : Pos} {a : Expr} {es : List Expr} {ss : List SE} {i : Nat}
theorem de_callB (F : Cb X.prog X.w X.K X.mg X.base k n f fd ps S) (hr : Room k X.A) (hgd : X.A.guards = some []) (hg : Gl X n) (hns : PE X a (tVar i)) (ha : DA X es ss)
    (hdb : (n == ("__debug__" : Str)) = false := by decide) (he : starEach (a :: es) X.env = (false, eval a X.env) :: starEach es X.env := by rfl) (hpl : (backTo pos (starEach es X.env)).any (·.1) = false := by rfl) :
    DE X (.Call (.Name n p) (a :: es) [] pos) (.callB S i ss) := by
  refine (pe_callG F hr hgd hg (pa_cons hns ha he) hdb he hpl).mono fun σ H Q ⟨e, H0, F0, Γ, F, c, T, k, xo, ok, hc, hw, fin⟩ => ?_
  have hw : wpE e (.callB S i ss) Γ k := hw
  rw [wpE] at hw
  rw [show costE (.callB S i ss) = costL ss + S.ce + 6 by rw [costE]] at hc fin
  obtain ⟨h1, hw⟩ := hw
  have hb := le3 (costL ss) 0 S.ce
  rw [Nat.add_zero] at hb
  have hb2 : 2 ^ (costL ss + S.ce + 4) ≤ 2 ^ (costL ss + S.ce + 6) := pmono (by omega)
  generalize hA : 2 ^ costL ss = A at *
  generalize hB : 2 ^ S.ce = B at *
  generalize hM4 : 2 ^ (costL ss + S.ce + 4) = M4 at *
  generalize hM : 2 ^ (costL ss + S.ce + 6) = M at *
  generalize 2 ^ 0 = O1 at *
  obtain ⟨xs0, hx0⟩ := Option.isSome_iff_exists.mp h1
  obtain ⟨ws, hws⟩ := slots_vals ok hx0
  obtain ⟨v, rfl, hv⟩ : ∃ v, ws = [v] ∧ σ[i]? = some (some v) := by
    cases ws with
    | nil => simp at hws
    | cons v ws =>
      cases ws with
      | cons _ _ => simp at hws
      | nil =>
        rw [List.map_cons, List.map_cons, List.cons.injEq] at hws
        refine ⟨v, rfl, ?_⟩
        cases q : σ[i]? with
        | none => rw [q] at hws; cases hws.1
        | some s => rw [q] at hws; exact congrArg some hws.1
  refine ⟨v, hv, e, H0, F0, Γ, F, c, T, _, xo, ok, by omega, hw, fun ds Γ1 F1 c1 us H1 q1 hc1 l1 ok1 r1 => ?_⟩
  split at q1
  · rename_i t hq1
    obtain ⟨b, O, g, w⟩ := ok1
    have nd := w.nd
    have wB : Own H0 F1 H1 O := w.sub (List.sublist_append_left _ _)
    have l2 : Le F1 (adds F1 O) := adds_le fun z hz => (wB.at_ z hz).2.1
    have inB : ∀ z ∈ O, adds F1 O z.1 = some (.ho z.2) := fun z hz => adds_in wB.nd hz
    have rl := slots_frz g l2 inB (vs := [i]) (xs := [t.toD]) (ws := [v]) (by unfold slotsD; rw [hq1]; rfl) hws
    obtain ⟨v', e', rl⟩ := RfL.one rl
    cases e'
    refine ⟨t.toD :: ds, adds F1 O, c1, _, _, fun y => xo y Γ1, ⟨fun a f' ea => ?_, b.tab.le l2⟩, by rw [hB]; omega, .cons rl (r1.le l2), q1, fun t' F' c' v' H' T' q2 hc2 b2 w2 r2 => ?_⟩
    · rcases adds_some ea with ⟨o, ho, rfl⟩ | ea
      · exact (wB.at_ _ ho).1
      · exact (b.ini a f' ea).to rfl l2
    · rw [hB] at hc2
      split at q2
      · rename_i d
        obtain ⟨e0, r3⟩ := r2.fz_inv
        subst e0
        have out : ∀ a, a ∉ O.map (·.1) → adds F1 O a = F1 a := fun a h => adds_out h
        have nx := g.noext
        have lF : Le F1 (withC F1 F') := withC_le
        have outT : ∀ a, F1 a = none → a ∉ O.map (·.1) → H1 a ≠ none → H' a = H1 a ∧ withC F1 F' a = none := fun a e2 na e1 => by
          have := b2.old a (by rw [out a na]; exact e2) e1
          exact ⟨this.1, withC_none e2 fun φ z => by rw [this.2] at z; cases z⟩
        have ok2 : EOk X.K H0 F0 c' Γ1 (withC F1 F') σ H' ([] ++ T) := by
          refine ⟨⟨⟨withC_ini (l2.trans b2.le) b2.ini, b.le.trans lF, fun a a1 a2 => ?_⟩, b.tk⟩, O, g.le lF, ⟨w.nd, fun z hz => ?_⟩⟩
          · obtain ⟨e1, e2⟩ := b.old a a1 a2
            have na : a ∉ O.map (·.1) := fun hm => by
              obtain ⟨z, hz, rfl⟩ := List.mem_map.mp hm
              exact a2 (wB.at_ z hz).2.2
            obtain ⟨g1, g2⟩ := outT a e2 na (by rw [e1]; exact a2)
            exact ⟨g1.trans e1, g2⟩
          · have hz' : z ∈ O ∨ z ∈ T := by simpa using hz
            obtain ⟨e1, e2, e3⟩ := w.at_ z hz
            rcases hz' with hz1 | hz1
            · have hF := b2.le _ _ (inB z hz1)
              exact ⟨b2.ini.ho hF, withC_none e2 fun φ y => by rw [hF] at y; injection y with y; injection y with y; exact nx z hz1 φ y, e3⟩
            · have na : z.1 ∉ O.map (·.1) := fun hm => by
                have nd2 : (O ++ T).map (·.1) |>.Nodup := nd
                rw [List.map_append] at nd2
                exact (List.nodup_append.mp nd2).2.2 z.1 hm z.1 (List.mem_map.mpr ⟨z, hz1, rfl⟩) rfl
              obtain ⟨g1, g2⟩ := outT z.1 e2 na (by rw [e1]; simp)
              exact ⟨g1.trans e1, g2, e3⟩
        exact fin _ Γ1 (withC F1 F') c' v' H' [] q2.2 (by omega) (l1.trans lF) ok2 (.of_fz (flat_rf r3 q2.1))
      · exact q2.elim
  · exact q1.elim
end
end DL

/-! EI: dicts whose keys are ints and texts: {}, d[k], d[k] = v. -/
namespace DL
open PySem PySem.Spec PyProof.Rows L2
theorem kD_inj {a b : Key} (h : kD a = kD b) : a = b := by
  cases a <;> cases b <;> simp [kD] at h <;> rw [h]
theorem key_of {d : D} (h : d.isKey = true) : ∃ k : Key, d = kD k := by
  cases d <;> first | (cases h; done) | skip
  · exact ⟨.inl _, rfl⟩
  · exact ⟨.inr _, rfl⟩
theorem rf_key {K : PySem.W.Frag} {F : FH} {k : Key} {v : V} (h : Rf K F (kD k) v) : v = kV k := by
  cases k with
  | inl i => exact rf_int.mp h
  | inr x => exact rf_str.mp h
theorem rs_key {K : PySem.W.Frag} {H : Hp} {F : FH} {k : Key} {v : V} (h : RpS K H F (kD k) v) : v = kV k := by
  cases k with
  | inl i => exact rf_key (K := K) (F := F) (k := .inl i) h
  | inr x => exact rf_key (K := K) (F := F) (k := .inr x) h
theorem get_key {kk : List Key} {n : Nat} {k : Key} (h : (kk.map kD)[n]? = some (kD k)) : kk[n]? = some k := by
  rw [List.getElem?_map, Option.map_eq_some_iff] at h
  obtain ⟨k', h1, h2⟩ := h
  rw [h1, kD_inj h2]
theorem valV_zip : ∀ (kk : List Key) (us : List V) (n : Nat) (k : Key) (u : V), kk[n]? = some k → (∀ m, m < n → kk[m]? ≠ some k) → us[n]? = some u → valV (kk.zip us) k = some u
  | [], _, n, k, u, h, _, _ => by simp at h
  | _ :: _, [], n, k, u, _, _, h => by simp at h
  | k' :: kk, u' :: us, 0, k, u, h1, _, h2 => by
    simp at h1 h2
    subst h1 h2
    rw [List.zip_cons_cons, valV_pos rfl]
  | k' :: kk, u' :: us, n + 1, k, u, h1, hno, h2 => by
    have hne : ¬ k' = k := fun e => hno 0 (by omega) (by rw [e]; rfl)
    rw [List.zip_cons_cons, valV_neg hne]
    exact valV_zip kk us n k u (by simpa using h1) (fun m hm h => hno (m + 1) (by omega) (by simpa using h)) (by simpa using h2)
theorem put_new {kvs : List (Key × V)} {k : Key} {u : V} (h : ∀ kv ∈ kvs, kv.1 ≠ k) : putK kvs k u = kvs ++ [(k, u)] := by
  unfold putK
  rw [if_neg]
  rw [List.any_eq_true]
  rintro ⟨kv, h1, h2⟩
  exact h kv h1 (of_decide_eq_true h2)
theorem put_old {a b : List (Key × V)} {k : Key} {w u : V} (ha : ∀ kv ∈ a, kv.1 ≠ k) (hb : ∀ kv ∈ b, kv.1 ≠ k) : putK (a ++ (k, w) :: b) k u = a ++ (k, u) :: b := by
  have hid : ∀ l : List (Key × V), (∀ kv ∈ l, kv.1 ≠ k) → l.map (fun kv => if kv.1 = k then (kv.1, u) else kv) = l := by
    intro l
    induction l with
    | nil => intro _; rfl
    | cons x l ih =>
      intro h
      rw [List.map_cons, if_neg (h x List.mem_cons_self), ih fun kv hm => h kv (List.mem_cons_of_mem _ hm)]
  unfold putK
  rw [if_pos (by simp), List.map_append, List.map_cons, hid a ha, hid b hb]
  simp
section
variable {X : Cx} {a b o : Expr} {sa sb : SE} {pos : Pos} {i : Nat}
theorem de_dic0 : DE X (.Dict [] [] pos) .dic0 := by
  refine pe_dnewK.mono fun σ H Q ⟨e, H0, F0, Γ, F, c, T, k, xo, ok, hc, hw, fin⟩ => ?_
  have hw : wpE e .dic0 Γ k := hw
  rw [wpE] at hw
  intro p hp
  refine fin _ Γ F c _ _ [(p, .dK [])] hw (Nat.le_add_right _ _) (Le.refl F) (ok.new hp) ?_
  rw [RpT]
  exact ⟨p, [], .dK [], rfl, rfl, ⟨[], rfl, rfl, .inl (if_pos rfl)⟩, (by intro p u h; cases h), .nil⟩
theorem de_ixk (hu : X.A.units + 64 < cLine) (ha : DO X a sa) (hb : DO X b sb) (hs : NoSl b) : DE X (.Subscript a b pos) (.ixk sa sb) := by
  refine (pe_dget (by omega) ha hb hs).mono fun σ H Q ⟨e, H0, F0, Γ, F, c, T, k, xo, ok, hc, hw, fin⟩ => ?_
  have hw : wpE e (.ixk sa sb) Γ k := hw
  rw [wpE] at hw
  rw [show costE (.ixk sa sb) = costE sa + costE sb + 2 by rw [costE]] at hc fin
  refine ⟨e, H0, F0, Γ, F, c, T, _, xo, ok, bud2a hc, hw, fun ox Γ1 F1 c1 vx H1 T1 q1 hc1 l1 ok1 r1 => ⟨e, H0, F0, Γ1, F1, c1, T1 ++ T, _, xo, ok1, bud2b hc hc1, q1, fun oy Γ2 F2 c2 vy H2 T2 q2 hc2 l2 ok2 r2 => ?_⟩⟩
  obtain ⟨dx, ex, q2⟩ := osw_inv q2
  obtain ⟨dy, ey, q2⟩ := osw_inv q2
  have hx := ok2.fl (r1.le l2) (fun p hp => by simp [hp]) ex
  have hy := ok2.fl r2 (fun p hp => by simp [hp]) ey
  unfold ixkD at q2
  split at q2
  · rename_i ks vs _
    obtain ⟨n, d, h1, h2, h3, h4, h5⟩ := q2
    obtain ⟨key, rfl⟩ := key_of h1
    obtain ⟨p, us, rfl, ⟨kk, rfl, hl, rd⟩, hr⟩ := hx
    obtain rfl := rs_key hy
    obtain ⟨u, hu1, hu2⟩ := RpL.get hr h4
    refine ⟨p, u, rfl, .inl ⟨kk.zip us, key, rd, rfl, ?_⟩, ?_⟩
    · exact (valV_zip kk us n key u (get_key h2) (fun m hm h => h3 m hm (by rw [List.getElem?_map, h]; rfl)) hu1).symm
    · exact fin (.fz d) Γ2 F2 c2 u H2 [] h5 (bud2c hc1 hc2) (l1.trans l2) ok2.none_left.none_left (.of_fz hu2)
  · exact q2.elim
end
section
variable {K : PySem.W.Frag} {H0 H : Hp} {F0 F : FH} {c : Nat} {Γ : Env} {σ : L2.St} {T : Foot} {i : Nat}
theorem EOk.wrDic {ks vs : List D} (h : EOk K H0 F0 c Γ F σ H T) (e : Γ[i]? = some (some (.dic ks vs))) : ∃ (a : Addr) (us : List V) (kk : List Key), σ[i]? = some (some (.ref a)) ∧ H a = some (.dK (kk.zip us)) ∧ ks = kk.map kD ∧ kk.length = us.length ∧ RfL K F vs us ∧
    ∀ (kk' : List Key) us' vs', kk'.length = us'.length → RfL K F vs' us' → EOk K H0 F0 c (Γ.set i (some (.dic (kk'.map kD) vs'))) F σ (upd H a (.dK (kk'.zip us'))) T := by
  obtain ⟨v, P, hv, r, ok⟩ := h.take e
  have hi : i < Γ.length := (List.getElem?_eq_some_iff.mp e).1
  rw [RpT] at r
  obtain ⟨a, us, o, rfl, rfl, ⟨kk, e1, e2, rd⟩, hno, r1⟩ := r
  have eo : o = .dK (kk.zip us) := by
    rcases rd with rd | ⟨o', rd⟩
    · rw [show (fun b => if b = a then some o else none) a = some o from if_pos rfl] at rd; exact Option.some.inj rd
    · rw [show (fun b => if b = a then some o else none) a = some o from if_pos rfl] at rd; exact absurd (Option.some.inj rd) (hno _ _)
  subst eo
  have hst : H a = some (.dK (kk.zip us)) := by
    obtain ⟨b, O, g, w⟩ := ok
    exact (w.at_ (a, .dK (kk.zip us)) (List.mem_append_right _ (List.mem_append_left _ List.mem_cons_self))).1
  refine ⟨a, us, kk, hv, hst, e1, e2, r1, fun kk' us' vs' hl r' => ?_⟩
  have ok2 : EOk K H0 F0 c (Γ.set i none) F σ (upd H a (.dK (kk'.zip us'))) ([(a, .dK (kk'.zip us'))] ++ T) := EOk.wr (T1 := []) ok
  have rt : RpT K F [(a, .dK (kk'.zip us'))] (.dic (kk'.map kD) vs') (.ref a) := by
    rw [RpT]
    exact ⟨a, us', _, rfl, rfl, ⟨kk', rfl, hl, .inl (if_pos rfl)⟩, (by intro p u h; cases h), r'⟩
  have ok3 := ok2.store (i := i) rt (by simpa using hi)
  have hs : σ.set i (some (.ref a)) = σ := by
    obtain ⟨hl, q⟩ := List.getElem?_eq_some_iff.mp hv
    rw [← q]; exact List.set_getElem_self hl
  rw [List.set_set, hs] at ok3
  exact ok3
end
section
variable {X : Cx} {a b o : Expr} {sa sb : SE} {pos : Pos} {i : Nat}
theorem ds_setkey {p2 : Pos} (hu : X.A.units + 64 < cLine) (hv : DE X a sa) (ho : PE X o (tVar i)) (hj : DE X b sb) (hs : swapsWithSole [.Subscript o b p2] a pos.line X.env = pure false := by rfl) (hw : swappedStores [.Subscript o b p2] a X.env = pure none := by rfl)
    (h1 : (assignEach [.Subscript o b p2] X.env).map (·.2) = [assign (.Subscript o b p2) X.env] := by rfl)
    (hasg : ∀ v, assign (.Subscript o b p2) X.env v = (do let ov ← holding [v] (eval o X.env); let iv ← holding [v, ov] (eval b X.env); standAt p2; holding [v, ov, iv] (setItem ov iv v); release [v, ov, iv] []) := by intro _; rfl) :
    DS X (.Assign [.Subscript o b p2] a pos) (.setkey i sb sa) := by
  refine (ps_asg hv (pg_sub ho hj (set_dict (by omega)) hasg) hs hw h1).mono fun D σ H ⟨e, H0, F0, Γ, F, c, J, xo, ok, hc, hw, fin⟩ => ?_
  have hw : wpS e (.setkey i sb sa) Γ J := hw
  rw [wpS] at hw
  rw [show costS (.setkey i sb sa) = costE sa + costE sb + 2 by rw [costS]] at hc fin
  refine ⟨e, H0, F0, Γ, F, c, [], _, xo, ok, bud2a hc, hw, fun t Γ1 F1 c1 v H1 T1 q1 hc1 l1 ok1 r1 => ?_⟩
  obtain ⟨ok2, l2, g2⟩ := ok1.freeze
  have rv := RpT.frz l2 _ _ _ g2 r1
  obtain ⟨q1a, q1⟩ := q1
  obtain ⟨t0, ht0⟩ := Option.isSome_iff_exists.mp q1a
  have ht1 : Γ1[i]? = some (some t0) := by
    cases q : Γ1[i]? with
    | none => rw [q] at ht0; cases ht0
    | some s => rw [q] at ht0; exact congrArg some ht0
  obtain ⟨u0, hu0⟩ := ok2.slot ht1
  refine ⟨u0, hu0, e, H0, F0, Γ1, _, c1, [], _, xo, ok2, bud2b hc hc1, q1, fun tj Γ2 F2 c2 u H2 T2 q2 hc2 l3 ok3 r3 => ?_⟩
  split at q2
  · rename_i y ks vs hts
    have r4 := r3.fz_inv.2
    obtain ⟨hlim, hk, hput⟩ := q2
    obtain ⟨key, rfl⟩ := key_of hk
    obtain rfl := rf_key r4
    obtain ⟨a', us, kk, g1, g3, rfl, gl, g4, g5⟩ := ok3.none_left.wrDic hts
    rw [hu0] at g1
    cases g1
    have hz : (kk.zip us).length < sizeLine := by
      rw [List.length_zip, ← gl, Nat.min_self]
      rw [List.length_map] at hlim
      exact Nat.lt_of_lt_of_le hlim lim_line
    have rv2 := rv.le l3
    have mz : ∀ {kk : List Key} {us : List V}, (∀ d ∈ kk.map kD, d ≠ kD key) → ∀ kv ∈ kk.zip us, kv.1 ≠ key := fun {kk us} h kv hkv he => h (kD kv.1) (List.mem_map.mpr ⟨kv.1, (List.of_mem_zip hkv).1, rfl⟩) (by rw [he])
    rcases hput with ⟨hn, hK⟩ | ⟨ka, kb, va, vb, w, e1, e2, e3, e4, e5, hK⟩
    · have e : putK (kk.zip us) key v = (kk ++ [key]).zip (us ++ [v]) := by
        rw [put_new (mz hn), List.zip_append gl]
        rfl
      refine ⟨a', _, rfl, .inl ⟨kk.zip us, key, g3, rfl, hz, rfl⟩, ?_⟩
      rw [e]
      have := g5 (kk ++ [key]) (us ++ [v]) (vs ++ [t.toD]) (by simp [gl]) (g4.append (.cons rv2 .nil))
      rw [List.map_append] at this
      exact fin.nx _ F2 c2 σ _ hK (bud2c hc1 hc2) ((l1.trans l2).trans l3) this
    · subst e2
      obtain ⟨xa, xb, rfl, hxa, hxb⟩ := List.map_eq_append_iff.mp e1
      obtain ⟨x0, xc, rfl, hx0, hxc⟩ := List.map_eq_cons_iff.mp hxb
      obtain rfl := kD_inj hx0
      subst hxa hxc
      obtain ⟨ua, ub, rfl, ra, rb⟩ := RpL.split g4
      obtain ⟨uw, uc, rfl, rw_, rc⟩ := RpL.uncons rb
      have hla : xa.length = ua.length := by have := RpL.length ra; rw [List.length_map] at e3; omega
      have hlc : xc.length = uc.length := by simp only [List.length_append, List.length_cons] at gl; omega
      have ez : (xa ++ x0 :: xc).zip (ua ++ uw :: uc) = xa.zip ua ++ (x0, uw) :: xc.zip uc := by rw [List.zip_append hla]; rfl
      have ez2 : (xa ++ x0 :: xc).zip (ua ++ v :: uc) = xa.zip ua ++ (x0, v) :: xc.zip uc := by rw [List.zip_append hla]; rfl
      have e : putK ((xa ++ x0 :: xc).zip (ua ++ uw :: uc)) x0 v = (xa ++ x0 :: xc).zip (ua ++ v :: uc) := by
        rw [ez, ez2]
        exact put_old (mz e4) (mz e5)
      refine ⟨a', _, rfl, .inl ⟨_, x0, g3, rfl, hz, rfl⟩, ?_⟩
      rw [e]
      exact fin.nx _ F2 c2 σ _ hK (bud2c hc1 hc2) ((l1.trans l2).trans l3) (g5 _ _ _ (by simp; omega) (ra.append (.cons rv2 rc)))
  · exact q2.elim
end
theorem wpS_setkey {e : EX} {Γ : Env} {K : DEnds} {i : Nat} {j a : SE} : wpS e (.setkey i j a) Γ K = wpE e a Γ fun t Γ1 => ((Γ1[i]?).join).isSome = true ∧ wpE e j Γ1 fun tj Γ2 => match tj, Γ2[i]? with
    | .fz y, some (some (.dic ks vs)) => ks.length < LIM ∧ putD ks vs y t.toD fun ks' vs' => K.nx (Γ2.set i (some (.dic ks' vs')))
    | _, _ => False := by rw [wpS] <;> rfl
theorem ixk_dic (ks vs : List D) (y : D) (k : D → Prop) : ixkD (.dic ks vs) y k = ∃ (n : Nat) (d : D), y.isKey = true ∧ ks[n]? = some y ∧ (∀ m, m < n → ks[m]? ≠ some y) ∧ vs[n]? = some d ∧ k d := rfl
theorem isB_bl (a b : Bool) (k : Bool → Prop) : isBD (.bl a) (.bl b) k = k (decide (a = b)) := rfl
section
variable {K : PySem.W.Frag}
theorem cv_isB : CmV K (fun x y H Q => ∃ a b, x = .bl a ∧ y = .bl b ∧ Q (.bl (decide (a = b))) H) (cmpD .isB) := by
  intro x y vx vy F H k Q hx hy g fin
  have g : isBD x y k := g
  unfold isBD at g
  split at g
  · rw [Rp] at hx hy
    exact ⟨_, _, hx, hy, fin _ g⟩
  · exact g.elim
theorem cv_isntB : CmV K (fun x y H Q => ∃ a b, x = .bl a ∧ y = .bl b ∧ Q (.bl (!decide (a = b))) H) (cmpD .isntB) := by
  intro x y vx vy F H k Q hx hy g fin
  have g : isBD x y fun b => k (!b) := g
  unfold isBD at g
  split at g
  · rw [Rp] at hx hy
    exact ⟨_, _, hx, hy, fin _ g⟩
  · exact g.elim
end
section
variable {X : Cx} {a o e : Expr} {es : List Expr} {sa : SE} {ss : List SE} {pos apos cpos : Pos} {i n : Nat} {name : Str} {id : String} {r : V → List V → Hp → VK → Prop} {m : Mc}
/-- name[n].m(j), j a written text -/
theorem de_mcpS {kk k2 : Nat} {j : Str} {p1 p2 p3 : Pos} (pa : PlainAttrs "list") (slot : Slot "list" name id) (hty : typeOf (.builtin id) = pure (.type "method_descriptor")) (hm : MtR X id r) (hv : MtV X.K r m) (ho : PE X o (tVar i))
    (hbase : attributeBase (.Subscript o (.Constant (.int (n : Int)) kk p1) p2) name X.env (eval (.Subscript o (.Constant (.int (n : Int)) kk p1) p2) X.env) = eval (.Subscript o (.Constant (.int (n : Int)) kk p1) p2) X.env := by rfl)
    (hfew : ((backTo cpos (starEach [.Constant (.str j) k2 p3] X.env)).all (fun x => !x.1) && (backToKw cpos (keywordEach [] X.env)).all (fun x => x.1.isSome) && decide ([Expr.Constant (.str j) k2 p3].length + ([] : List Keyword).length + (if ([] : List Keyword).isEmpty then 0 else 1) < 30)) = true := by rfl)
    (hline : (apos.endLine == cpos.line) = true := by rfl) (hs : starEach [.Constant (.str j) k2 p3] X.env = (false, eval (.Constant (.str j) k2 p3) X.env) :: starEach [] X.env := by rfl) (hplain : (backTo cpos (starEach [] X.env)).any (·.1) = false := by rfl) :
    DE X (.Call (.Attribute (.Subscript o (.Constant (.int (n : Int)) kk p1) p2) name apos) [.Constant (.str j) k2 p3] [] cpos) (.mcp i n m [.cst (.str j)]) := by
  refine (pe_bm pa slot hty hm (pe_ix ix_list ho pe_int (fun _ _ => rfl)) (pa_cons pe_str pa_nil hs) hbase hfew hline hs hplain).mono fun σ H Q ⟨e, H0, F0, Γ, F, c, T, k, xo, ok, hc, hw, fin⟩ => ?_
  have hw : wpE e (.mcp i n m [.cst (.str j)]) Γ k := hw
  rw [wpE, wpA, wpE, wpA] at hw
  obtain ⟨h1, hw⟩ := hw
  split at hw
  · rename_i ts hts
    split at hw
    · rename_i us hus
      split at hw
      · rename_i xs hxs
        have ex := fzs_inv hxs
        subst ex
        have hi : i < Γ.length := (List.getElem?_eq_some_iff.mp hts).1
        obtain ⟨v0, P, hv0, rp, ok2⟩ := ok.take hts
        rw [RpT] at rp
        obtain ⟨l, vs0, P', rfl, rfl, rp⟩ := rp
        obtain ⟨A, B, C, w, rfl, f1, f2, f3⟩ := rp.focus hus
        rw [RpT] at f2
        obtain ⟨l1, ws, B', rfl, rfl, f2⟩ := f2
        obtain ⟨eb, f4⟩ := RpTL.fz_inv f2
        subst eb
        have at_ : ∀ p ∈ ((l, HO.lst vs0) :: (A ++ [(l1, HO.lst ws)] ++ C)) ++ T, H p.1 = some p.2 := fun p hp => by
          obtain ⟨b, O, g, ow⟩ := ok2
          exact (ow.at_ p (List.mem_append_right _ hp)).1
        have g1 : H l = some (.lst vs0) := at_ (l, .lst vs0) (by simp)
        have g2 : H l1 = some (.lst ws) := at_ (l1, .lst ws) (by simp)
        refine ⟨.ref l, hv0, l, vs0, (n : Int), .ref l1, rfl, rfl, .inl (.inl g1), atI_nat f1, .inl ⟨rfl, ws, .inl (.inl g2)⟩, ?_⟩
        refine hv xs [.str j] l1 ws [.str j] F H _ Q ok.1.ini.same g2 f4 (.cons (rf_str.mpr rfl) .nil) hw fun y ys v ws' hk ry rys => ?_
        have ok3 : EOk X.K H0 F0 c (Γ.set i none) F σ (upd H l1 (.lst ws')) (((l, .lst vs0) :: A) ++ (l1, .lst ws') :: (C ++ T)) := EOk.wr (T1 := (l, .lst vs0) :: A) (o := .lst ws) (by simpa using ok2)
        have ok4 := (show EOk X.K H0 F0 c (Γ.set i none) F σ (upd H l1 (.lst ws')) (((l, .lst vs0) :: (A ++ [(l1, .lst ws')] ++ C)) ++ T) by simpa using ok3).store (i := i) (t := .lst (ts.set n (.lst (ys.map .fz)))) (v := .ref l)
          (by rw [RpT]; exact ⟨l, vs0, _, rfl, rfl, f3 _ _ (.newL rys)⟩) (by simpa using hi)
        rw [List.set_set, set_self hv0] at ok4
        exact fin _ _ F c v _ [] hk (Nat.le_add_right _ _) (Le.refl F) ok4 (.of_fz ry)
      · exact hw.elim
    · exact hw.elim
  · exact hw.elim
end
end DL

/-! EJ: name[j], name[l] = .., .. -/
namespace DL
open PySem PySem.Spec PyProof.Rows L2
section
variable {X : Cx} {o o' a b : Expr} {i j l : Nat} {es : List Expr} {xs : List SX} {pos : Pos}
theorem ds_swp {k x1 : Nat} {p1 p2 p3 p4 : Pos} (hc : X.calm = true) (ho : PE X o (tVar i)) (ho' : PE X o' (tVar i)) (hj : PE X a (tVar j)) (hl : PE X b (tVar l)) (ha : DX X es xs) (hij : i ≠ j) (hil : i ≠ l)
    (hn : (assignEach [.Subscript o a p3, .Subscript o' b p4] X.env).length = 2 := by rfl)
    (hst : (assignEach [.Subscript o a p3, .Subscript o' b p4] X.env).findIdx? (·.1) = none := by rfl)
    (hs : swapsWithSole [.Tuple [.Subscript o a p3, .Subscript o' b p4] k p1] (.Tuple es x1 p2) pos.line X.env = pure false := by rfl) (hw : swappedStores [.Tuple [.Subscript o a p3, .Subscript o' b p4] k p1] (.Tuple es x1 p2) X.env = pure none := by rfl)
    (h1 : (assignEach [.Tuple [.Subscript o a p3, .Subscript o' b p4] k p1] X.env).map (·.2) = [assign (.Tuple [.Subscript o a p3, .Subscript o' b p4] k p1) X.env] := by rfl)
    (hg1 : ∀ v, assign (.Subscript o a p3) X.env v = (do let ov ← holding [v] (eval o X.env); let iv ← holding [v, ov] (eval a X.env); standAt p3; holding [v, ov, iv] (setItem ov iv v); release [v, ov, iv] []) := by intro _; rfl)
    (hg2 : ∀ v, assign (.Subscript o' b p4) X.env v = (do let ov ← holding [v] (eval o' X.env); let iv ← holding [v, ov] (eval b X.env); standAt p4; holding [v, ov, iv] (setItem ov iv v); release [v, ov, iv] []) := by intro _; rfl)
    (hc1 : (assignEach [.Subscript o a p3, .Subscript o' b p4] X.env).map (·.2) = assign (.Subscript o a p3) X.env :: (assignEach [.Subscript o' b p4] X.env).map (·.2) := by rfl)
    (hc2 : (assignEach [.Subscript o' b p4] X.env).map (·.2) = assign (.Subscript o' b p4) X.env :: (assignEach [] X.env).map (·.2) := by rfl) :
    DS X (.Assign [.Tuple [.Subscript o a p3, .Subscript o' b p4] k p1] (.Tuple es x1 p2) pos) (.swp i j l xs) := by
  refine (ps_asg (pe_tup ha) (pg_tup hc (pgs_cons (pg_sub ho hj set_list hg1) (pgs_cons (pg_sub ho' hl set_list hg2) pgs_nil hc2) hc1) hn hst) hs hw h1).mono fun D σ H ⟨e, H0, F0, Γ, F, c, J, xo, ok, hcc, hw, fin⟩ => ?_
  have hw : wpS e (.swp i j l xs) Γ J := hw
  rw [wpS] at hw
  rw [show costS (.swp i j l xs) = costX xs by rw [costS]] at hcc fin
  refine ⟨e, H0, F0, Γ, F, c, [], _, xo, ok, hcc, hw, fun ts Γ1 F1 c1 vs H1 T1 q1 hc1 l1 ok1 r1 => ?_⟩
  split at q1
  · rename_i t u us ia ib g1 g2 g3
    obtain ⟨ys, m, n, e1, hm, hn2, hK⟩ := q1
    have ey := fzs_inv e1
    subst ey
    have hlen : vs.length = 2 := by rw [← r1.len']; rfl
    obtain ⟨v, w, rfl⟩ : ∃ v w, vs = [v, w] := match vs, hlen with | [v, w], _ => ⟨v, w, rfl⟩
    refine ⟨Nat.le_trans (show [v, w].length ≤ 2 from Nat.le_refl 2) (Nat.le_trans (by decide) lim_line), fun p hp => ?_⟩
    have ok2 : EOk X.K H0 F0 c1 Γ1 F1 σ (upd H1 p (.tup [v, w])) ([(p, .tup [v, w])] ++ (T1 ++ [])) := ok1.new hp
    obtain ⟨ok3, l3, g3'⟩ := ok2.freeze
    obtain ⟨ok4, l4, g4⟩ := ok3.freeze
    have rl := RpTL.frz (l3.trans l4) _ _ _ (fun z hz => g4 z hz) r1
    obtain ⟨v', ws, e', rv, rl⟩ := RpL.uncons rl
    obtain ⟨w', ws', e'', rw_, _⟩ := RpL.uncons rl
    cases e'
    cases e''
    obtain ⟨a', xvs, s1, s2, s3, s4⟩ := ok4.wrSlot g1
    obtain ⟨u2, s5, s6⟩ := ok4.slotF g2
    obtain ⟨u3, s7, s8⟩ := ok4.slotF g3
    have hl := RpL.length s3
    refine ⟨p, [v, w], rfl, .inl (.inl upd_same), rfl, v, [w], rfl, .ref a', s1, u2, s5, a', xvs, ia, m, rfl, rf_int.mp s6, s2, by rw [← hl]; exact hm, w, [], rfl, .ref a', s1, u3, s7, a', xvs.set m v, ib, n, rfl, rf_int.mp s8, upd_same, by rw [List.length_set, ← hl]; exact hn2, rfl, ?_⟩
    have e2 : upd (upd (upd H1 p (.tup [v, w])) a' (.lst (xvs.set m v))) a' (.lst ((xvs.set m v).set n w)) = upd (upd H1 p (.tup [v, w])) a' (.lst ((xvs.set m v).set n w)) := by
      funext z
      by_cases hz : z = a'
      · subst hz; rw [upd_same, upd_same]
      · rw [upd_ne hz, upd_ne hz, upd_ne hz]
    rw [e2]
    exact fin.nx _ _ c1 σ _ hK hc1 ((l1.trans l3).trans l4) (s4 _ _ (RpL.set n (RpL.set m s3 rv) rw_))
  · exact q1.elim
end
end DL

/-! EK: a lambda of one parameter: made, called. -/
namespace DL
open PySem PySem.Spec PyProof.Rows L2 LamX NdefX

/-- a lambda's words, the cells it captured, its code object -/
structure LF where
  qual : Str
  params : Arguments
  body : Expr
  scope : Scope
  cl : List (Str × Addr)
  c : Addr
def LF.nf (G : LF) : NF := ⟨"<lambda>", G.qual, G.params, [], G.scope, G.cl, G.c⟩
def LamO (f : Addr) (G : LF) : HO := .ext fun h => ∃ pm ctv : Value, h.get? f = some (PySem.W.kla_obj "<lambda>" G.qual G.params G.body G.scope G.cl pm G.c ctv)
section
variable {X : Cx} {pins : List (Addr × Obj)} {σ : L2.St} {H : Hp} {s : Shared}
theorem inv_lam {G : LF} {o : Obj} {t' : Nat} {pm ctv : Value} (I : Inv X pins σ H s) (ho : o = PySem.W.kla_obj "<lambda>" G.qual G.params G.body G.scope G.cl pm G.c ctv) :
    Inv X pins σ (upd H s.heap.objs.size (LamO s.heap.objs.size G)) { s with heap := s.heap.push o, toks := t' } := by
  subst ho
  have e : (s.heap.push (PySem.W.kla_obj "<lambda>" G.qual G.params G.body G.scope G.cl pm G.c ctv)).get? s.heap.objs.size = some _ := Heap.get?_push_size _ rfl
  exact I.laid (fun b u q => Heap.get?_push_of_some _ q) (Nat.le_refl _) ⟨⟨pm, ctv, e⟩, ⟨_, e⟩, fun h1 h2 ⟨p, t, z⟩ st => ⟨p, t, st _ z⟩⟩
/-- how the table at P and the code objects stand behind the making -/
inductive Made (H : Hp) (P c' : Addr) (q : Str) (ps : Array Value) : Hp → Prop
  | old (pos : Pos) : H c' = some (CodeO c' q) → codeAmong pos ps.toList = some (.ref c') → Made H P c' q ps H
  | new (ps' : Array Value) : H c' = none → TriplesOk ps'.toList → (∀ (pos : Pos) (cv : Value), codeAmong pos ps'.toList = some cv → codeAmong pos ps.toList = some cv ∨ cv = .ref c') → Made H P c' q ps (upd (upd H P (.tbl ps')) c' (CodeO c' q))
theorem lam_made {c P : Addr} {ps : Array Value} {params : Arguments} {body : Expr} {scope : Scope} {pos : Pos} {E Q : Value → Shared → Prop} (I : Inv X pins σ H s) (TB : TabB X.base X.mg c P) (hcode : X.env.code = .ref c) (hP : H P = some (.tbl ps)) (ht : TriplesOk ps.toList)
    (ha : ∀ (pos : Pos) (cv : Value), codeAmong pos ps.toList = some cv → ∃ c', cv = .ref c' ∧ H c' = some (CodeO c' (X.env.qual ++ "<lambda>"))) (hdef : defaultsOf params X.env = ([], [])) (hfree : ∀ y ∈ scope.names, y.2 = .free → ∃ c, X.env.cells.lookup y.1 = some c)
    (h : ∀ (f c' : Addr) (H1 : Hp) (s' : Shared), Made H P c' (X.env.qual ++ "<lambda>") ps H1 → H1 f = none → Inv X pins σ (upd H1 f (LamO f ⟨X.env.qual ++ "<lambda>", params, body, scope, cloFrom X.env.cells scope.names [], c'⟩)) s' → Q (.ref f) s') :
    wpAny (model X.prog X.w) X.A (eval (.Lambda params body scope pos) X.env) Q E s := by
  refine PySem.W.kla_eval hdef ?_
  have bP := TB.bm.keeps I.bk; have hP' : s.heap.get? P = some { cls := .none, data := .fields ps } := I.hok P _ hP
  cases hc : codeAmong pos ps.toList with
  | some cv =>
    obtain ⟨c', e, hco⟩ := ha pos cv hc
    subst e
    refine PySem.W.kla_makeFunctionHit (c := c) (P := P) (ps := ps) (mg := X.mg) (closure_ok hfree) I.ok.glob (I.mod.glob.keeps I.bk) hcode (TB.code.keeps I.bk) hP' ht hc bP fun ctv h' tk hx hsz => ?_
    have I1 : Inv X pins σ H { s with heap := h', toks := tk } := I.kept hx
    exact h _ c' H _ (.old pos hco hc) (I1.hok.fresh (Nat.le_refl _)) (inv_lam (t' := tk) I1 rfl)
  | none =>
    refine PySem.W.kla_makeFunction (c := c) (P := P) (ps := ps) (mg := X.mg) (closure_ok hfree) I.ok.glob (I.mod.glob.keeps I.bk) hcode (TB.code.keeps I.bk) hP' ht hc TB.gP bP fun c' ctv h' tk hx hge hlt hrec htb => ?_
    obtain ⟨c2, oc, vs, t, e2, ⟨hoc, hd, hv⟩⟩ := hrec
    cases e2
    have eL : (ps ++ #[rawInt pos.line, rawInt pos.col, .ref c']).toList = ps.toList ++ [rawInt pos.line, rawInt pos.col, .ref c'] := by simp
    have I1 := inv_table (q := X.env.qual ++ "<lambda>") (t' := tk) (h' := h') (more := #[rawInt pos.line, rawInt pos.col, .ref c']) I hP (fun b o hb e => hx b o hb e) htb hge ⟨oc, vs, t, hoc, hd, hv⟩
    refine h _ c' _ _ (.new _ (I.hok.fresh hge) ?_ fun p' cv hcv => ?_) (I1.hok.fresh (Nat.le_refl _)) (inv_lam (t' := tk) I1 rfl)
    · rw [eL]; exact PySem.TriplesOk_snoc _ _ _ _ ht
    · rw [eL] at hcv; exact among_app _ ht hcv
/-- the lambda called, in the frames of the def that made it -/
theorem lam_call {A : Around} {G : LF} {N ps fr : List Str} {js : List Nat} {f : Addr} {v : V} {u : Value} {k : Nat} {tb : TE} {Q : VK} (I : Inv X pins σ H s) (hA : A.frames = X.A.frames) (hr : Room (k + 1) A) (hf : H f = some (LamO f G)) (hc : H G.c = some (CodeO G.c G.qual))
    (S : NScope N ps fr G.scope) (hps : ps.length = 1) (cp : Caps X G.cl fr js) (r : RelV v u) (hb : ∀ (pm ctv : Value), bindArgs (PySem.W.kla_fn "<lambda>" G.qual G.params G.body G.scope G.cl pm (.ref G.c) ctv) ⟨[u], []⟩ = pure (ps.zip [u]))
    (hbody : ∀ (B : Around) (outer : List PySem.Env) (s : Shared) (H : Hp), Room k (B.deeper (envF G.nf f s.heap.objs.size)) → PE (ncx CX0 X.prog X.w X.K X.mg X.base N G.nf f B outer s H E0) G.body tb)
    (hq : tb (startF N [v] (js.map (slotAt σ))) H Q) : wpAny (model X.prog X.w) A (call (.ref f) [u]) (EP X pins σ Q) (fun _ _ => False) s := by
  obtain ⟨⟨pm, ctv, of⟩, _, _⟩ := I.hok f _ hf
  have e0 : Env0 X.prog X.w X.K X.mg X.base A X.stack s H := ⟨hA.trans I.env0.frames, I.env0.mod, I.env0.bs, I.env0.bsz, I.env0.funs, I.env0.frf, I.hok, I.bare⟩
  have lim : s.heap.NoLimit := I.nolimit
  have rc : codeAny (model X.prog X.w) A (.call (.ref f) ⟨[u], []⟩) (CR CX0 X.stack X.prog X.w H s Q E0) s := by
    refine PySem.W.kla_callFunE hr.depth of rfl S.co S.gen rfl (codeO_at I.hok hc) ?_
    rw [hb pm ctv]
    refine wpAny_pure (wpAny_newFunctionEnv S.nocell (fun ⟨n, _⟩ hy => S.par n (List.of_mem_zip hy).1) (fun h1 hns hsb => ⟨lim.fresh _ hsb, ?_⟩) S.kind)
    show codeAny _ _ (.expr G.body (envF G.nf f s.heap.objs.size)) _ _
    have kp : ∀ b o, s.heap.get? b = some o → h1.get? b = some o := fun b o e => hsb.extBut b o (Nat.ne_of_lt (Heap.lt_size e)) (Heap.get?_push_of_some _ e)
    have J : Inv (ncx CX0 X.prog X.w X.K X.mg X.base N G.nf f A X.stack s H E0) [] (startF N [v] (js.map (slotAt σ))) H { s with heap := h1, toks := s.toks + (ps.zip [u]).length } :=
      inv_startN (F := G.nf) (us := [u]) S hr.hd e0 (by rw [hps]; rfl) (.cons r .nil) (cells_of I cp) hns kp
    refine PySem.W.kla_codeExpr (wpAny_mono ((hbody A X.stack s H (hr.deeper _)).run [] _ _ H Q J hq) (fun v' s' ⟨w', H', J', rv, q⟩ => ?_) fun e s' q => q)
    exact ⟨w', H', J'.os, J'.bare, J'.base, J'.hok, rv, q⟩
  refine wpAny_call (codeAny_mono rc fun r s' hq => ?_)
  cases r with
  | error e => exact hq
  | ok fl =>
    cases fl with
    | ret u => exact I.after hq
    | next => exact False.elim hq
    | brk => exact False.elim hq
    | cont => exact False.elim hq
end
end DL

/-! EL: list.sort by a key whose calls only lay new objects. -/
namespace DL
open PySem PySem.Spec PySem.Calls PyProof.Rows L2 PySem.W

/-- an own address of the running def's time, apart from all that is told of it -/
def FpS (X : Cx) (pins : List (Addr × Obj)) (b : Addr) : Prop := b ≠ X.env.locals ∧ b ∉ X.fs ∧ (b ∈ X.ex ∨ X.s_0.heap.objs.size ≤ b) ∧ (∀ x c, X.env.cells.lookup x = some c → c ≠ b) ∧ ∀ p ∈ X.pn ++ pins, p.1 ≠ b
theorem reads_all {X : Cx} {pins : List (Addr × Obj)} {σ : L2.St} {H : Hp} {s : Shared} (I : Inv X pins σ H s) : ∀ {kz : List PyData} {kvs : List V} {us : List Value}, Vals kvs us → DpAll X.K H kvs kz → EachIs (fun u k => ∃ as, Reads s.heap u k as) us kz
  | _, _, _, .nil, .nil => .nil
  | _, _, _, .cons r1 r2, .cons h1 h2 => .cons (Dp.reads I _ _ _ h1 r1) (reads_all I r2 h2)
theorem vals_snoc : ∀ {xs : List V} {us : List Value} {x : V} {u : Value}, Vals xs us → RelV x u → Vals (xs ++ [x]) (us ++ [u])
  | _, _, _, _, .nil, r => .cons r .nil
  | _, _, _, _, .cons a b, r => .cons a (vals_snoc b r)
section
variable {X : Cx} {pins : List (Addr × Obj)} {σ : L2.St} {A : Around} {a f kS : Addr} {kz : List PyData} {e1 : Nat} {J : Nat → Hp → List V → Prop} {P : PySem.Fin → Shared → Prop} {E : Value → Shared → Prop} {bs : List (D × V)} {k : D × V → PyData} {vs : List Value}
theorem pin2 {I1 I2 : Addr × Obj} {H : Hp} {s : Shared} (I : Inv X (I1 :: I2 :: pins) σ H s) : Inv X (I2 :: pins) σ H s := I.pins_of fun p hp => I.pin p (List.mem_append_right _ (List.mem_cons_of_mem _ hp))
/-- a list of ours, pinned, written anew -/
theorem pin_write {o o' : Obj} {h' : Heap} {H : Hp} {s : Shared} {b : Addr} {t' : Nat} (I : Inv X ((b, o) :: pins) σ H s) (fb : FpS X pins b) (hk : ∀ c u, c ≠ b → s.heap.get? c = some u → h'.get? c = some u) (hb : h'.get? b = some o') (hd : ∀ v, o'.data ≠ .cell v) :
    Inv X ((b, o') :: pins) σ H { s with heap := h', toks := t' } := by
  obtain ⟨q1, q2, q3, q4, q5⟩ := I.pin (b, o) (List.mem_append_right _ List.mem_cons_self)
  have I0 : Inv X pins σ H s := I.pins_of fun p hp => I.pin p (List.mem_append_right _ (List.mem_cons_of_mem _ hp))
  have I1 : Inv X pins σ H { s with heap := h', toks := t' } := I0.turnedL (ch := [b]) (fun c u hc e => hk c u (fun z => hc (by simp [z])) e) fun c hc => by
    obtain rfl : c = b := by simpa using hc
    exact ⟨q2, fb⟩
  refine I1.pins_of fun p hp => ?_
  rcases List.mem_cons.mp hp with rfl | hp
  · exact ⟨hb, q2, q3, q4, hd⟩
  · exact I1.pin p (List.mem_append_right _ hp)
theorem key_rest {H : Hp} {s : Shared} (I : Inv X ((kS, seqObj "list" #[] 0) :: (a, seqObj "list" #[] e1) :: pins) σ H s) (fk : FpS X ((a, seqObj "list" #[] e1) :: pins) kS) (fa : FpS X pins a) (hj : J 0 H []) (e : EachIs (fun u (b : D × V) => RelV b.2 u) vs bs)
    (hZ : vs.length ≤ sizeLine) (hal : AllAlike (bs.map k)) (hsk : Sortable (bs.map k)) (hu : ∀ d, d ∈ bs.map k → A.units + d.depth < cLine) (hka : kS ≠ a)
    (rd : ∀ H' kvs, J vs.length H' kvs → DpAll X.K H' kvs (bs.map k))
    (turn : ∀ (i : Nat) (v : Value) (b : D × V) (pins' : List (Addr × Obj)) (s' : Shared) (H' : Hp) (kvs : List V), vs[i]? = some v → bs[i]? = some b → RelV b.2 v → Inv X pins' σ H' s' → J i H' kvs →
      wpAny (model X.prog X.w) A (call (.ref f) [v]) (EP X pins' σ fun u H'' => J (i + 1) H'' (kvs ++ [u])) (fun _ _ => False) s')
    (done : ∀ (s' : Shared) (H' : Hp) (kvs : List V), J vs.length H' kvs → H' a = none → ∀ (h' : Heap) (tk : Nat), Inv X pins σ (upd H' a (.lst ((bs.mergeSort (dataLe false k)).map (·.2)))) { s' with heap := h', toks := tk } → P (.done (.ret .none)) { s' with heap := h', toks := tk }) :
    wpAny (model X.prog X.w) A (ksk_rest a (.ref f) false vs.toArray e1 (.ref kS)) P E s := by
  have el := e.length
  unfold ksk_rest
  refine wpAny_bind (wpAny_rule ?_)
  first
    | rw [List.forIn_toArray]
    | (rw [← Array.forIn_toList]; simp only [List.toList_toArray])
    | rw [← Array.forIn_toList]
  refine wpAny_bind (ksk_fold (fun i s' => ∃ (H' : Hp) (kA : Array Value) (c : Nat) (kvs : List V), Inv X ((kS, seqObj "list" kA c) :: (a, seqObj "list" #[] e1) :: pins) σ H' s' ∧ J i H' kvs ∧ Vals kvs kA.toList ∧ kA.size = i) vs 0 s ⟨H, #[], 0, [], I, hj, .nil, rfl⟩ (fun j x s' hx hI => ?_) fun s' hI => ?_)
  · obtain ⟨H', kA, c, kvs, I', hj', hv, hs⟩ := hI
    have hjl : j < vs.length := (List.getElem?_eq_some_iff.mp hx).1
    have hbj : bs[j]? = some bs[j] := List.getElem?_eq_getElem (by omega)
    have hrel : RelV bs[j].2 x := e.zip (x, bs[j]) (List.mem_of_getElem? (i := j) (by rw [List.getElem?_zip_eq_some]; exact ⟨hx, hbj⟩))
    rw [Nat.zero_add] at hj' hs
    refine wpAny_bind (wpAny_attempt (wpAny_mono (turn j x _ _ s' H' kvs hx hbj hrel I' hj') (fun v s2 he => ?_) fun _ _ hF => hF.elim))
    obtain ⟨u, H2, I2, ru, hj2⟩ := he
    try dsimp only
    obtain ⟨n1, n2, _⟩ := I2.pin (kS, seqObj "list" kA c) (List.mem_append_right _ List.mem_cons_self)
    have sb := Heap.SameBut.update s2.heap kS (Obj.mapSeq (·.push v))
    obtain ⟨c2, hc2⟩ : ∃ c2, (s2.heap.update kS (Obj.mapSeq (·.push v))).get? kS = some (seqObj "list" (kA.push v) c2) := ⟨_, get?_update_seq n1 (·.push v)⟩
    refine wpAny_bind (listUpdate_at n1 rfl ?_ (by omega) (by show (kA.push v).size ≤ _; rw [Array.size_push]; omega))
    refine wpAny_pure ⟨rfl, H2, kA.push v, c2, kvs ++ [u], ?_, by rw [Nat.zero_add]; exact hj2, ?_, by rw [Array.size_push]; omega⟩
    · exact pin_write (t' := s2.toks) I2 fk (fun b o hb q => (sb.2 b hb).trans q) hc2 (fun v z => by cases z)
    · rw [Array.toList_push]
      exact vals_snoc hv ru
  · obtain ⟨H', kA, c, kvs, I', hj', hv, hs⟩ := hI
    rw [Nat.zero_add] at hj' hs
    obtain ⟨n1, n2, n3, n4, n5⟩ := I'.pin (kS, seqObj "list" kA c) (List.mem_append_right _ List.mem_cons_self)
    obtain ⟨m1, m2, m3, m4, m5⟩ := I'.pin (a, seqObj "list" #[] e1) (List.mem_append_right _ (List.mem_cons_of_mem _ List.mem_cons_self))
    have hk := reads_all I' hv (rd H' kvs hj')
    obtain ⟨G, g1, g2⟩ := restrict s'.heap fun b => decide (b ≠ kS)
    have gk : ∀ b o, b ≠ kS → s'.heap.get? b = some o → G.get? b = some o := fun b o hb q => (g1 b (decide_eq_true hb)).trans q
    have gb : ∀ b o, G.get? b = some o → s'.heap.get? b = some o := fun b o q => by
      by_cases hb : b = kS
      · rw [g2 b (by rw [decide_eq_false_iff_not]; exact fun z => z hb)] at q; cases q
      · rw [← g1 b (decide_eq_true hb)]; exact q
    try dsimp only
    refine wpAny_bind (listItems_at n1 rfl ?_)
    refine keyH_end (κ := dataKind s'.heap (bs.map k)) (h₁ := G) (fun b o hb q => gb b o q) (g2 kS (by simp)) n1 m1 hka (SortsAt.data (s := s') hk hal hsk hu) hs hZ fun h' tk cc kp hD => ?_
    have eo := keyedOut_each (rev := false) (R := fun u (b : D × V) => RelV b.2 u) k ⟨s'.heap, kA.toList, hal, rfl, hk⟩ e
    refine done s' H' kvs hj' m2 h' tk ?_
    have hlen : ((bs.mergeSort (dataLe false k)).map (·.2)).length ≤ sizeLine := by
      rw [List.length_map, List.length_mergeSort]
      omega
    have I0 : Inv X pins σ H' s' := (pin2 I').pins_of fun p hp => I'.pin p (List.mem_append_right _ (List.mem_cons_of_mem _ (List.mem_cons_of_mem _ hp)))
    have kp2 : ∀ b o, b ≠ a → b ≠ kS → s'.heap.get? b = some o → h'.get? b = some o := fun b o h1 h2 q => kp b o h1 (gk b o h2 q)
    have fk' : FpOk X pins H' kS := ⟨n2, fk.1, fk.2.1, fk.2.2.1, fk.2.2.2.1, fun p hp => fk.2.2.2.2 p (by
      rcases List.mem_append.mp hp with z | z
      · exact List.mem_append_left _ z
      · exact List.mem_append_right _ (List.mem_cons_of_mem _ z))⟩
    have fa' : FpOk X pins H' a := ⟨m2, fa⟩
    have hch : ∀ b ∈ [a, kS], FpOk X pins H' b := fun b hb => by
      have hb' : b = a ∨ b = kS := by simpa using hb
      rcases hb' with rfl | rfl
      · exact fa'
      · exact fk'
    have nin : ∀ b, b ∉ [a, kS] → b ≠ a ∧ b ≠ kS := fun b hb => ⟨fun z => hb (by simp [z]), fun z => hb (by simp [z])⟩
    have I1 : Inv X pins σ H' { s' with heap := h', toks := tk } := I0.turnedL (ch := [a, kS]) (fun b o hb q => kp2 b o (nin b hb).1 (nin b hb).2 q) hch
    refine Inv.step (s := { s' with heap := h', toks := tk }) (g' := s'.gens) (d' := s'.drawn) (t' := tk) (h' := h') (ch := [a]) I1 (fun b hb => ?_) (fun b o _ _ _ q _ => q) (fun b o _ _ _ q _ => ⟨o.slots, q⟩) (fun b o hb _ n => by rw [upd_ne (fun z => hb (by simp [z]))]; exact n) (fun b o _ q => ⟨o, q⟩)
      (fun b xs q => by rw [upd_ne (fun z => by subst z; rw [m2] at q; cases q)]; exact q) (fun b o u q => by rw [upd_ne (fun z => by subst z; rw [m2] at q; cases q)]; exact q) (fun b ps q => ⟨#[], by rw [upd_ne (fun z => by subst z; rw [m2] at q; cases q), Array.append_empty]; exact q⟩) (fun m q => q) (fun b u q => ?_) I1.bare
    · obtain rfl : b = a := by simpa using hb
      exact ⟨fa.2.2.1, fa.1, fa.2.2.2.1, fa.2.2.2.2⟩
    · by_cases hb : b = a
      · subst hb
        rw [upd_same] at q
        cases q
        exact ⟨hlen, _, cc, vals_each eo, hD⟩
      · rw [upd_ne hb] at q
        exact (I1.hok b u q).stay (fun _ _ _ z => z) (fun c z => by rw [upd_ne (fun y => by subst y; rw [m2] at z; cases z)]; exact z) fun c xs z => by rw [upd_ne (fun y => by subst y; rw [m2] at z; cases z)]; exact z
end
end DL

/-! EM: sorted(x, key=f), f a lambda made there; x a list or a range. -/
namespace DL
open PySem PySem.Spec PySem.Calls PyProof.Rows L2 PySem.W LamX NdefX

def RgO (r : Addr) (n : Int) : HO := .ext fun h => ∃ t u v : Tok, IsRange h r 0 n 1 t u v
section
variable {X : Cx} {pins : List (Addr × Obj)} {σ : L2.St} {A : Around} {a f : Addr} {J : Nat → Hp → List V → Prop} {bs : List (D × V)} {k : D × V → PyData} {vs : List Value} {H : Hp} {s : Shared}
theorem FpS.of (I : Inv X pins σ H s) {b : Addr} (hb : s.heap.objs.size ≤ b) : FpS X pins b := (I.fpOk hb (I.hok.fresh hb)).2
theorem key_tree {n : Nat} {P : PySem.Fin → Shared → Prop} {E : Value → Shared → Prop} (I : Inv X pins σ H s) (ho : s.heap.get? a = some (seqObj "list" vs.toArray n)) (ha : H a = none) (fa : FpS X pins a) (hj : J 0 H []) (e : EachIs (fun u (b : D × V) => RelV b.2 u) vs bs)
    (hZ : vs.length ≤ sizeLine) (hal : AllAlike (bs.map k)) (hsk : Sortable (bs.map k)) (hu : ∀ d, d ∈ bs.map k → A.units + d.depth < cLine)
    (rd : ∀ H' kvs, J vs.length H' kvs → DpAll X.K H' kvs (bs.map k))
    (turn : ∀ (i : Nat) (v : Value) (b : D × V) (pins' : List (Addr × Obj)) (s' : Shared) (H' : Hp) (kvs : List V), vs[i]? = some v → bs[i]? = some b → RelV b.2 v → Inv X pins' σ H' s' → J i H' kvs →
      wpAny (model X.prog X.w) A (call (.ref f) [v]) (EP X pins' σ fun u H'' => J (i + 1) H'' (kvs ++ [u])) (fun _ _ => False) s')
    (done : ∀ (s' : Shared) (H' : Hp) (kvs : List V), J vs.length H' kvs → H' a = none → ∀ (h' : Heap) (tk : Nat), Inv X pins σ (upd H' a (.lst ((bs.mergeSort (dataLe false k)).map (·.2)))) { s' with heap := h', toks := tk } → P (.done (.ret .none)) { s' with heap := h', toks := tk }) :
    wpAny (model X.prog X.w) A (ksk_tree a (.ref f) false) P E s := by
  have hlt : a < s.heap.objs.size := Heap.lt_size ho
  have Ip : Inv X ((a, seqObj "list" vs.toArray n) :: pins) σ H s := I.pins_of fun p hp => by
    rcases List.mem_cons.mp hp with rfl | hp
    · exact ⟨ho, ha, fa.1, fa.2.1, fun v z => by cases z⟩
    · exact I.pin p (List.mem_append_right _ hp)
  obtain ⟨e1, ho1⟩ : ∃ e1, (s.heap.update a (Obj.mapSeq fun _ => (#[] : Array Value))).get? a = some (seqObj "list" #[] e1) := ⟨_, get?_update_seq ho fun _ => #[]⟩
  have sb := Heap.SameBut.update s.heap a (Obj.mapSeq fun _ => (#[] : Array Value))
  have I1 : Inv X ((a, seqObj "list" #[] e1) :: pins) σ H { s with heap := s.heap.update a (Obj.mapSeq fun _ => (#[] : Array Value)) } := pin_write (t' := s.toks) Ip fa (fun b o hb q => (sb.2 b hb).trans q) ho1 (fun v z => by cases z)
  unfold ksk_tree
  refine wpAny_bind (listItems_at ho rfl (wpAny_bind (listUpdate_at ho rfl (wpAny_bind (seqEpoch_at ho1 rfl (wpAny_bind (wpAny_newTuple (wpAny_bind (wpAny_newList (wpAny_holding ?_) (Nat.zero_le _))) (by show vs.length ≤ _; exact hZ))))) (by rw [List.size_toArray]; exact hZ) (Nat.zero_le _))))
  have I2 : Inv X ((a, seqObj "list" #[] e1) :: pins) σ H { s with heap := ((s.heap.update a (Obj.mapSeq fun _ => (#[] : Array Value))).push (seqObj "tuple" vs.toArray 0)) } := I1.kept (t' := s.toks) fun b o q => Heap.get?_push_of_some _ q
  have hk := Heap.get?_push_size ((s.heap.update a (Obj.mapSeq fun _ => (#[] : Array Value))).push (seqObj "tuple" vs.toArray 0)) (o := seqObj "list" #[] 0) rfl
  have fk := FpS.of I2 (Nat.le_refl _)
  have hn := I2.hok.fresh (Nat.le_refl _)
  have I3 : Inv X ((a, seqObj "list" #[] e1) :: pins) σ H { s with heap := ((s.heap.update a (Obj.mapSeq fun _ => (#[] : Array Value))).push (seqObj "tuple" vs.toArray 0)).push (seqObj "list" #[] 0) } := I2.kept (t' := s.toks) fun b o q => Heap.get?_push_of_some _ q
  have I4 : Inv X ((((s.heap.update a (Obj.mapSeq fun _ => (#[] : Array Value))).push (seqObj "tuple" vs.toArray 0)).objs.size, seqObj "list" #[] 0) :: (a, seqObj "list" #[] e1) :: pins) σ H { s with heap := ((s.heap.update a (Obj.mapSeq fun _ => (#[] : Array Value))).push (seqObj "tuple" vs.toArray 0)).push (seqObj "list" #[] 0) } := I3.pins_of fun p hp => by
    rcases List.mem_cons.mp hp with rfl | hp
    · exact ⟨hk, hn, fk.1, fk.2.1, fun v z => by cases z⟩
    · exact I3.pin p (List.mem_append_right _ hp)
  refine key_rest I4 fk fa hj e hZ hal hsk hu (fun z => ?_) rd turn done
  have := (I2.pin (a, seqObj "list" #[] e1) (List.mem_append_right _ List.mem_cons_self)).1
  exact Nat.lt_irrefl _ (Nat.lt_of_lt_of_eq (Heap.lt_size this) z)
theorem sorted_key {x : V} {xv : Value} {items : List V} {ds : List D} {Q : VK} (hc : X.calm = true) (I : Inv X pins σ H s) (rx : RelV x xv) (hx : (∃ p, x = .ref p ∧ SqL X.K H p items) ∨ (∃ r n, x = .ref r ∧ H r = some (RgO r n) ∧ RgOk 0 n ∧ items = rgV 0 n)) (hl : ds.length = items.length)
    (hal : AllAlike ((ds.zip items).map k)) (hsk : Sortable ((ds.zip items).map k)) (hd : ∀ d ∈ (ds.zip items).map k, d.depth ≤ 24) (hun : X.A.units + 64 < cLine) (hj : J 0 H []) (rd : ∀ H' kvs, J items.length H' kvs → DpAll X.K H' kvs ((ds.zip items).map k))
    (turn : ∀ (i : Nat) (v : Value) (b : D × V) (pins' : List (Addr × Obj)) (s' : Shared) (H' : Hp) (kvs : List V), (ds.zip items)[i]? = some b → RelV b.2 v → Inv X pins' σ H' s' → J i H' kvs →
      wpAny (model X.prog X.w) X.A.in1.in1 (call (.ref f) [v]) (EP X pins' σ fun u H'' => J (i + 1) H'' (kvs ++ [u])) (fun _ _ => False) s')
    (fin : ∀ (a : Addr) (H' : Hp) (kvs : List V), J items.length H' kvs → H' a = none → Q (.ref a) (upd H' a (.lst (((ds.zip items).mergeSort (dataLe false k)).map (·.2))))) :
    wpAny (model X.prog X.w) X.A (call (.builtin "sorted") [xv] [(Str.ofString "key", .ref f)]) (EP X pins σ Q) X.xe s := by
  have main : ∀ (h' : Heap) (tk : Nat) (its : List Value), (∀ b o, s.heap.get? b = some o → h'.get? b = some o) → Vals items its → its.length ≤ sizeLine →
      wpAny (model X.prog X.w) X.A.in1 (do let l ← newList its; let _ ← holding [l] (call (.builtin "list.sort") [l] [(Str.ofString "key", .ref f)]); ret l) (fun fn s' => ∃ v, fn = .done (.ret v) ∧ EP X pins σ Q v s') X.xe { s with heap := h', toks := tk } := by
    intro h' tk its hk rv hz
    have I1 : Inv X pins σ H { s with heap := h', toks := tk } := I.kept hk
    have hat : (h'.push (seqObj "list" its.toArray 0)).get? h'.objs.size = some (seqObj "list" its.toArray 0) := Heap.get?_push_size _ rfl
    have I2 : Inv X pins σ H { s with heap := h'.push (seqObj "list" its.toArray 0), toks := tk } := I1.kept fun b u e => Heap.get?_push_of_some _ e
    have ev : EachIs (fun u (b : D × V) => RelV b.2 u) its (ds.zip items) := by
      clear hal hsk hd hj rd turn fin hx hat I2
      revert ds its
      induction items with
      | nil => intro ds h its r hz; cases r; cases ds with
        | nil => exact .nil
        | cons _ _ => simp at h
      | cons i items ih => intro ds h its r hz; cases ds with
        | nil => simp at h
        | cons d ds => cases r with
          | cons r1 r2 => exact .cons r1 (ih (by simpa using h) _ r2 (by simp at hz; omega))
    have hvl := rv.length
    refine wpAny_bind (wpAny_newList ?_ hz)
    show wpAny _ _ _ _ _ { s with heap := h'.push (seqObj "list" its.toArray 0), toks := tk }
    refine wpAny_bind (wpAny_holding (wpAny_call_entry_kw PyProof.Rows.slot_list_sort ⟨_, hat, rfl⟩ PyProof.Rows.entry_list_sort ?_ (PyProof.Rows.ksk_l1 _ _)))
    rw [ksk_t1]
    refine key_tree (bs := ds.zip items) (J := J) (k := k) I2 hat (I1.hok.fresh (Nat.le_refl _)) (FpS.of I1 (Nat.le_refl _)) hj ev hz hal hsk (fun d hm => ?_) (fun H' kvs q => rd H' kvs (by rw [hvl]; exact q)) (fun i v b pins' s' H' kvs _ h2 h3 h4 h5 => turn i v b pins' s' H' kvs h2 h3 h4 h5) fun s' H' kvs q ha h2 tk2 I5 => ?_
    · have := hd d hm
      show X.A.units + 1 + 1 + d.depth < cLine
      omega
    · refine ⟨_, rfl, wpAny_pure ⟨_, rfl, .ref h'.objs.size, _, I5, rfl, fin _ H' kvs (by rw [← hvl] at q; exact q) ha⟩⟩
  refine call_function_entry_kw PyProof.Rows.kind_sorted PyProof.Rows.plain_sorted PyProof.Rows.entry_sorted (PyProof.Rows.ksk_s1 _ _) ?_
  unfold Builtin.«sorted»
  refine wpAny_bind (m := checkCount "sorted" 1 1 _) (wpAny_pure ?_)
  rcases hx with ⟨p, rfl, hs⟩ | ⟨r, n, rfl, hr, ok, rfl⟩
  · obtain rfl : xv = .ref p := rx
    obtain ⟨its, rv, pl, hz⟩ := I.list hs
    obtain ⟨o, ho, hoc, m, hod⟩ := id pl.isList
    have hvl := rv.length
    refine wpAny_bind (wpAny_collect_seq (A := X.A.in1) p (T := "list") (.inl rfl) ho hoc hod (fun h' hk => ?_) (by rw [List.size_toArray]; omega))
    rw [List.toList_toArray]
    exact main h' s.toks its hk rv (by omega)
  · obtain rfl : xv = .ref r := rx
    obtain ⟨⟨t, u, v, hR⟩, _, _⟩ := I.hok r _ hr
    obtain ⟨b1, b2, b3, b4, b5⟩ := ok
    refine wpAny_bind (L2.collect_range (A := X.A.in1) (n := (n - 0).toNat) (I.ok.hd hc) hR (small_one b1 b2 b3 b4) (rangeSize_nat 0 n) b5 fun h' tk acc hk hi => ?_)
    exact main h' tk acc.toList hk (vals_rg hi) (by rw [Array.length_toList, hi.1, sizeLine_eq]; omega)
end
end DL

/-! EN: sorted(x, key=lambda row: elt) over data. -/
namespace DL
open PySem PySem.Spec PySem.Calls PyProof.Rows L2 PySem.W LamX NdefX

/-- elt reads the item and the data behind -/
def srtkS (elt : SE) : Spc where
  run := fun ds k _ => ∃ (xs fr : List D) (kf : D → D), ds = .lst xs :: fr ∧ xs.length ≤ 1000 ∧ (∀ d ∈ xs, ∀ kk : D → Prop, kk (kf d) → wpE (fun _ _ => False) elt ((d :: fr).map fun d => some (.fz d)) fun t _ => kk t.toD) ∧ srtOk (xs.map kf) ∧
    k (.lst ((xs.mergeSort (dataLe false fun d => (kf d).py)).map .fz))
  ce := costE elt + 12
  ar := 0
def freeB (sc scope : Scope) : Bool := scope.names.all fun y => !decide (y.2 = .free) || (decide (sc.names.lookup y.1 = some .cell) || decide (sc.names.lookup y.1 = some .free))
theorem freeOk_by {sc scope : Scope} (h : freeB sc scope = true) : ∀ y ∈ scope.names, y.2 = .free → sc.names.lookup y.1 = some .cell ∨ sc.names.lookup y.1 = some .free := fun y hy e => by
  have := List.all_eq_true.mp h y hy
  simpa [e] using this
def frB (fr : List Str) (scope : Scope) : Bool := fr.all fun y => decide ((y, NameKind.free) ∈ scope.names)
theorem frOk_by {fr : List Str} {scope : Scope} (h : frB fr scope = true) : ∀ y ∈ fr, (y, NameKind.free) ∈ scope.names := fun y hy => by
  simpa using List.all_eq_true.mp h y hy
def tLam (X : Cx) (P : Addr) (params : Arguments) (body : Expr) (scope : Scope) : TE := fun σ H Q => ∃ ps, H P = some (.tbl ps) ∧ TriplesOk ps.toList ∧ (∀ (pos : Pos) (cv : Value), codeAmong pos ps.toList = some cv → ∃ c', cv = .ref c' ∧ H c' = some (CodeO c' (X.env.qual ++ "<lambda>"))) ∧
  ∀ f c' H1, Made H P c' (X.env.qual ++ "<lambda>") ps H1 → H1 f = none → Q (.ref f) (upd H1 f (LamO f ⟨X.env.qual ++ "<lambda>", params, body, scope, cloFrom X.env.cells scope.names [], c'⟩))
section
variable {X : Cx}
theorem pe_lam {c P : Addr} {params : Arguments} {body : Expr} {scope : Scope} {pos : Pos} (TB : TabB X.base X.mg c P) (hcode : X.env.code = .ref c) (hdef : defaultsOf params X.env = ([], [])) (hfree : ∀ y ∈ scope.names, y.2 = .free → X.env.scope.names.lookup y.1 = some .cell ∨ X.env.scope.names.lookup y.1 = some .free) :
    PE X (.Lambda params body scope pos) (tLam X P params body scope) := by
  refine ⟨fun pins s σ H Q I ⟨ps, h1, h2, h3, h4⟩ => ?_⟩
  have hf : ∀ y ∈ scope.names, y.2 = .free → ∃ c, X.env.cells.lookup y.1 = some c := fun y hy e => (hfree y hy e).elim (fun z => I.ok.has _ (.inl z)) fun z => I.ok.has _ (.inr z)
  exact lam_made I TB hcode h1 h2 h3 hdef hf fun f c' H1 s' m n I' => ⟨.ref f, _, I', rfl, h4 f c' H1 m n⟩
/-- what is asked once the argument and the lambda are there -/
def SK (X : Cx) (N : List Str) (js : List Nat) (tb : TE) (σ : L2.St) (x : V) (f : Addr) (G : LF) (H : Hp) (Q : VK) : Prop :=
  ∃ (items : List V) (ds : List D) (k : D × V → PyData) (J : Nat → Hp → List V → Prop), ((∃ p, x = .ref p ∧ SqL X.K H p items) ∨ (∃ r n, x = .ref r ∧ H r = some (RgO r n) ∧ RgOk 0 n ∧ items = rgV 0 n)) ∧ ds.length = items.length ∧ AllAlike ((ds.zip items).map k) ∧ Sortable ((ds.zip items).map k) ∧
    (∀ d ∈ (ds.zip items).map k, d.depth ≤ 24) ∧ J 0 H [] ∧ (∀ H' kvs, J items.length H' kvs → DpAll X.K H' kvs ((ds.zip items).map k)) ∧
    (∀ (i : Nat) (b : D × V) (H' : Hp) (kvs : List V), (ds.zip items)[i]? = some b → J i H' kvs → H' f = some (LamO f G) ∧ H' G.c = some (CodeO G.c G.qual) ∧ tb (startF N [b.2] (js.map (NdefX.slotAt σ))) H' fun u H'' => J (i + 1) H'' (kvs ++ [u])) ∧
    ∀ (a : Addr) (H' : Hp) (kvs : List V), J items.length H' kvs → H' a = none → Q (.ref a) (upd H' a (.lst (((ds.zip items).mergeSort (dataLe false k)).map (·.2))))
theorem pe_sortk {c P : Addr} {params : Arguments} {body a : Expr} {scope : Scope} {lpos p pos kp : Pos} {N ps fr : List Str} {js : List Nat} {tb : TE} {t : TA} (hc : X.calm = true) (hr : Room 3 X.A) (hg : Gl X "sorted") (hm : X.mg "sorted" = none) (ha : PA X [a] t)
    (TB : TabB X.base X.mg c P) (hcode : X.env.code = .ref c) (hdef : defaultsOf params X.env = ([], [])) (hfree : ∀ y ∈ scope.names, y.2 = .free → X.env.scope.names.lookup y.1 = some .cell ∨ X.env.scope.names.lookup y.1 = some .free)
    (S : NScope N ps fr scope) (hps : ps.length = 1) (hfr : ∀ y ∈ fr, (y, NameKind.free) ∈ scope.names) (hjs : js.map (fun j => X.N[j]?) = fr.map some)
    (hb : ∀ (q : Str) (cl : List (Str × Addr)) (pm cv ctv u : Value), bindArgs (PySem.W.kla_fn "<lambda>" q params body scope cl pm cv ctv) ⟨[u], []⟩ = pure (ps.zip [u]))
    (hbody : ∀ (G : LF) (f : Addr) (B : Around) (outer : List PySem.Env) (s : Shared) (H : Hp), G.scope = scope → Room 0 (B.deeper (envF G.nf f s.heap.objs.size)) → PE (ncx CX0 X.prog X.w X.K X.mg X.base N G.nf f B outer s H E0) body tb)
    (he : backTo pos (starEach [a] X.env) = (false, eval a X.env) :: backTo pos (starEach [] X.env) := by rfl) (hpl : (backTo pos (starEach [a] X.env)).any (·.1) = false := by rfl)
    (hall : (backToKw pos (keywordEach [⟨some "key", .Lambda params body scope lpos, kp⟩] X.env)).all (·.1.isSome) = true := by rfl) (hnone : (backToKw pos (keywordEach [⟨some "key", .Lambda params body scope lpos, kp⟩] X.env)).any (·.1.isNone) = false := by rfl)
    (hks : (backToKw pos (keywordEach [⟨some "key", .Lambda params body scope lpos, kp⟩] X.env)).filterMap (·.1) = [Str.ofString "key"] := by rfl) :
    PE X (.Call (.Name "sorted" p) [a] [⟨some "key", .Lambda params body scope lpos, kp⟩] pos) (fun σ H Q => t σ H fun vs H1 => ∃ x, vs = [x] ∧ tLam X P params body scope σ H1 fun fv H2 => ∃ f c', fv = .ref f ∧ SK X N js tb σ x f ⟨X.env.qual ++ "<lambda>", params, body, scope, cloFrom X.env.cells scope.names [], c'⟩ H2 Q) := by
  refine ⟨fun pins s σ H Q I h => ?_⟩
  refine wpAny_Call_Name_kw (ld_blt I hg hm PyProof.Rows.boot_sorted ?_ (by decide) (by decide))
  have pk : PK X [⟨some "key", .Lambda params body scope lpos, kp⟩] _ := pk_cons (pe_lam (pos := lpos) TB hcode hdef hfree) pk_nil
  refine PyProof.Rows.callWith_kw (thn (ha.run pos pins s σ H _ I h) fun us s1 ⟨vs, H1, I1, r1, ⟨x, ex, q1⟩⟩ => ?_) he hpl hall hnone
  subst ex
  refine thn (pk.run pos pins s1 σ H1 (fun zs H2 => ∃ f c', zs = [.ref f] ∧ SK X N js tb σ x f ⟨X.env.qual ++ "<lambda>", params, body, scope, cloFrom X.env.cells scope.names [], c'⟩ H2 Q) I1 ?_) fun ws s2 ⟨zs, H2, I2, r2, q2⟩ => ?_
  · obtain ⟨ps, h1, h2, h3, h4⟩ := q1
    refine ⟨ps, h1, h2, h3, fun f c' H3 m n => ?_⟩
    obtain ⟨f', c2, e, sk⟩ := h4 f c' H3 m n
    cases e
    exact ⟨f, c2, rfl, sk⟩
  · obtain ⟨f, c', ez, items, ds, k, J, k1, k2, k3, k4, k5, k6, k7, k8, k9⟩ := q2
    subst ez
    rw [hks]
    obtain ⟨xv, e1, rx1⟩ := vals1 r1
    obtain ⟨fv, e2, rx2⟩ := vals1 r2
    subst e1 e2
    obtain rfl : fv = Value.ref f := rx2
    show wpAny _ _ (call (.builtin "sorted") [xv] [(Str.ofString "key", .ref f)]) _ _ _
    have hr1 : Room 1 X.A.in1.in1 := hr.in1.in1
    have hr0 : X.A.units + 64 < cLine := hr.units
    refine sorted_key hc I2 rx1 k1 k2 k3 k4 k5 hr0 k6 k7 (fun i v b pins' s' H' kvs g1 g2 g3 g4 => ?_) k9
    obtain ⟨m1, m2, m3⟩ := k8 i b H' kvs g1 g4
    exact lam_call (k := 0) g3 rfl hr1 m1 m2 S hps (Caps.made g3.ok hfree hfr hjs) g2 (fun pm ctv => hb _ _ _ _ _ _) (fun B outer s H hr => hbody _ f B outer s H rfl hr) m3
end
/-! the state behind the making -/
theorem EOk.made {K : PySem.W.Frag} {H0 H H1 : Hp} {F0 F : FH} {c : Nat} {Γ : DL.Env} {σ : L2.St} {T : Foot} {P c' : Addr} {q : Str} {ps : Array Value} (ok : EOk K H0 F0 c Γ F σ H T) (hF : F P = some (.tab q)) (hH : H P = some (.tbl ps)) (hT : TabF F q ps) (m : Made H P c' q ps H1) :
    ∃ F1, Le F F1 ∧ EOk K H0 F0 c Γ F1 σ H1 T ∧ F1 c' = some (.ho (CodeO c' q)) := by
  cases m with
  | old pos hc hm =>
    obtain ⟨c2, e, h⟩ := hT.2 pos _ hm
    cases e
    exact ⟨F, Le.refl F, ok, h⟩
  | new ps' hc ht hm =>
    obtain ⟨b, O, g, w⟩ := ok
    have fc : F c' = none := b.ini.none hc
    have hPc : P ≠ c' := fun z => by rw [z, hc] at hH; cases hH
    let F1 : FH := fun x => if x = c' then some (.ho (CodeO c' q)) else F x
    have f1 : F1 c' = some (.ho (CodeO c' q)) := if_pos rfl
    have f2 : ∀ x, x ≠ c' → F1 x = F x := fun x hx => if_neg hx
    have l : Le F F1 := fun x f e => by rw [f2 x (fun z => by rw [z, fc] at e; cases e)]; exact e
    have h2 : ∀ x, x ≠ c' → x ≠ P → upd (upd H P (.tbl ps')) c' (CodeO c' q) x = H x := fun x n1 n2 => by rw [upd_ne n1, upd_ne n2]
    have hT1 : TabF F1 q ps' := ⟨ht, fun pos cv hcv => by
      rcases hm pos cv hcv with z | z
      · obtain ⟨c3, e1, e2⟩ := hT.2 pos cv z
        exact ⟨c3, e1, l _ _ e2⟩
      · exact ⟨c', z, f1⟩⟩
    refine ⟨F1, l, ⟨⟨⟨fun x f e => ?_, b.le.trans l, fun x n1 n2 => ?_⟩, b.tk⟩, O, g.le l, w.nd, fun z hz => ?_⟩, f1⟩
    · by_cases hx : x = c'
      · subst hx
        rw [f1] at e; cases e
        exact upd_same
      · rw [f2 x hx] at e
        by_cases hx2 : x = P
        · subst hx2
          rw [hF] at e; cases e
          exact ⟨ps', (upd_ne hPc).trans upd_same, hT1⟩
        · exact (b.ini x f e).to (h2 x hx hx2) l
    · obtain ⟨e1, e2⟩ := b.old x n1 n2
      have n3 : x ≠ c' := fun z => by rw [z, hc] at e1; rw [z] at n2; exact n2 e1.symm
      have n4 : x ≠ P := fun z => by rw [z, hF] at e2; cases e2
      exact ⟨(h2 x n3 n4).trans e1, (f2 x n3).trans e2⟩
    · obtain ⟨e1, e2, e3⟩ := w.at_ z hz
      have n3 : z.1 ≠ c' := fun y => by rw [y, hc] at e1; cases e1
      have n4 : z.1 ≠ P := fun y => by rw [y, hF] at e2; cases e2
      exact ⟨(h2 _ n3 n4).trans e1, (f2 _ n3).trans e2, e3⟩
/-- the names that a lambda reads: frozen -/
theorem frees_ok {K : PySem.W.Frag} {H0 H : Hp} {F0 : FH} {c : Nat} {σ : L2.St} {T : Foot} {e : EX} : ∀ {js : List Nat} {Γ : DL.Env} {F : FH} {k : List D → DL.Env → Prop}, wpA e (js.map .var) Γ k → EOk K H0 F0 c Γ F σ H T →
    ∃ Γ' F' ds ws, Le F F' ∧ EOk K H0 F0 c Γ' F' σ H T ∧ RfL K F' ds ws ∧ js.map (NdefX.slotAt σ) = ws.map some ∧ k ds Γ'
  | [], Γ, F, k, h, ok => by
    rw [List.map_nil, wpA] at h
    exact ⟨Γ, F, [], [], Le.refl F, ok, .nil, rfl, h⟩
  | j :: js, Γ, F, k, h, ok => by
    rw [List.map_cons, wpA, wpE] at h
    have slot : ∀ v, σ[j]? = some (some v) → NdefX.slotAt σ j = some v := fun v hv => by unfold NdefX.slotAt; rw [hv]
    split at h
    · rename_i d hd
      obtain ⟨v, hv, rf⟩ := ok.slotF hd
      obtain ⟨Γ', F', ds, ws, l, ok', rr, e1, h'⟩ := frees_ok h ok
      exact ⟨Γ', F', d :: ds, v :: ws, l, ok', .cons (rf.le l) rr, by rw [List.map_cons, List.map_cons, e1, slot v hv], by simpa using h'⟩
    · rename_i t _ ht
      obtain ⟨v, hv⟩ := ok.slot ht
      obtain ⟨F1, l1, ok1, rf⟩ := ok.frzSlot ht hv
      obtain ⟨Γ', F', ds, ws, l, ok', rr, e1, h'⟩ := frees_ok h ok1
      exact ⟨Γ', F', t.toD :: ds, v :: ws, l1.trans l, ok', .cons (rf.le l) rr, by rw [List.map_cons, List.map_cons, e1, slot v hv], by simpa using h'⟩
    · exact h.elim
end DL

/-! EO: sorted(x, key=lambda row: elt), the rules; a def that makes a lambda. -/
namespace DL
open PySem PySem.Spec PySem.Calls PyProof.Rows L2 PySem.W LamX NdefX

theorem startN_eq {N : List Str} {v : V} {ws : List V} (h : N.length = 1 + ws.length) : startF N [v] (ws.map some) = L2.start N (v :: ws) := by
  unfold startF L2.start
  simp only [List.map_cons, List.map_nil, List.length_cons, List.length_nil, List.length_map, h]
  simp only [List.cons_append, List.nil_append]
  rw [show 1 + ws.length - (0 + 1) - ws.length = 0 by omega, show 1 + ws.length - (ws.length + 1) = 0 by omega]
theorem entryN_eq {N : List Str} {d : D} {fr : List D} (h : N.length = 1 + fr.length) : entry N.length (d :: fr) = (d :: fr).map fun d => some (.fz d) := by
  unfold DL.entry
  rw [h, List.length_cons, show 1 + fr.length - (fr.length + 1) = 0 by omega]
  simp
theorem sort_zip {xs : List D} {items : List V} {kf : D → D} (hl : xs.length = items.length) : xs.mergeSort (dataLe false fun d => (kf d).py) = ((xs.zip items).mergeSort (dataLe false fun b : D × V => (kf b.1).py)).map (·.1) := by
  conv => lhs; rw [← zip_map1 hl]
  exact (List.map_mergeSort (r := dataLe false fun b : D × V => (kf b.1).py) (s := dataLe false fun d => (kf d).py) (f := Prod.fst) (fun a _ b _ => rfl)).symm
section
variable {X : Cx} {e : EX} {H0 H : Hp} {F0 F : FH} {c P : Addr} {n m : Nat} {Γ : DL.Env} {σ : L2.St} {T Tx : Foot} {js : List Nat} {N : List Str} {elt : SE} {x : V} {xs fr : List D} {items ws : List V} {params : Arguments} {body : Expr} {scope : Scope}
theorem sortk_core {kf : D → D} {Q : VK} {nm : Str} (hq : X.env.qual ++ "<lambda>" = nm ++ ".<locals>.<lambda>") (hnm : nm ∈ lamDefs) (ht : tabIn X.K nm = some (c, P)) (ok : EOk X.K H0 F0 n Γ F σ H (Tx ++ T))
    (hx : (∃ p, x = .ref p ∧ SqL X.K (hpo F) p items) ∨ (∃ r m, (r, RgO r m) ∈ Tx ∧ x = .ref r ∧ RgOk 0 m ∧ items = rgV 0 m)) (hxi : RfL X.K F xs items) (hfr : RfL X.K F fr ws) (hjs : js.map (NdefX.slotAt σ) = ws.map some) (hN : N.length = 1 + js.length)
    (hlen : xs.length ≤ 1000) (hkf : ∀ d ∈ xs, ∀ kk : D → Prop, kk (kf d) → wpE (fun _ _ => False) elt ((d :: fr).map fun d => some (.fz d)) fun t _ => kk t.toD) (hs : srtOk (xs.map kf)) (bud : n + 2 ^ (costE elt + 12) ≤ BD)
    (fin : ∀ (F' : FH) (c' : Nat) (a : Addr) (H' : Hp), c' ≤ n + 2 ^ (costE elt + 12) → Le F F' → EOk X.K H0 F0 c' Γ F' σ H' ([(a, .lst (((xs.zip items).mergeSort (dataLe false fun b => (kf b.1).py)).map (·.2)))] ++ T) → RfL X.K F' (xs.mergeSort (dataLe false fun d => (kf d).py)) (((xs.zip items).mergeSort (dataLe false fun b : D × V => (kf b.1).py)).map (·.2)) → Q (.ref a) H') :
    tLam X P params body scope σ H fun fv H2 => ∃ f c', fv = .ref f ∧ SK X N js (ER X.K (fun e => wpE e elt) (2 ^ costE elt)) σ x f ⟨X.env.qual ++ "<lambda>", params, body, scope, cloFrom X.env.cells scope.names [], c'⟩ H2 Q := by
  have hF := ok.1.tab nm hnm c P ht
  rw [← hq] at hF
  obtain ⟨ps, hP, hT⟩ := (show ∃ ps, H P = some (.tbl ps) ∧ TabF F (X.env.qual ++ "<lambda>") ps from ok.1.ini P _ hF)
  refine ⟨ps, hP, hT.1, fun pos cv hc => ?_, fun f c' H1 m hf => ⟨f, c', rfl, ?_⟩⟩
  · obtain ⟨c', e1, e2⟩ := hT.2 pos cv hc
    exact ⟨c', e1, ok.1.ini.ho e2⟩
  · obtain ⟨F1, l1, ok1, fc⟩ := ok.made hF hP hT m
    have ok2 := ok1.new (o := LamO f ⟨X.env.qual ++ "<lambda>", params, body, scope, cloFrom X.env.cells scope.names [], c'⟩) hf
    generalize hG : (⟨X.env.qual ++ "<lambda>", params, body, scope, cloFrom X.env.cells scope.names [], c'⟩ : LF) = G at *
    have hGc : G.c = c' := by rw [← hG]
    have hGq : G.qual = X.env.qual ++ "<lambda>" := by rw [← hG]
    have hl : xs.length = items.length := RpL.length hxi
    have hfl : fr.length = js.length := by
      have := RpL.length hfr
      have h2 := congrArg List.length hjs
      rw [List.length_map, List.length_map] at h2
      omega
    generalize hB : 2 ^ costE elt = B at *
    have hB2 : 2 ^ (costE elt + 12) = B * 4096 := by rw [Nat.pow_add, hB]
    rw [hB2] at bud fin
    have kz : (xs.zip items).map (fun b => (kf b.1).py) = (xs.map kf).map D.py := by
      conv => rhs; rw [← zip_map1 hl]
      rw [List.map_map, List.map_map]
      rfl
    have own : ∀ {F' : FH} {c2 : Nat} {H' : Hp}, EOk X.K H0 F0 c2 Γ F' σ H' ((f, LamO f G) :: (Tx ++ T)) → Le F1 F' → H' f = some (LamO f G) ∧ H' G.c = some (CodeO G.c G.qual) := fun {F' c2 H'} h l => by
      refine ⟨?_, ?_⟩
      · obtain ⟨b, O, g, w⟩ := h
        exact (w.at_ (f, LamO f G) (List.mem_append_right _ List.mem_cons_self)).1
      · rw [hGc, hGq]
        exact h.1.ini.ho (l _ _ fc)
    refine ⟨items, xs, fun b => (kf b.1).py, fun i H' kvs => ∃ F' c2, EOk X.K H0 F0 c2 Γ F' σ H' ((f, LamO f G) :: (Tx ++ T)) ∧ Le F1 F' ∧ c2 ≤ n + i * B ∧ RfL X.K F' ((xs.map kf).take i) kvs, ?_, hl, ?_, ?_, fun d hd => ?_, ⟨F1, n, ok2, Le.refl F1, by omega, by rw [List.take_zero]; exact .nil⟩, ?_, ?_, ?_⟩
    · rcases hx with ⟨p, e1, e2⟩ | ⟨r, m, e1, e2, e3, e4⟩
      · exact .inl ⟨p, e1, Same.seq ((l1.hpo).trans ok2.1.ini.same) e2⟩
      · refine .inr ⟨r, m, e2, ?_, e3, e4⟩
        obtain ⟨b, O, g, w⟩ := ok2
        exact (w.at_ (r, RgO r m) (List.mem_append_right _ (List.mem_cons_of_mem _ (List.mem_append_left _ e1)))).1
    · rw [kz]; exact hs.1
    · rw [kz]; exact hs.2.1
    · rw [kz] at hd
      obtain ⟨d0, h0, rfl⟩ := List.mem_map.mp hd
      have := (plain_lay 20 d0 (plains_mem hs.2.2 h0)).2
      omega
    · rintro H' kvs ⟨F', c2, h1, h2, h3, h4⟩
      rw [kz]
      rw [List.take_of_length_le (by rw [List.length_map]; omega)] at h4
      exact DpAll_of hs.2.2 (h4.h h1.1.ini)
    · rintro i ⟨d, v⟩ H' kvs hb ⟨F', c2, h1, h2, h3, h4⟩
      obtain ⟨o1, o2⟩ := own h1 h2
      refine ⟨o1, o2, ?_⟩
      have hi : i < (xs.zip items).length := (List.getElem?_eq_some_iff.mp hb).1
      rw [List.length_zip] at hi
      have hd : xs[i]? = some d := by
        have := congrArg (fun o => Option.map Prod.fst o) hb
        simp only [List.getElem?_zip_eq_some, Option.map_some] at this
        have hz := (List.getElem?_zip_eq_some.mp hb).1
        exact hz
      have hv : items[i]? = some v := (List.getElem?_zip_eq_some.mp hb).2
      have rv : Rf X.K F' d v := by
        obtain ⟨v', e1, e2⟩ := RpL.get hxi hd
        rw [hv] at e1; cases e1
        exact Rf.le (l1.trans h2) e2
      have rr : RfL X.K F' (d :: fr) (v :: ws) := .cons rv (hfr.le (l1.trans h2))
      have eok := EOk.entry (N := N) (H := H') (c := c2) (F := F') ⟨h1.1.ini, h1.1.tab⟩ rr
      rw [entryN_eq (by rw [hfl]; exact hN), ← startN_eq (v := v) (ws := ws) (by rw [← RpL.length hfr, hfl]; exact hN), ← hjs] at eok
      have hle : i * B + B ≤ B * 4096 := by
        have : i + 1 ≤ 4096 := by omega
        calc i * B + B = B * (i + 1) := by rw [Nat.mul_add, Nat.mul_comm]; omega
          _ ≤ B * 4096 := Nat.mul_le_mul_left _ this
      refine ⟨fun _ _ => False, H', F', _, F', c2, [], fun t _ => t.toD = kf d, fun _ _ z => z, eok, by omega, hkf d (List.mem_of_getElem? hd) (fun r => r = kf d) rfl, fun t Γ1 F2 c3 v1 H2 T1 q1 hc1 l2 ok3 r3 => ?_⟩
      obtain ⟨b3, O3, g3, w3⟩ := ok3
      have w4 : Own H' F2 H2 T1 := w3.sub (by simp)
      obtain ⟨ok4, l4, g4⟩ := (h1.called b3.toBse w4).freeze
      have hk : (xs.map kf).take (i + 1) = (xs.map kf).take i ++ [kf d] := by rw [List.take_add_one, List.getElem?_map, hd]; rfl
      refine ⟨adds F2 T1, c3, ok4, h2.trans (l2.trans l4), ?_, ?_⟩
      · rw [Nat.add_mul, Nat.one_mul]
        omega
      · rw [hk]
        have r5 := RpT.frz l4 _ _ _ g4 r3
        rw [q1] at r5
        exact (h4.le (l2.trans l4)).append (.cons r5 .nil)
    · rintro a H' kvs ⟨F', c2, h1, h2, h3, h4⟩ ha
      have ok5 := h1.new (o := .lst (((xs.zip items).mergeSort (dataLe false fun b => (kf b.1).py)).map (·.2))) ha
      refine fin F' c2 a _ ?_ (l1.trans h2) (ok5.drop ?_) ?_
      · have : items.length * B ≤ B * 4096 := by rw [Nat.mul_comm]; exact Nat.mul_le_mul_left _ (by omega)
        omega
      · exact List.Sublist.cons_cons _ ((List.sublist_append_right Tx T).cons _)
      · rw [sort_zip hl]
        exact rf_pairs fun p hp => zip_rf (hxi.le (l1.trans h2)) p ((List.mergeSort_perm _ _).mem_iff.mp hp)
/-- a list as the argument -/
theorem de_sortkL {a : Expr} {sa : SE} {ps frn : List Str} {lpos p pos kp : Pos} {nm : Str} (hc : X.calm = true) (hr : Room 3 X.A) (hg : Gl X "sorted") (hm : X.mg "sorted" = none) (ha : DE X a sa) (hq : X.env.qual ++ "<lambda>" = nm ++ ".<locals>.<lambda>") (hnm : nm ∈ lamDefs) (ht : tabIn X.K nm = some (c, P))
    (TB : TabB X.base X.mg c P) (hcode : X.env.code = .ref c) (hdef : defaultsOf params X.env = ([], [])) (hfree : ∀ y ∈ scope.names, y.2 = .free → X.env.scope.names.lookup y.1 = some .cell ∨ X.env.scope.names.lookup y.1 = some .free)
    (S : NScope N ps frn scope) (hps : ps.length = 1) (hfrn : ∀ y ∈ frn, (y, NameKind.free) ∈ scope.names) (hjs : js.map (fun j => X.N[j]?) = frn.map some) (hN : N.length = 1 + js.length)
    (hb : ∀ (q : Str) (cl : List (Str × Addr)) (pm cv ctv u : Value), bindArgs (PySem.W.kla_fn "<lambda>" q params body scope cl pm cv ctv) ⟨[u], []⟩ = pure (ps.zip [u]))
    (hbody : ∀ (G : LF) (f : Addr) (B : Around) (outer : List PySem.Env) (s : Shared) (H : Hp), G.scope = scope → Room 0 (B.deeper (envF G.nf f s.heap.objs.size)) → DE (ncx CX0 X.prog X.w X.K X.mg X.base N G.nf f B outer s H E0) body elt)
    (he : backTo pos (starEach [a] X.env) = (false, eval a X.env) :: backTo pos (starEach [] X.env) := by rfl) (hs : starEach [a] X.env = (false, eval a X.env) :: starEach [] X.env := by rfl) (hpl : (backTo pos (starEach [a] X.env)).any (·.1) = false := by rfl)
    (hall : (backToKw pos (keywordEach [⟨some "key", .Lambda params body scope lpos, kp⟩] X.env)).all (·.1.isSome) = true := by rfl) (hnone : (backToKw pos (keywordEach [⟨some "key", .Lambda params body scope lpos, kp⟩] X.env)).any (·.1.isNone) = false := by rfl)
    (hks : (backToKw pos (keywordEach [⟨some "key", .Lambda params body scope lpos, kp⟩] X.env)).filterMap (·.1) = [Str.ofString "key"] := by rfl) :
    DE X (.Call (.Name "sorted" p) [a] [⟨some "key", .Lambda params body scope lpos, kp⟩] pos) (.call (srtkS elt) (sa :: js.map .var)) := by
  refine (pe_sortk hc hr hg hm (pa_cons ha pa_nil hs) TB hcode hdef hfree S hps hfrn hjs hb (tb := ER X.K (fun e => wpE e elt) (2 ^ costE elt)) (fun G f B outer s H h1 h2 => hbody G f B outer s H h1 h2) he hpl hall hnone hks).mono fun σ H Q ⟨e, H0, F0, Γ, F, n, T, k, xo, ok, hcc, hw, fin⟩ => ?_
  have hw : wpE e (.call (srtkS elt) (sa :: js.map .var)) Γ k := hw
  rw [wpE, wpA] at hw
  rw [show costE (.call (srtkS elt) (sa :: js.map .var)) = (costE sa + costL (js.map SE.var) + 2) + (costE elt + 12) + 4 by rw [costE, costL]; rfl] at hcc fin
  have hb1 := le3 (costE sa + costL (js.map SE.var) + 2) 0 (costE elt + 12)
  have hb2 := le2 (costE sa) (costL (js.map SE.var))
  rw [Nat.add_zero] at hb1
  generalize hA : 2 ^ costE sa = A at *
  generalize hB : 2 ^ (costE elt + 12) = B at *
  generalize hM : 2 ^ (costE sa + costL (js.map SE.var) + 2) = M at *
  generalize hM2 : 2 ^ (costE sa + costL (js.map SE.var) + 2 + (costE elt + 12) + 4) = M2 at *
  generalize 2 ^ 0 = O1 at *
  generalize 2 ^ costL (js.map SE.var) = O2 at *
  refine ⟨e, H0, F0, Γ, F, n, T, _, xo, ok, by omega, hw, fun t Γ1 F1 c1 v H1 T1 q1 hc1 l1 ok1 r1 => ?_⟩
  obtain ⟨ok2, l2, g2⟩ := ok1.freeze
  have rv := RpT.frz l2 _ _ _ g2 r1
  obtain ⟨Γ3, F3, fr, ws, l3, ok3, rfr, ejs, q3⟩ := frees_ok q1 ok2
  obtain ⟨xs, fr', kf, e1, hlen, hkf, hsrt, hk⟩ := q3
  injection e1 with e1 e2
  subst e2
  rw [e1] at rv
  obtain ⟨p, items, rfl, hp, ri⟩ := (show ∃ a vs, v = .ref a ∧ hpo _ a = some (.lst vs) ∧ RfL X.K _ xs vs by rw [Rf, Rp] at rv; exact rv)
  refine ⟨.ref p, rfl, ?_⟩
  refine sortk_core (Tx := []) (kf := kf) (fr := fr) (ws := ws) (items := items) (xs := xs) hq hnm ht ok3 (.inl ⟨p, rfl, .inl (.inl (l3.hpo _ _ hp))⟩) (ri.le l3) rfr ejs hN hlen hkf hsrt (by rw [hB]; omega) fun F' c' a H' hc' l' ok' rr => ?_
  rw [hB] at hc'
  exact fin _ Γ3 F' c' (.ref a) H' _ hk (by omega) (l1.trans (l2.trans (l3.trans l'))) ok' (.newL rr)
/-- a range -/
theorem de_sortkR {a : Expr} {sa : SE} {ps frn : List Str} {lpos p pos kp p2 pos2 : Pos} {nm : Str} (hc : X.calm = true) (hr : Room 3 X.A) (hg : Gl X "sorted") (hm : X.mg "sorted" = none) (hg2 : Gl X "range") (hm2 : X.mg "range" = none) (ha : DE X a sa) (hq : X.env.qual ++ "<lambda>" = nm ++ ".<locals>.<lambda>") (hnm : nm ∈ lamDefs) (ht : tabIn X.K nm = some (c, P))
    (TB : TabB X.base X.mg c P) (hcode : X.env.code = .ref c) (hdef : defaultsOf params X.env = ([], [])) (hfree : ∀ y ∈ scope.names, y.2 = .free → X.env.scope.names.lookup y.1 = some .cell ∨ X.env.scope.names.lookup y.1 = some .free)
    (S : NScope N ps frn scope) (hps : ps.length = 1) (hfrn : ∀ y ∈ frn, (y, NameKind.free) ∈ scope.names) (hjs : js.map (fun j => X.N[j]?) = frn.map some) (hN : N.length = 1 + js.length)
    (hb : ∀ (q : Str) (cl : List (Str × Addr)) (pm cv ctv u : Value), bindArgs (PySem.W.kla_fn "<lambda>" q params body scope cl pm cv ctv) ⟨[u], []⟩ = pure (ps.zip [u]))
    (hbody : ∀ (G : LF) (f : Addr) (B : Around) (outer : List PySem.Env) (s : Shared) (H : Hp), G.scope = scope → Room 0 (B.deeper (envF G.nf f s.heap.objs.size)) → DE (ncx CX0 X.prog X.w X.K X.mg X.base N G.nf f B outer s H E0) body elt)
    (he : backTo pos (starEach [.Call (.Name "range" p2) [a] [] pos2] X.env) = (false, eval (.Call (.Name "range" p2) [a] [] pos2) X.env) :: backTo pos (starEach [] X.env) := by rfl) (hs : starEach [.Call (.Name "range" p2) [a] [] pos2] X.env = (false, eval (.Call (.Name "range" p2) [a] [] pos2) X.env) :: starEach [] X.env := by rfl)
    (na : starEach [a] X.env = (false, eval a X.env) :: starEach [] X.env := by rfl) (hpl : (backTo pos (starEach [.Call (.Name "range" p2) [a] [] pos2] X.env)).any (·.1) = false := by rfl)
    (hall : (backToKw pos (keywordEach [⟨some "key", .Lambda params body scope lpos, kp⟩] X.env)).all (·.1.isSome) = true := by rfl) (hnone : (backToKw pos (keywordEach [⟨some "key", .Lambda params body scope lpos, kp⟩] X.env)).any (·.1.isNone) = false := by rfl)
    (hks : (backToKw pos (keywordEach [⟨some "key", .Lambda params body scope lpos, kp⟩] X.env)).filterMap (·.1) = [Str.ofString "key"] := by rfl) :
    DE X (.Call (.Name "sorted" p) [.Call (.Name "range" p2) [a] [] pos2] [⟨some "key", .Lambda params body scope lpos, kp⟩] pos) (.call (srtkS elt) (.call lrangeS [sa] :: js.map .var)) := by
  have pr : PE X (.Call (.Name "range" p2) [a] [] pos2) (fun σ H Q => ER X.K (fun e => wpE e sa) (2 ^ costE sa) σ H fun x H1 => ∃ m, x = .int m ∧ ∀ r, H1 r = none → Q (.ref r) (upd H1 r (RgO r m))) := by
    refine ⟨fun pins s σ H Q I h => ?_⟩
    refine Call_ (ld_blt I hg2 hm2 PyProof.Rows.boot_range (PyProof.Rows.callWith_type1 (one_arg ha I h (fun v s2 x H2 I2 r q => ?_) na) na))
    obtain ⟨m, rfl, q⟩ := q
    obtain ⟨t, rfl⟩ := r
    refine call_range_1 ⟨.ref s2.heap.objs.size, _, I2.laid (o := RgO s2.heap.objs.size m) (fun b u e => Heap.get?_push_of_some _ e) (Nat.le_refl _) ⟨⟨_, _, _, IsRange.new _ _ _ _ _ _ _⟩, ⟨_, IsRange.new _ _ _ _ _ _ _⟩, fun h1 h2 ⟨t, u, v, z⟩ st => ⟨t, u, v, st _ z⟩⟩, rfl, q _ (I2.hok.fresh (Nat.le_refl _))⟩
  refine (pe_sortk hc hr hg hm (pa_cons pr pa_nil hs) TB hcode hdef hfree S hps hfrn hjs hb (tb := ER X.K (fun e => wpE e elt) (2 ^ costE elt)) (fun G f B outer s H h1 h2 => hbody G f B outer s H h1 h2) he hpl hall hnone hks).mono fun σ H Q ⟨e, H0, F0, Γ, F, n, T, k, xo, ok, hcc, hw, fin⟩ => ?_
  have hw : wpE e (.call (srtkS elt) (.call lrangeS [sa] :: js.map .var)) Γ k := hw
  rw [wpE, wpA] at hw
  have hw := call1 hw
  rw [show costE (.call (srtkS elt) (.call lrangeS [sa] :: js.map .var)) = (costE sa + costL (js.map SE.var) + 2) + (costE elt + 12) + 4 + 6 by rw [costE, costL, costE, costL, costL]; show costE sa + 0 + 2 + 0 + 4 + costL (js.map SE.var) + 2 + (costE elt + 12) + 4 = _; omega] at hcc fin
  have hb1 := le3 (costE sa + costL (js.map SE.var) + 2) 0 (costE elt + 12)
  have hb2 := le2 (costE sa) (costL (js.map SE.var))
  have hb3 : 2 ^ ((costE sa + costL (js.map SE.var) + 2) + (costE elt + 12) + 4) ≤ 2 ^ ((costE sa + costL (js.map SE.var) + 2) + (costE elt + 12) + 4 + 6) := pmono (by omega)
  rw [Nat.add_zero] at hb1
  generalize hA : 2 ^ costE sa = A at *
  generalize hB : 2 ^ (costE elt + 12) = B at *
  generalize hM : 2 ^ (costE sa + costL (js.map SE.var) + 2) = M at *
  generalize hM2 : 2 ^ (costE sa + costL (js.map SE.var) + 2 + (costE elt + 12) + 4) = M2 at *
  generalize hM3 : 2 ^ (costE sa + costL (js.map SE.var) + 2 + (costE elt + 12) + 4 + 6) = M3 at *
  generalize 2 ^ 0 = O1 at *
  generalize 2 ^ costL (js.map SE.var) = O2 at *
  refine ⟨e, H0, F0, Γ, F, n, T, _, xo, ok, by omega, hw, fun t Γ1 F1 c1 v H1 T1 q1 hc1 l1 ok1 r1 => ?_⟩
  obtain ⟨m, et, h0, h1, q1⟩ := q1
  injection et with et _
  obtain ⟨ok2, l2, g2⟩ := ok1.freeze
  have rv := RpT.frz l2 _ _ _ g2 r1
  rw [et] at rv
  refine ⟨m, rf_int.mp rv, fun r hr => ?_⟩
  have okr := ok2.new (o := RgO r m) hr
  obtain ⟨Γ3, F3, fr, ws, l3, ok3, rfr, ejs, q3⟩ := frees_ok q1 okr
  obtain ⟨xs, fr', kf, e1, hlen, hkf, hsrt, hk⟩ := q3
  injection e1 with e1 e2
  subst e2
  have ex : rangeD 0 m = xs := by
    rw [toD_lst, toDs_fz] at e1
    injection e1
  refine ⟨.ref r, rfl, ?_⟩
  refine sortk_core (Tx := [(r, RgO r m)]) (kf := kf) (fr := fr) (ws := ws) (items := rgV 0 m) (xs := xs) hq hnm ht ok3 (.inr ⟨r, m, List.mem_cons_self, rfl, RgOk.of_le (by omega) (by omega) (by omega) h0, rfl⟩) (by rw [← ex]; exact rfl_range m) rfr ejs hN hlen hkf hsrt (by rw [hB]; omega) fun F' c' a H' hc' l' ok' rr => ?_
  rw [hB] at hc'
  exact fin _ Γ3 F' c' (.ref a) H' _ hk (by omega) (l1.trans (l2.trans (l3.trans l'))) ok' (.newL rr)
end
section
variable {P : Program} {w : World} {K : PySem.W.Frag} {mg : Str → Option Value} {base : Heap}
/-- a def that makes a lambda, by its body's wp: its code object is known -/
theorem fng_ofL {x qual : Str} {st : Stmt} {f c Pt : Addr} {fd : FuncData} {N ps : List Str} {k : Nat} {sb : List SS} (Fu : Fun K x qual st f fd) (hns : nsIn K mainGlobals x = some (some (.ref f))) (ht : tabIn K x = some (c, Pt)) (S : FnScope N ps (defScope st))
    (hbody : ∀ (A : Around) (outer : List PySem.Env) (s : Shared) (H : Hp), Room k (A.deeper (envOfC qual (defScope st) s.heap.objs.size f (.ref c))) → (A.deeper (envOfC qual (defScope st) s.heap.objs.size f (.ref c))).guards = some [] →
      DSs (cxOf CX0 P w K mg base N qual (defScope st) f (.ref c) A outer s H E0).nox (defBody st) sb) : FnG P w K mg base (k + 1) f fd ps (rawS N.length ps.length sb) := by
  refine fng_ofC Fu S fun cdv A outer s H hcd hr hgd => ?_
  have e : cdv = .ref c := by
    unfold codeK at hcd
    unfold tabIn at ht
    rw [hns] at ht
    simp only at ht
    split at ht
    · rename_i fd' sl h1
      rw [h1] at hcd
      simp only [Option.some.injEq] at hcd
      split at ht
      · rename_i c2 h2
        split at ht
        · split at ht
          · cases ht
            rw [← hcd, h2]
          · cases ht
        · cases ht
      · cases ht
    · cases ht
  subst e
  exact hbody A outer s H hr hgd
end
/-! written lists as operands -/
theorem flat_one (a : D) : OT.flat? (.lst [.fz a]) = some (.lst [a]) := rfl
theorem flat_two (a b : D) : OT.flat? (.lst [.fz a, .fz b]) = some (.lst [a, b]) := rfl
theorem flat_three (a b c : D) : OT.flat? (.lst [.fz a, .fz b, .fz c]) = some (.lst [a, b, c]) := rfl
theorem sorted_L (xs : List D) (k : OT → Prop) : biD .sorted_ [.lst xs] k = (srtOk xs ∧ k (.lst ((sortD xs).map .fz))) := rfl
end DL

/-! EP: zip of three, walked. -/
namespace DL
open PySem PySem.Spec PyProof.Rows L2

def Itz3 (K : PySem.W.Frag) (l1 l2 l3 : Bool) (a b c : Addr) : It :=
  ⟨fun i H => ∃ (xs ys zs : List V) (x y z : V), Sq K l1 H a xs ∧ Sq K l2 H b ys ∧ Sq K l3 H c zs ∧ xs[i]? = some x ∧ ys[i]? = some y ∧ zs[i]? = some z,
    fun i H v H' => ∃ T x y z, v = .ref T ∧ H T = none ∧ H' = upd H T (.tup [x, y, z]) ∧ (∀ xs, Sq K l1 H a xs → xs[i]? = some x) ∧ (∀ ys, Sq K l2 H b ys → ys[i]? = some y) ∧ ∀ zs, Sq K l3 H c zs → zs[i]? = some z,
    fun i H => ∃ xs ys zs : List V, Sq K l1 H a xs ∧ Sq K l2 H b ys ∧ Sq K l3 H c zs ∧ i ≤ xs.length ∧ i ≤ ys.length ∧ i ≤ zs.length ∧ (i = xs.length ∨ i = ys.length ∨ i = zs.length)⟩
theorem zsep3 (n a b c : Nat) (h1 : a < n) (h2 : b < n) (h3 : c < n) : ZipSep3 (n + 5) (n + 3) (n + 4) n (n + 1) (n + 2) [n, a] [n + 1, b] [n + 2, c] where
  TIz := PySem.W.neN (by omega)
  TOz := PySem.W.neN (by omega)
  TITO := PySem.W.neN (by omega)
  TIi1 := PySem.W.neN (by omega)
  mem1 := List.mem_cons_self
  zf1 := fun h => by
    rcases List.mem_cons.mp h with e | h
    · exact absurd e (PySem.W.neN (by omega))
    · exact absurd (List.mem_singleton.mp h) (PySem.W.neN (by omega))
  Tf1 := fun h => by
    rcases List.mem_cons.mp h with e | h
    · exact absurd e (PySem.W.neN (by omega))
    · exact absurd (List.mem_singleton.mp h) (PySem.W.neN (by omega))
  TIi2 := PySem.W.neN (by omega)
  mem2 := List.mem_cons_self
  zf2 := fun h => by
    rcases List.mem_cons.mp h with e | h
    · exact absurd e (PySem.W.neN (by omega))
    · exact absurd (List.mem_singleton.mp h) (PySem.W.neN (by omega))
  Tf2 := fun h => by
    rcases List.mem_cons.mp h with e | h
    · exact absurd e (PySem.W.neN (by omega))
    · exact absurd (List.mem_singleton.mp h) (PySem.W.neN (by omega))
  TIi3 := PySem.W.neN (by omega)
  mem3 := List.mem_cons_self
  zf3 := fun h => by
    rcases List.mem_cons.mp h with e | h
    · exact absurd e (PySem.W.neN (by omega))
    · exact absurd (List.mem_singleton.mp h) (PySem.W.neN (by omega))
  Tf3 := fun h => by
    rcases List.mem_cons.mp h with e | h
    · exact absurd e (PySem.W.neN (by omega))
    · exact absurd (List.mem_singleton.mp h) (PySem.W.neN (by omega))
  sep1_2 := fun h => by
    rcases List.mem_cons.mp h with e | h
    · exact absurd e (PySem.W.neN (by omega))
    · exact absurd (List.mem_singleton.mp h) (PySem.W.neN (by omega))
  sep1_3 := fun h => by
    rcases List.mem_cons.mp h with e | h
    · exact absurd e (PySem.W.neN (by omega))
    · exact absurd (List.mem_singleton.mp h) (PySem.W.neN (by omega))
  sep2_1 := fun h => by
    rcases List.mem_cons.mp h with e | h
    · exact absurd e (PySem.W.neN (by omega))
    · exact absurd (List.mem_singleton.mp h) (PySem.W.neN (by omega))
  sep2_3 := fun h => by
    rcases List.mem_cons.mp h with e | h
    · exact absurd e (PySem.W.neN (by omega))
    · exact absurd (List.mem_singleton.mp h) (PySem.W.neN (by omega))
  sep3_1 := fun h => by
    rcases List.mem_cons.mp h with e | h
    · exact absurd e (PySem.W.neN (by omega))
    · exact absurd (List.mem_singleton.mp h) (PySem.W.neN (by omega))
  sep3_2 := fun h => by
    rcases List.mem_cons.mp h with e | h
    · exact absurd e (PySem.W.neN (by omega))
    · exact absurd (List.mem_singleton.mp h) (PySem.W.neN (by omega))
theorem begins_S (l : Bool) (a : Addr) (items : Array Value) : Begins (.ref a) (itO l a) fun h => IsS l h a items := by
  cases l with
  | true => exact begins_list a items
  | false => exact begins_tuple a items
abbrev St3 (l1 l2 l3 : Bool) (a b c z TI TO i1 i2 i3 : Addr) : Nat → Heap → Prop := fun i h => IsZip h z TI TO .none ∧ IsTupOf3 h TI (.ref i1) (.ref i2) (.ref i3) ∧ (∃ x y u, IsTupOf3 h TO x y u) ∧ SI l1 h i1 a i ∧ SI l2 h i2 b i ∧ SI l3 h i3 c i
theorem turn_zip3 {P : Program} {w : World} {K : PySem.W.Frag} {elts : List Expr} {kk : Nat} {tpos : Pos} {l1 l2 l3 : Bool} {a b c z TI TO i1 i2 i3 : Addr} (D : ZipSep3 z TI TO i1 i2 i3 [i1, a] [i2, b] [i3, c]) (n1 : a ≠ i1) (n2 : b ≠ i2) (n3 : c ≠ i3) :
    Turn P w K (.Tuple elts kk tpos) (Itz3 K l1 l2 l3 a b c) [z, TI, TO, i1, i2, i3] z (St3 l1 l2 l3 a b c z TI TO i1 i2 i3) where
  mem := by simp
  obj := fun i h st c hcm => by
    obtain ⟨hz, hTI, ⟨x, y, u, hTO⟩, h1, h2, h3⟩ := st
    have q : c = z ∨ c = TI ∨ c = TO ∨ c = i1 ∨ c = i2 ∨ c = i3 := by simpa using hcm
    rcases q with rfl | rfl | rfl | rfl | rfl | rfl
    · exact ⟨_, hz, fun v q => nomatch q⟩
    · exact ⟨_, hTI, fun v q => nomatch q⟩
    · exact ⟨_, hTO, fun v q => nomatch q⟩
    · exact h1.obj
    · exact h2.obj
    · exact h3.obj
  keep := fun i h h' st kk => by
    obtain ⟨hz, hTI, ⟨x, y, u, hTO⟩, h1, h2, h3⟩ := st
    exact ⟨kk z (by simp) _ hz, kk TI (by simp) _ hTI, ⟨x, y, u, kk TO (by simp) _ hTO⟩, h1.at fun o q => kk i1 (by simp) o q, h2.at fun o q => kk i2 (by simp) o q, h3.at fun o q => kk i3 (by simp) o q⟩
  item := by
    intro X hP hw hK hc i pins s σ H E I hf st hg
    subst hP hw hK
    obtain ⟨hz, hTI, ⟨x0, y0, u0, hTO⟩, h1, h2, h3⟩ := st
    obtain ⟨xs, ys, zs, x, y, v, hqx, hqy, hqz, hx, hy, hv⟩ := hg
    obtain ⟨its, rv, p, _⟩ := inv_sq I hqx
    obtain ⟨its2, rv2, p2, _⟩ := inv_sq I hqy
    obtain ⟨its3, rv3, p3, _⟩ := inv_sq I hqz
    obtain ⟨u, hu, ru⟩ := rv.get hx
    obtain ⟨u2, hu2, ru2⟩ := rv2.get hy
    obtain ⟨u3, hu3, ru3⟩ := rv3.get hv
    have hzl : z < s.heap.objs.size := Heap.lt_size hz
    have m1 : i < its.toArray.size := by rw [List.size_toArray]; exact (List.getElem?_eq_some_iff.mp hu).1
    have m2 : i < its2.toArray.size := by rw [List.size_toArray]; exact (List.getElem?_eq_some_iff.mp hu2).1
    have m3 : i < its3.toArray.size := by rw [List.size_toArray]; exact (List.getElem?_eq_some_iff.mp hu3).1
    have dr1 := si_draws (prog := X.prog) (w := X.w) (A := X.A.in1) (I.ok.hd hc) l1 i1 a n1 its.toArray
    have dr2 := si_draws (prog := X.prog) (w := X.w) (A := X.A.in1) (I.ok.hd hc) l2 i2 b n2 its2.toArray
    have dr3 := si_draws (prog := X.prog) (w := X.w) (A := X.A.in1) (I.ok.hd hc) l3 i3 c n3 its3.toArray
    refine wpAny_pyNext_zipD3_item D dr1 dr2 dr3 hz hTI hTO ⟨h1, p⟩ ⟨h2, p2⟩ ⟨h3, p3⟩ m1 m2 m3 fun y1 y2 y3 h' tk e1 e2 e3 z' TO' s1' s2' s3' hT hsz hk => ?_
    have w1 : y1 = u := by rw [List.getElem?_toArray, hu] at e1; exact (Option.some.inj e1).symm
    have w2 : y2 = u2 := by rw [List.getElem?_toArray, hu2] at e2; exact (Option.some.inj e2).symm
    have w3 : y3 = u3 := by rw [List.getElem?_toArray, hu3] at e3; exact (Option.some.inj e3).symm
    subst w1 w2 w3
    refine ⟨_, rfl, wpAny_letOwnedTupleGo_zip (s := { s with heap := h', toks := tk }) z' fun h'' z'' sb => ?_⟩
    have hT2 : h''.get? s.heap.objs.size = some { cls := .type "tuple", data := .seq #[y1, y2, y3] } := (sb.2 _ (Nat.ne_of_gt hzl)).trans hT
    have new : ObjOk X.prog X.w (upd H s.heap.objs.size (.tup [x, y, v])) h'' s.heap.objs.size (.tup [x, y, v]) := ⟨by show 3 ≤ sizeLine; decide, [y1, y2, y3], .cons ru (.cons ru2 (.cons ru3 .nil)), ⟨_, hT2, rfl, _, rfl⟩⟩
    have I1 : Inv X pins σ (upd H s.heap.objs.size (.tup [x, y, v])) { s with heap := h'', toks := tk } :=
      I.turnedNew (t' := tk) (ch := [z, TI, TO, i1, i2, i3]) (fun c o hb q => (sb.2 c (fun r => hb (by simp [r]))).trans (hk c o (fun r => hb (by simp [r])) (fun r => hb (by simp [r])) (fun r => hb (by simp [r])) (fun r => hb (by simp [r])) (fun r => hb (by simp [r])) q)) hf (Nat.le_refl _) new
    refine ⟨.ref s.heap.objs.size, _, I1, rfl, ⟨_, x, y, v, rfl, I.hok.fresh (Nat.le_refl _), rfl, fun l hl => by rw [sq_inj I hl hqx]; exact hx, fun l hl => by rw [sq_inj I hl hqy]; exact hy, fun l hl => by rw [sq_inj I hl hqz]; exact hv⟩, ⟨z'', ?_, ⟨y1, y2, y3, ?_⟩, ?_, ?_, ?_⟩, fun c hcm => ?_⟩
    · refine (sb.2 _ D.TIz).trans (hk _ _ D.TIz D.TITO D.TIi1 D.TIi2 D.TIi3 hTI)
    · exact (sb.2 _ D.TOz).trans TO'
    · exact s1'.1.at fun o q => (sb.2 _ D.zi1.symm).trans q
    · exact s2'.1.at fun o q => (sb.2 _ D.zi2.symm).trans q
    · exact s3'.1.at fun o q => (sb.2 _ D.zi3.symm).trans q
    · have hlt : c < s.heap.objs.size := by
        have q : c = z ∨ c = TI ∨ c = TO ∨ c = i1 ∨ c = i2 ∨ c = i3 := by simpa using hcm
        rcases q with rfl | rfl | rfl | rfl | rfl | rfl
        · exact hzl
        · exact Heap.lt_size hTI
        · exact Heap.lt_size hTO
        · obtain ⟨_, q, _⟩ := h1.obj; exact Heap.lt_size q
        · obtain ⟨_, q, _⟩ := h2.obj; exact Heap.lt_size q
        · obtain ⟨_, q, _⟩ := h3.obj; exact Heap.lt_size q
      rw [upd_ne (Nat.ne_of_lt hlt)]
      exact (hf c hcm).1
  done := by
    intro X hP hw hK hc i pins s σ H E I hf st hg
    subst hP hw hK
    obtain ⟨hz, hTI, ⟨x0, y0, u0, hTO⟩, h1, h2, h3⟩ := st
    obtain ⟨xs, ys, zs, hqx, hqy, hqz, g1, g2, g3, hend⟩ := hg
    obtain ⟨its, rv, p, _⟩ := inv_sq I hqx
    obtain ⟨its2, rv2, p2, _⟩ := inv_sq I hqy
    obtain ⟨its3, rv3, p3, _⟩ := inv_sq I hqz
    have e1 := rv.length
    have e2 := rv2.length
    have e3 := rv3.length
    have dr1 := si_draws (prog := X.prog) (w := X.w) (A := X.A.in1) (I.ok.hd hc) l1 i1 a n1 its.toArray
    have dr2 := si_draws (prog := X.prog) (w := X.w) (A := X.A.in1) (I.ok.hd hc) l2 i2 b n2 its2.toArray
    have dr3 := si_draws (prog := X.prog) (w := X.w) (A := X.A.in1) (I.ok.hd hc) l3 i3 c n3 its3.toArray
    refine wpAny_pyNext_zipD3_end D dr1 dr2 dr3 hz hTI hTO ⟨h1, p⟩ ⟨h2, p2⟩ ⟨h3, p3⟩ (by rw [List.size_toArray]; omega) (by rw [List.size_toArray]; omega) (by rw [List.size_toArray]; omega) (by rw [List.size_toArray, List.size_toArray, List.size_toArray]; omega) fun h' tk hk => ?_
    exact ⟨rfl, I.turnedL (t' := tk) (ch := [z, TI, TO, i1, i2, i3]) (fun c o hb q => hk c o (fun r => hb (by simp [r])) (fun r => hb (by simp [r])) (fun r => hb (by simp [r])) (fun r => hb (by simp [r])) (fun r => hb (by simp [r])) q) hf⟩
  self := fun A i s Q E st h => wpAny_pyIter_zip st.1 h
def iZip3 (K : PySem.W.Frag) (ta : TA) : TI := fun σ H R => ta σ H fun vs H1 => ∃ l1 l2 l3 a b c xs ys zs, vs = [.ref a, .ref b, .ref c] ∧ Sq K l1 H1 a xs ∧ Sq K l2 H1 b ys ∧ Sq K l3 H1 c zs ∧ (xs.length ≤ sizeLine → R (Itz3 K l1 l2 l3 a b c) H1)
theorem pi_zip3 {X : Cx} {e e2 e3 : Expr} {ta : TA} {p pos tpos : Pos} {elts : List Expr} {kk : Nat} (hg : Gl X "zip") (hm : X.mg "zip" = none) (ha : PA X [e, e2, e3] ta)
    (hs : starEach [e, e2, e3] X.env = (false, eval e X.env) :: starEach [e2, e3] X.env := by rfl) (hpl : (backTo pos (starEach [e2, e3] X.env)).any (·.1) = false := by rfl) :
    PI X (.Tuple elts kk tpos) (.Call (.Name "zip" p) [e, e2, e3] [] pos) (iZip3 X.K ta) := by
  refine ⟨fun pins s σ H R I h0 => ?_⟩
  refine Call_ (ld_blt I hg hm PyProof.Rows.boot_zip (PyProof.Rows.callWith_type1 (thn (ha.run pos pins s σ H _ I h0) fun us s1 ⟨vs, H1, I1, r1, q1⟩ => ?_) hs hpl))
  obtain ⟨l1, l2, l3, a, b, c, xs, ys, zs, ex, hqx, hqy, hqz, q⟩ := q1
  subst ex
  cases r1 with
  | cons r rr =>
    cases rr with
    | cons r' rr =>
      cases rr with
      | cons r'' rr =>
      cases rr
      cases r
      cases r'
      cases r''
      obtain ⟨its, rv, p1, hz1⟩ := inv_sq I1 hqx
      obtain ⟨its2, rv2, p2, _⟩ := inv_sq I1 hqy
      obtain ⟨its3, rv3, p3, _⟩ := inv_sq I1 hqz
      refine zip_begins3 (begins_S l1 a its.toArray) (begins_S l2 b its2.toArray) (begins_S l3 c its3.toArray) p1 p2 p3 fun h' hz hTI hTO h1 h2 h3 _ hk => wpAny_pyIter_zip hz ?_
      have I2 : Inv X pins σ H1 { s1 with heap := h' } := I1.kept (t' := s1.toks) hk
      refine ⟨s1.heap.objs.size + 5, [s1.heap.objs.size + 5, s1.heap.objs.size + 3, s1.heap.objs.size + 4, s1.heap.objs.size, s1.heap.objs.size + 1, s1.heap.objs.size + 2], _, _, H1, rfl, I2, turn_zip3 (zsep3 s1.heap.objs.size a b c p1.lt p2.lt p3.lt) (Nat.ne_of_lt p1.lt) (Nat.ne_of_lt (Nat.lt_of_lt_of_le p2.lt (Nat.le_add_right _ 1))) (Nat.ne_of_lt (Nat.lt_of_lt_of_le p3.lt (Nat.le_add_right _ 2))), ⟨hz, hTI, ⟨_, _, _, hTO⟩, si_new _ _ _ _ h1, si_new _ _ _ _ h2, si_new _ _ _ _ h3⟩, fun c hcm => ?_, q hz1⟩
      have hle : s1.heap.objs.size ≤ c := by
        have z : c = s1.heap.objs.size + 5 ∨ c = s1.heap.objs.size + 3 ∨ c = s1.heap.objs.size + 4 ∨ c = s1.heap.objs.size ∨ c = s1.heap.objs.size + 1 ∨ c = s1.heap.objs.size + 2 := by simpa using hcm
        rcases z with z | z | z | z | z | z
        · rw [z]; exact Nat.le_add_right s1.heap.objs.size 5
        · rw [z]; exact Nat.le_add_right s1.heap.objs.size 3
        · rw [z]; exact Nat.le_add_right s1.heap.objs.size 4
        · rw [z]; exact Nat.le_refl s1.heap.objs.size
        · rw [z]; exact Nat.le_add_right s1.heap.objs.size 1
        · rw [z]; exact Nat.le_add_right s1.heap.objs.size 2
      exact I1.fpOk hle (I1.hok.fresh hle)
theorem zip3D_len : ∀ (xs ys zs : List D), (zip3D xs ys zs).length = min xs.length (min ys.length zs.length)
  | [], ys, zs => by simp [zip3D]
  | x :: xs, [], zs => by simp [zip3D]
  | x :: xs, y :: ys, [] => by simp [zip3D]
  | x :: xs, y :: ys, z :: zs => by simp only [zip3D, List.length_cons, zip3D_len xs ys zs]; omega
theorem zip3D_get : ∀ (xs ys zs : List D) (i : Nat) (x y z : D), xs[i]? = some x → ys[i]? = some y → zs[i]? = some z → (zip3D xs ys zs)[i]? = some (.tup [x, y, z])
  | x :: xs, y :: ys, z :: zs, 0, a, b, c, h1, h2, h3 => by simp at h1 h2 h3; subst h1 h2 h3; simp [zip3D]
  | x :: xs, y :: ys, z :: zs, i + 1, a, b, c, h1, h2, h3 => by simp only [zip3D, List.getElem?_cons_succ]; exact zip3D_get xs ys zs i a b c (by simpa using h1) (by simpa using h2) (by simpa using h3)
  | [], _, _, _, _, _, _, h1, _, _ => by simp at h1
  | _ :: _, [], _, _, _, _, _, _, h2, _ => by simp at h2
  | _ :: _, _ :: _, [], _, _, _, _, _, _, h3 => by simp at h3
theorem wk_zip3 {K : PySem.W.Frag} {F : FH} {xs ys zs : List D} {vs ws us : List V} {a b c : Addr} {l1 l2 l3 : Bool} (ha : Sq K l1 (hpo F) a vs) (hb : Sq K l2 (hpo F) b ws) (hc : Sq K l3 (hpo F) c us) (r : RfL K F xs vs) (r' : RfL K F ys ws) (r'' : RfL K F zs us) : WkD K (Itz3 K l1 l2 l3 a b c) F (zip3D xs ys zs) := by
  have e1 := RpL.length r
  have e2 := RpL.length r'
  have e3 := RpL.length r''
  have el := zip3D_len xs ys zs
  have go : ∀ (d : Nat) (F' : FH) (H : Hp), Le F F' → Ini d F' H → Sq K l1 H a vs ∧ Sq K l2 H b ws ∧ Sq K l3 H c us := fun d F' H l i => ⟨ha.same (fun p o q => i.same p o (l.hpo p o q)), hb.same (fun p o q => i.same p o (l.hpo p o q)), hc.same (fun p o q => i.same p o (l.hpo p o q))⟩
  refine ⟨fun i c F' H hi l q => ?_, fun c F' H l q => ?_, fun i c F' H v H' hi l q y => ?_⟩
  · obtain ⟨s1, s2, s3⟩ := go c F' H l q
    exact ⟨vs, ws, us, vs[i]'(by omega), ws[i]'(by omega), us[i]'(by omega), s1, s2, s3, List.getElem?_eq_getElem _, List.getElem?_eq_getElem _, List.getElem?_eq_getElem _⟩
  · obtain ⟨s1, s2, s3⟩ := go c F' H l q
    exact ⟨vs, ws, us, s1, s2, s3, by omega, by omega, by omega, by omega⟩
  · obtain ⟨s1, s2, s3⟩ := go c F' H l q
    obtain ⟨T, x, z, u, rfl, hT, rfl, y1, y2, y3⟩ := y
    obtain ⟨d1, k1, k2⟩ := r.get' (y1 _ s1)
    obtain ⟨d2, k3, k4⟩ := r'.get' (y2 _ s2)
    obtain ⟨d3, k5, k6⟩ := r''.get' (y3 _ s3)
    exact ⟨.tup [d1, d2, d3], zip3D_get xs ys zs i d1 d2 d3 k1 k3 k5, .newT q (.cons (Rf.le l k2) (.cons (Rf.le l k4) (.cons (Rf.le l k6) .nil))) hT⟩
theorem di_zip3 {X : Cx} {e e2 e3 : Expr} {sa sb sc : SE} {p pos tpos : Pos} {elts : List Expr} {kk : Nat} (hg : Gl X "zip") (hm : X.mg "zip" = none) (ha : DA X [e, e2, e3] [sa, sb, sc])
    (hs : starEach [e, e2, e3] X.env = (false, eval e X.env) :: starEach [e2, e3] X.env := by rfl) (hpl : (backTo pos (starEach [e2, e3] X.env)).any (·.1) = false := by rfl) :
    DI X (.Tuple elts kk tpos) (.Call (.Name "zip" p) [e, e2, e3] [] pos) (.zip3 [sa, sb, sc]) := by
  refine (pi_zip3 hg hm ha hs hpl).mono fun σ H R ⟨e, H0, F0, Γ, F, c, T, k, xo, ok, hc, hw, fin⟩ => ?_
  have hw : wpI e (.zip3 [sa, sb, sc]) Γ k := hw
  rw [wpI] at hw
  rw [show costI (.zip3 [sa, sb, sc]) = costL [sa, sb, sc] by rw [costI]] at hc fin
  refine ⟨e, H0, F0, Γ, F, c, T, _, xo, ok, hc, hw, fun ds Γ1 F1 c1 vs H1 q1 hc1 l1 ok1 r1 => ?_⟩
  split at q1
  · rename_i xs ys zs hds
    obtain ⟨d1, d2, d3, rfl, s1, s2, s3⟩ : ∃ d1 d2 d3, ds = [d1, d2, d3] ∧ d1.seq? = some xs ∧ d2.seq? = some ys ∧ d3.seq? = some zs := by
      cases ds with
      | nil => simp at hds
      | cons d1 r =>
        cases r with
        | nil => simp at hds
        | cons d2 r =>
          cases r with
          | nil => simp at hds
          | cons d3 r =>
            cases r with
            | nil => simp at hds; exact ⟨d1, d2, d3, rfl, hds.1, hds.2.1, hds.2.2⟩
            | cons _ _ => simp at hds
    obtain ⟨v, w, u, rfl, a1, a2, a3⟩ := RfL.three r1
    obtain ⟨b1, a, us, rfl, h1, g1⟩ := seq_sq a1 s1
    obtain ⟨b2, b, ws, rfl, h2, g2⟩ := seq_sq a2 s2
    obtain ⟨b3, b', ts, rfl, h3, g3⟩ := seq_sq a3 s3
    refine ⟨b1, b2, b3, a, b, b', us, ws, ts, rfl, h1.same ok1.1.ini.same, h2.same ok1.1.ini.same, h3.same ok1.1.ini.same, fun hz => fin _ Γ1 F1 c1 H1 _ q1 hc1 l1 ok1 (wk_zip3 h1 h2 h3 g1 g2 g3) ?_⟩
    rw [zip3D_len, RpL.length g1]
    exact size_le64 (Nat.le_trans (Nat.min_le_left _ _) hz)
  · exact q1.elim
end DL

/-! EQ: list.remove (numbers), index in a frozen list, str of a number. -/
namespace DL
open PySem PySem.Spec PyProof.Rows L2
theorem ints_of (ns : List Int) : ints? (ns.map D.int) = some ns := by
  induction ns with
  | nil => rfl
  | cons a ns ih => rw [List.map_cons]; simp only [ints?, ih, Option.map_some]
theorem mv_remove {K : PySem.W.Frag} : MtV K rRemI .remove := by
  intro xs ds l xvs vs F H k Q i hl rx rd g fin
  unfold mcD at g
  split at g <;> first | exact g.elim | cases ‹Mc.remove = _› | skip
  rename_i z
  obtain ⟨ns, j, rfl, hj, hno, g4⟩ := g
  obtain ⟨u, rfl, r1⟩ := RfL.one rd
  have e := ints_vs (ints_of ns) rx
  subst e
  refine ⟨l, ns, z, j, rfl, by rw [rf_int.mp r1], hl, hj, hno, fin _ _ .non _ g4 (rf_non.mpr rfl) ?_⟩
  rw [← erase_mapI]
  exact RpL.eraseIdx j rx
theorem mev_index {K : PySem.W.Frag} : MeV K (rIndex K) lindexS := by
  intro ds v vs c F H k x Q hx i rd h fin
  obtain ⟨xs, y, z, j, e, hy, hxs, hj, hz, hno, hk⟩ := h
  cases e
  obtain ⟨v1, ws, e1, rv, rd⟩ := RpL.uncons rd
  obtain ⟨v2, ws2, rfl, ru', rd⟩ := RpL.uncons rd
  obtain rfl := RpL.nil_inv rd
  cases e1
  have rv : Rf K F (.lst xs) v := rv
  rw [Rf, Rp] at rv
  obtain ⟨a, us, rfl, ha, rr⟩ := rv
  obtain ⟨w, hw, rw_⟩ := RpL.get rr hj
  have hzf : z.flat = true := List.all_eq_true.mp hxs z (List.mem_of_getElem? hj)
  refine ⟨a, us, v2, j, w, rfl, rfl, .inl (.inl (i.same _ _ ha)), flat_v ru' hy, flats_v rr hxs, hw, by rw [eqv_v rw_ hzf ru' hy]; exact hz, fun m z' hm hz' => ?_, fin _ _ H hk .int⟩
  obtain ⟨d', h1, h2⟩ := RpL.get' rr hz'
  rw [eqv_v h2 (List.all_eq_true.mp hxs d' (List.mem_of_getElem? h1)) ru' hy]
  exact hno m d' hm h1
/-- list.count(number) -/
def lcountS : Spc where
  run := fun ds k _ => ∃ (ns : List Int) (i : Int), ds = [.lst (ns.map D.int), .int i] ∧ k (.fz (.int (ns.count i : Nat)))
  ce := 0
  ar := 2
theorem mev_lcount {K : PySem.W.Frag} : MeV K (rCntI K) lcountS := by
  intro ds v vs c F H k x Q hx i rd h fin
  obtain ⟨ns, z, e, hk⟩ := h
  cases e
  obtain ⟨v1, ws, e1, rv, rd⟩ := RpL.uncons rd
  obtain ⟨v2, ws2, rfl, ru', rd⟩ := RpL.uncons rd
  obtain rfl := RpL.nil_inv rd
  cases e1
  have rv : Rf K F (.lst (ns.map D.int)) v := rv
  rw [Rf, Rp] at rv
  obtain ⟨a, us, rfl, ha, rr⟩ := rv
  have e := ints_vs (ints_of ns) rr
  subst e
  exact ⟨a, ns, z, rfl, by rw [rf_int.mp ru'], .inl (.inl (i.same _ _ ha)), fin _ _ H hk .int⟩
/-- str(number) -/
def strIS : Spc where
  run := fun ds k _ => ∃ i : Int, ds = [.int i] ∧ i.natAbs < 2 ^ 64 ∧ k (.fz (.str (toString i)))
  ce := 0
  ar := 1
theorem fv_strI {K : PySem.W.Frag} : FnV K (fun xs H Q => ∃ i, xs = [.int i] ∧ i.natAbs.log2 < 1920 ∧ Q (.str (toString i)) H) strIS := by
  intro ds vs c F H k x Q hx i rd h fin
  obtain ⟨n, rfl, h1, h2⟩ := h
  obtain ⟨v, rfl, r1⟩ := RfL.one rd
  refine ⟨n, by rw [rf_int.mp r1], ?_, fin _ _ H h2 (.old (rf_str.mpr rfl))⟩
  by_cases h0 : n.natAbs = 0
  · rw [h0]; decide
  · exact Nat.lt_trans ((Nat.log2_lt h0).mpr h1) (by decide)
end DL

/-! ES: list(zip(a, b)), each a list or a tuple: the zip's tuples stay. -/
namespace PySem
section
variable {prog : Program} {w : World} {A : Around} {E : Value → Shared → Prop} {s : Shared} {z TI TO T i1 i2 : Addr} {fp1 fp2 : List Addr} {n1 n2 i : Nat} {P1 P2 : Nat → Value → Prop} {St1 St2 : Nat → Heap → Prop} {f : Bool} {oT : Obj}
theorem lz_no_len : typeLookup (.type "zip") "__len__" = pure none := am_miss_of_fast (by decide +kernel)
theorem lz_no_hint : typeLookup (.type "zip") "__length_hint__" = pure none := am_miss_of_fast (by decide +kernel)
theorem lz_next_held {Q : Value → Shared → Prop} (S : ZipSep2 z TI TO i1 i2 fp1 fp2) (D1 : Draws prog w A i1 fp1 n1 P1 St1) (D2 : Draws prog w A i2 fp2 n2 P2 St2)
    (hz : IsZipHeld s.heap z TI TO T f) (hT : s.heap.get? T = some oT) (hTI : IsTupOf2 s.heap TI (.ref i1) (.ref i2)) (st1 : St1 i s.heap) (st2 : St2 i s.heap) (hlt1 : i < n1) (hlt2 : i < n2)
    (hQ : ∀ x1 x2 h' tk, P1 i x1 → P2 i x2 → IsZipHeld h' z TI TO T true → St1 (i + 1) h' → St2 (i + 1) h' → IsTupOf2 h' s.heap.objs.size x1 x2 → h'.objs.size = s.heap.objs.size + 1 →
      (∀ c o, c ≠ z → c ≠ i1 → c ≠ i2 → s.heap.get? c = some o → h'.get? c = some o) → Q (.ref s.heap.objs.size) { s with heap := h', toks := tk }) :
    wpAny (model prog w) A (Builtin.«zip.__next__» ⟨[.ref z], []⟩) (fun fin s' => ∃ v, fin = .done (.ret v) ∧ Q v s') E s := by
  obtain ⟨hp, g, d, tk0, os⟩ := s
  show wpAny _ _ (field (.ref z) 2 >>= _) _ _ _
  refine wpAny_bind (wpAny_field hz rfl (x := .bool false) rfl ?_)
  show wpAny _ _ (field (.ref z) 3 >>= _) _ _ _
  refine wpAny_bind (wpAny_field hz rfl (x := .ref TI) rfl ?_)
  refine wpAny_bind (wpAny_seqItems hTI rfl ?_)
  show wpAny _ _ (Builtin.SmallTypes.ownedTupleIsFree (.ref z) >>= _) _ _ _
  refine wpAny_bind (wpAny_tupleHeld_zip hz hT fun g0 hz0 hs0 => ?_)
  replace hz0 : IsZipHeld g0 z TI TO T true := hz0
  replace hs0 : Heap.SameBut z hp g0 := hs0
  simp only [Bool.false_eq_true, if_false]
  refine wpAny_bind ?_
  rw [← Array.forIn_toList]
  simp only [List.forIn_cons, List.forIn_nil]
  refine wpAny_bind (wpAny_bind (wpAny_holding ?_))
  show wpAny _ _ (Builtin.SmallTypes.nextOf (.ref i1) >>= _) _ _ ⟨g0, g, d, tk0, os⟩
  refine wpAny_bind (D1.item i _ _ _ hlt1 (D1.over st1 hs0 S.zf1) fun x1 p1 tk1 hx1 sn1 hp1 => wpAny_pure ?_)
  replace hp1 : Heap.SameBut i1 g0 p1 := hp1
  refine wpAny_pure ?_
  refine wpAny_bind (wpAny_bind (wpAny_holding ?_))
  show wpAny _ _ (Builtin.SmallTypes.nextOf (.ref i2) >>= _) _ _ ⟨p1, g, d, tk1, os⟩
  refine wpAny_bind (D2.item i _ _ _ hlt2 (D2.over (D2.over st2 hs0 S.zf2) hp1 S.sep1_2) fun x2 p2 tk2 hx2 sn2 hp2 => wpAny_pure ?_)
  replace hp2 : Heap.SameBut i2 p1 p2 := hp2
  refine wpAny_pure (wpAny_pure ?_)
  show wpAny _ _ (newTuple [x1, x2] >>= _) _ _ _
  refine wpAny_bind (wpAny_newTuple ?_)
  have hsz : p2.objs.size = hp.objs.size := by rw [hp2.1, hp1.1, hs0.1]
  have hzz : IsZipHeld p2 z TI TO T true := hp2.extBut _ _ S.zi2 (hp1.extBut _ _ S.zi1 hz0)
  have hkk : ∀ c o, c ≠ z → c ≠ i1 → c ≠ i2 → hp.get? c = some o → p2.get? c = some o := fun c o cz c1 c2 e => hp2.extBut _ _ c2 (hp1.extBut _ _ c1 (hs0.extBut _ _ cz e))
  refine wpAny_pure ⟨_, rfl, ?_⟩
  show Q (.ref p2.objs.size) _
  have hT2 : IsTupOf2 (p2.push { cls := .type "tuple", data := .seq #[x1, x2] }) p2.objs.size x1 x2 := Heap.get?_push_size _ rfl
  have hz4 : (p2.push { cls := .type "tuple", data := .seq #[x1, x2] }).objs.size = p2.objs.size + 1 := Heap.size_push ..
  rw [hsz] at hT2 hz4 ⊢
  have hj1 : St1 (i + 1) p2 := D1.over sn1 hp2 S.sep2_1
  exact hQ x1 x2 _ tk2 hx1 hx2 (Heap.get?_push_of_some _ hzz) (D1.frame _ _ _ hj1 fun b hb o e => Heap.get?_push_of_some _ e) (D2.frame _ _ _ sn2 fun b hb o e => Heap.get?_push_of_some _ e) hT2 hz4 fun c o cz c1 c2 e => Heap.get?_push_of_some _ (hkk c o cz c1 c2 e)
theorem lz_end_held {Q : Fin → Shared → Prop} (S : ZipSep2 z TI TO i1 i2 fp1 fp2) (D1 : Draws prog w A i1 fp1 n1 P1 St1) (D2 : Draws prog w A i2 fp2 n2 P2 St2)
    (hz : IsZipHeld s.heap z TI TO T f) (hT : s.heap.get? T = some oT) (hTI : IsTupOf2 s.heap TI (.ref i1) (.ref i2)) (st1 : St1 i s.heap) (st2 : St2 i s.heap) (hle1 : i ≤ n1) (hle2 : i ≤ n2) (hend : i = n1 ∨ i = n2)
    (hE : ∀ h' tk e, (∀ c o, c ≠ z → c ≠ i1 → c ≠ i2 → s.heap.get? c = some o → h'.get? c = some o) → (∃ o, h'.get? e = some o ∧ o.cls = .type "StopIteration") → E (.ref e) { s with heap := h', toks := tk }) :
    wpAny (model prog w) A (Builtin.«zip.__next__» ⟨[.ref z], []⟩) Q E s := by
  obtain ⟨hp, g, d, tk0, os⟩ := s
  show wpAny _ _ (field (.ref z) 2 >>= _) _ _ _
  refine wpAny_bind (wpAny_field hz rfl (x := .bool false) rfl ?_)
  show wpAny _ _ (field (.ref z) 3 >>= _) _ _ _
  refine wpAny_bind (wpAny_field hz rfl (x := .ref TI) rfl ?_)
  refine wpAny_bind (wpAny_seqItems hTI rfl ?_)
  show wpAny _ _ (Builtin.SmallTypes.ownedTupleIsFree (.ref z) >>= _) _ _ _
  refine wpAny_bind (wpAny_tupleHeld_zip hz hT fun g0 hz0 hs0 => ?_)
  replace hs0 : Heap.SameBut z hp g0 := hs0
  simp only [Bool.false_eq_true, if_false]
  refine wpAny_bind ?_
  rw [← Array.forIn_toList]
  simp only [List.forIn_cons, List.forIn_nil]
  refine wpAny_bind (wpAny_bind (wpAny_holding ?_))
  show wpAny _ _ (Builtin.SmallTypes.nextOf (.ref i1) >>= _) _ _ ⟨g0, g, d, tk0, os⟩
  by_cases hlt1 : i < n1
  · have hi2 : i = n2 := by omega
    refine wpAny_bind (D1.item i _ _ _ hlt1 (D1.over st1 hs0 S.zf1) fun x1 p1 tk1 hx1 sn1 hp1 => wpAny_pure ?_)
    replace hp1 : Heap.SameBut i1 g0 p1 := hp1
    refine wpAny_pure ?_
    refine wpAny_bind (wpAny_bind (wpAny_holding ?_))
    show wpAny _ _ (Builtin.SmallTypes.nextOf (.ref i2) >>= _) _ _ ⟨p1, g, d, tk1, os⟩
    refine wpAny_bind (D2.done ⟨p1, g, d, tk1, os⟩ _ _ (by rw [← hi2]; exact D2.over (D2.over st2 hs0 S.zf2) hp1 S.sep1_2) fun q e hq he => ?_)
    exact hE q tk1 e (fun c o cz c1 c2 x => hq _ _ c2 (hp1.extBut _ _ c1 (hs0.extBut _ _ cz x))) he
  · have hi1 : i = n1 := by omega
    refine wpAny_bind (D1.done ⟨g0, g, d, tk0, os⟩ _ _ (by rw [← hi1]; exact D1.over st1 hs0 S.zf1) fun q e hq he => ?_)
    exact hE q tk0 e (fun c o cz c1 c2 x => hq _ _ c1 (hs0.extBut _ _ cz x)) he
theorem lz_pyNext_held {Q : Option Value → Shared → Prop} (S : ZipSep2 z TI TO i1 i2 fp1 fp2) (D1 : Draws prog w A.in1 i1 fp1 n1 P1 St1) (D2 : Draws prog w A.in1 i2 fp2 n2 P2 St2)
    (hz : IsZipHeld s.heap z TI TO T f) (hT : s.heap.get? T = some oT) (hTI : IsTupOf2 s.heap TI (.ref i1) (.ref i2)) (st1 : St1 i s.heap) (st2 : St2 i s.heap) (hlt1 : i < n1) (hlt2 : i < n2)
    (hQ : ∀ x1 x2 h' tk, P1 i x1 → P2 i x2 → IsZipHeld h' z TI TO T true → St1 (i + 1) h' → St2 (i + 1) h' → IsTupOf2 h' s.heap.objs.size x1 x2 → h'.objs.size = s.heap.objs.size + 1 →
      (∀ c o, c ≠ z → c ≠ i1 → c ≠ i2 → s.heap.get? c = some o → h'.get? c = some o) → Q (some (.ref s.heap.objs.size)) { s with heap := h', toks := tk }) :
    wpAny (model prog w) A (pyNext (.ref z)) Q E s := by
  have hTy : s.TypeIs (.ref z) "zip" := ⟨_, hz, rfl⟩
  unfold pyNext
  exact wpAny_bind (wpAny_attempt (wpAny_callSpecial?_slot (name := Str.ofString "__next__") hTy F.slot_zip_next
    (wpAny_call_entry F.slot_zip_next hTy F.entry_zip_next
      (lz_next_held S D1 D2 hz hT hTI st1 st2 hlt1 hlt2 fun x1 x2 h' tk y1 y2 b1 d1 d2 b5 b6 b7 => wpAny_pure (hQ x1 x2 h' tk y1 y2 b1 d1 d2 b5 b6 b7)) (F.args_zip_next_1 _))))
theorem lz_pyNext_end {Q : Option Value → Shared → Prop} (S : ZipSep2 z TI TO i1 i2 fp1 fp2) (D1 : Draws prog w A.in1 i1 fp1 n1 P1 St1) (D2 : Draws prog w A.in1 i2 fp2 n2 P2 St2)
    (hz : IsZipHeld s.heap z TI TO T f) (hT : s.heap.get? T = some oT) (hTI : IsTupOf2 s.heap TI (.ref i1) (.ref i2)) (st1 : St1 i s.heap) (st2 : St2 i s.heap) (hle1 : i ≤ n1) (hle2 : i ≤ n2) (hend : i = n1 ∨ i = n2)
    (hQ : ∀ h' tk, (∀ c o, c ≠ z → c ≠ i1 → c ≠ i2 → s.heap.get? c = some o → h'.get? c = some o) → Q none { s with heap := h', toks := tk }) : wpAny (model prog w) A (pyNext (.ref z)) Q E s := by
  have hTy : s.TypeIs (.ref z) "zip" := ⟨_, hz, rfl⟩
  unfold pyNext
  refine wpAny_bind (wpAny_attempt (wpAny_callSpecial?_slot (name := Str.ofString "__next__") hTy F.slot_zip_next
    (wpAny_call_entry F.slot_zip_next hTy F.entry_zip_next (lz_end_held S D1 D2 hz hT hTI st1 st2 hle1 hle2 hend fun h' tk e hk he => ?_) (F.args_zip_next_1 _))))
  obtain ⟨o, ho, hc⟩ := he
  refine wpAny_bind (wpAny_isInstance (T := "StopIteration") (b := true) ⟨o, ho, hc⟩ isSubtype_stop ?_)
  exact wpAny_pure (hQ _ _ hk)
end
/-- a zip whose tuples stay: none given out yet, or the last one known -/
def LzZ (h : Heap) (z TI TO i1 i2 L : Addr) (i : Nat) : Prop := (i = 0 ∧ IsZip h z TI TO .none ∧ ∃ a1 a2, IsTupOf2 h TO a1 a2) ∨ ∃ T f oT, IsZipHeld h z TI TO T f ∧ h.get? T = some oT ∧ T ≠ z ∧ T ≠ i1 ∧ T ≠ i2 ∧ T ≠ L
/-- the tuples given out -/
structure LzG (P1 P2 : Nat → Value → Prop) (B : Nat) (h : Heap) (as : List Addr) : Prop where
  rise : as.Pairwise (· < ·)
  above : ∀ a ∈ as, B ≤ a
  pairs : ∀ (j : Nat) (a : Addr), as[j]? = some a → ∃ x1 x2, P1 j x1 ∧ P2 j x2 ∧ IsTupOf2 h a x1 x2
theorem LzG.there {P1 P2 : Nat → Value → Prop} {B : Nat} {h : Heap} {as : List Addr} (g : LzG P1 P2 B h as) {a : Addr} (ha : a ∈ as) : a < h.objs.size := by
  obtain ⟨j, hj⟩ := List.mem_iff_getElem?.mp ha
  obtain ⟨_, _, _, _, e⟩ := g.pairs j a hj
  exact Heap.lt_size e
section
variable {prog : Program} {w : World} {A : Around} {s : Shared} {R : Result → Shared → Prop} {z TI TO i1 i2 L : Addr} {fp1 fp2 : List Addr} {n1 n2 : Nat} {P1 P2 : Nat → Value → Prop} {St1 St2 : Nat → Heap → Prop}
theorem lz_item {Q : Option Value → Shared → Prop} {E : Value → Shared → Prop} {s : Shared} {i : Nat} (S : ZipSep2 z TI TO i1 i2 fp1 fp2) (D1 : Draws prog w A.in1 i1 fp1 n1 P1 St1) (D2 : Draws prog w A.in1 i2 fp2 n2 P2 St2)
    (hz : LzZ s.heap z TI TO i1 i2 L i) (hTI : IsTupOf2 s.heap TI (.ref i1) (.ref i2)) (st1 : St1 i s.heap) (st2 : St2 i s.heap) (hlt1 : i < n1) (hlt2 : i < n2) (hLlt : L < s.heap.objs.size) (l1 : i1 < s.heap.objs.size) (l2 : i2 < s.heap.objs.size) (lz : z < s.heap.objs.size)
    (hQ : ∀ x1 x2 h' tk, P1 i x1 → P2 i x2 → LzZ h' z TI TO i1 i2 L (i + 1) → St1 (i + 1) h' → St2 (i + 1) h' → IsTupOf2 h' s.heap.objs.size x1 x2 → h'.objs.size = s.heap.objs.size + 1 →
      (∀ c o, c ≠ z → c ≠ TO → c ≠ i1 → c ≠ i2 → s.heap.get? c = some o → h'.get? c = some o) → Q (some (.ref s.heap.objs.size)) { s with heap := h', toks := tk }) :
    wpAny (model prog w) A (pyNext (.ref z)) Q E s := by
  have nz : s.heap.objs.size ≠ z := Nat.ne_of_gt lz
  have n1' : s.heap.objs.size ≠ i1 := Nat.ne_of_gt l1
  have n2' : s.heap.objs.size ≠ i2 := Nat.ne_of_gt l2
  have nL : s.heap.objs.size ≠ L := Nat.ne_of_gt hLlt
  rcases hz with ⟨rfl, hz, a1, a2, hTO⟩ | ⟨T, f, oT, hz, hT, q1, q2, q3, q4⟩
  · exact wpAny_pyNext_zipD2_item S D1 D2 hz hTI hTO st1 st2 hlt1 hlt2 fun x1 x2 h' tk e1 e2 z' TO' s1 s2 hT hs hk =>
      hQ x1 x2 h' tk e1 e2 (.inr ⟨s.heap.objs.size, false, _, z', hT, nz, n1', n2', nL⟩) s1 s2 hT hs hk
  · exact lz_pyNext_held S D1 D2 hz hT hTI st1 st2 hlt1 hlt2 fun x1 x2 h' tk e1 e2 z' s1 s2 hT2 hs hk =>
      hQ x1 x2 h' tk e1 e2 (.inr ⟨T, true, oT, z', hk T oT q1 q2 q3 hT, q1, q2, q3, q4⟩) s1 s2 hT2 hs fun c o c0 _ c1 c2 => hk c o c0 c1 c2
theorem lz_done {Q : Option Value → Shared → Prop} {E : Value → Shared → Prop} {s : Shared} {i : Nat} (S : ZipSep2 z TI TO i1 i2 fp1 fp2) (D1 : Draws prog w A.in1 i1 fp1 n1 P1 St1) (D2 : Draws prog w A.in1 i2 fp2 n2 P2 St2)
    (hz : LzZ s.heap z TI TO i1 i2 L i) (hTI : IsTupOf2 s.heap TI (.ref i1) (.ref i2)) (st1 : St1 i s.heap) (st2 : St2 i s.heap) (hle1 : i ≤ n1) (hle2 : i ≤ n2) (hend : i = n1 ∨ i = n2)
    (hQ : ∀ h' tk, (∀ c o, c ≠ z → c ≠ TO → c ≠ i1 → c ≠ i2 → s.heap.get? c = some o → h'.get? c = some o) → Q none { s with heap := h', toks := tk }) : wpAny (model prog w) A (pyNext (.ref z)) Q E s := by
  rcases hz with ⟨rfl, hz, a1, a2, hTO⟩ | ⟨T, f, oT, hz, hT, q1, q2, q3, q4⟩
  · exact wpAny_pyNext_zipD2_end S D1 D2 hz hTI hTO st1 st2 hle1 hle2 hend hQ
  · exact lz_pyNext_end S D1 D2 hz hT hTI st1 st2 hle1 hle2 hend fun h' tk hk => hQ h' tk fun c o c0 _ c1 c2 => hk c o c0 c1 c2
theorem lz_loop {B : Nat} (S : ZipSep2 z TI TO i1 i2 fp1 fp2) (D1 : Draws prog w A.in1.in1 i1 fp1 n1 P1 St1) (D2 : Draws prog w A.in1.in1 i2 fp2 n2 P2 St2) (hL1 : L ∉ fp1) (hL2 : L ∉ fp2) (hLz : L ≠ z) (hLI : L ≠ TI) (hLO : L ≠ TO)
    (bz : z < B) (bO : TO < B) (b1 : i1 < B) (b2 : i2 < B) (bL : L < B) (hn : min n1 n2 ≤ sizeLine) (res : Value) {h₁ : Heap}
    (hR : ∀ h' tk acc c as, (∀ b o, b ≠ L → b ≠ z → b ≠ TO → b ≠ i1 → b ≠ i2 → h₁.get? b = some o → h'.get? b = some o) → h'.get? L = some { cls := .type "list", dict := none, data := .seq acc c, slots := #[] } → as.length = min n1 n2 → LzG P1 P2 B h' as →
      acc.toList = as.map Value.ref → R (.ok (.ret res)) { s with heap := h', toks := tk }) :
    ∀ (k i : Nat) (h : Heap) (tk c : Nat) (acc : Array Value) (as : List Addr), min n1 n2 - i = k → i ≤ min n1 n2 → LzZ h z TI TO i1 i2 L i → IsTupOf2 h TI (.ref i1) (.ref i2) → St1 i h → St2 i h →
      (∀ b o, b ≠ L → b ≠ z → b ≠ TO → b ≠ i1 → b ≠ i2 → h₁.get? b = some o → h.get? b = some o) →
      h.get? L = some { cls := .type "list", dict := none, data := .seq acc c, slots := #[] } → acc.toList = as.map Value.ref → as.length = i → LzG P1 P2 B h as → B ≤ h.objs.size →
      codeAny (model prog w) A (.builtin "list.extend.loop" ⟨[.ref L, .ref z, res], []⟩) R { s with heap := h, toks := tk } := by
  have hL1i : L ≠ i1 := fun e => hL1 (e ▸ S.mem1)
  have hL2i : L ≠ i2 := fun e => hL2 (e ▸ S.mem2)
  intro k
  induction k with
  | zero =>
    intro i h tk c acc as hk hi hst hTI st1 st2 hkeep hS hacc hal hG hB
    refine codeAny_builtin PySem.F.entry_extend_loop ?_
    rw [Around.under_plainId PySem.F.plain_extend_loop _]
    show wpAny _ A.in1 (pyNext (.ref z) >>= _) _ _ _
    refine wpAny_bind (lz_done (s := { s with heap := h, toks := tk }) (L := L) S D1 D2 hst hTI st1 st2 (by omega) (by omega) (by omega) fun h' tk' he => ?_)
    refine wpAny_pure (hR h' tk' acc c as (fun b o h1 h2 h3 h4 h5 e => he b o h2 h3 h4 h5 (hkeep b o h1 h2 h3 h4 h5 e)) (he L _ hLz hLO hL1i hL2i hS) (by omega) ⟨hG.rise, hG.above, fun j a hj => ?_⟩ hacc)
    obtain ⟨x1, x2, p1, p2, e3⟩ := hG.pairs j a hj
    have ha := hG.above a (List.mem_of_getElem? hj)
    exact ⟨x1, x2, p1, p2, he a _ (Nat.ne_of_gt (Nat.lt_of_lt_of_le bz ha)) (Nat.ne_of_gt (Nat.lt_of_lt_of_le bO ha)) (Nat.ne_of_gt (Nat.lt_of_lt_of_le b1 ha)) (Nat.ne_of_gt (Nat.lt_of_lt_of_le b2 ha)) e3⟩
  | succ k ih =>
    intro i h tk c acc as hk hi hst hTI st1 st2 hkeep hS hacc hal hG hB
    have hlt : i < min n1 n2 := by omega
    have hsz : acc.size = i := by rw [← Array.length_toList, hacc, List.length_map, hal]
    refine codeAny_builtin PySem.F.entry_extend_loop ?_
    rw [Around.under_plainId PySem.F.plain_extend_loop _]
    show wpAny _ A.in1 (pyNext (.ref z) >>= _) _ _ _
    refine wpAny_bind (lz_item (s := { s with heap := h, toks := tk }) (L := L) S D1 D2 hst hTI st1 st2 (by omega) (by omega) (Nat.lt_of_lt_of_le bL hB) (Nat.lt_of_lt_of_le b1 hB) (Nat.lt_of_lt_of_le b2 hB) (Nat.lt_of_lt_of_le bz hB) fun x1 x2 h' tk' e1 e2 hst' st1' st2' ht hz hkp => ?_)
    dsimp only at ht hz hkp ⊢
    have hS' := hkp L _ hLz hLO hL1i hL2i hS
    have up : ∀ b o, b ≠ L → h'.get? b = some o → (h'.update L (Obj.mapSeq (·.push (Value.ref h.objs.size)))).get? b = some o := fun b o hb e => (Heap.get?_update_other _ _ (Ne.symm hb)).trans e
    have hSl : L < h.objs.size := Heap.lt_size hS
    have hTIz : TI ≠ i1 := S.TIi1
    show wpAny _ A.in1 (updateSeq L (·.push (Value.ref h.objs.size)) >>= _) _ _ _
    refine wpAny_bind ?_
    have hst2 : LzZ (h'.update L (Obj.mapSeq (·.push (Value.ref h.objs.size)))) z TI TO i1 i2 L (i + 1) := by
      rcases hst' with ⟨e, _⟩ | ⟨T, f, oT, q0, qT, q1, q2, q3, q4⟩
      · omega
      · exact .inr ⟨T, f, oT, up _ _ hLz.symm q0, up _ _ q4 qT, q1, q2, q3, q4⟩
    refine wpAny_updateSeq hS' rfl (wpAny_pure ⟨plainId_quiet PySem.F.plain_extend_loop _, ih (i + 1) _ tk' _ (acc.push (Value.ref h.objs.size)) (as ++ [h.objs.size]) (by omega) hlt hst2 (up _ _ hLI.symm (hkp _ _ S.TIz S.TITO S.TIi1 S.TIi2 hTI))
      (D1.frame _ _ _ st1' fun b hb o e => up b o (fun q => hL1 (q ▸ hb)) e) (D2.frame _ _ _ st2' fun b hb o e => up b o (fun q => hL2 (q ▸ hb)) e)
      (fun b o h1 h2 h3 h4 h5 e => up b o h1 (hkp b o h2 h3 h4 h5 (hkeep b o h1 h2 h3 h4 h5 e))) (Heap.get?_update_self _ hS' rfl) (by rw [Array.toList_push, hacc, List.map_append]; rfl) (by rw [List.length_append, hal]; rfl) ⟨?_, ?_, ?_⟩ ?_⟩) (by rw [hsz]; omega) (by show (acc.push (Value.ref h.objs.size)).size ≤ sizeLine + 1; rw [Array.size_push, hsz]; omega)
    · refine List.pairwise_append.mpr ⟨hG.rise, List.pairwise_singleton _ _, fun a ha b hb => ?_⟩
      rw [List.mem_singleton.mp hb]
      exact hG.there ha
    · intro a ha
      rcases List.mem_append.mp ha with ha | ha
      · exact hG.above a ha
      · rw [List.mem_singleton.mp ha]; exact hB
    · intro j b hj
      rcases Nat.lt_trichotomy j as.length with q1 | q1 | q1
      · rw [List.getElem?_append_left q1] at hj
        obtain ⟨y1, y2, p1, p2, e3⟩ := hG.pairs j b hj
        have hb := hG.above b (List.mem_of_getElem? hj)
        exact ⟨y1, y2, p1, p2, up b _ (Nat.ne_of_gt (Nat.lt_of_lt_of_le bL hb)) (hkp b _ (Nat.ne_of_gt (Nat.lt_of_lt_of_le bz hb)) (Nat.ne_of_gt (Nat.lt_of_lt_of_le bO hb)) (Nat.ne_of_gt (Nat.lt_of_lt_of_le b1 hb)) (Nat.ne_of_gt (Nat.lt_of_lt_of_le b2 hb)) e3)⟩
      · subst q1
        have hb : h.objs.size = b := by simpa using hj
        subst hb
        subst hal
        exact ⟨x1, x2, e1, e2, up _ _ (Nat.ne_of_gt hSl) ht⟩
      · have hnone : (as ++ [h.objs.size])[j]? = none := List.getElem?_eq_none (by rw [List.length_append, List.length_singleton]; omega)
        rw [hnone] at hj; cases hj
    · have e : (h'.update L (Obj.mapSeq (·.push (Value.ref h.objs.size)))).get? h.objs.size = _ := up _ _ (Nat.ne_of_gt hSl) ht
      exact Nat.le_trans hB (Nat.le_of_lt (Heap.lt_size e))
theorem lz_extend (S : ZipSep2 z TI TO i1 i2 fp1 fp2) (D1 : Draws prog w A.in1.in1 i1 fp1 n1 P1 St1) (D2 : Draws prog w A.in1.in1 i2 fp2 n2 P2 St2) (hL1 : L ∉ fp1) (hL2 : L ∉ fp2) (hLz : L ≠ z) (hLI : L ≠ TI) (hLO : L ≠ TO)
    (bz : z < s.heap.objs.size) (bO : TO < s.heap.objs.size) (b1 : i1 < s.heap.objs.size) (b2 : i2 < s.heap.objs.size) (hn : min n1 n2 ≤ sizeLine) (res : Value) (c₀ : Nat)
    (hz : IsZip s.heap z TI TO .none) (hTO : ∃ a1 a2, IsTupOf2 s.heap TO a1 a2) (hTI : IsTupOf2 s.heap TI (.ref i1) (.ref i2)) (st1 : St1 0 s.heap) (st2 : St2 0 s.heap) (hS : s.heap.get? L = some { cls := .type "list", data := .seq #[] c₀ })
    (hR : ∀ h' tk acc c as, (∀ b o, b ≠ L → b ≠ z → b ≠ TO → b ≠ i1 → b ≠ i2 → s.heap.get? b = some o → h'.get? b = some o) → h'.get? L = some { cls := .type "list", dict := none, data := .seq acc c, slots := #[] } → as.length = min n1 n2 → LzG P1 P2 s.heap.objs.size h' as →
      acc.toList = as.map Value.ref → R (.ok (.ret res)) { s with heap := h', toks := tk }) :
    wpAny (model prog w) A.in1 (Builtin.List.listExtendWith (.ref L) (.ref z) res)
      (fun fin s' => match fin with | .done f => R (.ok f) s' | .again c' => c'.quiet = true ∧ codeAny (model prog w) A c' R s') (fun e s' => R (.error e) s') s := by
  have bL : L < s.heap.objs.size := Heap.lt_size hS
  have hL1i : L ≠ i1 := fun e => hL1 (e ▸ S.mem1)
  have hL2i : L ≠ i2 := fun e => hL2 (e ▸ S.mem2)
  have key : ∀ (h : Heap) (c₁ tk : Nat), (∀ b o, b ≠ L → s.heap.get? b = some o → h.get? b = some o) → h.objs.size = s.heap.objs.size →
      h.get? L = some { cls := .type "list", data := .seq #[] c₁ } → codeAny (model prog w) A (.builtin "list.extend.loop" ⟨[.ref L, .ref z, res], []⟩) R { s with heap := h, toks := tk } := by
    intro h c₁ tk hk hsz hS₁
    obtain ⟨a1, a2, hTO⟩ := hTO
    exact lz_loop (s := s) (B := s.heap.objs.size) (h₁ := s.heap) S D1 D2 hL1 hL2 hLz hLI hLO bz bO b1 b2 bL hn res hR (min n1 n2) 0 h tk c₁ #[] [] (Nat.sub_zero _) (Nat.zero_le _) (.inl ⟨rfl, hk _ _ hLz.symm hz, a1, a2, hk _ _ hLO.symm hTO⟩) (hk _ _ hLI.symm hTI)
      (D1.frame _ _ _ st1 fun b hb o e => hk b o (fun q => hL1 (q ▸ hb)) e) (D2.frame _ _ _ st2 fun b hb o e => hk b o (fun q => hL2 (q ▸ hb)) e) (fun b o hb _ _ _ _ e => hk b o hb e) hS₁ rfl rfl ⟨List.Pairwise.nil, (fun _ ha => nomatch ha), (fun j a hj => by simp at hj)⟩ (by rw [hsz]; exact Nat.le_refl _)
  have hTy : s.TypeIs (.ref z) "zip" := ⟨_, hz, rfl⟩
  unfold Builtin.List.listExtendWith
  refine wpAny_bind (wpAny_typeOf (T := "zip") hTy ?_)
  have h1 : Builtin.List.listSameRef (.ref L) (.ref z) = false := by simp [Builtin.List.listSameRef, hLz]
  have h2 : (Value.type "zip" == Value.type "list") = false := by decide
  have h3 : (Value.type "zip" == Value.type "tuple") = false := by decide
  simp only [h1, h2, h3, Bool.or_false, Bool.false_eq_true, if_false]
  refine wpAny_bind (wpAny_pyIter_zip hz ?_)
  refine wpAny_bind (wpAny_holding ?_)
  unfold Builtin.List.listLengthHint
  refine wpAny_bind (wpAny_specialOf hTy lz_no_len ?_)
  show wpAny _ A.in1 (specialOf (Value.ref z) (Str.ofString "__length_hint__") >>= _) _ _ _
  refine wpAny_bind (wpAny_specialOf hTy lz_no_hint ?_)
  refine wpAny_pure ?_
  show wpAny _ A.in1 (rule "list.extend.makes-room" >>= fun _ => Builtin.List.listTouch (.ref L) >>= fun _ =>
    again (.builtin "list.extend.loop" ⟨[.ref L, .ref z, res], []⟩)) _ _ _
  refine wpAny_bind (wpAny_rule ?_)
  refine wpAny_bind ?_
  show wpAny _ A.in1 (updateSeq L (·.push .none) >>= fun _ => updateSeq L (·.pop)) _ _ _
  refine wpAny_bind (wpAny_updateSeq hS rfl ?_)
  have hS₂ := Heap.get?_update_self (Obj.mapSeq (·.push Value.none)) hS rfl
  refine wpAny_updateSeq (hz := by seq_fits) hS₂ rfl ?_
  have hS₃ := Heap.get?_update_self (Obj.mapSeq (·.pop)) hS₂ rfl
  refine wpAny_pure ⟨plainId_quiet PySem.F.plain_extend_loop _, key _ _ _ (fun b o hb e => ?_) ?_ hS₃⟩
  · exact (Heap.get?_update_other _ _ (Ne.symm hb)).trans ((Heap.get?_update_other _ _ (Ne.symm hb)).trans e)
  · have e1 : Heap.SameBut L s.heap (s.heap.update L (Obj.mapSeq (·.push Value.none))) := Heap.SameBut.update ..
    have e2 : Heap.SameBut L (s.heap.update L (Obj.mapSeq (·.push Value.none))) ((s.heap.update L (Obj.mapSeq (·.push Value.none))).update L (Obj.mapSeq (·.pop))) := Heap.SameBut.update ..
    exact e2.1.trans e1.1
end
section
variable {prog : Program} {w : World} {A : Around} {E : Value → Shared → Prop} {s : Shared} {z TI TO i1 i2 : Addr} {fp1 fp2 : List Addr} {n1 n2 : Nat} {P1 P2 : Nat → Value → Prop} {St1 St2 : Nat → Heap → Prop}
theorem lz_call {Q : Value → Shared → Prop} (S : ZipSep2 z TI TO i1 i2 fp1 fp2) (D1 : Draws prog w A.in1.in1.in1 i1 fp1 n1 P1 St1) (D2 : Draws prog w A.in1.in1.in1 i2 fp2 n2 P2 St2) (hf1 : ∀ b ∈ fp1, b < s.heap.objs.size) (hf2 : ∀ b ∈ fp2, b < s.heap.objs.size) (hn : min n1 n2 ≤ sizeLine)
    (hz : IsZip s.heap z TI TO .none) (hTO : ∃ a1 a2, IsTupOf2 s.heap TO a1 a2) (hTI : IsTupOf2 s.heap TI (.ref i1) (.ref i2)) (st1 : St1 0 s.heap) (st2 : St2 0 s.heap)
    (hQ : ∀ h' tk acc c as, (∀ b o, b ≠ z → b ≠ TO → b ≠ i1 → b ≠ i2 → s.heap.get? b = some o → h'.get? b = some o) → h'.get? s.heap.objs.size = some { cls := .type "list", dict := none, data := .seq acc c, slots := #[] } → as.length = min n1 n2 → LzG P1 P2 (s.heap.objs.size + 1) h' as →
      acc.toList = as.map Value.ref → Q (.ref s.heap.objs.size) { s with heap := h', toks := tk }) :
    wpAny (model prog w) A (call (.type "list") [.ref z]) Q E s := by
  have bz : z < s.heap.objs.size := Heap.lt_size hz
  have bI : TI < s.heap.objs.size := Heap.lt_size hTI
  have bO : TO < s.heap.objs.size := let ⟨_, _, e⟩ := hTO; Heap.lt_size e
  have b1 : i1 < s.heap.objs.size := hf1 _ S.mem1
  have b2 : i2 < s.heap.objs.size := hf2 _ S.mem2
  refine callType_codes (Q₁ := fun obj s₁ => obj = .ref s.heap.objs.size ∧ s₁ = { s with heap := s.heap.push { cls := .type "list", data := .seq #[] } }) PySem.F.called_list (PySem.F.typeCall_list_1 _) PySem.F.entry_list_init
    (code_list_new _ ⟨rfl, rfl⟩) fun obj s₁ h₁ => ?_
  obtain ⟨rfl, rfl⟩ := h₁
  have hS : (s.heap.push { cls := .type "list", data := .seq #[] }).get? s.heap.objs.size = some { cls := .type "list", data := .seq #[] } := Heap.get?_push_size _ rfl
  have hps : (s.heap.push { cls := .type "list", data := .seq #[] }).objs.size = s.heap.objs.size + 1 := Heap.size_push ..
  refine ⟨⟨_, hS, rfl⟩, PySem.F.args_list_init_2 _ _, ?_⟩
  show wpAny _ A.in1.in1 (do let old ← Builtin.List.listItems (.ref s.heap.objs.size); Builtin.List.listUpdate (.ref s.heap.objs.size) (fun _ => #[]); letGo old.toList.reverse; Builtin.List.listExtendWith (.ref s.heap.objs.size) (.ref z) .none) _ _ _
  refine wpAny_bind ?_
  unfold Builtin.List.listItems
  refine wpAny_bind (wpAny_seqItems hS rfl (wpAny_pure ?_))
  show wpAny _ A.in1.in1 (updateSeq s.heap.objs.size (fun _ => #[]) >>= fun _ => letGo (#[] : Array Value).toList.reverse >>= fun _ => Builtin.List.listExtendWith (.ref s.heap.objs.size) (.ref z) .none) _ _ _
  refine wpAny_bind (wpAny_updateSeq hS rfl ?_)
  have hS₂ := Heap.get?_update_self (Obj.mapSeq (fun _ => (#[] : Array Value))) hS rfl
  have hus0 : Heap.SameBut s.heap.objs.size (s.heap.push { cls := .type "list", data := .seq #[] }) ((s.heap.push { cls := .type "list", data := .seq #[] }).update s.heap.objs.size (Obj.mapSeq (fun _ => (#[] : Array Value)))) := Heap.SameBut.update ..
  have hus : ((s.heap.push { cls := .type "list", data := .seq #[] }).update s.heap.objs.size (Obj.mapSeq (fun _ => (#[] : Array Value)))).objs.size = s.heap.objs.size + 1 := hus0.1.trans hps
  have up : ∀ b o, s.heap.get? b = some o → ((s.heap.push { cls := .type "list", data := .seq #[] }).update s.heap.objs.size (Obj.mapSeq (fun _ => (#[] : Array Value)))).get? b = some o := fun b o e =>
    (Heap.get?_update_other _ _ (Nat.ne_of_gt (Heap.lt_size e))).trans (Heap.get?_push_of_some _ e)
  refine wpAny_bind (wpAny_letGo ?_)
  refine lz_extend (A := A.in1) (L := s.heap.objs.size) S D1 D2 (fun hm => Nat.lt_irrefl _ (hf1 _ hm)) (fun hm => Nat.lt_irrefl _ (hf2 _ hm)) (Nat.ne_of_gt bz) (Nat.ne_of_gt bI) (Nat.ne_of_gt bO) (by show z < Array.size _; rw [hus]; exact Nat.lt_succ_of_lt bz) (by show TO < Array.size _; rw [hus]; exact Nat.lt_succ_of_lt bO) (by show i1 < Array.size _; rw [hus]; exact Nat.lt_succ_of_lt b1) (by show i2 < Array.size _; rw [hus]; exact Nat.lt_succ_of_lt b2) hn .none _ (up _ _ hz) (let ⟨a1, a2, e⟩ := hTO; ⟨a1, a2, up _ _ e⟩) (up _ _ hTI)
    (D1.frame _ _ _ st1 fun b hb o e => up b o e) (D2.frame _ _ _ st2 fun b hb o e => up b o e) hS₂ fun h' tk acc c as hk hS' hl hG hacc => ⟨rfl, hQ h' tk acc c as (fun b o q1 q2 q3 q4 e => hk b o (Nat.ne_of_lt (Heap.lt_size e)) q1 q2 q3 q4 (up b o e)) hS' hl ?_ hacc⟩
  have hG' := hG
  dsimp only at hG'
  rw [hus] at hG'
  exact hG'
end
end PySem

/-! ET: list(zip(a, b)) as an expression. -/
namespace DL
open PySem PySem.Spec PyProof.Rows L2
theorem IsS.at_ {l : Bool} {h h' : Heap} {a : Addr} {items : Array Value} (x : IsS l h a items) (k : ∀ c o, h.get? c = some o → h'.get? c = some o) : IsS l h' a items := by
  cases l with
  | true => obtain ⟨ob, e, r⟩ := (show h.IsList a items from x); exact ⟨ob, k _ _ e, r⟩
  | false => obtain ⟨ob, e, r⟩ := (show h.IsTuple a items from x); exact ⟨ob, k _ _ e, r⟩
def upds (H : Hp) : List (Addr × HO) → Hp
  | [] => H
  | p :: r => upds (upd H p.1 p.2) r
theorem upds_old : ∀ {ps : List (Addr × HO)} {H : Hp} {b : Addr}, (∀ p ∈ ps, p.1 ≠ b) → upds H ps b = H b
  | [], _, _, _ => rfl
  | p :: r, H, b, h => by
    rw [upds, upds_old fun q hq => h q (List.mem_cons_of_mem _ hq), upd_ne (h p List.mem_cons_self).symm]
theorem upds_in : ∀ {ps : List (Addr × HO)} {H : Hp} {p : Addr × HO}, (ps.map (·.1)).Nodup → p ∈ ps → upds H ps p.1 = some p.2
  | q :: r, H, p, hn, hp => by
    rw [List.map_cons, List.nodup_cons] at hn
    rw [upds]
    rcases List.mem_cons.mp hp with rfl | hp
    · rw [upds_old fun x hx e => hn.1 (List.mem_map.mpr ⟨x, hx, e⟩), upd_same]
    · exact upds_in hn.2 hp
def lzP : List Addr → List V → List V → List (Addr × HO)
  | a :: as, x :: xs, y :: ys => (a, .tup [x, y]) :: lzP as xs ys
  | _, _, _ => []
theorem lzP_mem : ∀ {as : List Addr} {xs ys : List V} {p : Addr × HO}, p ∈ lzP as xs ys → ∃ (j : Nat) (x y : V), as[j]? = some p.1 ∧ xs[j]? = some x ∧ ys[j]? = some y ∧ p.2 = .tup [x, y]
  | a :: as, x :: xs, y :: ys, p, h => by
    rw [lzP] at h
    rcases List.mem_cons.mp h with rfl | h
    · exact ⟨0, x, y, rfl, rfl, rfl, rfl⟩
    · obtain ⟨j, x', y', h1, h2, h3, h4⟩ := lzP_mem h
      exact ⟨j + 1, x', y', h1, h2, h3, h4⟩
  | [], _, _, p, h => by simp [lzP] at h
  | _ :: _, [], _, p, h => by simp [lzP] at h
  | _ :: _, _ :: _, [], p, h => by simp [lzP] at h
theorem lzP_addr : ∀ {as : List Addr} {xs ys : List V}, as.length = min xs.length ys.length → (lzP as xs ys).map (·.1) = as
  | [], xs, ys, h => by simp [lzP]
  | a :: as, [], ys, h => by simp at h
  | a :: as, x :: xs, [], h => by simp at h
  | a :: as, x :: xs, y :: ys, h => by
    rw [lzP, List.map_cons, lzP_addr (by simp only [List.length_cons] at h; omega)]
def tLz (K : PySem.W.Frag) (ta : TA) : TE := fun σ H Q => ta σ H fun vs H1 => ∃ l1 l2 a b xs ys, vs = [V.ref a, V.ref b] ∧ Sq K l1 H1 a xs ∧ Sq K l2 H1 b ys ∧
  ∀ (as : List Addr) (S : Addr), as.length = min xs.length ys.length → (S :: as).Nodup → (∀ c ∈ S :: as, H1 c = none) → Q (.ref S) (upd (upds H1 (lzP as xs ys)) S (.lst (as.map V.ref)))
theorem rise_nodup {as : List Addr} (h : as.Pairwise (· < ·)) : as.Nodup := List.nodup_iff_pairwise_ne.mpr (h.imp fun {a b} q => Nat.ne_of_lt q)
theorem lz_inv {X : Cx} {pins : List (Addr × Obj)} {σ : L2.St} {H : Hp} {s : Shared} {h' : Heap} {t' : Nat} {as : List Addr} {S : Addr} {xs ys : List V} {its its2 : List Value} {acc : Array Value} {c : Nat} (I : Inv X pins σ H s)
    (k : ∀ b u, s.heap.get? b = some u → h'.get? b = some u) (rv : Vals xs its) (rv2 : Vals ys its2) (hS : s.heap.objs.size ≤ S) (hSa : ∀ a ∈ as, S < a) (hl : as.length = min xs.length ys.length) (hz : xs.length ≤ sizeLine)
    (G : LzG (fun i v => its.toArray[i]? = some v) (fun i v => its2.toArray[i]? = some v) (S + 1) h' as) (e : h'.get? S = some { cls := .type "list", dict := none, data := .seq acc c, slots := #[] }) (hacc : acc.toList = as.map Value.ref) :
    (S :: as).Nodup ∧ (∀ b ∈ S :: as, H b = none) ∧ Inv X pins σ (upd (upds H (lzP as xs ys)) S (.lst (as.map V.ref))) { s with heap := h', toks := t' } := by
  have hn : (S :: as).Nodup := List.nodup_cons.mpr ⟨fun hm => Nat.lt_irrefl _ (hSa S hm), rise_nodup G.rise⟩
  have hge : ∀ b ∈ S :: as, s.heap.objs.size ≤ b := fun b hb => by
    rcases List.mem_cons.mp hb with rfl | hb
    · exact hS
    · exact Nat.le_trans hS (Nat.le_of_lt (hSa b hb))
  have hfr : ∀ b ∈ S :: as, H b = none := fun b hb => I.hok.fresh (hge b hb)
  have had := lzP_addr (xs := xs) (ys := ys) hl
  have old : ∀ b, b ∉ S :: as → upd (upds H (lzP as xs ys)) S (.lst (as.map V.ref)) b = H b := fun b hb => by
    rw [upd_ne (fun z => hb (by rw [z]; exact List.mem_cons_self)), upds_old fun p hp z => hb (List.mem_cons_of_mem _ (by rw [← had, ← z]; exact List.mem_map.mpr ⟨p, hp, rfl⟩))]
  have ext : ∀ b u, H b = some u → upd (upds H (lzP as xs ys)) S (.lst (as.map V.ref)) b = some u := fun b u q => by
    rw [old b fun hb => by rw [hfr b hb] at q; cases q]
    exact q
  refine ⟨hn, hfr, I.un ⟨fun b u q _ _ _ => k b u q, fun b u q _ _ _ => ⟨u.slots, k b u q⟩, fun b u q n _ => ?_, fun b u q _ => ⟨u, k b u q⟩, fun b zs q => ext b _ q, fun b u zs q => ext b _ q, fun b ps q => ⟨#[], by rw [ext b _ q]; simp⟩⟩ fun b u q => ?_⟩
  · rw [old b fun hb => Nat.lt_irrefl b (Nat.lt_of_lt_of_le (Heap.lt_size q) (hge b hb))]
    exact n
  · by_cases hb : b ∈ S :: as
    · rcases List.mem_cons.mp hb with rfl | ha
      · rw [upd_same] at q
        cases q
        refine ⟨?_, as.map Value.ref, c, vals_refs as, ?_⟩
        · rw [List.length_map, hl]; exact Nat.le_trans (Nat.min_le_left _ _) hz
        · rw [e, ← hacc, Array.toArray_toList]
      · have hne : b ≠ S := fun z => Nat.lt_irrefl _ (hSa S (z ▸ ha))
        rw [upd_ne hne] at q
        obtain ⟨p, hp, rfl⟩ := List.mem_map.mp (show b ∈ (lzP as xs ys).map (·.1) by rw [had]; exact ha)
        rw [upds_in (by rw [had]; exact (List.nodup_cons.mp hn).2) hp] at q
        have q := Option.some.inj q
        obtain ⟨j, x, y, h1, h2, h3, h4⟩ := lzP_mem hp
        rw [← q, h4]
        obtain ⟨v1, v2, e1, e2, hT⟩ := G.pairs j p.1 h1
        obtain ⟨u1, hu1, r1⟩ := rv.get h2
        obtain ⟨u2, hu2, r2⟩ := rv2.get h3
        have w1 : v1 = u1 := by
          have e1 : its.toArray[j]? = some v1 := e1
          rw [List.getElem?_toArray, hu1] at e1; exact (Option.some.inj e1).symm
        have w2 : v2 = u2 := by
          have e2 : its2.toArray[j]? = some v2 := e2
          rw [List.getElem?_toArray, hu2] at e2; exact (Option.some.inj e2).symm
        subst w1 w2
        exact ⟨by show 2 ≤ sizeLine; decide, [v1, v2], .cons r1 (.cons r2 .nil), ⟨_, hT, rfl, _, rfl⟩⟩
    · rw [old b hb] at q
      exact (I.hok b u q).stay (fun c' v _ z => k c' v z) (fun c' z => ext c' _ z) fun c' zs z => ext c' _ z
theorem pe_lz {X : Cx} {e e2 : Expr} {ta : TA} {p p2 pos pos2 : Pos} (hc : X.calm = true) (hg : Gl X "list") (hm : X.mg "list" = none) (hg2 : Gl X "zip") (hm2 : X.mg "zip" = none) (ha : PA X [e, e2] ta)
    (na : starEach [.Call (.Name "zip" p2) [e, e2] [] pos2] X.env = (false, eval (.Call (.Name "zip" p2) [e, e2] [] pos2) X.env) :: starEach [] X.env := by rfl)
    (hs : starEach [e, e2] X.env = (false, eval e X.env) :: starEach [e2] X.env := by rfl) (hpl : (backTo pos2 (starEach [e2] X.env)).any (·.1) = false := by rfl) :
    PE X (.Call (.Name "list" p) [.Call (.Name "zip" p2) [e, e2] [] pos2] [] pos) (tLz X.K ta) := by
  refine ⟨fun pins s σ H Q I h => ?_⟩
  refine Call_ (ld_blt I hg hm boot_list (PyProof.Rows.callWith_type1 (args_cons (Call_ (ld_blt I hg2 hm2 PyProof.Rows.boot_zip (PyProof.Rows.callWith_type1 (thn (ha.run pos2 pins s σ H _ I h) fun us s1 ⟨vs, H1, I1, r1, q1⟩ => ?_) hs hpl))) na) na))
  obtain ⟨l1, l2, a, b, xs, ys, ex, hqx, hqy, q⟩ := q1
  subst ex
  cases r1 with
  | cons r rr =>
    cases rr with
    | cons r' rr =>
      cases rr
      cases r
      cases r'
      obtain ⟨its, rv, p1, hz1⟩ := inv_sq I1 hqx
      obtain ⟨its2, rv2, p3, _⟩ := inv_sq I1 hqy
      have e1 := rv.length
      have e2' := rv2.length
      refine call_zipM p1 p3 fun h2 hz hTI hTO g1 g2 hk => args_nil ?_
      have D := PySem.W.ktu_apart s1.heap.objs.size a b p1.lt p3.lt
      have hh := I1.ok.hd hc
      have dr1 := si_draws (prog := X.prog) (w := X.w) (A := X.A.in1.in1.in1) hh l1 s1.heap.objs.size a D.l1i1 its.toArray
      have dr2 := si_draws (prog := X.prog) (w := X.w) (A := X.A.in1.in1.in1) hh l2 (s1.heap.objs.size + 1) b D.l2i2 its2.toArray
      have hzl : s1.heap.objs.size + 4 < h2.objs.size := Heap.lt_size hz
      have hz0 : s1.heap.objs.size < h2.objs.size := Nat.lt_of_le_of_lt (Nat.le_add_right _ 4) hzl
      have al : a < s1.heap.objs.size := p1.lt
      have bl : b < s1.heap.objs.size := p3.lt
      refine lz_call (s := { s1 with heap := h2 }) (zsep D) dr1 dr2 (fun c hc2 => ?_) (fun c hc2 => ?_) (by rw [List.size_toArray, List.size_toArray]; omega) hz ⟨_, _, hTO⟩ hTI ⟨g1, ?_⟩ ⟨g2, ?_⟩ fun h' tk acc c as hk2 hS hl hG hacc => ?_
      · show c < h2.objs.size
        rcases List.mem_cons.mp hc2 with rfl | hc2
        · exact hz0
        · rw [List.mem_singleton.mp hc2]; exact Nat.lt_trans al hz0
      · show c < h2.objs.size
        rcases List.mem_cons.mp hc2 with rfl | hc2
        · exact Nat.lt_of_le_of_lt (Nat.add_le_add_left (by decide) _) hzl
        · rw [List.mem_singleton.mp hc2]; exact Nat.lt_trans bl hz0
      · exact IsS.at_ p1 hk
      · exact IsS.at_ p3 hk
      · have hkk : ∀ c' u, s1.heap.get? c' = some u → h'.get? c' = some u := fun c' u z => by
          have hlt := Heap.lt_size z
          exact hk2 c' u (Nat.ne_of_lt (Nat.lt_of_lt_of_le hlt (Nat.le_add_right _ 4))) (Nat.ne_of_lt (Nat.lt_of_lt_of_le hlt (Nat.le_add_right _ 3))) (Nat.ne_of_lt hlt) (Nat.ne_of_lt (Nat.lt_of_lt_of_le hlt (Nat.le_add_right _ 1))) (hk c' u z)
        have hl' : as.length = min xs.length ys.length := by
          rw [hl, List.size_toArray, List.size_toArray, e1, e2']
        obtain ⟨q1, q2, I2⟩ := lz_inv (t' := tk) I1 hkk rv rv2 (Nat.le_of_lt hz0) (fun a' ha' => hG.above a' ha') hl' hz1 hG hS hacc
        exact ⟨.ref h2.objs.size, _, I2, rfl, q as h2.objs.size hl' q1 q2⟩
end DL

/-! EU: list(zip(a, b)), over data. -/
namespace DL
open PySem PySem.Spec PyProof.Rows L2
theorem lz_frz {K : PySem.W.Frag} {H0 : Hp} {F0 : FH} {c : Nat} {Γ : DL.Env} {σ : L2.St} {T : Foot} : ∀ (as : List Addr) (xs ys : List D) (vs ws : List V) (F : FH) (H : Hp), EOk K H0 F0 c Γ F σ H T → RfL K F xs vs → RfL K F ys ws → as.Nodup → (∀ a ∈ as, H a = none) → as.length = min xs.length ys.length →
    ∃ F', Le F F' ∧ EOk K H0 F0 c Γ F' σ (upds H (lzP as vs ws)) T ∧ RfL K F' (zipD xs ys) (as.map V.ref)
  | [], xs, ys, vs, ws, F, H, ok, rx, ry, hn, hf, hl => by
    refine ⟨F, Le.refl F, by simpa [lzP, upds] using ok, ?_⟩
    have : zipD xs ys = [] := List.length_eq_zero_iff.mp (by rw [zipD_len, ← hl]; rfl)
    rw [this]
    exact .nil
  | a :: as, [], ys, vs, ws, F, H, ok, rx, ry, hn, hf, hl => by simp at hl
  | a :: as, x :: xs, [], vs, ws, F, H, ok, rx, ry, hn, hf, hl => by simp at hl
  | a :: as, x :: xs, y :: ys, vs, ws, F, H, ok, rx, ry, hn, hf, hl => by
    obtain ⟨v, vs, rfl, r1, rx⟩ := RpL.uncons rx
    obtain ⟨w, ws, rfl, r2, ry⟩ := RpL.uncons ry
    have ha := hf a List.mem_cons_self
    rw [List.nodup_cons] at hn
    have ok1 := ok.new (p := a) (o := .tup [v, w]) ha
    obtain ⟨ok2, l2, _⟩ := ok1.freeze (T1 := [(a, .tup [v, w])])
    have hFa : F a = none := ok.1.ini.none ha
    have rt : Rf K (adds F [(a, .tup [v, w])]) (.tup [x, y]) (.ref a) := Rf.tup (.cons r1 (.cons r2 .nil)) hFa
    obtain ⟨F', l3, ok3, rr⟩ := lz_frz as xs ys vs ws _ _ ok2 (RfL.le l2 rx) (RfL.le l2 ry) hn.2 (fun b hb => by
      have hne : b ≠ a := fun z => hn.1 (by rw [← z]; exact hb)
      rw [upd_ne hne]
      exact hf b (List.mem_cons_of_mem _ hb)) (by simp only [List.length_cons] at hl; omega)
    refine ⟨F', l2.trans l3, ok3, ?_⟩
    rw [zipD, List.map_cons]
    exact .cons (Rf.le l3 rt) rr
/-- list(zip(a, b)) -/
def lzipS : Spc where
  run := fun ds k _ => ∃ (d1 d2 : D) (xs ys : List D), ds = [d1, d2] ∧ d1.seq? = some xs ∧ d2.seq? = some ys ∧ k (.lst ((zipD xs ys).map .fz))
  ce := 0
  ar := 2
theorem de_lzip {X : Cx} {e e2 : Expr} {sa sb : SE} {p p2 pos pos2 : Pos} (hc : X.calm = true) (hg : Gl X "list") (hm : X.mg "list" = none) (hg2 : Gl X "zip") (hm2 : X.mg "zip" = none) (ha : DA X [e, e2] [sa, sb])
    (na : starEach [.Call (.Name "zip" p2) [e, e2] [] pos2] X.env = (false, eval (.Call (.Name "zip" p2) [e, e2] [] pos2) X.env) :: starEach [] X.env := by rfl)
    (hs : starEach [e, e2] X.env = (false, eval e X.env) :: starEach [e2] X.env := by rfl) (hpl : (backTo pos2 (starEach [e2] X.env)).any (·.1) = false := by rfl) :
    DE X (.Call (.Name "list" p) [.Call (.Name "zip" p2) [e, e2] [] pos2] [] pos) (.call lzipS [sa, sb]) := by
  refine (pe_lz hc hg hm hg2 hm2 ha na hs hpl).mono fun σ H Q ⟨e', H0, F0, Γ, F, c, T, k, xo, ok, hcc, hw, fin⟩ => ?_
  have hw : wpE e' (.call lzipS [sa, sb]) Γ k := hw
  rw [wpE] at hw
  have hle : 2 ^ costL [sa, sb] ≤ 2 ^ costE (.call lzipS [sa, sb]) := pmono (by rw [costE]; omega)
  refine ⟨e', H0, F0, Γ, F, c, T, _, xo, ok, Nat.le_trans (Nat.add_le_add_left hle _) hcc, hw, fun ds Γ2 F2 c2 vs H2 q2 hc2 l3 ok3 r3 => ?_⟩
  obtain ⟨d1, d2, xs, ys, rfl, s1, s2, hk⟩ := q2
  obtain ⟨v, w, rfl, a1, a2⟩ := RfL.two r3
  obtain ⟨b1, a, us, rfl, h1, g1⟩ := seq_sq a1 s1
  obtain ⟨b2, b, ws, rfl, h2, g2⟩ := seq_sq a2 s2
  refine ⟨b1, b2, a, b, us, ws, rfl, h1.same ok3.1.ini.same, h2.same ok3.1.ini.same, fun as S hl hn hf => ?_⟩
  rw [List.nodup_cons] at hn
  obtain ⟨F', l4, ok4, rr⟩ := lz_frz as xs ys us ws F2 H2 ok3 g1 g2 hn.2 (fun a' ha' => hf a' (List.mem_cons_of_mem _ ha')) (by rw [RpL.length g1, RpL.length g2]; exact hl)
  have had := lzP_addr (xs := us) (ys := ws) hl
  have hS : upds H2 (lzP as us ws) S = none := by
    rw [upds_old fun p hp z => hn.1 (by rw [← had, ← z]; exact List.mem_map.mpr ⟨p, hp, rfl⟩)]
    exact hf S List.mem_cons_self
  exact fin _ Γ2 F' c2 _ _ [(S, .lst (as.map V.ref))] hk (Nat.le_trans hc2 (Nat.add_le_add_left hle _)) (l3.trans l4) (ok4.new hS) (RpT.newL rr)
end DL

/-! EV: max of a list of data that are alike. -/
namespace DL
open PySem PySem.Spec PyProof.Rows L2 PySem.W
theorem reads_each {h : Heap} : ∀ {us : List Value} {bs : List (D × V)}, EachIs (fun u (b : D × V) => ∃ as, Reads h u b.1.py as) us bs → ∃ as, ReadsAll h us (bs.map fun b => b.1.py) as
  | _, _, .nil => ⟨_, .nil⟩
  | _, _, .cons h t => by
    obtain ⟨as, h1⟩ := h
    obtain ⟨bs, h2⟩ := reads_each t
    exact ⟨_, .cons h1 h2⟩
theorem each_at {α β : Type} {R : α → β → Prop} : ∀ {as : List α} {bs : List β}, EachIs R as bs → ∀ (i : Nat) (a : α), as[i]? = some a → ∃ b, bs[i]? = some b ∧ R a b
  | _, _, .nil, i, a, h => by simp at h
  | _, _, .cons r t, 0, a, h => by simp at h; subst h; exact ⟨_, rfl, r⟩
  | _, _, .cons r t, i + 1, a, h => by
    obtain ⟨b, h1, h2⟩ := each_at t i a (by simpa using h)
    exact ⟨b, by simpa using h1, h2⟩
theorem depth_all {n : Nat} : ∀ {xs : List PyData}, (∀ x ∈ xs, x.depth ≤ n) → PyData.depthAll xs ≤ n
  | [], _ => Nat.zero_le _
  | x :: xs, h => by
    rw [PyData.depthAll]
    exact Nat.max_le.mpr ⟨h x List.mem_cons_self, depth_all fun y hy => h y (List.mem_cons_of_mem _ hy)⟩
def rMaxDat (K : PySem.W.Frag) : List V → Hp → VK → Prop := fun xs H Q => ∃ p d ds vs, xs = [V.ref p] ∧ SqL K H p vs ∧ (d :: ds).length = vs.length ∧ DpAll K H vs ((d :: ds).map D.py) ∧ AlikeAll ((d :: ds).map D.py) ∧ D.plains 20 (d :: ds) = true ∧
  ∀ (i : Nat) (y : D) (v : V), (d :: ds)[i]? = some y → vs[i]? = some v → y.py = maxD d.py (ds.map D.py) → Q v H
theorem cr_maxDat {X : Cx} (hc : X.calm = true) (hu : X.A.units + 64 < cLine) : CallR X (.builtin "max") (rMaxDat X.K) := by
  intro pins s σ H xs us Q I r h
  obtain ⟨p, d, ds, vs, rfl, hs, hl, hd, hal, hpl, q⟩ := h
  cases r with
  | cons r rr =>
    cases rr
    cases r
    obtain ⟨its, rv, pl, hz⟩ := I.list hs
    obtain ⟨e1, e2⟩ := each_zip I hl rv hd
    obtain ⟨as, hra⟩ := reads_each e2
    have em : ((d :: ds).zip vs).map (fun b => b.1.py) = (d :: ds).map D.py := by
      rw [← zip_map1 hl, List.map_map, zip_map1 hl]
      rfl
    rw [em] at hra
    have hdep : PyData.depthAll ((d :: ds).map D.py) ≤ 20 := depth_all fun x hx => by
      obtain ⟨y, hy, rfl⟩ := List.mem_map.mp hx
      exact (plain_lay 20 y (plains_mem hpl hy)).2
    rw [List.map_cons] at hra hal hdep
    refine max_list_data (I.ok.hd hc) pl.isList (by simpa using hra) hal (by omega) fun i v h' tk bs hv hr hk => ?_
    have hv : its[i]? = some v := by simpa using hv
    obtain ⟨b, hb, a2, hrd⟩ := each_at e2 i v hv
    obtain ⟨b', hb', hrel⟩ := each_at e1 i v hv
    rw [hb] at hb'
    cases hb'
    obtain ⟨e3, _⟩ := reads_det (fun c o q _ => hk c o q) hrd hr
    obtain ⟨g1, g2⟩ := List.getElem?_zip_eq_some.mp hb
    exact ⟨b.2, H, I.kept hk, hrel, q i b.1 b.2 g1 g2 e3.symm⟩
/-- max of a list of data -/
def maxDS : Spc where
  run := fun ds k _ => ∃ (x : D) (xs : List D), ds = [.lst (x :: xs)] ∧ AlikeAll ((x :: xs).map D.py) ∧ D.plains 20 (x :: xs) = true ∧ ∀ y ∈ x :: xs, y.py = maxD x.py (xs.map D.py) → k (.fz y)
  ce := 0
  ar := 1
theorem fv_maxDat {K : PySem.W.Frag} : FnV K (rMaxDat K) maxDS := by
  intro ds vs c F H k x Q hx i rd h fin
  obtain ⟨d, xs, rfl, h1, h2, h3⟩ := h
  obtain ⟨v, ws, rfl, rv, rd⟩ := RpL.uncons rd
  obtain rfl := RpL.nil_inv rd
  rw [Rp] at rv
  obtain ⟨a, us, rfl, ha, rr⟩ := rv
  refine ⟨a, d, xs, us, rfl, .inl (.inl (i.same _ _ ha)), RpL.length rr, DpAll_of h2 (RfL.h rr i), h1, h2, fun j y v hy hv he => ?_⟩
  obtain ⟨w, hw, hr⟩ := RpL.get rr hy
  rw [hv] at hw
  cases hw
  exact fin _ _ H (h3 y (List.mem_of_getElem? hy) he) (.old hr)
end DL

/-! EW: list(range(a, b, step)), step positive. -/
namespace DL
open PySem PySem.Spec PyProof.Rows L2
/-- the number of a, a + c, .. below b -/
def stN (a b c : Int) : Nat := if a < b then ((b - a - 1) / c + 1).toNat else 0
def stD (a b c : Int) : List D := (List.range (stN a b c)).map fun i : Nat => .int (a + (i : Int) * c)
def stV (a b c : Int) : List V := (List.range (stN a b c)).map fun i : Nat => V.int (a + (i : Int) * c)
def StOk (a b c : Int) : Prop := 0 ≤ a ∧ a ≤ 1000000 ∧ 0 ≤ b ∧ b ≤ 1000000 ∧ 1 ≤ c ∧ c ≤ 1000000
def lrange3S : Spc where
  run := fun ds k _ => ∃ a b c : Int, ds = [.int a, .int b, .int c] ∧ StOk a b c ∧ k (.lst ((stD a b c).map .fz))
  ce := 0
  ar := 3
theorem stN_size {a b c : Int} (h : StOk a b c) : Builtin.Range.rangeSize a b c = (stN a b c : Int) := by
  obtain ⟨h1, h2, h3, h4, h5, h6⟩ := h
  unfold Builtin.Range.rangeSize stN
  rw [if_pos (show c > 0 by omega)]
  split
  · have : 0 ≤ (b - a - 1) / c := Int.ediv_nonneg (by omega) (by omega)
    omega
  · rfl
theorem stN_le {a b c : Int} (h : StOk a b c) : stN a b c ≤ (b - a).toNat := by
  obtain ⟨h1, h2, h3, h4, h5, h6⟩ := h
  unfold stN
  split
  · have : (b - a - 1) / c ≤ b - a - 1 := Int.ediv_le_self _ (by omega)
    omega
  · omega
theorem st_lt {a b c : Int} (h : StOk a b c) {i : Nat} (hi : i < stN a b c) : a + (i : Int) * c < b := by
  obtain ⟨h1, h2, h3, h4, h5, h6⟩ := h
  unfold stN at hi
  split at hi
  · rename_i hab
    have h7 : 0 ≤ (b - a - 1) / c := Int.ediv_nonneg (by omega) (by omega)
    have h8 : (i : Int) ≤ (b - a - 1) / c := by omega
    have h9 : (i : Int) * c ≤ (b - a - 1) / c * c := Int.mul_le_mul_of_nonneg_right h8 (by omega)
    have h10 : (b - a - 1) / c * c ≤ b - a - 1 := Int.ediv_mul_le _ (by omega)
    omega
  · omega
/-- what stands in the list -/
theorem st_mem {a b c : Int} (h : StOk a b c) {d : D} (hd : d ∈ stD a b c) : ∃ n : Nat, d = .int (n : Int) ∧ a ≤ n ∧ (n : Int) < b := by
  unfold stD at hd
  obtain ⟨i, hi, rfl⟩ := List.mem_map.mp hd
  have h1 := st_lt h (List.mem_range.mp hi)
  have h2 : 0 ≤ (i : Int) * c := Int.mul_nonneg (by omega) (by have := h.2.2.2.2.1; omega)
  have h3 := h.1
  exact ⟨(a + (i : Int) * c).toNat, by rw [Int.toNat_of_nonneg (by omega)], by omega, by omega⟩
theorem rfl_st {K : PySem.W.Frag} {F : FH} (a b c : Int) : RfL K F (stD a b c) (stV a b c) := by
  refine RpL.of_get (by unfold stD stV; simp) fun i d v h1 h2 => ?_
  unfold stD at h1
  unfold stV at h2
  rw [List.getElem?_map, Option.map_eq_some_iff] at h1 h2
  obtain ⟨a, h3, rfl⟩ := h1
  obtain ⟨b, h4, rfl⟩ := h2
  rw [h3] at h4
  cases h4
  exact rf_int.mpr rfl
theorem small_st {a b c : Int} (h : StOk a b c) : Builtin.Range.small a b c = true := by
  have hs := stN_size h
  have hl := stN_le h
  obtain ⟨h1, h2, h3, h4, h5, h6⟩ := h
  unfold Builtin.Range.small
  rw [hs]
  simp only [Builtin.Range.rangeFitsLong, Bool.and_eq_true, Bool.or_eq_true, decide_eq_true_eq, beq_iff_eq]
  rw [if_pos (show c > 0 by omega)]
  simp only [Bool.and_eq_true, decide_eq_true_eq]
  generalize stN a b c = n at *
  omega
def rLst3 : List V → Hp → VK → Prop := fun vs H Q => ∃ a b c : Int, vs = [.int a, .int b, .int c] ∧ StOk a b c ∧ ∀ q, H q = none → Q (.ref q) (upd H q (.lst (stV a b c)))
section
variable {X : Cx} {a b x : Expr} {p p2 pos pos2 : Pos}
theorem vals_st {a b c : Int} {acc : Array Value} (h : ItemsOf (fun i v => ∃ t, v = .int (a + i * c) t) acc (stN a b c)) : Vals (stV a b c) acc.toList := by
  have e : acc.toList.length = stN a b c := by rw [Array.length_toList]; exact h.1
  unfold stV
  rw [← e]
  refine vals_of_get acc.toList _ fun j u hj => ?_
  obtain ⟨t, rfl⟩ := h.2 j u (by rw [← hj, Array.getElem?_toList])
  exact ⟨t, rfl⟩
theorem pe_lst3 (hc : X.calm = true) (hg : Gl X "list") (hm : X.mg "list" = none) (hg2 : Gl X "range") (hm2 : X.mg "range" = none) {ta : TA} (ha : PA X [a, b, x] ta)
    (hs : starEach [a, b, x] X.env = (false, eval a X.env) :: starEach [b, x] X.env := by rfl) (hpl : (backTo pos2 (starEach [b, x] X.env)).any (·.1) = false := by rfl)
    (nb : starEach [.Call (.Name "range" p2) [a, b, x] [] pos2] X.env = (false, eval (.Call (.Name "range" p2) [a, b, x] [] pos2) X.env) :: starEach [] X.env := by rfl) :
    PE X (.Call (.Name "list" p) [.Call (.Name "range" p2) [a, b, x] [] pos2] [] pos) (tCB rLst3 ta) := by
  refine ⟨fun pins s σ H Q I h => ?_⟩
  refine Call_ (ld_blt I hg hm boot_list (PyProof.Rows.callWith_type1 (args_cons (thn (Q := fun v s' => ∃ r i j k t t' t'' H', v = .ref r ∧ IsRange s'.heap r i j k t t' t'' ∧ Inv X pins σ H' s' ∧ StOk i j k ∧ ∀ q, H' q = none → Q (.ref q) (upd H' q (.lst (stV i j k)))) ?_ fun v s1 hh => args_nil ?_) nb) nb))
  · refine Call_ (ld_blt I hg2 hm2 boot_range (PyProof.Rows.callWith_type1 (thn (ha.run pos2 pins s σ H _ I h) fun us s1 ⟨vs, H1, I1, r1, q1⟩ => ?_) hs hpl))
    obtain ⟨i, j, k, e, ok, q⟩ := q1
    subst e
    cases r1 with
    | cons r rr =>
      cases rr with
      | cons r' rr =>
        cases rr with
        | cons r'' rr =>
          cases rr
          obtain ⟨t, rfl⟩ := r
          obtain ⟨t', rfl⟩ := r'
          obtain ⟨t'', rfl⟩ := r''
          have ok' := ok
          obtain ⟨h1, h2, h3, h4, h5, h6⟩ := ok'
          refine call_range_3 (by omega) ?_ (.inl (PyProof.noPylong_small (by omega)))
          exact ⟨_, i, j, k, _, _, _, H1, rfl, IsRange.new _ _ _ _ _ _ _, I1.kept fun b u e => Heap.get?_push_of_some _ e, ok, q⟩
  · obtain ⟨r, i, j, k, t, t', t'', H1, ex, hr, I1, ok, q⟩ := hh
    subst ex
    have hl := stN_le ok
    have h4 := ok.2.2.2.1
    have h1 := ok.1
    refine call_list_range (n := stN i j k) (I1.ok.hd hc) hr (small_st ok) (stN_size ok) (by omega) fun h' tk acc c' hk e' hi => ?_
    refine ⟨.ref s1.heap.objs.size, upd H1 s1.heap.objs.size (.lst (stV i j k)), I1.laid hk (Nat.le_refl _) (show ObjOk X.prog X.w _ _ _ (.lst (stV i j k)) from ⟨?_, acc.toList, c', vals_st hi, ?_⟩), rfl, q _ (I1.hok.fresh (Nat.le_refl _))⟩
    · unfold stV
      rw [List.length_map, List.length_range, sizeLine_eq]; omega
    · rw [Array.toArray_toList]; exact e'
theorem fv_lst3 {K : PySem.W.Frag} : FnV K rLst3 lrange3S := by
  intro ds vs c F H k x Q hx i rd h fin
  obtain ⟨a, b, s, rfl, ok, h⟩ := h
  obtain ⟨v1, v2, v3, rfl, r1, r2, r3⟩ := RfL.three rd
  exact ⟨a, b, s, by rw [rf_int.mp r1, rf_int.mp r2, rf_int.mp r3], ok, fun q hq => fin _ _ _ h (Res.newL (rfl_st (F := _) a b s) hq)⟩
theorem de_lrange3 (hc : X.calm = true) (hg : Gl X "list") (hm : X.mg "list" = none) (hg2 : Gl X "range") (hm2 : X.mg "range" = none) {ss : List SE} (ha : DA X [a, b, x] ss)
    (hs : starEach [a, b, x] X.env = (false, eval a X.env) :: starEach [b, x] X.env := by rfl) (hpl : (backTo pos2 (starEach [b, x] X.env)).any (·.1) = false := by rfl)
    (nb : starEach [.Call (.Name "range" p2) [a, b, x] [] pos2] X.env = (false, eval (.Call (.Name "range" p2) [a, b, x] [] pos2) X.env) :: starEach [] X.env := by rfl) :
    DE X (.Call (.Name "list" p) [.Call (.Name "range" p2) [a, b, x] [] pos2] [] pos) (.call lrange3S ss) :=
  de_fn (fun h => pe_lst3 hc hg hm hg2 hm2 h hs hpl nb) fv_lst3 ha
end
end DL

/-! EX: own defs with a keyword-only parameter whose default is a bool. -/
namespace DL
open PySem PySem.Spec PyProof.Rows L2
/-- what is called: a def with keyword-only parameters -/
structure CbN (P : Program) (w : World) (K : PySem.W.Frag) (mg : Str → Option Value) (base : Heap) (k : Nat) (x : Str) (f : Addr) (fd : FuncData) (ps : List Str) (S : Spc) : Prop where
  fn : FnG P w K mg base k f fd ps S
  g : mg x = some (.ref f)
  kp : PySem.W.keepIn K (.ref f) = true
/-- the last argument left out -/
def dflS (S : Spc) (b : Bool) : Spc where
  run := fun ds k x => S.run (ds ++ [.bl b]) k x
  ce := S.ce
  ar := S.ar
theorem dflS_run (S : Spc) (b : Bool) (ds : List D) (k : OT → Prop) (x : Ex → Prop) : (dflS S b).run ds k x = S.run (ds ++ [.bl b]) k x := rfl
section
variable {X : Cx} {k : Nat} {f : Addr} {fd : FuncData} {ps ks : List Str} {S : Spc} {n : Str} {p pos : Pos} {e : Expr} {es : List Expr} {t tk : TA} {ss sk : List SE} {kws : List Keyword} {ix : List Nat} {b : Bool}
theorem pe_callD (F : CbN X.prog X.w X.K X.mg X.base k n f fd ps S) (hb : Binds X.K fd ps [.bool b]) (hr : Room k X.A) (hgd : X.A.guards = some []) (hg : Gl X n) (ha : PA X (e :: es) t)
    (hdb : (n == ("__debug__" : Str)) = false := by decide) (he : starEach (e :: es) X.env = (false, eval e X.env) :: starEach es X.env := by rfl) (hpl : (backTo pos (starEach es X.env)).any (·.1) = false := by rfl) :
    PE X (.Call (.Name n p) (e :: es) [] pos) (tCallG X.K (dflS S b) t) := by
  refine ⟨fun pins s σ H Q I h => ?_⟩
  refine wpAny_Call_Name_kw (ld_glob I hg F.g ?_ hdb)
  refine PySem.W.callWith_K (h₀ := X.base) I.ok.mod.kin F.kp (thn (ha.run pos pins s σ H _ I h) fun us s1 ⟨vs, H1, I1, r, q⟩ => ⟨I1.kIn, ?_⟩) he hpl
  obtain ⟨ds, G, c, kk, x, hx, ini, bud, hds, hrun, fin⟩ := q
  exact wp_call_of (run_fnG F.fn hr hgd I1 (args := ⟨us, []⟩) (us := us ++ [.bool b]) (vs := vs ++ [.bl b]) (fun hl => hb s1 us I1.kIn hl) (r.append (.cons (show RelV (V.bl b) (Value.bool b) from rfl) .nil)) ⟨ds ++ [D.bl b], G, c, kk, x, hx, ini, bud, hds.append (.cons (rf_bl.mpr rfl) .nil), hrun, fin⟩)
theorem de_callD (F : CbN X.prog X.w X.K X.mg X.base k n f fd ps S) (hb : Binds X.K fd ps [.bool b]) (hr : Room k X.A) (hgd : X.A.guards = some []) (hg : Gl X n) (ha : DA X (e :: es) ss)
    (hdb : (n == ("__debug__" : Str)) = false := by decide) (he : starEach (e :: es) X.env = (false, eval e X.env) :: starEach es X.env := by rfl) (hpl : (backTo pos (starEach es X.env)).any (·.1) = false := by rfl) :
    DE X (.Call (.Name n p) (e :: es) [] pos) (.call (dflS S b) ss) := callG_of (pe_callD F hb hr hgd hg ha hdb he hpl)
theorem kg_finN (F : CbN X.prog X.w X.K X.mg X.base k n f fd ps S) (kb : KBi fd ps ks) (hr : Room k X.A) (hgd : X.A.guards = some []) {pins : List (Addr × Obj)} {σ : L2.St} {H2 : Hp} {Q : VK} {us ws : List Value} {vs zs : List V} {s2 : Shared}
    (I2 : Inv X pins σ H2 s2) (r1 : Vals vs us) (r2 : Vals zs ws) (hl : zs.length = ks.length) (q : spG X.K S (vs ++ zs) H2 Q) : wpAny (model X.prog X.w) X.A (call (.ref f) us (ks.zip ws)) (EP X pins σ Q) X.xe s2 :=
  wp_call_of (run_fnG F.fn hr hgd I2 (args := ⟨us, ks.zip ws⟩) (us := us ++ ws) (vs := vs ++ zs) (fun hl2 => kb.to s2 us ws (by rw [← r2.length]; exact hl) hl2) (r1.append r2) q)
theorem pe_callKGN (F : CbN X.prog X.w X.K X.mg X.base k n f fd ps S) (kb : KBi fd ps ks) (hr : Room k X.A) (hgd : X.A.guards = some []) (hg : Gl X n) (ha : PA X (e :: es) t) (hkw : PK X kws tk)
    (hall : (backToKw pos (keywordEach kws X.env)).all (·.1.isSome) = true := by rfl) (hks : (backToKw pos (keywordEach kws X.env)).filterMap (·.1) = ks := by rfl)
    (hdb : (n == ("__debug__" : Str)) = false := by decide) (he : starEach (e :: es) X.env = (false, eval e X.env) :: starEach es X.env := by rfl)
    (hpl : ((backTo pos (starEach (e :: es) X.env)).any (·.1) || (backToKw pos (keywordEach kws X.env)).any (·.1.isNone)) = false := by rfl) :
    PE X (.Call (.Name n p) (e :: es) kws pos) (tCallKG X.K S ks.length t tk) := by
  refine ⟨fun pins s σ H Q I h0 => ?_⟩
  refine wpAny_Call_Name_kw (ld_glob I hg F.g ?_ hdb)
  refine PySem.W.callWith_KW (h₀ := X.base) I.ok.mod.kin F.kp hall (thn (ha.run pos pins s σ H _ I h0) fun us s1 ⟨vs, H1, I1, r, q⟩ => ?_) hpl he
  refine thn (hkw.run pos pins s1 σ H1 _ I1 q) fun ws s2 ⟨zs, H2, I2, rz, hl, q2⟩ => ⟨I2.kIn, ?_⟩
  rw [hks]
  exact kg_finN F kb hr hgd I2 r rz hl q2
theorem de_callKN (F : CbN X.prog X.w X.K X.mg X.base k n f fd ps S) (kb : KBi fd ps ks) (hr : Room k X.A) (hgd : X.A.guards = some []) (hg : Gl X n) (ha : DA X (e :: es) ss) (hkw : DK X kws sk) (hn : sk.length = ks.length := by rfl)
    (hall : (backToKw pos (keywordEach kws X.env)).all (·.1.isSome) = true := by rfl) (hks : (backToKw pos (keywordEach kws X.env)).filterMap (·.1) = ks := by rfl)
    (hdb : (n == ("__debug__" : Str)) = false := by decide) (he : starEach (e :: es) X.env = (false, eval e X.env) :: starEach es X.env := by rfl)
    (hpl : ((backTo pos (starEach (e :: es) X.env)).any (·.1) || (backToKw pos (keywordEach kws X.env)).any (·.1.isNone)) = false := by rfl) :
    DE X (.Call (.Name n p) (e :: es) kws pos) (.call S (ss ++ sk)) := callKG_of (pe_callKGN F kb hr hgd hg ha hkw hall hks hdb he hpl) hn
theorem pe_callKPN (F : CbN X.prog X.w X.K X.mg X.base k n f fd ps S) (kb : KBiP fd ps ks ix) (hr : Room k X.A) (hgd : X.A.guards = some []) (hg : Gl X n) (hkw : PK X kws tk)
    (hall : (backToKw pos (keywordEach kws X.env)).all (·.1.isSome) = true := by rfl) (hks : (backToKw pos (keywordEach kws X.env)).filterMap (·.1) = ks := by rfl)
    (hdb : (n == ("__debug__" : Str)) = false := by decide)
    (hpl : ((backTo pos (starEach [] X.env)).any (·.1) || (backToKw pos (keywordEach kws X.env)).any (·.1.isNone)) = false := by rfl) :
    PE X (.Call (.Name n p) [] kws pos) (tCallKG X.K (permS S ix) ks.length tNil tk) := by
  refine ⟨fun pins s σ H Q I h0 => ?_⟩
  refine wpAny_Call_Name_kw (ld_glob I hg F.g ?_ hdb)
  refine PySem.W.callWith_KW0 (h₀ := X.base) I.ok.mod.kin F.kp hall (thn (hkw.run pos pins s σ H _ I h0) fun ws s2 ⟨zs, H2, I2, rz, hl, q2⟩ => ⟨I2.kIn, ?_⟩) hpl
  rw [hks]
  obtain ⟨ds, G, c, kk, x, hx, ini, bud, hds, hrun, fin⟩ := q2
  exact wp_call_of (run_fnG F.fn hr hgd I2 (args := ⟨[], ks.zip ws⟩) (us := prm ix ws) (vs := prm ix zs) (fun hl2 => kb.to s2 ws (by rw [← rz.length]; exact hl)) (vals_prm rz ix) ⟨prm ix ds, G, c, kk, x, hx, ini, bud, rfl_prm hds ix, hrun, fin⟩)
theorem de_callKPN (F : CbN X.prog X.w X.K X.mg X.base k n f fd ps S) (kb : KBiP fd ps ks ix) (hr : Room k X.A) (hgd : X.A.guards = some []) (hg : Gl X n) (hkw : DK X kws sk) (hn : sk.length = ks.length := by rfl)
    (hall : (backToKw pos (keywordEach kws X.env)).all (·.1.isSome) = true := by rfl) (hks : (backToKw pos (keywordEach kws X.env)).filterMap (·.1) = ks := by rfl)
    (hdb : (n == ("__debug__" : Str)) = false := by decide)
    (hpl : ((backTo pos (starEach [] X.env)).any (·.1) || (backToKw pos (keywordEach kws X.env)).any (·.1.isNone)) = false := by rfl) :
    DE X (.Call (.Name n p) [] kws pos) (.call (permS S ix) sk) := by
  have h : PE X (.Call (.Name n p) [] kws pos) (tCallKG X.K (permS S ix) ks.length (AR X.K (fun e => wpA e []) (2 ^ costL [])) (AR X.K (fun e => wpA e sk) (2 ^ costL sk))) :=
    (pe_callKPN F kb hr hgd hg hkw hall hks hdb hpl).mono fun σ H Q hq => ar_nil (Q := fun vs H1 => AR X.K (fun e => wpA e sk) (2 ^ costL sk) σ H1 fun zs H2 => zs.length = ks.length ∧ spG X.K (permS S ix) (vs ++ zs) H2 Q) hq
  exact callKG_of (ss := []) h hn
end
/-- a keyword-only default, looked up where the def keeps it -/
theorem binds_kw {K : PySem.W.Frag} {fd : FuncData} {ps : List Str} {Dk : Addr} {nm : Str} {b : Bool} {m : Nat} (hm : ps.length = m + 1) (hq : PySem.W.nsIn K Dk nm = some (some (.bool b)))
    (h : ∀ us : List Value, us.length = m → KwChain Dk [(nm, .bool b)] (bindArgs fd ⟨us, []⟩) (ps.zip (us ++ [.bool b]))) : Binds K fd ps [.bool b] := fun s us X hl => by
  have l2 : us.length = m := by
    rw [List.length_append, List.length_singleton, hm] at hl
    omega
  exact BindsTo.of_looks fun M => KwChain.looks X (fun q hq2 => by rw [List.mem_singleton.mp hq2]; exact hq) (h us l2)
end DL

namespace M21
open PySem PySem.Spec PyProof.Rows L2 DL
/-! law_k21_whole_sorted_tables -/
def topS (i : Nat) : Stmt := PySem.Challenge.pw_dittorows_k21_whole_sorted_tables.main.body.getD i (.Pass ⟨0, 0, 0, 0⟩)
abbrev s_is_integer : Stmt := topS 11
theorem sc_is_integer : FnScope ["value", "low", "high"] ["value", "low", "high"] (defScope s_is_integer) := ⟨rfl, rfl, rfl, by decide +kernel, rfl, by decide +kernel, by decide +kernel⟩
def sb_is_integer : List SS :=
  [.ifs (.orE (.notE (.isi (.var 0) .int_)) (.isi (.var 0) .bool_)) [.ret (.cst (.bl false))] [], .ret (.andE (.cmp .le (.var 1) (.var 0)) (.orE (.cmp .is_ (.var 2) (.cst .non)) (.cmp .le (.var 0) (.var 2))))]
set_option maxHeartbeats 0 in
theorem g_is_integer {P : Program} {w : World} {K : PySem.W.Frag} {mg : Str → Option Value} {base : Heap} {f : Addr} {fd : FuncData} (Fu : Fun K "is_integer" "is_integer" s_is_integer f fd) (b_isinstance : mg "isinstance" = none) (b_bool : mg "bool" = none) (b_int : mg "int" = none) :
    FnG P w K mg base 1 f fd ["value", "low", "high"] (rawS 3 3 (sb_is_integer)) :=
  fng_of Fu sc_is_integer fun cdv A outer s H hr hgd =>
    dss_cons (ds_if ((dt_or2 (dt_not ((de_isi (t := .int_) (by rfl) b_isinstance (do_var (pv 0)) (by decide) (by rfl) b_int PyProof.Rows.boot_int).t)) (pw_or1 ((de_isi (t := .bool_) (by rfl) b_isinstance (do_var (pv 0)) (by decide) (by rfl) b_bool PyProof.Rows.boot_bool).t))).pt) (dss_cons (ds_ret (de_bl)) (dss_nil)) (dss_nil)) (dss_cons (ds_ret (de_and2 (de_cmp op_le (nomark _) cv_le (do_var (pv 1)) (do_var (pv 0))) (DL.de_one (de_or2 (de_cmp op_isN (nomark _) cv_is (do_var (pv 2)) ((de_non).o)) (DL.de_one (de_cmp op_le (nomark _) cv_le (do_var (pv 0)) (do_var (pv 2)))))))) (dss_nil))
abbrev s_is_cell : Stmt := topS 12
theorem sc_is_cell : FnScope ["value", "sign"] ["value"] (defScope s_is_cell) := ⟨rfl, rfl, rfl, by decide +kernel, rfl, by decide +kernel, by decide +kernel⟩
def sb_is_cell : List SS :=
  [.ret (.andE (.isi (.var 0) .str_) (.andE (.chain .le .le (.cst (.int 1)) (.bi .len [.var 0]) (.cst (.int 8))) (.bi .all_ [.lc [1] (.nm 1) (.seq (.var 0)) [] (.cmp .in_ (.var 1) (.cst (.str "abcdefghijklmnopqrstuvwxyz0123456789")))])))]
set_option maxHeartbeats 0 in
theorem g_is_cell {P : Program} {w : World} {K : PySem.W.Frag} {mg : Str → Option Value} {base : Heap} {f : Addr} {fd : FuncData} (Fu : Fun K "is_cell" "is_cell" s_is_cell f fd) (b_all : mg "all" = none) (b_len : mg "len" = none) (b_isinstance : mg "isinstance" = none) (b_str : mg "str" = none) {t_SIGNS : Tok} (g_SIGNS : mg "SIGNS" = some (.str "abcdefghijklmnopqrstuvwxyz0123456789" t_SIGNS)) {t_MOST_SIGNS : Tok} (g_MOST_SIGNS : mg "MOST_SIGNS" = some (.int 8 t_MOST_SIGNS)) :
    FnG P w K mg base 1 f fd ["value"] (rawS 2 1 (sb_is_cell)) :=
  fng_of Fu sc_is_cell fun cdv A outer s H hr hgd =>
    dss_cons (ds_ret (de_and2 (de_isi (t := .str_) (by rfl) b_isinstance (do_var (pv 0)) (by decide) (by rfl) b_str PyProof.Rows.boot_str) (de_and2 (de_chain op_le op_le cv_le cv_le ((de_int).o) ((de_bi (fun h => pe_callB c_len (by rfl) b_len PySem.boot_len h) bv_len (dos_cons (do_var (pv 0)) (dos_nil))).o) ((de_gint (by rfl) g_MOST_SIGNS).o) (fun a b c => pe_chain op_le op_le a b c)) (DL.de_one (de_bi (fun h => pe_callB (cr_all rfl) (by rfl) b_all PyProof.Rows.boot_all h) bv_all (dos_cons ((de_lc (own := [("sign", 1)]) rfl sc_is_cell.nd (di_seq (de_var (pv 0))) (blkOk_by (by first | rfl | kernel_rfl)) (by decide) (fun _ _ _ _ _ => dg_nm sc_is_cell.nd rfl (by first | exact .inl rfl | exact .inr rfl)) (fun _ _ _ _ _ => dcs_nil) (fun _ _ _ _ _ => de_cmp op_inA (by with_unfolding_all rfl) cv_in (do_var (pv 1)) ((de_gstr (by rfl) g_SIGNS).o))).o) (dos_nil))))))) (dss_nil)
abbrev s_blanks_in : Stmt := topS 13
theorem sc_blanks_in : FnScope ["cells", "found"] ["cells"] (defScope s_blanks_in) := ⟨rfl, rfl, rfl, by decide +kernel, rfl, by decide +kernel, by decide +kernel⟩
def sb_blanks_in : List SS :=
  [.asg (.nm 1) (.cst (.int 0)), .while_ (.andE (.cmp .lt (.var 1) (.bi .len [.var 0])) (.cmp .is_ (.ix (.var 0) (.var 1)) (.cst .non))) [.asg (.nm 1) (.bin .add (.var 1) (.cst (.int 1)))], .ret (.var 1)]
set_option maxHeartbeats 0 in
theorem g_blanks_in {P : Program} {w : World} {K : PySem.W.Frag} {mg : Str → Option Value} {base : Heap} {f : Addr} {fd : FuncData} (Fu : Fun K "blanks_in" "blanks_in" s_blanks_in f fd) (b_len : mg "len" = none) :
    FnG P w K mg base 1 f fd ["cells"] (rawS 2 1 (sb_blanks_in)) :=
  fng_of Fu sc_blanks_in fun cdv A outer s H hr hgd =>
    dss_cons (ds_asg sc_blanks_in.nd rfl (by first | exact .inl rfl | exact .inr rfl) (de_int)) (dss_cons (ds_while PassesOwn.never ((dt_and2 (dt_cmp op_ltA (nomark _) cv_lt (do_var (pv 1)) ((de_bi (fun h => pe_callB c_len (by rfl) b_len PySem.boot_len h) bv_len (dos_cons (do_var (pv 0)) (dos_nil))).o)) (pw_and1 (dt_cmp op_isN (nomark _) cv_is ((de_ix ix_seq ov_ix (do_var (pv 0)) (do_var (pv 1)) (fun _ _ => rfl)).o) ((de_non).o)))).pt) (dss_cons (ds_asg sc_blanks_in.nd rfl (by first | exact .inl rfl | exact .inr rfl) (de_bin op_addA ov_add (do_var (pv 1)) ((de_int).o))) (dss_nil))) (dss_cons (ds_ret (de_var (pv 1))) (dss_nil)))
abbrev s_is_printed_row : Stmt := topS 14
theorem sc_is_printed_row : FnScope ["value", "cell"] ["value"] (defScope s_is_printed_row) := ⟨rfl, rfl, rfl, by decide +kernel, rfl, by decide +kernel, by decide +kernel⟩
def sb_is_printed_row (S_blanks_in S_is_cell : Spc) : List SS :=
  [.ifs (.orE (.notE (.isi (.var 0) .tuple_)) (.notE (.chain .le .le (.cst (.int 1)) (.bi .len [.var 0]) (.cst (.int 6))))) [.ret (.cst (.bl false))] [], .ret (.bi .all_ [.lc [1] (.nm 1) (.seq (.sl (.var 0) (.call S_blanks_in [.var 0]) (.nop))) [] (.call S_is_cell [.var 1])])]
set_option maxHeartbeats 0 in
theorem g_is_printed_row {P : Program} {w : World} {K : PySem.W.Frag} {mg : Str → Option Value} {base : Heap} {f : Addr} {fd : FuncData} (Fu : Fun K "is_printed_row" "is_printed_row" s_is_printed_row f fd) {f_blanks_in : Addr} {fd_blanks_in : FuncData} {S_blanks_in : Spc} (c_blanks_in : Cb P w K mg base 1 "blanks_in" f_blanks_in fd_blanks_in ["cells"] S_blanks_in) {f_is_cell : Addr} {fd_is_cell : FuncData} {S_is_cell : Spc} (c_is_cell : Cb P w K mg base 1 "is_cell" f_is_cell fd_is_cell ["value"] S_is_cell) (b_len : mg "len" = none) (b_isinstance : mg "isinstance" = none) (b_tuple : mg "tuple" = none) (b_all : mg "all" = none) {t_MOST_WIDTH : Tok} (g_MOST_WIDTH : mg "MOST_WIDTH" = some (.int 6 t_MOST_WIDTH)) :
    FnG P w K mg base 2 f fd ["value"] (rawS 2 1 (sb_is_printed_row S_blanks_in S_is_cell)) :=
  fng_of Fu sc_is_printed_row fun cdv A outer s H hr hgd =>
    dss_cons (ds_if ((dt_or2 (dt_not ((de_isi (t := .tuple_) (by rfl) b_isinstance (do_var (pv 0)) (by decide) (by rfl) b_tuple PyProof.Rows.boot_tuple).t)) (pw_or1 (dt_not (dt_chain op_le op_le cv_le cv_le ((de_int).o) ((de_bi (fun h => pe_callB c_len (by rfl) b_len PySem.boot_len h) bv_len (dos_cons (do_var (pv 0)) (dos_nil))).o) ((de_gint (by rfl) g_MOST_WIDTH).o) (fun a b c => pt_chain op_le op_le a b c))))).pt) (dss_cons (ds_ret (de_bl)) (dss_nil)) (dss_nil)) (dss_cons (ds_ret (de_bi (fun h => pe_callB (cr_all rfl) (by rfl) b_all PyProof.Rows.boot_all h) bv_all (dos_cons ((de_lc (own := [("cell", 1)]) rfl sc_is_printed_row.nd (di_seq (de_sl sl_D slv_D (do_var (pv 0)) (dpo_some (de_call c_blanks_in (hr.mono (by omega)) hgd (by rfl) (da_cons (de_var (pv 0)) (da_nil)))) (dpo_none))) (blkOk_by (by first | rfl | kernel_rfl)) (by decide) (fun _ _ _ _ _ => dg_nm sc_is_printed_row.nd rfl (by first | exact .inl rfl | exact .inr rfl)) (fun _ _ _ _ _ => dcs_nil) (fun _ _ _ _ _ => de_call c_is_cell (hr.mono (by omega)) hgd (by rfl) (da_cons (de_var (pv 1)) (da_nil)))).o) (dos_nil)))) (dss_nil))
abbrev s_are_printed_rows : Stmt := topS 15
theorem sc_are_printed_rows : FnScope ["value", "row"] ["value"] (defScope s_are_printed_rows) := ⟨rfl, rfl, rfl, by decide +kernel, rfl, by decide +kernel, by decide +kernel⟩
def sb_are_printed_rows (S_is_printed_row : Spc) : List SS :=
  [.ifs (.orE (.notE (.isi (.var 0) .tuple_)) (.notE (.chain .le .le (.cst (.int 1)) (.bi .len [.var 0]) (.cst (.int 60))))) [.ret (.cst (.bl false))] [], .ret (.andE (.bi .all_ [.lc [1] (.nm 1) (.seq (.var 0)) [] (.call S_is_printed_row [.var 1])]) (.bi .all_ [.lc [1] (.nm 1) (.seq (.var 0)) [] (.cmp .eq (.bi .len [.var 1]) (.bi .len [.ix (.var 0) (.cst (.int 0))]))]))]
set_option maxHeartbeats 0 in
theorem g_are_printed_rows {P : Program} {w : World} {K : PySem.W.Frag} {mg : Str → Option Value} {base : Heap} {f : Addr} {fd : FuncData} (Fu : Fun K "are_printed_rows" "are_printed_rows" s_are_printed_rows f fd) {f_is_printed_row : Addr} {fd_is_printed_row : FuncData} {S_is_printed_row : Spc} (c_is_printed_row : Cb P w K mg base 2 "is_printed_row" f_is_printed_row fd_is_printed_row ["value"] S_is_printed_row) (b_len : mg "len" = none) (b_isinstance : mg "isinstance" = none) (b_tuple : mg "tuple" = none) (b_all : mg "all" = none) {t_MOST_ROWS : Tok} (g_MOST_ROWS : mg "MOST_ROWS" = some (.int 60 t_MOST_ROWS)) :
    FnG P w K mg base 3 f fd ["value"] (rawS 2 1 (sb_are_printed_rows S_is_printed_row)) :=
  fng_of Fu sc_are_printed_rows fun cdv A outer s H hr hgd =>
    dss_cons (ds_if ((dt_or2 (dt_not ((de_isi (t := .tuple_) (by rfl) b_isinstance (do_var (pv 0)) (by decide) (by rfl) b_tuple PyProof.Rows.boot_tuple).t)) (pw_or1 (dt_not (dt_chain op_le op_le cv_le cv_le ((de_int).o) ((de_bi (fun h => pe_callB c_len (by rfl) b_len PySem.boot_len h) bv_len (dos_cons (do_var (pv 0)) (dos_nil))).o) ((de_gint (by rfl) g_MOST_ROWS).o) (fun a b c => pt_chain op_le op_le a b c))))).pt) (dss_cons (ds_ret (de_bl)) (dss_nil)) (dss_nil)) (dss_cons (ds_ret (de_and2 (de_bi (fun h => pe_callB (cr_all rfl) (by rfl) b_all PyProof.Rows.boot_all h) bv_all (dos_cons ((de_lc (own := [("row", 1)]) rfl sc_are_printed_rows.nd (di_seq (de_var (pv 0))) (blkOk_by (by first | rfl | kernel_rfl)) (by decide) (fun _ _ _ _ _ => dg_nm sc_are_printed_rows.nd rfl (by first | exact .inl rfl | exact .inr rfl)) (fun _ _ _ _ _ => dcs_nil) (fun _ _ _ _ _ => de_call c_is_printed_row (hr.mono (by omega)) hgd (by rfl) (da_cons (de_var (pv 1)) (da_nil)))).o) (dos_nil))) (DL.de_one (de_bi (fun h => pe_callB (cr_all rfl) (by rfl) b_all PyProof.Rows.boot_all h) bv_all (dos_cons ((de_lc (own := [("row", 1)]) rfl sc_are_printed_rows.nd (di_seq (de_var (pv 0))) (blkOk_by (by first | rfl | kernel_rfl)) (by decide) (fun _ _ _ _ _ => dg_nm sc_are_printed_rows.nd rfl (by first | exact .inl rfl | exact .inr rfl)) (fun _ _ _ _ _ => dcs_nil) (fun _ _ _ _ _ => de_cmp (op_eqD hr.units) (nomark _) cv_eq ((de_bi (fun h => pe_callB c_len (by rfl) b_len PySem.boot_len h) bv_len (dos_cons (do_var (pv 1)) (dos_nil))).o) ((de_bi (fun h => pe_callB c_len (by rfl) b_len PySem.boot_len h) bv_len (dos_cons ((de_ix ix_seq ov_ix (do_var (pv 0)) ((de_int).o) (fun _ _ => rfl)).o) (dos_nil))).o))).o) (dos_nil)))))) (dss_nil))
abbrev s_has_page_form : Stmt := topS 16
theorem sc_has_page_form : FnScope ["value"] ["value"] (defScope s_has_page_form) := ⟨rfl, rfl, rfl, by decide +kernel, rfl, by decide +kernel, by decide +kernel⟩
def sb_has_page_form (S_blanks_in S_are_printed_rows : Spc) : List SS :=
  [.ret (.andE (.call S_are_printed_rows [.var 0]) (.cmp .eq (.call S_blanks_in [.ix (.var 0) (.cst (.int 0))]) (.cst (.int 0))))]
set_option maxHeartbeats 0 in
theorem g_has_page_form {P : Program} {w : World} {K : PySem.W.Frag} {mg : Str → Option Value} {base : Heap} {f : Addr} {fd : FuncData} (Fu : Fun K "has_page_form" "has_page_form" s_has_page_form f fd) {f_blanks_in : Addr} {fd_blanks_in : FuncData} {S_blanks_in : Spc} (c_blanks_in : Cb P w K mg base 1 "blanks_in" f_blanks_in fd_blanks_in ["cells"] S_blanks_in) {f_are_printed_rows : Addr} {fd_are_printed_rows : FuncData} {S_are_printed_rows : Spc} (c_are_printed_rows : Cb P w K mg base 3 "are_printed_rows" f_are_printed_rows fd_are_printed_rows ["value"] S_are_printed_rows) :
    FnG P w K mg base 4 f fd ["value"] (rawS 1 1 (sb_has_page_form S_blanks_in S_are_printed_rows)) :=
  fng_of Fu sc_has_page_form fun cdv A outer s H hr hgd =>
    dss_cons (ds_ret (de_and2 (de_call c_are_printed_rows (hr.mono (by omega)) hgd (by rfl) (da_cons (de_var (pv 0)) (da_nil))) (DL.de_one (de_cmp (op_eqD hr.units) (nomark _) cv_eq ((de_call c_blanks_in (hr.mono (by omega)) hgd (by rfl) (da_cons (de_ix ix_seq ov_ix (do_var (pv 0)) ((de_int).o) (fun _ _ => rfl)) (da_nil))).o) ((de_int).o))))) (dss_nil)
abbrev s_require_page : Stmt := topS 17
theorem sc_require_page : FnScope ["value"] ["value"] (defScope s_require_page) := ⟨rfl, rfl, rfl, by decide +kernel, rfl, by decide +kernel, by decide +kernel⟩
def sb_require_page (S_has_page_form : Spc) : List SS :=
  [.ifs (.notE (.call S_has_page_form [.var 0])) [.raise_ 0] []]
set_option maxHeartbeats 0 in
theorem g_require_page {P : Program} {w : World} {K : PySem.W.Frag} {mg : Str → Option Value} {base : Heap} {f : Addr} {fd : FuncData} (Fu : Fun K "require_page" "require_page" s_require_page f fd) {f_has_page_form : Addr} {fd_has_page_form : FuncData} {S_has_page_form : Spc} (c_has_page_form : Cb P w K mg base 4 "has_page_form" f_has_page_form fd_has_page_form ["value"] S_has_page_form) :
    FnG P w K mg base 5 f fd ["value"] (rawS 1 1 (sb_require_page S_has_page_form)) :=
  fng_of Fu sc_require_page fun cdv A outer s H hr hgd =>
    dss_cons (ds_if (dt_not ((de_call c_has_page_form (hr.mono (by omega)) hgd (by rfl) (da_cons (de_var (pv 0)) (da_nil))).t)) (dss_cons (ds_raise) (dss_nil)) (dss_nil)) (dss_nil)
abbrev s_is_order_of : Stmt := topS 18
theorem sc_is_order_of : FnScope ["many", "value", "row"] ["many", "value"] (defScope s_is_order_of) := ⟨rfl, rfl, rfl, by decide +kernel, rfl, by decide +kernel, by decide +kernel⟩
def sb_is_order_of (S_is_integer : Spc) : List SS :=
  [.ifs (.orE (.notE (.isi (.var 1) .tuple_)) (.notE (.bi .all_ [.lc [2] (.nm 2) (.seq (.var 1)) [] (.call S_is_integer [.var 2, .cst (.int 0), .bin .sub (.var 0) (.cst (.int 1))])]))) [.ret (.cst (.bl false))] [], .ret (.cmp .eq (.call sortedTS [.var 1]) (.call lrangeS [.var 0]))]
set_option maxHeartbeats 0 in
theorem g_is_order_of {P : Program} {w : World} {K : PySem.W.Frag} {mg : Str → Option Value} {base : Heap} {f : Addr} {fd : FuncData} (Fu : Fun K "is_order_of" "is_order_of" s_is_order_of f fd) {f_is_integer : Addr} {fd_is_integer : FuncData} {S_is_integer : Spc} (c_is_integer : Cb P w K mg base 1 "is_integer" f_is_integer fd_is_integer ["value", "low", "high"] S_is_integer) (b_all : mg "all" = none) (b_isinstance : mg "isinstance" = none) (b_tuple : mg "tuple" = none) (b_sorted : mg "sorted" = none) (b_list : mg "list" = none) (b_range : mg "range" = none) :
    FnG P w K mg base 2 f fd ["many", "value"] (rawS 3 2 (sb_is_order_of S_is_integer)) :=
  fng_of Fu sc_is_order_of fun cdv A outer s H hr hgd =>
    dss_cons (ds_if ((dt_or2 (dt_not ((de_isi (t := .tuple_) (by rfl) b_isinstance (do_var (pv 1)) (by decide) (by rfl) b_tuple PyProof.Rows.boot_tuple).t)) (pw_or1 (dt_not ((de_bi (fun h => pe_callB (cr_all rfl) (by rfl) b_all PyProof.Rows.boot_all h) bv_all (dos_cons ((de_lc (own := [("row", 2)]) rfl sc_is_order_of.nd (di_seq (de_var (pv 1))) (blkOk_by (by first | rfl | kernel_rfl)) (by decide) (fun _ _ _ _ _ => dg_nm sc_is_order_of.nd rfl (by first | exact .inl rfl | exact .inr rfl)) (fun _ _ _ _ _ => dcs_nil) (fun _ _ _ _ _ => de_call c_is_integer (hr.mono (by omega)) hgd (by rfl) (da_cons (de_var (pv 2)) (da_cons (de_int) (da_cons (de_bin op_sub ov_sub (do_var (pv 0)) ((de_int).o)) (da_nil)))))).o) (dos_nil))).t)))).pt) (dss_cons (ds_ret (de_bl)) (dss_nil)) (dss_nil)) (dss_cons (ds_ret (de_cmp (op_eqD hr.units) (nomark _) cv_eq ((de_fn (fun h => pe_callB (c_sortedT hr.units) (by rfl) b_sorted PyProof.Rows.boot_sorted h) fv_sortedT (da_cons (de_var (pv 1)) (da_nil))).o) ((de_lrange rfl (by rfl) b_list (by rfl) b_range (de_var (pv 0))).o))) (dss_nil))
abbrev s_require_order : Stmt := topS 19
theorem sc_require_order : FnScope ["many", "value"] ["many", "value"] (defScope s_require_order) := ⟨rfl, rfl, rfl, by decide +kernel, rfl, by decide +kernel, by decide +kernel⟩
def sb_require_order (S_is_order_of : Spc) : List SS :=
  [.ifs (.notE (.call S_is_order_of [.var 0, .var 1])) [.raise_ 0] []]
set_option maxHeartbeats 0 in
theorem g_require_order {P : Program} {w : World} {K : PySem.W.Frag} {mg : Str → Option Value} {base : Heap} {f : Addr} {fd : FuncData} (Fu : Fun K "require_order" "require_order" s_require_order f fd) {f_is_order_of : Addr} {fd_is_order_of : FuncData} {S_is_order_of : Spc} (c_is_order_of : Cb P w K mg base 2 "is_order_of" f_is_order_of fd_is_order_of ["many", "value"] S_is_order_of) :
    FnG P w K mg base 3 f fd ["many", "value"] (rawS 2 2 (sb_require_order S_is_order_of)) :=
  fng_of Fu sc_require_order fun cdv A outer s H hr hgd =>
    dss_cons (ds_if (dt_not ((de_call c_is_order_of (hr.mono (by omega)) hgd (by rfl) (da_cons (de_var (pv 0)) (da_cons (de_var (pv 1)) (da_nil)))).t)) (dss_cons (ds_raise) (dss_nil)) (dss_nil)) (dss_nil)
abbrev s_shared_by : Stmt := topS 20
theorem sc_shared_by : FnScope ["row", "other", "found"] ["row", "other"] (defScope s_shared_by) := ⟨rfl, rfl, rfl, by decide +kernel, rfl, by decide +kernel, by decide +kernel⟩
def sb_shared_by : List SS :=
  [.asg (.nm 2) (.cst (.int 0)), .while_ (.andE (.cmp .lt (.var 2) (.bi .len [.var 0])) (.andE (.cmp .lt (.var 2) (.bi .len [.var 1])) (.cmp .eq (.ix (.var 0) (.var 2)) (.ix (.var 1) (.var 2))))) [.asg (.nm 2) (.bin .add (.var 2) (.cst (.int 1)))], .ret (.var 2)]
set_option maxHeartbeats 0 in
theorem g_shared_by {P : Program} {w : World} {K : PySem.W.Frag} {mg : Str → Option Value} {base : Heap} {f : Addr} {fd : FuncData} (Fu : Fun K "shared_by" "shared_by" s_shared_by f fd) (b_len : mg "len" = none) :
    FnG P w K mg base 1 f fd ["row", "other"] (rawS 3 2 (sb_shared_by)) :=
  fng_of Fu sc_shared_by fun cdv A outer s H hr hgd =>
    dss_cons (ds_asg sc_shared_by.nd rfl (by first | exact .inl rfl | exact .inr rfl) (de_int)) (dss_cons (ds_while PassesOwn.never ((dt_and2 (dt_cmp op_ltA (nomark _) cv_lt (do_var (pv 2)) ((de_bi (fun h => pe_callB c_len (by rfl) b_len PySem.boot_len h) bv_len (dos_cons (do_var (pv 0)) (dos_nil))).o)) (dt_and2 (dt_cmp op_ltA (nomark _) cv_lt (do_var (pv 2)) ((de_bi (fun h => pe_callB c_len (by rfl) b_len PySem.boot_len h) bv_len (dos_cons (do_var (pv 1)) (dos_nil))).o)) (pw_and1 (dt_cmp (op_eqD hr.units) (nomark _) cv_eq ((de_ix ix_seq ov_ix (do_var (pv 0)) (do_var (pv 2)) (fun _ _ => rfl)).o) ((de_ix ix_seq ov_ix (do_var (pv 1)) (do_var (pv 2)) (fun _ _ => rfl)).o))))).pt) (dss_cons (ds_asg sc_shared_by.nd rfl (by first | exact .inl rfl | exact .inr rfl) (de_bin op_addA ov_add (do_var (pv 2)) ((de_int).o))) (dss_nil))) (dss_cons (ds_ret (de_var (pv 2))) (dss_nil)))
abbrev s_read_rows : Stmt := topS 21
theorem sc_read_rows : FnScope ["rows", "found", "above", "row", "count"] ["rows"] (defScope s_read_rows) := ⟨rfl, rfl, rfl, by decide +kernel, rfl, by decide +kernel, by decide +kernel⟩
def sb_read_rows (S_blanks_in : Spc) : List SS :=
  [.asg (.nm 1) (.lst []), .asg (.nm 2) (.cst .non), .for_ (.nm 3) (.seq (.var 0)) [.asg (.nm 4) (.call S_blanks_in [.var 3]), .asg (.nm 2) (.bin .add (.sl (.ife (.cmp .is_ (.var 2) (.cst .non)) (.var 3) (.var 2)) (.nop) (.var 4)) (.sl (.var 3) (.var 4) (.nop))), .expr (.mc 1 .append [.var 2])], .ret (.var 1)]
set_option maxHeartbeats 0 in
theorem g_read_rows {P : Program} {w : World} {K : PySem.W.Frag} {mg : Str → Option Value} {base : Heap} {f : Addr} {fd : FuncData} (Fu : Fun K "read_rows" "read_rows" s_read_rows f fd) {f_blanks_in : Addr} {fd_blanks_in : FuncData} {S_blanks_in : Spc} (c_blanks_in : Cb P w K mg base 1 "blanks_in" f_blanks_in fd_blanks_in ["cells"] S_blanks_in) :
    FnG P w K mg base 2 f fd ["rows"] (rawS 5 1 (sb_read_rows S_blanks_in)) :=
  fng_of Fu sc_read_rows fun cdv A outer s H hr hgd =>
    dss_cons (ds_asg sc_read_rows.nd rfl (by first | exact .inl rfl | exact .inr rfl) (de_lst (dx_nil))) (dss_cons (ds_asg sc_read_rows.nd rfl (by first | exact .inl rfl | exact .inr rfl) (de_non)) (dss_cons (ds_for PassesOwn.never rfl (di_seq (de_var (pv 0))) (dg_nm sc_read_rows.nd rfl (by first | exact .inl rfl | exact .inr rfl)) (dss_cons (ds_asg sc_read_rows.nd rfl (by first | exact .inl rfl | exact .inr rfl) (de_call c_blanks_in (hr.mono (by omega)) hgd (by rfl) (da_cons (de_var (pv 3)) (da_nil)))) (dss_cons (ds_asg sc_read_rows.nd rfl (by first | exact .inl rfl | exact .inr rfl) (de_bin op_addA ov_add ((de_sl sl_D slv_D ((de_ife (dt_cmp op_isN (nomark _) cv_is (do_var (pv 2)) ((de_non).o)) (de_var (pv 3)) (de_var (pv 2))).o) (dpo_none) (dpo_some (de_var (pv 4)))).o) ((de_sl sl_D slv_D (do_var (pv 3)) (dpo_some (de_var (pv 4))) (dpo_none)).o))) (dss_cons (ds_expr (de_mc PySem.F.plainAttrs_list PySem.F.slot_list_append PySem.F.type_list_append mt_append mv_append (pv 1) (da_cons (de_var (pv 2)) (da_nil)))) (dss_nil))))) (dss_cons (ds_ret (de_var (pv 1))) (dss_nil))))
abbrev s_fits_behind : Stmt := topS 22
theorem sc_fits_behind : FnScope ["blanks", "full_rows", "row", "above"] ["blanks", "full_rows", "row", "above"] (defScope s_fits_behind) := ⟨rfl, rfl, rfl, by decide +kernel, rfl, by decide +kernel, by decide +kernel⟩
def sb_fits_behind (S_shared_by : Spc) : List SS :=
  [.ret (.ife (.cmp .is_ (.var 3) (.cst .non)) (.cmp .eq (.ix (.var 0) (.var 2)) (.cst (.int 0))) (.cmp .ge (.call S_shared_by [.ix (.var 1) (.var 2), .ix (.var 1) (.var 3)]) (.ix (.var 0) (.var 2))))]
set_option maxHeartbeats 0 in
theorem g_fits_behind {P : Program} {w : World} {K : PySem.W.Frag} {mg : Str → Option Value} {base : Heap} {f : Addr} {fd : FuncData} (Fu : Fun K "fits_behind" "fits_behind" s_fits_behind f fd) {f_shared_by : Addr} {fd_shared_by : FuncData} {S_shared_by : Spc} (c_shared_by : Cb P w K mg base 1 "shared_by" f_shared_by fd_shared_by ["row", "other"] S_shared_by) :
    FnG P w K mg base 2 f fd ["blanks", "full_rows", "row", "above"] (rawS 4 4 (sb_fits_behind S_shared_by)) :=
  fng_of Fu sc_fits_behind fun cdv A outer s H hr hgd =>
    dss_cons (ds_ret (de_ife (dt_cmp op_isN (nomark _) cv_is (do_var (pv 3)) ((de_non).o)) (de_cmp (op_eqD hr.units) (nomark _) cv_eq ((de_ix ix_seq ov_ix (do_var (pv 0)) (do_var (pv 2)) (fun _ _ => rfl)).o) ((de_int).o)) (de_cmp op_ge (nomark _) cv_ge ((de_call c_shared_by (hr.mono (by omega)) hgd (by rfl) (da_cons (de_ix ix_seq ov_ix (do_var (pv 1)) (do_var (pv 2)) (fun _ _ => rfl)) (da_cons (de_ix ix_seq ov_ix (do_var (pv 1)) (do_var (pv 3)) (fun _ _ => rfl)) (da_nil)))).o) ((de_ix ix_seq ov_ix (do_var (pv 0)) (do_var (pv 2)) (fun _ _ => rfl)).o)))) (dss_nil)
abbrev s_parts_in : Stmt := topS 24
theorem sc_parts_in : FnScope ["page", "row"] ["page"] (defScope s_parts_in) := ⟨rfl, rfl, rfl, by decide +kernel, rfl, by decide +kernel, by decide +kernel⟩
def sb_parts_in (S_blanks_in S_read_rows : Spc) : List SS :=
  [.ret (.tup [.one (.lc [1] (.nm 1) (.seq (.var 0)) [] (.call S_blanks_in [.var 1])), .one (.call S_read_rows [.var 0])])]
set_option maxHeartbeats 0 in
theorem g_parts_in {P : Program} {w : World} {K : PySem.W.Frag} {mg : Str → Option Value} {base : Heap} {f : Addr} {fd : FuncData} (Fu : Fun K "parts_in" "parts_in" s_parts_in f fd) {f_blanks_in : Addr} {fd_blanks_in : FuncData} {S_blanks_in : Spc} (c_blanks_in : Cb P w K mg base 1 "blanks_in" f_blanks_in fd_blanks_in ["cells"] S_blanks_in) {f_read_rows : Addr} {fd_read_rows : FuncData} {S_read_rows : Spc} (c_read_rows : Cb P w K mg base 2 "read_rows" f_read_rows fd_read_rows ["rows"] S_read_rows) :
    FnG P w K mg base 3 f fd ["page"] (rawS 2 1 (sb_parts_in S_blanks_in S_read_rows)) :=
  fng_of Fu sc_parts_in fun cdv A outer s H hr hgd =>
    dss_cons (ds_ret (de_tup (dx_cons (de_lc (own := [("row", 1)]) rfl sc_parts_in.nd (di_seq (de_var (pv 0))) (blkOk_by (by first | rfl | kernel_rfl)) (by decide) (fun _ _ _ _ _ => dg_nm sc_parts_in.nd rfl (by first | exact .inl rfl | exact .inr rfl)) (fun _ _ _ _ _ => dcs_nil) (fun _ _ _ _ _ => de_call c_blanks_in (hr.mono (by omega)) hgd (by rfl) (da_cons (de_var (pv 1)) (da_nil)))) (dx_cons (de_call c_read_rows (hr.mono (by omega)) hgd (by rfl) (da_cons (de_var (pv 0)) (da_nil))) (dx_nil))))) (dss_nil)
abbrev s_is_kept : Stmt := topS 25
theorem sc_is_kept : FnScope ["page", "order", "blanks", "full_rows", "row", "above"] ["page", "order"] (defScope s_is_kept) := ⟨rfl, rfl, rfl, by decide +kernel, rfl, by decide +kernel, by decide +kernel⟩
def sb_is_kept (S_parts_in S_fits_behind : Spc) : List SS :=
  [.asg (.tup [.nm 2, .nm 3]) (.call S_parts_in [.var 0]), .ret (.bi .all_ [.lc [4, 5] (.tup [.nm 4, .nm 5]) (.zip2 [.var 1, .lst [.one (.cst .non), .star (.var 1)]]) [] (.call S_fits_behind [.var 2, .var 3, .var 4, .var 5])])]
set_option maxHeartbeats 0 in
theorem g_is_kept {P : Program} {w : World} {K : PySem.W.Frag} {mg : Str → Option Value} {base : Heap} {f : Addr} {fd : FuncData} (Fu : Fun K "is_kept" "is_kept" s_is_kept f fd) {f_parts_in : Addr} {fd_parts_in : FuncData} {S_parts_in : Spc} (c_parts_in : Cb P w K mg base 3 "parts_in" f_parts_in fd_parts_in ["page"] S_parts_in) {f_fits_behind : Addr} {fd_fits_behind : FuncData} {S_fits_behind : Spc} (c_fits_behind : Cb P w K mg base 2 "fits_behind" f_fits_behind fd_fits_behind ["blanks", "full_rows", "row", "above"] S_fits_behind) (b_all : mg "all" = none) (b_zip : mg "zip" = none) :
    FnG P w K mg base 4 f fd ["page", "order"] (rawS 6 2 (sb_is_kept S_parts_in S_fits_behind)) :=
  fng_of Fu sc_is_kept fun cdv A outer s H hr hgd =>
    dss_cons (ds_asgT (de_call c_parts_in (hr.mono (by omega)) hgd (by rfl) (da_cons (de_var (pv 0)) (da_nil))) (dg_tup rfl (dgs_cons (dg_nm sc_is_kept.nd rfl (by first | exact .inl rfl | exact .inr rfl)) (dgs_cons (dg_nm sc_is_kept.nd rfl (by first | exact .inl rfl | exact .inr rfl)) (dgs_nil))) 2)) (dss_cons (ds_ret (de_bi (fun h => pe_callB (cr_all rfl) (by rfl) b_all PyProof.Rows.boot_all h) bv_all (dos_cons ((de_lc (own := [("row", 4), ("above", 5)]) rfl sc_is_kept.nd (di_zip2 (by rfl) b_zip (da_cons (de_var (pv 1)) (da_cons (de_lst (dx_cons (de_non) (dx_star (de_var (pv 1)) (dx_nil)))) (da_nil)))) (blkOk_by (by first | rfl | kernel_rfl)) (by decide) (fun _ _ _ _ _ => dg_tup rfl (dgs_cons (dg_nm sc_is_kept.nd rfl (by first | exact .inl rfl | exact .inr rfl)) (dgs_cons (dg_nm sc_is_kept.nd rfl (by first | exact .inl rfl | exact .inr rfl)) (dgs_nil))) 2) (fun _ _ _ _ _ => dcs_nil) (fun _ _ _ _ _ => de_call c_fits_behind (hr.mono (by omega)) hgd (by rfl) (da_cons (de_var (pv 2)) (da_cons (de_var (pv 3)) (da_cons (de_var (pv 4)) (da_cons (de_var (pv 5)) (da_nil))))))).o) (dos_nil)))) (dss_nil))
abbrev s_keeps : Stmt := topS 26
theorem sc_keeps : FnScope ["page", "order"] ["page", "order"] (defScope s_keeps) := ⟨rfl, rfl, rfl, by decide +kernel, rfl, by decide +kernel, by decide +kernel⟩
def sb_keeps (S_require_page S_require_order S_is_kept : Spc) : List SS :=
  [.expr (.call S_require_page [.var 0]), .expr (.call S_require_order [.bi .len [.var 0], .var 1]), .ret (.call S_is_kept [.var 0, .var 1])]
set_option maxHeartbeats 0 in
theorem g_keeps {P : Program} {w : World} {K : PySem.W.Frag} {mg : Str → Option Value} {base : Heap} {f : Addr} {fd : FuncData} (Fu : Fun K "keeps" "keeps" s_keeps f fd) {f_require_page : Addr} {fd_require_page : FuncData} {S_require_page : Spc} (c_require_page : Cb P w K mg base 5 "require_page" f_require_page fd_require_page ["value"] S_require_page) {f_require_order : Addr} {fd_require_order : FuncData} {S_require_order : Spc} (c_require_order : Cb P w K mg base 3 "require_order" f_require_order fd_require_order ["many", "value"] S_require_order) {f_is_kept : Addr} {fd_is_kept : FuncData} {S_is_kept : Spc} (c_is_kept : Cb P w K mg base 4 "is_kept" f_is_kept fd_is_kept ["page", "order"] S_is_kept) (b_len : mg "len" = none) :
    FnG P w K mg base 6 f fd ["page", "order"] (rawS 2 2 (sb_keeps S_require_page S_require_order S_is_kept)) :=
  fng_of Fu sc_keeps fun cdv A outer s H hr hgd =>
    dss_cons (ds_expr (de_call c_require_page (hr.mono (by omega)) hgd (by rfl) (da_cons (de_var (pv 0)) (da_nil)))) (dss_cons (ds_expr (de_call c_require_order (hr.mono (by omega)) hgd (by rfl) (da_cons (de_bi (fun h => pe_callB c_len (by rfl) b_len PySem.boot_len h) bv_len (dos_cons (do_var (pv 0)) (dos_nil))) (da_cons (de_var (pv 1)) (da_nil))))) (dss_cons (ds_ret (de_call c_is_kept (hr.mono (by omega)) hgd (by rfl) (da_cons (de_var (pv 0)) (da_cons (de_var (pv 1)) (da_nil))))) (dss_nil)))
abbrev s_read_in : Stmt := topS 27
theorem sc_read_in : FnScope ["page", "order", "row"] ["page", "order"] (defScope s_read_in) := ⟨rfl, rfl, rfl, by decide +kernel, rfl, by decide +kernel, by decide +kernel⟩
def sb_read_in (S_require_page S_require_order S_read_rows : Spc) : List SS :=
  [.expr (.call S_require_page [.var 0]), .expr (.call S_require_order [.bi .len [.var 0], .var 1]), .ret (.call S_read_rows [.lc [2] (.nm 2) (.seq (.var 1)) [] (.ix (.var 0) (.var 2))])]
set_option maxHeartbeats 0 in
theorem g_read_in {P : Program} {w : World} {K : PySem.W.Frag} {mg : Str → Option Value} {base : Heap} {f : Addr} {fd : FuncData} (Fu : Fun K "read_in" "read_in" s_read_in f fd) {f_require_page : Addr} {fd_require_page : FuncData} {S_require_page : Spc} (c_require_page : Cb P w K mg base 5 "require_page" f_require_page fd_require_page ["value"] S_require_page) {f_require_order : Addr} {fd_require_order : FuncData} {S_require_order : Spc} (c_require_order : Cb P w K mg base 3 "require_order" f_require_order fd_require_order ["many", "value"] S_require_order) {f_read_rows : Addr} {fd_read_rows : FuncData} {S_read_rows : Spc} (c_read_rows : Cb P w K mg base 2 "read_rows" f_read_rows fd_read_rows ["rows"] S_read_rows) (b_len : mg "len" = none) :
    FnG P w K mg base 6 f fd ["page", "order"] (rawS 3 2 (sb_read_in S_require_page S_require_order S_read_rows)) :=
  fng_of Fu sc_read_in fun cdv A outer s H hr hgd =>
    dss_cons (ds_expr (de_call c_require_page (hr.mono (by omega)) hgd (by rfl) (da_cons (de_var (pv 0)) (da_nil)))) (dss_cons (ds_expr (de_call c_require_order (hr.mono (by omega)) hgd (by rfl) (da_cons (de_bi (fun h => pe_callB c_len (by rfl) b_len PySem.boot_len h) bv_len (dos_cons (do_var (pv 0)) (dos_nil))) (da_cons (de_var (pv 1)) (da_nil))))) (dss_cons (ds_ret (de_call c_read_rows (hr.mono (by omega)) hgd (by rfl) (da_cons (de_lc (own := [("row", 2)]) rfl sc_read_in.nd (di_seq (de_var (pv 1))) (blkOk_by (by first | rfl | kernel_rfl)) (by decide) (fun _ _ _ _ _ => dg_nm sc_read_in.nd rfl (by first | exact .inl rfl | exact .inr rfl)) (fun _ _ _ _ _ => dcs_nil) (fun _ _ _ _ _ => de_ix ix_seq ov_ix (do_var (pv 0)) (do_var (pv 2)) (fun _ _ => rfl))) (da_nil)))) (dss_nil)))
abbrev s_wrong_rows : Stmt := topS 28
theorem sc_wrong_rows : FnScope ["page", "order", "found", "full_rows", "row", "read"] ["page", "order"] (defScope s_wrong_rows) := ⟨rfl, rfl, rfl, by decide +kernel, rfl, by decide +kernel, by decide +kernel⟩
def sb_wrong_rows (S_read_in S_read_rows : Spc) : List SS :=
  [.par [2, 3] [.one (.call S_read_in [.var 0, .var 1]), .one (.call S_read_rows [.var 0])], .ret (.bi .sorted_ [.lc [4, 5] (.tup [.nm 4, .nm 5]) (.zip2 [.var 1, .var 2]) [.cmp .ne (.var 5) (.ix (.var 3) (.var 4))] (.var 4)])]
set_option maxHeartbeats 0 in
theorem g_wrong_rows {P : Program} {w : World} {K : PySem.W.Frag} {mg : Str → Option Value} {base : Heap} {f : Addr} {fd : FuncData} (Fu : Fun K "wrong_rows" "wrong_rows" s_wrong_rows f fd) {f_read_in : Addr} {fd_read_in : FuncData} {S_read_in : Spc} (c_read_in : Cb P w K mg base 6 "read_in" f_read_in fd_read_in ["page", "order"] S_read_in) {f_read_rows : Addr} {fd_read_rows : FuncData} {S_read_rows : Spc} (c_read_rows : Cb P w K mg base 2 "read_rows" f_read_rows fd_read_rows ["rows"] S_read_rows) (b_sorted : mg "sorted" = none) (b_zip : mg "zip" = none) :
    FnG P w K mg base 7 f fd ["page", "order"] (rawS 6 2 (sb_wrong_rows S_read_in S_read_rows)) :=
  fng_of Fu sc_wrong_rows fun cdv A outer s H hr hgd =>
    dss_cons (ds_parT rfl (pgn_cons (pg_name (i := 2) sc_wrong_rows.nd rfl (by first | exact .inl rfl | exact .inr rfl)) (pgn_cons (pg_name (i := 3) sc_wrong_rows.nd rfl (by first | exact .inl rfl | exact .inr rfl)) (pgn_nil))) (dx_cons (de_call c_read_in (hr.mono (by omega)) hgd (by rfl) (da_cons (de_var (pv 0)) (da_cons (de_var (pv 1)) (da_nil)))) (dx_cons (de_call c_read_rows (hr.mono (by omega)) hgd (by rfl) (da_cons (de_var (pv 0)) (da_nil))) (dx_nil))) 2) (dss_cons (ds_ret (de_bi (fun h => pe_callB (c_sorted hr.units) (by rfl) b_sorted PyProof.Rows.boot_sorted h) bv_sorted (dos_cons ((de_lc (own := [("row", 4), ("read", 5)]) rfl sc_wrong_rows.nd (di_zip2 (by rfl) b_zip (da_cons (de_var (pv 1)) (da_cons (de_var (pv 2)) (da_nil)))) (blkOk_by (by first | rfl | kernel_rfl)) (by decide) (fun _ _ _ _ _ => dg_tup rfl (dgs_cons (dg_nm sc_wrong_rows.nd rfl (by first | exact .inl rfl | exact .inr rfl)) (dgs_cons (dg_nm sc_wrong_rows.nd rfl (by first | exact .inl rfl | exact .inr rfl)) (dgs_nil))) 2) (fun _ _ _ _ _ => dcs_one (dt_cmp (op_neD hr.units) (nomark _) cv_ne (do_var (pv 5)) ((de_ix ix_seq ov_ix (do_var (pv 3)) (do_var (pv 4)) (fun _ _ => rfl)).o))) (fun _ _ _ _ _ => de_var (pv 4))).o) (dos_nil)))) (dss_nil))
abbrev s_sort_order : Stmt := topS 29
theorem sc_sort_order : FnScope ["page", "column", "blanks_last", "blank", "rest", "row", "cells"] ["page", "column", "blanks_last"] (defScope s_sort_order) := ⟨rfl, rfl, rfl, by decide +kernel, rfl, by decide +kernel, by decide +kernel⟩
def sb_sort_order (S_require_page S_is_integer : Spc) : List SS :=
  [.expr (.call S_require_page [.var 0]), .ifs (.notE (.call S_is_integer [.var 1, .cst (.int 0), .bin .sub (.bi .len [.ix (.var 0) (.cst (.int 0))]) (.cst (.int 1))])) [.raise_ 0] [], .ifs (.notE (.isi (.var 2) .bool_)) [.raise_ 0] [], .asg (.nm 3) (.lc [5, 6] (.tup [.nm 5, .nm 6]) (.enm [.var 0]) [.cmp .is_ (.ix (.var 6) (.var 1)) (.cst .non)] (.var 5)), .asg (.nm 4) (.call (srtkS (.tup [.one (.ix (.ix (.var 2) (.var 0)) (.var 1)), .one (.var 0)])) [.lc [5] (.nm 5) (.rng1 [.bi .len [.var 0]]) [.cmp .nin (.var 5) (.var 3)] (.var 5), .var 1, .var 0]), .ret (.bi .tuple_ [.ife (.var 2) (.bin .add (.var 4) (.var 3)) (.bin .add (.var 3) (.var 4))])]
set_option maxHeartbeats 0 in
theorem g_sort_order {P : Program} {w : World} {K : PySem.W.Frag} {mg : Str → Option Value} {base : Heap} {f : Addr} {fd : FuncData} (Fu : Fun K "sort_order" "sort_order" s_sort_order f fd) {cL PL : Addr} (aK : PySem.W.nsIn K mainGlobals "sort_order" = some (some (.ref f))) (tK : PySem.W.tabIn K "sort_order" = some (cL, PL)) (TB : LamX.TabB base mg cL PL) {f_require_page : Addr} {fd_require_page : FuncData} {S_require_page : Spc} (c_require_page : Cb P w K mg base 5 "require_page" f_require_page fd_require_page ["value"] S_require_page) {f_is_integer : Addr} {fd_is_integer : FuncData} {S_is_integer : Spc} (c_is_integer : Cb P w K mg base 1 "is_integer" f_is_integer fd_is_integer ["value", "low", "high"] S_is_integer) (b_len : mg "len" = none) (b_isinstance : mg "isinstance" = none) (b_bool : mg "bool" = none) (b_enumerate : mg "enumerate" = none) (b_sorted : mg "sorted" = none) (b_range : mg "range" = none) (b_tuple : mg "tuple" = none) :
    FnG P w K mg base 6 f fd ["page", "column", "blanks_last"] (rawS 7 3 (sb_sort_order S_require_page S_is_integer)) :=
  fng_ofL Fu aK tK sc_sort_order fun A outer s H hr hgd =>
    dss_cons (ds_expr (de_call c_require_page (hr.mono (by omega)) hgd (by rfl) (da_cons (de_var (pv 0)) (da_nil)))) (dss_cons (ds_if (dt_not ((de_call c_is_integer (hr.mono (by omega)) hgd (by rfl) (da_cons (de_var (pv 1)) (da_cons (de_int) (da_cons (de_bin op_sub ov_sub ((de_bi (fun h => pe_callB c_len (by rfl) b_len PySem.boot_len h) bv_len (dos_cons ((de_ix ix_seq ov_ix (do_var (pv 0)) ((de_int).o) (fun _ _ => rfl)).o) (dos_nil))).o) ((de_int).o)) (da_nil))))).t)) (dss_cons (ds_raise) (dss_nil)) (dss_nil)) (dss_cons (ds_if (dt_not ((de_isi (t := .bool_) (by rfl) b_isinstance (do_var (pv 2)) (by decide) (by rfl) b_bool PyProof.Rows.boot_bool).t)) (dss_cons (ds_raise) (dss_nil)) (dss_nil)) (dss_cons (ds_asg sc_sort_order.nd rfl (by first | exact .inl rfl | exact .inr rfl) (de_lc (own := [("row", 5), ("cells", 6)]) rfl sc_sort_order.nd (di_enm (by rfl) b_enumerate (da_cons (de_var (pv 0)) (da_nil))) (blkOk_by (by first | rfl | kernel_rfl)) (by decide) (fun _ _ _ _ _ => dg_tup rfl (dgs_cons (dg_nm sc_sort_order.nd rfl (by first | exact .inl rfl | exact .inr rfl)) (dgs_cons (dg_nm sc_sort_order.nd rfl (by first | exact .inl rfl | exact .inr rfl)) (dgs_nil))) 2) (fun _ _ _ _ _ => dcs_one (dt_cmp op_isN (nomark _) cv_is ((de_ix ix_seq ov_ix (do_var (pv 6)) (do_var (pv 1)) (fun _ _ => rfl)).o) ((de_non).o))) (fun _ _ _ _ _ => de_var (pv 5)))) (dss_cons (ds_asg sc_sort_order.nd rfl (by first | exact .inl rfl | exact .inr rfl) (de_sortkL rfl (hr.mono (by omega)) (by rfl) b_sorted  (de_lc (own := [("row", 5)]) rfl sc_sort_order.nd (di_rng1 (by rfl) b_range (da_cons (de_bi (fun h => pe_callB c_len (by rfl) b_len PySem.boot_len h) bv_len (dos_cons (do_var (pv 0)) (dos_nil))) (da_nil))) (blkOk_by (by first | rfl | kernel_rfl)) (by decide) (fun _ _ _ _ _ => dg_nm sc_sort_order.nd rfl (by first | exact .inl rfl | exact .inr rfl)) (fun _ _ _ _ _ => dcs_one (dt_cmp op_ninA (by with_unfolding_all rfl) cv_nin (do_var (pv 5)) (do_var (pv 3)))) (fun _ _ _ _ _ => de_var (pv 5))) (by kernel_rfl) (by decide) tK TB rfl rfl (freeOk_by (by first | rfl | kernel_rfl)) (NdefX.nscope_by (N := ["row", "column", "page"]) (ps := ["row"]) (fr := ["column", "page"]) (by first | rfl | kernel_rfl)) rfl (frOk_by (by first | rfl | kernel_rfl)) (js := [1, 0]) rfl rfl (fun _ _ _ _ _ _ => rfl) (fun G f B outer s H hsc hr => by obtain ⟨q, p, b, sc, cl, c⟩ := G; obtain rfl := (show sc = _ from hsc); exact de_tup (dx_cons (de_ix ix_seq ov_ix ((de_ix ix_seq ov_ix (do_var (pv 2)) (do_var (pv 0)) (fun _ _ => rfl)).o) (do_var (pv 1)) (fun _ _ => rfl)) (dx_cons (de_var (pv 0)) (dx_nil)))))) (dss_cons (ds_ret (de_bi (fun h => pe_callTy call_tuple_of (by rfl) b_tuple PyProof.Rows.boot_tuple h) bv_tuple (dos_cons ((de_ife ((de_var (pv 2)).t) (de_bin op_addA ov_add (do_var (pv 4)) (do_var (pv 3))) (de_bin op_addA ov_add (do_var (pv 3)) (do_var (pv 4)))).o) (dos_nil)))) (dss_nil))))))
abbrev s_filled : Stmt := topS 31
theorem sc_filled : FnScope ["page"] ["page"] (defScope s_filled) := ⟨rfl, rfl, rfl, by decide +kernel, rfl, by decide +kernel, by decide +kernel⟩
def sb_filled (S_require_page S_read_rows : Spc) : List SS :=
  [.expr (.call S_require_page [.var 0]), .ret (.bi .tuple_ [.call S_read_rows [.var 0]])]
set_option maxHeartbeats 0 in
theorem g_filled {P : Program} {w : World} {K : PySem.W.Frag} {mg : Str → Option Value} {base : Heap} {f : Addr} {fd : FuncData} (Fu : Fun K "filled" "filled" s_filled f fd) {f_require_page : Addr} {fd_require_page : FuncData} {S_require_page : Spc} (c_require_page : Cb P w K mg base 5 "require_page" f_require_page fd_require_page ["value"] S_require_page) {f_read_rows : Addr} {fd_read_rows : FuncData} {S_read_rows : Spc} (c_read_rows : Cb P w K mg base 2 "read_rows" f_read_rows fd_read_rows ["rows"] S_read_rows) (b_tuple : mg "tuple" = none) :
    FnG P w K mg base 6 f fd ["page"] (rawS 1 1 (sb_filled S_require_page S_read_rows)) :=
  fng_of Fu sc_filled fun cdv A outer s H hr hgd =>
    dss_cons (ds_expr (de_call c_require_page (hr.mono (by omega)) hgd (by rfl) (da_cons (de_var (pv 0)) (da_nil)))) (dss_cons (ds_ret (de_bi (fun h => pe_callTy call_tuple_of (by rfl) b_tuple PyProof.Rows.boot_tuple h) bv_tuple (dos_cons ((de_call c_read_rows (hr.mono (by omega)) hgd (by rfl) (da_cons (de_var (pv 0)) (da_nil))).o) (dos_nil)))) (dss_nil))
abbrev s__law_deck : Stmt := topS 33
theorem sc__law_deck : FnScope ["script", "pools", "k", "cell"] ["script"] (defScope s__law_deck) := ⟨rfl, rfl, rfl, by decide +kernel, rfl, by decide +kernel, by decide +kernel⟩
def sb__law_deck : List SS :=
  [.asg (.nm 1) (.lst []), .for_ (.nm 2) (.rng1 [.bi .max2 [.cst (.int 1), .bi .min2 [.cst (.int 63), .bi .len [.var 0]]]]) [.asg (.nm 3) (.cst (.int 0)), .ifs (.cmp .lt (.var 2) (.bi .len [.var 0])) [.asg (.nm 3) (.ix (.var 0) (.var 2))] [], .expr (.apo 1 (.lst [.one (.var 3), .one (.bi .int_ [.cmp .ge (.var 3) (.bin .pow (.cst (.int 10)) (.cst (.int 18)))]), .one (.bin .add (.bin .mul (.cst (.int 61)) (.var 2)) (.cst (.int 37)))]))], .ret (.lst [.one (.mv 1), .one (.cst (.int 0))])]
set_option maxHeartbeats 0 in
theorem g__law_deck {P : Program} {w : World} {K : PySem.W.Frag} {mg : Str → Option Value} {base : Heap} {f : Addr} {fd : FuncData} (Fu : Fun K "_law_deck" "_law_deck" s__law_deck f fd) (b_range : mg "range" = none) (b_max : mg "max" = none) (b_min : mg "min" = none) (b_len : mg "len" = none) (b_int : mg "int" = none) :
    FnG P w K mg base 1 f fd ["script"] (rawS 4 1 (sb__law_deck)) :=
  fng_of Fu sc__law_deck fun cdv A outer s H hr hgd =>
    dss_cons (ds_asg sc__law_deck.nd rfl (by first | exact .inl rfl | exact .inr rfl) (de_lst (dx_nil))) (dss_cons (ds_for PassesOwn.never rfl (di_rng1 (by rfl) b_range (da_cons (de_bi (fun h => pe_callB (call_max2 rfl) (by rfl) b_max PyProof.Rows.boot_max h) bv_max2 (dos_cons ((de_int).o) (dos_cons ((de_bi (fun h => pe_callB (call_min2 rfl) (by rfl) b_min PyProof.Rows.boot_min h) bv_min2 (dos_cons ((de_int).o) (dos_cons ((de_bi (fun h => pe_callB c_len (by rfl) b_len PySem.boot_len h) bv_len (dos_cons (do_var (pv 0)) (dos_nil))).o) (dos_nil)))).o) (dos_nil)))) (da_nil))) (dg_nm sc__law_deck.nd rfl (by first | exact .inl rfl | exact .inr rfl)) (dss_cons (ds_asg sc__law_deck.nd rfl (by first | exact .inl rfl | exact .inr rfl) (de_int)) (dss_cons (ds_if (dt_cmp op_ltA (nomark _) cv_lt (do_var (pv 2)) ((de_bi (fun h => pe_callB c_len (by rfl) b_len PySem.boot_len h) bv_len (dos_cons (do_var (pv 0)) (dos_nil))).o)) (dss_cons (ds_asg sc__law_deck.nd rfl (by first | exact .inl rfl | exact .inr rfl) (de_ix ix_seq ov_ix (do_var (pv 0)) (do_var (pv 2)) (fun _ _ => rfl))) (dss_nil)) (dss_nil)) (dss_cons (ds_expr (de_apo (pv 1) (de_lst (dx_cons (de_var (pv 3)) (dx_cons (de_bi (fun h => pe_callTy call_int1 (by rfl) b_int PyProof.Rows.boot_int h) bv_int (dos_cons ((de_cmp op_ge (nomark _) cv_ge (do_var (pv 3)) ((de_bin op_pow ov_pow ((de_int).o) ((de_int).o)).o)).o) (dos_nil))) (dx_cons (de_bin op_addA ov_add ((de_bin op_mulA ov_mul ((de_int).o) (do_var (pv 2))).o) ((de_int).o)) (dx_nil))))))) (dss_nil))))) (dss_cons (ds_ret (de_lst (dx_cons (de_mv (pv 1)) (dx_cons (de_int) (dx_nil))))) (dss_nil)))
abbrev s__law_draw : Stmt := topS 34
theorem sc__law_draw : FnScope ["deck", "many", "pool", "found", "mixed"] ["deck", "many"] (defScope s__law_draw) := ⟨rfl, rfl, rfl, by decide +kernel, rfl, by decide +kernel, by decide +kernel⟩
def sb__law_draw : List SS :=
  [.asg (.nm 2) (.ix (.ix (.var 0) (.cst (.int 0))) (.bin .mod (.ix (.var 0) (.cst (.int 1))) (.bi .len [.ix (.var 0) (.cst (.int 0))]))), .setix 0 (.cst (.int 1)) (.bin .add (.ix (.var 0) (.cst (.int 1))) (.cst (.int 1))), .ifs (.andE (.cmp .eq (.ix (.var 2) (.cst (.int 1))) (.cst (.int 1))) (.cmp .gt (.ix (.var 2) (.cst (.int 0))) (.cst (.int 0)))) [.asg (.nm 3) (.bin .mod (.ix (.var 2) (.cst (.int 0))) (.var 1)), .setix 2 (.cst (.int 0)) (.bin .fdiv (.ix (.var 2) (.cst (.int 0))) (.var 1)), .ret (.var 3)] [], .setix 2 (.cst (.int 2)) (.bin .add (.ix (.var 2) (.cst (.int 2))) (.cst (.int 1))), .asg (.nm 4) (.bin .add (.bin .mod (.ix (.var 2) (.cst (.int 0))) (.cst (.int 162259276829213363391578010288127))) (.bin .mul (.cst (.int 994009321)) (.ix (.var 2) (.cst (.int 2))))), .asg (.nm 4) (.bin .mod (.bin .pow (.var 4) (.cst (.int 3))) (.cst (.int 618970019642690137449562111))), .asg (.nm 4) (.bin .mod (.bin .pow (.bin .add (.var 4) (.bin .mul (.cst (.int 49979687)) (.ix (.var 2) (.cst (.int 2))))) (.cst (.int 3))) (.cst (.int 162259276829213363391578010288127))), .ret (.bin .mod (.bin .fdiv (.var 4) (.cst (.int 32768))) (.var 1))]
set_option maxHeartbeats 0 in
theorem g__law_draw {P : Program} {w : World} {K : PySem.W.Frag} {mg : Str → Option Value} {base : Heap} {f : Addr} {fd : FuncData} (Fu : Fun K "_law_draw" "_law_draw" s__law_draw f fd) (b_len : mg "len" = none) :
    FnG P w K mg base 1 f fd ["deck", "many"] (rawS 5 2 (sb__law_draw)) :=
  fng_of Fu sc__law_draw fun cdv A outer s H hr hgd =>
    dss_cons (ds_asg sc__law_draw.nd rfl (by first | exact .inl rfl | exact .inr rfl) (de_ix ix_seq ov_ix ((de_ix ix_seq ov_ix (do_var (pv 0)) ((de_int).o) (fun _ _ => rfl)).o) ((de_bin op_mod ov_mod ((de_ix ix_seq ov_ix (do_var (pv 0)) ((de_int).o) (fun _ _ => rfl)).o) ((de_bi (fun h => pe_callB c_len (by rfl) b_len PySem.boot_len h) bv_len (dos_cons ((de_ix ix_seq ov_ix (do_var (pv 0)) ((de_int).o) (fun _ _ => rfl)).o) (dos_nil))).o)).o) (fun _ _ => rfl))) (dss_cons (ds_setix (de_bin op_addA ov_add ((de_ix ix_seq ov_ix (do_var (pv 0)) ((de_int).o) (fun _ _ => rfl)).o) ((de_int).o)) (pv 0) (de_int)) (dss_cons (ds_if ((dt_and2 (dt_cmp (op_eqD hr.units) (nomark _) cv_eq ((de_ix ix_seq ov_ix (do_var (pv 2)) ((de_int).o) (fun _ _ => rfl)).o) ((de_int).o)) (pw_and1 (dt_cmp op_gtA (nomark _) cv_gt ((de_ix ix_seq ov_ix (do_var (pv 2)) ((de_int).o) (fun _ _ => rfl)).o) ((de_int).o)))).pt) (dss_cons (ds_asg sc__law_draw.nd rfl (by first | exact .inl rfl | exact .inr rfl) (de_bin op_mod ov_mod ((de_ix ix_seq ov_ix (do_var (pv 2)) ((de_int).o) (fun _ _ => rfl)).o) (do_var (pv 1)))) (dss_cons (ds_setix (de_bin op_fdivW ov_fdiv ((de_ix ix_seq ov_ix (do_var (pv 2)) ((de_int).o) (fun _ _ => rfl)).o) (do_var (pv 1))) (pv 2) (de_int)) (dss_cons (ds_ret (de_var (pv 3))) (dss_nil)))) (dss_nil)) (dss_cons (ds_setix (de_bin op_addA ov_add ((de_ix ix_seq ov_ix (do_var (pv 2)) ((de_int).o) (fun _ _ => rfl)).o) ((de_int).o)) (pv 2) (de_int)) (dss_cons (ds_asg sc__law_draw.nd rfl (by first | exact .inl rfl | exact .inr rfl) (de_bin op_addA ov_add ((de_bin op_mod ov_mod ((de_ix ix_seq ov_ix (do_var (pv 2)) ((de_int).o) (fun _ _ => rfl)).o) ((de_int).o)).o) ((de_bin op_mulA ov_mul ((de_int).o) ((de_ix ix_seq ov_ix (do_var (pv 2)) ((de_int).o) (fun _ _ => rfl)).o)).o))) (dss_cons (ds_asg sc__law_draw.nd rfl (by first | exact .inl rfl | exact .inr rfl) (de_bin op_mod ov_mod ((de_bin op_pow ov_pow (do_var (pv 4)) ((de_int).o)).o) ((de_int).o))) (dss_cons (ds_asg sc__law_draw.nd rfl (by first | exact .inl rfl | exact .inr rfl) (de_bin op_mod ov_mod ((de_bin op_pow ov_pow ((de_bin op_addA ov_add (do_var (pv 4)) ((de_bin op_mulA ov_mul ((de_int).o) ((de_ix ix_seq ov_ix (do_var (pv 2)) ((de_int).o) (fun _ _ => rfl)).o)).o)).o) ((de_int).o)).o) ((de_int).o))) (dss_cons (ds_ret (de_bin op_mod ov_mod ((de_bin op_fdivW ov_fdiv (do_var (pv 4)) ((de_int).o)).o) (do_var (pv 1)))) (dss_nil))))))))
abbrev s__law_value : Stmt := topS 35
theorem sc__law_value : FnScope ["deck", "few", "signs", "turn"] ["deck", "few"] (defScope s__law_value) := ⟨rfl, rfl, rfl, by decide +kernel, rfl, by decide +kernel, by decide +kernel⟩
def sb__law_value (S__law_draw : Spc) : List SS :=
  [.ifs (.cmp .gt (.call S__law_draw [.var 0, .cst (.int 6)]) (.cst (.int 0))) [.ret (.ix (.lst [.one (.cst (.str "a")), .one (.cst (.str "b")), .one (.cst (.str "c")), .one (.cst (.str "0")), .one (.cst (.str "ab")), .one (.cst (.str "zz99")), .one (.cst (.str "12345678"))]) (.call S__law_draw [.var 0, .var 1]))] [], .asg (.nm 2) (.cst (.str "abcdefghijklmnopqrstuvwxyz0123456789")), .ret (.bi .join [.cst (.str ""), .lc [3] (.nm 3) (.rng1 [.bin .add (.cst (.int 1)) (.call S__law_draw [.var 0, .cst (.int 8)])]) [] (.ix (.var 2) (.call S__law_draw [.var 0, .cst (.int 36)]))])]
set_option maxHeartbeats 0 in
theorem g__law_value {P : Program} {w : World} {K : PySem.W.Frag} {mg : Str → Option Value} {base : Heap} {f : Addr} {fd : FuncData} (Fu : Fun K "_law_value" "_law_value" s__law_value f fd) {f__law_draw : Addr} {fd__law_draw : FuncData} {S__law_draw : Spc} (c__law_draw : Cb P w K mg base 1 "_law_draw" f__law_draw fd__law_draw ["deck", "many"] S__law_draw) (b_range : mg "range" = none) :
    FnG P w K mg base 2 f fd ["deck", "few"] (rawS 4 2 (sb__law_value S__law_draw)) :=
  fng_of Fu sc__law_value fun cdv A outer s H hr hgd =>
    dss_cons (ds_if (dt_cmp op_gtA (nomark _) cv_gt ((de_call c__law_draw (hr.mono (by omega)) hgd (by rfl) (da_cons (de_var (pv 0)) (da_cons (de_int) (da_nil)))).o) ((de_int).o)) (dss_cons (ds_ret (de_ix ix_seq ov_ix ((de_lst (dx_cons (de_str) (dx_cons (de_str) (dx_cons (de_str) (dx_cons (de_str) (dx_cons (de_str) (dx_cons (de_str) (dx_cons (de_str) (dx_nil))))))))).o) ((de_call c__law_draw (hr.mono (by omega)) hgd (by rfl) (da_cons (de_var (pv 0)) (da_cons (de_var (pv 1)) (da_nil)))).o) (fun _ _ => rfl))) (dss_nil)) (dss_nil)) (dss_cons (ds_asg sc__law_value.nd rfl (by first | exact .inl rfl | exact .inr rfl) (de_str)) (dss_cons (ds_ret (de_join ((de_lc (own := [("turn", 3)]) rfl sc__law_value.nd (di_rng1 (by rfl) b_range (da_cons (de_bin op_addA ov_add ((de_int).o) ((de_call c__law_draw (hr.mono (by omega)) hgd (by rfl) (da_cons (de_var (pv 0)) (da_cons (de_int) (da_nil)))).o)) (da_nil))) (blkOk_by (by first | rfl | kernel_rfl)) (by decide) (fun _ _ _ _ _ => dg_nm sc__law_value.nd rfl (by first | exact .inl rfl | exact .inr rfl)) (fun _ _ _ _ _ => dcs_nil) (fun _ _ _ _ _ => de_ix ix_seq ov_ix (do_var (pv 2)) ((de_call c__law_draw (hr.mono (by omega)) hgd (by rfl) (da_cons (de_var (pv 0)) (da_cons (de_int) (da_nil)))).o) (fun _ _ => rfl))).o))) (dss_nil)))
abbrev s__law_table : Stmt := topS 36
theorem sc__law_table : FnScope ["deck", "most", "wide", "sizes", "many", "style", "few", "rows_here", "turn", "row", "cut", "spot"] ["deck", "most", "wide"] (defScope s__law_table) := ⟨rfl, rfl, rfl, by decide +kernel, rfl, by decide +kernel, by decide +kernel⟩
def sb__law_table (S__law_draw S__law_value : Spc) : List SS :=
  [.asg (.nm 3) (.lst [.one (.bin .add (.cst (.int 1)) (.call S__law_draw [.var 0, .bi .min2 [.var 1, .cst (.int 4)]])), .one (.bin .add (.cst (.int 1)) (.call S__law_draw [.var 0, .var 1])), .one (.var 1)]), .par [4, 5, 6, 7] [.one (.ix (.var 3) (.call S__law_draw [.var 0, .cst (.int 3)])), .one (.call S__law_draw [.var 0, .cst (.int 4)]), .one (.bin .add (.cst (.int 1)) (.call S__law_draw [.var 0, .cst (.int 7)])), .one (.lst [])], .for_ (.nm 8) (.rng1 [.var 4]) [.asg (.nm 9) (.bi .tuple_ [.lc [11] (.nm 11) (.rng1 [.var 2]) [] (.call S__law_value [.var 0, .var 6])]), .ifs (.andE (.cmp .gt (.var 5) (.cst (.int 0))) (.cmp .ne (.var 7) (.lst []))) [.asg (.nm 10) (.call S__law_draw [.var 0, .bin .add (.var 2) (.cst (.int 1))]), .asg (.nm 9) (.bin .add (.sl (.ix (.var 7) (.neg (.cst (.int 1)))) (.nop) (.var 10)) (.sl (.var 9) (.var 10) (.nop)))] [], .expr (.mc 7 .append [.var 9])], .ret (.bi .tuple_ [.ife (.cmp .eq (.var 5) (.cst (.int 3))) (.bi .sorted_ [.var 7]) (.var 7)])]
set_option maxHeartbeats 0 in
theorem g__law_table {P : Program} {w : World} {K : PySem.W.Frag} {mg : Str → Option Value} {base : Heap} {f : Addr} {fd : FuncData} (Fu : Fun K "_law_table" "_law_table" s__law_table f fd) {f__law_draw : Addr} {fd__law_draw : FuncData} {S__law_draw : Spc} (c__law_draw : Cb P w K mg base 1 "_law_draw" f__law_draw fd__law_draw ["deck", "many"] S__law_draw) {f__law_value : Addr} {fd__law_value : FuncData} {S__law_value : Spc} (c__law_value : Cb P w K mg base 2 "_law_value" f__law_value fd__law_value ["deck", "few"] S__law_value) (b_min : mg "min" = none) (b_range : mg "range" = none) (b_tuple : mg "tuple" = none) (b_sorted : mg "sorted" = none) :
    FnG P w K mg base 3 f fd ["deck", "most", "wide"] (rawS 12 3 (sb__law_table S__law_draw S__law_value)) :=
  fng_of Fu sc__law_table fun cdv A outer s H hr hgd =>
    dss_cons (ds_asg sc__law_table.nd rfl (by first | exact .inl rfl | exact .inr rfl) (de_lst (dx_cons (de_bin op_addA ov_add ((de_int).o) ((de_call c__law_draw (hr.mono (by omega)) hgd (by rfl) (da_cons (de_var (pv 0)) (da_cons (de_bi (fun h => pe_callB (call_min2 rfl) (by rfl) b_min PyProof.Rows.boot_min h) bv_min2 (dos_cons (do_var (pv 1)) (dos_cons ((de_int).o) (dos_nil)))) (da_nil)))).o)) (dx_cons (de_bin op_addA ov_add ((de_int).o) ((de_call c__law_draw (hr.mono (by omega)) hgd (by rfl) (da_cons (de_var (pv 0)) (da_cons (de_var (pv 1)) (da_nil)))).o)) (dx_cons (de_var (pv 1)) (dx_nil)))))) (dss_cons (ds_parT rfl (pgn_cons (pg_name (i := 4) sc__law_table.nd rfl (by first | exact .inl rfl | exact .inr rfl)) (pgn_cons (pg_name (i := 5) sc__law_table.nd rfl (by first | exact .inl rfl | exact .inr rfl)) (pgn_cons (pg_name (i := 6) sc__law_table.nd rfl (by first | exact .inl rfl | exact .inr rfl)) (pgn_cons (pg_name (i := 7) sc__law_table.nd rfl (by first | exact .inl rfl | exact .inr rfl)) (pgn_nil))))) (dx_cons (de_ix ix_seq ov_ix (do_var (pv 3)) ((de_call c__law_draw (hr.mono (by omega)) hgd (by rfl) (da_cons (de_var (pv 0)) (da_cons (de_int) (da_nil)))).o) (fun _ _ => rfl)) (dx_cons (de_call c__law_draw (hr.mono (by omega)) hgd (by rfl) (da_cons (de_var (pv 0)) (da_cons (de_int) (da_nil)))) (dx_cons (de_bin op_addA ov_add ((de_int).o) ((de_call c__law_draw (hr.mono (by omega)) hgd (by rfl) (da_cons (de_var (pv 0)) (da_cons (de_int) (da_nil)))).o)) (dx_cons (de_lst (dx_nil)) (dx_nil))))) 4) (dss_cons (ds_for PassesOwn.never rfl (di_rng1 (by rfl) b_range (da_cons (de_var (pv 4)) (da_nil))) (dg_nm sc__law_table.nd rfl (by first | exact .inl rfl | exact .inr rfl)) (dss_cons (ds_asg sc__law_table.nd rfl (by first | exact .inl rfl | exact .inr rfl) (de_bi (fun h => pe_callTy call_tuple_of (by rfl) b_tuple PyProof.Rows.boot_tuple h) bv_tuple (dos_cons ((de_lc (own := [("spot", 11)]) rfl sc__law_table.nd (di_rng1 (by rfl) b_range (da_cons (de_var (pv 2)) (da_nil))) (blkOk_by (by first | rfl | kernel_rfl)) (by decide) (fun _ _ _ _ _ => dg_nm sc__law_table.nd rfl (by first | exact .inl rfl | exact .inr rfl)) (fun _ _ _ _ _ => dcs_nil) (fun _ _ _ _ _ => de_call c__law_value (hr.mono (by omega)) hgd (by rfl) (da_cons (de_var (pv 0)) (da_cons (de_var (pv 6)) (da_nil))))).o) (dos_nil)))) (dss_cons (ds_if ((dt_and2 (dt_cmp op_gtA (nomark _) cv_gt (do_var (pv 5)) ((de_int).o)) (pw_and1 (dt_cmp (op_neD hr.units) (nomark _) cv_ne (do_var (pv 7)) ((de_lst (dx_nil)).o)))).pt) (dss_cons (ds_asg sc__law_table.nd rfl (by first | exact .inl rfl | exact .inr rfl) (de_call c__law_draw (hr.mono (by omega)) hgd (by rfl) (da_cons (de_var (pv 0)) (da_cons (de_bin op_addA ov_add (do_var (pv 2)) ((de_int).o)) (da_nil))))) (dss_cons (ds_asg sc__law_table.nd rfl (by first | exact .inl rfl | exact .inr rfl) (de_bin op_addA ov_add ((de_sl sl_D slv_D ((de_ix ix_seq ov_ix (do_var (pv 7)) ((de_neg (de_int)).o) (fun _ _ => rfl)).o) (dpo_none) (dpo_some (de_var (pv 10)))).o) ((de_sl sl_D slv_D (do_var (pv 9)) (dpo_some (de_var (pv 10))) (dpo_none)).o))) (dss_nil))) (dss_nil)) (dss_cons (ds_expr (de_mc PySem.F.plainAttrs_list PySem.F.slot_list_append PySem.F.type_list_append mt_append mv_append (pv 7) (da_cons (de_var (pv 9)) (da_nil)))) (dss_nil))))) (dss_cons (ds_ret (de_bi (fun h => pe_callTy call_tuple_of (by rfl) b_tuple PyProof.Rows.boot_tuple h) bv_tuple (dos_cons ((de_ife (dt_cmp (op_eqD hr.units) (nomark _) cv_eq (do_var (pv 5)) ((de_int).o)) (de_bi (fun h => pe_callB (c_sorted hr.units) (by rfl) b_sorted PyProof.Rows.boot_sorted h) bv_sorted (dos_cons (do_var (pv 7)) (dos_nil))) (de_var (pv 7))).o) (dos_nil)))) (dss_nil))))
abbrev s__law_shared : Stmt := topS 37
theorem sc__law_shared : FnScope ["row", "other", "found"] ["row", "other"] (defScope s__law_shared) := ⟨rfl, rfl, rfl, by decide +kernel, rfl, by decide +kernel, by decide +kernel⟩
def sb__law_shared : List SS :=
  [.asg (.nm 2) (.cst (.int 0)), .while_ (.andE (.cmp .lt (.var 2) (.bi .len [.var 0])) (.cmp .eq (.ix (.var 0) (.var 2)) (.ix (.var 1) (.var 2)))) [.asg (.nm 2) (.bin .add (.var 2) (.cst (.int 1)))], .ret (.var 2)]
set_option maxHeartbeats 0 in
theorem g__law_shared {P : Program} {w : World} {K : PySem.W.Frag} {mg : Str → Option Value} {base : Heap} {f : Addr} {fd : FuncData} (Fu : Fun K "_law_shared" "_law_shared" s__law_shared f fd) (b_len : mg "len" = none) :
    FnG P w K mg base 1 f fd ["row", "other"] (rawS 3 2 (sb__law_shared)) :=
  fng_of Fu sc__law_shared fun cdv A outer s H hr hgd =>
    dss_cons (ds_asg sc__law_shared.nd rfl (by first | exact .inl rfl | exact .inr rfl) (de_int)) (dss_cons (ds_while PassesOwn.never ((dt_and2 (dt_cmp op_ltA (nomark _) cv_lt (do_var (pv 2)) ((de_bi (fun h => pe_callB c_len (by rfl) b_len PySem.boot_len h) bv_len (dos_cons (do_var (pv 0)) (dos_nil))).o)) (pw_and1 (dt_cmp (op_eqD hr.units) (nomark _) cv_eq ((de_ix ix_seq ov_ix (do_var (pv 0)) (do_var (pv 2)) (fun _ _ => rfl)).o) ((de_ix ix_seq ov_ix (do_var (pv 1)) (do_var (pv 2)) (fun _ _ => rfl)).o)))).pt) (dss_cons (ds_asg sc__law_shared.nd rfl (by first | exact .inl rfl | exact .inr rfl) (de_bin op_addA ov_add (do_var (pv 2)) ((de_int).o))) (dss_nil))) (dss_cons (ds_ret (de_var (pv 2))) (dss_nil)))
abbrev s__law_most : Stmt := topS 38
theorem sc__law_most : FnScope ["table_here", "row", "above"] ["table_here"] (defScope s__law_most) := ⟨rfl, rfl, rfl, by decide +kernel, rfl, by decide +kernel, by decide +kernel⟩
def sb__law_most (S__law_shared : Spc) : List SS :=
  [.ret (.bin .add (.lst [.one (.cst (.int 0))]) (.lc [1, 2] (.tup [.nm 1, .nm 2]) (.zip2 [.sl (.var 0) (.cst (.int 1)) (.nop), .var 0]) [] (.call S__law_shared [.var 1, .var 2])))]
set_option maxHeartbeats 0 in
theorem g__law_most {P : Program} {w : World} {K : PySem.W.Frag} {mg : Str → Option Value} {base : Heap} {f : Addr} {fd : FuncData} (Fu : Fun K "_law_most" "_law_most" s__law_most f fd) {f__law_shared : Addr} {fd__law_shared : FuncData} {S__law_shared : Spc} (c__law_shared : Cb P w K mg base 1 "_law_shared" f__law_shared fd__law_shared ["row", "other"] S__law_shared) (b_zip : mg "zip" = none) :
    FnG P w K mg base 2 f fd ["table_here"] (rawS 3 1 (sb__law_most S__law_shared)) :=
  fng_of Fu sc__law_most fun cdv A outer s H hr hgd =>
    dss_cons (ds_ret (de_bin op_addA ov_add ((de_lst (dx_cons (de_int) (dx_nil))).o) ((de_lc (own := [("row", 1), ("above", 2)]) rfl sc__law_most.nd (di_zip2 (by rfl) b_zip (da_cons (de_sl sl_D slv_D (do_var (pv 0)) (dpo_some (de_int)) (dpo_none)) (da_cons (de_var (pv 0)) (da_nil)))) (blkOk_by (by first | rfl | kernel_rfl)) (by decide) (fun _ _ _ _ _ => dg_tup rfl (dgs_cons (dg_nm sc__law_most.nd rfl (by first | exact .inl rfl | exact .inr rfl)) (dgs_cons (dg_nm sc__law_most.nd rfl (by first | exact .inl rfl | exact .inr rfl)) (dgs_nil))) 2) (fun _ _ _ _ _ => dcs_nil) (fun _ _ _ _ _ => de_call c__law_shared (hr.mono (by omega)) hgd (by rfl) (da_cons (de_var (pv 1)) (da_cons (de_var (pv 2)) (da_nil))))).o))) (dss_nil)
abbrev s__law_with : Stmt := topS 39
theorem sc__law_with : FnScope ["table_here", "blanks", "row", "count"] ["table_here", "blanks"] (defScope s__law_with) := ⟨rfl, rfl, rfl, by decide +kernel, rfl, by decide +kernel, by decide +kernel⟩
def sb__law_with : List SS :=
  [.ret (.bi .tuple_ [.lc [2, 3] (.tup [.nm 2, .nm 3]) (.zip2 [.var 0, .var 1]) [] (.bin .add (.bin .mul (.tup [.one (.cst .non)]) (.var 3)) (.sl (.var 2) (.var 3) (.nop)))])]
set_option maxHeartbeats 0 in
theorem g__law_with {P : Program} {w : World} {K : PySem.W.Frag} {mg : Str → Option Value} {base : Heap} {f : Addr} {fd : FuncData} (Fu : Fun K "_law_with" "_law_with" s__law_with f fd) (b_tuple : mg "tuple" = none) (b_zip : mg "zip" = none) :
    FnG P w K mg base 1 f fd ["table_here", "blanks"] (rawS 4 2 (sb__law_with)) :=
  fng_of Fu sc__law_with fun cdv A outer s H hr hgd =>
    dss_cons (ds_ret (de_bi (fun h => pe_callTy call_tuple_of (by rfl) b_tuple PyProof.Rows.boot_tuple h) bv_tuple (dos_cons ((de_lc (own := [("row", 2), ("count", 3)]) rfl sc__law_with.nd (di_zip2 (by rfl) b_zip (da_cons (de_var (pv 0)) (da_cons (de_var (pv 1)) (da_nil)))) (blkOk_by (by first | rfl | kernel_rfl)) (by decide) (fun _ _ _ _ _ => dg_tup rfl (dgs_cons (dg_nm sc__law_with.nd rfl (by first | exact .inl rfl | exact .inr rfl)) (dgs_cons (dg_nm sc__law_with.nd rfl (by first | exact .inl rfl | exact .inr rfl)) (dgs_nil))) 2) (fun _ _ _ _ _ => dcs_nil) (fun _ _ _ _ _ => de_bin op_addA ov_add ((de_bin op_mulA ov_mul ((de_tup (dx_cons (de_non) (dx_nil))).o) (do_var (pv 3))).o) ((de_sl sl_D slv_D (do_var (pv 2)) (dpo_some (de_var (pv 3))) (dpo_none)).o))).o) (dos_nil)))) (dss_nil)
abbrev s__law_page : Stmt := topS 40
theorem sc__law_page : FnScope ["deck", "table_here", "style", "blanks", "count"] ["deck", "table_here"] (defScope s__law_page) := ⟨rfl, rfl, rfl, by decide +kernel, rfl, by decide +kernel, by decide +kernel⟩
def sb__law_page (S__law_draw S__law_most S__law_with : Spc) : List SS :=
  [.asg (.nm 2) (.call S__law_draw [.var 0, .cst (.int 4)]), .asg (.nm 3) (.lst []), .for_ (.nm 4) (.seq (.call S__law_most [.var 1])) [.expr (.mc 3 .append [.ix (.lst [.one (.var 4), .one (.call S__law_draw [.var 0, .bin .add (.var 4) (.cst (.int 1))]), .one (.var 4), .one (.ix (.lst [.one (.cst (.int 0)), .one (.var 4)]) (.call S__law_draw [.var 0, .cst (.int 2)]))]) (.var 2)])], .ret (.call S__law_with [.var 1, .var 3])]
set_option maxHeartbeats 0 in
theorem g__law_page {P : Program} {w : World} {K : PySem.W.Frag} {mg : Str → Option Value} {base : Heap} {f : Addr} {fd : FuncData} (Fu : Fun K "_law_page" "_law_page" s__law_page f fd) {f__law_draw : Addr} {fd__law_draw : FuncData} {S__law_draw : Spc} (c__law_draw : Cb P w K mg base 1 "_law_draw" f__law_draw fd__law_draw ["deck", "many"] S__law_draw) {f__law_most : Addr} {fd__law_most : FuncData} {S__law_most : Spc} (c__law_most : Cb P w K mg base 2 "_law_most" f__law_most fd__law_most ["table_here"] S__law_most) {f__law_with : Addr} {fd__law_with : FuncData} {S__law_with : Spc} (c__law_with : Cb P w K mg base 1 "_law_with" f__law_with fd__law_with ["table_here", "blanks"] S__law_with) :
    FnG P w K mg base 3 f fd ["deck", "table_here"] (rawS 5 2 (sb__law_page S__law_draw S__law_most S__law_with)) :=
  fng_of Fu sc__law_page fun cdv A outer s H hr hgd =>
    dss_cons (ds_asg sc__law_page.nd rfl (by first | exact .inl rfl | exact .inr rfl) (de_call c__law_draw (hr.mono (by omega)) hgd (by rfl) (da_cons (de_var (pv 0)) (da_cons (de_int) (da_nil))))) (dss_cons (ds_asg sc__law_page.nd rfl (by first | exact .inl rfl | exact .inr rfl) (de_lst (dx_nil))) (dss_cons (ds_for PassesOwn.never rfl (di_seq (de_call c__law_most (hr.mono (by omega)) hgd (by rfl) (da_cons (de_var (pv 1)) (da_nil)))) (dg_nm sc__law_page.nd rfl (by first | exact .inl rfl | exact .inr rfl)) (dss_cons (ds_expr (de_mc PySem.F.plainAttrs_list PySem.F.slot_list_append PySem.F.type_list_append mt_append mv_append (pv 3) (da_cons (de_ix ix_seq ov_ix ((de_lst (dx_cons (de_var (pv 4)) (dx_cons (de_call c__law_draw (hr.mono (by omega)) hgd (by rfl) (da_cons (de_var (pv 0)) (da_cons (de_bin op_addA ov_add (do_var (pv 4)) ((de_int).o)) (da_nil)))) (dx_cons (de_var (pv 4)) (dx_cons (de_ix ix_seq ov_ix ((de_lst (dx_cons (de_int) (dx_cons (de_var (pv 4)) (dx_nil)))).o) ((de_call c__law_draw (hr.mono (by omega)) hgd (by rfl) (da_cons (de_var (pv 0)) (da_cons (de_int) (da_nil)))).o) (fun _ _ => rfl)) (dx_nil)))))).o) (do_var (pv 2)) (fun _ _ => rfl)) (da_nil)))) (dss_nil))) (dss_cons (ds_ret (de_call c__law_with (hr.mono (by omega)) hgd (by rfl) (da_cons (de_var (pv 1)) (da_cons (de_var (pv 3)) (da_nil))))) (dss_nil))))
abbrev s__law_columns_right : Stmt := topS 41
theorem sc__law_columns_right : FnScope ["table_here", "now", "spot", "row_order", "row"] ["table_here"] (defScope s__law_columns_right) := ⟨rfl, rfl, rfl, by decide +kernel, rfl, by decide +kernel, by decide +kernel⟩
def sb__law_columns_right (S_sort_order S_wrong_rows S_keeps : Spc) : List SS :=
  [.asg (.nm 1) (.var 0), .for_ (.nm 2) (.rngD [.bin .sub (.bi .len [.ix (.var 0) (.cst (.int 0))]) (.cst (.int 1)), .neg (.cst (.int 1)), .neg (.cst (.int 1))]) [.asg (.nm 3) (.call (dflS S_sort_order true) [.var 1, .var 2]), .ifs (.orE (.notE (.call S_keeps [.var 1, .var 3])) (.cmp .ne (.call S_wrong_rows [.var 1, .var 3]) (.lst []))) [.ret (.cst (.bl false))] [], .asg (.nm 1) (.bi .tuple_ [.lc [4] (.nm 4) (.seq (.var 3)) [] (.ix (.var 1) (.var 4))]), .ifs (.cmp .ne (.call S_sort_order ([.var 1, .var 2] ++ [.cst (.bl false)])) (.call trangeS [.bi .len [.var 1]])) [.ret (.cst (.bl false))] []], .ret (.cmp .eq (.var 1) (.bi .tuple_ [.call sortedTS [.var 0]]))]
set_option maxHeartbeats 0 in
theorem g__law_columns_right {P : Program} {w : World} {K : PySem.W.Frag} {mg : Str → Option Value} {base : Heap} {f : Addr} {fd : FuncData} (Fu : Fun K "_law_columns_right" "_law_columns_right" s__law_columns_right f fd) {f_sort_order : Addr} {fd_sort_order : FuncData} {S_sort_order : Spc} (c_sort_order : CbN P w K mg base 6 "sort_order" f_sort_order fd_sort_order ["page", "column", "blanks_last"] S_sort_order) {f_wrong_rows : Addr} {fd_wrong_rows : FuncData} {S_wrong_rows : Spc} (c_wrong_rows : Cb P w K mg base 7 "wrong_rows" f_wrong_rows fd_wrong_rows ["page", "order"] S_wrong_rows) {f_keeps : Addr} {fd_keeps : FuncData} {S_keeps : Spc} (c_keeps : Cb P w K mg base 6 "keeps" f_keeps fd_keeps ["page", "order"] S_keeps) (bd_sort_order : Binds K fd_sort_order ["page", "column", "blanks_last"] [.bool true]) (kb_sort_order_2 : KBi fd_sort_order ["page", "column", "blanks_last"] ["blanks_last"]) (b_range : mg "range" = none) (b_len : mg "len" = none) (b_tuple : mg "tuple" = none) (b_sorted : mg "sorted" = none) :
    FnG P w K mg base 8 f fd ["table_here"] (rawS 5 1 (sb__law_columns_right S_sort_order S_wrong_rows S_keeps)) :=
  fng_of Fu sc__law_columns_right fun cdv A outer s H hr hgd =>
    dss_cons (ds_asg sc__law_columns_right.nd rfl (by first | exact .inl rfl | exact .inr rfl) (de_var (pv 0))) (dss_cons (ds_for PassesOwn.never rfl (di_rngD (by rfl) b_range (da_cons (de_bin op_sub ov_sub ((de_bi (fun h => pe_callB c_len (by rfl) b_len PySem.boot_len h) bv_len (dos_cons ((de_ix ix_seq ov_ix (do_var (pv 0)) ((de_int).o) (fun _ _ => rfl)).o) (dos_nil))).o) ((de_int).o)) (da_cons (de_neg (de_int)) (da_cons (de_neg (de_int)) (da_nil))))) (dg_nm sc__law_columns_right.nd rfl (by first | exact .inl rfl | exact .inr rfl)) (dss_cons (ds_asg sc__law_columns_right.nd rfl (by first | exact .inl rfl | exact .inr rfl) (de_callD c_sort_order bd_sort_order (hr.mono (by omega)) hgd (by rfl) (da_cons (de_var (pv 1)) (da_cons (de_var (pv 2)) (da_nil))))) (dss_cons (ds_if ((dt_or2 (dt_not ((de_call c_keeps (hr.mono (by omega)) hgd (by rfl) (da_cons (de_var (pv 1)) (da_cons (de_var (pv 3)) (da_nil)))).t)) (pw_or1 (dt_cmp (op_neD hr.units) (nomark _) cv_ne ((de_call c_wrong_rows (hr.mono (by omega)) hgd (by rfl) (da_cons (de_var (pv 1)) (da_cons (de_var (pv 3)) (da_nil)))).o) ((de_lst (dx_nil)).o)))).pt) (dss_cons (ds_ret (de_bl)) (dss_nil)) (dss_nil)) (dss_cons (ds_asg sc__law_columns_right.nd rfl (by first | exact .inl rfl | exact .inr rfl) (de_bi (fun h => pe_callTy call_tuple_of (by rfl) b_tuple PyProof.Rows.boot_tuple h) bv_tuple (dos_cons ((de_lc (own := [("row", 4)]) rfl sc__law_columns_right.nd (di_seq (de_var (pv 3))) (blkOk_by (by first | rfl | kernel_rfl)) (by decide) (fun _ _ _ _ _ => dg_nm sc__law_columns_right.nd rfl (by first | exact .inl rfl | exact .inr rfl)) (fun _ _ _ _ _ => dcs_nil) (fun _ _ _ _ _ => de_ix ix_seq ov_ix (do_var (pv 1)) (do_var (pv 4)) (fun _ _ => rfl))).o) (dos_nil)))) (dss_cons (ds_if (dt_cmp (op_neD hr.units) (nomark _) cv_ne ((de_callKN c_sort_order kb_sort_order_2 (hr.mono (by omega)) hgd (by rfl) (da_cons (de_var (pv 1)) (da_cons (de_var (pv 2)) (da_nil))) (dk_cons (de_bl) (dk_nil))).o) ((de_trange rfl (by rfl) b_tuple (by rfl) b_range (de_bi (fun h => pe_callB c_len (by rfl) b_len PySem.boot_len h) bv_len (dos_cons (do_var (pv 1)) (dos_nil)))).o)) (dss_cons (ds_ret (de_bl)) (dss_nil)) (dss_nil)) (dss_nil)))))) (dss_cons (ds_ret (de_cmp (op_eqD hr.units) (nomark _) cv_eq (do_var (pv 1)) ((de_bi (fun h => pe_callTy call_tuple_of (by rfl) b_tuple PyProof.Rows.boot_tuple h) bv_tuple (dos_cons ((de_fn (fun h => pe_callB (c_sortedT hr.units) (by rfl) b_sorted PyProof.Rows.boot_sorted h) fv_sortedT (da_cons (de_var (pv 0)) (da_nil))).o) (dos_nil))).o))) (dss_nil)))
abbrev s__law_page_right : Stmt := topS 42
theorem sc__law_page_right : FnScope ["page_here", "spot", "is_last", "row_order", "cells", "shown", "blank", "table_here", "read", "wrong", "first", "row", "cell", "found"] ["page_here", "spot", "is_last"] (defScope s__law_page_right) := ⟨rfl, rfl, rfl, by decide +kernel, rfl, by decide +kernel, by decide +kernel⟩
def sb__law_page_right (S_sort_order S_filled S_read_in S_keeps S_wrong_rows : Spc) : List SS :=
  [.asg (.nm 3) (.call S_sort_order ([.var 0, .var 1] ++ [.var 2])), .asg (.nm 4) (.lc [11] (.nm 11) (.seq (.var 3)) [] (.ix (.ix (.var 0) (.var 11)) (.var 1))), .asg (.nm 5) (.lc [12] (.nm 12) (.seq (.var 4)) [.cmp .isnt (.var 12) (.cst .non)] (.var 12)), .asg (.nm 6) (.bin .mul (.lst [.one (.cst .non)]) (.bin .sub (.bi .len [.var 4]) (.bi .len [.var 5]))), .ifs (.orE (.cmp .ne (.var 5) (.bi .sorted_ [.var 5])) (.cmp .ne (.var 4) (.ife (.var 2) (.bin .add (.var 5) (.var 6)) (.bin .add (.var 6) (.var 5))))) [.ret (.cst (.bl false))] [], .par [7, 8] [.one (.call S_filled [.var 0]), .one (.call S_read_in [.var 0, .var 3])], .asg (.nm 9) (.lc [11, 13] (.tup [.nm 11, .nm 13]) (.zip2 [.var 3, .var 8]) [.cmp .ne (.var 13) (.ix (.var 7) (.var 11))] (.var 11)), .ifs (.orE (.cmp .ne (.bi .sorted_ [.var 9]) (.call S_wrong_rows [.var 0, .var 3])) (.cmp .ne (.call S_keeps [.var 0, .var 3]) (.cmp .eq (.var 9) (.lst [])))) [.ret (.cst (.bl false))] [], .asg (.nm 10) (.ix (.ix (.var 0) (.ix (.var 3) (.cst (.int 0)))) (.cst (.int 0))), .ret (.orE (.cmp .isnt (.var 10) (.cst .non)) (.cmp .in_ (.ix (.var 3) (.cst (.int 0))) (.var 9)))]
set_option maxHeartbeats 0 in
theorem g__law_page_right {P : Program} {w : World} {K : PySem.W.Frag} {mg : Str → Option Value} {base : Heap} {f : Addr} {fd : FuncData} (Fu : Fun K "_law_page_right" "_law_page_right" s__law_page_right f fd) {f_sort_order : Addr} {fd_sort_order : FuncData} {S_sort_order : Spc} (c_sort_order : CbN P w K mg base 6 "sort_order" f_sort_order fd_sort_order ["page", "column", "blanks_last"] S_sort_order) {f_filled : Addr} {fd_filled : FuncData} {S_filled : Spc} (c_filled : Cb P w K mg base 6 "filled" f_filled fd_filled ["page"] S_filled) {f_read_in : Addr} {fd_read_in : FuncData} {S_read_in : Spc} (c_read_in : Cb P w K mg base 6 "read_in" f_read_in fd_read_in ["page", "order"] S_read_in) {f_keeps : Addr} {fd_keeps : FuncData} {S_keeps : Spc} (c_keeps : Cb P w K mg base 6 "keeps" f_keeps fd_keeps ["page", "order"] S_keeps) {f_wrong_rows : Addr} {fd_wrong_rows : FuncData} {S_wrong_rows : Spc} (c_wrong_rows : Cb P w K mg base 7 "wrong_rows" f_wrong_rows fd_wrong_rows ["page", "order"] S_wrong_rows) (kb_sort_order_2 : KBi fd_sort_order ["page", "column", "blanks_last"] ["blanks_last"]) (b_len : mg "len" = none) (b_sorted : mg "sorted" = none) (b_zip : mg "zip" = none) :
    FnG P w K mg base 8 f fd ["page_here", "spot", "is_last"] (rawS 14 3 (sb__law_page_right S_sort_order S_filled S_read_in S_keeps S_wrong_rows)) :=
  fng_of Fu sc__law_page_right fun cdv A outer s H hr hgd =>
    dss_cons (ds_asg sc__law_page_right.nd rfl (by first | exact .inl rfl | exact .inr rfl) (de_callKN c_sort_order kb_sort_order_2 (hr.mono (by omega)) hgd (by rfl) (da_cons (de_var (pv 0)) (da_cons (de_var (pv 1)) (da_nil))) (dk_cons (de_var (pv 2)) (dk_nil)))) (dss_cons (ds_asgLc (own := [("row", 11)]) rfl sc__law_page_right.nd rfl rfl (sw_true rfl rfl rfl rfl) (di_seq (de_var (pv 3))) (blkOk_by (by first | rfl | kernel_rfl)) (by decide) (fun _ _ _ _ _ => dg_nm sc__law_page_right.nd rfl (by first | exact .inl rfl | exact .inr rfl)) (fun _ _ _ _ _ => dcs_nil) (fun _ _ _ _ _ => de_ix ix_seq ov_ix ((de_ix ix_seq ov_ix (do_var (pv 0)) (do_var (pv 11)) (fun _ _ => rfl)).o) (do_var (pv 1)) (fun _ _ => rfl))) (dss_cons (ds_asgLc (own := [("cell", 12)]) rfl sc__law_page_right.nd rfl rfl (sw_true rfl rfl rfl rfl) (di_seq (de_var (pv 4))) (blkOk_by (by first | rfl | kernel_rfl)) (by decide) (fun _ _ _ _ _ => dg_nm sc__law_page_right.nd rfl (by first | exact .inl rfl | exact .inr rfl)) (fun _ _ _ _ _ => dcs_one (dt_cmp op_notN (nomark _) cv_isnt (do_var (pv 12)) ((de_non).o))) (fun _ _ _ _ _ => de_var (pv 12))) (dss_cons (ds_asg sc__law_page_right.nd rfl (by first | exact .inl rfl | exact .inr rfl) (de_bin op_mulA ov_mul ((de_lst (dx_cons (de_non) (dx_nil))).o) ((de_bin op_sub ov_sub ((de_bi (fun h => pe_callB c_len (by rfl) b_len PySem.boot_len h) bv_len (dos_cons (do_var (pv 4)) (dos_nil))).o) ((de_bi (fun h => pe_callB c_len (by rfl) b_len PySem.boot_len h) bv_len (dos_cons (do_var (pv 5)) (dos_nil))).o)).o))) (dss_cons (ds_if ((dt_or2 (dt_cmp (op_neD hr.units) (nomark _) cv_ne (do_var (pv 5)) ((de_bi (fun h => pe_callB (c_sorted hr.units) (by rfl) b_sorted PyProof.Rows.boot_sorted h) bv_sorted (dos_cons (do_var (pv 5)) (dos_nil))).o)) (pw_or1 (dt_cmp (op_neD hr.units) (nomark _) cv_ne (do_var (pv 4)) ((de_ife ((de_var (pv 2)).t) (de_bin op_addA ov_add (do_var (pv 5)) (do_var (pv 6))) (de_bin op_addA ov_add (do_var (pv 6)) (do_var (pv 5)))).o)))).pt) (dss_cons (ds_ret (de_bl)) (dss_nil)) (dss_nil)) (dss_cons (ds_parT rfl (pgn_cons (pg_name (i := 7) sc__law_page_right.nd rfl (by first | exact .inl rfl | exact .inr rfl)) (pgn_cons (pg_name (i := 8) sc__law_page_right.nd rfl (by first | exact .inl rfl | exact .inr rfl)) (pgn_nil))) (dx_cons (de_call c_filled (hr.mono (by omega)) hgd (by rfl) (da_cons (de_var (pv 0)) (da_nil))) (dx_cons (de_call c_read_in (hr.mono (by omega)) hgd (by rfl) (da_cons (de_var (pv 0)) (da_cons (de_var (pv 3)) (da_nil)))) (dx_nil))) 2) (dss_cons (ds_asgLc (own := [("row", 11), ("found", 13)]) rfl sc__law_page_right.nd rfl rfl (sw_true rfl rfl rfl rfl) (di_zip2 (by rfl) b_zip (da_cons (de_var (pv 3)) (da_cons (de_var (pv 8)) (da_nil)))) (blkOk_by (by first | rfl | kernel_rfl)) (by decide) (fun _ _ _ _ _ => dg_tup rfl (dgs_cons (dg_nm sc__law_page_right.nd rfl (by first | exact .inl rfl | exact .inr rfl)) (dgs_cons (dg_nm sc__law_page_right.nd rfl (by first | exact .inl rfl | exact .inr rfl)) (dgs_nil))) 2) (fun _ _ _ _ _ => dcs_one (dt_cmp (op_neD hr.units) (nomark _) cv_ne (do_var (pv 13)) ((de_ix ix_seq ov_ix (do_var (pv 7)) (do_var (pv 11)) (fun _ _ => rfl)).o))) (fun _ _ _ _ _ => de_var (pv 11))) (dss_cons (ds_if ((dt_or2 (dt_cmp (op_neD hr.units) (nomark _) cv_ne ((de_bi (fun h => pe_callB (c_sorted hr.units) (by rfl) b_sorted PyProof.Rows.boot_sorted h) bv_sorted (dos_cons (do_var (pv 9)) (dos_nil))).o) ((de_call c_wrong_rows (hr.mono (by omega)) hgd (by rfl) (da_cons (de_var (pv 0)) (da_cons (de_var (pv 3)) (da_nil)))).o)) (pw_or1 (dt_cmp (op_neD hr.units) (nomark _) cv_ne ((de_call c_keeps (hr.mono (by omega)) hgd (by rfl) (da_cons (de_var (pv 0)) (da_cons (de_var (pv 3)) (da_nil)))).o) ((de_cmp (op_eqD hr.units) (nomark _) cv_eq (do_var (pv 9)) ((de_lst (dx_nil)).o)).o)))).pt) (dss_cons (ds_ret (de_bl)) (dss_nil)) (dss_nil)) (dss_cons (ds_asg sc__law_page_right.nd rfl (by first | exact .inl rfl | exact .inr rfl) (de_ix ix_seq ov_ix ((de_ix ix_seq ov_ix (do_var (pv 0)) ((de_ix ix_seq ov_ix (do_var (pv 3)) ((de_int).o) (fun _ _ => rfl)).o) (fun _ _ => rfl)).o) ((de_int).o) (fun _ _ => rfl))) (dss_cons (ds_ret (de_or2 (de_cmp op_notN (nomark _) cv_isnt (do_var (pv 10)) ((de_non).o)) (DL.de_one (de_cmp op_inA (by with_unfolding_all rfl) cv_in ((de_ix ix_seq ov_ix (do_var (pv 3)) ((de_int).o) (fun _ _ => rfl)).o) (do_var (pv 9)))))) (dss_nil))))))))))
abbrev s_law : Stmt := topS 43
theorem sc_law : FnScope ["script", "deck", "lap", "table_here", "page_here", "spot"] ["script"] (defScope s_law) := ⟨rfl, rfl, rfl, by decide +kernel, rfl, by decide +kernel, by decide +kernel⟩
def sb_law (S__law_deck S__law_table S__law_draw S__law_page S__law_columns_right S__law_page_right : Spc) : List SS :=
  [.asg (.nm 1) (.call S__law_deck [.var 0]), .for_ (.nm 2) (.rng1 [.bi .max2 [.cst (.int 2), .bi .min2 [.cst (.int 5), .bi .len [.var 0]]]]) [.asg (.nm 3) (.call S__law_table [.var 1, .ix (.lst [.one (.cst (.int 60)), .one (.cst (.int 10))]) (.bin .mod (.var 2) (.cst (.int 2))), .bin .add (.cst (.int 1)) (.call S__law_draw [.var 1, .cst (.int 6)])]), .asg (.nm 4) (.call S__law_page [.var 1, .var 3]), .ifs (.notE (.call S__law_columns_right [.var 3])) [.ret (.cst (.bl false))] [], .for_ (.nm 5) (.rng1 [.bi .len [.ix (.var 4) (.cst (.int 0))]]) [.ifs (.orE (.notE (.call S__law_page_right [.var 4, .var 5, .cst (.bl true)])) (.notE (.call S__law_page_right [.var 4, .var 5, .cst (.bl false)]))) [.ret (.cst (.bl false))] []]], .ret (.cst (.bl true))]
set_option maxHeartbeats 0 in
theorem g_law {P : Program} {w : World} {K : PySem.W.Frag} {mg : Str → Option Value} {base : Heap} {f : Addr} {fd : FuncData} (Fu : Fun K "law" "law" s_law f fd) {f__law_deck : Addr} {fd__law_deck : FuncData} {S__law_deck : Spc} (c__law_deck : Cb P w K mg base 1 "_law_deck" f__law_deck fd__law_deck ["script"] S__law_deck) {f__law_table : Addr} {fd__law_table : FuncData} {S__law_table : Spc} (c__law_table : Cb P w K mg base 3 "_law_table" f__law_table fd__law_table ["deck", "most", "wide"] S__law_table) {f__law_draw : Addr} {fd__law_draw : FuncData} {S__law_draw : Spc} (c__law_draw : Cb P w K mg base 1 "_law_draw" f__law_draw fd__law_draw ["deck", "many"] S__law_draw) {f__law_page : Addr} {fd__law_page : FuncData} {S__law_page : Spc} (c__law_page : Cb P w K mg base 3 "_law_page" f__law_page fd__law_page ["deck", "table_here"] S__law_page) {f__law_columns_right : Addr} {fd__law_columns_right : FuncData} {S__law_columns_right : Spc} (c__law_columns_right : Cb P w K mg base 8 "_law_columns_right" f__law_columns_right fd__law_columns_right ["table_here"] S__law_columns_right) {f__law_page_right : Addr} {fd__law_page_right : FuncData} {S__law_page_right : Spc} (c__law_page_right : Cb P w K mg base 8 "_law_page_right" f__law_page_right fd__law_page_right ["page_here", "spot", "is_last"] S__law_page_right) (b_range : mg "range" = none) (b_max : mg "max" = none) (b_min : mg "min" = none) (b_len : mg "len" = none) :
    FnG P w K mg base 9 f fd ["script"] (rawS 6 1 (sb_law S__law_deck S__law_table S__law_draw S__law_page S__law_columns_right S__law_page_right)) :=
  fng_of Fu sc_law fun cdv A outer s H hr hgd =>
    dss_cons (ds_asg sc_law.nd rfl (by first | exact .inl rfl | exact .inr rfl) (de_call c__law_deck (hr.mono (by omega)) hgd (by rfl) (da_cons (de_var (pv 0)) (da_nil)))) (dss_cons (ds_for PassesOwn.never rfl (di_rng1 (by rfl) b_range (da_cons (de_bi (fun h => pe_callB (call_max2 rfl) (by rfl) b_max PyProof.Rows.boot_max h) bv_max2 (dos_cons ((de_int).o) (dos_cons ((de_bi (fun h => pe_callB (call_min2 rfl) (by rfl) b_min PyProof.Rows.boot_min h) bv_min2 (dos_cons ((de_int).o) (dos_cons ((de_bi (fun h => pe_callB c_len (by rfl) b_len PySem.boot_len h) bv_len (dos_cons (do_var (pv 0)) (dos_nil))).o) (dos_nil)))).o) (dos_nil)))) (da_nil))) (dg_nm sc_law.nd rfl (by first | exact .inl rfl | exact .inr rfl)) (dss_cons (ds_asg sc_law.nd rfl (by first | exact .inl rfl | exact .inr rfl) (de_call c__law_table (hr.mono (by omega)) hgd (by rfl) (da_cons (de_var (pv 1)) (da_cons (de_ix ix_seq ov_ix ((de_lst (dx_cons (de_int) (dx_cons (de_int) (dx_nil)))).o) ((de_bin op_mod ov_mod (do_var (pv 2)) ((de_int).o)).o) (fun _ _ => rfl)) (da_cons (de_bin op_addA ov_add ((de_int).o) ((de_call c__law_draw (hr.mono (by omega)) hgd (by rfl) (da_cons (de_var (pv 1)) (da_cons (de_int) (da_nil)))).o)) (da_nil)))))) (dss_cons (ds_asg sc_law.nd rfl (by first | exact .inl rfl | exact .inr rfl) (de_call c__law_page (hr.mono (by omega)) hgd (by rfl) (da_cons (de_var (pv 1)) (da_cons (de_var (pv 3)) (da_nil))))) (dss_cons (ds_if (dt_not ((de_call c__law_columns_right (hr.mono (by omega)) hgd (by rfl) (da_cons (de_var (pv 3)) (da_nil))).t)) (dss_cons (ds_ret (de_bl)) (dss_nil)) (dss_nil)) (dss_cons (ds_for PassesOwn.never rfl (di_rng1 (by rfl) b_range (da_cons (de_bi (fun h => pe_callB c_len (by rfl) b_len PySem.boot_len h) bv_len (dos_cons ((de_ix ix_seq ov_ix (do_var (pv 4)) ((de_int).o) (fun _ _ => rfl)).o) (dos_nil))) (da_nil))) (dg_nm sc_law.nd rfl (by first | exact .inl rfl | exact .inr rfl)) (dss_cons (ds_if ((dt_or2 (dt_not ((de_call c__law_page_right (hr.mono (by omega)) hgd (by rfl) (da_cons (de_var (pv 4)) (da_cons (de_var (pv 5)) (da_cons (de_bl) (da_nil))))).t)) (pw_or1 (dt_not ((de_call c__law_page_right (hr.mono (by omega)) hgd (by rfl) (da_cons (de_var (pv 4)) (da_cons (de_var (pv 5)) (da_cons (de_bl) (da_nil))))).t)))).pt) (dss_cons (ds_ret (de_bl)) (dss_nil)) (dss_nil)) (dss_nil))) (dss_nil)))))) (dss_cons (ds_ret (de_bl)) (dss_nil)))
section
variable {P : Program} {w : World} {K : PySem.W.Frag} {mg : Str → Option Value} {base : Heap}
theorem ok_draw {f : Addr} {fd : FuncData} (Fu : Fun K "_law_draw" "_law_draw" s__law_draw f fd) (b_len : mg "len" = none) : FnOk P w K mg base CX0 1 f fd ["deck", "many"] (spDraw K) := by
  refine Fu.ok sc__law_draw (fun vs H Q E h => ?_) (fun cdv A outer s H vs Q E hr h => ?_)
  · obtain ⟨a, p, q, j, m, i0, i1, i2, qs, n, rfl, _⟩ := h
    rfl
  · obtain ⟨a, p, q, j, m, i0, i1, i2, qs, n, rfl, hm, hm2, ha, hp, hqa, hq, hl, hpool, h0, h1, hn, fin⟩ := h
    have R : ∀ {e : Expr}, PlainIx e → True := fun _ => trivial
    refine ⟨_, pss_cons (ps_set (i := 2) sc__law_draw.nd rfl (.inl rfl) (pe_ix ix_list (pe_ix ix_list (pv 0) pe_int (fun _ _ => rfl)) (pe_op op_mod (pe_ix ix_list (pv 0) pe_int (fun _ _ => rfl)) (pe_callB call_len_seq (by rfl) b_len PySem.boot_len (pa_cons (pe_ix ix_list (pv 0) pe_int (fun _ _ => rfl)) pa_nil))) (fun _ _ => rfl)))
      (pss_cons (ps_asg (pe_op op_add (pe_ix ix_list (pv 0) pe_int (fun _ _ => rfl)) pe_int) (pg_sub (pv 0) pe_int set_list))
      (pss_cons (ps_if (pw_and (pt_cmpR op_eq (pe_ix ix_list (pv 2) pe_int (fun _ _ => rfl)) pe_int (nomark _)) (pw_and1 (pt_cmpR op_gt (pe_ix ix_list (pv 2) pe_int (fun _ _ => rfl)) pe_int (nomark _)))).pt
        (pss_cons (ps_set (i := 3) sc__law_draw.nd rfl (.inl rfl) (pe_op op_mod (pe_ix ix_list (pv 2) pe_int (fun _ _ => rfl)) (pv 1)))
        (pss_cons (ps_asg (pe_op op_fdivW (pe_ix ix_list (pv 2) pe_int (fun _ _ => rfl)) (pv 1)) (pg_sub (pv 2) pe_int set_list))
        (pss_one (ps_ret (pv 3))))) pss_nil)
      (pss_cons (ps_asg (pe_op op_add (pe_ix ix_list (pv 2) pe_int (fun _ _ => rfl)) pe_int) (pg_sub (pv 2) pe_int set_list))
      (pss_cons (ps_set (i := 4) sc__law_draw.nd rfl (.inl rfl) (pe_op op_add (pe_op op_mod (pe_ix ix_list (pv 2) pe_int (fun _ _ => rfl)) pe_int) (pe_op op_mul pe_int (pe_ix ix_list (pv 2) pe_int (fun _ _ => rfl)))))
      (pss_cons (ps_set (i := 4) sc__law_draw.nd rfl (.inl rfl) (pe_op op_mod (pe_op op_powW (pv 4) pe_int) pe_int))
      (pss_cons (ps_set (i := 4) sc__law_draw.nd rfl (.inl rfl) (pe_op op_mod (pe_op op_powW (pe_op op_add (pv 4) (pe_op op_mul pe_int (pe_ix ix_list (pv 2) pe_int (fun _ _ => rfl)))) pe_int) pe_int))
      (pss_one (ps_ret (pe_op op_mod (pe_op op_fdiv (pv 4) pe_int) (pv 1)))))))))), ?_⟩
    have sa : ∀ {l : Addr} {xs : List V} {G : Hp}, G l = some (.lst xs) → SqL K G l xs := fun h => .inl (.inl h)
    -- pool = deck[0][deck[1] % len(deck[0])]
    refine ⟨.ref a, rfl, a, _, 0, .ref p, rfl, rfl, sa ha, rfl, .ref a, rfl, a, _, 1, .int j, rfl, rfl, sa ha, rfl, .ref a, rfl, a, _, 0, .ref p, rfl, rfl, sa ha, rfl, p, _, rfl, .inl (sa hp), j, _, rfl, rfl, ?_, p, _, _, .ref q, rfl, rfl, sa hp, ?_, ?_⟩
    · show (0 : Int) < ((qs.map V.ref).length : Int)
      rw [List.length_map]; omega
    · rw [List.length_map]; exact hq
    have ha1 : (upd H a (.lst [.ref p, .int (j + 1)])) a = some (.lst [.ref p, .int (j + 1)]) := upd_same
    have hq1 : (upd H a (.lst [.ref p, .int (j + 1)])) q = some (.lst [.int i0, .int i1, .int i2]) := by rw [upd_ne hqa]; exact hpool
    -- deck[1] = deck[1] + 1
    refine ⟨.ref a, rfl, a, _, 1, .int j, rfl, rfl, sa ha, rfl, j, 1, rfl, rfl, .ref a, rfl, a, _, 1, 1, rfl, rfl, ha, rfl, ?_⟩
    have hq2 : ∀ x : Int, (upd (upd H a (.lst [.ref p, .int (j + 1)])) q (.lst [.int i0, .int i1, .int x])) q = some (.lst [.int i0, .int i1, .int x]) := fun x => upd_same
    have hmd : CDivW i0 m := ⟨hm, Nat.lt_of_lt_of_le (log2_of (n := 400) (by omega) (Int.lt_of_lt_of_le hm2 (by decide +kernel)) (by omega)) (by omega)⟩
    have nn : ∀ x : Int, 0 ≤ x % m := fun x => Int.emod_nonneg x (by omega)
    have lt : ∀ x : Int, x % m < m := fun x => Int.emod_lt_of_pos x hm
    have m1 : ∀ x : Int, 0 ≤ x % 162259276829213363391578010288127 ∧ x % 162259276829213363391578010288127 < 2 ^ 200 := fun x =>
      ⟨Int.emod_nonneg x (by decide), Int.lt_trans (Int.emod_lt_of_pos x (by decide)) (by decide)⟩
    have m2 : ∀ x : Int, 0 ≤ x % 618970019642690137449562111 ∧ x % 618970019642690137449562111 < 2 ^ 200 := fun x =>
      ⟨Int.emod_nonneg x (by decide), Int.lt_trans (Int.emod_lt_of_pos x (by decide)) (by decide)⟩
    have ps1 : (0 : Int) < 162259276829213363391578010288127 := by decide
    have ps2 : (0 : Int) < 618970019642690137449562111 := by decide
    have hk : i2 + 1 ≤ 4000 + ((n + 1 : Nat) : Int) := by omega
    -- if pool[1] == 1 and pool[0] > 0
    refine ⟨.ref q, rfl, q, _, 1, .int i1, rfl, rfl, sa hq1, rfl, rfl, _, rfl, ?_⟩
    refine (fun tail => ite2 (fun e1 => ⟨.ref q, rfl, q, _, 0, .int i0, rfl, rfl, sa hq1, rfl, i0, 0, rfl, rfl, _, rfl, ite2 (fun e2 => ?br) (fun e2 => tail)⟩) (fun e1 => iteF tail)) ?tail
    case br =>
      exact ⟨.ref q, rfl, q, _, 0, .int i0, rfl, rfl, sa hq1, rfl, .int m, rfl, i0, m, rfl, rfl, hm, .ref q, rfl, q, _, 0, .int i0, rfl, rfl, sa hq1, rfl, .int m, rfl, i0, m, rfl, rfl, hmd,
        .ref q, rfl, q, _, 0, 0, rfl, rfl, hq1, rfl, .int (i0 % m), rfl, fin (i0 % m) (i0 / m) i2 (nn i0) (lt i0) h0 (by omega)⟩
    case tail =>
      refine ⟨.ref q, rfl, q, _, 2, .int i2, rfl, rfl, sa hq1, rfl, i2, 1, rfl, rfl, .ref q, rfl, q, _, 2, 2, rfl, rfl, hq1, rfl, ?_⟩
      refine ⟨.ref q, rfl, q, _, 0, .int i0, rfl, rfl, sa (hq2 (i2 + 1)), rfl, i0, 162259276829213363391578010288127, rfl, rfl, ps1, .ref q, rfl, q, _, 2, .int (i2 + 1), rfl, rfl, sa (hq2 (i2 + 1)), rfl, 994009321, i2 + 1, rfl, rfl, .inl ⟨by decide, by decide⟩, _, _, rfl, rfl, ?_⟩
      refine ⟨_, rfl, _, 3, rfl, rfl, mix_ok (m1 i0).1 (m1 i0).2 (by decide) (by decide) (by omega) hk hn, _, 618970019642690137449562111, rfl, rfl, ps2, ?_⟩
      refine ⟨_, rfl, .ref q, rfl, q, _, 2, .int (i2 + 1), rfl, rfl, sa (hq2 (i2 + 1)), rfl, 49979687, i2 + 1, rfl, rfl, .inl ⟨by decide, by decide⟩, _, _, rfl, rfl, _, 3, rfl, rfl, mix_ok (m2 _).1 (m2 _).2 (by decide) (by decide) (by omega) hk hn, _, 162259276829213363391578010288127, rfl, rfl, ps1, ?_⟩
      exact ⟨_, rfl, _, 32768, rfl, rfl, ⟨by decide, by decide⟩, .int m, rfl, _, m, rfl, rfl, hm, fin _ i0 (i2 + 1) (nn _) (lt _) (by omega) (by omega)⟩
end
end M21

namespace M21
open PySem L2 DL
local macro_rules | `(tactic| walk_at "dl") => `(tactic| simp only [wpSs_nil, wpSs_cons, wpS_asg, wpS_asgT, wpS_par, wpS_expr, wpS_ret, wpS_if, wpS_brk, wpS_cnt, wpS_pass, wpS_raise, wpS_for, wpS_while, wpE_lc, wpS.eq_4, wpS.eq_6, wpE.eq_1, wpE.eq_2, wpE.eq_3, wpE.eq_4, wpE.eq_5, wpE.eq_6, wpE.eq_7, wpE.eq_8, wpE.eq_9, wpE.eq_10, wpE.eq_11, wpE.eq_12, wpE.eq_13, wpE.eq_14, wpE.eq_15, wpE.eq_16, wpE.eq_17, wpE.eq_18, wpE.eq_19, wpE.eq_21, wpE.eq_22, wpE.eq_23, wpE.eq_24, wpE.eq_25, wpE.eq_26, wpE.eq_27, wpE.eq_28, wpE.eq_29, wpE.eq_30, wpE.eq_31, wpE.eq_32, wpS_setkey, isB_bl, lstO, tyM, slotsD, D.flat, wpOs, wpA, wpX, wpC, wpI, isVar, isNop, asO, asP, asB_bl, asI_int, Opd.fl, Opd.ob, Opd.at, flat_fz, flat_lst, flat_nil, fzs_map, fzs_nil, osw_some, permS_run, prm_10, prm_102, prm_201, prm_120, prm_210, augD_addI, augD_subI, augD_mulI, augD_fdivI, augD_modI, binD_addI, binD_subI, binD_mulI, binD_fdivI, binD_modI, binD_powI, binD_addT, binD_addL, binD_addS, binD_mulT, binD_mulL, cmpD, ltD_I, ltD_S, leD_I, inD_L, inD_T, inD_S, ix_T, ix_L, ix_R, ix_S, sl_T, sl_L, sl_S, rev_T, rev_L, len_T, len_L, len_S, len_R, tuple_L, tuple_T, list_L, list_T, sum_L, all_L, any_L, max_I, min_I, abs_I, int_I, int_B, mc_app, isi_non, isi_bl, isi_int, isi_str, isi_tup, isi_lst, TyS.int?, TyS.bool?, TyS.str?, TyS.tup?, TyS.lst?, bindT, bindTs, putG, lstAt, lstAt2, toD_fz, toD_lst, toDs_fz, toDs_nil, toDs_cons, seq_T, seq_L, isNon_non, isNon_tup, isNon_lst, isNon_str, isNon_int, isNon_bl, wipeG, Tg.slots, Tg.slotss,
   List.getElem?_cons_zero, List.getElem?_cons_succ, List.set_cons_zero, List.set_cons_succ, Option.join_some, Option.bind_some, Option.map_some, Option.isSome_some, List.length_cons, List.length_nil, List.length_map, List.map_cons, List.map_nil, List.nil_append, List.cons_append, if_true, Bool.false_eq_true, if_false, true_and, and_true, Nat.zero_add, Nat.zero_le, Nat.zero_lt_succ, Nat.reduceLT, Nat.reduceAdd, Nat.reduceLeDiff, Nat.lt_add_one, Bool.not_true, Bool.not_false, decide_true, decide_false, List.forall_mem_cons, List.not_mem_nil, false_implies, implies_true, forall_eq])
/-! ### rows as data -/
abbrev Row := List (Option Str)
def cD : Option Str → D
  | none => .non
  | some x => .str x
def rD (r : Row) : D := .tup (r.map cD)
def pD (p : List Row) : D := .tup (p.map rD)
def SGN : Str := "abcdefghijklmnopqrstuvwxyz0123456789"
/-- a cell -/
structure Vc (x : Str) : Prop where
  lo : 1 ≤ x.length
  hi : x.length ≤ 8
  sg : ∀ c ∈ x.cps.toList, c ∈ SGN.cps.toList
def blanks : Row → Nat
  | none :: r => blanks r + 1
  | _ => 0
theorem isNon_cD (c : Option Str) : (cD c).isNon = c.isNone := by cases c <;> rfl
theorem blanks_le : ∀ r : Row, blanks r ≤ r.length
  | [] => Nat.le_refl _
  | none :: r => by simp only [blanks, List.length_cons]; have := blanks_le r; omega
  | some _ :: r => by simp [blanks]
/-- a printed row of that width -/
structure Vr (w : Nat) (r : Row) : Prop where
  len : r.length = w
  cells : ∀ c ∈ r.drop (blanks r), ∃ x, c = some x ∧ Vc x
structure Vp (p : List Row) (w : Nat) : Prop where
  lo : 1 ≤ p.length
  hi : p.length ≤ 60
  wl : 1 ≤ w
  wh : w ≤ 6
  rows : ∀ r ∈ p, Vr w r
  first : ∀ r, p[0]? = some r → blanks r = 0
/-- printed rows, whatever the first one has -/
structure Vq (p : List Row) (w : Nat) : Prop where
  lo : 1 ≤ p.length
  hi : p.length ≤ 60
  wl : 1 ≤ w
  wh : w ≤ 6
  rows : ∀ r ∈ p, Vr w r
theorem Vp.q {p : List Row} {w : Nat} (h : Vp p w) : Vq p w := ⟨h.lo, h.hi, h.wl, h.wh, h.rows⟩
def fstB : List Row → Nat
  | [] => 0
  | r :: _ => blanks r
theorem Vp.fst {p : List Row} {w : Nat} (h : Vp p w) : fstB p = 0 := by
  cases p with
  | nil => rfl
  | cons r p => exact h.first r rfl

/-! ### blanks_in -/
def blanks_inS (ce : Nat) : Spc where
  run := fun ds k _ => ∃ r : Row, ds = [rD r] ∧ r.length < 1000 ∧ k (.fz (.int (blanks r)))
  ce := ce
  ar := 1
theorem m_blanks_in {ds : List D} {k : OT → Prop} {x : Ex → Prop} (h : (blanks_inS 0).run ds k x) : (rawS 2 1 sb_blanks_in).run ds k x := by
  obtain ⟨r, rfl, hl, h⟩ := h
  refine ⟨rfl, ?_⟩
  show wpSs _ sb_blanks_in [some (.fz (rD r)), none] _
  unfold sb_blanks_in rD
  walk_at "dl"
  refine ⟨1001, by decide, wh_inv (fun m Γ => ∃ i : Nat, i + m = blanks r ∧ Γ = [some (.fz (.tup (r.map cD))), some (.fz (.int (i : Int)))]) _ (blanks r) _ (by have := blanks_le r; omega) ⟨0, by omega, rfl⟩ ?_⟩
  rintro m Γ kk ⟨i, hi, rfl⟩ again
  walk_at "dl"
  have key : ∀ (r : Row) (i : Nat), i < blanks r → r[i]? = some none := by
    intro r
    induction r with
    | nil => intro i h; simp [blanks] at h
    | cons c r ih =>
      intro i h
      cases c with
      | some _ => simp [blanks] at h
      | none =>
        cases i with
        | zero => rfl
        | succ i => simpa using ih i (by simp only [blanks] at h; omega)
  have key2 : ∀ (r : Row), blanks r < r.length → ∃ x, r[blanks r]? = some (some x) := by
    intro r
    induction r with
    | nil => intro h; simp [blanks] at h
    | cons c r ih =>
      intro h
      cases c with
      | some x => exact ⟨x, by simp [blanks]⟩
      | none =>
        obtain ⟨x, hx⟩ := ih (by simp only [blanks, List.length_cons] at h; omega)
        exact ⟨x, by simpa [blanks] using hx⟩
  by_cases hlt : (i : Int) < (r.length : Int)
  · rw [decide_eq_true hlt, if_pos rfl]
    cases m with
    | zero =>
      have e : i = blanks r := by omega
      obtain ⟨y, hy⟩ := key2 r (by omega)
      refine ⟨.str y, atI_nat (by rw [e, List.getElem?_map, hy]; rfl), ?_⟩
      walk_at "dl"
      rw [e]
      exact h
    | succ m =>
      refine ⟨.non, atI_nat (by rw [List.getElem?_map, key r i (by omega)]; rfl), ?_⟩
      walk_at "dl"
      exact again m _ (by omega) ⟨i + 1, by omega, by simp⟩
  · rw [decide_eq_false hlt]
    walk_at "dl"
    have := blanks_le r
    have e : i = blanks r := by omega
    rw [e]
    exact h
theorem bools_map {α : Type} (f : α → D) (g : α → Bool) : ∀ (xs : List α), (∀ x ∈ xs, f x = .bl (g x)) → bools? (xs.map f) = some (xs.map g)
  | [], _ => rfl
  | x :: xs, h => by
    rw [List.map_cons, h x List.mem_cons_self]
    simp only [bools?, bools_map f g xs fun y hy => h y (List.mem_cons_of_mem _ hy), Option.map_some, List.map_cons]
theorem ints_map {α : Type} (f : α → D) (g : α → Int) : ∀ (xs : List α), (∀ x ∈ xs, f x = .int (g x)) → ints? (xs.map f) = some (xs.map g)
  | [], _ => rfl
  | x :: xs, h => by
    rw [List.map_cons, h x List.mem_cons_self]
    simp only [ints?, ints_map f g xs fun y hy => h y (List.mem_cons_of_mem _ hy), Option.map_some, List.map_cons]
theorem all_true {α : Type} (xs : List α) : (xs.map fun _ => true).all id = true := by simp
theorem str_one (c : Nat) : (⟨#[c]⟩ : Str) = ⟨#[c]⟩ := rfl
/-! ### cells, rows, pages: valid ones -/
def is_cellS (ce : Nat) : Spc where
  run := fun ds k _ => ∃ x : Str, ds = [.str x] ∧ Vc x ∧ k (.fz (.bl true))
  ce := ce
  ar := 1
theorem m_is_cell {ds : List D} {k : OT → Prop} {x : Ex → Prop} (h : (is_cellS 0).run ds k x) : (rawS 2 1 sb_is_cell).run ds k x := by
  obtain ⟨z, rfl, hv, h⟩ := h
  refine ⟨rfl, ?_⟩
  show wpSs _ sb_is_cell [some (.fz (.str z)), none] _
  unfold sb_is_cell
  have l8 : z.length ≤ LIM := Nat.le_trans hv.hi (by decide)
  have e1 : decide ((1 : Int) ≤ (z.length : Int)) = true := decide_eq_true (by have := hv.lo; omega)
  have e2 : decide ((z.length : Int) ≤ 8) = true := decide_eq_true (by have := hv.hi; omega)
  walk_at "dl"
  refine ⟨l8, ?_⟩
  rw [e1, if_pos rfl, e2]
  walk_at "dl"
  refine ⟨l8, lc_map (fun _ => .bl true) rfl ?_ (fun d hd kk hk => ?_) ?_⟩
  · unfold signsD
    rw [List.length_map]
    exact l8
  · obtain ⟨c, hc, rfl⟩ := List.mem_map.mp hd
    walk_at "dl"
    refine ⟨c, rfl, ?_⟩
    rw [decide_eq_true (show c ∈ ("abcdefghijklmnopqrstuvwxyz0123456789" : Str).cps.toList from hv.sg c hc)]
    exact hk _ rfl
  · intro Δ hΔ
    try walk_at "dl"
    refine ⟨_, bools_map (fun _ => .bl true) (fun _ => true) _ fun _ _ => rfl, ?_⟩
    rw [all_true]
    exact h
/-- row[blanks_in(row):] -/
theorem cutD_from {α : Type} (xs : List α) (n : Nat) (h : n ≤ xs.length) : cutD xs (some (n : Int)) none = xs.drop n := by
  unfold cutD
  rw [HT.sIx_nat, HT.sIx_none, Nat.min_eq_left h, List.take_of_length_le (by simp)]
theorem cutD_to {α : Type} (xs : List α) (n : Nat) (h : n ≤ xs.length) : cutD xs none (some (n : Int)) = xs.take n := by
  unfold cutD
  rw [HT.sIx_nat, HT.sIx_none, Nat.min_eq_left h]
  simp
def is_printed_rowS (ce : Nat) : Spc where
  run := fun ds k _ => ∃ (r : Row) (w : Nat), ds = [rD r] ∧ Vr w r ∧ 1 ≤ w ∧ w ≤ 6 ∧ k (.fz (.bl true))
  ce := ce
  ar := 1
theorem m_is_printed_row {ds : List D} {k : OT → Prop} {x : Ex → Prop} {c1 c2 : Nat} (h : (is_printed_rowS 0).run ds k x) : (rawS 2 1 (sb_is_printed_row (blanks_inS c1) (is_cellS c2))).run ds k x := by
  obtain ⟨r, w, rfl, hv, hw1, hw2, h⟩ := h
  refine ⟨rfl, ?_⟩
  show wpSs _ (sb_is_printed_row _ _) [some (.fz (rD r)), none] _
  unfold sb_is_printed_row rD
  have hl := hv.len
  have e1 : decide ((1 : Int) ≤ (r.length : Int)) = true := decide_eq_true (by omega)
  have e2 : decide ((r.length : Int) ≤ 6) = true := decide_eq_true (by omega)
  walk_at "dl"
  rw [e1, if_pos rfl, e2]
  walk_at "dl"
  refine ⟨r, rfl, by omega, ?_⟩
  walk_at "dl"
  rw [cutD_from _ _ (by rw [List.length_map]; exact blanks_le r), ← List.map_drop]
  refine lc_map (fun _ => .bl true) rfl ?_ (fun d hd kk hk => ?_) ?_
  · rw [List.length_map, List.length_drop]
    have : LIM = 1000000 := rfl
    omega
  · obtain ⟨c, hc, rfl⟩ := List.mem_map.mp hd
    obtain ⟨z, rfl, hz⟩ := hv.cells c hc
    unfold cD
    walk_at "dl"
    exact ⟨z, rfl, hz, hk _ rfl⟩
  · intro Δ hΔ
    try walk_at "dl"
    refine ⟨_, bools_map (fun _ => .bl true) (fun _ => true) _ fun _ _ => rfl, ?_⟩
    rw [all_true]
    exact h
def are_printed_rowsS (ce : Nat) : Spc where
  run := fun ds k _ => ∃ (p : List Row) (w : Nat), ds = [pD p] ∧ Vq p w ∧ k (.fz (.bl true))
  ce := ce
  ar := 1
theorem m_are_printed_rows {ds : List D} {k : OT → Prop} {x : Ex → Prop} {c1 : Nat} (h : (are_printed_rowsS 0).run ds k x) : (rawS 2 1 (sb_are_printed_rows (is_printed_rowS c1))).run ds k x := by
  obtain ⟨p, w, rfl, hv, h⟩ := h
  refine ⟨rfl, ?_⟩
  show wpSs _ (sb_are_printed_rows _) [some (.fz (pD p)), none] _
  unfold sb_are_printed_rows pD
  have hl := hv.lo
  have hh := hv.hi
  have e1 : decide ((1 : Int) ≤ (p.length : Int)) = true := decide_eq_true (by omega)
  have e2 : decide ((p.length : Int) ≤ 60) = true := decide_eq_true (by omega)
  have hlim : (p.map rD).length ≤ LIM := by rw [List.length_map]; have : LIM = 1000000 := rfl; omega
  walk_at "dl"
  rw [e1, if_pos rfl, e2]
  walk_at "dl"
  refine lc_map (fun _ => .bl true) rfl hlim (fun d hd kk hk => ?_) ?_
  · obtain ⟨r, hr, rfl⟩ := List.mem_map.mp hd
    walk_at "dl"
    exact ⟨r, w, rfl, hv.rows r hr, hv.wl, hv.wh, hk _ rfl⟩
  · intro Δ hΔ
    rw [hΔ]
    walk_at "dl"
    refine ⟨_, bools_map (fun _ => .bl true) (fun _ => true) _ fun _ _ => rfl, ?_⟩
    rw [all_true]
    walk_at "dl"
    refine lc_map (fun _ => .bl true) rfl hlim (fun d hd kk hk => ?_) ?_
    · obtain ⟨r, hr, rfl⟩ := List.mem_map.mp hd
      obtain ⟨r0, rest, rfl⟩ : ∃ r0 rest, p = r0 :: rest := by
        cases p with
        | nil => simp at hl
        | cons a b => exact ⟨a, b, rfl⟩
      unfold rD
      walk_at "dl"
      refine ⟨rD r0, atI_nat (j := 0) rfl, ?_⟩
      unfold rD
      walk_at "dl"
      have q1 := (hv.rows r hr).len
      have q2 := (hv.rows r0 List.mem_cons_self).len
      rw [q1, q2]
      refine ⟨rfl, rfl, ?_⟩
      have : D.eqv (.int (w : Int)) (.int (w : Int)) = true := by simp [D.eqv]
      rw [this]
      exact hk _ rfl
    · intro Δ hΔ
      try walk_at "dl"
      refine ⟨_, bools_map (fun _ => .bl true) (fun _ => true) _ fun _ _ => rfl, ?_⟩
      rw [all_true]
      exact h
def lead : List D → Nat
  | .non :: r => lead r + 1
  | _ => 0
theorem lead_blanks : ∀ r : Row, lead (r.map cD) = blanks r
  | [] => rfl
  | none :: r => by simp only [List.map_cons, cD, lead, blanks, lead_blanks r]
  | some _ :: r => rfl
theorem Vp.cons {p : List Row} {w : Nat} (h : Vp p w) : ∃ r0 rest, p = r0 :: rest := by
  cases p with
  | nil => have := h.lo; simp at this
  | cons a b => exact ⟨a, b, rfl⟩
theorem Vp.lt {p : List Row} {w : Nat} (h : Vp p w) {r : Row} (hr : r ∈ p) : r.length < 1000 := by
  have := (h.rows r hr).len
  have := h.wh
  omega
theorem Vp.lim {p : List Row} {w : Nat} (h : Vp p w) : (p.map rD).length ≤ LIM := by
  rw [List.length_map]
  have := h.hi
  have : LIM = 1000000 := rfl
  omega
theorem eqv_int (i : Int) : D.eqv (.int i) (.int i) = true := by simp [D.eqv]
def pageS (ce : Nat) (f : List Row → OT) : Spc where
  run := fun ds k _ => ∃ (p : List Row) (w : Nat), ds = [pD p] ∧ Vp p w ∧ k (f p)
  ce := ce
  ar := 1
theorem Vq.cons {p : List Row} {w : Nat} (h : Vq p w) : ∃ r0 rest, p = r0 :: rest := by
  cases p with
  | nil => have := h.lo; simp at this
  | cons a b => exact ⟨a, b, rfl⟩
theorem Vq.lt {p : List Row} {w : Nat} (h : Vq p w) {r : Row} (hr : r ∈ p) : r.length < 1000 := by
  have := (h.rows r hr).len
  have := h.wh
  omega
def has_page_formS (ce : Nat) : Spc where
  run := fun ds k _ => ∃ (p : List Row) (w : Nat), ds = [pD p] ∧ Vq p w ∧ k (.fz (.bl (decide (fstB p = 0))))
  ce := ce
  ar := 1
theorem eqv_int0 (n : Nat) : D.eqv (.int (n : Int)) (.int 0) = decide (n = 0) := by
  cases n with
  | zero => rfl
  | succ n =>
    rw [decide_eq_false (by omega)]
    show (((n + 1 : Nat) : Int) == 0) = false
    exact beq_false_of_ne (by omega)
theorem m_has_page_form {ds : List D} {k : OT → Prop} {x : Ex → Prop} {c1 c2 : Nat} (h : (has_page_formS 0).run ds k x) : (rawS 1 1 (sb_has_page_form (blanks_inS c1) (are_printed_rowsS c2))).run ds k x := by
  obtain ⟨p, w, rfl, hv, h⟩ := h
  refine ⟨rfl, ?_⟩
  show wpSs _ (sb_has_page_form _ _) [some (.fz (pD p))] _
  unfold sb_has_page_form
  walk_at "dl"
  refine ⟨p, w, rfl, hv, ?_⟩
  obtain ⟨r0, rest, rfl⟩ := hv.cons
  unfold pD
  walk_at "dl"
  refine ⟨rD r0, atI_nat (j := 0) rfl, r0, rfl, hv.lt List.mem_cons_self, rfl, rfl, ?_⟩
  rw [toD_fz, eqv_int0]
  exact h
theorem m_require_page {ds : List D} {k : OT → Prop} {x : Ex → Prop} {c1 : Nat} (h : (pageS 0 fun _ => .fz .non).run ds k x) : (rawS 1 1 (sb_require_page (has_page_formS c1))).run ds k x := by
  obtain ⟨p, w, rfl, hv, h⟩ := h
  refine ⟨rfl, ?_⟩
  show wpSs _ (sb_require_page _) [some (.fz (pD p))] _
  unfold sb_require_page
  walk_at "dl"
  refine ⟨p, w, rfl, hv.q, ?_⟩
  rw [hv.fst]
  walk_at "dl"
  exact h
/-- the meaning of rows -/
def readOne (a : Option Row) (r : Row) : Row := (a.getD r).take (blanks r) ++ r.drop (blanks r)
def readRows : Option Row → List Row → List Row
  | _, [] => []
  | a, r :: rs => readOne a r :: readRows (some (readOne a r)) rs
theorem readOne_len {a : Option Row} {r : Row} (h : ∀ b, a = some b → b.length = r.length) : (readOne a r).length = r.length := by
  have hb := blanks_le r
  unfold readOne
  cases a with
  | none => simp
  | some b =>
    have := h b rfl
    simp only [Option.getD_some, List.length_append, List.length_take, List.length_drop]
    omega
def aD : Option Row → D
  | none => .non
  | some r => rD r
end M21

namespace M21
open PySem L2 DL
local macro_rules | `(tactic| walk_at "dl") => `(tactic| simp only [wpSs_nil, wpSs_cons, wpS_asg, wpS_asgT, wpS_par, wpS_expr, wpS_ret, wpS_if, wpS_brk, wpS_cnt, wpS_pass, wpS_raise, wpS_for, wpS_while, wpE_lc, wpS.eq_4, wpS.eq_6, wpE.eq_1, wpE.eq_2, wpE.eq_3, wpE.eq_4, wpE.eq_5, wpE.eq_6, wpE.eq_7, wpE.eq_8, wpE.eq_9, wpE.eq_10, wpE.eq_11, wpE.eq_12, wpE.eq_13, wpE.eq_14, wpE.eq_15, wpE.eq_16, wpE.eq_17, wpE.eq_18, wpE.eq_19, wpE.eq_21, wpE.eq_22, wpE.eq_23, wpE.eq_24, wpE.eq_25, wpE.eq_26, wpE.eq_27, wpE.eq_28, wpE.eq_29, wpE.eq_30, wpE.eq_31, wpE.eq_32, wpS_setkey, isB_bl, lstO, tyM, slotsD, D.flat, wpOs, wpA, wpX, wpC, wpI, isVar, isNop, asO, asP, asB_bl, asI_int, Opd.fl, Opd.ob, Opd.at, flat_fz, flat_lst, flat_nil, fzs_map, fzs_nil, osw_some, permS_run, prm_10, prm_102, prm_201, prm_120, prm_210, augD_addI, augD_subI, augD_mulI, augD_fdivI, augD_modI, binD_addI, binD_subI, binD_mulI, binD_fdivI, binD_modI, binD_powI, binD_addT, binD_addL, binD_addS, binD_mulT, binD_mulL, cmpD, ltD_I, ltD_S, leD_I, inD_L, inD_T, inD_S, ix_T, ix_L, ix_R, ix_S, sl_T, sl_L, sl_S, rev_T, rev_L, len_T, len_L, len_S, len_R, tuple_L, tuple_T, list_L, list_T, sum_L, all_L, any_L, max_I, min_I, abs_I, int_I, int_B, mc_app, isi_non, isi_bl, isi_int, isi_str, isi_tup, isi_lst, TyS.int?, TyS.bool?, TyS.str?, TyS.tup?, TyS.lst?, bindT, bindTs, putG, lstAt, lstAt2, toD_fz, toD_lst, toDs_fz, toDs_nil, toDs_cons, seq_T, seq_L, isNon_non, isNon_tup, isNon_lst, isNon_str, isNon_int, isNon_bl, wipeG, Tg.slots, Tg.slotss,
   List.getElem?_cons_zero, List.getElem?_cons_succ, List.set_cons_zero, List.set_cons_succ, Option.join_some, Option.bind_some, Option.map_some, Option.isSome_some, List.length_cons, List.length_nil, List.length_map, List.map_cons, List.map_nil, List.nil_append, List.cons_append, if_true, Bool.false_eq_true, if_false, true_and, and_true, Nat.zero_add, Nat.zero_le, Nat.zero_lt_succ, Nat.reduceLT, Nat.reduceAdd, Nat.reduceLeDiff, Nat.lt_add_one, Bool.not_true, Bool.not_false, decide_true, decide_false, List.forall_mem_cons, List.not_mem_nil, false_implies, implies_true, forall_eq])
theorem LIMe : LIM = 1000000 := rfl
theorem each_get {α β : Type} {R : α → β → Prop} {as : List α} {bs : List β} (h : Each R as bs) : ∀ b ∈ bs, ∃ a ∈ as, R a b := by
  induction h with
  | nil => intro b hb; simp at hb
  | cons r _ ih =>
    intro b hb
    rcases List.mem_cons.mp hb with rfl | hb
    · exact ⟨_, List.mem_cons_self, r⟩
    · obtain ⟨a, h1, h2⟩ := ih b hb
      exact ⟨a, List.mem_cons_of_mem _ h1, h2⟩
/-! ### counting and reading by the law -/
/-! ### draws -/
theorem vc_of {x : Str} (h : (decide (1 ≤ x.length) && decide (x.length ≤ 8) && x.cps.toList.all fun c => decide (c ∈ SGN.cps.toList)) = true) : Vc x := by
  simp only [Bool.and_eq_true, decide_eq_true_eq, List.all_eq_true] at h
  exact ⟨h.1.1, h.1.2, h.2⟩
def _law_valueS (t ce : Nat) : Spc where
  run := fun ds k _ => ∃ (a : Addr) (few : Int), ds = [.opq t a, .int few] ∧ 1 ≤ few ∧ few ≤ 7 ∧ ∀ x, Vc x → k (.fz (.str x))
  ce := ce
  ar := 2
theorem m__law_value {ds : List D} {k : OT → Prop} {x : Ex → Prop} (h : (_law_valueS 0 0).run ds k x) : (rawS 4 2 (sb__law_value (drawS 0))).run ds k x := by
  obtain ⟨a, few, rfl, h1, h7, h⟩ := h
  refine ⟨rfl, ?_⟩
  show wpSs _ (sb__law_value _) [some (.fz (.opq 0 a)), some (.fz (.int few)), none, none] _
  unfold sb__law_value
  try walk_at "dl"
  refine ⟨a, 6, rfl, by decide, by decide, fun r hr0 hr6 => ?_⟩
  try walk_at "dl"
  by_cases hp : 0 < r
  · rw [decide_eq_true hp, if_pos rfl]
    try walk_at "dl"
    refine ⟨by decide, a, few, rfl, by omega, Int.lt_of_le_of_lt h7 (by decide), fun i hi0 hi7 => ?_⟩
    try walk_at "dl"
    have hi : i.toNat < 7 := by omega
    have ei : i = ((i.toNat : Nat) : Int) := by omega
    rw [ei]
    generalize i.toNat = n at hi
    match n, hi with
    | 0, _ => exact ⟨_, atI_nat rfl, h _ (vc_of (by decide +kernel))⟩
    | 1, _ => exact ⟨_, atI_nat rfl, h _ (vc_of (by decide +kernel))⟩
    | 2, _ => exact ⟨_, atI_nat rfl, h _ (vc_of (by decide +kernel))⟩
    | 3, _ => exact ⟨_, atI_nat rfl, h _ (vc_of (by decide +kernel))⟩
    | 4, _ => exact ⟨_, atI_nat rfl, h _ (vc_of (by decide +kernel))⟩
    | 5, _ => exact ⟨_, atI_nat rfl, h _ (vc_of (by decide +kernel))⟩
    | 6, _ => exact ⟨_, atI_nat rfl, h _ (vc_of (by decide +kernel))⟩
  · rw [decide_eq_false hp]
    try walk_at "dl"
    refine ⟨a, 8, rfl, by decide, by decide, fun n hn0 hn8 => ?_⟩
    try walk_at "dl"
    have e62 : (2 : Int) ^ 62 = 4611686018427387904 := by decide
    refine ⟨by omega, by omega, ?_⟩
    refine lc_rel (fun _ r => ∃ c ∈ SGN.cps.toList, r = .str ⟨#[c]⟩) rfl (by rw [rangeD_len]; have := LIMe; omega) (fun d hd kk hk => ?_) fun rs Δ hΔ he => ?_
    · try walk_at "dl"
      refine ⟨a, 36, rfl, by decide, by decide, fun i hi0 hi36 => ?_⟩
      try walk_at "dl"
      have hi : i.toNat < SGN.cps.toList.length := by
        have : SGN.cps.toList.length = 36 := by decide +kernel
        omega
      have ei : i = ((i.toNat : Nat) : Int) := by omega
      rw [ei]
      refine ⟨by decide, SGN.cps.toList[i.toNat], atI_nat (List.getElem?_eq_getElem hi), ?_⟩
      exact hk _ _ rfl ⟨_, List.getElem_mem hi, rfl⟩
    · have hlen : rs.length = (1 + n).toNat := by rw [← he.length, rangeD_len]; simp
      have hall : ∀ r ∈ rs, ∃ c ∈ SGN.cps.toList, r = .str ⟨#[c]⟩ := fun r hr => (each_get he r hr).elim fun _ q => q.2
      obtain ⟨cs, hcs, hsg⟩ : ∃ cs : List Nat, rs = cs.map (fun c => D.str ⟨#[c]⟩) ∧ ∀ c ∈ cs, c ∈ SGN.cps.toList := by
        clear he hlen
        induction rs with
        | nil => exact ⟨[], rfl, fun c h => by simp at h⟩
        | cons r rs ih =>
          obtain ⟨c, hc, rfl⟩ := hall r List.mem_cons_self
          obtain ⟨cs, rfl, h2⟩ := ih fun q hq => hall q (List.mem_cons_of_mem _ hq)
          exact ⟨c :: cs, rfl, fun d hd => (List.mem_cons.mp hd).elim (fun e => e ▸ hc) (h2 d)⟩
      subst hcs
      have hss : strs? (cs.map (fun c => D.str ⟨#[c]⟩)) = some (cs.map fun c => (⟨#[c]⟩ : Str)) := by
        clear he hlen hall hsg
        induction cs with
        | nil => rfl
        | cons c cs ih => simp only [List.map_cons, strs?, ih, Option.map_some]
      rw [List.length_map] at hlen
      refine ⟨_, _, rfl, hss, ?_, ?_⟩
      · have e1 : ∀ cs : List Nat, ((cs.map fun c => (⟨#[c]⟩ : Str)).map (·.length)).sum = cs.length := by
          intro cs
          induction cs with
          | nil => rfl
          | cons c cs ih => rw [List.map_cons, List.map_cons, List.sum_cons, ih, List.length_cons]; show 1 + cs.length = _; omega
        rw [e1, List.length_map]
        have e0 : ("" : Str).length = 0 := by decide +kernel
        rw [e0]
        have := LIMe
        omega
      · refine h _ ?_
        have ej : ∀ cs : List Nat, (Txt.join ("" : Str) (cs.map fun c => (⟨#[c]⟩ : Str))).cps.toList = cs := by
          intro cs
          show TL.tl _ = cs
          rw [TL.join_eq, TL.tl_join, List.map_map]
          induction cs with
          | nil => rfl
          | cons c cs ih =>
            cases cs with
            | nil => rfl
            | cons d cs =>
              simp only [List.map_cons, TL.joinL] at ih ⊢
              rw [ih]
              rfl
        have el : ∀ cs : List Nat, (Txt.join ("" : Str) (cs.map fun c => (⟨#[c]⟩ : Str))).length = cs.length := fun cs => by
          have := congrArg List.length (ej cs)
          rw [Array.length_toList] at this
          exact this
        refine ⟨?_, ?_, ?_⟩
        · rw [el]; omega
        · rw [el]; omega
        · rw [ej]; exact hsg
end M21

namespace M21
open PySem L2 DL
local macro_rules | `(tactic| walk_at "dl") => `(tactic| simp only [wpSs_nil, wpSs_cons, wpS_asg, wpS_asgT, wpS_par, wpS_expr, wpS_ret, wpS_if, wpS_brk, wpS_cnt, wpS_pass, wpS_raise, wpS_for, wpS_while, wpE_lc, wpS.eq_4, wpS.eq_6, wpE.eq_1, wpE.eq_2, wpE.eq_3, wpE.eq_4, wpE.eq_5, wpE.eq_6, wpE.eq_7, wpE.eq_8, wpE.eq_9, wpE.eq_10, wpE.eq_11, wpE.eq_12, wpE.eq_13, wpE.eq_14, wpE.eq_15, wpE.eq_16, wpE.eq_17, wpE.eq_18, wpE.eq_19, wpE.eq_21, wpE.eq_22, wpE.eq_23, wpE.eq_24, wpE.eq_25, wpE.eq_26, wpE.eq_27, wpE.eq_28, wpE.eq_29, wpE.eq_30, wpE.eq_31, wpE.eq_32, wpS_setkey, isB_bl, lstO, tyM, slotsD, D.flat, wpOs, wpA, wpX, wpC, wpI, isVar, isNop, asO, asP, asB_bl, asI_int, Opd.fl, Opd.ob, Opd.at, flat_fz, flat_lst, flat_nil, fzs_map, fzs_nil, osw_some, permS_run, prm_10, prm_102, prm_201, prm_120, prm_210, augD_addI, augD_subI, augD_mulI, augD_fdivI, augD_modI, binD_addI, binD_subI, binD_mulI, binD_fdivI, binD_modI, binD_powI, binD_addT, binD_addL, binD_addS, binD_mulT, binD_mulL, cmpD, ltD_I, ltD_S, leD_I, inD_L, inD_T, inD_S, ix_T, ix_L, ix_R, ix_S, sl_T, sl_L, sl_S, rev_T, rev_L, len_T, len_L, len_S, len_R, tuple_L, tuple_T, list_L, list_T, sum_L, all_L, any_L, max_I, min_I, abs_I, int_I, int_B, mc_app, isi_non, isi_bl, isi_int, isi_str, isi_tup, isi_lst, TyS.int?, TyS.bool?, TyS.str?, TyS.tup?, TyS.lst?, bindT, bindTs, putG, lstAt, lstAt2, toD_fz, toD_lst, toDs_fz, toDs_nil, toDs_cons, seq_T, seq_L, isNon_non, isNon_tup, isNon_lst, isNon_str, isNon_int, isNon_bl, wipeG, Tg.slots, Tg.slotss,
   List.getElem?_cons_zero, List.getElem?_cons_succ, List.set_cons_zero, List.set_cons_succ, Option.join_some, Option.bind_some, Option.map_some, Option.isSome_some, List.length_cons, List.length_nil, List.length_map, List.map_cons, List.map_nil, List.nil_append, List.cons_append, if_true, Bool.false_eq_true, if_false, true_and, and_true, Nat.zero_add, Nat.zero_le, Nat.zero_lt_succ, Nat.reduceLT, Nat.reduceAdd, Nat.reduceLeDiff, Nat.lt_add_one, Bool.not_true, Bool.not_false, decide_true, decide_false, List.forall_mem_cons, List.not_mem_nil, false_implies, implies_true, forall_eq])
/-! ### tables, their pages -/
/-- a full row -/
def Fr (r : Row) : Prop := ∀ c ∈ r, ∃ x, c = some x ∧ Vc x
structure Tb (t : List Row) (w : Nat) : Prop where
  lo : 1 ≤ t.length
  hi : t.length ≤ 60
  wl : 1 ≤ w
  wh : w ≤ 6
  rows : ∀ r ∈ t, r.length = w ∧ Fr r
def shr : Row → Row → Nat
  | x :: a, y :: b => if x = y then shr a b + 1 else 0
  | _, _ => 0
theorem shr_le : ∀ a b : Row, shr a b ≤ a.length ∧ shr a b ≤ b.length
  | [], b => by simp [shr]
  | x :: a, [] => by simp [shr]
  | x :: a, y :: b => by
    unfold shr
    split
    · have := shr_le a b
      simp only [List.length_cons]
      omega
    · simp
theorem shr_get : ∀ (a b : Row) (i : Nat), i < shr a b → a[i]? = b[i]?
  | [], b, i, h => by simp [shr] at h
  | x :: a, [], i, h => by simp [shr] at h
  | x :: a, y :: b, i, h => by
    unfold shr at h
    split at h
    · rename_i e
      cases i with
      | zero => simp [e]
      | succ i => simpa using shr_get a b i (by omega)
    · omega
theorem shr_ne : ∀ (a b : Row), shr a b < a.length → shr a b < b.length → a[shr a b]? ≠ b[shr a b]?
  | [], b, h, _ => by simp [shr] at h
  | x :: a, [], _, h => by simp [shr] at h
  | x :: a, y :: b, h1, h2 => by
    unfold shr at h1 h2 ⊢
    split
    · rename_i e
      rw [if_pos e] at h1 h2
      simpa using shr_ne a b (by simpa using h1) (by simpa using h2)
    · rename_i e
      simpa using e
theorem sgn_plain : ∀ c ∈ SGN.cps.toList, c < 0x110000 := by decide +kernel
theorem vc_plain {x : Str} (h : Vc x) (n : Nat) : D.plain n (.str x) = true := by
  have e : x.cps.all (· < 0x110000) = true := by
    rw [Array.all_eq_true_iff_forall_mem]
    intro c hc
    exact decide_eq_true (sgn_plain c (h.sg c (Array.mem_toList_iff.mpr hc)))
  cases n <;> exact e
theorem fr_plain {r : Row} (h : Fr r) (n : Nat) : ∀ c ∈ r, D.plain n (cD c) = true := fun c hc => by
  obtain ⟨x, rfl, hx⟩ := h c hc
  exact vc_plain hx n
theorem eqv_cD {a b : Option Str} : D.eqv (cD a) (cD b) = decide (a = b) := by
  cases a <;> cases b <;> simp [cD, D.eqv, Bool.beq_eq_decide_eq]
def _law_sharedS (ce : Nat) : Spc where
  run := fun ds k _ => ∃ a b : Row, ds = [rD a, rD b] ∧ a.length = b.length ∧ a.length < 1000 ∧ Fr a ∧ Fr b ∧ k (.fz (.int (shr a b)))
  ce := ce
  ar := 2
theorem m__law_shared {ds : List D} {k : OT → Prop} {x : Ex → Prop} (h : (_law_sharedS 0).run ds k x) : (rawS 3 2 sb__law_shared).run ds k x := by
  obtain ⟨a, b, rfl, hl, hlt, fa, fb, h⟩ := h
  refine ⟨rfl, ?_⟩
  show wpSs _ sb__law_shared [some (.fz (rD a)), some (.fz (rD b)), none] _
  unfold sb__law_shared rD
  try walk_at "dl"
  have hs := shr_le a b
  refine ⟨1001, by decide, wh_inv (fun m Γ => ∃ i : Nat, i + m = shr a b ∧ Γ = [some (.fz (.tup (a.map cD))), some (.fz (.tup (b.map cD))), some (.fz (.int (i : Int)))]) _ (shr a b) _ (by omega) ⟨0, by omega, rfl⟩ ?_⟩
  rintro m Γ kk ⟨i, hi, rfl⟩ again
  try walk_at "dl"
  by_cases hlt2 : (i : Int) < (a.length : Int)
  · have i1 : i < a.length := by omega
    have i2 : i < b.length := by omega
    rw [decide_eq_true hlt2, if_pos rfl]
    refine ⟨cD a[i], atI_nat (by rw [List.getElem?_map, List.getElem?_eq_getElem i1]; rfl), ?_⟩
    try walk_at "dl"
    refine ⟨cD b[i], atI_nat (by rw [List.getElem?_map, List.getElem?_eq_getElem i2]; rfl), ?_⟩
    try walk_at "dl"
    refine ⟨fr_plain fa _ _ (List.getElem_mem i1), fr_plain fb _ _ (List.getElem_mem i2), ?_⟩
    rw [eqv_cD]
    cases m with
    | zero =>
      have e : i = shr a b := by omega
      have hne : ¬ a[i] = b[i] := fun z => by
        refine shr_ne a b (by omega) (by omega) ?_
        rw [← e, List.getElem?_eq_getElem i1, List.getElem?_eq_getElem i2, z]
      rw [decide_eq_false hne]
      try walk_at "dl"
      rw [e]
      exact h
    | succ m =>
      have he : a[i] = b[i] := by
        have := shr_get a b i (by omega)
        rw [List.getElem?_eq_getElem i1, List.getElem?_eq_getElem i2] at this
        exact Option.some.inj this
      rw [decide_eq_true he]
      try walk_at "dl"
      exact again m _ (by omega) ⟨i + 1, by omega, by simp⟩
  · rw [decide_eq_false hlt2]
    try walk_at "dl"
    have e : i = shr a b := by omega
    rw [e]
    exact h
def mostF : Row → List Row → List Nat
  | _, [] => []
  | a, r :: rs => shr r a :: mostF r rs
def mostR : List Row → List Nat
  | [] => [0]
  | r :: rs => 0 :: mostF r rs
theorem mostF_len : ∀ (a : Row) (rs : List Row), (mostF a rs).length = rs.length
  | a, [] => rfl
  | a, r :: rs => by simp [mostF, mostF_len r rs]
theorem zip_pairs (f : D → D) (g : Row → Row → Nat) (hf : ∀ a b : Row, f (.tup [rD a, rD b]) = .int (g a b : Nat)) : ∀ (a : Row) (rs : List Row), (zipD (rs.map rD) ((a :: rs).map rD)).map f = (List.zipWith (fun r s => D.int ((g r s : Nat) : Int)) rs (a :: rs))
  | a, [] => rfl
  | a, r :: rs => by
    have ih := zip_pairs f g hf r rs
    simp only [List.map_cons, zipD, List.zipWith_cons_cons, hf] at ih ⊢
    rw [ih]
theorem zip_most : ∀ (a : Row) (rs : List Row), List.zipWith (fun r s => D.int ((shr r s : Nat) : Int)) rs (a :: rs) = (mostF a rs).map fun n => D.int (n : Nat)
  | a, [] => rfl
  | a, r :: rs => by simp only [List.zipWith_cons_cons, mostF, List.map_cons, zip_most r rs]
theorem mem_zip : ∀ (xs ys : List D) (d : D), d ∈ zipD xs ys → ∃ x ∈ xs, ∃ y ∈ ys, d = .tup [x, y]
  | [], ys, d, h => by simp [zipD] at h
  | x :: xs, [], d, h => by simp [zipD] at h
  | x :: xs, y :: ys, d, h => by
    simp only [zipD] at h
    rcases List.mem_cons.mp h with rfl | h
    · exact ⟨x, List.mem_cons_self, y, List.mem_cons_self, rfl⟩
    · obtain ⟨x', h1, y', h2, rfl⟩ := mem_zip xs ys d h
      exact ⟨x', List.mem_cons_of_mem _ h1, y', List.mem_cons_of_mem _ h2, rfl⟩
def unR : D → Row
  | .tup ds => ds.map fun d => match d with
    | .str x => some x
    | _ => none
  | _ => []
theorem unR_rD (r : Row) : unR (rD r) = r := by
  unfold rD unR
  simp only [List.map_map]
  conv => rhs; rw [← List.map_id r]
  refine List.map_congr_left fun c _ => ?_
  cases c <;> rfl
def tabS (ce : Nat) (f : List Row → OT) : Spc where
  run := fun ds k _ => ∃ (p : List Row) (w : Nat), ds = [pD p] ∧ Tb p w ∧ k (f p)
  ce := ce
  ar := 1
theorem m__law_most {ds : List D} {k : OT → Prop} {x : Ex → Prop} {c1 : Nat} (h : (tabS 0 fun t => .lst (((mostR t).map fun n => D.int (n : Nat)).map .fz)).run ds k x) : (rawS 3 1 (sb__law_most (_law_sharedS c1))).run ds k x := by
  obtain ⟨t, w, rfl, ht, h⟩ := h
  refine ⟨rfl, ?_⟩
  show wpSs _ (sb__law_most _) [some (.fz (pD t)), none, none] _
  unfold sb__law_most pD
  have h60 := ht.hi
  have h6 := ht.wh
  obtain ⟨a, rs, rfl⟩ : ∃ a rs, t = a :: rs := by
    cases t with
    | nil => have := ht.lo; simp at this
    | cons a b => exact ⟨a, b, rfl⟩
  try walk_at "dl"
  have ec : cutD ((a :: rs).map rD) (some 1) none = rs.map rD := by
    have := cutD_from ((a :: rs).map rD) 1 (by simp)
    simpa using this
  simp only [List.map_cons] at ec
  rw [ec]
  let f : D → D := fun d => match d with
    | .tup [x, y] => .int ((shr (unR x) (unR y) : Nat) : Int)
    | _ => .non
  have hf : ∀ a b : Row, f (.tup [rD a, rD b]) = .int ((shr a b : Nat) : Int) := fun a b => by simp only [f, unR_rD]
  refine ⟨by decide, lc_map f rfl ?_ (fun d hd kk hk => ?_) fun Δ hΔ => ?_⟩
  · rw [zipD_len]
    simp only [List.length_map, List.length_cons] at *
    have := LIMe
    omega
  · obtain ⟨x1, h1, y1, h2, rfl⟩ := mem_zip _ _ _ hd
    obtain ⟨r1, hr1, rfl⟩ := List.mem_map.mp h1
    obtain ⟨r2, hr2, rfl⟩ := List.mem_map.mp (show y1 ∈ (a :: rs).map rD from h2)
    have q1 := ht.rows r1 (List.mem_cons_of_mem _ hr1)
    have q2 := ht.rows r2 hr2
    try walk_at "dl"
    refine ⟨r1, r2, rfl, by rw [q1.1, q2.1], by rw [q1.1]; omega, q1.2, q2.2, ?_⟩
    have := hk
    rw [hf] at this
    exact this _ rfl
  · try walk_at "dl"
    have e := zip_pairs f shr hf a rs
    simp only [List.map_cons] at e
    rw [e, zip_most]
    refine ⟨by simp only [List.length_map, mostF_len, List.length_cons, List.length_nil]; simp only [List.length_cons] at h60; have := LIMe; omega, ?_⟩
    simpa [mostR] using h
def withR (r : Row) (n : Nat) : Row := List.replicate n none ++ r.drop n
def _law_withS (ce : Nat) : Spc where
  run := fun ds k _ => ∃ (t : List Row) (bs : List Nat) (w : Nat), ds = [pD t, .lst (bs.map fun n => D.int (n : Nat))] ∧ Tb t w ∧ bs.length = t.length ∧ (∀ n ∈ bs, n ≤ w) ∧ k (.fz (pD (List.zipWith withR t bs)))
  ce := ce
  ar := 2
theorem zip_with (f : D → D) (hf : ∀ (r : Row) (n : Nat), f (.tup [rD r, .int (n : Nat)]) = rD (withR r n)) : ∀ (t : List Row) (bs : List Nat), (zipD (t.map rD) (bs.map fun n => D.int (n : Nat))).map f = (List.zipWith withR t bs).map rD
  | [], bs => by simp [zipD]
  | r :: t, [] => by simp [zipD]
  | r :: t, n :: bs => by
    simp only [List.map_cons, zipD, List.zipWith_cons_cons, hf, zip_with f hf t bs]
theorem m__law_with {ds : List D} {k : OT → Prop} {x : Ex → Prop} (h : (_law_withS 0).run ds k x) : (rawS 4 2 sb__law_with).run ds k x := by
  obtain ⟨t, bs, w, rfl, ht, hl, hb, h⟩ := h
  refine ⟨rfl, ?_⟩
  show wpSs _ sb__law_with [some (.fz (pD t)), some (.fz (.lst (bs.map fun n => D.int (n : Nat)))), none, none] _
  unfold sb__law_with pD
  have h60 := ht.hi
  have h6 := ht.wh
  try walk_at "dl"
  let f : D → D := fun d => match d with
    | .tup [x, .int n] => rD (withR (unR x) n.toNat)
    | _ => .non
  have hf : ∀ (r : Row) (n : Nat), f (.tup [rD r, .int (n : Nat)]) = rD (withR r n) := fun r n => by simp only [f, unR_rD, Int.toNat_natCast]
  refine lc_map f rfl (by rw [zipD_len]; simp only [List.length_map]; have := LIMe; omega) (fun d hd kk hk => ?_) fun Δ hΔ => ?_
  · obtain ⟨x1, h1, y1, h2, rfl⟩ := mem_zip _ _ _ hd
    obtain ⟨r, hr, rfl⟩ := List.mem_map.mp h1
    obtain ⟨n, hn, rfl⟩ := List.mem_map.mp h2
    have q := ht.rows r hr
    have hnw := hb n hn
    rw [hf] at hk
    rw [show rD r = .tup (r.map cD) from rfl]
    try walk_at "dl"
    refine ⟨by decide, by omega, by omega, ?_⟩
    try walk_at "dl"
    rw [cutD_from _ _ (by rw [List.length_map]; omega)]
    have er : rD (withR r n) = .tup (List.replicate (Int.toNat (n : Int)) .non ++ (r.map cD).drop n) := by
      unfold rD withR
      rw [List.map_append, List.map_replicate, List.map_drop, Int.toNat_natCast]
      rfl
    rw [er] at hk
    refine ⟨?_, hk _ rfl⟩
    rw [List.length_replicate, List.length_drop, List.length_map, Int.toNat_natCast]
    have := LIMe
    omega
  · try walk_at "dl"
    rw [zip_with f hf]
    exact h
end M21

namespace M21
open PySem L2 DL
local macro_rules | `(tactic| walk_at "dl") => `(tactic| simp only [wpSs_nil, wpSs_cons, wpS_asg, wpS_asgT, wpS_par, wpS_expr, wpS_ret, wpS_if, wpS_brk, wpS_cnt, wpS_pass, wpS_raise, wpS_for, wpS_while, wpE_lc, wpS.eq_4, wpS.eq_6, wpE.eq_1, wpE.eq_2, wpE.eq_3, wpE.eq_4, wpE.eq_5, wpE.eq_6, wpE.eq_7, wpE.eq_8, wpE.eq_9, wpE.eq_10, wpE.eq_11, wpE.eq_12, wpE.eq_13, wpE.eq_14, wpE.eq_15, wpE.eq_16, wpE.eq_17, wpE.eq_18, wpE.eq_19, wpE.eq_21, wpE.eq_22, wpE.eq_23, wpE.eq_24, wpE.eq_25, wpE.eq_26, wpE.eq_27, wpE.eq_28, wpE.eq_29, wpE.eq_30, wpE.eq_31, wpE.eq_32, wpS_setkey, isB_bl, lstO, tyM, slotsD, D.flat, wpOs, wpA, wpX, wpC, wpI, isVar, isNop, asO, asP, asB_bl, asI_int, Opd.fl, Opd.ob, Opd.at, flat_fz, flat_lst, flat_nil, fzs_map, fzs_nil, osw_some, permS_run, prm_10, prm_102, prm_201, prm_120, prm_210, augD_addI, augD_subI, augD_mulI, augD_fdivI, augD_modI, binD_addI, binD_subI, binD_mulI, binD_fdivI, binD_modI, binD_powI, binD_addT, binD_addL, binD_addS, binD_mulT, binD_mulL, cmpD, ltD_I, ltD_S, leD_I, inD_L, inD_T, inD_S, ix_T, ix_L, ix_R, ix_S, sl_T, sl_L, sl_S, rev_T, rev_L, len_T, len_L, len_S, len_R, tuple_L, tuple_T, list_L, list_T, sum_L, all_L, any_L, max_I, min_I, abs_I, int_I, int_B, mc_app, isi_non, isi_bl, isi_int, isi_str, isi_tup, isi_lst, TyS.int?, TyS.bool?, TyS.str?, TyS.tup?, TyS.lst?, bindT, bindTs, putG, lstAt, lstAt2, toD_fz, toD_lst, toDs_fz, toDs_nil, toDs_cons, seq_T, seq_L, isNon_non, isNon_tup, isNon_lst, isNon_str, isNon_int, isNon_bl, wipeG, Tg.slots, Tg.slotss,
   List.getElem?_cons_zero, List.getElem?_cons_succ, List.set_cons_zero, List.set_cons_succ, Option.join_some, Option.bind_some, Option.map_some, Option.isSome_some, List.length_cons, List.length_nil, List.length_map, List.map_cons, List.map_nil, List.nil_append, List.cons_append, if_true, Bool.false_eq_true, if_false, true_and, and_true, Nat.zero_add, Nat.zero_le, Nat.zero_lt_succ, Nat.reduceLT, Nat.reduceAdd, Nat.reduceLeDiff, Nat.lt_add_one, Bool.not_true, Bool.not_false, decide_true, decide_false, List.forall_mem_cons, List.not_mem_nil, false_implies, implies_true, forall_eq])
/-! ### equal data are the same -/
mutual
/-- plain, at most n deep, no sequence longer than 1000 -/
def sm : Nat → D → Bool
  | _, .non => true
  | _, .bl _ => true
  | _, .int _ => true
  | _, .str x => x.cps.all (· < 0x110000)
  | n + 1, .tup xs => decide (xs.length ≤ 1000) && sms n xs
  | n + 1, .lst xs => decide (xs.length ≤ 1000) && sms n xs
  | _, _ => false
def sms : Nat → List D → Bool
  | _, [] => true
  | n, x :: xs => sm n x && sms n xs
end
theorem sms_mem : ∀ {n : Nat} {xs : List D} {x : D}, sms n xs = true → x ∈ xs → sm n x = true
  | n, y :: xs, x, h, hm => by
    rw [sms, Bool.and_eq_true] at h
    rcases List.mem_cons.mp hm with rfl | hm
    · exact h.1
    · exact sms_mem h.2 hm
theorem sms_of : ∀ {n : Nat} {xs : List D}, (∀ x ∈ xs, sm n x = true) → sms n xs = true
  | n, [], _ => rfl
  | n, y :: xs, h => by rw [sms, Bool.and_eq_true]; exact ⟨h y List.mem_cons_self, sms_of fun x hx => h x (List.mem_cons_of_mem _ hx)⟩
theorem sm_plain : ∀ (n : Nat) (d : D), sm n d = true → D.plain n d = true := by
  intro n
  induction n with
  | zero => intro d h; cases d <;> first | exact h | cases h
  | succ n ih =>
    intro d h
    have key : ∀ xs : List D, sms n xs = true → D.plains n xs = true := by
      intro xs
      induction xs with
      | nil => intro _; rfl
      | cons x xs ih2 =>
        intro h
        rw [sms, Bool.and_eq_true] at h
        rw [D.plains, Bool.and_eq_true]
        exact ⟨ih x h.1, ih2 h.2⟩
    cases d <;> first | exact h | cases h | skip
    · rw [sm, Bool.and_eq_true] at h; exact key _ h.2
    · rw [sm, Bool.and_eq_true] at h; exact key _ h.2
def _law_sameS (n ce : Nat) : Spc where
  run := fun ds k _ => 0 < n ∧ ∃ d : D, ds = [d, d] ∧ sm (n - 1) d = true ∧ k (.fz (.bl true))
  ce := ce
  ar := 2
theorem zip_same : ∀ (xs : List D) (d : D), d ∈ zipD xs xs → ∃ x ∈ xs, d = .tup [x, x]
  | [], d, h => by simp [zipD] at h
  | x :: xs, d, h => by
    simp only [zipD] at h
    rcases List.mem_cons.mp h with rfl | h
    · exact ⟨x, List.mem_cons_self, rfl⟩
    · obtain ⟨y, h1, rfl⟩ := zip_same xs d h
      exact ⟨y, List.mem_cons_of_mem _ h1, rfl⟩
theorem eqv_bl (b c : Bool) : D.eqv (.bl b) (.bl c) = (b == c) := rfl
theorem plain_bl (n : Nat) (b : Bool) : D.plain n (.bl b) = true := by cases n <;> rfl
theorem plain_int (n : Nat) (b : Int) : D.plain n (.int b) = true := by cases n <;> rfl
theorem plain_up : ∀ (n : Nat) (d : D) (m : Nat), D.plain n d = true → n ≤ m → D.plain m d = true := by
  intro n
  induction n with
  | zero => intro d m h _; cases d <;> first | (cases m <;> exact h) | cases h
  | succ n ih =>
    intro d m h hm
    obtain ⟨m, rfl⟩ : ∃ j, m = j + 1 := ⟨m - 1, by omega⟩
    have key : ∀ xs : List D, D.plains n xs = true → D.plains m xs = true := by
      intro xs
      induction xs with
      | nil => intro _; rfl
      | cons x xs ih2 =>
        intro h
        rw [D.plains, Bool.and_eq_true] at h ⊢
        exact ⟨ih x m h.1 (by omega), ih2 h.2⟩
    cases d <;> first | exact h | exact key _ h
/-! ### reading by the law -/
theorem plain_row {r : Row} (h : Fr r) (n : Nat) : D.plain (n + 1) (rD r) = true := by
  show D.plains n (r.map cD) = true
  induction r with
  | nil => rfl
  | cons c r ih =>
    rw [List.map_cons, D.plains, Bool.and_eq_true]
    exact ⟨fr_plain h _ c List.mem_cons_self, ih fun d hd => h d (List.mem_cons_of_mem _ hd)⟩
theorem plain_rows {t : List Row} (h : ∀ r ∈ t, Fr r) (n : Nat) : D.plain (n + 2) (.lst (t.map rD)) = true := by
  show D.plains (n + 1) (t.map rD) = true
  induction t with
  | nil => rfl
  | cons r t ih =>
    rw [List.map_cons, D.plains, Bool.and_eq_true]
    exact ⟨plain_row (h r List.mem_cons_self) n, ih fun q hq => h q (List.mem_cons_of_mem _ hq)⟩
theorem eqv_nil (xs : List D) : D.eqv (.lst xs) (.lst []) = xs.isEmpty := by cases xs <;> rfl
theorem fr_read {w : Nat} {a : Option Row} {r : Row} (hr : Vr w r) (ha : ∀ b, a = some b → b.length = w ∧ Fr b) (h0 : a = none → blanks r = 0) : Fr (readOne a r) := by
  intro c hc
  unfold readOne at hc
  rcases List.mem_append.mp hc with h | h
  · cases a with
    | none => rw [h0 rfl, List.take_zero] at h; simp at h
    | some b => exact (ha b rfl).2 c (List.mem_of_mem_take h)
  · exact hr.cells c h
/-- a cell read by the law: the row's own, or the one above -/
theorem law_cells {w : Nat} {b r : Row} (hr : Vr w r) (hb : b.length = w) : ∀ (i : Nat) (c : Option Str), r[i]? = some c → (readOne (some b) r)[i]? = if c.isNone = true then b[i]? else some c := by
  intro i c hc
  have hbl := blanks_le r
  have hrl := hr.len
  have hi : i < r.length := (List.getElem?_eq_some_iff.mp hc).1
  unfold readOne
  simp only [Option.getD_some]
  by_cases h : i < blanks r
  · rw [List.getElem?_append_left (by rw [List.length_take]; omega), List.getElem?_take_of_lt h]
    have : c = none := by
      have key : ∀ (r : Row) (i : Nat), i < blanks r → r[i]? = some none := by
        intro r
        induction r with
        | nil => intro i h; simp [blanks] at h
        | cons c r ih =>
          intro i h
          cases c with
          | some _ => simp [blanks] at h
          | none =>
            cases i with
            | zero => rfl
            | succ i => simpa using ih i (by simp only [blanks] at h; omega)
      have := key r i h
      rw [hc] at this
      exact Option.some.inj this
    subst this
    rfl
  · rw [List.getElem?_append_right (by rw [List.length_take]; omega), List.length_take, Nat.min_eq_left (by omega), List.getElem?_drop, show blanks r + (i - blanks r) = i by omega, hc]
    have hm : c ∈ r.drop (blanks r) := by
      refine List.mem_of_getElem? (i := i - blanks r) ?_
      rw [List.getElem?_drop, show blanks r + (i - blanks r) = i by omega, hc]
    obtain ⟨x, rfl, _⟩ := hr.cells c hm
    rfl
theorem law_row {w : Nat} {b r : Row} (hr : Vr w r) (hb : b.length = w) (f : D → D) (hf : ∀ (i : Nat) (c : Option Str), f (.tup [.int (i : Nat), cD c]) = if c.isNone = true then cD ((b[i]?).getD none) else cD c) :
    (enumD 0 (r.map cD)).map f = (readOne (some b) r).map cD := by
  have hrl := hr.len
  have h1 : (readOne (some b) r).length = r.length := readOne_len fun q hq => by cases hq; rw [hb, hrl]
  refine List.ext_getElem? fun i => ?_
  by_cases hi : i < r.length
  · have hc : r[i]? = some r[i] := List.getElem?_eq_getElem hi
    have e1 := enumD_get 0 (r.map cD) i (cD r[i]) (by rw [List.getElem?_map, hc]; rfl)
    rw [List.getElem?_map, e1, List.getElem?_map, law_cells hr hb i _ hc]
    simp only [Option.map_some, Nat.zero_add, hf]
    cases hq : (r[i]).isNone with
    | true =>
      rw [if_pos rfl, if_pos rfl, List.getElem?_eq_getElem (by omega)]
      rfl
    | false =>
      rw [if_neg (by decide), if_neg (by decide)]
      rfl
  · rw [List.getElem?_eq_none (by rw [List.length_map, enumD_len, List.length_map]; omega), List.getElem?_eq_none (by rw [List.length_map]; omega)]
theorem mem_enum : ∀ (n : Nat) (xs : List D) (d : D), d ∈ enumD n xs → ∃ (i : Nat) (x : D), xs[i]? = some x ∧ d = .tup [.int ((n + i : Nat) : Int), x]
  | n, [], d, h => by simp [enumD] at h
  | n, x :: xs, d, h => by
    simp only [enumD] at h
    rcases List.mem_cons.mp h with rfl | h
    · exact ⟨0, x, rfl, rfl⟩
    · obtain ⟨i, y, h1, rfl⟩ := mem_enum (n + 1) xs d h
      exact ⟨i + 1, y, h1, by rw [show n + 1 + i = n + (i + 1) by omega]⟩
end M21

namespace M21
open PySem L2 DL
local macro_rules | `(tactic| walk_at "dl") => `(tactic| simp only [wpSs_nil, wpSs_cons, wpS_asg, wpS_asgT, wpS_par, wpS_expr, wpS_ret, wpS_if, wpS_brk, wpS_cnt, wpS_pass, wpS_raise, wpS_for, wpS_while, wpE_lc, wpS.eq_4, wpS.eq_6, wpE.eq_1, wpE.eq_2, wpE.eq_3, wpE.eq_4, wpE.eq_5, wpE.eq_6, wpE.eq_7, wpE.eq_8, wpE.eq_9, wpE.eq_10, wpE.eq_11, wpE.eq_12, wpE.eq_13, wpE.eq_14, wpE.eq_15, wpE.eq_16, wpE.eq_17, wpE.eq_18, wpE.eq_19, wpE.eq_21, wpE.eq_22, wpE.eq_23, wpE.eq_24, wpE.eq_25, wpE.eq_26, wpE.eq_27, wpE.eq_28, wpE.eq_29, wpE.eq_30, wpE.eq_31, wpE.eq_32, wpS_setkey, isB_bl, lstO, tyM, slotsD, D.flat, wpOs, wpA, wpX, wpC, wpI, isVar, isNop, asO, asP, asB_bl, asI_int, Opd.fl, Opd.ob, Opd.at, flat_fz, flat_lst, flat_nil, fzs_map, fzs_nil, osw_some, permS_run, prm_10, prm_102, prm_201, prm_120, prm_210, augD_addI, augD_subI, augD_mulI, augD_fdivI, augD_modI, binD_addI, binD_subI, binD_mulI, binD_fdivI, binD_modI, binD_powI, binD_addT, binD_addL, binD_addS, binD_mulT, binD_mulL, cmpD, ltD_I, ltD_S, leD_I, inD_L, inD_T, inD_S, ix_T, ix_L, ix_R, ix_S, sl_T, sl_L, sl_S, rev_T, rev_L, len_T, len_L, len_S, len_R, tuple_L, tuple_T, list_L, list_T, sum_L, all_L, any_L, max_I, min_I, abs_I, int_I, int_B, mc_app, isi_non, isi_bl, isi_int, isi_str, isi_tup, isi_lst, TyS.int?, TyS.bool?, TyS.str?, TyS.tup?, TyS.lst?, bindT, bindTs, putG, lstAt, lstAt2, toD_fz, toD_lst, toDs_fz, toDs_nil, toDs_cons, seq_T, seq_L, isNon_non, isNon_tup, isNon_lst, isNon_str, isNon_int, isNon_bl, wipeG, Tg.slots, Tg.slotss,
   List.getElem?_cons_zero, List.getElem?_cons_succ, List.set_cons_zero, List.set_cons_succ, Option.join_some, Option.bind_some, Option.map_some, Option.isSome_some, List.length_cons, List.length_nil, List.length_map, List.map_cons, List.map_nil, List.nil_append, List.cons_append, if_true, Bool.false_eq_true, if_false, true_and, and_true, Nat.zero_add, Nat.zero_le, Nat.zero_lt_succ, Nat.reduceLT, Nat.reduceAdd, Nat.reduceLeDiff, Nat.lt_add_one, Bool.not_true, Bool.not_false, decide_true, decide_false, List.forall_mem_cons, List.not_mem_nil, false_implies, implies_true, forall_eq])
theorem each_snoc {α β : Type} {R : α → β → Prop} {as : List α} {bs : List β} {a : α} {b : β} (h : Each R as bs) (r : R a b) : Each R (as ++ [a]) (bs ++ [b]) := by
  induction h with
  | nil => exact .cons r .nil
  | cons q _ ih => exact .cons q ih
theorem mostF_le {w : Nat} : ∀ (a : Row) (rs : List Row), (∀ r ∈ rs, r.length = w) → ∀ n ∈ mostF a rs, n ≤ w
  | a, [], _, n, h => by simp [mostF] at h
  | a, r :: rs, h, n, hn => by
    rw [mostF] at hn
    rcases List.mem_cons.mp hn with rfl | hn
    · have := (shr_le r a).1
      have := h r List.mem_cons_self
      omega
    · exact mostF_le r rs (fun q hq => h q (List.mem_cons_of_mem _ hq)) n hn
theorem mostR_le {t : List Row} {w : Nat} (h : ∀ r ∈ t, r.length = w) : ∀ n ∈ mostR t, n ≤ w := by
  intro n hn
  cases t with
  | nil => simp [mostR] at hn; omega
  | cons a rs =>
    rw [mostR] at hn
    rcases List.mem_cons.mp hn with rfl | hn
    · omega
    · exact mostF_le a rs (fun q hq => h q (List.mem_cons_of_mem _ hq)) n hn
theorem mostR_len {t : List Row} (h : 1 ≤ t.length) : (mostR t).length = t.length := by
  cases t with
  | nil => simp at h
  | cons a rs => simp [mostR, mostF_len]
def _law_pageS (ce : Nat) : Spc where
  run := fun ds k _ => ∃ (a : Addr) (t : List Row) (w : Nat), ds = [.opq 0 a, pD t] ∧ Tb t w ∧ ∀ bs : List Nat, Each (fun m n => n ≤ m) (mostR t) bs → k (.fz (pD (List.zipWith withR t bs)))
  ce := ce
  ar := 2
theorem m__law_page {ds : List D} {k : OT → Prop} {x : Ex → Prop} {c1 c2 : Nat} (h : (_law_pageS 0).run ds k x) : (rawS 5 2 (sb__law_page (drawS 0) (tabS c1 fun t => .lst (((mostR t).map fun n => D.int (n : Nat)).map .fz)) (_law_withS c2))).run ds k x := by
  obtain ⟨a, t, w, rfl, ht, h⟩ := h
  refine ⟨rfl, ?_⟩
  show wpSs _ (sb__law_page _ _ _) [some (.fz (.opq 0 a)), some (.fz (pD t)), none, none, none] _
  unfold sb__law_page
  have h60 := ht.hi
  have h6 := ht.wh
  have hle := mostR_le (fun r hr => (ht.rows r hr).1)
  have hlen := mostR_len ht.lo
  try walk_at "dl"
  refine ⟨a, 4, rfl, by decide, by decide, fun st hs0 hs4 => ?_⟩
  try walk_at "dl"
  refine ⟨t, w, rfl, ht, ?_⟩
  try walk_at "dl"
  refine for_inv (fun ds Γ => ∃ (ms rest bs : List Nat) (g4 : Option OT), ds = rest.map (fun n => D.int (n : Nat)) ∧ mostR t = ms ++ rest ∧ Each (fun m n => n ≤ m) ms bs ∧
    Γ = [some (.fz (.opq 0 a)), some (.fz (pD t)), some (.fz (.int st)), some (.lst ((bs.map fun n => D.int (n : Nat)).map .fz)), g4]) _ _ ⟨[], mostR t, [], none, rfl, rfl, .nil, rfl⟩ ?_ ?_
  · rintro d ds Γ kk ⟨ms, rest, bs, g4, hd, hm, he, rfl⟩ again
    cases rest with
    | nil => cases hd
    | cons m rest =>
      cases hd
      have hmw := hle m (by rw [hm]; simp)
      have hbl := he.length
      have hbs : bs.length < 1000000 := by
        have := congrArg List.length hm
        simp only [List.length_append, List.length_cons] at this
        omega
      try walk_at "dl"
      refine ⟨a, (m : Int) + 1, rfl, by omega, by omega, fun q hq0 hq1 => ?_⟩
      try walk_at "dl"
      refine ⟨by decide, a, 2, rfl, by decide, by decide, fun z hz0 hz2 => ?_⟩
      try walk_at "dl"
      have key : ∀ n : Nat, n ≤ m → kk [some (.fz (.opq 0 a)), some (.fz (pD t)), some (.fz (.int st)), some (.lst (((bs.map fun n => D.int (n : Nat)) ++ [D.int (n : Nat)]).map .fz)), some (.fz (.int m))] := fun n hn =>
        again _ ⟨ms ++ [m], rest, bs ++ [n], some (.fz (.int m)), rfl, by rw [hm]; simp, each_snoc he hn, by simp⟩
      have hz : ∃ (j n : Nat), z = j ∧ [D.int 0, D.int (m : Int)][j]? = some (.int (n : Nat)) ∧ n ≤ m := by
        have : z = 0 ∨ z = 1 := by omega
        rcases this with rfl | rfl
        · exact ⟨0, 0, rfl, rfl, Nat.zero_le _⟩
        · exact ⟨1, m, rfl, rfl, Nat.le_refl _⟩
      obtain ⟨j, n, rfl, hj, hn⟩ := hz
      have hq : q = (q.toNat : Int) := by omega
      have hs : ∃ (j i : Nat), st = j ∧ [D.int m, .int q, .int m, .int n][j]? = some (.int (i : Nat)) ∧ i ≤ m := by
        have : st = 0 ∨ st = 1 ∨ st = 2 ∨ st = 3 := by omega
        rcases this with rfl | rfl | rfl | rfl
        · exact ⟨0, m, rfl, rfl, Nat.le_refl _⟩
        · exact ⟨1, q.toNat, rfl, by rw [hq]; rfl, by omega⟩
        · exact ⟨2, m, rfl, rfl, Nat.le_refl _⟩
        · exact ⟨3, n, rfl, rfl, hn⟩
      obtain ⟨j2, i, rfl, hj2, hi⟩ := hs
      try simp only [OT.flat?, fzs?, Option.map_some, osw_some, ix_L]
      refine ⟨_, atI_nat hj, by decide, ?_⟩
      exact ⟨_, atI_nat hj2, hbs, key i hi⟩
  · rintro Γ ⟨ms, rest, bs, g4, hd, hm, he, rfl⟩
    cases rest with
    | cons r rest => cases hd
    | nil =>
      rw [List.append_nil] at hm
      try walk_at "dl"
      refine ⟨t, bs, w, rfl, ht, by rw [← he.length, ← hm, hlen], fun n hn => ?_, h bs (hm ▸ he)⟩
      obtain ⟨m, hm1, hm2⟩ := each_get he n hn
      exact Nat.le_trans hm2 (hle m (hm ▸ hm1))
/-! ### tables drawn -/
def _law_tableS (ce : Nat) : Spc where
  run := fun ds k _ => ∃ (a : Addr) (most : Int) (w : Nat), ds = [.opq 0 a, .int most, .int w] ∧ 1 ≤ most ∧ most ≤ 60 ∧ 1 ≤ w ∧ w ≤ 6 ∧ ∀ t : List Row, Tb t w → (t.length : Int) ≤ most → k (.fz (pD t))
  ce := ce
  ar := 3
theorem cut_at {e : EX} {s : SS} {rest : List SS} {Γ : DL.Env} {J : DEnds} (h : ∀ R, R = rest → wpSs e (s :: R) Γ J) : wpSs e (s :: rest) Γ J := h rest rfl
theorem alike_rows : ∀ (r q : Row), Fr r → Fr q → PySem.W.alikeAll (D.pys (r.map cD)) (D.pys (q.map cD)) = true
  | [], q, _, _ => by simp [D.pys, PySem.W.alikeAll]
  | c :: r, [], _, _ => by simp [D.pys, PySem.W.alikeAll]
  | c :: r, d :: q, h1, h2 => by
    obtain ⟨x, rfl, _⟩ := h1 c List.mem_cons_self
    obtain ⟨y, rfl, _⟩ := h2 d List.mem_cons_self
    have ih := alike_rows r q (fun c hc => h1 c (List.mem_cons_of_mem _ hc)) fun c hc => h2 c (List.mem_cons_of_mem _ hc)
    simp only [List.map_cons, D.pys, cD, D.py, PySem.W.alikeAll, PySem.W.alike, Bool.true_and]
    exact ih
theorem srt_rows {rows : List Row} (h : ∀ r ∈ rows, Fr r) (h1 : ∀ r ∈ rows, 1 ≤ r.length) : srtOk (rows.map rD) := by
  refine ⟨?_, .inl ?_, ?_⟩
  · intro d hd d' hd'
    rw [List.map_map] at hd hd'
    obtain ⟨r, hr, rfl⟩ := List.mem_map.mp hd
    obtain ⟨q, hq, rfl⟩ := List.mem_map.mp hd'
    exact alike_rows r q (h r hr) (h q hq)
  · intro d hd
    rw [List.map_map] at hd
    obtain ⟨r, hr, rfl⟩ := List.mem_map.mp hd
    have := h1 r hr
    cases r with
    | nil => simp at this
    | cons c r => exact ⟨_, _, rfl⟩
  · exact plain_rows h 19
theorem sort_rows (rows : List Row) : ∃ t : List Row, sortD (rows.map rD) = t.map rD ∧ t.length = rows.length ∧ ∀ r ∈ t, r ∈ rows := by
  have hp := List.mergeSort_perm (rows.map rD) (PySem.W.dataLe false D.py)
  have hm : ∀ d ∈ sortD (rows.map rD), ∃ r ∈ rows, d = rD r := fun d hd => by
    obtain ⟨r, hr, rfl⟩ := List.mem_map.mp (hp.mem_iff.mp hd)
    exact ⟨r, hr, rfl⟩
  have hl : (sortD (rows.map rD)).length = rows.length := hp.length_eq.trans (List.length_map _)
  generalize sortD (rows.map rD) = ds at hm hl
  refine ⟨ds.map unR, ?_, by rw [List.length_map, hl], fun r hr => ?_⟩
  · rw [List.map_map]
    conv => lhs; rw [← List.map_id ds]
    refine List.map_congr_left fun d hd => ?_
    obtain ⟨r, _, rfl⟩ := hm d hd
    show rD r = rD (unR (rD r))
    rw [unR_rD]
  · obtain ⟨d, hd, rfl⟩ := List.mem_map.mp hr
    obtain ⟨r, hr2, rfl⟩ := hm d hd
    rw [unR_rD]
    exact hr2
theorem m__law_table {ds : List D} {k : OT → Prop} {x : Ex → Prop} {c1 : Nat} (h : (_law_tableS 0).run ds k x) : (rawS 12 3 (sb__law_table (drawS 0) (_law_valueS 0 c1))).run ds k x := by
  obtain ⟨a, most, w, rfl, hm1, hm60, hw1, hw6, h⟩ := h
  refine ⟨rfl, ?_⟩
  show wpSs _ (sb__law_table _ _) [some (.fz (.opq 0 a)), some (.fz (.int most)), some (.fz (.int w)), none, none, none, none, none, none, none, none, none] _
  unfold sb__law_table
  refine cut_at fun R hR => ?_
  walk_at "dl"
  have hmn : 1 ≤ (if 4 < most then 4 else most) ∧ (if 4 < most then 4 else most) ≤ 4 := by split <;> omega
  refine ⟨a, _, rfl, by omega, by omega, fun s0 h00 h01 => ?_⟩
  try walk_at "dl"
  refine ⟨a, most, rfl, by omega, by omega, fun s1 h10 h11 => ?_⟩
  try walk_at "dl"
  refine ⟨by decide, ?_⟩
  subst hR
  refine cut_at fun R hR => ?_
  try walk_at "dl"
  refine ⟨a, 3, rfl, by decide, by decide, fun i hi0 hi3 => ?_⟩
  try simp only [OT.flat?, fzs?, Option.map_some, osw_some, ix_L]
  obtain ⟨j, many, rfl, hj, hmy⟩ : ∃ (j many : Nat), i = j ∧ [D.int (1 + s0), .int (1 + s1), .int most][j]? = some (.int (many : Nat)) ∧ 1 ≤ many ∧ many ≤ 60 ∧ (many : Int) ≤ most := by
    have : i = 0 ∨ i = 1 ∨ i = 2 := by omega
    rcases this with rfl | rfl | rfl
    · exact ⟨0, (1 + s0).toNat, rfl, by rw [Int.toNat_of_nonneg (by omega)]; rfl, by omega, by omega, by split at h01 <;> omega⟩
    · exact ⟨1, (1 + s1).toNat, rfl, by rw [Int.toNat_of_nonneg (by omega)]; rfl, by omega, by omega, by omega⟩
    · exact ⟨2, most.toNat, rfl, by rw [Int.toNat_of_nonneg (by omega)]; rfl, by omega, by omega, by omega⟩
  refine ⟨_, atI_nat hj, ?_⟩
  try walk_at "dl"
  refine ⟨a, 4, rfl, by decide, by decide, fun st hs0 hs4 => ?_⟩
  try walk_at "dl"
  refine ⟨a, 7, rfl, by decide, by decide, fun few hf0 hf7 => ?_⟩
  try walk_at "dl"
  subst hR
  refine cut_at fun R hR => ?_
  try walk_at "dl"
  refine ⟨by omega, by omega, ?_⟩
  let G : List Row → Option OT → Option OT → Option OT → DL.Env := fun rows g8 g9 g10 => [some (.fz (.opq 0 a)), some (.fz (.int most)), some (.fz (.int w)), some (.lst [.fz (.int (1 + s0)), .fz (.int (1 + s1)), .fz (.int most)]), some (.fz (.int many)), some (.fz (.int st)), some (.fz (.int (1 + few))), some (.lst ((rows.map rD).map .fz)), g8, g9, g10, none]
  refine for_inv (fun ds Γ => ∃ (rows : List Row) (g8 g9 g10 : Option OT), rows.length + ds.length = many ∧ (∀ r ∈ rows, r.length = w ∧ Fr r) ∧ Γ = G rows g8 g9 g10) _ _ ⟨[], none, none, none, by simp [rangeD_len], by simp, rfl⟩ ?_ ?_
  · rintro d ds Γ kk ⟨rows, g8, g9, g10, hl, hrs, rfl⟩ again
    simp only [G, bindT, List.length_cons, List.length_nil, Nat.reduceAdd, Nat.reduceLT, true_and, List.set_cons_succ, List.set_cons_zero]
    have hrl : rows.length < 60 := by simp only [List.length_cons] at hl; omega
    refine cut_at fun R1 hR1 => ?_
    try walk_at "dl"
    refine ⟨by omega, by omega, lc_rel (fun _ r => ∃ x, Vc x ∧ r = .str x) rfl (by rw [rangeD_len]; have := LIMe; omega) (fun d hd kk2 hk => ?_) fun rs Δ hΔ he => ?_⟩
    · try walk_at "dl"
      refine ⟨a, 1 + few, rfl, by omega, by omega, fun x hx => hk _ _ rfl ⟨x, hx, rfl⟩⟩
    rw [hΔ]
    have hlen : rs.length = w := by rw [← he.length, rangeD_len]; simp
    have hall : ∀ r ∈ rs, ∃ x, Vc x ∧ r = .str x := fun r hr => (each_get he r hr).elim fun _ q => q.2
    obtain ⟨row, rfl, hfr⟩ : ∃ row : Row, rs = row.map cD ∧ Fr row := by
      clear he hlen hΔ
      induction rs with
      | nil => exact ⟨[], rfl, fun c h => by simp at h⟩
      | cons r rs ih =>
        obtain ⟨x, hx, rfl⟩ := hall r List.mem_cons_self
        obtain ⟨row, rfl, h2⟩ := ih fun q hq => hall q (List.mem_cons_of_mem _ hq)
        refine ⟨some x :: row, rfl, fun c hc => ?_⟩
        rcases List.mem_cons.mp hc with rfl | hc
        · exact ⟨x, rfl, hx⟩
        · exact h2 c hc
    rw [List.length_map] at hlen
    have fin : ∀ (q : Row) (g8 g10 : Option OT), q.length = w → Fr q → rows.length < LIM ∧ kk [some (.fz (.opq 0 a)), some (.fz (.int most)), some (.fz (.int w)), some (.lst [.fz (.int (1 + s0)), .fz (.int (1 + s1)), .fz (.int most)]), some (.fz (.int many)), some (.fz (.int st)), some (.fz (.int (1 + few))), some (.lst ((rows.map rD ++ [D.tup (q.map cD)]).map .fz)), g8, some (.fz (.tup (q.map cD))), g10, none] := fun q g8 g10 hq1 hq2 => by
      refine ⟨by have := LIMe; omega, again _ ⟨rows ++ [q], g8, some (.fz (rD q)), g10, ?_, ?_, by simp [G, rD]⟩⟩
      · simp only [List.length_cons] at hl
        simp only [List.length_append, List.length_cons, List.length_nil]
        omega
      · intro r hr
        rcases List.mem_append.mp hr with hr | hr
        · exact hrs r hr
        · obtain rfl := List.mem_singleton.mp hr
          exact ⟨hq1, hq2⟩
    subst hR1
    try walk_at "dl"
    by_cases hst : 0 < st
    · rw [decide_eq_true hst, if_pos rfl, eqv_nil]
      refine ⟨plain_rows (fun b hb => (hrs b hb).2) 22, rfl, ?_⟩
      by_cases hde : rows = []
      · subst hde
        rw [if_neg (by decide)]
        exact fin row _ _ hlen hfr
      · obtain ⟨b, hb⟩ : ∃ b, rows.getLast? = some b := by
          cases q : rows.getLast? with
          | none => exact absurd (List.getLast?_eq_none_iff.mp q) hde
          | some b => exact ⟨b, rfl⟩
        have hbm := hrs b (List.mem_of_getLast? hb)
        have he : (List.map rD rows).isEmpty = false := by
          cases rows with
          | nil => exact absurd rfl hde
          | cons _ _ => rfl
        rw [he, if_pos (show (!false) = true from rfl)]
        refine ⟨a, (w : Int) + 1, rfl, by omega, by omega, fun n hn0 hn1 => ?_⟩
        refine ⟨rD b, ?_, ?_⟩
        · obtain ⟨ys, hys⟩ := List.getLast?_eq_some_iff.mp hb
          rw [hys, List.map_append]
          exact atI_last _ _
        rw [show rD b = .tup (b.map cD) from rfl]
        try walk_at "dl"
        obtain ⟨m, rfl⟩ : ∃ m : Nat, n = m := ⟨n.toNat, by omega⟩
        rw [cutD_to (b.map cD) m (by rw [List.length_map]; omega), cutD_from (row.map cD) m (by rw [List.length_map]; omega), ← List.map_take, ← List.map_drop, ← List.map_append]
        refine ⟨by simp only [List.length_map, List.length_take, List.length_drop]; have := LIMe; omega, fin (b.take m ++ row.drop m) _ _ ?_ ?_⟩
        · simp only [List.length_append, List.length_take, List.length_drop]
          omega
        · intro c hc
          rcases List.mem_append.mp hc with hc | hc
          · exact hbm.2 c (List.mem_of_mem_take hc)
          · exact hfr c (List.mem_of_mem_drop hc)
    · rw [decide_eq_false hst]
      try walk_at "dl"
      exact fin row _ _ hlen hfr
  · rintro Γ ⟨rows, g8, g9, g10, hl, hrs, rfl⟩
    have hrl : rows.length = many := by simpa using hl
    have hT : ∀ t : List Row, t.length = rows.length → (∀ r ∈ t, r.length = w ∧ Fr r) → Tb t w := fun t h1 h2 => ⟨by omega, by omega, hw1, hw6, h2⟩
    subst hR
    simp only [G]
    try walk_at "dl"
    refine ⟨plain_int _ _, plain_int _ _, ?_⟩
    split
    · refine ⟨srt_rows (fun r hr => (hrs r hr).2) (fun r hr => by have := (hrs r hr).1; omega), ?_⟩
      obtain ⟨t, e1, e2, e3⟩ := sort_rows rows
      rw [e1]
      try walk_at "dl"
      exact h t (hT t e2 fun r hr => hrs r (e3 r hr)) (by omega)
    · exact h rows (hT rows rfl hrs) (by omega)
end M21

namespace M21
open PySem L2 DL
local macro_rules | `(tactic| walk_at "dl") => `(tactic| simp only [wpSs_nil, wpSs_cons, wpS_asg, wpS_asgT, wpS_par, wpS_expr, wpS_ret, wpS_if, wpS_brk, wpS_cnt, wpS_pass, wpS_raise, wpS_for, wpS_while, wpE_lc, wpS.eq_4, wpS.eq_6, wpE.eq_1, wpE.eq_2, wpE.eq_3, wpE.eq_4, wpE.eq_5, wpE.eq_6, wpE.eq_7, wpE.eq_8, wpE.eq_9, wpE.eq_10, wpE.eq_11, wpE.eq_12, wpE.eq_13, wpE.eq_14, wpE.eq_15, wpE.eq_16, wpE.eq_17, wpE.eq_18, wpE.eq_19, wpE.eq_21, wpE.eq_22, wpE.eq_23, wpE.eq_24, wpE.eq_25, wpE.eq_26, wpE.eq_27, wpE.eq_28, wpE.eq_29, wpE.eq_30, wpE.eq_31, wpE.eq_32, wpS_setkey, isB_bl, lstO, tyM, slotsD, D.flat, wpOs, wpA, wpX, wpC, wpI, isVar, isNop, asO, asP, asB_bl, asI_int, Opd.fl, Opd.ob, Opd.at, flat_fz, flat_lst, flat_nil, fzs_map, fzs_nil, osw_some, permS_run, prm_10, prm_102, prm_201, prm_120, prm_210, augD_addI, augD_subI, augD_mulI, augD_fdivI, augD_modI, binD_addI, binD_subI, binD_mulI, binD_fdivI, binD_modI, binD_powI, binD_addT, binD_addL, binD_addS, binD_mulT, binD_mulL, cmpD, ltD_I, ltD_S, leD_I, inD_L, inD_T, inD_S, ix_T, ix_L, ix_R, ix_S, sl_T, sl_L, sl_S, rev_T, rev_L, len_T, len_L, len_S, len_R, tuple_L, tuple_T, list_L, list_T, sum_L, all_L, any_L, max_I, min_I, abs_I, int_I, int_B, mc_app, isi_non, isi_bl, isi_int, isi_str, isi_tup, isi_lst, TyS.int?, TyS.bool?, TyS.str?, TyS.tup?, TyS.lst?, bindT, bindTs, putG, lstAt, lstAt2, toD_fz, toD_lst, toDs_fz, toDs_nil, toDs_cons, seq_T, seq_L, isNon_non, isNon_tup, isNon_lst, isNon_str, isNon_int, isNon_bl, wipeG, Tg.slots, Tg.slotss,
   List.getElem?_cons_zero, List.getElem?_cons_succ, List.set_cons_zero, List.set_cons_succ, Option.join_some, Option.bind_some, Option.map_some, Option.isSome_some, List.length_cons, List.length_nil, List.length_map, List.map_cons, List.map_nil, List.nil_append, List.cons_append, if_true, Bool.false_eq_true, if_false, true_and, and_true, Nat.zero_add, Nat.zero_le, Nat.zero_lt_succ, Nat.reduceLT, Nat.reduceAdd, Nat.reduceLeDiff, Nat.lt_add_one, Bool.not_true, Bool.not_false, decide_true, decide_false, List.forall_mem_cons, List.not_mem_nil, false_implies, implies_true, forall_eq])
theorem vr_cells {w : Nat} {r : Row} (h : Vr w r) : ∀ c ∈ r, c = none ∨ ∃ x, c = some x ∧ Vc x := by
  have key : ∀ (r : Row), ∀ c ∈ r, c ∈ r.drop (blanks r) ∨ c = none := by
    intro r
    induction r with
    | nil => intro c hc; simp at hc
    | cons d r ih =>
      intro c hc
      cases d with
      | some y => exact .inl (by simpa [blanks] using hc)
      | none =>
        rcases List.mem_cons.mp hc with rfl | hc
        · exact .inr rfl
        · rcases ih c hc with h | h
          · exact .inl (by simpa [blanks] using h)
          · exact .inr h
  intro c hc
  rcases key r c hc with h1 | h1
  · exact .inr (h.cells c h1)
  · exact .inl h1
theorem shw_row : ∀ (r : Row), (∀ c ∈ r, c = none ∨ ∃ x, c = some x ∧ Vc x) → PyData.showableAll (D.pys (r.map cD)) = true ∧ PyData.leavesShortAll 8 (D.pys (r.map cD)) = true ∧ PyData.bulkAll (D.pys (r.map cD)) ≤ 9 * r.length
  | [], _ => ⟨rfl, rfl, Nat.le_refl _⟩
  | c :: r, h => by
    obtain ⟨i1, i2, i3⟩ := shw_row r fun d hd => h d (List.mem_cons_of_mem _ hd)
    simp only [List.map_cons, D.pys, PyData.showableAll, PyData.leavesShortAll, PyData.bulkAll, i1, i2, Bool.and_true, List.length_cons]
    rcases h c List.mem_cons_self with rfl | ⟨x, rfl, hx⟩
    · refine ⟨rfl, rfl, ?_⟩
      show 0 + 1 + _ ≤ _
      omega
    · refine ⟨?_, ?_, ?_⟩
      · simp [cD, D.py, PyData.showable]
      · simp only [cD, D.py, PyData.leavesShort, List.all_eq_true, decide_eq_true_eq]
        intro c hc
        have := sgn_plain c (hx.sg c hc)
        have e : (16 : Nat) ^ 8 = 4294967296 := by decide
        omega
      · have := hx.hi
        show x.cps.size + 1 + _ ≤ _
        have : x.length = x.cps.size := rfl
        omega
theorem shw_page : ∀ (p : List Row) (w : Nat), (∀ r ∈ p, r.length = w ∧ ∀ c ∈ r, c = none ∨ ∃ x, c = some x ∧ Vc x) → PyData.showableAll (D.pys (p.map rD)) = true ∧ PyData.leavesShortAll 8 (D.pys (p.map rD)) = true ∧ PyData.bulkAll (D.pys (p.map rD)) ≤ p.length * (9 * w + 1)
  | [], w, _ => ⟨rfl, rfl, Nat.zero_le _⟩
  | r :: p, w, h => by
    obtain ⟨i1, i2, i3⟩ := shw_page p w fun d hd => h d (List.mem_cons_of_mem _ hd)
    obtain ⟨j0, j⟩ := h r List.mem_cons_self
    obtain ⟨j1, j2, j3⟩ := shw_row r j
    rw [j0] at j3
    simp only [List.map_cons, D.pys, PyData.showableAll, PyData.leavesShortAll, PyData.bulkAll, i1, i2, Bool.and_true, List.length_cons]
    refine ⟨j1, j2, ?_⟩
    rw [Nat.add_mul, Nat.one_mul]
    show PyData.bulkAll (D.pys (r.map cD)) + 1 + _ ≤ _
    omega
theorem page_shown {p : List Row} {w : Nat} (h : Vp p w) : (pD p).py.showable = true ∧ (shownD (pD p)).length ≤ LIM := by
  obtain ⟨i1, i2, i3⟩ := shw_page p w fun r hr => ⟨(h.rows r hr).len, vr_cells (h.rows r hr)⟩
  refine ⟨i1, ?_⟩
  have e := PyData.shown_le_bulk 8 (Nat.le_refl _) (pD p).py i2
  have hb : (pD p).py.bulk ≤ 60 * 55 := by
    refine Nat.le_trans i3 (Nat.mul_le_mul h.hi ?_)
    have := h.wh
    omega
  have := LIMe
  show ((pD p).py.shown).length ≤ _
  omega
theorem plain_page {p : List Row} {w : Nat} (h : Vp p w) (n : Nat) : D.plain (n + 2) (pD p) = true := by
  have key : ∀ r : Row, (∀ c ∈ r, c = none ∨ ∃ x, c = some x ∧ Vc x) → D.plain (n + 1) (rD r) = true := by
    intro r
    show _ → D.plains n (r.map cD) = true
    induction r with
    | nil => intro _; rfl
    | cons c r ih =>
      intro h
      rw [List.map_cons, D.plains, Bool.and_eq_true]
      refine ⟨?_, ih fun d hd => h d (List.mem_cons_of_mem _ hd)⟩
      rcases h c List.mem_cons_self with rfl | ⟨x, rfl, hx⟩
      · cases n <;> rfl
      · exact vc_plain hx n
  have key2 : ∀ p : List Row, (∀ r ∈ p, ∀ c ∈ r, c = none ∨ ∃ x, c = some x ∧ Vc x) → D.plains (n + 1) (p.map rD) = true := by
    intro p
    induction p with
    | nil => intro _; rfl
    | cons r p ih =>
      intro h
      rw [List.map_cons, D.plains, Bool.and_eq_true]
      exact ⟨key r (h r List.mem_cons_self), ih fun d hd => h d (List.mem_cons_of_mem _ hd)⟩
  exact key2 p fun r hr => vr_cells (h.rows r hr)
/-- what the rows say -/
theorem read_fr {p : List Row} {w : Nat} (hv : Vp p w) : (readRows none p).length ≤ 60 ∧ ∀ r ∈ readRows none p, r.length = w ∧ Fr r := by
  have key : ∀ (rest : List Row) (a : Option Row), (∀ r ∈ rest, Vr w r) → (∀ b, a = some b → b.length = w ∧ Fr b) → (a = none → ∀ r, rest[0]? = some r → blanks r = 0) → (readRows a rest).length = rest.length ∧ ∀ r ∈ readRows a rest, r.length = w ∧ Fr r := by
    intro rest
    induction rest with
    | nil => intro a _ _ _; exact ⟨rfl, fun r h => by simp [readRows] at h⟩
    | cons r rest ih =>
      intro a hr ha h0
      have hvr := hr r List.mem_cons_self
      have hrl := hvr.len
      have h1 : (readOne a r).length = w ∧ Fr (readOne a r) := ⟨by rw [readOne_len (fun b hb => by rw [(ha b hb).1, hrl]), hrl], fr_read hvr ha fun z => h0 z r rfl⟩
      obtain ⟨i1, i2⟩ := ih (some (readOne a r)) (fun q hq => hr q (List.mem_cons_of_mem _ hq)) (fun b hb => by cases hb; exact h1) (by intro z; cases z)
      rw [readRows]
      refine ⟨by simp only [List.length_cons, i1], fun q hq => ?_⟩
      rcases List.mem_cons.mp hq with rfl | hq
      · exact h1
      · exact i2 q hq
  obtain ⟨h1, h2⟩ := key p none hv.rows (by intro b hb; cases hb) fun _ => hv.first
  exact ⟨by rw [h1]; exact hv.hi, h2⟩
theorem sm_page {t : List Row} {w : Nat} (hl : t.length ≤ 60) (h : ∀ r ∈ t, r.length = w ∧ Fr r) (hw : w ≤ 6 := by omega) (n : Nat) : sm (n + 2) (pD t) = true := by
  show sm (n + 2) (.tup (t.map rD)) = true
  rw [sm, Bool.and_eq_true, decide_eq_true_eq]
  refine ⟨by rw [List.length_map]; omega, sms_of fun d hd => ?_⟩
  obtain ⟨r, hr, rfl⟩ := List.mem_map.mp hd
  obtain ⟨h1, h2⟩ := h r hr
  show sm (n + 1) (.tup (r.map cD)) = true
  rw [sm, Bool.and_eq_true, decide_eq_true_eq]
  refine ⟨by rw [List.length_map]; omega, sms_of fun d hd => ?_⟩
  obtain ⟨c, hc, rfl⟩ := List.mem_map.mp hd
  obtain ⟨x, rfl, hx⟩ := h2 c hc
  have := vc_plain hx 0
  cases n <;> exact this
abbrev S_bl (c : Nat) : Spc := pageS c fun p => .lst ((p.map fun r => D.int (blanks r)).map .fz)
abbrev S_rd (c : Nat) : Spc := pageS c fun p => .fz (.lst ((readRows none p).map rD))
abbrev S_fi (c : Nat) : Spc := pageS c fun p => .fz (pD (readRows none p))
abbrev S_ce (c : Nat) : Spc := pageS c fun p => .fz (.int (p.map fun r => (r.length : Int) - blanks r).sum)
theorem mul_small {i j : Int} (h1 : -1000 < i) (h2 : i < 1000) : mulOk i j := by
  have e : (2 : Int) ^ 64 = 18446744073709551616 := by decide
  refine .inl ?_
  rw [e]
  omega
end M21

namespace M21
open PySem L2 DL
/-! ### the pages of a table mean the table -/
theorem blanks_rep (q : Row) : ∀ n : Nat, blanks (List.replicate n none ++ q) = n + blanks q
  | 0 => by simp
  | n + 1 => by
    rw [List.replicate_succ, List.cons_append, blanks, blanks_rep q n]
    omega
theorem fr_blanks {r : Row} (h : Fr r) : blanks r = 0 := by
  cases r with
  | nil => rfl
  | cons c r =>
    obtain ⟨x, rfl, _⟩ := h c List.mem_cons_self
    rfl
theorem fr_drop {r : Row} (h : Fr r) (n : Nat) : Fr (r.drop n) := fun c hc => h c (List.mem_of_mem_drop hc)
theorem blanks_with {r : Row} (h : Fr r) (n : Nat) : blanks (withR r n) = n := by
  unfold withR
  rw [blanks_rep, fr_blanks (fr_drop h n)]
  rfl
theorem drop_with (r : Row) (n : Nat) : (withR r n).drop n = r.drop n := by
  unfold withR
  rw [List.drop_append_of_le_length (by simp), List.drop_of_length_le (by simp), List.nil_append]
theorem len_with {r : Row} {n w : Nat} (hl : r.length = w) (hn : n ≤ w) : (withR r n).length = w := by
  unfold withR
  rw [List.length_append, List.length_replicate, List.length_drop]
  omega
theorem vr_with {r : Row} {n w : Nat} (hl : r.length = w) (h : Fr r) (hn : n ≤ w) : Vr w (withR r n) := by
  refine ⟨len_with hl hn, ?_⟩
  rw [blanks_with h, drop_with]
  exact fr_drop h n
theorem with_zero (r : Row) : withR r 0 = r := by simp [withR]
theorem vr_fr {r : Row} {w : Nat} (hl : r.length = w) (h : Fr r) : Vr w r := by
  have := vr_with (n := 0) hl h (Nat.zero_le _)
  rwa [with_zero] at this
theorem vp_fr {t : List Row} {w : Nat} (h : Tb t w) : Vp t w := by
  refine ⟨h.lo, h.hi, h.wl, h.wh, fun r hr => vr_fr (h.rows r hr).1 (h.rows r hr).2, fun r hr => fr_blanks (h.rows r (List.mem_of_getElem? hr)).2⟩
theorem mem_zipw : ∀ (t : List Row) (bs : List Nat) (q : Row), q ∈ List.zipWith withR t bs → ∃ r ∈ t, ∃ n ∈ bs, q = withR r n
  | [], bs, q, h => by simp at h
  | r :: t, [], q, h => by simp at h
  | r :: t, n :: bs, q, h => by
    rw [List.zipWith_cons_cons] at h
    rcases List.mem_cons.mp h with rfl | h
    · exact ⟨r, List.mem_cons_self, n, List.mem_cons_self, rfl⟩
    · obtain ⟨r', h1, n', h2, rfl⟩ := mem_zipw t bs q h
      exact ⟨r', List.mem_cons_of_mem _ h1, n', List.mem_cons_of_mem _ h2, rfl⟩
theorem Tb.cons {t : List Row} {w : Nat} (h : Tb t w) : ∃ a rs, t = a :: rs := by
  cases t with
  | nil => have := h.lo; simp at this
  | cons a b => exact ⟨a, b, rfl⟩
theorem vp_with {t : List Row} {w : Nat} {bs : List Nat} (h : Tb t w) (he : Each (fun m n => n ≤ m) (mostR t) bs) : Vp (List.zipWith withR t bs) w := by
  have hlen : (List.zipWith withR t bs).length = t.length := by
    rw [List.length_zipWith, ← he.length, mostR_len h.lo, Nat.min_self]
  refine ⟨by rw [hlen]; exact h.lo, by rw [hlen]; exact h.hi, h.wl, h.wh, fun q hq => ?_, fun q hq => ?_⟩
  · obtain ⟨r, hr, n, hn, rfl⟩ := mem_zipw _ _ _ hq
    obtain ⟨m, hm1, hm2⟩ := each_get he n hn
    have := mostR_le (fun r hr => (h.rows r hr).1) m hm1
    exact vr_with (h.rows r hr).1 (h.rows r hr).2 (by omega)
  · obtain ⟨a, rs, rfl⟩ := h.cons
    rw [mostR] at he
    cases he with
    | cons h0 _ =>
      rw [List.zipWith_cons_cons, List.getElem?_cons_zero, Option.some.injEq] at hq
      subst hq
      rw [blanks_with (h.rows a List.mem_cons_self).2]
      omega
theorem take_eq {r a : Row} {n : Nat} (h : n ≤ shr r a) : a.take n = r.take n := by
  refine List.ext_getElem? fun i => ?_
  rw [List.getElem?_take, List.getElem?_take]
  split
  · exact (shr_get r a i (by omega)).symm
  · rfl
theorem read_one {r a : Row} {n : Nat} (hr : Fr r) (h : n ≤ shr r a) : readOne (some a) (withR r n) = r := by
  unfold readOne
  rw [blanks_with hr, drop_with, Option.getD_some, take_eq h, List.take_append_drop]
theorem read_withF : ∀ (rs : List Row) (a : Row) (bs : List Nat), (∀ r ∈ rs, Fr r) → Each (fun m n => n ≤ m) (mostF a rs) bs → readRows (some a) (List.zipWith withR rs bs) = rs
  | [], a, bs, _, _ => by simp [readRows]
  | r :: rs, a, bs, h, he => by
    rw [mostF] at he
    cases he with
    | cons h0 h1 =>
      rw [List.zipWith_cons_cons, readRows, read_one (h r List.mem_cons_self) h0, read_withF rs r _ (fun q hq => h q (List.mem_cons_of_mem _ hq)) h1]
theorem read_with {t : List Row} {w : Nat} {bs : List Nat} (h : Tb t w) (he : Each (fun m n => n ≤ m) (mostR t) bs) : readRows none (List.zipWith withR t bs) = t := by
  obtain ⟨a, rs, rfl⟩ := h.cons
  rw [mostR] at he
  cases he with
  | cons h0 h1 =>
    obtain rfl := Nat.le_zero.mp h0
    have hf := (h.rows a List.mem_cons_self).2
    have e : readOne none (withR a 0) = a := by
      unfold readOne
      rw [with_zero, fr_blanks hf]
      simp
    rw [List.zipWith_cons_cons, readRows, e, read_withF rs a _ (fun q hq => (h.rows q (List.mem_cons_of_mem _ hq)).2) h1]
end M21

namespace M21
open PySem L2 DL
local macro_rules | `(tactic| walk_at "dl") => `(tactic| simp only [wpSs_nil, wpSs_cons, wpS_asg, wpS_asgT, wpS_par, wpS_expr, wpS_ret, wpS_if, wpS_brk, wpS_cnt, wpS_pass, wpS_raise, wpS_for, wpS_while, wpE_lc, wpS.eq_4, wpS.eq_6, wpE.eq_1, wpE.eq_2, wpE.eq_3, wpE.eq_4, wpE.eq_5, wpE.eq_6, wpE.eq_7, wpE.eq_8, wpE.eq_9, wpE.eq_10, wpE.eq_11, wpE.eq_12, wpE.eq_13, wpE.eq_14, wpE.eq_15, wpE.eq_16, wpE.eq_17, wpE.eq_18, wpE.eq_19, wpE.eq_21, wpE.eq_22, wpE.eq_23, wpE.eq_24, wpE.eq_25, wpE.eq_26, wpE.eq_27, wpE.eq_28, wpE.eq_29, wpE.eq_30, wpE.eq_31, wpE.eq_32, wpS_setkey, isB_bl, lstO, tyM, slotsD, D.flat, wpOs, wpA, wpX, wpC, wpI, isVar, isNop, asO, asP, asB_bl, asI_int, Opd.fl, Opd.ob, Opd.at, flat_fz, flat_lst, flat_nil, fzs_map, fzs_nil, osw_some, permS_run, prm_10, prm_102, prm_201, prm_120, prm_210, augD_addI, augD_subI, augD_mulI, augD_fdivI, augD_modI, binD_addI, binD_subI, binD_mulI, binD_fdivI, binD_modI, binD_powI, binD_addT, binD_addL, binD_addS, binD_mulT, binD_mulL, cmpD, ltD_I, ltD_S, leD_I, inD_L, inD_T, inD_S, ix_T, ix_L, ix_R, ix_S, sl_T, sl_L, sl_S, rev_T, rev_L, len_T, len_L, len_S, len_R, tuple_L, tuple_T, list_L, list_T, sum_L, all_L, any_L, max_I, min_I, abs_I, int_I, int_B, mc_app, isi_non, isi_bl, isi_int, isi_str, isi_tup, isi_lst, TyS.int?, TyS.bool?, TyS.str?, TyS.tup?, TyS.lst?, bindT, bindTs, putG, lstAt, lstAt2, toD_fz, toD_lst, toDs_fz, toDs_nil, toDs_cons, seq_T, seq_L, isNon_non, isNon_tup, isNon_lst, isNon_str, isNon_int, isNon_bl, wipeG, Tg.slots, Tg.slotss,
   List.getElem?_cons_zero, List.getElem?_cons_succ, List.set_cons_zero, List.set_cons_succ, Option.join_some, Option.bind_some, Option.map_some, Option.isSome_some, List.length_cons, List.length_nil, List.length_map, List.map_cons, List.map_nil, List.nil_append, List.cons_append, if_true, Bool.false_eq_true, if_false, true_and, and_true, Nat.zero_add, Nat.zero_le, Nat.zero_lt_succ, Nat.reduceLT, Nat.reduceAdd, Nat.reduceLeDiff, Nat.lt_add_one, Bool.not_true, Bool.not_false, decide_true, decide_false, List.forall_mem_cons, List.not_mem_nil, false_implies, implies_true, forall_eq])
def lawS (ce : Nat) : Spc where
  run := fun ds k _ => ∃ ns : List Int, ds = [.scr ns] ∧ k (.fz (.bl true))
  ce := ce
  ar := 1
abbrev S_mo (c : Nat) : Spc := tabS c fun t => .lst (((mostR t).map fun n => D.int (n : Nat)).map .fz)
abbrev _law_valueS0 (c : Nat) : Spc := _law_valueS 0 c
abbrev S_lr (c : Nat) : Spc := pageS c fun p => .fz (.lst ((readRows none p).map rD))
abbrev S_lb (c : Nat) : Spc := pageS c fun p => .lst ((p.map fun r => D.int (blanks r)).map .fz)
abbrev S_ok (c : Nat) : Spc := pageS c fun _ => .fz (.bl true)
theorem _law_sameS_no (ds : List D) (k : OT → Prop) (x : Ex → Prop) : ¬ (_law_sameS 0 0).run ds k x := fun h => absurd h.1 (Nat.lt_irrefl 0)
theorem rangeD_nil {lo hi : Int} (h : hi ≤ lo) : rangeD lo hi = [] := by
  unfold rangeD
  rw [show (hi - lo).toNat = 0 by omega]
  rfl
theorem rangeD_cons {lo hi : Int} (h : lo < hi) : rangeD lo hi = .int lo :: rangeD (lo + 1) hi := by
  unfold rangeD
  obtain ⟨n, hn⟩ : ∃ n, (hi - lo).toNat = n + 1 := ⟨(hi - lo).toNat - 1, by omega⟩
  rw [hn, show (hi - (lo + 1)).toNat = n by omega, List.range_succ_eq_map, List.map_cons, List.map_map]
  refine congr (congrArg _ (by simp)) (List.map_congr_left fun i _ => ?_)
  show D.int (lo + ((i + 1 : Nat) : Int)) = D.int (lo + 1 + (i : Int))
  congr 1
  omega
theorem rangeD_inv {lo hi : Int} {d : D} {ds : List D} (h : d :: ds = rangeD lo hi) : lo < hi ∧ d = .int lo ∧ ds = rangeD (lo + 1) hi := by
  by_cases hl : lo < hi
  · rw [rangeD_cons hl] at h
    injection h with h1 h2
    exact ⟨hl, h1, h2⟩
  · rw [rangeD_nil (by omega)] at h
    cases h
theorem rangeD_end {lo hi : Int} (h : [] = rangeD lo hi) : hi ≤ lo := by
  by_cases hl : lo < hi
  · rw [rangeD_cons hl] at h
    cases h
  · omega
theorem m__law_deck {ds : List D} {k : OT → Prop} {x : Ex → Prop} (h : (deckRS 0).run ds k x) : (rawS 4 1 sb__law_deck).run ds k x := by
  obtain ⟨ns, rfl, h⟩ := h
  refine ⟨rfl, ?_⟩
  show wpSs _ sb__law_deck [some (.fz (.scr ns)), none, none, none] _
  unfold sb__law_deck
  try walk_at "dl"
  generalize hN : (if (if (ns.length : Int) < 63 then (ns.length : Int) else 63) > 1 then if (ns.length : Int) < 63 then (ns.length : Int) else 63 else 1) = N
  have hN1 : 1 ≤ N ∧ N ≤ 63 := by
    rw [← hN]
    split
    · split <;> omega
    · omega
  refine ⟨by omega, by omega, for_inv (fun ds Γ => ∃ (j : Int) (ps : List (Int × Int × Int)) (g2 g3 : Option OT), 0 ≤ j ∧ j ≤ N ∧ ds = rangeD j N ∧ (ps.length : Int) = j ∧ (∀ p ∈ ps, 0 ≤ p.2.2 ∧ p.2.2 ≤ 4000) ∧ Γ = [some (.fz (.scr ns)), some (.lst (ps.map poolT)), g2, g3]) _ _ ⟨0, [], none, none, by omega, by omega, rfl, rfl, by simp, rfl⟩ ?_ ?_⟩
  · rintro d ds Γ kk ⟨j, ps, g2, g3, hj0, hjN, hd, hl, hp, rfl⟩ again
    obtain ⟨hlt, rfl, rfl⟩ := rangeD_inv hd
    have fin : ∀ cell b : Int, kk [some (.fz (.scr ns)), some (.lst (ps.map poolT ++ [.lst [.fz (.int cell), .fz (.int b), .fz (.int (61 * j + 37))]])), some (.fz (.int j)), some (.fz (.int cell))] := fun cell b =>
      again _ ⟨j + 1, ps ++ [(cell, b, 61 * j + 37)], some (.fz (.int j)), some (.fz (.int cell)), by omega, by omega, rfl, by simp [hl], fun p hpm => by
        rcases List.mem_append.mp hpm with hpm | hpm
        · exact hp p hpm
        · obtain rfl := List.mem_singleton.mp hpm
          show 0 ≤ 61 * j + 37 ∧ 61 * j + 37 ≤ 4000
          omega, by simp⟩
    have hlen : ps.length < LIM := by have := LIMe; omega
    have hmu : mulOk 61 j := mul_small (by omega) (by omega)
    try walk_at "dl"
    by_cases hjl : j < (ns.length : Int)
    · rw [if_pos (decide_eq_true hjl)]
      have hjn : j.toNat < ns.length := by omega
      refine ⟨ns[j.toNat], ?_, by decide, by decide, by decide, hmu, by decide, hlen, fin _ _⟩
      have e : ((j.toNat : Nat) : Int) = j := by omega
      have e2 := atI_nat (List.getElem?_eq_getElem hjn)
      rw [e] at e2
      exact e2
    · rw [if_neg (by rw [decide_eq_false hjl]; decide)]
      exact ⟨by decide, by decide, by decide, hmu, by decide, hlen, fin _ _⟩
  · rintro Γ ⟨j, ps, g2, g3, hj0, hjN, hd, hl, hp, rfl⟩
    have := rangeD_end hd
    try walk_at "dl"
    refine ⟨by decide, h ps ⟨fun z => by subst z; simp at hl; omega, by omega, hp⟩⟩
theorem eqv_self : ∀ (n : Nat) (d : D), D.plain n d = true → D.eqv d d = true := by
  intro n
  induction n with
  | zero => intro d h; cases d <;> first | (simp [D.eqv]; done) | (rw [D.plain] at h; cases h)
  | succ n ih =>
    have key : ∀ xs : List D, D.plains n xs = true → D.eqvs xs xs = true := by
      intro xs
      induction xs with
      | nil => intro _; rfl
      | cons x xs ih2 =>
        intro h
        rw [D.plains, Bool.and_eq_true] at h
        rw [D.eqvs, ih x h.1, ih2 h.2]
        rfl
    intro d h
    cases d <;> first | (simp [D.eqv]; done) | (rw [D.plain] at h; cases h) | (rw [D.plain] at h; rw [D.eqv]; exact key _ h)
/-- the page at the end of the law -/
def page0 : List Row := [[some "ann", some "oslo", some "1"], [none, none, some "2"], [none, none, some "3"], [none, some "rome", some "1"], [some "bob", some "rome", some "1"]]
def vcB (x : Str) : Bool := decide (1 ≤ x.length) && decide (x.length ≤ 8) && x.cps.toList.all fun c => decide (c ∈ SGN.cps.toList)
def vrB (w : Nat) (r : Row) : Bool := decide (r.length = w) && (r.drop (blanks r)).all fun c => match c with
  | some x => vcB x
  | none => false
theorem vr_by {w : Nat} {r : Row} (h : vrB w r = true) : Vr w r := by
  unfold vrB at h
  rw [Bool.and_eq_true, decide_eq_true_eq, List.all_eq_true] at h
  refine ⟨h.1, fun c hc => ?_⟩
  have := h.2 c hc
  cases c with
  | none => cases this
  | some x => exact ⟨x, rfl, vc_of this⟩
theorem vp_page0 : Vp page0 3 := ⟨by decide, by decide, by decide, by decide, fun r hr => vr_by (List.all_eq_true.mp (show page0.all (vrB 3) = true by decide +kernel) r hr), fun r hr => by
  rw [page0, List.getElem?_cons_zero, Option.some.injEq] at hr
  subst hr
  rfl⟩
end M21

namespace M21
open PySem L2 DL
local macro_rules | `(tactic| walk_at "dl") => `(tactic| simp only [wpSs_nil, wpSs_cons, wpS_asg, wpS_asgT, wpS_par, wpS_expr, wpS_ret, wpS_if, wpS_brk, wpS_cnt, wpS_pass, wpS_raise, wpS_for, wpS_while, wpE_lc, wpS.eq_4, wpS.eq_6, wpE.eq_1, wpE.eq_2, wpE.eq_3, wpE.eq_4, wpE.eq_5, wpE.eq_6, wpE.eq_7, wpE.eq_8, wpE.eq_9, wpE.eq_10, wpE.eq_11, wpE.eq_12, wpE.eq_13, wpE.eq_14, wpE.eq_15, wpE.eq_16, wpE.eq_17, wpE.eq_18, wpE.eq_19, wpE.eq_21, wpE.eq_22, wpE.eq_23, wpE.eq_24, wpE.eq_25, wpE.eq_26, wpE.eq_27, wpE.eq_28, wpE.eq_29, wpE.eq_30, wpE.eq_31, wpE.eq_32, wpS_setkey, isB_bl, lstO, tyM, slotsD, D.flat, wpOs, wpA, wpX, wpC, wpI, isVar, isNop, asO, asP, asB_bl, asI_int, Opd.fl, Opd.ob, Opd.at, flat_fz, flat_lst, flat_nil, fzs_map, fzs_nil, osw_some, permS_run, prm_10, prm_102, prm_201, prm_120, prm_210, augD_addI, augD_subI, augD_mulI, augD_fdivI, augD_modI, binD_addI, binD_subI, binD_mulI, binD_fdivI, binD_modI, binD_powI, binD_addT, binD_addL, binD_addS, binD_mulT, binD_mulL, cmpD, ltD_I, ltD_S, leD_I, inD_L, inD_T, inD_S, ix_T, ix_L, ix_R, ix_S, sl_T, sl_L, sl_S, rev_T, rev_L, len_T, len_L, len_S, len_R, tuple_L, tuple_T, list_L, list_T, sum_L, all_L, any_L, max_I, min_I, abs_I, int_I, int_B, mc_app, isi_non, isi_bl, isi_int, isi_str, isi_tup, isi_lst, TyS.int?, TyS.bool?, TyS.str?, TyS.tup?, TyS.lst?, bindT, bindTs, putG, lstAt, lstAt2, toD_fz, toD_lst, toDs_fz, toDs_nil, toDs_cons, seq_T, seq_L, isNon_non, isNon_tup, isNon_lst, isNon_str, isNon_int, isNon_bl, wipeG, Tg.slots, Tg.slotss,
   List.getElem?_cons_zero, List.getElem?_cons_succ, List.set_cons_zero, List.set_cons_succ, Option.join_some, Option.bind_some, Option.map_some, Option.isSome_some, List.length_cons, List.length_nil, List.length_map, List.map_cons, List.map_nil, List.nil_append, List.cons_append, if_true, Bool.false_eq_true, if_false, true_and, and_true, Nat.zero_add, Nat.zero_le, Nat.zero_lt_succ, Nat.reduceLT, Nat.reduceAdd, Nat.reduceLeDiff, Nat.lt_add_one, Bool.not_true, Bool.not_false, decide_true, decide_false, List.forall_mem_cons, List.not_mem_nil, false_implies, implies_true, forall_eq])
/-! ### plain laws -/
theorem eqv_cells : ∀ (a b : Row), D.eqvs (a.map cD) (b.map cD) = decide (a = b)
  | [], [] => rfl
  | [], _ :: _ => rfl
  | _ :: _, [] => rfl
  | c :: a, d :: b => by
    rw [List.map_cons, List.map_cons, D.eqvs, eqv_cells a b, eqv_cD, ← Bool.decide_and]
    exact decide_eq_decide.mpr (by simp)
theorem eqv_rows : ∀ (p q : List Row), D.eqvs (p.map rD) (q.map rD) = decide (p = q)
  | [], [] => rfl
  | [], _ :: _ => rfl
  | _ :: _, [] => rfl
  | r :: p, s :: q => by
    rw [List.map_cons, List.map_cons, D.eqvs, eqv_rows p q, show D.eqv (rD r) (rD s) = D.eqvs (r.map cD) (s.map cD) from rfl, eqv_cells, ← Bool.decide_and]
    exact decide_eq_decide.mpr (by simp)
theorem eqv_pD (p q : List Row) : D.eqv (pD p) (pD q) = decide (p = q) := eqv_rows p q
theorem ne_one {r a : Row} {w : Nat} (hr : Fr r) (hl : r.length = w) (ha : a.length = w) (h : shr r a < w) : readOne (some a) (withR r (shr r a + 1)) ≠ r := by
  intro z
  have := shr_ne r a (by omega) (by omega)
  refine this ?_
  have e : (readOne (some a) (withR r (shr r a + 1)))[shr r a]? = a[shr r a]? := by
    unfold readOne
    rw [blanks_with hr, Option.getD_some, List.getElem?_append_left (by rw [List.length_take]; omega), List.getElem?_take, if_pos (by omega)]
  rw [z] at e
  exact e
theorem ne_F {w : Nat} : ∀ (rs : List Row) (a : Row) (bs : List Nat) (i m : Nat), (∀ r ∈ rs, r.length = w ∧ Fr r) → a.length = w → (∀ j b c, j < i → bs[j]? = some b → (mostF a rs)[j]? = some c → b ≤ c) → (mostF a rs)[i]? = some m → bs[i]? = some (m + 1) → m < w → readRows (some a) (List.zipWith withR rs bs) ≠ rs
  | [], a, bs, i, m, _, _, _, h, _, _ => by simp [mostF] at h
  | r :: rs, a, [], i, m, _, _, _, _, h, _ => by simp at h
  | r :: rs, a, b :: bs, 0, m, h, ha, _, hm, hb, hw => by
    have hr := h r List.mem_cons_self
    rw [mostF, List.getElem?_cons_zero, Option.some.injEq] at hm
    rw [List.getElem?_cons_zero, Option.some.injEq] at hb
    subst hm hb
    rw [List.zipWith_cons_cons, readRows]
    intro z
    exact ne_one hr.2 hr.1 ha hw (List.cons.inj z).1
  | r :: rs, a, b :: bs, i + 1, m, h, ha, hp, hm, hb, hw => by
    have hr := h r List.mem_cons_self
    rw [mostF] at hm hp
    have h0 : b ≤ shr r a := hp 0 b _ (by omega) rfl rfl
    rw [List.zipWith_cons_cons, readRows, read_one hr.2 h0]
    intro z
    exact ne_F rs r bs i m (fun q hq => h q (List.mem_cons_of_mem _ hq)) hr.1 (fun j b c hj h1 h2 => hp (j + 1) b c (by omega) (by simpa using h1) (by simpa using h2)) (by simpa using hm) (by simpa using hb) hw (List.cons.inj z).2
theorem read_more {t : List Row} {w at_ m : Nat} (ht : Tb t w) (h0 : 0 < at_) (hm : (mostR t)[at_]? = some m) (hw : m < w) : readRows none (List.zipWith withR t ((mostR t).take at_ ++ [m + 1] ++ (mostR t).drop (at_ + 1))) ≠ t := by
  obtain ⟨a, rs, rfl⟩ := ht.cons
  obtain ⟨i, rfl⟩ : ∃ i, at_ = i + 1 := ⟨at_ - 1, by omega⟩
  rw [mostR] at hm ⊢
  have hm' : (mostF a rs)[i]? = some m := by simpa using hm
  have hil : i < (mostF a rs).length := (List.getElem?_eq_some_iff.mp hm').1
  have hf := ht.rows a List.mem_cons_self
  have e : readOne none (withR a 0) = a := by
    unfold readOne
    rw [with_zero, fr_blanks hf.2]
    simp
  simp only [List.take_succ_cons, List.drop_succ_cons, List.cons_append, List.zipWith_cons_cons, readRows, e]
  intro z
  refine ne_F rs a _ i m (fun q hq => ht.rows q (List.mem_cons_of_mem _ hq)) hf.1 (fun j b c hj h1 h2 => ?_) hm' ?_ hw (List.cons.inj z).2
  · rw [List.append_assoc, List.getElem?_append_left (by rw [List.length_take]; omega), List.getElem?_take, if_pos hj] at h1
    rw [h1] at h2
    cases h2
    exact Nat.le_refl _
  · rw [List.append_assoc, List.getElem?_append_right (by rw [List.length_take]; omega), List.length_take, Nat.min_eq_left (by omega), Nat.sub_self]
    rfl
theorem each_self : ∀ xs : List Nat, Each (fun m n => n ≤ m) xs xs
  | [] => .nil
  | x :: xs => .cons (Nat.le_refl _) (each_self xs)
theorem cells_most {w : Nat} : ∀ (t : List Row) (bs : List Nat), (∀ r ∈ t, r.length = w ∧ Fr r) → t.length = bs.length → (∀ n ∈ bs, n ≤ w) → ((List.zipWith withR t bs).map fun r => (r.length : Int) - blanks r).sum = (t.length : Int) * (w : Int) - (bs.map fun n : Nat => ((n : Nat) : Int)).sum
  | [], [], _, _, _ => by simp
  | [], _ :: _, _, h, _ => by simp at h
  | _ :: _, [], _, h, _ => by simp at h
  | r :: t, b :: bs, h, hl, hb => by
    have hr := h r List.mem_cons_self
    have ih := cells_most t bs (fun q hq => h q (List.mem_cons_of_mem _ hq)) (by simpa using hl) fun n hn => hb n (List.mem_cons_of_mem _ hn)
    rw [List.zipWith_cons_cons, List.map_cons, List.sum_cons, ih, blanks_with hr.2, len_with hr.1 (hb b List.mem_cons_self), List.map_cons, List.sum_cons, List.length_cons]
    push_cast
    rw [Int.add_mul]
    omega
theorem sm_vp {p : List Row} {w : Nat} (h : Vp p w) (n : Nat) : sm (n + 2) (pD p) = true := by
  have := h.hi
  have := h.wh
  show sm (n + 2) (.tup (p.map rD)) = true
  rw [sm, Bool.and_eq_true, decide_eq_true_eq]
  refine ⟨by rw [List.length_map]; omega, sms_of fun d hd => ?_⟩
  obtain ⟨r, hr, rfl⟩ := List.mem_map.mp hd
  have h1 := (h.rows r hr).len
  show sm (n + 1) (.tup (r.map cD)) = true
  rw [sm, Bool.and_eq_true, decide_eq_true_eq]
  refine ⟨by rw [List.length_map]; omega, sms_of fun d hd => ?_⟩
  obtain ⟨c, hc, rfl⟩ := List.mem_map.mp hd
  rcases vr_cells (h.rows r hr) c hc with rfl | ⟨x, rfl, hx⟩
  · cases n <;> rfl
  · have := vc_plain hx 0
    cases n <;> exact this
theorem sm_ints {bs : List Nat} (h : bs.length ≤ 60) (n : Nat) : sm (n + 1) (.lst (bs.map fun n => D.int (n : Nat))) = true := by
  rw [sm, Bool.and_eq_true, decide_eq_true_eq]
  refine ⟨by rw [List.length_map]; omega, sms_of fun d hd => ?_⟩
  obtain ⟨r, _, rfl⟩ := List.mem_map.mp hd
  cases n <;> rfl
theorem sm_two {n : Nat} {d : D} (h : sm n d = true) : sm (n + 1) (.lst [d, d]) = true := by
  rw [sm]
  simp only [sms, h, Bool.and_true]
  rfl
theorem ixD_pD {p : List Row} {i : Int} {d : D} {k : OT → Prop} (h : atI (p.map rD) i = some d) (q : k (.fz d)) : ixD (pD p) (.int i) k := ⟨d, h, q⟩
theorem more_eq {bs : List Nat} {i m : Nat} (h : i < bs.length) : cutD (bs.map fun n => D.int (n : Nat)) none (some (i : Int)) ++ [D.int ((m : Int) + 1)] ++ cutD (bs.map fun n => D.int (n : Nat)) (some ((i : Int) + 1)) none = (bs.take i ++ [m + 1] ++ bs.drop (i + 1)).map fun n => D.int (n : Nat) := by
  rw [cutD_to _ _ (by rw [List.length_map]; omega), show (i : Int) + 1 = ((i + 1 : Nat) : Int) by push_cast; rfl, cutD_from _ _ (by rw [List.length_map]; omega), List.map_append, List.map_append, List.map_take, List.map_drop]
  rfl
theorem fr_by {r : Row} (h : (r.all fun c => match c with | some x => vcB x | none => false) = true) : Fr r := by
  intro c hc
  have := List.all_eq_true.mp h c hc
  cases c with
  | none => cases this
  | some x => exact ⟨x, rfl, vc_of this⟩
theorem tb_by {t : List Row} {w : Nat} (h : (decide (1 ≤ t.length) && decide (t.length ≤ 60) && decide (1 ≤ w) && decide (w ≤ 6) && t.all fun r => decide (r.length = w) && r.all fun c => match c with | some x => vcB x | none => false) = true) : Tb t w := by
  simp only [Bool.and_eq_true, decide_eq_true_eq] at h
  obtain ⟨⟨⟨⟨h1, h2⟩, h3⟩, h4⟩, h5⟩ := h
  refine ⟨h1, h2, h3, h4, fun r hr => ?_⟩
  have := List.all_eq_true.mp h5 r hr
  rw [Bool.and_eq_true, decide_eq_true_eq] at this
  exact ⟨this.1, fr_by this.2⟩
end M21

namespace M21
open PySem L2 DL
local macro_rules | `(tactic| walk_at "dl") => `(tactic| simp only [wpSs_nil, wpSs_cons, wpS_asg, wpS_asgT, wpS_par, wpS_expr, wpS_ret, wpS_if, wpS_brk, wpS_cnt, wpS_pass, wpS_raise, wpS_for, wpS_while, wpE_lc, wpS.eq_4, wpS.eq_6, wpE.eq_1, wpE.eq_2, wpE.eq_3, wpE.eq_4, wpE.eq_5, wpE.eq_6, wpE.eq_7, wpE.eq_8, wpE.eq_9, wpE.eq_10, wpE.eq_11, wpE.eq_12, wpE.eq_13, wpE.eq_14, wpE.eq_15, wpE.eq_16, wpE.eq_17, wpE.eq_18, wpE.eq_19, wpE.eq_21, wpE.eq_22, wpE.eq_23, wpE.eq_24, wpE.eq_25, wpE.eq_26, wpE.eq_27, wpE.eq_28, wpE.eq_29, wpE.eq_30, wpE.eq_31, wpE.eq_32, wpS_setkey, isB_bl, lstO, tyM, slotsD, D.flat, wpOs, wpA, wpX, wpC, wpI, isVar, isNop, asO, asP, asB_bl, asI_int, Opd.fl, Opd.ob, Opd.at, flat_fz, flat_lst, flat_nil, fzs_map, fzs_nil, osw_some, permS_run, prm_10, prm_102, prm_201, prm_120, prm_210, augD_addI, augD_subI, augD_mulI, augD_fdivI, augD_modI, binD_addI, binD_subI, binD_mulI, binD_fdivI, binD_modI, binD_powI, binD_addT, binD_addL, binD_addS, binD_mulT, binD_mulL, cmpD, ltD_I, ltD_S, leD_I, inD_L, inD_T, inD_S, ix_T, ix_L, ix_R, ix_S, sl_T, sl_L, sl_S, rev_T, rev_L, len_T, len_L, len_S, len_R, tuple_L, tuple_T, list_L, list_T, sum_L, all_L, any_L, max_I, min_I, abs_I, int_I, int_B, mc_app, isi_non, isi_bl, isi_int, isi_str, isi_tup, isi_lst, TyS.int?, TyS.bool?, TyS.str?, TyS.tup?, TyS.lst?, bindT, bindTs, putG, lstAt, lstAt2, toD_fz, toD_lst, toDs_fz, toDs_nil, toDs_cons, seq_T, seq_L, isNon_non, isNon_tup, isNon_lst, isNon_str, isNon_int, isNon_bl, wipeG, Tg.slots, Tg.slotss,
   List.getElem?_cons_zero, List.getElem?_cons_succ, List.set_cons_zero, List.set_cons_succ, Option.join_some, Option.bind_some, Option.map_some, Option.isSome_some, List.length_cons, List.length_nil, List.length_map, List.map_cons, List.map_nil, List.nil_append, List.cons_append, if_true, Bool.false_eq_true, if_false, true_and, and_true, Nat.zero_add, Nat.zero_le, Nat.zero_lt_succ, Nat.reduceLT, Nat.reduceAdd, Nat.reduceLeDiff, Nat.lt_add_one, Bool.not_true, Bool.not_false, decide_true, decide_false, List.forall_mem_cons, List.not_mem_nil, false_implies, implies_true, forall_eq])
/-! ### tables: the program's own defs -/
theorem Tb.q {t : List Row} {w : Nat} (h : Tb t w) : Vq t w := (vp_fr h).q
theorem zip_pairs2 (f : D → D) (g : Row → Row → Nat) (hf : ∀ a b : Row, f (.tup [rD a, rD b]) = .int (g b a : Nat)) : ∀ (a : Row) (rs : List Row), (zipD ((a :: rs).map rD) (rs.map rD)).map f = (List.zipWith (fun r s => D.int ((g r s : Nat) : Int)) rs (a :: rs))
  | a, [] => rfl
  | a, r :: rs => by
    have ih := zip_pairs2 f g hf r rs
    simp only [List.map_cons, zipD, List.zipWith_cons_cons, hf] at ih ⊢
    rw [ih]
/-- a table as a tuple or as a list -/
def shared_inS (ce : Nat) : Spc where
  run := fun ds k _ => ∃ (d : D) (t : List Row) (w : Nat), ds = [d] ∧ (d = pD t ∨ d = .lst (t.map rD)) ∧ Tb t w ∧ k (.lst (((mostR t).map fun n => D.int (n : Nat)).map .fz))
  ce := ce
  ar := 1
def with_blanksS (ce : Nat) : Spc where
  run := fun ds k _ => ∃ (r : Row) (n : Nat), ds = [rD r, .int (n : Nat)] ∧ n ≤ r.length ∧ r.length < 1000 ∧ k (.fz (rD (withR r n)))
  ce := ce
  ar := 2
abbrev S_ta (c : Nat) : Spc := tabS c fun _ => .fz (.bl true)
abbrev S_rt (c : Nat) : Spc := tabS c fun _ => .fz .non
abbrev S_sh (c : Nat) : Spc := tabS c fun t => .lst (((mostR t).map fun n => D.int (n : Nat)).map .fz)
abbrev S_pr (c : Nat) : Spc := tabS c fun t => .fz (pD (List.zipWith withR t (mostR t)))
end M21

namespace M21
open PySem L2 DL
local macro_rules | `(tactic| walk_at "dl") => `(tactic| simp only [wpSs_nil, wpSs_cons, wpS_asg, wpS_asgT, wpS_par, wpS_expr, wpS_ret, wpS_if, wpS_brk, wpS_cnt, wpS_pass, wpS_raise, wpS_for, wpS_while, wpE_lc, wpS.eq_4, wpS.eq_6, wpE.eq_1, wpE.eq_2, wpE.eq_3, wpE.eq_4, wpE.eq_5, wpE.eq_6, wpE.eq_7, wpE.eq_8, wpE.eq_9, wpE.eq_10, wpE.eq_11, wpE.eq_12, wpE.eq_13, wpE.eq_14, wpE.eq_15, wpE.eq_16, wpE.eq_17, wpE.eq_18, wpE.eq_19, wpE.eq_21, wpE.eq_22, wpE.eq_23, wpE.eq_24, wpE.eq_25, wpE.eq_26, wpE.eq_27, wpE.eq_28, wpE.eq_29, wpE.eq_30, wpE.eq_31, wpE.eq_32, wpS_setkey, isB_bl, lstO, tyM, slotsD, D.flat, wpOs, wpA, wpX, wpC, wpI, isVar, isNop, asO, asP, asB_bl, asI_int, Opd.fl, Opd.ob, Opd.at, flat_fz, flat_lst, flat_nil, fzs_map, fzs_nil, osw_some, permS_run, prm_10, prm_102, prm_201, prm_120, prm_210, augD_addI, augD_subI, augD_mulI, augD_fdivI, augD_modI, binD_addI, binD_subI, binD_mulI, binD_fdivI, binD_modI, binD_powI, binD_addT, binD_addL, binD_addS, binD_mulT, binD_mulL, cmpD, ltD_I, ltD_S, leD_I, inD_L, inD_T, inD_S, ix_T, ix_L, ix_R, ix_S, sl_T, sl_L, sl_S, rev_T, rev_L, len_T, len_L, len_S, len_R, tuple_L, tuple_T, list_L, list_T, sum_L, all_L, any_L, max_I, min_I, abs_I, int_I, int_B, mc_app, isi_non, isi_bl, isi_int, isi_str, isi_tup, isi_lst, TyS.int?, TyS.bool?, TyS.str?, TyS.tup?, TyS.lst?, bindT, bindTs, putG, lstAt, lstAt2, toD_fz, toD_lst, toDs_fz, toDs_nil, toDs_cons, seq_T, seq_L, isNon_non, isNon_tup, isNon_lst, isNon_str, isNon_int, isNon_bl, wipeG, Tg.slots, Tg.slotss,
   List.getElem?_cons_zero, List.getElem?_cons_succ, List.set_cons_zero, List.set_cons_succ, Option.join_some, Option.bind_some, Option.map_some, Option.isSome_some, List.length_cons, List.length_nil, List.length_map, List.map_cons, List.map_nil, List.nil_append, List.cons_append, if_true, Bool.false_eq_true, if_false, true_and, and_true, Nat.zero_add, Nat.zero_le, Nat.zero_lt_succ, Nat.reduceLT, Nat.reduceAdd, Nat.reduceLeDiff, Nat.lt_add_one, Bool.not_true, Bool.not_false, decide_true, decide_false, List.forall_mem_cons, List.not_mem_nil, false_implies, implies_true, forall_eq])
/-! ### numbers of pages -/
def prodR : List Nat → Int
  | [] => 1
  | m :: ms => ((m : Int) + 1) * prodR ms
theorem prodR_pos : ∀ ms : List Nat, 0 < prodR ms
  | [] => by decide
  | m :: ms => by
    rw [prodR]
    exact Int.mul_pos (by omega) (prodR_pos ms)
theorem prodR_app : ∀ (a b : List Nat), prodR (a ++ b) = prodR a * prodR b
  | [], b => by simp [prodR]
  | m :: a, b => by
    rw [List.cons_append, prodR, prodR, prodR_app a b, Int.mul_assoc]
theorem prodR_rev (ms : List Nat) : prodR ms.reverse = prodR ms := by
  induction ms with
  | nil => rfl
  | cons m ms ih =>
    rw [List.reverse_cons, prodR_app, ih, prodR, prodR, prodR, Int.mul_one, Int.mul_comm]
/-- the digits of a number, the last first -/
def digR : List Nat → Int → List Nat
  | [], _ => []
  | m :: ms, n => (n % ((m : Int) + 1)).toNat :: digR ms (n / ((m : Int) + 1))
def dig (ms : List Nat) (n : Int) : List Nat := (digR ms.reverse n).reverse
theorem digR_len : ∀ (ms : List Nat) (n : Int), (digR ms n).length = ms.length
  | [], _ => rfl
  | m :: ms, n => by rw [digR, List.length_cons, List.length_cons, digR_len ms]
theorem dig_len (ms : List Nat) (n : Int) : (dig ms n).length = ms.length := by
  unfold dig
  rw [List.length_reverse, digR_len, List.length_reverse]
/-- the number of digits, the last first -/
def valR : List Nat → List Nat → Int
  | m :: ms, b :: bs => valR ms bs * ((m : Int) + 1) + (b : Int)
  | _, _ => 0
def hor : Int → List Nat → List Nat → Int
  | a, m :: ms, b :: bs => hor (a * ((m : Int) + 1) + (b : Int)) ms bs
  | a, _, _ => a
theorem hor_snoc : ∀ (ms bs : List Nat) (a : Int) (m b : Nat), ms.length = bs.length → hor a (ms ++ [m]) (bs ++ [b]) = hor a ms bs * ((m : Int) + 1) + (b : Int)
  | [], [], a, m, b, _ => by simp [hor]
  | [], _ :: _, _, _, _, h => by simp at h
  | _ :: _, [], _, _, _, h => by simp at h
  | x :: ms, y :: bs, a, m, b, h => by
    rw [List.cons_append, List.cons_append, hor, hor, hor_snoc ms bs _ m b (by simpa using h)]
theorem hor_val : ∀ (ms bs : List Nat), ms.length = bs.length → hor 0 ms.reverse bs.reverse = valR ms bs
  | [], [], _ => rfl
  | [], _ :: _, h => by simp at h
  | _ :: _, [], h => by simp at h
  | m :: ms, b :: bs, h => by
    have h' : ms.length = bs.length := by simpa using h
    rw [List.reverse_cons, List.reverse_cons, hor_snoc _ _ _ _ _ (by rw [List.length_reverse, List.length_reverse, h']), hor_val ms bs h', valR]
theorem val_dig : ∀ (ms : List Nat) (n : Int), 0 ≤ n → n < prodR ms → valR ms (digR ms n) = n
  | [], n, h0, h1 => by
    have : n < 1 := h1
    show (0 : Int) = n
    omega
  | m :: ms, n, h0, h1 => by
    have hm : (0 : Int) < (m : Int) + 1 := by omega
    have h2 : n / ((m : Int) + 1) < prodR ms := by
      refine Int.ediv_lt_of_lt_mul hm ?_
      rw [Int.mul_comm]
      exact h1
    have h3 := Int.emod_nonneg n (show ((m : Int) + 1) ≠ 0 by omega)
    rw [digR, valR, val_dig ms _ (Int.ediv_nonneg h0 (by omega)) h2, Int.toNat_of_nonneg h3]
    rw [Int.mul_comm]
    exact Int.mul_ediv_add_emod n _
theorem hor_dig {ms : List Nat} {n : Int} (h0 : 0 ≤ n) (h1 : n < prodR ms) : hor 0 ms (dig ms n) = n := by
  have := hor_val ms.reverse (digR ms.reverse n) (digR_len _ _).symm
  rw [List.reverse_reverse] at this
  unfold dig
  rw [this, val_dig _ _ h0 (by rw [prodR_rev]; exact h1)]
theorem each_digR : ∀ (ms : List Nat) (n : Int), Each (fun m n => n ≤ m) ms (digR ms n)
  | [], _ => .nil
  | m :: ms, n => .cons (by have := Int.emod_lt_of_pos n (show (0 : Int) < (m : Int) + 1 by omega); omega) (each_digR ms _)
theorem each_rev {α β : Type} {R : α → β → Prop} {as : List α} {bs : List β} (h : Each R as bs) : Each R as.reverse bs.reverse := by
  induction h with
  | nil => exact .nil
  | cons q _ ih =>
    rw [List.reverse_cons, List.reverse_cons]
    exact each_snoc ih q
theorem each_dig (ms : List Nat) (n : Int) : Each (fun m n => n ≤ m) ms (dig ms n) := by
  have := each_rev (each_digR ms.reverse n)
  rwa [List.reverse_reverse] at this
theorem digR_zero : ∀ ms : List Nat, digR ms 0 = List.replicate ms.length 0
  | [] => rfl
  | m :: ms => by
    rw [digR, Int.zero_emod, Int.zero_ediv, digR_zero ms, List.length_cons, List.replicate_succ]
    rfl
theorem dig_zero (ms : List Nat) : dig ms 0 = List.replicate ms.length 0 := by
  unfold dig
  rw [digR_zero, List.reverse_replicate, List.length_reverse]
theorem digR_last : ∀ ms : List Nat, digR ms (prodR ms - 1) = ms
  | [] => rfl
  | m :: ms => by
    have hp := prodR_pos ms
    have hm : (0 : Int) < (m : Int) + 1 := by omega
    have e : ((m : Int) + 1) * prodR ms - 1 = (m : Int) + ((m : Int) + 1) * (prodR ms - 1) := by
      rw [Int.mul_sub, Int.mul_one]
      omega
    rw [digR, prodR, e, Int.add_mul_emod_self_left, Int.add_mul_ediv_left _ _ (by omega), Int.emod_eq_of_lt (by omega) (by omega), Int.ediv_eq_zero_of_lt (by omega) (by omega), Int.zero_add, digR_last ms, Int.toNat_natCast]
theorem dig_last (ms : List Nat) : dig ms (prodR ms - 1) = ms := by
  unfold dig
  rw [← prodR_rev, digR_last, List.reverse_reverse]
def is_integerS (ce : Nat) : Spc where
  run := fun ds k _ => ∃ (v lo hi : Int), ds = [.int v, .int lo, .int hi] ∧ k (.fz (.bl (decide (lo ≤ v) && decide (v ≤ hi))))
  ce := ce
  ar := 3
theorem m_is_integer {ds : List D} {k : OT → Prop} {x : Ex → Prop} (h : (is_integerS 0).run ds k x) : (rawS 3 3 sb_is_integer).run ds k x := by
  obtain ⟨v, lo, hi, rfl, h⟩ := h
  refine ⟨rfl, ?_⟩
  show wpSs _ sb_is_integer [some (.fz (.int v)), some (.fz (.int lo)), some (.fz (.int hi))] _
  unfold sb_is_integer
  walk_at "dl"
  by_cases hl : lo ≤ v
  · rw [if_pos (decide_eq_true hl)]
    rw [decide_eq_true hl, Bool.true_and] at h
    exact h
  · rw [if_neg (by rw [decide_eq_false hl]; decide)]
    rw [decide_eq_false hl, Bool.false_and] at h
    exact h
abbrev S_nu (c : Nat) : Spc := tabS c fun t => .fz (.int (prodR (mostR t)))
def nth_pageS (ce : Nat) : Spc where
  run := fun ds k _ => ∃ (t : List Row) (w : Nat) (n : Int), ds = [pD t, .int n] ∧ Tb t w ∧ 0 ≤ n ∧ n < prodR (mostR t) ∧ k (.fz (pD (List.zipWith withR t (dig (mostR t) n))))
  ce := ce
  ar := 2
def page_numberS (ce : Nat) : Spc where
  run := fun ds k _ => ∃ (t : List Row) (w : Nat) (bs : List Nat), ds = [pD (List.zipWith withR t bs)] ∧ Tb t w ∧ Each (fun m n => n ≤ m) (mostR t) bs ∧ k (.fz (.int (hor 0 (mostR t) bs)))
  ce := ce
  ar := 1
end M21

namespace M21
open PySem L2 DL
local macro_rules | `(tactic| walk_at "dl") => `(tactic| simp only [wpSs_nil, wpSs_cons, wpS_asg, wpS_asgT, wpS_par, wpS_expr, wpS_ret, wpS_if, wpS_brk, wpS_cnt, wpS_pass, wpS_raise, wpS_for, wpS_while, wpE_lc, wpS.eq_4, wpS.eq_6, wpE.eq_1, wpE.eq_2, wpE.eq_3, wpE.eq_4, wpE.eq_5, wpE.eq_6, wpE.eq_7, wpE.eq_8, wpE.eq_9, wpE.eq_10, wpE.eq_11, wpE.eq_12, wpE.eq_13, wpE.eq_14, wpE.eq_15, wpE.eq_16, wpE.eq_17, wpE.eq_18, wpE.eq_19, wpE.eq_21, wpE.eq_22, wpE.eq_23, wpE.eq_24, wpE.eq_25, wpE.eq_26, wpE.eq_27, wpE.eq_28, wpE.eq_29, wpE.eq_30, wpE.eq_31, wpE.eq_32, wpS_setkey, isB_bl, lstO, tyM, slotsD, D.flat, wpOs, wpA, wpX, wpC, wpI, isVar, isNop, asO, asP, asB_bl, asI_int, Opd.fl, Opd.ob, Opd.at, flat_fz, flat_lst, flat_nil, fzs_map, fzs_nil, osw_some, permS_run, prm_10, prm_102, prm_201, prm_120, prm_210, augD_addI, augD_subI, augD_mulI, augD_fdivI, augD_modI, binD_addI, binD_subI, binD_mulI, binD_fdivI, binD_modI, binD_powI, binD_addT, binD_addL, binD_addS, binD_mulT, binD_mulL, cmpD, ltD_I, ltD_S, leD_I, inD_L, inD_T, inD_S, ix_T, ix_L, ix_R, ix_S, sl_T, sl_L, sl_S, rev_T, rev_L, len_T, len_L, len_S, len_R, tuple_L, tuple_T, list_L, list_T, sum_L, all_L, any_L, max_I, min_I, abs_I, int_I, int_B, mc_app, isi_non, isi_bl, isi_int, isi_str, isi_tup, isi_lst, TyS.int?, TyS.bool?, TyS.str?, TyS.tup?, TyS.lst?, bindT, bindTs, putG, lstAt, lstAt2, toD_fz, toD_lst, toDs_fz, toDs_nil, toDs_cons, seq_T, seq_L, isNon_non, isNon_tup, isNon_lst, isNon_str, isNon_int, isNon_bl, wipeG, Tg.slots, Tg.slotss,
   List.getElem?_cons_zero, List.getElem?_cons_succ, List.set_cons_zero, List.set_cons_succ, Option.join_some, Option.bind_some, Option.map_some, Option.isSome_some, List.length_cons, List.length_nil, List.length_map, List.map_cons, List.map_nil, List.nil_append, List.cons_append, if_true, Bool.false_eq_true, if_false, true_and, and_true, Nat.zero_add, Nat.zero_le, Nat.zero_lt_succ, Nat.reduceLT, Nat.reduceAdd, Nat.reduceLeDiff, Nat.lt_add_one, Bool.not_true, Bool.not_false, decide_true, decide_false, List.forall_mem_cons, List.not_mem_nil, false_implies, implies_true, forall_eq])
/-! ### the crate family: tables, leaves, orders drawn -/
def _law_fullS (ce : Nat) : Spc where
  run := fun ds k _ => ∃ (a : Addr) (most : Int), ds = [.opq 1 a, .int most] ∧ 1 ≤ most ∧ most ≤ 60 ∧ ∀ (t : List Row) (w : Nat), Tb t w → (t.length : Int) ≤ most → k (.fz (pD t))
  ce := ce
  ar := 2
def shareS (ce : Nat) : Spc where
  run := fun ds k _ => ∃ a b : Row, ds = [rD a, rD b] ∧ a.length < 1000 ∧ b.length < 1000 ∧ Fr a ∧ Fr b ∧ k (.fz (.int (shr a b)))
  ce := ce
  ar := 2
theorem shr_cons (x y : Option Str) (a b : Row) : shr (x :: a) (y :: b) = if x = y then shr a b + 1 else 0 := by rw [shr]
theorem mostF_nil : ∀ t : List Row, t ≠ [] → mostF [] t = mostR t
  | [], h => absurd rfl h
  | a :: rs, _ => by
    rw [mostF, mostR]
    cases a <;> rfl
def _law_leafS (ce : Nat) : Spc where
  run := fun ds k _ => ∃ (a : Addr) (t : List Row) (w : Nat), ds = [.opq 1 a, pD t] ∧ Tb t w ∧ ∀ cs : List Nat, Each (fun m n => n ≤ m) (mostR t) cs → k (.fz (pD (List.zipWith withR t cs)))
  ce := ce
  ar := 2
/-! orders -/
def oD (ord : List Nat) : D := .tup (ord.map fun n => D.int ((n : Nat) : Int))
theorem range_ints (n : Nat) : rangeD 0 (n : Int) = (List.range n).map fun i : Nat => D.int (i : Int) := by
  unfold rangeD
  rw [show ((n : Int) - 0).toNat = n by omega]
  exact List.map_congr_left fun i _ => by rw [Int.zero_add]
theorem ints_len (ord : List Nat) : (ord.map fun n => D.int ((n : Nat) : Int)).length = ord.length := List.length_map _
theorem erase_perm {l : List Nat} {j : Nat} {y : Nat} (h : l[j]? = some y) : (y :: l.eraseIdx j).Perm l := by
  induction l generalizing j with
  | nil => simp at h
  | cons x l ih =>
    cases j with
    | zero =>
      simp at h
      subst h
      exact List.Perm.refl _
    | succ j =>
      rw [List.eraseIdx_cons_succ]
      exact (List.Perm.swap x y _).trans ((ih (by simpa using h)).cons x)
def _law_shuffledS (ce : Nat) : Spc where
  run := fun ds k _ => ∃ (a : Addr) (n : Nat), ds = [.opq 1 a, .int (n : Nat)] ∧ 1 ≤ n ∧ n ≤ 60 ∧ ∀ ord : List Nat, ord.Perm (List.range n) → k (.fz (oD ord))
  ce := ce
  ar := 2
theorem map_erase {α β : Type} (f : α → β) : ∀ (l : List α) (j : Nat), (l.eraseIdx j).map f = (l.map f).eraseIdx j
  | [], j => by simp
  | x :: l, 0 => by simp
  | x :: l, j + 1 => by rw [List.eraseIdx_cons_succ, List.map_cons, List.map_cons, List.eraseIdx_cons_succ, map_erase f l j]
theorem plain_oi (n : Nat) : ∀ bs : List Nat, D.plains n (bs.map fun n => D.int ((n : Nat) : Int)) = true
  | [] => by cases n <;> rfl
  | b :: bs => by rw [List.map_cons, D.plains, plain_oi n bs, plain_int]; rfl
theorem popI {l : List Nat} {q : Int} {k : D → List D → Prop} (h0 : 0 ≤ q) (h1 : q < (l.length : Int)) (hl : l.length ≤ 60) (h : ∀ (y : Nat), l[q.toNat]? = some y → k (.int (y : Nat)) ((l.eraseIdx q.toNat).map fun n => D.int ((n : Nat) : Int))) :
    mcD .popAt (l.map fun n => D.int ((n : Nat) : Int)) [.int q] k := by
  have hq : q.toNat < l.length := by omega
  refine ⟨by rw [List.length_map]; have := LIMe; omega, q.toNat, .int ((l[q.toNat] : Nat) : Int), ?_, by rw [List.getElem?_map, List.getElem?_eq_getElem hq]; rfl, ?_⟩
  · unfold ixN
    rw [List.length_map, if_pos h0, if_pos h1]
  · have := h _ (List.getElem?_eq_getElem hq)
    rwa [map_erase] at this
end M21

namespace M21
open PySem L2 DL
local macro_rules | `(tactic| walk_at "dl") => `(tactic| simp only [wpSs_nil, wpSs_cons, wpS_asg, wpS_asgT, wpS_par, wpS_expr, wpS_ret, wpS_if, wpS_brk, wpS_cnt, wpS_pass, wpS_raise, wpS_for, wpS_while, wpE_lc, wpS.eq_4, wpS.eq_6, wpE.eq_1, wpE.eq_2, wpE.eq_3, wpE.eq_4, wpE.eq_5, wpE.eq_6, wpE.eq_7, wpE.eq_8, wpE.eq_9, wpE.eq_10, wpE.eq_11, wpE.eq_12, wpE.eq_13, wpE.eq_14, wpE.eq_15, wpE.eq_16, wpE.eq_17, wpE.eq_18, wpE.eq_19, wpE.eq_21, wpE.eq_22, wpE.eq_23, wpE.eq_24, wpE.eq_25, wpE.eq_26, wpE.eq_27, wpE.eq_28, wpE.eq_29, wpE.eq_30, wpE.eq_31, wpE.eq_32, wpS_setkey, isB_bl, lstO, tyM, slotsD, D.flat, wpOs, wpA, wpX, wpC, wpI, isVar, isNop, asO, asP, asB_bl, asI_int, Opd.fl, Opd.ob, Opd.at, flat_fz, flat_lst, flat_nil, fzs_map, fzs_nil, osw_some, permS_run, prm_10, prm_102, prm_201, prm_120, prm_210, augD_addI, augD_subI, augD_mulI, augD_fdivI, augD_modI, binD_addI, binD_subI, binD_mulI, binD_fdivI, binD_modI, binD_powI, binD_addT, binD_addL, binD_addS, binD_mulT, binD_mulL, cmpD, ltD_I, ltD_S, leD_I, inD_L, inD_T, inD_S, ix_T, ix_L, ix_R, ix_S, sl_T, sl_L, sl_S, rev_T, rev_L, len_T, len_L, len_S, len_R, tuple_L, tuple_T, list_L, list_T, sum_L, all_L, any_L, max_I, min_I, abs_I, int_I, int_B, mc_app, isi_non, isi_bl, isi_int, isi_str, isi_tup, isi_lst, TyS.int?, TyS.bool?, TyS.str?, TyS.tup?, TyS.lst?, bindT, bindTs, putG, lstAt, lstAt2, toD_fz, toD_lst, toDs_fz, toDs_nil, toDs_cons, seq_T, seq_L, isNon_non, isNon_tup, isNon_lst, isNon_str, isNon_int, isNon_bl, wipeG, Tg.slots, Tg.slotss,
   List.getElem?_cons_zero, List.getElem?_cons_succ, List.set_cons_zero, List.set_cons_succ, Option.join_some, Option.bind_some, Option.map_some, Option.isSome_some, List.length_cons, List.length_nil, List.length_map, List.map_cons, List.map_nil, List.nil_append, List.cons_append, if_true, Bool.false_eq_true, if_false, true_and, and_true, Nat.zero_add, Nat.zero_le, Nat.zero_lt_succ, Nat.reduceLT, Nat.reduceAdd, Nat.reduceLeDiff, Nat.lt_add_one, Bool.not_true, Bool.not_false, decide_true, decide_false, List.forall_mem_cons, List.not_mem_nil, false_implies, implies_true, forall_eq])
/-! ### orders judged -/
theorem int_le (a b : Nat) : PySem.W.dataLe false D.py (.int (a : Int)) (.int (b : Int)) = decide (a ≤ b) := by
  show (!PyProof.Rows.lexLt PyProof.Rows.itemOrd [.inl (b : Int)] [.inl (a : Int)]) = _
  by_cases e : b = a
  · subst e
    rw [PyProof.Rows.lex_irrefl]
    simp
  · rw [PyProof.Rows.lex_diff (fun z => e (by have := Sum.inl.inj z; omega))]
    show (!decide ((b : Int) < (a : Int))) = _
    by_cases h : a ≤ b
    · rw [decide_eq_true h, decide_eq_false (by omega)]; rfl
    · rw [decide_eq_false h, decide_eq_true (by omega)]; rfl
theorem sort_ord {n : Nat} {ord : List Nat} (h : ord.Perm (List.range n)) : sortD (ord.map fun n => D.int ((n : Nat) : Int)) = (List.range n).map fun n => D.int ((n : Nat) : Int) := by
  have e : sortD (ord.map fun n => D.int ((n : Nat) : Int)) = (ord.mergeSort fun a b => decide (a ≤ b)).map fun n => D.int ((n : Nat) : Int) := by
    unfold sortD
    exact (List.map_mergeSort (r := fun a b : Nat => decide (a ≤ b)) (s := PySem.W.dataLe false D.py) (f := fun n : Nat => D.int ((n : Nat) : Int)) (fun a _ b _ => (int_le a b).symm)).symm
  rw [e]
  congr 1
  refine List.Perm.eq_of_pairwise (le := fun a b => a ≤ b) (fun a b _ _ h1 h2 => Nat.le_antisymm h1 h2) ?_ ?_ ((List.mergeSort_perm _ _).trans h)
  · have := List.pairwise_mergeSort (le := fun a b : Nat => decide (a ≤ b)) (fun a b c h1 h2 => by simp at *; omega) (fun a b => by simp; omega) ord
    exact this.imp fun h => by simpa using h
  · exact List.pairwise_le_range
theorem alike_int (a b : Nat) : PySem.W.alike (D.py (.int (a : Int))) (D.py (.int (b : Int))) = true := rfl
theorem srt_ints (ord : List Nat) : srtOk (ord.map fun n => D.int ((n : Nat) : Int)) := by
  refine ⟨?_, .inr ?_, plain_oi 20 ord⟩
  · intro d hd d' hd'
    rw [List.map_map] at hd hd'
    obtain ⟨a, _, rfl⟩ := List.mem_map.mp hd
    obtain ⟨b, _, rfl⟩ := List.mem_map.mp hd'
    exact alike_int a b
  · intro d hd
    rw [List.map_map] at hd
    obtain ⟨a, _, rfl⟩ := List.mem_map.mp hd
    show PyData.int _ ≠ .none ∧ ∀ xs, PyData.int _ ≠ .tuple xs
    exact ⟨(fun z => by cases z), (fun xs z => by cases z)⟩
def ordS (ce : Nat) (v : OT) : Spc where
  run := fun ds k _ => ∃ (n : Nat) (ord : List Nat), ds = [.int (n : Nat), oD ord] ∧ ord.Perm (List.range n) ∧ n ≤ 60 ∧ k v
  ce := ce
  ar := 2
theorem m_is_order_of {ds : List D} {k : OT → Prop} {x : Ex → Prop} {c1 : Nat} (h : (ordS 0 (.fz (.bl true))).run ds k x) : (rawS 3 2 (sb_is_order_of (is_integerS c1))).run ds k x := by
  obtain ⟨n, ord, rfl, hp, hn, h⟩ := h
  refine ⟨rfl, ?_⟩
  show wpSs _ (sb_is_order_of _) [some (.fz (.int (n : Nat))), some (.fz (.tup (ord.map fun n => D.int ((n : Nat) : Int)))), none] _
  unfold sb_is_order_of
  have hlen := hp.length_eq
  rw [List.length_range] at hlen
  refine cut_at fun R hR => ?_
  walk_at "dl"
  refine lc_map (fun _ => .bl true) rfl (by rw [List.length_map]; have := LIMe; omega) (fun d hd kk hk => ?_) fun Δ hΔ => ?_
  · obtain ⟨i, hi, rfl⟩ := List.mem_map.mp hd
    have hin := List.mem_range.mp (hp.mem_iff.mp hi)
    try walk_at "dl"
    refine ⟨(i : Int), 0, (n : Int) - 1, rfl, ?_⟩
    rw [decide_eq_true (show (0 : Int) ≤ (i : Int) by omega), decide_eq_true (show (i : Int) ≤ (n : Int) - 1 by omega)]
    exact hk _ rfl
  · rw [hΔ]
    try walk_at "dl"
    refine ⟨_, bools_map (fun _ => .bl true) (fun _ => true) _ fun _ _ => rfl, ?_⟩
    rw [all_true]
    try walk_at "dl"
    subst hR
    try walk_at "dl"
    refine ⟨_, rfl, srt_ints ord, ?_⟩
    try walk_at "dl"
    refine ⟨(n : Int), rfl, by omega, by omega, ?_⟩
    try walk_at "dl"
    rw [sort_ord hp, range_ints]
    have hpl : D.plain DEEP (.lst ((List.range n).map fun n => D.int ((n : Nat) : Int))) = true := plain_oi 23 _
    refine ⟨hpl, hpl, ?_⟩
    rw [eqv_self 24 _ hpl]
    exact h
theorem m_require_order {ds : List D} {k : OT → Prop} {x : Ex → Prop} {c1 : Nat} (h : (ordS 0 (.fz .non)).run ds k x) : (rawS 2 2 (sb_require_order (ordS c1 (.fz (.bl true))))).run ds k x := by
  obtain ⟨n, ord, rfl, hp, hn, h⟩ := h
  refine ⟨rfl, ?_⟩
  show wpSs _ (sb_require_order _) [some (.fz (.int (n : Nat))), some (.fz (oD ord))] _
  unfold sb_require_order
  walk_at "dl"
  refine ⟨n, ord, rfl, hp, hn, ?_⟩
  try walk_at "dl"
  exact h
/-- a page and an order of its rows -/
def poS (ce : Nat) (f : List Row → List Nat → OT) : Spc where
  run := fun ds k _ => ∃ (p : List Row) (w : Nat) (ord : List Nat), ds = [pD p, oD ord] ∧ Vp p w ∧ ord.Perm (List.range p.length) ∧ k (f p ord)
  ce := ce
  ar := 2
def partD (p : List Row) : D := .tup [.lst ((p.map blanks).map fun n => D.int ((n : Nat) : Int)), .lst ((readRows none p).map rD)]
theorem m_shared_by {ds : List D} {k : OT → Prop} {x : Ex → Prop} (h : (shareS 0).run ds k x) : (rawS 3 2 sb_shared_by).run ds k x := by
  obtain ⟨a, b, rfl, hla, hlb, fa, fb, h⟩ := h
  refine ⟨rfl, ?_⟩
  show wpSs _ sb_shared_by [some (.fz (.tup (a.map cD))), some (.fz (.tup (b.map cD))), none] _
  unfold sb_shared_by
  try walk_at "dl"
  have hs := shr_le a b
  refine ⟨1001, by decide, wh_inv (fun m Γ => ∃ i : Nat, i + m = shr a b ∧ Γ = [some (.fz (.tup (a.map cD))), some (.fz (.tup (b.map cD))), some (.fz (.int (i : Int)))]) _ (shr a b) _ (by omega) ⟨0, by omega, rfl⟩ ?_⟩
  rintro m Γ kk ⟨i, hi, rfl⟩ again
  try walk_at "dl"
  by_cases hlt2 : (i : Int) < (a.length : Int)
  · rw [decide_eq_true hlt2, if_pos rfl]
    by_cases hlt3 : (i : Int) < (b.length : Int)
    · have i1 : i < a.length := by omega
      have i2 : i < b.length := by omega
      rw [decide_eq_true hlt3, if_pos rfl]
      refine ⟨cD a[i], atI_nat (by rw [List.getElem?_map, List.getElem?_eq_getElem i1]; rfl), ?_⟩
      try walk_at "dl"
      refine ⟨cD b[i], atI_nat (by rw [List.getElem?_map, List.getElem?_eq_getElem i2]; rfl), ?_⟩
      try walk_at "dl"
      refine ⟨fr_plain fa _ _ (List.getElem_mem i1), fr_plain fb _ _ (List.getElem_mem i2), ?_⟩
      rw [eqv_cD]
      cases m with
      | zero =>
        have e : i = shr a b := by omega
        have hne : ¬ a[i] = b[i] := fun z => by
          refine shr_ne a b (by omega) (by omega) ?_
          rw [← e, List.getElem?_eq_getElem i1, List.getElem?_eq_getElem i2, z]
        rw [decide_eq_false hne]
        try walk_at "dl"
        rw [e]
        exact h
      | succ m =>
        have he : a[i] = b[i] := by
          have := shr_get a b i (by omega)
          rw [List.getElem?_eq_getElem i1, List.getElem?_eq_getElem i2] at this
          exact Option.some.inj this
        rw [decide_eq_true he]
        try walk_at "dl"
        exact again m _ (by omega) ⟨i + 1, by omega, by simp⟩
    · rw [decide_eq_false hlt3]
      try walk_at "dl"
      rw [show i = shr a b by omega]
      exact h
  · rw [decide_eq_false hlt2]
    try walk_at "dl"
    rw [show i = shr a b by omega]
    exact h
/-! ### what is printed, what stays -/
def bAt (p : List Row) (i : Nat) : Nat := ((p.map blanks)[i]?).getD 0
def fAt (p : List Row) (i : Nat) : Row := ((readRows none p)[i]?).getD []
def keptAt (p : List Row) (up : Row) (i : Nat) : Nat := min (bAt p i) (shr (fAt p i) up)
def cntF (p : List Row) : Row → List Nat → List (Nat × Nat)
  | _, [] => []
  | up, i :: o => (bAt p i, keptAt p up i) :: cntF p (fAt p i) o
def wrF (p : List Row) : Row → List Nat → List Row
  | _, [] => []
  | up, i :: o => withR (fAt p i) (keptAt p up i) :: wrF p (fAt p i) o
def mkF (p : List Row) : Row → List Nat → List (Nat × Int)
  | _, [] => []
  | up, i :: o => (if keptAt p up i < bAt p i then [(i, (bAt p i : Int) - keptAt p up i)] else []) ++ mkF p (fAt p i) o
def prD (b : Nat × Nat) : D := .tup [.int (b.1 : Nat), .int (b.2 : Nat)]
def mkD (b : Nat × Int) : D := .tup [.int (b.1 : Nat), .int b.2]
theorem read_len : ∀ (p : List Row) (a : Option Row), (readRows a p).length = p.length
  | [], _ => rfl
  | r :: p, a => by rw [readRows, List.length_cons, List.length_cons, read_len p]
structure Ix (p : List Row) (w i : Nat) : Prop where
  lt : i < p.length
  b : (p.map blanks)[i]? = some (bAt p i)
  f : (readRows none p)[i]? = some (fAt p i)
  len : (fAt p i).length = w
  fr : Fr (fAt p i)
  bw : bAt p i ≤ w
theorem ix_of {p : List Row} {w i : Nat} (hv : Vp p w) (h : i < p.length) : Ix p w i := by
  have e1 : (p.map blanks)[i]? = some (bAt p i) := by
    unfold bAt
    rw [List.getElem?_map, List.getElem?_eq_getElem h]
    rfl
  have hl : i < (readRows none p).length := by rw [read_len]; exact h
  have e2 : (readRows none p)[i]? = some (fAt p i) := by
    unfold fAt
    rw [List.getElem?_eq_getElem hl]
    rfl
  have hr := (read_fr hv).2 _ (List.mem_of_getElem? e2)
  refine ⟨h, e1, e2, hr.1, hr.2, ?_⟩
  rw [List.getElem?_map, Option.map_eq_some_iff] at e1
  obtain ⟨r, h1, h2⟩ := e1
  have := (hv.rows r (List.mem_of_getElem? h1)).len
  have := blanks_le r
  omega
theorem ord_ix {p : List Row} {w : Nat} {ord : List Nat} (hv : Vp p w) (hp : ord.Perm (List.range p.length)) : ∀ i ∈ ord, Ix p w i := fun i hi => ix_of hv (List.mem_range.mp (hp.mem_iff.mp hi))
end M21

namespace M21
open PySem L2 DL
local macro_rules | `(tactic| walk_at "dl") => `(tactic| simp only [wpSs_nil, wpSs_cons, wpS_asg, wpS_asgT, wpS_par, wpS_expr, wpS_ret, wpS_if, wpS_brk, wpS_cnt, wpS_pass, wpS_raise, wpS_for, wpS_while, wpE_lc, wpS.eq_4, wpS.eq_6, wpE.eq_1, wpE.eq_2, wpE.eq_3, wpE.eq_4, wpE.eq_5, wpE.eq_6, wpE.eq_7, wpE.eq_8, wpE.eq_9, wpE.eq_10, wpE.eq_11, wpE.eq_12, wpE.eq_13, wpE.eq_14, wpE.eq_15, wpE.eq_16, wpE.eq_17, wpE.eq_18, wpE.eq_19, wpE.eq_21, wpE.eq_22, wpE.eq_23, wpE.eq_24, wpE.eq_25, wpE.eq_26, wpE.eq_27, wpE.eq_28, wpE.eq_29, wpE.eq_30, wpE.eq_31, wpE.eq_32, wpS_setkey, isB_bl, lstO, tyM, slotsD, D.flat, wpOs, wpA, wpX, wpC, wpI, isVar, isNop, asO, asP, asB_bl, asI_int, Opd.fl, Opd.ob, Opd.at, flat_fz, flat_lst, flat_nil, fzs_map, fzs_nil, osw_some, permS_run, prm_10, prm_102, prm_201, prm_120, prm_210, augD_addI, augD_subI, augD_mulI, augD_fdivI, augD_modI, binD_addI, binD_subI, binD_mulI, binD_fdivI, binD_modI, binD_powI, binD_addT, binD_addL, binD_addS, binD_mulT, binD_mulL, cmpD, ltD_I, ltD_S, leD_I, inD_L, inD_T, inD_S, ix_T, ix_L, ix_R, ix_S, sl_T, sl_L, sl_S, rev_T, rev_L, len_T, len_L, len_S, len_R, tuple_L, tuple_T, list_L, list_T, sum_L, all_L, any_L, max_I, min_I, abs_I, int_I, int_B, mc_app, isi_non, isi_bl, isi_int, isi_str, isi_tup, isi_lst, TyS.int?, TyS.bool?, TyS.str?, TyS.tup?, TyS.lst?, bindT, bindTs, putG, lstAt, lstAt2, toD_fz, toD_lst, toDs_fz, toDs_nil, toDs_cons, seq_T, seq_L, isNon_non, isNon_tup, isNon_lst, isNon_str, isNon_int, isNon_bl, wipeG, Tg.slots, Tg.slotss,
   List.getElem?_cons_zero, List.getElem?_cons_succ, List.set_cons_zero, List.set_cons_succ, Option.join_some, Option.bind_some, Option.map_some, Option.isSome_some, List.length_cons, List.length_nil, List.length_map, List.map_cons, List.map_nil, List.nil_append, List.cons_append, if_true, Bool.false_eq_true, if_false, true_and, and_true, Nat.zero_add, Nat.zero_le, Nat.zero_lt_succ, Nat.reduceLT, Nat.reduceAdd, Nat.reduceLeDiff, Nat.lt_add_one, Bool.not_true, Bool.not_false, decide_true, decide_false, List.forall_mem_cons, List.not_mem_nil, false_implies, implies_true, forall_eq])
/-! ### the sequence of a page, its hosts -/
def nD (n : Nat) : D := .int ((n : Nat) : Int)
def bN (bl : List Nat) (i : Nat) : Nat := (bl[i]?).getD 0
def leK (bl : List Nat) (i j : Nat) : Bool := decide (bN bl i < bN bl j) || (decide (bN bl i = bN bl j) && decide (i ≤ j))
def seqF (bl : List Nat) : List Nat := (List.range bl.length).mergeSort (leK bl)
theorem leK_iff {bl : List Nat} {i j : Nat} : leK bl i j = true ↔ bN bl i < bN bl j ∨ (bN bl i = bN bl j ∧ i ≤ j) := by
  unfold leK
  simp
theorem seq_perm (bl : List Nat) : (seqF bl).Perm (List.range bl.length) := List.mergeSort_perm _ _
theorem seq_len (bl : List Nat) : (seqF bl).length = bl.length := by rw [(seq_perm bl).length_eq, List.length_range]
theorem seq_nodup (bl : List Nat) : (seqF bl).Nodup := (seq_perm bl).nodup_iff.mpr List.nodup_range
theorem seq_mem {bl : List Nat} {i : Nat} : i ∈ seqF bl ↔ i < bl.length := by rw [(seq_perm bl).mem_iff, List.mem_range]
theorem seq_pair (bl : List Nat) : (seqF bl).Pairwise fun i j => leK bl i j = true :=
  List.pairwise_mergeSort (le := leK bl) (fun a b c h1 h2 => by rw [leK_iff] at *; omega) (fun a b => by simp only [Bool.or_eq_true, leK_iff]; omega) _
theorem seq_eq {bl l : List Nat} (h : l.Perm (List.range bl.length)) (hp : l.Pairwise fun i j => leK bl i j = true) : seqF bl = l :=
  List.Perm.eq_of_pairwise (le := fun i j => leK bl i j = true) (fun a b _ _ h1 h2 => by rw [leK_iff] at h1 h2; omega) (seq_pair bl) hp ((seq_perm bl).trans h.symm)
theorem tup_le (a i b j : Nat) : PySem.W.dataLe false D.py (.tup [nD a, nD i]) (.tup [nD b, nD j]) = (decide (a < b) || (decide (a = b) && decide (i ≤ j))) := by
  have tk : ∀ a i : Nat, PySem.W.keyToks (D.py (.tup [nD a, nD i])) = [.inl 1, .inl ((a : Nat) : Int), .inl 1, .inl ((i : Nat) : Int), .inl 0] := fun a i => by
    unfold nD
    simp only [D.py, D.pys, PySem.W.keyToks, PySem.W.keyToksAll, List.cons_append, List.nil_append]
  show (!PyProof.Rows.lexLt PyProof.Rows.itemOrd (PySem.W.keyToks (D.py (.tup [nD b, nD j]))) (PySem.W.keyToks (D.py (.tup [nD a, nD i])))) = _
  rw [tk, tk, PyProof.Rows.lex_self]
  by_cases e : b = a
  · subst e
    rw [PyProof.Rows.lex_self, PyProof.Rows.lex_self]
    by_cases e2 : j = i
    · subst e2
      rw [PyProof.Rows.lex_irrefl]
      simp
    · rw [PyProof.Rows.lex_diff (fun z => e2 (by have := Sum.inl.inj z; omega))]
      show (!decide ((j : Int) < (i : Int))) = _
      by_cases h : i ≤ j
      · rw [decide_eq_false (by omega), decide_eq_true h]; simp
      · rw [decide_eq_true (by omega), decide_eq_false h]; simp
  · rw [PyProof.Rows.lex_diff (fun z => e (by have := Sum.inl.inj z; omega))]
    show (!decide ((b : Int) < (a : Int))) = _
    by_cases h : a < b
    · rw [decide_eq_false (by omega), decide_eq_true h]; rfl
    · rw [decide_eq_true (by omega), decide_eq_false h, decide_eq_false (by omega)]; rfl
def tpD (bl : List Nat) (i : Nat) : D := .tup [nD (bN bl i), nD i]
theorem srt_tps (bl : List Nat) (is : List Nat) : srtOk (is.map (tpD bl)) := by
  refine ⟨?_, .inl ?_, ?_⟩
  · intro d hd d' hd'
    rw [List.map_map] at hd hd'
    obtain ⟨a, _, rfl⟩ := List.mem_map.mp hd
    obtain ⟨b, _, rfl⟩ := List.mem_map.mp hd'
    rfl
  · intro d hd
    rw [List.map_map] at hd
    obtain ⟨a, _, rfl⟩ := List.mem_map.mp hd
    exact ⟨_, _, rfl⟩
  · induction is with
    | nil => rfl
    | cons i is ih => rw [List.map_cons, D.plains, ih]; rfl
theorem sort_tps (bl : List Nat) : sortD ((List.range bl.length).map (tpD bl)) = (seqF bl).map (tpD bl) := by
  unfold sortD seqF
  exact (List.map_mergeSort (r := leK bl) (s := PySem.W.dataLe false D.py) (f := tpD bl) (fun a _ b _ => (tup_le _ _ _ _).symm)).symm
def seqS (ce : Nat) : Spc where
  run := fun ds k _ => ∃ bl : List Nat, ds = [.lst (bl.map nD)] ∧ bl.length ≤ 60 ∧ k (.lst (((seqF bl).map nD).map .fz))
  ce := ce
  ar := 1
def kfS (bl : List Nat) : D → D
  | .int i => tpD bl i.toNat
  | _ => .non
/-! hosts -/
def hD : Option Nat → D
  | none => .non
  | some i => nD i
/-- the rows ahead of a row in the sequence -/
def aheadF (bl : List Nat) (i : Nat) : List Nat := (seqF bl).takeWhile fun j => decide (j ≠ i)
def hostsF (p : List Row) (i : Nat) : List (Option Nat) :=
  if bAt p i = 0 then none :: (aheadF (p.map blanks) i).map some else ((aheadF (p.map blanks) i).filter fun j => decide (bAt p i ≤ shr (fAt p i) (fAt p j))).map some
theorem bN_at (p : List Row) (i : Nat) : bN (p.map blanks) i = bAt p i := rfl
theorem seq_split {bl : List Nat} {i : Nat} (h : i < bl.length) : ∃ rest, seqF bl = aheadF bl i ++ i :: rest := by
  unfold aheadF
  have hm : i ∈ seqF bl := seq_mem.mpr h
  generalize seqF bl = l at *
  induction l with
  | nil => cases hm
  | cons a l ih =>
    by_cases e : a = i
    · subst e
      exact ⟨l, by simp⟩
    · obtain ⟨rest, hr⟩ := ih (by rcases List.mem_cons.mp hm with rfl | hm; exact absurd rfl e; exact hm)
      refine ⟨rest, ?_⟩
      rw [List.takeWhile_cons, if_pos (by simpa using e), List.cons_append, ← hr]
theorem ahead_lt {bl : List Nat} {i j : Nat} (h : j ∈ aheadF bl i) : j < bl.length := seq_mem.mp ((List.takeWhile_sublist _).subset h)
theorem ahead_ne {bl : List Nat} {i j : Nat} (h : j ∈ aheadF bl i) : j ≠ i := by
  unfold aheadF at h
  generalize seqF bl = l at h
  induction l with
  | nil => cases h
  | cons a l ih =>
    rw [List.takeWhile_cons] at h
    split at h
    · rename_i ha
      rcases List.mem_cons.mp h with rfl | h
      · simpa using ha
      · exact ih h
    · cases h
theorem ahead_len (bl : List Nat) (i : Nat) : (aheadF bl i).length ≤ bl.length := by
  rw [← seq_len bl]
  exact (List.takeWhile_sublist _).length_le
theorem ahead_iff {bl : List Nat} {i j : Nat} (h : i < bl.length) (hj : j < bl.length) (hne : j ≠ i) : j ∈ aheadF bl i ↔ leK bl j i = true := by
  obtain ⟨rest, e⟩ := seq_split h
  have hp := seq_pair bl
  have hm : j ∈ seqF bl := seq_mem.mpr hj
  rw [e] at hp hm
  rw [List.pairwise_append, List.pairwise_cons] at hp
  obtain ⟨h1, ⟨h2, h3⟩, h4⟩ := hp
  constructor
  · intro hm; exact h4 j hm i List.mem_cons_self
  · intro hl
    rcases List.mem_append.mp hm with hm | hm
    · exact hm
    · rcases List.mem_cons.mp hm with rfl | hm
      · exact absurd rfl hne
      · have := h2 j hm
        rw [leK_iff] at this hl
        omega
theorem eqv_nD (a b : Nat) : D.eqv (nD a) (nD b) = decide (a = b) := by
  show (((a : Nat) : Int) == ((b : Nat) : Int)) = _
  by_cases h : a = b
  · subst h; simp
  · rw [decide_eq_false h]; exact beq_false_of_ne (by omega)
theorem flats_nD (l : List Nat) : (l.map nD).all D.flat = true := by simp [nD, D.flat]
/-- list.index in a list of numbers -/
theorem index_nD {l pre post : List Nat} {i : Nat} {k : OT → Prop} {x : Ex → Prop} (e : l = pre ++ i :: post) (hn : i ∉ pre) (h : k (.fz (nD pre.length))) : lindexS.run [.lst (l.map nD), nD i] k x := by
  subst e
  refine ⟨_, _, nD i, pre.length, rfl, rfl, flats_nD _, by rw [List.getElem?_map, List.getElem?_append_right (Nat.le_refl _)]; simp, by rw [eqv_nD]; simp, fun m z' hm hz => ?_, h⟩
  rw [List.getElem?_map, List.getElem?_append_left hm] at hz
  obtain ⟨a, ha, rfl⟩ := Option.map_eq_some_iff.mp hz
  rw [eqv_nD, decide_eq_false]
  rintro rfl
  exact hn (List.mem_of_getElem? ha)
def hfD (p : List Row) (i : Nat) : D → Bool
  | .int j => decide (bAt p i ≤ shr (fAt p i) (fAt p j.toNat))
  | _ => false
def hinS (ce : Nat) : Spc where
  run := fun ds k _ => ∃ (p : List Row) (w i : Nat), ds = [.lst ((p.map blanks).map nD), .lst ((readRows none p).map rD), .lst ((seqF (p.map blanks)).map nD), nD i] ∧ Vp p w ∧ i < p.length ∧ k (.lst (((hostsF p i).map hD).map .fz))
  ce := ce
  ar := 4
end M21

namespace M21
open PySem L2 DL
local macro_rules | `(tactic| walk_at "dl") => `(tactic| simp only [wpSs_nil, wpSs_cons, wpS_asg, wpS_asgT, wpS_par, wpS_expr, wpS_ret, wpS_if, wpS_brk, wpS_cnt, wpS_pass, wpS_raise, wpS_for, wpS_while, wpE_lc, wpS.eq_4, wpS.eq_6, wpE.eq_1, wpE.eq_2, wpE.eq_3, wpE.eq_4, wpE.eq_5, wpE.eq_6, wpE.eq_7, wpE.eq_8, wpE.eq_9, wpE.eq_10, wpE.eq_11, wpE.eq_12, wpE.eq_13, wpE.eq_14, wpE.eq_15, wpE.eq_16, wpE.eq_17, wpE.eq_18, wpE.eq_19, wpE.eq_21, wpE.eq_22, wpE.eq_23, wpE.eq_24, wpE.eq_25, wpE.eq_26, wpE.eq_27, wpE.eq_28, wpE.eq_29, wpE.eq_30, wpE.eq_31, wpE.eq_32, wpS_setkey, isB_bl, lstO, tyM, slotsD, D.flat, wpOs, wpA, wpX, wpC, wpI, isVar, isNop, asO, asP, asB_bl, asI_int, Opd.fl, Opd.ob, Opd.at, flat_fz, flat_lst, flat_nil, flat_one, flat_two, flat_three, fzs_map, fzs_nil, osw_some, permS_run, prm_10, prm_102, prm_201, prm_120, prm_210, augD_addI, augD_subI, augD_mulI, augD_fdivI, augD_modI, binD_addI, binD_subI, binD_mulI, binD_fdivI, binD_modI, binD_powI, binD_addT, binD_addL, binD_addS, binD_mulT, binD_mulL, cmpD, ltD_I, ltD_S, leD_I, inD_L, inD_T, inD_S, ix_T, ix_L, ix_R, ix_S, sl_T, sl_L, sl_S, rev_T, rev_L, len_T, len_L, len_S, len_R, tuple_L, tuple_T, list_L, list_T, sum_L, all_L, any_L, max_I, min_I, abs_I, int_I, int_B, mc_app, isi_non, isi_bl, isi_int, isi_str, isi_tup, isi_lst, TyS.int?, TyS.bool?, TyS.str?, TyS.tup?, TyS.lst?, bindT, bindTs, putG, lstAt, lstAt2, toD_fz, toD_lst, toDs_fz, toDs_nil, toDs_cons, seq_T, seq_L, isNon_non, isNon_tup, isNon_lst, isNon_str, isNon_int, isNon_bl, wipeG, Tg.slots, Tg.slotss,
   List.getElem?_cons_zero, List.getElem?_cons_succ, List.set_cons_zero, List.set_cons_succ, Option.join_some, Option.bind_some, Option.map_some, Option.isSome_some, List.length_cons, List.length_nil, List.length_map, List.map_cons, List.map_nil, List.nil_append, List.cons_append, if_true, Bool.false_eq_true, if_false, true_and, and_true, Nat.zero_add, Nat.zero_le, Nat.zero_lt_succ, Nat.reduceLT, Nat.reduceAdd, Nat.reduceLeDiff, Nat.lt_add_one, Bool.not_true, Bool.not_false, decide_true, decide_false, List.forall_mem_cons, List.not_mem_nil, false_implies, implies_true, forall_eq])
def rowS (ce : Nat) : Spc where
  run := fun ds k _ => ∃ n i : Nat, ds = [nD n, nD i] ∧ i < n ∧ k (.fz .non)
  ce := ce
  ar := 2
def hofS (ce : Nat) : Spc where
  run := fun ds k _ => ∃ (p : List Row) (w i : Nat), ds = [pD p, nD i] ∧ Vp p w ∧ i < p.length ∧ k (.lst (((hostsF p i).map hD).map .fz))
  ce := ce
  ar := 2
def vsD (p : List Row) (i : Nat) : D := .lst ((hostsF p i).map hD)
def lhoD (p : List Row) : D := .tup [.lst ((seqF (p.map blanks)).map nD), .dic ((seqF (p.map blanks)).map nD) ((seqF (p.map blanks)).map (vsD p))]
theorem ahead_pre {bl : List Nat} {i : Nat} {pre post : List Nat} (e : seqF bl = pre ++ i :: post) : aheadF bl i = pre := by
  have hn := seq_nodup bl
  unfold aheadF
  rw [e] at hn ⊢
  have h1 : i ∉ pre := fun hm => (List.nodup_append.mp hn).2.2 i hm i List.mem_cons_self rfl
  clear hn e
  induction pre with
  | nil => simp
  | cons a pre ih =>
    rw [List.cons_append, List.takeWhile_cons, if_pos (by simp only [decide_eq_true_eq]; rintro rfl; exact h1 List.mem_cons_self), ih fun hm => h1 (List.mem_cons_of_mem _ hm)]
theorem enum_lenN (n : Nat) (xs : List D) : (enumD n xs).length = xs.length := by
  induction xs generalizing n with
  | nil => rfl
  | cons x xs ih => rw [enumD, List.length_cons, List.length_cons, ih]
theorem put_newN {ks vs : List D} {y v : D} {k : List D → List D → Prop} (hy : y.isKey = true) (h : ∀ d ∈ ks, d ≠ y) (hk : k (ks ++ [y]) (vs ++ [v])) : putD ks vs y v k := ⟨hy, .inl ⟨h, hk⟩⟩
theorem put_lastN {ks vs : List D} {y v w : D} {k : List D → List D → Prop} (hy : y.isKey = true) (hl : ks.length = vs.length) (h : ∀ d ∈ ks, d ≠ y) (hk : k (ks ++ [y]) (vs ++ [v])) : putD (ks ++ [y]) (vs ++ [w]) y v k :=
  ⟨hy, .inr ⟨ks, [], vs, [], w, rfl, rfl, hl, h, (fun d hd => by cases hd), hk⟩⟩
def swD : D → D
  | .tup [x, y] => .tup [y, x]
  | d => d
def sndN : D → D
  | .tup [_, y] => y
  | d => d
theorem enum_tps (bl : List Nat) : (enumD 0 (bl.map nD)).map swD = (List.range bl.length).map (tpD bl) := by
  have key : ∀ (xs : List Nat) (n : Nat) (f : Nat → Nat), (∀ (i : Nat) (x : Nat), xs[i]? = some x → f (n + i) = x) → (enumD n (xs.map nD)).map swD = ((List.range' n xs.length).map fun i => D.tup [nD (f i), nD i]) := by
    intro xs
    induction xs with
    | nil => intro n f h; rfl
    | cons x xs ih =>
      intro n f h
      have h0 := h 0 x rfl
      rw [List.map_cons, enumD, List.map_cons, ih (n + 1) f fun i y hy => by have := h (i + 1) y (by simpa using hy); rwa [show n + (i + 1) = n + 1 + i by omega] at this]
      rw [List.length_cons, List.range'_succ, List.map_cons]
      rw [Nat.add_zero] at h0
      rw [h0]
      rfl
  rw [key bl 0 (bN bl) fun i x hx => by rw [Nat.zero_add]; unfold bN; rw [hx]; rfl, List.range_eq_range']
  rfl
end M21

namespace M21
open PySem L2 DL
/-! ### rows of a page and the rows above them -/
theorem take_shrN : ∀ (r a : Row) (n : Nat), n ≤ r.length → n ≤ a.length → a.take n = r.take n → n ≤ shr r a
  | _, _, 0, _, _, _ => Nat.zero_le _
  | [], _, n + 1, h, _, _ => by simp at h
  | _ :: _, [], n + 1, _, h, _ => by simp at h
  | x :: r, y :: a, n + 1, h1, h2, h => by
    rw [List.take_succ_cons, List.take_succ_cons, List.cons.injEq] at h
    have := take_shrN r a n (by simpa using h1) (by simpa using h2) h.2
    simp only [shr]
    rw [if_pos h.1.symm]
    omega
theorem shr_iff {r a : Row} {n : Nat} (h1 : n ≤ r.length) (h2 : n ≤ a.length) : n ≤ shr r a ↔ a.take n = r.take n := ⟨take_eq, take_shrN r a n h1 h2⟩
theorem read_step : ∀ (p : List Row) (a : Option Row) (j : Nat) (r q : Row), p[j + 1]? = some r → (readRows a p)[j]? = some q → (readRows a p)[j + 1]? = some (readOne (some q) r)
  | [], _, _, _, _, h, _ => by simp at h
  | [x], _, j, _, _, h, _ => by simp at h
  | x :: y :: p, a, 0, r, q, h, h2 => by
    simp only [readRows, List.getElem?_cons_zero, Option.some.injEq, List.getElem?_cons_succ] at h h2 ⊢
    subst h h2
    rfl
  | x :: y :: p, a, j + 1, r, q, h, h2 => by
    rw [readRows, List.getElem?_cons_succ] at h2 ⊢
    exact read_step (y :: p) _ j r q (by simpa using h) h2
theorem f_take {p : List Row} {w j : Nat} (hv : Vp p w) (h : j + 1 < p.length) : (fAt p (j + 1)).take (bAt p (j + 1)) = (fAt p j).take (bAt p (j + 1)) := by
  have h1 := ix_of hv h
  have h0 := ix_of hv (show j < p.length by omega)
  have hr : p[j + 1]? = some p[j + 1] := List.getElem?_eq_getElem h
  have hs := read_step p none j _ _ hr h0.f
  rw [h1.f] at hs
  have e := Option.some.inj hs
  have hb : bAt p (j + 1) = blanks p[j + 1] := by
    have := h1.b
    rw [List.getElem?_map, hr] at this
    exact (Option.some.inj this).symm
  rw [e, hb]
  unfold readOne
  have hl : blanks p[j + 1] ≤ (fAt p j).length := by rw [h0.len, ← hb]; exact h1.bw
  rw [Option.getD_some, List.take_append_of_le_length (by rw [List.length_take]; omega), List.take_take, Nat.min_self]
theorem first_b {p : List Row} {w : Nat} (hv : Vp p w) : bAt p 0 = 0 := by
  obtain ⟨r, rest, rfl⟩ := hv.cons
  exact hv.first r rfl
/-- a row shares with one above it, that has no more blanks, at least as much as it has blanks -/
theorem host_up {p : List Row} {w i : Nat} (hv : Vp p w) (hi : i < p.length) (hb : 0 < bAt p i) : ∀ j, j < i → (fAt p i).take (bAt p i) = (fAt p j).take (bAt p i) → ∃ m, m < i ∧ bAt p m ≤ bAt p i ∧ (fAt p i).take (bAt p i) = (fAt p m).take (bAt p i)
  | 0, h, e => ⟨0, h, by rw [first_b hv]; omega, e⟩
  | j + 1, h, e => by
    by_cases hle : bAt p (j + 1) ≤ bAt p i
    · exact ⟨j + 1, h, hle, e⟩
    · refine host_up hv hi hb j (by omega) ?_
      have := f_take hv (show j + 1 < p.length by omega)
      have h2 := congrArg (List.take (bAt p i)) this
      rw [List.take_take, List.take_take, Nat.min_eq_left (by omega)] at h2
      rw [e, h2]
theorem host_ex {p : List Row} {w i : Nat} (hv : Vp p w) (hi : i < p.length) (hb : 0 < bAt p i) : ∃ m, m < i ∧ bAt p m ≤ bAt p i ∧ bAt p i ≤ shr (fAt p i) (fAt p m) := by
  cases i with
  | zero => rw [first_b hv] at hb; omega
  | succ i =>
    obtain ⟨m, h1, h2, h3⟩ := host_up hv hi hb i (by omega) (f_take hv hi)
    have hx := ix_of hv hi
    have hy := ix_of hv (show m < p.length by omega)
    exact ⟨m, h1, h2, (shr_iff (by rw [hx.len]; exact hx.bw) (by rw [hy.len]; exact hx.bw)).mpr h3.symm⟩
theorem host_mem {p : List Row} {w i : Nat} (hv : Vp p w) (hi : i < p.length) (hb : 0 < bAt p i) : ∃ m, m ∈ aheadF (p.map blanks) i ∧ bAt p i ≤ shr (fAt p i) (fAt p m) := by
  obtain ⟨m, h1, h2, h3⟩ := host_ex hv hi hb
  have hbl : (p.map blanks).length = p.length := List.length_map ..
  refine ⟨m, (ahead_iff (by rw [hbl]; exact hi) (by rw [hbl]; omega) (by omega)).mpr (leK_iff.mpr ?_), h3⟩
  rw [bN_at, bN_at]
  omega
theorem hosts_ne {p : List Row} {w i : Nat} (hv : Vp p w) (hi : i < p.length) : hostsF p i ≠ [] := by
  unfold hostsF
  split
  · simp
  · rename_i h
    obtain ⟨m, h1, h2⟩ := host_mem hv hi (by omega)
    intro e
    rw [List.map_eq_nil_iff] at e
    have : m ∈ (aheadF (p.map blanks) i).filter fun j => decide (bAt p i ≤ shr (fAt p i) (fAt p j)) := List.mem_filter.mpr ⟨h1, decide_eq_true h2⟩
    rw [e] at this
    cases this
theorem hosts_len {p : List Row} {i : Nat} : (hostsF p i).length ≤ p.length + 1 := by
  have := ahead_len (p.map blanks) i
  rw [List.length_map] at this
  unfold hostsF
  split
  · rw [List.length_cons, List.length_map]; omega
  · rw [List.length_map]
    exact Nat.le_trans (List.length_filter_le _ _) (by omega)
end M21

namespace M21
open PySem L2 DL
/-! ### orders that keep a page -/
def pAt (p : List Row) (i : Nat) : Row := (p[i]?).getD []
theorem p_at {p : List Row} {i : Nat} (h : i < p.length) : p[i]? = some (pAt p i) := by
  unfold pAt
  rw [List.getElem?_eq_getElem h]
  rfl
theorem b_at {p : List Row} {i : Nat} (h : i < p.length) : blanks (pAt p i) = bAt p i := by
  unfold bAt
  rw [List.getElem?_map, p_at h]
  rfl
theorem vr_at {p : List Row} {w i : Nat} (hv : Vq p w) (h : i < p.length) : Vr w (pAt p i) := hv.rows _ (List.mem_of_getElem? (p_at h))
theorem read_by : ∀ (p : List Row) (a : Option Row) (i : Nat) (r q : Row), p[i]? = some r → (readRows a p)[i]? = some q → ∃ a', q = readOne a' r
  | [], _, _, _, _, h, _ => by simp at h
  | x :: p, a, 0, r, q, h, h2 => by
    simp only [List.getElem?_cons_zero, Option.some.injEq] at h
    rw [readRows, List.getElem?_cons_zero, Option.some.injEq] at h2
    subst h
    exact ⟨a, h2.symm⟩
  | x :: p, a, i + 1, r, q, h, h2 => by
    rw [readRows, List.getElem?_cons_succ] at h2
    exact read_by p _ i r q (by simpa using h) h2
theorem f_drop {p : List Row} {w i : Nat} (hv : Vp p w) (h : i < p.length) : (fAt p i).drop (bAt p i) = (pAt p i).drop (bAt p i) := by
  have hx := ix_of hv h
  obtain ⟨a, e⟩ := read_by p none i _ _ (p_at h) hx.f
  have hr := (vr_at hv.q h).len
  have hl := hx.len
  rw [e] at hl ⊢
  unfold readOne at hl ⊢
  rw [b_at h] at hl ⊢
  have hb := blanks_le (pAt p i)
  rw [b_at h] at hb
  rw [List.length_append, List.length_drop] at hl
  exact List.drop_left' (by omega)
def fitB (p : List Row) (i : Nat) : Option Nat → Bool
  | none => decide (bAt p i = 0)
  | some j => decide (bAt p i ≤ shr (fAt p i) (fAt p j))
def keptF (p : List Row) : Option Nat → List Nat → Bool
  | _, [] => true
  | a, i :: o => fitB p i a && keptF p (some i) o
theorem one_none {p : List Row} {w i : Nat} (hv : Vp p w) (h : i < p.length) : readOne none (pAt p i) = fAt p i ↔ bAt p i = 0 := by
  have hx := ix_of hv h
  have e0 : readOne none (pAt p i) = pAt p i := by unfold readOne; simp
  rw [e0]
  constructor
  · intro e
    rw [← b_at h, e]
    exact fr_blanks hx.fr
  · intro e
    have := f_drop hv h
    rw [e] at this
    simpa using this.symm
theorem one_some {p : List Row} {w i j : Nat} (hv : Vp p w) (h : i < p.length) (hj : j < p.length) : readOne (some (fAt p j)) (pAt p i) = fAt p i ↔ bAt p i ≤ shr (fAt p i) (fAt p j) := by
  have hx := ix_of hv h
  have hy := ix_of hv hj
  rw [shr_iff (by rw [hx.len]; exact hx.bw) (by rw [hy.len]; exact hx.bw)]
  unfold readOne
  rw [Option.getD_some, b_at h]
  have hd := f_drop hv h
  have hlt : ((fAt p j).take (bAt p i)).length = bAt p i := by rw [List.length_take, hy.len]; exact Nat.min_eq_left hx.bw
  constructor
  · intro e
    have := congrArg (List.take (bAt p i)) e
    rw [List.take_append_of_le_length (by omega), List.take_take, Nat.min_self] at this
    exact this
  · intro e
    rw [e, ← hd, List.take_append_drop]
theorem read_kept {p : List Row} {w : Nat} (hv : Vp p w) : ∀ (o : List Nat) (a : Option Nat), (∀ i ∈ o, i < p.length) → (∀ j, a = some j → j < p.length) → (readRows (a.map (fAt p)) (o.map (pAt p)) = o.map (fAt p) ↔ keptF p a o = true)
  | [], a, _, _ => by simp [readRows, keptF]
  | i :: o, a, h, ha => by
    have hi := h i List.mem_cons_self
    have key : readOne (a.map (fAt p)) (pAt p i) = fAt p i ↔ fitB p i a = true := by
      cases a with
      | none => rw [Option.map_none, one_none hv hi, fitB, decide_eq_true_eq]
      | some j => rw [Option.map_some, one_some hv hi (ha j rfl), fitB, decide_eq_true_eq]
    rw [List.map_cons, readRows, List.map_cons, List.cons.injEq, keptF, Bool.and_eq_true, key]
    constructor
    · rintro ⟨h1, h2⟩
      refine ⟨h1, (read_kept hv o (some i) (fun j hj => h j (List.mem_cons_of_mem _ hj)) fun j e => by cases e; exact hi).mp ?_⟩
      rw [key.mpr h1] at h2
      exact h2
    · rintro ⟨h1, h2⟩
      refine ⟨h1, ?_⟩
      rw [key.mpr h1]
      exact (read_kept hv o (some i) (fun j hj => h j (List.mem_cons_of_mem _ hj)) fun j e => by cases e; exact hi).mpr h2
def keptP (p : List Row) (ord : List Nat) : Bool := keptF p none ord
/-- the page in an order -/
def bentP (p : List Row) (ord : List Nat) : List Row := ord.map (pAt p)
theorem kept_read {p : List Row} {w : Nat} {ord : List Nat} (hv : Vp p w) (hp : ∀ i ∈ ord, i < p.length) : readRows none (bentP p ord) = ord.map (fAt p) ↔ keptP p ord = true :=
  read_kept hv ord none hp fun j e => by cases e
theorem perm_lt {n : Nat} {ord : List Nat} (hp : ord.Perm (List.range n)) : ∀ i ∈ ord, i < n := fun i hi => List.mem_range.mp (hp.mem_iff.mp hi)
theorem perm_len {n : Nat} {ord : List Nat} (hp : ord.Perm (List.range n)) : ord.length = n := by rw [hp.length_eq, List.length_range]
theorem bent_q {p : List Row} {w : Nat} {ord : List Nat} (hv : Vq p w) (hp : ord.Perm (List.range p.length)) : Vq (bentP p ord) w := by
  refine ⟨?_, ?_, hv.wl, hv.wh, fun r hr => ?_⟩
  · unfold bentP; rw [List.length_map, perm_len hp]; exact hv.lo
  · unfold bentP; rw [List.length_map, perm_len hp]; exact hv.hi
  · obtain ⟨i, hi, rfl⟩ := List.mem_map.mp hr
    exact vr_at hv (perm_lt hp i hi)
theorem bent_p {p : List Row} {w : Nat} {ord : List Nat} (hv : Vp p w) (hp : ord.Perm (List.range p.length)) (hk : keptP p ord = true) : Vp (bentP p ord) w := by
  have hq := bent_q hv.q hp
  refine ⟨hq.lo, hq.hi, hq.wl, hq.wh, hq.rows, fun r hr => ?_⟩
  cases ord with
  | nil => cases hr
  | cons i o =>
    unfold keptP keptF at hk
    rw [Bool.and_eq_true, fitB, decide_eq_true_eq] at hk
    have : pAt p i = r := by simpa [bentP] using hr
    rw [← this, b_at (perm_lt hp i List.mem_cons_self)]
    exact hk.1
theorem read_map (p : List Row) (a : Option Row) : readRows a p = (List.range p.length).map fun i => ((readRows a p)[i]?).getD [] := by
  refine List.ext_getElem? fun i => ?_
  by_cases h : i < p.length
  · rw [List.getElem?_map, List.getElem?_range h, Option.map_some, List.getElem?_eq_getElem (by rw [read_len]; exact h)]
    rfl
  · rw [List.getElem?_eq_none (by rw [read_len]; omega), List.getElem?_eq_none (by rw [List.length_map, List.length_range]; omega)]
theorem read_f (p : List Row) : readRows none p = (List.range p.length).map (fAt p) := read_map p none
theorem bent_range (p : List Row) : bentP p (List.range p.length) = p := by
  unfold bentP
  refine List.ext_getElem? fun i => ?_
  by_cases h : i < p.length
  · rw [List.getElem?_map, List.getElem?_range h, Option.map_some, p_at h]
  · rw [List.getElem?_eq_none (by rw [List.length_map, List.length_range]; omega), List.getElem?_eq_none (by omega)]
theorem kept_self {p : List Row} {w : Nat} (hv : Vp p w) : keptP p (List.range p.length) = true := by
  rw [← kept_read hv fun i hi => List.mem_range.mp hi, bent_range]
  exact read_f p
theorem bent_f {p : List Row} {w : Nat} {ord : List Nat} (hv : Vp p w) (hp : ord.Perm (List.range p.length)) (hk : keptP p ord = true) {i j : Nat} (h : ord[i]? = some j) : fAt (bentP p ord) i = fAt p j := by
  unfold fAt
  rw [(kept_read hv (perm_lt hp)).mpr hk, List.getElem?_map, h]
  rfl
theorem bent_at {p : List Row} {ord : List Nat} {i j : Nat} (h : ord[i]? = some j) : pAt (bentP p ord) i = pAt p j := by
  unfold bentP
  conv => lhs; unfold pAt
  rw [List.getElem?_map, h]
  rfl
def nth (o : List Nat) (i : Nat) : Nat := (o[i]?).getD 0
theorem nth_get {o : List Nat} {i : Nat} (h : i < o.length) : o[i]? = some (nth o i) := by
  unfold nth
  rw [List.getElem?_eq_getElem h]
  rfl
theorem nth_range (o : List Nat) : (List.range o.length).map (nth o) = o := by
  refine List.ext_getElem? fun i => ?_
  by_cases h : i < o.length
  · rw [List.getElem?_map, List.getElem?_range h, Option.map_some, nth_get h]
  · rw [List.getElem?_eq_none (by rw [List.length_map, List.length_range]; omega), List.getElem?_eq_none (by omega)]
theorem both_perm {n : Nat} {one two : List Nat} (h1 : one.Perm (List.range n)) (h2 : two.Perm (List.range n)) : (two.map (nth one)).Perm (List.range n) := by
  refine (h2.map _).trans ?_
  rw [← perm_len h1, nth_range, perm_len h1]
  exact h1
theorem both_kept {p : List Row} {w : Nat} {one two : List Nat} (hv : Vp p w) (h1 : one.Perm (List.range p.length)) (k1 : keptP p one = true) (h2 : two.Perm (List.range p.length)) (k2 : keptP (bentP p one) two = true) : keptP p (two.map (nth one)) = true := by
  have hl : (bentP p one).length = p.length := by unfold bentP; rw [List.length_map, perm_len h1]
  have hb := bent_p hv h1 k1
  have e2 := (kept_read hb (by rw [hl]; exact perm_lt h2)).mpr k2
  refine (kept_read hv (perm_lt (both_perm h1 h2))).mp ?_
  have hg : ∀ i ∈ two, one[i]? = some (nth one i) := fun i hi => nth_get (by rw [perm_len h1]; exact perm_lt h2 i hi)
  have ea : bentP p (two.map (nth one)) = bentP (bentP p one) two := by
    conv => lhs; unfold bentP
    conv => rhs; unfold bentP
    rw [List.map_map]
    exact List.map_congr_left fun i hi => (bent_at (hg i hi)).symm
  rw [ea, e2, List.map_map]
  exact List.map_congr_left fun i hi => bent_f hv h1 k1 (hg i hi)
def backO (o : List Nat) : List Nat := (List.range o.length).map fun i => o.idxOf i
theorem back_nth {n : Nat} {o : List Nat} (h : o.Perm (List.range n)) {i : Nat} (hi : i < n) : o[o.idxOf i]? = some i := by
  have hm : i ∈ o := h.mem_iff.mpr (List.mem_range.mpr hi)
  rw [List.getElem?_eq_getElem (List.idxOf_lt_length_of_mem hm)]
  simp
theorem back_perm {n : Nat} {o : List Nat} (h : o.Perm (List.range n)) : (backO o).Perm (List.range n) := by
  have hl := perm_len h
  have hnd : (backO o).Nodup := by
    unfold backO
    rw [hl, List.nodup_iff_pairwise_ne, List.pairwise_map]
    refine (List.nodup_iff_pairwise_ne.mp List.nodup_range).imp_of_mem fun {a b} ha hb hne e => hne ?_
    have h1 := back_nth h (List.mem_range.mp ha)
    have h2 := back_nth h (List.mem_range.mp hb)
    rw [e, h2] at h1
    exact (Option.some.inj h1).symm
  refine (List.perm_ext_iff_of_nodup hnd List.nodup_range).mpr fun x => ?_
  constructor
  · intro hx
    obtain ⟨i, hi, rfl⟩ := List.mem_map.mp hx
    rw [List.mem_range, ← hl]
    exact List.idxOf_lt_length_of_mem (h.mem_iff.mpr (by rw [← hl]; exact hi))
  · intro hx
    have hx := List.mem_range.mp hx
    have hnx : nth o x < n := perm_lt h _ (List.mem_of_getElem? (nth_get (by rw [hl]; exact hx)))
    refine List.mem_map.mpr ⟨nth o x, by rw [List.mem_range, hl]; exact hnx, ?_⟩
    have e1 := back_nth h hnx
    have e2 := nth_get (o := o) (i := x) (by rw [hl]; exact hx)
    exact ((List.getElem?_inj (by rw [hl]; exact hx) (h.nodup_iff.mpr List.nodup_range)).mp (e2.trans e1.symm)).symm
theorem back_bent {p : List Row} {one : List Nat} (h : one.Perm (List.range p.length)) : bentP (bentP p one) (backO one) = p := by
  conv => lhs; unfold bentP backO
  rw [List.map_map, perm_len h]
  conv => rhs; rw [← bent_range p]
  unfold bentP
  refine List.map_congr_left fun i hi => ?_
  exact bent_at (back_nth h (List.mem_range.mp hi))
theorem back_kept {p : List Row} {w : Nat} {one : List Nat} (hv : Vp p w) (h : one.Perm (List.range p.length)) (k1 : keptP p one = true) : keptP (bentP p one) (backO one) = true := by
  have hl : (bentP p one).length = p.length := by unfold bentP; rw [List.length_map, perm_len h]
  refine (kept_read (bent_p hv h k1) (by rw [hl]; exact perm_lt (back_perm h))).mp ?_
  rw [back_bent h, read_f p]
  unfold backO
  rw [perm_len h, List.map_map]
  exact List.map_congr_left fun i hi => (bent_f hv h k1 (back_nth h (List.mem_range.mp hi))).symm
/-! rows put in behind their hosts -/
def insB : List Nat → Option Nat → Nat → List Nat
  | o, none, r => r :: o
  | [], some _, r => [r]
  | x :: o, some j, r => if x = j then x :: r :: o else x :: insB o (some j) r
theorem insB_none (o : List Nat) (r : Nat) : insB o none r = r :: o := by cases o <;> rfl
theorem insB_at {pre post : List Nat} {j r : Nat} (h : j ∉ pre) : insB (pre ++ j :: post) (some j) r = pre ++ [j, r] ++ post := by
  induction pre with
  | nil => simp [insB]
  | cons a pre ih =>
    rw [List.cons_append, insB, if_neg (by rintro rfl; exact h List.mem_cons_self), ih fun hm => h (List.mem_cons_of_mem _ hm)]
    simp
theorem insB_perm : ∀ (o : List Nat) (h : Option Nat) (r : Nat), (insB o h r).Perm (o ++ [r])
  | o, none, r => by unfold insB; exact (List.perm_append_comm (l₁ := [r]) (l₂ := o))
  | [], some _, r => .refl _
  | x :: o, some j, r => by
    unfold insB
    split
    · exact ((List.perm_append_comm (l₁ := [r]) (l₂ := o))).cons x
    · exact (insB_perm o (some j) r).cons x
theorem fit_via {p : List Row} {w x j r : Nat} (hv : Vp p w) (hx : x < p.length) (hj : j < p.length) (hr : r < p.length) (h1 : fitB p x (some j) = true) (hb : bAt p x ≤ bAt p r) (h2 : bAt p r ≤ shr (fAt p r) (fAt p j)) : fitB p x (some r) = true := by
  have X := ix_of hv hx
  have J := ix_of hv hj
  have R := ix_of hv hr
  rw [fitB, decide_eq_true_eq] at h1 ⊢
  rw [shr_iff (by rw [X.len]; exact X.bw) (by rw [J.len]; exact X.bw)] at h1
  rw [shr_iff (by rw [R.len]; exact R.bw) (by rw [J.len]; exact R.bw)] at h2
  rw [shr_iff (by rw [X.len]; exact X.bw) (by rw [R.len]; exact X.bw), ← h1]
  have := congrArg (List.take (bAt p x)) h2
  rw [List.take_take, List.take_take, Nat.min_eq_left hb] at this
  exact this.symm
theorem ins_kept {p : List Row} {w r j : Nat} (hv : Vp p w) (hr : r < p.length) (hb : bAt p r ≤ shr (fAt p r) (fAt p j)) : ∀ (o : List Nat) (a : Option Nat), (∀ i ∈ o, i < p.length ∧ bAt p i ≤ bAt p r) → j ∈ o → keptF p a o = true → keptF p a (insB o (some j) r) = true
  | [], _, _, hj, _ => by cases hj
  | x :: o, a, hi, hj, hk => by
    rw [keptF, Bool.and_eq_true] at hk
    unfold insB
    split
    · rename_i e
      subst e
      rw [keptF, keptF, Bool.and_eq_true, Bool.and_eq_true]
      refine ⟨hk.1, by rw [fitB, decide_eq_true_eq]; exact hb, ?_⟩
      cases o with
      | nil => rfl
      | cons y o =>
        have hk2 := hk.2
        rw [keptF, Bool.and_eq_true] at hk2 ⊢
        have hy := hi y (List.mem_cons_of_mem _ List.mem_cons_self)
        exact ⟨fit_via hv hy.1 (hi x List.mem_cons_self).1 hr hk2.1 hy.2 hb, hk2.2⟩
    · rename_i e
      rw [keptF, Bool.and_eq_true]
      refine ⟨hk.1, ins_kept hv hr hb o (some x) (fun i h => hi i (List.mem_cons_of_mem _ h)) ?_ hk.2⟩
      rcases List.mem_cons.mp hj with rfl | h
      · exact absurd rfl e
      · exact h
theorem front_kept {p : List Row} {r : Nat} {o : List Nat} (h0 : bAt p r = 0) (hi : ∀ i ∈ o, bAt p i ≤ bAt p r) (hk : keptF p none o = true) : keptF p none (r :: o) = true := by
  rw [keptF, Bool.and_eq_true]
  refine ⟨by rw [fitB, decide_eq_true_eq]; exact h0, ?_⟩
  cases o with
  | nil => rfl
  | cons y o =>
    rw [keptF, Bool.and_eq_true] at hk ⊢
    refine ⟨?_, hk.2⟩
    rw [fitB, decide_eq_true_eq]
    have := hi y List.mem_cons_self
    omega
/-- what holds of the order when the rows of the front of the sequence stand in it -/
structure Part (p : List Row) (done o : List Nat) : Prop where
  perm : o.Perm done
  kept : keptF p none o = true
theorem host_in {p : List Row} {w : Nat} {done rest : List Nat} {r : Nat} {h : Option Nat} (hv : Vp p w) (hs : seqF (p.map blanks) = done ++ r :: rest) (hh : h ∈ hostsF p r) : (h = none ∧ bAt p r = 0) ∨ ∃ j, h = some j ∧ j ∈ done ∧ bAt p r ≤ shr (fAt p r) (fAt p j) := by
  have hah := ahead_pre hs
  unfold hostsF at hh
  rw [hah] at hh
  split at hh
  · rename_i h0
    rcases List.mem_cons.mp hh with rfl | hh
    · exact .inl ⟨rfl, h0⟩
    · obtain ⟨j, hj, rfl⟩ := List.mem_map.mp hh
      exact .inr ⟨j, rfl, hj, by omega⟩
  · obtain ⟨j, hj, rfl⟩ := List.mem_map.mp hh
    rw [List.mem_filter, decide_eq_true_eq] at hj
    exact .inr ⟨j, rfl, hj.1, hj.2⟩
theorem seq_b {p : List Row} {done rest : List Nat} {r : Nat} (hs : seqF (p.map blanks) = done ++ r :: rest) : ∀ i ∈ done, bAt p i ≤ bAt p r := fun i hi => by
  have hp := seq_pair (p.map blanks)
  rw [hs, List.pairwise_append] at hp
  have := hp.2.2 i hi r List.mem_cons_self
  rw [leK_iff, bN_at, bN_at] at this
  omega
theorem seq_lt {p : List Row} {done rest : List Nat} (hs : seqF (p.map blanks) = done ++ rest) : (∀ i ∈ done, i < p.length) ∧ ∀ i ∈ rest, i < p.length := by
  have : ∀ i ∈ seqF (p.map blanks), i < p.length := fun i hi => by have := seq_mem.mp hi; rwa [List.length_map] at this
  rw [hs] at this
  exact ⟨fun i hi => this i (List.mem_append_left _ hi), fun i hi => this i (List.mem_append_right _ hi)⟩
theorem part_step {p : List Row} {w : Nat} {done rest o : List Nat} {r : Nat} {h : Option Nat} (hv : Vp p w) (hs : seqF (p.map blanks) = done ++ r :: rest) (hp : Part p done o) (hh : h ∈ hostsF p r) : Part p (done ++ [r]) (insB o h r) := by
  have hlt := seq_lt hs
  have hi : ∀ i ∈ o, i < p.length ∧ bAt p i ≤ bAt p r := fun i hi => ⟨hlt.1 i (hp.perm.mem_iff.mp hi), seq_b hs i (hp.perm.mem_iff.mp hi)⟩
  refine ⟨(insB_perm o h r).trans (hp.perm.append_right _), ?_⟩
  rcases host_in hv hs hh with ⟨rfl, h0⟩ | ⟨j, rfl, hj, hb⟩
  · rw [insB_none]
    exact front_kept h0 (fun i h => (hi i h).2) hp.kept
  · exact ins_kept hv (hlt.2 r List.mem_cons_self) hb o none hi (hp.perm.mem_iff.mpr hj) hp.kept
theorem part_end {p : List Row} {o : List Nat} (hp : Part p (seqF (p.map blanks)) o) : o.Perm (List.range p.length) ∧ keptP p o = true := by
  refine ⟨hp.perm.trans ?_, hp.kept⟩
  have := seq_perm (p.map blanks)
  rwa [List.length_map] at this
/-! numbers -/
def cntP (p : List Row) : Nat := ((seqF (p.map blanks)).map fun i => (hostsF p i).length).prod
theorem prod_pos {l : List Nat} (h : ∀ x ∈ l, 0 < x) : 0 < l.prod := by
  induction l with
  | nil => decide
  | cons a l ih =>
    rw [List.prod_cons]
    exact Nat.mul_pos (h a List.mem_cons_self) (ih fun x hx => h x (List.mem_cons_of_mem _ hx))
theorem prod_le {m : Nat} {l : List Nat} (h : ∀ x ∈ l, x ≤ m) : l.prod ≤ m ^ l.length := by
  induction l with
  | nil => exact Nat.le_refl _
  | cons a l ih =>
    rw [List.prod_cons, List.length_cons, Nat.pow_succ, Nat.mul_comm]
    exact Nat.mul_le_mul (ih fun x hx => h x (List.mem_cons_of_mem _ hx)) (h a List.mem_cons_self)
theorem cnt_pos {p : List Row} {w : Nat} (hv : Vp p w) : 0 < cntP p := prod_pos fun x hx => by
  obtain ⟨i, hi, rfl⟩ := List.mem_map.mp hx
  have := seq_mem.mp hi
  rw [List.length_map] at this
  exact List.length_pos_iff.mpr (hosts_ne hv this)
/-- the indexes below some sizes, the last one counting fastest -/
def codeF : List Nat → Nat → List Nat
  | sizes, n => (codeR sizes.reverse n).reverse
where codeR : List Nat → Nat → List Nat
  | [], _ => []
  | s :: ss, n => n % s :: codeR ss (n / s)
theorem codeR_len : ∀ (ss : List Nat) (n : Nat), (codeF.codeR ss n).length = ss.length
  | [], _ => rfl
  | s :: ss, n => by rw [codeF.codeR, List.length_cons, List.length_cons, codeR_len ss]
theorem code_len (ss : List Nat) (n : Nat) : (codeF ss n).length = ss.length := by
  unfold codeF
  rw [List.length_reverse, codeR_len, List.length_reverse]
theorem codeR_lt : ∀ (ss : List Nat) (n i s c : Nat), (∀ s ∈ ss, 0 < s) → ss[i]? = some s → (codeF.codeR ss n)[i]? = some c → c < s
  | [], _, _, _, _, _, h, _ => by simp at h
  | a :: ss, n, 0, s, c, hp, h, h2 => by
    rw [codeF.codeR, List.getElem?_cons_zero, Option.some.injEq] at h2
    rw [List.getElem?_cons_zero, Option.some.injEq] at h
    subst h h2
    exact Nat.mod_lt _ (hp a List.mem_cons_self)
  | a :: ss, n, i + 1, s, c, hp, h, h2 => by
    rw [codeF.codeR, List.getElem?_cons_succ] at h2
    exact codeR_lt ss _ i s c (fun x hx => hp x (List.mem_cons_of_mem _ hx)) (by simpa using h) h2
theorem code_lt {ss : List Nat} {n i s c : Nat} (hp : ∀ s ∈ ss, 0 < s) (h : ss[i]? = some s) (h2 : (codeF ss n)[i]? = some c) : c < s := by
  have hi : i < ss.length := (List.getElem?_eq_some_iff.mp h).1
  unfold codeF at h2
  rw [List.getElem?_reverse (by rw [codeR_len, List.length_reverse]; exact hi), codeR_len, List.length_reverse] at h2
  refine codeR_lt ss.reverse n (ss.length - 1 - i) s c (fun x hx => hp x (List.mem_reverse.mp hx)) ?_ h2
  rw [List.getElem?_reverse (by omega), show ss.length - 1 - (ss.length - 1 - i) = i by omega]
  exact h
/-- rows of a sequence put in, each behind the host with an index -/
def buildF (p : List Row) : List Nat → List Nat → List Nat → List Nat
  | o, [], _ => o
  | o, _ :: _, [] => o
  | o, r :: rs, c :: cs => buildF p (insB o (((hostsF p r)[c]?).getD none) r) rs cs
def sizesF (p : List Row) : List Nat := (seqF (p.map blanks)).map fun i => (hostsF p i).length
def nthO (p : List Row) (n : Nat) : List Nat := buildF p [] (seqF (p.map blanks)) (codeF (sizesF p) n)
theorem sizes_pos {p : List Row} {w : Nat} (hv : Vp p w) : ∀ s ∈ sizesF p, 0 < s := fun x hx => by
  obtain ⟨i, hi, rfl⟩ := List.mem_map.mp hx
  have := seq_mem.mp hi
  rw [List.length_map] at this
  exact List.length_pos_iff.mpr (hosts_ne hv this)
theorem build_part {p : List Row} {w : Nat} (hv : Vp p w) : ∀ (rest done o cs : List Nat), seqF (p.map blanks) = done ++ rest → cs.length = rest.length → (∀ i r c : Nat, rest[i]? = some r → cs[i]? = some c → c < (hostsF p r).length) → Part p done o → Part p (seqF (p.map blanks)) (buildF p o rest cs)
  | [], done, o, cs, hs, _, _, hp => by
    rw [List.append_nil] at hs
    rw [hs]
    exact hp
  | r :: rest, done, o, [], hs, hl, _, hp => by simp at hl
  | r :: rest, done, o, c :: cs, hs, hl, hc, hp => by
    rw [buildF]
    have h0 := hc 0 r c rfl rfl
    have hm : ((hostsF p r)[c]?).getD none ∈ hostsF p r := by
      rw [List.getElem?_eq_getElem h0]
      exact List.getElem_mem h0
    exact build_part hv rest (done ++ [r]) _ cs (by rw [hs]; simp) (by simpa using hl) (fun i r' c' h1 h2 => hc (i + 1) r' c' (by simpa using h1) (by simpa using h2)) (part_step hv hs hp hm)
theorem code_ok {p : List Row} {w : Nat} (hv : Vp p w) (n : Nat) : (codeF (sizesF p) n).length = (seqF (p.map blanks)).length ∧ ∀ i r c : Nat, (seqF (p.map blanks))[i]? = some r → (codeF (sizesF p) n)[i]? = some c → c < (hostsF p r).length :=
  ⟨by rw [code_len]; unfold sizesF; rw [List.length_map], fun i r c h1 h2 => code_lt (sizes_pos hv) (by unfold sizesF; rw [List.getElem?_map, h1]; rfl) h2⟩
theorem part_nil (p : List Row) : Part p [] [] := ⟨.refl _, rfl⟩
theorem nth_kept {p : List Row} {w : Nat} (hv : Vp p w) (n : Nat) : (nthO p n).Perm (List.range p.length) ∧ keptP p (nthO p n) = true := by
  have hc := code_ok hv n
  exact part_end (build_part hv _ [] [] _ rfl hc.1 hc.2 (part_nil p))
end M21

namespace M21
open PySem L2 DL
local macro_rules | `(tactic| walk_at "dl") => `(tactic| simp only [wpSs_nil, wpSs_cons, wpS_asg, wpS_asgT, wpS_par, wpS_expr, wpS_ret, wpS_if, wpS_brk, wpS_cnt, wpS_pass, wpS_raise, wpS_for, wpS_while, wpE_lc, wpS.eq_4, wpS.eq_6, wpE.eq_1, wpE.eq_2, wpE.eq_3, wpE.eq_4, wpE.eq_5, wpE.eq_6, wpE.eq_7, wpE.eq_8, wpE.eq_9, wpE.eq_10, wpE.eq_11, wpE.eq_12, wpE.eq_13, wpE.eq_14, wpE.eq_15, wpE.eq_16, wpE.eq_17, wpE.eq_18, wpE.eq_19, wpE.eq_21, wpE.eq_22, wpE.eq_23, wpE.eq_24, wpE.eq_25, wpE.eq_26, wpE.eq_27, wpE.eq_28, wpE.eq_29, wpE.eq_30, wpE.eq_31, wpE.eq_32, wpS_setkey, isB_bl, lstO, tyM, slotsD, D.flat, wpOs, wpA, wpX, wpC, wpI, isVar, isNop, asO, asP, asB_bl, asI_int, Opd.fl, Opd.ob, Opd.at, flat_fz, flat_lst, flat_nil, flat_one, flat_two, flat_three, fzs_map, fzs_nil, osw_some, permS_run, prm_10, prm_102, prm_201, prm_120, prm_210, augD_addI, augD_subI, augD_mulI, augD_fdivI, augD_modI, binD_addI, binD_subI, binD_mulI, binD_fdivI, binD_modI, binD_powI, binD_addT, binD_addL, binD_addS, binD_mulT, binD_mulL, cmpD, ltD_I, ltD_S, leD_I, inD_L, inD_T, inD_S, ix_T, ix_L, ix_R, ix_S, sl_T, sl_L, sl_S, rev_T, rev_L, len_T, len_L, len_S, len_R, tuple_L, tuple_T, list_L, list_T, sum_L, all_L, any_L, max_I, min_I, abs_I, int_I, int_B, mc_app, isi_non, isi_bl, isi_int, isi_str, isi_tup, isi_lst, TyS.int?, TyS.bool?, TyS.str?, TyS.tup?, TyS.lst?, bindT, bindTs, putG, lstAt, lstAt2, toD_fz, toD_lst, toDs_fz, toDs_nil, toDs_cons, seq_T, seq_L, isNon_non, isNon_tup, isNon_lst, isNon_str, isNon_int, isNon_bl, wipeG, Tg.slots, Tg.slotss,
   List.getElem?_cons_zero, List.getElem?_cons_succ, List.set_cons_zero, List.set_cons_succ, Option.join_some, Option.bind_some, Option.map_some, Option.isSome_some, List.length_cons, List.length_nil, List.length_map, List.map_cons, List.map_nil, List.nil_append, List.cons_append, if_true, Bool.false_eq_true, if_false, true_and, and_true, Nat.zero_add, Nat.zero_le, Nat.zero_lt_succ, Nat.reduceLT, Nat.reduceAdd, Nat.reduceLeDiff, Nat.lt_add_one, Bool.not_true, Bool.not_false, decide_true, decide_false, List.forall_mem_cons, List.not_mem_nil, false_implies, implies_true, forall_eq])
theorem lc_inv {e : EX} {tg : Tg} {vs : List Nat} {elt : SE} {K : List D → DL.Env → Prop} (I : List D → List D → DL.Env → Prop) : ∀ (ds acc : List D) (Δ : DL.Env), I ds acc Δ → acc.length + ds.length ≤ LIM →
    (∀ d r acc Δ (k : D → DL.Env → Prop), I (d :: r) acc Δ → (∀ x Δ', I r (acc ++ [x]) Δ' → k x Δ') → bindT tg d (wipeG Δ vs) fun Γ2 => wpE e elt Γ2 fun t Γ3 => k t.toD Γ3) →
    (∀ acc Δ, I [] acc Δ → K acc Δ) → lcB e vs tg [] elt ds acc Δ K
  | [], acc, Δ, i, hl, h, fin => by rw [lcB_nil]; exact fin acc Δ i
  | d :: ds, acc, Δ, i, hl, h, fin => by
    rw [lcB_cons]
    simp only [List.length_cons] at hl
    have hd := h d ds acc Δ (fun r Γ3 => acc.length < LIM ∧ lcB e vs tg [] elt ds (acc ++ [r]) Γ3 K) i fun r Δ' hr =>
      ⟨by omega, lc_inv I ds (acc ++ [r]) Δ' hr (by simp; omega) h fin⟩
    simpa only [wpC, if_true] using hd
/-- rows, in a tuple or a list -/
def rowsS (ce : Nat) : Spc where
  run := fun ds k _ => ∃ (S : D) (p : List Row) (w : Nat), ds = [S] ∧ (S = pD p ∨ S = .lst (p.map rD)) ∧ Vq p w ∧ k (.fz (.lst ((readRows none p).map rD)))
  ce := ce
  ar := 1
theorem m_read_rows {ds : List D} {k : OT → Prop} {x : Ex → Prop} {c1 : Nat} (h : (rowsS 0).run ds k x) : (rawS 5 1 (sb_read_rows (blanks_inS c1))).run ds k x := by
  obtain ⟨S, p, w, rfl, hS, hv, h⟩ := h
  refine ⟨rfl, ?_⟩
  show wpSs _ (sb_read_rows _) [some (.fz S), none, none, none, none] _
  unfold sb_read_rows
  walk_at "dl"
  have hwh := hv.wh
  have hph := hv.hi
  rcases hS with rfl | rfl
  show forB _ _ _ (p.map rD) _ _
  generalize some (OT.fz (pD p)) = s0
  rotate_left
  show forB _ _ _ (p.map rD) _ _
  generalize some (OT.fz (D.lst (p.map rD))) = s0
  all_goals
    refine for_inv (fun ds Γ => ∃ (done rest : List Row) (a : Option Row) (g3 g4 : Option OT), p.length = done.length + rest.length ∧ ds = rest.map rD ∧ (∀ r ∈ rest, r.length = w) ∧ (∀ b, a = some b → b.length = w) ∧ readRows none p = done ++ readRows a rest ∧
      Γ = [s0, some (.lst ((done.map rD).map .fz)), some (.fz (aD a)), g3, g4]) _ _ ⟨[], p, none, none, none, by simp, rfl, fun r hr => (hv.rows r hr).len, (by intro b hb; cases hb), rfl, rfl⟩ ?_ ?_
    · rintro d ds Γ kk ⟨done, rest, a, g3, g4, hn, hd, hw, ha, hr, rfl⟩ again
      cases rest with
      | nil => cases hd
      | cons r rest =>
        cases hd
        have hrl := hw r List.mem_cons_self
        have hb := blanks_le r
        rw [show rD r = .tup (r.map cD) from rfl]
        walk_at "dl"
        refine ⟨r, rfl, by omega, ?_⟩
        walk_at "dl"
        have hcut1 : cutD (r.map cD) (some (blanks r : Int)) none = (r.drop (blanks r)).map cD := by rw [cutD_from _ _ (by rw [List.length_map]; exact hb), List.map_drop]
        have fin : ∀ (b : Row), b.length = w → readOne a r = b.take (blanks r) ++ r.drop (blanks r) → (cutD (b.map cD) none (some (blanks r : Int))).length + (cutD (r.map cD) (some (blanks r : Int)) none).length ≤ LIM ∧ done.length < LIM ∧
            kk [s0, some (.lst (((done ++ [readOne a r]).map rD).map .fz)), some (.fz (rD (readOne a r))), some (.fz (.tup (r.map cD))), some (.fz (.int (blanks r)))] := fun b hbl e => by
          have : LIM = 1000000 := rfl
          simp only [List.length_cons] at hn
          refine ⟨?_, by omega, ?_⟩
          · rw [hcut1, cutD_to _ _ (by rw [List.length_map]; omega)]
            simp only [List.length_map, List.length_take, List.length_drop]
            omega
          · refine again _ ⟨done ++ [readOne a r], rest, some (readOne a r), _, _, by simp; omega, rfl, fun q hq => hw q (List.mem_cons_of_mem _ hq), fun q hq => ?_, ?_, rfl⟩
            · cases hq
              rw [readOne_len (fun q hq => by rw [ha q hq, hrl]), hrl]
            · rw [hr, readRows]
              simp
        cases a with
        | none =>
          obtain ⟨f1, f2, f3⟩ := fin r hrl rfl
          rw [show aD none = .non from rfl]
          walk_at "dl"
          refine ⟨f1, ?_⟩
          have ec : cutD (r.map cD) none (some (blanks r : Int)) ++ cutD (r.map cD) (some (blanks r : Int)) none = (readOne none r).map cD := by
            rw [hcut1, cutD_to _ _ (by rw [List.length_map]; omega), ← List.map_take, ← List.map_append]; rfl
          rw [ec]
          refine ⟨f2, ?_⟩
          simpa [show rD (readOne none r) = .tup ((readOne none r).map cD) from rfl] using f3
        | some b =>
          obtain ⟨f1, f2, f3⟩ := fin b (ha b rfl) rfl
          rw [show aD (some b) = .tup (b.map cD) from rfl]
          walk_at "dl"
          refine ⟨f1, ?_⟩
          have hbl := ha b rfl
          have ec : cutD (b.map cD) none (some (blanks r : Int)) ++ cutD (r.map cD) (some (blanks r : Int)) none = (readOne (some b) r).map cD := by
            rw [hcut1, cutD_to _ _ (by rw [List.length_map]; omega), ← List.map_take, ← List.map_append]; rfl
          rw [ec]
          refine ⟨f2, ?_⟩
          simpa [show rD (readOne (some b) r) = .tup ((readOne (some b) r).map cD) from rfl] using f3
    · rintro Γ ⟨done, rest, a, g3, g4, hn, hd, hw, ha, hr, rfl⟩
      cases rest with
      | cons r rest => cases hd
      | nil =>
        have h : k (.fz (.lst ((readRows none p).map rD))) := h
        rw [hr] at h
        simp only [readRows, List.append_nil] at h
        walk_at "dl"
        exact h
theorem m_filled {ds : List D} {k : OT → Prop} {x : Ex → Prop} {c1 c2 : Nat} (h : (pageS 0 fun p => .fz (pD (readRows none p))).run ds k x) : (rawS 1 1 (sb_filled (pageS c1 fun _ => .fz .non) (rowsS c2))).run ds k x := by
  obtain ⟨p, w, rfl, hv, h⟩ := h
  refine ⟨rfl, ?_⟩
  show wpSs _ (sb_filled _ _) [some (.fz (pD p))] _
  unfold sb_filled
  walk_at "dl"
  refine ⟨p, w, rfl, hv, pD p, p, w, rfl, .inl rfl, hv.q, ?_⟩
  walk_at "dl"
  exact h
theorem m_parts_in {ds : List D} {k : OT → Prop} {x : Ex → Prop} {c1 c2 : Nat} (h : (pageS 0 fun p => .fz (partD p)).run ds k x) : (rawS 2 1 (sb_parts_in (blanks_inS c1) (rowsS c2))).run ds k x := by
  obtain ⟨p, w, rfl, hv, h⟩ := h
  refine ⟨rfl, ?_⟩
  show wpSs _ (sb_parts_in _ _) [some (.fz (.tup (p.map rD))), none] _
  unfold sb_parts_in
  walk_at "dl"
  let f : D → D := fun d => match d with
    | .tup cs => .int (lead cs : Nat)
    | _ => .non
  have ef : (p.map rD).map f = (p.map blanks).map fun n => D.int ((n : Nat) : Int) := by
    rw [List.map_map, List.map_map]
    refine List.map_congr_left fun r _ => ?_
    show D.int ((lead (r.map cD) : Nat) : Int) = _
    rw [lead_blanks]
    rfl
  refine lc_map f rfl hv.lim (fun d hd kk hk => ?_) fun Δ hΔ => ?_
  · obtain ⟨r, hr, rfl⟩ := List.mem_map.mp hd
    walk_at "dl"
    refine ⟨r, rfl, hv.lt hr, ?_⟩
    have := hk
    simp only [f, rD, lead_blanks] at this
    exact this _ rfl
  · rw [hΔ]
    try walk_at "dl"
    refine ⟨pD p, p, w, rfl, .inl rfl, hv.q, ?_⟩
    try walk_at "dl"
    rw [ef]
    exact ⟨by decide, h⟩
def fitS (ce : Nat) : Spc where
  run := fun ds k _ => ∃ (p : List Row) (w i : Nat) (a : Option Nat), ds = [.lst ((p.map blanks).map nD), .lst ((readRows none p).map rD), nD i, hD a] ∧ Vp p w ∧ i < p.length ∧ (∀ j, a = some j → j < p.length) ∧ k (.fz (.bl (fitB p i a)))
  ce := ce
  ar := 4
theorem m_fits_behind {ds : List D} {k : OT → Prop} {x : Ex → Prop} {c1 : Nat} (h : (fitS 0).run ds k x) : (rawS 4 4 (sb_fits_behind (shareS c1))).run ds k x := by
  obtain ⟨p, w, i, a, rfl, hv, hi, ha, h⟩ := h
  refine ⟨rfl, ?_⟩
  show wpSs _ (sb_fits_behind _) [some (.fz (.lst ((p.map blanks).map nD))), some (.fz (.lst ((readRows none p).map rD))), some (.fz (nD i)), some (.fz (hD a))] _
  unfold sb_fits_behind
  have hx := ix_of hv hi
  cases a with
  | none =>
    unfold hD nD
    try walk_at "dl"
    refine ⟨nD (bAt p i), atI_nat (by rw [List.getElem?_map, List.getElem?_map, ← List.getElem?_map, hx.b]; rfl), ?_⟩
    try walk_at "dl"
    refine ⟨rfl, rfl, ?_⟩
    rw [show (nD (bAt p i)).eqv (.int 0) = decide (bAt p i = 0) from eqv_nD _ 0]
    exact h
  | some j =>
    have hj := ha j rfl
    have hy := ix_of hv hj
    unfold hD nD
    try walk_at "dl"
    refine ⟨rD (fAt p i), atI_nat (by rw [List.getElem?_map, hx.f]; rfl), rD (fAt p j), atI_nat (by rw [List.getElem?_map, hy.f]; rfl), fAt p i, fAt p j, rfl, by rw [hx.len]; have := hv.wh; omega, by rw [hy.len]; have := hv.wh; omega, hx.fr, hy.fr, ?_⟩
    refine ⟨nD (bAt p i), atI_nat (by rw [List.getElem?_map, List.getElem?_map, ← List.getElem?_map, hx.b]; rfl), ?_⟩
    unfold nD
    try walk_at "dl"
    have h : k (.fz (.bl (decide (bAt p i ≤ shr (fAt p i) (fAt p j))))) := h
    by_cases hle : bAt p i ≤ shr (fAt p i) (fAt p j)
    · rw [decide_eq_true hle] at h
      rw [decide_eq_true (by omega)]
      exact h
    · rw [decide_eq_false hle] at h
      rw [decide_eq_false (by omega)]
      exact h
def unH : D → Option Nat
  | .int j => some j.toNat
  | _ => none
def fbD (p : List Row) : D → D
  | .tup [.int i, a] => .bl (fitB p i.toNat (unH a))
  | _ => .non
def bandP (p : List Row) : Option Nat → List Nat → List Bool
  | _, [] => []
  | a, i :: o => fitB p i a :: bandP p (some i) o
theorem band_all (p : List Row) : ∀ (a : Option Nat) (o : List Nat), (bandP p a o).all id = keptF p a o
  | _, [] => rfl
  | a, i :: o => by rw [bandP, List.all_cons, band_all p (some i) o]; rfl
theorem unH_hD (a : Option Nat) : unH (hD a) = a := by
  cases a with
  | none => rfl
  | some i => show some (Int.toNat ((i : Nat) : Int)) = some i; rw [Int.toNat_natCast]
theorem zip_band (p : List Row) : ∀ (o : List Nat) (a : Option Nat), (zipD (o.map nD) (hD a :: o.map nD)).map (fbD p) = (bandP p a o).map .bl
  | [], _ => rfl
  | i :: o, a => by
    rw [List.map_cons, zipD, List.map_cons, bandP, List.map_cons]
    congr 1
    · show D.bl (fitB p (Int.toNat ((i : Nat) : Int)) (unH (hD a))) = _
      rw [unH_hD, Int.toNat_natCast]
    · exact zip_band p o (some i)
theorem zip_memH : ∀ (o : List Nat) (a : Option Nat) (d : D), d ∈ zipD (o.map nD) (hD a :: o.map nD) → ∃ i b, i ∈ o ∧ (b = a ∨ ∃ j, j ∈ o ∧ b = some j) ∧ d = .tup [nD i, hD b]
  | [], _, d, h => by cases h
  | i :: o, a, d, h => by
    rw [List.map_cons, zipD] at h
    rcases List.mem_cons.mp h with rfl | h
    · exact ⟨i, a, List.mem_cons_self, .inl rfl, rfl⟩
    · obtain ⟨j, b, h1, h2, rfl⟩ := zip_memH o (some i) d h
      refine ⟨j, b, List.mem_cons_of_mem _ h1, ?_, rfl⟩
      rcases h2 with rfl | ⟨m, h3, rfl⟩
      · exact .inr ⟨i, List.mem_cons_self, rfl⟩
      · exact .inr ⟨m, List.mem_cons_of_mem _ h3, rfl⟩
theorem bools_bl : ∀ bs : List Bool, bools? (bs.map D.bl) = some bs
  | [] => rfl
  | b :: bs => by rw [List.map_cons]; simp only [bools?, bools_bl bs, Option.map_some]
theorem zip_lenH (o : List Nat) (a : D) : (zipD (o.map nD) (a :: o.map nD)).length ≤ o.length := by
  induction o generalizing a with
  | nil => exact Nat.le_refl _
  | cons i o ih => rw [List.map_cons, zipD, List.length_cons, List.length_cons]; exact Nat.succ_le_succ (ih _)
theorem m_is_kept {ds : List D} {k : OT → Prop} {x : Ex → Prop} {c1 c2 : Nat} (h : (poS 0 fun p ord => .fz (.bl (keptP p ord))).run ds k x) : (rawS 6 2 (sb_is_kept (pageS c1 fun p => .fz (partD p)) (fitS c2))).run ds k x := by
  obtain ⟨p, w, ord, rfl, hv, hp, h⟩ := h
  refine ⟨rfl, ?_⟩
  show wpSs _ (sb_is_kept _ _) [some (.fz (pD p)), some (.fz (.tup (ord.map nD))), none, none, none, none] _
  unfold sb_is_kept
  have hlt := perm_lt hp
  have hln := perm_len hp
  have h60 := hv.hi
  refine cut_at fun R hR => ?_
  try walk_at "dl"
  refine ⟨p, w, rfl, hv, ?_⟩
  unfold partD
  try walk_at "dl"
  subst hR
  try walk_at "dl"
  have hz := zip_lenH ord .non
  simp only [toDs_fz, List.append_nil, List.length_map]
  refine ⟨by have := LIMe; omega, ?_⟩
  refine lc_map (fbD p) rfl (by have := LIMe; omega) (fun d hd kk hk => ?_) fun Δ hΔ => ?_
  · obtain ⟨i, b, h1, h2, rfl⟩ := zip_memH ord none d hd
    try walk_at "dl"
    refine ⟨p, w, i, b, rfl, hv, hlt i h1, fun j e => ?_, ?_⟩
    · rcases h2 with rfl | ⟨m, h3, rfl⟩
      · cases e
      · cases e; exact hlt _ h3
    · have := hk
      simp only [fbD, nD, unH_hD, Int.toNat_natCast] at this
      exact this _ rfl
  · try rw [hΔ]
    try walk_at "dl"
    refine ⟨bandP p none ord, ?_, ?_⟩
    · rw [show (zipD (ord.map nD) (D.non :: ord.map nD)).map (fbD p) = _ from zip_band p ord none]
      exact bools_bl _
    · rw [band_all]
      exact h
theorem m_keeps {ds : List D} {k : OT → Prop} {x : Ex → Prop} {c1 c2 c3 : Nat} (h : (poS 0 fun p ord => .fz (.bl (keptP p ord))).run ds k x) : (rawS 2 2 (sb_keeps (pageS c1 fun _ => .fz .non) (ordS c2 (.fz .non)) (poS c3 fun p ord => .fz (.bl (keptP p ord))))).run ds k x := by
  obtain ⟨p, w, ord, rfl, hv, hp, h⟩ := h
  refine ⟨rfl, ?_⟩
  show wpSs _ (sb_keeps _ _ _) [some (.fz (pD p)), some (.fz (oD ord))] _
  unfold sb_keeps
  refine cut_at fun R hR => ?_
  walk_at "dl"
  refine ⟨p, w, rfl, hv, ?_⟩
  subst hR
  rw [show pD p = .tup (p.map rD) from rfl]
  try walk_at "dl"
  refine ⟨p.length, ord, rfl, hp, hv.hi, p, w, ord, rfl, hv, hp, h⟩
theorem m_read_in {ds : List D} {k : OT → Prop} {x : Ex → Prop} {c1 c2 c3 : Nat} (h : (poS 0 fun p ord => .fz (.lst ((readRows none (bentP p ord)).map rD))).run ds k x) : (rawS 3 2 (sb_read_in (pageS c1 fun _ => .fz .non) (ordS c2 (.fz .non)) (rowsS c3))).run ds k x := by
  obtain ⟨p, w, ord, rfl, hv, hp, h⟩ := h
  refine ⟨rfl, ?_⟩
  show wpSs _ (sb_read_in _ _ _) [some (.fz (pD p)), some (.fz (.tup (ord.map nD))), none] _
  unfold sb_read_in
  have hlt := perm_lt hp
  have hln := perm_len hp
  have h60 := hv.hi
  refine cut_at fun R hR => ?_
  walk_at "dl"
  refine ⟨p, w, rfl, hv, ?_⟩
  subst hR
  rw [show pD p = .tup (p.map rD) from rfl]
  refine cut_at fun R hR => ?_
  try walk_at "dl"
  refine ⟨p.length, ord, rfl, hp, hv.hi, ?_⟩
  subst hR
  try walk_at "dl"
  let f : D → D := fun d => match d with
    | .int i => rD (pAt p i.toNat)
    | _ => .non
  refine lc_map f rfl (by rw [List.length_map]; have := LIMe; omega) (fun d hd kk hk => ?_) fun Δ hΔ => ?_
  · obtain ⟨i, hi, rfl⟩ := List.mem_map.mp hd
    have hk := hk
    simp only [f, nD, Int.toNat_natCast] at hk
    unfold nD
    try walk_at "dl"
    exact ⟨rD (pAt p i), atI_nat (by rw [List.getElem?_map, p_at (hlt i hi)]; rfl), hk _ rfl⟩
  · try rw [hΔ]
    try walk_at "dl"
    have e : (ord.map nD).map f = (bentP p ord).map rD := by
      unfold bentP
      rw [List.map_map, List.map_map]
      refine List.map_congr_left fun i _ => ?_
      show rD (pAt p (Int.toNat ((i : Nat) : Int))) = _
      rw [Int.toNat_natCast]
      rfl
    rw [e]
    exact ⟨_, bentP p ord, w, rfl, .inr rfl, bent_q hv.q hp, h⟩
/-- the rows that mean something else, in the sequence of the order -/
def wrongL (p : List Row) (ord : List Nat) (rs : List Row) : List Nat := ((ord.zip rs).filter fun q => decide (q.2 ≠ fAt p q.1)).map (·.1)
def sortN (l : List Nat) : List Nat := l.mergeSort fun a b => decide (a ≤ b)
def wrongF (p : List Row) (ord : List Nat) : List Nat := sortN (wrongL p ord (readRows none (bentP p ord)))
theorem sort_nD (l : List Nat) : sortD (l.map nD) = (sortN l).map nD := by
  unfold sortD sortN
  exact (List.map_mergeSort (r := fun a b : Nat => decide (a ≤ b)) (s := PySem.W.dataLe false D.py) (f := nD) (fun a _ b _ => (int_le a b).symm)).symm
theorem wrongL_nil {p : List Row} : ∀ {ord : List Nat} {rs : List Row}, rs.length = ord.length → (wrongL p ord rs = [] ↔ rs = ord.map (fAt p))
  | [], [], _ => by simp [wrongL]
  | i :: ord, r :: rs, h => by
    have ih := wrongL_nil (p := p) (ord := ord) (rs := rs) (by simpa using h)
    unfold wrongL at ih ⊢
    rw [List.zip_cons_cons, List.filter_cons, List.map_cons, List.cons.injEq]
    by_cases e : r = fAt p i
    · rw [if_neg (by simpa using e), ih]
      exact ⟨fun h => ⟨e, h⟩, fun h => h.2⟩
    · rw [if_pos (by simpa using e)]
      simp [e]
theorem wrong_nil {p : List Row} {w : Nat} {ord : List Nat} (hv : Vp p w) (hp : ord.Perm (List.range p.length)) : wrongF p ord = [] ↔ keptP p ord = true := by
  rw [← kept_read hv (perm_lt hp), ← wrongL_nil (p := p) (ord := ord) (by rw [read_len]; unfold bentP; rw [List.length_map])]
  unfold wrongF sortN
  constructor
  · intro h
    have := (List.mergeSort_perm (wrongL p ord (readRows none (bentP p ord))) fun a b => decide (a ≤ b)).length_eq
    rw [h] at this
    exact List.length_eq_zero_iff.mp this.symm
  · intro h
    rw [h]
    simp
def neF (p : List Row) : D → Bool
  | .tup [.int i, .tup cs] => !D.eqv (.tup cs) (rD (fAt p i.toNat))
  | _ => false
def fstN : D → D
  | .tup [i, _] => i
  | _ => .non
theorem eqv_rD (a b : Row) : D.eqv (rD a) (rD b) = decide (a = b) := eqv_cells a b
theorem zip_wrong (p : List Row) : ∀ (ord : List Nat) (rs : List Row), ((zipD (ord.map nD) (rs.map rD)).filter (neF p)).map fstN = (wrongL p ord rs).map nD
  | [], _ => by cases ‹List Row› <;> rfl
  | _ :: _, [] => rfl
  | i :: ord, r :: rs => by
    have ih := zip_wrong p ord rs
    have e : neF p (.tup [nD i, rD r]) = decide (r ≠ fAt p i) := by
      show (!D.eqv (rD r) (rD (fAt p (Int.toNat ((i : Nat) : Int))))) = _
      rw [Int.toNat_natCast, eqv_rD]
      simp
    unfold wrongL at ih ⊢
    rw [List.map_cons, List.map_cons, zipD, List.filter_cons, e, List.zip_cons_cons, List.filter_cons]
    by_cases q : r = fAt p i
    · rw [if_neg (by simpa using q), if_neg (by simpa using q)]
      exact ih
    · rw [if_pos (by simpa using q), if_pos (by simpa using q), List.map_cons, List.map_cons, List.map_cons, ih]
      rfl
theorem zip_memR : ∀ (o : List Nat) (rs : List Row) (d : D), d ∈ zipD (o.map nD) (rs.map rD) → ∃ i r, i ∈ o ∧ r ∈ rs ∧ d = .tup [nD i, rD r]
  | [], _, d, h => by cases ‹List Row› <;> cases h
  | _ :: _, [], d, h => by cases h
  | i :: o, r :: rs, d, h => by
    rw [List.map_cons, List.map_cons, zipD] at h
    rcases List.mem_cons.mp h with rfl | h
    · exact ⟨i, r, List.mem_cons_self, List.mem_cons_self, rfl⟩
    · obtain ⟨j, q, h1, h2, rfl⟩ := zip_memR o rs d h
      exact ⟨j, q, List.mem_cons_of_mem _ h1, List.mem_cons_of_mem _ h2, rfl⟩
theorem zip_lenR : ∀ (o : List Nat) (rs : List Row), (zipD (o.map nD) (rs.map rD)).length ≤ o.length
  | [], _ => by cases ‹List Row› <;> exact Nat.le_refl _
  | _ :: _, [] => Nat.zero_le _
  | i :: o, r :: rs => by rw [List.map_cons, List.map_cons, zipD, List.length_cons, List.length_cons]; exact Nat.succ_le_succ (zip_lenR o rs)
/-- cells that are none or printed -/
def Oc (r : Row) : Prop := ∀ c ∈ r, c = none ∨ ∃ x, c = some x ∧ Vc x
theorem oc_plain {r : Row} (h : Oc r) (n : Nat) : D.plain (n + 1) (rD r) = true := by
  show D.plains n (r.map cD) = true
  induction r with
  | nil => rfl
  | cons c r ih =>
    rw [List.map_cons, D.plains, Bool.and_eq_true]
    refine ⟨?_, ih fun d hd => h d (List.mem_cons_of_mem _ hd)⟩
    rcases h c List.mem_cons_self with rfl | ⟨x, rfl, hx⟩
    · cases n <;> rfl
    · exact vc_plain hx n
theorem oc_read {w : Nat} : ∀ (p : List Row) (a : Option Row), (∀ r ∈ p, Vr w r) → (∀ b, a = some b → b.length = w ∧ Oc b) → ∀ r ∈ readRows a p, r.length = w ∧ Oc r
  | [], _, _, _, r, h => by cases h
  | q :: p, a, hp, ha, r, h => by
    have hq := hp q List.mem_cons_self
    have key : (readOne a q).length = w ∧ Oc (readOne a q) := by
      refine ⟨by rw [readOne_len fun b hb => by rw [(ha b hb).1, hq.len], hq.len], fun c hc => ?_⟩
      unfold readOne at hc
      rcases List.mem_append.mp hc with hc | hc
      · cases a with
        | none => exact vr_cells hq c (List.mem_of_mem_take hc)
        | some b => exact (ha b rfl).2 c (List.mem_of_mem_take hc)
      · exact vr_cells hq c (List.mem_of_mem_drop hc)
    rw [readRows] at h
    rcases List.mem_cons.mp h with rfl | h
    · exact key
    · exact oc_read p _ (fun x hx => hp x (List.mem_cons_of_mem _ hx)) (fun b hb => by cases hb; exact key) r h
theorem read_oc {p : List Row} {w : Nat} (hv : Vq p w) : ∀ r ∈ readRows none p, r.length = w ∧ Oc r := oc_read p none hv.rows fun b hb => by cases hb
theorem m_wrong_rows {ds : List D} {k : OT → Prop} {x : Ex → Prop} {c1 c2 : Nat} (h : (poS 0 fun p ord => .lst (((wrongF p ord).map nD).map .fz)).run ds k x) : (rawS 6 2 (sb_wrong_rows (poS c1 fun p ord => .fz (.lst ((readRows none (bentP p ord)).map rD))) (rowsS c2))).run ds k x := by
  obtain ⟨p, w, ord, rfl, hv, hp, h⟩ := h
  refine ⟨rfl, ?_⟩
  show wpSs _ (sb_wrong_rows _ _) [some (.fz (pD p)), some (.fz (.tup (ord.map nD))), none, none, none, none] _
  unfold sb_wrong_rows
  have hlt := perm_lt hp
  have hln := perm_len hp
  have h60 := hv.hi
  refine cut_at fun R hR => ?_
  try walk_at "dl"
  refine ⟨p, w, ord, rfl, hv, hp, pD p, p, w, rfl, .inl rfl, hv.q, ?_⟩
  try walk_at "dl"
  subst hR
  try walk_at "dl"
  have hz := zip_lenR ord (readRows none (bentP p ord))
  have hoc := read_oc (bent_q hv.q hp)
  refine lc_filter (neF p) fstN rfl (by have := LIMe; omega) (fun d hd kk hk => ?_) fun Δ hΔ => ?_
  · obtain ⟨i, r, h1, h2, rfl⟩ := zip_memR ord _ d hd
    have hx := ix_of hv (hlt i h1)
    have hk := hk
    simp only [neF, fstN, nD, rD, Int.toNat_natCast] at hk
    unfold nD
    try walk_at "dl"
    refine ⟨rD (fAt p i), atI_nat (by rw [List.getElem?_map, hx.f]; rfl), ?_⟩
    unfold rD
    try walk_at "dl"
    refine ⟨oc_plain (hoc r h2).2 23, oc_plain (fun c hc => .inr (hx.fr c hc)) 23, ?_⟩
    cases hq : (!(D.tup (r.map cD)).eqv (.tup ((fAt p i).map cD)))
    · rw [hq] at hk
      try walk_at "dl"
      exact hk _ rfl
    · rw [hq] at hk
      try walk_at "dl"
      exact hk _ rfl
  · try rw [hΔ]
    try walk_at "dl"
    rw [zip_wrong]
    refine ⟨srt_ints _, ?_⟩
    rw [sort_nD]
    exact h
end M21

namespace M21
open PySem L2 DL
local macro_rules | `(tactic| walk_at "dl") => `(tactic| simp only [wpSs_nil, wpSs_cons, wpS_asg, wpS_asgT, wpS_par, wpS_expr, wpS_ret, wpS_if, wpS_brk, wpS_cnt, wpS_pass, wpS_raise, wpS_for, wpS_while, wpE_lc, wpS.eq_4, wpS.eq_6, wpE.eq_1, wpE.eq_2, wpE.eq_3, wpE.eq_4, wpE.eq_5, wpE.eq_6, wpE.eq_7, wpE.eq_8, wpE.eq_9, wpE.eq_10, wpE.eq_11, wpE.eq_12, wpE.eq_13, wpE.eq_14, wpE.eq_15, wpE.eq_16, wpE.eq_17, wpE.eq_18, wpE.eq_19, wpE.eq_21, wpE.eq_22, wpE.eq_23, wpE.eq_24, wpE.eq_25, wpE.eq_26, wpE.eq_27, wpE.eq_28, wpE.eq_29, wpE.eq_30, wpE.eq_31, wpE.eq_32, wpS_setkey, isB_bl, lstO, tyM, slotsD, D.flat, wpOs, wpA, wpX, wpC, wpI, isVar, isNop, asO, asP, asB_bl, asI_int, Opd.fl, Opd.ob, Opd.at, flat_fz, flat_lst, flat_nil, flat_one, flat_two, flat_three, fzs_map, fzs_nil, osw_some, permS_run, prm_10, prm_102, prm_201, prm_120, prm_210, augD_addI, augD_subI, augD_mulI, augD_fdivI, augD_modI, binD_addI, binD_subI, binD_mulI, binD_fdivI, binD_modI, binD_powI, binD_addT, binD_addL, binD_addS, binD_mulT, binD_mulL, cmpD, ltD_I, ltD_S, leD_I, inD_L, inD_T, inD_S, ix_T, ix_L, ix_R, ix_S, sl_T, sl_L, sl_S, rev_T, rev_L, len_T, len_L, len_S, len_R, tuple_L, tuple_T, list_L, list_T, sum_L, all_L, any_L, max_I, min_I, abs_I, int_I, int_B, mc_app, isi_non, isi_bl, isi_int, isi_str, isi_tup, isi_lst, TyS.int?, TyS.bool?, TyS.str?, TyS.tup?, TyS.lst?, bindT, bindTs, putG, lstAt, lstAt2, toD_fz, toD_lst, toDs_fz, toDs_nil, toDs_cons, seq_T, seq_L, isNon_non, isNon_tup, isNon_lst, isNon_str, isNon_int, isNon_bl, wipeG, Tg.slots, Tg.slotss,
   List.getElem?_cons_zero, List.getElem?_cons_succ, List.set_cons_zero, List.set_cons_succ, Option.join_some, Option.bind_some, Option.map_some, Option.isSome_some, List.length_cons, List.length_nil, List.length_map, List.map_cons, List.map_nil, List.nil_append, List.cons_append, if_true, Bool.false_eq_true, if_false, true_and, and_true, Nat.zero_add, Nat.zero_le, Nat.zero_lt_succ, Nat.reduceLT, Nat.reduceAdd, Nat.reduceLeDiff, Nat.lt_add_one, Bool.not_true, Bool.not_false, decide_true, decide_false, List.forall_mem_cons, List.not_mem_nil, false_implies, implies_true, forall_eq])
/-! ### rows by the printed cells of a column -/
def tx : Option Str → List Nat
  | some x => x.cps.toList
  | none => []
def cA (p : List Row) (c i : Nat) : Option Str := ((pAt p i)[c]?).getD none
def leC (p : List Row) (c i j : Nat) : Bool := decide (tx (cA p c i) < tx (cA p c j)) || (decide (tx (cA p c i) = tx (cA p c j)) && decide (i ≤ j))
def nonB (p : List Row) (c : Nat) : List Nat := (List.range p.length).filter fun i => (cA p c i).isSome
def blkB (p : List Row) (c : Nat) : List Nat := (List.range p.length).filter fun i => (cA p c i).isNone
def srtC (p : List Row) (c : Nat) : List Nat := (nonB p c).mergeSort (leC p c)
def sortO (p : List Row) (c : Nat) (b : Bool) : List Nat := if b then srtC p c ++ blkB p c else blkB p c ++ srtC p c
theorem lt_or (a b : List Nat) : a < b ∨ a = b ∨ b < a := by
  by_cases h : a < b
  · exact .inl h
  · by_cases h2 : b < a
    · exact .inr (.inr h2)
    · exact .inr (.inl (List.le_antisymm (List.not_lt.mp h2) (List.not_lt.mp h)))
theorem leC_iff {p : List Row} {c i j : Nat} : leC p c i j = true ↔ tx (cA p c i) < tx (cA p c j) ∨ (tx (cA p c i) = tx (cA p c j) ∧ i ≤ j) := by
  unfold leC
  simp
theorem leC_trans {p : List Row} {c : Nat} (i j k : Nat) (h1 : leC p c i j = true) (h2 : leC p c j k = true) : leC p c i k = true := by
  rw [leC_iff] at *
  rcases h1 with h1 | ⟨h1, h3⟩
  · rcases h2 with h2 | ⟨h2, h4⟩
    · exact .inl (List.lt_trans h1 h2)
    · exact .inl (h2 ▸ h1)
  · rcases h2 with h2 | ⟨h2, h4⟩
    · exact .inl (h1 ▸ h2)
    · exact .inr ⟨h1.trans h2, Nat.le_trans h3 h4⟩
theorem leC_total {p : List Row} {c : Nat} (i j : Nat) : (leC p c i j || leC p c j i) = true := by
  rw [Bool.or_eq_true, leC_iff, leC_iff]
  rcases lt_or (tx (cA p c i)) (tx (cA p c j)) with h | h | h
  · exact .inl (.inl h)
  · rcases Nat.le_total i j with h2 | h2
    · exact .inl (.inr ⟨h, h2⟩)
    · exact .inr (.inr ⟨h.symm, h2⟩)
  · exact .inr (.inl h)
theorem leC_anti {p : List Row} {c : Nat} {i j : Nat} (h1 : leC p c i j = true) (h2 : leC p c j i = true) : i = j := by
  rw [leC_iff] at *
  rcases h1 with h1 | ⟨h1, h3⟩
  · rcases h2 with h2 | ⟨h2, h4⟩
    · exact absurd (List.lt_trans h1 h2) (List.lt_irrefl _)
    · rw [h2] at h1; exact absurd h1 (List.lt_irrefl _)
  · rcases h2 with h2 | ⟨h2, h4⟩
    · rw [h1] at h2; exact absurd h2 (List.lt_irrefl _)
    · omega
theorem srtC_pair (p : List Row) (c : Nat) : (srtC p c).Pairwise fun i j => leC p c i j = true := List.pairwise_mergeSort (le := leC p c) leC_trans leC_total _
theorem srtC_perm (p : List Row) (c : Nat) : (srtC p c).Perm (nonB p c) := List.mergeSort_perm _ _
theorem srtC_eq {p : List Row} {c : Nat} {l : List Nat} (h : l.Perm (nonB p c)) (hp : l.Pairwise fun i j => leC p c i j = true) : srtC p c = l :=
  List.Perm.eq_of_pairwise (le := fun i j => leC p c i j = true) (fun a b _ _ h1 h2 => leC_anti h1 h2) (srtC_pair p c) hp ((srtC_perm p c).trans h.symm)
theorem nonB_lt {p : List Row} {c i : Nat} (h : i ∈ nonB p c) : i < p.length ∧ ∃ x, cA p c i = some x := by
  obtain ⟨h1, h2⟩ := List.mem_filter.mp h
  exact ⟨List.mem_range.mp h1, Option.isSome_iff_exists.mp h2⟩
theorem blkB_len (p : List Row) (c : Nat) : (blkB p c).length ≤ p.length := by
  have := List.length_filter_le (fun i => (cA p c i).isNone) (List.range p.length)
  rwa [List.length_range] at this
theorem srtC_len (p : List Row) (c : Nat) : (srtC p c).length ≤ p.length := by
  rw [(srtC_perm p c).length_eq]
  have := List.length_filter_le (fun i => (cA p c i).isSome) (List.range p.length)
  rwa [List.length_range] at this
theorem sortO_perm (p : List Row) (c : Nat) (b : Bool) : (sortO p c b).Perm (List.range p.length) := by
  have h0 : (blkB p c ++ srtC p c).Perm (List.range p.length) := by
    refine (((srtC_perm p c).append_left _)).trans ?_
    unfold blkB nonB
    have := List.filter_append_perm (fun i => (cA p c i).isNone) (List.range p.length)
    rwa [show (fun i => (cA p c i).isSome) = fun i => !(cA p c i).isNone from funext fun i => by cases cA p c i <;> rfl]
  unfold sortO
  cases b with
  | false => exact h0
  | true => exact List.perm_append_comm.trans h0
/-- a row put in behind those that are not greater -/
theorem ins_pair {p : List Row} {c i q : Nat} {f : List Nat} (hf : f.Pairwise fun i j => leC p c i j = true) (hlt : ∀ j ∈ f, j < i)
    (h1 : ∀ j ∈ f.drop q, tx (cA p c i) < tx (cA p c j)) (h2 : ∀ j, q ≠ 0 → f[q - 1]? = some j → ¬ tx (cA p c i) < tx (cA p c j)) (hq : q ≤ f.length) : (f.take q ++ i :: f.drop q).Pairwise fun i j => leC p c i j = true := by
  have hs := hf
  rw [← List.take_append_drop q f, List.pairwise_append] at hs
  obtain ⟨s1, s2, s3⟩ := hs
  have key : ∀ j ∈ f.take q, ¬ tx (cA p c i) < tx (cA p c j) := by
    intro j hj hlt2
    have hq0 : q ≠ 0 := by rintro rfl; simp at hj
    have hq1 : q - 1 < f.length := by omega
    have hl := h2 _ hq0 (List.getElem?_eq_getElem hq1)
    obtain ⟨m, hm, e⟩ := List.mem_take_iff_getElem.mp hj
    by_cases em : m = q - 1
    · subst em
      rw [e] at hl
      exact hl hlt2
    · have := List.pairwise_iff_getElem.mp hf m (q - 1) (by omega) hq1 (by omega)
      rw [e, leC_iff] at this
      rcases this with h | ⟨h, _⟩
      · exact hl (List.lt_trans hlt2 h)
      · exact hl (h ▸ hlt2)
  rw [List.pairwise_append]
  refine ⟨s1, List.pairwise_cons.mpr ⟨fun j hj => leC_iff.mpr (.inl (h1 j hj)), s2⟩, fun a ha b hb => ?_⟩
  have ka : leC p c a i = true := by
    rw [leC_iff]
    rcases lt_or (tx (cA p c a)) (tx (cA p c i)) with h | h | h
    · exact .inl h
    · exact .inr ⟨h, Nat.le_of_lt (hlt a (List.mem_of_mem_take ha))⟩
    · exact absurd h (key a ha)
  rcases List.mem_cons.mp hb with rfl | hb
  · exact ka
  · exact s3 a ha b hb
theorem enumD_get : ∀ (xs : List D) (n i : Nat), (enumD n xs)[i]? = (xs[i]?).map fun x => D.tup [.int ((n + i : Nat) : Int), x]
  | [], n, i => by simp [enumD]
  | x :: xs, n, 0 => by simp [enumD]
  | x :: xs, n, i + 1 => by
    rw [enumD, List.getElem?_cons_succ, List.getElem?_cons_succ, enumD_get xs (n + 1) i, show n + 1 + i = n + (i + 1) by omega]
theorem enumD_page (p : List Row) : enumD 0 (p.map rD) = (List.range p.length).map fun i => D.tup [nD i, rD (pAt p i)] := by
  refine List.ext_getElem? fun i => ?_
  rw [enumD_get, List.getElem?_map, List.getElem?_map, Nat.zero_add]
  by_cases h : i < p.length
  · rw [p_at h, List.getElem?_range h]
    rfl
  · rw [List.getElem?_eq_none (by omega), List.getElem?_eq_none (by rw [List.length_range]; omega)]
    rfl
theorem key_le (x y : Str) (i j : Nat) : PySem.W.dataLe false D.py (.tup [.str x, nD i]) (.tup [.str y, nD j]) = (decide (x.cps.toList < y.cps.toList) || (decide (x.cps.toList = y.cps.toList) && decide (i ≤ j))) := by
  have tk : ∀ (x : Str) (i : Nat), PySem.W.keyToks (D.py (.tup [.str x, nD i])) = [.inl 1, .inr x.cps.toList, .inl 1, .inl ((i : Nat) : Int), .inl 0] := fun x i => by
    unfold nD
    simp only [D.py, D.pys, PySem.W.keyToks, PySem.W.keyToksAll, List.cons_append, List.nil_append]
  show (!PyProof.Rows.lexLt PyProof.Rows.itemOrd (PySem.W.keyToks (D.py (.tup [.str y, nD j]))) (PySem.W.keyToks (D.py (.tup [.str x, nD i])))) = _
  rw [tk, tk, PyProof.Rows.lex_self]
  generalize x.cps.toList = a
  generalize y.cps.toList = b
  by_cases e : b = a
  · subst e
    rw [PyProof.Rows.lex_self, PyProof.Rows.lex_self]
    have hirr : ¬ b < b := List.lt_irrefl b
    by_cases e2 : j = i
    · subst e2
      rw [PyProof.Rows.lex_irrefl]
      simp
    · rw [PyProof.Rows.lex_diff (fun z => e2 (by have := Sum.inl.inj z; omega)), decide_eq_false hirr, decide_eq_true rfl]
      show (!decide ((j : Int) < (i : Int))) = _
      by_cases h : i ≤ j
      · rw [decide_eq_false (by omega), decide_eq_true h]; rfl
      · rw [decide_eq_true (by omega), decide_eq_false h]; rfl
  · rw [PyProof.Rows.lex_diff (fun z => e (Sum.inr.inj z))]
    show (!decide (b < a)) = _
    rcases lt_or a b with h | h | h
    · rw [decide_eq_false (fun z => List.lt_irrefl _ (List.lt_trans h z)), decide_eq_true h]; rfl
    · exact absurd h.symm e
    · rw [decide_eq_true h, decide_eq_false (fun z => List.lt_irrefl _ (List.lt_trans h z)), decide_eq_false (fun z => e z.symm)]; rfl
theorem cell_at {p : List Row} {w i c : Nat} (hv : Vq p w) (hi : i < p.length) (hc : c < w) : (pAt p i)[c]? = some (cA p c i) := by
  have hl := (vr_at hv hi).len
  unfold cA
  rw [List.getElem?_eq_getElem (by omega)]
  rfl
end M21

namespace M21
open PySem L2 DL
local macro_rules | `(tactic| walk_at "dl") => `(tactic| simp only [wpSs_nil, wpSs_cons, wpS_asg, wpS_asgT, wpS_par, wpS_expr, wpS_ret, wpS_if, wpS_brk, wpS_cnt, wpS_pass, wpS_raise, wpS_for, wpS_while, wpE_lc, wpS.eq_4, wpS.eq_6, wpE.eq_1, wpE.eq_2, wpE.eq_3, wpE.eq_4, wpE.eq_5, wpE.eq_6, wpE.eq_7, wpE.eq_8, wpE.eq_9, wpE.eq_10, wpE.eq_11, wpE.eq_12, wpE.eq_13, wpE.eq_14, wpE.eq_15, wpE.eq_16, wpE.eq_17, wpE.eq_18, wpE.eq_19, wpE.eq_21, wpE.eq_22, wpE.eq_23, wpE.eq_24, wpE.eq_25, wpE.eq_26, wpE.eq_27, wpE.eq_28, wpE.eq_29, wpE.eq_30, wpE.eq_31, wpE.eq_32, wpS_setkey, isB_bl, lstO, tyM, slotsD, D.flat, wpOs, wpA, wpX, wpC, wpI, isVar, isNop, asO, asP, asB_bl, asI_int, Opd.fl, Opd.ob, Opd.at, flat_fz, flat_lst, flat_nil, flat_one, flat_two, flat_three, fzs_map, fzs_nil, osw_some, permS_run, prm_10, prm_102, prm_201, prm_120, prm_210, augD_addI, augD_subI, augD_mulI, augD_fdivI, augD_modI, binD_addI, binD_subI, binD_mulI, binD_fdivI, binD_modI, binD_powI, binD_addT, binD_addL, binD_addS, binD_mulT, binD_mulL, cmpD, ltD_I, ltD_S, leD_I, inD_L, inD_T, inD_S, ix_T, ix_L, ix_R, ix_S, sl_T, sl_L, sl_S, rev_T, rev_L, len_T, len_L, len_S, len_R, tuple_L, tuple_T, list_L, list_T, sum_L, all_L, any_L, max_I, min_I, abs_I, int_I, int_B, mc_app, isi_non, isi_bl, isi_int, isi_str, isi_tup, isi_lst, TyS.int?, TyS.bool?, TyS.str?, TyS.tup?, TyS.lst?, bindT, bindTs, putG, lstAt, lstAt2, toD_fz, toD_lst, toDs_fz, toDs_nil, toDs_cons, seq_T, seq_L, isNon_non, isNon_tup, isNon_lst, isNon_str, isNon_int, isNon_bl, wipeG, Tg.slots, Tg.slotss,
   List.getElem?_cons_zero, List.getElem?_cons_succ, List.set_cons_zero, List.set_cons_succ, Option.join_some, Option.bind_some, Option.map_some, Option.isSome_some, List.length_cons, List.length_nil, List.length_map, List.map_cons, List.map_nil, List.nil_append, List.cons_append, if_true, Bool.false_eq_true, if_false, true_and, and_true, Nat.zero_add, Nat.zero_le, Nat.zero_lt_succ, Nat.reduceLT, Nat.reduceAdd, Nat.reduceLeDiff, Nat.lt_add_one, Bool.not_true, Bool.not_false, decide_true, decide_false, List.forall_mem_cons, List.not_mem_nil, false_implies, implies_true, forall_eq])
theorem has_nD (i : Nat) (o : List Nat) : hasD (nD i) (o.map nD) = decide (i ∈ o) := by
  unfold hasD
  induction o with
  | nil => simp
  | cons a l ih =>
    rw [List.map_cons, List.any_cons, ih, eqv_nD]
    by_cases e : a = i
    · subst e; simp
    · have e2 : ¬ i = a := fun z => e z.symm
      rw [decide_eq_false e]
      simp [e2]
def keyC (p : List Row) (c i : Nat) : D := .tup [cD (cA p c i), nD i]
def kfC (p : List Row) (c : Nat) : D → D
  | .int i => keyC p c i.toNat
  | _ => .non
theorem srt_keys {p : List Row} {w c : Nat} (hv : Vq p w) (hc : c < w) {is : List Nat} (h : ∀ i ∈ is, i < p.length ∧ ∃ x, cA p c i = some x) : srtOk (is.map (keyC p c)) := by
  refine ⟨?_, .inl ?_, ?_⟩
  · intro d hd d' hd'
    rw [List.map_map] at hd hd'
    obtain ⟨a, ha, rfl⟩ := List.mem_map.mp hd
    obtain ⟨b, hb, rfl⟩ := List.mem_map.mp hd'
    obtain ⟨_, x, ex⟩ := h a ha
    obtain ⟨_, y, ey⟩ := h b hb
    show PySem.W.alike (D.py (keyC p c a)) (D.py (keyC p c b)) = true
    unfold keyC
    rw [ex, ey]
    rfl
  · intro d hd
    rw [List.map_map] at hd
    obtain ⟨a, _, rfl⟩ := List.mem_map.mp hd
    exact ⟨_, _, rfl⟩
  · induction is with
    | nil => rfl
    | cons i is ih =>
      rw [List.map_cons, D.plains, ih fun j hj => h j (List.mem_cons_of_mem _ hj), Bool.and_true]
      obtain ⟨hi, x, ex⟩ := h i List.mem_cons_self
      have hvc := vr_cells (vr_at hv hi) (some x) (ex ▸ List.mem_of_getElem? (cell_at hv hi hc))
      rcases hvc with hvc | ⟨y, e, hy⟩
      · cases hvc
      · cases e
        unfold keyC
        rw [ex]
        simp only [cD, nD, D.plain, D.plains, Bool.and_true]
        exact vc_plain hy 18
def soS (ce : Nat) : Spc where
  run := fun ds k _ => ∃ (p : List Row) (w c : Nat) (b : Bool), ds = [pD p, nD c, .bl b] ∧ Vp p w ∧ c < w ∧ k (.fz (oD (sortO p c b)))
  ce := ce
  ar := 3
def fst2 : D → D
  | .tup [a, _] => a
  | _ => .non
def bkF (p : List Row) (c : Nat) : D → Bool
  | .tup [.int i, _] => (cA p c i.toNat).isNone
  | _ => false
theorem m_sort_order {ds : List D} {k : OT → Prop} {x : Ex → Prop} {c1 c2 : Nat} (h : (soS 0).run ds k x) : (rawS 7 3 (sb_sort_order (pageS c1 fun _ => .fz .non) (is_integerS c2))).run ds k x := by
  obtain ⟨p, w, c, b, rfl, hv, hc, h⟩ := h
  refine ⟨rfl, ?_⟩
  show wpSs _ (sb_sort_order _ _) [some (.fz (.tup (p.map rD))), some (.fz (nD c)), some (.fz (.bl b)), none, none, none, none] _
  unfold sb_sort_order
  have h60 := hv.hi
  have hlo := hv.lo
  have h0 := vr_at hv.q (i := 0) (by omega)
  refine cut_at fun R hR => ?_
  try walk_at "dl"
  refine ⟨p, w, rfl, hv, ?_⟩
  subst hR
  refine cut_at fun R hR => ?_
  unfold nD
  try walk_at "dl"
  refine ⟨rD (pAt p 0), atI_nat (j := 0) (by rw [List.getElem?_map, p_at (by omega)]; rfl), ?_⟩
  unfold rD
  try walk_at "dl"
  refine ⟨(c : Int), 0, (w : Int) - 1, by rw [h0.len], ?_⟩
  rw [decide_eq_true (by omega), decide_eq_true (by omega)]
  try walk_at "dl"
  subst hR
  refine cut_at fun R hR => ?_
  try walk_at "dl"
  subst hR
  refine cut_at fun R hR => ?_
  try walk_at "dl"
  have em : (enumD 0 (p.map fun r => D.tup (r.map cD))) = (List.range p.length).map fun i => D.tup [nD i, rD (pAt p i)] := enumD_page p
  rw [em]
  refine lc_filter (bkF p c) fst2 rfl (by rw [List.length_map, List.length_range]; have := LIMe; omega) (fun d hd kk hk => ?_) fun Δ hΔ => ?_
  · obtain ⟨i, hi, rfl⟩ := List.mem_map.mp hd
    have hi := List.mem_range.mp hi
    simp only [bkF, fst2, nD, Int.toNat_natCast] at hk
    unfold nD rD
    try walk_at "dl"
    refine ⟨cD (cA p c i), atI_nat (by rw [List.getElem?_map, cell_at hv.q hi hc]; rfl), ?_⟩
    try walk_at "dl"
    rw [isNon_cD]
    cases q : (cA p c i).isNone with
    | true =>
      rw [q] at hk
      try walk_at "dl"
      exact hk _ rfl
    | false =>
      rw [q] at hk
      try walk_at "dl"
      exact hk _ rfl
  · try rw [hΔ]
    have eb : (((List.range p.length).map fun i => D.tup [nD i, rD (pAt p i)]).filter (bkF p c)).map fst2 = (blkB p c).map nD := by
      unfold blkB
      rw [List.filter_map, List.map_map]
      rfl
    rw [eb]
    try walk_at "dl"
    subst hR
    refine cut_at fun R hR => ?_
    try walk_at "dl"
    refine ⟨by omega, by omega, ?_⟩
    have hblk := blkB_len p c
    rw [show rangeD 0 (p.length : Int) = (List.range p.length).map nD from range_ints _]
    refine lc_filter (fun d => !hasD d ((blkB p c).map nD)) id rfl (by rw [List.length_map, List.length_range]; have := LIMe; omega) (fun d hd kk hk => ?_) fun Δ hΔ => ?_
    · obtain ⟨i, hi, rfl⟩ := List.mem_map.mp hd
      simp only [id] at hk
      unfold nD at hk ⊢
      try walk_at "dl"
      refine ⟨flats_nD _, ?_⟩
      cases q : hasD (D.int (i : Int)) ((blkB p c).map fun n : Nat => D.int (n : Int)) with
      | true =>
        rw [q] at hk
        try walk_at "dl"
        exact hk _ rfl
      | false =>
        rw [q] at hk
        try walk_at "dl"
        exact hk _ rfl
    · try rw [hΔ]
      have en : (((List.range p.length).map nD).filter fun d => !hasD d ((blkB p c).map nD)).map id = (nonB p c).map nD := by
        rw [List.map_id, List.filter_map]
        congr 1
        unfold nonB
        refine List.filter_congr fun i hi => ?_
        show (!hasD (nD i) ((blkB p c).map nD)) = _
        rw [has_nD]
        unfold blkB
        cases q : cA p c i with
        | none =>
          rw [decide_eq_true (List.mem_filter.mpr ⟨hi, by rw [q]; rfl⟩)]
          rfl
        | some z =>
          rw [decide_eq_false (fun hm => by have := (List.mem_filter.mp hm).2; rw [q] at this; cases this)]
          rfl
      rw [en]
      try walk_at "dl"
      have hnl : (nonB p c).length ≤ p.length := by
        have := List.length_filter_le (fun i => (cA p c i).isSome) (List.range p.length)
        rwa [List.length_range] at this
      refine ⟨(nonB p c).map nD, [nD c, pD p], kfC p c, rfl, by rw [List.length_map]; omega, fun d hd kk hk => ?_, ?_, ?_⟩
      · obtain ⟨i, hi, rfl⟩ := List.mem_map.mp hd
        obtain ⟨hi, z, ez⟩ := nonB_lt hi
        have hk : kk (D.tup [cD (cA p c i), nD i]) := hk
        unfold nD at hk ⊢
        rw [show pD p = .tup (p.map rD) from rfl]
        try walk_at "dl"
        refine ⟨rD (pAt p i), atI_nat (by rw [List.getElem?_map, p_at hi]; rfl), ?_⟩
        unfold rD
        try walk_at "dl"
        refine ⟨cD (cA p c i), atI_nat (by rw [List.getElem?_map, cell_at hv.q hi hc]; rfl), ?_⟩
        try walk_at "dl"
        exact ⟨by decide, hk⟩
      · rw [List.map_map]
        exact srt_keys hv.q hc fun i hi => nonB_lt hi
      · have e : ((nonB p c).map nD).mergeSort (PySem.W.dataLe false fun d => (kfC p c d).py) = (srtC p c).map nD := by
          unfold srtC
          refine (List.map_mergeSort (r := leC p c) (s := PySem.W.dataLe false fun d => (kfC p c d).py) (f := nD) (fun a ha b hb => ?_)).symm
          obtain ⟨_, y, ey⟩ := nonB_lt ha
          obtain ⟨_, z, ez⟩ := nonB_lt hb
          have hk := key_le y z a b
          unfold leC
          rw [ey, ez]
          refine hk.symm.trans ?_
          show _ = PySem.W.dataLe false D.py (keyC p c a) (keyC p c b)
          unfold keyC
          rw [ey, ez]
          rfl
        rw [e]
        try walk_at "dl"
        subst hR
        have hsl := srtC_len p c
        cases b with
        | true =>
          try walk_at "dl"
          refine ⟨by have := LIMe; omega, ?_⟩
          unfold sortO at h
          rw [if_pos rfl] at h
          unfold oD at h
          rw [List.map_append] at h
          exact h
        | false =>
          try walk_at "dl"
          refine ⟨by have := LIMe; omega, ?_⟩
          unfold sortO at h
          rw [if_neg (by decide)] at h
          unfold oD at h
          rw [List.map_append] at h
          exact h
def ldS (ce : Nat) : Spc where
  run := fun ds k _ => ∃ (p : List Row) (w c : Nat) (b : Bool), ds = [pD p, nD c, .bl b] ∧ Vp p w ∧ c < w ∧ k (.fz (oD (sortO p c b)))
  ce := ce
  ar := 3
end M21

namespace M21
open PySem L2 DL
local macro_rules | `(tactic| walk_at "dl") => `(tactic| simp only [wpSs_nil, wpSs_cons, wpS_asg, wpS_asgT, wpS_par, wpS_expr, wpS_ret, wpS_if, wpS_brk, wpS_cnt, wpS_pass, wpS_raise, wpS_for, wpS_while, wpE_lc, wpS.eq_4, wpS.eq_6, wpE.eq_1, wpE.eq_2, wpE.eq_3, wpE.eq_4, wpE.eq_5, wpE.eq_6, wpE.eq_7, wpE.eq_8, wpE.eq_9, wpE.eq_10, wpE.eq_11, wpE.eq_12, wpE.eq_13, wpE.eq_14, wpE.eq_15, wpE.eq_16, wpE.eq_17, wpE.eq_18, wpE.eq_19, wpE.eq_21, wpE.eq_22, wpE.eq_23, wpE.eq_24, wpE.eq_25, wpE.eq_26, wpE.eq_27, wpE.eq_28, wpE.eq_29, wpE.eq_30, wpE.eq_31, wpE.eq_32, wpS_setkey, isB_bl, lstO, tyM, slotsD, D.flat, wpOs, wpA, wpX, wpC, wpI, isVar, isNop, asO, asP, asB_bl, asI_int, Opd.fl, Opd.ob, Opd.at, flat_fz, flat_lst, flat_nil, flat_one, flat_two, flat_three, fzs_map, fzs_nil, osw_some, permS_run, prm_10, prm_102, prm_201, prm_120, prm_210, augD_addI, augD_subI, augD_mulI, augD_fdivI, augD_modI, binD_addI, binD_subI, binD_mulI, binD_fdivI, binD_modI, binD_powI, binD_addT, binD_addL, binD_addS, binD_mulT, binD_mulL, cmpD, ltD_I, ltD_S, leD_I, inD_L, inD_T, inD_S, ix_T, ix_L, ix_R, ix_S, sl_T, sl_L, sl_S, rev_T, rev_L, len_T, len_L, len_S, len_R, tuple_L, tuple_T, list_L, list_T, sum_L, all_L, any_L, max_I, min_I, abs_I, int_I, int_B, mc_app, isi_non, isi_bl, isi_int, isi_str, isi_tup, isi_lst, TyS.int?, TyS.bool?, TyS.str?, TyS.tup?, TyS.lst?, bindT, bindTs, putG, lstAt, lstAt2, toD_fz, toD_lst, toDs_fz, toDs_nil, toDs_cons, seq_T, seq_L, isNon_non, isNon_tup, isNon_lst, isNon_str, isNon_int, isNon_bl, wipeG, Tg.slots, Tg.slotss,
   List.getElem?_cons_zero, List.getElem?_cons_succ, List.set_cons_zero, List.set_cons_succ, Option.join_some, Option.bind_some, Option.map_some, Option.isSome_some, List.length_cons, List.length_nil, List.length_map, List.map_cons, List.map_nil, List.nil_append, List.cons_append, if_true, Bool.false_eq_true, if_false, true_and, and_true, Nat.zero_add, Nat.zero_le, Nat.zero_lt_succ, Nat.reduceLT, Nat.reduceAdd, Nat.reduceLeDiff, Nat.lt_add_one, Bool.not_true, Bool.not_false, decide_true, decide_false, List.forall_mem_cons, List.not_mem_nil, false_implies, implies_true, forall_eq])
/-! ### tables sorted column by column -/
def txs (c : Nat) (q : Row) : List (List Nat) := (q.drop c).map tx
def lexB : List (List Nat) → List (List Nat) → Bool
  | [], _ => true
  | _ :: _, [] => false
  | a :: x, b :: y => decide (a < b) || (decide (a = b) && lexB x y)
theorem lexB_cons {a b : List Nat} {x y : List (List Nat)} : lexB (a :: x) (b :: y) = true ↔ a < b ∨ (a = b ∧ lexB x y = true) := by
  rw [lexB]
  simp
theorem lexB_refl : ∀ x, lexB x x = true
  | [] => rfl
  | a :: x => lexB_cons.mpr (.inr ⟨rfl, lexB_refl x⟩)
theorem lexB_total : ∀ x y, (lexB x y || lexB y x) = true
  | [], y => by rw [lexB]; rfl
  | a :: x, [] => by rw [show lexB [] (a :: x) = true from rfl]; simp
  | a :: x, b :: y => by
    rw [Bool.or_eq_true, lexB_cons, lexB_cons]
    rcases lt_or a b with h | h | h
    · exact .inl (.inl h)
    · have := lexB_total x y
      rw [Bool.or_eq_true] at this
      rcases this with h2 | h2
      · exact .inl (.inr ⟨h, h2⟩)
      · exact .inr (.inr ⟨h.symm, h2⟩)
    · exact .inr (.inl h)
theorem lexB_trans : ∀ x y z, lexB x y = true → lexB y z = true → lexB x z = true
  | [], _, _, _, _ => rfl
  | a :: x, [], _, h, _ => by cases h
  | a :: x, b :: y, [], _, h => by cases h
  | a :: x, b :: y, c :: z, h1, h2 => by
    rw [lexB_cons] at *
    rcases h1 with h1 | ⟨h1, h3⟩
    · rcases h2 with h2 | ⟨h2, h4⟩
      · exact .inl (List.lt_trans h1 h2)
      · exact .inl (h2 ▸ h1)
    · rcases h2 with h2 | ⟨h2, h4⟩
      · exact .inl (h1 ▸ h2)
      · exact .inr ⟨h1.trans h2, lexB_trans x y z h3 h4⟩
theorem lexB_anti : ∀ x y, lexB x y = true → lexB y x = true → x = y
  | [], [], _, _ => rfl
  | [], _ :: _, _, h => by cases h
  | _ :: _, [], h, _ => by cases h
  | a :: x, b :: y, h1, h2 => by
    rw [lexB_cons] at *
    rcases h1 with h1 | ⟨h1, h3⟩
    · rcases h2 with h2 | ⟨h2, h4⟩
      · exact absurd (List.lt_trans h1 h2) (List.lt_irrefl _)
      · rw [h2] at h1; exact absurd h1 (List.lt_irrefl _)
    · rcases h2 with h2 | ⟨h2, h4⟩
      · rw [h1] at h2; exact absurd h2 (List.lt_irrefl _)
      · rw [h1, lexB_anti x y h3 h4]
theorem str_ext {x y : Str} (h : x.cps.toList = y.cps.toList) : x = y := by
  cases x with
  | mk a => cases y with
    | mk b =>
      have : a = b := Array.toList_inj.mp h
      rw [this]
theorem txs_inj : ∀ {q r : Row}, Fr q → Fr r → q.map tx = r.map tx → q = r
  | [], [], _, _, _ => rfl
  | [], _ :: _, _, _, h => by cases h
  | _ :: _, [], _, _, h => by cases h
  | c :: q, d :: r, h1, h2, h => by
    obtain ⟨x, rfl, _⟩ := h1 c List.mem_cons_self
    obtain ⟨y, rfl, _⟩ := h2 d List.mem_cons_self
    rw [List.map_cons, List.map_cons, List.cons.injEq] at h
    rw [str_ext h.1, txs_inj (fun c hc => h1 c (List.mem_cons_of_mem _ hc)) (fun c hc => h2 c (List.mem_cons_of_mem _ hc)) h.2]
theorem toks_row : ∀ {q r : Row}, Fr q → Fr r → q.length = r.length →
    PyProof.Rows.lexLt PyProof.Rows.itemOrd (PySem.W.keyToksAll (D.pys (r.map cD))) (PySem.W.keyToksAll (D.pys (q.map cD))) = !lexB (q.map tx) (r.map tx)
  | [], [], _, _, _ => by
    rw [PyProof.Rows.lex_irrefl]
    rfl
  | [], _ :: _, _, _, h => by simp at h
  | _ :: _, [], _, _, h => by simp at h
  | c :: q, d :: r, h1, h2, h => by
    obtain ⟨x, rfl, _⟩ := h1 c List.mem_cons_self
    obtain ⟨y, rfl, _⟩ := h2 d List.mem_cons_self
    have ih := toks_row (q := q) (r := r) (fun c hc => h1 c (List.mem_cons_of_mem _ hc)) (fun c hc => h2 c (List.mem_cons_of_mem _ hc)) (by simpa using h)
    have tk : ∀ (x : Str) (q : Row), PySem.W.keyToksAll (D.pys ((some x :: q).map cD)) = .inl 1 :: .inr x.cps.toList :: PySem.W.keyToksAll (D.pys (q.map cD)) := fun x q => by
      simp only [List.map_cons, cD, D.py, D.pys, PySem.W.keyToks, PySem.W.keyToksAll, List.cons_append, List.nil_append]
    rw [tk, tk, PyProof.Rows.lex_self, List.map_cons, List.map_cons, lexB]
    show _ = !(decide (x.cps.toList < y.cps.toList) || (decide (x.cps.toList = y.cps.toList) && lexB (q.map tx) (r.map tx)))
    generalize x.cps.toList = a at *
    generalize y.cps.toList = b at *
    by_cases e : b = a
    · subst e
      rw [PyProof.Rows.lex_self, ih, decide_eq_false (List.lt_irrefl b), decide_eq_true rfl]
      simp
    · rw [PyProof.Rows.lex_diff (fun z => e (Sum.inr.inj z)), decide_eq_false (show ¬ a = b from fun z => e z.symm)]
      show decide (b < a) = _
      rcases lt_or a b with h | h | h
      · rw [decide_eq_false (fun z => List.lt_irrefl _ (List.lt_trans h z)), decide_eq_true h]; rfl
      · exact absurd h.symm e
      · rw [decide_eq_true h, decide_eq_false (fun z => List.lt_irrefl _ (List.lt_trans h z))]; rfl
theorem row_le {q r : Row} (h1 : Fr q) (h2 : Fr r) (h : q.length = r.length) : PySem.W.dataLe false D.py (rD q) (rD r) = lexB (txs 0 q) (txs 0 r) := by
  show (!PyProof.Rows.lexLt PyProof.Rows.itemOrd (PySem.W.keyToks (D.py (rD r))) (PySem.W.keyToks (D.py (rD q)))) = _
  unfold rD
  simp only [D.py, PySem.W.keyToks]
  rw [toks_row h1 h2 h, Bool.not_not]
  rfl
def srtFrom (c : Nat) (t : List Row) : Prop := t.Pairwise fun q r => lexB (txs c q) (txs c r) = true
theorem txs_cons {q : Row} {c : Nat} (h : c < q.length) : txs c q = tx q[c] :: txs (c + 1) q := by
  unfold txs
  rw [List.drop_eq_getElem_cons h, List.map_cons]
theorem tb_at {t : List Row} {w i : Nat} (ht : Tb t w) (h : i < t.length) : (pAt t i).length = w ∧ Fr (pAt t i) := ht.rows _ (List.mem_of_getElem? (p_at h))
theorem tb_cell {t : List Row} {w i c : Nat} (ht : Tb t w) (h : i < t.length) (hc : c < w) : ∃ x, cA t c i = some x ∧ Vc x := by
  obtain ⟨h1, h2⟩ := tb_at ht h
  have e : (pAt t i)[c]? = some (cA t c i) := by
    unfold cA
    rw [List.getElem?_eq_getElem (by omega)]
    rfl
  exact h2 _ (List.mem_of_getElem? e)
theorem tb_non {t : List Row} {w c : Nat} (ht : Tb t w) (hc : c < w) : nonB t c = List.range t.length := by
  unfold nonB
  rw [List.filter_eq_self]
  intro i hi
  obtain ⟨x, e, _⟩ := tb_cell ht (List.mem_range.mp hi) hc
  rw [e]
  rfl
theorem tb_blk {t : List Row} {w c : Nat} (ht : Tb t w) (hc : c < w) : blkB t c = [] := by
  unfold blkB
  rw [List.filter_eq_nil_iff]
  intro i hi
  obtain ⟨x, e, _⟩ := tb_cell ht (List.mem_range.mp hi) hc
  rw [e]
  simp
theorem tb_sort {t : List Row} {w c : Nat} (ht : Tb t w) (hc : c < w) (b : Bool) : sortO t c b = srtC t c := by
  unfold sortO
  rw [tb_blk ht hc]
  cases b <;> simp
theorem tx_at {t : List Row} {w i c : Nat} (ht : Tb t w) (h : i < t.length) (hc : c < w) : txs c (pAt t i) = tx (cA t c i) :: txs (c + 1) (pAt t i) := by
  obtain ⟨h1, h2⟩ := tb_at ht h
  rw [txs_cons (by omega)]
  unfold cA
  rw [List.getElem?_eq_getElem (by omega)]
  rfl
def nextT (t : List Row) (c : Nat) : List Row := (srtC t c).map (pAt t)
theorem next_len (t : List Row) (w c : Nat) (ht : Tb t w) (hc : c < w) : (nextT t c).length = t.length := by
  unfold nextT
  rw [List.length_map, (srtC_perm t c).length_eq, tb_non ht hc, List.length_range]
theorem range_map (t : List Row) : (List.range t.length).map (pAt t) = t := by
  refine List.ext_getElem? fun i => ?_
  rw [List.getElem?_map]
  by_cases h : i < t.length
  · rw [List.getElem?_range h, Option.map_some, p_at h]
  · rw [List.getElem?_eq_none (by rw [List.length_range]; omega), List.getElem?_eq_none (by omega)]
    rfl
theorem next_perm {t : List Row} {w c : Nat} (ht : Tb t w) (hc : c < w) : (nextT t c).Perm t := by
  have := (srtC_perm t c).map (pAt t)
  rwa [tb_non ht hc, range_map] at this
theorem tb_perm {t q : List Row} {w : Nat} (ht : Tb t w) (h : q.Perm t) : Tb q w := ⟨by rw [h.length_eq]; exact ht.lo, by rw [h.length_eq]; exact ht.hi, ht.wl, ht.wh, fun r hr => ht.rows r (h.mem_iff.mp hr)⟩
theorem srt_lt {t : List Row} {c i : Nat} (h : i ∈ srtC t c) : i < t.length := (nonB_lt ((srtC_perm t c).mem_iff.mp h)).1
theorem next_srt {t : List Row} {w c : Nat} (ht : Tb t w) (hc : c < w) (h : srtFrom (c + 1) t) : srtFrom c (nextT t c) := by
  unfold srtFrom nextT
  rw [List.pairwise_map]
  refine (srtC_pair t c).imp_of_mem fun {i j} hi hj hl => ?_
  have hi := srt_lt hi
  have hj := srt_lt hj
  rw [tx_at ht hi hc, tx_at ht hj hc, lexB_cons]
  rcases leC_iff.mp hl with hl | ⟨hl, hij⟩
  · exact .inl hl
  · refine .inr ⟨hl, ?_⟩
    by_cases e : i = j
    · rw [e]; exact lexB_refl _
    · have hp := List.pairwise_iff_getElem.mp h i j hi hj (by omega)
      have e1 : t[i] = pAt t i := by have := p_at hi; rw [List.getElem?_eq_getElem hi] at this; exact Option.some.inj this
      have e2 : t[j] = pAt t j := by have := p_at hj; rw [List.getElem?_eq_getElem hj] at this; exact Option.some.inj this
      rwa [e1, e2] at hp
/-- sorted by a column, the rows stay where they are -/
theorem next_stay {t : List Row} {w c : Nat} (ht : Tb t w) (hc : c < w) : srtC (nextT t c) c = List.range t.length := by
  have hn := tb_perm ht (next_perm ht hc)
  have hl := next_len t w c ht hc
  refine srtC_eq ?_ ?_
  · rw [tb_non hn hc, hl]
  · have hp := srtC_pair t c
    rw [List.pairwise_iff_getElem] at hp ⊢
    intro i j hi hj hij
    simp only [List.length_range] at hi hj
    simp only [List.getElem_range]
    have hsl : (srtC t c).length = t.length := by rw [(srtC_perm t c).length_eq, tb_non ht hc, List.length_range]
    have hg := hp i j (by omega) (by omega) hij
    have ea : ∀ k : Nat, (hk : k < t.length) → cA (nextT t c) c k = cA t c ((srtC t c)[k]'(by omega)) := fun k hk => by
      unfold cA nextT
      have : pAt ((srtC t c).map (pAt t)) k = pAt t ((srtC t c)[k]'(by omega)) := by
        rw [pAt, List.getElem?_map, List.getElem?_eq_getElem (by omega)]
        rfl
      rw [this]
    rw [leC_iff] at hg ⊢
    rw [ea i hi, ea j hj]
    rcases hg with hg | ⟨hg, _⟩
    · exact .inl hg
    · exact .inr ⟨hg, by omega⟩
/-- a table that is sorted from the first column on is the sorted one -/
theorem srt_fin {t q : List Row} {w : Nat} (ht : Tb t w) (hp : q.Perm t) (h : srtFrom 0 q) : sortD (t.map rD) = q.map rD := by
  have hq := tb_perm ht hp
  unfold sortD
  rw [← List.map_mergeSort (r := fun a b => lexB (txs 0 a) (txs 0 b)) (s := PySem.W.dataLe false D.py) (f := rD) (fun a ha b hb => (row_le (ht.rows a ha).2 (ht.rows b hb).2 (by rw [(ht.rows a ha).1, (ht.rows b hb).1])).symm)]
  congr 1
  refine List.Perm.eq_of_pairwise (le := fun a b => lexB (txs 0 a) (txs 0 b) = true) (fun a b ha hb h1 h2 => ?_)
    (List.pairwise_mergeSort (le := fun a b => lexB (txs 0 a) (txs 0 b)) (fun a b c => lexB_trans _ _ _) (fun a b => lexB_total _ _) _) h ((List.mergeSort_perm _ _).trans hp.symm)
  have ha := (List.mergeSort_perm _ _).mem_iff.mp ha
  have e := lexB_anti _ _ h1 h2
  exact txs_inj (ht.rows a ha).2 (hq.rows b hb).2 e
theorem srt_one (t : List Row) (w : Nat) (ht : Tb t w) : srtFrom w t := by
  unfold srtFrom
  rw [List.pairwise_iff_getElem]
  intro i j hi hj _
  have h1 := (ht.rows t[i] (List.getElem_mem hi)).1
  have : txs w t[i] = [] := by
    unfold txs
    rw [List.drop_eq_nil_of_le (by omega)]
    rfl
  rw [this]
  rfl
end M21

namespace M21
open PySem L2 DL
local macro_rules | `(tactic| walk_at "dl") => `(tactic| simp only [wpSs_nil, wpSs_cons, wpS_asg, wpS_asgT, wpS_par, wpS_expr, wpS_ret, wpS_if, wpS_brk, wpS_cnt, wpS_pass, wpS_raise, wpS_for, wpS_while, wpE_lc, wpS.eq_4, wpS.eq_6, wpE.eq_1, wpE.eq_2, wpE.eq_3, wpE.eq_4, wpE.eq_5, wpE.eq_6, wpE.eq_7, wpE.eq_8, wpE.eq_9, wpE.eq_10, wpE.eq_11, wpE.eq_12, wpE.eq_13, wpE.eq_14, wpE.eq_15, wpE.eq_16, wpE.eq_17, wpE.eq_18, wpE.eq_19, wpE.eq_21, wpE.eq_22, wpE.eq_23, wpE.eq_24, wpE.eq_25, wpE.eq_26, wpE.eq_27, wpE.eq_28, wpE.eq_29, wpE.eq_30, wpE.eq_31, wpE.eq_32, wpS_setkey, isB_bl, lstO, tyM, slotsD, D.flat, wpOs, wpA, wpX, wpC, wpI, isVar, isNop, asO, asP, asB_bl, asI_int, Opd.fl, Opd.ob, Opd.at, flat_fz, flat_lst, flat_nil, flat_one, flat_two, flat_three, fzs_map, fzs_nil, osw_some, permS_run, prm_10, prm_102, prm_201, prm_120, prm_210, augD_addI, augD_subI, augD_mulI, augD_fdivI, augD_modI, binD_addI, binD_subI, binD_mulI, binD_fdivI, binD_modI, binD_powI, binD_addT, binD_addL, binD_addS, binD_mulT, binD_mulL, cmpD, ltD_I, ltD_S, leD_I, inD_L, inD_T, inD_S, ix_T, ix_L, ix_R, ix_S, sl_T, sl_L, sl_S, rev_T, rev_L, len_T, len_L, len_S, len_R, tuple_L, tuple_T, list_L, list_T, sum_L, all_L, any_L, max_I, min_I, abs_I, int_I, int_B, mc_app, isi_non, isi_bl, isi_int, isi_str, isi_tup, isi_lst, TyS.int?, TyS.bool?, TyS.str?, TyS.tup?, TyS.lst?, bindT, bindTs, putG, lstAt, lstAt2, toD_fz, toD_lst, toDs_fz, toDs_nil, toDs_cons, seq_T, seq_L, isNon_non, isNon_tup, isNon_lst, isNon_str, isNon_int, isNon_bl, wipeG, Tg.slots, Tg.slotss,
   List.getElem?_cons_zero, List.getElem?_cons_succ, List.set_cons_zero, List.set_cons_succ, Option.join_some, Option.bind_some, Option.map_some, Option.isSome_some, List.length_cons, List.length_nil, List.length_map, List.map_cons, List.map_nil, List.nil_append, List.cons_append, if_true, Bool.false_eq_true, if_false, true_and, and_true, Nat.zero_add, Nat.zero_le, Nat.zero_lt_succ, Nat.reduceLT, Nat.reduceAdd, Nat.reduceLeDiff, Nat.lt_add_one, Bool.not_true, Bool.not_false, decide_true, decide_false, List.forall_mem_cons, List.not_mem_nil, false_implies, implies_true, forall_eq])
theorem kept_tb {t : List Row} {w : Nat} (ht : Tb t w) : ∀ (o : List Nat) (a : Option Nat), (∀ i ∈ o, i < t.length) → keptF t a o = true
  | [], _, _ => by cases ‹Option Nat› <;> rfl
  | i :: o, a, h => by
    have hb : bAt t i = 0 := by
      have hi := h i List.mem_cons_self
      rw [← b_at hi]
      exact fr_blanks (tb_at ht hi).2
    rw [keptF, kept_tb ht o _ fun j hj => h j (List.mem_cons_of_mem _ hj), Bool.and_true]
    cases a with
    | none => rw [fitB, hb]; rfl
    | some j => rw [fitB, hb]; exact decide_eq_true (Nat.zero_le _)
theorem plain_oD (o : List Nat) : D.plain 24 (oD o) = true := plain_oi 23 o
theorem self_oD (o : List Nat) : D.eqv (oD o) (oD o) = true := eqv_self 24 _ (plain_oD o)
def tabS1 (ce : Nat) : Spc where
  run := fun ds k _ => ∃ (t : List Row) (w : Nat), ds = [pD t] ∧ Tb t w ∧ k (.fz (.bl true))
  ce := ce
  ar := 1
theorem plain_tb {t : List Row} {w : Nat} (ht : Tb t w) : D.plain 24 (pD t) = true := plain_page (vp_fr ht) 22
theorem m__law_columns_right {ds : List D} {k : OT → Prop} {x : Ex → Prop} {c1 c2 c3 : Nat} (h : (tabS1 0).run ds k x) : (rawS 5 1 (sb__law_columns_right (soS c1) (poS c2 fun p ord => .lst (((wrongF p ord).map nD).map .fz)) (poS c3 fun p ord => .fz (.bl (keptP p ord))))).run ds k x := by
  obtain ⟨t, w, rfl, ht, h⟩ := h
  refine ⟨rfl, ?_⟩
  show wpSs _ (sb__law_columns_right _ _ _) [some (.fz (.tup (t.map rD))), none, none, none, none] _
  unfold sb__law_columns_right
  have hlo := ht.lo
  have hhi := ht.hi
  have hwl := ht.wl
  have hwh := ht.wh
  have h0 := tb_at ht (i := 0) (by omega)
  refine cut_at fun R hR => ?_
  try walk_at "dl"
  subst hR
  refine cut_at fun R hR => ?_
  try walk_at "dl"
  refine ⟨rD (pAt t 0), atI_nat (j := 0) (by rw [List.getElem?_map, p_at (by omega)]; rfl), ?_⟩
  unfold rD
  try walk_at "dl"
  rw [h0.1]
  refine ⟨by omega, ?_⟩
  have er : (rangeD (-1 + 1) ((w : Int) - 1 + 1)).reverse = ((List.range w).reverse).map nD := by
    rw [show (-1 + 1 : Int) = 0 by omega, show (w : Int) - 1 + 1 = (w : Nat) by omega, range_ints, List.map_reverse]
    rfl
  rw [er]
  refine for_inv (fun ds Γ => ∃ (c : Nat) (q : List Row) (g2 g3 : Option OT), c ≤ w ∧ ds = ((List.range c).reverse).map nD ∧ q.Perm t ∧ srtFrom c q ∧
    Γ = [some (.fz (.tup (t.map rD))), some (.fz (.tup (q.map rD))), g2, g3, none]) _ _ ⟨w, t, none, none, Nat.le_refl _, rfl, .refl _, srt_one t w ht, rfl⟩ ?_ ?_
  · rintro d ds Γ kk ⟨c, q, g2, g3, hcw, hd, hq, hs, rfl⟩ again
    cases c with
    | zero => cases hd
    | succ c =>
      rw [List.range_succ, List.reverse_append, List.reverse_singleton, List.singleton_append, List.map_cons] at hd
      cases hd
      have hc : c < w := by omega
      have tq := tb_perm ht hq
      have vq := vp_fr tq
      have hql : q.length = t.length := hq.length_eq
      have hnx := next_srt tq hc hs
      have hnp := next_perm tq hc
      have tn := tb_perm tq hnp
      have hso : (srtC q c).Perm (List.range q.length) := by have := srtC_perm q c; rwa [tb_non tq hc] at this
      have hk := kept_tb tq (srtC q c) none (perm_lt hso)
      have hw0 := (wrong_nil vq hso).mpr hk
      simp only [bindT, List.length_cons, List.length_nil, Nat.reduceAdd, Nat.reduceLT, true_and, List.set_cons_succ, List.set_cons_zero]
      refine cut_at fun R1 hR1 => ?_
      try walk_at "dl"
      rw [dflS_run]
      refine ⟨q, w, c, true, rfl, vq, hc, ?_⟩
      rw [tb_sort tq hc]
      try walk_at "dl"
      subst hR1
      refine cut_at fun R1 hR1 => ?_
      try walk_at "dl"
      refine ⟨q, w, srtC q c, rfl, vq, hso, ?_⟩
      try walk_at "dl"
      rw [show keptP q (srtC q c) = true from hk]
      try walk_at "dl"
      refine ⟨q, w, srtC q c, rfl, vq, hso, ?_⟩
      try walk_at "dl"
      rw [hw0]
      try walk_at "dl"
      refine ⟨rfl, rfl, ?_⟩
      rw [show D.eqv (.lst []) (.lst []) = true from rfl]
      try walk_at "dl"
      subst hR1
      refine cut_at fun R1 hR1 => ?_
      rw [show oD (srtC q c) = .tup ((srtC q c).map nD) from rfl]
      try walk_at "dl"
      let f : D → D := fun d => match d with
        | .int i => rD (pAt q i.toNat)
        | _ => .non
      refine lc_map f rfl (by rw [List.length_map, perm_len hso]; have := LIMe; omega) (fun d hd k2 hk2 => ?_) fun Δ hΔ => ?_
      · obtain ⟨i, hi, rfl⟩ := List.mem_map.mp hd
        have hi := srt_lt hi
        have hk2 := hk2
        simp only [f, nD, Int.toNat_natCast] at hk2
        unfold nD
        try walk_at "dl"
        refine ⟨rD (pAt q i), atI_nat (by rw [List.getElem?_map, p_at hi]; rfl), ?_⟩
        exact hk2 _ rfl
      · try rw [hΔ]
        have ef : ((srtC q c).map nD).map f = (nextT q c).map rD := by
          unfold nextT
          rw [List.map_map, List.map_map]
          refine List.map_congr_left fun i _ => ?_
          show rD (pAt q (Int.toNat ((i : Nat) : Int))) = _
          rw [Int.toNat_natCast]
          rfl
        rw [ef]
        try walk_at "dl"
        subst hR1
        refine cut_at fun R1 hR1 => ?_
        try walk_at "dl"
        refine ⟨nextT q c, w, c, false, rfl, vp_fr tn, hc, ?_⟩
        rw [tb_sort tn hc, next_stay tq hc, next_len q w c tq hc]
        try walk_at "dl"
        refine ⟨_, rfl, by omega, by omega, ?_⟩
        rw [show D.tup (rangeD 0 (q.length : Int)) = oD (List.range q.length) from congrArg D.tup (range_ints _)]
        try walk_at "dl"
        refine ⟨plain_oD _, plain_oD _, ?_⟩
        rw [self_oD]
        try walk_at "dl"
        subst hR1
        try walk_at "dl"
        exact again _ ⟨c, nextT q c, _, _, by omega, rfl, hnp.trans hq, hnx, rfl⟩
  · rintro Γ ⟨c, q, g2, g3, hcw, hd, hq, hs, rfl⟩
    cases c with
    | succ c =>
      rw [List.range_succ, List.reverse_append, List.reverse_singleton, List.singleton_append, List.map_cons] at hd
      cases hd
    | zero =>
      have tq := tb_perm ht hq
      subst hR
      try walk_at "dl"
      refine ⟨t.map rD, rfl, srt_rows (fun r hr => (ht.rows r hr).2) (fun r hr => by rw [(ht.rows r hr).1]; exact hwl), ?_⟩
      rw [srt_fin ht hq hs]
      try walk_at "dl"
      rw [show D.tup (q.map rD) = pD q from rfl]
      refine ⟨plain_tb tq, plain_tb tq, ?_⟩
      rw [eqv_self 24 _ (plain_tb tq)]
      exact h
def clD (p : List Row) (c i : Nat) : D := cD (cA p c i)
theorem cl_srt {p : List Row} {w c : Nat} (hv : Vq p w) (hc : c < w) {l : List Nat} (h : ∀ i ∈ l, i < p.length ∧ ∃ x, cA p c i = some x) : srtOk (l.map (clD p c)) := by
  refine ⟨?_, .inr ?_, ?_⟩
  · intro d hd d' hd'
    rw [List.map_map] at hd hd'
    obtain ⟨a, ha, rfl⟩ := List.mem_map.mp hd
    obtain ⟨b, hb, rfl⟩ := List.mem_map.mp hd'
    obtain ⟨_, x, ex⟩ := h a ha
    obtain ⟨_, y, ey⟩ := h b hb
    show PySem.W.alike (D.py (clD p c a)) (D.py (clD p c b)) = true
    unfold clD
    rw [ex, ey]
    rfl
  · intro d hd
    rw [List.map_map] at hd
    obtain ⟨a, ha, rfl⟩ := List.mem_map.mp hd
    obtain ⟨_, x, ex⟩ := h a ha
    show D.py (clD p c a) ≠ .none ∧ ∀ xs, D.py (clD p c a) ≠ .tuple xs
    unfold clD
    rw [ex]
    exact ⟨(fun e => by cases e), fun xs e => by cases e⟩
  · induction l with
    | nil => rfl
    | cons i is ih =>
      rw [List.map_cons, D.plains, ih fun j hj => h j (List.mem_cons_of_mem _ hj), Bool.and_true]
      obtain ⟨hi, x, ex⟩ := h i List.mem_cons_self
      have hvc := vr_cells (vr_at hv hi) (some x) (ex ▸ List.mem_of_getElem? (cell_at hv hi hc))
      rcases hvc with hvc | ⟨y, e, hy⟩
      · cases hvc
      · cases e
        unfold clD
        rw [ex]
        exact vc_plain hy _
theorem plain_cl {p : List Row} {w c : Nat} (hv : Vq p w) (hc : c < w) {l : List Nat} (h : ∀ i ∈ l, i < p.length) : D.plain 24 (.lst (l.map (clD p c))) = true := by
  show D.plains 23 (l.map (clD p c)) = true
  induction l with
  | nil => rfl
  | cons i is ih =>
    rw [List.map_cons, D.plains, ih fun j hj => h j (List.mem_cons_of_mem _ hj), Bool.and_true]
    rcases vr_cells (vr_at hv (h i List.mem_cons_self)) (cA p c i) (List.mem_of_getElem? (cell_at hv (h i List.mem_cons_self) hc)) with e | ⟨y, e, hy⟩
    · unfold clD; rw [e]; rfl
    · unfold clD; rw [e]; exact vc_plain hy _
theorem cl_sorted (p : List Row) (c : Nat) : sortD ((srtC p c).map (clD p c)) = (srtC p c).map (clD p c) := by
  unfold sortD
  refine List.mergeSort_of_pairwise ?_
  rw [List.pairwise_map]
  refine (srtC_pair p c).imp_of_mem fun {i j} hi hj hl => ?_
  obtain ⟨_, x, ex⟩ := nonB_lt ((srtC_perm p c).mem_iff.mp hi)
  obtain ⟨_, y, ey⟩ := nonB_lt ((srtC_perm p c).mem_iff.mp hj)
  unfold clD
  rw [ex, ey]
  rw [leC_iff, ex, ey] at hl
  show (!PyProof.Rows.lexLt PyProof.Rows.itemOrd [.inr y.cps.toList] [.inr x.cps.toList]) = true
  rcases hl with hl | ⟨hl, _⟩
  · have hl : x.cps.toList < y.cps.toList := hl
    rw [PyProof.Rows.lex_diff (fun z => by have := Sum.inr.inj z; rw [this] at hl; exact List.lt_irrefl _ hl)]
    show (!decide (y.cps.toList < x.cps.toList)) = true
    rw [decide_eq_false (fun z => List.lt_irrefl _ (List.lt_trans hl z))]
    rfl
  · have hl : x.cps.toList = y.cps.toList := hl
    rw [hl, PyProof.Rows.lex_irrefl]
    rfl
theorem cl_blk (p : List Row) (c : Nat) : (blkB p c).map (clD p c) = List.replicate (blkB p c).length .non := by
  rw [List.eq_replicate_iff]
  refine ⟨List.length_map .., fun d hd => ?_⟩
  obtain ⟨i, hi, rfl⟩ := List.mem_map.mp hd
  have := (List.mem_filter.mp hi).2
  unfold clD
  cases q : cA p c i with
  | none => rfl
  | some z => rw [q] at this; cases this
theorem cl_fil (p : List Row) (c : Nat) (b : Bool) : ((((sortO p c b).map (clD p c)).filter fun d => !d.isNon).map id) = (srtC p c).map (clD p c) := by
  have h1 : ((srtC p c).map (clD p c)).filter (fun d => !d.isNon) = (srtC p c).map (clD p c) := by
    rw [List.filter_eq_self]
    intro d hd
    obtain ⟨i, hi, rfl⟩ := List.mem_map.mp hd
    obtain ⟨_, x, ex⟩ := nonB_lt ((srtC_perm p c).mem_iff.mp hi)
    unfold clD
    rw [ex]
    rfl
  have h2 : ((blkB p c).map (clD p c)).filter (fun d => !d.isNon) = [] := by
    rw [cl_blk, List.filter_eq_nil_iff]
    intro d hd
    rw [(List.mem_replicate.mp hd).2]
    simp [D.isNon]
  rw [List.map_id]
  unfold sortO
  cases b with
  | true => rw [if_pos rfl, List.map_append, List.filter_append, h1, h2, List.append_nil]
  | false => rw [if_neg (by decide), List.map_append, List.filter_append, h1, h2, List.nil_append]
theorem so_len (p : List Row) (c : Nat) : (srtC p c).length + (blkB p c).length = p.length := by
  have := (sortO_perm p c true).length_eq
  unfold sortO at this
  rwa [if_pos rfl, List.length_append, List.length_range] at this
/-- a row that is blank in its first cell is wrong if it comes first -/
theorem first_wrong {p : List Row} {w i : Nat} {o : List Nat} (hv : Vp p w) (hi : i < p.length) (hn : cA p 0 i = none) : i ∈ wrongL p (i :: o) (readRows none (bentP p (i :: o))) := by
  have hx := ix_of hv hi
  have hwl := hv.wl
  unfold wrongL
  refine List.mem_map.mpr ⟨(i, readOne none (pAt p i)), List.mem_filter.mpr ⟨?_, ?_⟩, rfl⟩
  · unfold bentP
    rw [List.map_cons, readRows, List.zip_cons_cons]
    exact List.mem_cons_self
  · rw [decide_eq_true_eq]
    intro e
    have e : readOne none (pAt p i) = fAt p i := e
    have e0 : readOne none (pAt p i) = pAt p i := by unfold readOne; simp
    rw [e0] at e
    have hc := cell_at hv.q hi (c := 0) (by omega)
    rw [hn, e] at hc
    obtain ⟨x, ex, _⟩ := hx.fr _ (List.mem_of_getElem? hc)
    cases ex
def lprS (ce : Nat) : Spc where
  run := fun ds k _ => ∃ (p : List Row) (w c : Nat) (b : Bool), ds = [pD p, nD c, .bl b] ∧ Vp p w ∧ c < w ∧ k (.fz (.bl true))
  ce := ce
  ar := 3
theorem eqv_bb (a b : Bool) : D.eqv (.bl a) (.bl b) = (a == b) := rfl
def nnB (d : D) : Bool := !d.isNon
theorem m__law_page_right {ds : List D} {k : OT → Prop} {x : Ex → Prop} {c1 c2 c3 c4 c5 : Nat} (h : (lprS 0).run ds k x) : (rawS 14 3 (sb__law_page_right (soS c1) (pageS c2 fun p => .fz (pD (readRows none p))) (poS c3 fun p ord => .fz (.lst ((readRows none (bentP p ord)).map rD))) (poS c4 fun p ord => .fz (.bl (keptP p ord))) (poS c5 fun p ord => .lst (((wrongF p ord).map nD).map .fz)))).run ds k x := by
  obtain ⟨p, w, c, b, rfl, hv, hc, h⟩ := h
  refine ⟨rfl, ?_⟩
  show wpSs _ (sb__law_page_right _ _ _ _ _) [some (.fz (.tup (p.map rD))), some (.fz (nD c)), some (.fz (.bl b)), none, none, none, none, none, none, none, none, none, none, none] _
  unfold sb__law_page_right
  have h60 := hv.hi
  have hlo := hv.lo
  have hp := sortO_perm p c b
  have hlt := perm_lt hp
  have hln := perm_len hp
  have hsl := so_len p c
  refine cut_at fun R hR => ?_
  try walk_at "dl"
  refine ⟨p, w, c, b, rfl, hv, hc, ?_⟩
  try walk_at "dl"
  generalize ho : sortO p c b = o at *
  rw [show oD o = .tup (o.map nD) from rfl]
  subst hR
  refine cut_at fun R hR => ?_
  try walk_at "dl"
  let f : D → D := fun d => match d with
    | .int i => clD p c i.toNat
    | _ => .non
  have ef : (o.map nD).map f = o.map (clD p c) := by
    rw [List.map_map]
    refine List.map_congr_left fun i _ => ?_
    show clD p c (Int.toNat ((i : Nat) : Int)) = _
    rw [Int.toNat_natCast]
  refine lc_map f rfl (by rw [List.length_map, hln]; have := LIMe; omega) (fun d hd k2 hk2 => ?_) fun Δ hΔ => ?_
  · obtain ⟨i, hi, rfl⟩ := List.mem_map.mp hd
    have hi := hlt i hi
    have hk2 := hk2
    simp only [f, nD, clD, Int.toNat_natCast] at hk2
    unfold nD
    try walk_at "dl"
    refine ⟨rD (pAt p i), atI_nat (by rw [List.getElem?_map, p_at hi]; rfl), ?_⟩
    unfold rD
    try walk_at "dl"
    refine ⟨cD (cA p c i), atI_nat (by rw [List.getElem?_map, cell_at hv.q hi hc]; rfl), ?_⟩
    exact hk2 _ rfl
  try rw [hΔ]
  rw [ef]
  try walk_at "dl"
  subst hR
  refine cut_at fun R hR => ?_
  try walk_at "dl"
  refine lc_filter nnB id rfl (by rw [List.length_map, hln]; have := LIMe; omega) (fun d hd k2 hk2 => ?_) fun Δ2 hΔ2 => ?_
  · simp only [wipeG, bindT, List.length_cons, List.length_nil, Nat.reduceAdd, Nat.reduceLT, true_and, List.set_cons_succ, List.set_cons_zero]
    try walk_at "dl"
    simp only [nnB, id] at hk2
    cases q : (!d.isNon)
    · rw [q] at hk2
      try walk_at "dl"
      exact hk2 _ rfl
    · rw [q] at hk2
      try walk_at "dl"
      exact hk2 _ rfl
  try rw [hΔ2]
  have e1 : ((o.map (clD p c)).filter nnB).map id = (srtC p c).map (clD p c) := by rw [← ho]; exact cl_fil p c b
  rw [e1]
  try walk_at "dl"
  subst hR
  refine cut_at fun R hR => ?_
  try walk_at "dl"
  have hbn : ((o.length : Int) - ((srtC p c).length : Int)).toNat = (blkB p c).length := by omega
  refine ⟨by decide, by omega, by omega, ?_⟩
  rw [hbn]
  have er : (List.replicate (blkB p c).length [D.non]).flatten = (blkB p c).map (clD p c) := by
    rw [cl_blk]
    induction (blkB p c).length with
    | zero => rfl
    | succ n ih => rw [List.replicate_succ, List.flatten_cons, ih]; rfl
  rw [er]
  subst hR
  refine cut_at fun R hR => ?_
  have pS : D.plain 24 (.lst ((srtC p c).map (clD p c))) = true := plain_cl hv.q hc (fun i hi => srt_lt hi)
  have pO : D.plain 24 (.lst (o.map (clD p c))) = true := plain_cl hv.q hc hlt
  try walk_at "dl"
  refine ⟨cl_srt hv.q hc (fun i hi => nonB_lt ((srtC_perm p c).mem_iff.mp hi)), ?_⟩
  rw [cl_sorted]
  try walk_at "dl"
  refine ⟨pS, pS, ?_⟩
  rw [eqv_self 24 _ pS]
  try walk_at "dl"
  have eo : o.map (clD p c) = if b = true then (srtC p c).map (clD p c) ++ (blkB p c).map (clD p c) else (blkB p c).map (clD p c) ++ (srtC p c).map (clD p c) := by
    rw [← ho]
    unfold sortO
    cases b <;> simp
  suffices key : wpSs (fun y x_1 => x y) R [some (.fz (.tup (p.map rD))), some (.fz (nD c)), some (.fz (.bl b)), some (.fz (.tup (o.map nD))), some (.fz (.lst (o.map (clD p c)))), some (.lst (((srtC p c).map (clD p c)).map .fz)), some (.lst (((blkB p c).map (clD p c)).map .fz)), none, none, none, none, none, none, none] { nx := fun x => k (.fz .non), rt := k } by
    cases b with
    | true =>
      rw [if_pos rfl] at eo ⊢
      rw [← eo]
      refine ⟨by have := LIMe; omega, pO, pO, ?_⟩
      rw [eqv_self 24 _ pO]
      exact key
    | false =>
      rw [if_neg (by decide)] at eo ⊢
      rw [← eo]
      refine ⟨by have := LIMe; omega, pO, pO, ?_⟩
      rw [eqv_self 24 _ pO]
      exact key
  clear eo pS pO er hbn e1 ef
  generalize ((srtC p c).map (clD p c)).map OT.fz = g5 at *
  generalize ((blkB p c).map (clD p c)).map OT.fz = g6 at *
  generalize o.map (clD p c) = g4 at *
  subst hR
  refine cut_at fun R hR => ?_
  rw [show D.tup (p.map rD) = pD p from rfl, show D.tup (o.map nD) = oD o from rfl]
  try walk_at "dl"
  refine ⟨p, w, rfl, hv, ?_⟩
  try walk_at "dl"
  refine ⟨p, w, o, rfl, hv, hp, ?_⟩
  try walk_at "dl"
  subst hR
  refine cut_at fun R hR => ?_
  rw [show oD o = .tup (o.map nD) from rfl, show pD (readRows none p) = .tup ((readRows none p).map rD) from rfl]
  try walk_at "dl"
  have hz := zip_lenR o (readRows none (bentP p o))
  have hoc := read_oc (bent_q hv.q hp)
  refine lc_filter (neF p) fstN rfl (by have := LIMe; omega) (fun d hd kk hk => ?_) fun Δ hΔ => ?_
  · obtain ⟨i, r, h1, h2, rfl⟩ := zip_memR o _ d hd
    have hx := ix_of hv (hlt i h1)
    have hk := hk
    simp only [neF, fstN, nD, rD, Int.toNat_natCast] at hk
    unfold nD
    try walk_at "dl"
    refine ⟨rD (fAt p i), atI_nat (by rw [List.getElem?_map, hx.f]; rfl), ?_⟩
    unfold rD
    try walk_at "dl"
    refine ⟨oc_plain (hoc r h2).2 23, oc_plain (fun c hc => .inr (hx.fr c hc)) 23, ?_⟩
    cases hq : (!(D.tup (r.map cD)).eqv (.tup ((fAt p i).map cD)))
    · rw [hq] at hk
      try walk_at "dl"
      exact hk _ rfl
    · rw [hq] at hk
      try walk_at "dl"
      exact hk _ rfl
  try rw [hΔ]
  try walk_at "dl"
  rw [zip_wrong]
  have hwn := wrong_nil hv hp
  have hfw : ∀ i o', o = i :: o' → cA p 0 i = none → i ∈ wrongL p o (readRows none (bentP p o)) := fun i o' e hn => by
    subst e
    exact first_wrong hv (hlt i List.mem_cons_self) hn
  have hsn : sortN (wrongL p o (readRows none (bentP p o))) = wrongF p o := rfl
  have hwl : (wrongL p o (readRows none (bentP p o))).length ≤ o.length := by
    unfold wrongL
    rw [List.length_map]
    refine Nat.le_trans (List.length_filter_le _ _) ?_
    rw [List.length_zip]
    exact Nat.min_le_left _ _
  have hwe : wrongF p o = [] ↔ wrongL p o (readRows none (bentP p o)) = [] := by
    rw [← hsn]
    unfold sortN
    rw [← List.length_eq_zero_iff, List.length_mergeSort, List.length_eq_zero_iff]
  generalize wrongL p o (readRows none (bentP p o)) = W at *
  have pW : ∀ L : List Nat, D.plain 24 (.lst (L.map nD)) = true := fun L => plain_oi 23 L
  subst hR
  refine cut_at fun R hR => ?_
  try walk_at "dl"
  refine ⟨srt_ints _, ?_⟩
  rw [sort_nD, hsn]
  try walk_at "dl"
  refine ⟨p, w, o, rfl, hv, hp, ?_⟩
  try walk_at "dl"
  refine ⟨pW _, pW _, ?_⟩
  rw [eqv_self 24 _ (pW _)]
  try walk_at "dl"
  refine ⟨p, w, o, rfl, hv, hp, ?_⟩
  try walk_at "dl"
  refine ⟨pW _, rfl, ?_⟩
  rw [eqv_nil]
  have ek : (W.map nD).isEmpty = keptP p o := by
    cases q : keptP p o with
    | true =>
      rw [hwe.mp (hwn.mpr q)]
      rfl
    | false =>
      cases W with
      | nil => rw [hwn.mp (hwe.mpr rfl)] at q; cases q
      | cons a l => rfl
  rw [ek]
  try walk_at "dl"
  refine ⟨plain_bl _ _, plain_bl _ _, ?_⟩
  rw [eqv_bb, beq_self_eq_true]
  try walk_at "dl"
  subst hR
  refine cut_at fun R hR => ?_
  obtain ⟨i, o', rfl⟩ : ∃ i o', o = i :: o' := by
    cases o with
    | nil => rw [List.length_nil] at hln; omega
    | cons i o' => exact ⟨i, o', rfl⟩
  have hi := hlt i List.mem_cons_self
  have hwl1 := hv.wl
  have hfi := hfw i o' rfl
  rw [show pD p = .tup (p.map rD) from rfl]
  unfold nD
  try walk_at "dl"
  refine ⟨.int (i : Nat), atI_nat (j := 0) rfl, ?_⟩
  try walk_at "dl"
  refine ⟨rD (pAt p i), atI_nat (by rw [List.getElem?_map, p_at hi]; rfl), ?_⟩
  unfold rD
  try walk_at "dl"
  refine ⟨cD (cA p 0 i), atI_nat (j := 0) (by rw [List.getElem?_map, cell_at hv.q hi (by omega)]; rfl), ?_⟩
  try walk_at "dl"
  subst hR
  try walk_at "dl"
  rw [isNon_cD]
  cases q : cA p 0 i with
  | some z =>
    rw [show (!(some z : Option Str).isNone) = true from rfl, if_pos rfl]
    exact h
  | none =>
    rw [show (!(none : Option Str).isNone) = false from rfl, if_neg (by decide)]
    refine ⟨nD i, atI_nat (j := 0) rfl, rfl, flats_nD _, ?_⟩
    have e : hasD (nD i) (W.map nD) = true := by rw [has_nD]; exact decide_eq_true (hfi q)
    have h : k (.fz (.bl true)) := h
    rw [← e] at h
    exact h
theorem m_law {ds : List D} {k : OT → Prop} {x : Ex → Prop} {c1 c2 c3 c4 c5 : Nat} (h : (lawS 0).run ds k x) : (rawS 6 1 (sb_law (deckS c1) (_law_tableS c2) (drawS 0) (_law_pageS c3) (tabS1 c4) (lprS c5))).run ds k x := by
  obtain ⟨ns, rfl, h⟩ := h
  refine ⟨rfl, ?_⟩
  show wpSs _ (sb_law _ _ _ _ _ _) [some (.fz (.scr ns)), none, none, none, none, none] _
  unfold sb_law
  refine cut_at fun R hR => ?_
  try walk_at "dl"
  refine ⟨ns, rfl, fun a => ?_⟩
  try walk_at "dl"
  subst hR
  refine cut_at fun R hR => ?_
  try walk_at "dl"
  generalize hN : (if (if (ns.length : Int) < 5 then (ns.length : Int) else 5) > 2 then if (ns.length : Int) < 5 then (ns.length : Int) else 5 else 2) = N
  have hN1 : 2 ≤ N ∧ N ≤ 5 := by
    rw [← hN]
    split
    · split <;> omega
    · omega
  refine ⟨by omega, by omega, for_inv (fun ds Γ => ∃ (j : Int) (g2 g3 g4 g5 : Option OT), 0 ≤ j ∧ ds = rangeD j N ∧ Γ = [some (.fz (.scr ns)), some (.fz (.opq 0 a)), g2, g3, g4, g5]) _ _ ⟨0, none, none, none, none, by omega, rfl, rfl⟩ ?_ ?_⟩
  · rintro d ds Γ kk ⟨j, g2, g3, g4, g5, hj0, hd, rfl⟩ again
    obtain ⟨hlt, rfl, rfl⟩ := rangeD_inv hd
    simp only [bindT, List.length_cons, List.length_nil, Nat.reduceAdd, Nat.reduceLT, true_and, List.set_cons_succ, List.set_cons_zero]
    refine cut_at fun R1 hR1 => ?_
    try walk_at "dl"
    refine ⟨by decide, by decide, ?_⟩
    obtain ⟨i, most, hi, hget, hm1, hm60⟩ : ∃ (i : Nat) (most : Int), j % 2 = i ∧ [D.int 60, .int 10][i]? = some (.int most) ∧ 1 ≤ most ∧ most ≤ 60 := by
      have : j % 2 = 0 ∨ j % 2 = 1 := by omega
      rcases this with e | e
      · exact ⟨0, 60, e, rfl, by decide, by decide⟩
      · exact ⟨1, 10, e, rfl, by decide, by decide⟩
    rw [hi]
    refine ⟨_, atI_nat hget, a, 6, rfl, by decide, by decide, fun d hd0 hd6 => ?_⟩
    obtain ⟨w, hw⟩ : ∃ w : Nat, 1 + d = w := ⟨(1 + d).toNat, by omega⟩
    try walk_at "dl"
    rw [hw]
    refine ⟨a, most, w, rfl, hm1, hm60, by omega, by omega, fun t ht _ => ?_⟩
    subst hR1
    refine cut_at fun R1 hR1 => ?_
    try walk_at "dl"
    refine ⟨a, t, w, rfl, ht, fun bs he => ?_⟩
    have hv := vp_with ht he
    generalize List.zipWith withR t bs = p at *
    have hpl := hv.lo
    have hw6 := hv.wh
    have h0 := vr_at hv.q (i := 0) (by omega)
    subst hR1
    refine cut_at fun R1 hR1 => ?_
    try walk_at "dl"
    refine ⟨t, w, rfl, ht, ?_⟩
    try walk_at "dl"
    subst hR1
    rw [show pD p = .tup (p.map rD) from rfl]
    try walk_at "dl"
    refine ⟨rD (pAt p 0), atI_nat (j := 0) (by rw [List.getElem?_map, p_at (by omega)]; rfl), ?_⟩
    unfold rD
    try walk_at "dl"
    rw [h0.len]
    refine ⟨by omega, by omega, ?_⟩
    rw [show rangeD 0 (w : Int) = (List.range w).map nD from range_ints _]
    refine for_inv (fun ds Γ => (∀ d ∈ ds, ∃ c : Nat, d = nD c ∧ c < w) ∧ ∃ g5 : Option OT, Γ = [some (.fz (.scr ns)), some (.fz (.opq 0 a)), some (.fz (.int j)), some (.fz (pD t)), some (.fz (.tup (p.map rD))), g5]) _ _ ⟨?_, g5, rfl⟩ ?_ ?_
    · intro d hd
      obtain ⟨c, hc, rfl⟩ := List.mem_map.mp hd
      exact ⟨c, rfl, List.mem_range.mp hc⟩
    · rintro d ds Γ k2 ⟨hall, g5, rfl⟩ again2
      obtain ⟨c, rfl, hc⟩ := hall d List.mem_cons_self
      simp only [bindT, List.length_cons, List.length_nil, Nat.reduceAdd, Nat.reduceLT, true_and, List.set_cons_succ, List.set_cons_zero]
      try walk_at "dl"
      refine ⟨p, w, c, true, rfl, hv, hc, ?_⟩
      try walk_at "dl"
      refine ⟨p, w, c, false, rfl, hv, hc, ?_⟩
      try walk_at "dl"
      exact again2 _ ⟨fun d hd => hall d (List.mem_cons_of_mem _ hd), _, rfl⟩
    · rintro Γ ⟨_, g5, rfl⟩
      exact again _ ⟨j + 1, _, _, _, _, by omega, rfl, rfl⟩
  · rintro Γ ⟨j, g2, g3, g4, g5, hj0, hd, rfl⟩
    subst hR
    try walk_at "dl"
    exact h
end M21

namespace M21
open PySem PySem.W PyProof.Rows L2 DL
set_option maxHeartbeats 0 in
theorem all_mk {w : World} {K : PySem.W.Frag} {h : Heap} {mg : Str → Option Value} {fa f__law_deck f__law_draw f__law_value f__law_table f__law_shared f__law_most f__law_with f__law_page f_blanks_in f_is_cell f_is_printed_row f_are_printed_rows f_has_page_form f_require_page f_is_integer f_sort_order f_is_order_of f_require_order f_read_rows f_read_in f_wrong_rows f_parts_in f_shared_by f_fits_behind f_is_kept f_keeps f__law_columns_right f_filled f__law_page_right f_law : Addr} (X : K.In h) (G : h.Ns mainGlobals mg) (hfa : mg "law" = some (.ref fa))
    {od__law_deck an__law_deck od__law_draw an__law_draw od__law_value an__law_value od__law_table an__law_table od__law_shared an__law_shared od__law_most an__law_most od__law_with an__law_with od__law_page an__law_page od_blanks_in an_blanks_in od_is_cell an_is_cell od_is_printed_row an_is_printed_row od_are_printed_rows an_are_printed_rows od_has_page_form an_has_page_form od_require_page an_require_page od_is_integer an_is_integer od_sort_order an_sort_order od_is_order_of an_is_order_of od_require_order an_require_order od_read_rows an_read_rows od_read_in an_read_in od_wrong_rows an_wrong_rows od_parts_in an_parts_in od_shared_by an_shared_by od_fits_behind an_fits_behind od_is_kept an_is_kept od_keeps an_keeps od__law_columns_right an__law_columns_right od_filled an_filled od__law_page_right an__law_page_right od_law an_law : Option Addr} {sl__law_deck sl__law_draw sl__law_value sl__law_table sl__law_shared sl__law_most sl__law_with sl__law_page sl_blanks_in sl_is_cell sl_is_printed_row sl_are_printed_rows sl_has_page_form sl_require_page sl_is_integer sl_sort_order sl_is_order_of sl_require_order sl_read_rows sl_read_in sl_wrong_rows sl_parts_in sl_shared_by sl_fits_behind sl_is_kept sl_keeps sl__law_columns_right sl_filled sl__law_page_right sl_law : Array (Option Value)}
    {oc__law_deck kV__law_deck dc__law_deck pm__law_deck cd__law_deck ct__law_deck oc__law_draw kV__law_draw dc__law_draw pm__law_draw cd__law_draw ct__law_draw oc__law_value kV__law_value dc__law_value pm__law_value cd__law_value ct__law_value oc__law_table kV__law_table dc__law_table pm__law_table cd__law_table ct__law_table oc__law_shared kV__law_shared dc__law_shared pm__law_shared cd__law_shared ct__law_shared oc__law_most kV__law_most dc__law_most pm__law_most cd__law_most ct__law_most oc__law_with kV__law_with dc__law_with pm__law_with cd__law_with ct__law_with oc__law_page kV__law_page dc__law_page pm__law_page cd__law_page ct__law_page oc_blanks_in kV_blanks_in dc_blanks_in pm_blanks_in cd_blanks_in ct_blanks_in oc_is_cell kV_is_cell dc_is_cell pm_is_cell cd_is_cell ct_is_cell oc_is_printed_row kV_is_printed_row dc_is_printed_row pm_is_printed_row cd_is_printed_row ct_is_printed_row oc_are_printed_rows kV_are_printed_rows dc_are_printed_rows pm_are_printed_rows cd_are_printed_rows ct_are_printed_rows oc_has_page_form kV_has_page_form dc_has_page_form pm_has_page_form cd_has_page_form ct_has_page_form oc_require_page kV_require_page dc_require_page pm_require_page cd_require_page ct_require_page oc_is_integer kV_is_integer dc_is_integer pm_is_integer cd_is_integer ct_is_integer oc_sort_order kV_sort_order dc_sort_order pm_sort_order cd_sort_order ct_sort_order oc_is_order_of kV_is_order_of dc_is_order_of pm_is_order_of cd_is_order_of ct_is_order_of oc_require_order kV_require_order dc_require_order pm_require_order cd_require_order ct_require_order oc_read_rows kV_read_rows dc_read_rows pm_read_rows cd_read_rows ct_read_rows oc_read_in kV_read_in dc_read_in pm_read_in cd_read_in ct_read_in oc_wrong_rows kV_wrong_rows dc_wrong_rows pm_wrong_rows cd_wrong_rows ct_wrong_rows oc_parts_in kV_parts_in dc_parts_in pm_parts_in cd_parts_in ct_parts_in oc_shared_by kV_shared_by dc_shared_by pm_shared_by cd_shared_by ct_shared_by oc_fits_behind kV_fits_behind dc_fits_behind pm_fits_behind cd_fits_behind ct_fits_behind oc_is_kept kV_is_kept dc_is_kept pm_is_kept cd_is_kept ct_is_kept oc_keeps kV_keeps dc_keeps pm_keeps cd_keeps ct_keeps oc__law_columns_right kV__law_columns_right dc__law_columns_right pm__law_columns_right cd__law_columns_right ct__law_columns_right oc_filled kV_filled dc_filled pm_filled cd_filled ct_filled oc__law_page_right kV__law_page_right dc__law_page_right pm__law_page_right cd__law_page_right ct__law_page_right oc_law kV_law dc_law pm_law cd_law ct_law : Value}
    (a__law_deck : PySem.W.nsIn K mainGlobals "_law_deck" = some (some (.ref f__law_deck)))
    (l__law_deck : K.lookup f__law_deck = some ⟨oc__law_deck, od__law_deck, .func (PySem.W.fnOf "_law_deck" "_law_deck" (defArgs s__law_deck) (defBody s__law_deck) (defScope s__law_deck) .none kV__law_deck dc__law_deck pm__law_deck an__law_deck cd__law_deck ct__law_deck), sl__law_deck⟩)
    (c__law_deck : PySem.W.codeIn K cd__law_deck "_law_deck" = true) (k__law_deck : PySem.W.keepIn K (.ref f__law_deck) = true)
    (a__law_draw : PySem.W.nsIn K mainGlobals "_law_draw" = some (some (.ref f__law_draw)))
    (l__law_draw : K.lookup f__law_draw = some ⟨oc__law_draw, od__law_draw, .func (PySem.W.fnOf "_law_draw" "_law_draw" (defArgs s__law_draw) (defBody s__law_draw) (defScope s__law_draw) .none kV__law_draw dc__law_draw pm__law_draw an__law_draw cd__law_draw ct__law_draw), sl__law_draw⟩)
    (c__law_draw : PySem.W.codeIn K cd__law_draw "_law_draw" = true) (k__law_draw : PySem.W.keepIn K (.ref f__law_draw) = true)
    (a__law_value : PySem.W.nsIn K mainGlobals "_law_value" = some (some (.ref f__law_value)))
    (l__law_value : K.lookup f__law_value = some ⟨oc__law_value, od__law_value, .func (PySem.W.fnOf "_law_value" "_law_value" (defArgs s__law_value) (defBody s__law_value) (defScope s__law_value) .none kV__law_value dc__law_value pm__law_value an__law_value cd__law_value ct__law_value), sl__law_value⟩)
    (c__law_value : PySem.W.codeIn K cd__law_value "_law_value" = true) (k__law_value : PySem.W.keepIn K (.ref f__law_value) = true)
    (a__law_table : PySem.W.nsIn K mainGlobals "_law_table" = some (some (.ref f__law_table)))
    (l__law_table : K.lookup f__law_table = some ⟨oc__law_table, od__law_table, .func (PySem.W.fnOf "_law_table" "_law_table" (defArgs s__law_table) (defBody s__law_table) (defScope s__law_table) .none kV__law_table dc__law_table pm__law_table an__law_table cd__law_table ct__law_table), sl__law_table⟩)
    (c__law_table : PySem.W.codeIn K cd__law_table "_law_table" = true) (k__law_table : PySem.W.keepIn K (.ref f__law_table) = true)
    (a__law_shared : PySem.W.nsIn K mainGlobals "_law_shared" = some (some (.ref f__law_shared)))
    (l__law_shared : K.lookup f__law_shared = some ⟨oc__law_shared, od__law_shared, .func (PySem.W.fnOf "_law_shared" "_law_shared" (defArgs s__law_shared) (defBody s__law_shared) (defScope s__law_shared) .none kV__law_shared dc__law_shared pm__law_shared an__law_shared cd__law_shared ct__law_shared), sl__law_shared⟩)
    (c__law_shared : PySem.W.codeIn K cd__law_shared "_law_shared" = true) (k__law_shared : PySem.W.keepIn K (.ref f__law_shared) = true)
    (a__law_most : PySem.W.nsIn K mainGlobals "_law_most" = some (some (.ref f__law_most)))
    (l__law_most : K.lookup f__law_most = some ⟨oc__law_most, od__law_most, .func (PySem.W.fnOf "_law_most" "_law_most" (defArgs s__law_most) (defBody s__law_most) (defScope s__law_most) .none kV__law_most dc__law_most pm__law_most an__law_most cd__law_most ct__law_most), sl__law_most⟩)
    (c__law_most : PySem.W.codeIn K cd__law_most "_law_most" = true) (k__law_most : PySem.W.keepIn K (.ref f__law_most) = true)
    (a__law_with : PySem.W.nsIn K mainGlobals "_law_with" = some (some (.ref f__law_with)))
    (l__law_with : K.lookup f__law_with = some ⟨oc__law_with, od__law_with, .func (PySem.W.fnOf "_law_with" "_law_with" (defArgs s__law_with) (defBody s__law_with) (defScope s__law_with) .none kV__law_with dc__law_with pm__law_with an__law_with cd__law_with ct__law_with), sl__law_with⟩)
    (c__law_with : PySem.W.codeIn K cd__law_with "_law_with" = true) (k__law_with : PySem.W.keepIn K (.ref f__law_with) = true)
    (a__law_page : PySem.W.nsIn K mainGlobals "_law_page" = some (some (.ref f__law_page)))
    (l__law_page : K.lookup f__law_page = some ⟨oc__law_page, od__law_page, .func (PySem.W.fnOf "_law_page" "_law_page" (defArgs s__law_page) (defBody s__law_page) (defScope s__law_page) .none kV__law_page dc__law_page pm__law_page an__law_page cd__law_page ct__law_page), sl__law_page⟩)
    (c__law_page : PySem.W.codeIn K cd__law_page "_law_page" = true) (k__law_page : PySem.W.keepIn K (.ref f__law_page) = true)
    (a_blanks_in : PySem.W.nsIn K mainGlobals "blanks_in" = some (some (.ref f_blanks_in)))
    (l_blanks_in : K.lookup f_blanks_in = some ⟨oc_blanks_in, od_blanks_in, .func (PySem.W.fnOf "blanks_in" "blanks_in" (defArgs s_blanks_in) (defBody s_blanks_in) (defScope s_blanks_in) .none kV_blanks_in dc_blanks_in pm_blanks_in an_blanks_in cd_blanks_in ct_blanks_in), sl_blanks_in⟩)
    (c_blanks_in : PySem.W.codeIn K cd_blanks_in "blanks_in" = true) (k_blanks_in : PySem.W.keepIn K (.ref f_blanks_in) = true)
    (a_is_cell : PySem.W.nsIn K mainGlobals "is_cell" = some (some (.ref f_is_cell)))
    (l_is_cell : K.lookup f_is_cell = some ⟨oc_is_cell, od_is_cell, .func (PySem.W.fnOf "is_cell" "is_cell" (defArgs s_is_cell) (defBody s_is_cell) (defScope s_is_cell) .none kV_is_cell dc_is_cell pm_is_cell an_is_cell cd_is_cell ct_is_cell), sl_is_cell⟩)
    (c_is_cell : PySem.W.codeIn K cd_is_cell "is_cell" = true) (k_is_cell : PySem.W.keepIn K (.ref f_is_cell) = true)
    (a_is_printed_row : PySem.W.nsIn K mainGlobals "is_printed_row" = some (some (.ref f_is_printed_row)))
    (l_is_printed_row : K.lookup f_is_printed_row = some ⟨oc_is_printed_row, od_is_printed_row, .func (PySem.W.fnOf "is_printed_row" "is_printed_row" (defArgs s_is_printed_row) (defBody s_is_printed_row) (defScope s_is_printed_row) .none kV_is_printed_row dc_is_printed_row pm_is_printed_row an_is_printed_row cd_is_printed_row ct_is_printed_row), sl_is_printed_row⟩)
    (c_is_printed_row : PySem.W.codeIn K cd_is_printed_row "is_printed_row" = true) (k_is_printed_row : PySem.W.keepIn K (.ref f_is_printed_row) = true)
    (a_are_printed_rows : PySem.W.nsIn K mainGlobals "are_printed_rows" = some (some (.ref f_are_printed_rows)))
    (l_are_printed_rows : K.lookup f_are_printed_rows = some ⟨oc_are_printed_rows, od_are_printed_rows, .func (PySem.W.fnOf "are_printed_rows" "are_printed_rows" (defArgs s_are_printed_rows) (defBody s_are_printed_rows) (defScope s_are_printed_rows) .none kV_are_printed_rows dc_are_printed_rows pm_are_printed_rows an_are_printed_rows cd_are_printed_rows ct_are_printed_rows), sl_are_printed_rows⟩)
    (c_are_printed_rows : PySem.W.codeIn K cd_are_printed_rows "are_printed_rows" = true) (k_are_printed_rows : PySem.W.keepIn K (.ref f_are_printed_rows) = true)
    (a_has_page_form : PySem.W.nsIn K mainGlobals "has_page_form" = some (some (.ref f_has_page_form)))
    (l_has_page_form : K.lookup f_has_page_form = some ⟨oc_has_page_form, od_has_page_form, .func (PySem.W.fnOf "has_page_form" "has_page_form" (defArgs s_has_page_form) (defBody s_has_page_form) (defScope s_has_page_form) .none kV_has_page_form dc_has_page_form pm_has_page_form an_has_page_form cd_has_page_form ct_has_page_form), sl_has_page_form⟩)
    (c_has_page_form : PySem.W.codeIn K cd_has_page_form "has_page_form" = true) (k_has_page_form : PySem.W.keepIn K (.ref f_has_page_form) = true)
    (a_require_page : PySem.W.nsIn K mainGlobals "require_page" = some (some (.ref f_require_page)))
    (l_require_page : K.lookup f_require_page = some ⟨oc_require_page, od_require_page, .func (PySem.W.fnOf "require_page" "require_page" (defArgs s_require_page) (defBody s_require_page) (defScope s_require_page) .none kV_require_page dc_require_page pm_require_page an_require_page cd_require_page ct_require_page), sl_require_page⟩)
    (c_require_page : PySem.W.codeIn K cd_require_page "require_page" = true) (k_require_page : PySem.W.keepIn K (.ref f_require_page) = true)
    (a_is_integer : PySem.W.nsIn K mainGlobals "is_integer" = some (some (.ref f_is_integer)))
    (l_is_integer : K.lookup f_is_integer = some ⟨oc_is_integer, od_is_integer, .func (PySem.W.fnOf "is_integer" "is_integer" (defArgs s_is_integer) (defBody s_is_integer) (defScope s_is_integer) .none kV_is_integer dc_is_integer pm_is_integer an_is_integer cd_is_integer ct_is_integer), sl_is_integer⟩)
    (c_is_integer : PySem.W.codeIn K cd_is_integer "is_integer" = true) (k_is_integer : PySem.W.keepIn K (.ref f_is_integer) = true)
    (a_sort_order : PySem.W.nsIn K mainGlobals "sort_order" = some (some (.ref f_sort_order)))
    (l_sort_order : K.lookup f_sort_order = some ⟨oc_sort_order, od_sort_order, .func (PySem.W.fnOf "sort_order" "sort_order" (defArgs s_sort_order) (defBody s_sort_order) (defScope s_sort_order) .none kV_sort_order dc_sort_order pm_sort_order an_sort_order cd_sort_order ct_sort_order), sl_sort_order⟩)
    (c_sort_order : PySem.W.codeIn K cd_sort_order "sort_order" = true) (k_sort_order : PySem.W.keepIn K (.ref f_sort_order) = true)
    (a_is_order_of : PySem.W.nsIn K mainGlobals "is_order_of" = some (some (.ref f_is_order_of)))
    (l_is_order_of : K.lookup f_is_order_of = some ⟨oc_is_order_of, od_is_order_of, .func (PySem.W.fnOf "is_order_of" "is_order_of" (defArgs s_is_order_of) (defBody s_is_order_of) (defScope s_is_order_of) .none kV_is_order_of dc_is_order_of pm_is_order_of an_is_order_of cd_is_order_of ct_is_order_of), sl_is_order_of⟩)
    (c_is_order_of : PySem.W.codeIn K cd_is_order_of "is_order_of" = true) (k_is_order_of : PySem.W.keepIn K (.ref f_is_order_of) = true)
    (a_require_order : PySem.W.nsIn K mainGlobals "require_order" = some (some (.ref f_require_order)))
    (l_require_order : K.lookup f_require_order = some ⟨oc_require_order, od_require_order, .func (PySem.W.fnOf "require_order" "require_order" (defArgs s_require_order) (defBody s_require_order) (defScope s_require_order) .none kV_require_order dc_require_order pm_require_order an_require_order cd_require_order ct_require_order), sl_require_order⟩)
    (c_require_order : PySem.W.codeIn K cd_require_order "require_order" = true) (k_require_order : PySem.W.keepIn K (.ref f_require_order) = true)
    (a_read_rows : PySem.W.nsIn K mainGlobals "read_rows" = some (some (.ref f_read_rows)))
    (l_read_rows : K.lookup f_read_rows = some ⟨oc_read_rows, od_read_rows, .func (PySem.W.fnOf "read_rows" "read_rows" (defArgs s_read_rows) (defBody s_read_rows) (defScope s_read_rows) .none kV_read_rows dc_read_rows pm_read_rows an_read_rows cd_read_rows ct_read_rows), sl_read_rows⟩)
    (c_read_rows : PySem.W.codeIn K cd_read_rows "read_rows" = true) (k_read_rows : PySem.W.keepIn K (.ref f_read_rows) = true)
    (a_read_in : PySem.W.nsIn K mainGlobals "read_in" = some (some (.ref f_read_in)))
    (l_read_in : K.lookup f_read_in = some ⟨oc_read_in, od_read_in, .func (PySem.W.fnOf "read_in" "read_in" (defArgs s_read_in) (defBody s_read_in) (defScope s_read_in) .none kV_read_in dc_read_in pm_read_in an_read_in cd_read_in ct_read_in), sl_read_in⟩)
    (c_read_in : PySem.W.codeIn K cd_read_in "read_in" = true) (k_read_in : PySem.W.keepIn K (.ref f_read_in) = true)
    (a_wrong_rows : PySem.W.nsIn K mainGlobals "wrong_rows" = some (some (.ref f_wrong_rows)))
    (l_wrong_rows : K.lookup f_wrong_rows = some ⟨oc_wrong_rows, od_wrong_rows, .func (PySem.W.fnOf "wrong_rows" "wrong_rows" (defArgs s_wrong_rows) (defBody s_wrong_rows) (defScope s_wrong_rows) .none kV_wrong_rows dc_wrong_rows pm_wrong_rows an_wrong_rows cd_wrong_rows ct_wrong_rows), sl_wrong_rows⟩)
    (c_wrong_rows : PySem.W.codeIn K cd_wrong_rows "wrong_rows" = true) (k_wrong_rows : PySem.W.keepIn K (.ref f_wrong_rows) = true)
    (a_parts_in : PySem.W.nsIn K mainGlobals "parts_in" = some (some (.ref f_parts_in)))
    (l_parts_in : K.lookup f_parts_in = some ⟨oc_parts_in, od_parts_in, .func (PySem.W.fnOf "parts_in" "parts_in" (defArgs s_parts_in) (defBody s_parts_in) (defScope s_parts_in) .none kV_parts_in dc_parts_in pm_parts_in an_parts_in cd_parts_in ct_parts_in), sl_parts_in⟩)
    (c_parts_in : PySem.W.codeIn K cd_parts_in "parts_in" = true) (k_parts_in : PySem.W.keepIn K (.ref f_parts_in) = true)
    (a_shared_by : PySem.W.nsIn K mainGlobals "shared_by" = some (some (.ref f_shared_by)))
    (l_shared_by : K.lookup f_shared_by = some ⟨oc_shared_by, od_shared_by, .func (PySem.W.fnOf "shared_by" "shared_by" (defArgs s_shared_by) (defBody s_shared_by) (defScope s_shared_by) .none kV_shared_by dc_shared_by pm_shared_by an_shared_by cd_shared_by ct_shared_by), sl_shared_by⟩)
    (c_shared_by : PySem.W.codeIn K cd_shared_by "shared_by" = true) (k_shared_by : PySem.W.keepIn K (.ref f_shared_by) = true)
    (a_fits_behind : PySem.W.nsIn K mainGlobals "fits_behind" = some (some (.ref f_fits_behind)))
    (l_fits_behind : K.lookup f_fits_behind = some ⟨oc_fits_behind, od_fits_behind, .func (PySem.W.fnOf "fits_behind" "fits_behind" (defArgs s_fits_behind) (defBody s_fits_behind) (defScope s_fits_behind) .none kV_fits_behind dc_fits_behind pm_fits_behind an_fits_behind cd_fits_behind ct_fits_behind), sl_fits_behind⟩)
    (c_fits_behind : PySem.W.codeIn K cd_fits_behind "fits_behind" = true) (k_fits_behind : PySem.W.keepIn K (.ref f_fits_behind) = true)
    (a_is_kept : PySem.W.nsIn K mainGlobals "is_kept" = some (some (.ref f_is_kept)))
    (l_is_kept : K.lookup f_is_kept = some ⟨oc_is_kept, od_is_kept, .func (PySem.W.fnOf "is_kept" "is_kept" (defArgs s_is_kept) (defBody s_is_kept) (defScope s_is_kept) .none kV_is_kept dc_is_kept pm_is_kept an_is_kept cd_is_kept ct_is_kept), sl_is_kept⟩)
    (c_is_kept : PySem.W.codeIn K cd_is_kept "is_kept" = true) (k_is_kept : PySem.W.keepIn K (.ref f_is_kept) = true)
    (a_keeps : PySem.W.nsIn K mainGlobals "keeps" = some (some (.ref f_keeps)))
    (l_keeps : K.lookup f_keeps = some ⟨oc_keeps, od_keeps, .func (PySem.W.fnOf "keeps" "keeps" (defArgs s_keeps) (defBody s_keeps) (defScope s_keeps) .none kV_keeps dc_keeps pm_keeps an_keeps cd_keeps ct_keeps), sl_keeps⟩)
    (c_keeps : PySem.W.codeIn K cd_keeps "keeps" = true) (k_keeps : PySem.W.keepIn K (.ref f_keeps) = true)
    (a__law_columns_right : PySem.W.nsIn K mainGlobals "_law_columns_right" = some (some (.ref f__law_columns_right)))
    (l__law_columns_right : K.lookup f__law_columns_right = some ⟨oc__law_columns_right, od__law_columns_right, .func (PySem.W.fnOf "_law_columns_right" "_law_columns_right" (defArgs s__law_columns_right) (defBody s__law_columns_right) (defScope s__law_columns_right) .none kV__law_columns_right dc__law_columns_right pm__law_columns_right an__law_columns_right cd__law_columns_right ct__law_columns_right), sl__law_columns_right⟩)
    (c__law_columns_right : PySem.W.codeIn K cd__law_columns_right "_law_columns_right" = true) (k__law_columns_right : PySem.W.keepIn K (.ref f__law_columns_right) = true)
    (a_filled : PySem.W.nsIn K mainGlobals "filled" = some (some (.ref f_filled)))
    (l_filled : K.lookup f_filled = some ⟨oc_filled, od_filled, .func (PySem.W.fnOf "filled" "filled" (defArgs s_filled) (defBody s_filled) (defScope s_filled) .none kV_filled dc_filled pm_filled an_filled cd_filled ct_filled), sl_filled⟩)
    (c_filled : PySem.W.codeIn K cd_filled "filled" = true) (k_filled : PySem.W.keepIn K (.ref f_filled) = true)
    (a__law_page_right : PySem.W.nsIn K mainGlobals "_law_page_right" = some (some (.ref f__law_page_right)))
    (l__law_page_right : K.lookup f__law_page_right = some ⟨oc__law_page_right, od__law_page_right, .func (PySem.W.fnOf "_law_page_right" "_law_page_right" (defArgs s__law_page_right) (defBody s__law_page_right) (defScope s__law_page_right) .none kV__law_page_right dc__law_page_right pm__law_page_right an__law_page_right cd__law_page_right ct__law_page_right), sl__law_page_right⟩)
    (c__law_page_right : PySem.W.codeIn K cd__law_page_right "_law_page_right" = true) (k__law_page_right : PySem.W.keepIn K (.ref f__law_page_right) = true)
    (a_law : PySem.W.nsIn K mainGlobals "law" = some (some (.ref f_law)))
    (l_law : K.lookup f_law = some ⟨oc_law, od_law, .func (PySem.W.fnOf "law" "law" (defArgs s_law) (defBody s_law) (defScope s_law) .none kV_law dc_law pm_law an_law cd_law ct_law), sl_law⟩)
    (c_law : PySem.W.codeIn K cd_law "law" = true) (k_law : PySem.W.keepIn K (.ref f_law) = true)
    (z_range : PySem.W.nsIn K mainGlobals "range" = some none)
    (z_max : PySem.W.nsIn K mainGlobals "max" = some none)
    (z_min : PySem.W.nsIn K mainGlobals "min" = some none)
    (z_len : PySem.W.nsIn K mainGlobals "len" = some none)
    (z_int : PySem.W.nsIn K mainGlobals "int" = some none)
    (z_tuple : PySem.W.nsIn K mainGlobals "tuple" = some none)
    (z_sorted : PySem.W.nsIn K mainGlobals "sorted" = some none)
    (z_zip : PySem.W.nsIn K mainGlobals "zip" = some none)
    (z_all : PySem.W.nsIn K mainGlobals "all" = some none)
    (z_isinstance : PySem.W.nsIn K mainGlobals "isinstance" = some none)
    (z_str : PySem.W.nsIn K mainGlobals "str" = some none)
    (z_bool : PySem.W.nsIn K mainGlobals "bool" = some none)
    (z_enumerate : PySem.W.nsIn K mainGlobals "enumerate" = some none)
    (z_list : PySem.W.nsIn K mainGlobals "list" = some none)
    {t_SIGNS : Tok} (q_SIGNS : PySem.W.nsIn K mainGlobals "SIGNS" = some (some (.str "abcdefghijklmnopqrstuvwxyz0123456789" t_SIGNS)))
    {t_MOST_SIGNS : Tok} (q_MOST_SIGNS : PySem.W.nsIn K mainGlobals "MOST_SIGNS" = some (some (.int 8 t_MOST_SIGNS)))
    {t_MOST_WIDTH : Tok} (q_MOST_WIDTH : PySem.W.nsIn K mainGlobals "MOST_WIDTH" = some (some (.int 6 t_MOST_WIDTH)))
    {t_MOST_ROWS : Tok} (q_MOST_ROWS : PySem.W.nsIn K mainGlobals "MOST_ROWS" = some (some (.int 60 t_MOST_ROWS)))
    (kw_sort_order : ∃ D, kV_sort_order = .ref D ∧ PySem.W.nsIn K D "blanks_last" = some (some (.bool true)))
    (u_sort_order : (PySem.W.tabIn K "sort_order").isSome = true) : ∃ fd : FuncData, (∀ (s : Shared) (v : Value), BindsTo s fd ⟨[v], []⟩ [("script", v)]) ∧ ∀ base : Heap, K.In base → base.Ns mainGlobals mg → TabsB K base mg → FnG PySem.Challenge.rw_dittorows_k21_whole_sorted_tables.prog w K mg base 9 fa fd ["script"] (lawS 1000000) := by
  obtain ⟨⟨cL_sort_order, PL_sort_order⟩, tK_sort_order⟩ := Option.isSome_iff_exists.mp u_sort_order
  have e := hfa.symm.trans (PySem.W.mg_of X G a_law)
  cases e
  have F__law_deck := fun_mk (st := s__law_deck) l__law_deck c__law_deck k__law_deck
  have F__law_draw := fun_mk (st := s__law_draw) l__law_draw c__law_draw k__law_draw
  have F__law_value := fun_mk (st := s__law_value) l__law_value c__law_value k__law_value
  have F__law_table := fun_mk (st := s__law_table) l__law_table c__law_table k__law_table
  have F__law_shared := fun_mk (st := s__law_shared) l__law_shared c__law_shared k__law_shared
  have F__law_most := fun_mk (st := s__law_most) l__law_most c__law_most k__law_most
  have F__law_with := fun_mk (st := s__law_with) l__law_with c__law_with k__law_with
  have F__law_page := fun_mk (st := s__law_page) l__law_page c__law_page k__law_page
  have F_blanks_in := fun_mk (st := s_blanks_in) l_blanks_in c_blanks_in k_blanks_in
  have F_is_cell := fun_mk (st := s_is_cell) l_is_cell c_is_cell k_is_cell
  have F_is_printed_row := fun_mk (st := s_is_printed_row) l_is_printed_row c_is_printed_row k_is_printed_row
  have F_are_printed_rows := fun_mk (st := s_are_printed_rows) l_are_printed_rows c_are_printed_rows k_are_printed_rows
  have F_has_page_form := fun_mk (st := s_has_page_form) l_has_page_form c_has_page_form k_has_page_form
  have F_require_page := fun_mk (st := s_require_page) l_require_page c_require_page k_require_page
  have F_is_integer := fun_mk (st := s_is_integer) l_is_integer c_is_integer k_is_integer
  have F_sort_order := fun_mk (st := s_sort_order) l_sort_order c_sort_order k_sort_order
  have F_is_order_of := fun_mk (st := s_is_order_of) l_is_order_of c_is_order_of k_is_order_of
  have F_require_order := fun_mk (st := s_require_order) l_require_order c_require_order k_require_order
  have F_read_rows := fun_mk (st := s_read_rows) l_read_rows c_read_rows k_read_rows
  have F_read_in := fun_mk (st := s_read_in) l_read_in c_read_in k_read_in
  have F_wrong_rows := fun_mk (st := s_wrong_rows) l_wrong_rows c_wrong_rows k_wrong_rows
  have F_parts_in := fun_mk (st := s_parts_in) l_parts_in c_parts_in k_parts_in
  have F_shared_by := fun_mk (st := s_shared_by) l_shared_by c_shared_by k_shared_by
  have F_fits_behind := fun_mk (st := s_fits_behind) l_fits_behind c_fits_behind k_fits_behind
  have F_is_kept := fun_mk (st := s_is_kept) l_is_kept c_is_kept k_is_kept
  have F_keeps := fun_mk (st := s_keeps) l_keeps c_keeps k_keeps
  have F__law_columns_right := fun_mk (st := s__law_columns_right) l__law_columns_right c__law_columns_right k__law_columns_right
  have F_filled := fun_mk (st := s_filled) l_filled c_filled k_filled
  have F__law_page_right := fun_mk (st := s__law_page_right) l__law_page_right c__law_page_right k__law_page_right
  have F_law := fun_mk (st := s_law) l_law c_law k_law
  have b__law_deck := F__law_deck.binds (ps := ["script"]) fun _ _ _ _ _ _ us hl => match us, hl with | [_], _ => rfl
  have mm__law_deck := PySem.W.mg_of X G a__law_deck
  have b__law_draw := F__law_draw.binds (ps := ["deck", "many"]) fun _ _ _ _ _ _ us hl => match us, hl with | [_, _], _ => rfl
  have mm__law_draw := PySem.W.mg_of X G a__law_draw
  have b__law_value := F__law_value.binds (ps := ["deck", "few"]) fun _ _ _ _ _ _ us hl => match us, hl with | [_, _], _ => rfl
  have mm__law_value := PySem.W.mg_of X G a__law_value
  have b__law_table := F__law_table.binds (ps := ["deck", "most", "wide"]) fun _ _ _ _ _ _ us hl => match us, hl with | [_, _, _], _ => rfl
  have mm__law_table := PySem.W.mg_of X G a__law_table
  have b__law_shared := F__law_shared.binds (ps := ["row", "other"]) fun _ _ _ _ _ _ us hl => match us, hl with | [_, _], _ => rfl
  have mm__law_shared := PySem.W.mg_of X G a__law_shared
  have b__law_most := F__law_most.binds (ps := ["table_here"]) fun _ _ _ _ _ _ us hl => match us, hl with | [_], _ => rfl
  have mm__law_most := PySem.W.mg_of X G a__law_most
  have b__law_with := F__law_with.binds (ps := ["table_here", "blanks"]) fun _ _ _ _ _ _ us hl => match us, hl with | [_, _], _ => rfl
  have mm__law_with := PySem.W.mg_of X G a__law_with
  have b__law_page := F__law_page.binds (ps := ["deck", "table_here"]) fun _ _ _ _ _ _ us hl => match us, hl with | [_, _], _ => rfl
  have mm__law_page := PySem.W.mg_of X G a__law_page
  have b_blanks_in := F_blanks_in.binds (ps := ["cells"]) fun _ _ _ _ _ _ us hl => match us, hl with | [_], _ => rfl
  have mm_blanks_in := PySem.W.mg_of X G a_blanks_in
  have b_is_cell := F_is_cell.binds (ps := ["value"]) fun _ _ _ _ _ _ us hl => match us, hl with | [_], _ => rfl
  have mm_is_cell := PySem.W.mg_of X G a_is_cell
  have b_is_printed_row := F_is_printed_row.binds (ps := ["value"]) fun _ _ _ _ _ _ us hl => match us, hl with | [_], _ => rfl
  have mm_is_printed_row := PySem.W.mg_of X G a_is_printed_row
  have b_are_printed_rows := F_are_printed_rows.binds (ps := ["value"]) fun _ _ _ _ _ _ us hl => match us, hl with | [_], _ => rfl
  have mm_are_printed_rows := PySem.W.mg_of X G a_are_printed_rows
  have b_has_page_form := F_has_page_form.binds (ps := ["value"]) fun _ _ _ _ _ _ us hl => match us, hl with | [_], _ => rfl
  have mm_has_page_form := PySem.W.mg_of X G a_has_page_form
  have b_require_page := F_require_page.binds (ps := ["value"]) fun _ _ _ _ _ _ us hl => match us, hl with | [_], _ => rfl
  have mm_require_page := PySem.W.mg_of X G a_require_page
  have b_is_integer := F_is_integer.binds (ps := ["value", "low", "high"]) fun _ _ _ _ _ _ us hl => match us, hl with | [_, _, _], _ => rfl
  have mm_is_integer := PySem.W.mg_of X G a_is_integer
  obtain ⟨kD_sort_order, rfl, kq_sort_order⟩ := kw_sort_order
  have bd_sort_order : Binds K (PySem.W.fnOf "sort_order" "sort_order" (defArgs s_sort_order) (defBody s_sort_order) (defScope s_sort_order) .none (.ref kD_sort_order) dc_sort_order pm_sort_order an_sort_order cd_sort_order ct_sort_order) ["page", "column", "blanks_last"] [.bool true] := binds_kw (m := 2) rfl kq_sort_order fun us hl => match us, hl with | [_, _], _ => ⟨_, _, _, _, _, _, rfl, rfl, rfl⟩
  have mm_sort_order := PySem.W.mg_of X G a_sort_order
  have b_is_order_of := F_is_order_of.binds (ps := ["many", "value"]) fun _ _ _ _ _ _ us hl => match us, hl with | [_, _], _ => rfl
  have mm_is_order_of := PySem.W.mg_of X G a_is_order_of
  have b_require_order := F_require_order.binds (ps := ["many", "value"]) fun _ _ _ _ _ _ us hl => match us, hl with | [_, _], _ => rfl
  have mm_require_order := PySem.W.mg_of X G a_require_order
  have b_read_rows := F_read_rows.binds (ps := ["rows"]) fun _ _ _ _ _ _ us hl => match us, hl with | [_], _ => rfl
  have mm_read_rows := PySem.W.mg_of X G a_read_rows
  have b_read_in := F_read_in.binds (ps := ["page", "order"]) fun _ _ _ _ _ _ us hl => match us, hl with | [_, _], _ => rfl
  have mm_read_in := PySem.W.mg_of X G a_read_in
  have b_wrong_rows := F_wrong_rows.binds (ps := ["page", "order"]) fun _ _ _ _ _ _ us hl => match us, hl with | [_, _], _ => rfl
  have mm_wrong_rows := PySem.W.mg_of X G a_wrong_rows
  have b_parts_in := F_parts_in.binds (ps := ["page"]) fun _ _ _ _ _ _ us hl => match us, hl with | [_], _ => rfl
  have mm_parts_in := PySem.W.mg_of X G a_parts_in
  have b_shared_by := F_shared_by.binds (ps := ["row", "other"]) fun _ _ _ _ _ _ us hl => match us, hl with | [_, _], _ => rfl
  have mm_shared_by := PySem.W.mg_of X G a_shared_by
  have b_fits_behind := F_fits_behind.binds (ps := ["blanks", "full_rows", "row", "above"]) fun _ _ _ _ _ _ us hl => match us, hl with | [_, _, _, _], _ => rfl
  have mm_fits_behind := PySem.W.mg_of X G a_fits_behind
  have b_is_kept := F_is_kept.binds (ps := ["page", "order"]) fun _ _ _ _ _ _ us hl => match us, hl with | [_, _], _ => rfl
  have mm_is_kept := PySem.W.mg_of X G a_is_kept
  have b_keeps := F_keeps.binds (ps := ["page", "order"]) fun _ _ _ _ _ _ us hl => match us, hl with | [_, _], _ => rfl
  have mm_keeps := PySem.W.mg_of X G a_keeps
  have b__law_columns_right := F__law_columns_right.binds (ps := ["table_here"]) fun _ _ _ _ _ _ us hl => match us, hl with | [_], _ => rfl
  have mm__law_columns_right := PySem.W.mg_of X G a__law_columns_right
  have b_filled := F_filled.binds (ps := ["page"]) fun _ _ _ _ _ _ us hl => match us, hl with | [_], _ => rfl
  have mm_filled := PySem.W.mg_of X G a_filled
  have b__law_page_right := F__law_page_right.binds (ps := ["page_here", "spot", "is_last"]) fun _ _ _ _ _ _ us hl => match us, hl with | [_, _, _], _ => rfl
  have mm__law_page_right := PySem.W.mg_of X G a__law_page_right
  have b_law := F_law.binds (ps := ["script"]) fun _ _ _ _ _ _ us hl => match us, hl with | [_], _ => rfl
  have mm_law := PySem.W.mg_of X G a_law
  refine ⟨PySem.W.fnOf "law" "law" (defArgs s_law) (defBody s_law) (defScope s_law) .none kV_law dc_law pm_law an_law cd_law ct_law, fun s v => .of_eq rfl, fun base _ _ TBs => ?_⟩
  have kb_sort_order_0 : KBi (PySem.W.fnOf "sort_order" "sort_order" (defArgs s_sort_order) (defBody s_sort_order) (defScope s_sort_order) .none (.ref kD_sort_order) dc_sort_order pm_sort_order an_sort_order cd_sort_order ct_sort_order) ["page", "column", "blanks_last"] ["blanks_last"] := ⟨fun s us ws h1 h2 => by
    obtain ⟨z1, z2⟩ : us.length = 2 ∧ ws.length = 1 := by simp only [List.length_append, List.length_cons, List.length_nil] at h1 h2; omega
    match us, ws, z1, z2 with | [_, _], [_], _, _ => exact .of_eq rfl⟩
  have G__law_deck := fng_deck (((g__law_deck F__law_deck (PySem.W.mg_none_of X G z_range) (PySem.W.mg_none_of X G z_max) (PySem.W.mg_none_of X G z_min) (PySem.W.mg_none_of X G z_len) (PySem.W.mg_none_of X G z_int)).imp (by decide +kernel) fun ds k x h => m__law_deck h) : FnG PySem.Challenge.rw_dittorows_k21_whole_sorted_tables.prog w K mg base _ _ _ _ (deckRS 136)) rfl
  have C__law_deck : Cb PySem.Challenge.rw_dittorows_k21_whole_sorted_tables.prog w K mg base 1 "_law_deck" f__law_deck _ ["script"] _ := ⟨G__law_deck, mm__law_deck, k__law_deck, b__law_deck⟩
  have G__law_draw := fng_draw (w := w) (P := PySem.Challenge.rw_dittorows_k21_whole_sorted_tables.prog) (base := base) (mg := mg) rfl (ok_draw F__law_draw (PySem.W.mg_none_of X G z_len))
  have C__law_draw : Cb PySem.Challenge.rw_dittorows_k21_whole_sorted_tables.prog w K mg base 1 "_law_draw" f__law_draw _ ["deck", "many"] _ := ⟨G__law_draw, mm__law_draw, k__law_draw, b__law_draw⟩
  have G__law_value : FnG PySem.Challenge.rw_dittorows_k21_whole_sorted_tables.prog w K mg base _ _ _ _ (_law_valueS0 152) := (g__law_value F__law_value C__law_draw (PySem.W.mg_none_of X G z_range)).imp (by decide +kernel) fun ds k x h => m__law_value h
  have C__law_value : Cb PySem.Challenge.rw_dittorows_k21_whole_sorted_tables.prog w K mg base 2 "_law_value" f__law_value _ ["deck", "few"] _ := ⟨G__law_value, mm__law_value, k__law_value, b__law_value⟩
  have G__law_table : FnG PySem.Challenge.rw_dittorows_k21_whole_sorted_tables.prog w K mg base _ _ _ _ (_law_tableS 454) := (g__law_table F__law_table C__law_draw C__law_value (PySem.W.mg_none_of X G z_min) (PySem.W.mg_none_of X G z_range) (PySem.W.mg_none_of X G z_tuple) (PySem.W.mg_none_of X G z_sorted)).imp (by decide +kernel) fun ds k x h => m__law_table h
  have C__law_table : Cb PySem.Challenge.rw_dittorows_k21_whole_sorted_tables.prog w K mg base 3 "_law_table" f__law_table _ ["deck", "most", "wide"] _ := ⟨G__law_table, mm__law_table, k__law_table, b__law_table⟩
  have G__law_shared : FnG PySem.Challenge.rw_dittorows_k21_whole_sorted_tables.prog w K mg base _ _ _ _ (_law_sharedS 102) := (g__law_shared F__law_shared (PySem.W.mg_none_of X G z_len)).imp (by decide +kernel) fun ds k x h => m__law_shared h
  have C__law_shared : Cb PySem.Challenge.rw_dittorows_k21_whole_sorted_tables.prog w K mg base 1 "_law_shared" f__law_shared _ ["row", "other"] _ := ⟨G__law_shared, mm__law_shared, k__law_shared, b__law_shared⟩
  have G__law_most : FnG PySem.Challenge.rw_dittorows_k21_whole_sorted_tables.prog w K mg base _ _ _ _ (S_mo 204) := (g__law_most F__law_most C__law_shared (PySem.W.mg_none_of X G z_zip)).imp (by decide +kernel) fun ds k x h => m__law_most h
  have C__law_most : Cb PySem.Challenge.rw_dittorows_k21_whole_sorted_tables.prog w K mg base 2 "_law_most" f__law_most _ ["table_here"] _ := ⟨G__law_most, mm__law_most, k__law_most, b__law_most⟩
  have G__law_with : FnG PySem.Challenge.rw_dittorows_k21_whole_sorted_tables.prog w K mg base _ _ _ _ (_law_withS 98) := (g__law_with F__law_with (PySem.W.mg_none_of X G z_tuple) (PySem.W.mg_none_of X G z_zip)).imp (by decide +kernel) fun ds k x h => m__law_with h
  have C__law_with : Cb PySem.Challenge.rw_dittorows_k21_whole_sorted_tables.prog w K mg base 1 "_law_with" f__law_with _ ["table_here", "blanks"] _ := ⟨G__law_with, mm__law_with, k__law_with, b__law_with⟩
  have G__law_page : FnG PySem.Challenge.rw_dittorows_k21_whole_sorted_tables.prog w K mg base _ _ _ _ (_law_pageS 450) := (g__law_page F__law_page C__law_draw C__law_most C__law_with).imp (by decide +kernel) fun ds k x h => m__law_page h
  have C__law_page : Cb PySem.Challenge.rw_dittorows_k21_whole_sorted_tables.prog w K mg base 3 "_law_page" f__law_page _ ["deck", "table_here"] _ := ⟨G__law_page, mm__law_page, k__law_page, b__law_page⟩
  have G_blanks_in : FnG PySem.Challenge.rw_dittorows_k21_whole_sorted_tables.prog w K mg base _ _ _ _ (blanks_inS 100) := (g_blanks_in F_blanks_in (PySem.W.mg_none_of X G z_len)).imp (by decide +kernel) fun ds k x h => m_blanks_in h
  have C_blanks_in : Cb PySem.Challenge.rw_dittorows_k21_whole_sorted_tables.prog w K mg base 1 "blanks_in" f_blanks_in _ ["cells"] _ := ⟨G_blanks_in, mm_blanks_in, k_blanks_in, b_blanks_in⟩
  have G_is_cell : FnG PySem.Challenge.rw_dittorows_k21_whole_sorted_tables.prog w K mg base _ _ _ _ (is_cellS 96) := (g_is_cell F_is_cell (PySem.W.mg_none_of X G z_all) (PySem.W.mg_none_of X G z_len) (PySem.W.mg_none_of X G z_isinstance) (PySem.W.mg_none_of X G z_str) (PySem.W.mg_of X G q_SIGNS) (PySem.W.mg_of X G q_MOST_SIGNS)).imp (by decide +kernel) fun ds k x h => m_is_cell h
  have C_is_cell : Cb PySem.Challenge.rw_dittorows_k21_whole_sorted_tables.prog w K mg base 1 "is_cell" f_is_cell _ ["value"] _ := ⟨G_is_cell, mm_is_cell, k_is_cell, b_is_cell⟩
  have G_is_printed_row : FnG PySem.Challenge.rw_dittorows_k21_whole_sorted_tables.prog w K mg base _ _ _ _ (is_printed_rowS 312) := (g_is_printed_row F_is_printed_row C_blanks_in C_is_cell (PySem.W.mg_none_of X G z_len) (PySem.W.mg_none_of X G z_isinstance) (PySem.W.mg_none_of X G z_tuple) (PySem.W.mg_none_of X G z_all) (PySem.W.mg_of X G q_MOST_WIDTH)).imp (by decide +kernel) fun ds k x h => m_is_printed_row h
  have C_is_printed_row : Cb PySem.Challenge.rw_dittorows_k21_whole_sorted_tables.prog w K mg base 2 "is_printed_row" f_is_printed_row _ ["value"] _ := ⟨G_is_printed_row, mm_is_printed_row, k_is_printed_row, b_is_printed_row⟩
  have G_are_printed_rows : FnG PySem.Challenge.rw_dittorows_k21_whole_sorted_tables.prog w K mg base _ _ _ _ (are_printed_rowsS 510) := (g_are_printed_rows F_are_printed_rows C_is_printed_row (PySem.W.mg_none_of X G z_len) (PySem.W.mg_none_of X G z_isinstance) (PySem.W.mg_none_of X G z_tuple) (PySem.W.mg_none_of X G z_all) (PySem.W.mg_of X G q_MOST_ROWS)).imp (by decide +kernel) fun ds k x h => m_are_printed_rows h
  have C_are_printed_rows : Cb PySem.Challenge.rw_dittorows_k21_whole_sorted_tables.prog w K mg base 3 "are_printed_rows" f_are_printed_rows _ ["value"] _ := ⟨G_are_printed_rows, mm_are_printed_rows, k_are_printed_rows, b_are_printed_rows⟩
  have G_has_page_form : FnG PySem.Challenge.rw_dittorows_k21_whole_sorted_tables.prog w K mg base _ _ _ _ (has_page_formS 630) := (g_has_page_form F_has_page_form C_blanks_in C_are_printed_rows).imp (by decide +kernel) fun ds k x h => m_has_page_form h
  have C_has_page_form : Cb PySem.Challenge.rw_dittorows_k21_whole_sorted_tables.prog w K mg base 4 "has_page_form" f_has_page_form _ ["value"] _ := ⟨G_has_page_form, mm_has_page_form, k_has_page_form, b_has_page_form⟩
  have G_require_page : FnG PySem.Challenge.rw_dittorows_k21_whole_sorted_tables.prog w K mg base _ _ _ _ ((fun c => pageS c fun _ => .fz .non) 644) := (g_require_page F_require_page C_has_page_form).imp (by decide +kernel) fun ds k x h => m_require_page h
  have C_require_page : Cb PySem.Challenge.rw_dittorows_k21_whole_sorted_tables.prog w K mg base 5 "require_page" f_require_page _ ["value"] _ := ⟨G_require_page, mm_require_page, k_require_page, b_require_page⟩
  have G_is_integer : FnG PySem.Challenge.rw_dittorows_k21_whole_sorted_tables.prog w K mg base _ _ _ _ (is_integerS 22) := (g_is_integer F_is_integer (PySem.W.mg_none_of X G z_isinstance) (PySem.W.mg_none_of X G z_bool) (PySem.W.mg_none_of X G z_int)).imp (by decide +kernel) fun ds k x h => m_is_integer h
  have C_is_integer : Cb PySem.Challenge.rw_dittorows_k21_whole_sorted_tables.prog w K mg base 1 "is_integer" f_is_integer _ ["value", "low", "high"] _ := ⟨G_is_integer, mm_is_integer, k_is_integer, b_is_integer⟩
  have G_sort_order : FnG PySem.Challenge.rw_dittorows_k21_whole_sorted_tables.prog w K mg base _ _ _ _ (soS 928) := (g_sort_order F_sort_order a_sort_order tK_sort_order (TBs "sort_order" (by decide) _ _ tK_sort_order) C_require_page C_is_integer (PySem.W.mg_none_of X G z_len) (PySem.W.mg_none_of X G z_isinstance) (PySem.W.mg_none_of X G z_bool) (PySem.W.mg_none_of X G z_enumerate) (PySem.W.mg_none_of X G z_sorted) (PySem.W.mg_none_of X G z_range) (PySem.W.mg_none_of X G z_tuple)).imp (by decide +kernel) fun ds k x h => m_sort_order h
  have C_sort_order : CbN PySem.Challenge.rw_dittorows_k21_whole_sorted_tables.prog w K mg base 6 "sort_order" f_sort_order _ ["page", "column", "blanks_last"] _ := ⟨G_sort_order, mm_sort_order, k_sort_order⟩
  have G_is_order_of : FnG PySem.Challenge.rw_dittorows_k21_whole_sorted_tables.prog w K mg base _ _ _ _ ((fun c => ordS c (.fz (.bl true))) 142) := (g_is_order_of F_is_order_of C_is_integer (PySem.W.mg_none_of X G z_all) (PySem.W.mg_none_of X G z_isinstance) (PySem.W.mg_none_of X G z_tuple) (PySem.W.mg_none_of X G z_sorted) (PySem.W.mg_none_of X G z_list) (PySem.W.mg_none_of X G z_range)).imp (by decide +kernel) fun ds k x h => m_is_order_of h
  have C_is_order_of : Cb PySem.Challenge.rw_dittorows_k21_whole_sorted_tables.prog w K mg base 2 "is_order_of" f_is_order_of _ ["many", "value"] _ := ⟨G_is_order_of, mm_is_order_of, k_is_order_of, b_is_order_of⟩
  have G_require_order : FnG PySem.Challenge.rw_dittorows_k21_whole_sorted_tables.prog w K mg base _ _ _ _ ((fun c => ordS c (.fz .non)) 158) := (g_require_order F_require_order C_is_order_of).imp (by decide +kernel) fun ds k x h => m_require_order h
  have C_require_order : Cb PySem.Challenge.rw_dittorows_k21_whole_sorted_tables.prog w K mg base 3 "require_order" f_require_order _ ["many", "value"] _ := ⟨G_require_order, mm_require_order, k_require_order, b_require_order⟩
  have G_read_rows : FnG PySem.Challenge.rw_dittorows_k21_whole_sorted_tables.prog w K mg base _ _ _ _ (rowsS 218) := (g_read_rows F_read_rows C_blanks_in).imp (by decide +kernel) fun ds k x h => m_read_rows h
  have C_read_rows : Cb PySem.Challenge.rw_dittorows_k21_whole_sorted_tables.prog w K mg base 2 "read_rows" f_read_rows _ ["rows"] _ := ⟨G_read_rows, mm_read_rows, k_read_rows, b_read_rows⟩
  have G_read_in : FnG PySem.Challenge.rw_dittorows_k21_whole_sorted_tables.prog w K mg base _ _ _ _ ((fun c => poS c fun p ord => .fz (.lst ((readRows none (bentP p ord)).map rD))) 1130) := (g_read_in F_read_in C_require_page C_require_order C_read_rows (PySem.W.mg_none_of X G z_len)).imp (by decide +kernel) fun ds k x h => m_read_in h
  have C_read_in : Cb PySem.Challenge.rw_dittorows_k21_whole_sorted_tables.prog w K mg base 6 "read_in" f_read_in _ ["page", "order"] _ := ⟨G_read_in, mm_read_in, k_read_in, b_read_in⟩
  have G_wrong_rows : FnG PySem.Challenge.rw_dittorows_k21_whole_sorted_tables.prog w K mg base _ _ _ _ ((fun c => poS c fun p ord => .lst (((wrongF p ord).map nD).map .fz)) 1462) := (g_wrong_rows F_wrong_rows C_read_in C_read_rows (PySem.W.mg_none_of X G z_sorted) (PySem.W.mg_none_of X G z_zip)).imp (by decide +kernel) fun ds k x h => m_wrong_rows h
  have C_wrong_rows : Cb PySem.Challenge.rw_dittorows_k21_whole_sorted_tables.prog w K mg base 7 "wrong_rows" f_wrong_rows _ ["page", "order"] _ := ⟨G_wrong_rows, mm_wrong_rows, k_wrong_rows, b_wrong_rows⟩
  have G_parts_in : FnG PySem.Challenge.rw_dittorows_k21_whole_sorted_tables.prog w K mg base _ _ _ _ ((fun c => pageS c fun p => .fz (partD p)) 416) := (g_parts_in F_parts_in C_blanks_in C_read_rows).imp (by decide +kernel) fun ds k x h => m_parts_in h
  have C_parts_in : Cb PySem.Challenge.rw_dittorows_k21_whole_sorted_tables.prog w K mg base 3 "parts_in" f_parts_in _ ["page"] _ := ⟨G_parts_in, mm_parts_in, k_parts_in, b_parts_in⟩
  have G_shared_by : FnG PySem.Challenge.rw_dittorows_k21_whole_sorted_tables.prog w K mg base _ _ _ _ (shareS 108) := (g_shared_by F_shared_by (PySem.W.mg_none_of X G z_len)).imp (by decide +kernel) fun ds k x h => m_shared_by h
  have C_shared_by : Cb PySem.Challenge.rw_dittorows_k21_whole_sorted_tables.prog w K mg base 1 "shared_by" f_shared_by _ ["row", "other"] _ := ⟨G_shared_by, mm_shared_by, k_shared_by, b_shared_by⟩
  have G_fits_behind : FnG PySem.Challenge.rw_dittorows_k21_whole_sorted_tables.prog w K mg base _ _ _ _ (fitS 136) := (g_fits_behind F_fits_behind C_shared_by).imp (by decide +kernel) fun ds k x h => m_fits_behind h
  have C_fits_behind : Cb PySem.Challenge.rw_dittorows_k21_whole_sorted_tables.prog w K mg base 2 "fits_behind" f_fits_behind _ ["blanks", "full_rows", "row", "above"] _ := ⟨G_fits_behind, mm_fits_behind, k_fits_behind, b_fits_behind⟩
  have G_is_kept : FnG PySem.Challenge.rw_dittorows_k21_whole_sorted_tables.prog w K mg base _ _ _ _ ((fun c => poS c fun p ord => .fz (.bl (keptP p ord))) 664) := (g_is_kept F_is_kept C_parts_in C_fits_behind (PySem.W.mg_none_of X G z_all) (PySem.W.mg_none_of X G z_zip)).imp (by decide +kernel) fun ds k x h => m_is_kept h
  have C_is_kept : Cb PySem.Challenge.rw_dittorows_k21_whole_sorted_tables.prog w K mg base 4 "is_kept" f_is_kept _ ["page", "order"] _ := ⟨G_is_kept, mm_is_kept, k_is_kept, b_is_kept⟩
  have G_keeps : FnG PySem.Challenge.rw_dittorows_k21_whole_sorted_tables.prog w K mg base _ _ _ _ ((fun c => poS c fun p ord => .fz (.bl (keptP p ord))) 1496) := (g_keeps F_keeps C_require_page C_require_order C_is_kept (PySem.W.mg_none_of X G z_len)).imp (by decide +kernel) fun ds k x h => m_keeps h
  have C_keeps : Cb PySem.Challenge.rw_dittorows_k21_whole_sorted_tables.prog w K mg base 6 "keeps" f_keeps _ ["page", "order"] _ := ⟨G_keeps, mm_keeps, k_keeps, b_keeps⟩
  have G__law_columns_right : FnG PySem.Challenge.rw_dittorows_k21_whole_sorted_tables.prog w K mg base _ _ _ _ (tabS1 5074) := (g__law_columns_right F__law_columns_right C_sort_order C_wrong_rows C_keeps bd_sort_order kb_sort_order_0 (PySem.W.mg_none_of X G z_range) (PySem.W.mg_none_of X G z_len) (PySem.W.mg_none_of X G z_tuple) (PySem.W.mg_none_of X G z_sorted)).imp (by decide +kernel) fun ds k x h => m__law_columns_right h
  have C__law_columns_right : Cb PySem.Challenge.rw_dittorows_k21_whole_sorted_tables.prog w K mg base 8 "_law_columns_right" f__law_columns_right _ ["table_here"] _ := ⟨G__law_columns_right, mm__law_columns_right, k__law_columns_right, b__law_columns_right⟩
  have G_filled : FnG PySem.Challenge.rw_dittorows_k21_whole_sorted_tables.prog w K mg base _ _ _ _ ((fun c => pageS c fun p => .fz (pD (readRows none p))) 880) := (g_filled F_filled C_require_page C_read_rows (PySem.W.mg_none_of X G z_tuple)).imp (by decide +kernel) fun ds k x h => m_filled h
  have C_filled : Cb PySem.Challenge.rw_dittorows_k21_whole_sorted_tables.prog w K mg base 6 "filled" f_filled _ ["page"] _ := ⟨G_filled, mm_filled, k_filled, b_filled⟩
  have G__law_page_right : FnG PySem.Challenge.rw_dittorows_k21_whole_sorted_tables.prog w K mg base _ _ _ _ (lprS 6280) := (g__law_page_right F__law_page_right C_sort_order C_filled C_read_in C_keeps C_wrong_rows kb_sort_order_0 (PySem.W.mg_none_of X G z_len) (PySem.W.mg_none_of X G z_sorted) (PySem.W.mg_none_of X G z_zip)).imp (by decide +kernel) fun ds k x h => m__law_page_right h
  have C__law_page_right : Cb PySem.Challenge.rw_dittorows_k21_whole_sorted_tables.prog w K mg base 8 "_law_page_right" f__law_page_right _ ["page_here", "spot", "is_last"] _ := ⟨G__law_page_right, mm__law_page_right, k__law_page_right, b__law_page_right⟩
  exact (g_law F_law C__law_deck C__law_table C__law_draw C__law_page C__law_columns_right C__law_page_right (PySem.W.mg_none_of X G z_range) (PySem.W.mg_none_of X G z_max) (PySem.W.mg_none_of X G z_min) (PySem.W.mg_none_of X G z_len)).imp (by decide +kernel) fun ds k x h => m_law h
end M21
open PySem PySem.W PyProof.Rows
set_option maxHeartbeats 0 in
theorem PySem.Challenge.cw_dittorows_k21_whole_sorted_tables_holds : PySem.Challenge.rw_dittorows_k21_whole_sorted_tables.Holds := by
  w_on; o_law; k_head; (case hw => w_witness2)
  k_fill
  refine DL.walkG (l := PySem.Challenge.rw_dittorows_k21_whole_sorted_tables) (n := 63) (k := 9) (x := "script") (S := M21.lawS 1000000) rfl (by decide) rfl ⟨rfl, by decide, by decide⟩ (fun w h Y => ⟨PySem.W.km_in_of Y, PySem.W.km_tabs_of Y⟩) ?TG ?F (fun ns hl => ⟨ns, rfl, rfl⟩) (by decide)
  case TG => intro w; kernel_rfl
  case F =>
    intro w mg fa h KX G hmg
    refine' M21.all_mk KX G hmg ?a__law_deck ?l__law_deck ?c__law_deck ?k__law_deck ?a__law_draw ?l__law_draw ?c__law_draw ?k__law_draw ?a__law_value ?l__law_value ?c__law_value ?k__law_value ?a__law_table ?l__law_table ?c__law_table ?k__law_table ?a__law_shared ?l__law_shared ?c__law_shared ?k__law_shared ?a__law_most ?l__law_most ?c__law_most ?k__law_most ?a__law_with ?l__law_with ?c__law_with ?k__law_with ?a__law_page ?l__law_page ?c__law_page ?k__law_page ?a_blanks_in ?l_blanks_in ?c_blanks_in ?k_blanks_in ?a_is_cell ?l_is_cell ?c_is_cell ?k_is_cell ?a_is_printed_row ?l_is_printed_row ?c_is_printed_row ?k_is_printed_row ?a_are_printed_rows ?l_are_printed_rows ?c_are_printed_rows ?k_are_printed_rows ?a_has_page_form ?l_has_page_form ?c_has_page_form ?k_has_page_form ?a_require_page ?l_require_page ?c_require_page ?k_require_page ?a_is_integer ?l_is_integer ?c_is_integer ?k_is_integer ?a_sort_order ?l_sort_order ?c_sort_order ?k_sort_order ?a_is_order_of ?l_is_order_of ?c_is_order_of ?k_is_order_of ?a_require_order ?l_require_order ?c_require_order ?k_require_order ?a_read_rows ?l_read_rows ?c_read_rows ?k_read_rows ?a_read_in ?l_read_in ?c_read_in ?k_read_in ?a_wrong_rows ?l_wrong_rows ?c_wrong_rows ?k_wrong_rows ?a_parts_in ?l_parts_in ?c_parts_in ?k_parts_in ?a_shared_by ?l_shared_by ?c_shared_by ?k_shared_by ?a_fits_behind ?l_fits_behind ?c_fits_behind ?k_fits_behind ?a_is_kept ?l_is_kept ?c_is_kept ?k_is_kept ?a_keeps ?l_keeps ?c_keeps ?k_keeps ?a__law_columns_right ?l__law_columns_right ?c__law_columns_right ?k__law_columns_right ?a_filled ?l_filled ?c_filled ?k_filled ?a__law_page_right ?l__law_page_right ?c__law_page_right ?k__law_page_right ?a_law ?l_law ?c_law ?k_law ?z_range ?z_max ?z_min ?z_len ?z_int ?z_tuple ?z_sorted ?z_zip ?z_all ?z_isinstance ?z_str ?z_bool ?z_enumerate ?z_list ?q_SIGNS ?q_MOST_SIGNS ?q_MOST_WIDTH ?q_MOST_ROWS ?kw_sort_order ?u_sort_order
    case u_sort_order => kernel_rfl
    (case a__law_deck => k_is); (case l__law_deck => k_is); (case c__law_deck => k_is); (case k__law_deck => k_is); (case a__law_draw => k_is); (case l__law_draw => k_is); (case c__law_draw => k_is); (case k__law_draw => k_is); (case a__law_value => k_is); (case l__law_value => k_is); (case c__law_value => k_is); (case k__law_value => k_is); (case a__law_table => k_is); (case l__law_table => k_is); (case c__law_table => k_is); (case k__law_table => k_is); (case a__law_shared => k_is); (case l__law_shared => k_is); (case c__law_shared => k_is); (case k__law_shared => k_is); (case a__law_most => k_is); (case l__law_most => k_is); (case c__law_most => k_is); (case k__law_most => k_is); (case a__law_with => k_is); (case l__law_with => k_is); (case c__law_with => k_is); (case k__law_with => k_is); (case a__law_page => k_is); (case l__law_page => k_is); (case c__law_page => k_is); (case k__law_page => k_is); (case a_blanks_in => k_is); (case l_blanks_in => k_is); (case c_blanks_in => k_is); (case k_blanks_in => k_is); (case a_is_cell => k_is); (case l_is_cell => k_is); (case c_is_cell => k_is); (case k_is_cell => k_is); (case a_is_printed_row => k_is); (case l_is_printed_row => k_is); (case c_is_printed_row => k_is); (case k_is_printed_row => k_is); (case a_are_printed_rows => k_is); (case l_are_printed_rows => k_is); (case c_are_printed_rows => k_is); (case k_are_printed_rows => k_is); (case a_has_page_form => k_is); (case l_has_page_form => k_is); (case c_has_page_form => k_is); (case k_has_page_form => k_is); (case a_require_page => k_is); (case l_require_page => k_is); (case c_require_page => k_is); (case k_require_page => k_is); (case a_is_integer => k_is); (case l_is_integer => k_is); (case c_is_integer => k_is); (case k_is_integer => k_is); (case a_sort_order => k_is); (case l_sort_order => k_is); (case c_sort_order => k_is); (case k_sort_order => k_is); (case a_is_order_of => k_is); (case l_is_order_of => k_is); (case c_is_order_of => k_is); (case k_is_order_of => k_is); (case a_require_order => k_is); (case l_require_order => k_is); (case c_require_order => k_is); (case k_require_order => k_is); (case a_read_rows => k_is); (case l_read_rows => k_is); (case c_read_rows => k_is); (case k_read_rows => k_is); (case a_read_in => k_is); (case l_read_in => k_is); (case c_read_in => k_is); (case k_read_in => k_is); (case a_wrong_rows => k_is); (case l_wrong_rows => k_is); (case c_wrong_rows => k_is); (case k_wrong_rows => k_is); (case a_parts_in => k_is); (case l_parts_in => k_is); (case c_parts_in => k_is); (case k_parts_in => k_is); (case a_shared_by => k_is); (case l_shared_by => k_is); (case c_shared_by => k_is); (case k_shared_by => k_is); (case a_fits_behind => k_is); (case l_fits_behind => k_is); (case c_fits_behind => k_is); (case k_fits_behind => k_is); (case a_is_kept => k_is); (case l_is_kept => k_is); (case c_is_kept => k_is); (case k_is_kept => k_is); (case a_keeps => k_is); (case l_keeps => k_is); (case c_keeps => k_is); (case k_keeps => k_is); (case a__law_columns_right => k_is); (case l__law_columns_right => k_is); (case c__law_columns_right => k_is); (case k__law_columns_right => k_is); (case a_filled => k_is); (case l_filled => k_is); (case c_filled => k_is); (case k_filled => k_is); (case a__law_page_right => k_is); (case l__law_page_right => k_is); (case c__law_page_right => k_is); (case k__law_page_right => k_is); (case a_law => k_is); (case l_law => k_is); (case c_law => k_is); (case k_law => k_is); (case z_range => k_is); (case z_max => k_is); (case z_min => k_is); (case z_len => k_is); (case z_int => k_is); (case z_tuple => k_is); (case z_sorted => k_is); (case z_zip => k_is); (case z_all => k_is); (case z_isinstance => k_is); (case z_str => k_is); (case z_bool => k_is); (case z_enumerate => k_is); (case z_list => k_is); (case q_SIGNS => k_is); (case q_MOST_SIGNS => k_is); (case q_MOST_WIDTH => k_is); (case q_MOST_ROWS => k_is)
    case kw_sort_order => exact ⟨_, rfl, by k_is⟩
