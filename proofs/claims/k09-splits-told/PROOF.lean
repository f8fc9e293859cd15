import PyProof.Rows.All
import Wide.All
import OpenK.AllK
import Wide.FinOn
import HandS.ForMost
import HandS.ForExc
import HandS.Defaults
import HandS.Lambda
import KE.SortKeyHeap
import HandS.TupAny
import HandS.Wide
import HandS.Style
import HandS.IsInst
import HandS.Flow
import HandS.RaiseMore
import HandS.Conv
import HandS.ExcValue
import HandS.TryOnly
import HandS.Zip
import HandS.HeadEnd
import HandS.Deep
import HandS.TupMul
import PyProof.StrOps2
import HandS.SortInts
import HandS.Replace
import HandS.SortKw
import KE.DataMinMax
import HandS.TupSets
import HandS.Strs
import HandS.SetFor
import HandS.HeadHook4
import KE.KStateDown
import HandS.Head0
import HandS.Head1
import HandS.Head2
import HandS.HeadHook1
import HandS.HeadHook2
import HandS.HeadHook3
import PySem.Challenge.RW_tablebills_k09_splits_told
set_option Elab.async false
set_option linter.all false
set_option maxRecDepth 100000
section
set_option maxHeartbeats 4000000
namespace Tb
open PySem PySem.Spec L2
/-! ## values, the mirror heap -/
inductive D where
  | non | bl (b : Bool) | int (i : Int) | str (x : Str) | tup (xs : List D) | lst (xs : List D) | ref (n : Nat) | raw (v : V) | scr (ns : List Int)
inductive MO where
  | lst (xs : List D)
structure MH where
  get : Nat → Option MO
  next : Nat
def MH.set (h : MH) (n : Nat) (o : MO) : MH := ⟨fun m => if m = n then some o else h.get m, h.next⟩
def MH.new (h : MH) (o : MO) : MH := ⟨fun m => if m = h.next then some o else h.get m, h.next + 1⟩
def MH.drop (h : MH) (n : Nat) : MH := ⟨fun m => if m = n then none else h.get m, h.next⟩
structure Ex where
  cls : Value
  fs : List (Str × D)
inductive R (α : Type) where
  | ok (a : α) (h : MH)
  | exc (e : Ex) (h : MH)
  | bad
def R.bind {α β : Type} (r : R α) (f : α → MH → R β) : R β := match r with
  | .ok a h => f a h
  | .exc e h => .exc e h
  | .bad => .bad
/-- nothing is raised -/
def R.calm {α : Type} (r : R α) : R α := match r with
  | .ok a h => .ok a h
  | _ => .bad
/-! ## a mirror heap over the kit's -/
structure W3 where
  io : Nat → Addr
  h : MH
  H : Hp
  bar : Addr → Prop
/-- the things that may change: those that the mirror heap holds, and those that are still being made -/
def Own (w : W3) (a : Addr) : Prop := (∃ n o, w.h.get n = some o ∧ w.io n = a) ∨ w.bar a
def KTup (K : PySem.W.Frag) (a : Addr) (xs : List V) : Prop := ∃ (o : Obj) (its : Array Value) (n : Nat), K.lookup a = some o ∧ o.cls = .type "tuple" ∧ o.data = .seq its n ∧ its.size ≤ sizeLine ∧ Vals xs its.toList
def KLst (K : PySem.W.Frag) (a : Addr) (xs : List V) : Prop := ∃ (o : Obj) (its : Array Value) (n : Nat), K.lookup a = some o ∧ o.cls = .type "list" ∧ o.dict = none ∧ o.data = .seq its n ∧ its.size ≤ sizeLine ∧ Vals xs its.toList
def TupAt (K : PySem.W.Frag) (w : W3) (a : Addr) (xs : List V) : Prop := (Rd w.H a (.tup xs) ∧ ¬ Own w a) ∨ KTup K a xs
def LstAt (w : W3) (a : Addr) (xs : List V) : Prop := w.H a = some (.lst xs) ∧ ¬ Own w a
/-- the script -/
def ScrAt (K : PySem.W.Frag) (w : W3) (a : Addr) (ns : List Int) : Prop := (Rd w.H a (.lst (ns.map V.int)) ∧ ¬ Own w a) ∨ KLst K a (ns.map V.int)
theorem TupAt.sq {K : PySem.W.Frag} {w : W3} {a : Addr} {xs : List V} (h : TupAt K w a xs) : SqT K w.H a xs := h.imp (·.1) id
theorem LstAt.sq {K : PySem.W.Frag} {w : W3} {a : Addr} {xs : List V} (h : LstAt w a xs) : SqL K w.H a xs := SqL.of h.1
theorem ScrAt.sq {K : PySem.W.Frag} {w : W3} {a : Addr} {ns : List Int} (h : ScrAt K w a ns) : SqL K w.H a (ns.map V.int) := h.imp (·.1) id
mutual
def Rep (K : PySem.W.Frag) (w : W3) : D → V → Prop
  | .non, v => v = .non
  | .bl b, v => v = .bl b
  | .int i, v => v = .int i
  | .str x, v => v = .str x
  | .raw u, v => v = u
  | .ref n, v => n < w.h.next ∧ v = .ref (w.io n)
  | .tup xs, v => ∃ a vs, v = .ref a ∧ TupAt K w a vs ∧ Reps K w xs vs
  | .lst xs, v => ∃ a vs, v = .ref a ∧ LstAt w a vs ∧ Reps K w xs vs
  | .scr ns, v => ∃ a, v = .ref a ∧ ScrAt K w a ns
def Reps (K : PySem.W.Frag) (w : W3) : List D → List V → Prop
  | [], vs => vs = []
  | x :: xs, vs => ∃ u us, vs = u :: us ∧ Rep K w x u ∧ Reps K w xs us
end
def ObjR (K : PySem.W.Frag) (w : W3) (a : Addr) : MO → Prop
  | .lst xs => ∃ vs, w.H a = some (.lst vs) ∧ Reps K w xs vs
/-! ### tables of the code objects of lambdas -/
/-- the tables whose lambdas are known: a mark at the fragment's end tells them (its place is told ahead of it, so that no look sees the mark) -/
def pairsV : List Value → List (Addr × Str)
  | .ref P :: .str q _ :: r => (P, q) :: pairsV r
  | _ => []
def marks (K : PySem.W.Frag) : List (Addr × Str) := match K.getLast? with
  | some (_, ⟨.none, none, .fields vs, _⟩) => pairsV vs.toList
  | _ => []
def valsM : List (Addr × Str) → List Value
  | [] => []
  | (P, q) :: r => .ref P :: .str q 0 :: valsM r
def marked (K : PySem.W.Frag) (f : Addr) (T : List (Addr × Str)) : PySem.W.Frag := K ++ [(f, { cls := .none, data := .fields (valsM T).toArray })]
theorem pairs_vals : ∀ T : List (Addr × Str), pairsV (valsM T) = T
  | [] => rfl
  | (P, q) :: r => congrArg ((P, q) :: ·) (pairs_vals r)
theorem marks_marked {K : PySem.W.Frag} {f : Addr} {T : List (Addr × Str)} : marks (marked K f T) = T := by
  unfold marks marked
  rw [List.getLast?_concat]
  exact pairs_vals T
theorem lookup_marked {K : PySem.W.Frag} {f : Addr} {o : Obj} {T : List (Addr × Str)} (h : K.lookup f = some o) (a : Addr) : (marked K f T).lookup a = K.lookup a := by
  unfold marked
  rw [List.lookup_append]
  cases e : K.lookup a with
  | some u => rfl
  | none =>
    have hne : (a == f) = false := by
      rw [beq_eq_false_iff_ne]
      rintro rfl
      rw [h] at e
      cases e
    simp [List.lookup, hne]
def TabF (K : PySem.W.Frag) (P : Addr) (q : Str) : Prop := (P, q) ∈ marks K
def TabK (K : PySem.W.Frag) (P : Addr) (q : Str) : Prop := TabF K P q ∧ ∀ q', TabF K P q' → q' = q
theorem TabK.one {K : PySem.W.Frag} {P : Addr} {q q' : Str} (h : TabK K P q) (h' : TabK K P q') : q = q' := h'.2 q h.1
def TabW (w : W3) (P : Addr) (q : Str) : Prop := ∃ ps : Array Value, w.H P = some (.tbl ps) ∧ ¬ Own w P ∧ TriplesOk ps.toList ∧ ∀ (pos : Pos) (cv : Value), codeAmong pos ps.toList = some cv → ∃ c, cv = .ref c ∧ w.H c = some (LamX.CodeO c q) ∧ ¬ Own w c
/-- all that isn't owned stays -/
def ExtA (w w' : W3) : Prop := ∀ a u, w.H a = some u → ¬ Own w a → w'.H a = some u ∧ ¬ Own w' a
theorem TabW.all {w w' : W3} {P : Addr} {q : Str} (e : ExtA w w') (h : TabW w P q) : TabW w' P q := by
  obtain ⟨ps, h1, h2, h3, h4⟩ := h
  refine ⟨ps, (e P _ h1 h2).1, (e P _ h1 h2).2, h3, fun pos cv hc => ?_⟩
  obtain ⟨c, e1, e2, e3⟩ := h4 pos cv hc
  exact ⟨c, e1, e c _ e2 e3⟩
structure Ok (K : PySem.W.Frag) (w : W3) : Prop where
  dom : ∀ n o, w.h.get n = some o → n < w.h.next ∧ ObjR K w (w.io n) o
  inj : ∀ n m o u, w.h.get n = some o → w.h.get m = some u → w.io n = w.io m → n = m
  barH : ∀ a, w.bar a → ∃ u, w.H a = some u
  barO : ∀ n o, w.h.get n = some o → ¬ w.bar (w.io n)
  tab : ∀ P q, TabK K P q → TabW w P q
/-- what a value's meaning leans on -/
structure Ext0 (w w' : W3) : Prop where
  io0 : ∀ n, n < w.h.next → w'.io n = w.io n
  nx0 : w.h.next ≤ w'.h.next
  un0 : ∀ a u, w.H a = some u → (∀ ps, u ≠ .tbl ps) → ¬ Own w a → w'.H a = some u ∧ ¬ Own w' a
structure Ext (w w' : W3) : Prop where
  io : ∀ n, n < w.h.next → w'.io n = w.io n
  nx : w.h.next ≤ w'.h.next
  un : ∀ a u, w.H a = some u → (∀ ps, u ≠ .tbl ps) → ¬ Own w a → w'.H a = some u ∧ ¬ Own w' a
  ba : ∀ a, w.bar a → w'.bar a ∧ w'.H a = w.H a
theorem ExtA.wk {w w' : W3} (e : ExtA w w') : ∀ a u, w.H a = some u → (∀ ps, u ≠ .tbl ps) → ¬ Own w a → w'.H a = some u ∧ ¬ Own w' a := fun a u h _ n => e a u h n
theorem Ext.refl (w : W3) : Ext w w := ⟨fun _ _ => rfl, Nat.le_refl _, fun _ _ h _ n => ⟨h, n⟩, fun _ h => ⟨h, rfl⟩⟩
theorem Ext.trans {w w1 w2 : W3} (a : Ext w w1) (b : Ext w1 w2) : Ext w w2 :=
  ⟨fun n h => (b.io n (Nat.lt_of_lt_of_le h a.nx)).trans (a.io n h), Nat.le_trans a.nx b.nx, fun c u h t n => let ⟨h1, n1⟩ := a.un c u h t n; b.un c u h1 t n1,
    fun c h => let ⟨h1, e1⟩ := a.ba c h; let ⟨h2, e2⟩ := b.ba c h1; ⟨h2, e2.trans e1⟩⟩
section
variable {K : PySem.W.Frag} {w w' : W3}
theorem Ext.to0 (e : Ext w w') : Ext0 w w' := ⟨e.io, e.nx, e.un⟩
theorem Ext0.rd {a : Addr} {u : HO} (e : Ext0 w w') (h : Rd w.H a u) (ht : ∀ ps, u ≠ .tbl ps) (n : ¬ Own w a) : Rd w'.H a u ∧ ¬ Own w' a := by
  rcases h with h | ⟨o, h⟩
  · exact ⟨.inl (e.un0 a _ h ht n).1, (e.un0 a _ h ht n).2⟩
  · exact ⟨.inr ⟨o, (e.un0 a _ h (fun ps z => nomatch z) n).1⟩, (e.un0 a _ h (fun ps z => nomatch z) n).2⟩
theorem TupAt.ext0 {a : Addr} {xs : List V} (e : Ext0 w w') (h : TupAt K w a xs) : TupAt K w' a xs := h.imp (fun q => e.rd q.1 (fun ps z => nomatch z) q.2) id
theorem LstAt.ext0 {a : Addr} {xs : List V} (e : Ext0 w w') (h : LstAt w a xs) : LstAt w' a xs := e.un0 a _ h.1 (fun ps z => nomatch z) h.2
theorem ScrAt.ext0 {a : Addr} {ns : List Int} (e : Ext0 w w') (h : ScrAt K w a ns) : ScrAt K w' a ns := h.imp (fun q => e.rd q.1 (fun ps z => nomatch z) q.2) id
mutual
theorem Rep.ext0 (e : Ext0 w w') : ∀ {d : D} {v : V}, Rep K w d v → Rep K w' d v
  | .non, _, h => by simpa only [Rep] using h
  | .bl _, _, h => by simpa only [Rep] using h
  | .int _, _, h => by simpa only [Rep] using h
  | .str _, _, h => by simpa only [Rep] using h
  | .raw _, _, h => by simpa only [Rep] using h
  | .ref n, _, h => by
    simp only [Rep] at h ⊢
    exact ⟨Nat.lt_of_lt_of_le h.1 e.nx0, by rw [e.io0 n h.1]; exact h.2⟩
  | .tup xs, _, h => by
    simp only [Rep] at h ⊢
    obtain ⟨a, vs, h1, h2, h3⟩ := h
    exact ⟨a, vs, h1, h2.ext0 e, Reps.ext0 e h3⟩
  | .lst xs, _, h => by
    simp only [Rep] at h ⊢
    obtain ⟨a, vs, h1, h2, h3⟩ := h
    exact ⟨a, vs, h1, h2.ext0 e, Reps.ext0 e h3⟩
  | .scr ns, _, h => by
    simp only [Rep] at h ⊢
    obtain ⟨a, h1, h2⟩ := h
    exact ⟨a, h1, h2.ext0 e⟩
theorem Reps.ext0 (e : Ext0 w w') : ∀ {ds : List D} {vs : List V}, Reps K w ds vs → Reps K w' ds vs
  | [], _, h => by simpa only [Reps] using h
  | d :: ds, _, h => by
    simp only [Reps] at h ⊢
    obtain ⟨u, us, h1, h2, h3⟩ := h
    exact ⟨u, us, h1, Rep.ext0 e h2, Reps.ext0 e h3⟩
end
theorem Rep.ext (e : Ext w w') {d : D} {v : V} (h : Rep K w d v) : Rep K w' d v := Rep.ext0 e.to0 h
theorem Reps.ext (e : Ext w w') {ds : List D} {vs : List V} (h : Reps K w ds vs) : Reps K w' ds vs := Reps.ext0 e.to0 h
theorem TupAt.ext {a : Addr} {xs : List V} (e : Ext w w') (h : TupAt K w a xs) : TupAt K w' a xs := TupAt.ext0 e.to0 h
theorem LstAt.ext {a : Addr} {xs : List V} (e : Ext w w') (h : LstAt w a xs) : LstAt w' a xs := LstAt.ext0 e.to0 h
theorem ScrAt.ext {a : Addr} {ns : List Int} (e : Ext w w') (h : ScrAt K w a ns) : ScrAt K w' a ns := ScrAt.ext0 e.to0 h
theorem Reps.nil : Reps K w [] [] := by simp only [Reps]
theorem Reps.cons {d : D} {v : V} {ds : List D} {vs : List V} (h : Rep K w d v) (t : Reps K w ds vs) : Reps K w (d :: ds) (v :: vs) := by
  simp only [Reps]
  exact ⟨v, vs, rfl, h, t⟩
theorem Reps.uncons {d : D} {ds : List D} {vs : List V} (h : Reps K w (d :: ds) vs) : ∃ u us, vs = u :: us ∧ Rep K w d u ∧ Reps K w ds us := by
  simpa only [Reps] using h
theorem Reps.unnil {vs : List V} (h : Reps K w [] vs) : vs = [] := by simpa only [Reps] using h
theorem Reps.length : ∀ {ds : List D} {vs : List V}, Reps K w ds vs → ds.length = vs.length
  | [], _, h => by rw [h.unnil]; rfl
  | d :: ds, _, h => by
    obtain ⟨u, us, rfl, _, h3⟩ := h.uncons
    simp [Reps.length h3]
theorem Reps.get : ∀ {ds : List D} {vs : List V} {i : Nat} {d : D}, Reps K w ds vs → ds[i]? = some d → ∃ v, vs[i]? = some v ∧ Rep K w d v
  | [], _, _, _, _, e => by simp at e
  | _ :: _, _, 0, _, h, e => by
    obtain ⟨u, us, rfl, h2, _⟩ := h.uncons
    simp at e; subst e
    exact ⟨u, rfl, h2⟩
  | _ :: _, _, i + 1, _, h, e => by
    obtain ⟨u, us, rfl, _, h3⟩ := h.uncons
    simpa using Reps.get (i := i) h3 (by simpa using e)
theorem Reps.append : ∀ {ds es : List D} {vs us : List V}, Reps K w ds vs → Reps K w es us → Reps K w (ds ++ es) (vs ++ us)
  | [], _, _, _, h, h' => by rw [h.unnil]; exact h'
  | d :: ds, _, _, _, h, h' => by
    obtain ⟨u, us, rfl, h2, h3⟩ := h.uncons
    exact Reps.cons h2 (Reps.append h3 h')
theorem Reps.take : ∀ {ds : List D} {vs : List V} (n : Nat), Reps K w ds vs → Reps K w (ds.take n) (vs.take n)
  | _, _, 0, _ => Reps.nil
  | [], _, _ + 1, h => by rw [h.unnil]; exact Reps.nil
  | d :: ds, _, n + 1, h => by
    obtain ⟨u, us, rfl, h2, h3⟩ := h.uncons
    exact Reps.cons h2 (Reps.take n h3)
theorem Reps.drop : ∀ {ds : List D} {vs : List V} (n : Nat), Reps K w ds vs → Reps K w (ds.drop n) (vs.drop n)
  | _, _, 0, h => h
  | [], _, _ + 1, h => by rw [h.unnil]; exact Reps.nil
  | d :: ds, _, n + 1, h => by
    obtain ⟨u, us, rfl, h2, h3⟩ := h.uncons
    exact Reps.drop n h3
theorem Reps.set {d : D} {v : V} (hd : Rep K w d v) : ∀ {ds : List D} {vs : List V} (i : Nat), Reps K w ds vs → Reps K w (ds.set i d) (vs.set i v)
  | [], _, _, h => by rw [h.unnil]; exact Reps.nil
  | _ :: ds, _, 0, h => by
    obtain ⟨u, us, rfl, h2, h3⟩ := h.uncons
    exact Reps.cons hd h3
  | _ :: ds, _, i + 1, h => by
    obtain ⟨u, us, rfl, h2, h3⟩ := h.uncons
    exact Reps.cons h2 (Reps.set hd i h3)
theorem Reps.one {d : D} {vs : List V} (h : Reps K w [d] vs) : ∃ v, vs = [v] ∧ Rep K w d v := by
  obtain ⟨u, us, rfl, h2, h3⟩ := h.uncons
  rw [h3.unnil]; exact ⟨u, rfl, h2⟩
theorem Reps.two {d e : D} {vs : List V} (h : Reps K w [d, e] vs) : ∃ u v, vs = [u, v] ∧ Rep K w d u ∧ Rep K w e v := by
  obtain ⟨u, us, rfl, h2, h3⟩ := h.uncons
  obtain ⟨v, rfl, h4⟩ := h3.one
  exact ⟨u, v, rfl, h2, h4⟩
theorem ObjR.ext0 (e : Ext0 w w') {a : Addr} (hH : w'.H a = w.H a) : ∀ {o : MO}, ObjR K w a o → ObjR K w' a o
  | .lst xs, ⟨vs, h1, h2⟩ => ⟨vs, by rw [hH]; exact h1, h2.ext0 e⟩
theorem ObjR.ext (e : Ext w w') {a : Addr} (hH : w'.H a = w.H a) {o : MO} (h : ObjR K w a o) : ObjR K w' a o := ObjR.ext0 e.to0 hH h
theorem ObjR.some {a : Addr} : ∀ {o : MO}, ObjR K w a o → ∃ u, w.H a = some u
  | .lst xs, ⟨vs, h1, _⟩ => ⟨_, h1⟩
theorem Ok.own_some (k : Ok K w) {a : Addr} (h : Own w a) : ∃ u, w.H a = some u := by
  rcases h with ⟨n, o, h1, rfl⟩ | h
  · exact (k.dom n o h1).2.some
  · exact k.barH a h
theorem Ok.free (k : Ok K w) {p : Addr} (h : w.H p = none) : ¬ Own w p := fun q => by
  obtain ⟨u, e⟩ := k.own_some q
  rw [h] at e; cases e
/-! ### the four steps of a heap -/
/-- a new thing that the mirror heap doesn't hold -/
def W3.lay (w : W3) (p : Addr) (u : HO) : W3 := ⟨w.io, w.h, upd w.H p u, w.bar⟩
theorem Ok.notBar {p : Addr} (k : Ok K w) (hp : w.H p = none) : ∀ a, w.bar a → a ≠ p := fun a h e => by
  obtain ⟨u, q⟩ := k.barH a h
  rw [e, hp] at q; cases q
theorem ExtA.lay {p : Addr} {u : HO} (hp : w.H p = none) : ExtA w (w.lay p u) := fun a o h n => ⟨(upd_ne (ne_of_none h hp)).trans h, n⟩
theorem Ext.lay {p : Addr} {u : HO} (k : Ok K w) (hp : w.H p = none) : Ext w (w.lay p u) :=
  ⟨fun _ _ => rfl, Nat.le_refl _, (ExtA.lay hp).wk, fun a h => ⟨h, upd_ne (k.notBar hp a h)⟩⟩
theorem Ok.lay {p : Addr} {u : HO} (k : Ok K w) (hp : w.H p = none) : Ok K (w.lay p u) := by
  refine ⟨fun n o h => ?_, fun n m o v h h' e => k.inj n m o v h h' e, fun a h => ?_, k.barO, fun P q t => (k.tab P q t).all (ExtA.lay hp)⟩
  · obtain ⟨h1, h2⟩ := k.dom n o h
    obtain ⟨v, hv⟩ := h2.some
    exact ⟨h1, h2.ext (Ext.lay k hp) (upd_ne (ne_of_none hv hp))⟩
  · obtain ⟨v, hv⟩ := k.barH a h
    exact ⟨v, (upd_ne (k.notBar hp a h)).trans hv⟩
theorem Rep.layTup {p : Addr} {xs : List V} {ds : List D} (k : Ok K w) (hp : w.H p = none) (r : Reps K w ds xs) : Rep K (w.lay p (.tup xs)) (.tup ds) (.ref p) := by
  simp only [Rep]
  exact ⟨p, xs, rfl, .inl ⟨.inl upd_same, fun q => k.free hp q⟩, r.ext (Ext.lay k hp)⟩
theorem Rep.layLst {p : Addr} {xs : List V} {ds : List D} (k : Ok K w) (hp : w.H p = none) (r : Reps K w ds xs) : Rep K (w.lay p (.lst xs)) (.lst ds) (.ref p) := by
  simp only [Rep]
  exact ⟨p, xs, rfl, ⟨upd_same, fun q => k.free hp q⟩, r.ext (Ext.lay k hp)⟩
/-- a new thing that the mirror heap holds -/
def W3.hold (w : W3) (p : Addr) (u : HO) (o : MO) : W3 := ⟨fun n => if n = w.h.next then p else w.io n, w.h.new o, upd w.H p u, w.bar⟩
theorem ExtA.hold {p : Addr} {u : HO} {o : MO} (hp : w.H p = none) : ExtA w (w.hold p u o) := by
  refine fun a v h n => ⟨(upd_ne (ne_of_none h hp)).trans h, fun q => ?_⟩
  rcases q with ⟨m, o', h1, h2⟩ | q
  · unfold W3.hold MH.new at h1 h2
    simp only at h1 h2
    by_cases hm : m = w.h.next
    · rw [if_pos hm] at h2
      rw [h2] at hp; rw [hp] at h; cases h
    · rw [if_neg hm] at h1 h2
      exact n (.inl ⟨m, o', h1, h2⟩)
  · exact n (.inr q)
theorem Ext.hold {p : Addr} {u : HO} {o : MO} (k : Ok K w) (hp : w.H p = none) : Ext w (w.hold p u o) :=
  ⟨fun n h => if_neg (Nat.ne_of_lt h), Nat.le_succ _, (ExtA.hold hp).wk, fun a h => ⟨h, upd_ne (k.notBar hp a h)⟩⟩
theorem Ok.hold {p : Addr} {u : HO} {o : MO} (k : Ok K w) (hp : w.H p = none) (ho : ObjR K (w.hold p u o) p o) : Ok K (w.hold p u o) := by
  refine ⟨fun n o' h => ?_, fun n m o1 o2 h1 h2 e => ?_, fun a h => ?_, fun n o' h => ?_, fun P q t => (k.tab P q t).all (ExtA.hold hp)⟩
  · unfold W3.hold MH.new at h ⊢
    simp only at h ⊢
    by_cases hn : n = w.h.next
    · subst hn
      rw [if_pos rfl] at h; cases h
      exact ⟨Nat.lt_succ_self _, by rw [if_pos rfl]; exact ho⟩
    · rw [if_neg hn] at h
      obtain ⟨q1, q2⟩ := k.dom n o' h
      obtain ⟨v, hv⟩ := q2.some
      exact ⟨Nat.lt_succ_of_lt q1, by rw [if_neg hn]; exact q2.ext (Ext.hold k hp) (upd_ne (ne_of_none hv hp))⟩
  · unfold W3.hold MH.new at h1 h2 e
    simp only at h1 h2 e
    by_cases hn : n = w.h.next
    · by_cases hm : m = w.h.next
      · rw [hn, hm]
      · rw [if_pos hn, if_neg hm] at e
        rw [if_neg hm] at h2
        obtain ⟨v, hv⟩ := (k.dom m o2 h2).2.some
        rw [← e, hp] at hv; cases hv
    · by_cases hm : m = w.h.next
      · rw [if_neg hn, if_pos hm] at e
        rw [if_neg hn] at h1
        obtain ⟨v, hv⟩ := (k.dom n o1 h1).2.some
        rw [e, hp] at hv; cases hv
      · rw [if_neg hn, if_neg hm] at e
        rw [if_neg hn] at h1
        rw [if_neg hm] at h2
        exact k.inj n m o1 o2 h1 h2 e
  · obtain ⟨v, hv⟩ := k.barH a h
    exact ⟨v, (upd_ne (k.notBar hp a h)).trans hv⟩
  · unfold W3.hold MH.new at h ⊢
    simp only at h ⊢
    by_cases hn : n = w.h.next
    · rw [if_pos hn]
      exact fun q => k.notBar hp p q rfl
    · rw [if_neg hn] at h ⊢
      exact k.barO n o' h
theorem Rep.hold {p : Addr} {u : HO} {o : MO} : Rep K (w.hold p u o) (.ref w.h.next) (.ref p) := by
  simp only [Rep]
  exact ⟨Nat.lt_succ_self _, by unfold W3.hold; simp only [if_true]⟩
/-- the thing at n is written -/
def W3.put (w : W3) (n : Nat) (u : HO) (o : MO) : W3 := ⟨w.io, w.h.set n o, upd w.H (w.io n) u, w.bar⟩
theorem Ok.barNe {n : Nat} {o : MO} (k : Ok K w) (h : w.h.get n = some o) : ∀ a, w.bar a → a ≠ w.io n := fun a q e => k.barO n o h (e ▸ q)
theorem ExtA.put {n : Nat} {u : HO} {o o' : MO} (h : w.h.get n = some o') : ExtA w (w.put n u o) := by
  refine fun a v ha na => ?_
  have hne : a ≠ w.io n := fun e => na (.inl ⟨n, o', h, e.symm⟩)
  refine ⟨(upd_ne hne).trans ha, fun q => ?_⟩
  rcases q with ⟨m, o1, h1, h2⟩ | q
  · unfold W3.put MH.set at h1 h2
    simp only at h1 h2
    by_cases hm : m = n
    · subst hm; exact hne h2.symm
    · rw [if_neg hm] at h1; exact na (.inl ⟨m, o1, h1, h2⟩)
  · exact na (.inr q)
theorem Ext.put {n : Nat} {u : HO} {o o' : MO} (k : Ok K w) (h : w.h.get n = some o') : Ext w (w.put n u o) :=
  ⟨fun _ _ => rfl, Nat.le_refl _, (ExtA.put h).wk, fun a q => ⟨q, upd_ne (k.barNe h a q)⟩⟩
theorem put_old {n : Nat} {u : HO} {o o' : MO} (h : w.h.get n = some o') : ∀ x y, (w.put n u o).h.get x = some y → ∃ z, w.h.get x = some z := fun x y hx => by
  unfold W3.put MH.set at hx
  simp only at hx
  by_cases hm : x = n
  · subst hm; exact ⟨o', h⟩
  · rw [if_neg hm] at hx; exact ⟨y, hx⟩
theorem Ok.put {n : Nat} {u : HO} {o o' : MO} (k : Ok K w) (h : w.h.get n = some o') (ho : ObjR K (w.put n u o) (w.io n) o) : Ok K (w.put n u o) := by
  refine ⟨fun m o1 h1 => ?_, fun m l o1 o2 h1 h2 e => ?_, fun a q => ?_, fun m o1 h1 => ?_, fun P q t => (k.tab P q t).all (ExtA.put h)⟩
  · unfold W3.put MH.set at h1
    simp only at h1
    by_cases hm : m = n
    · subst hm
      rw [if_pos rfl] at h1; cases h1
      exact ⟨(k.dom m o' h).1, ho⟩
    · rw [if_neg hm] at h1
      obtain ⟨q1, q2⟩ := k.dom m o1 h1
      exact ⟨q1, q2.ext (Ext.put k h) (upd_ne fun e => hm (k.inj m n o1 o' h1 h e))⟩
  · obtain ⟨z1, e1⟩ := put_old h m o1 h1
    obtain ⟨z2, e2⟩ := put_old h l o2 h2
    exact k.inj m l z1 z2 e1 e2 e
  · obtain ⟨v, hv⟩ := k.barH a q
    exact ⟨v, (upd_ne (k.barNe h a q)).trans hv⟩
  · obtain ⟨z1, e1⟩ := put_old h m o1 h1
    exact k.barO m z1 e1
/-- some things are forgotten -/
def W3.less (w : W3) (g : Nat → Option MO) : W3 := ⟨w.io, ⟨g, w.h.next⟩, w.H, w.bar⟩
theorem ExtA.less {g : Nat → Option MO} (hg : ∀ n o, g n = some o → w.h.get n = some o) : ExtA w (w.less g) := by
  refine fun a u h n => ⟨h, fun q => ?_⟩
  rcases q with ⟨m, o, h1, h2⟩ | q
  · exact n (.inl ⟨m, o, hg m o h1, h2⟩)
  · exact n (.inr q)
theorem Ext.less {g : Nat → Option MO} (hg : ∀ n o, g n = some o → w.h.get n = some o) : Ext w (w.less g) :=
  ⟨fun _ _ => rfl, Nat.le_refl _, (ExtA.less hg).wk, fun a q => ⟨q, rfl⟩⟩
theorem Ok.less {g : Nat → Option MO} (k : Ok K w) (hg : ∀ n o, g n = some o → w.h.get n = some o) : Ok K (w.less g) :=
  ⟨fun n o h => let ⟨q1, q2⟩ := k.dom n o (hg n o h); ⟨q1, q2.ext (Ext.less hg) rfl⟩, fun n m o u h1 h2 e => k.inj n m o u (hg n o h1) (hg m u h2) e, k.barH, fun n o h => k.barO n o (hg n o h), fun P q t => (k.tab P q t).all (ExtA.less hg)⟩
/-! ### a thing that is being made -/
def W3.bare (w : W3) (p : Addr) (u : HO) : W3 := ⟨w.io, w.h, upd w.H p u, fun a => w.bar a ∨ a = p⟩
theorem ExtA.bare {p : Addr} {u : HO} (hp : w.H p = none) : ExtA w (w.bare p u) := by
  refine fun a o h n => ⟨(upd_ne (ne_of_none h hp)).trans h, fun q => ?_⟩
  rcases q with q | q | q
  · exact n (.inl q)
  · exact n (.inr q)
  · exact ne_of_none h hp q
theorem Ext.bare {p : Addr} {u : HO} (k : Ok K w) (hp : w.H p = none) : Ext w (w.bare p u) :=
  ⟨fun _ _ => rfl, Nat.le_refl _, (ExtA.bare hp).wk, fun a h => ⟨.inl h, upd_ne (k.notBar hp a h)⟩⟩
theorem Ok.bare {p : Addr} {u : HO} (k : Ok K w) (hp : w.H p = none) : Ok K (w.bare p u) := by
  refine ⟨fun n o h => ?_, fun n m o v h h' e => k.inj n m o v h h' e, fun a q => ?_, fun n o h q => ?_, fun P q t => (k.tab P q t).all (ExtA.bare hp)⟩
  · obtain ⟨h1, h2⟩ := k.dom n o h
    obtain ⟨v, hv⟩ := h2.some
    exact ⟨h1, h2.ext (Ext.bare k hp) (upd_ne (ne_of_none hv hp))⟩
  · rcases q with q | q
    · obtain ⟨v, hv⟩ := k.barH a q
      exact ⟨v, (upd_ne (k.notBar hp a q)).trans hv⟩
    · exact ⟨u, by rw [q]; exact upd_same⟩
  · rcases q with q | q
    · exact k.barO n o h q
    · obtain ⟨v, hv⟩ := (k.dom n o h).2.some
      exact ne_of_none hv hp q
/-- it is written -/
def W3.barPut (w : W3) (p : Addr) (u : HO) : W3 := ⟨w.io, w.h, upd w.H p u, w.bar⟩
theorem ExtA.barPut {p : Addr} {u : HO} (hb : w.bar p) : ExtA w (w.barPut p u) := fun a o h n => ⟨(upd_ne (show a ≠ p from fun e => n (.inr (by rw [e]; exact hb)))).trans h, n⟩
theorem Ext0.barPut {p : Addr} {u : HO} (hb : w.bar p) : Ext0 w (w.barPut p u) := ⟨fun _ _ => rfl, Nat.le_refl _, (ExtA.barPut hb).wk⟩
theorem Ok.barPut {p : Addr} {u : HO} (k : Ok K w) (hb : w.bar p) : Ok K (w.barPut p u) := by
  refine ⟨fun n o h => ?_, fun n m o v h h' e => k.inj n m o v h h' e, fun a q => ?_, k.barO, fun P q t => (k.tab P q t).all (ExtA.barPut hb)⟩
  · obtain ⟨h1, h2⟩ := k.dom n o h
    exact ⟨h1, h2.ext0 (Ext0.barPut hb) (upd_ne (show w.io n ≠ p from fun e => k.barO n o h (by rw [e]; exact hb)))⟩
  · by_cases e : a = p
    · exact ⟨u, by rw [e]; exact upd_same⟩
    · obtain ⟨v, hv⟩ := k.barH a q
      exact ⟨v, (upd_ne e).trans hv⟩
/-- .. seen from a heap that doesn't know it -/
theorem Ext.barPut {w0 : W3} {p : Addr} {u : HO} (x : Ext w0 w) (k0 : Ok K w0) (hp : w0.H p = none) : Ext w0 (w.barPut p u) :=
  ⟨x.io, x.nx, fun a o h t n => let ⟨h1, n1⟩ := x.un a o h t n; ⟨(upd_ne (ne_of_none h hp)).trans h1, n1⟩, fun a h => let ⟨h1, e1⟩ := x.ba a h; ⟨h1, (upd_ne (k0.notBar hp a h)).trans e1⟩⟩
/-- it is made -/
def W3.free (w : W3) (p : Addr) : W3 := ⟨w.io, w.h, w.H, fun a => w.bar a ∧ a ≠ p⟩
theorem own_free {p a : Addr} (h : Own (w.free p) a) : Own w a := h.imp id (·.1)
theorem ExtA.free {p : Addr} : ExtA w (w.free p) := fun a u h n => ⟨h, fun q => n (own_free q)⟩
theorem Ext0.free {p : Addr} : Ext0 w (w.free p) := ⟨fun _ _ => rfl, Nat.le_refl _, ExtA.free.wk⟩
theorem Ok.freeB {p : Addr} (k : Ok K w) : Ok K (w.free p) :=
  ⟨fun n o h => let ⟨h1, h2⟩ := k.dom n o h; ⟨h1, h2.ext0 Ext0.free rfl⟩, fun n m o v h h' e => k.inj n m o v h h' e, fun a q => k.barH a q.1, fun n o h q => k.barO n o h q.1, fun P q t => (k.tab P q t).all ExtA.free⟩
theorem Ext.free {w0 : W3} {p : Addr} (x : Ext w0 w) (k0 : Ok K w0) (hp : w0.H p = none) : Ext w0 (w.free p) :=
  ⟨x.io, x.nx, fun a o h t n => let ⟨h1, n1⟩ := x.un a o h t n; ⟨h1, fun q => n1 (own_free q)⟩, fun a h => let ⟨h1, e1⟩ := x.ba a h; ⟨⟨h1, k0.notBar hp a h⟩, e1⟩⟩
/-- it is made, and the mirror heap holds it -/
def W3.adopt (w : W3) (p : Addr) (o : MO) : W3 := ⟨fun n => if n = w.h.next then p else w.io n, w.h.new o, w.H, w.bar⟩
theorem Ext.adopt {w0 : W3} {p : Addr} {o : MO} (x : Ext w0 w) (k : Ok K w) (hp : w0.H p = none) : Ext w0 (w.adopt p o) := by
  refine ⟨fun n h => ?_, Nat.le_trans x.nx (Nat.le_succ _), fun a u h t n => ?_, x.ba⟩
  · exact (if_neg (Nat.ne_of_lt (Nat.lt_of_lt_of_le h x.nx))).trans (x.io n h)
  · obtain ⟨h1, n1⟩ := x.un a u h t n
    refine ⟨h1, fun q => ?_⟩
    rcases q with ⟨m, o', q1, q2⟩ | q
    · unfold W3.adopt MH.new at q1 q2
      simp only at q1 q2
      by_cases hm : m = w.h.next
      · rw [if_pos hm] at q2
        exact ne_of_none h hp q2.symm
      · rw [if_neg hm] at q1 q2
        exact n1 (.inl ⟨m, o', q1, q2⟩)
    · exact n1 (.inr q)
theorem Ok.adopt {p : Addr} {xs : List D} {vs : List V} (k : Ok K w) (np : ¬ Own w p) (hp : w.H p = some (.lst vs)) (r : Reps K (w.adopt p (.lst xs)) xs vs) (old : ∀ n o, w.h.get n = some o → ObjR K (w.adopt p (.lst xs)) (w.io n) o) : Ok K (w.adopt p (.lst xs)) := by
  refine ⟨fun n o h => ?_, fun n m o1 o2 h1 h2 e => ?_, k.barH, fun n o h => ?_, fun P q t => ?_⟩
  rotate_left 3
  · obtain ⟨ps, h1, h2, h3, h4⟩ := k.tab P q t
    have ow : ∀ a, Own (w.adopt p (.lst xs)) a → Own w a ∨ a = p := fun a z => by
      rcases z with ⟨m, o', q1, q2⟩ | z
      · unfold W3.adopt MH.new at q1 q2
        simp only at q1 q2
        by_cases hm : m = w.h.next
        · rw [if_pos hm] at q2
          exact .inr q2.symm
        · rw [if_neg hm] at q1 q2
          exact .inl (.inl ⟨m, o', q1, q2⟩)
      · exact .inl (.inr z)
    refine ⟨ps, h1, fun z => (ow P z).elim h2 fun e => (by rw [e, hp] at h1; cases h1), h3, fun pos cv hc => ?_⟩
    obtain ⟨c, e1, e2, e3⟩ := h4 pos cv hc
    exact ⟨c, e1, e2, fun z => (ow c z).elim e3 fun e => by
      rw [e, hp] at e2
      unfold LamX.CodeO at e2
      cases e2⟩
  · unfold W3.adopt MH.new at h
    simp only at h
    by_cases hn : n = w.h.next
    · subst hn
      rw [if_pos rfl] at h; cases h
      refine ⟨Nat.lt_succ_self _, ?_⟩
      show ObjR K _ (if w.h.next = w.h.next then p else _) _
      rw [if_pos rfl]
      exact ⟨vs, hp, r⟩
    · rw [if_neg hn] at h
      refine ⟨Nat.lt_succ_of_lt (k.dom n o h).1, ?_⟩
      show ObjR K _ (if n = w.h.next then p else w.io n) _
      rw [if_neg hn]
      exact old n o h
  · unfold W3.adopt MH.new at h1 h2 e
    simp only at h1 h2 e
    by_cases hn : n = w.h.next
    · by_cases hm : m = w.h.next
      · rw [hn, hm]
      · rw [if_pos hn, if_neg hm] at e
        rw [if_neg hm] at h2
        exact (np (.inl ⟨m, o2, h2, e.symm⟩)).elim
    · by_cases hm : m = w.h.next
      · rw [if_neg hn, if_pos hm] at e
        rw [if_neg hn] at h1
        exact (np (.inl ⟨n, o1, h1, e⟩)).elim
      · rw [if_neg hn, if_neg hm] at e
        rw [if_neg hn] at h1
        rw [if_neg hm] at h2
        exact k.inj n m o1 o2 h1 h2 e
  · show ¬ w.bar (if n = w.h.next then p else w.io n)
    by_cases hn : n = w.h.next
    · rw [if_pos hn]
      exact fun q => np (.inr q)
    · rw [if_neg hn]
      unfold W3.adopt MH.new at h
      simp only at h
      rw [if_neg hn] at h
      exact k.barO n o h
theorem Ext0.adopt {p : Addr} {o : MO} (hb : w.bar p) : Ext0 w ((w.free p).adopt p o) := by
  refine ⟨fun n h => if_neg (Nat.ne_of_lt h), Nat.le_succ _, fun a u h _ n => ⟨h, fun q => ?_⟩⟩
  rcases q with ⟨m, o', q1, q2⟩ | q
  · unfold W3.adopt W3.free MH.new at q1 q2
    simp only at q1 q2
    by_cases hm : m = w.h.next
    · rw [if_pos hm] at q2
      exact n (.inr (by rw [← q2]; exact hb))
    · rw [if_neg hm] at q1 q2
      exact n (.inl ⟨m, o', q1, q2⟩)
  · exact n (.inr q.1)
/-- a lambda's code object is made: the table has one more -/
def W3.tbl (w : W3) (P c : Addr) (ps : Array Value) (q : Str) : W3 := ⟨w.io, w.h, upd (upd w.H P (.tbl ps)) c (LamX.CodeO c q), w.bar⟩
theorem Ext.tbl {P c : Addr} {ps ps' : Array Value} {q : Str} (k : Ok K w) (hP : w.H P = some (.tbl ps)) (nP : ¬ Own w P) (hc : w.H c = none) : Ext w (w.tbl P c ps' q) := by
  refine ⟨fun _ _ => rfl, Nat.le_refl _, fun a u h t n => ⟨?_, n⟩, fun a h => ⟨h, ?_⟩⟩
  · show upd (upd w.H P (.tbl ps')) c (LamX.CodeO c q) a = some u
    rw [upd_ne (ne_of_none h hc), upd_ne (fun e => by rw [e, hP] at h; exact t ps (Option.some.inj h).symm)]
    exact h
  · show upd (upd w.H P (.tbl ps')) c (LamX.CodeO c q) a = _
    rw [upd_ne (k.notBar hc a h), upd_ne (fun e => nP (.inr (by rw [← e]; exact h)))]
theorem Ok.tbl {P c : Addr} {ps ps' : Array Value} {q : Str} (k : Ok K w) (t : TabK K P q) (hP : w.H P = some (.tbl ps)) (hc : w.H c = none) (ht : TriplesOk ps'.toList) (hn : ∀ (pos : Pos) (cv : Value), codeAmong pos ps'.toList = some cv → codeAmong pos ps.toList = some cv ∨ cv = .ref c) : Ok K (w.tbl P c ps' q) := by
  obtain ⟨ps0, h1, nP, h3, h4⟩ := k.tab P q t
  have e0 : ps0 = ps := by
    rw [hP] at h1
    cases h1
    rfl
  subst e0
  have at_ : ∀ a u, w.H a = some u → a ≠ P → (w.tbl P c ps' q).H a = some u := fun a u h hne => by
    show upd (upd w.H P (.tbl ps')) c (LamX.CodeO c q) a = some u
    rw [upd_ne (ne_of_none h hc), upd_ne hne]
    exact h
  have nPc : P ≠ c := ne_of_none hP hc
  have atP : (w.tbl P c ps' q).H P = some (.tbl ps') := by
    show upd (upd w.H P (.tbl ps')) c (LamX.CodeO c q) P = _
    rw [upd_ne nPc, upd_same]
  have atc : (w.tbl P c ps' q).H c = some (LamX.CodeO c q) := upd_same
  have cne : ∀ (a : Addr) (q' : Str), w.H a = some (LamX.CodeO a q') → a ≠ P := fun a q' h e => by
    rw [e, hP] at h
    unfold LamX.CodeO at h
    cases h
  refine ⟨fun n o h => ?_, k.inj, fun a h => ?_, k.barO, fun P' q' t' => ?_⟩
  · obtain ⟨q1, q2⟩ := k.dom n o h
    obtain ⟨v, hv⟩ := q2.some
    exact ⟨q1, q2.ext (Ext.tbl k hP nP hc) ((upd_ne (ne_of_none hv hc)).trans (upd_ne fun e => nP (.inl ⟨n, o, h, e⟩)))⟩
  · obtain ⟨v, hv⟩ := k.barH a h
    exact ⟨v, at_ a v hv fun e => nP (.inr (by rw [← e]; exact h))⟩
  · obtain ⟨qs, g1, g2, g3, g4⟩ := k.tab P' q' t'
    by_cases hp : P' = P
    · subst hp
      have eq : q' = q := t'.one t
      subst eq
      refine ⟨ps', atP, g2, ht, fun pos cv hcv => ?_⟩
      rcases hn pos cv hcv with z | z
      · obtain ⟨a, e1, e2, e3⟩ := h4 pos cv z
        exact ⟨a, e1, at_ a _ e2 (cne a _ e2), e3⟩
      · exact ⟨c, z, atc, k.free hc⟩
    · refine ⟨qs, at_ P' _ g1 hp, g2, g3, fun pos cv hcv => ?_⟩
      obtain ⟨a, e1, e2, e3⟩ := g4 pos cv hcv
      exact ⟨a, e1, at_ a _ e2 (cne a _ e2), e3⟩
end
end Tb
end

section
set_option maxHeartbeats 4000000
namespace Tb
open PySem PySem.Spec PyProof.Rows L2
/-! ## reading alone: what a sorted's key does -/
abbrev KeepsH (h h' : Heap) : Prop := ∀ b o, h.get? b = some o → h'.get? b = some o
theorem KeepsH.trans {h h1 h2 : Heap} (a : KeepsH h h1) (b : KeepsH h1 h2) : KeepsH h h2 := fun x o e => b x o (a x o e)
/-- evaluated over any heap that has all of h0: nothing that was there changes -/
def EvK (prog : Program) (w : World) (A : Around) (env : Env) (h0 : Heap) (e : Expr) (P : Heap → Value → Prop) : Prop :=
  ∀ s : Shared, KeepsH h0 s.heap → wpAny (model prog w) A (eval e env) (fun u s' => ∃ h' tk, s' = { s with heap := h', toks := tk } ∧ KeepsH s.heap h' ∧ P h' u) (fun _ _ => False) s
section
variable {prog : Program} {w : World} {A : Around} {env : Env} {h0 : Heap} {e a b : Expr} {P : Heap → Value → Prop} {pos : Pos}
theorem EvK.mono {P' : Heap → Value → Prop} (h : EvK prog w A env h0 e P) (hp : ∀ h u, KeepsH h0 h → P h u → P' h u) : EvK prog w A env h0 e P' := fun s k =>
  wpAny_mono (h s k) (fun u s' ⟨h', tk, e1, e2, e3⟩ => ⟨h', tk, e1, e2, hp _ _ (k.trans e2) e3⟩) fun _ _ x => x
theorem ek_local {x : Str} {m : Str → Option Value} {v : Value} (hk : env.scope.kind = .function) (hl : env.kindOf x = some .local) (hn : h0.Ns env.locals m) (hm : m x = some v) (hd : (x == ("__debug__" : Str)) = false) : EvK prog w A env h0 (.Name x pos) fun _ u => u = v := fun s k =>
  wpAny_Name (wpAny_loadName_local hk hl (hn.keeps k) hm ⟨s.heap, s.toks, rfl, fun _ _ q => q, rfl⟩) hd
theorem ek_free {x : Str} {c : Addr} {v : Value} (hk : env.scope.kind = .function) (hl : env.kindOf x = some .free) (hc : env.cells.lookup x = some c) (hv : h0.IsCell c (some v)) (hd : (x == ("__debug__" : Str)) = false) (hcd : (x == ("__classdict__" : Str)) = false) : EvK prog w A env h0 (.Name x pos) fun _ u => u = v := fun s k =>
  wpAny_Name (wpAny_loadName_free hk hl hc (by obtain ⟨o, h1, h2⟩ := hv; exact ⟨o, k _ _ h1, h2⟩) ⟨s.heap, s.toks, rfl, fun _ _ q => q, rfl⟩ hcd) hd
theorem ek_int {i : Int} {j : Nat} : EvK prog w A env h0 (.Constant (.int i) j pos) fun _ u => ∃ t, u = .int i t := fun s k =>
  wpAny_Constant_int ⟨s.heap, s.toks + 1, rfl, fun _ _ q => q, _, rfl⟩
theorem ek_neg {i : Int} (h : EvK prog w A env h0 a fun _ u => ∃ t, u = .int i t) : EvK prog w A env h0 (.UnaryOp .USub a pos) fun _ u => ∃ t, u = .int (-i) t := fun s k =>
  wpAny_UnaryOp (wpAny_mono (h s k) (fun u s' ⟨h', tk, e1, e2, t, e3⟩ => by
    subst e1 e3
    exact neg_int ⟨h', tk + 1, rfl, e2, _, rfl⟩) fun _ _ x => x)
/-- an element of a tuple that stood at h0 -/
theorem ek_ixT {l : Addr} {items : List Value} {i : Int} {j : Nat} {z : Value} (ha : EvK prog w A env h0 a fun h u => u = .ref l ∧ IsTup h l items.toArray) (hb : EvK prog w A env h0 b fun _ u => ∃ t, u = .int i t) (hs : PlainIx b)
    (hj : seqIndex? i items.length = some j) (hz : items[j]? = some z) (hlo : -(2 ^ 63 : Int) ≤ i) (hhi : i < 2 ^ 63) : EvK prog w A env h0 (.Subscript a b pos) fun _ u => u = z := fun s k => by
  refine Subscript_ (wpAny_mono (ha s k) (fun u s1 ⟨h1, tk1, e1, k1, e2, pl⟩ => ?_) fun _ _ x => x)
  subst e1 e2
  refine wpAny_mono (hb _ (k.trans k1)) (fun u s2 ⟨h2, tk2, e3, k2, t, e4⟩ => ?_) fun _ _ x => x
  subst e3 e4
  exact subscriptTail_builtinR (x := z) (pl.keeps k2).typeIs slot_tuple_getitem.lookup
    (getItem_tuple (j := j) (Q := fun r s' => r = z ∧ ∃ h' tk, s' = { s with heap := h', toks := tk } ∧ KeepsH s.heap h' ∧ r = z) (pl.keeps k2) (by omega) (by omega) (by rw [List.size_toArray]; exact hj) (by simpa using hz) ⟨rfl, h2, tk2, rfl, k1.trans k2, rfl⟩) (hs _ _)

/-- two in a tuple -/
theorem ek_pair {ka kb : PyData} {j : Nat} (ha : EvK prog w A env h0 a fun h u => Reads h u ka []) (hb : EvK prog w A env h0 b fun h u => Reads h u kb []) (hsa : starEach [a, b] env = [(false, eval a env), (false, eval b env)]) (hbt : backTo pos [(false, eval a env), (false, eval b env)] = [(false, eval a env), (false, eval b env)] := by rfl) :
    EvK prog w A env h0 (.Tuple [a, b] j pos) fun h u => Reads h u (.tuple [ka, kb]) [] := fun s k => by
  refine wpAny_Tuple_spliced ?_
  rw [hsa, hbt]
  refine Calls.spliced_cons (wpAny_mono (ha s k) (fun u s1 ⟨h1, tk1, e1, k1, r1⟩ => ?_) fun _ _ x => x)
  subst e1
  refine Calls.spliced_cons (wpAny_mono (hb _ (k.trans k1)) (fun v s2 ⟨h2, tk2, e2, k2, r2⟩ => ?_) fun _ _ x => x)
  subst e2
  refine Calls.spliced_nil ⟨(by show 2 ≤ sizeLine; decide), _, tk2, rfl, (k1.trans k2).trans (fun b o e => Heap.get?_push_of_some _ e), ?_⟩
  have kp : KeepsH h2 (h2.push { cls := .type "tuple", data := .seq [u, v].toArray }) := fun b o e => Heap.get?_push_of_some _ e
  refine Reads.tuple (Heap.get?_push_size _ rfl) rfl rfl ?_
  exact .cons (PyProof.Rows.Reads.keeps (k2.trans kp) r1) (.cons (PyProof.Rows.Reads.keeps kp r2) .nil)
end
/-! ### the call of a lambda of one name -/
section
variable {prog : Program} {w : World} {A : Around} {s : Shared}
theorem lam_key {f c' : Addr} {q p : Str} {params : Arguments} {body : Expr} {scope : Scope} {cl : List (Str × Addr)} {pm ctv v : Value} {k : PyData} (hf : s.heap.get? f = some (PySem.W.kla_obj "<lambda>" q params body scope cl pm c' ctv)) (hb : bindArgs (PySem.W.kla_fn "<lambda>" q params body scope cl pm (.ref c') ctv) ⟨[v], []⟩ = pure [(p, v)])
    (hk : scope.kind = .function) (hco : scope.isCoroutine = false) (hge : scope.isGenerator = false) (hnc : ∀ y ∈ scope.names, y.2 ≠ .cell) (hp : scope.names.lookup p = some .local) (hc : s.heap.CodeRec (.ref c') q) (hr : A.depth < recursionLimit) (nl : s.heap.NoLimit)
    (body_ : ∀ (h1 : Heap) (L : Addr), KeepsH s.heap h1 → h1.Ns L (fun y => [(p, v)].reverse.lookup y) → EvK prog w (A.deeper (PySem.W.envX q scope L f (.ref c') cl)) (PySem.W.envX q scope L f (.ref c') cl) h1 body fun h u => Reads h u k []) :
    wpAny (model prog w) A (call (.ref f) [v]) (PySem.W.KeyPure k s) (fun _ _ => False) s := by
  have rc : codeAny (model prog w) A (.call (.ref f) ⟨[v], []⟩) (fun r s' => ∃ u, r = .ok (.ret u) ∧ PySem.W.KeyPure k s u s') s := by
    refine PySem.W.kla_callFunE hr hf rfl hco hge rfl hc ?_
    rw [hb]
    refine wpAny_pure (wpAny_newFunctionEnv hnc (fun y hy => ?_) (fun h1 hns hsb => ⟨nl.fresh _ hsb, ?_⟩) hk)
    · rw [List.mem_singleton.mp hy]
      exact hp
    · have kp : KeepsH s.heap h1 := fun b o e => hsb.extBut b o (Nat.ne_of_lt (Heap.lt_size e)) (Heap.get?_push_of_some _ e)
      show codeAny _ _ (.expr body (PySem.W.envX q scope s.heap.objs.size f (.ref c') cl)) _ _
      refine PySem.W.kla_codeExpr (wpAny_mono (body_ h1 s.heap.objs.size kp hns _ (fun b o e => e)) (fun u s2 ⟨h2, tk2, e2, k2, r2⟩ => ?_) fun _ _ x => x.elim)
      subst e2
      exact ⟨u, rfl, h2, tk2, rfl, kp.trans k2, r2⟩
  refine wpAny_call (codeAny_mono rc fun r s' ⟨u, e, q⟩ => ?_)
  subst e
  exact q
end
end Tb
end

section
set_option maxHeartbeats 4000000
namespace Tb
open PySem PySem.Spec L2
/-! ## what is wanted of a result -/
abbrev Sl := List (Option D)
def ExR (K : PySem.W.Frag) (w : W3) (x : Ex) (cls : Value) (d : Option Addr) : Prop :=
  cls = x.cls ∧ match x.fs with
    | [] => True
    | _ => ∃ (a : Addr) (vs : List V), d = some a ∧ w.H a = some (.xd ((x.fs.map (·.1)).zip vs)) ∧ ¬ Own w a ∧ Reps K w (x.fs.map (·.2)) vs
/-- the relation of a result's value -/
abbrev Rl (α β : Type) := W3 → α → β → Prop
def PostW {α β : Type} (K : PySem.W.Frag) (E : XK) (Rel : Rl α β) (w : W3) (r : R α) (Q : α → W3 → β → Prop) : Prop := match r with
  | .ok a h => ∀ w' v, w'.h = h → Ext w w' → Ok K w' → Rel w' a v → Q a w' v
  | .exc x h => ∀ w' cls d, w'.h = h → Ext w w' → Ok K w' → ExR K w' x cls d → E cls d w'.H
  | .bad => False
abbrev RepL (K : PySem.W.Frag) : Rl (List D) (List V) := fun w ds vs => Reps K w ds vs
abbrev RepD (K : PySem.W.Frag) : Rl D V := fun w d v => Rep K w d v
abbrev EqB : Rl Bool Bool := fun _ a b => a = b
section
variable {α β γ δ : Type} {K : PySem.W.Frag} {E : XK} {Rel : Rl α β} {Rel' : Rl γ δ} {w w1 : W3}
theorem PostW.imp {r : R α} {Q Q' : α → W3 → β → Prop} (h : PostW K E Rel w r Q) (hQ : ∀ a w' v, Ext w w' → Ok K w' → Rel w' a v → Q a w' v → Q' a w' v) : PostW K E Rel w r Q' := by
  cases r with
  | ok a h' => exact fun w' v e x o p => hQ a w' v x o p (h w' v e x o p)
  | exc x h' => exact h
  | bad => exact h
theorem PostW.from {r : R α} {Q : α → W3 → β → Prop} (h : PostW K E Rel w r Q) (e : Ext w w1) : PostW K E Rel w1 r Q := by
  cases r with
  | ok a h' => exact fun w' v e' x o p => h w' v e' (e.trans x) o p
  | exc x h' => exact fun w' cls d e' q o p => h w' cls d e' (e.trans q) o p
  | bad => exact h
theorem PostW.bind {r : R α} {f : α → MH → R γ} {Q : γ → W3 → δ → Prop} (h : PostW K E Rel' w (r.bind f) Q) : PostW K E Rel w r (fun a w1 _ => PostW K E Rel' w1 (f a w1.h) Q) := by
  cases r with
  | ok a h' =>
    intro w' v e x o p
    subst e
    exact PostW.from h x
  | exc x h' => exact h
  | bad => exact h
theorem PostW.here {a : α} {Q : α → W3 → β → Prop} {v : β} (h : PostW K E Rel w (.ok a w.h) Q) (k : Ok K w) (r : Rel w a v) : Q a w v := h w v rfl (Ext.refl w) k r
/-- no exception: another wish does -/
theorem PostW.calm {E' : XK} {r : R α} {Q : α → W3 → β → Prop} (h : PostW K E Rel w r.calm Q) : PostW K E' Rel w r Q := by
  cases r with
  | ok a h' => exact h
  | exc x h' => exact h.elim
  | bad => exact h
end
def SRep (K : PySem.W.Frag) (w : W3) (s : Sl) (σ : L2.St) : Prop := s.length = σ.length ∧ ∀ (i : Nat) (d : D), s[i]? = some (some d) → ∃ v, σ[i]? = some (some v) ∧ Rep K w d v
section
variable {K : PySem.W.Frag} {E : XK} {w w1 : W3} {s : Sl} {σ : L2.St}
theorem SRep.ext (h : SRep K w s σ) (e : Ext w w1) : SRep K w1 s σ := ⟨h.1, fun i d q => let ⟨v, h1, h2⟩ := h.2 i d q; ⟨v, h1, h2.ext e⟩⟩
theorem SRep.set (h : SRep K w s σ) {d : D} {v : V} (i : Nat) (r : Rep K w d v) : SRep K w (s.set i (some d)) (σ.set i (some v)) := by
  refine ⟨by simp [h.1], fun j e q => ?_⟩
  by_cases hj : i = j
  · subst hj
    by_cases hl : i < s.length
    · rw [List.getElem?_set_self hl] at q
      cases q
      exact ⟨v, List.getElem?_set_self (by rw [← h.1]; exact hl), r⟩
    · rw [List.getElem?_eq_none (by simpa using hl)] at q; cases q
  · rw [List.getElem?_set_ne hj] at q ⊢
    exact h.2 j e q
theorem SRep.unset (h : SRep K w s σ) (i : Nat) : SRep K w (s.set i none) (σ.set i none) := by
  refine ⟨by simp [h.1], fun j e q => ?_⟩
  by_cases hj : i = j
  · subst hj
    by_cases hl : i < s.length
    · rw [List.getElem?_set_self hl] at q; cases q
    · rw [List.getElem?_eq_none (by simpa using hl)] at q; cases q
  · rw [List.getElem?_set_ne hj] at q ⊢
    exact h.2 j e q
end
abbrev ME := Sl → MH → R D
abbrev MT := Sl → MH → R Bool
abbrev MA := Sl → MH → R (List D)
def tM (K : PySem.W.Frag) (E : XK) (m : ME) : TE := fun σ H Q => ∃ w s, w.H = H ∧ Ok K w ∧ SRep K w s σ ∧ PostW K E (RepD K) w (m s w.h) fun _ w' v => Q v w'.H
def tMT (K : PySem.W.Frag) (E : XK) (m : MT) : TT := fun σ H Q => ∃ w s, w.H = H ∧ Ok K w ∧ SRep K w s σ ∧ PostW K E EqB w (m s w.h) fun _ w' v => Q v w'.H
def tMA (K : PySem.W.Frag) (E : XK) (m : MA) : TA := fun σ H Q => ∃ w s, w.H = H ∧ Ok K w ∧ SRep K w s σ ∧ PostW K E (RepL K) w (m s w.h) fun _ w' v => Q v w'.H
section
variable {X : Cx} {K : PySem.W.Frag} {E : XK} {e : Expr} {t t' : TE}
theorem pe_imp (h : PE X e t) (hi : ∀ σ H Q, t' σ H Q → t σ H Q) : PE X e t' := ⟨fun pins s σ H Q I q => h.run pins s σ H Q I (hi σ H Q q)⟩
theorem pt_imp {u u' : TT} (h : PT X e u) (hi : ∀ σ H Q, u' σ H Q → u σ H Q) : PT X e u' := ⟨fun pins s σ H Q I q => h.run pins s σ H Q I (hi σ H Q q)⟩
theorem pw_imp {u u' : TT} (h : PW X e u) (hi : ∀ σ H Q, u' σ H Q → u σ H Q) : PW X e u' := ⟨fun wh pins s σ H Q I q => h.run wh pins s σ H Q I (hi σ H Q q)⟩
theorem pa_imp {es : List Expr} {u u' : TA} (h : PA X es u) (hi : ∀ σ H Q, u' σ H Q → u σ H Q) : PA X es u' := ⟨fun pos pins s σ H Q I q => h.run pos pins s σ H Q I (hi σ H Q q)⟩
theorem ps_imp {st : Stmt} {u u' : TS} (h : PS X st u) (hi : ∀ D σ H, u' D σ H → u D σ H) : PS X st u' := ⟨fun pins s σ H D I q => h.run pins s σ H D I (hi D σ H q)⟩
theorem pss_imp {st : List Stmt} {u u' : TS} (h : PSs X st u) (hi : ∀ D σ H, u' D σ H → u D σ H) : PSs X st u' := ⟨fun pins s σ H D I q => h.run pins s σ H D I (hi D σ H q)⟩
/-- the core: a part's reading from the whole's -/
theorem tM_at {m : ME} {w : W3} {s : Sl} {σ : L2.St} {Q : VK} (k : Ok K w) (r : SRep K w s σ) (h : PostW K E (RepD K) w (m s w.h) fun _ w' v => Q v w'.H) : tM K E m σ w.H Q := ⟨w, s, rfl, k, r, h⟩
theorem tMT_at {m : MT} {w : W3} {s : Sl} {σ : L2.St} {Q : Bool → Hp → Prop} (k : Ok K w) (r : SRep K w s σ) (h : PostW K E EqB w (m s w.h) fun _ w' v => Q v w'.H) : tMT K E m σ w.H Q := ⟨w, s, rfl, k, r, h⟩
theorem tMA_at {m : MA} {w : W3} {s : Sl} {σ : L2.St} {Q : List V → Hp → Prop} (k : Ok K w) (r : SRep K w s σ) (h : PostW K E (RepL K) w (m s w.h) fun _ w' v => Q v w'.H) : tMA K E m σ w.H Q := ⟨w, s, rfl, k, r, h⟩
end
/-! ## names, constants -/
def mC (d : D) : ME := fun _ h => .ok d h
def mVar (i : Nat) : ME := fun s h => match s[i]? with
  | some (some d) => .ok d h
  | _ => .bad
section
variable {X : Cx} {E : XK}
theorem me_const {e : Expr} {v : V} {d : D} (h : PE X e (tC v)) (hd : ∀ w, Rep X.K w d v) : PE X e (tM X.K E (mC d)) := by
  refine pe_imp h fun σ H Q hq => ?_
  obtain ⟨w, s, e, k, r, q⟩ := hq
  subst e
  exact q.here k (hd w)
theorem me_var {i : Nat} {e : Expr} (h : PE X e (tVar i)) : PE X e (tM X.K E (mVar i)) := by
  refine pe_imp h fun σ H Q hq => ?_
  obtain ⟨w, s, e, k, r, q⟩ := hq
  subst e
  unfold mVar at q
  split at q
  · rename_i d hd
    obtain ⟨v, h1, h2⟩ := r.2 i d hd
    exact ⟨v, h1, q.here k h2⟩
  · exact q.elim
end
/-! ## operators -/
abbrev F2 := D → D → MH → R D
def mOp (f : F2) (a b : ME) : ME := fun s h => (a s h).bind fun x h1 => (b s h1).bind fun y h2 => f x y h2
def rM (K : PySem.W.Frag) (E : XK) (f : F2) : R2 := fun x y H Q => ∃ w d e, w.H = H ∧ Ok K w ∧ Rep K w d x ∧ Rep K w e y ∧ PostW K E (RepD K) w (f d e w.h) fun _ w' v => Q v w'.H
section
variable {X : Cx} {E : XK} {a b : Expr} {ma mb : ME} {f : F2} {pos : Pos}
theorem tOp_of {σ : L2.St} {H : Hp} {Q : VK} (h : tM X.K E (mOp f ma mb) σ H Q) : tOp (rM X.K E f) (tM X.K E ma) (tM X.K E mb) σ H Q := by
  obtain ⟨w, s, e, k, r, q⟩ := h
  subst e
  refine tM_at k r (q.bind.imp fun x w1 v x1 k1 p1 q1 => ?_)
  refine tM_at k1 (r.ext x1) (q1.bind.imp fun y w2 u x2 k2 p2 q2 => ?_)
  exact ⟨w2, x, y, rfl, k2, p1.ext x2, p2, q2⟩
theorem me_op {op : Operator} (ho : OpR X (binaryOp op) (rM X.K E f)) (ha : PE X a (tM X.K E ma)) (hb : PE X b (tM X.K E mb)) : PE X (.BinOp a op b pos) (tM X.K E (mOp f ma mb)) :=
  pe_imp (pe_op ho ha hb) fun _ _ _ h => tOp_of h
theorem me_cmp {op : CmpOp} (ho : OpR X (compareOp op) (rM X.K E f)) (ha : PE X a (tM X.K E ma)) (hb : PE X b (tM X.K E mb)) (hm : behindInMarks op b = false) : PE X (.Compare a [op] [b] pos) (tM X.K E (mOp f ma mb)) :=
  pe_imp (pe_cmpR ho ha hb hm) fun _ _ _ h => tOp_of h
/-- a value as a truth -/
def asB (r : R D) : R Bool := r.bind fun d h => match d with
  | .bl b => .ok b h
  | _ => .bad
theorem PostW.asB {K : PySem.W.Frag} {w : W3} {r : R D} {Q : Bool → W3 → Bool → Prop} (h : PostW K E EqB w (asB r) Q) : PostW K E (RepD K) w r fun _ w' v => ∃ c, v = .bl c ∧ Q c w' c := by
  refine (PostW.bind h).imp fun d w' v x k p q => ?_
  cases d with
  | bl b =>
    simp only [Rep] at p
    exact ⟨b, p, q.here k rfl⟩
  | _ => exact q.elim
theorem mt_cmp {op : CmpOp} (ho : OpR X (compareOp op) (rM X.K E f)) (ha : PE X a (tM X.K E ma)) (hb : PE X b (tM X.K E mb)) (hm : behindInMarks op b = false) : PT X (.Compare a [op] [b] pos) (tMT X.K E fun s h => asB (mOp f ma mb s h)) := by
  refine pt_imp (pt_cmpR ho ha hb hm) fun σ H Q hq => ?_
  obtain ⟨w, s, e, k, r, q⟩ := hq
  subst e
  refine tOp_of (tM_at k r (q.asB.imp fun _ w' v _ _ _ z => z))
/-- a < b < c -/
def mChain (f g : F2) (a b c : ME) : ME := fun s h => (a s h).bind fun x h1 => (b s h1).bind fun y h2 => (asB (f x y h2)).bind fun k h3 => if k = true then (c s h3).bind fun z h4 => g y z h4 else .ok (.bl false) h3
theorem tChain_of {mc : ME} {g : F2} {σ : L2.St} {H : Hp} {Q : VK} (h : tM X.K E (mChain f g ma mb mc) σ H Q) : tChain (rM X.K E f) (rM X.K E g) (tM X.K E ma) (tM X.K E mb) (tM X.K E mc) σ H Q := by
  obtain ⟨w, s, e, k, r, q⟩ := h
  subst e
  refine tM_at k r (q.bind.imp fun x w1 v x1 k1 p1 q1 => ?_)
  refine tM_at k1 (r.ext x1) (q1.bind.imp fun y w2 u x2 k2 p2 q2 => ?_)
  refine ⟨w2, x, y, rfl, k2, p1.ext x2, p2, ?_⟩
  refine (PostW.asB (q2.bind (Rel := EqB))).imp fun _ w3 v3 x3 k3 _ z => ?_
  obtain ⟨b, e, q3⟩ := z
  refine ⟨b, e, ?_⟩
  cases b with
  | true =>
    rw [if_pos rfl] at q3 ⊢
    refine tM_at k3 (r.ext (x1.trans (x2.trans x3))) (q3.bind.imp fun z w4 v4 x4 k4 p4 q4 => ?_)
    exact ⟨w4, y, z, rfl, k4, p2.ext (x3.trans x4), p4, q4⟩
  | false =>
    rw [if_neg Bool.false_ne_true] at q3 ⊢
    exact q3.here k3 (by simp only [Rep])
theorem me_chain {op op' : CmpOp} {c : Expr} {mc : ME} {g : F2} (ho : OpR X (compareOp op) (rM X.K E f)) (ho' : OpR X (compareOp op') (rM X.K E g)) (ha : PE X a (tM X.K E ma)) (hb : PE X b (tM X.K E mb)) (hc : PE X c (tM X.K E mc))
    (hm : lastMarks [op, op'] [b, c] = false) : PE X (.Compare a [op, op'] [b, c] pos) (tM X.K E (mChain f g ma mb mc)) := pe_imp (pe_chain ho ho' ha hb hc hm) fun _ _ _ h => tChain_of h
theorem mt_chain {op op' : CmpOp} {c : Expr} {mc : ME} {g : F2} (ho : OpR X (compareOp op) (rM X.K E f)) (ho' : OpR X (compareOp op') (rM X.K E g)) (ha : PE X a (tM X.K E ma)) (hb : PE X b (tM X.K E mb)) (hc : PE X c (tM X.K E mc))
    (hm : lastMarks [op, op'] [b, c] = false) : PT X (.Compare a [op, op'] [b, c] pos) (tMT X.K E fun s h => asB (mChain f g ma mb mc s h)) := by
  refine pt_imp (pt_chain ho ho' ha hb hc hm) fun σ H Q hq => ?_
  obtain ⟨w, s, e, k, r, q⟩ := hq
  subst e
  exact tChain_of (tM_at k r (q.asB.imp fun _ w' v _ _ _ z => z))
end
end Tb
end

section
set_option maxHeartbeats 4000000
namespace Tb
open PySem PySem.Spec PyProof.Rows L2
section
variable {X : Cx} {pins : List (Addr × Obj)} {σ : L2.St} {w : W3} {s : Shared}
/-- a lambda is made -/
theorem lam_w {c P : Addr} {q : Str} {params : Arguments} {body : Expr} {scope : Scope} {pos : Pos} {E : Value → Shared → Prop} {Q : Value → Shared → Prop} (I : Inv X pins σ w.H s) (k : Ok X.K w) (t : TabK X.K P q) (hq : X.env.qual ++ "<lambda>" = q) (TB : LamX.TabB X.base X.mg c P) (hcode : X.env.code = .ref c)
    (hdef : defaultsOf params X.env = ([], [])) (hfree : ∀ y ∈ scope.names, y.2 = .free → ∃ c, X.env.cells.lookup y.1 = some c)
    (h : ∀ (f c' : Addr) (pm ctv : Value) (w' : W3) (s' : Shared), Inv X pins σ w'.H s' → Ok X.K w' → Ext w w' → w'.h = w.h →
      s'.heap.get? f = some (PySem.W.kla_obj "<lambda>" q params body scope (cloFrom X.env.cells scope.names []) pm c' ctv) → w'.H f = none → f ∉ frs X.stack → w'.H c' = some (LamX.CodeO c' q) → (∀ b o, b ≠ P → s.heap.get? b = some o → s'.heap.get? b = some o) → Q (.ref f) s') :
    wpAny (model X.prog X.w) X.A (eval (.Lambda params body scope pos) X.env) Q E s := by
  subst hq
  obtain ⟨ps, hP, nP, ht, ha⟩ := k.tab _ _ t
  refine PySem.W.kla_eval hdef ?_
  have bP : s.heap.BuiltinsAt X.mg P := TB.bm.keeps I.bk
  have hP' : s.heap.get? P = some { cls := .none, data := .fields ps } := I.hok P _ hP
  have nofr : ∀ f, s.heap.objs.size ≤ f → f ∉ frs X.stack := fun f hf z => by
    rcases List.mem_cons.mp (I.stkSub _ z) with e | e
    · have h1 := I.lt
      rw [← e] at h1
      exact Nat.lt_irrefl _ (Nat.lt_of_lt_of_le h1 hf)
    · exact I.nofs hf e
  cases hc : codeAmong pos ps.toList with
  | none =>
    refine PySem.W.kla_makeFunction (mg := X.mg) (c := c) (P := P) (ps := ps) (closure_ok hfree) I.ok.glob (I.mod.glob.keeps I.bk) hcode (TB.code.keeps I.bk) hP' ht hc TB.gP bP fun c' ctv h' tk hx hge hlt hrec htb => ?_
    obtain ⟨c2, oc, vs, t2, e2, hoc, hd, hv⟩ := hrec
    cases e2
    have hsz : s.heap.objs.size ≤ h'.objs.size := Nat.le_trans hge (Nat.le_of_lt hlt)
    have nC : w.H c' = none := I.hok.fresh hge
    have I1 := LamX.inv_table (t' := tk) (more := #[rawInt pos.line, rawInt pos.col, .ref c']) (h' := h'.push (PySem.W.kla_obj "<lambda>" (X.env.qual ++ "<lambda>") params body scope (cloFrom X.env.cells scope.names []) ((X.mg "__name__").getD .none) c' ctv)) I hP
      (fun b o hb e => Heap.get?_push_of_some _ (hx b o hb e)) (Heap.get?_push_of_some _ htb) hge ⟨oc, vs, t2, Heap.get?_push_of_some _ hoc, hd, hv⟩
    have eL : (ps ++ #[rawInt pos.line, rawInt pos.col, .ref c']).toList = ps.toList ++ [rawInt pos.line, rawInt pos.col, .ref c'] := by simp
    refine h h'.objs.size c' ((X.mg "__name__").getD .none) ctv (w.tbl P c' (ps ++ #[rawInt pos.line, rawInt pos.col, .ref c']) (X.env.qual ++ "<lambda>")) _ I1 (k.tbl t hP nC (by rw [eL]; exact PySem.TriplesOk_snoc _ _ _ _ ht) fun p' cv hcv => ?_) (Ext.tbl k hP nP nC) rfl (Heap.get?_push_size _ rfl) ?_ (nofr _ hsz) upd_same (fun b o hb e => Heap.get?_push_of_some _ (hx b o hb e))
    · rw [eL] at hcv
      exact LamX.among_app _ ht hcv
    · have n1 : h'.objs.size ≠ c' := Nat.ne_of_gt hlt
      have n2 : h'.objs.size ≠ P := Nat.ne_of_gt (Nat.lt_of_lt_of_le (Heap.lt_size hP') hsz)
      show upd (upd w.H P _) c' _ _ = none
      rw [upd_ne n1, upd_ne n2]
      exact I.hok.fresh hsz
  | some cv =>
    obtain ⟨c', e, hco, _⟩ := ha pos cv hc
    subst e
    refine PySem.W.kla_makeFunctionHit (mg := X.mg) (c := c) (P := P) (ps := ps) (closure_ok hfree) I.ok.glob (I.mod.glob.keeps I.bk) hcode (TB.code.keeps I.bk) hP' ht hc bP fun ctv h' tk hx hsz => ?_
    have I1 : Inv X pins σ w.H { s with heap := h'.push (PySem.W.kla_obj "<lambda>" (X.env.qual ++ "<lambda>") params body scope (cloFrom X.env.cells scope.names []) ((X.mg "__name__").getD .none) c' ctv), toks := tk } := I.kept fun b o e => Heap.get?_push_of_some _ (hx b o e)
    exact h h'.objs.size c' ((X.mg "__name__").getD .none) ctv w _ I1 k (Ext.refl w) rfl (Heap.get?_push_size _ rfl) (I.hok.fresh hsz) (nofr _ hsz) hco (fun b o _ e => Heap.get?_push_of_some _ (hx b o e))
end
end Tb
end

section
set_option maxHeartbeats 4000000
namespace Tb
open PySem PySem.Spec PySem.Calls PyProof.Rows L2
/-! ## sorted(x, key=f), of whatever is collected -/
section
variable {prog : Program} {w : World} {A : Around} {E : Value → Shared → Prop} {s : Shared} {β : Type} {bs : List β} {R : Value → β → Prop}
theorem sorted_key_col {xv f : Value} {kw : List (Str × Value)} {b : Bool} {Q : Value → Shared → Prop} (k : β → PyData)
    (hcol : ∀ (E' : Value → Shared → Prop) (Q' : List Value → Shared → Prop), (∀ h' tk vs, KeepsH s.heap h' → PySem.W.EachIs R vs bs → Q' vs { s with heap := h', toks := tk }) → wpAny (model prog w) A.in1 (collect xv) Q' E' s)
    (hal : PySem.W.AllAlike (bs.map k)) (hk : PySem.W.Sortable (bs.map k)) (hL : bs.length ≤ sizeLine) (hu : ∀ x, x ∈ bs → A.units + 2 + (k x).depth < cLine) (ha1 : argsOk "sorted" ⟨[xv], kw⟩) (ha2 : ∀ x, argsOk "list.sort" ⟨[.ref x], kw⟩) (ht : ∀ x, Builtin.«list.sort» ⟨[.ref x], kw⟩ = ksk_tree x f b)
    (turn : ∀ (v : Value) (x : β), R v x → x ∈ bs → ∀ (h : Heap) (tk : Nat), KeepsH s.heap h → wpAny (model prog w) A.in1.in1 (call f [v]) (PySem.W.KeyPure (k x) { s with heap := h, toks := tk }) (fun _ _ => False) { s with heap := h, toks := tk })
    (h : ∀ out l c h' tk, KeepsH s.heap h' → s.heap.get? l = none → h'.get? l = some (seqObj "list" (List.toArray out) c) → PySem.W.EachIs R out (bs.mergeSort (PySem.W.dataLe b k)) → Q (.ref l) { s with heap := h', toks := tk }) :
    wpAny (model prog w) A (call (.builtin "sorted") [xv] kw) Q E s := by
  refine call_function_entry_kw kind_sorted plain_sorted entry_sorted ha1 ?_
  unfold Builtin.«sorted»
  refine wpAny_bind (m := checkCount "sorted" 1 1 _) (wpAny_pure ?_)
  refine wpAny_bind (hcol _ _ fun h1 tk1 vs k1 e => ?_)
  have hlv : vs.length ≤ sizeLine := by rw [e.length]; exact hL
  have nb : ∀ b o, s.heap.get? b = some o → b ≠ h1.objs.size := fun b o q => Nat.ne_of_lt (Heap.lt_size (k1 b o q))
  have hfr : s.heap.get? h1.objs.size = none := by
    cases q : s.heap.get? h1.objs.size with
    | none => rfl
    | some o => exact absurd rfl (nb _ o q)
  refine wpAny_bind (wpAny_newList ?_ hlv)
  have kp0 : KeepsH s.heap (h1.push (seqObj "list" vs.toArray 0)) := fun b o q => Heap.get?_push_of_some _ (k1 b o q)
  refine wpAny_bind (wpAny_holding (wpAny_call_entry_kw slot_list_sort ⟨_, Heap.get?_push_size _ rfl, rfl⟩ entry_list_sort ?body (ha2 _)))
  case body =>
    show wpAny (model prog w) A.in1.in1 (Builtin.«list.sort» ⟨[.ref h1.objs.size], kw⟩) _ _ _
    rw [ht]
    refine PySem.W.keyH_tree (kz := bs.map k) (s := { s with heap := h1.push (seqObj "list" vs.toArray 0), toks := tk1 }) (a := h1.objs.size) (vs := vs) (n := 0) (Heap.get?_push_size _ rfl) (by rw [List.length_map]; exact e.length.symm) hlv hal hk (PySem.W.bound_map (A := A.in1.in1) hu)
      (PySem.W.keyH_turns (s := { s with heap := h1.push (seqObj "list" vs.toArray 0), toks := tk1 }) e fun v x hR hx h tk kp => turn v x hR hx h tk fun b o q => kp b o (nb b o q) (kp0 b o q)) fun h' tk out c kp hD ko => ?_
    exact ⟨_, rfl, wpAny_pure ⟨_, rfl, h out h1.objs.size c h' tk (fun b o q => kp b o (nb b o q) (kp0 b o q)) hfr hD (PySem.W.keyedOut_each k ko e)⟩⟩
end
end Tb
end

section
set_option maxHeartbeats 4000000
namespace Tb
open PySem PySem.Spec L2
/-! ## lists and tuples read -/
def lstOf (h : MH) : D → Option (List D)
  | .lst xs => some xs
  | .ref n => match h.get n with
    | some (.lst xs) => some xs
    | none => none
  | _ => none
def seqOf (h : MH) : D → Option (List D)
  | .tup xs => some xs
  | d => lstOf h d
section
variable {K : PySem.W.Frag} {w : W3}
theorem lst_at (k : Ok K w) {d : D} {v : V} {xs : List D} (r : Rep K w d v) (h : lstOf w.h d = some xs) : ∃ a vs, v = .ref a ∧ w.H a = some (.lst vs) ∧ Reps K w xs vs := by
  cases d with
  | lst ys =>
    simp only [lstOf, Option.some.injEq] at h
    subst h
    simp only [Rep] at r
    obtain ⟨a, vs, h1, h2, h3⟩ := r
    exact ⟨a, vs, h1, h2.1, h3⟩
  | ref n =>
    simp only [lstOf] at h
    split at h
    · rename_i ys e
      cases h
      simp only [Rep] at r
      obtain ⟨vs, h1, h2⟩ := (k.dom n _ e).2
      exact ⟨_, vs, r.2, h1, h2⟩
    · cases h
  | _ => simp [lstOf] at h
theorem seq_at (k : Ok K w) {d : D} {v : V} {xs : List D} (r : Rep K w d v) (h : seqOf w.h d = some xs) : ∃ a vs, v = .ref a ∧ (SqL K w.H a vs ∨ SqT K w.H a vs) ∧ Reps K w xs vs := by
  cases d with
  | tup ys =>
    simp only [seqOf, Option.some.injEq] at h
    subst h
    simp only [Rep] at r
    obtain ⟨a, vs, h1, h2, h3⟩ := r
    exact ⟨a, vs, h1, .inr h2.sq, h3⟩
  | _ =>
    obtain ⟨a, vs, h1, h2, h3⟩ := lst_at k r h
    exact ⟨a, vs, h1, .inl (SqL.of h2), h3⟩
theorem tup_at {xs : List D} {v : V} (r : Rep K w (.tup xs) v) : ∃ a vs, v = .ref a ∧ SqT K w.H a vs ∧ Reps K w xs vs := by
  simp only [Rep] at r
  obtain ⟨a, vs, h1, h2, h3⟩ := r
  exact ⟨a, vs, h1, h2.sq, h3⟩
theorem rep_int {i : Int} {v : V} : Rep K w (.int i) v ↔ v = .int i := by simp only [Rep]
theorem rep_str {i : Str} {v : V} : Rep K w (.str i) v ↔ v = .str i := by simp only [Rep]
theorem rep_bl {i : Bool} {v : V} : Rep K w (.bl i) v ↔ v = .bl i := by simp only [Rep]
theorem rep_non {v : V} : Rep K w .non v ↔ v = .non := by simp only [Rep]
/-- a new list, not held; a new tuple -/
theorem PostW.newL {E : XK} {xs : List D} {vs : List V} {Q : V → Hp → Prop} (h : PostW K E (RepD K) w (.ok (.lst xs) w.h) fun _ w' v => Q v w'.H) (k : Ok K w) (r : Reps K w xs vs) : ∀ p, w.H p = none → Q (.ref p) (upd w.H p (.lst vs)) :=
  fun p hp => h (w.lay p (.lst vs)) (.ref p) rfl (Ext.lay k hp) (k.lay hp) (Rep.layLst k hp r)
theorem PostW.newT {E : XK} {xs : List D} {vs : List V} {Q : V → Hp → Prop} (h : PostW K E (RepD K) w (.ok (.tup xs) w.h) fun _ w' v => Q v w'.H) (k : Ok K w) (r : Reps K w xs vs) : ∀ p, w.H p = none → Q (.ref p) (upd w.H p (.tup vs)) :=
  fun p hp => h (w.lay p (.tup vs)) (.ref p) rfl (Ext.lay k hp) (k.lay hp) (Rep.layTup k hp r)
theorem PostW.newH {E : XK} {xs : List D} {vs : List V} {Q : V → Hp → Prop} (h : PostW K E (RepD K) w (.ok (.ref w.h.next) (w.h.new (.lst xs))) fun _ w' v => Q v w'.H) (k : Ok K w) (r : Reps K w xs vs) : ∀ p, w.H p = none → Q (.ref p) (upd w.H p (.lst vs)) := fun p hp =>
  h (w.hold p (.lst vs) (.lst xs)) (.ref p) rfl (Ext.hold k hp) (k.hold hp ⟨vs, upd_same, r.ext (Ext.hold k hp)⟩) Rep.hold
end
/-! ## operators -/
def smallI (i : Int) : Prop := -(2 ^ 64) < i ∧ i < 2 ^ 64
instance smallD (i : Int) : Decidable (smallI i) := by unfold smallI; infer_instance
instance cmulD (i j : Int) : Decidable (CMulW i j) := by unfold CMulW; infer_instance
instance cdivD (i j : Int) : Decidable (CDivW i j) := by unfold CDivW; infer_instance
instance cpowD (i j : Int) : Decidable (CPow i j) := by unfold CPow; infer_instance
def opAdd : F2
  | .int i, .int j, h => .ok (.int (i + j)) h
  | .str x, .str y, h => if x.length + y.length ≤ sizeLine then .ok (.str (x ++ y)) h else .bad
  | .tup xs, .tup ys, h => if xs.length + ys.length ≤ sizeLine then .ok (.tup (xs ++ ys)) h else .bad
  | .int i, .bl b, h => .ok (.int (i + PyProof.Rows.b2i b)) h
  | .bl b, .int j, h => .ok (.int (PyProof.Rows.b2i b + j)) h
  | d, e, h => match lstOf h d, lstOf h e with
    | some xs, some ys => if xs.length + ys.length ≤ sizeLine then .ok (.lst (xs ++ ys)) h else .bad
    | _, _ => .bad
/-- two lists, the new one held -/
def opAddH : F2 := fun d e h => match lstOf h d, lstOf h e with
    | some xs, some ys => if xs.length + ys.length ≤ sizeLine then .ok (.ref h.next) (h.new (.lst (xs ++ ys))) else .bad
    | _, _ => .bad
def opSub : F2
  | .int i, .int j, h => .ok (.int (i - j)) h
  | .bl b, .int j, h => .ok (.int (PyProof.Rows.b2i b - j)) h
  | _, _, _ => .bad
def opMul : F2
  | .int i, .int j, h => if smallI i ∨ smallI j ∨ CMulW i j then .ok (.int (i * j)) h else .bad
  | _, _, _ => .bad
def opDiv : F2
  | .int i, .int j, h => if CDivW i j then .ok (.int (i / j)) h else .bad
  | _, _, _ => .bad
def opMod : F2
  | .int i, .int j, h => if 0 < j then .ok (.int (i % j)) h else .bad
  | _, _, _ => .bad
def opPow : F2
  | .int i, .int j, h => if CPow i j then .ok (.int (i ^ j.toNat)) h else .bad
  | _, _, _ => .bad
section
variable {X : Cx} {E : XK}
theorem or_add : OpR X (binaryOp .Add) (rM X.K E opAdd) := by
  intro pins s σ H x y v u Q I rx ry h
  obtain ⟨w, d, e, eH, k, rd, re, q⟩ := h
  subst eH
  unfold opAdd at q
  split at q
  · rw [rep_int] at rd re
    exact op_add pins s σ _ x y v u Q I rx ry ⟨_, _, rd, re, q.here k (rep_int.mpr rfl)⟩
  · rw [rep_str] at rd re
    split at q
    · exact op_add_str pins s σ _ x y v u Q I rx ry ⟨_, _, rd, re, by assumption, q.here k (rep_str.mpr rfl)⟩
    · exact q.elim
  · split at q
    · rename_i hz
      obtain ⟨a, vs, e1, h1, r1⟩ := tup_at rd
      obtain ⟨b, us, e2, h2, r2⟩ := tup_at re
      refine op_catA pins s σ _ x y v u Q I rx ry ⟨a, b, vs, us, e1, e2, h1, h2, by rw [← r1.length, ← r2.length]; exact hz, fun z => ?_, fun _ z => ?_, fun _ _ => q.newT k (r1.append r2)⟩
      · have h := r1.length
        rw [z] at h
        rw [List.length_eq_zero_iff.mp h, List.nil_append, ] at q
        subst e2
        exact q.here k re
      · have h := r2.length
        rw [z] at h
        rw [List.length_eq_zero_iff.mp h, List.append_nil] at q
        subst e1
        exact q.here k rd
    · exact q.elim
  · rw [rep_int] at rd
    rw [rep_bl] at re
    exact op_add_ib pins s σ _ x y v u Q I rx ry ⟨_, _, rd, re, q.here k (rep_int.mpr rfl)⟩
  · rename_i b j
    rw [rep_bl] at rd
    rw [rep_int] at re
    subst rd
    subst re
    cases rx
    obtain ⟨t, rfl⟩ := ry
    exact PySem.IntBool.add_bool_int ⟨.int (PyProof.Rows.b2i b + j), _, I.tok _, ⟨_, rfl⟩, q.here k (rep_int.mpr rfl)⟩
  · split at q
    · rename_i e1 e2
      split at q
      · rename_i hz
        obtain ⟨a, vs, ea, h1, r1⟩ := lst_at k rd e1
        obtain ⟨b, us, eb, h2, r2⟩ := lst_at k re e2
        exact op_cat pins s σ _ x y v u Q I rx ry ⟨a, b, vs, us, ea, eb, h1, h2, by rw [← r1.length, ← r2.length]; exact hz, q.newL k (r1.append r2)⟩
      · exact q.elim
    · exact q.elim
theorem or_addH : OpR X (binaryOp .Add) (rM X.K E opAddH) := by
  intro pins s σ H x y v u Q I rx ry h
  obtain ⟨w, d, e, eH, k, rd, re, q⟩ := h
  subst eH
  unfold opAddH at q
  split at q
  · rename_i e1 e2
    split at q
    · rename_i hz
      obtain ⟨a, vs, ea, h1, r1⟩ := lst_at k rd e1
      obtain ⟨b, us, eb, h2, r2⟩ := lst_at k re e2
      exact op_cat pins s σ _ x y v u Q I rx ry ⟨a, b, vs, us, ea, eb, h1, h2, by rw [← r1.length, ← r2.length]; exact hz, q.newH k (r1.append r2)⟩
    · exact q.elim
  · exact q.elim
theorem or_sub : OpR X (binaryOp .Sub) (rM X.K E opSub) := by
  intro pins s σ H x y v u Q I rx ry h
  obtain ⟨w, d, e, eH, k, rd, re, q⟩ := h
  subst eH
  unfold opSub at q
  split at q
  · rw [rep_int] at rd re
    exact op_sub pins s σ _ x y v u Q I rx ry ⟨_, _, rd, re, q.here k (rep_int.mpr rfl)⟩
  · rename_i b j
    rw [rep_bl] at rd
    rw [rep_int] at re
    subst rd
    subst re
    cases rx
    obtain ⟨t, rfl⟩ := ry
    exact PySem.IntBool.sub_bool_int ⟨.int (PyProof.Rows.b2i b - j), _, I.tok _, ⟨_, rfl⟩, q.here k (rep_int.mpr rfl)⟩
  · exact q.elim
theorem or_mul : OpR X (binaryOp .Mult) (rM X.K E opMul) := by
  intro pins s σ H x y v u Q I rx ry h
  obtain ⟨w, d, e, eH, k, rd, re, q⟩ := h
  subst eH
  unfold opMul at q
  split at q
  · rw [rep_int] at rd re
    split at q
    · rename_i hz
      have q' := q.here k (rep_int.mpr rfl)
      rcases hz with hz | hz | hz
      · exact op_mul pins s σ _ x y v u Q I rx ry ⟨_, _, rd, re, .inl hz, q'⟩
      · exact op_mul pins s σ _ x y v u Q I rx ry ⟨_, _, rd, re, .inr hz, q'⟩
      · exact op_mulW pins s σ _ x y v u Q I rx ry ⟨_, _, rd, re, hz, q'⟩
    · exact q.elim
  · exact q.elim
theorem or_div : OpR X (binaryOp .FloorDiv) (rM X.K E opDiv) := by
  intro pins s σ H x y v u Q I rx ry h
  obtain ⟨w, d, e, eH, k, rd, re, q⟩ := h
  subst eH
  unfold opDiv at q
  split at q
  · rw [rep_int] at rd re
    split at q
    · exact op_fdivW pins s σ _ x y v u Q I rx ry ⟨_, _, rd, re, by assumption, q.here k (rep_int.mpr rfl)⟩
    · exact q.elim
  · exact q.elim
theorem or_mod : OpR X (binaryOp .Mod) (rM X.K E opMod) := by
  intro pins s σ H x y v u Q I rx ry h
  obtain ⟨w, d, e, eH, k, rd, re, q⟩ := h
  subst eH
  unfold opMod at q
  split at q
  · rw [rep_int] at rd re
    split at q
    · exact op_mod pins s σ _ x y v u Q I rx ry ⟨_, _, rd, re, by assumption, q.here k (rep_int.mpr rfl)⟩
    · exact q.elim
  · exact q.elim
theorem or_pow : OpR X (binaryOp .Pow) (rM X.K E opPow) := by
  intro pins s σ H x y v u Q I rx ry h
  obtain ⟨w, d, e, eH, k, rd, re, q⟩ := h
  subst eH
  unfold opPow at q
  split at q
  · rw [rep_int] at rd re
    split at q
    · exact op_pow pins s σ _ x y v u Q I rx ry ⟨_, _, rd, re, by assumption, q.here k (rep_int.mpr rfl)⟩
    · exact q.elim
  · exact q.elim
end
/-! ## data: what == and repr see -/
mutual
def toP : D → Option PyData
  | .non => some .none
  | .bl b => some (.bool b)
  | .int i => some (.int i)
  | .str x => some (.str x)
  | .tup xs => (toPs xs).map .tuple
  | .lst xs => (toPs xs).map .list
  | .ref _ => none
  | .raw _ => none
  | .scr _ => none
def toPs : List D → Option (List PyData)
  | [] => some []
  | x :: xs => match toP x, toPs xs with
    | some p, some ps => some (p :: ps)
    | _, _ => none
end
/-- .. with lists of the heap, whose items are plain -/
def toD (h : MH) : D → Option PyData
  | .ref n => match h.get n with
    | some (.lst xs) => (toPs xs).map .list
    | none => none
  | d => toP d
section
variable {K : PySem.W.Frag} {w : W3}
mutual
theorem toP_ok : ∀ {d : D} {v : V} {p : PyData}, Rep K w d v → toP d = some p → Dp K w.H v p
  | .non, v, p, r, h => by
    simp only [toP, Option.some.injEq] at h; subst h; rw [rep_non] at r; subst r; exact .non
  | .bl b, v, p, r, h => by
    simp only [toP, Option.some.injEq] at h; subst h; rw [rep_bl] at r; subst r; exact .bl b
  | .int i, v, p, r, h => by
    simp only [toP, Option.some.injEq] at h; subst h; rw [rep_int] at r; subst r; exact .int i
  | .str x, v, p, r, h => by
    simp only [toP, Option.some.injEq] at h; subst h; rw [rep_str] at r; subst r; exact .str x
  | .tup xs, v, p, r, h => by
    simp only [toP, Option.map_eq_some_iff] at h
    obtain ⟨ps, h1, rfl⟩ := h
    obtain ⟨a, vs, rfl, h2, h3⟩ := tup_at r
    exact .tup h2 (toPs_ok h3 h1)
  | .lst xs, v, p, r, h => by
    simp only [toP, Option.map_eq_some_iff] at h
    obtain ⟨ps, h1, rfl⟩ := h
    simp only [Rep] at r
    obtain ⟨a, vs, rfl, h2, h3⟩ := r
    exact .lst h2.sq (toPs_ok h3 h1)
  | .ref _, v, p, r, h => by simp [toP] at h
  | .raw _, v, p, r, h => by simp [toP] at h
  | .scr _, v, p, r, h => by simp [toP] at h
theorem toPs_ok : ∀ {ds : List D} {vs : List V} {ps : List PyData}, Reps K w ds vs → toPs ds = some ps → DpAll K w.H vs ps
  | [], vs, ps, r, h => by
    simp only [toPs, Option.some.injEq] at h; subst h
    rw [r.unnil]; exact .nil
  | d :: ds, vs, ps, r, h => by
    obtain ⟨u, us, rfl, r1, r2⟩ := r.uncons
    simp only [toPs] at h
    split at h
    · rename_i p qs e1 e2
      cases h
      exact .cons (toP_ok r1 e1) (toPs_ok r2 e2)
    · cases h
end
theorem toD_ok (k : Ok K w) {d : D} {v : V} {p : PyData} (r : Rep K w d v) (h : toD w.h d = some p) : Dp K w.H v p := by
  cases d with
  | ref n =>
    simp only [toD] at h
    split at h
    · rename_i xs e
      simp only [Option.map_eq_some_iff] at h
      obtain ⟨ps, h1, rfl⟩ := h
      obtain ⟨vs, h2, h3⟩ := (k.dom n _ e).2
      simp only [Rep] at r
      rw [r.2]
      exact .lst (SqL.of h2) (toPs_ok h3 h1)
    · cases h
  | _ => exact toP_ok r h
end
def opEq : F2
  | .str x, .str y, h => .ok (.bl (decide (x = y))) h
  | x, y, h => match toD h x, toD h y with
    | some p, some q => if SeqAt.shaped p = true ∧ SeqAt.shaped q = true then .ok (.bl (PyData.eqv p q)) h else .bad
    | _, _ => .bad
def opNe : F2
  | .str x, .str y, h => .ok (.bl (!decide (x = y))) h
  | x, y, h => match toD h x, toD h y with
    | some p, some q => if SeqAt.shaped p = true ∧ SeqAt.shaped q = true then .ok (.bl (!PyData.eqv p q)) h else .bad
    | _, _ => .bad
theorem str_dec {x y : Str} : decide (V.str x = V.str y) = decide (x = y) := Bool.eq_iff_iff.mpr (by simp)
def intsOf : List D → Option (List Int)
  | [] => some []
  | .int i :: xs => (intsOf xs).map (i :: ·)
  | _ => none
theorem intsOf_ok {K : PySem.W.Frag} {w : W3} : ∀ {ds : List D} {vs : List V} {ns : List Int}, Reps K w ds vs → intsOf ds = some ns → vs = ns.map V.int
  | [], vs, ns, r, h => by simp only [intsOf, Option.some.injEq] at h; subst h; rw [r.unnil]; rfl
  | d :: ds, vs, ns, r, h => by
    obtain ⟨u, us, rfl, r1, r2⟩ := r.uncons
    cases d with
    | int i =>
      simp only [intsOf, Option.map_eq_some_iff] at h
      obtain ⟨ms, h1, rfl⟩ := h
      rw [rep_int] at r1
      rw [r1, intsOf_ok r2 h1]
      rfl
    | _ => simp [intsOf] at h
def opLt : F2
  | .int i, .int j, h => .ok (.bl (decide (i < j))) h
  | .str x, .str y, h => .ok (.bl (decide (x.cps.toList < y.cps.toList))) h
  | .tup xs, .tup ys, h => match intsOf xs, intsOf ys with
    | some ns, some ms => .ok (.bl (HT.lexLt ns ms)) h
    | _, _ => .bad
  | _, _, _ => .bad
def opLe : F2
  | .int i, .int j, h => .ok (.bl (decide (i ≤ j))) h
  | _, _, _ => .bad
def opGt : F2
  | .int i, .int j, h => .ok (.bl (decide (j < i))) h
  | _, _, _ => .bad
def opGe : F2
  | .int i, .int j, h => .ok (.bl (decide (j ≤ i))) h
  | _, _, _ => .bad
def isNon : D → Option Bool
  | .non => some true
  | .raw _ => none
  | _ => some false
def opIs : F2
  | .bl a, .bl b, h => .ok (.bl (decide (a = b))) h
  | x, .non, h => match isNon x with
    | some b => .ok (.bl b) h
    | none => .bad
  | x, .bl _, h => match isNon x with
    | some _ => .ok (.bl false) h
    | none => .bad
  | _, _, _ => .bad
def opIsNot : F2
  | .bl a, .bl b, h => .ok (.bl (!decide (a = b))) h
  | x, .non, h => match isNon x with
    | some b => .ok (.bl (!b)) h
    | none => .bad
  | x, .bl _, h => match isNon x with
    | some _ => .ok (.bl true) h
    | none => .bad
  | _, _, _ => .bad
theorem not_bl {K : PySem.W.Frag} {w : W3} {d : D} {x : V} {v : Value} {c b : Bool} (rd : Rep K w d x) (e : isNon d = some c) (hn : ∀ c, d ≠ .bl c) (rx : RelV x v) : plainIs v (.bool b) = true ∧ v ≠ .bool b := by
  cases d with
  | bl c => exact absurd rfl (hn c)
  | raw u => cases e
  | non =>
    cases rep_non.mp rd
    cases (show v = Value.none from rx)
    exact ⟨rfl, by simp⟩
  | int i =>
    cases rep_int.mp rd
    obtain ⟨t, rfl⟩ := rx
    exact ⟨rfl, by simp⟩
  | str i =>
    cases rep_str.mp rd
    obtain ⟨t, rfl⟩ := rx
    exact ⟨rfl, by simp⟩
  | tup xs =>
    simp only [Rep] at rd
    obtain ⟨a, vs, rfl, _⟩ := rd
    cases (show v = Value.ref a from rx)
    exact ⟨rfl, by simp⟩
  | lst xs =>
    simp only [Rep] at rd
    obtain ⟨a, vs, rfl, _⟩ := rd
    cases (show v = Value.ref a from rx)
    exact ⟨rfl, by simp⟩
  | ref n =>
    simp only [Rep] at rd
    obtain ⟨_, rfl⟩ := rd
    cases (show v = Value.ref _ from rx)
    exact ⟨rfl, by simp⟩
  | scr ns =>
    simp only [Rep] at rd
    obtain ⟨a, rfl, _⟩ := rd
    cases (show v = Value.ref a from rx)
    exact ⟨rfl, by simp⟩
section
variable {X : Cx} {E : XK}
theorem or_eq (hu : X.A.units + 64 < cLine) : OpR X (compareOp .Eq) (rM X.K E opEq) := by
  intro pins s σ H x y v u Q I rx ry h
  obtain ⟨w, d, e, eH, k, rd, re, q⟩ := h
  subst eH
  unfold opEq at q
  split at q
  · rename_i x' y' _
    rw [rep_str] at rd re
    subst rd re
    exact op_eq pins s σ _ _ _ v u Q I rx ry ⟨rfl, by rw [str_dec]; exact q.here k (rep_bl.mpr rfl)⟩
  · split at q
    · rename_i p p' e1 e2
      split at q
      · rename_i hz
        exact op_eqD hu pins s σ _ x y v u Q I rx ry ⟨p, p', toD_ok k rd e1, toD_ok k re e2, hz.1, hz.2, q.here k (rep_bl.mpr rfl)⟩
      · exact q.elim
    · exact q.elim
theorem or_ne (hu : X.A.units + 64 < cLine) : OpR X (compareOp .NotEq) (rM X.K E opNe) := by
  intro pins s σ H x y v u Q I rx ry h
  obtain ⟨w, d, e, eH, k, rd, re, q⟩ := h
  subst eH
  unfold opNe at q
  split at q
  · rename_i x' y' _
    rw [rep_str] at rd re
    subst rd re
    exact op_ne pins s σ _ _ _ v u Q I rx ry ⟨rfl, by rw [str_dec]; exact q.here k (rep_bl.mpr rfl)⟩
  · split at q
    · rename_i p p' e1 e2
      split at q
      · rename_i hz
        exact op_neD hu pins s σ _ x y v u Q I rx ry ⟨p, p', toD_ok k rd e1, toD_ok k re e2, hz.1, hz.2, q.here k (rep_bl.mpr rfl)⟩
      · exact q.elim
    · exact q.elim
theorem or_lt (hu : X.A.units < cLine) : OpR X (compareOp .Lt) (rM X.K E opLt) := by
  intro pins s σ H x y v u Q I rx ry h
  obtain ⟨w, d, e, eH, k, rd, re, q⟩ := h
  subst eH
  unfold opLt at q
  split at q
  · rw [rep_int] at rd re
    exact op_lt pins s σ _ x y v u Q I rx ry ⟨_, _, rd, re, q.here k (rep_bl.mpr rfl)⟩
  · rw [rep_str] at rd re
    exact op_lt_str pins s σ _ x y v u Q I rx ry ⟨_, _, rd, re, q.here k (rep_bl.mpr rfl)⟩
  · split at q
    · rename_i ns ms e1 e2
      obtain ⟨a, vs, rfl, h1, r1⟩ := tup_at rd
      obtain ⟨b, us, rfl, h2, r2⟩ := tup_at re
      rw [intsOf_ok r1 e1] at h1
      rw [intsOf_ok r2 e2] at h2
      exact op_ltT hu pins s σ _ _ _ v u Q I rx ry ⟨_, _, _, _, rfl, rfl, h1, h2, q.here k (rep_bl.mpr rfl)⟩
    · exact q.elim
  · exact q.elim
theorem or_le : OpR X (compareOp .LtE) (rM X.K E opLe) := by
  intro pins s σ H x y v u Q I rx ry h
  obtain ⟨w, d, e, eH, k, rd, re, q⟩ := h
  subst eH
  unfold opLe at q
  split at q
  · rw [rep_int] at rd re
    exact op_le pins s σ _ x y v u Q I rx ry ⟨_, _, rd, re, q.here k (rep_bl.mpr rfl)⟩
  · exact q.elim
theorem or_gt : OpR X (compareOp .Gt) (rM X.K E opGt) := by
  intro pins s σ H x y v u Q I rx ry h
  obtain ⟨w, d, e, eH, k, rd, re, q⟩ := h
  subst eH
  unfold opGt at q
  split at q
  · rw [rep_int] at rd re
    exact op_gt pins s σ _ x y v u Q I rx ry ⟨_, _, rd, re, q.here k (rep_bl.mpr rfl)⟩
  · exact q.elim
theorem or_ge : OpR X (compareOp .GtE) (rM X.K E opGe) := by
  intro pins s σ H x y v u Q I rx ry h
  obtain ⟨w, d, e, eH, k, rd, re, q⟩ := h
  subst eH
  unfold opGe at q
  split at q
  · rw [rep_int] at rd re
    exact op_ge pins s σ _ x y v u Q I rx ry ⟨_, _, rd, re, q.here k (rep_bl.mpr rfl)⟩
  · exact q.elim
theorem rep_isNon {K : PySem.W.Frag} {w : W3} {d : D} {v : V} {b : Bool} (r : Rep K w d v) (hd : isNon d = some b) : decide (v = .non) = b := by
  cases d with
  | non => rw [rep_non] at r; subst r; cases hd; rfl
  | bl b => rw [rep_bl] at r; subst r; cases hd; rfl
  | int b => rw [rep_int] at r; subst r; cases hd; rfl
  | str b => rw [rep_str] at r; subst r; cases hd; rfl
  | tup xs => obtain ⟨a, vs, rfl, _, _⟩ := tup_at r; cases hd; rfl
  | lst xs => simp only [Rep] at r; obtain ⟨a, vs, rfl, _, _⟩ := r; cases hd; rfl
  | ref n => simp only [Rep] at r; obtain ⟨_, rfl⟩ := r; cases hd; rfl
  | raw u => cases hd
  | scr ns => simp only [Rep] at r; obtain ⟨a, rfl, _⟩ := r; cases hd; rfl
theorem or_is : OpR X (compareOp .Is) (rM X.K E opIs) := by
  intro pins s σ H x y v u Q I rx ry h
  obtain ⟨w, d, e, eH, k, rd, re, q⟩ := h
  subst eH
  unfold opIs at q
  split at q
  · rw [rep_bl] at rd re
    exact op_isBl pins s σ _ x y v u Q I rx ry ⟨_, _, rd, re, q.here k (rep_bl.mpr rfl)⟩
  · rw [rep_non] at re
    split at q
    · rename_i b e1
      refine op_isN pins s σ _ x y v u Q I rx ry ⟨re, ?_⟩
      rw [rep_isNon rd e1]
      exact q.here k (rep_bl.mpr rfl)
    · exact q.elim
  · rename_i hn
    rw [rep_bl] at re
    split at q
    · rename_i b e1
      subst re
      cases (show u = Value.bool _ from ry)
      obtain ⟨p1, p2⟩ := not_bl rd e1 (fun c z => hn c z) rx
      exact wpAny_is_other p1 p2 ⟨.bl false, _, I, rfl, q.here k (rep_bl.mpr rfl)⟩
    · exact q.elim
  · exact q.elim
theorem or_isnot : OpR X (compareOp .IsNot) (rM X.K E opIsNot) := by
  intro pins s σ H x y v u Q I rx ry h
  obtain ⟨w, d, e, eH, k, rd, re, q⟩ := h
  subst eH
  unfold opIsNot at q
  split at q
  · rw [rep_bl] at rd re
    exact op_notBl pins s σ _ x y v u Q I rx ry ⟨_, _, rd, re, q.here k (rep_bl.mpr rfl)⟩
  · rw [rep_non] at re
    split at q
    · rename_i b e1
      refine op_notN pins s σ _ x y v u Q I rx ry ⟨re, ?_⟩
      rw [rep_isNon rd e1]
      exact q.here k (rep_bl.mpr rfl)
    · exact q.elim
  · rename_i hn
    rw [rep_bl] at re
    split at q
    · rename_i b e1
      subst re
      cases (show u = Value.bool _ from ry)
      obtain ⟨p1, p2⟩ := not_bl rd e1 (fun c z => hn c z) rx
      exact wpAny_isNot_other p1 p2 ⟨.bl true, _, I, rfl, q.here k (rep_bl.mpr rfl)⟩
    · exact q.elim
  · exact q.elim
end
end Tb
end

section
set_option maxHeartbeats 4000000
namespace Tb
open PySem PySem.Spec L2
/-! ## tests -/
def mAnd (a b : MT) : MT := fun s h => (a s h).bind fun k h1 => if k = true then b s h1 else .ok false h1
def mOr (a b : MT) : MT := fun s h => (a s h).bind fun k h1 => if k = true then .ok true h1 else b s h1
def mNot (a : MT) : MT := fun s h => (a s h).bind fun k h1 => .ok (!k) h1
/-- the truth of a value -/
def truth : D → MH → R Bool
  | .non, h => .ok false h
  | .bl b, h => .ok b h
  | .int i, h => .ok (i != 0) h
  | .str x, h => if x.length ≤ sizeLine then .ok ((x.length : Int) != 0) h else .bad
  | d, h => match seqOf h d with
    | some xs => .ok (!xs.isEmpty) h
    | none => .bad
def mTruth (m : ME) : MT := fun s h => (m s h).bind truth
section
variable {X : Cx} {E : XK} {a b : Expr} {rest : List Expr} {ma mb : MT} {pos : Pos}
theorem tAnd_of {σ : L2.St} {H : Hp} {Q : Bool → Hp → Prop} (h : tMT X.K E (mAnd ma mb) σ H Q) : L2.tAnd (tMT X.K E ma) (tMT X.K E mb) σ H Q := by
  obtain ⟨w, s, e, k, r, q⟩ := h
  subst e
  refine tMT_at k r ((PostW.bind (Rel := EqB) q).imp fun c w1 v x1 k1 p1 q1 => ?_)
  subst p1
  cases c with
  | true =>
    rw [if_pos rfl] at q1 ⊢
    exact tMT_at k1 (r.ext x1) q1
  | false =>
    rw [if_neg Bool.false_ne_true] at q1 ⊢
    exact q1.here k1 rfl
theorem tOr_of {σ : L2.St} {H : Hp} {Q : Bool → Hp → Prop} (h : tMT X.K E (mOr ma mb) σ H Q) : L2.tOr (tMT X.K E ma) (tMT X.K E mb) σ H Q := by
  obtain ⟨w, s, e, k, r, q⟩ := h
  subst e
  refine tMT_at k r ((PostW.bind (Rel := EqB) q).imp fun c w1 v x1 k1 p1 q1 => ?_)
  subst p1
  cases c with
  | true =>
    rw [if_pos rfl] at q1 ⊢
    exact q1.here k1 rfl
  | false =>
    rw [if_neg Bool.false_ne_true] at q1 ⊢
    exact tMT_at k1 (r.ext x1) q1
theorem mw_and (ha : PT X a (tMT X.K E ma)) (hb : PW X (.BoolOp .And (b :: rest) pos) (tMT X.K E mb)) : PW X (.BoolOp .And (a :: b :: rest) pos) (tMT X.K E (mAnd ma mb)) := pw_imp (pw_and ha hb) fun _ _ _ h => tAnd_of h
theorem mw_or (ha : PT X a (tMT X.K E ma)) (hb : PW X (.BoolOp .Or (b :: rest) pos) (tMT X.K E mb)) : PW X (.BoolOp .Or (a :: b :: rest) pos) (tMT X.K E (mOr ma mb)) := pw_imp (pw_or ha hb) fun _ _ _ h => tOr_of h
theorem mt_not (ha : PT X a (tMT X.K E ma)) : PT X (.UnaryOp .Not a pos) (tMT X.K E (mNot ma)) := by
  refine pt_imp (pt_not ha) fun σ H Q hq => ?_
  obtain ⟨w, s, e, k, r, q⟩ := hq
  subst e
  refine tMT_at k r ((PostW.bind (Rel := EqB) q).imp fun c w1 v x1 k1 p1 q1 => ?_)
  subst p1
  exact q1.here k1 rfl
theorem truth_ok {K : PySem.W.Frag} {w : W3} {d : D} {v : V} {Q : Bool → Hp → Prop} (k : Ok K w) (r : Rep K w d v) (q : PostW K E EqB w (truth d w.h) fun _ w' b => Q b w'.H) : ∃ b, TruV K v w.H b ∧ Q b w.H := by
  unfold truth at q
  split at q
  · rw [rep_non] at r; subst r; exact ⟨_, rfl, q.here k rfl⟩
  · rw [rep_bl] at r; subst r; exact ⟨_, rfl, q.here k rfl⟩
  · rw [rep_int] at r; subst r; exact ⟨_, rfl, q.here k rfl⟩
  · rw [rep_str] at r; subst r
    split at q
    · exact ⟨_, ⟨by assumption, rfl⟩, q.here k rfl⟩
    · exact q.elim
  · split at q
    · rename_i xs e
      obtain ⟨a, vs, rfl, h2, h3⟩ := seq_at k r e
      have e2 : (!xs.isEmpty) = !vs.isEmpty := by
        have := h3.length
        cases xs <;> cases vs <;> simp_all
      rw [e2] at q
      rcases h2 with h2 | h2
      · exact ⟨_, .inl ⟨vs, h2, rfl⟩, q.here k rfl⟩
      · exact ⟨_, .inr (.inl ⟨vs, h2, rfl⟩), q.here k rfl⟩
    · exact q.elim
theorem mt_truth {m : ME} (ha : PE X a (tM X.K E m)) (he : ∀ whole, isTrue a X.env whole = (do let v ← whole; standAt a.pos; holding [v] (truthy v))) : PT X a (tMT X.K E (mTruth m)) := by
  refine pt_imp (pt_truth ha he) fun σ H Q hq => ?_
  obtain ⟨w, s, e, k, r, q⟩ := hq
  subst e
  exact tM_at k r ((PostW.bind (Rel := RepD X.K) q).imp fun d w1 v x1 k1 p1 q1 => truth_ok k1 p1 q1)
end
/-! ## and, or, not as values; a if t else b -/
def ofB (m : MT) : ME := fun s h => (m s h).bind fun b h1 => .ok (.bl b) h1
/-- and, or of values: all but the last a truth -/
def mAndV (a b : ME) : ME := fun s h => (asB (a s h)).bind fun k h1 => if k = true then b s h1 else .ok (.bl false) h1
def mOrV (a b : ME) : ME := fun s h => (asB (a s h)).bind fun k h1 => if k = true then .ok (.bl true) h1 else b s h1
def mNotV (a : ME) : ME := fun s h => (asB (a s h)).bind fun k h1 => .ok (.bl (!k)) h1
def mIf (c : MT) (a b : ME) : ME := fun s h => (c s h).bind fun k h1 => if k = true then a s h1 else b s h1
section
variable {X : Cx} {E : XK} {a b c : Expr} {rest : List Expr} {ma mb : ME} {mc : MT} {pos : Pos}
theorem me_one {op : BoolOp} {m : ME} (h : PE X a (tM X.K E m)) : PE X (.BoolOp op [a] pos) (tM X.K E m) := pe_one h
theorem me_and (ha : PE X a (tM X.K E ma)) (hb : PE X (.BoolOp .And (b :: rest) pos) (tM X.K E mb)) : PE X (.BoolOp .And (a :: b :: rest) pos) (tM X.K E (mAndV ma mb)) := by
  refine pe_imp (pe_and ha hb) fun σ H Q hq => ?_
  obtain ⟨w, s, e, k, r, q⟩ := hq
  subst e
  refine tM_at k r ((PostW.asB (PostW.bind (Rel := EqB) q)).imp fun _ w1 v x1 k1 _ z => ?_)
  obtain ⟨b, e, q1⟩ := z
  refine ⟨b, e, ?_⟩
  cases b with
  | true =>
    rw [if_pos rfl] at q1 ⊢
    exact tM_at k1 (r.ext x1) q1
  | false =>
    rw [if_neg Bool.false_ne_true] at q1 ⊢
    exact q1.here k1 (rep_bl.mpr rfl)
theorem me_or (ha : PE X a (tM X.K E ma)) (hb : PE X (.BoolOp .Or (b :: rest) pos) (tM X.K E mb)) : PE X (.BoolOp .Or (a :: b :: rest) pos) (tM X.K E (mOrV ma mb)) := by
  refine pe_imp (pe_or ha hb) fun σ H Q hq => ?_
  obtain ⟨w, s, e, k, r, q⟩ := hq
  subst e
  refine tM_at k r ((PostW.asB (PostW.bind (Rel := EqB) q)).imp fun _ w1 v x1 k1 _ z => ?_)
  obtain ⟨b, e, q1⟩ := z
  refine ⟨b, e, ?_⟩
  cases b with
  | true =>
    rw [if_pos rfl] at q1 ⊢
    exact q1.here k1 (rep_bl.mpr rfl)
  | false =>
    rw [if_neg Bool.false_ne_true] at q1 ⊢
    exact tM_at k1 (r.ext x1) q1
theorem me_not (ha : PE X a (tM X.K E ma)) : PE X (.UnaryOp .Not a pos) (tM X.K E (mNotV ma)) := by
  refine pe_imp (pe_not ha) fun σ H Q hq => ?_
  obtain ⟨w, s, e, k, r, q⟩ := hq
  subst e
  refine tM_at k r ((PostW.asB (PostW.bind (Rel := EqB) q)).imp fun _ w1 v x1 k1 _ z => ?_)
  obtain ⟨b, e, q1⟩ := z
  exact ⟨b, e, q1.here k1 (rep_bl.mpr rfl)⟩
theorem me_if (hc : PT X c (tMT X.K E mc)) (ha : PE X a (tM X.K E ma)) (hb : PE X b (tM X.K E mb)) : PE X (.IfExp c a b pos) (tM X.K E (mIf mc ma mb)) := by
  refine pe_imp (pe_ifExp hc ha hb) fun σ H Q hq => ?_
  obtain ⟨w, s, e, k, r, q⟩ := hq
  subst e
  refine tMT_at k r ((PostW.bind (Rel := EqB) q).imp fun c w1 v x1 k1 p1 q1 => ?_)
  subst p1
  cases c with
  | true =>
    rw [if_pos rfl] at q1 ⊢
    exact tM_at k1 (r.ext x1) q1
  | false =>
    rw [if_neg Bool.false_ne_true] at q1 ⊢
    exact tM_at k1 (r.ext x1) q1
end
/-! ## -a -/
def opNeg : D → MH → R D
  | .int i, h => .ok (.int (-i)) h
  | .bl b, h => .ok (.int (-PyProof.Rows.b2i b)) h
  | _, _ => .bad
def mNeg (a : ME) : ME := fun s h => (a s h).bind opNeg
section
variable {X : Cx} {E : XK} {a : Expr} {ma : ME} {pos : Pos}
theorem neg_boolT {prog : Program} {w : World} {A : Around} {E : Value → Shared → Prop} {s : Shared} {p : Bool} {Q : Value → Shared → Prop} (h : Q (.int (-PyProof.Rows.b2i p) s.toks) { s with toks := s.toks + 1 }) : wpAny (model prog w) A (unaryOp .USub (.bool p)) Q E s := by
  unfold unaryOp
  refine wpAny_holding ?_
  refine wpAny_bind (m := callSpecial? (.bool p) (Str.ofString "__neg__")) (wpAny_callSpecial?_slot (name := Str.ofString "__neg__") (PyProof.Rows.typeIs_bool' s p) PySem.F.slot_bool_neg
    (wpAny_call_entry PySem.F.slot_bool_neg (PyProof.Rows.typeIs_bool' s p) PyProof.Rows.entry_int_neg ?_ (PyProof.Rows.args_int_neg _)))
  show wpAny _ _ (do ret (← mkInt (-PyProof.Rows.b2i p))) _ _ s
  exact wpAny_ret_mkInt (wpAny_pure h)
theorem un_negM : UnR X (unaryOp .USub) (fun x H Q => (∃ i, x = V.int i ∧ Q (.int (-i)) H) ∨ ∃ b, x = V.bl b ∧ Q (.int (-PyProof.Rows.b2i b)) H) := by
  intro pins s σ H x v Q I rx h
  rcases h with h | ⟨b, rfl, q⟩
  · exact un_neg pins s σ H x v Q I rx h
  · cases rx
    exact neg_boolT ⟨.int (-PyProof.Rows.b2i b), H, I.tok _, ⟨_, rfl⟩, q⟩
theorem me_neg (ha : PE X a (tM X.K E ma)) : PE X (.UnaryOp .USub a pos) (tM X.K E (mNeg ma)) := by
  refine pe_imp (pe_un un_negM ha) fun σ H Q hq => ?_
  obtain ⟨w, s, e, k, r, q⟩ := hq
  subst e
  refine tM_at k r ((PostW.bind (Rel := RepD X.K) q).imp fun d w1 v x1 k1 p1 q1 => ?_)
  unfold opNeg at q1
  split at q1
  · exact .inl ⟨_, rep_int.mp p1, q1.here k1 (rep_int.mpr rfl)⟩
  · exact .inr ⟨_, rep_bl.mp p1, q1.here k1 (rep_int.mpr rfl)⟩
  · exact q1.elim
end
/-! ## arguments, displays -/
def mNil : MA := fun _ h => .ok [] h
def mCons (a : ME) (t : MA) : MA := fun s h => (a s h).bind fun x h1 => (t s h1).bind fun xs h2 => .ok (x :: xs) h2
def mTup (a : MA) : ME := fun s h => (a s h).bind fun xs h1 => if xs.length ≤ sizeLine then .ok (.tup xs) h1 else .bad
/-- a list, not held; held -/
def mLst (a : MA) : ME := fun s h => (a s h).bind fun xs h1 => if xs.length ≤ sizeLine then .ok (.lst xs) h1 else .bad
def mLstH (a : MA) : ME := fun s h => (a s h).bind fun xs h1 => if xs.length ≤ sizeLine then .ok (.ref h1.next) (h1.new (.lst xs)) else .bad
section
variable {X : Cx} {E : XK} {e : Expr} {es : List Expr} {ma : ME} {mt : MA} {pos : Pos}
theorem mar_nil : PA X [] (tMA X.K E mNil) := by
  refine pa_imp pa_nil fun σ H Q hq => ?_
  obtain ⟨w, s, e, k, r, q⟩ := hq
  subst e
  exact PostW.here (Rel := RepL X.K) q k Reps.nil
theorem mar_cons (ha : PE X e (tM X.K E ma)) (ht : PA X es (tMA X.K E mt)) (hs : starEach (e :: es) X.env = (false, eval e X.env) :: starEach es X.env) : PA X (e :: es) (tMA X.K E (mCons ma mt)) := by
  refine pa_imp (pa_cons ha ht hs) fun σ H Q hq => ?_
  obtain ⟨w, s, e, k, r, q⟩ := hq
  subst e
  refine tM_at k r ((PostW.bind (Rel := RepD X.K) q).imp fun x w1 v x1 k1 p1 q1 => ?_)
  refine tMA_at k1 (r.ext x1) ((PostW.bind (Rel := RepL X.K) q1).imp fun xs w2 vs x2 k2 p2 q2 => ?_)
  exact PostW.here (Rel := RepL X.K) q2 k2 (Reps.cons (p1.ext x2) p2)
theorem me_tup {x1 : Nat} (h : PA X es (tMA X.K E mt)) : PE X (.Tuple es x1 pos) (tM X.K E (mTup mt)) := by
  refine pe_imp (pe_tup h) fun σ H Q hq => ?_
  obtain ⟨w, s, e, k, r, q⟩ := hq
  subst e
  refine tMA_at k r ((PostW.bind (Rel := RepL X.K) q).imp fun xs w1 vs x1 k1 p1 q1 => ?_)
  split at q1
  · exact ⟨by rw [← p1.length]; assumption, q1.newT k1 p1⟩
  · exact q1.elim
theorem me_lst (h : PA X es (tMA X.K E mt)) : PE X (.List es pos) (tM X.K E (mLst mt)) := by
  refine pe_imp (pe_lst h) fun σ H Q hq => ?_
  obtain ⟨w, s, e, k, r, q⟩ := hq
  subst e
  refine tMA_at k r ((PostW.bind (Rel := RepL X.K) q).imp fun xs w1 vs x1 k1 p1 q1 => ?_)
  split at q1
  · exact ⟨by rw [← p1.length]; assumption, q1.newL k1 p1⟩
  · exact q1.elim
theorem me_lstH (h : PA X es (tMA X.K E mt)) : PE X (.List es pos) (tM X.K E (mLstH mt)) := by
  refine pe_imp (pe_lst h) fun σ H Q hq => ?_
  obtain ⟨w, s, e, k, r, q⟩ := hq
  subst e
  refine tMA_at k r ((PostW.bind (Rel := RepL X.K) q).imp fun xs w1 vs x1 k1 p1 q1 => ?_)
  split at q1
  · exact ⟨by rw [← p1.length]; assumption, q1.newH k1 p1⟩
  · exact q1.elim
end
/-! ## items, slices -/
def opIx : F2
  | .str x, .int i, h => if x.length ≤ sizeLine then match atI x.cps.toList i with
      | some c => .ok (.str ⟨#[c]⟩) h
      | none => .bad
    else .bad
  | d, .int i, h => match seqOf h d with
    | some xs => match atI xs i with
      | some x => .ok x h
      | none => .bad
    | none => .bad
  | _, _, _ => .bad
theorem atI_rep {K : PySem.W.Frag} {w : W3} {ds : List D} {vs : List V} {i : Int} {d : D} (r : Reps K w ds vs) (h : atI ds i = some d) : ∃ v, atI vs i = some v ∧ Rep K w d v := by
  unfold atI at h ⊢
  rw [← r.length]
  cases e : ixN ds.length i with
  | none => rw [e] at h; cases h
  | some j =>
    rw [e] at h
    obtain ⟨v, h1, h2⟩ := r.get (show ds[j]? = some d from h)
    exact ⟨v, h1, h2⟩
section
variable {X : Cx} {E : XK} {a b : Expr} {ma mb : ME} {pos : Pos}
theorem ir_ix : IxR X (rM X.K E opIx) := by
  intro value slice pins s σ H x y v u Q I rx ry h hs
  obtain ⟨w, d, e, eH, k, rd, re, q⟩ := h
  subst eH
  unfold opIx at q
  split at q
  · rw [rep_str] at rd
    rw [rep_int] at re
    split at q
    · split at q
      · rename_i hz _ c hc
        exact ix_str value slice pins s σ _ x y v u Q I rx ry ⟨_, _, c, rd, re, hz, hc, q.here k (rep_str.mpr rfl)⟩ hs
      · exact q.elim
    · exact q.elim
  · rw [rep_int] at re
    split at q
    · rename_i xs e1
      split at q
      · rename_i z hz
        obtain ⟨p, vs, ex, h2, h3⟩ := seq_at k rd e1
        obtain ⟨z', h4, h5⟩ := atI_rep h3 hz
        rcases h2 with h2 | h2
        · exact ix_list value slice pins s σ _ x y v u Q I rx ry ⟨p, vs, _, z', ex, re, h2, h4, q.here k h5⟩ hs
        · exact ix_tup value slice pins s σ _ x y v u Q I rx ry ⟨p, vs, _, z', ex, re, h2, h4, q.here k h5⟩ hs
      · exact q.elim
    · exact q.elim
  · exact q.elim
theorem me_ix (ha : PE X a (tM X.K E ma)) (hb : PE X b (tM X.K E mb)) (hs : PlainIx b) : PE X (.Subscript a b pos) (tM X.K E (mOp opIx ma mb)) :=
  pe_imp (pe_ix ir_ix ha hb hs) fun _ _ _ h => tOp_of h
/-- a slice's part -/
abbrev MO' := Sl → MH → R (Option Int)
def mNoPart : MO' := fun _ h => .ok none h
def mPart (m : ME) : MO' := fun s h => (m s h).bind fun d h1 => match d with
  | .int i => .ok (some i) h1
  | _ => .bad
abbrev EqO : Rl (Option Int) (Option Int) := fun _ a b => a = b
def tMO (K : PySem.W.Frag) (E : XK) (m : MO') : TO := fun σ H Q => ∃ w s, w.H = H ∧ Ok K w ∧ SRep K w s σ ∧ PostW K E EqO w (m s w.h) fun _ w' v => Q v w'.H
theorem po_imp {e : Option Expr} {t t' : TO} (h : PO X e t) (hi : ∀ σ H Q, t' σ H Q → t σ H Q) : PO X e t' := ⟨fun pins s σ H Q I q => h.run pins s σ H Q I (hi σ H Q q)⟩
theorem mo_none : PO X none (tMO X.K E mNoPart) := by
  refine po_imp po_none fun σ H Q hq => ?_
  obtain ⟨w, s, e, k, r, q⟩ := hq
  subst e
  exact PostW.here (Rel := EqO) q k rfl
theorem mo_some (ha : PE X a (tM X.K E ma)) : PO X (some a) (tMO X.K E (mPart ma)) := by
  refine po_imp (po_some ha) fun σ H Q hq => ?_
  obtain ⟨w, s, e, k, r, q⟩ := hq
  subst e
  refine tM_at k r ((PostW.bind (Rel := RepD X.K) q).imp fun d w1 v x1 k1 p1 q1 => ?_)
  split at q1
  · exact ⟨_, rep_int.mp p1, PostW.here (Rel := EqO) q1 k1 rfl⟩
  · exact q1.elim
def cutD {α : Type} (xs : List α) (lo hi : Option Int) : List α := (xs.drop (HT.sIx xs.length 0 lo)).take (HT.sIx xs.length xs.length hi - HT.sIx xs.length 0 lo)
theorem cut_whole {α : Type} {xs : List α} {lo hi : Option Int} (h1 : HT.sIx xs.length 0 lo = 0) (h2 : HT.sIx xs.length xs.length hi = xs.length) : cutD xs lo hi = xs := by
  unfold cutD
  rw [h1, h2, List.drop_zero, Nat.sub_zero, List.take_length]
theorem cut_rep {K : PySem.W.Frag} {w : W3} {ds : List D} {vs : List V} {lo hi : Option Int} (r : Reps K w ds vs) : Reps K w (cutD ds lo hi) (cutV vs lo hi) := by
  unfold cutD cutV
  rw [← r.length]
  exact (r.drop _).take _
theorem reps_ints {K : PySem.W.Frag} {w : W3} : ∀ ns : List Int, Reps K w (ns.map D.int) (ns.map V.int)
  | [] => Reps.nil
  | n :: ns => Reps.cons (rep_int.mpr rfl) (reps_ints ns)
def opCut : D → Option Int → Option Int → MH → R D
  | .str x, lo, hi, h => if x.length ≤ sizeLine then .ok (.str (cutS x lo hi)) h else .bad
  | .tup xs, lo, hi, h => .ok (.tup (cutD xs lo hi)) h
  | .scr ns, lo, hi, h => .ok (.lst (cutD (ns.map .int) lo hi)) h
  | d, lo, hi, h => match lstOf h d with
    | some xs => .ok (.lst (cutD xs lo hi)) h
    | none => .bad
/-- a slice of a list that the mirror heap holds -/
def opCutH : D → Option Int → Option Int → MH → R D := fun d lo hi h => match lstOf h d with
    | some xs => .ok (.ref h.next) (h.new (.lst (cutD xs lo hi)))
    | none => .bad
def mCut (f : D → Option Int → Option Int → MH → R D) (a : ME) (lo hi : MO') : ME := fun s h => (a s h).bind fun d h1 => (lo s h1).bind fun l h2 => (hi s h2).bind fun u h3 => f d l u h3
def rCut (K : PySem.W.Frag) (E : XK) (f : D → Option Int → Option Int → MH → R D) : V → Option Int → Option Int → Hp → VK → Prop := fun x lo hi H Q => ∃ w d, w.H = H ∧ Ok K w ∧ Rep K w d x ∧ PostW K E (RepD K) w (f d lo hi w.h) fun _ w' v => Q v w'.H
theorem sr_cut : SlR X (rCut X.K E opCut) := by
  intro pins s σ H x v vl vu lo hi sl Q I rx hsl pl pu h
  obtain ⟨w, d, eH, k, rd, q⟩ := h
  subst eH
  unfold opCut at q
  split at q
  · rw [rep_str] at rd
    split at q
    · exact sl_str pins s σ _ x v vl vu _ _ sl Q I rx hsl pl pu ⟨_, rd, by assumption, q.here k (rep_str.mpr rfl)⟩
    · exact q.elim
  · rename_i xs
    obtain ⟨p, vs, ex, h2, h3⟩ := tup_at rd
    refine sl_tupA pins s σ _ x v vl vu _ _ sl Q I rx hsl pl pu ⟨p, vs, ex, h2, fun z => ?_, fun z => q.newT k (cut_rep h3)⟩
    rw [cut_whole (by rw [h3.length]; exact z.1) (by rw [h3.length]; exact z.2)] at q
    subst ex
    exact q.here k rd
  · simp only [Rep] at rd
    obtain ⟨a, ex, h2⟩ := rd
    exact sl_list pins s σ _ x v vl vu _ _ sl Q I rx hsl pl pu ⟨a, _, ex, h2.sq, q.newL k (cut_rep (reps_ints _))⟩
  · split at q
    · rename_i xs e1
      obtain ⟨p, vs, ex, h2, h3⟩ := lst_at k rd e1
      exact sl_list pins s σ _ x v vl vu _ _ sl Q I rx hsl pl pu ⟨p, vs, ex, SqL.of h2, q.newL k (cut_rep h3)⟩
    · exact q.elim
theorem sr_cutH : SlR X (rCut X.K E opCutH) := by
  intro pins s σ H x v vl vu lo hi sl Q I rx hsl pl pu h
  obtain ⟨w, d, eH, k, rd, q⟩ := h
  subst eH
  unfold opCutH at q
  split at q
  · rename_i xs e1
    obtain ⟨p, vs, ex, h2, h3⟩ := lst_at k rd e1
    exact sl_list pins s σ _ x v vl vu _ _ sl Q I rx hsl pl pu ⟨p, vs, ex, SqL.of h2, q.newH k (cut_rep h3)⟩
  · exact q.elim
theorem me_cut {f : D → Option Int → Option Int → MH → R D} {lo hi : Option Expr} {ml mh : MO'} {p2 : Pos} (hr : SlR X (rCut X.K E f)) (ha : PE X a (tM X.K E ma)) (hl : PO X lo (tMO X.K E ml)) (hh : PO X hi (tMO X.K E mh)) :
    PE X (.Subscript a (.Slice lo hi none p2) pos) (tM X.K E (mCut f ma ml mh)) := by
  refine pe_imp (pe_slice hr ha hl hh) fun σ H Q hq => ?_
  obtain ⟨w, s, e, k, r, q⟩ := hq
  subst e
  refine tM_at k r ((PostW.bind (Rel := RepD X.K) q).imp fun d w1 v x1 k1 p1 q1 => ?_)
  refine ⟨w1, s, rfl, k1, r.ext x1, (PostW.bind (Rel := EqO) q1).imp fun l w2 _ x2 k2 e2 q2 => ?_⟩
  subst e2
  refine ⟨w2, s, rfl, k2, r.ext (x1.trans x2), (PostW.bind (Rel := EqO) q2).imp fun u w3 _ x3 k3 e3 q3 => ?_⟩
  subst e3
  exact ⟨w3, d, rfl, k3, p1.ext (x2.trans x3), q3⟩
end
end Tb
end

section
set_option maxHeartbeats 4000000
namespace Tb
open PySem PySem.Spec PySem.Calls PyProof.Rows L2
/-! ## the key that a lambda tells -/
inductive KX where
  | par | var (i : Nat) | int (z : Int) | neg (a : KX) | ix (a b : KX)
def KX.val (s : Sl) (d : D) : KX → Option D
  | .par => some d
  | .var i => (match s[i]? with
    | some (some x) => some x
    | _ => none)
  | .int z => some (.int z)
  | .neg a => (match a.val s d with
    | some (.int i) => some (.int (-i))
    | _ => none)
  | .ix a b => (match a.val s d, b.val s d with
    | some (.tup xs), some (.int i) => if -(2 ^ 62 : Int) ≤ i ∧ i < 2 ^ 62 then atI xs i else none
    | _, _ => none)
def keyD : D → Option PyData
  | .int i => some (.int i)
  | .str x => some (.str x)
  | _ => none
inductive KT where
  | one (a : KX) | two (a b : KX)
def KT.key (s : Sl) (d : D) : KT → Option PyData
  | .one a => (a.val s d).bind keyD
  | .two a b => match (a.val s d).bind keyD, (b.val s d).bind keyD with
    | some x, some y => some (.tuple [x, y])
    | _, _ => none
/-- what the lambda's body says -/
inductive KAg (X : Cx) (scope : Scope) (p : Str) : Expr → KX → Prop
  | par {pos : Pos} : scope.names.lookup p = some .local → (p == ("__debug__" : Str)) = false → KAg X scope p (.Name p pos) .par
  | var {i : Nat} {x : Str} {pos : Pos} : X.N[i]? = some x → scope.names.lookup x = some .free → (X.env.scope.names.lookup x = some .cell ∨ X.env.scope.names.lookup x = some .free) → (x == ("__debug__" : Str)) = false → (x == ("__classdict__" : Str)) = false → KAg X scope p (.Name x pos) (.var i)
  | int {z : Int} {j : Nat} {pos : Pos} : KAg X scope p (.Constant (.int z) j pos) (.int z)
  | neg {a : Expr} {ka : KX} {pos : Pos} : KAg X scope p a ka → KAg X scope p (.UnaryOp .USub a pos) (.neg ka)
  | ix {a b : Expr} {ka kb : KX} {pos : Pos} : KAg X scope p a ka → KAg X scope p b kb → PlainIx b → KAg X scope p (.Subscript a b pos) (.ix ka kb)
section
variable {X : Cx} {pins : List (Addr × Obj)} {σ : L2.St} {w : W3} {s0 : Shared} {sl : Sl} {scope : Scope} {p : Str} {A : Around} {h0 : Heap} {L f : Addr} {cdv : Value} {q : Str} {d : D} {v : V} {u : Value}
theorem kag_ev (I : Inv X pins σ w.H s0) (k : Ok X.K w) (r : SRep X.K w sl σ) (rv : RelV v u) (rp : Rep X.K w d v) (kp : KeepsH s0.heap h0) (hn : h0.Ns L (fun y => [(p, u)].reverse.lookup y)) (hk : scope.kind = .function) {e : Expr} {kx : KX} (h : KAg X scope p e kx) :
    ∀ {dk : D}, kx.val sl d = some dk → EvK X.prog X.w A (PySem.W.envX q scope L f cdv (cloFrom X.env.cells scope.names [])) h0 e fun _ uu => ∃ vv, RelV vv uu ∧ Rep X.K w dk vv := by
  induction h with
  | par hl hd =>
    intro dk e1
    cases e1
    refine (ek_local (x := p) (env := PySem.W.envX q scope L f cdv (cloFrom X.env.cells scope.names [])) (v := u) hk hl hn ?_ hd).mono fun h uu _ e => ⟨v, by rw [e]; exact rv, rp⟩
    simp
  | var hN hl ho hd hcd =>
    rename_i i x pos
    intro dk e1
    simp only [KX.val] at e1
    split at e1
    · rename_i y e2
      cases e1
      obtain ⟨vv, e3, r3⟩ := r.2 i _ e2
      obtain ⟨m, hn2, hloc⟩ := I.loc
      obtain ⟨w', rw', hc⟩ := hloc i x vv hN e3 (.inr ho)
      have hy : (x, NameKind.free) ∈ scope.names := PySem.mem_of_lookup hl
      obtain ⟨c2, h2⟩ := mem_lookup (cloFrom_has (cells := X.env.cells) (acc := []) hy)
      have cm : X.env.cells.lookup x = some c2 := by
        rcases cloFrom_mem (PySem.mem_of_lookup h2) with hm | ⟨h1, h3⟩
        · cases hm
        · obtain ⟨c1, hc1⟩ := I.ok.has x ho
          have hc1 : X.env.cells.lookup x = some c1 := hc1
          have e2 : c2 = c1 := by
            rw [h3, hc1] <;> rfl
          rw [e2]
          exact hc1
      have cell : s0.heap.IsCell c2 (some w') := by
        rcases hc with ⟨k', _⟩ | ⟨_, c3, e', z⟩
        · have k' : X.env.scope.names.lookup x = some .local := k'
          rcases ho with k2 | k2 <;> rw [k2] at k' <;> cases k'
        · rw [cm] at e'
          cases e'
          exact z
      exact (ek_free (x := x) (env := PySem.W.envX q scope L f cdv (cloFrom X.env.cells scope.names [])) (v := w') hk hl h2 (by obtain ⟨o, g1, g2⟩ := cell; exact ⟨o, kp _ _ g1, g2⟩) hd hcd).mono fun h uu _ e => ⟨vv, by rw [e]; exact rw', r3⟩
    · cases e1
  | int =>
    intro dk e1
    cases e1
    exact ek_int.mono fun h uu _ ⟨t, e⟩ => ⟨.int _, ⟨t, e⟩, rep_int.mpr rfl⟩
  | neg _ ih =>
    rename_i a ka pos _
    intro dk e1
    simp only [KX.val] at e1
    split at e1
    · rename_i i e2
      cases e1
      refine (ek_neg ((ih e2).mono fun h uu _ ⟨vv, r1, r2⟩ => ?_)).mono fun h uu _ ⟨t, e⟩ => ⟨.int _, ⟨t, e⟩, rep_int.mpr rfl⟩
      rw [rep_int] at r2
      subst r2
      exact r1
    · cases e1
  | ix _ _ hs iha ihb =>
    rename_i a b ka kb pos _ _
    intro dk e1
    simp only [KX.val] at e1
    split at e1
    · rename_i xs i ea eb
      split at e1
      · rename_i hz
        have key : ∀ s : Shared, KeepsH h0 s.heap → wpAny (model X.prog X.w) A (eval (.Subscript a b pos) (PySem.W.envX q scope L f cdv (cloFrom X.env.cells scope.names []))) (fun uu s' => ∃ h' tk, s' = { s with heap := h', toks := tk } ∧ KeepsH s.heap h' ∧ ∃ vv, RelV vv uu ∧ Rep X.K w dk vv) (fun _ _ => False) s := fun s ks => by
          refine Subscript_ (wpAny_mono (iha ea s ks) (fun uu s1 ⟨h1, tk1, e3, k1, vv, r1, r2⟩ => ?_) fun _ _ x => x)
          subst e3
          simp only [Rep] at r2
          obtain ⟨l, vs, rfl, t1, t2⟩ := r2
          obtain rfl : uu = Value.ref l := r1
          obtain ⟨its, rvs, pl, hsz⟩ := I.tuple t1.sq
          obtain ⟨z, az, rz⟩ := atI_rep t2 e1
          obtain ⟨j, g1, g2, g3, g4, g5⟩ := atI_get az
          obtain ⟨wv, ew, rw'⟩ := rvs.get g2
          have hl := rvs.length
          refine wpAny_mono (ihb eb _ (ks.trans k1)) (fun ub s2 ⟨h2, tk2, e4, k2, vb, r3, r4⟩ => ?_) fun _ _ x => x
          subst e4
          rw [rep_int] at r4
          subst r4
          obtain ⟨t, rfl⟩ := r3
          have kall : KeepsH s0.heap h2 := ((kp.trans ks).trans k1).trans k2
          exact subscriptTail_builtinR (x := wv) (pl.keeps kall).typeIs slot_tuple_getitem.lookup
            (getItem_tuple (j := j) (Q := fun r s' => r = wv ∧ ∃ h' tk, s' = { s with heap := h', toks := tk } ∧ KeepsH s.heap h' ∧ ∃ vv, RelV vv r ∧ Rep X.K w dk vv) (pl.keeps kall) (by omega) (by omega) (by rw [List.size_toArray, ← hl]; exact g1) (by simpa using ew) ⟨rfl, h2, tk2, rfl, k1.trans k2, z, rw', rz⟩) (hs _ _)
        exact key
      · cases e1
    · cases e1
theorem key_reads {h : Heap} {uu : Value} {vv : V} {dk : D} {x : PyData} (r1 : RelV vv uu) (r2 : Rep X.K w dk vv) (e : keyD dk = some x) : Reads h uu x [] := by
  cases dk with
  | int i =>
    cases e
    rw [rep_int] at r2
    subst r2
    obtain ⟨t, rfl⟩ := r1
    exact .int i t
  | str y =>
    cases e
    rw [rep_str] at r2
    subst r2
    obtain ⟨t, rfl⟩ := r1
    exact .str y t
  | _ => cases e
end
end Tb
end

section
set_option maxHeartbeats 4000000
namespace Tb
open PySem PySem.Spec PySem.Calls PyProof.Rows L2
/-! ## sorted(range(n), key=lambda x: ..) -/
def ksOf (key : D → Option PyData) : List D → Option (List (D × PyData))
  | [] => some []
  | x :: xs => match key x, ksOf key xs with
    | some k, some r => some ((x, k) :: r)
    | _, _ => none
def isIntP : PyData → Bool
  | .int _ => true
  | _ => false
def isStrP : PyData → Bool
  | .str _ => true
  | _ => false
def isPairP : PyData → Bool
  | .tuple [a, b] => isIntP a && isIntP b
  | _ => false
def okKeys (ps : List (D × PyData)) : Bool := ps.all (fun p => isIntP p.2) || (ps.all (fun p => isStrP p.2) || ps.all (fun p => isPairP p.2))
def sortP (ps : List (D × PyData)) : List D := (ps.mergeSort (PySem.W.dataLe false (·.2))).map (·.1)
def rngD (n : Nat) : List D := (List.range n).map fun i => .int (i : Nat)
def mSortR (kt : KT) (m : ME) : ME := fun s h => (m s h).bind fun d h1 => match d with
  | .int n => if 0 ≤ n ∧ n ≤ 100000 then (match ksOf (kt.key s) (rngD n.toNat) with
    | some ps => if okKeys ps = true then .ok (.lst (sortP ps)) h1 else .bad
    | none => .bad) else .bad
  | _ => .bad
theorem ksOf_fst {key : D → Option PyData} : ∀ {xs : List D} {ps : List (D × PyData)}, ksOf key xs = some ps → ps.map (·.1) = xs ∧ ∀ p ∈ ps, key p.1 = some p.2
  | [], ps, h => by cases h; exact ⟨rfl, fun _ h => (nomatch h)⟩
  | x :: xs, ps, h => by
    simp only [ksOf] at h
    split at h
    · rename_i k r e1 e2
      cases h
      obtain ⟨h1, h2⟩ := ksOf_fst e2
      exact ⟨by rw [List.map_cons, h1], fun p hp => by
        rcases List.mem_cons.mp hp with rfl | hp
        · exact e1
        · exact h2 p hp⟩
    · cases h
theorem okKeys_alike {ps : List (D × PyData)} (h : okKeys ps = true) : PySem.W.AllAlike (ps.map (·.2)) ∧ PySem.W.Sortable (ps.map (·.2)) ∧ ∀ p ∈ ps, p.2.depth ≤ 1 := by
  unfold okKeys at h
  simp only [Bool.or_eq_true, List.all_eq_true] at h
  have mem : ∀ {d}, d ∈ ps.map (·.2) → ∃ p ∈ ps, p.2 = d := fun hd => List.mem_map.mp hd
  have ii : ∀ {d}, isIntP d = true → ∃ i, d = .int i := fun {d} h => by
    cases d <;> first | exact ⟨_, rfl⟩ | cases h
  rcases h with h | h | h
  · have f : ∀ p ∈ ps, ∃ i, p.2 = .int i := fun p hp => ii (h p hp)
    refine ⟨fun d hd d' hd' => ?_, .inr fun d hd => ?_, fun p hp => ?_⟩
    · obtain ⟨p, hp, rfl⟩ := mem hd
      obtain ⟨p', hp', rfl⟩ := mem hd'
      obtain ⟨i, e⟩ := f p hp
      obtain ⟨j, e'⟩ := f p' hp'
      rw [e, e']
      rfl
    · obtain ⟨p, hp, rfl⟩ := mem hd
      obtain ⟨i, e⟩ := f p hp
      rw [e]
      exact ⟨by simp, by simp⟩
    · obtain ⟨i, e⟩ := f p hp
      rw [e]
      simp [PyData.depth]
  · have f : ∀ p ∈ ps, ∃ x, p.2 = .str x := fun p hp => by
      have := h p hp
      cases e : p.2 <;> rw [e] at this <;> first | exact ⟨_, rfl⟩ | cases this
    refine ⟨fun d hd d' hd' => ?_, .inr fun d hd => ?_, fun p hp => ?_⟩
    · obtain ⟨p, hp, rfl⟩ := mem hd
      obtain ⟨p', hp', rfl⟩ := mem hd'
      obtain ⟨i, e⟩ := f p hp
      obtain ⟨j, e'⟩ := f p' hp'
      rw [e, e']
      rfl
    · obtain ⟨p, hp, rfl⟩ := mem hd
      obtain ⟨i, e⟩ := f p hp
      rw [e]
      exact ⟨by simp, by simp⟩
    · obtain ⟨i, e⟩ := f p hp
      rw [e]
      simp [PyData.depth]
  · have f : ∀ p ∈ ps, ∃ i j, p.2 = .tuple [.int i, .int j] := fun p hp => by
      have := h p hp
      unfold isPairP at this
      split at this
      · rename_i a b e
        rw [Bool.and_eq_true] at this
        obtain ⟨i, rfl⟩ := ii this.1
        obtain ⟨j, rfl⟩ := ii this.2
        exact ⟨i, j, e⟩
      · cases this
    refine ⟨fun d hd d' hd' => ?_, .inl fun d hd => ?_, fun p hp => ?_⟩
    · obtain ⟨p, hp, rfl⟩ := mem hd
      obtain ⟨p', hp', rfl⟩ := mem hd'
      obtain ⟨i, j, e⟩ := f p hp
      obtain ⟨i', j', e'⟩ := f p' hp'
      rw [e, e']
      simp [PySem.W.alike, PySem.W.alikeAll]
    · obtain ⟨p, hp, rfl⟩ := mem hd
      obtain ⟨i, j, e⟩ := f p hp
      exact ⟨_, _, e⟩
    · obtain ⟨i, j, e⟩ := f p hp
      rw [e]
      simp [PyData.depth, PyData.depthAll]
end Tb
end

section
set_option maxHeartbeats 4000000
namespace Tb
open PySem PySem.Spec PySem.Calls PyProof.Rows L2
inductive KTAg (X : Cx) (scope : Scope) (p : Str) : Expr → KT → Prop
  | one {e : Expr} {a : KX} : KAg X scope p e a → KTAg X scope p e (.one a)
  | two {ea eb : Expr} {a b : KX} {j : Nat} {pos : Pos} : KAg X scope p ea a → KAg X scope p eb b → (∀ env, starEach [ea, eb] env = [(false, eval ea env), (false, eval eb env)]) → KTAg X scope p (.Tuple [ea, eb] j pos) (.two a b)
/-- one name, captured ones, globals -/
structure LamP (sc scope : Scope) (p : Str) : Prop where
  kind : scope.kind = .function
  co : scope.isCoroutine = false
  gen : scope.isGenerator = false
  nc : ∀ y ∈ scope.names, y.2 ≠ .cell
  par : scope.names.lookup p = some .local
  free : ∀ y ∈ scope.names, y.2 = .free → sc.names.lookup y.1 = some .cell ∨ sc.names.lookup y.1 = some .free
theorem obj_some {P : Program} {w : World} {H : Hp} {h : Heap} {a : Addr} {o : HO} (x : ObjOk P w H h a o) : ∃ u, h.get? a = some u := by
  cases o with
  | lst xs => obtain ⟨_, _, _, _, e⟩ := x; exact ⟨_, e⟩
  | tup xs => obtain ⟨_, _, _, o, e, _⟩ := x; exact ⟨_, e⟩
  | dK kvs => obtain ⟨_, _, _, _, o, _, _, e, _⟩ := x; exact ⟨_, e⟩
  | dT kvs => obtain ⟨_, _, _, _, o, _, _, e, _⟩ := x; exact ⟨_, e⟩
  | set S n => obtain ⟨o, _, _, _, e, _⟩ := x; exact ⟨_, e⟩
  | ins C dx fs => obtain ⟨_, _, _, e, _⟩ := x; exact ⟨_, e⟩
  | own y => obtain ⟨_, e⟩ := x; exact ⟨_, e⟩
  | xd fs => obtain ⟨_, ⟨_, _, _, e, _⟩, _⟩ := x; exact ⟨_, e⟩
  | rng lo hi => obtain ⟨_, _, _, e⟩ := x; exact ⟨_, e⟩
  | frz ob u => obtain ⟨e, _⟩ := x; exact ⟨_, e⟩
  | tbl ps => exact ⟨_, (show h.get? a = some _ from x)⟩
  | met f y => exact ⟨_, (show h.get? a = some _ from x)⟩
  | ext φ => obtain ⟨_, ⟨_, e⟩, _⟩ := x; exact ⟨_, e⟩
theorem reps_rng {K : PySem.W.Frag} {w : W3} : ∀ {l : List Nat}, Reps K w (l.map fun i => D.int (i : Nat)) (l.map fun i => V.int ((0 : Int) + (i : Nat)))
  | [] => Reps.nil
  | i :: l => Reps.cons (rep_int.mpr (by show V.int ((0 : Int) + (i : Nat)) = _; rw [Int.zero_add])) reps_rng
theorem each_of {K : PySem.W.Frag} {w : W3} : ∀ {us : List Value} {vs : List V} {ps : List (D × PyData)}, Vals vs us → Reps K w (ps.map (·.1)) vs → PySem.W.EachIs (fun u (b : D × PyData) => ∃ vv, RelV vv u ∧ Rep K w b.1 vv) us ps
  | us, vs, [], r, h => by
    have e : vs = [] := by simpa only [List.map_nil, Reps] using h
    subst e
    cases r
    exact .nil
  | us, vs, p :: ps, r, h => by
    simp only [List.map_cons, Reps] at h
    obtain ⟨u, us', rfl, h1, h2⟩ := h
    cases r with
    | cons r1 r2 => exact .cons ⟨u, r1, h1⟩ (each_of r2 h2)
theorem of_each {K : PySem.W.Frag} {w : W3} : ∀ {us : List Value} {ps : List (D × PyData)}, PySem.W.EachIs (fun u (b : D × PyData) => ∃ vv, RelV vv u ∧ Rep K w b.1 vv) us ps → ∃ vs, Vals vs us ∧ Reps K w (ps.map (·.1)) vs
  | _, _, .nil => ⟨[], .nil, Reps.nil⟩
  | _, _, .cons ⟨v, h1, h2⟩ r => by
    obtain ⟨vs, g1, g2⟩ := of_each r
    exact ⟨v :: vs, .cons h1 g1, Reps.cons h2 g2⟩
section
variable {X : Cx} {E : XK} {m : ME}
theorem me_sortR {a : Expr} {c P : Addr} {q p : Str} {params : Arguments} {body : Expr} {scope : Scope} {lpos kpos p1 p2 p3 pos : Pos} {kt : KT} (hcalm : X.calm = true) (hroom : Room 0 X.A) (hg : Gl X "sorted") (hm : X.mg "sorted" = none) (hgr : Gl X "range") (hmr : X.mg "range" = none)
    (ha : PE X a (tM X.K E m)) (na : starEach [a] X.env = (false, eval a X.env) :: starEach [] X.env) (t : TabK X.K P q) (hq : X.env.qual ++ "<lambda>" = q) (TB : LamX.TabB X.base X.mg c P) (hcode : X.env.code = .ref c) (hdef : defaultsOf params X.env = ([], [])) (LP : LamP X.env.scope scope p)
    (hb : ∀ (cl : List (Str × Addr)) (pm cdv ctv v : Value), bindArgs (PySem.W.kla_fn "<lambda>" q params body scope cl pm cdv ctv) ⟨[v], []⟩ = pure [(p, v)]) (hkt : KTAg X scope p body kt) :
    PE X (.Call (.Name "sorted" p1) [.Call (.Name "range" p2) [a] [] p3] [⟨some "key", .Lambda params body scope lpos, kpos⟩] pos) (tM X.K E (mSortR kt m)) := by
  refine ⟨fun pins s σ H Q I h => ?_⟩
  obtain ⟨w, sl, rfl, k, r, q0⟩ := h
  refine wpAny_Call_Name_kw (ld_blt I hg hm (by rfl) ?_)
  refine PyProof.Rows.callWith_kw (e := .Call (.Name "range" p2) [a] [] p3) (rest := []) ?_ (by rfl) (by rfl) (by rfl) (by rfl)
  have st : tRg1 (tM X.K E m) σ w.H fun i0 j0 H1 => ∃ (w1 : W3) (n : Int) (ps : List (D × PyData)), H1 = w1.H ∧ i0 = 0 ∧ j0 = n ∧ Ok X.K w1 ∧ Ext w w1 ∧ 0 ≤ n ∧ n ≤ 100000 ∧ ksOf (kt.key sl) (rngD n.toNat) = some ps ∧ okKeys ps = true ∧ PostW X.K E (RepD X.K) w1 (.ok (.lst (sortP ps)) w1.h) fun _ w' v => Q v w'.H := by
    refine tM_at k r ((PostW.bind (Rel := RepD X.K) q0).imp fun d w1 v x1 k1 g1 g2 => ?_)
    split at g2
    · rename_i n
      split at g2
      · rename_i hz
        split at g2
        · rename_i ps e1
          split at g2
          · rename_i e2
            exact ⟨n, rep_int.mp g1, w1, n, ps, rfl, rfl, rfl, k1, x1, hz.1, hz.2, e1, e2, g2⟩
          · exact g2.elim
        · exact g2.elim
      · exact g2.elim
    · exact g2.elim
  refine Calls.spliced_cons (thn (prg_1 hgr hmr ha na pins s σ w.H _ I st) fun x s1 ⟨rr, i0, j0, ta, tb, tc, H1, ex, hr, I1, w1, n, ps, eH, ei, ej, k1, x1, hn0, hn1, e1, e2, g2⟩ => ?_)
  subst ex eH ei ej
  refine Calls.spliced_nil ?_
  obtain ⟨tps, hPt, nP, _, _⟩ := k1.tab P q t
  have hPs : s1.heap.get? P = some { cls := .none, data := .fields tps } := I1.hok P _ hPt
  have hne : rr ≠ P := fun z => by
    obtain ⟨o, ho⟩ : ∃ o, s1.heap.get? rr = some o ∧ o.cls = .type "range" := ⟨_, hr, rfl⟩
    rw [z, hPs] at ho
    obtain ⟨e, e'⟩ := ho
    cases e
    cases e'
  show wpAny _ _ (evalAll [(do let v ← eval (.Lambda params body scope lpos) X.env; standAt pos; pure v)]) _ _ s1
  have hfree : ∀ y ∈ scope.names, y.2 = .free → ∃ c, X.env.cells.lookup y.1 = some c := fun y hy e => I.ok.has _ (LP.free y hy e)
  refine wpAny_evalAll_cons (wpAny_bind (lam_w I1 k1 t hq TB hcode hdef hfree fun f c' pm ctv w2 s2 I2 k2 x2 hh hf hfn hfr hco kk => wpAny_bind (wpAny_standAt (wpAny_pure ?_))))
  refine wpAny_evalAll_nil ?_
  show wpAny (model X.prog X.w) X.A (call (.builtin "sorted") [.ref rr] [(Str.ofString "key", .ref f)]) _ _ s2
  obtain ⟨f1, f2⟩ := ksOf_fst e1
  obtain ⟨al1, al2, al3⟩ := okKeys_alike e2
  have hlen : ps.length = j0.toNat := by
    have := congrArg List.length f1
    simpa [rngD] using this
  have hr2 : IsRange s2.heap rr 0 j0 1 ta tb tc := kk rr _ hne hr
  have hz := sizeLine_eq
  have r2 : SRep X.K w2 sl σ := (r.ext x1).ext x2
  obtain ⟨⟨oc, vsc, tq, hoc, hdc, hvc⟩, _, _⟩ := I2.hok c' _ hco
  refine sorted_key_col (R := fun v (b : D × PyData) => ∃ vv, RelV vv v ∧ Rep X.K w2 b.1 vv) (bs := ps) (b := false) (f := .ref f) (·.2) (fun E' Q' hQ' => ?_) al1 al2 (by omega) (fun x hx => ?_) (ksk_s1 _ _) (fun _ => ksk_l1 _ _) (fun _ => ksk_t1 _ _) (fun v x hv hx h tk kp => ?_) fun out l cc h' tk kp hfresh hD each => ?_
  · refine collect_range (n := j0.toNat) (I2.ok.hd hcalm) hr2 (small_one (by omega) (by omega) (by omega) (by omega)) (by have := rangeSize_nat 0 j0; simpa using this) (by omega) fun h' tk acc kp it => hQ' h' tk acc.toList kp ?_
    have hv : Vals (rgV 0 j0) acc.toList := vals_rg (a := 0) (b := j0) (by simpa using it)
    refine each_of hv ?_
    rw [f1]
    have := reps_rng (K := X.K) (w := w2) (l := List.range j0.toNat)
    unfold rgV rngD
    simpa using this
  · have h1 := al3 x hx
    have h2 := hroom.un
    omega
  · obtain ⟨vv, rv, rp⟩ := hv
    have hkey := f2 x hx
    refine lam_key (s := { s2 with heap := h, toks := tk }) (p := p) (kp f _ hf) (hb _ _ _ _ _) LP.kind LP.co LP.gen LP.nc LP.par ⟨c', oc, vsc, tq, rfl, kp _ _ hoc, hdc, hvc⟩ (by have := hroom.dp; show X.A.depth < _; omega) (I2.nolimit.keeps kp) fun h1 L kp1 hns => ?_
    have kp2 : KeepsH s2.heap h1 := KeepsH.trans kp kp1
    cases hkt with
    | @one _ ka hag =>
      cases ev : ka.val sl x.1 with
      | none =>
        simp only [KT.key, ev, Option.bind_none] at hkey
        cases hkey
      | some dk =>
        simp only [KT.key, ev, Option.bind_some] at hkey
        exact (kag_ev I2 k2 r2 rv rp kp2 hns LP.kind hag ev).mono fun h uu _ ⟨vv, g1, g2⟩ => key_reads g1 g2 hkey
    | @two ea eb ka kb j tpos haa hab hst =>
      cases eva : (ka.val sl x.1).bind keyD with
      | none =>
        simp only [KT.key, eva] at hkey
        cases hkey
      | some xa =>
        cases evb : (kb.val sl x.1).bind keyD with
        | none =>
          simp only [KT.key, eva, evb] at hkey
          cases hkey
        | some xb =>
          simp only [KT.key, eva, evb] at hkey
          obtain ⟨da, d1, d2⟩ := Option.bind_eq_some_iff.mp eva
          obtain ⟨db, d3, d4⟩ := Option.bind_eq_some_iff.mp evb
          rw [← Option.some.inj hkey]
          exact ek_pair ((kag_ev I2 k2 r2 rv rp kp2 hns LP.kind haa d1).mono fun h uu _ ⟨vv, g1, g2⟩ => key_reads g1 g2 d2) ((kag_ev I2 k2 r2 rv rp kp2 hns LP.kind hab d3).mono fun h uu _ ⟨vv, g1, g2⟩ => key_reads g1 g2 d4) (hst _)
  · obtain ⟨vs, hv1, hv2⟩ := of_each each
    have hl : w2.H l = none := by
      cases e : w2.H l with
      | none => rfl
      | some u =>
        obtain ⟨o, ho⟩ := obj_some (I2.hok l u e)
        rw [hfresh] at ho
        cases ho
    have hvl : vs.length ≤ sizeLine := by
      have h1 := hv1.length
      have h2 := each.length
      rw [List.length_mergeSort] at h2
      omega
    refine ⟨.ref l, (w2.lay l (.lst vs)).H, I2.laidN kp hfresh hl ⟨hvl, out, cc, hv1, hD⟩, rfl, ?_⟩
    exact g2 (w2.lay l (.lst vs)) (.ref l) hh (x2.trans (Ext.lay k2 hl)) (k2.lay hl) (Rep.layLst k2 hl hv2)
end
end Tb
end

section
set_option maxHeartbeats 4000000
namespace Tb
open PySem PySem.Spec L2
/-! ## statements: what comes of them -/
inductive RS where
  | nx (s : Sl) (h : MH)
  | brk (s : Sl) (h : MH)
  | ct (s : Sl) (h : MH)
  | ret (d : D) (h : MH)
  | exc (e : Ex) (h : MH)
  | bad
abbrev MS := Sl → MH → RS
abbrev PN := Sl → W3 → L2.St → Prop
structure EndsM where
  nx : PN
  bk : PN
  ct : PN
  rt : D → W3 → V → Prop
def PostS (K : PySem.W.Frag) (E : XK) (w : W3) (r : RS) (M : EndsM) : Prop := match r with
  | .nx s h => ∀ w' σ, w'.h = h → Ext w w' → Ok K w' → SRep K w' s σ → M.nx s w' σ
  | .brk s h => ∀ w' σ, w'.h = h → Ext w w' → Ok K w' → SRep K w' s σ → M.bk s w' σ
  | .ct s h => ∀ w' σ, w'.h = h → Ext w w' → Ok K w' → SRep K w' s σ → M.ct s w' σ
  | .ret d h => ∀ w' v, w'.h = h → Ext w w' → Ok K w' → Rep K w' d v → M.rt d w' v
  | .exc x h => ∀ w' cls d, w'.h = h → Ext w w' → Ok K w' → ExR K w' x cls d → E cls d w'.H
  | .bad => False
def endsM (D : Ends) : EndsM := ⟨fun _ w σ => D.nx σ w.H, fun _ w σ => D.bk σ w.H, fun _ w σ => D.ct σ w.H, fun _ w v => D.rt v w.H⟩
def RS.seq (r : RS) (f : Sl → MH → RS) : RS := match r with
  | .nx s h => f s h
  | r => r
def R.toS {α : Type} (r : R α) (f : α → MH → RS) : RS := match r with
  | .ok a h => f a h
  | .exc e h => .exc e h
  | .bad => .bad
section
variable {K : PySem.W.Frag} {E : XK} {w w1 : W3}
theorem PostS.from {r : RS} {M : EndsM} (h : PostS K E w r M) (e : Ext w w1) : PostS K E w1 r M := by
  cases r with
  | nx s h' => exact fun w' σ a b c d => h w' σ a (e.trans b) c d
  | brk s h' => exact fun w' σ a b c d => h w' σ a (e.trans b) c d
  | ct s h' => exact fun w' σ a b c d => h w' σ a (e.trans b) c d
  | ret s h' => exact fun w' σ a b c d => h w' σ a (e.trans b) c d
  | exc x h' => exact fun w' c d e' q o p => h w' c d e' (e.trans q) o p
  | bad => exact h
theorem PostS.seq {r : RS} {f : Sl → MH → RS} {M : EndsM} (h : PostS K E w (r.seq f) M) : PostS K E w r { M with nx := fun s w1 _ => PostS K E w1 (f s w1.h) M } := by
  cases r with
  | nx s h' =>
    intro w' σ e x k r
    subst e
    exact PostS.from h x
  | brk s h' => exact h
  | ct s h' => exact h
  | ret s h' => exact h
  | exc x h' => exact h
  | bad => exact h
theorem PostS.imp {r : RS} {M M' : EndsM} (h : PostS K E w r M) (hn : ∀ s w' σ, Ext w w' → Ok K w' → SRep K w' s σ → M.nx s w' σ → M'.nx s w' σ) (hb : ∀ s w' σ, Ext w w' → Ok K w' → SRep K w' s σ → M.bk s w' σ → M'.bk s w' σ)
    (hc : ∀ s w' σ, Ext w w' → Ok K w' → SRep K w' s σ → M.ct s w' σ → M'.ct s w' σ) (hr : ∀ d w' v, Ext w w' → Ok K w' → Rep K w' d v → M.rt d w' v → M'.rt d w' v) : PostS K E w r M' := by
  cases r with
  | nx s h' => exact fun w' σ a b c d => hn _ _ _ b c d (h w' σ a b c d)
  | brk s h' => exact fun w' σ a b c d => hb _ _ _ b c d (h w' σ a b c d)
  | ct s h' => exact fun w' σ a b c d => hc _ _ _ b c d (h w' σ a b c d)
  | ret s h' => exact fun w' σ a b c d => hr _ _ _ b c d (h w' σ a b c d)
  | exc x h' => exact h
  | bad => exact h
theorem PostW.toS {α β : Type} {Rel : Rl α β} {r : R α} {f : α → MH → RS} {M : EndsM} (h : PostS K E w (r.toS f) M) : PostW K E Rel w r (fun a w1 _ => PostS K E w1 (f a w1.h) M) := by
  cases r with
  | ok a h' =>
    intro w' v e x o p
    subst e
    exact PostS.from h x
  | exc x h' => exact h
  | bad => exact h
theorem PostS.hereN {s : Sl} {σ : L2.St} {M : EndsM} (h : PostS K E w (.nx s w.h) M) (k : Ok K w) (r : SRep K w s σ) : M.nx s w σ := h w σ rfl (Ext.refl w) k r
end
def tMS (K : PySem.W.Frag) (E : XK) (m : MS) : TS := fun D σ H => ∃ w s, w.H = H ∧ Ok K w ∧ SRep K w s σ ∧ PostS K E w (m s w.h) (endsM D)
theorem tMS_at {K : PySem.W.Frag} {E : XK} {m : MS} {w : W3} {s : Sl} {σ : L2.St} {D : Ends} (k : Ok K w) (r : SRep K w s σ) (h : PostS K E w (m s w.h) (endsM D)) : tMS K E m D σ w.H := ⟨w, s, rfl, k, r, h⟩
def mSkip : MS := fun s h => .nx s h
def mSeq (a b : MS) : MS := fun s h => (a s h).seq b
def mBreak : MS := fun s h => .brk s h
def mCont : MS := fun s h => .ct s h
def mRet (m : ME) : MS := fun s h => (m s h).toS fun d h1 => .ret d h1
def mRetN : MS := fun _ h => .ret .non h
def mIfS (c : MT) (a b : MS) : MS := fun s h => (c s h).toS fun k h1 => if k = true then a s h1 else b s h1
def mDo (m : ME) : MS := fun s h => (m s h).toS fun _ h1 => .nx s h1
section
variable {X : Cx} {E : XK} {st : Stmt} {rest : List Stmt} {ma mb : MS} {e : Expr} {m : ME} {pos : Pos}
theorem mss_nil : PSs X [] (tMS X.K E mSkip) := by
  refine pss_imp pss_nil fun D σ H hq => ?_
  obtain ⟨w, s, e, k, r, q⟩ := hq
  subst e
  exact PostS.hereN q k r
theorem mss_cons (h1 : PS X st (tMS X.K E ma)) (h2 : PSs X rest (tMS X.K E mb)) : PSs X (st :: rest) (tMS X.K E (mSeq ma mb)) := by
  refine pss_imp (pss_cons h1 h2) fun D σ H hq => ?_
  obtain ⟨w, s, e, k, r, q⟩ := hq
  subst e
  exact tMS_at k r ((PostS.seq q).imp (fun s' w' σ' x' k' r' z => tMS_at k' r' z) (fun _ _ _ _ _ _ z => z) (fun _ _ _ _ _ _ z => z) fun _ _ _ _ _ _ z => z)
theorem mss_one (h1 : PS X st (tMS X.K E ma)) : PSs X [st] (tMS X.K E ma) := pss_one h1
theorem ms_pass : PS X (.Pass pos) (tMS X.K E mSkip) := by
  refine ps_imp ps_pass fun D σ H hq => ?_
  obtain ⟨w, s, e, k, r, q⟩ := hq
  subst e
  exact PostS.hereN q k r
theorem ms_break : PS X (.Break pos) (tMS X.K E mBreak) := by
  refine ps_imp ps_break fun D σ H hq => ?_
  obtain ⟨w, s, e, k, r, q⟩ := hq
  subst e
  exact q w σ rfl (Ext.refl w) k r
theorem ms_cont : PS X (.Continue pos) (tMS X.K E mCont) := by
  refine ps_imp ps_continue fun D σ H hq => ?_
  obtain ⟨w, s, e, k, r, q⟩ := hq
  subst e
  exact q w σ rfl (Ext.refl w) k r
theorem ms_ret (h : PE X e (tM X.K E m)) : PS X (.Return (some e) pos) (tMS X.K E (mRet m)) := by
  refine ps_imp (ps_ret h) fun D σ H hq => ?_
  obtain ⟨w, s, e, k, r, q⟩ := hq
  subst e
  refine tM_at k r ((PostW.toS (Rel := RepD X.K) q).imp fun d w1 v x1 k1 p1 q1 => ?_)
  exact q1 w1 v rfl (Ext.refl w1) k1 p1
theorem ms_retN : PS X (.Return none pos) (tMS X.K E mRetN) := by
  refine ps_imp ps_retN fun D σ H hq => ?_
  obtain ⟨w, s, e, k, r, q⟩ := hq
  subst e
  exact q w .non rfl (Ext.refl w) k (rep_non.mpr rfl)
theorem ms_if {c : Expr} {a b : List Stmt} {mc : MT} (hc : PT X c (tMT X.K E mc)) (ha : PSs X a (tMS X.K E ma)) (hb : PSs X b (tMS X.K E mb)) : PS X (.If c a b pos) (tMS X.K E (mIfS mc ma mb)) := by
  refine ps_imp (ps_if hc ha hb) fun D σ H hq => ?_
  obtain ⟨w, s, e, k, r, q⟩ := hq
  subst e
  refine tMT_at k r ((PostW.toS (Rel := EqB) q).imp fun c w1 v x1 k1 p1 q1 => ?_)
  subst p1
  cases c with
  | true =>
    rw [if_pos rfl] at q1 ⊢
    exact tMS_at k1 (r.ext x1) q1
  | false =>
    rw [if_neg Bool.false_ne_true] at q1 ⊢
    exact tMS_at k1 (r.ext x1) q1
theorem ms_do (h : PE X e (tM X.K E m)) (hs : swapsWith e none pos.line X.env = pure false) : PS X (.Expr e pos) (tMS X.K E (mDo m)) := by
  refine ps_imp (ps_expr h hs) fun D σ H hq => ?_
  obtain ⟨w, s, e, k, r, q⟩ := hq
  subst e
  exact tM_at k r ((PostW.toS (Rel := RepD X.K) q).imp fun d w1 v x1 k1 p1 q1 => PostS.hereN q1 k1 (r.ext x1))
end
/-! ## targets: names and tuples of them -/
abbrev MG := D → Sl → Option Sl
abbrev MGs := List D → Sl → Option Sl
def mgName (i : Nat) : MG := fun d s => some (s.set i (some d))
def mgNil : MGs := fun ds s => match ds with
  | [] => some s
  | _ => none
def mgCons (g : MG) (gs : MGs) : MGs := fun ds s => match ds with
  | d :: r => (g d s).bind (gs r)
  | [] => none
def mgTup (n : Nat) (gs : MGs) : MG := fun d s => match d with
  | .tup xs => if xs.length = n then gs xs s else none
  | .lst xs => if xs.length = n then gs xs s else none
  | _ => none
/-- a tuple, a list goes to names -/
def gSeq (K : PySem.W.Frag) (n : Nat) (t : TGs) : TG := fun v σ H Q => gTup K n t v σ H Q ∨ gLst K n t v σ H Q
theorem pg_seq {X : Cx} {pos : Pos} {es : List Expr} {k : Nat} {t : TGs} {n : Nat} (hc : X.calm = true) (h : PGs X es t) (hn : (assignEach es X.env).length = n) (hst : (assignEach es X.env).findIdx? (·.1) = none) : PG X (.Tuple es k pos) (gSeq X.K n t) :=
  ⟨fun pins s σ H v u Q I r hw => hw.elim (fun z => (pg_tup hc h hn hst).run pins s σ H v u Q I r z) fun z => (pg_lst hc h hn hst).run pins s σ H v u Q I r z⟩
/-- vs: the slots that are stored -/
def GOk (K : PySem.W.Frag) (vs : List Nat) (g : TG) (m : MG) : Prop := ∀ (v : V) (σ : L2.St) (w : W3) (d : D) (s s' : Sl) (Q : L2.St → Hp → Prop), Ok K w → SRep K w s σ → Rep K w d v → m d s = some s' →
  (∀ σ', SRep K w s' σ' → wipe σ' vs = wipe σ vs → Q σ' w.H) → g v σ w.H Q
def GsOk (K : PySem.W.Frag) (vs : List Nat) (g : TGs) (m : MGs) : Prop := ∀ (us : List V) (σ : L2.St) (w : W3) (ds : List D) (s s' : Sl) (Q : L2.St → Hp → Prop), Ok K w → SRep K w s σ → Reps K w ds us → m ds s = some s' →
  (∀ σ', SRep K w s' σ' → wipe σ' vs = wipe σ vs → Q σ' w.H) → g us σ w.H Q
theorem wipe_set {x : Option V} : ∀ {vs : List Nat} {σ : L2.St} {i : Nat}, i ∈ vs → wipe (σ.set i x) vs = wipe σ vs
  | [], _, _, h => absurd h (by simp)
  | v :: vs, σ, i, h => by
    by_cases hv : i ∈ vs
    · unfold wipe
      rw [wipe_set hv]
    · have e : i = v := by simpa [hv] using h
      subst e
      have aux : ∀ (us : List Nat) (τ : L2.St), i ∉ us → wipe (τ.set i x) us = (wipe τ us).set i x := by
        intro us
        induction us with
        | nil => intro τ _; rfl
        | cons u us ih =>
          intro τ hu
          unfold wipe
          rw [ih τ (fun z => hu (List.mem_cons_of_mem _ z)), List.set_comm _ _ (fun z => hu (by rw [z]; exact List.mem_cons_self))]
      unfold wipe
      rw [aux vs σ hv, List.set_set]
theorem go_name {K : PySem.W.Frag} {vs : List Nat} {i : Nat} (hi : i ∈ vs) : GOk K vs (gName i) (mgName i) := by
  intro v σ w d s s' Q k r p e h
  unfold mgName at e
  cases e
  exact h _ (r.set i p) (wipe_set hi)
theorem gos_nil {K : PySem.W.Frag} {vs : List Nat} : GsOk K vs gNil mgNil := by
  intro us σ w ds s s' Q k r p e h
  unfold mgNil at e
  split at e
  · cases e
    exact ⟨p.unnil, h σ r rfl⟩
  · cases e
theorem gos_cons {K : PySem.W.Frag} {vs : List Nat} {g : TG} {m : MG} {gs : TGs} {ms : MGs} (h1 : GOk K vs g m) (h2 : GsOk K vs gs ms) : GsOk K vs (gCons g gs) (mgCons m ms) := by
  intro us σ w ds s s' Q k r p e h
  unfold mgCons at e
  split at e
  · rename_i d ds'
    obtain ⟨u, us', rfl, p1, p2⟩ := p.uncons
    cases e1 : m d s with
    | none => rw [e1] at e; cases e
    | some s1 =>
      rw [e1] at e
      refine ⟨u, us', rfl, h1 u σ w d s s1 _ k r p1 e1 fun σ1 r1 z1 => ?_⟩
      exact h2 us' σ1 w ds' s1 s' _ k r1 p2 e fun σ2 r2 z2 => h σ2 r2 (z2.trans z1)
  · cases e
theorem go_tup {K : PySem.W.Frag} {vs : List Nat} {n : Nat} {gs : TGs} {ms : MGs} (h : GsOk K vs gs ms) : GOk K vs (gSeq K n gs) (mgTup n ms) := by
  intro v σ w d s s' Q k r p e hq
  unfold mgTup at e
  split at e
  · split at e
    · rename_i xs hz
      obtain ⟨a, us, rfl, h2, h3⟩ := tup_at p
      exact .inl ⟨a, us, rfl, h2, by rw [← h3.length]; exact hz, h us σ w xs s s' Q k r h3 e hq⟩
    · cases e
  · split at e
    · rename_i xs hz
      simp only [Rep] at p
      obtain ⟨a, us, rfl, h2, h3⟩ := p
      exact .inr ⟨a, us, rfl, h2.sq, by rw [← h3.length]; exact hz, h us σ w xs s s' Q k r h3 e hq⟩
    · cases e
  · cases e
/-! ## what is walked -/
abbrev Gd := Option (Nat × List D)
def gOk (g : Gd) (h : MH) : Prop := match g with
  | none => True
  | some (n, xs) => h.get n = some (.lst xs)
structure Walks (K : PySem.W.Frag) (w : W3) (J : L2.It) (p : List D × Gd) : Prop where
  go : ∀ i w', Ext w w' → Ok K w' → gOk p.2 w'.h → i < p.1.length → J.go i w'.H
  yl : ∀ i w' x H' d, Ext w w' → Ok K w' → gOk p.2 w'.h → p.1[i]? = some d → J.yld i w'.H x H' → ∃ w'', w''.H = H' ∧ w''.h = w'.h ∧ Ext w' w'' ∧ Ok K w'' ∧ Rep K w'' d x
  st : ∀ w', Ext w w' → Ok K w' → gOk p.2 w'.h → J.stop p.1.length w'.H
abbrev MI := Sl → MH → R (List D × Gd)
abbrev RelI (K : PySem.W.Frag) : Rl (List D × Gd) L2.It := fun w p J => Walks K w J p
def tMI (K : PySem.W.Frag) (E : XK) (m : MI) : TI := fun σ H Q => ∃ w s, w.H = H ∧ Ok K w ∧ SRep K w s σ ∧ PostW K E (RelI K) w (m s w.h) fun _ w' J => Q J w'.H
theorem pi_imp {X : Cx} {tg e : Expr} {t t' : TI} (h : PI X tg e t) (hi : ∀ σ H Q, t' σ H Q → t σ H Q) : PI X tg e t' := ⟨fun pins s σ H Q I q => h.run pins s σ H Q I (hi σ H Q q)⟩
section
variable {K : PySem.W.Frag} {w : W3}
theorem TupAt.inj {X : Cx} {a : Addr} {xs : List V} (h : TupAt K w a xs) : SqT K w.H a xs := h.sq
/-- a tuple is walked -/
theorem walks_tup {xs : List D} {v : V} (r : Rep K w (.tup xs) v) : ∃ a, v = .ref a ∧ (∃ vs, SqT K w.H a vs) ∧ Walks K w (Itt K a) (xs, none) := by
  have r0 := r
  simp only [Rep] at r
  obtain ⟨a, vs, rfl, h2, h3⟩ := r
  refine ⟨a, rfl, ⟨vs, h2.sq⟩, ⟨fun i w' x k g hi => ?_, fun i w' y H' d x k g e hy => ?_, fun w' x k g => ?_⟩⟩
  · have hi' : i < vs.length := by rw [← h3.length]; exact hi
    exact ⟨vs, vs[i], (h2.ext x).sq, by simp [hi']⟩
  · obtain ⟨e1, hy⟩ := hy
    subst e1
    obtain ⟨v, e2, p⟩ := h3.get e
    have e3 := hy vs (h2.ext x).sq
    rw [e2] at e3; cases e3
    exact ⟨w', rfl, rfl, Ext.refl w', k, p.ext x⟩
  · exact ⟨vs, (h2.ext x).sq, by rw [h3.length]; exact Nat.le_refl _⟩
theorem walks_lst {xs : List D} {v : V} (r : Rep K w (.lst xs) v) : ∃ a, v = .ref a ∧ (∃ vs, SqL K w.H a vs) ∧ Walks K w (Itl K a) (xs, none) := by
  simp only [Rep] at r
  obtain ⟨a, vs, rfl, h2, h3⟩ := r
  refine ⟨a, rfl, ⟨vs, h2.sq⟩, ⟨fun i w' x k g hi => ?_, fun i w' y H' d x k g e hy => ?_, fun w' x k g => ?_⟩⟩
  · have hi' : i < vs.length := by rw [← h3.length]; exact hi
    exact ⟨vs, vs[i], (h2.ext x).sq, by simp [hi']⟩
  · obtain ⟨e1, hy⟩ := hy
    subst e1
    obtain ⟨v, e2, p⟩ := h3.get e
    have e3 := hy vs (h2.ext x).sq
    rw [e2] at e3; cases e3
    exact ⟨w', rfl, rfl, Ext.refl w', k, p.ext x⟩
  · exact ⟨vs, (h2.ext x).sq, by rw [h3.length]; exact Nat.le_refl _⟩
theorem walks_ref {n : Nat} {xs : List D} {v : V} (k0 : Ok K w) (r : Rep K w (.ref n) v) (hn : w.h.get n = some (.lst xs)) : ∃ a, v = .ref a ∧ (∃ vs, SqL K w.H a vs) ∧ Walks K w (Itl K a) (xs, some (n, xs)) := by
  simp only [Rep] at r
  obtain ⟨hlt, rfl⟩ := r
  obtain ⟨vs0, h1, h2⟩ := (k0.dom n _ hn).2
  have at' : ∀ w', Ext w w' → Ok K w' → gOk (some (n, xs)) w'.h → ∃ vs, w'.H (w.io n) = some (.lst vs) ∧ Reps K w' xs vs := fun w' x k g => by
    obtain ⟨vs, q1, q2⟩ := (k.dom n _ g).2
    rw [x.io n hlt] at q1
    exact ⟨vs, q1, q2⟩
  refine ⟨_, rfl, ⟨vs0, SqL.of h1⟩, ⟨fun i w' x k g hi => ?_, fun i w' y H' d x k g e hy => ?_, fun w' x k g => ?_⟩⟩
  · obtain ⟨vs, q1, q2⟩ := at' w' x k g
    have hi' : i < vs.length := by rw [← q2.length]; exact hi
    exact ⟨vs, vs[i], SqL.of q1, by simp [hi']⟩
  · obtain ⟨e1, hy⟩ := hy
    subst e1
    obtain ⟨vs, q1, q2⟩ := at' w' x k g
    obtain ⟨v, e2, p⟩ := q2.get e
    have e3 := hy vs (SqL.of q1)
    rw [e2] at e3; cases e3
    exact ⟨w', rfl, rfl, Ext.refl w', k, p⟩
  · obtain ⟨vs, q1, q2⟩ := at' w' x k g
    exact ⟨vs, SqL.of q1, by rw [q2.length]; exact Nat.le_refl _⟩
def rangeD (lo : Int) (n : Nat) : List D := (List.range n).map fun i => .int (lo + (i : Nat))
theorem walks_range {lo : Int} {n : Nat} : Walks K w (Itr lo n) (rangeD lo n, none) := by
  refine ⟨fun i w' x k g hi => ?_, fun i w' y H' d x k g e hy => ?_, fun w' x k g => ?_⟩
  · show i < n
    simpa [rangeD] using hi
  · obtain ⟨e1, rfl⟩ := hy
    subst e1
    refine ⟨w', rfl, rfl, Ext.refl w', k, ?_⟩
    unfold rangeD at e
    rw [List.getElem?_map, Option.map_eq_some_iff] at e
    obtain ⟨j, e2, rfl⟩ := e
    have e3 : j = i := by
      have := (List.getElem?_eq_some_iff.mp e2).2
      simpa using this.symm
    subst e3
    exact rep_int.mpr rfl
  · show n ≤ _
    simp [rangeD]
end
end Tb
end

section
set_option maxHeartbeats 4000000
namespace Tb
open PySem PySem.Spec L2
/-! ## walking a value -/
def itOf : D → MH → R (List D × Gd)
  | .tup xs, h => .ok (xs, none) h
  | .lst xs, h => .ok (xs, none) h
  | .str x, h => .ok (x.cps.toList.map fun c => .str ⟨#[c]⟩, none) h
  | .ref n, h => match h.get n with
    | some (.lst xs) => .ok (xs, some (n, xs)) h
    | none => .bad
  | _, _ => .bad
def mIter (m : ME) : MI := fun s h => (m s h).bind itOf
theorem walks_str {K : PySem.W.Frag} {w : W3} {x : Str} : Walks K w (Its x) (x.cps.toList.map fun c => .str ⟨#[c]⟩, none) := by
  refine ⟨fun i w' _ k g hi => ?_, fun i w' y H' d _ k g e hy => ?_, fun w' _ k g => ?_⟩
  · show i < x.cps.size
    simpa using hi
  · obtain ⟨e1, c, e2, rfl⟩ := hy
    subst e1
    refine ⟨w', rfl, rfl, Ext.refl w', k, ?_⟩
    rw [List.getElem?_map, Option.map_eq_some_iff] at e
    obtain ⟨j, e3, rfl⟩ := e
    rw [Array.getElem?_toList, e2] at e3
    cases e3
    exact rep_str.mpr rfl
  · show x.cps.size ≤ _
    simp
section
variable {X : Cx} {E : XK} {tg e : Expr} {m : ME}
theorem mi_val (he : PE X e (tM X.K E m)) : PI X tg e (tMI X.K E (mIter m)) := by
  refine ⟨fun pins s σ H R I hq => ?_⟩
  obtain ⟨w, sl, eH, k, r, q⟩ := hq
  subst eH
  refine thn (he.run pins s σ w.H
      (fun v H1 => ∃ w1 d, w1.H = H1 ∧ Ok X.K w1 ∧ Rep X.K w1 d v ∧ PostW X.K E (RelI X.K) w1 (itOf d w1.h) fun _ w' J => R J w'.H)
      I (tM_at k r ((PostW.bind (Rel := RepD X.K) q).imp fun d w1 v _ k1 p1 q1 => ⟨w1, d, rfl, k1, p1, q1⟩))) fun u s1 hv => ?_
  obtain ⟨v, H1, I1, rv, w1, d, e1, k1, p1, q1⟩ := hv
  subst e1
  unfold itOf at q1
  split at q1
  · obtain ⟨a, rfl, ⟨vs, hs⟩, wk⟩ := walks_tup p1
    cases rv
    obtain ⟨its, r2, ht, _⟩ := I1.tuple hs
    exact wpAny_pyIter_tuple (show s1.heap.IsTuple a its.toArray from ht)
      (pi_one (tk := s1.toks) I1 _ (turn_tuple a _) ⟨_, Heap.get?_push_size _ rfl, rfl, rfl⟩
        (PostW.here (Rel := RelI X.K) q1 k1 wk))
  · obtain ⟨a, rfl, ⟨vs, hs⟩, wk⟩ := walks_lst p1
    cases rv
    obtain ⟨its, r2, ht, _⟩ := I1.list hs
    exact wpAny_pyIter_list ht.isList
      (pi_one (tk := s1.toks) I1 _ (turn_list a _) ⟨_, Heap.get?_push_size _ rfl, rfl, rfl⟩
        (PostW.here (Rel := RelI X.K) q1 k1 wk))
  · rename_i x
    have e2 := rep_str.mp p1
    subst e2
    obtain ⟨t, rfl⟩ := rv
    have wk : Walks X.K w1 (Its x) (x.cps.toList.map fun c => D.str ⟨#[c]⟩, none) := walks_str
    have q2 := PostW.here (Rel := RelI X.K) q1 k1 wk
    cases ha : x.cps.all (· < 128) with
    | false =>
      exact wpAny_pyIter_wide ha
        (pi_one (tk := s1.toks) I1 _ (turn_str _ x t "str_iterator" (.inr rfl)) ⟨_, Heap.get?_push_size _ rfl, rfl, rfl⟩ q2)
    | true =>
      exact wpAny_pyIter_ascii ha
        (pi_one (tk := s1.toks) I1 _ (turn_str _ x t "str_ascii_iterator" (.inl rfl)) ⟨_, Heap.get?_push_size _ rfl, rfl, rfl⟩ q2)
  · split at q1
    · rename_i n h' xs e2
      obtain ⟨a, rfl, ⟨vs, hs⟩, wk⟩ := walks_ref k1 p1 e2
      cases rv
      obtain ⟨its, r2, ht, _⟩ := I1.list hs
      exact wpAny_pyIter_list ht.isList
        (pi_one (tk := s1.toks) I1 _ (turn_list a _) ⟨_, Heap.get?_push_size _ rfl, rfl, rfl⟩
          (PostW.here (Rel := RelI X.K) q1 k1 wk))
    · exact q1.elim
  · exact q1.elim
/-- range(a), range(a, b) -/
def mRange1 (m : ME) : MI := fun s h => (m s h).bind fun d h1 => match d with
  | .int j => if -(2 ^ 62) ≤ j ∧ j < 2 ^ 62 then .ok (rangeD 0 j.toNat, none) h1 else .bad
  | _ => .bad
def mRange2 (m n : ME) : MI := fun s h => (m s h).bind fun d h1 => (n s h1).bind fun e h2 => match d, e with
  | .int i, .int j => if -(2 ^ 62) ≤ i ∧ i < 2 ^ 62 ∧ -(2 ^ 62) ≤ j ∧ j < 2 ^ 62 then .ok (rangeD i (j - i).toNat, none) h2 else .bad
  | _, _ => .bad
theorem mi_range1 {a : Expr} {p pos : Pos} (hg : Gl X "range") (hm : X.mg "range" = none) (ha : PE X a (tM X.K E m)) (hs : starEach [a] X.env = [(false, eval a X.env)]) :
    PI X tg (.Call (.Name "range" p) [a] [] pos) (tMI X.K E (mRange1 m)) := by
  refine pi_imp (pi_range1 hg hm (pa_cons ha pa_nil hs) hs) fun σ H Q hq => ?_
  obtain ⟨w, s, e, k, r, q⟩ := hq
  subst e
  refine tM_at k r ((PostW.bind (Rel := RepD X.K) q).imp fun d w1 v x1 k1 p1 q1 => ?_)
  split at q1
  · split at q1
    · rename_i hz
      exact ⟨_, congrArg (fun z => [z]) (rep_int.mp p1), hz.1, hz.2, PostW.here (Rel := RelI X.K) q1 k1 (by simpa using walks_range)⟩
    · exact q1.elim
  · exact q1.elim
theorem mi_range2 {a b : Expr} {n : ME} {p pos : Pos} (hg : Gl X "range") (hm : X.mg "range" = none) (ha : PE X a (tM X.K E m)) (hb : PE X b (tM X.K E n)) (hs : starEach [a, b] X.env = [(false, eval a X.env), (false, eval b X.env)]) (hs2 : starEach [b] X.env = [(false, eval b X.env)]) :
    PI X tg (.Call (.Name "range" p) [a, b] [] pos) (tMI X.K E (mRange2 m n)) := by
  refine pi_imp (pi_range2 hg hm (pa_cons ha (pa_cons hb pa_nil hs2) (by rw [hs, hs2])) hs hs2) fun σ H Q hq => ?_
  obtain ⟨w, s, e, k, r, q⟩ := hq
  subst e
  show tM X.K E m σ w.H fun x H1 => tM X.K E n σ H1 fun y H2 => ∃ i j : Int, [x, y] = [V.int i, V.int j] ∧ (-(2 ^ 62) ≤ i ∧ i < 2 ^ 62 ∧ -(2 ^ 62) ≤ j ∧ j < 2 ^ 62) ∧ Q (Itr i (j - i).toNat) H2
  refine tM_at k r ((PostW.bind (Rel := RepD X.K) q).imp fun d w1 v x1 k1 p1 q1 => ?_)
  refine tM_at k1 (r.ext x1) ((PostW.bind (Rel := RepD X.K) q1).imp fun d2 w2 v2 x2 k2 p2 q2 => ?_)
  split at q2
  · split at q2
    · rename_i hz
      refine ⟨_, _, ?_, hz, PostW.here (Rel := RelI X.K) q2 k2 walks_range⟩
      rw [rep_int.mp p1, rep_int.mp p2]
    · exact q2.elim
  · exact q2.elim
end
/-! ## for -/
open Classical in
noncomputable def forLoop (g : Gd) (tg : MG) (body : MS) : List D → Sl → MH → RS
  | [], s, h => if gOk g h then .nx s h else .bad
  | x :: xs, s, h => if gOk g h then (match tg x s with
      | some s1 => (match body s1 h with
        | .nx s2 h2 => forLoop g tg body xs s2 h2
        | .ct s2 h2 => forLoop g tg body xs s2 h2
        | .brk s2 h2 => .nx s2 h2
        | .ret d h2 => .ret d h2
        | .exc e h2 => .exc e h2
        | .bad => .bad)
      | none => .bad) else .bad
noncomputable def mFor (it : MI) (tg : MG) (body : MS) : MS := fun s h => (it s h).toS fun p h1 => forLoop p.2 tg body p.1 s h1
theorem wipe_nil {σ : L2.St} : wipe σ [] = σ := rfl
section
variable {X : Cx} {E : XK} {tg iter : Expr} {body : List Stmt} {mi : MI} {g : TG} {mg : MG} {mb : MS} {vs : List Nat} {pos : Pos}
theorem ms_for (hp : PassesOwn (model X.prog X.w) X.A X.env X.xe) (hc : X.calm = true) (hi : PI X tg iter (tMI X.K E mi)) (hg : PG X tg g) (gk : GOk X.K vs g mg) (hb : PSs X body (tMS X.K E mb))
    (hs : ∀ x, foldedSetIterable iter X.env x = pure x) : PS X (.For tg iter body [] pos) (tMS X.K E (mFor mi mg mb)) := by
  refine ps_imp (ps_for hp hc hi hg hb hs) fun D σ H hq => ?_
  obtain ⟨w, s, e, k, r, q⟩ := hq
  subst e
  refine ⟨w, s, rfl, k, r, (PostW.toS (Rel := RelI X.K) q).imp fun p w1 J x1 k1 wk q1 => ?_⟩
  refine ⟨fun i m σ' H' => m = p.1.length - i ∧ i ≤ p.1.length ∧ ∃ w' s', w'.H = H' ∧ Ext w1 w' ∧ Ok X.K w' ∧ SRep X.K w' s' σ' ∧ PostS X.K E w' (forLoop p.2 mg mb (p.1.drop i) s' w'.h) (endsM D),
    ⟨p.1.length, by simp, Nat.zero_le _, w1, s, rfl, Ext.refl w1, k1, r.ext x1, by rw [List.drop_zero]; exact q1⟩, ?_⟩
  rintro i m σ' H' ⟨rfl, hi', w', s', rfl, x', k', r', q'⟩
  by_cases hlt : i < p.1.length
  · rw [List.drop_eq_getElem_cons hlt] at q'
    unfold forLoop at q'
    split at q'
    · rename_i hgd
      split at q'
      · rename_i s1 hs1
        refine .inr ⟨wk.go i w' x' k' hgd hlt, fun σ2 H2 => ∃ w2 s2, w2.H = H2 ∧ Ext w1 w2 ∧ Ok X.K w2 ∧ SRep X.K w2 s2 σ2 ∧ PostS X.K E w2 (forLoop p.2 mg mb (p.1.drop (i + 1)) s2 w2.h) (endsM D), fun σ2 H2 z => ?_, fun x H2 hy => ?_⟩
        · obtain ⟨w2, s2, a1, a2, a3, a4, a5⟩ := z
          exact ⟨p.1.length - (i + 1), by omega, rfl, hlt, w2, s2, a1, a2, a3, a4, a5⟩
        · obtain ⟨w2, e2, eh, x2, k2, p2⟩ := wk.yl i w' x H2 _ x' k' hgd (List.getElem?_eq_getElem hlt) hy
          subst e2
          refine gk x σ' w2 _ s' s1 _ k2 (r'.ext x2) p2 hs1 fun σ3 r3 _ => ?_
          refine tMS_at k2 r3 ?_
          rw [eh]
          have xx := x'.trans x2
          cases hbd : mb s1 w'.h with
          | nx s2 h2 =>
            rw [hbd] at q'
            exact fun w3 σ3 e3 x3 k3 r3 => ⟨w3, s2, rfl, xx.trans x3, k3, r3, by rw [e3]; exact PostS.from q' (x2.trans x3)⟩
          | ct s2 h2 =>
            rw [hbd] at q'
            exact fun w3 σ3 e3 x3 k3 r3 => ⟨w3, s2, rfl, xx.trans x3, k3, r3, by rw [e3]; exact PostS.from q' (x2.trans x3)⟩
          | brk s2 h2 =>
            rw [hbd] at q'
            exact fun w3 σ3 e3 x3 k3 r3 => q' w3 σ3 e3 (x2.trans x3) k3 r3
          | ret d h2 =>
            rw [hbd] at q'
            exact fun w3 v e3 x3 k3 p3 => q' w3 v e3 (x2.trans x3) k3 p3
          | exc ex h2 =>
            rw [hbd] at q'
            exact fun w3 c d e3 x3 k3 p3 => q' w3 c d e3 (x2.trans x3) k3 p3
          | bad =>
            rw [hbd] at q'
            exact q'
      · exact q'.elim
    · exact q'.elim
  · have e : i = p.1.length := by omega
    subst e
    rw [List.drop_length] at q'
    unfold forLoop at q'
    split at q'
    · rename_i hgd
      exact .inl ⟨wk.st w' x' k' hgd, PostS.hereN q' k' r'⟩
    · exact q'.elim
end
/-! ## while -/
def whileLoop (c : MT) (body : MS) : Nat → Sl → MH → RS
  | 0, _, _ => .bad
  | n + 1, s, h => (c s h).toS fun b h1 => if b = true then (match body s h1 with
      | .nx s2 h2 => whileLoop c body n s2 h2
      | .ct s2 h2 => whileLoop c body n s2 h2
      | .brk s2 h2 => .nx s2 h2
      | .ret d h2 => .ret d h2
      | .exc e h2 => .exc e h2
      | .bad => .bad) else .nx s h1
/-- so many turns at the most -/
def mWhile (c : MT) (body : MS) : MS := whileLoop c body 1000000
section
variable {X : Cx} {E : XK} {c : Expr} {body : List Stmt} {mc : MT} {mb : MS} {pos : Pos}
theorem ms_while (hp : PassesOwn (model X.prog X.w) X.A X.env X.xe) (hc : PT X c (tMT X.K E mc)) (hb : PSs X body (tMS X.K E mb)) : PS X (.While c body [] pos) (tMS X.K E (mWhile mc mb)) := by
  refine ps_imp (ps_while hp hc hb) fun D σ H hq => ?_
  obtain ⟨w, s, e, k, r, q⟩ := hq
  subst e
  refine ⟨fun m σ' H' => ∃ w' s', w'.H = H' ∧ Ok X.K w' ∧ SRep X.K w' s' σ' ∧ PostS X.K E w' (whileLoop mc mb m s' w'.h) (endsM D), ⟨1000000, w, s, rfl, k, r, q⟩, ?_⟩
  rintro m σ' H' ⟨w', s', rfl, k', r', q'⟩
  cases m with
  | zero => exact q'.elim
  | succ n =>
    unfold whileLoop at q'
    refine tMT_at k' r' ((PostW.toS (Rel := EqB) q').imp fun b w1 v x1 k1 p1 q1 => ?_)
    subst p1
    cases b with
    | true =>
      rw [if_pos rfl] at q1 ⊢
      refine ⟨fun σ2 H2 => ∃ w2 s2, w2.H = H2 ∧ Ok X.K w2 ∧ SRep X.K w2 s2 σ2 ∧ PostS X.K E w2 (whileLoop mc mb n s2 w2.h) (endsM D), fun σ2 H2 z => ⟨n, Nat.lt_succ_self n, z⟩, tMS_at k1 (r'.ext x1) ?_⟩
      cases hbd : mb s' w1.h with
      | nx s2 h2 =>
        rw [hbd] at q1
        exact fun w3 σ3 e3 x3 k3 r3 => ⟨w3, s2, rfl, k3, r3, by rw [e3]; exact PostS.from q1 x3⟩
      | ct s2 h2 =>
        rw [hbd] at q1
        exact fun w3 σ3 e3 x3 k3 r3 => ⟨w3, s2, rfl, k3, r3, by rw [e3]; exact PostS.from q1 x3⟩
      | brk s2 h2 =>
        rw [hbd] at q1
        exact fun w3 σ3 e3 x3 k3 r3 => q1 w3 σ3 e3 x3 k3 r3
      | ret d h2 =>
        rw [hbd] at q1
        exact fun w3 v e3 x3 k3 p3 => q1 w3 v e3 x3 k3 p3
      | exc ex h2 =>
        rw [hbd] at q1
        exact fun w3 c d e3 x3 k3 p3 => q1 w3 c d e3 x3 k3 p3
      | bad =>
        rw [hbd] at q1
        exact q1
    | false =>
      rw [if_neg Bool.false_ne_true] at q1 ⊢
      exact PostS.hereN q1 k1 (r'.ext x1)
end
end Tb
end

section
set_option maxHeartbeats 4000000
namespace Tb
open PySem PySem.Spec PyProof.Rows L2
/-! ## zip of a tuple or list with a tuple or list -/
/-- b: a tuple, else a list -/
def SqA (b : Bool) (h : Heap) (l : Addr) (xs : Array Value) : Prop := match b with
  | true => h.IsTuple l xs
  | false => h.IsList l xs
def ItA (b : Bool) (h : Heap) (it l : Addr) (i : Nat) : Prop := match b with
  | true => h.IsTupleIter it l i
  | false => h.IsListIter it l i
theorem SqA.but {b : Bool} {h h' : Heap} {l c : Addr} {xs : Array Value} (q : SqA b h l xs) (e : Heap.ExtBut c h h') (n : l ≠ c) : SqA b h' l xs := by
  cases b
  · exact Heap.IsList.extBut q e n
  · exact Heap.IsTuple.extBut q e n
theorem ItA.but {b : Bool} {h h' : Heap} {it l c : Addr} {i : Nat} (q : ItA b h it l i) (e : Heap.ExtBut c h h') (n : it ≠ c) : ItA b h' it l i := by
  cases b
  · exact Heap.IsListIter.extBut q e n
  · exact Heap.IsTupleIter.extBut q e n
theorem ItA.of_at {b : Bool} {h h' : Heap} {it l : Addr} {i : Nat} (q : ItA b h it l i) (e : ∀ o, h.get? it = some o → h'.get? it = some o) : ItA b h' it l i := by
  cases b
  · exact Heap.IsListIter.at q e
  · exact Heap.IsTupleIter.at q e
theorem ItA.look {b : Bool} {h : Heap} {it l : Addr} {i : Nat} (q : ItA b h it l i) : ∃ o vs, h.get? it = some o ∧ o.data = .fields vs := by
  cases b
  · obtain ⟨o, e, _, d⟩ := q
    exact ⟨o, _, e, d⟩
  · obtain ⟨o, e, _, d⟩ := q
    exact ⟨o, _, e, d⟩
section
variable {prog : Program} {w : World} {A : Around} {E : Value → Shared → Prop} {s : Shared} {b1 b2 : Bool} {zz pI pO ia ib la lb : Addr} {ka kb : Nat} {xs ys : Array Value} {x y p q : Value}
theorem nextA {b : Bool} {it l : Addr} {i : Nat} {Q : Value → Shared → Prop} (hi : ItA b s.heap it l i) (hs : SqA b s.heap l xs) (e : xs[i]? = some x) (k : ∀ g, ItA b g it l (i + 1) → Heap.SameBut it s.heap g → Q x { s with heap := g }) :
    wpAny (model prog w) A (Builtin.SmallTypes.nextOf (.ref it)) Q E s := by
  cases b
  · exact wpAny_nextOf_list_item hi hs e k
  · exact RZ.nextOf_tuple_item hi hs e k
theorem endA {b : Bool} {it l : Addr} {i : Nat} {Q : Value → Shared → Prop} (hh : A.handled = none) (hi : ItA b s.heap it l i) (hs : SqA b s.heap l xs) (e : xs[i]? = none) (k : ∀ g u, Heap.ExtBut it s.heap g → (∃ o, g.get? u = some o ∧ o.cls = .type "StopIteration") → E (.ref u) { s with heap := g }) :
    wpAny (model prog w) A (Builtin.SmallTypes.nextOf (.ref it)) Q E s := by
  cases b
  · exact wpAny_nextOf_list_end hh hi hs e k
  · exact RZ.nextOf_tuple_end hh hi hs e k
theorem zipA_item {Q : Value → Shared → Prop} (D : ZipApart zz pI pO ia ib la lb) (fz : IsZip s.heap zz pI pO .none) (fI : IsPair s.heap pI (.ref ia) (.ref ib)) (fO : IsPair s.heap pO p q) (f1 : ItA b1 s.heap ia la ka) (f2 : ItA b2 s.heap ib lb kb)
    (g1 : SqA b1 s.heap la xs) (g2 : SqA b2 s.heap lb ys) (e1 : xs[ka]? = some x) (e2 : ys[kb]? = some y)
    (k : ∀ g, IsZip g zz pI pO (rawInt s.heap.objs.size) → IsPair g pO x y → ItA b1 g ia la (ka + 1) → ItA b2 g ib lb (kb + 1) → IsPair g s.heap.objs.size x y → g.objs.size = s.heap.objs.size + 1 →
      (∀ c o, c ≠ zz → c ≠ pO → c ≠ ia → c ≠ ib → s.heap.get? c = some o → g.get? c = some o) → Q (.ref s.heap.objs.size) { s with heap := g }) :
    wpAny (model prog w) A (Builtin.«zip.__next__» ⟨[.ref zz], []⟩) (fun fin s' => ∃ v, fin = .done (.ret v) ∧ Q v s') E s := by
  show wpAny _ _ (field (.ref zz) 2 >>= _) _ _ _
  refine wpAny_bind (wpAny_field fz rfl (x := .bool false) rfl ?_)
  show wpAny _ _ (field (.ref zz) 3 >>= _) _ _ _
  refine wpAny_bind (wpAny_field fz rfl (x := .ref pI) rfl (wpAny_bind (wpAny_seqItems fI rfl ?_)))
  show wpAny _ _ (Builtin.SmallTypes.ownedTupleIsFree (.ref zz) >>= _) _ _ _
  refine wpAny_bind ?_; unfold Builtin.SmallTypes.ownedTupleIsFree
  refine wpAny_bind (wpAny_field fz rfl (x := .none) rfl (wpAny_pure ?_)); simp only [if_true]
  refine wpAny_bind (wpAny_rule (wpAny_bind (wpAny_field fz rfl (x := .ref pO) rfl ?_)))
  refine wpAny_bind (wpAny_setField_rec fz (by simp) fun u1 z1 s1 => ?_)
  have fz1 : IsZip u1 zz pI pO .ellipsis := z1
  refine wpAny_bind ?_; simp only [List.zipIdx_cons, List.zipIdx_nil, List.forIn_cons, List.forIn_nil]
  refine wpAny_bind (wpAny_bind (wpAny_onRaise ?_)); show wpAny _ _ (Builtin.SmallTypes.nextOf (.ref ia) >>= _) _ _ _
  refine wpAny_bind (nextA (f1.but s1.extBut D.i1z) (g1.but s1.extBut D.l1z) e1 fun u2 f12 s2 => wpAny_pure ?_)
  have fO2 : IsPair u2 pO p q := s2.extBut _ _ D.TOi1 (s1.extBut _ _ D.TOz fO)
  refine wpAny_bind (wpAny_seqItems fO2 rfl (wpAny_bind (wpAny_updateSeq_pair fO2 fun u3 z3 s3 => ?_)))
  have fO3 : IsPair u3 pO x q := z3
  refine wpAny_bind (wpAny_letGo (wpAny_pure (wpAny_bind (wpAny_bind (wpAny_onRaise ?_)))))
  show wpAny _ _ (Builtin.SmallTypes.nextOf (.ref ib) >>= _) _ _ _
  have f23 := ((f2.but s1.extBut D.i2z).but s2.extBut D.i12.symm).but s3.extBut D.TOi2.symm
  have g23 := ((g2.but s1.extBut D.l2z).but s2.extBut D.l2i1).but s3.extBut D.l2TO
  refine wpAny_bind (nextA f23 g23 e2 fun u4 f24 s4 => wpAny_pure ?_)
  have fO4 : IsPair u4 pO x q := s4.extBut _ _ D.TOi2 fO3
  refine wpAny_bind (wpAny_seqItems fO4 rfl (wpAny_bind (wpAny_updateSeq_pair fO4 fun u5 z5 s5 => ?_)))
  have fO5 : IsPair u5 pO x y := z5
  refine wpAny_bind (wpAny_letGo (wpAny_pure (wpAny_pure (wpAny_bind (wpAny_seqItems fO5 rfl (wpAny_bind (wpAny_newTuple ?_)))))))
  have size : u5.objs.size = s.heap.objs.size := ((((s5.1.trans s4.1).trans s3.1).trans s2.1).trans s1.1)
  have fz5 : IsZip u5 zz pI pO .ellipsis := s5.extBut _ _ D.TOz.symm (s4.extBut _ _ D.i2z.symm (s3.extBut _ _ D.TOz.symm (s2.extBut _ _ D.i1z.symm fz1)))
  have rest : ∀ c o, c ≠ zz → c ≠ pO → c ≠ ia → c ≠ ib → s.heap.get? c = some o → u5.get? c = some o := fun c o n1 n2 n3 n4 e => s5.extBut _ _ n2 (s4.extBut _ _ n4 (s3.extBut _ _ n2 (s2.extBut _ _ n3 (s1.extBut _ _ n1 e))))
  have f15 := ((f12.but s3.extBut D.TOi1.symm).but s4.extBut D.i12).but s5.extBut D.TOi1.symm
  have f25 := f24.but s5.extBut D.TOi2.symm
  have lz : zz < u5.objs.size := Heap.lt_size fz5
  show wpAny _ _ (Builtin.SmallTypes.ownedTupleHandOut (.ref zz) (.ref u5.objs.size) >>= _) _ _ _
  refine wpAny_bind ?_; unfold Builtin.SmallTypes.ownedTupleHandOut
  have fz6 : IsZip (u5.push { cls := .type "tuple", data := .seq #[x, y] }) zz pI pO .ellipsis := Heap.get?_push_of_some _ fz5
  refine wpAny_bind (wpAny_setField_rec fz6 (by simp) fun u7 z7 s7 => ?_)
  have fz7 : IsZip u7 zz pI pO (rawInt u5.objs.size) := z7
  refine wpAny_setField_rec fz7 (by simp) fun u8 z8 s8 => ?_
  have fz8 : IsZip u8 zz pI pO (rawInt u5.objs.size) := z8
  have lift : ∀ c o, c ≠ zz → u5.get? c = some o → u8.get? c = some o := fun c o n e => s8.extBut _ _ n (s7.extBut _ _ n (Heap.get?_push_of_some _ e))
  have made : IsPair u8 u5.objs.size x y := s8.extBut _ _ (Nat.ne_of_gt lz) (s7.extBut _ _ (Nat.ne_of_gt lz) (Heap.get?_push_size _ rfl))
  have size8 : u8.objs.size = u5.objs.size + 1 := (s8.1.trans s7.1).trans (Heap.size_push ..)
  rw [size] at fz8 made size8
  refine wpAny_pure ⟨_, rfl, ?_⟩
  rw [show (Value.ref u5.objs.size) = .ref s.heap.objs.size from congrArg Value.ref size]
  exact k u8 fz8 (lift _ _ D.TOz fO5) (f15.of_at fun o e => lift _ o D.i1z e) (f25.of_at fun o e => lift _ o D.i2z e) made size8 fun c o n1 n2 n3 n4 e => lift c o n1 (rest c o n1 n2 n3 n4 e)
theorem zipA_end {Q : Fin → Shared → Prop} (hh : A.handled = none) (D : ZipApart zz pI pO ia ib la lb) (fz : IsZip s.heap zz pI pO .none) (fI : IsPair s.heap pI (.ref ia) (.ref ib)) (fO : IsPair s.heap pO p q) (f1 : ItA b1 s.heap ia la ka) (f2 : ItA b2 s.heap ib lb kb)
    (g1 : SqA b1 s.heap la xs) (g2 : SqA b2 s.heap lb ys) (stop : xs[ka]? = none ∨ ys[kb]? = none)
    (k : ∀ g u, (∀ c o, c ≠ zz → c ≠ pO → c ≠ ia → c ≠ ib → s.heap.get? c = some o → g.get? c = some o) → (∃ o, g.get? u = some o ∧ o.cls = .type "StopIteration") → E (.ref u) { s with heap := g }) :
    wpAny (model prog w) A (Builtin.«zip.__next__» ⟨[.ref zz], []⟩) Q E s := by
  show wpAny _ _ (field (.ref zz) 2 >>= _) _ _ _
  refine wpAny_bind (wpAny_field fz rfl (x := .bool false) rfl ?_)
  show wpAny _ _ (field (.ref zz) 3 >>= _) _ _ _
  refine wpAny_bind (wpAny_field fz rfl (x := .ref pI) rfl (wpAny_bind (wpAny_seqItems fI rfl ?_)))
  show wpAny _ _ (Builtin.SmallTypes.ownedTupleIsFree (.ref zz) >>= _) _ _ _
  refine wpAny_bind ?_; unfold Builtin.SmallTypes.ownedTupleIsFree
  refine wpAny_bind (wpAny_field fz rfl (x := .none) rfl (wpAny_pure ?_)); simp only [if_true]
  refine wpAny_bind (wpAny_rule (wpAny_bind (wpAny_field fz rfl (x := .ref pO) rfl ?_)))
  refine wpAny_bind (wpAny_setField_rec fz (by simp) fun u1 z1 s1 => ?_)
  have fz1 : IsZip u1 zz pI pO .ellipsis := z1
  refine wpAny_bind ?_; simp only [List.zipIdx_cons, List.zipIdx_nil, List.forIn_cons, List.forIn_nil]
  refine wpAny_bind (wpAny_bind (wpAny_onRaise ?_)); show wpAny _ _ (Builtin.SmallTypes.nextOf (.ref ia) >>= _) _ _ _
  have closed : ∀ {g : Heap} {u : Addr}, IsZip g zz pI pO .ellipsis → (∃ o, g.get? u = some o ∧ o.cls = .type "StopIteration") → u ≠ zz := fun {g u} h1 h2 e => by
    obtain ⟨o, h3, h4⟩ := h2
    rw [e, h1] at h3
    cases h3
    simp at h4
  cases ex : xs[ka]? with
  | none =>
    refine wpAny_bind (endA hh (f1.but s1.extBut D.i1z) (g1.but s1.extBut D.l1z) ex fun u2 u s2 hu => ?_)
    have fz2 : IsZip u2 zz pI pO .ellipsis := s2 _ _ D.i1z.symm fz1
    have ne := closed fz2 hu
    obtain ⟨o, h3, h4⟩ := hu
    exact wpAny_setField_rec fz2 (by simp) fun u3 _ s3 => k u3 u (fun c o n1 _ n3 _ e => s3.extBut _ _ n1 (s2 _ _ n3 (s1.extBut _ _ n1 e))) ⟨o, s3.extBut _ _ ne h3, h4⟩
  | some x =>
    have ey : ys[kb]? = none := stop.resolve_left (by rw [ex]; simp)
    refine wpAny_bind (nextA (f1.but s1.extBut D.i1z) (g1.but s1.extBut D.l1z) ex fun u2 f12 s2 => wpAny_pure ?_)
    have fO2 : IsPair u2 pO p q := s2.extBut _ _ D.TOi1 (s1.extBut _ _ D.TOz fO)
    refine wpAny_bind (wpAny_seqItems fO2 rfl (wpAny_bind (wpAny_updateSeq_pair fO2 fun u3 z3 s3 => ?_)))
    refine wpAny_bind (wpAny_letGo (wpAny_pure (wpAny_bind (wpAny_bind (wpAny_onRaise ?_)))))
    show wpAny _ _ (Builtin.SmallTypes.nextOf (.ref ib) >>= _) _ _ _
    have f23 := ((f2.but s1.extBut D.i2z).but s2.extBut D.i12.symm).but s3.extBut D.TOi2.symm
    have g23 := ((g2.but s1.extBut D.l2z).but s2.extBut D.l2i1).but s3.extBut D.l2TO
    refine wpAny_bind (endA hh f23 g23 ey fun u4 u s4 hu => ?_)
    have fz4 : IsZip u4 zz pI pO .ellipsis := s4 _ _ D.i2z.symm (s3.extBut _ _ D.TOz.symm (s2.extBut _ _ D.i1z.symm fz1))
    have ne := closed fz4 hu
    obtain ⟨o, h3, h4⟩ := hu
    exact wpAny_setField_rec fz4 (by simp) fun u5 _ s5 => k u5 u (fun c o n1 n2 n3 n4 e => s5.extBut _ _ n1 (s4 _ _ n4 (s3.extBut _ _ n2 (s2.extBut _ _ n3 (s1.extBut _ _ n1 e))))) ⟨o, s5.extBut _ _ ne h3, h4⟩
theorem pyNextA_item {Q : Option Value → Shared → Prop} (D : ZipApart zz pI pO ia ib la lb) (fz : IsZip s.heap zz pI pO .none) (fI : IsPair s.heap pI (.ref ia) (.ref ib)) (fO : IsPair s.heap pO p q) (f1 : ItA b1 s.heap ia la ka) (f2 : ItA b2 s.heap ib lb kb)
    (g1 : SqA b1 s.heap la xs) (g2 : SqA b2 s.heap lb ys) (e1 : xs[ka]? = some x) (e2 : ys[kb]? = some y)
    (k : ∀ g, IsZip g zz pI pO (rawInt s.heap.objs.size) → IsPair g pO x y → ItA b1 g ia la (ka + 1) → ItA b2 g ib lb (kb + 1) → IsPair g s.heap.objs.size x y → g.objs.size = s.heap.objs.size + 1 →
      (∀ c o, c ≠ zz → c ≠ pO → c ≠ ia → c ≠ ib → s.heap.get? c = some o → g.get? c = some o) → Q (some (.ref s.heap.objs.size)) { s with heap := g }) : wpAny (model prog w) A (pyNext (.ref zz)) Q E s := by
  have ty : s.TypeIs (.ref zz) "zip" := ⟨_, fz, rfl⟩
  unfold pyNext
  refine wpAny_bind (wpAny_attempt (wpAny_callSpecial?_slot (name := Str.ofString "__next__") ty F.slot_zip_next (wpAny_call_entry F.slot_zip_next ty F.entry_zip_next ?_ (F.args_zip_next_1 _))))
  exact zipA_item D fz fI fO f1 f2 g1 g2 e1 e2 fun g a1 a2 a3 a4 a5 a6 a7 => wpAny_pure (k g a1 a2 a3 a4 a5 a6 a7)
theorem pyNextA_end {Q : Option Value → Shared → Prop} (hh : A.handled = none) (D : ZipApart zz pI pO ia ib la lb) (fz : IsZip s.heap zz pI pO .none) (fI : IsPair s.heap pI (.ref ia) (.ref ib)) (fO : IsPair s.heap pO p q) (f1 : ItA b1 s.heap ia la ka) (f2 : ItA b2 s.heap ib lb kb)
    (g1 : SqA b1 s.heap la xs) (g2 : SqA b2 s.heap lb ys) (stop : xs[ka]? = none ∨ ys[kb]? = none)
    (k : ∀ g, (∀ c o, c ≠ zz → c ≠ pO → c ≠ ia → c ≠ ib → s.heap.get? c = some o → g.get? c = some o) → Q none { s with heap := g }) : wpAny (model prog w) A (pyNext (.ref zz)) Q E s := by
  have ty : s.TypeIs (.ref zz) "zip" := ⟨_, fz, rfl⟩
  unfold pyNext
  refine wpAny_bind (wpAny_attempt (wpAny_callSpecial?_slot (name := Str.ofString "__next__") ty F.slot_zip_next (wpAny_call_entry F.slot_zip_next ty F.entry_zip_next (zipA_end hh D fz fI fO f1 f2 g1 g2 stop fun g u keep ⟨o, h3, h4⟩ => ?_) (F.args_zip_next_1 _))))
  exact wpAny_bind (wpAny_isInstance (T := "StopIteration") (b := true) ⟨o, h3, h4⟩ isSubtype_stop (wpAny_pure (k _ keep)))
end
/-! ### zip(a, b) called -/
def itName : Bool → String
  | true => "tuple_iterator"
  | false => "list_iterator"
abbrev za1 (b1 : Bool) (h : Heap) (la : Addr) : Heap := h.push { cls := .type (itName b1), data := .fields #[.ref la, .int 0 0] }
abbrev za2 (b1 b2 : Bool) (h : Heap) (la lb : Addr) : Heap := (za1 b1 h la).push { cls := .type (itName b2), data := .fields #[.ref lb, .int 0 0] }
abbrev za3 (b1 b2 : Bool) (h : Heap) (la lb : Addr) : Heap := (za2 b1 b2 h la lb).push { cls := .type "tuple", data := .seq #[.ref h.objs.size, .ref (za1 b1 h la).objs.size] }
abbrev za4 (b1 b2 : Bool) (h : Heap) (la lb : Addr) : Heap := (za3 b1 b2 h la lb).push { cls := .type "tuple", data := .seq #[.none, .none] }
abbrev za5 (b1 b2 : Bool) (h : Heap) (la lb : Addr) : Heap := (za4 b1 b2 h la lb).push { cls := .type "zip", data := .fields #[.none, .bool false, .bool false, .ref (za2 b1 b2 h la lb).objs.size, .ref (za3 b1 b2 h la lb).objs.size] }
theorem meets_tl (la lb : Addr) (xs ys : Array Value) : Meets (Builtin.«zip.__new__» ⟨[.type "zip", .ref la, .ref lb], []⟩) (fun _ R s => s.heap.IsTuple la xs ∧ s.heap.IsList lb ys ∧ R (.ok (.ret (.ref (za4 true false s.heap la lb).objs.size))) { s with heap := za5 true false s.heap la lb }) :=
  .of_wp fun prog w A R s h => by
    obtain ⟨hp, g, d, tk, os⟩ := s; obtain ⟨ha, hb, h⟩ := h
    have hs := sub_zip
    have hA : Heap.IsTuple (Shared.heap ⟨hp, g, d, tk, os⟩) la xs := ha
    have hB : Heap.IsList (Shared.heap ⟨hp.push { cls := .type "tuple_iterator", data := .fields #[.ref la, .int 0 0] }, g, d, tk, os⟩) lb ys := Heap.IsList.push hb _
    wp_walk using wpAny_pyIter_tuple hA, wpAny_pyIter_list hB
    exact ⟨_, rfl, h⟩
theorem meets_lt (la lb : Addr) (xs ys : Array Value) : Meets (Builtin.«zip.__new__» ⟨[.type "zip", .ref la, .ref lb], []⟩) (fun _ R s => s.heap.IsList la xs ∧ s.heap.IsTuple lb ys ∧ R (.ok (.ret (.ref (za4 false true s.heap la lb).objs.size))) { s with heap := za5 false true s.heap la lb }) :=
  .of_wp fun prog w A R s h => by
    obtain ⟨hp, g, d, tk, os⟩ := s; obtain ⟨ha, hb, h⟩ := h
    have hs := sub_zip
    have hA : Heap.IsList (Shared.heap ⟨hp, g, d, tk, os⟩) la xs := ha
    have hB : Heap.IsTuple (Shared.heap ⟨hp.push { cls := .type "list_iterator", data := .fields #[.ref la, .int 0 0] }, g, d, tk, os⟩) lb ys := Heap.IsTuple.push hb _
    wp_walk using wpAny_pyIter_list hA, wpAny_pyIter_tuple hB
    exact ⟨_, rfl, h⟩
theorem meets_zipA (b1 b2 : Bool) (la lb : Addr) (xs ys : Array Value) : Meets (Builtin.«zip.__new__» ⟨[.type "zip", .ref la, .ref lb], []⟩) (fun _ R s => SqA b1 s.heap la xs ∧ SqA b2 s.heap lb ys ∧ R (.ok (.ret (.ref (za4 b1 b2 s.heap la lb).objs.size))) { s with heap := za5 b1 b2 s.heap la lb }) := by
  cases b1 <;> cases b2
  · exact meets_zip_new la lb xs ys
  · exact meets_lt la lb xs ys
  · exact meets_tl la lb xs ys
  · exact RZ.meets_zipT_new la lb xs ys
section
variable {prog : Program} {w : World} {A : Around} {E : Value → Shared → Prop} {s : Shared} {b1 b2 : Bool} {la lb : Addr} {xs ys : Array Value}
theorem call_zipA {Q : Value → Shared → Prop} (g1 : SqA b1 s.heap la xs) (g2 : SqA b2 s.heap lb ys)
    (k : ∀ g, IsZip g (s.heap.objs.size + 4) (s.heap.objs.size + 2) (s.heap.objs.size + 3) .none → IsPair g (s.heap.objs.size + 2) (.ref s.heap.objs.size) (.ref (s.heap.objs.size + 1)) → IsPair g (s.heap.objs.size + 3) .none .none →
      ItA b1 g s.heap.objs.size la 0 → ItA b2 g (s.heap.objs.size + 1) lb 0 → (∀ c o, s.heap.get? c = some o → g.get? c = some o) → Q (.ref (s.heap.objs.size + 4)) { s with heap := g }) : wpAny (model prog w) A (call (.type "zip") [.ref la, .ref lb]) Q E s := by
  refine callType_new F.called_zip (by decide) (F.typeCall_zip_2 _ _) (F.newCall_zip_2 _ _) (fun obj => F.args_object_init_3 obj _ _) F.entry_zip_new (meets_zipA b1 b2 la lb xs ys) ⟨g1, g2, ?_⟩
  have n1 : (za1 b1 s.heap la).objs.size = s.heap.objs.size + 1 := Heap.size_push ..
  have n2 : (za2 b1 b2 s.heap la lb).objs.size = s.heap.objs.size + 2 := (Heap.size_push ..).trans (by rw [n1])
  have n3 : (za3 b1 b2 s.heap la lb).objs.size = s.heap.objs.size + 3 := (Heap.size_push ..).trans (by rw [n2])
  have n4 : (za4 b1 b2 s.heap la lb).objs.size = s.heap.objs.size + 4 := (Heap.size_push ..).trans (by rw [n3])
  have up : ∀ {g : Heap} {c : Addr} {o o' : Obj}, g.get? c = some o → (g.push o').get? c = some o := fun e => Heap.get?_push_of_some _ e
  have q5 : (za5 b1 b2 s.heap la lb).get? (za4 b1 b2 s.heap la lb).objs.size = some _ := Heap.get?_push_size _ rfl
  have q4 : (za5 b1 b2 s.heap la lb).get? (za3 b1 b2 s.heap la lb).objs.size = some _ := up (Heap.get?_push_size _ rfl)
  have q3 : (za5 b1 b2 s.heap la lb).get? (za2 b1 b2 s.heap la lb).objs.size = some _ := up (up (Heap.get?_push_size _ rfl))
  have q2 : (za5 b1 b2 s.heap la lb).get? (za1 b1 s.heap la).objs.size = some _ := up (up (up (Heap.get?_push_size _ rfl)))
  have q1 : (za5 b1 b2 s.heap la lb).get? s.heap.objs.size = some _ := up (up (up (up (Heap.get?_push_size _ rfl))))
  show _ ∧ _
  rw [n2, n3, n4] at q5
  rw [n1, n2] at q3
  rw [n3] at q4
  rw [n1] at q2
  rw [n4]
  have i1 : ItA b1 (za5 b1 b2 s.heap la lb) s.heap.objs.size la 0 := by
    cases b1
    · exact ⟨_, q1, rfl, rfl⟩
    · exact ⟨_, q1, rfl, rfl⟩
  have i2 : ItA b2 (za5 b1 b2 s.heap la lb) (s.heap.objs.size + 1) lb 0 := by
    cases b2
    · exact ⟨_, q2, rfl, rfl⟩
    · exact ⟨_, q2, rfl, rfl⟩
  exact ⟨⟨_, q5, rfl⟩, k _ q5 q3 q4 i1 i2 fun c o e => up (up (up (up (up e))))⟩
end
end Tb
end

section
set_option maxHeartbeats 4000000
namespace Tb
open PySem PySem.Spec PyProof.Rows L2
open PySem.AutoSeq1 (wpAny_loadPart')
/-! ## enumerate of a tuple or list -/
section
variable {prog : Program} {w : World} {A : Around} {E : Value → Shared → Prop} {s : Shared} {b : Bool} {ee it l : Addr} {i : Nat} {xs : Array Value} {x old : Value}
theorem enumA_item {Q : Value → Shared → Prop} (fe : IsEnum s.heap ee it i old) (fi : ItA b s.heap it l i) (fs : SqA b s.heap l xs) (e1 : xs[i]? = some x) (ne : ee ≠ it)
    (k : ∀ g, IsEnumOut g ee it ((i : Int) + 1) x s.heap.objs.size → ItA b g it l (i + 1) → g.get? s.heap.objs.size = some { cls := .type "tuple", data := .seq #[.int i s.toks, x] } → g.objs.size = s.heap.objs.size + 1 →
      (∀ c o, c ≠ ee → c ≠ it → s.heap.get? c = some o → g.get? c = some o) → Q (.ref s.heap.objs.size) { s with heap := g, toks := s.toks + 1 }) :
    wpAny (model prog w) A (Builtin.«enumerate.__next__» ⟨[.ref ee], []⟩) (fun fin s' => ∃ v, fin = .done (.ret v) ∧ Q v s') E s := by
  obtain ⟨h0, gs, dr, tk, os⟩ := s
  show wpAny _ _ (field (.ref ee) 2 >>= _) _ _ _
  refine wpAny_bind (wpAny_field fe rfl (x := .ref it) rfl (wpAny_bind (nextA fi fs e1 fun u1 fi1 q1 => ?_)))
  have q1' : Heap.SameBut it h0 u1 := q1
  have fe1 : IsEnum u1 ee it i old := (q1'.2 ee ne).trans fe
  show wpAny _ _ (field (.ref ee) 3 >>= _) _ _ ⟨u1, gs, dr, tk, os⟩
  refine wpAny_bind (wpAny_field fe1 rfl (x := rawInt i) rfl ?_); show wpAny _ _ (field (.ref ee) 4 >>= _) _ _ ⟨u1, gs, dr, tk, os⟩
  refine wpAny_bind (wpAny_field fe1 rfl (x := .none) rfl ?_); show wpAny _ _ (mkInt i >>= _) _ _ ⟨u1, gs, dr, tk, os⟩
  refine wpAny_bind (wpAny_mkInt ?_); show wpAny _ _ (setField (.ref ee) 3 (rawInt ((i : Int) + 1)) >>= _) _ _ ⟨u1, gs, dr, tk + 1, os⟩
  refine wpAny_bind (wpAny_setField_rec fe1 (by simp) fun u2 z2 q2 => ?_)
  have q2' : Heap.SameBut ee u1 u2 := q2
  have fe2 : IsEnum u2 ee it ((i : Int) + 1) old := z2
  show wpAny _ _ (setField (.ref ee) 4 .none >>= _) _ _ ⟨u2, gs, dr, tk + 1, os⟩
  refine wpAny_bind (wpAny_setField_rec fe2 (by simp) fun u3 z3 q3 => ?_)
  have q3' : Heap.SameBut ee u2 u3 := q3
  have fe3 : IsEnum u3 ee it ((i : Int) + 1) old := z3
  show wpAny _ _ (newTuple [.int i tk, x] >>= _) _ _ ⟨u3, gs, dr, tk + 1, os⟩
  refine wpAny_bind (wpAny_newTuple ?_)
  have fe4 : IsEnum (u3.push { cls := .type "tuple", data := .seq #[.int i tk, x] }) ee it ((i : Int) + 1) old := Heap.get?_push_of_some _ fe3
  generalize eu : u3.push { cls := .type "tuple", data := .seq #[.int i tk, x] } = u4 at fe4
  have size : u3.objs.size = h0.objs.size := (q3'.1.trans q2'.1).trans q1'.1
  have le : ee < h0.objs.size := Heap.lt_size fe
  have made : u4.get? h0.objs.size = some { cls := .type "tuple", data := .seq #[.int i tk, x] } := by
    rw [← eu, ← size]
    exact Heap.get?_push_size _ rfl
  have size4 : u4.objs.size = h0.objs.size + 1 := by rw [← eu, Heap.size_push, size]
  have rest : ∀ c o, c ≠ ee → c ≠ it → h0.get? c = some o → u4.get? c = some o := fun c o n1 n2 e => by
    rw [← eu]
    exact Heap.get?_push_of_some _ (q3'.extBut c o n1 (q2'.extBut c o n1 (q1'.extBut c o n2 e)))
  have fi4 : ItA b u4 it l (i + 1) := by
    rw [← eu]
    exact ((fi1.but q2'.extBut ne.symm).but q3'.extBut ne.symm).of_at fun o e => Heap.get?_push_of_some _ e
  show wpAny _ _ (Builtin.SmallTypes.ownedTupleIsFree (.ref ee) >>= _) _ _ ⟨u4, gs, dr, tk + 1, os⟩
  rw [size]
  refine wpAny_bind ?_; unfold Builtin.SmallTypes.ownedTupleIsFree
  refine wpAny_bind (wpAny_field fe4 rfl (x := .none) rfl (wpAny_pure ?_)); simp only [if_true]
  refine wpAny_bind (wpAny_rule (wpAny_bind (wpAny_field fe4 rfl (x := old) rfl (wpAny_bind (wpAny_setField_rec fe4 (by simp) fun u5 z5 q5 => ?_)))))
  have q5' : Heap.SameBut ee u4 u5 := q5
  have fe5 : IsEnum u5 ee it ((i : Int) + 1) x := z5
  show wpAny _ _ (Builtin.SmallTypes.ownedTupleHandOut (.ref ee) (.ref h0.objs.size) >>= _) _ _ ⟨u5, gs, dr, tk + 1, os⟩
  refine wpAny_bind ?_; unfold Builtin.SmallTypes.ownedTupleHandOut
  refine wpAny_bind (wpAny_setField_rec fe5 (by simp) fun u6 z6 q6 => ?_)
  have q6' : Heap.SameBut ee u5 u6 := q6
  have fe6 : IsEnumOut u6 ee it ((i : Int) + 1) x h0.objs.size := z6
  refine wpAny_setField_rec fe6 (by simp) fun u7 z7 q7 => ?_
  have q7' : Heap.SameBut ee u6 u7 := q7
  have lift : ∀ c o, c ≠ ee → u4.get? c = some o → u7.get? c = some o := fun c o n e => q7'.extBut _ _ n (q6'.extBut _ _ n (q5'.extBut _ _ n e))
  exact wpAny_bind (wpAny_letGo (wpAny_pure ⟨_, rfl, k u7 z7 (fi4.of_at fun o e => lift _ o ne.symm e) (lift _ _ (Nat.ne_of_gt le) made) (by rw [q7'.1, q6'.1, q5'.1, size4]) fun c o n1 n2 e => lift c o n1 (rest c o n1 n2 e)⟩))
theorem pyNextE_item {Q : Option Value → Shared → Prop} (fe : IsEnum s.heap ee it i old) (fi : ItA b s.heap it l i) (fs : SqA b s.heap l xs) (e1 : xs[i]? = some x) (ne : ee ≠ it)
    (k : ∀ g, IsEnumOut g ee it ((i : Int) + 1) x s.heap.objs.size → ItA b g it l (i + 1) → g.get? s.heap.objs.size = some { cls := .type "tuple", data := .seq #[.int i s.toks, x] } → g.objs.size = s.heap.objs.size + 1 →
      (∀ c o, c ≠ ee → c ≠ it → s.heap.get? c = some o → g.get? c = some o) → Q (some (.ref s.heap.objs.size)) { s with heap := g, toks := s.toks + 1 }) : wpAny (model prog w) A (pyNext (.ref ee)) Q E s := by
  have ty : s.TypeIs (.ref ee) "enumerate" := ⟨_, fe, rfl⟩
  unfold pyNext
  refine wpAny_bind (wpAny_attempt (wpAny_callSpecial?_slot (name := Str.ofString "__next__") ty F.slot_enumerate_next (wpAny_call_entry F.slot_enumerate_next ty F.entry_enumerate_next ?_ (F.args_enumerate_next_1 _))))
  exact enumA_item fe fi fs e1 ne fun g a1 a2 a3 a4 a5 => wpAny_pure (k g a1 a2 a3 a4 a5)
theorem pyNextE_end {Q : Option Value → Shared → Prop} (hh : A.handled = none) (fe : IsEnum s.heap ee it i old) (fi : ItA b s.heap it l i) (fs : SqA b s.heap l xs) (e1 : xs[i]? = none) (k : ∀ g, Heap.ExtBut it s.heap g → Q none { s with heap := g }) :
    wpAny (model prog w) A (pyNext (.ref ee)) Q E s := by
  have ty : s.TypeIs (.ref ee) "enumerate" := ⟨_, fe, rfl⟩
  unfold pyNext
  refine wpAny_bind (wpAny_attempt (wpAny_callSpecial?_slot (name := Str.ofString "__next__") ty F.slot_enumerate_next (wpAny_call_entry F.slot_enumerate_next ty F.entry_enumerate_next ?_ (F.args_enumerate_next_1 _))))
  show wpAny _ _ (field (.ref ee) 2 >>= _) _ _ _
  refine wpAny_bind (wpAny_field fe rfl (x := .ref it) rfl (wpAny_bind (endA hh fi fs e1 fun g u keep ⟨o, h3, h4⟩ => ?_)))
  exact wpAny_bind (wpAny_isInstance (T := "StopIteration") (b := true) ⟨o, h3, h4⟩ isSubtype_stop (wpAny_pure (k _ keep)))
end
abbrev ea1 (b : Bool) (h : Heap) (l : Addr) : Heap := h.push { cls := .type (itName b), data := .fields #[.ref l, .int 0 0] }
abbrev ea2 (b : Bool) (h : Heap) (l : Addr) : Heap := (ea1 b h l).push { cls := .type "enumerate", data := .fields #[.none, .bool false, .ref h.objs.size, rawInt 0, .none, .none] }
theorem meets_enumT (l : Addr) (xs : Array Value) (n : Nat) (dct : Option Addr) (sl : Array (Option Value)) :
    Meets (Builtin.«enumerate.__new__» ⟨[.type "enumerate", .ref l], []⟩) (fun _ R s => s.heap.get? l = some { cls := .type "tuple", dict := dct, data := .seq xs n, slots := sl } ∧ R (.ok (.ret (.ref (ea1 true s.heap l).objs.size))) { s with heap := ea2 true s.heap l }) :=
  .of_wp fun prog w A R s h => by
    obtain ⟨hp, g, d, tk, os⟩ := s; obtain ⟨hl, h⟩ := h
    have hs := sub_enumerate
    have hT : Heap.IsTuple (Shared.heap ⟨hp, g, d, tk, os⟩) l xs := ⟨_, hl, rfl, n, rfl⟩
    wp_walk using wpAny_loadPart' hl
    refine wpAny_stack_any fun st => wpAny_pure ?_
    split
    · rename_i c _ _ _ _ _
      cases (c == Value.type "enumerate") <;> (wp_walk using wpAny_loadPart' hl, wpAny_pyIter_tuple hT; exact ⟨_, rfl, h⟩)
    · wp_walk using wpAny_loadPart' hl, wpAny_pyIter_tuple hT
      exact ⟨_, rfl, h⟩
section
variable {prog : Program} {w : World} {A : Around} {E : Value → Shared → Prop} {s : Shared} {b : Bool} {l : Addr} {xs : Array Value}
theorem call_enumA {Q : Value → Shared → Prop} (fs : SqA b s.heap l xs) (k : ∀ g, IsEnum g (s.heap.objs.size + 1) s.heap.objs.size 0 .none → ItA b g s.heap.objs.size l 0 → (∀ c o, s.heap.get? c = some o → g.get? c = some o) → Q (.ref (s.heap.objs.size + 1)) { s with heap := g }) :
    wpAny (model prog w) A (call (.type "enumerate") [.ref l]) Q E s := by
  cases b with
  | false => exact call_enumerate_list fs fun g a1 a2 _ a4 => k g a1 a2 a4
  | true =>
    obtain ⟨⟨c, dct, dt, sl⟩, hl, hc, n, hd⟩ := fs
    have hc' : c = .type "tuple" := hc
    have hd' : dt = .seq xs n := hd
    subst hc' hd'
    refine callType_new F.called_enumerate (by decide) (F.typeCall_enumerate_1 _) (F.newCall_enumerate_1 _) (fun obj => F.args_object_init_2 obj _) F.entry_enumerate_new (meets_enumT l xs n dct sl) ⟨hl, ?_⟩
    have n1 : (ea1 true s.heap l).objs.size = s.heap.objs.size + 1 := Heap.size_push ..
    show _ ∧ _
    rw [n1]
    have q2 : (ea2 true s.heap l).get? (ea1 true s.heap l).objs.size = some _ := Heap.get?_push_size _ rfl
    rw [n1] at q2
    have q1 : (ea2 true s.heap l).get? s.heap.objs.size = some _ := Heap.get?_push_of_some _ (Heap.get?_push_size _ rfl)
    exact ⟨⟨_, q2, rfl⟩, k _ q2 ⟨_, q1, rfl, rfl⟩ fun c o e => Heap.get?_push_of_some _ (Heap.get?_push_of_some _ e)⟩
end
/-! ## the two as iterators of the layer -/
def SqV (b : Bool) (K : PySem.W.Frag) (H : Hp) (a : Addr) (xs : List V) : Prop := match b with
  | true => SqT K H a xs
  | false => SqL K H a xs
section
variable {X : Cx} {pins : List (Addr × Obj)} {σ : L2.St} {H : Hp} {s : Shared} {b : Bool} {a : Addr} {xs ys : List V}
theorem SqV.its (I : L2.Inv X pins σ H s) (h : SqV b X.K H a xs) : ∃ its : List Value, Vals xs its ∧ SqA b s.heap a its.toArray := by
  cases b
  · obtain ⟨its, r, p, _⟩ := I.list h
    exact ⟨its, r, p.isList⟩
  · obtain ⟨its, r, p, _⟩ := I.tuple h
    exact ⟨its, r, p⟩
theorem SqV.inj (I : L2.Inv X pins σ H s) (h : SqV b X.K H a xs) (h' : SqV b X.K H a ys) : xs = ys := by
  cases b
  · exact I.list_inj h h'
  · exact I.tuple_inj h h'
theorem SqA.lt {b : Bool} {h : Heap} {l : Addr} {xs : Array Value} (q : SqA b h l xs) : l < h.objs.size := by
  cases b
  · obtain ⟨o, e, _⟩ := q
    exact Heap.lt_size e
  · obtain ⟨o, e, _⟩ := q
    exact Heap.lt_size e
end
def ItzA (K : PySem.W.Frag) (b1 b2 : Bool) (a c : Addr) : L2.It :=
  ⟨fun i H => ∃ (xs ys : List V) (x y : V), SqV b1 K H a xs ∧ SqV b2 K H c ys ∧ xs[i]? = some x ∧ ys[i]? = some y,
    fun i H v H' => ∃ T x y, v = .ref T ∧ H T = none ∧ H' = upd H T (.tup [x, y]) ∧ (∀ xs, SqV b1 K H a xs → xs[i]? = some x) ∧ ∀ ys, SqV b2 K H c ys → ys[i]? = some y,
    fun i H => ∃ xs ys : List V, SqV b1 K H a xs ∧ SqV b2 K H c ys ∧ (xs.length ≤ i ∨ ys.length ≤ i)⟩
def IteA (K : PySem.W.Frag) (b : Bool) (a : Addr) : L2.It :=
  ⟨fun i H => ∃ (xs : List V) (x : V), SqV b K H a xs ∧ xs[i]? = some x,
    fun i H v H' => ∃ T x, v = .ref T ∧ H T = none ∧ H' = upd H T (.tup [.int (i : Nat), x]) ∧ ∀ xs, SqV b K H a xs → xs[i]? = some x,
    fun i H => ∃ xs : List V, SqV b K H a xs ∧ xs.length ≤ i⟩
theorem five {α : Type} {c a1 a2 a3 a4 a5 : α} (h : c ∈ [a1, a2, a3, a4, a5]) : c = a1 ∨ c = a2 ∨ c = a3 ∨ c = a4 ∨ c = a5 := by simpa using h
theorem turn_zipA {P : Program} {w : World} {K : PySem.W.Frag} {elts : List Expr} {kk : Nat} {tpos : Pos} {b1 b2 : Bool} {la lb zz pI pO ia ib : Addr} (D : ZipApart zz pI pO ia ib la lb) :
    Turn P w K (.Tuple elts kk tpos) (ItzA K b1 b2 la lb) [zz, pI, pO, ia, ib] zz (fun i h => IsZip h zz pI pO .none ∧ IsPair h pI (.ref ia) (.ref ib) ∧ (∃ x y, IsPair h pO x y) ∧ ItA b1 h ia la i ∧ ItA b2 h ib lb i) where
  mem := List.Mem.head _
  obj := fun i h ⟨fz, fI, ⟨x, y, fO⟩, f1, f2⟩ c hc => by
    obtain ⟨o1, v1, q1, d1⟩ := f1.look
    obtain ⟨o2, v2, q2, d2⟩ := f2.look
    rcases five hc with e | e | e | e | e <;> rw [e]
    · exact ⟨_, fz, fun v z => nomatch z⟩
    · exact ⟨_, fI, fun v z => nomatch z⟩
    · exact ⟨_, fO, fun v z => nomatch z⟩
    · exact ⟨o1, q1, fun v z => by rw [d1] at z; cases z⟩
    · exact ⟨o2, q2, fun v z => by rw [d2] at z; cases z⟩
  keep := fun i h h' ⟨fz, fI, ⟨x, y, fO⟩, f1, f2⟩ k => ⟨k zz (by simp) _ fz, k pI (by simp) _ fI, ⟨x, y, k pO (by simp) _ fO⟩, f1.of_at fun o q => k ia (by simp) o q, f2.of_at fun o q => k ib (by simp) o q⟩
  item := by
    intro X hP hw hK hc i pins s σ H E I hf st hg
    subst hP hw hK
    obtain ⟨fz, fI, ⟨x0, y0, fO⟩, f1, f2⟩ := st
    obtain ⟨xs, ys, x, y, sx, sy, ex, ey⟩ := hg
    obtain ⟨its, r1, g1⟩ := sx.its I
    obtain ⟨its2, r2, g2⟩ := sy.its I
    obtain ⟨u, eu, ru⟩ := r1.get ex
    obtain ⟨u2, eu2, ru2⟩ := r2.get ey
    have lz : zz < s.heap.objs.size := Heap.lt_size fz
    refine pyNextA_item D fz fI fO f1 f2 g1 g2 (x := u) (y := u2) (by simpa using eu) (by simpa using eu2) fun g z' o' f1' f2' made size keep => ?_
    refine ⟨_, rfl, wpAny_letOwnedTupleGo_zip (s := { s with heap := g }) z' fun g2 z2 sb => ?_⟩
    have made2 : g2.get? s.heap.objs.size = some { cls := .type "tuple", data := .seq #[u, u2] } := (sb.2 _ (Nat.ne_of_gt lz)).trans made
    have newO : ObjOk X.prog X.w (upd H s.heap.objs.size (.tup [x, y])) g2 s.heap.objs.size (.tup [x, y]) := ⟨(by decide : 2 ≤ sizeLine), [u, u2], .cons ru (.cons ru2 .nil), ⟨_, made2, rfl, _, rfl⟩⟩
    have keep2 : ∀ c o, c ∉ [zz, pI, pO, ia, ib] → s.heap.get? c = some o → g2.get? c = some o := fun c o n q => by
      simp only [List.mem_cons, List.not_mem_nil, or_false, not_or] at n
      exact (sb.2 c n.1).trans (keep c o n.1 n.2.2.1 n.2.2.2.1 n.2.2.2.2 q)
    refine ⟨.ref s.heap.objs.size, _, I.turnedNew (t' := s.toks) (ch := [zz, pI, pO, ia, ib]) keep2 hf (Nat.le_refl _) newO, rfl, ⟨_, x, y, rfl, I.hok.fresh (Nat.le_refl _), rfl, fun l hl => by rw [hl.inj I sx]; exact ex, fun l hl => by rw [hl.inj I sy]; exact ey⟩,
      ⟨z2, (sb.2 _ D.TIz).trans (keep _ _ D.TIz D.TITO D.TIi1 D.TIi2 fI), ⟨u, u2, (sb.2 _ D.TOz).trans o'⟩, f1'.of_at fun o q => (sb.2 _ D.i1z).trans q, f2'.of_at fun o q => (sb.2 _ D.i2z).trans q⟩, fun c hcm => ?_⟩
    have lt : c < s.heap.objs.size := by
      obtain ⟨_, _, q1, _⟩ := f1.look
      obtain ⟨_, _, q2, _⟩ := f2.look
      rcases five hcm with e | e | e | e | e <;> rw [e]
      · exact lz
      · exact Heap.lt_size fI
      · exact Heap.lt_size fO
      · exact Heap.lt_size q1
      · exact Heap.lt_size q2
    rw [upd_ne (Nat.ne_of_lt lt)]
    exact (hf c hcm).1
  done := by
    intro X hP hw hK hc i pins s σ H E I hf st hg
    subst hP hw hK
    obtain ⟨fz, fI, ⟨x0, y0, fO⟩, f1, f2⟩ := st
    obtain ⟨xs, ys, sx, sy, stop⟩ := hg
    obtain ⟨its, r1, g1⟩ := sx.its I
    obtain ⟨its2, r2, g2⟩ := sy.its I
    have l1 := r1.length
    have l2 := r2.length
    have over : its.toArray[i]? = none ∨ its2.toArray[i]? = none := stop.imp (fun z => by simp; omega) fun z => by simp; omega
    exact pyNextA_end (I.ok.hd hc) D fz fI fO f1 f2 g1 g2 over fun g keep => ⟨rfl, I.turnedL (t' := s.toks) (ch := [zz, pI, pO, ia, ib]) (fun c o n q => by
      simp only [List.mem_cons, List.not_mem_nil, or_false, not_or] at n
      exact keep c o n.1 n.2.2.1 n.2.2.2.1 n.2.2.2.2 q) hf⟩
  self := fun A i s Q E st h => wpAny_pyIter_zip st.1 h
theorem turn_enumA {P : Program} {w : World} {K : PySem.W.Frag} {elts : List Expr} {kk : Nat} {tpos : Pos} {b : Bool} {a ee it : Addr} :
    Turn P w K (.Tuple elts kk tpos) (IteA K b a) [ee, it] ee (fun i h => (∃ old, IsEnum h ee it ((i : Nat) : Int) old) ∧ ItA b h it a i ∧ ee ≠ it) where
  mem := List.Mem.head _
  obj := fun i h ⟨⟨old, fe⟩, fi, _⟩ c hc => by
    obtain ⟨o1, v1, q1, d1⟩ := fi.look
    have hc' : c = ee ∨ c = it := by simpa using hc
    rcases hc' with e | e <;> rw [e]
    · exact ⟨_, fe, fun v z => nomatch z⟩
    · exact ⟨o1, q1, fun v z => by rw [d1] at z; cases z⟩
  keep := fun i h h' ⟨⟨old, fe⟩, fi, ne⟩ k => ⟨⟨old, k ee (by simp) _ fe⟩, fi.of_at fun o q => k it (by simp) o q, ne⟩
  item := by
    intro X hP hw hK hc i pins s σ H E I hf st hg
    subst hP hw hK
    obtain ⟨⟨old, fe⟩, fi, ne⟩ := st
    obtain ⟨xs, x, sx, ex⟩ := hg
    obtain ⟨its, r1, g1⟩ := sx.its I
    obtain ⟨u, eu, ru⟩ := r1.get ex
    obtain ⟨_, _, qi, _⟩ := fi.look
    have le : ee < s.heap.objs.size := Heap.lt_size fe
    have li : it < s.heap.objs.size := Heap.lt_size qi
    refine pyNextE_item fe fi g1 (x := u) (by simpa using eu) ne fun g out fi' made size keep => ?_
    refine ⟨_, rfl, wpAny_letOwnedTupleGo_enum (s := { s with heap := g, toks := s.toks + 1 }) out fun g2 fe2 sb => ?_⟩
    have made2 : g2.get? s.heap.objs.size = some { cls := .type "tuple", data := .seq #[.int i s.toks, u] } := (sb.2 _ (Nat.ne_of_gt le)).trans made
    have newO : ObjOk X.prog X.w (upd H s.heap.objs.size (.tup [.int (i : Nat), x])) g2 s.heap.objs.size (.tup [.int (i : Nat), x]) := ⟨(by decide : 2 ≤ sizeLine), [.int i s.toks, u], .cons ⟨_, rfl⟩ (.cons ru .nil), ⟨_, made2, rfl, _, rfl⟩⟩
    have keep2 : ∀ c o, c ∉ [ee, it] → s.heap.get? c = some o → g2.get? c = some o := fun c o n q => by
      simp only [List.mem_cons, List.not_mem_nil, or_false, not_or] at n
      exact (sb.2 c n.1).trans (keep c o n.1 n.2 q)
    refine ⟨.ref s.heap.objs.size, _, I.turnedNew (t' := s.toks + 1) (ch := [ee, it]) keep2 hf (Nat.le_refl _) newO, rfl, ⟨_, x, rfl, I.hok.fresh (Nat.le_refl _), rfl, fun l hl => by rw [hl.inj I sx]; exact ex⟩, ⟨⟨u, ?_⟩, fi'.of_at fun o q => (sb.2 it ne.symm).trans q, ne⟩, fun c hcm => ?_⟩
    · rw [show ((i + 1 : Nat) : Int) = (i : Int) + 1 by omega]
      exact fe2
    · have hc' : c = ee ∨ c = it := by simpa using hcm
      have lt : c < s.heap.objs.size := by
        rcases hc' with e | e <;> rw [e]
        · exact le
        · exact li
      rw [upd_ne (Nat.ne_of_lt lt)]
      exact (hf c hcm).1
  done := by
    intro X hP hw hK hc i pins s σ H E I hf st hg
    subst hP hw hK
    obtain ⟨⟨old, fe⟩, fi, ne⟩ := st
    obtain ⟨xs, sx, stop⟩ := hg
    obtain ⟨its, r1, g1⟩ := sx.its I
    have l1 := r1.length
    exact pyNextE_end (I.ok.hd hc) fe fi g1 (by simp; omega) fun g keep => ⟨rfl, I.turnedL (t' := s.toks) (ch := [ee, it]) (fun c o n q => by
      simp only [List.mem_cons, List.not_mem_nil, or_false, not_or] at n
      exact keep c o n.2 q) hf⟩
  self := fun A i s Q E st h => let ⟨⟨_, fe⟩, _⟩ := st; wpAny_pyIter_enum fe h
end Tb
end

section
set_option maxHeartbeats 4000000
namespace Tb
open PySem PySem.Spec PyProof.Rows L2
/-! ## zip, enumerate: the mirrors -/
def srcOf (h : MH) : D → Option (Bool × List D × Gd)
  | .tup xs => some (true, xs, none)
  | .lst xs => some (false, xs, none)
  | .ref n => match h.get n with
    | some (.lst xs) => some (false, xs, some (n, xs))
    | none => none
  | _ => none
/-- what is walked, at every later time -/
def SrcAt (K : PySem.W.Frag) (w : W3) (b : Bool) (a : Addr) (xs : List D) (g : Gd) : Prop := ∀ w', Ext w w' → Ok K w' → gOk g w'.h → ∃ vs, SqV b K w'.H a vs ∧ Reps K w' xs vs
theorem src_at {K : PySem.W.Frag} {w : W3} {d : D} {v : V} {b : Bool} {xs : List D} {g : Gd} (k0 : Ok K w) (r : Rep K w d v) (e : srcOf w.h d = some (b, xs, g)) : ∃ a, v = .ref a ∧ SrcAt K w b a xs g ∧ gOk g w.h := by
  cases d with
  | tup ys =>
    cases e
    simp only [Rep] at r
    obtain ⟨a, vs, rfl, h2, h3⟩ := r
    exact ⟨a, rfl, fun w' x k _ => ⟨vs, (h2.ext x).sq, h3.ext x⟩, trivial⟩
  | lst ys =>
    cases e
    simp only [Rep] at r
    obtain ⟨a, vs, rfl, h2, h3⟩ := r
    exact ⟨a, rfl, fun w' x k _ => ⟨vs, (h2.ext x).sq, h3.ext x⟩, trivial⟩
  | ref n =>
    simp only [srcOf] at e
    split at e
    · rename_i ys hn
      cases e
      simp only [Rep] at r
      obtain ⟨hlt, rfl⟩ := r
      refine ⟨_, rfl, fun w' x k g => ?_, hn⟩
      obtain ⟨vs, q1, q2⟩ := (k.dom n _ g).2
      rw [x.io n hlt] at q1
      exact ⟨vs, SqL.of q1, q2⟩
    · cases e
  | _ => simp [srcOf] at e
theorem SrcAt.ext {K : PySem.W.Frag} {w w1 : W3} {b : Bool} {a : Addr} {xs : List D} {g : Gd} (h : SrcAt K w b a xs g) (x : Ext w w1) : SrcAt K w1 b a xs g := fun w' x' k q => h w' (x.trans x') k q
def pairD (x y : D) : D := .tup [x, y]
theorem walks_zipA {K : PySem.W.Frag} {w : W3} {b1 b2 : Bool} {a c : Addr} {xs ys : List D} {g1 g2 g : Gd} (s1 : SrcAt K w b1 a xs g1) (s2 : SrcAt K w b2 c ys g2) (hg : ∀ h, gOk g h → gOk g1 h ∧ gOk g2 h) : Walks K w (ItzA K b1 b2 a c) (List.zipWith pairD xs ys, g) := by
  refine ⟨fun i w' x k q hi => ?_, fun i w' y H' d x k q e hy => ?_, fun w' x k q => ?_⟩
  · obtain ⟨vs, q1, q2⟩ := s1 w' x k (hg _ q).1
    obtain ⟨us, q3, q4⟩ := s2 w' x k (hg _ q).2
    simp only [List.length_zipWith] at hi
    have l1 := q2.length
    have l2 := q4.length
    exact ⟨vs, us, vs[i]'(by omega), us[i]'(by omega), q1, q3, by simp, by simp⟩
  · obtain ⟨vs, q1, q2⟩ := s1 w' x k (hg _ q).1
    obtain ⟨us, q3, q4⟩ := s2 w' x k (hg _ q).2
    obtain ⟨T, u, v, rfl, hT, rfl, h1, h2⟩ := hy
    rw [List.getElem?_zipWith] at e
    split at e
    · rename_i d1 d2 e1 e2
      cases e
      obtain ⟨z1, e3, p1⟩ := q2.get e1
      obtain ⟨z2, e4, p2⟩ := q4.get e2
      have e5 := h1 vs q1
      have e6 := h2 us q3
      rw [e3] at e5
      rw [e4] at e6
      cases e5
      cases e6
      exact ⟨w'.lay T (.tup [u, v]), rfl, rfl, Ext.lay k hT, k.lay hT, Rep.layTup k hT (Reps.cons p1 (Reps.cons p2 Reps.nil))⟩
    · cases e
  · obtain ⟨vs, q1, q2⟩ := s1 w' x k (hg _ q).1
    obtain ⟨us, q3, q4⟩ := s2 w' x k (hg _ q).2
    have l1 := q2.length
    have l2 := q4.length
    refine ⟨vs, us, q1, q3, ?_⟩
    simp only [List.length_zipWith]
    omega
theorem walks_enumA {K : PySem.W.Frag} {w : W3} {b : Bool} {a : Addr} {xs : List D} {g : Gd} (s1 : SrcAt K w b a xs g) : Walks K w (IteA K b a) (xs.mapIdx fun i x => pairD (.int (i : Nat)) x, g) := by
  refine ⟨fun i w' x k q hi => ?_, fun i w' y H' d x k q e hy => ?_, fun w' x k q => ?_⟩
  · obtain ⟨vs, q1, q2⟩ := s1 w' x k q
    simp only [List.length_mapIdx] at hi
    have l1 := q2.length
    exact ⟨vs, vs[i]'(by omega), q1, by simp⟩
  · obtain ⟨vs, q1, q2⟩ := s1 w' x k q
    obtain ⟨T, v, rfl, hT, rfl, h1⟩ := hy
    rw [List.getElem?_mapIdx, Option.map_eq_some_iff] at e
    obtain ⟨d1, e1, rfl⟩ := e
    obtain ⟨z1, e3, p1⟩ := q2.get e1
    have e5 := h1 vs q1
    rw [e3] at e5
    cases e5
    exact ⟨w'.lay T (.tup [.int (i : Nat), v]), rfl, rfl, Ext.lay k hT, k.lay hT, Rep.layTup k hT (Reps.cons (rep_int.mpr rfl) (Reps.cons p1 Reps.nil))⟩
  · obtain ⟨vs, q1, q2⟩ := s1 w' x k q
    have l1 := q2.length
    refine ⟨vs, q1, ?_⟩
    simp only [List.length_mapIdx]
    omega
def zipOf (d e : D) (h : MH) : R (List D × Gd) := match srcOf h d, srcOf h e with
  | some (_, xs, none), some (_, ys, g) => .ok (List.zipWith pairD xs ys, g) h
  | some (_, xs, some g), some (_, ys, none) => .ok (List.zipWith pairD xs ys, some g) h
  | _, _ => .bad
def mZip (a b : ME) : MI := fun s h => (a s h).bind fun d h1 => (b s h1).bind fun e h2 => zipOf d e h2
def enumOf (d : D) (h : MH) : R (List D × Gd) := match srcOf h d with
  | some (_, xs, g) => .ok (xs.mapIdx fun i x => pairD (.int (i : Nat)) x, g) h
  | none => .bad
def mEnum (a : ME) : MI := fun s h => (a s h).bind enumOf
section
variable {X : Cx} {E : XK} {e e2 : Expr} {m m2 : ME} {p pos tpos : Pos} {elts : List Expr} {kk : Nat}
theorem mi_zip (hg : Gl X "zip") (hm : X.mg "zip" = none) (ha : PE X e (tM X.K E m)) (hb : PE X e2 (tM X.K E m2)) (hs : starEach [e, e2] X.env = (false, eval e X.env) :: starEach [e2] X.env) (hs2 : starEach [e2] X.env = [(false, eval e2 X.env)])
    (hpl : (backTo pos (starEach [e2] X.env)).any (·.1) = false) : PI X (.Tuple elts kk tpos) (.Call (.Name "zip" p) [e, e2] [] pos) (tMI X.K E (mZip m m2)) := by
  refine ⟨fun pins s σ H R I hq => ?_⟩
  obtain ⟨w, sl, eH, k, r, q⟩ := hq
  subst eH
  have hargs : PA X [e, e2] (tCons (tM X.K E m) (tCons (tM X.K E m2) tNil)) := pa_cons ha (pa_cons hb pa_nil hs2) hs
  have hq1 : tCons (tM X.K E m) (tCons (tM X.K E m2) tNil) σ w.H fun vs H1 => ∃ (w2 : W3) (d1 d2 : D) (v1 v2 : V), vs = [v1, v2] ∧ w2.H = H1 ∧ Ok X.K w2 ∧ Rep X.K w2 d1 v1 ∧ Rep X.K w2 d2 v2 ∧ PostW X.K E (RelI X.K) w2 (zipOf d1 d2 w2.h) fun _ w' J => R J w'.H := by
    refine tM_at k r ((PostW.bind (Rel := RepD X.K) q).imp fun d1 w1 v1 x1 k1 p1 q1 => ?_)
    refine tM_at k1 (r.ext x1) ((PostW.bind (Rel := RepD X.K) q1).imp fun d2 w2 v2 x2 k2 p2 q2 => ?_)
    exact ⟨w2, d1, d2, v1, v2, rfl, rfl, k2, p1.ext x2, p2, q2⟩
  refine Call_ (ld_blt I hg hm PyProof.Rows.boot_zip (PyProof.Rows.callWith_type1 (thn (hargs.run pos pins s σ w.H _ I hq1) fun us s1 hv => ?_) hs hpl))
  obtain ⟨vs, H1, I1, rv, w2, d1, d2, v1, v2, rfl, e1, k2, p1, p2, q2⟩ := hv
  subst e1
  have core : ∀ {b1 b2 : Bool} {xs ys : List D} {g1 g2 g : Gd}, srcOf w2.h d1 = some (b1, xs, g1) → srcOf w2.h d2 = some (b2, ys, g2) → (∀ h, gOk g h → gOk g1 h ∧ gOk g2 h) →
      PostW X.K E (RelI X.K) w2 (.ok (List.zipWith pairD xs ys, g) w2.h) (fun _ w' J => R J w'.H) → wpAny (model X.prog X.w) X.A (call (.type "zip") us) (fun v s2 => wpAny (model X.prog X.w) X.A (pyIter v) (PIE X pins σ (.Tuple elts kk tpos) R) X.xe s2) X.xe s1 := by
    intro b1 b2 xs ys g1 g2 g e1 e2 hgg q3
    obtain ⟨a, rfl, s1', o1⟩ := src_at k2 p1 e1
    obtain ⟨c, rfl, s2', o2⟩ := src_at k2 p2 e2
    obtain ⟨vs1, sv1, _⟩ := s1' w2 (Ext.refl _) k2 o1
    obtain ⟨vs2, sv2, _⟩ := s2' w2 (Ext.refl _) k2 o2
    obtain ⟨its, r1, ga⟩ := sv1.its I1
    obtain ⟨its2, r2, gb⟩ := sv2.its I1
    cases rv with
    | cons ra rv =>
      cases rv with
      | cons rb rv =>
        cases rv
        cases ra
        cases rb
        refine call_zipA ga gb fun gg z1 z2 z3 z4 z5 keep => wpAny_pyIter_zip z1 ?_
        have I2 : L2.Inv X pins σ w2.H { s1 with heap := gg } := I1.kept (t' := s1.toks) keep
        refine ⟨s1.heap.objs.size + 4, [s1.heap.objs.size + 4, s1.heap.objs.size + 2, s1.heap.objs.size + 3, s1.heap.objs.size, s1.heap.objs.size + 1], _, ItzA X.K b1 b2 a c, w2.H, rfl, I2, turn_zipA (PySem.W.ktu_apart s1.heap.objs.size a c ga.lt gb.lt), ⟨z1, z2, ⟨_, _, z3⟩, z4, z5⟩, fun t ht => ?_, ?_⟩
        · have le : s1.heap.objs.size ≤ t := by
            rcases five ht with z | z | z | z | z <;> rw [z] <;> first | exact Nat.le_add_right _ _ | exact Nat.le_refl _
          exact I1.fpOk le (I1.hok.fresh le)
        · exact PostW.here (Rel := RelI X.K) q3 k2 (walks_zipA s1' s2' hgg)
  unfold zipOf at q2
  split at q2
  · rename_i b1 xs b2 ys g e1 e2
    exact core e1 e2 (fun h z => ⟨trivial, z⟩) q2
  · rename_i b1 xs g b2 ys e1 e2
    exact core e1 e2 (fun h z => ⟨z, trivial⟩) q2
  · exact q2.elim
theorem mi_enum (hg : Gl X "enumerate") (hm : X.mg "enumerate" = none) (ha : PE X e (tM X.K E m)) (hs : starEach [e] X.env = [(false, eval e X.env)]) : PI X (.Tuple elts kk tpos) (.Call (.Name "enumerate" p) [e] [] pos) (tMI X.K E (mEnum m)) := by
  refine ⟨fun pins s σ H R I hq => ?_⟩
  obtain ⟨w, sl, eH, k, r, q⟩ := hq
  subst eH
  have hargs : PA X [e] (tCons (tM X.K E m) tNil) := pa_cons ha pa_nil hs
  have hq1 : tCons (tM X.K E m) tNil σ w.H fun vs H1 => ∃ (w2 : W3) (d1 : D) (v1 : V), vs = [v1] ∧ w2.H = H1 ∧ Ok X.K w2 ∧ Rep X.K w2 d1 v1 ∧ PostW X.K E (RelI X.K) w2 (enumOf d1 w2.h) fun _ w' J => R J w'.H := by
    refine tM_at k r ((PostW.bind (Rel := RepD X.K) q).imp fun d1 w1 v1 x1 k1 p1 q1 => ?_)
    exact ⟨w1, d1, v1, rfl, rfl, k1, p1, q1⟩
  refine Call_ (ld_blt I hg hm boot_enumerate (PyProof.Rows.callWith_type1 (thn (hargs.run pos pins s σ w.H _ I hq1) fun us s1 hv => ?_) hs rfl))
  obtain ⟨vs, H1, I1, rv, w2, d1, v1, rfl, e1, k2, p1, q2⟩ := hv
  subst e1
  unfold enumOf at q2
  split at q2
  · rename_i b xs g e1
    obtain ⟨a, rfl, s1', o1⟩ := src_at k2 p1 e1
    obtain ⟨vs1, sv1, _⟩ := s1' w2 (Ext.refl _) k2 o1
    obtain ⟨its, r1, ga⟩ := sv1.its I1
    cases rv with
    | cons ra rv =>
      cases rv
      cases ra
      refine call_enumA ga fun gg z1 z2 keep => wpAny_pyIter_enum z1 ?_
      have I2 : L2.Inv X pins σ w2.H { s1 with heap := gg } := I1.kept (t' := s1.toks) keep
      refine ⟨s1.heap.objs.size + 1, [s1.heap.objs.size + 1, s1.heap.objs.size], _, IteA X.K b a, w2.H, rfl, I2, turn_enumA, ⟨⟨.none, z1⟩, z2, Nat.succ_ne_self _⟩, fun t ht => ?_, ?_⟩
      · have ht' : t = s1.heap.objs.size + 1 ∨ t = s1.heap.objs.size := by simpa using ht
        have le : s1.heap.objs.size ≤ t := by
          rcases ht' with z | z <;> rw [z] <;> first | exact Nat.le_add_right _ _ | exact Nat.le_refl _
        exact I1.fpOk le (I1.hok.fresh le)
      · exact PostW.here (Rel := RelI X.K) q2 k2 (walks_enumA s1')
  · exact q2.elim
end
end Tb
end

section
set_option maxHeartbeats 4000000
namespace Tb
open PySem PySem.Spec L2
/-! ## comprehensions -/
def wipeM (s : Sl) : List Nat → Sl
  | [] => s
  | v :: vs => (wipeM s vs).set v none
theorem SRep.wipe {K : PySem.W.Frag} {w : W3} {s : Sl} {σ : L2.St} (h : SRep K w s σ) : ∀ vs, SRep K w (wipeM s vs) (L2.wipe σ vs)
  | [] => h
  | v :: vs => (SRep.wipe h vs).unset v
theorem wipe_sub {vs : List Nat} {σ : L2.St} : ∀ us : List Nat, (∀ u ∈ us, u ∈ vs) → L2.wipe (L2.wipe σ us) vs = L2.wipe σ vs
  | [], _ => rfl
  | u :: us, h => by
    show L2.wipe ((L2.wipe σ us).set u none) vs = _
    rw [wipe_set (h u List.mem_cons_self)]
    exact wipe_sub us fun x hx => h x (List.mem_cons_of_mem _ hx)
theorem wipe_idem {vs : List Nat} {σ : L2.St} : L2.wipe (L2.wipe σ vs) vs = L2.wipe σ vs := wipe_sub vs fun _ h => h
open Classical in
noncomputable def compLoop (g : Gd) (tg : MG) (tt : MT) (el : ME) (s : Sl) : List D → List D → MH → R (List D)
  | [], acc, h => if gOk g h then .ok acc h else .bad
  | x :: xs, acc, h => if gOk g h then (match tg x s with
      | some s1 => (match tt s1 h with
        | .ok b h1 => if b = true then (match el s1 h1 with
            | .ok y h2 => if acc.length < sizeLine then compLoop g tg tt el s xs (acc ++ [y]) h2 else .bad
            | _ => .bad) else compLoop g tg tt el s xs acc h1
        | _ => .bad)
      | none => .bad) else .bad
noncomputable def mComp (it : MI) (vs : List Nat) (tg : MG) (tt : MT) (el : ME) : MA := fun s h => (it s h).bind fun p h1 => compLoop p.2 tg tt el (wipeM s vs) p.1 [] h1
/-- what becomes of the list that was made -/
abbrev Fn1 := List D → MH → R D
def FinOk (K : PySem.W.Frag) (f : Fn1) : Prop := ∀ (E : XK) (w1 w2 : W3) (p : Addr) (xs : List D) (vs : List V) (Q : V → Hp → Prop), Ext w1 w2 → Ok K w1 → Ok K w2 → w1.H p = none → w2.bar p → w2.H p = some (.lst vs) → Reps K w2 xs vs →
  PostW K E (RepD K) w1 (f xs w2.h) (fun _ w' v => Q v w'.H) → Q (.ref p) w2.H
def finL : Fn1 := fun xs h => .ok (.lst xs) h
def finH : Fn1 := fun xs h => .ok (.ref h.next) (h.new (.lst xs))
theorem fin_l {K : PySem.W.Frag} : FinOk K finL := by
  intro E w1 w2 p xs vs Q x k1 k2 hp hb hl r q
  refine q (w2.free p) (.ref p) rfl (x.free k1 hp) k2.freeB ?_
  simp only [Rep]
  refine ⟨p, vs, rfl, ⟨hl, fun z => ?_⟩, r.ext0 Ext0.free⟩
  rcases z with ⟨n, o, h1, h2⟩ | z
  · exact k2.barO n o h1 (by rw [show w2.io n = p from h2]; exact hb)
  · exact z.2 rfl
theorem fin_h {K : PySem.W.Frag} : FinOk K finH := by
  intro E w1 w2 p xs vs Q x k1 k2 hp hb hl r q
  have np : ¬ Own (w2.free p) p := fun z => by
    rcases z with ⟨n, o, h1, h2⟩ | z
    · exact k2.barO n o h1 (by rw [show w2.io n = p from h2]; exact hb)
    · exact z.2 rfl
  have e0 : Ext0 w2 ((w2.free p).adopt p (.lst xs)) := Ext0.adopt hb
  refine q ((w2.free p).adopt p (.lst xs)) (.ref p) rfl ((x.free k1 hp).adopt k2.freeB hp) (Ok.adopt k2.freeB np hl (r.ext0 e0) fun n o h => (k2.dom n o h).2.ext0 e0 rfl) ?_
  simp only [Rep]
  exact ⟨Nat.lt_succ_self _, congrArg V.ref (if_pos rfl).symm⟩
section
variable {X : Cx} {E : XK} {K : PySem.W.Frag} {mi : MI} {g : TG} {mg : MG} {mt : MT} {me : ME} {vs : List Nat} {f : Fn1}
theorem tLc_of (gk : GOk K vs g mg) (fk : FinOk K f) {σ : L2.St} {H : Hp} {Q : VK} (hq : tM K E (fun s h => (mComp mi vs mg mt me s h).bind f) σ H Q) : tLc (tMI K E mi) g (tMT K E0 mt) (tM K E0 me) vs σ H Q := by
  obtain ⟨w, s, e, k, r, q⟩ := hq
  subst e
  have q' : PostW K E (RepD K) w ((mi s w.h).bind fun p h1 => (compLoop p.2 mg mt me (wipeM s vs) p.1 [] h1).bind f) fun _ w' v => Q v w'.H := by
    have e1 : (mi s w.h).bind (fun p h1 => (compLoop p.2 mg mt me (wipeM s vs) p.1 [] h1).bind f) = (mComp mi vs mg mt me s w.h).bind f := by
      unfold mComp
      cases mi s w.h <;> rfl
    rw [e1]; exact q
  refine ⟨w, s, rfl, k, r, (PostW.bind (Rel := RelI K) q').imp fun p w1 J x1 k1 wk q1 => fun L hL => ?_⟩
  have hr := (r.ext x1).wipe vs
  generalize er : compLoop p.2 mg mt me (wipeM s vs) p.1 [] w1.h = r0 at q1
  -- at each turn what is left comes to the same
  refine ⟨fun i m H' => m = p.1.length - i ∧ i ≤ p.1.length ∧ ∃ w' acc vacc, w'.H = H' ∧ Ext w1 w' ∧ Ok K w' ∧ w'.bar L ∧ w'.H L = some (.lst vacc) ∧ Reps K w' acc vacc ∧
      compLoop p.2 mg mt me (wipeM s vs) (p.1.drop i) acc w'.h = r0,
    ⟨p.1.length, by simp, Nat.zero_le _, w1.bare L (.lst []), [], [], rfl, Ext.bare k1 hL, k1.bare hL, .inr rfl, upd_same, Reps.nil, by rw [List.drop_zero]; exact er⟩, ?_⟩
  rintro i m H' ⟨rfl, hi', w', acc, vacc, rfl, x', k', hb, hl, ra, eq⟩
  have wk' := fun (z : gOk p.2 w'.h) => z
  by_cases hlt : i < p.1.length
  · rw [List.drop_eq_getElem_cons hlt] at eq
    unfold compLoop at eq
    split at eq
    · rename_i hgd
      split at eq
      · rename_i s1 hs1
        refine .inr ⟨wk.go i w' x' k' hgd hlt, fun H2 => ∃ w2 acc2 vacc2, w2.H = H2 ∧ Ext w1 w2 ∧ Ok K w2 ∧ w2.bar L ∧ w2.H L = some (.lst vacc2) ∧ Reps K w2 acc2 vacc2 ∧
            compLoop p.2 mg mt me (wipeM s vs) (p.1.drop (i + 1)) acc2 w2.h = r0, fun H2 z => ?_, fun x H2 hy => ?_⟩
        · obtain ⟨w2, acc2, vacc2, a1, a2, a3, a4, a5, a6, a7⟩ := z
          exact ⟨p.1.length - (i + 1), by omega, rfl, hlt, w2, acc2, vacc2, a1, a2, a3, a4, a5, a6, a7⟩
        · obtain ⟨w2, e2, eh, x2, k2, p2⟩ := wk.yl i w' x H2 _ x' k' hgd (List.getElem?_eq_getElem hlt) hy
          subst e2
          have xx := x'.trans x2
          obtain ⟨hb2, hl2⟩ := x2.ba L hb
          rw [hl] at hl2
          have bad : ∀ {Z : Prop}, (R.bad : R (List D)) = r0 → Z := fun ez => by
            rw [← ez] at q1
            exact q1.elim
          refine gk x (L2.wipe σ vs) w2 _ (wipeM s vs) s1 _ k2 (hr.ext xx) p2 hs1 fun σ3 r3 wq => ?_
          refine ⟨wq.trans wipe_idem, ?_⟩
          refine tMT_at k2 r3 ?_
          rw [eh]
          cases ht : mt s1 w'.h with
          | bad => rw [ht] at eq; exact bad eq
          | exc ex hx => rw [ht] at eq; exact bad eq
          | ok b h1 =>
            rw [ht] at eq
            intro w3 b' e3 x3 k3 eb
            subst eb
            cases b with
            | false =>
              rw [if_neg Bool.false_ne_true]
              simp only [Bool.false_eq_true, if_false] at eq
              obtain ⟨hb3, hl3⟩ := x3.ba L hb2
              exact ⟨w3, acc, vacc, rfl, xx.trans x3, k3, hb3, by rw [hl3, hl2], ra.ext (x2.trans x3), by rw [e3]; exact eq⟩
            | true =>
              rw [if_pos rfl]
              simp only [if_true] at eq
              refine tM_at k3 (r3.ext x3) ?_
              rw [e3]
              cases he : me s1 h1 with
              | bad => rw [he] at eq; exact bad eq
              | exc ex hx => rw [he] at eq; exact bad eq
              | ok y h2 =>
                rw [he] at eq
                simp only at eq
                intro w4 v e4 x4 k4 p4
                have x24 := x2.trans (x3.trans x4)
                obtain ⟨hb4, hl4⟩ := (x3.trans x4).ba L hb2
                rw [hl2] at hl4
                have hlen := ra.length
                split at eq
                · rename_i hz
                  refine ⟨vacc, hl4, by rw [← hlen]; exact hz, w4.barPut L (.lst (vacc ++ [v])), acc ++ [y], vacc ++ [v], rfl, (xx.trans (x3.trans x4)).barPut k1 hL, k4.barPut hb4, hb4, upd_same, ?_, by
                    show compLoop _ _ _ _ _ _ _ w4.h = _
                    rw [e4]; exact eq⟩
                  exact ((ra.ext x24).append (Reps.cons p4 Reps.nil)).ext0 (Ext0.barPut hb4)
                · exact bad eq
      · rw [← eq] at q1; exact q1.elim
    · rw [← eq] at q1; exact q1.elim
  · have e : i = p.1.length := by omega
    subst e
    rw [List.drop_length] at eq
    unfold compLoop at eq
    split at eq
    · rename_i hgd
      rw [← eq] at q1
      exact .inl ⟨wk.st w' x' k' hgd, fk E w1 w' L acc vacc Q x' k1 k' hL hb hl ra q1⟩
    · rw [← eq] at q1; exact q1.elim
end
/-- a clause's tests: none, one -/
theorem pts_imp {X : Cx} {ifs : List Expr} {t t' : TT} (h : PTs X ifs t) (hi : ∀ σ H Q, t' σ H Q → t σ H Q) : PTs X ifs t' := ⟨fun pins s σ H Q I q => h.run pins s σ H Q I (hi σ H Q q)⟩
def mYes : MT := fun _ h => .ok true h
theorem mts_nil {X : Cx} {E : XK} : PTs X [] (tMT X.K E mYes) := by
  refine pts_imp pts_nil fun σ H Q hq => ?_
  obtain ⟨w, s, e, k, r, q⟩ := hq
  subst e
  exact PostW.here (Rel := EqB) q k rfl
theorem mts_one {X : Cx} {E : XK} {c : Expr} {mt : MT} (h : PT X c (tMT X.K E mt)) : PTs X [c] (tMT X.K E mt) := pts_one h
section
variable {X : Cx} {E : XK} {mi : MI} {g : TG} {mg : MG} {mt : MT} {me : ME} {f : Fn1} {elt tg iter : Expr} {ifs : List Expr} {scope : Scope} {own : List (Str × Nat)} {pos spos py : Pos}
theorem me_lc (hc : X.calm = true) (hN : X.N.Nodup) (hi : PI X tg iter (tMI X.K E mi)) (ok : BlkOk X.N X.env.scope scope own) (gk : GOk X.K (own.map (·.2)) g mg) (fk : FinOk X.K f)
    (hg : ∀ (s : Shared) (H : Hp) (C : Addr) (cl : List (Str × Addr)) (fp : List Addr), PG (X.blk s H scope (compEnvC scope cl C X.env) fp) tg g)
    (ht : ∀ (s : Shared) (H : Hp) (C : Addr) (cl : List (Str × Addr)) (fp : List Addr), PTs (X.blk s H scope (compEnvC scope cl C X.env) fp) ifs (tMT X.K E0 mt))
    (he : ∀ (s : Shared) (H : Hp) (C : Addr) (cl : List (Str × Addr)) (fp : List Addr), PE (X.blk s H scope (compEnvC scope cl C X.env) fp) elt (tM X.K E0 me)) (hs : ∀ x, foldedSetIterable iter X.env x = pure x) :
    PE X (.ListComp elt [⟨tg, iter, ifs, 0⟩] scope pos) (tM X.K E fun s h => (mComp mi (own.map (·.2)) mg mt me s h).bind f) :=
  pe_imp (pe_lc hc hN hi ok hg ht he hs) fun _ _ _ h => tLc_of gk fk h
theorem ms_setLc {i : Nat} {y : Str} (hc : X.calm = true) (hN : X.N.Nodup) (hy : X.N[i]? = some y) (hyl : X.env.scope.names.lookup y = some .local)
    (hsw : swapsWith (.ListComp elt [⟨tg, iter, ifs, 0⟩] scope pos) (some (.Name y py)) spos.line X.env = pure true)
    (hi : PI X tg iter (tMI X.K E mi)) (ok : BlkOk X.N X.env.scope scope own) (gk : GOk X.K (own.map (·.2)) g mg) (fk : FinOk X.K f)
    (hg : ∀ (s : Shared) (H : Hp) (C : Addr) (cl : List (Str × Addr)) (fp : List Addr), PG (X.blk s H scope (compEnvC scope cl C X.env) fp) tg g)
    (ht : ∀ (s : Shared) (H : Hp) (C : Addr) (cl : List (Str × Addr)) (fp : List Addr), PTs (X.blk s H scope (compEnvC scope cl C X.env) fp) ifs (tMT X.K E0 mt))
    (he : ∀ (s : Shared) (H : Hp) (C : Addr) (cl : List (Str × Addr)) (fp : List Addr), PE (X.blk s H scope (compEnvC scope cl C X.env) fp) elt (tM X.K E0 me)) (hs : ∀ x, foldedSetIterable iter X.env x = pure x) :
    PS X (.Assign [.Name y py] (.ListComp elt [⟨tg, iter, ifs, 0⟩] scope pos) spos) (tAsg (tM X.K E fun s h => (mComp mi (own.map (·.2)) mg mt me s h).bind f) (gName i)) :=
  ps_imp (ps_setLc hc hN hy hyl hsw hi ok hg ht he hs) fun _ _ _ h => tLc_of gk fk h
end
end Tb
end

section
set_option maxHeartbeats 4000000
namespace Tb
open PySem PySem.Spec L2
/-! ## stores -/
def mSet (i : Nat) (m : ME) : MS := fun s h => (m s h).toS fun d h1 => .nx (s.set i (some d)) h1
def mUnpack (g : MG) (m : ME) : MS := fun s h => (m s h).toS fun d h1 => match g d s with
  | some s1 => .nx s1 h1
  | none => .bad
section
variable {X : Cx} {E : XK} {K : PySem.W.Frag} {e : Expr} {m : ME} {pos : Pos}
theorem tAsg_of {i : Nat} {D : Ends} {σ : L2.St} {H : Hp} (h : tMS K E (mSet i m) D σ H) : tAsg (tM K E m) (gName i) D σ H := by
  obtain ⟨w, s, e, k, r, q⟩ := h
  subst e
  exact tM_at k r ((PostW.toS (Rel := RepD K) q).imp fun d w1 v x1 k1 p1 q1 => PostS.hereN q1 k1 ((r.ext x1).set i p1))
theorem ms_set {i : Nat} {x : Str} {pos' : Pos} (hN : X.N.Nodup) (hi : X.N[i]? = some x) (hx : Loc X.env.scope x) (he : PE X e (tM X.K E m)) (hs : swapsWith e (some (.Name x pos')) pos.line X.env = pure false)
    (hf : X.fn x = true ∨ X.env.scope.names.lookup x = some .local) : PS X (.Assign [.Name x pos'] e pos) (tMS X.K E (mSet i m)) := ps_imp (ps_set hN hi hx he hs hf) fun _ _ _ h => tAsg_of h
theorem ms_unpack {tg : Expr} {vs : List Nat} {g : TG} {mg : MG} (he : PE X e (tM X.K E m)) (hg : PG X tg g) (gk : GOk X.K vs g mg) (hs : swapsWithSole [tg] e pos.line X.env = pure false) (hw : swappedStores [tg] e X.env = pure none)
    (h1 : (assignEach [tg] X.env).map (·.2) = [assign tg X.env]) : PS X (.Assign [tg] e pos) (tMS X.K E (mUnpack mg m)) := by
  refine ps_imp (ps_asg he hg hs hw h1) fun D σ H hq => ?_
  obtain ⟨w, s, e, k, r, q⟩ := hq
  subst e
  refine tM_at k r ((PostW.toS (Rel := RepD X.K) q).imp fun d w1 v x1 k1 p1 q1 => ?_)
  split at q1
  · rename_i s1 hs1
    exact gk v σ w1 d s s1 _ k1 (r.ext x1) p1 hs1 fun σ' r' _ => PostS.hereN q1 k1 r'
  · exact q1.elim
/-- a, b = x, y; a, b, c = x, y, z -/
def mPar2 (i j : Nat) (a b : ME) : MS := fun s h => (a s h).toS fun x h1 => (b s h1).toS fun y h2 => .nx ((s.set i (some x)).set j (some y)) h2
def mPar3 (i j l : Nat) (a b c : ME) : MS := fun s h => (a s h).toS fun x h1 => (b s h1).toS fun y h2 => (c s h2).toS fun z h3 => .nx (((s.set i (some x)).set j (some y)).set l (some z)) h3
theorem swapped2 {env : Env} {x y : Str} {px py pt p2 : Pos} {kt k2 : Nat} {a b : Expr} (hb : env.blockKind = .function) (hx : env.kindOf x = some .local) (hy : env.kindOf y = some .local) (hl : py.line = px.line) (hne : x ≠ y)
    (na : ∀ u p, a ≠ .Starred u p) (nb : ∀ u p, b ≠ .Starred u p) (hf : [a, b].all (foldedForSure 8) = false) (hk : [a, b].all (constantsAlone 8) = false) :
    swappedStores [.Tuple [.Name x px, .Name y py] kt pt] (.Tuple [a, b] k2 p2) env = pure (some [x, y]) := by
  have e2 : [x, y].eraseDups = [x, y] := by
    have e3 : (y == x) = false := beq_eq_false_iff_ne.mpr (Ne.symm hne)
    simp [List.eraseDups, List.eraseDupsBy, List.eraseDupsBy.loop, e3]
  unfold swappedStores
  simp only [List.length_cons, List.length_nil, hb, hf, hk, Expr.pos, hl, hx, hy, List.filterMap_cons, List.filterMap_nil, List.head?_cons, Option.map_some, Option.getD_some, beq_self_eq_true, Bool.and_self, if_true, e2]
  rw [if_neg (by decide), if_neg (by cases a <;> cases b <;> first | exact Bool.false_ne_true | exact absurd rfl (na _ _) | exact absurd rfl (nb _ _))]
  rfl
theorem swapped3 {env : Env} {x y z : Str} {px py pz pt p2 : Pos} {kt k2 : Nat} {a b c : Expr} (hb : env.blockKind = .function) (hx : env.kindOf x = some .local) (hy : env.kindOf y = some .local) (hz : env.kindOf z = some .local) (hl : py.line = px.line) (hl3 : pz.line = px.line)
    (hxy : x ≠ y) (hxz : x ≠ z) (hyz : y ≠ z) (na : ∀ u p, a ≠ .Starred u p) (nb : ∀ u p, b ≠ .Starred u p) (nc : ∀ u p, c ≠ .Starred u p) (hf : [a, b, c].all (foldedForSure 8) = false) (hk : [a, b, c].all (constantsAlone 8) = false) :
    swappedStores [.Tuple [.Name x px, .Name y py, .Name z pz] kt pt] (.Tuple [a, b, c] k2 p2) env = pure (some [x, y, z]) := by
  have e2 : [x, y, z].eraseDups = [x, y, z] := by
    have e3 : (y == x) = false := beq_eq_false_iff_ne.mpr (Ne.symm hxy)
    have e4 : (z == x) = false := beq_eq_false_iff_ne.mpr (Ne.symm hxz)
    have e5 : (z == y) = false := beq_eq_false_iff_ne.mpr (Ne.symm hyz)
    simp [List.eraseDups, List.eraseDupsBy, List.eraseDupsBy.loop, e3, e4, e5]
  unfold swappedStores
  simp only [List.length_cons, List.length_nil, hb, hf, hk, Expr.pos, hl, hl3, hx, hy, hz, List.filterMap_cons, List.filterMap_nil, List.head?_cons, Option.map_some, Option.getD_some, beq_self_eq_true, Bool.and_self, if_true, e2]
  rw [if_neg (by decide), if_neg (fun hs => by
    obtain ⟨q, hq, e⟩ := List.any_eq_true.mp hs
    have nq : ∀ u p, q ≠ .Starred u p := by
      rcases List.mem_cons.mp hq with rfl | hq
      · exact na
      · rcases List.mem_cons.mp hq with rfl | hq
        · exact nb
        · rcases List.mem_cons.mp hq with rfl | hq
          · exact nc
          · cases hq
    cases q <;> first | exact Bool.false_ne_true e | exact absurd rfl (nq _ _))]
  rfl
theorem ms_par2 {i j : Nat} {x y : Str} {a b : Expr} {ma mb : ME} {px py pt pt2 : Pos} {kt k2 : Nat} (hc : X.calm = true) (hN : X.N.Nodup) (hi : X.N[i]? = some x) (hj : X.N[j]? = some y) (hij : i ≠ j)
    (hx : X.env.scope.names.lookup x = some .local) (hy : X.env.scope.names.lookup y = some .local) (ha : PE X a (tM X.K E ma)) (hb : PE X b (tM X.K E mb))
    (sa : starEach [a, b] X.env = (false, eval a X.env) :: starEach [b] X.env) (sb : starEach [b] X.env = (false, eval b X.env) :: starEach [] X.env)
    (hw : swappedStores [.Tuple [.Name x px, .Name y py] kt pt] (.Tuple [a, b] k2 pt2) X.env = pure (some [x, y])) :
    PS X (.Assign [.Tuple [.Name x px, .Name y py] kt pt] (.Tuple [a, b] k2 pt2) pos) (tMS X.K E (mPar2 i j ma mb)) := by
  refine ps_imp (ps_par hc hN hi hj hij hx hy (pa_cons ha (pa_cons hb pa_nil sb) sa) hw) fun D σ H hq => ?_
  obtain ⟨w, s, e, k, r, q⟩ := hq
  subst e
  show tM X.K E ma σ w.H fun x H1 => tM X.K E mb σ H1 fun y H2 => ∃ v w, [x, y] = [v, w] ∧ D.nx ((σ.set i (some v)).set j (some w)) H2
  refine tM_at k r ((PostW.toS (Rel := RepD X.K) q).imp fun d w1 v x1 k1 p1 q1 => ?_)
  refine tM_at k1 (r.ext x1) ((PostW.toS (Rel := RepD X.K) q1).imp fun d2 w2 v2 x2 k2 p2 q2 => ?_)
  exact ⟨_, _, rfl, PostS.hereN q2 k2 (((r.ext (x1.trans x2)).set i (p1.ext x2)).set j p2)⟩
theorem ms_par3 {i j l : Nat} {x y z : Str} {a b c : Expr} {ma mb mc : ME} {px py pz pt pt2 : Pos} {kt k2 : Nat} (hc : X.calm = true) (hN : X.N.Nodup) (hi : X.N[i]? = some x) (hj : X.N[j]? = some y) (hl : X.N[l]? = some z) (hij : i ≠ j) (hil : i ≠ l) (hjl : j ≠ l)
    (hx : X.env.scope.names.lookup x = some .local) (hy : X.env.scope.names.lookup y = some .local) (hz : X.env.scope.names.lookup z = some .local) (ha : PE X a (tM X.K E ma)) (hb : PE X b (tM X.K E mb)) (hd : PE X c (tM X.K E mc))
    (sa : starEach [a, b, c] X.env = (false, eval a X.env) :: starEach [b, c] X.env) (sb : starEach [b, c] X.env = (false, eval b X.env) :: starEach [c] X.env) (sc : starEach [c] X.env = (false, eval c X.env) :: starEach [] X.env)
    (hw : swappedStores [.Tuple [.Name x px, .Name y py, .Name z pz] kt pt] (.Tuple [a, b, c] k2 pt2) X.env = pure (some [x, y, z])) :
    PS X (.Assign [.Tuple [.Name x px, .Name y py, .Name z pz] kt pt] (.Tuple [a, b, c] k2 pt2) pos) (tMS X.K E (mPar3 i j l ma mb mc)) := by
  refine ps_imp (ps_par3 hc hN hi hj hl hij hil hjl hx hy hz (pa_cons ha (pa_cons hb (pa_cons hd pa_nil sc) sb) sa) hw) fun D σ H hq => ?_
  obtain ⟨w, s, e, k, r, q⟩ := hq
  subst e
  show tM X.K E ma σ w.H fun x H1 => tM X.K E mb σ H1 fun y H2 => tM X.K E mc σ H2 fun z H3 => ∃ u v w, [x, y, z] = [u, v, w] ∧ D.nx (((σ.set i (some u)).set j (some v)).set l (some w)) H3
  refine tM_at k r ((PostW.toS (Rel := RepD X.K) q).imp fun d w1 v x1 k1 p1 q1 => ?_)
  refine tM_at k1 (r.ext x1) ((PostW.toS (Rel := RepD X.K) q1).imp fun d2 w2 v2 x2 k2 p2 q2 => ?_)
  refine tM_at k2 (r.ext (x1.trans x2)) ((PostW.toS (Rel := RepD X.K) q2).imp fun d3 w3 v3 x3 k3 p3 q3 => ?_)
  exact ⟨_, _, _, rfl, PostS.hereN q3 k3 ((((r.ext (x1.trans (x2.trans x3))).set i (p1.ext (x2.trans x3))).set j (p2.ext x3)).set l p3)⟩
end
/-! ## the heap is written -/
/-- o[i] = v -/
def setIx : D → D → D → MH → R Unit
  | .ref n, .int i, v, h => match h.get n with
    | some (.lst xs) => match ixN xs.length i with
      | some j => .ok () (h.set n (.lst (xs.set j v)))
      | none => .bad
    | none => .bad
  | _, _, _, _ => .bad
abbrev EqU : Rl Unit Unit := fun _ _ _ => True
def rSet (K : PySem.W.Frag) (E : XK) (f : D → D → D → MH → R Unit) : V → V → V → Hp → (Hp → Prop) → Prop := fun o i v H Q => ∃ w a b c, w.H = H ∧ Ok K w ∧ Rep K w a o ∧ Rep K w b i ∧ Rep K w c v ∧ PostW K E EqU w (f a b c w.h) fun _ w' _ => Q w'.H
theorem put_lst {K : PySem.W.Frag} {w : W3} (k : Ok K w) {n : Nat} {o : MO} {xs : List D} {vs : List V} (h : w.h.get n = some o) (r : Reps K w xs vs) : Ok K (w.put n (.lst vs) (.lst xs)) :=
  k.put h ⟨vs, upd_same, r.ext (Ext.put k h)⟩
section
variable {X : Cx} {E : XK} {pos : Pos}
theorem sr_set : PSet X (rSet X.K E setIx) := by
  intro pins s σ H o i v ov iv u Q I ro ri rv h
  obtain ⟨w, a, b, c, eH, k, ra, rb, rc, q⟩ := h
  subst eH
  unfold setIx at q
  split at q
  · split at q
    · split at q
      · rename_i xs hg _ j hj
        have r0 := ra
        simp only [Rep] at r0
        obtain ⟨vs, h1, h2⟩ := (k.dom _ _ hg).2
        refine set_list pins s σ _ o i v ov iv u Q I ro ri rv ⟨_, vs, _, j, r0.2, rep_int.mp rb, h1, by rw [← h2.length]; exact hj, ?_⟩
        exact q (w.put _ (.lst (vs.set j v)) (.lst (xs.set j _))) () rfl (Ext.put k hg) (put_lst k hg (h2.set rc j)) trivial
      · exact q.elim
    · exact q.elim
  · exact q.elim
def mSetSub (f : D → D → D → MH → R Unit) (o i v : ME) : MS := fun s h => (v s h).toS fun c h1 => (o s h1).toS fun a h2 => (i s h2).toS fun b h3 => (f a b c h3).toS fun _ h4 => .nx s h4
theorem ms_setSub {o i e : Expr} {mo mi me : ME} {f : D → D → D → MH → R Unit} {spos : Pos} (hs : PSet X (rSet X.K E f)) (he : PE X e (tM X.K E me)) (ho : PE X o (tM X.K E mo)) (hi : PE X i (tM X.K E mi))
    (ha : ∀ v, assign (.Subscript o i pos) X.env v = (do
      let ov ← holding [v] (eval o X.env)
      let iv ← holding [v, ov] (eval i X.env)
      standAt pos
      holding [v, ov, iv] (setItem ov iv v)
      release [v, ov, iv] []))
    (h1 : swapsWithSole [.Subscript o i pos] e spos.line X.env = pure false) (h2 : swappedStores [.Subscript o i pos] e X.env = pure none) (h3 : (assignEach [.Subscript o i pos] X.env).map (·.2) = [assign (.Subscript o i pos) X.env]) :
    PS X (.Assign [.Subscript o i pos] e spos) (tMS X.K E (mSetSub f mo mi me)) := by
  refine ps_imp (ps_asg he (pg_sub ho hi hs ha) h1 h2 h3) fun D σ H hq => ?_
  obtain ⟨w, s, e, k, r, q⟩ := hq
  subst e
  refine tM_at k r ((PostW.toS (Rel := RepD X.K) q).imp fun c w1 v x1 k1 p1 q1 => ?_)
  refine tM_at k1 (r.ext x1) ((PostW.toS (Rel := RepD X.K) q1).imp fun a w2 v2 x2 k2 p2 q2 => ?_)
  refine tM_at k2 (r.ext (x1.trans x2)) ((PostW.toS (Rel := RepD X.K) q2).imp fun b w3 v3 x3 k3 p3 q3 => ?_)
  refine ⟨w3, a, b, c, rfl, k3, p2.ext x3, p3, p1.ext (x2.trans x3), (PostW.toS (Rel := EqU) q3).imp fun _ w4 _ x4 k4 _ q4 => ?_⟩
  exact PostS.hereN q4 k4 (r.ext (x1.trans (x2.trans (x3.trans x4))))
/-- o[i] op= e, o a list -/
def getIxL : F2
  | d, .int i, h => match lstOf h d with
    | some xs => match atI xs i with
      | some x => .ok x h
      | none => .bad
    | none => .bad
  | _, _, _ => .bad
theorem gr_ix : PGet X (rM X.K E getIxL) := by
  intro pins s σ H o i ov iv Q I ro ri h
  obtain ⟨w, d, e, eH, k, rd, re, q⟩ := h
  subst eH
  unfold getIxL at q
  split at q
  · split at q
    · split at q
      · rename_i i _ xs e1 _ z hz
        obtain ⟨p, vs, ex, h2, h3⟩ := lst_at k rd e1
        obtain ⟨z', h4, h5⟩ := atI_rep h3 hz
        have ei := rep_int.mp re
        subst ex ei
        cases ro
        obtain ⟨t, rfl⟩ := ri
        obtain ⟨its, r, pl, hl0⟩ := I.list (SqL.of h2)
        obtain ⟨j, j1, j2, j3, j4, j5⟩ := atI_get h4
        obtain ⟨u, eu, ru⟩ := r.get j2
        have hl := r.length
        have hn := line63
        have fin : EP X pins σ Q u s := ⟨z', w.H, I, ru, q.here k h5⟩
        by_cases h0 : 0 ≤ i
        · have hj : i.toNat = j := by
            have := (seqIndex_of h0 j5).symm.trans j1
            exact Option.some.inj this
          refine wpAny_getItem_list pl.isList h0 (by omega) ?_ fin
          rw [hj]
          simpa using eu
        · have hj : (i + (its.toArray.size : Int)).toNat = j := by
            have := (seqIndex_neg (by omega) j4).symm.trans j1
            rw [List.size_toArray, ← hl]
            exact Option.some.inj this
          refine wpAny_getItem_list_neg pl.isList (by omega) (by rw [List.size_toArray] <;> omega) (by omega) ?_ fin
          rw [hj]
          simpa using eu
      · exact q.elim
    · exact q.elim
  · exact q.elim
def mAugSub (g : F2) (f : F2) (st : D → D → D → MH → R Unit) (o i e : ME) : MS := fun s h => (o s h).toS fun a h1 => (i s h1).toS fun b h2 => (g a b h2).toS fun x h3 => (e s h3).toS fun y h4 => (f x y h4).toS fun z h5 => (st a b z h5).toS fun _ h6 => .nx s h6
theorem ms_augSub {o i e : Expr} {mo mi me : ME} {g f : F2} {st : D → D → D → MH → R Unit} {op : Operator} {spos : Pos} (hg : PGet X (rM X.K E g)) (hp : OpR X (inplaceOp op) (rM X.K E f)) (hs : PSet X (rSet X.K E st)) (ho : PE X o (tM X.K E mo)) (hi : PE X i (tM X.K E mi)) (he : PE X e (tM X.K E me))
    (ha : ∀ ov iv new, augStore i ov iv new = (do holding [new, ov, iv] (setItem ov iv new); release [new, ov, iv] []; pure .next)) : PS X (.AugAssign (.Subscript o i pos) op e spos) (tMS X.K E (mAugSub g f st mo mi me)) := by
  refine ps_imp (ps_augS ho hi hg he hp hs ha) fun D σ H hq => ?_
  obtain ⟨w, s, e, k, r, q⟩ := hq
  subst e
  refine tM_at k r ((PostW.toS (Rel := RepD X.K) q).imp fun a w1 v1 x1 k1 p1 q1 => ?_)
  refine tM_at k1 (r.ext x1) ((PostW.toS (Rel := RepD X.K) q1).imp fun b w2 v2 x2 k2 p2 q2 => ?_)
  refine ⟨w2, a, b, rfl, k2, p1.ext x2, p2, (PostW.toS (Rel := RepD X.K) q2).imp fun x w3 v3 x3 k3 p3 q3 => ?_⟩
  have x13 := x1.trans (x2.trans x3)
  refine tM_at k3 (r.ext x13) ((PostW.toS (Rel := RepD X.K) q3).imp fun y w4 v4 x4 k4 p4 q4 => ?_)
  refine ⟨w4, x, y, rfl, k4, p3.ext x4, p4, (PostW.toS (Rel := RepD X.K) q4).imp fun z w5 v5 x5 k5 p5 q5 => ?_⟩
  refine ⟨w5, a, b, z, rfl, k5, p1.ext (x2.trans (x3.trans (x4.trans x5))), p2.ext (x3.trans (x4.trans x5)), p5, (PostW.toS (Rel := EqU) q5).imp fun _ w6 _ x6 k6 _ q6 => ?_⟩
  exact PostS.hereN q6 k6 (r.ext (x13.trans (x4.trans (x5.trans x6))))
/-- x op= e -/
def mAug (i : Nat) (f : F2) (e : ME) : MS := fun s h => match s[i]? with
  | some (some x) => (e s h).toS fun y h1 => (f x y h1).toS fun z h2 => .nx (s.set i (some z)) h2
  | _ => .bad
theorem ms_aug {i : Nat} {x : Str} {e : Expr} {me : ME} {f : F2} {op : Operator} {pos' : Pos} (hN : X.N.Nodup) (hi : X.N[i]? = some x) (hx : Loc X.env.scope x) (he : PE X e (tM X.K E me)) (hp : OpR X (inplaceOp op) (rM X.K E f)) (hf : X.fn x = true ∨ X.env.scope.names.lookup x = some .local) :
    PS X (.AugAssign (.Name x pos') op e pos) (tMS X.K E (mAug i f me)) := by
  refine ps_imp (ps_aug hN hi hx he hp hf) fun D σ H hq => ?_
  obtain ⟨w, s, e, k, r, q⟩ := hq
  subst e
  unfold mAug at q
  split at q
  · rename_i d hd
    obtain ⟨v, e1, p0⟩ := r.2 i d hd
    refine ⟨v, e1, tM_at k r ((PostW.toS (Rel := RepD X.K) q).imp fun y w1 u x1 k1 p1 q1 => ?_)⟩
    refine ⟨w1, d, y, rfl, k1, p0.ext x1, p1, (PostW.toS (Rel := RepD X.K) q1).imp fun z w2 v2 x2 k2 p2 q2 => ?_⟩
    exact PostS.hereN q2 k2 ((r.ext (x1.trans x2)).set i p2)
  · exact q.elim
/-- the operators in place -/
def iopAdd : F2
  | .int i, .int j, h => .ok (.int (i + j)) h
  | .str x, .str y, h => if x.length + y.length ≤ sizeLine then .ok (.str (x ++ y)) h else .bad
  | .ref n, e, h => match h.get n, lstOf h e with
    | some (.lst xs), some ys => if xs.length + ys.length ≤ sizeLine then .ok (.ref n) (h.set n (.lst (xs ++ ys))) else .bad
    | _, _ => .bad
  | _, _, _ => .bad
def iopSub : F2
  | .int i, .int j, h => .ok (.int (i - j)) h
  | _, _, _ => .bad
theorem oi_add : OpR X (inplaceOp .Add) (rM X.K E iopAdd) := by
  intro pins s σ H x y v u Q I rx ry h
  obtain ⟨w, d, e, eH, k, rd, re, q⟩ := h
  subst eH
  unfold iopAdd at q
  split at q
  · rw [rep_int] at rd re
    exact iop_add pins s σ _ x y v u Q I rx ry ⟨_, _, rd, re, q.here k (rep_int.mpr rfl)⟩
  · rw [rep_str] at rd re
    split at q
    · exact iop_add_str pins s σ _ x y v u Q I rx ry ⟨_, _, rd, re, by assumption, q.here k (rep_str.mpr rfl)⟩
    · exact q.elim
  · split at q
    · rename_i n _ _ xs ys e1 e2
      split at q
      · rename_i hz
        have r0 := rd
        simp only [Rep] at r0
        obtain ⟨vs, h1, h2⟩ := (k.dom n _ e1).2
        obtain ⟨b, us, ex, h3, h4⟩ := lst_at k re e2
        refine iop_ext pins s σ _ x y v u Q I rx ry ⟨_, b, vs, us, r0.2, ex, h1, h3, by rw [← h2.length, ← h4.length]; exact hz, ?_⟩
        refine q (w.put n (.lst (vs ++ us)) (.lst (xs ++ ys))) _ rfl (Ext.put k e1) (put_lst k e1 (h2.append h4)) ?_
        simp only [Rep]
        exact ⟨r0.1, rfl⟩
      · exact q.elim
    · exact q.elim
  · exact q.elim
theorem oi_sub : OpR X (inplaceOp .Sub) (rM X.K E iopSub) := by
  intro pins s σ H x y v u Q I rx ry h
  obtain ⟨w, d, e, eH, k, rd, re, q⟩ := h
  subst eH
  unfold iopSub at q
  split at q
  · rw [rep_int] at rd re
    exact iop_sub pins s σ _ x y v u Q I rx ry ⟨_, _, rd, re, q.here k (rep_int.mpr rfl)⟩
  · exact q.elim
end
/-! ## methods of built-in types -/
abbrev FM := D → List D → MH → R D
def rMeth (K : PySem.W.Frag) (E : XK) (f : FM) : V → List V → Hp → VK → Prop := fun x vs H Q => ∃ w d ds, w.H = H ∧ Ok K w ∧ Rep K w d x ∧ Reps K w ds vs ∧ PostW K E (RepD K) w (f d ds w.h) fun _ w' v => Q v w'.H
/-- the receiver's kind -/
def kindIs (T : String) (d : D) (h : MH) : Bool := match d with
  | .str _ => T == "str"
  | d => T == "list" && (lstOf h d).isSome
theorem kind_ok {K : PySem.W.Frag} {w : W3} {T : String} {d : D} {v : V} (k : Ok K w) (r : Rep K w d v) (h : kindIs T d w.h = true) : tyV K T v w.H := by
  unfold kindIs at h
  split at h
  · rw [rep_str] at r
    subst r
    exact beq_iff_eq.mp h
  · rw [Bool.and_eq_true, beq_iff_eq] at h
    obtain ⟨xs, e⟩ := Option.isSome_iff_exists.mp h.2
    obtain ⟨a, vs, rfl, h2, _⟩ := lst_at k r e
    exact .inl ⟨h.1, vs, SqL.of h2⟩
def mMeth (T : String) (f : FM) (o : ME) (a : MA) : ME := fun s h => (o s h).bind fun d h1 => if kindIs T d h1 = true then (a s h1).bind fun ds h2 => f d ds h2 else .bad
section
variable {X : Cx} {E : XK} {o e : Expr} {es : List Expr} {mo : ME} {ma : MA} {f : FM} {T id : String} {name : Str} {apos cpos : Pos}
theorem tBM_of {σ : L2.St} {H : Hp} {Q : VK} (h : tM X.K E (mMeth T f mo ma) σ H Q) : tBM X.K T (rMeth X.K E f) (tM X.K E mo) (tMA X.K E ma) σ H Q := by
  obtain ⟨w, s, e, k, r, q⟩ := h
  subst e
  refine tM_at k r ((PostW.bind (Rel := RepD X.K) q).imp fun d w1 v x1 k1 p1 q1 => ?_)
  split at q1
  · rename_i hk
    refine ⟨kind_ok k1 p1 hk, tMA_at k1 (r.ext x1) ((PostW.bind (Rel := RepL X.K) q1).imp fun ds w2 vs x2 k2 p2 q2 => ?_)⟩
    exact ⟨w2, d, ds, rfl, k2, p1.ext x2, p2, q2⟩
  · exact q1.elim
theorem me_meth (pa : PlainAttrs T) (slot : Slot T name id) (hty : typeOf (.builtin id) = pure (.type "method_descriptor")) (hm : MtR X id (rMeth X.K E f)) (ho : PE X o (tM X.K E mo)) (ha : PA X (e :: es) (tMA X.K E ma))
    (hb : attributeBase o name X.env (eval o X.env) = eval o X.env)
    (h30 : ((((backTo cpos (starEach (e :: es) X.env)).all fun x => !x.1) && (backToKw cpos (keywordEach [] X.env)).all fun x => x.1.isSome) && decide (((e :: es).length + ([] : List Keyword).length + if ([] : List Keyword).isEmpty = true then 0 else 1) < 30)) = true)
    (hl : (apos.endLine == cpos.line) = true) (hs : starEach (e :: es) X.env = (false, eval e X.env) :: starEach es X.env) (hn : ((backTo cpos (starEach es X.env)).any fun x => x.1) = false) :
    PE X (.Call (.Attribute o name apos) (e :: es) [] cpos) (tM X.K E (mMeth T f mo ma)) :=
  pe_imp (pe_bm pa slot hty hm ho ha hb h30 hl hs hn) fun _ _ _ h => tBM_of h
/-- append, extend -/
def lAppend : FM
  | .ref n, [x], h => match h.get n with
    | some (.lst xs) => if xs.length < sizeLine then .ok .non (h.set n (.lst (xs ++ [x]))) else .bad
    | none => .bad
  | _, _, _ => .bad
def lExtend : FM
  | .ref n, [x], h => match h.get n, lstOf h x with
    | some (.lst xs), some ys => if xs.length + ys.length ≤ sizeLine then .ok .non (h.set n (.lst (xs ++ ys))) else .bad
    | _, _ => .bad
  | _, _, _ => .bad
theorem mr_append : MtR X "list.append" (rMeth X.K E lAppend) := by
  intro pins s σ H x vs v us Q I rx rv h
  obtain ⟨w, d, ds, eH, k, rd, rs, q⟩ := h
  subst eH
  unfold lAppend at q
  split at q
  · split at q
    · rename_i xs e1
      split at q
      · rename_i hz
        obtain ⟨y, rfl, r1⟩ := rs.one
        have r0 := rd
        simp only [Rep] at r0
        obtain ⟨vs, h1, h2⟩ := (k.dom _ _ e1).2
        refine mt_append pins s σ _ x _ v us Q I rx rv ⟨_, vs, y, r0.2, rfl, h1, by rw [← h2.length]; exact hz, ?_⟩
        exact q (w.put _ (.lst (vs ++ [y])) (.lst (xs ++ [_]))) _ rfl (Ext.put k e1) (put_lst k e1 (h2.append (Reps.cons r1 Reps.nil))) (rep_non.mpr rfl)
      · exact q.elim
    · exact q.elim
  · exact q.elim
theorem mr_extend : MtR X "list.extend" (rMeth X.K E lExtend) := by
  intro pins s σ H x vs v us Q I rx rv h
  obtain ⟨w, d, ds, eH, k, rd, rs, q⟩ := h
  subst eH
  unfold lExtend at q
  split at q
  · split at q
    · rename_i xs ys e1 e2
      split at q
      · rename_i hz
        obtain ⟨y, rfl, r1⟩ := rs.one
        have r0 := rd
        simp only [Rep] at r0
        obtain ⟨vs, h1, h2⟩ := (k.dom _ _ e1).2
        obtain ⟨b, us', rfl, h3, h4⟩ := lst_at k r1 e2
        refine mt_extend pins s σ _ x _ v us Q I rx rv ⟨_, b, vs, us', r0.2, rfl, h1, h3, by rw [← h2.length, ← h4.length]; exact hz, ?_⟩
        exact q (w.put _ (.lst (vs ++ us')) (.lst (xs ++ ys))) _ rfl (Ext.put k e1) (put_lst k e1 (h2.append h4)) (rep_non.mpr rfl)
      · exact q.elim
    · exact q.elim
  · exact q.elim
end
/-! ## built-in functions -/
abbrev FB := List D → MH → R D
def rB (K : PySem.W.Frag) (E : XK) (f : FB) : List V → Hp → VK → Prop := fun vs H Q => ∃ w ds, w.H = H ∧ Ok K w ∧ Reps K w ds vs ∧ PostW K E (RepD K) w (f ds w.h) fun _ w' v => Q v w'.H
def mCallB (f : FB) (a : MA) : ME := fun s h => (a s h).bind f
section
variable {X : Cx} {E : XK} {e : Expr} {es : List Expr} {ma : MA} {f : FB} {T id : String} {x : Str} {p pos : Pos}
theorem tCB_of {σ : L2.St} {H : Hp} {Q : VK} (h : tM X.K E (mCallB f ma) σ H Q) : tCB (rB X.K E f) (tMA X.K E ma) σ H Q := by
  obtain ⟨w, s, e, k, r, q⟩ := h
  subst e
  exact tMA_at k r ((PostW.bind (Rel := RepL X.K) q).imp fun ds w1 vs x1 k1 p1 q1 => ⟨w1, ds, rfl, k1, p1, q1⟩)
theorem me_callB (hc : CallR X (.builtin id) (rB X.K E f)) (hg : Gl X x) (hm : X.mg x = none) (hv : bootBuiltins x = some (.builtin id)) (ha : PA X (e :: es) (tMA X.K E ma)) (hn : x ≠ "__name__") (hd : (x == ("__debug__" : Str)) = false)
    (he : starEach (e :: es) X.env = (false, eval e X.env) :: starEach es X.env) (hp : (backTo pos (starEach es X.env)).any (·.1) = false) : PE X (.Call (.Name x p) (e :: es) [] pos) (tM X.K E (mCallB f ma)) :=
  pe_imp (pe_callB hc hg hm hv ha hn hd he hp) fun _ _ _ h => tCB_of h
theorem me_callTy (hc : CallR X (.type T) (rB X.K E f)) (hg : Gl X x) (hm : X.mg x = none) (hv : bootBuiltins x = some (.type T)) (ha : PA X (e :: es) (tMA X.K E ma)) (hn : x ≠ "__name__") (hd : (x == ("__debug__" : Str)) = false)
    (he : starEach (e :: es) X.env = (false, eval e X.env) :: starEach es X.env) (hp : (backTo pos (starEach es X.env)).any (·.1) = false) : PE X (.Call (.Name x p) (e :: es) [] pos) (tM X.K E (mCallB f ma)) :=
  pe_imp (pe_callTy hc hg hm hv ha hn hd he hp) fun _ _ _ h => tCB_of h
end
end Tb
end

section
set_option maxHeartbeats 4000000
namespace Tb
open PySem PySem.Spec PyProof.Rows L2
/-! ## sum, max, min, any, all of a tuple -/
section
variable {prog : Program} {w : World} {A : Around} {E : Value → Shared → Prop} {s : Shared} {l : Addr} {its : List Value} {ns : List Int} {xs : Array (Int × Tok)}
theorem iter_tup {items : Array Value} {Q : Value → Shared → Prop} (hl : s.heap.IsTuple l items) (k : ∀ s2 : Shared, s2 = { s with heap := s.heap.push { cls := .type "tuple_iterator", data := .fields #[.ref l, .int 0 0] } } →
    (s2.heap.IsTupleIter s.heap.objs.size l 0 ∧ s2.heap.IsTuple l items) → (∀ b ∈ [s.heap.objs.size, l], b < s2.heap.objs.size) → l ≠ s.heap.objs.size → Q (.ref s.heap.objs.size) s2) : wpAny (model prog w) A (pyIter (.ref l)) Q E s := by
  have lt : l < s.heap.objs.size := by
    obtain ⟨_, e, _⟩ := hl
    exact Heap.lt_size e
  refine wpAny_pyIter_tuple hl (k _ rfl ⟨⟨_, Heap.get?_push_size _ rfl, rfl, rfl⟩, hl.push _⟩ (fun b hb => ?_) (Nat.ne_of_lt lt))
  show b < (s.heap.push _).objs.size
  rw [Heap.size_push]
  simp only [List.mem_cons, List.not_mem_nil, or_false] at hb
  rcases hb with e | e <;> rw [e]
  · exact Nat.lt_succ_self _
  · exact Nat.lt_succ_of_lt lt
theorem keptT {o : Obj} {h' : Heap} (k : ∀ b ob, b ∉ [s.heap.objs.size] → (s.heap.push o).get? b = some ob → h'.get? b = some ob) : ∀ b ob, s.heap.get? b = some ob → h'.get? b = some ob := fun b ob e => by
  refine k b ob (fun hm => ?_) (Heap.get?_push_of_some _ e)
  simp only [List.mem_cons, List.not_mem_nil, or_false] at hm
  exact absurd (hm ▸ Heap.lt_size e) (Nat.lt_irrefl _)
theorem sumT {Q : Value → Shared → Prop} (hh : A.handled = none) (hl : s.heap.IsTuple l its.toArray) (hi : IntsAre its ns) (k : ∀ h' tk t', (∀ b o, s.heap.get? b = some o → h'.get? b = some o) → Q (.int ns.sum t') { s with heap := h', toks := tk }) :
    wpAny (model prog w) A (call (.builtin "sum") [.ref l]) Q E s := by
  obtain ⟨xs, e⟩ := hi.allInts.items
  have hn : numsOf (intItems xs).toList = ns := by rw [← e]; exact hi.numsOf
  rw [nums_intItems] at hn
  rw [e] at hl
  refine call_sum_walkG (iter_tup hl fun s2 e2 st fp lI => ?_)
  subst e2
  refine ⟨_, _, _, _, _, _, numAt xs, rfl, Walks.tuple (A := A.in1) hh _ l lI (intItems xs), st, fp, (fun _ _ => intItems_at), fun h' tk t' hk => ?_⟩
  have z := k h' tk t' (keptT hk)
  rw [show (intItems xs).size = xs.size by simp [intItems], preSum_eq, List.take_of_length_le (by simp), hn]
  exact z
theorem maxT {Q : Value → Shared → Prop} (hh : A.handled = none) (hl : s.heap.IsTuple l its.toArray) (hi : IntsAre its ns) (hne : 0 < ns.length)
    (k : ∀ h' tk M t', (∀ b o, s.heap.get? b = some o → h'.get? b = some o) → M ∈ ns → (∀ a, a ∈ ns → a ≤ M) → Q (.int M t') { s with heap := h', toks := tk }) : wpAny (model prog w) A (call (.builtin "max") [.ref l]) Q E s := by
  obtain ⟨xs, e⟩ := hi.allInts.items
  have hn : numsOf (intItems xs).toList = ns := by rw [← e]; exact hi.numsOf
  rw [nums_intItems] at hn
  subst hn
  rw [e] at hl
  have hsz : 0 < xs.size := by simpa using hne
  refine call_max_walk (iter_tup hl fun s2 e2 st fp lI => ?_)
  subst e2
  refine ⟨_, _, _, _, _, _, _, rfl, Walks.tuple (A := A.in1) hh _ l lI (intItems xs), st, fp, by simpa [intItems] using hsz, CmpOf.ints_gt (numAt xs) (fun _ _ => intItems_at), fun v h' tk hP hk => ?_⟩
  have hP' : (intItems xs)[argBest (fun i j => decide (numAt xs i > numAt xs j)) (xs.size - 1)]? = some v := by simpa [intItems] using hP
  obtain ⟨t, rfl⟩ := intItems_at hP'
  obtain ⟨h1, h2⟩ := argBest_gt (numAt xs) (xs.size - 1)
  refine k h' tk _ t (keptT hk) ?_ fun a ha => ?_
  · rw [numAt_eq]; exact PySem.getD_mem (by rw [List.length_map, Array.length_toList]; omega)
  · obtain ⟨j, hj, rfl⟩ := mem_getD ha
    rw [List.length_map, Array.length_toList] at hj
    rw [← numAt_eq]; exact h2 j (by omega)
theorem minT {Q : Value → Shared → Prop} (hh : A.handled = none) (hl : s.heap.IsTuple l its.toArray) (hi : IntsAre its ns) (hne : 0 < ns.length)
    (k : ∀ h' tk M t', (∀ b o, s.heap.get? b = some o → h'.get? b = some o) → M ∈ ns → (∀ a, a ∈ ns → M ≤ a) → Q (.int M t') { s with heap := h', toks := tk }) : wpAny (model prog w) A (call (.builtin "min") [.ref l]) Q E s := by
  obtain ⟨xs, e⟩ := hi.allInts.items
  have hn : numsOf (intItems xs).toList = ns := by rw [← e]; exact hi.numsOf
  rw [nums_intItems] at hn
  subst hn
  rw [e] at hl
  have hsz : 0 < xs.size := by simpa using hne
  refine call_min_walk (iter_tup hl fun s2 e2 st fp lI => ?_)
  subst e2
  refine ⟨_, _, _, _, _, _, _, rfl, Walks.tuple (A := A.in1) hh _ l lI (intItems xs), st, fp, by simpa [intItems] using hsz, CmpOf.ints_lt (numAt xs) (fun _ _ => intItems_at), fun v h' tk hP hk => ?_⟩
  have hP' : (intItems xs)[argBest (fun i j => decide (numAt xs i < numAt xs j)) (xs.size - 1)]? = some v := by simpa [intItems] using hP
  obtain ⟨t, rfl⟩ := intItems_at hP'
  obtain ⟨h1, h2⟩ := argBest_lt (numAt xs) (xs.size - 1)
  refine k h' tk _ t (keptT hk) ?_ fun a ha => ?_
  · rw [numAt_eq]; exact PySem.getD_mem (by rw [List.length_map, Array.length_toList]; omega)
  · obtain ⟨j, hj, rfl⟩ := mem_getD ha
    rw [List.length_map, Array.length_toList] at hj
    rw [← numAt_eq]; exact h2 j (by omega)
end
section
variable {X : Cx}
theorem cr_sumT (hc : X.calm = true) : CallR X (.builtin "sum") fun vs H Q => ∃ (a : Addr) (ns : List Int), vs = [V.ref a] ∧ SqT X.K H a (ns.map V.int) ∧ Q (.int ns.sum) H := by
  intro pins s σ H vs us Q I r h
  obtain ⟨a, ns, rfl, hs, q⟩ := h
  obtain ⟨its, rv, hl, _⟩ := I.tuple hs
  rw [Vals.ref1 r]
  exact sumT (I.ok.hd hc) hl rv.ints fun h' tk t' hk => ⟨.int _, H, I.kept hk, ⟨_, rfl⟩, q⟩
theorem cr_maxT (hc : X.calm = true) : CallR X (.builtin "max") fun vs H Q => ∃ (a : Addr) (ns : List Int), vs = [V.ref a] ∧ SqT X.K H a (ns.map V.int) ∧ 0 < ns.length ∧ ∀ m, m ∈ ns → (∀ y, y ∈ ns → y ≤ m) → Q (.int m) H := by
  intro pins s σ H vs us Q I r h
  obtain ⟨a, ns, rfl, hs, hne, q⟩ := h
  obtain ⟨its, rv, hl, _⟩ := I.tuple hs
  rw [Vals.ref1 r]
  exact maxT (I.ok.hd hc) hl rv.ints hne fun h' tk m t' hk h1 h2 => ⟨.int _, H, I.kept hk, ⟨_, rfl⟩, q m h1 h2⟩
theorem cr_minT (hc : X.calm = true) : CallR X (.builtin "min") fun vs H Q => ∃ (a : Addr) (ns : List Int), vs = [V.ref a] ∧ SqT X.K H a (ns.map V.int) ∧ 0 < ns.length ∧ ∀ m, m ∈ ns → (∀ y, y ∈ ns → m ≤ y) → Q (.int m) H := by
  intro pins s σ H vs us Q I r h
  obtain ⟨a, ns, rfl, hs, hne, q⟩ := h
  obtain ⟨its, rv, hl, _⟩ := I.tuple hs
  rw [Vals.ref1 r]
  exact minT (I.ok.hd hc) hl rv.ints hne fun h' tk m t' hk h1 h2 => ⟨.int _, H, I.kept hk, ⟨_, rfl⟩, q m h1 h2⟩
theorem cr_anyT (hc : X.calm = true) : CallR X (.builtin "any") fun vs H Q => ∃ (a : Addr) (bs : List Bool), vs = [V.ref a] ∧ SqT X.K H a (bs.map V.bl) ∧ Q (.bl (bs.any id)) H := by
  intro pins s σ H vs us Q I r h
  obtain ⟨a, bs, rfl, hs, q⟩ := h
  obtain ⟨its, rv, hl, _⟩ := I.tuple hs
  rw [Vals.ref1 r]
  have hb := rv.bls
  refine call_any_walk (iter_tup hl fun s2 e2 st fp lI => ?_)
  subst e2
  refine ⟨_, _, _, _, _, _, _, rfl, Walks.tuple (A := X.A.in1) (I.ok.hd hc) _ a lI its.toArray, st, truth_bools hb, fun h' tk hk => ?_⟩
  refine ⟨.bl _, H, I.kept (keptT hk), ?_, q⟩
  show Value.bool _ = Value.bool _
  rw [← L2.any_range, hb, List.size_toArray, List.length_map]
theorem cr_allT (hc : X.calm = true) : CallR X (.builtin "all") fun vs H Q => ∃ (a : Addr) (bs : List Bool), vs = [V.ref a] ∧ SqT X.K H a (bs.map V.bl) ∧ Q (.bl (bs.all id)) H := by
  intro pins s σ H vs us Q I r h
  obtain ⟨a, bs, rfl, hs, q⟩ := h
  obtain ⟨its, rv, hl, _⟩ := I.tuple hs
  rw [Vals.ref1 r]
  have hb := rv.bls
  refine call_all_walk (iter_tup hl fun s2 e2 st fp lI => ?_)
  subst e2
  refine ⟨_, _, _, _, _, _, _, rfl, Walks.tuple (A := X.A.in1) (I.ok.hd hc) _ a lI its.toArray, st, truth_bools hb, fun h' tk hk => ?_⟩
  refine ⟨.bl _, H, I.kept (keptT hk), ?_, q⟩
  show Value.bool _ = Value.bool _
  rw [← L2.all_range, hb, List.size_toArray, List.length_map]
end
end Tb
end

section
set_option maxHeartbeats 4000000
namespace Tb
open PySem PySem.Spec L2
/-! ## built-in functions, one by one -/
def bLen : FB
  | [.str x], h => if x.length ≤ sizeLine then .ok (.int (x.length : Nat)) h else .bad
  | [d], h => match seqOf h d with
    | some xs => .ok (.int (xs.length : Nat)) h
    | none => .bad
  | _, _ => .bad
def bTuple : FB
  | [d], h => match seqOf h d with
    | some xs => .ok (.tup xs) h
    | none => .bad
  | _, _ => .bad
def bList : FB
  | [d], h => match seqOf h d with
    | some xs => .ok (.lst xs) h
    | none => .bad
  | _, _ => .bad
/-- .. held -/
def bListH : FB
  | [d], h => match seqOf h d with
    | some xs => .ok (.ref h.next) (h.new (.lst xs))
    | none => .bad
  | _, _ => .bad
def bRepr : FB
  | [d], h => match toD h d with
    | some p => if p.showable = true ∧ p.shown.length ≤ sizeLine ∧ SeqAt.shaped p = true then .ok (.str p.shown) h else .bad
    | none => .bad
  | _, _ => .bad
def bAbs : FB
  | [.int i], h => .ok (.int (if i < 0 then -i else i)) h
  | _, _ => .bad
def bInt : FB
  | [.int i], h => .ok (.int i) h
  | [.bl k], h => .ok (.int (if k then 1 else 0)) h
  | _, _ => .bad
def bStr : FB
  | [.int i], h => if i.natAbs.log2 < 1920 then .ok (.str (toString i)) h else .bad
  | [.str x], h => .ok (.str x) h
  | _, _ => .bad
def bOrd : FB
  | [.str x], h => if x.length = 1 then .ok (.int (x.cps.getD 0 0 : Nat)) h else .bad
  | _, _ => .bad
def maxI (ns : List Int) : Int := ns.foldl max (ns.headD 0)
def minI (ns : List Int) : Int := ns.foldl min (ns.headD 0)
def bMax : FB
  | [.int i, .int j], h => .ok (.int (if j > i then j else i)) h
  | [d], h => match (seqOf h d).bind intsOf with
    | some (n :: ns) => .ok (.int (maxI (n :: ns))) h
    | _ => .bad
  | _, _ => .bad
def bMin : FB
  | [.int i, .int j], h => .ok (.int (if j < i then j else i)) h
  | [d], h => match (seqOf h d).bind intsOf with
    | some (n :: ns) => .ok (.int (minI (n :: ns))) h
    | _ => .bad
  | _, _ => .bad
def bSum : FB
  | [d], h => match (seqOf h d).bind intsOf with
    | some ns => .ok (.int ns.sum) h
    | none => .bad
  | _, _ => .bad
def blsOf : List D → Option (List Bool)
  | [] => some []
  | .bl b :: xs => (blsOf xs).map (b :: ·)
  | _ => none
def bAll : FB
  | [d], h => match (seqOf h d).bind blsOf with
    | some bs => .ok (.bl (bs.all id)) h
    | none => .bad
  | _, _ => .bad
def bAny : FB
  | [d], h => match (seqOf h d).bind blsOf with
    | some bs => .ok (.bl (bs.any id)) h
    | none => .bad
  | _, _ => .bad
/-- a value's class, of the built-in ones -/
def kindOf (h : MH) : D → Option String
  | .non => some "NoneType"
  | .bl _ => some "bool"
  | .int _ => some "int"
  | .str _ => some "str"
  | .tup _ => some "tuple"
  | .lst _ => some "list"
  | .ref n => match h.get n with
    | some (.lst _) => some "list"
    | none => none
  | _ => none
def isIn (k c : String) : Option Bool := if k = c then some true else if k = "bool" ∧ c = "int" then some true else if c = "int" ∨ c = "str" ∨ c = "tuple" ∨ c = "list" ∨ c = "bool" ∨ c = "dict" then some false else none
def bIsi : FB
  | [d, .raw (.ty c)], h => match (kindOf h d).bind (isIn · c) with
    | some b => .ok (.bl b) h
    | none => .bad
  | _, _ => .bad
theorem isIn_ok {k c : String} {b : Bool} (hk : k = "NoneType" ∨ k = "bool" ∨ k = "int" ∨ k = "str" ∨ k = "tuple" ∨ k = "list") (h : isIn k c = some b) : kitB k c = some b := by
  unfold isIn at h
  split at h
  · rename_i e
    subst e
    cases h
    rcases hk with rfl | rfl | rfl | rfl | rfl | rfl <;> decide +kernel
  · split at h
    · rename_i e
      cases h
      rw [e.1, e.2]
      decide +kernel
    · split at h
      · rename_i n1 n2 e
        cases h
        rcases hk with rfl | rfl | rfl | rfl | rfl | rfl <;> rcases e with rfl | rfl | rfl | rfl | rfl | rfl <;> first | decide +kernel | exact absurd rfl n1 | exact absurd ⟨rfl, rfl⟩ n2
      · cases h
theorem blsOf_ok {K : PySem.W.Frag} {w : W3} : ∀ {ds : List D} {vs : List V} {ns : List Bool}, Reps K w ds vs → blsOf ds = some ns → vs = ns.map V.bl
  | [], vs, ns, r, h => by simp only [blsOf, Option.some.injEq] at h; subst h; rw [r.unnil]; rfl
  | d :: ds, vs, ns, r, h => by
    obtain ⟨u, us, rfl, r1, r2⟩ := r.uncons
    cases d with
    | bl i =>
      simp only [blsOf, Option.map_eq_some_iff] at h
      obtain ⟨ms, h1, rfl⟩ := h
      rw [rep_bl] at r1
      rw [r1, blsOf_ok r2 h1]
      rfl
    | _ => simp [blsOf] at h
theorem foldl_max : ∀ (ns : List Int) (a : Int), (ns.foldl max a = a ∨ ns.foldl max a ∈ ns) ∧ a ≤ ns.foldl max a ∧ ∀ y ∈ ns, y ≤ ns.foldl max a
  | [], a => ⟨.inl rfl, Int.le_refl _, fun y h => by cases h⟩
  | n :: ns, a => by
    obtain ⟨h1, h2, h3⟩ := foldl_max ns (max a n)
    rw [List.foldl_cons]
    refine ⟨?_, by omega, fun y hy => ?_⟩
    · rcases h1 with h1 | h1
      · rw [h1]
        by_cases q : a ≤ n
        · right; rw [show max a n = n by omega]; exact List.mem_cons_self
        · left; omega
      · exact .inr (List.mem_cons_of_mem _ h1)
    · rcases List.mem_cons.mp hy with rfl | hy
      · omega
      · exact h3 y hy
theorem foldl_min : ∀ (ns : List Int) (a : Int), (ns.foldl min a = a ∨ ns.foldl min a ∈ ns) ∧ ns.foldl min a ≤ a ∧ ∀ y ∈ ns, ns.foldl min a ≤ y
  | [], a => ⟨.inl rfl, Int.le_refl _, fun y h => by cases h⟩
  | n :: ns, a => by
    obtain ⟨h1, h2, h3⟩ := foldl_min ns (min a n)
    rw [List.foldl_cons]
    refine ⟨?_, by omega, fun y hy => ?_⟩
    · rcases h1 with h1 | h1
      · rw [h1]
        by_cases q : a ≤ n
        · left; omega
        · right; rw [show min a n = n by omega]; exact List.mem_cons_self
      · exact .inr (List.mem_cons_of_mem _ h1)
    · rcases List.mem_cons.mp hy with rfl | hy
      · omega
      · exact h3 y hy
theorem maxI_mem {n : Int} {ns : List Int} : maxI (n :: ns) ∈ n :: ns ∧ ∀ y ∈ n :: ns, y ≤ maxI (n :: ns) := by
  obtain ⟨h1, h2, h3⟩ := foldl_max (n :: ns) n
  exact ⟨h1.elim (fun e => by show (n :: ns).foldl max n ∈ _; rw [e]; exact List.mem_cons_self) id, h3⟩
theorem minI_mem {n : Int} {ns : List Int} : minI (n :: ns) ∈ n :: ns ∧ ∀ y ∈ n :: ns, minI (n :: ns) ≤ y := by
  obtain ⟨h1, h2, h3⟩ := foldl_min (n :: ns) n
  exact ⟨h1.elim (fun e => by show (n :: ns).foldl min n ∈ _; rw [e]; exact List.mem_cons_self) id, h3⟩
section
variable {X : Cx} {E : XK}
theorem cr_len : CallR X (.builtin "len") (rB X.K E bLen) := by
  intro pins s σ H xs us Q I r h
  obtain ⟨w, ds, eH, k, rs, q⟩ := h
  subst eH
  unfold bLen at q
  split at q
  · obtain ⟨v, rfl, r1⟩ := rs.one
    have e := rep_str.mp r1
    subst e
    split at q
    · exact call_len pins s σ _ _ us Q I r ⟨_, _, rfl, ⟨by assumption, rfl⟩, q.here k (rep_int.mpr rfl)⟩
    · exact q.elim
  · obtain ⟨v, rfl, r1⟩ := rs.one
    split at q
    · rename_i xs e
      obtain ⟨a, vs, rfl, h2, h3⟩ := seq_at k r1 e
      rw [h3.length] at q
      rcases h2 with h2 | h2
      · exact call_len pins s σ _ _ us Q I r ⟨_, _, rfl, .inl ⟨vs, h2, rfl⟩, q.here k (rep_int.mpr rfl)⟩
      · exact call_len pins s σ _ _ us Q I r ⟨_, _, rfl, .inr ⟨vs, h2, rfl⟩, q.here k (rep_int.mpr rfl)⟩
    · exact q.elim
  · exact q.elim
theorem cr_tuple : CallR X (.type "tuple") (rB X.K E bTuple) := by
  intro pins s σ H xs us Q I r h
  obtain ⟨w, ds, eH, k, rs, q⟩ := h
  subst eH
  unfold bTuple at q
  split at q
  · rename_i d
    obtain ⟨v, rfl, r1⟩ := rs.one
    split at q
    · rename_i xs e
      cases d with
      | tup ys =>
        cases e
        obtain ⟨a, vs, rfl, h2, h3⟩ := tup_at r1
        exact call_tuple_of pins s σ _ _ us Q I r ⟨a, vs, rfl, .inr ⟨h2, q.here k r1⟩⟩
      | _ =>
        obtain ⟨a, vs, rfl, h2, h3⟩ := lst_at k r1 e
        exact call_tuple_of pins s σ _ _ us Q I r ⟨a, vs, rfl, .inl ⟨SqL.of h2, q.newT k h3⟩⟩
    · exact q.elim
  · exact q.elim
theorem cr_list : CallR X (.type "list") (rB X.K E bList) := by
  intro pins s σ H xs us Q I r h
  obtain ⟨w, ds, eH, k, rs, q⟩ := h
  subst eH
  unfold bList at q
  split at q
  · obtain ⟨v, rfl, r1⟩ := rs.one
    split at q
    · rename_i xs e
      obtain ⟨a, vs, rfl, h2, h3⟩ := seq_at k r1 e
      exact call_list_of pins s σ _ _ us Q I r ⟨a, vs, rfl, h2, q.newL k h3⟩
    · exact q.elim
  · exact q.elim
theorem cr_listH : CallR X (.type "list") (rB X.K E bListH) := by
  intro pins s σ H xs us Q I r h
  obtain ⟨w, ds, eH, k, rs, q⟩ := h
  subst eH
  unfold bListH at q
  split at q
  · obtain ⟨v, rfl, r1⟩ := rs.one
    split at q
    · rename_i xs e
      obtain ⟨a, vs, rfl, h2, h3⟩ := seq_at k r1 e
      exact call_list_of pins s σ _ _ us Q I r ⟨a, vs, rfl, h2, q.newH k h3⟩
    · exact q.elim
  · exact q.elim
theorem noDict : ∀ {p : PyData}, PyData.canLay0 p = true → p.hasDict = false := fun {p} h => PyData.hasDict_of_canLay p h
theorem cr_repr (hg : X.A.guards = some []) (hu : X.A.units + 66 < cLine) : CallR X (.builtin "repr") (rB X.K E bRepr) := by
  intro pins s σ H xs us Q I r h
  obtain ⟨w, ds, eH, k, rs, q⟩ := h
  subst eH
  unfold bRepr at q
  split at q
  · obtain ⟨v, rfl, r1⟩ := rs.one
    split at q
    · rename_i p e
      split at q
      · rename_i hz
        obtain ⟨h1, h2, h3⟩ := hz
        obtain ⟨u, rfl, ru⟩ := vals1 r
        have dp := toD_ok k r1 e
        have q' : Q (.str p.shown) w.H := q.here k (rep_str.mpr rfl)
        cases p with
        | none =>
          cases dp; cases ru
          exact PySem.P.repr_of_none ⟨.str _, _, I.tok _, ⟨_, rfl⟩, by simpa only [PyData.shown] using q'⟩
        | bool b =>
          cases dp; cases ru
          exact PySem.P.repr_of_bool ⟨.str _, _, I.tok _, ⟨_, rfl⟩, by simpa only [PyData.shown] using q'⟩
        | int i =>
          cases dp
          obtain ⟨t, rfl⟩ := ru
          exact PySem.P.repr_of_int (by simpa [PyData.showable] using h1) ⟨.str _, _, I.tok _, ⟨_, rfl⟩, by simpa only [PyData.shown] using q'⟩
        | str x =>
          cases dp
          obtain ⟨t, rfl⟩ := ru
          exact PySem.P.repr_of_str ⟨.str _, _, I.tok _, ⟨_, rfl⟩, by simpa only [PyData.shown] using q'⟩ (by simpa only [PyData.shown] using h2)
        | dict kvs => cases dp
        | list ps =>
          obtain ⟨as, rd⟩ := Dp.reads I _ _ _ dp ru
          cases dp
          cases ru
          have hd := SeqAt.depth_of_shaped h3
          exact repr_of_reads' rd h1 (fun z => absurd z (by rw [noDict (SeqAt.canLay_of_shaped h3)]; exact Bool.false_ne_true)) hg (by omega) (fun _ _ z => z)
            (fun h' t tk hk => ⟨.str _, _, I.kept (t' := tk) hk, ⟨_, rfl⟩, q'⟩) h2
        | tuple ps =>
          obtain ⟨as, rd⟩ := Dp.reads I _ _ _ dp ru
          cases dp
          cases ru
          have hd := SeqAt.depth_of_shaped h3
          exact repr_of_reads' rd h1 (fun z => absurd z (by rw [noDict (SeqAt.canLay_of_shaped h3)]; exact Bool.false_ne_true)) hg (by omega) (fun _ _ z => z)
            (fun h' t tk hk => ⟨.str _, _, I.kept (t' := tk) hk, ⟨_, rfl⟩, q'⟩) h2
      · exact q.elim
    · exact q.elim
  · exact q.elim
theorem cr_abs : CallR X (.builtin "abs") (rB X.K E bAbs) := by
  intro pins s σ H xs us Q I r h
  obtain ⟨w, ds, eH, k, rs, q⟩ := h
  subst eH
  unfold bAbs at q
  split at q
  · obtain ⟨v, rfl, r1⟩ := rs.one
    have e := rep_int.mp r1
    subst e
    exact call_abs pins s σ _ _ us Q I r ⟨_, rfl, q.here k (rep_int.mpr rfl)⟩
  · exact q.elim
theorem cr_int : CallR X (.type "int") (rB X.K E bInt) := by
  intro pins s σ H xs us Q I r h
  obtain ⟨w, ds, eH, k, rs, q⟩ := h
  subst eH
  unfold bInt at q
  split at q
  · obtain ⟨v, rfl, r1⟩ := rs.one
    have e := rep_int.mp r1
    subst e
    exact call_int1 pins s σ _ _ us Q I r (.inl ⟨_, rfl, q.here k (rep_int.mpr rfl)⟩)
  · obtain ⟨v, rfl, r1⟩ := rs.one
    have e := rep_bl.mp r1
    subst e
    exact call_int1 pins s σ _ _ us Q I r (.inr ⟨_, rfl, q.here k (rep_int.mpr rfl)⟩)
  · exact q.elim
theorem cr_str : CallR X (.type "str") (rB X.K E bStr) := by
  intro pins s σ H xs us Q I r h
  obtain ⟨w, ds, eH, k, rs, q⟩ := h
  subst eH
  unfold bStr at q
  split at q
  · obtain ⟨v, rfl, r1⟩ := rs.one
    have e := rep_int.mp r1
    subst e
    split at q
    · exact call_str_int pins s σ _ _ us Q I r ⟨_, rfl, by assumption, q.here k (rep_str.mpr rfl)⟩
    · exact q.elim
  · obtain ⟨v, rfl, r1⟩ := rs.one
    have e := rep_str.mp r1
    subst e
    exact SkE.call_str_str pins s σ _ _ us Q I r ⟨_, rfl, q.here k (rep_str.mpr rfl)⟩
  · exact q.elim
theorem cr_ord : CallR X (.builtin "ord") (rB X.K E bOrd) := by
  intro pins s σ H xs us Q I r h
  obtain ⟨w, ds, eH, k, rs, q⟩ := h
  subst eH
  unfold bOrd at q
  split at q
  · obtain ⟨v, rfl, r1⟩ := rs.one
    have e := rep_str.mp r1
    subst e
    split at q
    · exact call_ord pins s σ _ _ us Q I r ⟨_, rfl, by assumption, q.here k (rep_int.mpr rfl)⟩
    · exact q.elim
  · exact q.elim
theorem ints_at {w : W3} (k : Ok X.K w) {d : D} {v : V} {ns : List Int} (r : Rep X.K w d v) (h : (seqOf w.h d).bind intsOf = some ns) : ∃ a, v = .ref a ∧ (SqL X.K w.H a (ns.map V.int) ∨ SqT X.K w.H a (ns.map V.int)) := by
  cases e : seqOf w.h d with
  | none => rw [e] at h; cases h
  | some xs =>
    rw [e] at h
    obtain ⟨a, vs, rfl, h2, h3⟩ := seq_at k r e
    rw [intsOf_ok h3 h] at h2
    exact ⟨a, rfl, h2⟩
theorem bls_at {w : W3} (k : Ok X.K w) {d : D} {v : V} {ns : List Bool} (r : Rep X.K w d v) (h : (seqOf w.h d).bind blsOf = some ns) : ∃ a, v = .ref a ∧ (SqL X.K w.H a (ns.map V.bl) ∨ SqT X.K w.H a (ns.map V.bl)) := by
  cases e : seqOf w.h d with
  | none => rw [e] at h; cases h
  | some xs =>
    rw [e] at h
    obtain ⟨a, vs, rfl, h2, h3⟩ := seq_at k r e
    rw [blsOf_ok h3 h] at h2
    exact ⟨a, rfl, h2⟩
theorem antisym {a b : Int} {ns : List Int} (h1 : a ∈ ns) (h2 : ∀ y ∈ ns, y ≤ a) (h3 : b ∈ ns) (h4 : ∀ y ∈ ns, y ≤ b) : a = b := Int.le_antisymm (h4 a h1) (h2 b h3)
theorem cr_maxM (hc : X.calm = true) : CallR X (.builtin "max") (rB X.K E bMax) := by
  intro pins s σ H xs us Q I r h
  obtain ⟨w, ds, eH, k, rs, q⟩ := h
  subst eH
  unfold bMax at q
  split at q
  · obtain ⟨u, v, rfl, r1, r2⟩ := rs.two
    have e := rep_int.mp r1
    have e' := rep_int.mp r2
    subst e e'
    exact call_max2 hc pins s σ _ _ us Q I r ⟨_, _, rfl, q.here k (rep_int.mpr rfl)⟩
  · obtain ⟨v, rfl, r1⟩ := rs.one
    split at q
    · rename_i n ns e
      obtain ⟨a, rfl, h2⟩ := ints_at k r1 e
      have q' := q.here k (rep_int.mpr rfl)
      have q2 : ∀ m, m ∈ n :: ns → (∀ y, y ∈ n :: ns → y ≤ m) → Q (.int m) w.H := fun m hm hy => by
        rw [antisym hm hy maxI_mem.1 maxI_mem.2]
        exact q'
      rcases h2 with h2 | h2
      · exact cr_max hc pins s σ _ _ us Q I r ⟨a, _, rfl, h2, by simp, q2⟩
      · exact cr_maxT hc pins s σ _ _ us Q I r ⟨a, _, rfl, h2, by simp, q2⟩
    · exact q.elim
  · exact q.elim
theorem cr_minM (hc : X.calm = true) : CallR X (.builtin "min") (rB X.K E bMin) := by
  intro pins s σ H xs us Q I r h
  obtain ⟨w, ds, eH, k, rs, q⟩ := h
  subst eH
  unfold bMin at q
  split at q
  · obtain ⟨u, v, rfl, r1, r2⟩ := rs.two
    have e := rep_int.mp r1
    have e' := rep_int.mp r2
    subst e e'
    exact call_min2 hc pins s σ _ _ us Q I r ⟨_, _, rfl, q.here k (rep_int.mpr rfl)⟩
  · obtain ⟨v, rfl, r1⟩ := rs.one
    split at q
    · rename_i n ns e
      obtain ⟨a, rfl, h2⟩ := ints_at k r1 e
      have q' := q.here k (rep_int.mpr rfl)
      have q2 : ∀ m, m ∈ n :: ns → (∀ y, y ∈ n :: ns → m ≤ y) → Q (.int m) w.H := fun m hm hy => by
        rw [show m = minI (n :: ns) from Int.le_antisymm (hy _ minI_mem.1) (minI_mem.2 m hm)]
        exact q'
      rcases h2 with h2 | h2
      · exact cr_min hc pins s σ _ _ us Q I r ⟨a, _, rfl, h2, by simp, q2⟩
      · exact cr_minT hc pins s σ _ _ us Q I r ⟨a, _, rfl, h2, by simp, q2⟩
    · exact q.elim
  · exact q.elim
theorem cr_sumM (hc : X.calm = true) : CallR X (.builtin "sum") (rB X.K E bSum) := by
  intro pins s σ H xs us Q I r h
  obtain ⟨w, ds, eH, k, rs, q⟩ := h
  subst eH
  unfold bSum at q
  split at q
  · obtain ⟨v, rfl, r1⟩ := rs.one
    split at q
    · rename_i ns e
      obtain ⟨a, rfl, h2⟩ := ints_at k r1 e
      rcases h2 with h2 | h2
      · exact cr_sum hc pins s σ _ _ us Q I r ⟨a, _, rfl, h2, q.here k (rep_int.mpr rfl)⟩
      · exact cr_sumT hc pins s σ _ _ us Q I r ⟨a, _, rfl, h2, q.here k (rep_int.mpr rfl)⟩
    · exact q.elim
  · exact q.elim
theorem cr_allM (hc : X.calm = true) : CallR X (.builtin "all") (rB X.K E bAll) := by
  intro pins s σ H xs us Q I r h
  obtain ⟨w, ds, eH, k, rs, q⟩ := h
  subst eH
  unfold bAll at q
  split at q
  · obtain ⟨v, rfl, r1⟩ := rs.one
    split at q
    · rename_i ns e
      obtain ⟨a, rfl, h2⟩ := bls_at k r1 e
      rcases h2 with h2 | h2
      · exact cr_all hc pins s σ _ _ us Q I r ⟨a, _, rfl, h2, q.here k (rep_bl.mpr rfl)⟩
      · exact cr_allT hc pins s σ _ _ us Q I r ⟨a, _, rfl, h2, q.here k (rep_bl.mpr rfl)⟩
    · exact q.elim
  · exact q.elim
theorem cr_anyM (hc : X.calm = true) : CallR X (.builtin "any") (rB X.K E bAny) := by
  intro pins s σ H xs us Q I r h
  obtain ⟨w, ds, eH, k, rs, q⟩ := h
  subst eH
  unfold bAny at q
  split at q
  · obtain ⟨v, rfl, r1⟩ := rs.one
    split at q
    · rename_i ns e
      obtain ⟨a, rfl, h2⟩ := bls_at k r1 e
      rcases h2 with h2 | h2
      · exact cr_any hc pins s σ _ _ us Q I r ⟨a, _, rfl, h2, q.here k (rep_bl.mpr rfl)⟩
      · exact cr_anyT hc pins s σ _ _ us Q I r ⟨a, _, rfl, h2, q.here k (rep_bl.mpr rfl)⟩
    · exact q.elim
  · exact q.elim
theorem tyx_of {w : W3} (k : Ok X.K w) {d : D} {v : V} {n : String} (r : Rep X.K w d v) (h : kindOf w.h d = some n) : TyX X.K w.H v (.type n) ∧ (n = "NoneType" ∨ n = "bool" ∨ n = "int" ∨ n = "str" ∨ n = "tuple" ∨ n = "list") := by
  cases d with
  | non => cases h; rw [rep_non.mp r]; exact ⟨.base .non, by simp⟩
  | bl b => cases h; rw [rep_bl.mp r]; exact ⟨.base (.bl b), by simp⟩
  | int b => cases h; rw [rep_int.mp r]; exact ⟨.base (.int b), by simp⟩
  | str b => cases h; rw [rep_str.mp r]; exact ⟨.base (.str b), by simp⟩
  | tup xs =>
    cases h
    simp only [Rep] at r
    obtain ⟨a, vs, rfl, h2, _⟩ := r
    refine ⟨?_, by simp⟩
    rcases h2 with ⟨h2 | ⟨o, h2⟩, _⟩ | ⟨o, its, n, h2, h3, _⟩
    · exact .base (.tup h2)
    · exact .fTuple h2
    · exact .kTuple h2 h3
  | lst xs =>
    cases h
    simp only [Rep] at r
    obtain ⟨a, vs, rfl, h2, _⟩ := r
    exact ⟨.base (.lst h2.1), by simp⟩
  | ref m =>
    simp only [kindOf] at h
    split at h
    · rename_i xs e
      cases h
      simp only [Rep] at r
      obtain ⟨vs, h1, _⟩ := (k.dom m _ e).2
      rw [r.2]
      exact ⟨.base (.lst h1), by simp⟩
    · cases h
  | raw u => cases h
  | scr ns => cases h
theorem cr_isi : CallR X (.builtin "isinstance") (rB X.K E bIsi) := by
  intro pins s σ H xs us Q I r h
  obtain ⟨w, ds, eH, k, rs, q⟩ := h
  subst eH
  unfold bIsi at q
  split at q
  · rename_i d c
    obtain ⟨v, u, rfl, r1, r2⟩ := rs.two
    simp only [Rep] at r2
    subst r2
    split at q
    · rename_i b e
      cases e1 : kindOf w.h d with
      | none => rw [e1] at e; cases e
      | some n =>
        rw [e1] at e
        obtain ⟨t, hn⟩ := tyx_of k r1 e1
        exact call_isi pins s σ _ _ us Q I r ⟨v, _, _, _, b, rfl, .ty c, t, kit_ty (isIn_ok hn e), q.here k (rep_bl.mpr rfl)⟩
    · exact q.elim
  · exact q.elim
end
end Tb
end

section
set_option maxHeartbeats 4000000
namespace Tb
open PySem PySem.Spec L2
/-! ## defs -/
mutual
/-- what a value refers to stands below N -/
def D.bd (N : Nat) : D → Bool
  | .ref n => decide (n < N)
  | .tup xs => bds N xs
  | .lst xs => bds N xs
  | _ => true
def bds (N : Nat) : List D → Bool
  | [] => true
  | x :: xs => x.bd N && bds N xs
end
def MO.bd (N : Nat) : MO → Bool
  | .lst xs => bds N xs
/-- the heap ahead of a call, with what the call has written -/
def MH.cut (h : MH) (N : Nat) : MH := ⟨fun n => if n < N then h.get n else none, N⟩
open Classical in
/-- a def is left: what it has made is forgotten, if nothing refers to it -/
noncomputable def leave (N : Nat) (d : D) (h : MH) : R D := if d.bd N = true ∧ ∀ n, n < N → ∀ o, h.get n = some o → o.bd N = true then .ok d (h.cut N) else .ok d h
abbrev Fn := List D → MH → R D
/-- a def by its body: ns names, its parameters first -/
noncomputable def fnM (ns : Nat) (body : MS) : Fn := fun ds h => match body (ds.map some ++ List.replicate (ns - ds.length) none) h with
  | .ret d h1 => leave h.next d h1
  | .nx _ h1 => leave h.next .non h1
  | .exc e h1 => .exc e h1
  | _ => .bad
section
variable {K : PySem.W.Frag} {w w1 w2 : W3}
mutual
theorem Rep.cut (hi : w2.io = w1.io) (hH : w2.H = w1.H) (ho : ∀ a, Own w2 a → Own w1 a) : ∀ {d : D} {v : V}, d.bd w2.h.next = true → Rep K w1 d v → Rep K w2 d v
  | .non, _, _, h => by simpa only [Rep] using h
  | .bl _, _, _, h => by simpa only [Rep] using h
  | .int _, _, _, h => by simpa only [Rep] using h
  | .str _, _, _, h => by simpa only [Rep] using h
  | .raw _, _, _, h => by simpa only [Rep] using h
  | .ref n, _, hb, h => by
    simp only [Rep] at h ⊢
    simp only [D.bd, decide_eq_true_eq] at hb
    exact ⟨hb, by rw [hi]; exact h.2⟩
  | .tup xs, _, hb, h => by
    simp only [Rep] at h ⊢
    simp only [D.bd] at hb
    obtain ⟨a, vs, h1, h2, h3⟩ := h
    refine ⟨a, vs, h1, h2.imp (fun q => ⟨?_, fun z => q.2 (ho a z)⟩) id, Reps.cut hi hH ho hb h3⟩
    rw [hH]; exact q.1
  | .lst xs, _, hb, h => by
    simp only [Rep] at h ⊢
    simp only [D.bd] at hb
    obtain ⟨a, vs, h1, h2, h3⟩ := h
    exact ⟨a, vs, h1, ⟨by rw [hH]; exact h2.1, fun z => h2.2 (ho a z)⟩, Reps.cut hi hH ho hb h3⟩
  | .scr ns, _, _, h => by
    simp only [Rep] at h ⊢
    obtain ⟨a, h1, h2⟩ := h
    refine ⟨a, h1, h2.imp (fun q => ⟨?_, fun z => q.2 (ho a z)⟩) id⟩
    rw [hH]; exact q.1
theorem Reps.cut (hi : w2.io = w1.io) (hH : w2.H = w1.H) (ho : ∀ a, Own w2 a → Own w1 a) : ∀ {ds : List D} {vs : List V}, bds w2.h.next ds = true → Reps K w1 ds vs → Reps K w2 ds vs
  | [], _, _, h => by rw [h.unnil]; exact Reps.nil
  | d :: ds, _, hb, h => by
    obtain ⟨u, us, rfl, h1, h2⟩ := h.uncons
    simp only [bds, Bool.and_eq_true] at hb
    exact Reps.cons (Rep.cut hi hH ho hb.1 h1) (Reps.cut hi hH ho hb.2 h2)
end
theorem leave_ok {d : D} {v : V} {Q : D → W3 → V → Prop} {E : XK} (x : Ext w w1) (k : Ok K w1) (r : Rep K w1 d v) (q : PostW K E (RepD K) w (leave w.h.next d w1.h) Q) : ∃ w2, w2.H = w1.H ∧ Q d w2 v := by
  unfold leave at q
  split at q
  · rename_i hz
    have ho : ∀ a, Own (⟨w1.io, w1.h.cut w.h.next, w1.H, w1.bar⟩ : W3) a → Own w1 a := fun a z => by
      rcases z with ⟨n, o, h1, h2⟩ | z
      · simp only [MH.cut] at h1
        split at h1
        · exact .inl ⟨n, o, h1, h2⟩
        · cases h1
      · exact .inr z
    have hg : ∀ n o, (w1.h.cut w.h.next).get n = some o → n < w.h.next ∧ w1.h.get n = some o := fun n o h1 => by
      simp only [MH.cut] at h1
      split at h1
      · exact ⟨by assumption, h1⟩
      · cases h1
    refine ⟨⟨w1.io, w1.h.cut w.h.next, w1.H, w1.bar⟩, rfl, q _ v rfl ⟨x.io, Nat.le_refl _, fun a u h t n => ?_, x.ba⟩ ⟨fun n o h => ?_, fun n m o u h1 h2 e => k.inj n m o u (hg n o h1).2 (hg m u h2).2 e, k.barH, fun n o h => k.barO n o (hg n o h).2, fun P q t => TabW.all (w := w1) (fun a u h n => ⟨h, fun z => n (ho a z)⟩) (k.tab P q t)⟩ (Rep.cut (w1 := w1) (w2 := ⟨w1.io, w1.h.cut w.h.next, w1.H, w1.bar⟩) rfl rfl ho hz.1 r)⟩
    · obtain ⟨h1, n1⟩ := x.un a u h t n
      exact ⟨h1, fun z => n1 (ho a z)⟩
    · obtain ⟨h1, h2⟩ := hg n o h
      refine ⟨h1, ?_⟩
      have hb := hz.2 n h1 o h2
      cases o with
      | lst xs =>
        obtain ⟨vs, q1, q2⟩ := (k.dom n _ h2).2
        exact ⟨vs, q1, Reps.cut (w1 := w1) (w2 := ⟨w1.io, w1.h.cut w.h.next, w1.H, w1.bar⟩) rfl rfl ho hb q2⟩
  · exact ⟨w1, rfl, q w1 v rfl x k r⟩
end
/-! ### what a def promises -/
def spM (K : PySem.W.Frag) (F : Fn) (n : Nat) : Sp := fun vs H Q E => vs.length = n ∧ ∃ w ds, w.H = H ∧ Ok K w ∧ Reps K w ds vs ∧ PostW K E (RepD K) w (F ds w.h) fun _ w' v => Q v w'.H
/-- a def keeps it wherever no repr is under way -/
structure FnG (P : Program) (w : World) (K : PySem.W.Frag) (mg : Str → Option Value) (base : Heap) (k : Nat) (f : Addr) (fd : FuncData) (ps : List Str) (sp : Sp) : Prop where
  len : ∀ vs H Q E, sp vs H Q E → vs.length = ps.length
  run : ∀ (A : Around) (outer : List Env) (s : Shared) (H : Hp) (args : Args) (us : List Value) (vs : List V) (Q : VK) (E : XK), A.guards = some [] → Room k A → Env0 P w K mg base A outer s H → BindsTo s fd args (ps.zip us) →
    Vals vs us → sp vs H Q E → codeAny (model P w) A (.call (.ref f) args) (CR (L2.CX P w) outer P w H s Q E) s
theorem FnG.mono {P : Program} {w : World} {K : PySem.W.Frag} {mg : Str → Option Value} {base : Heap} {j k : Nat} {f : Addr} {fd : FuncData} {ps : List Str} {sp : Sp} (F : FnG P w K mg base j f fd ps sp) (h : j ≤ k) : FnG P w K mg base k f fd ps sp :=
  ⟨F.len, fun A outer s H args us vs Q E hg hr => F.run A outer s H args us vs Q E hg (hr.mono h)⟩
section
variable {P : Program} {w : World} {K : PySem.W.Frag} {mg : Str → Option Value} {base : Heap} {x qual : Str} {params : Arguments} {body : List Stmt} {scope : Scope} {dvs : List V} {kws : List (Str × V)} {f : Addr} {fd : FuncData}
/-- THE RULE: a def by its body's mirror -/
theorem fng {N ps : List Str} {k : Nat} {m : MS} (F : FunD K x qual params body scope dvs kws f fd) (S : FnScope N ps scope)
    (hbody : ∀ X : Cx, X.prog = P → X.w = w → X.K = K → X.mg = mg → X.base = base → X.N = N → X.env.scope = scope → X.calm = true → (∀ y, X.fn y = true) → X.A.guards = some [] → Room k X.A → X.env.blockKind = .function →
      ∀ E, Passes (L2.CX P w) X E → PassesOwn (model P w) X.A X.env X.xe → PSs X body (tMS K E m)) :
    FnG P w K mg base (k + 1) f fd ps (spM K (fnM N.length m) ps.length) := by
  obtain ⟨oc, od, dV, kV, doc, pm, an, cdv, ct, osl, rfl, lk, hcd, _, _⟩ := F.ex
  refine ⟨fun vs H Q E h => h.1, fun A outer s H args us vs Q E hg hr e0 hb r hsp => ?_⟩
  have hin : K.In s.heap := e0.mod.kin.keeps fun b o e => (e0.bs b o e).1
  have hlim : s.heap.NoLimit := e0.mod.nolimit.keeps fun b o e => (e0.bs b o e).1
  have hloc : ∀ y ∈ ps.zip us, scope.names.lookup y.1 = some .local ∨ (scope.names.lookup y.1 = some .cell ∧ ((cellsFrom (s.heap.objs.size + 1) scope.names []).lookup y.1).isSome = true) := by
    intro y hy
    exact (S.par y.1 (List.of_mem_zip (a := y.1) (b := y.2) hy).1).imp id fun q => ⟨q, PySem.W.cellsFrom_some _ _ _ (.inl q)⟩
  refine codeAny_call_function hr.depth (hin _ _ lk) rfl S.co S.gen rfl (PySem.W.codeRec_of hin hcd) (hb _ _ _ _ ?_)
  refine wpAny_newFunctionEnv_cells S.kind hloc fun env he s1 hx => ?_
  subst he
  refine ⟨hlim.keeps hx.toInCall.keep, codeAny_func ?_⟩
  have I := inv_start (CX := L2.CX P w) (E := E) S hr.hd e0 hsp.1 r hx
  obtain ⟨hl, w0, ds, eH, k0, r0, q0⟩ := hsp
  have tk : Takes (cxOf (L2.CX P w) P w K mg base N qual scope f cdv A outer s H E) fun cls d _ H => E cls d H := takes_of rfl rfl rfl rfl
  have hp := hbody (cxOf (L2.CX P w) P w K mg base N qual scope f cdv A outer s H E) rfl rfl rfl rfl rfl rfl rfl rfl (fun _ => rfl) hg (hr.deeper _) (by unfold Env.blockKind; rw [show (cxOf (L2.CX P w) P w K mg base N qual scope f cdv A outer s H E).env.scope.kind = .function from S.kind]; rfl) E
    (passes_call tk fun _ _ _ _ z => z) (passes_of rfl)
  have hds := r0.length
  have sr : SRep K w0 (ds.map some ++ List.replicate (N.length - ds.length) none) (L2.start N vs) := by
    unfold L2.start
    refine ⟨by simp [hds], fun i d hd => ?_⟩
    by_cases hi : i < ds.length
    · rw [List.getElem?_append_left (by simpa using hi), List.getElem?_map, Option.map_eq_some_iff] at hd
      obtain ⟨d', h1, h2⟩ := hd
      cases h2
      obtain ⟨v, h3, h4⟩ := r0.get h1
      exact ⟨v, by rw [List.getElem?_append_left (by simpa using (by omega : i < vs.length)), List.getElem?_map, h3]; rfl, h4⟩
    · rw [List.getElem?_append_right (by simpa using hi), List.getElem?_replicate] at hd
      split at hd <;> cases hd
  subst eH
  have fin : ∀ {σ' : L2.St} {H' : Hp} {v : V} {u : Value} {s' : Shared}, L2.Inv (cxOf (L2.CX P w) P w K mg base N qual scope f cdv A outer s w0.H E) [] σ' H' s' → RelV v u → Q v H' → CE outer P w w0.H s Q u s' := fun J rv q => ⟨_, _, J.os, J.bare, J.base, J.hok, rv, q⟩
  have post : PostS K E w0 (m (ds.map some ++ List.replicate (N.length - ds.length) none) w0.h) (endsM { nx := fun _ H' => Q .non H', rt := Q }) := by
    unfold fnM at q0
    split at q0
    · rename_i d h1 e
      rw [e]
      intro w' v e1 x1 k1 p1
      subst e1
      obtain ⟨w2, e2, q2⟩ := leave_ok x1 k1 p1 q0
      show Q v w'.H
      rw [← e2]; exact q2
    · rename_i s2 h1 e
      rw [e]
      intro w' σ' e1 x1 k1 p1
      subst e1
      obtain ⟨w2, e2, q2⟩ := leave_ok x1 k1 (rep_non.mpr rfl) q0
      show Q .non w'.H
      rw [← e2]; exact q2
    · rename_i ex h1 e
      rw [e]
      exact q0
    · exact q0.elim
  refine wpAny_mono (hp.run [] s1 (L2.start N vs) w0.H _ I (tMS_at k0 sr post)) (fun fl s' hs => ?_) fun e s' hs => hs
  cases fl with
  | ret u =>
    obtain ⟨v, σ', H', J, rv, q⟩ := hs
    exact fin J rv q
  | next =>
    obtain ⟨σ', H', J, q⟩ := hs
    exact fin (v := V.non) (u := Value.none) J rfl q
  | brk =>
    obtain ⟨_, _, _, q⟩ := hs
    exact False.elim q
  | cont =>
    obtain ⟨_, _, _, q⟩ := hs
    exact False.elim q
end
/-! ### calls -/
/-- a call: the positional values, then what stands for the others -/
def mCall (n : Nat) (F : Fn) (dv : List D) (a : MA) : ME := fun s h => (a s h).bind fun ds h1 => if ds.length + dv.length = n then F (ds ++ dv) h1 else .bad
section
variable {X : Cx} {E : XK} {k : Nat} {f : Addr} {fd : FuncData} {ps : List Str} {sp : Sp} {F : Fn} {dvs : List V} {ds : List Value} {dv : List D} {x : Str} {p pos : Pos} {e : Expr} {es : List Expr} {ma : MA}
theorem run_fng {pins : List (Addr × Obj)} {σ : L2.St} {H : Hp} {s : Shared} {Q : VK} {us : List Value} {vs : List V} (G : FnG X.prog X.w X.K X.mg X.base k f fd ps sp) (hg : X.A.guards = some []) (hr : Room k X.A) (hb : Binds X.K fd ps ds) (hd : Vals dvs ds)
    (hx : Passes (L2.CX X.prog X.w) X E) (I : L2.Inv X pins σ H s) (r : Vals vs us) (h : sp (vs ++ dvs) H Q E) : wpAny (model X.prog X.w) X.A (call (.ref f) us) (EP X pins σ Q) X.xe s := by
  have rr := r.append hd
  have hlen := (rr.length).symm.trans (G.len _ _ _ _ h)
  have go := G.run X.A X.stack s H ⟨us, []⟩ (us ++ ds) (vs ++ dvs) Q E hg hr I.env0 (hb s us I.kIn hlen) rr h
  refine wpAny_call (codeAny_mono go fun res s' hq => ?_)
  match res, hq with
  | .ok (.ret u), hq => exact I.after hq
  | .error e, hq => exact hx pins σ H s e s' I hq
theorem me_call (G : FnG X.prog X.w X.K X.mg X.base k f fd ps (spM X.K F ps.length)) (hgd : X.A.guards = some []) (hr : Room k X.A) (hg : Gl X x) (hm : X.mg x = some (.ref f)) (hk : PySem.W.keepIn X.K (.ref f) = true) (hb : Binds X.K fd ps ds) (hd : Vals dvs ds)
    (hdv : ∀ w, Reps X.K w dv dvs) (hx : Passes (L2.CX X.prog X.w) X E) (ha : PA X (e :: es) (tMA X.K E ma)) (hdb : (x == ("__debug__" : Str)) = false)
    (he : starEach (e :: es) X.env = (false, eval e X.env) :: starEach es X.env) (hpl : (backTo pos (starEach es X.env)).any (·.1) = false) : PE X (.Call (.Name x p) (e :: es) [] pos) (tM X.K E (mCall ps.length F dv ma)) := by
  refine ⟨fun pins s σ H Q I hq => ?_⟩
  obtain ⟨w, sl, eH, k0, r0, q⟩ := hq
  subst eH
  have hq1 : tMA X.K E ma σ w.H fun vs H1 => spM X.K F ps.length (vs ++ dvs) H1 Q E := by
    refine tMA_at k0 r0 ((PostW.bind (Rel := RepL X.K) q).imp fun ds w1 vs x1 k1 p1 q2 => ?_)
    split at q2
    · rename_i hz
      have r2 := p1.append (hdv w1)
      exact ⟨by rw [← r2.length, List.length_append]; exact hz, w1, ds ++ dv, rfl, k1, r2, q2⟩
    · exact q2.elim
  refine wpAny_Call_Name_kw (ld_glob I hg hm ?_ hdb)
  refine PySem.W.callWith_K (h₀ := X.base) I.ok.mod.kin hk (thn (ha.run pos pins s σ w.H _ I hq1) fun us s1 hv => ?_) he hpl
  obtain ⟨vs, H1, I1, rv, q2⟩ := hv
  exact ⟨I1.kIn, run_fng G hgd hr hb hd hx I1 rv q2⟩
end
section
variable {X : Cx} {E : XK} {k : Nat} {f : Addr} {fd : FuncData} {ps : List Str} {F : Fn} {dvs : List V} {ds : List Value} {dv : List D} {x : Str} {p pos : Pos}
theorem me_call0 (G : FnG X.prog X.w X.K X.mg X.base k f fd ps (spM X.K F ps.length)) (hgd : X.A.guards = some []) (hr : Room k X.A) (hg : Gl X x) (hm : X.mg x = some (.ref f)) (hk : PySem.W.keepIn X.K (.ref f) = true) (hb : Binds X.K fd ps ds) (hd : Vals dvs ds)
    (hdv : ∀ w, Reps X.K w dv dvs) (hx : Passes (L2.CX X.prog X.w) X E) (hdb : (x == ("__debug__" : Str)) = false) : PE X (.Call (.Name x p) [] [] pos) (tM X.K E (mCall ps.length F dv mNil)) := by
  refine ⟨fun pins s σ H Q I hq => ?_⟩
  obtain ⟨w, sl, eH, k0, r0, q⟩ := hq
  subst eH
  have q2 := (PostW.bind (Rel := RepL X.K) (r := mNil sl w.h) q).here k0 (v := []) Reps.nil
  split at q2
  · rename_i hz
    have r2 := hdv w
    refine wpAny_Call_Name_kw (ld_glob I hg hm ?_ hdb)
    exact PySem.W.callWith_K0 I.kIn hk (run_fng (us := []) (vs := []) G hgd hr hb hd hx I .nil ⟨by rw [List.nil_append, ← r2.length]; simpa using hz, w, _, rfl, k0, r2, q2⟩)
  · exact q2.elim
end
/-! ### calls with keywords -/
def tMK (K : PySem.W.Frag) (E : XK) (m : MA) : TA := tMA K E m
section
variable {X : Cx} {E : XK} {k n : Nat} {f : Addr} {fd : FuncData} {ps ks : List Str} {F : Fn} {x : Str} {p pos kpos : Pos} {e : Expr} {es : List Expr} {kws : List Keyword} {ma mk me : MA} {m : ME} {nm : Option Str}
  {g : List Value → List Value → List Value} {gV : List V → List V → List V} {gD : List D → List D → List D}
theorem pk_imp {t t' : TA} (h : PK X kws t) (hi : ∀ σ H Q, t' σ H Q → t σ H Q) : PK X kws t' := ⟨fun pos pins s σ H Q I q => h.run pos pins s σ H Q I (hi σ H Q q)⟩
theorem mk_nil : PK X [] (tMA X.K E mNil) := by
  refine pk_imp pk_nil fun σ H Q hq => ?_
  obtain ⟨w, s, e, k, r, q⟩ := hq
  subst e
  exact PostW.here (Rel := RepL X.K) q k Reps.nil
theorem mk_cons (ha : PE X e (tM X.K E m)) (ht : PK X kws (tMA X.K E ma)) : PK X (⟨nm, e, kpos⟩ :: kws) (tMA X.K E (mCons m ma)) := by
  refine pk_imp (pk_cons ha ht) fun σ H Q hq => ?_
  obtain ⟨w, s, e, k, r, q⟩ := hq
  subst e
  refine tM_at k r ((PostW.bind (Rel := RepD X.K) q).imp fun x w1 v x1 k1 p1 q1 => ?_)
  refine tMA_at k1 (r.ext x1) ((PostW.bind (Rel := RepL X.K) q1).imp fun xs w2 vs x2 k2 p2 q2 => ?_)
  exact PostW.here (Rel := RepL X.K) q2 k2 (Reps.cons (p1.ext x2) p2)
/-- n values by their places, l by their names -/
def mCallK (n l np : Nat) (F : Fn) (gD : List D → List D → List D) (a kw : MA) : ME := fun s h => (a s h).bind fun ds h1 => (kw s h1).bind fun es h2 => if ds.length = n ∧ es.length = l ∧ (gD ds es).length = np then F (gD ds es) h2 else .bad
theorem run_fngK {pins : List (Addr × Obj)} {σ : L2.St} {H : Hp} {s : Shared} {Q : VK} {us ws : List Value} {vs zs : List V} {sp : Sp} (G : FnG X.prog X.w X.K X.mg X.base k f fd ps sp) (hg : X.A.guards = some []) (hr : Room k X.A) (hb : KBn X.K fd ps n ks g gV)
    (hx : Passes (L2.CX X.prog X.w) X E) (I : L2.Inv X pins σ H s) (r : Vals vs us) (rz : Vals zs ws) (l1 : vs.length = n) (l2 : zs.length = ks.length) (h : sp (gV vs zs) H Q E) : wpAny (model X.prog X.w) X.A (call (.ref f) us (ks.zip ws)) (EP X pins σ Q) X.xe s := by
  have go := G.run X.A X.stack s H ⟨us, ks.zip ws⟩ (g us ws) (gV vs zs) Q E hg hr I.env0 (hb.to s us ws I.kIn (r.length.symm.trans l1) (rz.length.symm.trans l2)) (hb.rel r rz) h
  refine wpAny_call (codeAny_mono go fun res s' hq => ?_)
  match res, hq with
  | .ok (.ret u), hq => exact I.after hq
  | .error e, hq => exact hx pins σ H s e s' I hq
theorem me_callK (G : FnG X.prog X.w X.K X.mg X.base k f fd ps (spM X.K F ps.length)) (hgd : X.A.guards = some []) (hr : Room k X.A) (hg : Gl X x) (hm : X.mg x = some (.ref f)) (hk : PySem.W.keepIn X.K (.ref f) = true) (hb : KBn X.K fd ps n ks g gV)
    (hgV : ∀ (w : W3) (ds es : List D) (vs zs : List V), Reps X.K w ds vs → Reps X.K w es zs → Reps X.K w (gD ds es) (gV vs zs)) (hx : Passes (L2.CX X.prog X.w) X E) (ha : PA X (e :: es) (tMA X.K E ma)) (hkw : PK X kws (tMA X.K E mk))
    (hall : (backToKw pos (keywordEach kws X.env)).all (·.1.isSome) = true) (hks : (backToKw pos (keywordEach kws X.env)).filterMap (·.1) = ks) (hdb : (x == ("__debug__" : Str)) = false)
    (he : starEach (e :: es) X.env = (false, eval e X.env) :: starEach es X.env) (hpl : ((backTo pos (starEach (e :: es) X.env)).any (·.1) || (backToKw pos (keywordEach kws X.env)).any (·.1.isNone)) = false) :
    PE X (.Call (.Name x p) (e :: es) kws pos) (tM X.K E (mCallK n ks.length ps.length F gD ma mk)) := by
  refine ⟨fun pins s σ H Q I hq => ?_⟩
  obtain ⟨w, sl, eH, k0, r0, q⟩ := hq
  subst eH
  have hq1 : tMA X.K E ma σ w.H fun vs H1 => tMA X.K E mk σ H1 fun zs H2 => vs.length = n ∧ zs.length = ks.length ∧ spM X.K F ps.length (gV vs zs) H2 Q E := by
    refine tMA_at k0 r0 ((PostW.bind (Rel := RepL X.K) q).imp fun ds w1 vs x1 k1 p1 q1 => ?_)
    refine tMA_at k1 (r0.ext x1) ((PostW.bind (Rel := RepL X.K) q1).imp fun es w2 zs x2 k2 p2 q2 => ?_)
    split at q2
    · rename_i hz
      have r2 := hgV w2 ds es vs zs (p1.ext x2) p2
      exact ⟨by rw [← p1.length]; exact hz.1, by rw [← p2.length]; exact hz.2.1, by rw [← r2.length]; exact hz.2.2, w2, _, rfl, k2, r2, q2⟩
    · exact q2.elim
  refine wpAny_Call_Name_kw (ld_glob I hg hm ?_ hdb)
  refine PySem.W.callWith_KW (h₀ := X.base) I.ok.mod.kin hk hall (thn (ha.run pos pins s σ w.H _ I hq1) fun us s1 hv => ?_) hpl he
  obtain ⟨vs, H1, I1, rv, q2⟩ := hv
  refine thn (hkw.run pos pins s1 σ H1 _ I1 q2) fun ws s2 hz => ?_
  obtain ⟨zs, H2, I2, rz, l1, l2, q3⟩ := hz
  rw [hks]
  exact ⟨I2.kIn, run_fngK G hgd hr hb hx I2 rv rz l1 l2 q3⟩
end
/-- how keywords bind: a def with defaults, one without -/
theorem kb_dfl {K : PySem.W.Frag} {x qual : Str} {params : Arguments} {body : List Stmt} {scope : Scope} {dvs : List V} {f : Addr} {fd : FuncData} {ps : List Str} (F : FunD K x qual params body scope dvs [] f fd) (n : Nat) (ks : List Str) (g : {α : Type} → List α → List α → List α → List α) (hd : dvs ≠ [])
    (hrel : ∀ {vs ds zs : List V} {us its ws : List Value}, Vals vs us → Vals ds its → Vals zs ws → Vals (g vs ds zs) (g us its ws))
    (h : ∀ (T : Addr) (kV doc pm : Value) (an : Option Addr) (cdv ct : Value) (us its ws : List Value), us.length = n → its.length = dvs.length → ws.length = ks.length →
      ∃ k, bindArgs (PySem.W.fnOf x qual params body scope (.ref T) kV doc pm an cdv ct) ⟨us, ks.zip ws⟩ = seqItems? (.ref T) >>= k ∧ k (some its.toArray) = pure (ps.zip (g us its ws))) :
    ∃ its : List Value, KBn K fd ps n ks (fun us ws => g us its ws) (fun vs zs => g vs dvs zs) := by
  obtain ⟨oc, od, dV, kV, doc, pm, an, cdv, ct, osl, rfl, lk, hcd, hD, hK⟩ := F.ex
  rcases hD with ⟨e, _⟩ | ⟨_, T, o, its, m, rfl, lT, oT, rT⟩
  · exact absurd e hd
  · refine ⟨its, ⟨fun s us ws X l1 l2 => ?_, fun r1 r2 => hrel r1 rT r2⟩⟩
    obtain ⟨k, e1, e2⟩ := h T kV doc pm an cdv ct us its ws l1 rT.length.symm l2
    refine BindsTo.of_looks fun M => ?_
    rw [e1]
    exact looks_items X lT oT (.of_pure e2)
theorem kb_none {K : PySem.W.Frag} {x qual : Str} {params : Arguments} {body : List Stmt} {scope : Scope} {f : Addr} {fd : FuncData} {ps : List Str} (F : FunD K x qual params body scope [] [] f fd) (n : Nat) (ks : List Str) (g : {α : Type} → List α → List α → List α)
    (hrel : ∀ {vs zs : List V} {us ws : List Value}, Vals vs us → Vals zs ws → Vals (g vs zs) (g us ws))
    (h : ∀ (kV doc pm : Value) (an : Option Addr) (cdv ct : Value) (us ws : List Value), us.length = n → ws.length = ks.length → bindArgs (PySem.W.fnOf x qual params body scope .none kV doc pm an cdv ct) ⟨us, ks.zip ws⟩ = pure (ps.zip (g us ws))) :
    KBn K fd ps n ks (fun us ws => g us ws) (fun vs zs => g vs zs) := by
  obtain ⟨oc, od, dV, kV, doc, pm, an, cdv, ct, osl, rfl, lk, hcd, hD, hK⟩ := F.ex
  rcases hD with ⟨_, rfl⟩ | ⟨e, _⟩
  · exact ⟨fun s us ws X l1 l2 => .of_eq (h kV doc pm an cdv ct us ws l1 l2), fun r1 r2 => hrel r1 r2⟩
  · exact absurd rfl e
end Tb
end

section
set_option maxHeartbeats 4000000
namespace Tb
open PySem PySem.Spec PyProof.Rows L2
/-! ## in, not in -/
def flip (neg b : Bool) : Bool := if neg = true then !b else b
def opIn (neg : Bool) : F2
  | .str x, .str y, h => .ok (.bl (flip neg !(Builtin.Str.occurrences y x 0 y.length 1).isEmpty)) h
  | x, y, h => match toD h x, (seqOf h y).bind toPs with
    | some p, some ps => if SeqAt.shaped p = true ∧ SeqAt.shaped (.list ps) = true then .ok (.bl (flip neg (ps.any fun z => PyData.eqv z p))) h else .bad
    | _, _ => .bad
section
variable {X : Cx} {E : XK}
theorem op_inT (hu : X.A.units + 65 < cLine) : OpR X (compareOp .In) fun x y H Q => ∃ d ds, Dp X.K H x d ∧ Dp X.K H y (.tuple ds) ∧ SeqAt.shaped d = true ∧ SeqAt.shaped (.list ds) = true ∧ Q (.bl (ds.any fun z => PyData.eqv z d)) H := by
  intro pins s σ H x y v u Q I rx ry h
  obtain ⟨d, ds, hd, he, sd, se, q⟩ := h
  obtain ⟨as, r1⟩ := Dp.reads I d x v hd rx
  obtain ⟨bs, r2⟩ := Dp.reads I (.tuple ds) y u he ry
  exact SeqAt.in_tuple_reads r2 r1 (SeqAt.canLay_of_shaped se) (SeqAt.canLay_of_shaped sd) (room_in_shaped sd hu) ⟨.bl _, H, I, rfl, q⟩
theorem op_notInT (hu : X.A.units + 65 < cLine) : OpR X (compareOp .NotIn) fun x y H Q => ∃ d ds, Dp X.K H x d ∧ Dp X.K H y (.tuple ds) ∧ SeqAt.shaped d = true ∧ SeqAt.shaped (.list ds) = true ∧ Q (.bl (!ds.any fun z => PyData.eqv z d)) H := by
  intro pins s σ H x y v u Q I rx ry h
  obtain ⟨d, ds, hd, he, sd, se, q⟩ := h
  obtain ⟨as, r1⟩ := Dp.reads I d x v hd rx
  obtain ⟨bs, r2⟩ := Dp.reads I (.tuple ds) y u he ry
  exact SeqAt.notIn_tuple_reads r2 r1 (SeqAt.canLay_of_shaped se) (SeqAt.canLay_of_shaped sd) (room_in_shaped sd hu) ⟨.bl _, H, I, rfl, q⟩
theorem seqD_at {w : W3} (k : Ok X.K w) {d : D} {v : V} {ps : List PyData} (r : Rep X.K w d v) (e : (seqOf w.h d).bind toPs = some ps) : Dp X.K w.H v (.list ps) ∨ Dp X.K w.H v (.tuple ps) := by
  cases e1 : seqOf w.h d with
  | none => rw [e1] at e; cases e
  | some xs =>
    rw [e1] at e
    obtain ⟨a, vs, rfl, h2, h3⟩ := seq_at k r e1
    have h4 := toPs_ok h3 e
    exact h2.imp (fun z => .lst z h4) fun z => .tup z h4
theorem or_in (hu : X.A.units + 65 < cLine) : OpR X (compareOp .In) (rM X.K E (opIn false)) := by
  intro pins s σ H x y v u Q I rx ry h
  obtain ⟨w, d, e, eH, k, rd, re, q⟩ := h
  subst eH
  unfold opIn at q
  split at q
  · rw [rep_str] at rd re
    subst rd re
    exact op_in_str pins s σ _ _ _ v u Q I rx ry ⟨_, _, rfl, rfl, q.here k (rep_bl.mpr rfl)⟩
  · split at q
    · rename_i p ps e1 e2
      split at q
      · rename_i hz
        have q2 := q.here k (rep_bl.mpr rfl)
        rcases seqD_at k re e2 with h2 | h2
        · exact op_inD hu pins s σ _ x y v u Q I rx ry ⟨p, ps, toD_ok k rd e1, h2, hz.1, hz.2, q2⟩
        · exact op_inT hu pins s σ _ x y v u Q I rx ry ⟨p, ps, toD_ok k rd e1, h2, hz.1, hz.2, q2⟩
      · exact q.elim
    · exact q.elim
theorem or_notin (hu : X.A.units + 65 < cLine) : OpR X (compareOp .NotIn) (rM X.K E (opIn true)) := by
  intro pins s σ H x y v u Q I rx ry h
  obtain ⟨w, d, e, eH, k, rd, re, q⟩ := h
  subst eH
  unfold opIn at q
  split at q
  · rw [rep_str] at rd re
    subst rd re
    exact op_notin_str pins s σ _ _ _ v u Q I rx ry ⟨_, _, rfl, rfl, q.here k (rep_bl.mpr rfl)⟩
  · split at q
    · rename_i p ps e1 e2
      split at q
      · rename_i hz
        have q2 := q.here k (rep_bl.mpr rfl)
        rcases seqD_at k re e2 with h2 | h2
        · exact op_notInD hu pins s σ _ x y v u Q I rx ry ⟨p, ps, toD_ok k rd e1, h2, hz.1, hz.2, q2⟩
        · exact op_notInT hu pins s σ _ x y v u Q I rx ry ⟨p, ps, toD_ok k rd e1, h2, hz.1, hz.2, q2⟩
      · exact q.elim
    · exact q.elim
/-! ## a text, a list, a tuple so many times -/
/-- a text so many times -/
def repS (x : Str) (n : Nat) : Str := ⟨(List.replicate n x.cps).foldl (· ++ ·) #[]⟩
theorem rep_fold {α : Type} (a : Array α) : ∀ (n : Nat) (b : Array α), ((List.replicate n a).foldl (· ++ ·) b).size = b.size + a.size * n
  | 0, b => by simp
  | n + 1, b => by
    rw [List.replicate_succ, List.foldl_cons, rep_fold a n, Array.size_append, Nat.mul_succ]
    omega
theorem rep_size {x : Str} {n : Nat} : (repS x n).length = x.length * n := by
  show ((List.replicate n x.cps).foldl (· ++ ·) #[]).size = _
  rw [rep_fold]
  simp [Str.length]
theorem rep_void {x : Str} {n : Nat} (h : x.length = 0) : repS x n = x := by
  obtain ⟨c⟩ := x
  have hc : c = #[] := Array.size_eq_zero_iff.mp h
  subst hc
  have := rep_size (x := ⟨#[]⟩) (n := n)
  rw [h, Nat.zero_mul] at this
  exact congrArg Str.mk (Array.size_eq_zero_iff.mp this)
theorem rep_one {x : Str} : repS x 1 = x := by
  obtain ⟨c⟩ := x
  show Str.mk (#[] ++ c) = _
  rw [Array.empty_append]
theorem op_repS {X : Cx} : OpR X (binaryOp .Mult) fun x y H Q => ∃ a k, x = .str a ∧ y = .int k ∧ -(2 ^ 63) ≤ k ∧ k < 2 ^ 63 ∧ a.length * k.toNat ≤ sizeLine ∧ Q (.str (repS a k.toNat)) H := by
  intro pins s σ H x y v u Q I rx ry h
  obtain ⟨a, k, rfl, rfl, h1, h2, hz, q⟩ := h
  obtain ⟨t, rfl⟩ := rx
  obtain ⟨t', rfl⟩ := ry
  have hs := sizeLine_eq
  have h63 : ¬ k ≥ 2 ^ 63 := by omega
  have h62 : ¬ k < -(2 ^ 63 : Int) := by omega
  refine PySem.P.mul_str (by rw [decide_eq_false h62, decide_eq_false h63]; rfl) (fun h3 _ => ?_) (fun h3 _ => ?_) ?_
  · have hk : 0 < k := by omega
    have hm : (a.length : Int) * k ≤ sizeLine := by
      have : ((a.length * k.toNat : Nat) : Int) ≤ (sizeLine : Nat) := by exact_mod_cast hz
      rw [Int.natCast_mul, Int.toNat_of_nonneg (by omega)] at this
      exact this
    have : (a.length : Int) ≤ (2 ^ 63 - 1) / k := (Int.le_ediv_iff_mul_le hk).mpr (by rw [hs] at hm; omega)
    omega
  · unfold Builtin.Str.tooLong
    rw [decide_eq_false_iff_not]
    omega
  · by_cases h3 : k < 1
    · rw [if_pos h3]
      rw [show k.toNat = 0 by omega] at q
      exact ⟨by decide, .str _, H, I.tok _, ⟨_, rfl⟩, q⟩
    · rw [if_neg h3]
      by_cases h4 : (k == 1 || a.length == 0) = true
      · rw [if_pos h4]
        refine ⟨.str _, H, I, ⟨_, rfl⟩, ?_⟩
        rw [Bool.or_eq_true, beq_iff_eq, beq_iff_eq] at h4
        rcases h4 with h4 | h4
        · subst h4
          rw [show (1 : Int).toNat = 1 from rfl, rep_one] at q
          exact q
        · rw [rep_void h4] at q
          exact q
      · rw [if_neg h4]
        refine ⟨?_, .str _, H, I.tok _, ⟨_, rfl⟩, q⟩
        have e : (repS a k.toNat).length = _ := rep_size
        unfold repS at e
        rw [e]
        exact hz
def opRep : F2
  | .int i, .int j, h => opMul (.int i) (.int j) h
  | .str x, .int k, h => if -(2 ^ 63) ≤ k ∧ k < 2 ^ 63 ∧ x.length * k.toNat ≤ sizeLine then .ok (.str (repS x k.toNat)) h else .bad
  | .tup xs, .int k, h => if xs ≠ [] ∧ 2 ≤ k ∧ k ≤ 1000 ∧ xs.length ≤ 1000 then .ok (.tup (List.replicate k.toNat xs).flatten) h else .bad
  | d, .int k, h => match lstOf h d with
    | some xs => if -(2 ^ 63) ≤ k ∧ k < 2 ^ 63 ∧ xs.length * k.toNat ≤ sizeLine then .ok (.lst (List.replicate k.toNat xs).flatten) h else .bad
    | none => .bad
  | _, _, _ => .bad
theorem Reps.rep {K : PySem.W.Frag} {w : W3} {xs : List D} {vs : List V} (r : Reps K w xs vs) : ∀ n : Nat, Reps K w (List.replicate n xs).flatten (List.replicate n vs).flatten
  | 0 => Reps.nil
  | n + 1 => by
    simp only [List.replicate_succ, List.flatten_cons]
    exact r.append (Reps.rep r n)
theorem or_rep : OpR X (binaryOp .Mult) (rM X.K E opRep) := by
  intro pins s σ H x y v u Q I rx ry h
  obtain ⟨w, d, e, eH, k, rd, re, q⟩ := h
  subst eH
  unfold opRep at q
  split at q
  · exact or_mul pins s σ _ x y v u Q I rx ry ⟨w, _, _, rfl, k, rd, re, q⟩
  · split at q
    · rename_i hz
      rw [rep_str] at rd
      rw [rep_int] at re
      subst rd re
      exact op_repS pins s σ _ _ _ v u Q I rx ry ⟨_, _, rfl, rfl, hz.1, hz.2.1, hz.2.2, q.here k (rep_str.mpr rfl)⟩
    · exact q.elim
  · split at q
    · rename_i hz
      obtain ⟨a, vs, rfl, h2, h3⟩ := tup_at rd
      rw [rep_int] at re
      subst re
      refine op_repT pins s σ _ _ _ v u Q I rx ry ⟨a, _, vs, rfl, rfl, h2, fun z => hz.1 ?_, hz.2.1, hz.2.2.1, by rw [← h3.length]; exact hz.2.2.2, q.newT k (h3.rep _)⟩
      subst z
      cases hx : (‹List D› : List D) with
      | nil => rfl
      | cons x xs =>
        have := h3.length
        simp_all
    · exact q.elim
  · split at q
    · rename_i xs e1
      split at q
      · rename_i hz
        obtain ⟨a, vs, rfl, h2, h3⟩ := lst_at k rd e1
        rw [rep_int] at re
        subst re
        exact op_rep pins s σ _ _ _ v u Q I rx ry ⟨a, _, vs, rfl, rfl, h2, hz.1, hz.2.1, by rw [← h3.length]; exact hz.2.2, q.newL k (h3.rep _)⟩
      · exact q.elim
    · exact q.elim
  · exact q.elim
end
/-! ## calls by keywords alone -/
section
variable {X : Cx} {E : XK} {k : Nat} {f : Addr} {fd : FuncData} {ps ks : List Str} {F : Fn} {x : Str} {p pos : Pos} {kws : List Keyword} {mk : MA}
  {g : List Value → List Value → List Value} {gV : List V → List V → List V} {gD : List D → List D → List D}
theorem me_callK0 (G : FnG X.prog X.w X.K X.mg X.base k f fd ps (spM X.K F ps.length)) (hgd : X.A.guards = some []) (hr : Room k X.A) (hg : Gl X x) (hm : X.mg x = some (.ref f)) (hk : PySem.W.keepIn X.K (.ref f) = true) (hb : KBn X.K fd ps 0 ks g gV)
    (hgV : ∀ (w : W3) (ds es : List D) (vs zs : List V), Reps X.K w ds vs → Reps X.K w es zs → Reps X.K w (gD ds es) (gV vs zs)) (hx : Passes (L2.CX X.prog X.w) X E) (hkw : PK X kws (tMA X.K E mk))
    (hall : (backToKw pos (keywordEach kws X.env)).all (·.1.isSome) = true) (hks : (backToKw pos (keywordEach kws X.env)).filterMap (·.1) = ks) (hdb : (x == ("__debug__" : Str)) = false)
    (hpl : ((backTo pos (starEach [] X.env)).any (·.1) || (backToKw pos (keywordEach kws X.env)).any (·.1.isNone)) = false) :
    PE X (.Call (.Name x p) [] kws pos) (tM X.K E (mCallK 0 ks.length ps.length F gD mNil mk)) := by
  refine ⟨fun pins s σ H Q I hq => ?_⟩
  obtain ⟨w, sl, eH, k0, r0, q⟩ := hq
  subst eH
  have q0 := (PostW.bind (Rel := RepL X.K) (r := mNil sl w.h) q).here k0 (v := []) Reps.nil
  have hq1 : tMA X.K E mk σ w.H fun zs H2 => zs.length = ks.length ∧ spM X.K F ps.length (gV [] zs) H2 Q E := by
    refine tMA_at k0 r0 ((PostW.bind (Rel := RepL X.K) q0).imp fun es w2 zs x2 k2 p2 q2 => ?_)
    split at q2
    · rename_i hz
      have r2 := hgV w2 [] es [] zs Reps.nil p2
      exact ⟨by rw [← p2.length]; exact hz.2.1, by rw [← r2.length]; exact hz.2.2, w2, _, rfl, k2, r2, q2⟩
    · exact q2.elim
  refine wpAny_Call_Name_kw (ld_glob I hg hm ?_ hdb)
  refine PySem.W.callWith_KW0 (h₀ := X.base) I.ok.mod.kin hk hall (thn (hkw.run pos pins s σ w.H _ I hq1) fun ws s2 hz => ?_) hpl
  obtain ⟨zs, H2, I2, rz, l2, q3⟩ := hz
  rw [hks]
  exact ⟨I2.kIn, run_fngK (us := []) (vs := []) G hgd hr hb hx I2 .nil rz rfl l2 q3⟩
end
/-! ## pop -/
def lPop : FM
  | .ref n, [.int i], h => match h.get n with
    | some (.lst xs) => if -(2 ^ 63) ≤ i ∧ i < 2 ^ 63 then match seqIndex? i xs.length with
        | some k => match xs[k]? with
          | some y => .ok y (h.set n (.lst (xs.eraseIdx k)))
          | none => .bad
        | none => .bad
      else .bad
    | none => .bad
  | _, _, _ => .bad
theorem Reps.erase {K : PySem.W.Frag} {w : W3} : ∀ {ds : List D} {vs : List V} (i : Nat), Reps K w ds vs → Reps K w (ds.eraseIdx i) (vs.eraseIdx i)
  | [], _, _, h => by rw [h.unnil]; exact Reps.nil
  | d :: ds, _, 0, h => by
    obtain ⟨u, us, rfl, h2, h3⟩ := h.uncons
    exact h3
  | d :: ds, _, i + 1, h => by
    obtain ⟨u, us, rfl, h2, h3⟩ := h.uncons
    exact Reps.cons h2 (Reps.erase i h3)
section
variable {X : Cx} {E : XK}
theorem mr_pop : MtR X "list.pop" (rMeth X.K E lPop) := by
  intro pins s σ H x vs v us Q I rx rv h
  obtain ⟨w, d, ds, eH, k, rd, rs, q⟩ := h
  subst eH
  unfold lPop at q
  split at q
  · split at q
    · rename_i xs e1
      split at q
      · rename_i hz
        split at q
        · rename_i j e2
          split at q
          · rename_i y e3
            obtain ⟨u, rfl, r1⟩ := rs.one
            rw [rep_int] at r1
            subst r1
            have r0 := rd
            simp only [Rep] at r0
            obtain ⟨vs, h1, h2⟩ := (k.dom _ _ e1).2
            obtain ⟨z, h3, h4⟩ := h2.get e3
            refine mt_popAt pins s σ _ x _ v us Q I rx rv ⟨_, vs, _, j, z, r0.2, rfl, h1, hz.1, hz.2, by rw [← h2.length]; exact e2, h3, ?_⟩
            exact q (w.put _ (.lst (vs.eraseIdx j)) (.lst (xs.eraseIdx j))) _ rfl (Ext.put k e1) (put_lst k e1 (h2.erase j)) (h4.ext (Ext.put k e1))
          · exact q.elim
        · exact q.elim
      · exact q.elim
    · exact q.elim
  · exact q.elim
end
end Tb
end

section
set_option maxHeartbeats 4000000
namespace Tb
open PySem PySem.Spec PyProof.Rows HT L2
/-! ## xs[::-1] -/
section
variable {prog : Program} {w : World} {A : Around} {E : Value → Shared → Prop} {s : Shared}
theorem places_back (n : Nat) : Builtin.Slice.slicePlaces ((n : Int) - 1) (-1) (-1) = n := by
  unfold Builtin.Slice.slicePlaces
  rw [if_neg (by decide)]
  by_cases h : (n : Int) - 1 > -1
  · rw [if_pos h, show (-(-1) : Int) = 1 by decide, Int.ediv_one]
    omega
  · rw [if_neg h]
    omega
theorem applied_back {sl : Addr} {vl vu vs : Value} {n : Nat} {Q : Int × Int × Nat → Shared → Prop} (hs : s.heap.IsSliceOf sl vl vu vs) (pl : IsPart vl none) (pu : IsPart vu none) (ps : IsPart vs (some (-1))) (h : Q ((n : Int) - 1, -1, n) s) :
    wpAny (model prog w) A (Builtin.Slice.sliceApplied (.ref sl) (pure (n : Int))) Q E s := by
  obtain ⟨os, e1, _, e3⟩ := id hs
  unfold Builtin.Slice.sliceApplied Builtin.Slice.sliceFields
  refine wpAny_bind (wpAny_bind (wpAny_field e1 e3 (x := vl) rfl (wpAny_bind (wpAny_field e1 e3 (x := vu) rfl (wpAny_bind (wpAny_field e1 e3 (x := vs) rfl (wpAny_pure ?_)))))))
  refine wpAny_bind (slicePart_ ps ?_); show wpAny _ _ (if ((-1 : Int) == 0) = true then _ else _) _ _ s
  rw [if_neg (by decide)]
  refine wpAny_bind (slicePart_ pl (wpAny_bind (slicePart_ pu (wpAny_bind (wpAny_pure ?_)))))
  show wpAny _ _ (pure ((n : Int) - 1, (-1 : Int), Builtin.Slice.slicePlaces ((n : Int) - 1) (-1) (-1))) _ _ s
  rw [places_back]
  exact wpAny_pure h
theorem pick_back (xs : Array Value) : ((List.range xs.size).filterMap fun (k : Nat) => xs[((xs.size : Int) - 1 + (k : Int) * -1).toNat]?).toArray = xs.toList.reverse.toArray := by
  congr 1
  have e : ∀ k, k < xs.size → xs[((xs.size : Int) - 1 + (k : Int) * -1).toNat]? = xs.toList.reverse[k]? := fun k hk => by
    rw [show ((xs.size : Int) - 1 + (k : Int) * -1).toNat = xs.size - 1 - k by omega, List.getElem?_reverse (by simpa using hk)]
    simp
  have gen : ∀ (l : List Value) (f : Nat → Option Value), (∀ k, k < l.length → f k = l[k]?) → (List.range l.length).filterMap f = l := by
    intro l
    induction l with
    | nil => intro f _; rfl
    | cons x l ih =>
      intro f hf
      rw [List.length_cons, List.range_succ_eq_map, List.filterMap_cons, hf 0 (by simp), List.filterMap_map]
      simp only [List.getElem?_cons_zero]
      congr 1
      exact ih (f ∘ Nat.succ) fun k hk => by
        have := hf (k + 1) (by simp; omega)
        simpa using this
  have := gen xs.toList.reverse (fun k => xs[((xs.size : Int) - 1 + (k : Int) * -1).toNat]?) fun k hk => e k (by simpa using hk)
  simpa using this
theorem item_back {t sl : Addr} {items : Array Value} {vl vu vs : Value} {Q : Value → Shared → Prop} (ht : IsTup s.heap t items) (hs : s.heap.IsSliceOf sl vl vu vs) (pl : IsPart vl none) (pu : IsPart vu none) (ps : IsPart vs (some (-1)))
    (h : Q (.ref s.heap.objs.size) { s with heap := s.heap.push { cls := .type "tuple", data := .seq items.toList.reverse.toArray } }) (hsz : items.size ≤ sizeLine) : wpAny (model prog w) A (getItem (.ref t) (.ref sl)) Q E s := by
  obtain ⟨os, e1, e2, e3⟩ := id hs
  have ty : s.TypeIs (.ref sl) "slice" := ⟨os, e1, e2⟩
  unfold getItem
  try with_reducible refine wpAny_holding ?_
  first | refine wpAny_bind (wpAny_pure ?_) | skip
  refine wpAny_bind (wpAny_sequenceKey ht.typeIs (by decide) (wpAny_bind (wpAny_callSpecial?_slot (name := Str.ofString "__getitem__") ht.typeIs PyProof.Rows.slot_tuple_getitem (wpAny_call_entry PyProof.Rows.slot_tuple_getitem ht.typeIs entry_tuple_getitem ?_ (args_tuple_getitem _ _)))))
  show wpAny _ _ (Builtin.Tuple.tupleItemsOf (.ref t) >>= _) _ _ s
  refine wpAny_bind (tupleItemsOf_ ht (wpAny_bind (wpAny_typeOf ty ?_))); rw [if_pos (by decide)]
  refine wpAny_bind (applied_back hs pl pu ps ?_)
  show wpAny _ _ (if (((items.size : Int) - 1) == 0 && (-1 : Int) == 1 && items.size == items.size) = true then _ else _) _ _ s
  have no : ¬ ((((items.size : Int) - 1) == 0 && (-1 : Int) == 1 && items.size == items.size) = true) := by
    simp
  rw [if_neg no]
  rw [pick_back]
  have fits : sizeOk (.seq items.toList.reverse.toArray) := by
    show items.toList.reverse.toArray.size ≤ sizeLine
    simpa using hsz
  first
    | exact wpAny_bind (m := Builtin.Tuple.tupleExact _) (wpAny_newObj_type (wpAny_pure ⟨_, rfl, wpAny_pure h⟩) fits)
    | exact wpAny_bind (m := Builtin.Tuple.tupleExact _) (wpAny_newObj_type (wpAny_bind (wpAny_pure (wpAny_pure ⟨_, rfl, wpAny_pure h⟩))) fits)
    | exact wpAny_bind (wpAny_bind (m := Builtin.Tuple.tupleExact _) (wpAny_newObj_type (wpAny_pure (wpAny_pure ⟨_, rfl, wpAny_pure h⟩)) fits))
    | exact wpAny_bind (wpAny_bind (m := Builtin.Tuple.tupleExact _) (wpAny_newObj_type (wpAny_pure ⟨_, rfl, wpAny_pure h⟩) fits))
end
def opRev : D → MH → R D
  | .tup xs, h => .ok (.tup xs.reverse) h
  | d, h => match lstOf h d with
    | some xs => .ok (.lst xs.reverse) h
    | none => .bad
def mRev (m : ME) : ME := fun s h => (m s h).bind opRev
theorem Reps.rev {K : PySem.W.Frag} {w : W3} : ∀ {ds : List D} {vs : List V}, Reps K w ds vs → Reps K w ds.reverse vs.reverse
  | [], _, h => by rw [h.unnil]; exact Reps.nil
  | d :: ds, _, h => by
    obtain ⟨u, us, rfl, h2, h3⟩ := h.uncons
    rw [List.reverse_cons, List.reverse_cons]
    exact (Reps.rev h3).append (Reps.cons h2 Reps.nil)
section
variable {X : Cx} {E : XK} {e : Expr} {m : ME} {k : Nat} {p1 p2 p3 pos : Pos}
/-- one value turned round, of either kind -/
def tRevA (K : PySem.W.Frag) (te : TE) : TE := fun σ H Q => te σ H fun x H1 => (∃ a xs, x = .ref a ∧ SqL K H1 a xs ∧ ∀ p, H1 p = none → Q (.ref p) (upd H1 p (.lst xs.reverse))) ∨ ∃ a xs, x = .ref a ∧ SqT K H1 a xs ∧ ∀ p, H1 p = none → Q (.ref p) (upd H1 p (.tup xs.reverse))
theorem pe_revA {te : TE} (he : PE X e te) : PE X (.Subscript e (.Slice none none (some (.UnaryOp .USub (.Constant (.int 1) k p1) p2)) p3) pos) (tRevA X.K te) := by
  refine ⟨fun pins s σ H Q I h => ?_⟩
  refine Subscript_ (thn (he.run pins s σ H _ I h) fun v s1 hv => ?_)
  obtain ⟨x, H1, I1, r1, q1⟩ := hv
  have part : PO X (some (.UnaryOp .USub (.Constant (.int 1) k p1) p2)) (tPart (tUn (rU fun i => .int (-i)) (tC (.int 1)))) := po_some (pe_un un_neg pe_int)
  refine wpAny_Slice (thn (po_none.run pins s1 σ H1 (fun o H2 => o = none ∧ H2 = H1) I1 ⟨rfl, rfl⟩) fun vl s2 z2 => ?_)
  obtain ⟨l, H2, I2, pl, rfl, rfl⟩ := z2
  refine thn (po_none.run pins s2 σ H2 (fun o H3 => o = none ∧ H3 = H2) I2 ⟨rfl, rfl⟩) fun vu s3 z3 => ?_
  obtain ⟨u, H3, I3, pu, rfl, rfl⟩ := z3
  refine thn (part.run pins s3 σ H3 (fun o H4 => o = some (-1) ∧ H4 = H3) I3 ⟨1, rfl, -1, rfl, rfl, rfl⟩) fun vs s4 z4 => ?_
  obtain ⟨o, H4, I4, ps, rfl, rfl⟩ := z4
  have I5 : L2.Inv X pins σ H4 { s4 with heap := s4.heap.push { cls := .type "slice", data := .fields #[vl, vu, vs] } } := I4.kept (t' := s4.toks) fun b ob q => Heap.get?_push_of_some _ q
  rcases q1 with ⟨a, xs, rfl, hx, q⟩ | ⟨a, xs, rfl, hx, q⟩
  · cases r1
    obtain ⟨its, r, ht, hz⟩ := I5.list hx
    have len := r.length
    show wpAny (model X.prog X.w) X.A (subscriptTail e (.Slice none none (some (.UnaryOp .USub (.Constant (.int 1) k p1) p2)) p3) (.ref a) (.ref s4.heap.objs.size)) (EP X pins σ Q) X.xe _
    refine tail_any (ops := [.ref a, .ref s4.heap.objs.size]) ht.isList.typeIs (PySem.slot_list_getitem.lookup) ?_ (by with_unfolding_all rfl)
    refine wpAny_getItem_list_slice ht.isList (Heap.IsSliceOf.new _ vl vu vs) pl pu ps (by decide) ?_ (by rw [List.size_toArray]; omega)
    rw [PySem.W.krv_pick]
    exact ⟨.ref _, _, I5.laid (t' := s4.toks) (o := .lst xs.reverse) (fun b ob q => Heap.get?_push_of_some _ q) (Nat.le_refl _) ⟨by rw [List.length_reverse]; exact hz, _, 0, r.reverse, Heap.get?_push_size _ rfl⟩, rfl, q _ (I5.hok.fresh (Nat.le_refl _))⟩
  · cases r1
    obtain ⟨its, r, ht, hz⟩ := I5.tuple hx
    have len := r.length
    show wpAny (model X.prog X.w) X.A (subscriptTail e (.Slice none none (some (.UnaryOp .USub (.Constant (.int 1) k p1) p2)) p3) (.ref a) (.ref s4.heap.objs.size)) (EP X pins σ Q) X.xe _
    refine tail_any (ops := [.ref a, .ref s4.heap.objs.size]) ht.typeIs (PyProof.Rows.slot_tuple_getitem.lookup) ?_ (by with_unfolding_all rfl)
    refine item_back ht (Heap.IsSliceOf.new _ vl vu vs) pl pu ps ?_ (by rw [List.size_toArray]; omega)
    refine ⟨.ref _, _, I5.laid (t' := s4.toks) (o := .tup xs.reverse) (fun b ob q => Heap.get?_push_of_some _ q) (Nat.le_refl _) ⟨by rw [List.length_reverse]; exact hz, its.reverse, r.reverse, ?_⟩, rfl, q _ (I5.hok.fresh (Nat.le_refl _))⟩
    exact ⟨_, Heap.get?_push_size _ rfl, rfl, 0, by simp⟩
theorem me_rev (he : PE X e (tM X.K E m)) : PE X (.Subscript e (.Slice none none (some (.UnaryOp .USub (.Constant (.int 1) k p1) p2)) p3) pos) (tM X.K E (mRev m)) := by
  refine pe_imp (pe_revA he) fun σ H Q hq => ?_
  obtain ⟨w, s, e, k, r, q⟩ := hq
  subst e
  refine tM_at k r ((PostW.bind (Rel := RepD X.K) q).imp fun d w1 v x1 k1 p1 q1 => ?_)
  unfold opRev at q1
  split at q1
  · obtain ⟨a, vs, rfl, h2, h3⟩ := tup_at p1
    exact .inr ⟨a, vs, rfl, h2, q1.newT k1 h3.rev⟩
  · split at q1
    · rename_i xs e1
      obtain ⟨a, vs, rfl, h2, h3⟩ := lst_at k1 p1 e1
      exact .inl ⟨a, vs, rfl, SqL.of h2, q1.newL k1 h3.rev⟩
    · exact q1.elim
end
end Tb
end

section
set_option maxHeartbeats 4000000
namespace Tb
open PySem PySem.Spec PyProof.Rows L2
/-! ## sorted: a list of ints, of texts -/
def sortI (ns : List Int) : List Int := ns.mergeSort fun a b => decide (a ≤ b)
def leS (a b : Str) : Bool := !decide (b.cps.toList < a.cps.toList)
def sortS (ss : List Str) : List Str := ss.mergeSort leS
theorem sortI_perm {ns : List Int} : (sortI ns).Perm ns := List.mergeSort_perm _ _
theorem sortI_le {ns : List Int} : (sortI ns).Pairwise (· ≤ ·) := by
  have := List.pairwise_mergeSort (le := fun a b : Int => decide (a ≤ b)) (fun a b c h1 h2 => by simp at *; omega) (fun a b => by simp; omega) ns
  exact this.imp fun h => by simpa using h
theorem sortI_eq {ns ms : List Int} (h1 : ms.Perm ns) (h2 : ms.Pairwise (· ≤ ·)) : ms = sortI ns :=
  List.Perm.eq_of_pairwise (le := (· ≤ ·)) (fun a b _ _ h h' => by omega) h2 sortI_le (h1.trans sortI_perm.symm)
theorem leS_trans {a b c : Str} (h1 : leS a b = true) (h2 : leS b c = true) : leS a c = true := by
  unfold leS at *
  simp only [Bool.not_eq_true', decide_eq_false_iff_not, List.not_lt] at *
  exact List.le_trans h1 h2
theorem leS_total (a b : Str) : (leS a b || leS b a) = true := by
  unfold leS
  simp only [Bool.or_eq_true, Bool.not_eq_true', decide_eq_false_iff_not, List.not_lt]
  exact List.le_total _ _
theorem Str.ext_cps {a b : Str} (h : a.cps.toList = b.cps.toList) : a = b := by
  cases a; cases b
  simp only [Array.toList_inj] at h
  rw [h]
theorem leS_anti {a b : Str} (h1 : leS a b = true) (h2 : leS b a = true) : a = b := by
  unfold leS at *
  simp only [Bool.not_eq_true', decide_eq_false_iff_not, List.not_lt] at *
  exact Str.ext_cps (List.le_antisymm h1 h2)
theorem sortS_perm {ns : List Str} : (sortS ns).Perm ns := List.mergeSort_perm _ _
theorem sortS_le {ns : List Str} : (sortS ns).Pairwise (fun a b => leS a b = true) := List.pairwise_mergeSort (le := leS) (fun a b c => leS_trans) leS_total ns
theorem risingS_le : ∀ {ss : List Str} {p : Str}, risingS p ss = true → ss.Pairwise (fun a b => leS a b = true) ∧ ∀ s ∈ ss, leS p s = true
  | [], _, _ => ⟨.nil, fun _ h => by cases h⟩
  | x :: r, p, h => by
    simp only [risingS, Bool.and_eq_true] at h
    obtain ⟨h1, h2⟩ := risingS_le h.2
    have hp : leS p x = true := by
      unfold leS
      rw [← ltCps_eq]
      exact h.1
    refine ⟨List.pairwise_cons.mpr ⟨h2, h1⟩, fun s hs => ?_⟩
    rcases List.mem_cons.mp hs with rfl | hs
    · exact hp
    · exact leS_trans hp (h2 s hs)
theorem sortedS_le {ss : List Str} (h : sortedS ss = true) : ss.Pairwise (fun a b => leS a b = true) := by
  cases ss with
  | nil => exact .nil
  | cons x r =>
    obtain ⟨h1, h2⟩ := risingS_le (p := x) (ss := r) h
    exact List.pairwise_cons.mpr ⟨h2, h1⟩
theorem sortS_eq {ns ms : List Str} (h1 : ms.Perm ns) (h2 : sortedS ms = true) : ms = sortS ns :=
  List.Perm.eq_of_pairwise (le := fun a b => leS a b = true) (fun a b _ _ h h' => leS_anti h h') (sortedS_le h2) sortS_le (h1.trans sortS_perm.symm)
def strsOf : List D → Option (List Str)
  | [] => some []
  | .str x :: xs => (strsOf xs).map (x :: ·)
  | _ => none
theorem strsOf_ok {K : PySem.W.Frag} {w : W3} : ∀ {ds : List D} {vs : List V} {ss : List Str}, Reps K w ds vs → strsOf ds = some ss → vs = ss.map V.str
  | [], vs, ss, r, h => by simp only [strsOf, Option.some.injEq] at h; subst h; rw [r.unnil]; rfl
  | d :: ds, vs, ss, r, h => by
    obtain ⟨u, us, rfl, r1, r2⟩ := r.uncons
    cases d with
    | str x =>
      simp only [strsOf, Option.map_eq_some_iff] at h
      obtain ⟨ms, h1, rfl⟩ := h
      rw [rep_str] at r1
      rw [r1, strsOf_ok r2 h1]
      rfl
    | _ => simp [strsOf] at h
theorem reps_strs {K : PySem.W.Frag} {w : W3} : ∀ ss : List Str, Reps K w (ss.map .str) (ss.map V.str)
  | [] => Reps.nil
  | n :: ns => Reps.cons (rep_str.mpr rfl) (reps_strs ns)
def bSorted : FB
  | [d], h => match lstOf h d with
    | some xs => match strsOf xs with
      | some ss => if ss.length < 64 then .ok (.lst ((sortS ss).map .str)) h else .bad
      | none => match intsOf xs with
        | some ns => .ok (.lst ((sortI ns).map .int)) h
        | none => .bad
    | none => .bad
  | _, _ => .bad
section
variable {X : Cx} {E : XK}
theorem cr_sortedM : CallR X (.builtin "sorted") (rB X.K E bSorted) := by
  intro pins s σ H xs us Q I r h
  obtain ⟨w, ds, eH, k, rs, q⟩ := h
  subst eH
  unfold bSorted at q
  split at q
  · obtain ⟨v, rfl, r1⟩ := rs.one
    split at q
    · rename_i xs e
      obtain ⟨a, vs, rfl, h2, h3⟩ := lst_at k r1 e
      split at q
      · rename_i ss e1
        split at q
        · rename_i hz
          have e2 := strsOf_ok h3 e1
          subst e2
          refine cr_sortedS pins s σ _ _ us Q I r ⟨a, ss, rfl, SqL.of h2, hz, fun ys p y1 y2 hp => ?_⟩
          rw [sortS_eq y1 y2]
          exact q.newL k (reps_strs _) p hp
        · exact q.elim
      · split at q
        · rename_i ns e1
          have e2 := intsOf_ok h3 e1
          subst e2
          refine cr_sortedI pins s σ _ _ us Q I r ⟨a, ns, rfl, SqL.of h2, fun ys p y1 y2 hp => ?_⟩
          rw [sortI_eq y1 y2]
          exact q.newL k (reps_ints _) p hp
        · exact q.elim
    · exact q.elim
  · exact q.elim
end
end Tb
end

section
set_option maxHeartbeats 4000000
namespace Tb
open PySem PySem.Spec PyProof.Rows L2
/-! ## text.index(text), where it is found -/
def bSIndex : FB
  | [.str a, .str b], h => match Builtin.Str.occurrences a b 0 a.length 1 with
    | i :: _ => .ok (.int (i : Nat)) h
    | [] => .bad
  | _, _ => .bad
/-- a method by its function of the receiver and the rest -/
def lOf (f : FB) : FM := fun d ds h => f (d :: ds) h
section
variable {X : Cx} {E : XK}
theorem mr_sindex : MtR X "str.index" (rMeth X.K E (lOf bSIndex)) := by
  intro pins s σ H x vs v us Q I rx rv h
  obtain ⟨w, d, ds, eH, k, rd, rs, q⟩ := h
  subst eH
  unfold lOf bSIndex at q
  split at q
  · rename_i e0
    cases e0
    split at q
    · rename_i i r e1
      obtain ⟨y, rfl, r1⟩ := rs.one
      rw [rep_str] at rd r1
      subst rd r1
      exact mt_sindex pins s σ _ _ _ v us Q I rx rv ⟨_, _, i, r, rfl, rfl, e1, q.here k (rep_int.mpr rfl)⟩
    · exact q.elim
  · exact q.elim
end
/-! ## built-in functions by keywords -/
def rBK (K : PySem.W.Frag) (E : XK) (f : FB) (n l : Nat) : List V → List V → Hp → VK → Prop := fun vs zs H Q => vs.length = n ∧ zs.length = l ∧ rB K E f (vs ++ zs) H Q
def mCallBK (n l : Nat) (f : FB) (a b : MA) : ME := fun s h => (a s h).bind fun ds h1 => (b s h1).bind fun es h2 => if ds.length = n ∧ es.length = l then f (ds ++ es) h2 else .bad
section
variable {X : Cx} {E : XK} {e : Expr} {es : List Expr} {kws : List Keyword} {ma mk : MA} {f : FB} {id : String} {x : Str} {p pos : Pos} {ks : List Str} {n l : Nat}
theorem tCKw_of {σ : L2.St} {H : Hp} {Q : VK} (h : tM X.K E (mCallBK n l f ma mk) σ H Q) : tCKw (rBK X.K E f n l) (tMA X.K E ma) (tMA X.K E mk) σ H Q := by
  obtain ⟨w, s, e, k, r, q⟩ := h
  subst e
  refine tMA_at k r ((PostW.bind (Rel := RepL X.K) q).imp fun ds w1 vs x1 k1 p1 q1 => ?_)
  refine tMA_at k1 (r.ext x1) ((PostW.bind (Rel := RepL X.K) q1).imp fun es w2 zs x2 k2 p2 q2 => ?_)
  split at q2
  · rename_i hz
    exact ⟨by rw [← Reps.length p1]; exact hz.1, by rw [← Reps.length p2]; exact hz.2, w2, ds ++ es, rfl, k2, (Reps.ext x2 p1).append p2, q2⟩
  · exact q2.elim
theorem me_callBK (hc : CallRK X (.builtin id) ks (rBK X.K E f n l)) (hg : Gl X x) (hm : X.mg x = none) (hv : bootBuiltins x = some (.builtin id)) (ha : PA X (e :: es) (tMA X.K E ma)) (hk : PK X kws (tMA X.K E mk)) (hn : x ≠ "__name__") (hdb : (x == ("__debug__" : Str)) = false)
    (he : backTo pos (starEach (e :: es) X.env) = (false, eval e X.env) :: backTo pos (starEach es X.env)) (hpl : (backTo pos (starEach (e :: es) X.env)).any (·.1) = false)
    (hall : (backToKw pos (keywordEach kws X.env)).all (·.1.isSome) = true) (hnone : (backToKw pos (keywordEach kws X.env)).any (·.1.isNone) = false) (hks : (backToKw pos (keywordEach kws X.env)).filterMap (·.1) = ks) :
    PE X (.Call (.Name x p) (e :: es) kws pos) (tM X.K E (mCallBK n l f ma mk)) :=
  pe_imp (pe_callBK hc hg hm hv ha hk hn hdb he hpl hall hnone hks) fun _ _ _ h => tCKw_of h
/-! ## max(.., default=..) -/
def bMaxD : FB
  | [d, .int z], h => match (seqOf h d).bind intsOf with
    | some [] => .ok (.int z) h
    | some (n :: ns) => .ok (.int (maxI (n :: ns))) h
    | none => .bad
  | _, _ => .bad
theorem dp_ints {K : PySem.W.Frag} {H : Hp} : ∀ ns : List Int, DpAll K H (ns.map V.int) (ns.map .int)
  | [] => .nil
  | n :: ns => .cons (.int n) (dp_ints ns)
theorem alike_ints (ns : List Int) : PySem.W.AlikeAll (ns.map .int) := by
  refine ⟨fun x hx y hy => ?_, fun x hx => ?_⟩
  · obtain ⟨i, _, rfl⟩ := List.mem_map.mp hx
    obtain ⟨j, _, rfl⟩ := List.mem_map.mp hy
    rfl
  · obtain ⟨i, _, rfl⟩ := List.mem_map.mp hx
    intro z
    cases z
theorem depthInts : ∀ ns : List Int, PyData.depthAll (ns.map .int) = 0
  | [] => rfl
  | n :: ns => by
    have := depthInts ns
    simp only [List.map_cons, PyData.depthAll, PyData.depth, this]
    rfl
theorem ints_item {ns : List Int} {its : List Value} {i : Nat} {v : Value} (r : Vals (ns.map V.int) its) (h : its[i]? = some v) : ∃ j t, v = .int j t := by
  have hl := r.length
  have hi : i < ns.length := by
    have := (List.getElem?_eq_some_iff.mp h).1
    simp at hl
    omega
  obtain ⟨u, eu, ru⟩ := r.get (i := i) (x := V.int ns[i]) (by simp [hi])
  rw [h] at eu
  cases eu
  obtain ⟨t, rfl⟩ := ru
  exact ⟨_, t, rfl⟩
theorem maxI_eq {n : Int} {ns : List Int} : maxI (n :: ns) = ns.foldl max n := by
  show ns.foldl max (max n n) = _
  rw [Int.max_self]
theorem cr_maxD (hc : X.calm = true) (hu : X.A.units + 66 < cLine) : CallRK X (.builtin "max") ["default"] (rBK X.K E bMaxD 1 1) := by
  intro pins s σ H xs zs us ws Q I r rz h
  obtain ⟨l1, l2, w, ds, eH, k, rs, q⟩ := h
  subst eH
  obtain ⟨x, rfl⟩ := List.length_eq_one_iff.mp l1
  obtain ⟨y, rfl⟩ := List.length_eq_one_iff.mp l2
  unfold bMaxD at q
  split at q
  · rename_i d z
    obtain ⟨u, v, e1, r1, r2⟩ := rs.two
    cases e1
    have e2 := rep_int.mp r2
    subst e2
    cases rz with
    | cons ry rt =>
    cases rt
    obtain ⟨t, rfl⟩ := ry
    cases hb : (seqOf w.h d).bind intsOf with
    | none =>
      rw [hb] at q
      exact q.elim
    | some ns =>
    rw [hb] at q
    obtain ⟨a, rfl, h2⟩ := ints_at k r1 hb
    obtain rfl := Vals.ref1 r
    have hdp := depthInts ns
    have fin0 : ns = [] → ∀ h' tk, (∀ b o, s.heap.get? b = some o → h'.get? b = some o) → EP X pins σ Q (.int z t) { s with heap := h', toks := tk } := fun e h' tk hk => by
      subst e
      exact ⟨.int z, w.H, I.kept hk, ⟨_, rfl⟩, q.here k (rep_int.mpr rfl)⟩
    have fin1 : ∀ (y : PyData) (ys : List PyData) (v : Value) h' tk bs, ns.map PyData.int = y :: ys → (∃ j t, v = .int j t) → Reads h' v (PySem.W.maxD y ys) bs → (∀ b o, s.heap.get? b = some o → h'.get? b = some o) → EP X pins σ Q v { s with heap := h', toks := tk } := fun y ys v h' tk bs e hv rd hk => by
      cases ns with
      | nil => cases e
      | cons n ns =>
        cases e
        rw [PySem.W.maxD_ints] at rd
        obtain ⟨j, t', rfl⟩ := hv
        cases rd
        rw [← maxI_eq]
        exact ⟨.int _, w.H, I.kept hk, ⟨_, rfl⟩, q.here k (rep_int.mpr rfl)⟩
    rcases h2 with h2 | h2
    · obtain ⟨its, rv, pl, _⟩ := I.list h2
      obtain ⟨as, ra⟩ := Dp.readsAll I _ _ _ (dp_ints ns) rv
      exact PySem.W.max_list_default (I.ok.hd hc) pl.isList (by simpa using ra) (alike_ints ns) (by rw [hdp]; omega) (fun e => fin0 (by simpa using e))
        fun y ys i v h' tk bs e hv rd hk => fin1 y ys v h' tk bs e (ints_item rv (by simpa using hv)) rd hk
    · obtain ⟨its, rv, pl, _⟩ := I.tuple h2
      obtain ⟨as, ra⟩ := Dp.readsAll I _ _ _ (dp_ints ns) rv
      exact PySem.W.max_tuple_default (I.ok.hd hc) pl (by simpa using ra) (alike_ints ns) (by rw [hdp]; omega) (fun e => fin0 (by simpa using e))
        fun y ys i v h' tk bs e hv rd hk => fin1 y ys v h' tk bs e (ints_item rv (by simpa using hv)) rd hk
  · exact q.elim
end
end Tb
end

section
set_option maxHeartbeats 4000000
namespace Tb
open PySem PySem.Spec PyProof.Rows L2
/-! ## sets of keys of one kind: made of a list or a tuple, sorted, counted -/
section
variable {α : Type} [DecidableEq α] {P : Program} {w : World} (knd : PySem.KeyKind P w α) (dec : Value → α)
/-- what tells keys from values -/
structure DecOk : Prop where
  of : ∀ k v, knd.is k v = true → dec v = k
def keyG (e : Int × Value) : α := dec e.2
def GoodG (e : Int × Value) : Prop := knd.is (dec e.2) e.2 = true ∧ e.1 = knd.hash (dec e.2) ∧ e.2.scannable = true
/-- at a: the set of just these keys -/
def SetX (h : Heap) (a : Addr) (L : List α) : Prop :=
  ∃ o es ep t, h.get? a = some o ∧ o.ExactSet ∧ o.data = .set es ep t ∧ (∀ e ∈ es.toList, GoodG knd dec e) ∧ (es.toList.map (keyG dec)).Perm L ∧ L.Nodup ∧
    es.size < scanBound ∧ t.fits es.size = true ∧ L2.Ris t.place.toList ∧ (w.params.followText "set-order" = true ∨ t.led = true)
variable {knd dec} {h h' : Heap} {a : Addr} {L : List α}
theorem SetX.at (R : SetX knd dec h a L) (k : ∀ o, h.get? a = some o → h'.get? a = some o) : SetX knd dec h' a L := by
  obtain ⟨o, es, ep, t, ho, r⟩ := R
  exact ⟨o, es, ep, t, k o ho, r⟩
theorem goodG_elems {l : List (Int × Value)} (g : ∀ e ∈ l, GoodG knd dec e) : ElemsOf knd l := fun e he => by
  obtain ⟨h1, h2, h3⟩ := g e he
  exact ⟨⟨_, h1, h2⟩, h3⟩
theorem goodG_is (D : DecOk knd dec) {e : Int × Value} (g : GoodG knd dec e) (k : α) : knd.is k e.2 = true ↔ keyG dec e = k :=
  ⟨fun q => D.of k _ q, fun q => by
    unfold keyG at q
    rw [← q]
    exact g.1⟩
theorem goodG_mem (D : DecOk knd dec) {l : List (Int × Value)} (g : ∀ e ∈ l, GoodG knd dec e) (k : α) : k ∈ l.map (keyG dec) ↔ ∃ e ∈ l, knd.is k e.2 = true := by
  rw [List.mem_map]
  constructor
  · rintro ⟨e, he, q⟩
    exact ⟨e, he, (goodG_is D (g e he) k).2 q⟩
  · rintro ⟨e, he, q⟩
    exact ⟨e, he, (goodG_is D (g e he) k).1 q⟩
end
section
variable {α : Type} [DecidableEq α] {P : Program} {w : World} {knd : PySem.KeyKind P w α} {dec : Value → α} {A : Around} {E : Value → Shared → Prop} {s : Shared} {a : Addr} {L : List α}
theorem setX_tail {g : Bool → Sem Unit} (hg : ∀ (b : Bool) (s₁ : Shared) (Q' : Unit → Shared → Prop), Q' () s₁ → wpAny (model P w) A (g b) Q' E s₁)
    {o : Obj} {es : Array (Int × Value)} {ep : Nat} {t : SetTable} (ho : s.heap.get? a = some o) (hex : o.ExactSet) (hd : o.data = .set es ep t)
    {es1 : Array (Int × Value)} {t2 : SetTable} {L' : List α} (g1 : ∀ e ∈ es1.toList, GoodG knd dec e) (pm1 : (es1.toList.map (keyG dec)).Perm L') (nd1 : L'.Nodup)
    (hb1 : es1.size < scanBound) (hf2 : t2.fits es1.size = true) (hr : L2.Ris t2.place.toList) (hl : w.params.followText "set-order" = true ∨ t2.led = true) {wasDummy : Bool} {R : Option Bool → Shared → Prop}
    (hR : ∀ h', Heap.SameBut a s.heap h' → SetX knd dec h' a L' → R (some true) { s with heap := h' }) :
    wpAny (model P w) A (do
        storeSet a es1 t2
        if (!wasDummy && t2.tooFull) = true then do
            g (relayAll t2 es1 (SetTable.grown es1.size)).2.2
            storeSet a (relayAll t2 es1 (SetTable.grown es1.size)).1 (relayAll t2 es1 (SetTable.grown es1.size)).2.1
            pure (some true)
          else pure (some true)) R E s := by
  refine wpAny_bind (wpAny_storeSet_of ho hd ?_ (fits_of_scanBound hb1))
  have ho1 := L2.store_at (es' := es1) (t' := t2) ho hd
  have sb1 := Heap.SameBut.update s.heap a (Obj.putSet es1 t2)
  split
  · have pm := relayAll_perm t2 es1 (SetTable.grown es1.size)
    have hf3 := relayAll_fits t2 es1 (SetTable.grown es1.size)
    have hr3 := L2.relayAll_ris t2 es1 (SetTable.grown es1.size)
    have hl3 := L2.relayAll_led t2 es1 (SetTable.grown es1.size)
    generalize relayAll t2 es1 (SetTable.grown es1.size) = Z at pm hf3 hr3 hl3 ⊢
    obtain ⟨es2, t3, gave⟩ := Z
    dsimp only at pm hf3 hr3 hl3 ⊢
    have hsz : es2.size = es1.size := by rw [← Array.length_toList, pm.length_eq, Array.length_toList]
    have hb2 : es2.size < scanBound := by rw [hsz]; exact hb1
    refine wpAny_bind (hg _ _ _ ?_)
    refine wpAny_bind (wpAny_storeSet_of ho1 rfl ?_ (fits_of_scanBound hb2))
    have ho2 := L2.store_at (es' := es2) (t' := t3) ho1 rfl
    refine wpAny_pure (hR _ (sb1.trans (Heap.SameBut.update _ a _)) ?_)
    exact ⟨_, es2, _, t3, ho2, hex, rfl, fun e he => g1 e (pm.mem_iff.mp he), (pm.map (keyG dec)).trans pm1, nd1, hb2, hf3, hr3, hl.imp id fun z => by rw [hl3]; exact z⟩
  · exact wpAny_pure (hR _ sb1 ⟨_, es1, _, t2, ho1, hex, rfl, g1, pm1, nd1, hb1, hf2, hr, hl⟩)
/-- the keys with one more -/
def addK (L : List α) (k : α) : List α := if k ∈ L then L else L ++ [k]
theorem setX_add (D : DecOk knd dec) {k : α} {v : Value} {Q : Bool → Shared → Prop} (R : SetX knd dec s.heap a L) (hv : knd.is k v = true) (hsc : v.scannable = true) (room : L.length + 1 < scanBound)
    (hQ : ∀ b h', Heap.SameBut a s.heap h' → SetX knd dec h' a (addK L k) → Q b { s with heap := h' }) :
    wpAny (model P w) A (setAddHashed a v (knd.hash k)) Q E s := by
  obtain ⟨o, es, ep, t, ho, hex, hd, g, pm0, nd, hb, hf, hr, hl⟩ := R
  have hel : ElemsOf knd es.toList := goodG_elems g
  unfold setAddHashed setAddHashedIn
  refine wpAny_holding (wpAny_bind (wpAny_setState_of ho hd hf ?_))
  dsimp only
  rw [byScan_of hsc hb hel]
  simp only [↓reduceIte]
  unfold setAddByScan
  refine wpAny_bind ?_
  refine wpAny_bind (wpAny_rule ?_)
  refine wpAny_bind (wpAny_setScan_of hv ho hd hf hel ?_)
  cases hfi : List.findIdx? (fun e => knd.is k e.2) es.toList with
  | some j =>
    dsimp only
    obtain ⟨hj, pj, _⟩ := List.findIdx?_eq_some_iff_getElem.mp hfi
    have hk : k ∈ L := pm0.mem_iff.mp ((goodG_mem D g k).2 ⟨es.toList[j], List.getElem_mem hj, pj⟩)
    refine wpAny_pure (wpAny_pure ?_)
    exact hQ _ s.heap (Heap.SameBut.refl a s.heap) ⟨o, es, ep, t, ho, hex, hd, g, by unfold addK; rw [if_pos hk]; exact pm0, by unfold addK; rw [if_pos hk]; exact nd, hb, hf, hr, hl⟩
  | none =>
    dsimp only
    have hnk : k ∉ L := fun z => by
      obtain ⟨e, he, q⟩ := (goodG_mem D g k).1 (pm0.mem_iff.mpr z)
      have c := List.findIdx?_eq_none_iff.mp hfi e he
      rw [q] at c
      cases c
    have hgw : ∀ (b : Bool) {s₁ : Shared} {Q' : Unit → Shared → Prop}, Q' () s₁ → wpAny (model P w) A (match b with | true => rule "set.scan.the-table-gave-way" | false => pure ()) Q' E s₁ :=
      fun b s₁ Q' q => by cases b <;> first | exact wpAny_pure q | exact wpAny_rule q
    have pm := layNew_perm t es (knd.hash k) v
    have hf1 := layNew_fits t es (knd.hash k) v
    have hr1 := L2.layNew_ris t es (knd.hash k) v hr
    have hl1 := L2.layNew_led t es (knd.hash k) v
    generalize layNew t es (knd.hash k) v = Z at pm hf1 hr1 hl1 ⊢
    obtain ⟨es1, t1, wasDummy, gave⟩ := Z
    dsimp only at pm hf1 hr1 hl1 ⊢
    rw [Array.toList_push] at pm
    have ek : keyG dec (knd.hash k, v) = k := D.of k v hv
    have pk : (es1.toList.map (keyG dec)).Perm (addK L k) := by
      unfold addK
      rw [if_neg hnk]
      refine (pm.map (keyG dec)).trans ?_
      rw [List.map_append, List.map_cons, List.map_nil, ek]
      exact pm0.append_right _
    have g1 : ∀ e ∈ es1.toList, GoodG knd dec e := fun e he => by
      rcases List.mem_append.mp (pm.mem_iff.mp he) with z | z
      · exact g e z
      · rw [List.mem_singleton.mp z]
        exact ⟨by rw [D.of k v hv]; exact hv, by rw [D.of k v hv], hsc⟩
    have nd1 : (addK L k).Nodup := by
      unfold addK
      rw [if_neg hnk]
      exact List.nodup_append.mpr ⟨nd, by simp, fun x hx y hy => by rw [List.mem_singleton.mp hy]; exact fun z => hnk (z ▸ hx)⟩
    have hsz : es1.size = L.length + 1 := by
      rw [← Array.length_toList, pm.length_eq, List.length_append, List.length_singleton, ← pm0.length_eq, List.length_map]
    have hb1 : es1.size < scanBound := by rw [hsz]; exact room
    have hled : w.params.followText "set-order" = true ∨ t1.led = true := hl.imp id fun z => by rw [hl1]; exact z
    refine wpAny_bind (hgw _ ?_)
    split
    · refine wpAny_bind ?_
      rw [hashByValue_scannable 8 hsc]
      refine wpAny_pure ?_
      refine setX_tail (knd := knd) (dec := dec) ?_ ho hex hd g1 pk nd1 hb1 ?_ ?_ ?_ ?_
      · intro b s₁ Q' q; cases b <;> first | exact wpAny_pure q | exact wpAny_rule q
      · first | (split <;> first | exact hf1 | exact SetTable.fits_plain_off hf1) | exact hf1
      · first | (split <;> exact hr1) | exact hr1
      · first | (split <;> exact hled) | exact hled
      · intro h' sb r; dsimp only; exact wpAny_pure (hQ _ h' sb r)
    · refine wpAny_bind (wpAny_pure ?_)
      simp only [↓reduceIte]
      refine setX_tail (knd := knd) (dec := dec) ?_ ho hex hd g1 pk nd1 hb1 hf1 hr1 hled ?_
      · intro b s₁ Q' q; cases b <;> first | exact wpAny_pure q | exact wpAny_rule q
      · intro h' sb r; dsimp only; exact wpAny_pure (hQ _ h' sb r)
theorem setX_fresh {h : Heap} {b : Addr} (hb : h.get? b = some { cls := .type "set", dict := none, data := .set #[] 0 (.fresh 0 0 (!w.params.followText "set-order")) }) : SetX knd dec h b [] :=
  ⟨_, #[], 0, _, hb, ⟨rfl, rfl, rfl⟩, rfl, (fun e he => by simp at he), List.Perm.refl _, List.nodup_nil, (by decide), (by rfl), List.Pairwise.nil, by
    show _ ∨ (!w.params.followText "set-order") = true
    cases w.params.followText "set-order"
    · exact .inr rfl
    · exact .inl rfl⟩
/-- each once, as first met -/
def dedup (ks : List α) : List α := ks.foldl addK []
theorem addK_len {L : List α} {k : α} : (addK L k).length ≤ L.length + 1 := by
  unfold addK
  split
  · omega
  · simp
theorem addK_mem {L : List α} {k x : α} : x ∈ addK L k ↔ x ∈ L ∨ x = k := by
  unfold addK
  split
  · rename_i h
    exact ⟨.inl, fun z => z.elim id fun e => e ▸ h⟩
  · simp
theorem addK_nd {L : List α} {k : α} (h : L.Nodup) : (addK L k).Nodup := by
  unfold addK
  split
  · exact h
  · rename_i hk
    exact List.nodup_append.mpr ⟨h, by simp, fun x hx y hy => by rw [List.mem_singleton.mp hy]; exact fun z => hk (z ▸ hx)⟩
theorem foldK_mem {x : α} : ∀ {ks L : List α}, x ∈ ks.foldl addK L ↔ x ∈ L ∨ x ∈ ks
  | [], L => by simp
  | k :: ks, L => by
    rw [List.foldl_cons, foldK_mem, addK_mem, List.mem_cons, or_assoc]
theorem foldK_nd : ∀ {ks L : List α}, L.Nodup → (ks.foldl addK L).Nodup
  | [], L, h => h
  | k :: ks, L, h => by
    rw [List.foldl_cons]
    exact foldK_nd (addK_nd (k := k) h)
theorem foldK_len : ∀ {ks L : List α}, (ks.foldl addK L).length ≤ L.length + ks.length
  | [], L => Nat.le_refl _
  | k :: ks, L => by
    have := foldK_len (ks := ks) (L := addK L k)
    have := addK_len (L := L) (k := k)
    simp only [List.foldl_cons, List.length_cons]
    omega
theorem dedup_mem {ks : List α} {x : α} : x ∈ dedup ks ↔ x ∈ ks := by
  unfold dedup
  rw [foldK_mem]
  simp
theorem dedup_nd {ks : List α} : (dedup ks).Nodup := foldK_nd List.nodup_nil
theorem dedup_len {ks : List α} : (dedup ks).length ≤ ks.length := by
  have := foldK_len (ks := ks) (L := [])
  unfold dedup
  simpa using this
theorem dedup_of {ks : List α} (h : ks.Nodup) : dedup ks = ks := by
  have : ∀ (ks L : List α), (L ++ ks).Nodup → ks.foldl addK L = L ++ ks := fun ks => by
    induction ks with
    | nil => intro L _; simp
    | cons k ks ih =>
      intro L h
      have hk : k ∉ L := fun z => by
        rw [List.nodup_append] at h
        exact h.2.2 k z k List.mem_cons_self rfl
      rw [List.foldl_cons, show addK L k = L ++ [k] from if_neg hk, ih _ (by simpa using h)]
      simp
  simpa [dedup] using this ks [] (by simpa using h)
/-- set.update's loop -/
theorem setX_loop {I : Addr} {fp wr : List Addr} {G : Array GenState → Array GenState → Prop} {n : Nat} {Pv : Nat → Value → Prop} {St : Nat → Shared → Prop} {R : Result → Shared → Prop} (D : DecOk knd dec)
    (W : WalksS P w A.in1 I fp wr G n Pv St) (S : Addr) (hSf : S ∉ fp) (ks : List α) (hn : n = ks.length) (hfew : ks.length + 1 < scanBound) (hval : ∀ i v, Pv i v → ∃ k, ks[i]? = some k ∧ knd.is k v = true ∧ v.scannable = true) :
    ∀ (m i : Nat) (s : Shared), n - i = m → i ≤ n → St i s → SetX knd dec s.heap S (dedup (ks.take i)) →
      (∀ s', Moved (S :: wr) G s s' → SetX knd dec s'.heap S (dedup ks) → R (.ok (.ret .none)) s') →
      codeAny (model P w) A (.builtin "set.update.loop" ⟨[.ref S, .ref I], []⟩) R s := by
  have hSw : S ∉ wr := fun h => hSf (W.sub _ h)
  have hsub : ∀ b ∈ wr, b ∈ S :: wr := fun b hb => List.mem_cons_of_mem _ hb
  intro m
  induction m with
  | zero =>
    intro i s hk hi hst hS hR
    have hin : i = n := by omega
    subst hin
    refine codeAny_builtin PyProof.Rows.F.entry_set_update_loop ?_
    rw [Around.under_plainId PyProof.Rows.F.plain_set_update_loop _]
    show wpAny _ A.in1 (pyNext (.ref I) >>= _) _ _ s
    refine wpAny_bind (W.done s _ _ hst fun s' hm => ?_)
    show wpAny _ A.in1 (ret Value.none) _ _ s'
    rw [hn, List.take_length] at hS
    exact wpAny_pure (hR s' (hm.mono hsub) (hS.at fun o e => hm.heap S o hSw e))
  | succ m ih =>
    intro i s hk hi hst hS hR
    have hlt : i < n := by omega
    refine codeAny_builtin PyProof.Rows.F.entry_set_update_loop ?_
    rw [Around.under_plainId PyProof.Rows.F.plain_set_update_loop _]
    show wpAny _ A.in1 (pyNext (.ref I) >>= _) _ _ s
    refine wpAny_bind (W.item i s _ _ hlt hst fun v s' hP hst' hm => ?_)
    obtain ⟨k, hki, hkv, hsc⟩ := hval i v hP
    have hS' : SetX knd dec s'.heap S (dedup (ks.take i)) := hS.at fun o e => hm.heap S o hSw e
    show wpAny _ A.in1 (holding [v] (setAdd S v) >>= _) _ _ s'
    refine wpAny_bind (wpAny_holding ?_)
    unfold setAdd
    refine wpAny_holding ?_
    refine wpAny_bind (knd.pyHash hkv ?_)
    refine setX_add D (s := { s' with toks := s'.toks + 1 }) hS' hkv hsc ?_ fun b h' hsb hS2 => ?_
    · have := dedup_len (ks := ks.take i)
      rw [List.length_take] at this
      omega
    have hS3 : SetX knd dec h' S (dedup (ks.take (i + 1))) := by
      have e : ks.take (i + 1) = ks.take i ++ [k] := by
        rw [List.take_succ, hki]
        rfl
      have e2 : dedup (ks.take (i + 1)) = addK (dedup (ks.take i)) k := by
        unfold dedup
        rw [e, List.foldl_append]
        rfl
      rw [e2]
      exact hS2
    refine wpAny_pure ⟨plainId_quiet PyProof.Rows.F.plain_set_update_loop _, ih (i + 1) _ (by omega) hlt (W.frame _ s' _ _ hst' (Nat.le_succ _) fun b hb o e => ?_) hS3 fun s'' hm'' hS'' => ?_⟩
    · rw [hsb.2 b (fun h : b = S => hSf (by rw [← h]; exact hb))]; exact e
    · refine hR s'' (Moved.trans W.gtrans ((hm.mono hsub).then_heap (Nat.le_succ _) fun b o hb e => ?_) hm'') hS''
      rw [hsb.2 b (fun h : b = S => hb (by rw [h]; exact List.mem_cons_self))]; exact e
end
end Tb
end

section
set_option maxHeartbeats 4000000
namespace Tb
open PySem PySem.Spec PySem.W PySem.Calls PyProof.Rows L2
section
variable {α : Type} [DecidableEq α] {P : Program} {w : World} {knd : PySem.KeyKind P w α} {dec : Value → α} {A : Around} {E : Value → Shared → Prop} {s : Shared}
/-- the values are these keys -/
def ItemsK {α : Type} [DecidableEq α] {P : Program} {w : World} (knd : PySem.KeyKind P w α) : List α → List Value → Prop
  | [], [] => True
  | k :: ks, v :: vs => knd.is k v = true ∧ v.scannable = true ∧ ItemsK knd ks vs
  | _, _ => False
theorem ItemsK.len : ∀ {ks : List α} {vs : List Value}, ItemsK knd ks vs → vs.length = ks.length
  | [], [], _ => rfl
  | k :: ks, v :: vs, h => by simp [ItemsK.len h.2.2]
  | [], _ :: _, h => h.elim
  | _ :: _, [], h => h.elim
theorem ItemsK.at : ∀ {ks : List α} {vs : List Value}, ItemsK knd ks vs → ∀ (i : Nat) (v : Value), vs[i]? = some v → ∃ k, ks[i]? = some k ∧ knd.is k v = true ∧ v.scannable = true
  | [], [], _, i, v, e => by simp at e
  | k :: ks, u :: vs, h, 0, v, e => by
    simp at e
    subst e
    exact ⟨k, rfl, h.1, h.2.1⟩
  | k :: ks, u :: vs, h, i + 1, v, e => by
    simpa using ItemsK.at h.2.2 i v (by simpa using e)
  | [], _ :: _, h, _, _, _ => h.elim
  | _ :: _, [], h, _, _, _ => h.elim

set_option maxRecDepth 100000 in
set_option maxHeartbeats 3200000 in
theorem call_setX_list {l : Addr} {items : Array Value} (D : DecOk knd dec) (ks : List α) {Q : Value → Shared → Prop} (hh : A.handled = none) (hl : s.heap.IsList l items) (hit : ItemsK knd ks items.toList) (hfew : ks.length + 1 < scanBound)
    (h : ∀ (h' : Heap) (tk : Nat), SetX knd dec h' s.heap.objs.size (dedup ks) → (∀ b o, s.heap.get? b = some o → h'.get? b = some o) → Q (.ref s.heap.objs.size) { s with heap := h', toks := tk }) :
    wpAny (model P w) A (call (.type "set") [.ref l]) Q E s := by
  have hisz : items.size = ks.length := by
    rw [← Array.length_toList]
    exact hit.len
  obtain ⟨c, tl, hmro⟩ := PySem.F.called_set.mro
  have hmade := PySem.F.called_set.made
  have hsub := PySem.F.called_set.sub
  refine wpAny_call (codeAny_of_tree ?_)
  show wpAny _ _ (callAny (.type "set") _) _ _ _
  refine wpAny_pure ⟨Code.quiet_builtin _ (by decide +kernel), codeAny_builtin PySem.F.entry_type_call ?_⟩
  rw [Around.under_plain (weight_type_call_type "set" [.ref l] []) rfl]
  have h1 := PySem.F.called_set.notType
  have h2 := PySem.F.called_set.canCreate
  have hct := PySem.F.typeCall_set_1 (.ref l)
  repeat (any_goals (first | assumption | wp_step))

  refine codeAny_mono (code_set_led1 (.ref l) (E := E) (Q₁ := fun obj s₁ => obj = .ref s.heap.objs.size ∧ s₁ = { s with heap := s.heap.push { cls := .type "set", dict := none, data := .set #[] 0 (.fresh 0 0 (!w.params.followText "set-order")) } }) ⟨rfl, rfl⟩) fun r s₁ hr => ?_
  cases r with
  | error e => exact hr
  | ok fl =>
    cases fl with
    | ret obj =>
      obtain ⟨rfl, rfl⟩ := hr
      have hS : (s.heap.push { cls := .type "set", dict := none, data := .set #[] 0 (.fresh 0 0 (!w.params.followText "set-order")) }).get? s.heap.objs.size = some { cls := .type "set", dict := none, data := .set #[] 0 (.fresh 0 0 (!w.params.followText "set-order")) } := Heap.get?_push_size _ rfl
      have hT : Shared.TypeIs { s with heap := s.heap.push { cls := .type "set", dict := none, data := .set #[] 0 (.fresh 0 0 (!w.params.followText "set-order")) } } (.ref s.heap.objs.size) "set" := ⟨_, hS, rfl⟩
      have hli := PySem.F.called_set.init.lookup
      have hbi := PySem.F.called_set.init.bind (.ref s.heap.objs.size)
      repeat (any_goals (first | assumption | wp_step))

      refine codeAny_mono (codeAny_call_builtin (R := wants (fun r s₂ => r = .none ∧ ∃ h' tk, s₂ = { s with heap := h', toks := tk } ∧ SetX knd dec h' s.heap.objs.size (dedup ks) ∧
          (∀ b o, s.heap.get? b = some o → h'.get? b = some o)) E) PySem.F.called_set.init.plain PySem.F.entry_set_init (check_set_init_1 hT ?_)) fun r₂ s₂ hr₂ => ?_
      · obtain ⟨ol, hol, hcl, nl, hdl⟩ := hl
        obtain ⟨ocls, odict, odata, oslots⟩ := ol
        simp only at hcl hdl
        subst hcl; subst hdl
        have hol' : (s.heap.push { cls := .type "set", dict := none, data := .set #[] 0 (.fresh 0 0 (!w.params.followText "set-order")) }).get? l = some { cls := .type "list", dict := odict, data := .seq items nl, slots := oslots } := Heap.get?_push_of_some _ hol
        have hsls := PySem.F.sub_list_set
        have hslf := PySem.F.sub_list_frozenset
        have hne : (Value.type "list" == Value.type "dict") = false := by decide
        have hl1 : (s.heap.push { cls := .type "set", dict := none, data := .set #[] 0 (.fresh 0 0 (!w.params.followText "set-order")) }).IsList l items := ⟨_, hol', rfl, nl, rfl⟩
        unfold Builtin.«set.__init__» noKeywords Builtin.Frozenset.updateFrom
        generalize hPI : pyIter = PI
        wp_walk
        subst hPI

        refine wpAny_pyIter_list hl1 ?_
        refine wpAny_bind (wpAny_runValue ?_)
        have hlS : l < s.heap.objs.size := Heap.lt_size hol
        have hh3 : A.in1.in1.in1.handled = none := by simp [hh]
        have hneI : l ≠ (s.heap.push { cls := .type "set", dict := none, data := .set #[] 0 (.fresh 0 0 (!w.params.followText "set-order")) }).objs.size := by
          rw [Heap.size_push]; exact Nat.ne_of_lt (Nat.lt_succ_of_lt hlS)
        have hSf : s.heap.objs.size ∉ [(s.heap.push { cls := .type "set", dict := none, data := .set #[] 0 (.fresh 0 0 (!w.params.followText "set-order")) }).objs.size, l] := by
          rw [Heap.size_push]; simp only [List.mem_cons, List.mem_singleton, List.not_mem_nil, or_false, not_or]
          exact ⟨Nat.ne_of_lt (Nat.lt_succ_self _), Nat.ne_of_gt hlS⟩
        have hval : ∀ (i : Nat) (v : Value), items[i]? = some v → ∃ k, ks[i]? = some k ∧ knd.is k v = true ∧ v.scannable = true := fun i v hv => hit.at i v (by rw [Array.getElem?_toList]; exact hv)
        refine setX_loop D ((Walks.list hh3 _ l hneI items).toS) s.heap.objs.size
          hSf ks hisz hfew hval (items.size - 0) 0 _ (by omega) (Nat.zero_le _)
          ⟨⟨_, Heap.get?_push_size _ rfl, rfl, rfl⟩, (hl1.push _)⟩ ?hS0 ?hR
        case hS0 =>
          have hget : ((s.heap.push { cls := .type "set", dict := none, data := .set #[] 0 (.fresh 0 0 (!w.params.followText "set-order")) }).push { cls := .type "list_iterator", data := .fields #[.ref l, .int 0 0] }).get? s.heap.objs.size
              = some { cls := .type "set", dict := none, data := .set #[] 0 (.fresh 0 0 (!w.params.followText "set-order")) } := Heap.get?_push_of_some _ hS
          exact setX_fresh hget
        case hR =>
          intro s' hm hS'
          obtain ⟨h', g2, d', tk', os'⟩ := s'
          have eg : g2 = s.gens := hm.gens
          have ed : d' = s.drawn := hm.drawn
          have eo : os' = s.os := hm.os
          subst eg; subst ed; subst eo
          show wpAny _ _ _ _ _ _
          refine wpAny_pure ?_
          show wpAny _ _ (ret Value.none) _ _ _
          refine wpAny_pure ⟨rfl, h', tk', rfl, hS', fun b o e => ?_⟩
          have hb := Heap.lt_size e
          have hb1 : b ≠ s.heap.objs.size := Nat.ne_of_lt hb
          have hb2 : b ≠ (s.heap.push { cls := .type "set", dict := none, data := .set #[] 0 (.fresh 0 0 (!w.params.followText "set-order")) }).objs.size := by
            rw [Heap.size_push]; exact Nat.ne_of_lt (Nat.lt_succ_of_lt hb)
          exact hm.heap b o (by simp only [List.mem_cons, List.mem_singleton, List.not_mem_nil, or_false, not_or]; exact ⟨hb1, hb2⟩) (Heap.get?_push_of_some _ (Heap.get?_push_of_some _ e))

      · cases r₂ with
        | error e => exact hr₂
        | ok fl₂ =>
          cases fl₂ with
          | ret r =>
            obtain ⟨rfl, h', tk, rfl, hS', hk'⟩ := hr₂
            repeat (any_goals (first | assumption | wp_step))
            exact h _ _ hS' hk'
          | _ => exact hr₂.elim
    | _ => exact hr.elim

set_option maxRecDepth 100000 in
set_option maxHeartbeats 3200000 in
theorem call_setX_tuple {l : Addr} {items : Array Value} (D : DecOk knd dec) (ks : List α) {Q : Value → Shared → Prop} (hh : A.handled = none) (hl : s.heap.IsTuple l items) (hit : ItemsK knd ks items.toList) (hfew : ks.length + 1 < scanBound)
    (h : ∀ (h' : Heap) (tk : Nat), SetX knd dec h' s.heap.objs.size (dedup ks) → (∀ b o, s.heap.get? b = some o → h'.get? b = some o) → Q (.ref s.heap.objs.size) { s with heap := h', toks := tk }) :
    wpAny (model P w) A (call (.type "set") [.ref l]) Q E s := by
  have hisz : items.size = ks.length := by
    rw [← Array.length_toList]
    exact hit.len
  obtain ⟨c, tl, hmro⟩ := PySem.F.called_set.mro
  have hmade := PySem.F.called_set.made
  have hsub := PySem.F.called_set.sub
  refine wpAny_call (codeAny_of_tree ?_)
  show wpAny _ _ (callAny (.type "set") _) _ _ _
  refine wpAny_pure ⟨Code.quiet_builtin _ (by decide +kernel), codeAny_builtin PySem.F.entry_type_call ?_⟩
  rw [Around.under_plain (weight_type_call_type "set" [.ref l] []) rfl]
  have h1 := PySem.F.called_set.notType
  have h2 := PySem.F.called_set.canCreate
  have hct := PySem.F.typeCall_set_1 (.ref l)
  repeat (any_goals (first | assumption | wp_step))

  refine codeAny_mono (code_set_led1 (.ref l) (E := E) (Q₁ := fun obj s₁ => obj = .ref s.heap.objs.size ∧ s₁ = { s with heap := s.heap.push { cls := .type "set", dict := none, data := .set #[] 0 (.fresh 0 0 (!w.params.followText "set-order")) } }) ⟨rfl, rfl⟩) fun r s₁ hr => ?_
  cases r with
  | error e => exact hr
  | ok fl =>
    cases fl with
    | ret obj =>
      obtain ⟨rfl, rfl⟩ := hr
      have hS : (s.heap.push { cls := .type "set", dict := none, data := .set #[] 0 (.fresh 0 0 (!w.params.followText "set-order")) }).get? s.heap.objs.size = some { cls := .type "set", dict := none, data := .set #[] 0 (.fresh 0 0 (!w.params.followText "set-order")) } := Heap.get?_push_size _ rfl
      have hT : Shared.TypeIs { s with heap := s.heap.push { cls := .type "set", dict := none, data := .set #[] 0 (.fresh 0 0 (!w.params.followText "set-order")) } } (.ref s.heap.objs.size) "set" := ⟨_, hS, rfl⟩
      have hli := PySem.F.called_set.init.lookup
      have hbi := PySem.F.called_set.init.bind (.ref s.heap.objs.size)
      repeat (any_goals (first | assumption | wp_step))

      refine codeAny_mono (codeAny_call_builtin (R := wants (fun r s₂ => r = .none ∧ ∃ h' tk, s₂ = { s with heap := h', toks := tk } ∧ SetX knd dec h' s.heap.objs.size (dedup ks) ∧
          (∀ b o, s.heap.get? b = some o → h'.get? b = some o)) E) PySem.F.called_set.init.plain PySem.F.entry_set_init (check_set_init_1 hT ?_)) fun r₂ s₂ hr₂ => ?_
      · obtain ⟨ol, hol, hcl, nl, hdl⟩ := hl
        obtain ⟨ocls, odict, odata, oslots⟩ := ol
        simp only at hcl hdl
        subst hcl; subst hdl
        have hol' : (s.heap.push { cls := .type "set", dict := none, data := .set #[] 0 (.fresh 0 0 (!w.params.followText "set-order")) }).get? l = some { cls := .type "tuple", dict := odict, data := .seq items nl, slots := oslots } := Heap.get?_push_of_some _ hol
        have hsls := PySem.F.sub_tuple_set
        have hslf := PySem.F.sub_tuple_frozenset
        have hne : (Value.type "tuple" == Value.type "dict") = false := by decide
        have hl1 : (s.heap.push { cls := .type "set", dict := none, data := .set #[] 0 (.fresh 0 0 (!w.params.followText "set-order")) }).IsTuple l items := ⟨_, hol', rfl, nl, rfl⟩
        unfold Builtin.«set.__init__» noKeywords Builtin.Frozenset.updateFrom
        generalize hPI : pyIter = PI
        wp_walk
        subst hPI

        refine wpAny_pyIter_tuple hl1 ?_
        refine wpAny_bind (wpAny_runValue ?_)
        have hlS : l < s.heap.objs.size := Heap.lt_size hol
        have hh3 : A.in1.in1.in1.handled = none := by simp [hh]
        have hneI : l ≠ (s.heap.push { cls := .type "set", dict := none, data := .set #[] 0 (.fresh 0 0 (!w.params.followText "set-order")) }).objs.size := by
          rw [Heap.size_push]; exact Nat.ne_of_lt (Nat.lt_succ_of_lt hlS)
        have hSf : s.heap.objs.size ∉ [(s.heap.push { cls := .type "set", dict := none, data := .set #[] 0 (.fresh 0 0 (!w.params.followText "set-order")) }).objs.size, l] := by
          rw [Heap.size_push]; simp only [List.mem_cons, List.mem_singleton, List.not_mem_nil, or_false, not_or]
          exact ⟨Nat.ne_of_lt (Nat.lt_succ_self _), Nat.ne_of_gt hlS⟩
        have hval : ∀ (i : Nat) (v : Value), items[i]? = some v → ∃ k, ks[i]? = some k ∧ knd.is k v = true ∧ v.scannable = true := fun i v hv => hit.at i v (by rw [Array.getElem?_toList]; exact hv)
        refine setX_loop D ((Walks.tuple hh3 _ l hneI items).toS) s.heap.objs.size
          hSf ks hisz hfew hval (items.size - 0) 0 _ (by omega) (Nat.zero_le _)
          ⟨⟨_, Heap.get?_push_size _ rfl, rfl, rfl⟩, (hl1.push _)⟩ ?hS0 ?hR
        case hS0 =>
          have hget : ((s.heap.push { cls := .type "set", dict := none, data := .set #[] 0 (.fresh 0 0 (!w.params.followText "set-order")) }).push { cls := .type "tuple_iterator", data := .fields #[.ref l, .int 0 0] }).get? s.heap.objs.size
              = some { cls := .type "set", dict := none, data := .set #[] 0 (.fresh 0 0 (!w.params.followText "set-order")) } := Heap.get?_push_of_some _ hS
          exact setX_fresh hget
        case hR =>
          intro s' hm hS'
          obtain ⟨h', g2, d', tk', os'⟩ := s'
          have eg : g2 = s.gens := hm.gens
          have ed : d' = s.drawn := hm.drawn
          have eo : os' = s.os := hm.os
          subst eg; subst ed; subst eo
          show wpAny _ _ _ _ _ _
          refine wpAny_pure ?_
          show wpAny _ _ (ret Value.none) _ _ _
          refine wpAny_pure ⟨rfl, h', tk', rfl, hS', fun b o e => ?_⟩
          have hb := Heap.lt_size e
          have hb1 : b ≠ s.heap.objs.size := Nat.ne_of_lt hb
          have hb2 : b ≠ (s.heap.push { cls := .type "set", dict := none, data := .set #[] 0 (.fresh 0 0 (!w.params.followText "set-order")) }).objs.size := by
            rw [Heap.size_push]; exact Nat.ne_of_lt (Nat.lt_succ_of_lt hb)
          exact hm.heap b o (by simp only [List.mem_cons, List.mem_singleton, List.not_mem_nil, or_false, not_or]; exact ⟨hb1, hb2⟩) (Heap.get?_push_of_some _ (Heap.get?_push_of_some _ e))

      · cases r₂ with
        | error e => exact hr₂
        | ok fl₂ =>
          cases fl₂ with
          | ret r =>
            obtain ⟨rfl, h', tk, rfl, hS', hk'⟩ := hr₂
            repeat (any_goals (first | assumption | wp_step))
            exact h _ _ hS' hk'
          | _ => exact hr₂.elim
    | _ => exact hr.elim

/-! ### sorted, len -/
theorem len_setX {a : Addr} {L : List α} {Q : Value → Shared → Prop} (R : SetX knd dec s.heap a L) (hq : Q (.int L.length (s.toks + 1)) { s with toks := s.toks + 1 + 1 }) :
    wpAny (model P w) A (call (.builtin "len") [.ref a]) Q E s := by
  obtain ⟨o, es, ep, t, ho, hex, hd, g, pm, nd, hb, hf, hr, hl⟩ := R
  have e : es.size = L.length := by rw [← Array.length_toList, ← pm.length_eq, List.length_map]
  refine call_len_set ho hex hd hf (by rw [e] <;> (unfold scanBound at hb; omega)) ?_
  rw [e]
  exact hq
end
section
variable {P : Program} {w : World} {A : Around} {E : Value → Shared → Prop} {s : Shared} {a : Addr}
def decI : Value → Int
  | .int k _ => k
  | _ => 0
def decS : Value → Str
  | .str k _ => k
  | _ => Str.empty
theorem decI_ok : DecOk (intKind P w) decI := ⟨fun k v h => by
  obtain ⟨t, rfl⟩ := Value.isInt_shape h
  rfl⟩
theorem decS_ok : DecOk (PySem.strKind P w) decS := ⟨fun k v h => by
  obtain ⟨t, rfl⟩ := Value.isStrOf_shape h
  rfl⟩
theorem sorted_setI {L : List Int} {Q : Value → Shared → Prop} (R : SetX (intKind P w) decI s.heap a L) (hh : A.handled = none) (h64 : L.length < 64)
    (hQ : ∀ s' p (out : Array Value) (c : Nat) (ns : List Int), (∀ b o, s.heap.get? b = some o → s'.heap.get? b = some o) → s'.gens = s.gens → s'.os = s.os → s.heap.objs.size ≤ p →
      s'.heap.get? p = some (seqObj "list" out c) → IntsAre out.toList ns → ns.Perm L → ns.Pairwise (· ≤ ·) → Q (.ref p) s') :
    wpAny (model P w) A (call (.builtin "sorted") [.ref a]) Q E s := by
  obtain ⟨o, es, ep, t, ho, hex, hd, g, pm0, nd, hb, hf, hr, hl⟩ := R
  refine Calls.call_function_entry kind_sorted plain_sorted entry_sorted (args_sorted1 _) ?_
  unfold Builtin.«sorted»
  refine wpAny_bind (m := checkCount "sorted" 1 1 _) (wpAny_pure ?_)
  refine wpAny_bind (collect_set (A := A.in1) hh ⟨o, ho, hex.1, hd⟩ hf hb hr hl fun s1 vs k1 hz g1 o1 pm => ?_)
  have hvl : vs.length = L.length := by rw [pm.length_eq, List.length_map, ← pm0.length_eq, List.length_map]
  have hI : IntsAre vs (vs.map decI) := by
    have : ∀ l : List Value, (∀ v ∈ l, ∃ k tk, v = Value.int k tk) → IntsAre l (l.map decI) := fun l => by
      induction l with
      | nil => intro _; exact .nil
      | cons v l ih =>
        intro h
        obtain ⟨k, tk, rfl⟩ := h v List.mem_cons_self
        exact .cons k tk (ih fun u hu => h u (List.mem_cons_of_mem _ hu))
    refine this vs fun v hv => ?_
    obtain ⟨e, he, q⟩ := List.mem_map.mp (pm.mem_iff.mp hv)
    obtain ⟨t, ht⟩ := Value.isInt_shape (g e he).1
    exact ⟨_, t, by rw [← q]; exact ht⟩
  have pk : (vs.map decI).Perm L := by
    have q := pm.map decI
    rw [List.map_map] at q
    exact q.trans pm0
  refine wpAny_bind (wpAny_newList ?_ (by rw [hvl, sizeLine_eq]; omega))
  have hoL : (s1.heap.push (seqObj "list" vs.toArray 0)).get? s1.heap.objs.size = some (seqObj "list" vs.toArray 0) := Heap.get?_push_size _ rfl
  refine wpAny_bind (wpAny_holding (wpAny_call_entry slot_list_sort ⟨_, hoL, rfl⟩ entry_list_sort (list_sort_tree hoL hI (by rw [hvl]; exact h64) fun out ns' a1 a2 a3 => ⟨_, rfl, ?_⟩) (args_list_sort _)))
  obtain ⟨c, hc⟩ := sortedHeap_at (vs := vs) (out := out) hoL
  refine wpAny_pure ⟨_, rfl, hQ _ s1.heap.objs.size out c ns' (fun b u e => ?_) g1 o1 hz hc a1 (a2.trans pk) a3⟩
  have q := k1 b u e
  have hlt := Heap.lt_size q
  show (sortedHeap (s1.heap.push (seqObj "list" vs.toArray 0)) s1.heap.objs.size vs out).get? b = some u
  rw [sortedHeap_old (Nat.ne_of_lt hlt) (by rw [size_push']; exact Nat.lt_succ_of_lt hlt)]
  exact Heap.get?_push_of_some _ q
theorem sorted_setS {L : List Str} {Q : Value → Shared → Prop} (R : SetX (PySem.strKind P w) decS s.heap a L) (hh : A.handled = none) (h64 : L.length < 64)
    (hQ : ∀ s' p (out : Array Value) (c : Nat) (ns : List Str), (∀ b o, s.heap.get? b = some o → s'.heap.get? b = some o) → s'.gens = s.gens → s'.os = s.os → s.heap.objs.size ≤ p →
      s'.heap.get? p = some (seqObj "list" out c) → StrsAre out.toList ns → ns.Perm L → sortedS ns = true → Q (.ref p) s') :
    wpAny (model P w) A (call (.builtin "sorted") [.ref a]) Q E s := by
  obtain ⟨o, es, ep, t, ho, hex, hd, g, pm0, nd, hb, hf, hr, hl⟩ := R
  refine Calls.call_function_entry kind_sorted plain_sorted entry_sorted (args_sorted1 _) ?_
  unfold Builtin.«sorted»
  refine wpAny_bind (m := checkCount "sorted" 1 1 _) (wpAny_pure ?_)
  refine wpAny_bind (collect_set (A := A.in1) hh ⟨o, ho, hex.1, hd⟩ hf hb hr hl fun s1 vs k1 hz g1 o1 pm => ?_)
  have hvl : vs.length = L.length := by rw [pm.length_eq, List.length_map, ← pm0.length_eq, List.length_map]
  have hI : StrsAre vs (vs.map decS) := by
    have : ∀ l : List Value, (∀ v ∈ l, ∃ k tk, v = Value.str k tk) → StrsAre l (l.map decS) := fun l => by
      induction l with
      | nil => intro _; exact .nil
      | cons v l ih =>
        intro h
        obtain ⟨k, tk, rfl⟩ := h v List.mem_cons_self
        exact .cons k tk (ih fun u hu => h u (List.mem_cons_of_mem _ hu))
    refine this vs fun v hv => ?_
    obtain ⟨e, he, q⟩ := List.mem_map.mp (pm.mem_iff.mp hv)
    obtain ⟨t, ht⟩ := Value.isStrOf_shape (g e he).1
    exact ⟨_, t, by rw [← q]; exact ht⟩
  have pk : (vs.map decS).Perm L := by
    have q := pm.map decS
    rw [List.map_map] at q
    exact q.trans pm0
  refine wpAny_bind (wpAny_newList ?_ (by rw [hvl, sizeLine_eq]; omega))
  have hoL : (s1.heap.push (seqObj "list" vs.toArray 0)).get? s1.heap.objs.size = some (seqObj "list" vs.toArray 0) := Heap.get?_push_size _ rfl
  refine wpAny_bind (wpAny_holding (wpAny_call_entry slot_list_sort ⟨_, hoL, rfl⟩ entry_list_sort (list_sort_treeK strKind_oneLt hoL hI.keysOf (fun v₁ v₂ rest e => keyKind_strs (by rw [← e]; exact hI)) (by rw [hvl]; exact h64) fun st' hp hs => ⟨_, rfl, ?_⟩) (args_list_sort _)))
  obtain ⟨ns', a1, a2, a3⟩ := sorted_out_str hI hp hs
  obtain ⟨c, hc⟩ := sortedHeap_at (vs := vs) (out := (arrOf st').map (·.2)) hoL
  refine wpAny_pure ⟨_, rfl, hQ _ s1.heap.objs.size _ c ns' (fun b u e => ?_) g1 o1 hz hc a1 (a2.trans pk) a3⟩
  have q := k1 b u e
  have hlt := Heap.lt_size q
  show (sortedHeap (s1.heap.push (seqObj "list" vs.toArray 0)) s1.heap.objs.size vs _).get? b = some u
  rw [sortedHeap_old (Nat.ne_of_lt hlt) (by rw [size_push']; exact Nat.lt_succ_of_lt hlt)]
  exact Heap.get?_push_of_some _ q
end
end Tb
end

section
set_option maxHeartbeats 4000000
namespace Tb
open PySem PySem.Spec PyProof.Rows L2
/-! ## sorted(set(x)), len(set(x)) -/
/-- what may be put into a set -/
inductive KsOf (K : PySem.W.Frag) (H : Hp) (x : V) : List Int ⊕ List Str → Prop where
  | ofI {l : Addr} {ns : List Int} (e : x = .ref l) (h : SqL K H l (ns.map V.int) ∨ SqT K H l (ns.map V.int)) : KsOf K H x (.inl ns)
  | ofS {l : Addr} {ss : List Str} (e : x = .ref l) (h : SqL K H l (ss.map V.str) ∨ SqT K H l (ss.map V.str)) : KsOf K H x (.inr ss)
def ksLen : List Int ⊕ List Str → Nat
  | .inl ns => ns.length
  | .inr ss => ss.length
def ksSort : List Int ⊕ List Str → List V
  | .inl ns => (sortI (dedup ns)).map V.int
  | .inr ss => (sortS (dedup ss)).map V.str
def ksNum : List Int ⊕ List Str → Nat
  | .inl ns => (dedup ns).length
  | .inr ss => (dedup ss).length
def tSSet (K : PySem.W.Frag) (ta : TE) : TE := fun σ H Q => ta σ H fun x H1 => ∃ ks, KsOf K H1 x ks ∧ ksLen ks < 64 ∧ ∀ p, H1 p = none → Q (.ref p) (upd H1 p (.lst (ksSort ks)))
def tLSet (K : PySem.W.Frag) (ta : TE) : TE := fun σ H Q => ta σ H fun x H1 => ∃ ks, KsOf K H1 x ks ∧ ksLen ks < 64 ∧ Q (.int (ksNum ks)) H1
def SetKs (P : Program) (w : World) (h : Heap) (a : Addr) : List Int ⊕ List Str → Prop
  | .inl ns => SetX (intKind P w) decI h a (dedup ns)
  | .inr ss => SetX (PySem.strKind P w) decS h a (dedup ss)
theorem itemsI {P : Program} {w : World} : ∀ {ns : List Int} {its : List Value}, Vals (ns.map V.int) its → ItemsK (intKind P w) ns its
  | [], _, .nil => trivial
  | n :: ns, _, .cons r t => by
    obtain ⟨tk, rfl⟩ := r
    exact ⟨intKind_is _ _ _ _, rfl, itemsI t⟩
theorem itemsS {P : Program} {w : World} : ∀ {ns : List Str} {its : List Value}, Vals (ns.map V.str) its → ItemsK (PySem.strKind P w) ns its
  | [], _, .nil => trivial
  | n :: ns, _, .cons r t => by
    obtain ⟨tk, rfl⟩ := r
    exact ⟨strKind_is _ _ _ _, rfl, itemsS t⟩
section
variable {X : Cx} {a : Expr} {ta : TE} {p p2 q pos : Pos}
/-- set(x), and then what is done with it -/
theorem set_then {pins : List (Addr × Obj)} {σ : L2.St} {H : Hp} {s : Shared} {x : V} {v : Value} {Q : Value → Shared → Prop} {E : Value → Shared → Prop} {ks : List Int ⊕ List Str} (hc : X.calm = true) (I : Inv X pins σ H s) (rx : RelV x v) (hk : KsOf X.K H x ks) (hl : ksLen ks < 64)
    (hQ : ∀ h' tk, Inv X pins σ H { s with heap := h', toks := tk } → SetKs X.prog X.w h' s.heap.objs.size ks → Q (.ref s.heap.objs.size) { s with heap := h', toks := tk }) :
    wpAny (model X.prog X.w) X.A (call (.type "set") [v]) Q E s := by
  cases hk with
  | @ofI l ns e h =>
    subst e
    cases rx
    have hf : ns.length + 1 < scanBound := by
      have : ns.length < 64 := hl
      unfold scanBound
      omega
    rcases h with h | h
    · obtain ⟨its, rv, pl, hz⟩ := I.list h
      exact call_setX_list decI_ok ns (I.ok.hd hc) pl.isList (itemsI (by simpa using rv)) hf fun h' tk R k => hQ h' tk (I.kept k) R
    · obtain ⟨its, rv, pl, hz⟩ := I.tuple h
      exact call_setX_tuple decI_ok ns (I.ok.hd hc) pl (itemsI (by simpa using rv)) hf fun h' tk R k => hQ h' tk (I.kept k) R
  | @ofS l ns e h =>
    subst e
    cases rx
    have hf : ns.length + 1 < scanBound := by
      have : ns.length < 64 := hl
      unfold scanBound
      omega
    rcases h with h | h
    · obtain ⟨its, rv, pl, hz⟩ := I.list h
      exact call_setX_list decS_ok ns (I.ok.hd hc) pl.isList (itemsS (by simpa using rv)) hf fun h' tk R k => hQ h' tk (I.kept k) R
    · obtain ⟨its, rv, pl, hz⟩ := I.tuple h
      exact call_setX_tuple decS_ok ns (I.ok.hd hc) pl (itemsS (by simpa using rv)) hf fun h' tk R k => hQ h' tk (I.kept k) R
theorem pe_sset (hc : X.calm = true) (hg : Gl X "sorted") (hm : X.mg "sorted" = none) (hg2 : Gl X "set") (hm2 : X.mg "set" = none) (ha : PE X a ta)
    (na : starEach [a] X.env = (false, eval a X.env) :: starEach [] X.env) : PE X (.Call (.Name "sorted" p) [.Call (.Name "set" p2) [a] [] q] [] pos) (tSSet X.K ta) := by
  refine ⟨fun pins s σ H Q I h => ?_⟩
  refine Call_ (ld_blt I hg hm boot_sorted ?_)
  refine PyProof.Rows.callWith_builtin1 (PyProof.Rows.args_cons ?_ rfl) rfl rfl
  refine Call_ (ld_blt I hg2 hm2 PyProof.Rows.boot_set ?_)
  refine PyProof.Rows.callWith_type1 (PyProof.Rows.args_cons (thn (ha.run pins s σ H _ I h) fun v s1 ⟨x, H1, I1, r1, q1⟩ => PyProof.Rows.args_nil ?_) na) na rfl
  obtain ⟨ks, hk, h64, q1⟩ := q1
  refine set_then hc I1 r1 hk h64 fun h' tk I2 R => ?_
  refine PyProof.Rows.args_nil ?_
  have fin : ∀ (vs : List V), vs.length ≤ sizeLine → (∀ p, H1 p = none → Q (.ref p) (upd H1 p (.lst vs))) → ∀ (s' : Shared) (p : Addr) (out : Array Value) (c : Nat), (∀ b o, h'.get? b = some o → s'.heap.get? b = some o) → s'.gens = s1.gens → s'.os = s1.os → h'.objs.size ≤ p →
      s'.heap.get? p = some (seqObj "list" out c) → Vals vs out.toList → EP X pins σ Q (.ref p) s' := by
    intro vs hlen q1 s' p out c k g o hp hob hv
    have hn : H1 p = none := I2.hok.fresh hp
    have J : Inv X pins σ (upd H1 p (.lst vs)) { ({ s1 with heap := h', toks := tk } : Shared) with heap := s'.heap, gens := s'.gens, drawn := s'.drawn, toks := s'.toks } :=
      I2.call (ch := []) (Un.laid k hp hn) (I2.hok.laid k hp ⟨hlen, out.toList, c, hv, hob⟩) (by rw [g]; exact I2.bare) (fun _ z => nomatch z)
    have e : s' = { s1 with heap := s'.heap, gens := s'.gens, drawn := s'.drawn, toks := s'.toks } := by
      cases s'
      cases s1
      cases o
      rfl
    rw [e]
    exact ⟨.ref p, _, J, rfl, q1 p hn⟩
  cases ks with
  | inl ns =>
    have hd : (dedup ns).length < 64 := Nat.lt_of_le_of_lt dedup_len h64
    have R : SetX (intKind X.prog X.w) decI h' s1.heap.objs.size (dedup ns) := R
    refine sorted_setI R (I2.ok.hd hc) hd fun s' p out c ms k g o hp hob hi pm le => ?_
    rw [show ms = sortI (dedup ns) from sortI_eq pm le] at hi
    refine fin _ ?_ q1 s' p out c k g o hp hob (vals_of_ints hi)
    show ((sortI (dedup ns)).map V.int).length ≤ sizeLine
    rw [List.length_map, sortI_perm.length_eq, sizeLine_eq]
    omega
  | inr ns =>
    have hd : (dedup ns).length < 64 := Nat.lt_of_le_of_lt dedup_len h64
    have R : SetX (PySem.strKind X.prog X.w) decS h' s1.heap.objs.size (dedup ns) := R
    refine sorted_setS R (I2.ok.hd hc) hd fun s' p out c ms k g o hp hob hi pm le => ?_
    rw [show ms = sortS (dedup ns) from sortS_eq pm le] at hi
    refine fin _ ?_ q1 s' p out c k g o hp hob (vals_of_strs hi)
    show ((sortS (dedup ns)).map V.str).length ≤ sizeLine
    rw [List.length_map, sortS_perm.length_eq, sizeLine_eq]
    omega
theorem pe_lset (hc : X.calm = true) (hg : Gl X "len") (hm : X.mg "len" = none) (hg2 : Gl X "set") (hm2 : X.mg "set" = none) (ha : PE X a ta)
    (na : starEach [a] X.env = (false, eval a X.env) :: starEach [] X.env) : PE X (.Call (.Name "len" p) [.Call (.Name "set" p2) [a] [] q] [] pos) (tLSet X.K ta) := by
  refine ⟨fun pins s σ H Q I h => ?_⟩
  refine Call_ (ld_blt I hg hm PySem.boot_len ?_)
  refine PyProof.Rows.callWith_builtin1 (PyProof.Rows.args_cons ?_ rfl) rfl rfl
  refine Call_ (ld_blt I hg2 hm2 PyProof.Rows.boot_set ?_)
  refine PyProof.Rows.callWith_type1 (PyProof.Rows.args_cons (thn (ha.run pins s σ H _ I h) fun v s1 ⟨x, H1, I1, r1, q1⟩ => PyProof.Rows.args_nil ?_) na) na rfl
  obtain ⟨ks, hk, h64, q1⟩ := q1
  refine set_then hc I1 r1 hk h64 fun h' tk I2 R => ?_
  refine PyProof.Rows.args_nil ?_
  cases ks with
  | inl ns => exact len_setX (knd := intKind X.prog X.w) (dec := decI) (L := dedup ns) R ⟨.int (ksNum (.inl ns)), H1, (I2.tok _).tok _, ⟨_, rfl⟩, q1⟩
  | inr ns => exact len_setX (knd := PySem.strKind X.prog X.w) (dec := decS) (L := dedup ns) R ⟨.int (ksNum (.inr ns)), H1, (I2.tok _).tok _, ⟨_, rfl⟩, q1⟩
end
/-! ### the mirrors -/
def bSSet : FB
  | [d], h => match seqOf h d with
    | some xs => match strsOf xs with
      | some ss => if ss.length < 64 then .ok (.lst ((sortS (dedup ss)).map .str)) h else .bad
      | none => match intsOf xs with
        | some ns => if ns.length < 64 then .ok (.lst ((sortI (dedup ns)).map .int)) h else .bad
        | none => .bad
    | none => .bad
  | _, _ => .bad
def bLSet : FB
  | [d], h => match seqOf h d with
    | some xs => match strsOf xs with
      | some ss => if ss.length < 64 then .ok (.int ((dedup ss).length : Nat)) h else .bad
      | none => match intsOf xs with
        | some ns => if ns.length < 64 then .ok (.int ((dedup ns).length : Nat)) h else .bad
        | none => .bad
    | none => .bad
  | _, _ => .bad
section
variable {X : Cx} {E : XK} {a : Expr} {ma : ME} {p p2 q pos : Pos}
theorem bind1 {f : FB} {m : ME} {s : Sl} {h : MH} : mCallB f (mCons m mNil) s h = (m s h).bind fun d h1 => f [d] h1 := by
  unfold mCallB mCons mNil
  cases m s h <;> rfl
theorem me_sset (hc : X.calm = true) (hg : Gl X "sorted") (hm : X.mg "sorted" = none) (hg2 : Gl X "set") (hm2 : X.mg "set" = none) (ha : PE X a (tM X.K E ma))
    (na : starEach [a] X.env = (false, eval a X.env) :: starEach [] X.env) : PE X (.Call (.Name "sorted" p) [.Call (.Name "set" p2) [a] [] q] [] pos) (tM X.K E (mCallB bSSet (mCons ma mNil))) := by
  refine pe_imp (pe_sset hc hg hm hg2 hm2 ha na) fun σ H Q hq => ?_
  obtain ⟨w, s, e, k, r, q⟩ := hq
  subst e
  rw [bind1] at q
  refine tM_at k r (q.bind.imp fun d w1 v x1 k1 r1 q1 => ?_)
  unfold bSSet at q1
  simp only at q1
  split at q1
  · rename_i xs e
    obtain ⟨l, vs, rfl, hs, rs⟩ := seq_at k1 r1 e
    split at q1
    · rename_i ss e1
      have e2 := strsOf_ok rs e1
      subst e2
      split at q1
      · rename_i hz
        exact ⟨.inr ss, .ofS rfl hs, hz, q1.newL k1 (reps_strs _)⟩
      · exact q1.elim
    · split at q1
      · rename_i ns e1
        have e2 := intsOf_ok rs e1
        subst e2
        split at q1
        · rename_i hz
          exact ⟨.inl ns, .ofI rfl hs, hz, q1.newL k1 (reps_ints _)⟩
        · exact q1.elim
      · exact q1.elim
  · exact q1.elim
theorem me_lset (hc : X.calm = true) (hg : Gl X "len") (hm : X.mg "len" = none) (hg2 : Gl X "set") (hm2 : X.mg "set" = none) (ha : PE X a (tM X.K E ma))
    (na : starEach [a] X.env = (false, eval a X.env) :: starEach [] X.env) : PE X (.Call (.Name "len" p) [.Call (.Name "set" p2) [a] [] q] [] pos) (tM X.K E (mCallB bLSet (mCons ma mNil))) := by
  refine pe_imp (pe_lset hc hg hm hg2 hm2 ha na) fun σ H Q hq => ?_
  obtain ⟨w, s, e, k, r, q⟩ := hq
  subst e
  rw [bind1] at q
  refine tM_at k r (q.bind.imp fun d w1 v x1 k1 r1 q1 => ?_)
  unfold bLSet at q1
  simp only at q1
  split at q1
  · rename_i xs e
    obtain ⟨l, vs, rfl, hs, rs⟩ := seq_at k1 r1 e
    split at q1
    · rename_i ss e1
      have e2 := strsOf_ok rs e1
      subst e2
      split at q1
      · rename_i hz
        exact ⟨.inr ss, .ofS rfl hs, hz, q1.here k1 (rep_int.mpr rfl)⟩
      · exact q1.elim
    · split at q1
      · rename_i ns e1
        have e2 := intsOf_ok rs e1
        subst e2
        split at q1
        · rename_i hz
          exact ⟨.inl ns, .ofI rfl hs, hz, q1.here k1 (rep_int.mpr rfl)⟩
        · exact q1.elim
      · exact q1.elim
  · exact q1.elim
end
end Tb
end

section
set_option maxHeartbeats 4000000
namespace Tb
open PySem PySem.Spec L2
/-! ## from the text to its mirror -/
structure Sh where
  name : Str
  n : Nat
  ks : List Str
  np : Nat
  F : Fn
  dv : List D
  gD : List D → List D → List D
  hs : List Bool
structure Cfg where
  N : List Str
  sc : Scope
  G : List Sh
  C : List (Str × D)
  B : List Str
  held : List Str
  retH : Bool
  blk : Bool
  cel : List Str
  lam : Bool
def ShOk (X : Cx) (k : Nat) (sh : Sh) : Prop := ∃ (f : Addr) (fd : FuncData) (ps : List Str), ps.length = sh.np ∧ X.mg sh.name = some (.ref f) ∧ PySem.W.keepIn X.K (.ref f) = true ∧ FnG X.prog X.w X.K X.mg X.base k f fd ps (spM X.K sh.F ps.length) ∧
  (sh.ks = [] → ∃ dvs ds, Vals dvs ds ∧ Binds X.K fd ps ds ∧ ∀ w, Reps X.K w sh.dv dvs) ∧
  (sh.ks ≠ [] → ∃ g gV, KBn X.K fd ps sh.n sh.ks g gV ∧ ∀ (w : W3) (ds es : List D) (vs zs : List V), Reps X.K w ds vs → Reps X.K w es zs → Reps X.K w (sh.gD ds es) (gV vs zs))
structure CxOk (c : Cfg) (X : Cx) (E : XK) : Prop where
  hN : X.N = c.N
  nd : c.N.Nodup
  sc : X.env.scope = c.sc
  calm : X.calm = true
  gd : X.A.guards = some []
  kk : ∃ k, Room k X.A ∧ ∀ sh ∈ c.G, ShOk X k sh
  con : ∀ p ∈ c.C, ∃ u v, X.mg p.1 = some u ∧ RelV v u ∧ ∀ w, Rep X.K w p.2 v
  blt : ∀ x ∈ c.B, X.mg x = none
  fn : c.blk = false → (∀ y, X.fn y = true) ∧ X.env.blockKind = .function ∧ PassesOwn (model X.prog X.w) X.A X.env X.xe
  pass : Passes (L2.CX X.prog X.w) X E
  cl : ∀ y ∈ c.cel, X.fn y = true
  lamT : c.lam = true → ∃ (a P : Addr) (q : Str), X.env.code = .ref a ∧ LamX.TabB X.base X.mg a P ∧ TabK X.K P q ∧ X.env.qual ++ "<lambda>" = q
def slotOf : List Str → Str → Option Nat
  | [], _ => none
  | y :: ys, x => if y = x then some 0 else (slotOf ys x).map (· + 1)
theorem slotOf_get : ∀ {N : List Str} {x : Str} {i : Nat}, slotOf N x = some i → N[i]? = some x
  | [], _, _, h => by cases h
  | y :: ys, x, i, h => by
    unfold slotOf at h
    split at h
    · rename_i e
      cases h
      rw [e]; rfl
    · rw [Option.map_eq_some_iff] at h
      obtain ⟨j, h1, rfl⟩ := h
      simpa using slotOf_get h1
def kindB (c : Cfg) (x : Str) : Option NameKind := c.sc.names.lookup x
def visB (c : Cfg) (x : Str) : Bool := kindB c x == some .local || kindB c x == some .cell || kindB c x == some .free
def glB (c : Cfg) (x : Str) : Bool := kindB c x == some .globalImplicit
def notStar : Expr → Bool
  | .Starred .. => false
  | _ => true
def notSlice : Expr → Bool
  | .Slice .. => false
  | _ => true
def notSet : Expr → Bool
  | .Set .. => false
  | _ => true
def notComp : Expr → Bool
  | .ListComp .. => false
  | .SetComp .. => false
  | .DictComp .. => false
  | _ => true
def notTuple : Expr → Bool
  | .Tuple .. => false
  | .List .. => false
  | _ => true
def plainBase : Expr → Bool
  | .Call _ [] _ _ => false
  | _ => true
/-- whose truth is the truth of its value -/
def plainTest : Expr → Bool
  | .UnaryOp .Not _ _ => false
  | .BoolOp .. => false
  | .IfExp .. => false
  | .Compare .. => false
  | _ => true
theorem star_cons {e : Expr} {es : List Expr} {env : Env} (h : notStar e = true) : starEach (e :: es) env = (false, eval e env) :: starEach es env := by
  cases e <;> first | rfl | cases h
theorem star_any {pos : Pos} {env : Env} : ∀ {es : List Expr}, es.all notStar = true → (backTo pos (starEach es env)).any (·.1) = false
  | [], _ => rfl
  | e :: es, h => by
    rw [List.all_cons, Bool.and_eq_true] at h
    rw [star_cons h.1]
    show (false || (backTo pos (starEach es env)).any (·.1)) = false
    rw [star_any h.2]; rfl
theorem star_all {pos : Pos} {env : Env} : ∀ {es : List Expr}, es.all notStar = true → ((backTo pos (starEach es env)).all fun x => !x.1) = true
  | [], _ => rfl
  | e :: es, h => by
    rw [List.all_cons, Bool.and_eq_true] at h
    rw [star_cons h.1]
    show (true && (backTo pos (starEach es env)).all fun x => !x.1) = true
    rw [star_all h.2]; rfl
theorem plainIx_of {b : Expr} (h : notSlice b = true) : PlainIx b := by
  intro o i
  cases b <;> first | rfl | cases h
theorem marks_of {op : CmpOp} {b : Expr} (h : notSet b = true) : behindInMarks op b = false := by
  cases b <;> first | rfl | cases h
theorem folded_of {e : Expr} {env : Env} (h : notSet e = true) : ∀ x, foldedSetIterable e env x = pure x := by
  intro x
  cases e <;> first | rfl | cases h
theorem swaps_none {e : Expr} {l : Nat} {env : Env} (h : notComp e = true) : swapsWith e none l env = pure false := by
  cases e <;> first | rfl | cases h
theorem swaps_some {e t : Expr} {l : Nat} {env : Env} (h : notComp e = true) : swapsWith e (some t) l env = pure false := by
  cases e <;> first | rfl | cases h
theorem swaps_tup {e : Expr} {l : Nat} {env : Env} {es : List Expr} {k : Nat} {p : Pos} : swapsWith e (some (.Tuple es k p)) l env = pure false := by
  cases e <;> rfl
theorem swaps_sub {e a b : Expr} {l : Nat} {env : Env} {p : Pos} : swapsWith e (some (.Subscript a b p)) l env = pure false := by
  cases e <;> rfl
theorem base_of {o : Expr} {name : Str} {env : Env} (h : plainBase o = true) : attributeBase o name env (eval o env) = eval o env := by
  cases o with
  | Call f args kws pos =>
    cases args with
    | nil => cases h
    | cons a as => cases f <;> rfl
  | _ => rfl
theorem test_of {a : Expr} {env : Env} (h : plainTest a = true) : ∀ whole, isTrue a env whole = (do let v ← whole; standAt a.pos; holding [v] (truthy v)) := by
  intro whole
  cases a with
  | UnaryOp op x p => cases op <;> first | rfl | cases h
  | BoolOp => cases h
  | IfExp => cases h
  | Compare => cases h
  | _ => rfl
section
variable {c : Cfg} {X : Cx} {E : XK}
theorem CxOk.vis (k : CxOk c X E) {x : Str} (h : visB c x = true) : Vis X.env.scope x := by
  unfold visB kindB at h
  simp only [Bool.or_eq_true, beq_iff_eq] at h
  unfold Vis
  rw [k.sc]
  rcases h with (h | h) | h
  · exact .inl h
  · exact .inr (.inl h)
  · exact .inr (.inr h)
theorem CxOk.gl (k : CxOk c X E) {x : Str} (h : glB c x = true) : Gl X x := by
  unfold glB kindB at h
  rw [beq_iff_eq] at h
  show X.env.scope.names.lookup x = _
  rw [k.sc]; exact h
theorem CxOk.slot (k : CxOk c X E) {x : Str} {i : Nat} (h : slotOf c.N x = some i) : X.N[i]? = some x := by
  rw [k.hN]; exact slotOf_get h
theorem CxOk.nd' (k : CxOk c X E) : X.N.Nodup := by rw [k.hN]; exact k.nd
theorem CxOk.units (k : CxOk c X E) : X.A.units + 66 < cLine := by
  obtain ⟨j, r, _⟩ := k.kk
  have := r.un
  omega
end
/-! ### names, constants, operators -/
def plainName (x : Str) : Bool := !(x == ("__debug__" : Str)) && !(x == ("__classdict__" : Str)) && !(x == ("__name__" : Str))
theorem pn1 {x : Str} (h : plainName x = true) : (x == ("__debug__" : Str)) = false := by
  unfold plainName at h
  simp only [Bool.and_eq_true, Bool.not_eq_true'] at h
  exact h.1.1
theorem pn2 {x : Str} (h : plainName x = true) : (x == ("__classdict__" : Str)) = false := by
  unfold plainName at h
  simp only [Bool.and_eq_true, Bool.not_eq_true'] at h
  exact h.1.2
theorem pn3 {x : Str} (h : plainName x = true) : x ≠ "__name__" := by
  unfold plainName at h
  simp only [Bool.and_eq_true, Bool.not_eq_true'] at h
  exact beq_eq_false_iff_ne.mp h.2
/-- the built-in classes that stand as values -/
def tyTab : List (Str × String) := [("int", "int"), ("str", "str"), ("tuple", "tuple"), ("list", "list"), ("bool", "bool"), ("dict", "dict")]
theorem tyTab_ok : ∀ p ∈ tyTab, bootBuiltins p.1 = some (.type p.2) := by
  intro p hp
  simp only [tyTab, List.mem_cons, List.not_mem_nil, or_false] at hp
  rcases hp with rfl | rfl | rfl | rfl | rfl | rfl <;> decide +kernel
def cName (c : Cfg) (x : Str) : Option ME :=
  if plainName x = true then
    if visB c x = true then (slotOf c.N x).map mVar
    else if glB c x = true then
      match c.C.find? (fun p => decide (p.1 = x)) with
      | some p => some (mC p.2)
      | none => if x ∈ c.B then (tyTab.find? fun p => decide (p.1 = x)).map fun p => mC (.raw (.ty p.2)) else none
    else none
  else none
def cConst : Const → Option ME
  | .int i => some (mC (.int i))
  | .bool b => some (mC (.bl b))
  | .none => some (mC .non)
  | .str s => some (mC (.str s))
  | _ => none
def binTab (hp : Bool) : Operator → Option F2
  | .Add => some (if hp = true then opAddH else opAdd)
  | .Sub => some opSub
  | .Mult => some opRep
  | .Mod => some opMod
  | .FloorDiv => some opDiv
  | .Pow => some opPow
  | _ => none
def cmpTab : CmpOp → Option F2
  | .Eq => some opEq
  | .NotEq => some opNe
  | .Lt => some opLt
  | .LtE => some opLe
  | .Gt => some opGt
  | .GtE => some opGe
  | .Is => some opIs
  | .IsNot => some opIsNot
  | .In => some (opIn false)
  | .NotIn => some (opIn true)
def augTab : Operator → Option F2
  | .Add => some iopAdd
  | .Sub => some iopSub
  | _ => none
section
variable {c : Cfg} {X : Cx} {E : XK}
theorem cName_ok (k : CxOk c X E) {x : Str} {pos : Pos} {m : ME} (h : cName c x = some m) : PE X (.Name x pos) (tM X.K E m) := by
  unfold cName at h
  split at h
  · rename_i hp
    split at h
    · rename_i hv
      rw [Option.map_eq_some_iff] at h
      obtain ⟨i, h1, rfl⟩ := h
      exact me_var (pe_var (k.slot h1) (k.vis hv) (pn1 hp) (pn2 hp))
    · split at h
      · rename_i hg
        split at h
        · rename_i p hf
          cases h
          have hm := List.mem_of_find?_eq_some hf
          have he : p.1 = x := by simpa using List.find?_some hf
          obtain ⟨u, v, h1, h2, h3⟩ := k.con p hm
          rw [he] at h1
          exact me_const (pe_glob (k.gl hg) h1 h2 (pn1 hp)) h3
        · split at h
          · rename_i hb
            rw [Option.map_eq_some_iff] at h
            obtain ⟨p, hf, rfl⟩ := h
            have hm := List.mem_of_find?_eq_some hf
            have he : p.1 = x := by simpa using List.find?_some hf
            have hv := tyTab_ok p hm
            rw [he] at hv
            exact me_const (v := .ty p.2) (pe_bltn (k.gl hg) (k.blt x hb) hv rfl (pn3 hp) (pn1 hp)) fun w => by simp only [Rep]
          · cases h
      · cases h
  · cases h
theorem cConst_ok {v : Const} {j : Nat} {pos : Pos} {m : ME} (h : cConst v = some m) : PE X (.Constant v j pos) (tM X.K E m) := by
  unfold cConst at h
  split at h <;> cases h
  · exact me_const pe_int fun w => rep_int.mpr rfl
  · exact me_const pe_bl fun w => rep_bl.mpr rfl
  · exact me_const pe_non fun w => rep_non.mpr rfl
  · exact me_const pe_str fun w => rep_str.mpr rfl
theorem binTab_ok {hp : Bool} {op : Operator} {f : F2} (h : binTab hp op = some f) : OpR X (binaryOp op) (rM X.K E f) := by
  unfold binTab at h
  split at h <;> cases h
  · split
    · exact or_addH
    · exact or_add
  · exact or_sub
  · exact or_rep
  · exact or_mod
  · exact or_div
  · exact or_pow
theorem cmpTab_ok (k : CxOk c X E) {op : CmpOp} {f : F2} (h : cmpTab op = some f) : OpR X (compareOp op) (rM X.K E f) := by
  have hu := k.units
  unfold cmpTab at h
  split at h <;> cases h
  · exact or_eq (by omega)
  · exact or_ne (by omega)
  · exact or_lt (by omega)
  · exact or_le
  · exact or_gt
  · exact or_ge
  · exact or_is
  · exact or_isnot
  · exact or_in (by omega)
  · exact or_notin (by omega)
theorem augTab_ok {op : Operator} {f : F2} (h : augTab op = some f) : OpR X (inplaceOp op) (rM X.K E f) := by
  unfold augTab at h
  split at h <;> cases h
  · exact oi_add
  · exact oi_sub
end
/-! ### targets -/
def cGT (c : Cfg) (x : Str) : Option (MG × List Nat) :=
  if plainName x = true ∧ (kindB c x = some .local ∨ ((c.blk = false ∨ x ∈ c.cel) ∧ kindB c x = some .cell)) then (slotOf c.N x).map fun i => (mgName i, [i]) else none
mutual
def cG (c : Cfg) : Nat → Expr → Option (MG × List Nat)
  | 0, _ => none
  | _ + 1, .Name x _ => cGT c x
  | n + 1, .Tuple es _ _ => (cGs c n es).map fun p => (mgTup es.length p.1, p.2)
  | _ + 1, _ => none
def cGs (c : Cfg) : Nat → List Expr → Option (MGs × List Nat)
  | 0, _ => none
  | _ + 1, [] => some (mgNil, [])
  | n + 1, e :: es => if notStar e = true then match cG c n e, cGs c n es with
      | some p, some q => some (mgCons p.1 q.1, p.2 ++ q.2)
      | _, _ => none
    else none
end
/-- the kit's reading of the same target -/
def gGT (c : Cfg) (x : Str) : TG := gName ((slotOf c.N x).getD 0)
mutual
def gG (K : PySem.W.Frag) (c : Cfg) : Nat → Expr → TG
  | _ + 1, .Name x _ => gGT c x
  | n + 1, .Tuple es _ _ => gSeq K es.length (gGs K c n es)
  | _, _ => gName 0
def gGs (K : PySem.W.Frag) (c : Cfg) : Nat → List Expr → TGs
  | n + 1, e :: es => gCons (gG K c n e) (gGs K c n es)
  | _, _ => gNil
end
theorem assign_len {env : Env} : ∀ es : List Expr, (assignEach es env).length = es.length
  | [] => rfl
  | e :: es => by
    have := assign_len (env := env) es
    cases e <;> simp [assignEach, this]
theorem assign_find {env : Env} : ∀ {es : List Expr}, es.all notStar = true → (assignEach es env).findIdx? (·.1) = none
  | [], _ => rfl
  | e :: es, h => by
    rw [List.all_cons, Bool.and_eq_true] at h
    have ih := assign_find (env := env) h.2
    cases e <;> first | (cases h.1; done) | (simp only [assignEach, List.findIdx?_cons, ih]; rfl)
theorem assign_cons {env : Env} {e : Expr} {es : List Expr} (h : notStar e = true) : (assignEach (e :: es) env).map (·.2) = assign e env :: (assignEach es env).map (·.2) := by
  cases e <;> first | rfl | cases h
section
variable {c : Cfg} {X : Cx} {E : XK}
theorem CxOk.loc (k : CxOk c X E) {x : Str} (h : kindB c x = some .local ∨ ((c.blk = false ∨ x ∈ c.cel) ∧ kindB c x = some .cell)) : L2.Loc X.env.scope x ∧ (X.fn x = true ∨ X.env.scope.names.lookup x = some .local) := by
  unfold L2.Loc
  rw [k.sc]
  rcases h with h | ⟨h1, h⟩
  · exact ⟨.inl h, .inr h⟩
  · exact ⟨.inr h, .inl (h1.elim (fun z => (k.fn z).1 x) (k.cl x))⟩
theorem cGT_ok (k : CxOk c X E) {x : Str} {pos : Pos} {m : MG} {vs : List Nat} (h : cGT c x = some (m, vs)) : PG X (.Name x pos) (gGT c x) ∧ ∀ us, (∀ i ∈ vs, i ∈ us) → GOk X.K us (gGT c x) m := by
  unfold cGT at h
  split at h
  · rename_i hz
    rw [Option.map_eq_some_iff] at h
    obtain ⟨i, h1, h2⟩ := h
    cases h2
    obtain ⟨l1, l2⟩ := k.loc hz.2
    have e : gGT c x = gName i := by unfold gGT; rw [h1]; rfl
    rw [e]
    exact ⟨pg_name k.nd' (k.slot h1) l1 l2, fun us hu => go_name (hu i (by simp))⟩
  · cases h
mutual
theorem cG_ok (k : CxOk c X E) : ∀ (n : Nat) {e : Expr} {m : MG} {vs : List Nat}, cG c n e = some (m, vs) → PG X e (gG X.K c n e) ∧ ∀ us, (∀ i ∈ vs, i ∈ us) → GOk X.K us (gG X.K c n e) m
  | 0, e, m, vs, h => by simp [cG] at h
  | n + 1, e, m, vs, h => by
    cases e with
    | Name x p =>
      simp only [cG] at h
      simp only [gG]
      exact cGT_ok k h
    | Tuple es j p =>
      simp only [cG, Option.map_eq_some_iff] at h
      obtain ⟨q, h1, h2⟩ := h
      cases h2
      obtain ⟨h3, h4, h5⟩ := cGs_ok k n h1
      simp only [gG]
      exact ⟨pg_seq k.calm h3 (assign_len es) (assign_find h5), fun us hu => go_tup (h4 us hu)⟩
    | _ => simp [cG] at h
theorem cGs_ok (k : CxOk c X E) : ∀ (n : Nat) {es : List Expr} {p : MGs × List Nat}, cGs c n es = some p → PGs X es (gGs X.K c n es) ∧ (∀ us, (∀ i ∈ p.2, i ∈ us) → GsOk X.K us (gGs X.K c n es) p.1) ∧ es.all notStar = true
  | 0, es, p, h => by simp [cGs] at h
  | n + 1, [], p, h => by
    simp only [cGs, Option.some.injEq] at h
    subst h
    simp only [gGs]
    exact ⟨pgs_nil, fun us _ => gos_nil, rfl⟩
  | n + 1, e :: es, p, h => by
    simp only [cGs] at h
    split at h
    · rename_i hs
      split at h
      · rename_i p1 p2 e1 e2
        cases h
        obtain ⟨h1, h2⟩ := cG_ok k n (m := p1.1) (vs := p1.2) (by simpa using e1)
        obtain ⟨h3, h4, h5⟩ := cGs_ok k n e2
        simp only [gGs]
        exact ⟨pgs_cons h1 h3 (assign_cons hs), fun us hu => gos_cons (h2 us fun i hi => hu i (List.mem_append_left _ hi)) (h4 us fun i hi => hu i (List.mem_append_right _ hi)), by rw [List.all_cons, hs, h5]; rfl⟩
      · cases h
    · cases h
end
end
end Tb
end

section
set_option maxHeartbeats 4000000
namespace Tb
open PySem PySem.Spec L2
/-! ## sorted(range(n), key=lambda x: ..): its mirror, told from the text -/
def cKXs (c : Cfg) (scope : Scope) (p : Str) (rec : Expr → Option KX) : Expr → Option KX
  | .Name x _ => if x = p then (if scope.names.lookup p = some .local ∧ (p == ("__debug__" : Str)) = false then some .par else none)
    else if scope.names.lookup x = some .free ∧ (c.sc.names.lookup x = some .cell ∨ c.sc.names.lookup x = some .free) ∧ (x == ("__debug__" : Str)) = false ∧ (x == ("__classdict__" : Str)) = false then (slotOf c.N x).map .var else none
  | .Constant (.int z) _ _ => some (.int z)
  | .UnaryOp .USub a _ => (rec a).map .neg
  | .Subscript a b _ => if notSlice b = true then match rec a, rec b with
      | some x, some y => some (.ix x y)
      | _, _ => none
    else none
  | _ => none
def cKX (c : Cfg) (scope : Scope) (p : Str) : Nat → Expr → Option KX
  | 0 => fun _ => none
  | n + 1 => cKXs c scope p (cKX c scope p n)
def cKT (c : Cfg) (scope : Scope) (p : Str) : Expr → Option KT
  | .Tuple [a, b] _ _ => if notStar a = true ∧ notStar b = true then match cKX c scope p 5 a, cKX c scope p 5 b with
      | some x, some y => some (.two x y)
      | _, _ => none
    else none
  | e => (cKX c scope p 5 e).map .one
def lamB (sc scope : Scope) (p : Str) : Bool :=
  decide (scope.kind = .function) && (!scope.isCoroutine && (!scope.isGenerator && (scope.names.all (fun y => !decide (y.2 = .cell) && (!decide (y.2 = .free) || (decide (sc.names.lookup y.1 = some .cell) || decide (sc.names.lookup y.1 = some .free)))) && decide (scope.names.lookup p = some .local))))
def cSortR (c : Cfg) (rE : Cfg → Bool → Expr → Option ME) : Expr → Option ME
  | .Call (.Name x _) [.Call (.Name y _) [a] [] _] [⟨some kn, .Lambda ⟨[], [⟨p, none, _⟩], none, [], [], none, []⟩ body scope _, _⟩] _ =>
    if x = "sorted" ∧ glB c "sorted" = true ∧ ("sorted" : Str) ∈ c.B ∧ y = "range" ∧ glB c "range" = true ∧ ("range" : Str) ∈ c.B ∧ kn = "key" ∧ notStar a = true ∧ c.lam = true ∧ lamB c.sc scope p = true then
      match cKT c scope p body, rE c false a with
      | some kt, some m => some (mSortR kt m)
      | _, _ => none
    else none
  | _ => none
section
variable {c : Cfg} {X : Cx} {E : XK} {scope : Scope} {p : Str}
theorem lamP_by {sc : Scope} (h : lamB sc scope p = true) : LamP sc scope p := by
  unfold lamB at h
  simp only [Bool.and_eq_true, Bool.or_eq_true, Bool.not_eq_true', decide_eq_true_eq, decide_eq_false_iff_not, List.all_eq_true] at h
  obtain ⟨h1, h2, h3, h4, h5⟩ := h
  refine ⟨h1, h2, h3, fun y hy => (h4 y hy).1, h5, fun y hy e => ?_⟩
  rcases (h4 y hy).2 with z | z
  · exact absurd e z
  · exact z
theorem cKX_ok (k : CxOk c X E) : ∀ {n : Nat} {e : Expr} {kx : KX}, cKX c scope p n e = some kx → KAg X scope p e kx := by
  intro n
  induction n with
  | zero => intro e kx h; cases h
  | succ n ih =>
    intro e kx h
    have h : cKXs c scope p (cKX c scope p n) e = some kx := h
    unfold cKXs at h
    split at h
    · split at h
      · rename_i hx
        subst hx
        split at h
        · rename_i hz
          cases h
          exact .par hz.1 hz.2
        · cases h
      · split at h
        · rename_i hz
          rw [Option.map_eq_some_iff] at h
          obtain ⟨i, e3, rfl⟩ := h
          refine .var ?_ hz.1 ?_ hz.2.2.1 hz.2.2.2
          · rw [k.hN]
            exact slotOf_get e3
          · rw [k.sc]
            exact hz.2.1
        · cases h
    · cases h
      exact .int
    · rw [Option.map_eq_some_iff] at h
      obtain ⟨x, e3, rfl⟩ := h
      exact .neg (ih e3)
    · split at h
      · rename_i hs
        split at h
        · rename_i x y e3 e4
          cases h
          exact .ix (ih e3) (ih e4) (plainIx_of hs)
        · cases h
      · cases h
    · cases h
theorem bind_one {q p : Str} {ap : Pos} {body : Expr} {scope : Scope} {cl : List (Str × Addr)} {pm cdv ctv v : Value} : bindArgs (PySem.W.kla_fn "<lambda>" q ⟨[], [⟨p, none, ap⟩], none, [], [], none, []⟩ body scope cl pm cdv ctv) ⟨[v], []⟩ = pure [(p, v)] := by
  have e : List.lookup p [(p, v)] = some v := by simp [List.lookup]
  unfold bindArgs
  simp [e, seqItems?]
  rfl
theorem star_two {a b : Expr} {env : Env} (ha : notStar a = true) (hb : notStar b = true) : starEach [a, b] env = [(false, eval a env), (false, eval b env)] := by
  rw [star_cons ha, star_cons hb]
  rfl
theorem cKT_ok (k : CxOk c X E) {e : Expr} {kt : KT} (h : cKT c scope p e = some kt) : KTAg X scope p e kt := by
  unfold cKT at h
  split at h
  · split at h
    · rename_i hs
      split at h
      · rename_i x y e1 e2
        cases h
        exact .two (cKX_ok k e1) (cKX_ok k e2) fun env => star_two hs.1 hs.2
      · cases h
    · cases h
  · rw [Option.map_eq_some_iff] at h
    obtain ⟨x, e1, rfl⟩ := h
    exact .one (cKX_ok k e1)
theorem cSortR_ok {rE : Cfg → Bool → Expr → Option ME} (gE : ∀ (m : ME) (e : Expr), rE c false e = some m → PE X e (tM X.K E m)) (k : CxOk c X E) {e : Expr} {m : ME} (h : cSortR c rE e = some m) : PE X e (tM X.K E m) := by
  unfold cSortR at h
  split at h
  · split at h
    · rename_i hz
      obtain ⟨rfl, h1, h2, rfl, h3, h4, rfl, h5, h6, h7⟩ := hz
      split at h
      · rename_i kt m' e1 e2
        cases h
        obtain ⟨a, P, q, t1, t2, t3, t4⟩ := k.lamT h6
        obtain ⟨rm, hr, _⟩ := k.kk
        exact me_sortR k.calm (hr.mono (Nat.zero_le _)) (k.gl h1) (k.blt _ h2) (k.gl h3) (k.blt _ h4) (gE _ _ e2) (star_cons h5) t3 t4 t2 t1 rfl (by rw [k.sc]; exact lamP_by h7) (fun _ _ _ _ _ => bind_one) (cKT_ok k e1)
      · cases h
    · cases h
  · cases h
end
end Tb
end

section
set_option maxHeartbeats 4000000
namespace Tb
open PySem PySem.Spec L2
/-! ### built-in functions and methods by their names -/
structure BI where
  x : Str
  ty : Bool
  id : String
  f : FB
def bTab (hp : Bool) : List BI := [⟨"len", false, "len", bLen⟩, ⟨"tuple", true, "tuple", bTuple⟩, ⟨"list", true, "list", if hp = true then bListH else bList⟩, ⟨"repr", false, "repr", bRepr⟩, ⟨"abs", false, "abs", bAbs⟩, ⟨"int", true, "int", bInt⟩, ⟨"str", true, "str", bStr⟩,
  ⟨"ord", false, "ord", bOrd⟩, ⟨"max", false, "max", bMax⟩, ⟨"min", false, "min", bMin⟩, ⟨"sum", false, "sum", bSum⟩, ⟨"all", false, "all", bAll⟩, ⟨"any", false, "any", bAny⟩, ⟨"isinstance", false, "isinstance", bIsi⟩, ⟨"sorted", false, "sorted", bSorted⟩]
def BI.v (b : BI) : Value := if b.ty = true then .type b.id else .builtin b.id
theorem bTab_boot (hp : Bool) : ∀ b ∈ bTab hp, bootBuiltins b.x = some b.v := by
  intro b hb
  simp only [bTab, List.mem_cons, List.not_mem_nil, or_false] at hb
  rcases hb with rfl | rfl | rfl | rfl | rfl | rfl | rfl | rfl | rfl | rfl | rfl | rfl | rfl | rfl | rfl <;> (simp only [BI.v]; decide +kernel)
theorem bTab_ok {c : Cfg} {X : Cx} {E : XK} (k : CxOk c X E) (hp : Bool) : ∀ b ∈ bTab hp, CallR X b.v (rB X.K E b.f) := by
  intro b hb
  simp only [bTab, List.mem_cons, List.not_mem_nil, or_false] at hb
  rcases hb with rfl | rfl | rfl | rfl | rfl | rfl | rfl | rfl | rfl | rfl | rfl | rfl | rfl | rfl | rfl
  · exact cr_len
  · exact cr_tuple
  · show CallR X (.type "list") (rB X.K E (if hp = true then bListH else bList))
    split
    · exact cr_listH
    · exact cr_list
  · exact cr_repr k.gd k.units
  · exact cr_abs
  · exact cr_int
  · exact cr_str
  · exact cr_ord
  · exact cr_maxM k.calm
  · exact cr_minM k.calm
  · exact cr_sumM k.calm
  · exact cr_allM k.calm
  · exact cr_anyM k.calm
  · exact cr_isi
  · exact cr_sortedM
structure MI' where
  name : Str
  T : String
  id : String
  f : FM
def mTab : List MI' := [⟨"append", "list", "list.append", lAppend⟩, ⟨"extend", "list", "list.extend", lExtend⟩, ⟨"pop", "list", "list.pop", lPop⟩, ⟨"index", "str", "str.index", lOf bSIndex⟩]
theorem mTab_ok {X : Cx} {E : XK} : ∀ m ∈ mTab, PlainAttrs m.T ∧ Slot m.T m.name m.id ∧ typeOf (.builtin m.id) = pure (.type "method_descriptor") ∧ MtR X m.id (rMeth X.K E m.f) := by
  intro m hm
  simp only [mTab, List.mem_cons, List.not_mem_nil, or_false] at hm
  rcases hm with rfl | rfl | rfl | rfl
  · exact ⟨PySem.F.plainAttrs_list, PySem.F.slot_list_append, PySem.F.type_list_append, mr_append⟩
  · exact ⟨PySem.F.plainAttrs_list, PySem.F.slot_list_extend, PySem.F.type_list_extend, mr_extend⟩
  · exact ⟨PySem.F.plainAttrs_list, PySem.F.slot_list_pop, PySem.F.type_list_pop, mr_pop⟩
  · exact ⟨PySem.F.plainAttrs_str, PySem.F.slot_str_index, PySem.F.type_str_index, mr_sindex⟩
structure KI where
  x : Str
  ks : List Str
  id : String
  n : Nat
  l : Nat
  f : FB
def kTab : List KI := [⟨"max", ["default"], "max", 1, 1, bMaxD⟩]
theorem kTab_ok {c : Cfg} {X : Cx} {E : XK} (k : CxOk c X E) : ∀ b ∈ kTab, bootBuiltins b.x = some (.builtin b.id) ∧ CallRK X (.builtin b.id) b.ks (rBK X.K E b.f b.n b.l) := by
  intro b hb
  simp only [kTab, List.mem_cons, List.not_mem_nil, or_false] at hb
  rcases hb with rfl
  exact ⟨by decide +kernel, cr_maxD k.calm k.units⟩
/-! ### expressions -/
abbrev RE := Cfg → Bool → Expr → Option ME
abbrev RT := Cfg → Expr → Option MT
def cA (rE : Expr → Option ME) : List Expr → Option MA
  | [] => some mNil
  | e :: es => if notStar e = true then match rE e, cA rE es with
      | some m, some ms => some (mCons m ms)
      | _, _ => none
    else none
/-- some of these are lists that the def changes -/
def cAh (rE : Bool → Expr → Option ME) : List Bool → List Expr → Option MA
  | _, [] => some mNil
  | [], e :: es => if notStar e = true then match rE false e, cAh rE [] es with
      | some m, some ms => some (mCons m ms)
      | _, _ => none
    else none
  | b :: bs, e :: es => if notStar e = true then match rE b e, cAh rE bs es with
      | some m, some ms => some (mCons m ms)
      | _, _ => none
    else none
def cKw (rE : Expr → Option ME) : List Keyword → Option (MA × List Str)
  | [] => some (mNil, [])
  | ⟨some n, e, _⟩ :: ks => match rE e, cKw rE ks with
      | some m, some p => some (mCons m p.1, n :: p.2)
      | _, _ => none
  | _ => none
def Cfg.inBlk (c : Cfg) (scope : Scope) : Cfg := { c with sc := relS scope c.sc, blk := true, lam := false, cel := (scope.names.filter fun y => scope.names.lookup y.1 == some .cell).map (·.1) }
def ownOf (N : List Str) : List (Str × NameKind) → List (Str × Nat)
  | [] => []
  | (x, k) :: r => match slotOf N x with
    | some i => if k = .local ∨ k = .cell then (x, i) :: ownOf N r else ownOf N r
    | none => ownOf N r
/-- range(..), or a value -/
def cI (c : Cfg) (rE : RE) : Expr → Option MI
  | .Call (.Name x _) [a] [] _ => if x = "range" ∧ glB c x = true ∧ x ∈ c.B ∧ notStar a = true then (rE c false a).map mRange1 else none
  | .Call (.Name x _) [a, b] [] _ => if x = "range" ∧ glB c x = true ∧ x ∈ c.B ∧ notStar a = true ∧ notStar b = true then match rE c false a, rE c false b with
      | some m, some n => some (mRange2 m n)
      | _, _ => none
    else none
  | _ => none
/-- zip, enumerate: their pairs go to a tuple of names -/
def cZ (c : Cfg) (rE : RE) : Expr → Expr → Option MI
  | .Tuple _ _ _, .Call (.Name x _) [a, b] [] _ => if x = "zip" ∧ glB c x = true ∧ x ∈ c.B ∧ notStar a = true ∧ notStar b = true then match rE c false a, rE c false b with
      | some m, some n => some (mZip m n)
      | _, _ => none
    else none
  | .Tuple _ _ _, .Call (.Name x _) [a] [] _ => if x = "enumerate" ∧ glB c x = true ∧ x ∈ c.B ∧ notStar a = true then (rE c false a).map mEnum else none
  | _, _ => none
def cIter (c : Cfg) (rE : RE) (tg e : Expr) : Option MI := match cI c rE e with
  | some m => some m
  | none => match cZ c rE tg e with
    | some m => some m
    | none => (rE c false e).map mIter
def cIfs (rT : Expr → Option MT) : List Expr → Option MT
  | [] => some mYes
  | [t] => rT t
  | _ => none
structure CP where
  mi : MI
  own : List (Str × Nat)
  mg : MG
  mt : MT
  me : ME
noncomputable def CP.m (p : CP) (f : Fn1) : ME := fun s h => (mComp p.mi (p.own.map (·.2)) p.mg p.mt p.me s h).bind f
def cComp (c : Cfg) (rE : RE) (rT : RT) (elt tg iter : Expr) (ifs : List Expr) (scope : Scope) : Option CP :=
  if blkC c.N c.sc scope (ownOf c.N scope.names) = true ∧ notSet iter = true then
    match cIter c rE tg iter, cG (c.inBlk scope) 9 tg, cIfs (rT (c.inBlk scope)) ifs, rE (c.inBlk scope) false elt with
    | some mi, some p, some mt, some me => if (p.2.all fun i => decide (i ∈ (ownOf c.N scope.names).map (·.2))) = true then some ⟨mi, ownOf c.N scope.names, p.1, mt, me⟩ else none
    | _, _, _, _ => none
  else none
noncomputable def cCall (c : Cfg) (rE : RE) (hp : Bool) : Expr → List Expr → List Keyword → Option ME
  | .Name x _, [], [] => if plainName x = true ∧ glB c x = true then
      (c.G.find? fun sh => decide (sh.name = x) && decide (sh.n = 0) && decide (sh.ks = [])).map fun sh => mCall sh.np sh.F sh.dv mNil
    else none
  | .Name x _, a :: as, [] => if plainName x = true ∧ glB c x = true then
      match c.G.find? fun sh => decide (sh.name = x) && decide (sh.n = (a :: as).length) && decide (sh.ks = []) with
      | some sh => (cAh (rE c) sh.hs (a :: as)).map fun ma => mCall sh.np sh.F sh.dv ma
      | none => match cA (rE c false) (a :: as) with
        | some ma => if x ∈ c.B then ((bTab hp).find? fun b => decide (b.x = x)).map fun b => mCallB b.f ma else none
        | none => none
    else none
  | .Name x _, a :: as, kw :: kws => if plainName x = true ∧ glB c x = true then
      match cA (rE c false) (a :: as), cKw (rE c false) (kw :: kws) with
      | some ma, some mk => match c.G.find? fun sh => decide (sh.name = x) && decide (sh.n = (a :: as).length) && decide (sh.ks = mk.2) with
        | some sh => some (mCallK sh.n sh.ks.length sh.np sh.F sh.gD ma mk.1)
        | none => if x ∈ c.B then (kTab.find? fun b => decide (b.x = x) && decide (b.ks = mk.2)).map fun b => mCallBK b.n b.l b.f ma mk.1 else none
      | _, _ => none
    else none
  | .Name x _, [], kw :: kws => if plainName x = true ∧ glB c x = true then
      match cKw (rE c false) (kw :: kws) with
      | some mk => (c.G.find? fun sh => decide (sh.name = x) && decide (sh.n = 0) && decide (sh.ks = mk.2)).map fun sh => mCallK 0 sh.ks.length sh.np sh.F sh.gD mNil mk.1
      | none => none
    else none
  | .Attribute o name apos, a :: as, [] => if plainBase o = true ∧ (a :: as).length < 30 then
      match rE c false o, cA (rE c false) (a :: as), mTab.find? fun m => decide (m.name = name) with
      | some mo, some ma, some m => some (mMeth m.T m.f mo ma)
      | _, _, _ => none
    else none
  | _, _, _ => none
/-- where a call's method stands on its own line -/
def lineOk : Expr → Pos → Bool
  | .Attribute _ _ apos, pos => apos.endLine == pos.line
  | _, _ => true
def cBoolV (rE : Expr → Option ME) (op : BoolOp) : List Expr → Option ME
  | [] => none
  | [a] => rE a
  | a :: b :: r => match rE a, cBoolV rE op (b :: r) with
    | some x, some y => some (match op with | .And => mAndV x y | .Or => mOrV x y)
    | _, _ => none
def cBoolT (rT : Expr → Option MT) (op : BoolOp) : List Expr → Option MT
  | [] => none
  | [a] => rT a
  | a :: b :: r => match rT a, cBoolT rT op (b :: r) with
    | some x, some y => some (match op with | .And => mAnd x y | .Or => mOr x y)
    | _, _ => none
def cCmp (c : Cfg) (rE : RE) (a : Expr) : List CmpOp → List Expr → Option ME
  | [op], [b] => if notSet b = true then match cmpTab op, rE c false a, rE c false b with
      | some f, some x, some y => some (mOp f x y)
      | _, _, _ => none
    else none
  | [op, op'], [b, d] => if notSet d = true then match cmpTab op, cmpTab op', rE c false a, rE c false b, rE c false d with
      | some f, some g, some x, some y, some z => some (mChain f g x y z)
      | _, _, _, _, _ => none
    else none
  | _, _ => none
def cPart (rE : Expr → Option ME) : Option Expr → Option MO'
  | none => some mNoPart
  | some e => (rE e).map mPart
/-- sorted(set(x)), len(set(x)) -/
noncomputable def cSet (c : Cfg) (rE : RE) : Expr → Option ME
  | .Call (.Name x _) [.Call (.Name y _) [a] [] _] [] _ => if y = "set" ∧ glB c "set" = true ∧ ("set" : Str) ∈ c.B ∧ notStar a = true then
      if x = "sorted" ∧ glB c "sorted" = true ∧ ("sorted" : Str) ∈ c.B then (rE c false a).map fun m => mCallB bSSet (mCons m mNil)
      else if x = "len" ∧ glB c "len" = true ∧ ("len" : Str) ∈ c.B then (rE c false a).map fun m => mCallB bLSet (mCons m mNil)
      else none
    else none
  | _ => none
noncomputable def stepE (rE : RE) (rT : RT) : RE := fun c hp e => match e with
  | .Name x _ => cName c x
  | .Constant v _ _ => cConst v
  | .BinOp a op b _ => match binTab hp op, rE c false a, rE c false b with
    | some f, some x, some y => some (mOp f x y)
    | _, _, _ => none
  | .UnaryOp .USub a _ => (rE c false a).map mNeg
  | .UnaryOp .Not a _ => (rE c false a).map mNotV
  | .BoolOp op es _ => cBoolV (rE c false) op es
  | .Compare a ops bs _ => cCmp c rE a ops bs
  | .IfExp t a b _ => match rT c t, rE c hp a, rE c hp b with
    | some mt, some x, some y => some (mIf mt x y)
    | _, _, _ => none
  | .Tuple es _ _ => (cA (rE c false) es).map mTup
  | .List es _ => (cA (rE c false) es).map (if hp = true then mLstH else mLst)
  | .Subscript a (.Slice lo hi none _) _ => match rE c false a, cPart (rE c false) lo, cPart (rE c false) hi with
    | some x, some l, some u => some (mCut (if hp = true then opCutH else opCut) x l u)
    | _, _, _ => none
  | .Subscript a (.Slice none none (some (.UnaryOp .USub (.Constant (.int 1) _ _) _)) _) _ => (rE c false a).map mRev
  | .Subscript a b _ => if notSlice b = true then match rE c false a, rE c false b with
      | some x, some y => some (mOp opIx x y)
      | _, _ => none
    else none
  | .ListComp elt [⟨tg, iter, ifs, as⟩] scope _ => if as = 0 then (cComp c rE rT elt tg iter ifs scope).map fun p => p.m (if hp = true then finH else finL) else none
  | .Call f args kws pos => match cSet c rE (.Call f args kws pos) with
    | some m => some m
    | none => match cSortR c rE (.Call f args kws pos) with
      | some m => some m
      | none => if lineOk f pos = true then cCall c rE hp f args kws else none
  | _ => none
def stepT (rE : RE) (rT : RT) : RT := fun c e => match e with
  | .Compare a ops bs _ => (cCmp c rE a ops bs).map fun m s h => asB (m s h)
  | .BoolOp op es _ => cBoolT (rT c) op es
  | .UnaryOp .Not a _ => (rT c a).map mNot
  | e => if plainTest e = true then (rE c false e).map mTruth else none
noncomputable def comp : Nat → RE × RT
  | 0 => (fun _ _ _ => none, fun _ _ => none)
  | n + 1 => (stepE (comp n).1 (comp n).2, stepT (comp n).1 (comp n).2)
/-! ### they are right -/
abbrev GoodE (r : RE) : Prop := ∀ (c : Cfg) (X : Cx) (E : XK) (hp : Bool) (e : Expr) (m : ME), CxOk c X E → r c hp e = some m → PE X e (tM X.K E m)
abbrev GoodT (r : RT) : Prop := ∀ (c : Cfg) (X : Cx) (E : XK) (e : Expr) (m : MT), CxOk c X E → r c e = some m → PT X e (tMT X.K E m)
section
variable {rE : RE} {rT : RT} {c : Cfg} {X : Cx} {E : XK}
theorem cA_ok (gE : GoodE rE) (k : CxOk c X E) : ∀ {es : List Expr} {ma : MA}, cA (rE c false) es = some ma → PA X es (tMA X.K E ma) ∧ es.all notStar = true
  | [], ma, h => by
    simp only [cA, Option.some.injEq] at h
    subst h
    exact ⟨mar_nil, rfl⟩
  | e :: es, ma, h => by
    simp only [cA] at h
    split at h
    · rename_i hs
      split at h
      · rename_i m ms e1 e2
        cases h
        obtain ⟨h1, h2⟩ := cA_ok gE k e2
        exact ⟨mar_cons (gE c X E false e m k e1) h1 (star_cons hs), by rw [List.all_cons, hs, h2]; rfl⟩
      · cases h
    · cases h
theorem cAh_ok (gE : GoodE rE) (k : CxOk c X E) : ∀ {bs : List Bool} {es : List Expr} {ma : MA}, cAh (rE c) bs es = some ma → PA X es (tMA X.K E ma) ∧ es.all notStar = true
  | bs, [], ma, h => by
    cases bs <;>
    · simp only [cAh, Option.some.injEq] at h
      subst h
      exact ⟨mar_nil, rfl⟩
  | [], e :: es, ma, h => by
    simp only [cAh] at h
    split at h
    · rename_i hs
      split at h
      · rename_i m ms e1 e2
        cases h
        obtain ⟨h1, h2⟩ := cAh_ok gE k e2
        exact ⟨mar_cons (gE c X E false e m k e1) h1 (star_cons hs), by rw [List.all_cons, hs, h2]; rfl⟩
      · cases h
    · cases h
  | b :: bs, e :: es, ma, h => by
    simp only [cAh] at h
    split at h
    · rename_i hs
      split at h
      · rename_i m ms e1 e2
        cases h
        obtain ⟨h1, h2⟩ := cAh_ok gE k e2
        exact ⟨mar_cons (gE c X E b e m k e1) h1 (star_cons hs), by rw [List.all_cons, hs, h2]; rfl⟩
      · cases h
    · cases h
theorem cKw_ok (gE : GoodE rE) (k : CxOk c X E) : ∀ {ks : List Keyword} {p : MA × List Str}, cKw (rE c false) ks = some p → PK X ks (tMA X.K E p.1) ∧
    (∀ pos, (backToKw pos (keywordEach ks X.env)).all (·.1.isSome) = true ∧ (backToKw pos (keywordEach ks X.env)).filterMap (·.1) = p.2 ∧ (backToKw pos (keywordEach ks X.env)).any (·.1.isNone) = false)
  | [], p, h => by
    simp only [cKw, Option.some.injEq] at h
    subst h
    exact ⟨mk_nil, fun pos => ⟨rfl, rfl, rfl⟩⟩
  | ⟨none, e, kp⟩ :: ks, p, h => by simp [cKw] at h
  | ⟨some n, e, kp⟩ :: ks, p, h => by
    simp only [cKw] at h
    split at h
    · rename_i m q e1 e2
      cases h
      obtain ⟨h1, h2⟩ := cKw_ok gE k e2
      refine ⟨mk_cons (gE c X E false e m k e1) h1, fun pos => ?_⟩
      obtain ⟨h3, h4, h5⟩ := h2 pos
      simp only [backToKw] at h3 h4 h5
      simp only [keywordEach, backToKw, List.map_cons, List.all_cons, List.filterMap_cons, List.any_cons, h3, h4, h5]
      simp
    · cases h
theorem inBlk_ok (k : CxOk c X E) (s : Shared) (H : Hp) (scope : Scope) (C : Addr) (cl : List (Str × Addr)) (fp : List Addr) : CxOk (c.inBlk scope) (X.blk s H scope (compEnvC scope cl C X.env) fp) E0 := by
  refine ⟨k.hN, k.nd, ?_, k.calm, k.gd, k.kk, k.con, k.blt, (fun z => nomatch z), passL, fun y hy => ?_, fun z => nomatch z⟩
  · show relabel scope X.env = relS scope c.sc
    rw [← k.sc]
    rfl
  · obtain ⟨p, hp, rfl⟩ := List.mem_map.mp hy
    exact (List.mem_filter.mp hp).2
theorem own_slot {N : List Str} : ∀ {l : List (Str × NameKind)}, ∀ p ∈ ownOf N l, N[p.2]? = some p.1
  | [], p, h => by cases h
  | (x, kd) :: r, p, h => by
    unfold ownOf at h
    split at h
    · rename_i i e
      split at h
      · rcases List.mem_cons.mp h with rfl | h
        · exact slotOf_get e
        · exact own_slot p h
      · exact own_slot p h
    · exact own_slot p h
theorem cI_ok (gE : GoodE rE) (k : CxOk c X E) {tg e : Expr} {m : MI} (h : cI c rE e = some m) : PI X tg e (tMI X.K E m) := by
  unfold cI at h
  split at h
  · split at h
    · rename_i hz
      obtain ⟨rfl, h1, h2, h3⟩ := hz
      rw [Option.map_eq_some_iff] at h
      obtain ⟨ma, e1, rfl⟩ := h
      exact mi_range1 (k.gl h1) (k.blt _ h2) (gE c X E false _ _ k e1) (star_cons h3)
    · cases h
  · split at h
    · rename_i hz
      obtain ⟨rfl, h1, h2, h3, h4⟩ := hz
      split at h
      · rename_i ma mb e1 e2
        cases h
        exact mi_range2 (k.gl h1) (k.blt _ h2) (gE c X E false _ _ k e1) (gE c X E false _ _ k e2) (by rw [star_cons h3, star_cons h4]; rfl) (star_cons h4)
      · cases h
    · cases h
  · cases h
theorem cZ_ok (gE : GoodE rE) (k : CxOk c X E) {tg e : Expr} {m : MI} (h : cZ c rE tg e = some m) : PI X tg e (tMI X.K E m) := by
  unfold cZ at h
  split at h
  · split at h
    · rename_i hz
      obtain ⟨rfl, h1, h2, h3, h4⟩ := hz
      split at h
      · rename_i ma mb e1 e2
        cases h
        exact mi_zip (k.gl h1) (k.blt _ h2) (gE c X E false _ _ k e1) (gE c X E false _ _ k e2) (star_cons h3) (star_cons h4) (by rw [star_cons h4]; rfl)
      · cases h
    · cases h
  · split at h
    · rename_i hz
      obtain ⟨rfl, h1, h2, h3⟩ := hz
      rw [Option.map_eq_some_iff] at h
      obtain ⟨ma, e1, rfl⟩ := h
      exact mi_enum (k.gl h1) (k.blt _ h2) (gE c X E false _ _ k e1) (star_cons h3)
    · cases h
  · cases h
theorem cIter_ok (gE : GoodE rE) (k : CxOk c X E) {tg e : Expr} {m : MI} (h : cIter c rE tg e = some m) : PI X tg e (tMI X.K E m) := by
  unfold cIter at h
  split at h
  · rename_i m' e1
    cases h
    exact cI_ok gE k e1
  · split at h
    · rename_i m' e1
      cases h
      exact cZ_ok gE k e1
    · rw [Option.map_eq_some_iff] at h
      obtain ⟨ma, e1, rfl⟩ := h
      exact mi_val (gE c X E false _ _ k e1)
theorem cIfs_ok (gT : GoodT rT) (k : CxOk c X E) {ifs : List Expr} {m : MT} (h : cIfs (rT c) ifs = some m) : PTs X ifs (tMT X.K E m) := by
  unfold cIfs at h
  split at h
  · cases h; exact mts_nil
  · exact mts_one (gT c X E _ _ k h)
  · cases h
/-- what a comprehension's parts have to be -/
theorem cComp_ok (gE : GoodE rE) (gT : GoodT rT) (k : CxOk c X E) {elt tg iter : Expr} {ifs : List Expr} {scope : Scope} {p : CP} (h : cComp c rE rT elt tg iter ifs scope = some p) :
    PI X tg iter (tMI X.K E p.mi) ∧ BlkOk X.N X.env.scope scope p.own ∧ GOk X.K (p.own.map (·.2)) (gG X.K (c.inBlk scope) 9 tg) p.mg ∧
      (∀ (s : Shared) (H : Hp) (C : Addr) (cl : List (Str × Addr)) (fp : List Addr), PG (X.blk s H scope (compEnvC scope cl C X.env) fp) tg (gG X.K (c.inBlk scope) 9 tg)) ∧
      (∀ (s : Shared) (H : Hp) (C : Addr) (cl : List (Str × Addr)) (fp : List Addr), PTs (X.blk s H scope (compEnvC scope cl C X.env) fp) ifs (tMT X.K E0 p.mt)) ∧
      (∀ (s : Shared) (H : Hp) (C : Addr) (cl : List (Str × Addr)) (fp : List Addr), PE (X.blk s H scope (compEnvC scope cl C X.env) fp) elt (tM X.K E0 p.me)) ∧ notSet iter = true := by
  unfold cComp at h
  split at h
  · rename_i hz
    split at h
    · rename_i mi q mt me e1 e2 e3 e4
      split at h
      · rename_i ha
        cases h
        refine ⟨cIter_ok gE k e1, ?_, ?_, fun s H C cl fp => ?_, fun s H C cl fp => ?_, fun s H C cl fp => ?_, hz.2⟩
        · refine blkOk_by ?_
          rw [k.hN, k.sc]
          exact hz.1
        · have hx := inBlk_ok k (X := X) (X.s_0) (X.H_0) scope 0 [] []
          exact (cG_ok hx 9 (m := q.1) (vs := q.2) (by simpa using e2)).2 _ fun i hi => by
            have := List.all_eq_true.mp ha i hi
            exact of_decide_eq_true this
        · exact (cG_ok (inBlk_ok k s H scope C cl fp) 9 (m := q.1) (vs := q.2) (by simpa using e2)).1
        · exact cIfs_ok gT (inBlk_ok k s H scope C cl fp) e3
        · exact gE _ _ _ false _ _ (inBlk_ok k s H scope C cl fp) e4
      · cases h
    · cases h
  · cases h
end
end Tb
end

section
set_option maxHeartbeats 8000000
namespace Tb
open PySem PySem.Spec L2
section
variable {rE : RE} {rT : RT} {c : Cfg} {X : Cx} {E : XK}
theorem find_mem {α : Type} {l : List α} {p : α → Bool} {a : α} (h : l.find? p = some a) : a ∈ l ∧ p a = true := ⟨List.mem_of_find?_eq_some h, List.find?_some h⟩
theorem kw_ne {rE : Expr → Option ME} {kw : Keyword} {kws : List Keyword} {mk : MA × List Str} (h : cKw rE (kw :: kws) = some mk) : mk.2 ≠ [] := by
  obtain ⟨nm, e, p⟩ := kw
  cases nm with
  | none => simp [cKw] at h
  | some n =>
    simp only [cKw] at h
    split at h
    · cases h
      simp
    · cases h
theorem cCall_ok (gE : GoodE rE) (k : CxOk c X E) {hp : Bool} {f : Expr} {args : List Expr} {kws : List Keyword} {pos : Pos} {m : ME} (hl : lineOk f pos = true) (h : cCall c rE hp f args kws = some m) : PE X (.Call f args kws pos) (tM X.K E m) := by
  obtain ⟨j, hr, hG⟩ := k.kk
  unfold cCall at h
  split at h
  · split at h
    · rename_i hz
      rw [Option.map_eq_some_iff] at h
      obtain ⟨sh, h1, rfl⟩ := h
      obtain ⟨h2, h3⟩ := find_mem h1
      simp only [Bool.and_eq_true, decide_eq_true_eq] at h3
      obtain ⟨⟨rfl, _⟩, h5⟩ := h3
      obtain ⟨fa, fd, ps, e1, e2, e3, G, b1, _⟩ := hG sh h2
      obtain ⟨dvs, ds, b3, b4, b5⟩ := b1 h5
      rw [← e1]
      exact me_call0 G k.gd hr (k.gl hz.2) e2 e3 b4 b3 b5 k.pass (pn1 hz.1)
    · cases h
  · split at h
    · rename_i hz
      split at h
      · rename_i sh h1
        rw [Option.map_eq_some_iff] at h
        obtain ⟨ma, e0, rfl⟩ := h
        obtain ⟨a1, a2⟩ := cAh_ok gE k e0
        rw [List.all_cons, Bool.and_eq_true] at a2
        obtain ⟨h2, h3⟩ := find_mem h1
        simp only [Bool.and_eq_true, decide_eq_true_eq] at h3
        obtain ⟨⟨rfl, _⟩, h5⟩ := h3
        obtain ⟨fa, fd, ps, e1, e2, e3, G, b1, _⟩ := hG sh h2
        obtain ⟨dvs, ds, b3, b4, b5⟩ := b1 h5
        rw [← e1]
        exact me_call G k.gd hr (k.gl hz.2) e2 e3 b4 b3 b5 k.pass a1 (pn1 hz.1) (star_cons a2.1) (star_any a2.2)
      · split at h
        · rename_i ma e0
          obtain ⟨a1, a2⟩ := cA_ok gE k e0
          rw [List.all_cons, Bool.and_eq_true] at a2
          split at h
          · rename_i hb
            rw [Option.map_eq_some_iff] at h
            obtain ⟨b, h1, rfl⟩ := h
            obtain ⟨h2, h3⟩ := find_mem h1
            have h4 : b.x = _ := of_decide_eq_true h3
            have bb := bTab_boot hp b h2
            have bc := bTab_ok (E := E) k hp b h2
            rw [h4] at bb
            unfold BI.v at bb bc
            split at bb
            · rename_i ht
              rw [if_pos ht] at bc
              exact me_callTy bc (k.gl hz.2) (k.blt _ hb) bb a1 (pn3 hz.1) (pn1 hz.1) (star_cons a2.1) (star_any a2.2)
            · rename_i ht
              rw [if_neg ht] at bc
              exact me_callB bc (k.gl hz.2) (k.blt _ hb) bb a1 (pn3 hz.1) (pn1 hz.1) (star_cons a2.1) (star_any a2.2)
          · cases h
        · cases h
    · cases h
  · split at h
    · rename_i hz
      split at h
      · rename_i ma mk e0 e9
        obtain ⟨a1, a2⟩ := cA_ok gE k e0
        rw [List.all_cons, Bool.and_eq_true] at a2
        obtain ⟨k1, k2⟩ := cKw_ok gE k e9
        obtain ⟨k3, k4, k5⟩ := k2 pos
        split at h
        · rename_i sh h1
          cases h
          obtain ⟨h2, h3⟩ := find_mem h1
          simp only [Bool.and_eq_true, decide_eq_true_eq] at h3
          obtain ⟨⟨rfl, h4⟩, h5⟩ := h3
          obtain ⟨fa, fd, ps, e1, e2, e3, G, _, b1⟩ := hG sh h2
          have hne : sh.ks ≠ [] := by
            rw [h5]
            exact kw_ne e9
          obtain ⟨g, gV, b3, b4⟩ := b1 hne
          rw [← e1]
          exact me_callK G k.gd hr (k.gl hz.2) e2 e3 b3 b4 k.pass a1 k1 k3 (by rw [k4, h5]) (pn1 hz.1) (star_cons a2.1) (by rw [star_cons a2.1, Bool.or_eq_false_iff]; exact ⟨by
            have := star_any (pos := pos) (env := X.env) a2.2
            simpa [backTo] using this, k5⟩)
        · split at h
          · rename_i hb
            rw [Option.map_eq_some_iff] at h
            obtain ⟨b, h1, rfl⟩ := h
            obtain ⟨h2, h3⟩ := find_mem h1
            simp only [Bool.and_eq_true, decide_eq_true_eq] at h3
            obtain ⟨b1, b2⟩ := kTab_ok (E := E) k b h2
            rw [h3.1] at b1
            rw [h3.2] at b2
            have sa := star_any (pos := pos) (env := X.env) a2.2
            refine me_callBK b2 (k.gl hz.2) (k.blt _ hb) b1 a1 k1 (pn3 hz.1) (pn1 hz.1) (by rw [star_cons a2.1]; rfl) ?_ k3 k5 k4
            rw [star_cons a2.1]
            simpa [backTo] using sa
          · cases h
      · cases h
    · cases h
  · split at h
    · rename_i hz
      split at h
      · rename_i mk e9
        obtain ⟨k1, k2⟩ := cKw_ok gE k e9
        obtain ⟨k3, k4, k5⟩ := k2 pos
        rw [Option.map_eq_some_iff] at h
        obtain ⟨sh, h1, rfl⟩ := h
        obtain ⟨h2, h3⟩ := find_mem h1
        simp only [Bool.and_eq_true, decide_eq_true_eq] at h3
        obtain ⟨⟨rfl, h4⟩, h5⟩ := h3
        obtain ⟨fa, fd, ps, e1, e2, e3, G, _, b1⟩ := hG sh h2
        have hne : sh.ks ≠ [] := by
          rw [h5]
          exact kw_ne e9
        obtain ⟨g, gV, b3, b4⟩ := b1 hne
        rw [h4] at b3
        rw [← e1]
        exact me_callK0 G k.gd hr (k.gl hz.2) e2 e3 b3 b4 k.pass k1 k3 (by rw [k4, h5]) (pn1 hz.1) (by rw [Bool.or_eq_false_iff]; exact ⟨rfl, k5⟩)
      · cases h
    · cases h
  · split at h
    · rename_i hz
      split at h
      · rename_i mo ma md e1 e2 e3
        cases h
        obtain ⟨a1, a2⟩ := cA_ok gE k e2
        have a3 := a2
        rw [List.all_cons, Bool.and_eq_true] at a2
        obtain ⟨m1, m2⟩ := find_mem e3
        have m3 : md.name = _ := of_decide_eq_true m2
        obtain ⟨p1, p2, p3, p4⟩ := mTab_ok (X := X) (E := E) md m1
        rw [m3] at p2
        refine me_meth p1 p2 p3 p4 (gE c X E false _ _ k e1) a1 (base_of hz.1) ?_ hl (star_cons a2.1) (star_any a2.2)
        rw [star_all a3]
        simp only [keywordEach, backToKw, List.map_nil, List.all_nil, Bool.and_self, Bool.true_and, decide_eq_true_eq, List.length_nil, List.isEmpty_nil, if_true, Nat.add_zero]
        exact hz.2
      · cases h
    · cases h
  · cases h
theorem cCmp_ok (gE : GoodE rE) (k : CxOk c X E) {a : Expr} {ops : List CmpOp} {bs : List Expr} {pos : Pos} {m : ME} (h : cCmp c rE a ops bs = some m) : PE X (.Compare a ops bs pos) (tM X.K E m) ∧ PT X (.Compare a ops bs pos) (tMT X.K E fun s h => asB (m s h)) := by
  unfold cCmp at h
  split at h
  · split at h
    · rename_i hs
      split at h
      · rename_i f x y e1 e2 e3
        cases h
        have g1 := gE c X E false _ _ k e2
        have g2 := gE c X E false _ _ k e3
        exact ⟨me_cmp (cmpTab_ok k e1) g1 g2 (marks_of hs), mt_cmp (cmpTab_ok k e1) g1 g2 (marks_of hs)⟩
      · cases h
    · cases h
  · split at h
    · rename_i hs
      split at h
      · rename_i f g x y z e1 e2 e3 e4 e5
        cases h
        have g1 := gE c X E false _ _ k e3
        have g2 := gE c X E false _ _ k e4
        have g3 := gE c X E false _ _ k e5
        exact ⟨me_chain (cmpTab_ok k e1) (cmpTab_ok k e2) g1 g2 g3 (marks_of hs), mt_chain (cmpTab_ok k e1) (cmpTab_ok k e2) g1 g2 g3 (marks_of hs)⟩
      · cases h
    · cases h
  · cases h
theorem cBoolV_ok (gE : GoodE rE) (k : CxOk c X E) {op : BoolOp} {pos : Pos} : ∀ {es : List Expr} {m : ME}, cBoolV (rE c false) op es = some m → PE X (.BoolOp op es pos) (tM X.K E m)
  | [], m, h => by cases h
  | [a], m, h => me_one (gE c X E false _ _ k h)
  | a :: b :: r, m, h => by
    simp only [cBoolV] at h
    split at h
    · rename_i x y e1 e2
      have g1 := gE c X E false _ _ k e1
      have g2 := cBoolV_ok gE k (pos := pos) e2
      cases op <;> cases h
      · exact me_and g1 g2
      · exact me_or g1 g2
    · cases h
theorem cBoolT_ok (gT : GoodT rT) (k : CxOk c X E) {op : BoolOp} {pos : Pos} : ∀ {es : List Expr} {m : MT}, cBoolT (rT c) op es = some m → PW X (.BoolOp op es pos) (tMT X.K E m)
  | [], m, h => by cases h
  | [a], m, h => by
    cases op with
    | And => exact pw_and1 (gT c X E _ _ k h)
    | Or => exact pw_or1 (gT c X E _ _ k h)
  | a :: b :: r, m, h => by
    simp only [cBoolT] at h
    split at h
    · rename_i x y e1 e2
      have g1 := gT c X E _ _ k e1
      have g2 := cBoolT_ok gT k (pos := pos) e2
      cases op <;> cases h
      · exact mw_and g1 g2
      · exact mw_or g1 g2
    · cases h
theorem cPart_ok (gE : GoodE rE) (k : CxOk c X E) {e : Option Expr} {m : MO'} (h : cPart (rE c false) e = some m) : PO X e (tMO X.K E m) := by
  unfold cPart at h
  split at h
  · cases h; exact mo_none
  · rw [Option.map_eq_some_iff] at h
    obtain ⟨x, e1, rfl⟩ := h
    exact mo_some (gE c X E false _ _ k e1)
theorem cSet_ok (gE : GoodE rE) (k : CxOk c X E) {e : Expr} {m : ME} (h : cSet c rE e = some m) : PE X e (tM X.K E m) := by
  unfold cSet at h
  split at h
  · split at h
    · rename_i hz
      obtain ⟨rfl, h1, h2, h3⟩ := hz
      split at h
      · rename_i hy
        obtain ⟨rfl, h4, h5⟩ := hy
        rw [Option.map_eq_some_iff] at h
        obtain ⟨ma, e1, rfl⟩ := h
        exact me_sset k.calm (k.gl h4) (k.blt _ h5) (k.gl h1) (k.blt _ h2) (gE c X E false _ _ k e1) (star_cons h3)
      · split at h
        · rename_i hy
          obtain ⟨rfl, h4, h5⟩ := hy
          rw [Option.map_eq_some_iff] at h
          obtain ⟨ma, e1, rfl⟩ := h
          exact me_lset k.calm (k.gl h4) (k.blt _ h5) (k.gl h1) (k.blt _ h2) (gE c X E false _ _ k e1) (star_cons h3)
        · cases h
    · cases h
  · cases h
theorem stepE_ok (gE : GoodE rE) (gT : GoodT rT) : GoodE (stepE rE rT) := by
  intro c X E hp e m k h
  unfold stepE at h
  split at h
  · exact cName_ok k h
  · exact cConst_ok h
  · split at h
    · rename_i f x y e1 e2 e3
      cases h
      exact me_op (binTab_ok e1) (gE c X E false _ _ k e2) (gE c X E false _ _ k e3)
    · cases h
  · rw [Option.map_eq_some_iff] at h
    obtain ⟨x, e1, rfl⟩ := h
    exact me_neg (gE c X E false _ _ k e1)
  · rw [Option.map_eq_some_iff] at h
    obtain ⟨x, e1, rfl⟩ := h
    exact me_not (gE c X E false _ _ k e1)
  · exact cBoolV_ok gE k h
  · exact (cCmp_ok gE k h).1
  · split at h
    · rename_i mt x y e1 e2 e3
      cases h
      exact me_if (gT c X E _ _ k e1) (gE c X E hp _ _ k e2) (gE c X E hp _ _ k e3)
    · cases h
  · rw [Option.map_eq_some_iff] at h
    obtain ⟨ma, e1, rfl⟩ := h
    exact me_tup (cA_ok gE k e1).1
  · rw [Option.map_eq_some_iff] at h
    obtain ⟨ma, e1, rfl⟩ := h
    cases hp with
    | true => exact me_lstH (cA_ok gE k e1).1
    | false => exact me_lst (cA_ok gE k e1).1
  · split at h
    · rename_i x l u e1 e2 e3
      cases h
      cases hp with
      | true => exact me_cut sr_cutH (gE c X E false _ _ k e1) (cPart_ok gE k e2) (cPart_ok gE k e3)
      | false => exact me_cut sr_cut (gE c X E false _ _ k e1) (cPart_ok gE k e2) (cPart_ok gE k e3)
    · cases h
  · rw [Option.map_eq_some_iff] at h
    obtain ⟨x, e1, rfl⟩ := h
    exact me_rev (gE c X E false _ _ k e1)
  · split at h
    · rename_i hs
      split at h
      · rename_i x y e1 e2
        cases h
        exact me_ix (gE c X E false _ _ k e1) (gE c X E false _ _ k e2) (plainIx_of hs)
      · cases h
    · cases h
  · split at h
    · rename_i ha
      subst ha
      rw [Option.map_eq_some_iff] at h
      obtain ⟨p, e1, rfl⟩ := h
      obtain ⟨h1, h2, h3, h4, h5, h6, h7⟩ := cComp_ok gE gT k e1
      cases hp with
      | true => exact me_lc k.calm k.nd' h1 h2 h3 fin_h h4 h5 h6 (folded_of h7)
      | false => exact me_lc k.calm k.nd' h1 h2 h3 fin_l h4 h5 h6 (folded_of h7)
    · cases h
  · split at h
    · rename_i m' e1
      cases h
      exact cSet_ok gE k e1
    · split at h
      · rename_i m' e1
        cases h
        exact cSortR_ok (fun m a h => gE c X E false _ _ k h) k e1
      · split at h
        · rename_i hl
          exact cCall_ok gE k hl h
        · cases h
  · cases h
theorem stepT_ok (gE : GoodE rE) (gT : GoodT rT) : GoodT (stepT rE rT) := by
  intro c X E e m k h
  unfold stepT at h
  split at h
  · rw [Option.map_eq_some_iff] at h
    obtain ⟨x, e1, rfl⟩ := h
    exact (cCmp_ok gE k e1).2
  · exact PW.pt (cBoolT_ok gT k h)
  · rw [Option.map_eq_some_iff] at h
    obtain ⟨x, e1, rfl⟩ := h
    exact mt_not (gT c X E _ _ k e1)
  · split at h
    · rename_i hp
      rw [Option.map_eq_some_iff] at h
      obtain ⟨x, e1, rfl⟩ := h
      exact mt_truth (gE c X E false _ _ k e1) (test_of hp)
    · cases h
theorem comp_ok : ∀ n, GoodE (comp n).1 ∧ GoodT (comp n).2
  | 0 => ⟨fun c X E hp e m k h => (nomatch h), fun c X E e m k h => (nomatch h)⟩
  | n + 1 => ⟨stepE_ok (comp_ok n).1 (comp_ok n).2, stepT_ok (comp_ok n).1 (comp_ok n).2⟩
end
end Tb
end

section
set_option maxHeartbeats 4000000
namespace Tb
open PySem PySem.Spec L2
/-! ## a tuple of names handed back: the lists among them are let go -/
def frzT : List D → MH → Option (List D × MH)
  | [], h => some ([], h)
  | .ref n :: ds, h => (match h.get n with
    | some (.lst xs) => (frzT ds (h.drop n)).map fun p => (.lst xs :: p.1, p.2)
    | none => none)
  | d :: ds, h => (frzT ds h).map fun p => (d :: p.1, p.2)
def mRetT (ma : MA) : MS := fun s h => (ma s h).toS fun ds h1 => if ds.length ≤ sizeLine then (match frzT ds h1 with
  | some p => .ret (.tup p.1) p.2
  | none => .bad) else .bad
theorem frz_reps {K : PySem.W.Frag} : ∀ {ds : List D} {vs : List V} {w : W3} {p : List D × MH}, Ok K w → Reps K w ds vs → frzT ds w.h = some p → ∃ g : Nat → Option MO, p.2 = ⟨g, w.h.next⟩ ∧ (∀ n o, g n = some o → w.h.get n = some o) ∧ Reps K (w.less g) p.1 vs
  | [], vs, w, p, k, r, e => by
    simp only [frzT, Option.some.injEq] at e
    subst e
    refine ⟨w.h.get, rfl, fun n o h => h, ?_⟩
    rw [r.unnil]
    exact Reps.nil
  | d :: ds, vs, w, p, k, r, e => by
    obtain ⟨u, us, rfl, r1, r2⟩ := r.uncons
    have plain : (frzT ds w.h).map (fun p => (d :: p.1, p.2)) = some p → ∃ g : Nat → Option MO, p.2 = ⟨g, w.h.next⟩ ∧ (∀ n o, g n = some o → w.h.get n = some o) ∧ Reps K (w.less g) p.1 (u :: us) := fun e => by
      rw [Option.map_eq_some_iff] at e
      obtain ⟨q, e1, rfl⟩ := e
      obtain ⟨g, g1, g2, g3⟩ := frz_reps k r2 e1
      exact ⟨g, g1, g2, Reps.cons (r1.ext (Ext.less g2)) g3⟩
    cases d with
    | ref n =>
      simp only [frzT] at e
      split at e
      · rename_i xs hn
        rw [Option.map_eq_some_iff] at e
        obtain ⟨q, e1, rfl⟩ := e
        have hg : ∀ a o, (w.h.drop n).get a = some o → w.h.get a = some o := fun a o z => by
          unfold MH.drop at z
          simp only at z
          split at z
          · cases z
          · exact z
        have k2 : Ok K (w.less (w.h.drop n).get) := k.less hg
        obtain ⟨g, g1, g2, g3⟩ := frz_reps (w := w.less (w.h.drop n).get) k2 (r2.ext (Ext.less hg)) e1
        have g2' : ∀ m o, g m = some o → w.h.get m = some o := fun m o z => hg m o (g2 m o z)
        obtain ⟨vs', h1, h2⟩ := (k.dom n _ hn).2
        simp only [Rep] at r1
        have r0 : Rep K (w.less (w.h.drop n).get) (.lst xs) u := by
          simp only [Rep]
          refine ⟨_, vs', r1.2, ⟨h1, fun z => ?_⟩, h2.ext (Ext.less hg)⟩
          rcases z with ⟨a, o, z1, z2⟩ | z
          · have z3 := hg a o z1
            have e : a = n := k.inj a n _ _ z3 hn z2
            have z4 : (if a = n then none else w.h.get a) = some o := z1
            rw [if_pos e] at z4; cases z4
          · exact k.barO n _ hn z
        exact ⟨g, g1, g2', Reps.cons (r0.ext (Ext.less g2)) g3⟩
      · cases e
    | _ => exact plain e
section
variable {X : Cx} {E : XK} {es : List Expr} {ma : MA} {pos p : Pos} {j : Nat}
theorem ms_retT (h : PA X es (tMA X.K E ma)) : PS X (.Return (some (.Tuple es j p)) pos) (tMS X.K E (mRetT ma)) := by
  refine ps_imp (ps_ret (me_tup h)) fun D σ H hq => ?_
  obtain ⟨w, s, e, k, r, q⟩ := hq
  subst e
  refine tM_at k r ?_
  unfold mRetT at q
  unfold mTup
  cases ea : ma s w.h with
  | ok ds h1 =>
    rw [ea] at q
    simp only [R.toS, R.bind] at q ⊢
    split at q
    · rename_i hl
      rw [if_pos hl]
      split at q
      · rename_i pp e1
        intro w1 v eh x1 k1 r1
        simp only [Rep] at r1
        obtain ⟨a, vs, rfl, t1, t2⟩ := r1
        rw [← eh] at e1
        obtain ⟨g, g1, g2, g3⟩ := frz_reps k1 t2 e1
        refine q (w1.less g) (.ref a) g1.symm (x1.trans (Ext.less g2)) (k1.less g2) ?_
        simp only [Rep]
        exact ⟨a, vs, rfl, t1.ext0 (Ext.less g2).to0, g3⟩
      · exact q.elim
    · exact q.elim
  | exc x h1 =>
    rw [ea] at q
    exact q
  | bad =>
    rw [ea] at q
    exact q
end
end Tb
end

section
set_option maxHeartbeats 8000000
namespace Tb
open PySem PySem.Spec L2
/-! ### statements -/
/-- a list that the def has made is handed back: nobody holds it any more -/
def mRetF (m : ME) : MS := fun s h => (m s h).toS fun d h1 => match d with
  | .ref n => match h1.get n with
    | some (.lst xs) => .ret (.lst xs) (h1.drop n)
    | none => .bad
  | d => .ret d h1
def mBad : MS := fun _ _ => .bad
section
variable {X : Cx} {E : XK} {e : Expr} {m : ME} {pos : Pos}
theorem ms_bad {st : Stmt} : PS X st (tMS X.K E mBad) := by
  refine ps_imp ps_never fun D σ H hq => ?_
  obtain ⟨w, s, e, k, r, q⟩ := hq
  exact q
theorem ms_retF (h : PE X e (tM X.K E m)) : PS X (.Return (some e) pos) (tMS X.K E (mRetF m)) := by
  refine ps_imp (ps_ret h) fun D σ H hq => ?_
  obtain ⟨w, s, e, k, r, q⟩ := hq
  subst e
  refine tM_at k r ((PostW.toS (Rel := RepD X.K) q).imp fun d w1 v x1 k1 p1 q1 => ?_)
  split at q1
  · split at q1
    · rename_i n _ xs hn
      have hg : ∀ a o, (w1.h.drop n).get a = some o → w1.h.get a = some o := fun a o z => by
        unfold MH.drop at z
        simp only at z
        split at z
        · cases z
        · exact z
      obtain ⟨vs, h1, h2⟩ := (k1.dom n _ hn).2
      have p0 : Rep X.K w1 (.ref n) v := p1
      simp only [Rep] at p0
      refine q1 (w1.less (w1.h.drop n).get) v rfl (Ext.less hg) (k1.less hg) ?_
      simp only [Rep]
      refine ⟨_, vs, p0.2, ⟨h1, fun z => ?_⟩, h2.ext (Ext.less hg)⟩
      rcases z with ⟨a, o, z1, z2⟩ | z
      · have z3 := hg a o z1
        have e : a = n := k1.inj a n _ _ z3 hn z2
        have z4 : (if a = n then none else w1.h.get a) = some o := z1
        rw [if_pos e] at z4; cases z4
      · exact k1.barO n _ hn z
    · exact q1.elim
  · exact q1 w1 v rfl (Ext.refl w1) k1 p1
end
theorem swaps_lc {env : Env} {elt : Expr} {gs : List Comprehension} {scope : Scope} {vp tp : Pos} {t : Str} {l : Nat} {kd : Option NameKind} (hb : env.blockKind = .function) (hk : env.kindOf t = kd) :
    swapsWith (.ListComp elt gs scope vp) (some (.Name t tp)) l env = pure ((kd == some .local) && (tp.line == vp.line) && !(scope.names.any fun (n, k) => n == t && (k == .local || k == .cell))) := by
  unfold swapsWith
  simp only [hb, hk, Expr.pos]
  rfl
theorem swapped_not {ts : List Expr} {k : Nat} {p : Pos} {e : Expr} {env : Env} (h : notTuple e = true) : swappedStores [.Tuple ts k p] e env = pure none := by
  cases e <;> first | rfl | cases h
theorem swapped_len {ts vs : List Expr} {k k2 : Nat} {p p2 : Pos} {env : Env} (h2 : ts.length ≠ 2) (h3 : ts.length ≠ 3) : swappedStores [.Tuple ts k p] (.Tuple vs k2 p2) env = pure none := by
  have e1 : (ts.length == 2) = false := beq_eq_false_iff_ne.mpr h2
  have e2 : (ts.length == 3) = false := beq_eq_false_iff_ne.mpr h3
  unfold swappedStores
  simp only [e1, e2, Bool.or_self, Bool.not_false, Bool.true_or, if_true]
def isCell (c : Cfg) : Expr → Bool
  | .Name x _ => kindB c x == some .cell
  | _ => false
theorem swapped_cell {ts vs : List Expr} {k k2 : Nat} {p p2 : Pos} {env : Env} {t : Expr} {x : Str} {q : Pos} (ht : t ∈ ts) (ex : t = .Name x q) (hx : env.kindOf x = some .cell) : swappedStores [.Tuple ts k p] (.Tuple vs k2 p2) env = pure none := by
  subst ex
  unfold swappedStores
  simp only
  split
  · rfl
  · split
    · rfl
    · split
      · rfl
      · rename_i h3
        exfalso
        apply h3
        rw [Bool.or_eq_true]
        left
        rw [bne_iff_ne]
        intro z
        have := List.filterMap_length_eq_length.mp z (.Name x q) ht
        simp [hx] at this
theorem sole_tup {e : Expr} {l : Nat} {env : Env} {es : List Expr} {k : Nat} {p : Pos} : swapsWithSole [.Tuple es k p] e l env = pure false := by
  cases e <;> rfl
theorem sole_sub {e a b : Expr} {l : Nat} {env : Env} {p : Pos} : swapsWithSole [.Subscript a b p] e l env = pure false := by
  cases e <;> rfl
theorem swapped_sub {o i e : Expr} {p : Pos} {env : Env} : swappedStores [.Subscript o i p] e env = pure none := by
  cases e <;> rfl
/-- a, b (, c) = x, y (, z) : plain names and what they become -/
noncomputable def cPar (c : Cfg) (rE : RE) : List Expr → List Expr → Option MS
  | [.Name x px, .Name y py], [a, b] =>
    if plainName x = true ∧ plainName y = true ∧ kindB c x = some .local ∧ kindB c y = some .local ∧ py.line = px.line ∧ x ≠ y ∧ notStar a = true ∧ notStar b = true ∧ [a, b].all (foldedForSure 8) = false ∧ [a, b].all (constantsAlone 8) = false then
      match slotOf c.N x, slotOf c.N y, rE c (decide (x ∈ c.held)) a, rE c (decide (y ∈ c.held)) b with
      | some i, some j, some ma, some mb => if i ≠ j then some (mPar2 i j ma mb) else none
      | _, _, _, _ => none
    else none
  | [.Name x px, .Name y py, .Name z pz], [a, b, d] =>
    if kindB c x = some .local ∧ kindB c y = some .local ∧ kindB c z = some .local ∧ py.line = px.line ∧ pz.line = px.line ∧ x ≠ y ∧ x ≠ z ∧ y ≠ z ∧ notStar a = true ∧ notStar b = true ∧ notStar d = true ∧ [a, b, d].all (foldedForSure 8) = false ∧ [a, b, d].all (constantsAlone 8) = false then
      match slotOf c.N x, slotOf c.N y, slotOf c.N z, rE c (decide (x ∈ c.held)) a, rE c (decide (y ∈ c.held)) b, rE c (decide (z ∈ c.held)) d with
      | some i, some j, some l, some ma, some mb, some md => if i ≠ j ∧ i ≠ l ∧ j ≠ l then some (mPar3 i j l ma mb md) else none
      | _, _, _, _, _, _ => none
    else none
  | _, _ => none
noncomputable def cAsg (c : Cfg) (rE : RE) (rT : RT) : Expr → Expr → Option MS
  | .Name y tp, .ListComp elt [⟨tg, iter, ifs, as⟩] scope vp =>
    if as = 0 ∧ plainName y = true ∧ (kindB c y = some .local ∨ kindB c y = some .cell) then
      match slotOf c.N y, cComp c rE rT elt tg iter ifs scope with
      | some i, some p => some (mSet i (p.m (if decide (y ∈ c.held) = true then finH else finL)))
      | _, _ => none
    else none
  | .Name y tp, e => if notComp e = true ∧ plainName y = true ∧ (kindB c y = some .local ∨ kindB c y = some .cell) then
      match slotOf c.N y, rE c (decide (y ∈ c.held)) e with
      | some i, some m => some (mSet i m)
      | _, _ => none
    else none
  | .Tuple ts k tp, .Tuple vs k2 vp => if (ts.length = 2 ∨ ts.length = 3) ∧ ts.any (isCell c) = false then cPar c rE ts vs else
      match cG c 9 (.Tuple ts k tp), rE c false (.Tuple vs k2 vp) with
      | some p, some m => some (mUnpack p.1 m)
      | _, _ => none
  | .Tuple ts k tp, e => if notTuple e = true then match cG c 9 (.Tuple ts k tp), rE c false e with
      | some p, some m => some (mUnpack p.1 m)
      | _, _ => none
    else none
  | .Subscript o i _, e => if notSlice i = true then match rE c false o, rE c false i, rE c false e with
      | some mo, some mi, some me => some (mSetSub setIx mo mi me)
      | _, _, _ => none
    else none
  | _, _ => none
noncomputable def cAug (c : Cfg) (rE : RE) (op : Operator) : Expr → Expr → Option MS
  | .Name x _, e => if plainName x = true ∧ (kindB c x = some .local ∨ kindB c x = some .cell) then
      match slotOf c.N x, augTab op, rE c false e with
      | some i, some f, some m => some (mAug i f m)
      | _, _, _ => none
    else none
  | .Subscript o i _, e => if notSlice i = true then match augTab op, rE c false o, rE c false i, rE c false e with
      | some f, some mo, some mi, some me => some (mAugSub getIxL f setIx mo mi me)
      | _, _, _, _ => none
    else none
  | _, _ => none
def heldN (c : Cfg) : Expr → Bool
  | .Name x _ => decide (x ∈ c.held)
  | _ => false
def nameN : Expr → Bool
  | .Name _ _ => true
  | _ => false
/-- return (a, b, ..) of names, lists that the def changes among them -/
noncomputable def cRetT (c : Cfg) (rE : RE) : Expr → Option MS
  | .Tuple es _ _ => if c.retH = false ∧ es.any (heldN c) = true ∧ es.all nameN = true then (cA (rE c false) es).map mRetT else none
  | _ => none
/-! a statement that has no mirror tells nothing -/
mutual
noncomputable def cS (c : Cfg) (rE : RE) (rT : RT) : Nat → Stmt → Option MS
  | 0, _ => none
  | _ + 1, .Return none _ => some mRetN
  | _ + 1, .Return (some e) _ => match cRetT c rE e with
    | some m => some m
    | none => (rE c c.retH e).map (if c.retH = true then mRet else mRetF)
  | _ + 1, .Assign [t] e _ => cAsg c rE rT t e
  | _ + 1, .AugAssign t op e _ => cAug c rE op t e
  | n + 1, .If t a b _ => match rT c t, cSs c rE rT n a, cSs c rE rT n b with
    | some mt, some ma, some mb => some (mIfS mt ma mb)
    | _, _, _ => none
  | n + 1, .For tg iter body [] _ => if notSet iter = true then match cIter c rE tg iter, cG c 9 tg, cSs c rE rT n body with
      | some mi, some p, some mb => some (mFor mi p.1 mb)
      | _, _, _ => none
    else none
  | n + 1, .While t body [] _ => match rT c t, cSs c rE rT n body with
    | some mt, some mb => some (mWhile mt mb)
    | _, _ => none
  | _ + 1, .Expr e _ => if notComp e = true then (rE c false e).map mDo else none
  | _ + 1, .Raise _ _ _ => some mBad
  | _ + 1, .Pass _ => some mSkip
  | _ + 1, .Break _ => some mBreak
  | _ + 1, .Continue _ => some mCont
  | _ + 1, _ => none
noncomputable def cSs (c : Cfg) (rE : RE) (rT : RT) : Nat → List Stmt → Option MS
  | 0, _ => none
  | _ + 1, [] => some mSkip
  | n + 1, [st] => match cS c rE rT n st with
    | some a => some a
    | none => some mBad
  | n + 1, st :: r => match cS c rE rT n st, cSs c rE rT n r with
    | some a, some b => some (mSeq a b)
    | none, some b => some (mSeq mBad b)
    | _, _ => none
end
section
variable {rE : RE} {rT : RT} {c : Cfg} {X : Cx} {E : XK}
theorem cRetT_ok (gE : GoodE rE) (k : CxOk c X E) {e : Expr} {m : MS} {pos : Pos} (h : cRetT c rE e = some m) : PS X (.Return (some e) pos) (tMS X.K E m) := by
  unfold cRetT at h
  split at h
  · split at h
    · rw [Option.map_eq_some_iff] at h
      obtain ⟨ma, e1, rfl⟩ := h
      exact ms_retT (cA_ok gE k e1).1
    · cases h
  · cases h
theorem not_star {a : Expr} (h : notStar a = true) : ∀ u p, a ≠ .Starred u p := fun u p e => by subst e; cases h
theorem CxOk.kind (k : CxOk c X E) {x : Str} {kd : Option NameKind} (h : kindB c x = kd) : X.env.scope.names.lookup x = kd := by rw [k.sc]; exact h
theorem cPar_ok (gE : GoodE rE) (k : CxOk c X E) (hb : c.blk = false) {ts vs : List Expr} {k1 k2 : Nat} {p1 p2 pos : Pos} {m : MS} (h : cPar c rE ts vs = some m) : PS X (.Assign [.Tuple ts k1 p1] (.Tuple vs k2 p2) pos) (tMS X.K E m) := by
  have hf := (k.fn hb).2.1
  unfold cPar at h
  split at h
  · split at h
    · rename_i hz
      obtain ⟨_, _, lx, ly, ll, ne, na, nb, hf1, hf2⟩ := hz
      split at h
      · rename_i i j ma mb e1 e2 e3 e4
        split at h
        · rename_i hij
          cases h
          exact ms_par2 k.calm k.nd' (k.slot e1) (k.slot e2) hij (k.kind lx) (k.kind ly) (gE c X E _ _ _ k e3) (gE c X E _ _ _ k e4) (star_cons na) (star_cons nb)
            (swapped2 hf (k.kind lx) (k.kind ly) ll ne (not_star na) (not_star nb) hf1 hf2)
        · cases h
      · cases h
    · cases h
  · split at h
    · rename_i hz
      obtain ⟨lx, ly, lz, ll, ll2, n1, n2, n3, na, nb, nd, hf1, hf2⟩ := hz
      split at h
      · rename_i i j l ma mb md e1 e2 e3 e4 e5 e6
        split at h
        · rename_i hij
          cases h
          exact ms_par3 k.calm k.nd' (k.slot e1) (k.slot e2) (k.slot e3) hij.1 hij.2.1 hij.2.2 (k.kind lx) (k.kind ly) (k.kind lz) (gE c X E _ _ _ k e4) (gE c X E _ _ _ k e5) (gE c X E _ _ _ k e6) (star_cons na) (star_cons nb) (star_cons nd)
            (swapped3 hf (k.kind lx) (k.kind ly) (k.kind lz) ll ll2 n1 n2 n3 (not_star na) (not_star nb) (not_star nd) hf1 hf2)
        · cases h
      · cases h
    · cases h
  · cases h
theorem CxOk.store (k : CxOk c X E) (hb : c.blk = false) {x : Str} (h : kindB c x = some .local ∨ kindB c x = some .cell) : L2.Loc X.env.scope x ∧ (X.fn x = true ∨ X.env.scope.names.lookup x = some .local) := k.loc (h.imp id fun z => ⟨.inl hb, z⟩)
theorem assign_sub {o i : Expr} {pos : Pos} (h : notSlice i = true) : ∀ v, assign (.Subscript o i pos) X.env v = (do
      let ov ← holding [v] (eval o X.env)
      let iv ← holding [v, ov] (eval i X.env)
      standAt pos
      holding [v, ov, iv] (setItem ov iv v)
      release [v, ov, iv] []) := by
  intro v
  cases i <;> first | rfl | cases h
theorem aug_sub {i : Expr} (h : notSlice i = true) : ∀ ov iv new, augStore i ov iv new = (do holding [new, ov, iv] (setItem ov iv new); release [new, ov, iv] []; pure .next) := by
  intro ov iv new
  cases i <;> first | rfl | cases h
theorem cAsg_ok (gE : GoodE rE) (gT : GoodT rT) (k : CxOk c X E) (hb : c.blk = false) {t e : Expr} {pos : Pos} {m : MS} (h : cAsg c rE rT t e = some m) : PS X (.Assign [t] e pos) (tMS X.K E m) := by
  have hf := (k.fn hb).2.1
  unfold cAsg at h
  split at h
  · split at h
    · rename_i hz
      obtain ⟨rfl, hp, hk⟩ := hz
      split at h
      · rename_i i p e1 e2
        cases h
        obtain ⟨h1, h2, h3, h4, h5, h6, h7⟩ := cComp_ok gE gT k e2
        obtain ⟨s1, s2⟩ := k.store hb hk
        rename_i y tp elt tg iter ifs scope vp _ _
        have fk : FinOk X.K (if decide (y ∈ c.held) = true then finH else finL) := by
          split
          · exact fin_h
          · exact fin_l
        have hs := swaps_lc (env := X.env) (elt := elt) (gs := [⟨tg, iter, ifs, 0⟩]) (scope := scope) (vp := vp) (tp := tp) (t := y) (l := pos.line) (kd := kindB c y) hf (k.kind rfl)
        cases hc : (kindB c y == some .local) && (tp.line == vp.line) && !(scope.names.any fun (n, k) => n == y && (k == .local || k == .cell)) with
        | true =>
          rw [hc] at hs
          simp only [Bool.and_eq_true, beq_iff_eq] at hc
          exact ps_imp (ms_setLc k.calm k.nd' (k.slot e1) (k.kind hc.1.1) hs h1 h2 h3 fk h4 h5 h6 (folded_of h7)) fun _ _ _ z => tAsg_of z
        | false =>
          rw [hc] at hs
          exact ms_set k.nd' (k.slot e1) s1 (me_lc k.calm k.nd' h1 h2 h3 fk h4 h5 h6 (folded_of h7)) hs s2
      · cases h
    · cases h
  · split at h
    · rename_i hz
      obtain ⟨hn, hp, hk⟩ := hz
      split at h
      · rename_i i m e1 e2
        cases h
        obtain ⟨s1, s2⟩ := k.store hb hk
        exact ms_set k.nd' (k.slot e1) s1 (gE c X E _ _ _ k e2) (swaps_some hn) s2
      · cases h
    · cases h
  · split at h
    · exact cPar_ok gE k hb h
    · rename_i hz
      split at h
      · rename_i p m e1 e2
        cases h
        obtain ⟨g1, g2⟩ := cG_ok k 9 (m := p.1) (vs := p.2) (by simpa using e1)
        refine ms_unpack (gE c X E _ _ _ k e2) g1 (g2 p.2 fun _ z => z) sole_tup ?_ rfl
        cases ha : List.any _ (isCell c) with
        | false => exact swapped_len (fun z => hz ⟨.inl z, ha⟩) fun z => hz ⟨.inr z, ha⟩
        | true =>
          obtain ⟨t, t1, t2⟩ := List.any_eq_true.mp ha
          cases t with
          | Name x q => exact swapped_cell t1 rfl (k.kind (beq_iff_eq.mp t2))
          | _ => cases t2
      · cases h
  · split at h
    · rename_i hz
      split at h
      · rename_i p m e1 e2
        cases h
        obtain ⟨g1, g2⟩ := cG_ok k 9 (m := p.1) (vs := p.2) (by simpa using e1)
        exact ms_unpack (gE c X E _ _ _ k e2) g1 (g2 p.2 fun _ z => z) sole_tup (swapped_not hz) rfl
      · cases h
    · cases h
  · split at h
    · rename_i hz
      split at h
      · rename_i mo mi me e1 e2 e3
        cases h
        exact ms_setSub sr_set (gE c X E _ _ _ k e3) (gE c X E _ _ _ k e1) (gE c X E _ _ _ k e2) (assign_sub hz) sole_sub swapped_sub rfl
      · cases h
    · cases h
  · cases h
theorem cAug_ok (gE : GoodE rE) (k : CxOk c X E) (hb : c.blk = false) {t e : Expr} {op : Operator} {pos : Pos} {m : MS} (h : cAug c rE op t e = some m) : PS X (.AugAssign t op e pos) (tMS X.K E m) := by
  unfold cAug at h
  split at h
  · split at h
    · rename_i hz
      split at h
      · rename_i i f m e1 e2 e3
        cases h
        obtain ⟨s1, s2⟩ := k.store hb hz.2
        exact ms_aug k.nd' (k.slot e1) s1 (gE c X E _ _ _ k e3) (augTab_ok e2) s2
      · cases h
    · cases h
  · split at h
    · rename_i hz
      split at h
      · rename_i f mo mi me e1 e2 e3 e4
        cases h
        exact ms_augSub gr_ix (augTab_ok e1) sr_set (gE c X E _ _ _ k e2) (gE c X E _ _ _ k e3) (gE c X E _ _ _ k e4) (aug_sub hz)
      · cases h
    · cases h
  · cases h
mutual
theorem cS_ok (gE : GoodE rE) (gT : GoodT rT) (k : CxOk c X E) (hb : c.blk = false) : ∀ (n : Nat) {st : Stmt} {m : MS}, cS c rE rT n st = some m → PS X st (tMS X.K E m)
  | 0, st, m, h => by simp [cS] at h
  | n + 1, st, m, h => by
    unfold cS at h
    split at h
    · cases ‹_ + 1 = 0›
    · cases h; exact ms_retN
    · split at h
      · rename_i m' e1
        cases h
        exact cRetT_ok gE k e1
      · rw [Option.map_eq_some_iff] at h
        obtain ⟨x, e1, rfl⟩ := h
        split
        · exact ms_ret (gE c X E _ _ _ k e1)
        · exact ms_retF (gE c X E _ _ _ k e1)
    · exact cAsg_ok gE gT k hb h
    · exact cAug_ok gE k hb h
    · split at h
      · rename_i mt ma mb e1 e2 e3
        cases h
        cases ‹n + 1 = _ + 1›
        exact ms_if (gT c X E _ _ k e1) (cSs_ok gE gT k hb n e2) (cSs_ok gE gT k hb n e3)
      · cases h
    · split at h
      · rename_i hz
        split at h
        · rename_i mi p mb e1 e2 e3
          cases h
          cases ‹n + 1 = _ + 1›
          obtain ⟨g1, g2⟩ := cG_ok k 9 (m := p.1) (vs := p.2) (by simpa using e2)
          exact ms_for (k.fn hb).2.2 k.calm (cIter_ok gE k e1) g1 (g2 p.2 fun _ z => z) (cSs_ok gE gT k hb n e3) (folded_of hz)
        · cases h
      · cases h
    · split at h
      · rename_i mt mb e1 e2
        cases h
        cases ‹n + 1 = _ + 1›
        exact ms_while (k.fn hb).2.2 (gT c X E _ _ k e1) (cSs_ok gE gT k hb n e2)
      · cases h
    · split at h
      · rename_i hz
        rw [Option.map_eq_some_iff] at h
        obtain ⟨x, e1, rfl⟩ := h
        exact ms_do (gE c X E _ _ _ k e1) (swaps_none hz)
      · cases h
    · cases h; exact ms_bad
    · cases h; exact ms_pass
    · cases h; exact ms_break
    · cases h; exact ms_cont
    · cases h
theorem cSs_ok (gE : GoodE rE) (gT : GoodT rT) (k : CxOk c X E) (hb : c.blk = false) : ∀ (n : Nat) {sts : List Stmt} {m : MS}, cSs c rE rT n sts = some m → PSs X sts (tMS X.K E m)
  | 0, sts, m, h => by simp [cSs] at h
  | n + 1, [], m, h => by
    simp only [cSs, Option.some.injEq] at h
    subst h
    exact mss_nil
  | n + 1, [st], m, h => by
    simp only [cSs] at h
    split at h
    · rename_i e1
      cases h
      exact mss_one (cS_ok gE gT k hb n e1)
    · cases h
      exact mss_one ms_bad
  | n + 1, st :: st2 :: r, m, h => by
    simp only [cSs] at h
    split at h
    · rename_i a b e1 e2
      cases h
      exact mss_cons (cS_ok gE gT k hb n e1) (cSs_ok gE gT k hb n e2)
    · rename_i b e1 e2
      cases h
      exact mss_cons ms_bad (cSs_ok gE gT k hb n e2)
    · cases h
end
end
/-- a def's body, compiled -/
noncomputable def cBody (c : Cfg) (body : List Stmt) : Option MS := cSs c (comp 30).1 (comp 30).2 60 body
theorem cBody_ok {c : Cfg} {X : Cx} {E : XK} {body : List Stmt} {m : MS} (k : CxOk c X E) (hb : c.blk = false) (h : cBody c body = some m) : PSs X body (tMS X.K E m) := cSs_ok (comp_ok 30).1 (comp_ok 30).2 k hb 60 h
end Tb
end

section
set_option maxHeartbeats 4000000
namespace Tb
open PySem PySem.Spec PyProof.Rows L2
/-! ## the end: a law by its def's mirror -/
def MH.zero : MH := ⟨fun _ => none, 0⟩
/-- what the law's mirror must tell -/
def Tells (F : Fn) : Prop := ∀ ns : List Int, ns.length ≤ 63 → ∃ h, F [.scr ns] MH.zero = .ok (.bl true) h
theorem vals_of_ints : ∀ {us : List Value} {ns : List Int}, IntsAre us ns → Vals (ns.map V.int) us
  | _, _, .nil => Paired.nil
  | _, _, .cons n t r => Paired.cons ⟨t, rfl⟩ (vals_of_ints r)
theorem spM_law {K : PySem.W.Frag} {F : Fn} {H : Hp} {a : Addr} {ns : List Int} {E : XK} (hF : Tells F) (hl : ns.length ≤ 63) (hS : SqL K H a (ns.map V.int)) (hT : ∀ P q, TabK K P q → H P = some (.tbl #[])) : spM K F 1 [.ref a] H (fun v _ => v = .bl true) E := by
  obtain ⟨h1, e1⟩ := hF ns hl
  have no : ∀ b, ¬ Own (⟨fun _ => 0, MH.zero, H, fun _ => False⟩ : W3) b := fun b z => by
    rcases z with ⟨n, o, q, _⟩ | z
    · cases q
    · exact z
  refine ⟨rfl, ⟨fun _ => 0, MH.zero, H, fun _ => False⟩, [.scr ns], rfl, ⟨fun n o q => (by cases q), fun n m o u q => (by cases q), fun b q => q.elim, fun n o q => (by cases q), fun P q t => ⟨#[], hT P q t, no P, True.intro, fun pos cv hc => by
    have z : codeAmong pos [] = some cv := hc
    simp [codeAmong] at z⟩⟩, Reps.cons ?_ Reps.nil, ?_⟩
  · simp only [Rep]
    exact ⟨a, rfl, hS.imp (fun q => ⟨q, no a⟩) id⟩
  · show PostW K E (RepD K) _ (F [.scr ns] MH.zero) _
    rw [e1]
    intro w' v _ _ _ r
    exact rep_bl.mp r
section
variable {P : Program} {w : World} {K : PySem.W.Frag} {mg mb : Str → Option Value} {k : Nat} {fa a : Addr} {fd : FuncData} {x : Str} {F : Fn} {s₁ : Shared} {us : List Value} {ns : List Int}
/-- with a heap that tracks the script and the empty tables of code objects, or the tables alone -/
theorem end_core {H : Hp} {cs : List (Addr × Addr)} (KX : K.In s₁.heap) (n1 : s₁.heap.Ns mainGlobals mg) (n2 : s₁.heap.Ns builtinsNs mb) (n3 : ∀ y : Str, y ≠ "__name__" → mb y = bootBuiltins y) (n4 : s₁.heap.NoLimit) (hg : s₁.gens = #[])
    (ha : s₁.heap.get? a = some { cls := .type "list", data := .seq us.toArray }) (hl : ns.length ≤ 63) (hr : Room k callerA) (hF : Tells F)
    (tT : ∀ p ∈ cs, s₁.heap.get? p.2 = some { cls := .none, data := .fields #[] }) (tK : ∀ p ∈ cs, K.lookup p.2 = none) (tC : ∀ p ∈ cs, PySem.W.CodeHd s₁.heap p.1 p.2) (tM : ∀ P q, TabK K P q → P ∈ cs.map (·.2))
    (hbm : ∃ (bm : Addr) (ob : Obj), mg "__builtins__" = some (.ref bm) ∧ bm ≠ builtinsNs ∧ s₁.heap.get? bm = some ob ∧ ob.cls = .type "module" ∧ ob.dict = some builtinsNs ∧ ob.data = .plain)
    (G : ∀ base : Heap, K.In base → base.Ns mainGlobals mg → (∀ p ∈ cs, LamX.TabB base mg p.1 p.2) → FnG P w K mg base k fa fd [x] (spM K F 1)) (hb : ∀ (s : Shared) (u : Value), BindsTo s fd ⟨[u], []⟩ [(x, u)])
    (hH : ∀ b ∈ cs.map (·.2), H b = some (.tbl #[])) (fz : ∀ b u, H b = some u → b ∈ cs.map (·.2) ∨ ∃ o xs, u = HO.frz o (.lst xs)) (hS : SqL K H a (ns.map V.int)) (hok : HOk P w H s₁.heap) (hA : ∀ b, H b ≠ none → b = a ∨ b ∈ cs.map (·.2)) (hK : H a ≠ none → K.lookup a = none) :
    codeAny (model P w) callerA (.call (.ref fa) ⟨[.ref a], []⟩) (fun r s' => r = .ok (.ret (.bool true)) ∧ OldK s₁.heap s'.heap ∧ s'.os = s₁.os ∧ AllBare s'.gens) s₁ := by
  have isT : ∀ {b : Addr}, b ∈ cs.map (·.2) → s₁.heap.get? b = some { cls := .none, data := .fields #[] } := fun hb => by
    obtain ⟨p, hp, rfl⟩ := List.mem_map.mp hb
    exact tT p hp
  have tracked : ∀ {b : Addr} {o : Obj}, H b ≠ none → s₁.heap.get? b = some o → o = { cls := .type "list", data := .seq us.toArray } ∨ o = { cls := .none, data := .fields #[] } := fun {b o} q e => by
    rcases hA b q with z | z
    · rw [z, ha] at e
      cases e
      exact .inl rfl
    · rw [isT z] at e
      cases e
      exact .inr rfl
  have seen : ∀ {b : Addr} {o : Obj}, s₁.heap.get? b = some o → H b = none → (hidT s₁.heap H).get? b = some o := fun e q => hidT_get e q
  have other : ∀ {b : Addr} {o : Obj}, s₁.heap.get? b = some o → (∀ vs n, o.data ≠ .seq vs n) → o.data ≠ .fields #[] → H b = none := fun {b o} e d1 d2 => by
    by_cases q : H b = none
    · exact q
    · rcases tracked q e with z | z
      · rw [z] at d1
        exact absurd rfl (d1 _ _)
      · rw [z] at d2
        exact absurd rfl d2
  have dictFree : ∀ {b : Addr} {o : Obj} {es : Array DictEntry} {ep : Nat}, s₁.heap.get? b = some o → o.data = .dict es ep → H b = none := fun e d =>
    other e (fun vs n z => by rw [d] at z; cases z) fun z => by rw [d] at z; cases z
  have nsOf : ∀ {b : Addr} {m : Str → Option Value}, s₁.heap.Ns b m → (hidT s₁.heap H).Ns b m := fun ⟨o, es, ep, e, d, r⟩ => ⟨o, es, ep, seen e (dictFree e d), d, r⟩
  have kin : K.In (hidT s₁.heap H) := fun b o e => seen (KX b o e) (by
    by_cases q : H b = none
    · exact q
    · rcases hA b q with z | z
      · subst z
        rw [hK q] at e
        cases e
      · obtain ⟨p, hp, rfl⟩ := List.mem_map.mp z
        rw [tK p hp] at e
        cases e)
  have md : Mod K mg (hidT s₁.heap H) := ⟨kin, nsOf n1, ⟨mb, nsOf n2, n3⟩, let ⟨mc, c1, c2⟩ := n4; ⟨mc, nsOf c1, c2⟩⟩
  have notG : ∀ {b : Addr} {o : Obj}, s₁.heap.get? b = some o → (∀ es n, o.data ≠ .dict es n) → b ≠ mainGlobals := fun {b o} e d z => by
    obtain ⟨o', es, ep, e', hd, _⟩ := n1
    rw [z, e'] at e
    cases e
    exact d _ _ hd
  have TB : ∀ p ∈ cs, LamX.TabB (hidT s₁.heap H) mg p.1 p.2 := fun p hp => by
    have hTp := tT p hp
    refine ⟨?_, ?_, fun z => notG hTp (fun es n q => by cases q) z.symm⟩
    · obtain ⟨o, vs, file, tf, flags, tg, inF, text, tt, e1, r1, r2, r3, rest⟩ := tC p hp
      refine ⟨o, vs, file, tf, flags, tg, inF, text, tt, seen e1 (other e1 (fun vs' n z => by rw [r2] at z; cases z) fun z => ?_), r1, r2, r3, rest⟩
      rw [r2] at z
      cases z
      simp at r3
    · obtain ⟨bm, ob, b1, b2, b3, b4, b5, b6⟩ := hbm
      refine ⟨bm, ob, b1, b2, notG b3 (fun es n q => by rw [b6] at q; cases q), fun q => ?_, seen b3 (other b3 (fun vs n z => by rw [b6] at z; cases z) fun z => by rw [b6] at z; cases z), b4, b5, b6⟩
      rw [q, hTp] at b3
      cases b3
      cases b6
  have e0 : Env0 P w K mg (hidT s₁.heap H) callerA [] s₁ H := ⟨rfl, md, fun b o e => of_hidT e, Nat.le_of_eq (hidT_size _ _), trivial, fun b q => absurd (show b ∈ ([] : List Addr) from q) (by simp), hok, .of_eq hg⟩
  have go := (G _ kin (nsOf n1) TB).run callerA [] s₁ H ⟨[.ref a], []⟩ [.ref a] [.ref a] _ (fun _ _ _ => False) rfl hr e0 (hb s₁ (.ref a)) (Paired.cons rfl Paired.nil) (spM_law hF hl hS fun P q t => hH P (tM P q t))
  refine codeAny_mono go fun r s' q => ?_
  match r, q with
  | .error e, q =>
    obtain ⟨_, _, _, _, _, _, _, _, _, _, _, _, z⟩ := q
    exact z.elim
  | .ok .next, q => exact False.elim q
  | .ok .brk, q => exact False.elim q
  | .ok .cont, q => exact False.elim q
  | .ok (.ret u), q =>
    obtain ⟨v, H', os, bare, un, hok', rv, e⟩ := q
    have e' : v = .bl true := e
    subst e'
    have eu : u = Value.bool true := rv
    subst eu
    have same : ∀ b o, b ∉ cs.map (·.2) → s₁.heap.get? b = some o → s'.heap.get? b = some o := fun b o nb e => by
      cases hz : H b with
      | none => exact un.keep b o e hz (fun z => absurd (show b ∈ ([] : List Addr) from z) (by simp)) (by simp)
      | some ob =>
        rcases fz b ob hz with z | ⟨oo, xs, rfl⟩
        · exact absurd z nb
        · have z2 := un.frzs b oo _ hz
          obtain ⟨f1, _⟩ := hok b _ hz
          obtain ⟨f2, _⟩ := hok' b _ z2
          rw [e] at f1
          cases f1
          exact f2
    have more : ∀ b ∈ cs.map (·.2), ∃ ps : Array Value, s'.heap.get? b = some { cls := .none, data := .fields ps } := fun b hb => by
      obtain ⟨ps, z⟩ := un.tbls b #[] (hH b hb)
      exact ⟨_, hok' b _ z⟩
    refine ⟨rfl, ⟨fun b o e => ?_, fun b o e => ?_⟩, os, bare⟩
    · by_cases hb : b ∈ cs.map (·.2)
      · obtain ⟨ps, hm⟩ := more b hb
        rw [isT hb] at e
        cases e
        obtain ⟨p, hp, rfl⟩ := List.mem_map.mp hb
        exact .inr (.inl ⟨((tC p hp).tab (tT p hp)).isCodeTable, rfl, #[], ps, rfl, by rw [Array.empty_append]; exact hm⟩)
      · exact .inl (same b o hb e)
    · by_cases hb : b ∈ cs.map (·.2)
      · obtain ⟨ps, hm⟩ := more b hb
        exact ⟨_, hm⟩
      · exact ⟨o, same b o hb e⟩
theorem end_call {cs : List (Addr × Addr)} (KX : K.In s₁.heap) (n1 : s₁.heap.Ns mainGlobals mg) (n2 : s₁.heap.Ns builtinsNs mb) (n3 : ∀ y : Str, y ≠ "__name__" → mb y = bootBuiltins y) (n4 : s₁.heap.NoLimit) (hg : s₁.gens = #[])
    (ha : s₁.heap.get? a = some { cls := .type "list", data := .seq us.toArray }) (hi : IntsAre us ns) (hl : ns.length ≤ 63) (hr : Room k callerA) (hF : Tells F)
    (tT : ∀ p ∈ cs, s₁.heap.get? p.2 = some { cls := .none, data := .fields #[] }) (tK : ∀ p ∈ cs, K.lookup p.2 = none) (tC : ∀ p ∈ cs, PySem.W.CodeHd s₁.heap p.1 p.2) (tM : ∀ P q, TabK K P q → P ∈ cs.map (·.2))
    (hbm : ∃ (bm : Addr) (ob : Obj), mg "__builtins__" = some (.ref bm) ∧ bm ≠ builtinsNs ∧ s₁.heap.get? bm = some ob ∧ ob.cls = .type "module" ∧ ob.dict = some builtinsNs ∧ ob.data = .plain)
    (G : ∀ base : Heap, K.In base → base.Ns mainGlobals mg → (∀ p ∈ cs, LamX.TabB base mg p.1 p.2) → FnG P w K mg base k fa fd [x] (spM K F 1)) (hb : ∀ (s : Shared) (u : Value), BindsTo s fd ⟨[u], []⟩ [(x, u)]) :
    codeAny (model P w) callerA (.call (.ref fa) ⟨[.ref a], []⟩) (fun r s' => r = .ok (.ret (.bool true)) ∧ OldK s₁.heap s'.heap ∧ s'.os = s₁.os ∧ AllBare s'.gens) s₁ := by
  have rv := vals_of_ints hi
  have len := hi.length
  have hz : ns.length ≤ sizeLine := Nat.le_trans hl (by decide)
  have isT : ∀ {b : Addr}, b ∈ cs.map (·.2) → s₁.heap.get? b = some { cls := .none, data := .fields #[] } := fun hb => by
    obtain ⟨p, hp, rfl⟩ := List.mem_map.mp hb
    exact tT p hp
  have na : a ∉ cs.map (·.2) := fun z => by
    have e := isT z
    rw [ha] at e
    cases e
  cases hk : K.lookup a with
  | some o =>
    have e := KX a o hk
    rw [ha] at e
    cases e
    refine end_core (H := fun b => if b ∈ cs.map (·.2) then some (.tbl #[]) else none) KX n1 n2 n3 n4 hg ha hl hr hF tT tK tC tM hbm G hb (fun b z => if_pos z) (fun b u z => ?_) (.inr ⟨_, us.toArray, _, hk, rfl, rfl, rfl, by rw [List.size_toArray, len]; exact hz, by simpa using rv⟩) (fun b u z => ?_) (fun b z => ?_) fun z => absurd (if_neg na) z
    · by_cases q : b ∈ cs.map (·.2)
      · exact .inl q
      · rw [if_neg q] at z
        cases z
    · have z : (if b ∈ cs.map (·.2) then some (HO.tbl #[]) else none) = some u := z
      by_cases q : b ∈ cs.map (·.2)
      · rw [if_pos q] at z
        cases z
        exact isT q
      · rw [if_neg q] at z
        cases z
    · by_cases q : b ∈ cs.map (·.2)
      · exact .inr q
      · exact absurd (if_neg q) z
  | none =>
    refine end_core (H := fun b => if b ∈ cs.map (·.2) then some (.tbl #[]) else if b = a then some (.frz { cls := .type "list", data := .seq us.toArray } (.lst (ns.map V.int))) else none) KX n1 n2 n3 n4 hg ha hl hr hF tT tK tC tM hbm G hb (fun b z => if_pos z) (fun b u z => ?_) (.inl (.inr ⟨{ cls := .type "list", data := .seq us.toArray }, (if_neg na).trans (if_pos rfl)⟩)) (fun b u z => ?_) (fun b z => ?_) fun _ => hk
    · by_cases q : b ∈ cs.map (·.2)
      · exact .inl q
      · rw [if_neg q] at z
        split at z
        · cases z
          exact .inr ⟨_, _, rfl⟩
        · cases z
    · have z : (if b ∈ cs.map (·.2) then some (HO.tbl #[]) else if b = a then some (HO.frz { cls := .type "list", data := .seq us.toArray } (.lst (ns.map V.int))) else none) = some u := z
      by_cases q : b ∈ cs.map (·.2)
      · rw [if_pos q] at z
        cases z
        exact isT q
      · rw [if_neg q] at z
        split at z
        · rename_i eb
          cases z
          subst eb
          exact ⟨ha, by rw [List.length_map]; exact hz, us, _, rv, ha⟩
        · cases z
    · by_cases q : b ∈ cs.map (·.2)
      · exact .inr q
      · by_cases q2 : b = a
        · exact .inl q2
        · exact absurd ((if_neg q).trans (if_neg q2)) z
end
/-- a law's promise, by the written part, the def, its mirror -/
theorem law_of {l : PySem.W.OpenLaw} {k : Nat} {q : Program} {loose : List Str} {XP : (Str → Option Value) → Heap → Prop} {YP : World → Heap → Prop} {d : DefRec} {x : Str} {F : Fn}
    (hn : l.most = some 63) (hdf : d.params.defaults = []) (hr : Room k callerA) (hF : Tells F)
    (G : ∀ (w : World) (mg : Str → Option Value) (fa : Addr) (h : Heap), YP w h → h.Ns mainGlobals mg → mg d.name = some (.ref fa) →
      ∃ (K : PySem.W.Frag) (fd : FuncData) (cs : List (Addr × Addr)), K.In h ∧ (∀ (s : Shared) (u : Value), BindsTo s fd ⟨[u], []⟩ [(x, u)]) ∧ (∀ p ∈ cs, h.get? p.2 = some { cls := .none, data := .fields #[] }) ∧ (∀ p ∈ cs, K.lookup p.2 = none) ∧ (∀ p ∈ cs, PySem.W.CodeHd h p.1 p.2) ∧ (∀ P q, TabK K P q → P ∈ cs.map (·.2)) ∧
        ∀ base : Heap, K.In base → base.Ns mainGlobals mg → (∀ p ∈ cs, LamX.TabB base mg p.1 p.2) → FnG l.prog w K mg base k fa fd [x] (spM K F 1)) :
    PySem.W.WalkO q loose XP YP l.row.toRowW d [] (fun f vs => PySem.call f vs) := by
  refine Att.attach_call hn hdf fun w s₀ s₁ mg mb fa o pm cd doc a us ns Gd Y _ _ _ hm hobj hints hlen hg => ?_
  obtain ⟨K, fd, cs, KX, hb, t1, t2, t3, t4, hG⟩ := G w mg fa _ Y Gd.T.g hm
  exact end_call KX Gd.T.g Gd.T.b Gd.T.builtins Gd.T.nolimit hg hobj hints hlen hr hF t1 t2 t3 t4 Gd.T.bmain hG hb
end Tb
end

section
set_option maxHeartbeats 4000000
namespace Tb
open PySem PySem.Spec PyProof.Rows L2
/-! ## defs from their texts -/
noncomputable def mLc (mi : MI) (vs : List Nat) (mg : MG) (mt : MT) (me : ME) (f : Fn1) : ME := fun s h => (mComp mi vs mg mt me s h).bind f
def mAsB (m : ME) : MT := fun s h => asB (m s h)
def gKw (xs ys : List D) : List D := xs ++ ys
/-- keywords in the parameters' order: (j, true) the j-th keyword's value, (j, false) the j-th default -/
def kPick {α : Type} (ix : List (Nat × Bool)) (us its ws : List α) : List α := us ++ ix.filterMap fun p => if p.2 = true then ws[p.1]? else its[p.1]?
theorem vals_opt : ∀ {vs : List V} {us : List Value} (j : Nat), Vals vs us → (vs[j]? = none ∧ us[j]? = none) ∨ ∃ v u, vs[j]? = some v ∧ us[j]? = some u ∧ RelV v u
  | [], _, j, .nil => .inl ⟨rfl, rfl⟩
  | v :: vs, u :: us, 0, .cons r t => .inr ⟨v, u, rfl, rfl, r⟩
  | v :: vs, u :: us, j + 1, .cons r t => by simpa using vals_opt j t
theorem kPick_vals {ix : List (Nat × Bool)} {vs ds zs : List V} {us its ws : List Value} (r1 : Vals vs us) (r2 : Vals ds its) (r3 : Vals zs ws) : Vals (kPick ix vs ds zs) (kPick ix us its ws) := by
  refine r1.append ?_
  induction ix with
  | nil => exact .nil
  | cons p ix ih =>
    obtain ⟨j, b⟩ := p
    rw [List.filterMap_cons, List.filterMap_cons]
    cases b with
    | true =>
      simp only [if_true]
      rcases vals_opt j r3 with ⟨e1, e2⟩ | ⟨v, u, e1, e2, r⟩
      · rw [e1, e2]; exact ih
      · rw [e1, e2]; exact .cons r ih
    | false =>
      simp only [Bool.false_eq_true, if_false]
      rcases vals_opt j r2 with ⟨e1, e2⟩ | ⟨v, u, e1, e2, r⟩
      · rw [e1, e2]; exact ih
      · rw [e1, e2]; exact .cons r ih
theorem reps_opt {K : PySem.W.Frag} {w : W3} : ∀ {ds : List D} {vs : List V} (j : Nat), Reps K w ds vs → (ds[j]? = none ∧ vs[j]? = none) ∨ ∃ d v, ds[j]? = some d ∧ vs[j]? = some v ∧ Rep K w d v
  | [], _, j, h => by rw [h.unnil]; exact .inl ⟨rfl, rfl⟩
  | d :: ds, _, 0, h => by
    obtain ⟨u, us, rfl, h2, h3⟩ := h.uncons
    exact .inr ⟨d, u, rfl, rfl, h2⟩
  | d :: ds, _, j + 1, h => by
    obtain ⟨u, us, rfl, h2, h3⟩ := h.uncons
    simpa using reps_opt j h3
theorem kPick_reps {K : PySem.W.Frag} {w : W3} {ix : List (Nat × Bool)} {xs ys zs : List D} {us vs ws : List V} (r1 : Reps K w xs us) (r2 : Reps K w ys vs) (r3 : Reps K w zs ws) : Reps K w (kPick ix xs ys zs) (kPick ix us vs ws) := by
  refine r1.append ?_
  induction ix with
  | nil => exact Reps.nil
  | cons p ix ih =>
    obtain ⟨j, b⟩ := p
    rw [List.filterMap_cons, List.filterMap_cons]
    cases b with
    | true =>
      simp only [if_true]
      rcases reps_opt j r3 with ⟨e1, e2⟩ | ⟨v, u, e1, e2, r⟩
      · rw [e1, e2]; exact ih
      · rw [e1, e2]; exact Reps.cons r ih
    | false =>
      simp only [Bool.false_eq_true, if_false]
      rcases reps_opt j r2 with ⟨e1, e2⟩ | ⟨v, u, e1, e2, r⟩
      · rw [e1, e2]; exact ih
      · rw [e1, e2]; exact Reps.cons r ih
/-- a call shape, said without a context -/
def ShG (P : Program) (w : World) (K : PySem.W.Frag) (mg : Str → Option Value) (base : Heap) (k : Nat) (sh : Sh) : Prop := ∃ (f : Addr) (fd : FuncData) (ps : List Str), ps.length = sh.np ∧ mg sh.name = some (.ref f) ∧ PySem.W.keepIn K (.ref f) = true ∧ FnG P w K mg base k f fd ps (spM K sh.F ps.length) ∧
  (sh.ks = [] → ∃ dvs ds, Vals dvs ds ∧ Binds K fd ps ds ∧ ∀ w, Reps K w sh.dv dvs) ∧
  (sh.ks ≠ [] → ∃ g gV, KBn K fd ps sh.n sh.ks g gV ∧ ∀ (w : W3) (ds es : List D) (vs zs : List V), Reps K w ds vs → Reps K w es zs → Reps K w (sh.gD ds es) (gV vs zs))
/-- a constant of the module -/
def ConG (K : PySem.W.Frag) (mg : Str → Option Value) (p : Str × D) : Prop := ∃ u v, mg p.1 = some u ∧ RelV v u ∧ ∀ w, Rep K w p.2 v
def allP {α : Type} (p : α → Prop) : List α → Prop
  | [] => True
  | x :: xs => p x ∧ allP p xs
theorem allP_mem {α : Type} {p : α → Prop} : ∀ {l : List α}, allP p l → ∀ x ∈ l, p x
  | _ :: _, h, _, .head _ => h.1
  | _ :: _, h, _, .tail _ q => allP_mem h.2 _ q
section
variable {P : Program} {w : World} {K : PySem.W.Frag} {mg : Str → Option Value} {base : Heap} {x qual : Str} {params : Arguments} {body : List Stmt} {scope : Scope} {dvs : List V} {kws : List (Str × V)} {f : Addr} {fd : FuncData} {ps : List Str} {k j : Nat}
theorem ShG.mono {sh : Sh} (h : ShG P w K mg base j sh) (hj : j ≤ k) : ShG P w K mg base k sh := by
  obtain ⟨f, fd, ps, h1, h2, h3, h4, h5⟩ := h
  exact ⟨f, fd, ps, h1, h2, h3, h4.mono hj, h5⟩
/-- THE RULE, with what the making of lambdas asks -/
theorem fngL {N ps : List Str} {k : Nat} {m : MS} (F : FunD K x qual params body scope dvs kws f fd) (S : FnScope N ps scope)
    (hbody : ∀ X : Cx, X.prog = P → X.w = w → X.K = K → X.mg = mg → X.base = base → X.N = N → X.env.scope = scope → X.calm = true → (∀ y, X.fn y = true) → X.A.guards = some [] → Room k X.A → X.env.blockKind = .function → X.env.code = fd.code → X.env.qual = qual ++ ".<locals>." →
      ∀ E, Passes (L2.CX P w) X E → PassesOwn (model P w) X.A X.env X.xe → PSs X body (tMS K E m)) :
    FnG P w K mg base (k + 1) f fd ps (spM K (fnM N.length m) ps.length) := by
  obtain ⟨oc, od, dV, kV, doc, pm, an, cdv, ct, osl, rfl, lk, hcd, _, _⟩ := F.ex
  refine ⟨fun vs H Q E h => h.1, fun A outer s H args us vs Q E hg hr e0 hb r hsp => ?_⟩
  have hin : K.In s.heap := e0.mod.kin.keeps fun b o e => (e0.bs b o e).1
  have hlim : s.heap.NoLimit := e0.mod.nolimit.keeps fun b o e => (e0.bs b o e).1
  have hloc : ∀ y ∈ ps.zip us, scope.names.lookup y.1 = some .local ∨ (scope.names.lookup y.1 = some .cell ∧ ((cellsFrom (s.heap.objs.size + 1) scope.names []).lookup y.1).isSome = true) := by
    intro y hy
    exact (S.par y.1 (List.of_mem_zip (a := y.1) (b := y.2) hy).1).imp id fun q => ⟨q, PySem.W.cellsFrom_some _ _ _ (.inl q)⟩
  refine codeAny_call_function hr.depth (hin _ _ lk) rfl S.co S.gen rfl (PySem.W.codeRec_of hin hcd) (hb _ _ _ _ ?_)
  refine wpAny_newFunctionEnv_cells S.kind hloc fun env he s1 hx => ?_
  subst he
  refine ⟨hlim.keeps hx.toInCall.keep, codeAny_func ?_⟩
  have I := inv_start (CX := L2.CX P w) (E := E) S hr.hd e0 hsp.1 r hx
  obtain ⟨hl, w0, ds, eH, k0, r0, q0⟩ := hsp
  have tk : Takes (cxOf (L2.CX P w) P w K mg base N qual scope f cdv A outer s H E) fun cls d _ H => E cls d H := takes_of rfl rfl rfl rfl
  have hp := hbody (cxOf (L2.CX P w) P w K mg base N qual scope f cdv A outer s H E) rfl rfl rfl rfl rfl rfl rfl rfl (fun _ => rfl) hg (hr.deeper _) (by unfold Env.blockKind; rw [show (cxOf (L2.CX P w) P w K mg base N qual scope f cdv A outer s H E).env.scope.kind = .function from S.kind]; rfl) rfl rfl E
    (passes_call tk fun _ _ _ _ z => z) (passes_of rfl)
  have hds := r0.length
  have sr : SRep K w0 (ds.map some ++ List.replicate (N.length - ds.length) none) (L2.start N vs) := by
    unfold L2.start
    refine ⟨by simp [hds], fun i d hd => ?_⟩
    by_cases hi : i < ds.length
    · rw [List.getElem?_append_left (by simpa using hi), List.getElem?_map, Option.map_eq_some_iff] at hd
      obtain ⟨d', h1, h2⟩ := hd
      cases h2
      obtain ⟨v, h3, h4⟩ := r0.get h1
      exact ⟨v, by rw [List.getElem?_append_left (by simpa using (by omega : i < vs.length)), List.getElem?_map, h3]; rfl, h4⟩
    · rw [List.getElem?_append_right (by simpa using hi), List.getElem?_replicate] at hd
      split at hd <;> cases hd
  subst eH
  have fin : ∀ {σ' : L2.St} {H' : Hp} {v : V} {u : Value} {s' : Shared}, L2.Inv (cxOf (L2.CX P w) P w K mg base N qual scope f cdv A outer s w0.H E) [] σ' H' s' → RelV v u → Q v H' → CE outer P w w0.H s Q u s' := fun J rv q => ⟨_, _, J.os, J.bare, J.base, J.hok, rv, q⟩
  have post : PostS K E w0 (m (ds.map some ++ List.replicate (N.length - ds.length) none) w0.h) (endsM { nx := fun _ H' => Q .non H', rt := Q }) := by
    unfold fnM at q0
    split at q0
    · rename_i d h1 e
      rw [e]
      intro w' v e1 x1 k1 p1
      subst e1
      obtain ⟨w2, e2, q2⟩ := leave_ok x1 k1 p1 q0
      show Q v w'.H
      rw [← e2]; exact q2
    · rename_i s2 h1 e
      rw [e]
      intro w' σ' e1 x1 k1 p1
      subst e1
      obtain ⟨w2, e2, q2⟩ := leave_ok x1 k1 (rep_non.mpr rfl) q0
      show Q .non w'.H
      rw [← e2]; exact q2
    · rename_i ex h1 e
      rw [e]
      exact q0
    · exact q0.elim
  refine wpAny_mono (hp.run [] s1 (L2.start N vs) w0.H _ I (tMS_at k0 sr post)) (fun fl s' hs => ?_) fun e s' hs => hs
  cases fl with
  | ret u =>
    obtain ⟨v, σ', H', J, rv, q⟩ := hs
    exact fin J rv q
  | next =>
    obtain ⟨σ', H', J, q⟩ := hs
    exact fin (v := V.non) (u := Value.none) J rfl q
  | brk =>
    obtain ⟨_, _, _, q⟩ := hs
    exact False.elim q
  | cont =>
    obtain ⟨_, _, _, q⟩ := hs
    exact False.elim q
theorem fng_of {c : Cfg} {m : MS} (F : FunD K x qual params body scope dvs kws f fd) (S : FnScope c.N ps scope) (hs : c.sc = scope) (hb : c.blk = false) (hm : cBody c body = some m) (hG : allP (ShG P w K mg base k) c.G) (hC : allP (ConG K mg) c.C) (hB : allP (fun y => mg y = none) c.B) (hcel : c.cel = [] := by rfl) (hlam : c.lam = false := by rfl) :
    FnG P w K mg base (k + 1) f fd ps (spM K (fnM c.N.length m) ps.length) := by
  refine fng F S fun X e1 e2 e3 e4 e5 e6 e7 h1 h2 h3 h4 h5 E h6 h7 => ?_
  subst e1 e2 e3 e4 e5
  exact cBody_ok (c := c) ⟨e6, S.nd, e7.trans hs.symm, h1, h3, ⟨k, h4, allP_mem hG⟩, allP_mem hC, allP_mem hB, fun _ => ⟨h2, h5, h7⟩, h6, by rw [hcel]; exact fun y hy => (nomatch hy), by rw [hlam]; exact fun z => (nomatch z)⟩ hb hm
/-- a def that makes lambdas -/
theorem fng_ofL {c : Cfg} {m : MS} {a PT : Addr} {q : Str} (F : FunD K x qual params body scope dvs kws f fd) (S : FnScope c.N ps scope) (hs : c.sc = scope) (hb : c.blk = false) (hm : cBody c body = some m) (hG : allP (ShG P w K mg base k) c.G) (hC : allP (ConG K mg) c.C) (hB : allP (fun y => mg y = none) c.B)
    (hcode : fd.code = .ref a) (TB : LamX.TabB base mg a PT) (t : TabK K PT q) (hq : qual ++ ".<locals>." ++ "<lambda>" = q) (hcel : c.cel = [] := by rfl) :
    FnG P w K mg base (k + 1) f fd ps (spM K (fnM c.N.length m) ps.length) := by
  refine fngL F S fun X e1 e2 e3 e4 e5 e6 e7 h1 h2 h3 h4 h5 g1 g2 E h6 h7 => ?_
  subst e1 e2 e3 e4 e5
  exact cBody_ok (c := c) ⟨e6, S.nd, e7.trans hs.symm, h1, h3, ⟨k, h4, allP_mem hG⟩, allP_mem hC, allP_mem hB, fun _ => ⟨h2, h5, h7⟩, h6, by rw [hcel]; exact fun y hy => (nomatch hy), fun _ => ⟨a, PT, q, g1.trans hcode, TB, t, by rw [g2]; exact hq⟩⟩ hb hm
theorem sh_pos {F : Fn} {name : Str} {n : Nat} {hs : List Bool} {gD : List D → List D → List D} (G : FnG P w K mg base k f fd ps (spM K F ps.length)) (hm : mg name = some (.ref f)) (hk : PySem.W.keepIn K (.ref f) = true) (hb : Binds K fd ps []) : ShG P w K mg base k ⟨name, n, [], ps.length, F, [], gD, hs⟩ :=
  ⟨f, fd, ps, rfl, hm, hk, G, fun _ => ⟨[], [], .nil, hb, fun _ => Reps.nil⟩, fun z => absurd rfl z⟩
theorem sh_dfl {F : Fn} {name : Str} {n : Nat} {hs : List Bool} {dv : List D} {dvs : List V} {gD : List D → List D → List D} (G : FnG P w K mg base k f fd ps (spM K F ps.length)) (hm : mg name = some (.ref f)) (hk : PySem.W.keepIn K (.ref f) = true) (hb : ∃ ds, Vals dvs ds ∧ Binds K fd ps ds) (hr : ∀ w, Reps K w dv dvs) :
    ShG P w K mg base k ⟨name, n, [], ps.length, F, dv, gD, hs⟩ :=
  let ⟨ds, h1, h2⟩ := hb
  ⟨f, fd, ps, rfl, hm, hk, G, fun _ => ⟨dvs, ds, h1, h2, hr⟩, fun z => absurd rfl z⟩
theorem sh_kw {F : Fn} {name : Str} {n : Nat} {hs : List Bool} {ks : List Str} {dv : List D} {gD : List D → List D → List D} {g : List Value → List Value → List Value} {gV : List V → List V → List V} (G : FnG P w K mg base k f fd ps (spM K F ps.length)) (hm : mg name = some (.ref f)) (hk : PySem.W.keepIn K (.ref f) = true)
    (hn : ks ≠ []) (hb : KBn K fd ps n ks g gV) (hr : ∀ (w : W3) (ds es : List D) (vs zs : List V), Reps K w ds vs → Reps K w es zs → Reps K w (gD ds es) (gV vs zs)) : ShG P w K mg base k ⟨name, n, ks, ps.length, F, dv, gD, hs⟩ :=
  ⟨f, fd, ps, rfl, hm, hk, G, fun z => absurd z hn, fun _ => ⟨g, gV, hb, hr⟩⟩
theorem fng_bad (hl : ps.length = ps.length) : FnG P w K mg base k f fd ps (spM K (fun _ _ => .bad) ps.length) :=
  ⟨fun vs H Q E h => h.1, fun A outer s H args us vs Q E _ _ _ _ _ h => by
    obtain ⟨_, w0, ds, _, _, _, q⟩ := h
    exact q.elim⟩
theorem con_int {K' : PySem.W.Frag} {h : Heap} {i : Int} (X : K.In h) (G : h.Ns mainGlobals mg) (c : (He.Fa.int x i).ok K = true) : ConG K' mg (x, .int i) := by
  obtain ⟨t, e⟩ := He.int_ok X G c
  exact ⟨_, .int i, e, ⟨t, rfl⟩, fun w => rep_int.mpr rfl⟩
theorem con_str {K' : PySem.W.Frag} {h : Heap} {z : Str} (X : K.In h) (G : h.Ns mainGlobals mg) (c : (He.Fa.str x z).ok K = true) : ConG K' mg (x, .str z) := by
  obtain ⟨t, e⟩ := He.str_ok X G c
  exact ⟨_, .str z, e, ⟨t, rfl⟩, fun w => rep_str.mpr rfl⟩
/-! ### the marked fragment -/
theorem FunD.mark {f0 : Addr} {o0 : Obj} {T : List (Addr × Str)} (F : FunD K x qual params body scope dvs [] f fd) (h0 : K.lookup f0 = some o0) : FunD (marked K f0 T) x qual params body scope dvs [] f fd := by
  have L := fun a => lookup_marked (T := T) h0 a
  obtain ⟨⟨oc, od, dV, kV, doc, pm, an, cdv, ct, osl, e, lk, hc, hd, hk⟩, kp⟩ := F
  refine ⟨⟨oc, od, dV, kV, doc, pm, an, cdv, ct, osl, e, by rw [L]; exact lk, ?_, ?_, .inl rfl⟩, ?_⟩
  · cases cdv with
    | ref c =>
      unfold PySem.W.codeIn at hc ⊢
      simp only [L]
      exact hc
    | _ => cases hc
  · rcases hd with hd | ⟨h1, T', o, its, n, e1, e2, e3, e4⟩
    · exact .inl hd
    · exact .inr ⟨h1, T', o, its, n, e1, by rw [L]; exact e2, e3, e4⟩
  · unfold PySem.W.keepIn
    simp only [L, lk]
theorem fun_at (F : FunD K x qual params body scope dvs kws f fd) : ∃ o, K.lookup f = some o := by
  obtain ⟨oc, od, dV, kV, doc, pm, an, cdv, ct, osl, e, lk, _⟩ := F.ex
  exact ⟨_, lk⟩
theorem code_at {p : He.Defn} (F : FunD K x qual params body scope dvs kws (He.fAd K p) fd) : fd.code = .ref (He.cT K p).1 := by
  obtain ⟨oc, od, dV, kV, doc, pm, an, cdv, ct, osl, e, lk, hc, _⟩ := F.ex
  obtain ⟨c, rfl⟩ := He.codeIn_ref hc
  have e2 : fd.code = .ref c := by rw [e]
  rw [e2]
  exact congrArg Value.ref (He.codeOf_eq lk e2).symm
theorem marked_in {h : Heap} {f0 : Addr} {o0 : Obj} {T : List (Addr × Str)} (X : K.In h) (h0 : K.lookup f0 = some o0) : (marked K f0 T).In h := fun a o e => X a o (by rw [← lookup_marked (T := T) h0 a]; exact e)
theorem of_marked {h : Heap} {f0 : Addr} {o0 : Obj} {T : List (Addr × Str)} (h0 : K.lookup f0 = some o0) (X : (marked K f0 T).In h) : K.In h := fun a o e => X a o (by rw [lookup_marked (T := T) h0 a]; exact e)
/-- the tables told: each its own -/
def tabsT (K : PySem.W.Frag) (tf : List (He.Defn × Str)) : List (Addr × Str) := tf.map fun p => ((He.cT K p.1).2, p.2)
def apart (tf : List (He.Defn × Str)) (K : PySem.W.Frag) : Bool := decide ((tabsT K tf).map (·.1)).Nodup
theorem tab_of {f0 : Addr} {tf : List (He.Defn × Str)} (ha : apart tf K = true) {p : He.Defn × Str} (hp : p ∈ tf) : TabK (marked K f0 (tabsT K tf)) (He.cT K p.1).2 p.2 := by
  have hm : ((He.cT K p.1).2, p.2) ∈ tabsT K tf := List.mem_map.mpr ⟨p, hp, rfl⟩
  refine ⟨by unfold TabF; rw [marks_marked]; exact hm, fun q' hq => ?_⟩
  unfold TabF at hq
  rw [marks_marked] at hq
  have nd : ((tabsT K tf).map (·.1)).Nodup := of_decide_eq_true ha
  have key : ∀ {l : List (Addr × Str)} {a : Addr} {x y : Str}, (l.map (·.1)).Nodup → (a, x) ∈ l → (a, y) ∈ l → x = y := by
    intro l
    induction l with
    | nil => intro a x y _ h; cases h
    | cons z l ih =>
      intro a x y nd h1 h2
      rw [List.map_cons, List.nodup_cons] at nd
      rcases List.mem_cons.mp h1 with e1 | h1
      · rcases List.mem_cons.mp h2 with e2 | h2
        · rw [← e1] at e2
          cases e2
          rfl
        · exact absurd (List.mem_map.mpr ⟨_, h2, by rw [← e1]⟩) nd.1
      · rcases List.mem_cons.mp h2 with e2 | h2
        · exact absurd (List.mem_map.mpr ⟨_, h1, by rw [← e2]⟩) nd.1
        · exact ih nd.2 h1 h2
  exact key nd hq hm
theorem tab_in {f0 : Addr} {tf : List (He.Defn × Str)} {PT : Addr} {q : Str} (t : TabK (marked K f0 (tabsT K tf)) PT q) : PT ∈ (tf.map fun p => He.cT K p.1).map (·.2) := by
  have h := t.1
  unfold TabF at h
  rw [marks_marked] at h
  obtain ⟨p, hp, e⟩ := List.mem_map.mp h
  rw [List.map_map]
  exact List.mem_map.mpr ⟨p, hp, congrArg Prod.fst e⟩
end
end Tb
end

section
set_option maxHeartbeats 4000000
namespace Tb
open PySem PySem.Spec PyProof.Rows L2
/-! ## what a mirror tells: a calculus -/
/-- what stands here is looked at later -/
structure Bx {α : Sort _} (x : α) : Type where
structure Bx4 {α β γ δ : Sort _} (x : α) (y : β) (z : γ) (w : δ) : Type where
def R.en {α : Type} (r : R α) (Q : α → MH → Prop) (_ : Bx Q := ⟨⟩) : Prop := match r with
  | .ok a h => Q a h
  | _ => False
def RS.en (r : RS) (N B C : Sl → MH → Prop) (T : D → MH → Prop) (_ : Bx4 N B C T := ⟨⟩) : Prop := match r with
  | .nx s h => N s h
  | .brk s h => B s h
  | .ct s h => C s h
  | .ret d h => T d h
  | _ => False
/-- the statements behind -/
def Nx (m : MS) (N B C : Sl → MH → Prop) (T : D → MH → Prop) (s : Sl) (h : MH) (_ : Bx4 N B C T := ⟨⟩) : Prop := (m s h).en N B C T
section
variable {α β : Type} {r : R α} {q : RS} {Q Q' : α → MH → Prop} {N B C N' B' C' : Sl → MH → Prop} {T T' : D → MH → Prop} {s : Sl} {h : MH} {d : D}
theorem nx {m : MS} : Nx m N B C T s h = (m s h).en N B C T := rfl
theorem en_ext (e : ∀ a h, Q a h = Q' a h) : r.en Q = r.en Q' := by
  cases r with
  | ok a h => exact e a h
  | _ => rfl
theorem enS_ext (e : ∀ a h, N a h = N' a h) : q.en N B C T = q.en N' B C T := by
  cases q with
  | nx a h => exact e a h
  | _ => rfl
@[simp ↓] theorem en_ok {a : α} : (R.ok a h).en Q = Q a h := id rfl
@[simp ↓] theorem en_bind {f : α → MH → R β} {Q : β → MH → Prop} : (r.bind f).en Q = r.en fun a h => (f a h).en Q := by cases r <;> rfl
@[simp ↓] theorem en_toS {f : α → MH → RS} : (r.toS f).en N B C T = r.en fun a h => (f a h).en N B C T := by cases r <;> rfl
@[simp ↓] theorem en_seqR {f : Sl → MH → RS} : (q.seq f).en N B C T = q.en (fun s h => Nx f N B C T s h) B C T := by cases q <;> rfl
@[simp ↓] theorem en_nx : (RS.nx s h).en N B C T = N s h := id rfl
@[simp ↓] theorem en_ct : (RS.ct s h).en N B C T = C s h := id rfl
@[simp ↓] theorem en_brk : (RS.brk s h).en N B C T = B s h := id rfl
@[simp ↓] theorem en_ret : (RS.ret d h).en N B C T = T d h := id rfl
@[simp ↓] theorem en_bad : (R.bad : R α).en Q = False := id rfl
@[simp ↓] theorem enS_bad : (RS.bad).en N B C T = False := id rfl
theorem R.en_mono {Q' : α → MH → Prop} (h : r.en Q) (i : ∀ a h, Q a h → Q' a h) : r.en Q' := by
  cases r with
  | ok a h1 => exact i a h1 h
  | _ => exact h
theorem RS.en_mono (h : q.en N B C T) (i1 : ∀ s h, N s h → N' s h) (i2 : ∀ s h, B s h → B' s h) (i3 : ∀ s h, C s h → C' s h) (i4 : ∀ s h, T s h → T' s h) : q.en N' B' C' T' := by
  cases q with
  | nx s1 h1 => exact i1 _ _ h
  | brk s1 h1 => exact i2 _ _ h
  | ct s1 h1 => exact i3 _ _ h
  | ret s1 h1 => exact i4 _ _ h
  | _ => exact h
theorem R.en_ex (h : r.en Q) : ∃ a h1, r = .ok a h1 ∧ Q a h1 := by
  cases r with
  | ok a h1 => exact ⟨a, h1, rfl, h⟩
  | _ => exact h.elim
@[simp ↓] theorem en_ite {c : Prop} [Decidable c] {a b : R α} : (if c then a else b).en Q = if c then a.en Q else b.en Q := by split <;> rfl
@[simp ↓] theorem enS_ite {c : Prop} [Decidable c] {a b : RS} : (if c then a else b).en N B C T = if c then a.en N B C T else b.en N B C T := by split <;> rfl
/-! ### the words -/
end
section
variable {Q : D → MH → Prop} {QB : Bool → MH → Prop} {QA : List D → MH → Prop} {QO : Option Int → MH → Prop} {QI : List D × Gd → MH → Prop} {N B C : Sl → MH → Prop} {T : D → MH → Prop} {s : Sl} {h : MH} {d : D}
variable {i j l n : Nat} {a b c : ME} {ma mb : MA} {ta tb : MT} {sa sb : MS} {f g : F2} {mi : MI} {tg : MG}
@[simp ↓] theorem ev_var : (mVar i s h).en Q = match s[i]? with | some (some d) => Q d h | _ => False := by
  unfold mVar
  split <;> simp_all
@[simp ↓] theorem ev_c : (mC d s h).en Q = Q d h := id rfl
@[simp ↓] theorem ev_op : (mOp f a b s h).en Q = (a s h).en fun x h1 => (b s h1).en fun y h2 => (f x y h2).en Q := en_bind.trans (en_ext fun _ _ => en_bind)
@[simp ↓] theorem ev_neg : (mNeg a s h).en Q = (a s h).en fun x h1 => (opNeg x h1).en Q := en_bind
@[simp ↓] theorem ev_rev : (mRev a s h).en Q = (a s h).en fun x h1 => (opRev x h1).en Q := en_bind
@[simp ↓] theorem ev_nil : (mNil s h).en QA = QA [] h := id rfl
@[simp ↓] theorem ev_cons : (mCons a ma s h).en QA = (a s h).en fun x h1 => (ma s h1).en fun xs h2 => QA (x :: xs) h2 := en_bind.trans (en_ext fun _ _ => en_bind)
@[simp ↓] theorem ev_tup : (mTup ma s h).en Q = (ma s h).en fun xs h1 => if xs.length ≤ sizeLine then Q (.tup xs) h1 else False := en_bind.trans (en_ext fun _ _ => en_ite)
@[simp ↓] theorem ev_lst : (mLst ma s h).en Q = (ma s h).en fun xs h1 => if xs.length ≤ sizeLine then Q (.lst xs) h1 else False := en_bind.trans (en_ext fun _ _ => en_ite)
@[simp ↓] theorem ev_lstH : (mLstH ma s h).en Q = (ma s h).en fun xs h1 => if xs.length ≤ sizeLine then Q (.ref h1.next) (h1.new (.lst xs)) else False := en_bind.trans (en_ext fun _ _ => en_ite)
@[simp ↓] theorem ev_if : (mIf ta a b s h).en Q = (ta s h).en fun k h1 => if k = true then (a s h1).en Q else (b s h1).en Q := en_bind.trans (en_ext fun _ _ => en_ite)
@[simp ↓] theorem en_asB {r : R D} : (asB r).en QB = r.en fun d h => match d with | .bl b => QB b h | _ => False := en_bind.trans (en_ext fun d h => by cases d <;> rfl)
@[simp ↓] theorem ev_mAsB : (mAsB a s h).en QB = (a s h).en fun d h => match d with | .bl b => QB b h | _ => False := en_asB
@[simp ↓] theorem ev_chain : (mChain f g a b c s h).en Q = (a s h).en fun x h1 => (b s h1).en fun y h2 => (f x y h2).en fun d h3 => match d with | .bl true => (c s h3).en fun z h4 => (g y z h4).en Q | .bl false => Q (.bl false) h3 | _ => False :=
  en_bind.trans (en_ext fun _ _ => en_bind.trans (en_ext fun _ _ => en_bind.trans (en_asB.trans (en_ext fun d h3 => by
    cases d with
    | bl k =>
      cases k with
      | true => exact en_ite.trans ((if_pos rfl).trans en_bind)
      | false => exact en_ite.trans (if_neg Bool.false_ne_true)
    | _ => rfl))))
@[simp ↓] theorem ev_truth : (mTruth a s h).en QB = (a s h).en fun d h1 => (truth d h1).en QB := en_bind
@[simp ↓] theorem ev_and : (mAnd ta tb s h).en QB = (ta s h).en fun k h1 => if k = true then (tb s h1).en QB else QB false h1 := en_bind.trans (en_ext fun _ _ => en_ite)
@[simp ↓] theorem ev_or : (mOr ta tb s h).en QB = (ta s h).en fun k h1 => if k = true then QB true h1 else (tb s h1).en QB := en_bind.trans (en_ext fun _ _ => en_ite)
@[simp ↓] theorem ev_not : (mNot ta s h).en QB = (ta s h).en fun k h1 => QB (!k) h1 := en_bind
@[simp ↓] theorem ev_andV : (mAndV a b s h).en Q = (a s h).en fun d h => match d with | .bl true => (b s h).en Q | .bl false => Q (.bl false) h | _ => False :=
  en_bind.trans (en_asB.trans (en_ext fun d h => by cases d with
    | bl k => cases k <;> rfl
    | _ => rfl))
@[simp ↓] theorem ev_orV : (mOrV a b s h).en Q = (a s h).en fun d h => match d with | .bl true => Q (.bl true) h | .bl false => (b s h).en Q | _ => False :=
  en_bind.trans (en_asB.trans (en_ext fun d h => by cases d with
    | bl k => cases k <;> rfl
    | _ => rfl))
@[simp ↓] theorem ev_notV : (mNotV a s h).en Q = (a s h).en fun d h => match d with | .bl b => Q (.bl !b) h | _ => False := en_bind.trans en_asB
@[simp ↓] theorem ev_noPart : (mNoPart s h).en QO = QO none h := id rfl
@[simp ↓] theorem ev_part : (mPart a s h).en QO = (a s h).en fun d h1 => match d with | .int i => QO (some i) h1 | _ => False := en_bind.trans (en_ext fun d h => by cases d <;> rfl)
@[simp ↓] theorem ev_cut {p : D → Option Int → Option Int → MH → R D} {lo hi : MO'} : (mCut p a lo hi s h).en Q = (a s h).en fun d h1 => (lo s h1).en fun l h2 => (hi s h2).en fun u h3 => (p d l u h3).en Q :=
  en_bind.trans (en_ext fun _ _ => en_bind.trans (en_ext fun _ _ => en_bind))
@[simp ↓] theorem ev_callB {p : FB} : (mCallB p ma s h).en Q = (ma s h).en fun ds h1 => (p ds h1).en Q := en_bind
@[simp ↓] theorem ev_meth {t : String} {p : FM} : (mMeth t p a ma s h).en Q = (a s h).en fun d h1 => if kindIs t d h1 = true then (ma s h1).en fun ds h2 => (p d ds h2).en Q else False :=
  en_bind.trans (en_ext fun _ _ => en_ite.trans (by rw [en_bind]; rfl))
@[simp ↓] theorem ev_call {F : Fn} {dv : List D} : (mCall n F dv ma s h).en Q = (ma s h).en fun ds h1 => if ds.length + dv.length = n then (F (ds ++ dv) h1).en Q else False := en_bind.trans (en_ext fun _ _ => en_ite)
@[simp ↓] theorem ev_callK {F : Fn} {gd : List D → List D → List D} : (mCallK n l i F gd ma mb s h).en Q = (ma s h).en fun ds h1 => (mb s h1).en fun es h2 => if ds.length = n ∧ es.length = l ∧ (gd ds es).length = i then (F (gd ds es) h2).en Q else False :=
  en_bind.trans (en_ext fun _ _ => en_bind.trans (en_ext fun _ _ => en_ite))
@[simp] theorem ev_gKw {xs ys : List D} : gKw xs ys = xs ++ ys := id rfl
@[simp ↓] theorem ev_lc {vs : List Nat} {mt : MT} {fin : Fn1} : (mLc mi vs tg mt a fin s h).en Q = (mi s h).en fun p h1 => (compLoop p.2 tg mt a (wipeM s vs) p.1 [] h1).en fun xs h2 => (fin xs h2).en Q :=
  en_bind.trans (en_bind)
@[simp ↓] theorem ev_iter : (mIter a s h).en QI = (a s h).en fun d h1 => (itOf d h1).en QI := en_bind
@[simp ↓] theorem ev_range1 : (mRange1 a s h).en QI = (a s h).en fun d h1 => match d with | .int j => if -4611686018427387904 ≤ j ∧ j < 4611686018427387904 then QI (rangeD 0 j.toNat, none) h1 else False | _ => False := en_bind.trans (en_ext fun d h => by
  cases d <;> first | rfl | exact en_ite)
@[simp ↓] theorem ev_range2 : (mRange2 a b s h).en QI = (a s h).en fun d h1 => (b s h1).en fun e h2 => match d, e with
  | .int i, .int j => if -4611686018427387904 ≤ i ∧ i < 4611686018427387904 ∧ -4611686018427387904 ≤ j ∧ j < 4611686018427387904 then QI (rangeD i (j - i).toNat, none) h2 else False
  | _, _ => False := en_bind.trans (en_ext fun d h => en_bind.trans (en_ext fun e h => by
  cases d <;> first | rfl | (cases e <;> first | rfl | exact en_ite)))
@[simp ↓] theorem ev_skip : (mSkip s h).en N B C T = N s h := id rfl
@[simp ↓] theorem ev_seq : (mSeq sa sb s h).en N B C T = (sa s h).en (fun s h => Nx sb N B C T s h) B C T := en_seqR
@[simp ↓] theorem ev_break : (mBreak s h).en N B C T = B s h := id rfl
@[simp ↓] theorem ev_cont : (mCont s h).en N B C T = C s h := id rfl
@[simp ↓] theorem ev_ret : (mRet a s h).en N B C T = (a s h).en fun d h1 => T d h1 := en_toS
@[simp ↓] theorem ev_retN : (mRetN s h).en N B C T = T .non h := id rfl
/-- a value that is handed back -/
def ret1 (d : D) (h : MH) (T : D → MH → Prop) (_ : Bx T := ⟨⟩) : Prop := match d with
  | .ref n => match h.get n with
    | some (.lst xs) => T (.lst xs) (h.drop n)
    | none => False
  | d => T d h
@[simp ↓] theorem ev_retF : (mRetF a s h).en N B C T = (a s h).en fun d h1 => ret1 d h1 T := en_toS.trans (en_ext fun d h => by
  cases d with
  | ref n =>
    unfold ret1
    simp only
    cases e : h.get n with
    | none => rfl
    | some o => cases o; rfl
  | _ => rfl)
@[simp ↓] theorem ret1_int {i : Int} : ret1 (.int i) h T = T (.int i) h := id rfl
@[simp ↓] theorem ret1_bl {i : Bool} : ret1 (.bl i) h T = T (.bl i) h := id rfl
@[simp ↓] theorem ret1_str {i : Str} : ret1 (.str i) h T = T (.str i) h := id rfl
@[simp ↓] theorem ret1_non : ret1 .non h T = T .non h := id rfl
@[simp ↓] theorem ret1_tup {xs : List D} : ret1 (.tup xs) h T = T (.tup xs) h := id rfl
@[simp ↓] theorem ret1_lst {xs : List D} : ret1 (.lst xs) h T = T (.lst xs) h := id rfl
theorem ret1_ref {xs : List D} (e : h.get n = some (.lst xs)) : ret1 (.ref n) h T = T (.lst xs) (h.drop n) := by
  unfold ret1
  simp only [e]
@[simp ↓] theorem ev_ifS : (mIfS ta sa sb s h).en N B C T = (ta s h).en fun k h1 => if k = true then (sa s h1).en N B C T else (sb s h1).en N B C T := en_toS.trans (en_ext fun _ _ => enS_ite)
@[simp ↓] theorem ev_do : (mDo a s h).en N B C T = (a s h).en fun _ h1 => N s h1 := en_toS
@[simp ↓] theorem ev_set : (mSet i a s h).en N B C T = (a s h).en fun d h1 => N (s.set i (some d)) h1 := en_toS
@[simp ↓] theorem ev_unpack : (mUnpack tg a s h).en N B C T = (a s h).en fun d h1 => match tg d s with | some s1 => N s1 h1 | none => False := en_toS.trans (en_ext fun d h => by
  show RS.en (match tg d s with | some s1 => RS.nx s1 h | none => RS.bad) N B C T = _
  split <;> rfl)
@[simp ↓] theorem ev_par2 : (mPar2 i j a b s h).en N B C T = (a s h).en fun x h1 => (b s h1).en fun y h2 => N ((s.set i (some x)).set j (some y)) h2 := en_toS.trans (en_ext fun _ _ => en_toS)
@[simp ↓] theorem ev_par3 : (mPar3 i j l a b c s h).en N B C T = (a s h).en fun x h1 => (b s h1).en fun y h2 => (c s h2).en fun z h3 => N (((s.set i (some x)).set j (some y)).set l (some z)) h3 := en_toS.trans (en_ext fun _ _ => en_toS.trans (en_ext fun _ _ => en_toS))
@[simp ↓] theorem ev_setSub {p : D → D → D → MH → R Unit} : (mSetSub p a b c s h).en N B C T = (c s h).en fun c h1 => (a s h1).en fun a h2 => (b s h2).en fun b h3 => (p a b c h3).en fun _ h4 => N s h4 :=
  en_toS.trans (en_ext fun _ _ => en_toS.trans (en_ext fun _ _ => en_toS.trans (en_ext fun _ _ => en_toS)))
@[simp ↓] theorem ev_augSub {st : D → D → D → MH → R Unit} : (mAugSub g f st a b c s h).en N B C T = (a s h).en fun a h1 => (b s h1).en fun b h2 => (g a b h2).en fun x h3 => (c s h3).en fun y h4 => (f x y h4).en fun z h5 => (st a b z h5).en fun _ h6 => N s h6 :=
  en_toS.trans (en_ext fun _ _ => en_toS.trans (en_ext fun _ _ => en_toS.trans (en_ext fun _ _ => en_toS.trans (en_ext fun _ _ => en_toS.trans (en_ext fun _ _ => en_toS)))))
@[simp ↓] theorem ev_aug : (mAug i f a s h).en N B C T = match s[i]? with | some (some x) => (a s h).en fun y h1 => (f x y h1).en fun z h2 => N (s.set i (some z)) h2 | _ => False := by
  unfold mAug
  cases e : s[i]? with
  | none => rfl
  | some o =>
    cases o with
    | none => rfl
    | some x => exact en_toS.trans (en_ext fun _ _ => en_toS)
@[simp ↓] theorem ev_for : (mFor mi tg sa s h).en N B C T = (mi s h).en fun p h1 => (forLoop p.2 tg sa p.1 s h1).en N B C T := en_toS
@[simp] theorem ev_mgName : mgName i d s = some (s.set i (some d)) := id rfl
@[simp ↓] theorem ev_finL {xs : List D} : (finL xs h).en Q = Q (.lst xs) h := id rfl
@[simp ↓] theorem ev_finH {xs : List D} : (finH xs h).en Q = Q (.ref h.next) (h.new (.lst xs)) := id rfl
@[simp ↓] theorem ev_yes : (mYes s h).en QB = QB true h := id rfl
@[simp] theorem ev_gnil : mgNil [] s = some s := id rfl
@[simp] theorem ev_gcons {u : MG} {us : MGs} {ds : List D} : mgCons u us (d :: ds) s = (u d s).bind (us ds) := id rfl
@[simp] theorem ev_gtupL {us : MGs} {xs : List D} : mgTup n us (.lst xs) s = if xs.length = n then us xs s else none := id rfl
@[simp] theorem ev_gtup {us : MGs} {xs : List D} : mgTup n us (.tup xs) s = if xs.length = n then us xs s else none := id rfl
end
/-! ### heaps -/
section
variable {h h' : MH} {m n N : Nat} {o o' : MO} {d : D}
@[simp] theorem get_set : (h.set n o).get m = if m = n then some o else h.get m := id rfl
@[simp] theorem next_set : (h.set n o).next = h.next := id rfl
@[simp] theorem get_new : (h.new o).get m = if m = h.next then some o else h.get m := id rfl
@[simp] theorem next_new : (h.new o).next = h.next + 1 := id rfl
@[simp] theorem get_drop : (h.drop n).get m = if m = n then none else h.get m := id rfl
@[simp] theorem next_drop : (h.drop n).next = h.next := id rfl
theorem MH.ext' {h h' : MH} (e : ∀ n, h.get n = h'.get n) (e2 : h.next = h'.next) : h = h' := by
  cases h; cases h'
  have : _ = _ := funext e
  simp only at this e2
  subst this e2; rfl
@[simp] theorem set_set : (h.set n o).set n o' = h.set n o' := MH.ext' (fun m => by simp only [get_set]; split <;> rfl) rfl
@[simp] theorem new_set : (h.new o).set h.next o' = h.new o' := MH.ext' (fun m => by simp only [get_set, get_new]; split <;> rfl) rfl
theorem set_new (hn : n ≠ h.next) : (h.new o).set n o' = (h.set n o').new o := MH.ext' (fun m => by
  show (if m = n then some o' else if m = h.next then some o else h.get m) = if m = h.next then some o else if m = n then some o' else h.get m
  by_cases e1 : m = n
  · subst e1
    rw [if_pos rfl, if_neg hn, if_pos rfl]
  · rw [if_neg e1, if_neg e1]) rfl
structure Tidy (h : MH) : Prop where
  out : ∀ m, h.next ≤ m → h.get m = none
  bd : ∀ m o, h.get m = some o → o.bd h.next = true
theorem Tidy.zero : Tidy MH.zero := ⟨fun _ _ => rfl, fun m o e => by cases e⟩
theorem Tidy.lt (t : Tidy h) (e : h.get n = some o) : n < h.next := by
  by_cases z : n < h.next
  · exact z
  · rw [t.out n (by omega)] at e; cases e
theorem Tidy.set (t : Tidy h) (hn : n < h.next) (ho : o.bd h.next = true) : Tidy (h.set n o) := ⟨fun m hm => by
  have hm' : h.next ≤ m := hm
  rw [get_set, if_neg (by omega)]; exact t.out m hm', fun m o' e => by
  rw [get_set] at e
  split at e
  · cases e; exact ho
  · exact t.bd m o' e⟩
mutual
theorem bd_mono {N M : Nat} (hm : N ≤ M) : ∀ {d : D}, d.bd N = true → d.bd M = true
  | .ref n, e => by simp only [D.bd, decide_eq_true_eq] at e ⊢; omega
  | .tup xs, e => by simp only [D.bd] at e ⊢; exact bds_mono hm e
  | .lst xs, e => by simp only [D.bd] at e ⊢; exact bds_mono hm e
  | .non, _ | .bl _, _ | .int _, _ | .str _, _ | .raw _, _ | .scr _, _ => rfl
theorem bds_mono {N M : Nat} (hm : N ≤ M) : ∀ {ds : List D}, bds N ds = true → bds M ds = true
  | [], _ => rfl
  | d :: ds, e => by
    simp only [bds, Bool.and_eq_true] at e ⊢
    exact ⟨bd_mono hm e.1, bds_mono hm e.2⟩
end
theorem MO.bd_mono {N M : Nat} (hm : N ≤ M) : ∀ {o : MO}, o.bd N = true → o.bd M = true
  | .lst xs, e => bds_mono hm (ds := xs) e
theorem Tidy.new (t : Tidy h) (ho : o.bd (h.next + 1) = true) : Tidy (h.new o) := ⟨fun m hm => by
  have hm' : h.next + 1 ≤ m := hm
  rw [get_new, if_neg (by omega)]; exact t.out m (by omega), fun m o' e => by
  rw [get_new] at e
  split at e
  · cases e; exact ho
  · exact MO.bd_mono (Nat.le_succ _) (t.bd m o' e)⟩
@[simp] theorem cut_new (hn : N ≤ h.next) : (h.new o).cut N = h.cut N := MH.ext' (fun m => by
  show (if m < N then (h.new o).get m else none) = if m < N then h.get m else none
  split
  · rw [get_new, if_neg (by omega)]
  · rfl) rfl
theorem cut_drop (hn : N ≤ n) : (h.drop n).cut N = h.cut N := MH.ext' (fun m => by
  show (if m < N then (h.drop n).get m else none) = if m < N then h.get m else none
  split
  · rw [get_drop, if_neg (by omega)]
  · rfl) rfl
theorem cut_self (t : ∀ m, h.next ≤ m → h.get m = none) : h.cut h.next = h := MH.ext' (fun m => by
  show (if m < h.next then h.get m else none) = h.get m
  split
  · rfl
  · exact (t m (by omega)).symm) rfl
/-- a def is left; h2: what was there, as it is now -/
theorem leave_to {h1 h2 : MH} (t : Tidy h2) (e : h2.next = N) (c : h1.cut N = h2) (hd : d.bd N = true) : leave N d h1 = .ok d h2 := by
  unfold leave
  subst c
  rw [if_pos]
  refine ⟨hd, fun n hn o ho => ?_⟩
  have := t.bd n o (show (if n < N then h1.get n else none) = some o by rw [if_pos hn]; exact ho)
  rwa [e] at this
theorem leave_same (t : Tidy h) (hd : d.bd h.next = true) : leave h.next d h = .ok d h := leave_to t rfl (cut_self t.out) hd
end
/-! ### defs, loops -/
section
variable {m : MS} {n : Nat} {ds : List D} {h : MH} {Q : D → MH → Prop}
theorem fn_en (hm : (m (ds.map some ++ List.replicate (n - ds.length) none) h).en (fun _ h1 => (leave h.next .non h1).en Q) (fun _ _ => False) (fun _ _ => False) (fun d h1 => (leave h.next d h1).en Q)) : (fnM n m ds h).en Q := by
  unfold fnM
  cases e : m (ds.map some ++ List.replicate (n - ds.length) none) h <;> rw [e] at hm <;> first | exact hm | exact hm.elim
/-- a def that leaves the heap as it was: what it tells -/
theorem en_eq {d : D} {r : R D} (q : r.en fun d' h' => d' = d ∧ h' = h) : r = .ok d h := by
  obtain ⟨a, h1, e, e1, e2⟩ := R.en_ex q
  rw [e, e1, e2]
variable {g : Gd} {tg : MG} {body : MS} {N B C : Sl → MH → Prop} {T : D → MH → Prop}
theorem for_en (I : List D → Sl → MH → Prop) (hg : ∀ xs s h, I xs s h → gOk g h) (step : ∀ x xs s h, I (x :: xs) s h → ∃ s1, tg x s = some s1 ∧ (body s1 h).en (I xs) N (I xs) T) (fin : ∀ s h, I [] s h → N s h) : ∀ xs s h, I xs s h → (forLoop g tg body xs s h).en N B C T
  | [], s, h, i => by
    unfold forLoop
    rw [if_pos (hg _ _ _ i)]
    exact fin _ _ i
  | x :: xs, s, h, i => by
    unfold forLoop
    rw [if_pos (hg _ _ _ i)]
    obtain ⟨s1, e, q⟩ := step x xs s h i
    rw [e]
    simp only
    cases e2 : body s1 h <;> rw [e2] at q
    · exact for_en I hg step fin xs _ _ q
    · exact q
    · exact for_en I hg step fin xs _ _ q
    · exact q
    · exact q.elim
    · exact q.elim
/-- nothing else is walked -/
theorem forT {xs : List D} {s : Sl} (I : List D → Sl → MH → Prop) (i : I xs s h) (step : ∀ x xs s h, I (x :: xs) s h → ∃ s1, tg x s = some s1 ∧ (body s1 h).en (I xs) N (I xs) T) (fin : ∀ s h, I [] s h → N s h) : (forLoop none tg body xs s h).en N B C T :=
  for_en (g := none) I (fun _ _ _ _ => trivial) step fin xs s h i
variable {tt : MT} {el : ME} {s : Sl}
theorem comp_en {P : List D → MH → Prop} (I : List D → List D → MH → Prop) (hg : ∀ xs acc h, I xs acc h → gOk g h)
    (step : ∀ x xs acc h, I (x :: xs) acc h → ∃ s1, tg x s = some s1 ∧ (tt s1 h).en fun b h1 => if b = true then (el s1 h1).en fun y h2 => acc.length < sizeLine ∧ I xs (acc ++ [y]) h2 else I xs acc h1) (fin : ∀ acc h, I [] acc h → P acc h) :
    ∀ xs acc h, I xs acc h → (compLoop g tg tt el s xs acc h).en P
  | [], acc, h, i => by
    unfold compLoop
    rw [if_pos (hg _ _ _ i)]
    exact fin _ _ i
  | x :: xs, acc, h, i => by
    unfold compLoop
    rw [if_pos (hg _ _ _ i)]
    obtain ⟨s1, e, q⟩ := step x xs acc h i
    rw [e]
    simp only
    obtain ⟨b, h1, e1, q1⟩ := R.en_ex q
    rw [e1]
    simp only
    by_cases hb : b = true
    · rw [if_pos hb] at q1 ⊢
      obtain ⟨y, h2, e2, z, q2⟩ := R.en_ex q1
      rw [e2]
      simp only
      rw [if_pos z]
      exact comp_en I hg step fin xs _ _ q2
    · rw [if_neg hb] at q1 ⊢
      exact comp_en I hg step fin xs _ _ q1
/-- each item by itself, the heap stays -/
theorem comp_map {φ : D → D} : ∀ {xs acc : List D}, (∀ x ∈ xs, ∃ s1, tg x s = some s1 ∧ tt s1 h = .ok true h ∧ el s1 h = .ok (φ x) h) → acc.length + xs.length ≤ sizeLine → compLoop none tg tt el s xs acc h = .ok (acc ++ xs.map φ) h
  | [], acc, _, _ => by
    unfold compLoop
    rw [if_pos (show gOk none h from trivial)]
    simp
  | x :: xs, acc, hx, hz => by
    unfold compLoop
    rw [if_pos (show gOk none h from trivial)]
    obtain ⟨s1, e1, e2, e3⟩ := hx x List.mem_cons_self
    simp only [List.length_cons] at hz
    rw [e1]
    simp only [e2, e3, if_true]
    rw [if_pos (by omega), comp_map (fun y hy => hx y (List.mem_cons_of_mem _ hy)) (by simp; omega)]
    simp
theorem comp_filter {p : D → Bool} {φ : D → D} : ∀ {xs acc : List D}, (∀ x ∈ xs, ∃ s1, tg x s = some s1 ∧ tt s1 h = .ok (p x) h ∧ (p x = true → el s1 h = .ok (φ x) h)) → acc.length + xs.length ≤ sizeLine → compLoop none tg tt el s xs acc h = .ok (acc ++ (xs.filter p).map φ) h
  | [], acc, _, _ => by
    unfold compLoop
    rw [if_pos (show gOk none h from trivial)]
    simp
  | x :: xs, acc, hx, hz => by
    unfold compLoop
    rw [if_pos (show gOk none h from trivial)]
    obtain ⟨s1, e1, e2, e3⟩ := hx x List.mem_cons_self
    simp only [List.length_cons] at hz
    rw [e1]
    simp only [e2]
    cases hp : p x with
    | true =>
      simp only [e3 hp, if_true]
      rw [if_pos (by omega), comp_filter (fun y hy => hx y (List.mem_cons_of_mem _ hy)) (by simp; omega), List.filter_cons_of_pos hp]
      simp
    | false =>
      simp only [Bool.false_eq_true, if_false]
      rw [comp_filter (fun y hy => hx y (List.mem_cons_of_mem _ hy)) (by omega), List.filter_cons_of_neg (by simp [hp])]
end
/-! ### operators -/
section
variable {h : MH} {i j : Int} {x y : Str} {xs ys : List D} {Q : D → MH → Prop} {QB : Bool → MH → Prop} {QU : Unit → MH → Prop} {QI : List D × Gd → MH → Prop} {n k : Nat} {d e : D}
@[simp ↓] theorem o_add : (opAdd (.int i) (.int j) h).en Q = Q (.int (i + j)) h := id rfl
@[simp ↓] theorem o_sub : (opSub (.int i) (.int j) h).en Q = Q (.int (i - j)) h := id rfl
theorem o_mul (hs : smallI i ∨ smallI j) : (opMul (.int i) (.int j) h).en Q = Q (.int (i * j)) h := by
  rw [show opMul (.int i) (.int j) h = .ok (.int (i * j)) h from if_pos (hs.imp id .inl)]; rfl
theorem o_div (hj : 0 < j) (hl : j < 2 ^ 200) : (opDiv (.int i) (.int j) h).en Q = Q (.int (i / j)) h := by
  have h1 : j.natAbs < 2 ^ 200 := by omega
  have h2 : CDivW i j := by
    refine ⟨hj, ?_⟩
    by_cases z : j.natAbs = 0
    · rw [z]; decide
    · have := (Nat.log2_lt z).mpr h1
      omega
  rw [show opDiv (.int i) (.int j) h = .ok (.int (i / j)) h from if_pos h2]; rfl
theorem o_mod (hj : 0 < j) : (opMod (.int i) (.int j) h).en Q = Q (.int (i % j)) h := by
  rw [show opMod (.int i) (.int j) h = .ok (.int (i % j)) h from if_pos hj]; rfl
theorem o_pow (h0 : 0 ≤ j) (h1 : j ≤ 1000000) (h2 : i.natAbs < 2 ^ 64) : (opPow (.int i) (.int j) h).en Q = Q (.int (i ^ j.toNat)) h := by
  rw [show opPow (.int i) (.int j) h = .ok (.int (i ^ j.toNat)) h from if_pos ⟨h0, h1, h2⟩]; rfl
@[simp ↓] theorem c_mod (hj : 0 < j) : (opMod (.int i) (.int j) h).en Q = Q (.int (i % j)) h := o_mod hj
@[simp ↓] theorem c_div (hj : 0 < j) (hl : j < 18446744073709551616) : (opDiv (.int i) (.int j) h).en Q = Q (.int (i / j)) h := o_div hj (Int.lt_trans hl (by decide))
@[simp ↓] theorem c_mulL (h1 : -18446744073709551616 < i) (h2 : i < 18446744073709551616) : (opMul (.int i) (.int j) h).en Q = Q (.int (i * j)) h := o_mul (.inl ⟨h1, h2⟩)
@[simp ↓] theorem c_mulR (h1 : -18446744073709551616 < j) (h2 : j < 18446744073709551616) : (opMul (.int i) (.int j) h).en Q = Q (.int (i * j)) h := o_mul (.inr ⟨h1, h2⟩)
@[simp ↓] theorem c_mulM {p : Int} (h1 : 0 < p) (h2 : p < 18446744073709551616) : (opMul (.int (i % p)) (.int j) h).en Q = Q (.int (i % p * j)) h := o_mul (.inl ⟨by have := Int.emod_nonneg i (by omega : p ≠ 0); omega, by have := Int.emod_lt_of_pos i h1; omega⟩)
@[simp ↓] theorem c_pow (h0 : 0 ≤ j) (h1 : j ≤ 1000000) (h2 : i.natAbs < 18446744073709551616) : (opPow (.int i) (.int j) h).en Q = Q (.int (i ^ j.toNat)) h := o_pow h0 h1 h2
@[simp ↓] theorem o_repI : (opRep (.int i) (.int j) h).en Q = (opMul (.int i) (.int j) h).en Q := id rfl
@[simp ↓] theorem o_lt : (opLt (.int i) (.int j) h).en Q = Q (.bl (decide (i < j))) h := id rfl
@[simp ↓] theorem o_le : (opLe (.int i) (.int j) h).en Q = Q (.bl (decide (i ≤ j))) h := id rfl
@[simp ↓] theorem o_gt : (opGt (.int i) (.int j) h).en Q = Q (.bl (decide (j < i))) h := id rfl
@[simp ↓] theorem o_ge : (opGe (.int i) (.int j) h).en Q = Q (.bl (decide (j ≤ i))) h := id rfl
@[simp ↓] theorem o_iadd : (iopAdd (.int i) (.int j) h).en Q = Q (.int (i + j)) h := id rfl
@[simp ↓] theorem o_isub : (iopSub (.int i) (.int j) h).en Q = Q (.int (i - j)) h := id rfl
@[simp ↓] theorem o_neg : (opNeg (.int i) h).en Q = Q (.int (-i)) h := id rfl
theorem eqP {d e : D} {p q : PyData} (h1 : toD h d = some p) (h2 : toD h e = some q) (s1 : SeqAt.shaped p = true) (s2 : SeqAt.shaped q = true) (ns : ∀ x, d ≠ .str x) : opEq d e h = .ok (.bl (PyData.eqv p q)) h := by
  unfold opEq
  split
  · exact absurd rfl (ns _)
  · rw [h1, h2]
    exact if_pos ⟨s1, s2⟩
theorem neP {d e : D} {p q : PyData} (h1 : toD h d = some p) (h2 : toD h e = some q) (s1 : SeqAt.shaped p = true) (s2 : SeqAt.shaped q = true) (ns : ∀ x, d ≠ .str x) : opNe d e h = .ok (.bl (!PyData.eqv p q)) h := by
  unfold opNe
  split
  · exact absurd rfl (ns _)
  · rw [h1, h2]
    exact if_pos ⟨s1, s2⟩
theorem o_eqP {d e : D} {p q : PyData} (h1 : toD h d = some p) (h2 : toD h e = some q) (s1 : SeqAt.shaped p = true) (s2 : SeqAt.shaped q = true) (ns : ∀ x, d ≠ .str x) : (opEq d e h).en Q = Q (.bl (PyData.eqv p q)) h := by rw [eqP h1 h2 s1 s2 ns]; rfl
theorem o_neP {d e : D} {p q : PyData} (h1 : toD h d = some p) (h2 : toD h e = some q) (s1 : SeqAt.shaped p = true) (s2 : SeqAt.shaped q = true) (ns : ∀ x, d ≠ .str x) : (opNe d e h).en Q = Q (.bl (!PyData.eqv p q)) h := by rw [neP h1 h2 s1 s2 ns]; rfl
theorem eqv_int : PyData.eqv (.int i) (.int j) = decide (i = j) := by simp only [PyData.eqv]; exact Bool.eq_iff_iff.mpr (by simp)
@[simp ↓] theorem o_eqI : (opEq (.int i) (.int j) h).en Q = Q (.bl (decide (i = j))) h := by rw [o_eqP (p := .int i) (q := .int j) rfl rfl rfl rfl (by simp), eqv_int]
@[simp ↓] theorem o_neI : (opNe (.int i) (.int j) h).en Q = Q (.bl (!decide (i = j))) h := by rw [o_neP (p := .int i) (q := .int j) rfl rfl rfl rfl (by simp), eqv_int]
@[simp ↓] theorem o_eqS : (opEq (.str x) (.str y) h).en Q = Q (.bl (decide (x = y))) h := id rfl
@[simp ↓] theorem o_neS : (opNe (.str x) (.str y) h).en Q = Q (.bl (!decide (x = y))) h := id rfl
theorem toPs_ints : ∀ ns : List Int, toPs (ns.map .int) = some (ns.map .int)
  | [] => rfl
  | n :: ns => by simp only [List.map_cons, toPs, toP, toPs_ints ns]
theorem lay_ints : ∀ ns : List Int, PyData.canLayAll0 (ns.map .int) = true
  | [] => rfl
  | n :: ns => by simp only [List.map_cons, PyData.canLayAll0, PyData.canLay0, lay_ints ns, Bool.and_self]
theorem depth_ints : ∀ ns : List Int, PyData.depthAll (ns.map .int) ≤ 1
  | [] => by decide
  | n :: ns => by
    have := depth_ints ns
    simp only [List.map_cons, PyData.depthAll, PyData.depth]
    exact Nat.max_le.mpr ⟨by decide, this⟩
theorem o_eqNil {ns : List Int} : (opEq (.lst (ns.map .int)) (.lst []) h).en Q = Q (.bl (decide (ns = []))) h := by
  have e1 : toD h (.lst (ns.map .int)) = some (.list (ns.map .int)) := by
    show toP (.lst (ns.map .int)) = _
    simp only [toP, toPs_ints, Option.map_some]
  rw [o_eqP e1 (q := .list []) rfl ?_ rfl (by simp)]
  · congr 2
    cases ns with
    | nil => rfl
    | cons n ns => simp [PyData.eqv, PyData.eqvAll]
  · unfold SeqAt.shaped
    simp only [PyData.canLay0, lay_ints, Bool.true_and, decide_eq_true_eq, PyData.depth]
    have := depth_ints ns
    exact decide_eq_true (by omega)
@[simp ↓] theorem t_int : (truth (.int i) h).en QB = QB (i != 0) h := id rfl
@[simp ↓] theorem t_bl {b : Bool} : (truth (.bl b) h).en QB = QB b h := id rfl
/-- items -/
theorem o_ix {z : D} (h1 : seqOf h d = some xs) (h2 : atI xs i = some z) : (opIx d (.int i) h).en Q = Q z h := by
  have : opIx d (.int i) h = .ok z h := by
    unfold opIx
    split
    · simp [seqOf, lstOf] at h1
    · rename_i e1
      cases e1
      rw [h1]
      simp only [h2]
    · rename_i n1 _
      exact (n1 i rfl).elim
  rw [this]; rfl
theorem o_gix {z : D} (h1 : lstOf h d = some xs) (h2 : atI xs i = some z) : (getIxL d (.int i) h).en Q = Q z h := by
  have : getIxL d (.int i) h = .ok z h := by
    unfold getIxL
    simp only [h1, h2]
  rw [this]; rfl
theorem o_six (h1 : h.get n = some (.lst xs)) (h2 : ixN xs.length i = some k) : (setIx (.ref n) (.int i) d h).en QU = QU () (h.set n (.lst (xs.set k d))) := by
  have : setIx (.ref n) (.int i) d h = .ok () (h.set n (.lst (xs.set k d))) := by
    unfold setIx
    simp only [h1, h2]
  rw [this]; rfl
theorem o_len (h1 : seqOf h d = some xs) : (bLen [d] h).en Q = Q (.int (xs.length : Nat)) h := by
  have : bLen [d] h = .ok (.int (xs.length : Nat)) h := by
    unfold bLen
    split
    · rename_i e1
      cases e1
      simp [seqOf, lstOf] at h1
    · rename_i e1
      cases e1
      rw [h1]
    · rename_i n1
      exact absurd rfl (n1 d)
  rw [this]; rfl
theorem o_tuple (h1 : seqOf h d = some xs) : (bTuple [d] h).en Q = Q (.tup xs) h := by
  have : bTuple [d] h = .ok (.tup xs) h := by simp only [bTuple, h1]
  rw [this]; rfl
theorem o_list (h1 : seqOf h d = some xs) : (bList [d] h).en Q = Q (.lst xs) h := by
  have : bList [d] h = .ok (.lst xs) h := by simp only [bList, h1]
  rw [this]; rfl
theorem o_append (h1 : h.get n = some (.lst xs)) (h2 : xs.length < sizeLine) : (lAppend (.ref n) [d] h).en Q = Q .non (h.set n (.lst (xs ++ [d]))) := by
  have : lAppend (.ref n) [d] h = .ok .non (h.set n (.lst (xs ++ [d]))) := by
    simp only [lAppend, h1]
    exact if_pos h2
  rw [this]; rfl
/-- items by their kinds -/
def pick (xs : List D) (i : Int) (Q : D → MH → Prop) (h : MH) (_ : Bx Q := ⟨⟩) : Prop := match atI xs i with
  | some z => Q z h
  | none => False
theorem pick_some {z : D} (e : atI xs i = some z) : pick xs i Q h = Q z h := by
  unfold pick
  simp only [e]
@[simp ↓] theorem ix_tup : (opIx (.tup xs) (.int i) h).en Q = pick xs i Q h := by
  unfold pick opIx
  simp only [seqOf]
  cases atI xs i <;> rfl
@[simp ↓] theorem ix_lst : (opIx (.lst xs) (.int i) h).en Q = pick xs i Q h := by
  unfold pick opIx
  simp only [seqOf, lstOf]
  cases atI xs i <;> rfl
theorem ix_ref (e : h.get n = some (.lst xs)) : (opIx (.ref n) (.int i) h).en Q = pick xs i Q h := by
  unfold pick opIx
  simp only [seqOf, lstOf, e]
  cases atI xs i <;> rfl
theorem gix_ref (e : h.get n = some (.lst xs)) : (getIxL (.ref n) (.int i) h).en Q = pick xs i Q h := by
  unfold pick getIxL
  simp only [lstOf, e]
  cases atI xs i <;> rfl
@[simp] theorem at_0 {α : Type} {x0 : α} {r : List α} : atI (x0 :: r) 0 = some x0 := by
  have : (0 : Int) < ((x0 :: r).length : Int) := by simp only [List.length_cons, Int.natCast_add]; omega
  unfold atI ixN
  rw [if_pos (by decide), if_pos this]
  rfl
@[simp] theorem at_1 {α : Type} {x0 x1 : α} {r : List α} : atI (x0 :: x1 :: r) 1 = some x1 := by
  have : (1 : Int) < ((x0 :: x1 :: r).length : Int) := by simp only [List.length_cons, Int.natCast_add]; omega
  unfold atI ixN
  rw [if_pos (by decide), if_pos this]
  rfl
@[simp] theorem at_2 {α : Type} {x0 x1 x2 : α} {r : List α} : atI (x0 :: x1 :: x2 :: r) 2 = some x2 := by
  have : (2 : Int) < ((x0 :: x1 :: x2 :: r).length : Int) := by simp only [List.length_cons, Int.natCast_add]; omega
  unfold atI ixN
  rw [if_pos (by decide), if_pos this]
  rfl
@[simp] theorem at_3 {α : Type} {x0 x1 x2 x3 : α} {r : List α} : atI (x0 :: x1 :: x2 :: x3 :: r) 3 = some x3 := by
  have : (3 : Int) < ((x0 :: x1 :: x2 :: x3 :: r).length : Int) := by simp only [List.length_cons, Int.natCast_add]; omega
  unfold atI ixN
  rw [if_pos (by decide), if_pos this]
  rfl
@[simp] theorem at_4 {α : Type} {x0 x1 x2 x3 x4 : α} {r : List α} : atI (x0 :: x1 :: x2 :: x3 :: x4 :: r) 4 = some x4 := by
  have : (4 : Int) < ((x0 :: x1 :: x2 :: x3 :: x4 :: r).length : Int) := by simp only [List.length_cons, Int.natCast_add]; omega
  unfold atI ixN
  rw [if_pos (by decide), if_pos this]
  rfl
@[simp] theorem at_5 {α : Type} {x0 x1 x2 x3 x4 x5 : α} {r : List α} : atI (x0 :: x1 :: x2 :: x3 :: x4 :: x5 :: r) 5 = some x5 := by
  have : (5 : Int) < ((x0 :: x1 :: x2 :: x3 :: x4 :: x5 :: r).length : Int) := by simp only [List.length_cons, Int.natCast_add]; omega
  unfold atI ixN
  rw [if_pos (by decide), if_pos this]
  rfl
@[simp] theorem at_6 {α : Type} {x0 x1 x2 x3 x4 x5 x6 : α} {r : List α} : atI (x0 :: x1 :: x2 :: x3 :: x4 :: x5 :: x6 :: r) 6 = some x6 := by
  have : (6 : Int) < ((x0 :: x1 :: x2 :: x3 :: x4 :: x5 :: x6 :: r).length : Int) := by simp only [List.length_cons, Int.natCast_add]; omega
  unfold atI ixN
  rw [if_pos (by decide), if_pos this]
  rfl
@[simp] theorem at_7 {α : Type} {x0 x1 x2 x3 x4 x5 x6 x7 : α} {r : List α} : atI (x0 :: x1 :: x2 :: x3 :: x4 :: x5 :: x6 :: x7 :: r) 7 = some x7 := by
  have : (7 : Int) < ((x0 :: x1 :: x2 :: x3 :: x4 :: x5 :: x6 :: x7 :: r).length : Int) := by simp only [List.length_cons, Int.natCast_add]; omega
  unfold atI ixN
  rw [if_pos (by decide), if_pos this]
  rfl
@[simp] theorem at_8 {α : Type} {x0 x1 x2 x3 x4 x5 x6 x7 x8 : α} {r : List α} : atI (x0 :: x1 :: x2 :: x3 :: x4 :: x5 :: x6 :: x7 :: x8 :: r) 8 = some x8 := by
  have : (8 : Int) < ((x0 :: x1 :: x2 :: x3 :: x4 :: x5 :: x6 :: x7 :: x8 :: r).length : Int) := by simp only [List.length_cons, Int.natCast_add]; omega
  unfold atI ixN
  rw [if_pos (by decide), if_pos this]
  rfl
@[simp] theorem at_9 {α : Type} {x0 x1 x2 x3 x4 x5 x6 x7 x8 x9 : α} {r : List α} : atI (x0 :: x1 :: x2 :: x3 :: x4 :: x5 :: x6 :: x7 :: x8 :: x9 :: r) 9 = some x9 := by
  have : (9 : Int) < ((x0 :: x1 :: x2 :: x3 :: x4 :: x5 :: x6 :: x7 :: x8 :: x9 :: r).length : Int) := by simp only [List.length_cons, Int.natCast_add]; omega
  unfold atI ixN
  rw [if_pos (by decide), if_pos this]
  rfl
@[simp] theorem at_10 {α : Type} {x0 x1 x2 x3 x4 x5 x6 x7 x8 x9 x10 : α} {r : List α} : atI (x0 :: x1 :: x2 :: x3 :: x4 :: x5 :: x6 :: x7 :: x8 :: x9 :: x10 :: r) 10 = some x10 := by
  have : (10 : Int) < ((x0 :: x1 :: x2 :: x3 :: x4 :: x5 :: x6 :: x7 :: x8 :: x9 :: x10 :: r).length : Int) := by simp only [List.length_cons, Int.natCast_add]; omega
  unfold atI ixN
  rw [if_pos (by decide), if_pos this]
  rfl
@[simp] theorem at_11 {α : Type} {x0 x1 x2 x3 x4 x5 x6 x7 x8 x9 x10 x11 : α} {r : List α} : atI (x0 :: x1 :: x2 :: x3 :: x4 :: x5 :: x6 :: x7 :: x8 :: x9 :: x10 :: x11 :: r) 11 = some x11 := by
  have : (11 : Int) < ((x0 :: x1 :: x2 :: x3 :: x4 :: x5 :: x6 :: x7 :: x8 :: x9 :: x10 :: x11 :: r).length : Int) := by simp only [List.length_cons, Int.natCast_add]; omega
  unfold atI ixN
  rw [if_pos (by decide), if_pos this]
  rfl
@[simp] theorem at_12 {α : Type} {x0 x1 x2 x3 x4 x5 x6 x7 x8 x9 x10 x11 x12 : α} {r : List α} : atI (x0 :: x1 :: x2 :: x3 :: x4 :: x5 :: x6 :: x7 :: x8 :: x9 :: x10 :: x11 :: x12 :: r) 12 = some x12 := by
  have : (12 : Int) < ((x0 :: x1 :: x2 :: x3 :: x4 :: x5 :: x6 :: x7 :: x8 :: x9 :: x10 :: x11 :: x12 :: r).length : Int) := by simp only [List.length_cons, Int.natCast_add]; omega
  unfold atI ixN
  rw [if_pos (by decide), if_pos this]
  rfl
@[simp] theorem at_13 {α : Type} {x0 x1 x2 x3 x4 x5 x6 x7 x8 x9 x10 x11 x12 x13 : α} {r : List α} : atI (x0 :: x1 :: x2 :: x3 :: x4 :: x5 :: x6 :: x7 :: x8 :: x9 :: x10 :: x11 :: x12 :: x13 :: r) 13 = some x13 := by
  have : (13 : Int) < ((x0 :: x1 :: x2 :: x3 :: x4 :: x5 :: x6 :: x7 :: x8 :: x9 :: x10 :: x11 :: x12 :: x13 :: r).length : Int) := by simp only [List.length_cons, Int.natCast_add]; omega
  unfold atI ixN
  rw [if_pos (by decide), if_pos this]
  rfl
@[simp] theorem at_14 {α : Type} {x0 x1 x2 x3 x4 x5 x6 x7 x8 x9 x10 x11 x12 x13 x14 : α} {r : List α} : atI (x0 :: x1 :: x2 :: x3 :: x4 :: x5 :: x6 :: x7 :: x8 :: x9 :: x10 :: x11 :: x12 :: x13 :: x14 :: r) 14 = some x14 := by
  have : (14 : Int) < ((x0 :: x1 :: x2 :: x3 :: x4 :: x5 :: x6 :: x7 :: x8 :: x9 :: x10 :: x11 :: x12 :: x13 :: x14 :: r).length : Int) := by simp only [List.length_cons, Int.natCast_add]; omega
  unfold atI ixN
  rw [if_pos (by decide), if_pos this]
  rfl
@[simp] theorem at_15 {α : Type} {x0 x1 x2 x3 x4 x5 x6 x7 x8 x9 x10 x11 x12 x13 x14 x15 : α} {r : List α} : atI (x0 :: x1 :: x2 :: x3 :: x4 :: x5 :: x6 :: x7 :: x8 :: x9 :: x10 :: x11 :: x12 :: x13 :: x14 :: x15 :: r) 15 = some x15 := by
  have : (15 : Int) < ((x0 :: x1 :: x2 :: x3 :: x4 :: x5 :: x6 :: x7 :: x8 :: x9 :: x10 :: x11 :: x12 :: x13 :: x14 :: x15 :: r).length : Int) := by simp only [List.length_cons, Int.natCast_add]; omega
  unfold atI ixN
  rw [if_pos (by decide), if_pos this]
  rfl
@[simp] theorem at_16 {α : Type} {x0 x1 x2 x3 x4 x5 x6 x7 x8 x9 x10 x11 x12 x13 x14 x15 x16 : α} {r : List α} : atI (x0 :: x1 :: x2 :: x3 :: x4 :: x5 :: x6 :: x7 :: x8 :: x9 :: x10 :: x11 :: x12 :: x13 :: x14 :: x15 :: x16 :: r) 16 = some x16 := by
  have : (16 : Int) < ((x0 :: x1 :: x2 :: x3 :: x4 :: x5 :: x6 :: x7 :: x8 :: x9 :: x10 :: x11 :: x12 :: x13 :: x14 :: x15 :: x16 :: r).length : Int) := by simp only [List.length_cons, Int.natCast_add]; omega
  unfold atI ixN
  rw [if_pos (by decide), if_pos this]
  rfl
@[simp ↓] theorem pk_0 {x0 : D} {r : List D} : pick (x0 :: r) 0 Q h = Q x0 h := pick_some at_0
@[simp ↓] theorem pk_1 {x0 x1 : D} {r : List D} : pick (x0 :: x1 :: r) 1 Q h = Q x1 h := pick_some at_1
@[simp ↓] theorem pk_2 {x0 x1 x2 : D} {r : List D} : pick (x0 :: x1 :: x2 :: r) 2 Q h = Q x2 h := pick_some at_2
@[simp ↓] theorem pk_3 {x0 x1 x2 x3 : D} {r : List D} : pick (x0 :: x1 :: x2 :: x3 :: r) 3 Q h = Q x3 h := pick_some at_3
@[simp ↓] theorem pk_4 {x0 x1 x2 x3 x4 : D} {r : List D} : pick (x0 :: x1 :: x2 :: x3 :: x4 :: r) 4 Q h = Q x4 h := pick_some at_4
@[simp ↓] theorem pk_5 {x0 x1 x2 x3 x4 x5 : D} {r : List D} : pick (x0 :: x1 :: x2 :: x3 :: x4 :: x5 :: r) 5 Q h = Q x5 h := pick_some at_5
@[simp ↓] theorem pk_6 {x0 x1 x2 x3 x4 x5 x6 : D} {r : List D} : pick (x0 :: x1 :: x2 :: x3 :: x4 :: x5 :: x6 :: r) 6 Q h = Q x6 h := pick_some at_6
@[simp ↓] theorem pk_7 {x0 x1 x2 x3 x4 x5 x6 x7 : D} {r : List D} : pick (x0 :: x1 :: x2 :: x3 :: x4 :: x5 :: x6 :: x7 :: r) 7 Q h = Q x7 h := pick_some at_7
@[simp ↓] theorem pk_8 {x0 x1 x2 x3 x4 x5 x6 x7 x8 : D} {r : List D} : pick (x0 :: x1 :: x2 :: x3 :: x4 :: x5 :: x6 :: x7 :: x8 :: r) 8 Q h = Q x8 h := pick_some at_8
@[simp ↓] theorem pk_9 {x0 x1 x2 x3 x4 x5 x6 x7 x8 x9 : D} {r : List D} : pick (x0 :: x1 :: x2 :: x3 :: x4 :: x5 :: x6 :: x7 :: x8 :: x9 :: r) 9 Q h = Q x9 h := pick_some at_9
@[simp ↓] theorem pk_10 {x0 x1 x2 x3 x4 x5 x6 x7 x8 x9 x10 : D} {r : List D} : pick (x0 :: x1 :: x2 :: x3 :: x4 :: x5 :: x6 :: x7 :: x8 :: x9 :: x10 :: r) 10 Q h = Q x10 h := pick_some at_10
@[simp ↓] theorem pk_11 {x0 x1 x2 x3 x4 x5 x6 x7 x8 x9 x10 x11 : D} {r : List D} : pick (x0 :: x1 :: x2 :: x3 :: x4 :: x5 :: x6 :: x7 :: x8 :: x9 :: x10 :: x11 :: r) 11 Q h = Q x11 h := pick_some at_11
@[simp ↓] theorem pk_12 {x0 x1 x2 x3 x4 x5 x6 x7 x8 x9 x10 x11 x12 : D} {r : List D} : pick (x0 :: x1 :: x2 :: x3 :: x4 :: x5 :: x6 :: x7 :: x8 :: x9 :: x10 :: x11 :: x12 :: r) 12 Q h = Q x12 h := pick_some at_12
@[simp ↓] theorem pk_13 {x0 x1 x2 x3 x4 x5 x6 x7 x8 x9 x10 x11 x12 x13 : D} {r : List D} : pick (x0 :: x1 :: x2 :: x3 :: x4 :: x5 :: x6 :: x7 :: x8 :: x9 :: x10 :: x11 :: x12 :: x13 :: r) 13 Q h = Q x13 h := pick_some at_13
@[simp ↓] theorem pk_14 {x0 x1 x2 x3 x4 x5 x6 x7 x8 x9 x10 x11 x12 x13 x14 : D} {r : List D} : pick (x0 :: x1 :: x2 :: x3 :: x4 :: x5 :: x6 :: x7 :: x8 :: x9 :: x10 :: x11 :: x12 :: x13 :: x14 :: r) 14 Q h = Q x14 h := pick_some at_14
@[simp ↓] theorem pk_15 {x0 x1 x2 x3 x4 x5 x6 x7 x8 x9 x10 x11 x12 x13 x14 x15 : D} {r : List D} : pick (x0 :: x1 :: x2 :: x3 :: x4 :: x5 :: x6 :: x7 :: x8 :: x9 :: x10 :: x11 :: x12 :: x13 :: x14 :: x15 :: r) 15 Q h = Q x15 h := pick_some at_15
@[simp ↓] theorem pk_16 {x0 x1 x2 x3 x4 x5 x6 x7 x8 x9 x10 x11 x12 x13 x14 x15 x16 : D} {r : List D} : pick (x0 :: x1 :: x2 :: x3 :: x4 :: x5 :: x6 :: x7 :: x8 :: x9 :: x10 :: x11 :: x12 :: x13 :: x14 :: x15 :: x16 :: r) 16 Q h = Q x16 h := pick_some at_16
@[simp ↓] theorem len_lst : (bLen [.lst xs] h).en Q = Q (.int (xs.length : Nat)) h := o_len rfl
@[simp ↓] theorem len_tup : (bLen [.tup xs] h).en Q = Q (.int (xs.length : Nat)) h := o_len rfl
@[simp ↓] theorem tup_lst : (bTuple [.lst xs] h).en Q = Q (.tup xs) h := id rfl
@[simp ↓] theorem tup_tup : (bTuple [.tup xs] h).en Q = Q (.tup xs) h := id rfl
@[simp ↓] theorem list_lst : (bList [.lst xs] h).en Q = Q (.lst xs) h := id rfl
@[simp ↓] theorem list_tup : (bList [.tup xs] h).en Q = Q (.lst xs) h := id rfl
theorem at_mod {ns : List Int} {c : Int} (h0 : ns ≠ []) : ∃ x, atI (ns.map D.int) (c % (ns.length : Int)) = some (.int x) := by
  have hp : 0 < (ns.length : Int) := by
    have := List.length_pos_iff.mpr h0
    omega
  have h1 := Int.emod_nonneg c (by omega : (ns.length : Int) ≠ 0)
  have h2 := Int.emod_lt_of_pos c hp
  have h3 : (c % (ns.length : Int)).toNat < ns.length := by omega
  refine ⟨ns[(c % (ns.length : Int)).toNat], ?_⟩
  unfold atI ixN
  rw [List.length_map, if_pos h1, if_pos h2]
  show (ns.map D.int)[(c % (ns.length : Int)).toNat]? = _
  rw [List.getElem?_map, List.getElem?_eq_getElem h3]
  rfl
@[simp ↓] theorem it_tup : (itOf (.tup xs) h).en QI = QI (xs, none) h := id rfl
@[simp ↓] theorem it_lst : (itOf (.lst xs) h).en QI = QI (xs, none) h := id rfl
theorem kind_ref (h1 : h.get n = some (.lst xs)) : kindIs "list" (.ref n) h = true := by simp [kindIs, lstOf, h1]
end
end Tb
end

section
set_option maxHeartbeats 4000000
namespace Tb
open PySem PySem.Spec PyProof.Rows L2
/-! ## more of the calculus -/
/-- not to be looked into by simp -/
def Hold (p : Prop) (_ : Bx p := ⟨⟩) : Prop := p
theorem Hold.mk {p : Prop} (h : p) : Hold p := h
section
variable {tg : MG} {body : MS} {N B C : Sl → MH → Prop} {T : D → MH → Prop} {s : Sl} {h : MH}
/-- a walk of range(lo, lo + n) -/
theorem for_range {lo : Int} {n : Nat} (I : Nat → Sl → MH → Prop) (i0 : I 0 s h) (step : ∀ t s h, t < n → I t s h → ∃ s1, tg (.int (lo + t)) s = some s1 ∧ (body s1 h).en (I (t + 1)) N (I (t + 1)) T) (fin : ∀ s h, I n s h → N s h) :
    (forLoop none tg body (rangeD lo n) s h).en N B C T := by
  have aux : ∀ k t s h, t + k = n → I t s h → (forLoop none tg body ((List.range' t k).map fun i => .int (lo + (i : Nat))) s h).en N B C T := by
    intro k
    induction k with
    | zero =>
      intro t s h e i
      obtain rfl : t = n := by omega
      unfold forLoop
      rw [List.range'_zero, List.map_nil]
      simp only
      rw [if_pos (show gOk none h from trivial)]
      exact fin _ _ i
    | succ k ih =>
      intro t s h e i
      rw [List.range'_succ, List.map_cons]
      unfold forLoop
      rw [if_pos (show gOk none h from trivial)]
      obtain ⟨s1, e1, q⟩ := step t s h (by omega) i
      rw [e1]
      simp only
      cases e2 : body s1 h <;> rw [e2] at q
      · exact ih (t + 1) _ _ (by omega) q
      · exact q
      · exact ih (t + 1) _ _ (by omega) q
      · exact q
      · exact q.elim
      · exact q.elim
  have := aux n 0 s h (by omega) i0
  rwa [← List.range_eq_range'] at this
end
/-! ### isinstance -/
@[simp ↓] theorem isi_non_int {h : MH} {Q : D → MH → Prop} : (bIsi [.non, .raw (.ty "int")] h).en Q = Q (.bl false) h := by simp [bIsi, kindOf, isIn]
@[simp ↓] theorem isi_non_str {h : MH} {Q : D → MH → Prop} : (bIsi [.non, .raw (.ty "str")] h).en Q = Q (.bl false) h := by simp [bIsi, kindOf, isIn]
@[simp ↓] theorem isi_non_tuple {h : MH} {Q : D → MH → Prop} : (bIsi [.non, .raw (.ty "tuple")] h).en Q = Q (.bl false) h := by simp [bIsi, kindOf, isIn]
@[simp ↓] theorem isi_non_list {h : MH} {Q : D → MH → Prop} : (bIsi [.non, .raw (.ty "list")] h).en Q = Q (.bl false) h := by simp [bIsi, kindOf, isIn]
@[simp ↓] theorem isi_non_bool {h : MH} {Q : D → MH → Prop} : (bIsi [.non, .raw (.ty "bool")] h).en Q = Q (.bl false) h := by simp [bIsi, kindOf, isIn]
@[simp ↓] theorem isi_non_dict {h : MH} {Q : D → MH → Prop} : (bIsi [.non, .raw (.ty "dict")] h).en Q = Q (.bl false) h := by simp [bIsi, kindOf, isIn]
@[simp ↓] theorem isi_bl_int {b : Bool} {h : MH} {Q : D → MH → Prop} : (bIsi [(.bl b), .raw (.ty "int")] h).en Q = Q (.bl true) h := by simp [bIsi, kindOf, isIn]
@[simp ↓] theorem isi_bl_str {b : Bool} {h : MH} {Q : D → MH → Prop} : (bIsi [(.bl b), .raw (.ty "str")] h).en Q = Q (.bl false) h := by simp [bIsi, kindOf, isIn]
@[simp ↓] theorem isi_bl_tuple {b : Bool} {h : MH} {Q : D → MH → Prop} : (bIsi [(.bl b), .raw (.ty "tuple")] h).en Q = Q (.bl false) h := by simp [bIsi, kindOf, isIn]
@[simp ↓] theorem isi_bl_list {b : Bool} {h : MH} {Q : D → MH → Prop} : (bIsi [(.bl b), .raw (.ty "list")] h).en Q = Q (.bl false) h := by simp [bIsi, kindOf, isIn]
@[simp ↓] theorem isi_bl_bool {b : Bool} {h : MH} {Q : D → MH → Prop} : (bIsi [(.bl b), .raw (.ty "bool")] h).en Q = Q (.bl true) h := by simp [bIsi, kindOf, isIn]
@[simp ↓] theorem isi_bl_dict {b : Bool} {h : MH} {Q : D → MH → Prop} : (bIsi [(.bl b), .raw (.ty "dict")] h).en Q = Q (.bl false) h := by simp [bIsi, kindOf, isIn]
@[simp ↓] theorem isi_int_int {i : Int} {h : MH} {Q : D → MH → Prop} : (bIsi [(.int i), .raw (.ty "int")] h).en Q = Q (.bl true) h := by simp [bIsi, kindOf, isIn]
@[simp ↓] theorem isi_int_str {i : Int} {h : MH} {Q : D → MH → Prop} : (bIsi [(.int i), .raw (.ty "str")] h).en Q = Q (.bl false) h := by simp [bIsi, kindOf, isIn]
@[simp ↓] theorem isi_int_tuple {i : Int} {h : MH} {Q : D → MH → Prop} : (bIsi [(.int i), .raw (.ty "tuple")] h).en Q = Q (.bl false) h := by simp [bIsi, kindOf, isIn]
@[simp ↓] theorem isi_int_list {i : Int} {h : MH} {Q : D → MH → Prop} : (bIsi [(.int i), .raw (.ty "list")] h).en Q = Q (.bl false) h := by simp [bIsi, kindOf, isIn]
@[simp ↓] theorem isi_int_bool {i : Int} {h : MH} {Q : D → MH → Prop} : (bIsi [(.int i), .raw (.ty "bool")] h).en Q = Q (.bl false) h := by simp [bIsi, kindOf, isIn]
@[simp ↓] theorem isi_int_dict {i : Int} {h : MH} {Q : D → MH → Prop} : (bIsi [(.int i), .raw (.ty "dict")] h).en Q = Q (.bl false) h := by simp [bIsi, kindOf, isIn]
@[simp ↓] theorem isi_str_int {x : Str} {h : MH} {Q : D → MH → Prop} : (bIsi [(.str x), .raw (.ty "int")] h).en Q = Q (.bl false) h := by simp [bIsi, kindOf, isIn]
@[simp ↓] theorem isi_str_str {x : Str} {h : MH} {Q : D → MH → Prop} : (bIsi [(.str x), .raw (.ty "str")] h).en Q = Q (.bl true) h := by simp [bIsi, kindOf, isIn]
@[simp ↓] theorem isi_str_tuple {x : Str} {h : MH} {Q : D → MH → Prop} : (bIsi [(.str x), .raw (.ty "tuple")] h).en Q = Q (.bl false) h := by simp [bIsi, kindOf, isIn]
@[simp ↓] theorem isi_str_list {x : Str} {h : MH} {Q : D → MH → Prop} : (bIsi [(.str x), .raw (.ty "list")] h).en Q = Q (.bl false) h := by simp [bIsi, kindOf, isIn]
@[simp ↓] theorem isi_str_bool {x : Str} {h : MH} {Q : D → MH → Prop} : (bIsi [(.str x), .raw (.ty "bool")] h).en Q = Q (.bl false) h := by simp [bIsi, kindOf, isIn]
@[simp ↓] theorem isi_str_dict {x : Str} {h : MH} {Q : D → MH → Prop} : (bIsi [(.str x), .raw (.ty "dict")] h).en Q = Q (.bl false) h := by simp [bIsi, kindOf, isIn]
@[simp ↓] theorem isi_tup_int {xs : List D} {h : MH} {Q : D → MH → Prop} : (bIsi [(.tup xs), .raw (.ty "int")] h).en Q = Q (.bl false) h := by simp [bIsi, kindOf, isIn]
@[simp ↓] theorem isi_tup_str {xs : List D} {h : MH} {Q : D → MH → Prop} : (bIsi [(.tup xs), .raw (.ty "str")] h).en Q = Q (.bl false) h := by simp [bIsi, kindOf, isIn]
@[simp ↓] theorem isi_tup_tuple {xs : List D} {h : MH} {Q : D → MH → Prop} : (bIsi [(.tup xs), .raw (.ty "tuple")] h).en Q = Q (.bl true) h := by simp [bIsi, kindOf, isIn]
@[simp ↓] theorem isi_tup_list {xs : List D} {h : MH} {Q : D → MH → Prop} : (bIsi [(.tup xs), .raw (.ty "list")] h).en Q = Q (.bl false) h := by simp [bIsi, kindOf, isIn]
@[simp ↓] theorem isi_tup_bool {xs : List D} {h : MH} {Q : D → MH → Prop} : (bIsi [(.tup xs), .raw (.ty "bool")] h).en Q = Q (.bl false) h := by simp [bIsi, kindOf, isIn]
@[simp ↓] theorem isi_tup_dict {xs : List D} {h : MH} {Q : D → MH → Prop} : (bIsi [(.tup xs), .raw (.ty "dict")] h).en Q = Q (.bl false) h := by simp [bIsi, kindOf, isIn]
@[simp ↓] theorem isi_lst_int {xs : List D} {h : MH} {Q : D → MH → Prop} : (bIsi [(.lst xs), .raw (.ty "int")] h).en Q = Q (.bl false) h := by simp [bIsi, kindOf, isIn]
@[simp ↓] theorem isi_lst_str {xs : List D} {h : MH} {Q : D → MH → Prop} : (bIsi [(.lst xs), .raw (.ty "str")] h).en Q = Q (.bl false) h := by simp [bIsi, kindOf, isIn]
@[simp ↓] theorem isi_lst_tuple {xs : List D} {h : MH} {Q : D → MH → Prop} : (bIsi [(.lst xs), .raw (.ty "tuple")] h).en Q = Q (.bl false) h := by simp [bIsi, kindOf, isIn]
@[simp ↓] theorem isi_lst_list {xs : List D} {h : MH} {Q : D → MH → Prop} : (bIsi [(.lst xs), .raw (.ty "list")] h).en Q = Q (.bl true) h := by simp [bIsi, kindOf, isIn]
@[simp ↓] theorem isi_lst_bool {xs : List D} {h : MH} {Q : D → MH → Prop} : (bIsi [(.lst xs), .raw (.ty "bool")] h).en Q = Q (.bl false) h := by simp [bIsi, kindOf, isIn]
@[simp ↓] theorem isi_lst_dict {xs : List D} {h : MH} {Q : D → MH → Prop} : (bIsi [(.lst xs), .raw (.ty "dict")] h).en Q = Q (.bl false) h := by simp [bIsi, kindOf, isIn]
/-! ### lists of ints -/
def intsD (ns : List Int) : List D := ns.map .int
@[simp] theorem ints_len {ns : List Int} : (intsD ns).length = ns.length := by simp [intsD]
theorem ints_bd {N : Nat} : ∀ {ns : List Int}, bds N (intsD ns) = true
  | [] => rfl
  | n :: ns => by
    have := ints_bd (N := N) (ns := ns)
    unfold intsD at this ⊢
    simp [bds, D.bd, this]
theorem ints_set {ns : List Int} {j : Nat} {i : Int} : (intsD ns).set j (.int i) = intsD (ns.set j i) := by simp [intsD, List.map_set]
theorem intsD_at {ns : List Int} {j : Nat} {i : Int} (e : ns[j]? = some i) : (intsD ns)[j]? = some (.int i) := by simp [intsD, e]
theorem ixN_pos {n j : Nat} (hj : j < n) : ixN n (j : Int) = some j := by
  unfold ixN
  rw [if_pos (by omega), if_pos (by omega)]
  rfl
theorem at_pos {xs : List D} {j : Nat} {z : D} (e : xs[j]? = some z) : atI xs (j : Int) = some z := by
  unfold atI
  have hj : j < xs.length := (List.getElem?_eq_some_iff.mp e).1
  rw [ixN_pos hj]
  exact e
theorem rangeD_map {n : Nat} {φ : D → D} {f : Nat → Int} (e : ∀ i, i < n → φ (.int (i : Int)) = .int (f i)) : (rangeD 0 n).map φ = intsD ((List.range n).map f) := by
  unfold rangeD intsD
  rw [List.map_map, List.map_map]
  refine List.map_congr_left fun i hi => ?_
  simp only [Function.comp_apply, Int.zero_add]
  exact e i (List.mem_range.mp hi)
theorem mem_rangeD {n : Nat} {x : D} (h : x ∈ rangeD 0 n) : ∃ i : Nat, i < n ∧ x = .int (i : Int) := by
  unfold rangeD at h
  obtain ⟨i, h1, h2⟩ := List.mem_map.mp h
  exact ⟨i, List.mem_range.mp h1, by rw [← h2]; simp⟩
@[simp] theorem rangeD_len {lo : Int} {n : Nat} : (rangeD lo n).length = n := by simp [rangeD]
theorem range_set {n j : Nat} {f g : Nat → Int} (hj : j < n) (e : ∀ i, i < n → i ≠ j → g i = f i) : ((List.range n).map f).set j (g j) = (List.range n).map g := by
  refine List.ext_getElem (by simp) fun i h1 h2 => ?_
  simp only [List.length_set, List.length_map, List.length_range] at h1
  rw [List.getElem_set]
  simp only [List.getElem_map, List.getElem_range]
  split
  · rename_i e1
    subst e1; rfl
  · rename_i e1
    exact (e i h1 (fun z => e1 z.symm)).symm
theorem eqvAll_ints : ∀ {ns ms : List Int}, PyData.eqvAll (ns.map .int) (ms.map .int) = decide (ns = ms)
  | [], [] => rfl
  | [], m :: ms => by simp [PyData.eqvAll]
  | n :: ns, [] => by simp [PyData.eqvAll]
  | n :: ns, m :: ms => by
    simp only [List.map_cons, PyData.eqvAll, eqvAll_ints, PyData.eqv]
    exact Bool.eq_iff_iff.mpr (by simp)
theorem toP_tupI {ns : List Int} {h : MH} : toD h (.tup (intsD ns)) = some (.tuple (ns.map .int)) := by
  show toP (.tup (intsD ns)) = _
  unfold intsD
  simp only [toP, toPs_ints, Option.map_some]
theorem toP_lstI {ns : List Int} {h : MH} : toD h (.lst (intsD ns)) = some (.list (ns.map .int)) := by
  show toP (.lst (intsD ns)) = _
  unfold intsD
  simp only [toP, toPs_ints, Option.map_some]
theorem shaped_tupI {ns : List Int} : SeqAt.shaped (.tuple (ns.map .int)) = true := by
  unfold SeqAt.shaped
  have := depth_ints ns
  simp only [PyData.canLay0, lay_ints, Bool.true_and, PyData.depth]
  exact decide_eq_true (by omega)
theorem shaped_lstI {ns : List Int} : SeqAt.shaped (.list (ns.map .int)) = true := by
  unfold SeqAt.shaped
  have := depth_ints ns
  simp only [PyData.canLay0, lay_ints, Bool.true_and, PyData.depth]
  exact decide_eq_true (by omega)
section
variable {ns ms : List Int} {h : MH} {Q : D → MH → Prop}
@[simp ↓] theorem o_eqTI : (opEq (.tup (intsD ns)) (.tup (intsD ms)) h).en Q = Q (.bl (decide (ns = ms))) h := by
  rw [o_eqP (p := .tuple (ns.map .int)) (q := .tuple (ms.map .int)) toP_tupI toP_tupI shaped_tupI shaped_tupI (by simp)]
  simp only [PyData.eqv, eqvAll_ints]
@[simp ↓] theorem o_neTI : (opNe (.tup (intsD ns)) (.tup (intsD ms)) h).en Q = Q (.bl (!decide (ns = ms))) h := by
  rw [o_neP (p := .tuple (ns.map .int)) (q := .tuple (ms.map .int)) toP_tupI toP_tupI shaped_tupI shaped_tupI (by simp)]
  simp only [PyData.eqv, eqvAll_ints]
@[simp ↓] theorem o_eqLI : (opEq (.lst (intsD ns)) (.lst (intsD ms)) h).en Q = Q (.bl (decide (ns = ms))) h := by
  rw [o_eqP (p := .list (ns.map .int)) (q := .list (ms.map .int)) toP_lstI toP_lstI shaped_lstI shaped_lstI (by simp)]
  simp only [PyData.eqv, eqvAll_ints]
@[simp ↓] theorem o_neLI : (opNe (.lst (intsD ns)) (.lst (intsD ms)) h).en Q = Q (.bl (!decide (ns = ms))) h := by
  rw [o_neP (p := .list (ns.map .int)) (q := .list (ms.map .int)) toP_lstI toP_lstI shaped_lstI shaped_lstI (by simp)]
  simp only [PyData.eqv, eqvAll_ints]
theorem intsOf_ints : ∀ {ns : List Int}, intsOf (intsD ns) = some ns
  | [] => rfl
  | n :: ns => by
    have := intsOf_ints (ns := ns)
    unfold intsD at this ⊢
    simp only [List.map_cons, intsOf, this, Option.map_some]
@[simp ↓] theorem sum_lstI : (bSum [.lst (intsD ns)] h).en Q = Q (.int ns.sum) h := by
  simp only [bSum, seqOf, lstOf, Option.bind_some, intsOf_ints]
  rfl
@[simp ↓] theorem sum_tupI : (bSum [.tup (intsD ns)] h).en Q = Q (.int ns.sum) h := by
  simp only [bSum, seqOf, Option.bind_some, intsOf_ints]
  rfl
theorem max_tupI (hne : ns ≠ []) : (bMax [.tup (intsD ns)] h).en Q = Q (.int (maxI ns)) h := by
  cases ns with
  | nil => exact absurd rfl hne
  | cons n ns =>
    simp only [bMax, seqOf, Option.bind_some, intsOf_ints]
    rfl
theorem min_tupI (hne : ns ≠ []) : (bMin [.tup (intsD ns)] h).en Q = Q (.int (minI ns)) h := by
  cases ns with
  | nil => exact absurd rfl hne
  | cons n ns =>
    simp only [bMin, seqOf, Option.bind_some, intsOf_ints]
    rfl
theorem max_lstI (hne : ns ≠ []) : (bMax [.lst (intsD ns)] h).en Q = Q (.int (maxI ns)) h := by
  cases ns with
  | nil => exact absurd rfl hne
  | cons n ns =>
    simp only [bMax, seqOf, lstOf, Option.bind_some, intsOf_ints]
    rfl
theorem min_lstI (hne : ns ≠ []) : (bMin [.lst (intsD ns)] h).en Q = Q (.int (minI ns)) h := by
  cases ns with
  | nil => exact absurd rfl hne
  | cons n ns =>
    simp only [bMin, seqOf, lstOf, Option.bind_some, intsOf_ints]
    rfl
theorem maxI_spec (hne : ns ≠ []) : maxI ns ∈ ns ∧ ∀ y ∈ ns, y ≤ maxI ns := by
  cases ns with
  | nil => exact absurd rfl hne
  | cons n ns => exact maxI_mem
theorem minI_spec (hne : ns ≠ []) : minI ns ∈ ns ∧ ∀ y ∈ ns, minI ns ≤ y := by
  cases ns with
  | nil => exact absurd rfl hne
  | cons n ns => exact minI_mem
end
@[simp ↓] theorem ev_zip {a b : ME} {s : Sl} {h : MH} {QI : List D × Gd → MH → Prop} : (mZip a b s h).en QI = (a s h).en fun d h1 => (b s h1).en fun e h2 => (zipOf d e h2).en QI := en_bind.trans (en_ext fun _ _ => en_bind)
@[simp ↓] theorem ev_enum {a : ME} {s : Sl} {h : MH} {QI : List D × Gd → MH → Prop} : (mEnum a s h).en QI = (a s h).en fun d h1 => (enumOf d h1).en QI := en_bind
@[simp ↓] theorem zip_tl {xs ys : List D} {h : MH} {QI : List D × Gd → MH → Prop} : (zipOf (.tup xs) (.lst ys) h).en QI = QI (List.zipWith pairD xs ys, none) h := id rfl
@[simp ↓] theorem zip_tt {xs ys : List D} {h : MH} {QI : List D × Gd → MH → Prop} : (zipOf (.tup xs) (.tup ys) h).en QI = QI (List.zipWith pairD xs ys, none) h := id rfl
@[simp ↓] theorem zip_lt {xs ys : List D} {h : MH} {QI : List D × Gd → MH → Prop} : (zipOf (.lst xs) (.tup ys) h).en QI = QI (List.zipWith pairD xs ys, none) h := id rfl
@[simp ↓] theorem zip_ll {xs ys : List D} {h : MH} {QI : List D × Gd → MH → Prop} : (zipOf (.lst xs) (.lst ys) h).en QI = QI (List.zipWith pairD xs ys, none) h := id rfl
@[simp ↓] theorem cut_tup {xs : List D} {lo hi : Option Int} {h : MH} {Q : D → MH → Prop} : (opCut (.tup xs) lo hi h).en Q = Q (.tup (Tb.cutD xs lo hi)) h := id rfl
@[simp ↓] theorem cut_lst {xs : List D} {lo hi : Option Int} {h : MH} {Q : D → MH → Prop} : (opCut (.lst xs) lo hi h).en Q = Q (.lst (Tb.cutD xs lo hi)) h := id rfl
theorem add_tup {xs ys : List D} {h : MH} {Q : D → MH → Prop} (hz : xs.length + ys.length ≤ sizeLine) : (opAdd (.tup xs) (.tup ys) h).en Q = Q (.tup (xs ++ ys)) h := by
  rw [show opAdd (.tup xs) (.tup ys) h = .ok (.tup (xs ++ ys)) h from if_pos hz]
  rfl
/-! ### what repr tells -/
mutual
/-- numbers and texts that repr shows -/
def D.plain : D → Bool
  | .non | .bl _ => true
  | .int i => decide (i.natAbs < 2 ^ 700)
  | .str x => PyData.canLay0 (.str x)
  | .tup xs | .lst xs => plains xs
  | _ => false
def plains : List D → Bool
  | [] => true
  | x :: xs => x.plain && plains xs
end
mutual
/-- no less than what repr takes -/
def D.wt : D → Nat
  | .str x => 10 * x.length + 2
  | .tup xs | .lst xs => wts xs + 3
  | _ => 702
def wts : List D → Nat
  | [] => 0
  | x :: xs => x.wt + 2 + wts xs
end
mutual
def D.deep : D → Nat
  | .tup xs | .lst xs => deeps xs + 1
  | _ => 0
def deeps : List D → Nat
  | [] => 0
  | x :: xs => max x.deep (deeps xs)
end
structure Shown (d : D) (p : PyData) : Prop where
  to : toP d = some p
  can : p.showable = true
  len : p.shown.length ≤ d.wt
  lay : p.canLay0 = true
  dep : p.depth = d.deep
structure ShownAll (ds : List D) (ps : List PyData) : Prop where
  to : toPs ds = some ps
  can : PyData.showableAll ps = true
  len : ((PyData.shownAll ps).map (·.length)).sum + 2 * (PyData.shownAll ps).length ≤ wts ds
  lay : PyData.canLayAll0 ps = true
  dep : PyData.depthAll ps = deeps ds
mutual
theorem shown_of : ∀ {d : D}, d.plain = true → ∃ p, Shown d p
  | .non, _ => ⟨.none, rfl, rfl, by decide +kernel, rfl, rfl⟩
  | .bl b, _ => ⟨.bool b, rfl, rfl, by cases b <;> decide +kernel, rfl, rfl⟩
  | .int i, h => by
    have h1 : i.natAbs < 2 ^ 700 := by simpa [D.plain] using h
    have h2 : i.natAbs.log2 < 701 := by
      by_cases z : i.natAbs = 0
      · rw [z]; decide
      · have := (Nat.log2_lt z).mpr h1
        omega
    refine ⟨.int i, rfl, ?_, ?_, rfl, rfl⟩
    · simp only [PyData.showable, decide_eq_true_eq]
      omega
    · show (PySem.Str.ofString (toString i)).length ≤ 702
      rw [PySem.ofString_length]
      exact PySem.int_text_length_le (k := 701) (by decide) h2
  | .str x, h => by
    have h1 : PyData.canLay0 (.str x) = true := by simpa only [D.plain] using h
    refine ⟨.str x, rfl, rfl, ?_, h1, rfl⟩
    refine PySem.StrLaws.reprText_len x fun c hc => ?_
    have h2 : x.cps.all (· < 0x110000) = true := h1
    rw [Array.all_eq_true_iff_forall_mem] at h2
    have := of_decide_eq_true (h2 c (Array.mem_def.mpr hc))
    omega
  | .tup xs, h => by
    obtain ⟨ps, h1⟩ := showns_of (ds := xs) (by simpa only [D.plain] using h)
    refine ⟨.tuple ps, by simp only [toP, h1.to, Option.map_some], h1.can, ?_, h1.lay, by simp only [PyData.depth, D.deep, h1.dep]⟩
    have := PySem.tupleText_len_le (PyData.shownAll ps)
    have := h1.len
    simp only [PyData.shown, D.wt]
    omega
  | .lst xs, h => by
    obtain ⟨ps, h1⟩ := showns_of (ds := xs) (by simpa only [D.plain] using h)
    refine ⟨.list ps, by simp only [toP, h1.to, Option.map_some], h1.can, ?_, h1.lay, by simp only [PyData.depth, D.deep, h1.dep]⟩
    have := PySem.listText_len_le (PyData.shownAll ps)
    have := h1.len
    simp only [PyData.shown, D.wt]
    omega
  | .ref _, h => by simp [D.plain] at h
  | .raw _, h => by simp [D.plain] at h
  | .scr _, h => by simp [D.plain] at h
theorem showns_of : ∀ {ds : List D}, plains ds = true → ∃ ps, ShownAll ds ps
  | [], _ => ⟨[], rfl, rfl, by simp [PyData.shownAll, wts], rfl, rfl⟩
  | d :: ds, h => by
    simp only [plains, Bool.and_eq_true] at h
    obtain ⟨p, h1⟩ := shown_of h.1
    obtain ⟨ps, h2⟩ := showns_of h.2
    refine ⟨p :: ps, by simp only [toPs, h1.to, h2.to], by simp only [PyData.showableAll, h1.can, h2.can, Bool.and_self], ?_, by simp only [PyData.canLayAll0, h1.lay, h2.lay, Bool.and_self], by simp only [PyData.depthAll, deeps, h1.dep, h2.dep]⟩
    have := h1.len
    have := h2.len
    simp only [PyData.shownAll, List.map_cons, List.sum_cons, List.length_cons, wts]
    omega
end
/-- what repr tells of it -/
noncomputable def txt (d : D) : Str := ((toP d).map PyData.shown).getD ⟨#[]⟩
theorem o_repr {d : D} {h : MH} {Q : D → MH → Prop} (hp : d.plain = true) (hw : d.wt ≤ sizeLine) (hd : d.deep ≤ 64) : (bRepr [d] h).en Q = Q (.str (txt d)) h := by
  obtain ⟨p, h1⟩ := shown_of hp
  have e1 : toD h d = some p := by
    cases d <;> first | exact h1.to | (simp [D.plain] at hp; done)
  have e2 : bRepr [d] h = .ok (.str p.shown) h := by
    simp only [bRepr, e1]
    refine if_pos ⟨h1.can, Nat.le_trans h1.len hw, ?_⟩
    unfold SeqAt.shaped
    rw [h1.lay, h1.dep]
    simpa using hd
  rw [e2]
  show Q (.str p.shown) h = _
  unfold txt
  rw [h1.to]
  rfl
/-- a held list -/
theorem o_reprH {n : Nat} {xs : List D} {h : MH} {Q : D → MH → Prop} (e : h.get n = some (.lst xs)) (hp : (D.lst xs).plain = true) (hw : (D.lst xs).wt ≤ sizeLine) (hd : (D.lst xs).deep ≤ 64) : (bRepr [.ref n] h).en Q = Q (.str (txt (.lst xs))) h := by
  rw [← o_repr (h := h) (Q := Q) hp hw hd]
  have e1 : toD h (.ref n) = toD h (.lst xs) := by
    simp only [toD, e, toP]
  have e2 : bRepr [.ref n] h = bRepr [.lst xs] h := by simp only [bRepr, e1]
  rw [e2]
theorem ints_plain {ns : List Int} (h : ∀ n ∈ ns, n.natAbs < 2 ^ 700) : plains (intsD ns) = true := by
  induction ns with
  | nil => rfl
  | cons n ns ih =>
    simp only [intsD, List.map_cons, plains, Bool.and_eq_true, D.plain, decide_eq_true_eq]
    exact ⟨h n List.mem_cons_self, ih fun m hm => h m (List.mem_cons_of_mem _ hm)⟩
theorem ints_wt {ns : List Int} : wts (intsD ns) = 704 * ns.length := by
  induction ns with
  | nil => rfl
  | cons n ns ih =>
    unfold intsD at ih
    simp only [intsD, List.map_cons, wts, D.wt, List.length_cons, ih]
    omega
theorem ints_deep {ns : List Int} : deeps (intsD ns) = 0 := by
  induction ns with
  | nil => rfl
  | cons n ns ih =>
    unfold intsD at ih
    simp only [intsD, List.map_cons, deeps, D.deep, ih]
    rfl
end Tb
end

section
set_option maxHeartbeats 4000000
namespace Tb
open PySem PySem.Spec PyProof.Rows L2
/-! # a layer without a heap: names hold lists by their values -/
inductive PR (α : Type) where
  | ok (a : α) (s : Sl)
  | exc (e : Ex)
  | bad
def PR.bind {α β : Type} (r : PR α) (f : α → Sl → PR β) : PR β := match r with
  | .ok a s => f a s
  | .exc e => .exc e
  | .bad => .bad
inductive PZ where
  | nx (s : Sl)
  | brk (s : Sl)
  | ct (s : Sl)
  | ret (d : D) (s : Sl)
  | exc (e : Ex)
  | bad
def PZ.seq (r : PZ) (f : Sl → PZ) : PZ := match r with
  | .nx s => f s
  | r => r
def PR.toZ {α : Type} (r : PR α) (f : α → Sl → PZ) : PZ := match r with
  | .ok a s => f a s
  | .exc e => .exc e
  | .bad => .bad
/-- what an operator of the mirrors tells where nothing is held -/
def zr {α : Type} (r : R α) (s : Sl) : PR α := match r with
  | .ok a _ => .ok a s
  | .exc e _ => .exc e
  | .bad => .bad
mutual
/-- it refers to nothing -/
def D.nr : D → Bool
  | .ref _ => false
  | .tup xs => nrs xs
  | .lst xs => nrs xs
  | _ => true
def nrs : List D → Bool
  | [] => true
  | x :: xs => x.nr && nrs xs
end
theorem nrs_iff : ∀ {xs : List D}, nrs xs = true ↔ ∀ x ∈ xs, x.nr = true
  | [] => by simp [nrs]
  | x :: xs => by simp [nrs, nrs_iff (xs := xs)]
def Ex.nr (e : Ex) : Prop := ∀ p ∈ e.fs, p.2.nr = true
class Nrm (α : Type) where
  ok : α → Prop
instance : Nrm D := ⟨fun d => d.nr = true⟩
instance : Nrm (List D) := ⟨fun d => nrs d = true⟩
instance : Nrm Bool := ⟨fun _ => True⟩
instance : Nrm Unit := ⟨fun _ => True⟩
instance : Nrm (Option Int) := ⟨fun _ => True⟩
/-- a held list, and its value -/
def Hd (h : MH) (d p : D) : Prop := ∃ n xs, d = .ref n ∧ n < h.next ∧ h.get n = some (.lst xs) ∧ p = .lst xs ∧ nrs xs = true
/-- a thing that is read -/
def Rv (h : MH) (d p : D) : Prop := (d = p ∧ p.nr = true) ∨ Hd h d p
def RvL (h : MH) : List D → List D → Prop
  | [], [] => True
  | d :: ds, p :: ps => Rv h d p ∧ RvL h ds ps
  | _, _ => False
structure Up (h h' : MH) : Prop where
  get : ∀ n, n < h.next → h'.get n = h.get n
  nx : h.next ≤ h'.next
theorem Up.refl {h : MH} : Up h h := ⟨fun _ _ => rfl, Nat.le_refl _⟩
theorem Up.trans {a b c : MH} (x : Up a b) (y : Up b c) : Up a c := ⟨fun n z => (y.get n (Nat.lt_of_lt_of_le z x.nx)).trans (x.get n z), Nat.le_trans x.nx y.nx⟩
theorem Hd.up {h h' : MH} {d p : D} (u : Up h h') : Hd h d p → Hd h' d p := fun ⟨n, xs, e, l, g, q, r⟩ => ⟨n, xs, e, Nat.lt_of_lt_of_le l u.nx, (u.get n l).trans g, q, r⟩
theorem Rv.up {h h' : MH} {d p : D} (u : Up h h') : Rv h d p → Rv h' d p := fun r => r.imp id (Hd.up u)
theorem RvL.up {h h' : MH} (u : Up h h') : ∀ {ds ps : List D}, RvL h ds ps → RvL h' ds ps
  | [], [], _ => trivial
  | _ :: _, _ :: _, ⟨a, b⟩ => ⟨a.up u, RvL.up u b⟩
  | [], _ :: _, r => r.elim
  | _ :: _, [], r => r.elim
theorem RvL.len {h : MH} : ∀ {ds ps : List D}, RvL h ds ps → ds.length = ps.length
  | [], [], _ => rfl
  | _ :: _, _ :: _, ⟨_, b⟩ => by simp [RvL.len b]
  | [], _ :: _, r => r.elim
  | _ :: _, [], r => r.elim
theorem RvL.refl {h : MH} : ∀ {ds : List D}, nrs ds = true → RvL h ds ds
  | [], _ => trivial
  | x :: xs, e => by
    simp only [nrs, Bool.and_eq_true] at e
    exact ⟨.inl ⟨rfl, e.1⟩, RvL.refl e.2⟩
/-- which names hold lists that are changed; which may hold lists of others, and only read them; which stay -/
structure SC where
  K : List Nat
  Rd : List Nat
  Fx : List Nat
  rH : Bool
structure DY where
  s0 : Sl
  h0 : MH
  IO : List Nat
structure St (T : SC) (Y : DY) (s ps : Sl) (h : MH) : Prop where
  len : s.length = ps.length
  val : ∀ i p, ps[i]? = some (some p) → ∃ d, s[i]? = some (some d) ∧ (i ∈ T.K → Hd h d p) ∧ (i ∉ T.K → Rv h d p) ∧ (i ∉ T.K → i ∉ T.Rd → d = p ∧ p.nr = true)
  sep : ∀ i n p, i ∈ T.K → ps[i]? = some (some p) → s[i]? = some (some (.ref n)) → (n ∈ Y.IO ∨ Y.h0.next ≤ n) ∧ ∀ j q, j ≠ i → ps[j]? = some (some q) → s[j]? ≠ some (some (D.ref n))
  rdo : ∀ i n p, i ∉ T.K → ps[i]? = some (some p) → s[i]? = some (some (.ref n)) → n < Y.h0.next ∧ n ∉ Y.IO
  frm : ∀ n, n < Y.h0.next → n ∉ Y.IO → h.get n = Y.h0.get n
  nxt : Y.h0.next ≤ h.next
  io : ∀ n ∈ Y.IO, n < Y.h0.next
  fix : ∀ i ∈ T.Fx, s[i]? = Y.s0[i]?
def FrY (Y : DY) (h : MH) : Prop := (∀ n, n < Y.h0.next → n ∉ Y.IO → h.get n = Y.h0.get n) ∧ Y.h0.next ≤ h.next
section
variable {T : SC} {Y : DY} {s ps : Sl} {h h' : MH} {i n : Nat} {d p : D} {xs ys : List D}
theorem St.fr (t : St T Y s ps h) : FrY Y h := ⟨t.frm, t.nxt⟩
theorem St.up (t : St T Y s ps h) (u : Up h h') : St T Y s ps h' :=
  ⟨t.len, fun i p e => let ⟨d, e1, a, b, c⟩ := t.val i p e; ⟨d, e1, fun z => (a z).up u, fun z => (b z).up u, c⟩, t.sep, t.rdo, fun n z1 z2 => (u.get n (Nat.lt_of_lt_of_le z1 t.nxt)).trans (t.frm n z1 z2), Nat.le_trans t.nxt u.nx, t.io, t.fix⟩
theorem St.held (t : St T Y s ps h) (hi : i ∈ T.K) (e : ps[i]? = some (some p)) : ∃ n xs, s[i]? = some (some (.ref n)) ∧ n < h.next ∧ h.get n = some (.lst xs) ∧ p = .lst xs ∧ nrs xs = true := by
  obtain ⟨d, e1, a, _, _⟩ := t.val i p e
  obtain ⟨n, xs, rfl, q⟩ := a hi
  exact ⟨n, xs, e1, q⟩
theorem St.rv (t : St T Y s ps h) (e : ps[i]? = some (some p)) : ∃ d, s[i]? = some (some d) ∧ Rv h d p := by
  obtain ⟨d, e1, a, b, _⟩ := t.val i p e
  by_cases hi : i ∈ T.K
  · exact ⟨d, e1, .inr (a hi)⟩
  · exact ⟨d, e1, b hi⟩
theorem set_at {α : Type} {l : List α} {i j : Nat} {a b : α} (e : (l.set i a)[j]? = some b) : (j = i ∧ b = a ∧ i < l.length) ∨ (j ≠ i ∧ l[j]? = some b) := by
  rw [List.getElem?_set] at e
  by_cases hj : i = j
  · rw [if_pos hj] at e
    split at e
    · cases e; exact .inl ⟨hj.symm, rfl, by omega⟩
    · cases e
  · rw [if_neg hj] at e
    exact .inr ⟨fun z => hj z.symm, e⟩
theorem set_ne {α : Type} {l : List α} {i j : Nat} {a : α} (e : j ≠ i) : (l.set i a)[j]? = l[j]? := by
  rw [List.getElem?_set, if_neg (fun z => e z.symm)]
theorem set_eq {α : Type} {l : List α} {i : Nat} {a : α} (e : i < l.length) : (l.set i a)[i]? = some a := by
  rw [List.getElem?_set, if_pos rfl, if_pos e]
theorem get_lt {α : Type} {l : List α} {i : Nat} {a : α} (e : l[i]? = some a) : i < l.length := (List.getElem?_eq_some_iff.mp e).1
/-- a held list is changed -/
theorem St.put (t : St T Y s ps h) (hi : i ∈ T.K) (e : ps[i]? = some (some p)) (es : s[i]? = some (some (.ref n))) (hy : nrs ys = true) : St T Y s (ps.set i (some (.lst ys))) (h.set n (.lst ys)) := by
  obtain ⟨s1, s2⟩ := t.sep i n p hi e es
  obtain ⟨n', xs, e1, e2, e3, _, _⟩ := t.held hi e
  rw [es] at e1; cases e1
  have other : ∀ j q d, j ≠ i → ps[j]? = some (some q) → s[j]? = some (some d) → (Hd h d q → Hd (h.set n (.lst ys)) d q) := fun j q d hj eq ed ⟨m, zs, z1, z2, z3, z4, z5⟩ => by
    subst z1
    have hm : m ≠ n := fun z => s2 j q hj eq (by rw [ed, z])
    exact ⟨m, zs, rfl, z2, by rw [get_set, if_neg hm]; exact z3, z4, z5⟩
  refine ⟨by simp [t.len], fun j q eq => ?_, fun j m q hj eq em => ?_, fun j m q hj eq em => ?_, fun m z1 z2 => ?_, t.nxt, t.io, t.fix⟩
  · rcases set_at eq with ⟨rfl, eq, _⟩ | ⟨hj, eq⟩
    · cases eq
      exact ⟨_, es, fun _ => ⟨n, ys, rfl, e2, by rw [get_set, if_pos rfl], rfl, hy⟩, fun z => absurd hi z, fun z => absurd hi z⟩
    · obtain ⟨d, ed, a, b, c⟩ := t.val j q eq
      exact ⟨d, ed, fun z => other j q d hj eq ed (a z), fun z => (b z).imp id (other j q d hj eq ed), c⟩
  · have old : ∃ q', ps[j]? = some (some q') := by
      rcases set_at eq with ⟨rfl, _, _⟩ | ⟨_, eq⟩
      · exact ⟨p, e⟩
      · exact ⟨q, eq⟩
    obtain ⟨q', eq'⟩ := old
    obtain ⟨a, b⟩ := t.sep j m q' hj eq' em
    refine ⟨a, fun k r hk er => ?_⟩
    rcases set_at er with ⟨rfl, _, _⟩ | ⟨_, er⟩
    · exact b k p hk e
    · exact b k r hk er
  · rcases set_at eq with ⟨rfl, _, _⟩ | ⟨_, eq⟩
    · exact absurd hi hj
    · exact t.rdo j m q hj eq em
  · have hm : m ≠ n := fun z => by
      subst z
      rcases s1 with s1 | s1
      · exact z2 s1
      · omega
    rw [get_set, if_neg hm]
    exact t.frm m z1 z2
/-- a value is kept by a name -/
theorem St.setV (t : St T Y s ps h) (hi : i ∉ T.K) (hf : i ∉ T.Fx) (hp : p.nr = true) : St T Y (s.set i (some p)) (ps.set i (some p)) h := by
  refine ⟨by simp [t.len], fun j q eq => ?_, fun j m q hj eq em => ?_, fun j m q hj eq em => ?_, t.frm, t.nxt, t.io, fun j hj => ?_⟩
  · rcases set_at eq with ⟨rfl, eq, hl⟩ | ⟨hj, eq⟩
    · cases eq
      exact ⟨p, set_eq (by rw [t.len]; exact hl), fun z => absurd z hi, fun _ => .inl ⟨rfl, hp⟩, fun _ _ => ⟨rfl, hp⟩⟩
    · obtain ⟨d, ed, z⟩ := t.val j q eq
      exact ⟨d, by rw [set_ne hj]; exact ed, z⟩
  · have hji : j ≠ i := fun z => hi (z ▸ hj)
    rw [set_ne hji] at eq em
    obtain ⟨a, b⟩ := t.sep j m q hj eq em
    refine ⟨a, fun k r hk er => ?_⟩
    rcases set_at er with ⟨rfl, er, hl⟩ | ⟨hki, er⟩
    · rw [set_eq (by rw [t.len]; exact hl)]
      intro z
      cases z
      cases hp
    · rw [set_ne hki]
      exact b k r hk er
  · rcases set_at eq with ⟨rfl, eq, hl⟩ | ⟨hji, eq⟩
    · rw [set_eq (by rw [t.len]; exact hl)] at em
      cases em
      cases hp
    · rw [set_ne hji] at em
      exact t.rdo j m q hj eq em
  · rw [set_ne (fun z => hf (by rw [← z]; exact hj))]
    exact t.fix j hj
/-- a list of others is kept by a name -/
theorem St.setR (t : St T Y s ps h) (hi : i ∉ T.K) (hr : i ∈ T.Rd) (hf : i ∉ T.Fx) (hp : Rv h d p) (hd : ∀ n : Nat, d = D.ref n → n < Y.h0.next ∧ n ∉ Y.IO) : St T Y (s.set i (some d)) (ps.set i (some p)) h := by
  refine ⟨by simp [t.len], fun j q eq => ?_, fun j m q hj eq em => ?_, fun j m q hj eq em => ?_, t.frm, t.nxt, t.io, fun j hj => ?_⟩
  · rcases set_at eq with ⟨rfl, eq, hl⟩ | ⟨hj, eq⟩
    · cases eq
      exact ⟨d, set_eq (by rw [t.len]; exact hl), fun z => absurd z hi, fun _ => hp, fun _ z => absurd hr z⟩
    · obtain ⟨d', ed, z⟩ := t.val j q eq
      exact ⟨d', by rw [set_ne hj]; exact ed, z⟩
  · have hji : j ≠ i := fun z => hi (z ▸ hj)
    rw [set_ne hji] at eq em
    obtain ⟨a, b⟩ := t.sep j m q hj eq em
    refine ⟨a, fun k r hk er => ?_⟩
    rcases set_at er with ⟨rfl, er, hl⟩ | ⟨hki, er⟩
    · rw [set_eq (by rw [t.len]; exact hl)]
      intro z
      cases z
      obtain ⟨z1, z2⟩ := hd m rfl
      rcases a with a | a
      · exact z2 a
      · omega
    · rw [set_ne hki]
      exact b k r hk er
  · rcases set_at eq with ⟨rfl, eq, hl⟩ | ⟨hji, eq⟩
    · rw [set_eq (by rw [t.len]; exact hl)] at em
      cases em
      exact hd m rfl
    · rw [set_ne hji] at em
      exact t.rdo j m q hj eq em
  · rw [set_ne (fun z => hf (by rw [← z]; exact hj))]
    exact t.fix j hj
/-- a new list is held by a name -/
theorem St.setH (t : St T Y s ps h) (hi : i ∈ T.K) (hf : i ∉ T.Fx) (h1 : n < h.next) (h2 : h.get n = some (.lst xs)) (hx : nrs xs = true) (h3 : Y.h0.next ≤ n) (h4 : ∀ (j : Nat) (q : D), ps[j]? = some (some q) → s[j]? ≠ some (some (D.ref n))) : St T Y (s.set i (some (D.ref n))) (ps.set i (some (.lst xs))) h := by
  refine ⟨by simp [t.len], fun j q eq => ?_, fun j m q hj eq em => ?_, fun j m q hj eq em => ?_, t.frm, t.nxt, t.io, fun j hj => ?_⟩
  · rcases set_at eq with ⟨rfl, eq, hl⟩ | ⟨hj, eq⟩
    · cases eq
      exact ⟨_, set_eq (by rw [t.len]; exact hl), fun _ => ⟨n, xs, rfl, h1, h2, rfl, hx⟩, fun z => absurd hi z, fun z => absurd hi z⟩
    · obtain ⟨d', ed, z⟩ := t.val j q eq
      exact ⟨d', by rw [set_ne hj]; exact ed, z⟩
  · rcases set_at eq with ⟨rfl, eq2, hl⟩ | ⟨hji, eq2⟩
    · rw [set_eq (by rw [t.len]; exact hl)] at em
      cases em
      refine ⟨.inr h3, fun k r hk er => ?_⟩
      rw [set_ne hk] at er ⊢
      exact h4 k r er
    · rw [set_ne hji] at em
      obtain ⟨a, b⟩ := t.sep j m q hj eq2 em
      refine ⟨a, fun k r hk er => ?_⟩
      rcases set_at er with ⟨rfl, er, hl⟩ | ⟨hki, er⟩
      · rw [set_eq (by rw [t.len]; exact hl)]
        intro z
        cases z
        exact h4 j q eq2 em
      · rw [set_ne hki]
        exact b k r hk er
  · have hji : j ≠ i := fun z => hj (z ▸ hi)
    rw [set_ne hji] at eq em
    exact t.rdo j m q hj eq em
  · rw [set_ne (fun z => hf (by rw [← z]; exact hj))]
    exact t.fix j hj
/-- a name is forgotten -/
theorem St.unset (t : St T Y s ps h) : St T Y s (ps.set i none) h := by
  have old : ∀ {j q}, (ps.set i none)[j]? = some (some q) → j ≠ i ∧ ps[j]? = some (some q) := fun {j q} e => by
    rcases set_at e with ⟨_, z, _⟩ | z
    · cases z
    · exact z
  refine ⟨by simp [t.len], fun j q eq => t.val j q (old eq).2, fun j m q hj eq em => ?_, fun j m q hj eq em => t.rdo j m q hj (old eq).2 em, t.frm, t.nxt, t.io, t.fix⟩
  obtain ⟨a, b⟩ := t.sep j m q hj (old eq).2 em
  exact ⟨a, fun k r hk er => b k r hk (old er).2⟩
theorem St.unset2 (t : St T Y s ps h) (hf : i ∉ T.Fx) : St T Y (s.set i none) (ps.set i none) h := by
  have old : ∀ {j q}, (ps.set i none)[j]? = some (some q) → j ≠ i ∧ ps[j]? = some (some q) := fun {j q} e => by
    rcases set_at e with ⟨_, z, _⟩ | z
    · cases z
    · exact z
  have olds : ∀ {j : Nat} {x : D}, j ≠ i → ((s.set i none)[j]? = some (some x) ↔ s[j]? = some (some x)) := fun {j x} e => by rw [set_ne e]
  refine ⟨by simp [t.len], fun j q eq => ?_, fun j m q hj eq em => ?_, fun j m q hj eq em => t.rdo j m q hj (old eq).2 ((olds (old eq).1).mp em), t.frm, t.nxt, t.io, fun j hj => ?_⟩
  · obtain ⟨d, ed, z⟩ := t.val j q (old eq).2
    exact ⟨d, (olds (old eq).1).mpr ed, z⟩
  · obtain ⟨a, b⟩ := t.sep j m q hj (old eq).2 ((olds (old eq).1).mp em)
    exact ⟨a, fun k r hk er z => b k r hk (old er).2 ((olds (old er).1).mp z)⟩
  · rw [set_ne (fun z => hf (by rw [← z]; exact hj))]
    exact t.fix j hj
/-- a held list is handed back, its name forgotten -/
theorem St.drop (t : St T Y s ps h) (hi : i ∈ T.K) (e : ps[i]? = some (some p)) (es : s[i]? = some (some (.ref n))) : St T Y s (ps.set i none) (h.drop n) := by
  obtain ⟨s1, s2⟩ := t.sep i n p hi e es
  have old : ∀ {j q}, (ps.set i none)[j]? = some (some q) → j ≠ i ∧ ps[j]? = some (some q) := fun {j q} e => by
    rcases set_at e with ⟨_, z, _⟩ | z
    · cases z
    · exact z
  have keep : ∀ j q d, j ≠ i → ps[j]? = some (some q) → s[j]? = some (some d) → (Hd h d q → Hd (h.drop n) d q) := fun j q d hj eq ed ⟨m, zs, z1, z2, z3, z4, z5⟩ => by
    subst z1
    have hm : m ≠ n := fun z => s2 j q hj eq (by rw [ed, z])
    exact ⟨m, zs, rfl, z2, by rw [get_drop, if_neg hm]; exact z3, z4, z5⟩
  have u := t.unset (i := i)
  refine ⟨u.len, fun j q eq => ?_, u.sep, u.rdo, fun m z1 z2 => ?_, t.nxt, t.io, t.fix⟩
  · obtain ⟨d, ed, a, b, c⟩ := u.val j q eq
    obtain ⟨hj, eq⟩ := old eq
    exact ⟨d, ed, fun z => keep j q d hj eq ed (a z), fun z => (b z).imp id (keep j q d hj eq ed), c⟩
  · have hm : m ≠ n := fun z => by
      subst z
      rcases s1 with s1 | s1
      · exact z2 s1
      · omega
    rw [get_drop, if_neg hm]
    exact t.frm m z1 z2
end
end Tb
end

section
set_option maxHeartbeats 4000000
namespace Tb
open PySem PySem.Spec PyProof.Rows L2
abbrev PE := Sl → PR D
abbrev PT := Sl → PR Bool
abbrev PA := Sl → PR (List D)
abbrev PO' := Sl → PR (Option Int)
/-! ## what a mirror and a heap-free one have in common -/
def RelE {α : Type} [Nrm α] (b : Bool) (T : SC) (Y : DY) (s ps : Sl) (h : MH) (rm : R α) (rq : PR α) : Prop := match rq with
  | .ok a ps' => ∃ h', rm = .ok a h' ∧ Nrm.ok a ∧ St T Y s ps' h' ∧ (b = true → ps' = ps ∧ Up h h')
  | .exc e => ∃ h', rm = .exc e h' ∧ FrY Y h' ∧ e.nr
  | .bad => True
def Sim {α : Type} [Nrm α] (b : Bool) (T : SC) (m : Sl → MH → R α) (q : Sl → PR α) : Prop := ∀ Y s ps h, St T Y s ps h → RelE b T Y s ps h (m s h) (q ps)
def RelR (Y : DY) (ps : Sl) (h : MH) (rm : R D) (rq : PR D) : Prop := match rq with
  | .ok p ps' => ps' = ps ∧ ∃ d h', rm = .ok d h' ∧ Up h h' ∧ Rv h' d p
  | .exc e => ∃ h', rm = .exc e h' ∧ FrY Y h' ∧ e.nr
  | .bad => True
def SimR (T : SC) (m : ME) (q : PE) : Prop := ∀ Y s ps h, St T Y s ps h → RelR Y ps h (m s h) (q ps)
def RelRA (Y : DY) (ps : Sl) (h : MH) (rm : R (List D)) (rq : PR (List D)) : Prop := match rq with
  | .ok p ps' => ps' = ps ∧ ∃ d h', rm = .ok d h' ∧ Up h h' ∧ RvL h' d p
  | .exc e => ∃ h', rm = .exc e h' ∧ FrY Y h' ∧ e.nr
  | .bad => True
def SimRA (T : SC) (m : MA) (q : PA) : Prop := ∀ Y s ps h, St T Y s ps h → RelRA Y ps h (m s h) (q ps)
section
variable {α β : Type} [Nrm α] [Nrm β] {b : Bool} {T : SC} {Y : DY} {s ps ps1 : Sl} {h h1 : MH}
theorem RelE.from {rm : R α} {rq : PR α} (hb : b = true → ps1 = ps ∧ Up h h1) (r : RelE b T Y s ps1 h1 rm rq) : RelE b T Y s ps h rm rq := by
  cases rq with
  | ok a ps' =>
    obtain ⟨h', e, na, st, q⟩ := r
    exact ⟨h', e, na, st, fun z => let ⟨e1, u1⟩ := hb z; let ⟨e2, u2⟩ := q z; ⟨e2.trans e1, u1.trans u2⟩⟩
  | exc e => exact r
  | bad => trivial
theorem RelE.bind {rm : R α} {rq : PR α} {f : α → MH → R β} {g : α → Sl → PR β} (r : RelE b T Y s ps h rm rq) (k : ∀ a ps1 h1, St T Y s ps1 h1 → Nrm.ok a → RelE b T Y s ps1 h1 (f a h1) (g a ps1)) : RelE b T Y s ps h (rm.bind f) (rq.bind g) := by
  cases rq with
  | ok a ps1 =>
    obtain ⟨h1, e, na, st, q⟩ := r
    subst e
    exact RelE.from q (k a ps1 h1 st na)
  | exc e =>
    obtain ⟨h1, e1, q⟩ := r
    subst e1
    exact ⟨h1, rfl, q⟩
  | bad => trivial
theorem RelR.bind {rm : R D} {rq : PR D} {f : D → MH → R β} {g : D → Sl → PR β} (st : St T Y s ps h) (r : RelR Y ps h rm rq) (k : ∀ d p h1, Up h h1 → St T Y s ps h1 → Rv h1 d p → RelE b T Y s ps h1 (f d h1) (g p ps)) : RelE b T Y s ps h (rm.bind f) (rq.bind g) := by
  cases rq with
  | ok a ps1 =>
    obtain ⟨rfl, d, h1, e, u, rv⟩ := r
    subst e
    exact RelE.from (fun _ => ⟨rfl, u⟩) (k d a h1 u (st.up u) rv)
  | exc e =>
    obtain ⟨h1, e1, q⟩ := r
    subst e1
    exact ⟨h1, rfl, q⟩
  | bad => trivial
theorem RelRA.bind {rm : R (List D)} {rq : PR (List D)} {f : List D → MH → R β} {g : List D → Sl → PR β} (st : St T Y s ps h) (r : RelRA Y ps h rm rq) (k : ∀ d p h1, Up h h1 → St T Y s ps h1 → RvL h1 d p → RelE b T Y s ps h1 (f d h1) (g p ps)) : RelE b T Y s ps h (rm.bind f) (rq.bind g) := by
  cases rq with
  | ok a ps1 =>
    obtain ⟨rfl, d, h1, e, u, rv⟩ := r
    subst e
    exact RelE.from (fun _ => ⟨rfl, u⟩) (k d a h1 u (st.up u) rv)
  | exc e =>
    obtain ⟨h1, e1, q⟩ := r
    subst e1
    exact ⟨h1, rfl, q⟩
  | bad => trivial
theorem RelE.ok {a : α} (st : St T Y s ps h) (n : Nrm.ok a) : RelE b T Y s ps h (.ok a h) (.ok a ps) := ⟨h, rfl, n, st, fun _ => ⟨rfl, Up.refl⟩⟩
theorem Sim.weak {m : Sl → MH → R α} {q : Sl → PR α} (S : Sim true T m q) : Sim b T m q := fun Y s ps h st => by
  have r := S Y s ps h st
  cases e : q ps with
  | ok a ps' =>
    rw [e] at r
    obtain ⟨h', e1, n, t, z⟩ := r
    exact ⟨h', e1, n, t, fun _ => z rfl⟩
  | exc x =>
    rw [e] at r
    exact r
  | bad => trivial
theorem SimR.of {m : ME} {q : PE} (S : Sim true T m q) : SimR T m q := fun Y s ps h st => by
  have r := S Y s ps h st
  cases e : q ps with
  | ok a ps' =>
    rw [e] at r
    obtain ⟨h', e1, n, t, z⟩ := r
    obtain ⟨z1, z2⟩ := z rfl
    exact ⟨z1, a, h', e1, z2, .inl ⟨rfl, n⟩⟩
  | exc x =>
    rw [e] at r
    exact r
  | bad => trivial
/-! ### names, constants -/
def pVar (i : Nat) : PE := fun s => match s[i]? with
  | some (some d) => .ok d s
  | _ => .bad
def pC (d : D) : PE := fun s => .ok d s
theorem sim_c {d : D} (hd : d.nr = true) : Sim b T (mC d) (pC d) := fun Y s ps h st => RelE.ok st hd
theorem sim_var {i : Nat} (hi : i ∉ T.K) (hr : i ∉ T.Rd) : Sim b T (mVar i) (pVar i) := fun Y s ps h st => by
  unfold pVar mVar
  cases e : ps[i]? with
  | none => trivial
  | some o =>
    cases o with
    | none => trivial
    | some p =>
      obtain ⟨d, e1, _, _, c⟩ := st.val i p e
      obtain ⟨rfl, n⟩ := c hi hr
      simp only [e1]
      exact RelE.ok st n
theorem sim_hv {i : Nat} : SimR T (mVar i) (pVar i) := fun Y s ps h st => by
  unfold pVar mVar
  cases e : ps[i]? with
  | none => trivial
  | some o =>
    cases o with
    | none => trivial
    | some p =>
      obtain ⟨d, e1, rv⟩ := st.rv e
      simp only [e1]
      exact ⟨rfl, d, h, rfl, Up.refl, rv⟩
/-! ### operators of one, two, many -/
structure F1Ok {β : Type} [Nrm β] (f : D → MH → R β) : Prop where
  ok : ∀ h d p a hz, Rv h d p → f p MH.zero = .ok a hz → f d h = .ok a h ∧ Nrm.ok a
  ne : ∀ h d p e hz, Rv h d p → f p MH.zero ≠ .exc e hz
structure OpOk {β : Type} [Nrm β] (f : D → D → MH → R β) : Prop where
  ok : ∀ h d p d' p' a hz, Rv h d p → Rv h d' p' → f p p' MH.zero = .ok a hz → f d d' h = .ok a h ∧ Nrm.ok a
  ne : ∀ h d p d' p' e hz, Rv h d p → Rv h d' p' → f p p' MH.zero ≠ .exc e hz
structure FbOk {β : Type} [Nrm β] (f : List D → MH → R β) : Prop where
  ok : ∀ h ds ps a hz, RvL h ds ps → f ps MH.zero = .ok a hz → f ds h = .ok a h ∧ Nrm.ok a
  ne : ∀ h ds ps e hz, RvL h ds ps → f ps MH.zero ≠ .exc e hz
theorem F1Ok.rel {f : D → MH → R β} (o : F1Ok f) {d p : D} (st : St T Y s ps h) (rv : Rv h d p) : RelE b T Y s ps h (f d h) (zr (f p MH.zero) ps) := by
  cases e : f p MH.zero with
  | ok a hz =>
    obtain ⟨e1, n⟩ := o.ok h d p a hz rv e
    rw [e1]
    exact RelE.ok st n
  | exc x hz => exact absurd e (o.ne h d p x hz rv)
  | bad => trivial
theorem OpOk.rel {f : D → D → MH → R β} (o : OpOk f) {d p d' p' : D} (st : St T Y s ps h) (rv : Rv h d p) (rv' : Rv h d' p') : RelE b T Y s ps h (f d d' h) (zr (f p p' MH.zero) ps) := by
  cases e : f p p' MH.zero with
  | ok a hz =>
    obtain ⟨e1, n⟩ := o.ok h d p d' p' a hz rv rv' e
    rw [e1]
    exact RelE.ok st n
  | exc x hz => exact absurd e (o.ne h d p d' p' x hz rv rv')
  | bad => trivial
theorem FbOk.rel {f : List D → MH → R β} (o : FbOk f) {d p : List D} (st : St T Y s ps h) (rv : RvL h d p) : RelE b T Y s ps h (f d h) (zr (f p MH.zero) ps) := by
  cases e : f p MH.zero with
  | ok a hz =>
    obtain ⟨e1, n⟩ := o.ok h d p a hz rv e
    rw [e1]
    exact RelE.ok st n
  | exc x hz => exact absurd e (o.ne h d p x hz rv)
  | bad => trivial
def p1 (f : D → MH → R β) (a : PE) : Sl → PR β := fun s => (a s).bind fun x s1 => zr (f x MH.zero) s1
def pOp (f : D → D → MH → R β) (a c : PE) : Sl → PR β := fun s => (a s).bind fun x s1 => (c s1).bind fun y s2 => zr (f x y MH.zero) s2
/-- the first one is a name, looked at behind the second -/
def pOpL (f : D → D → MH → R β) (i : Nat) (c : PE) : Sl → PR β := fun s => (pVar i s).bind fun _ s0 => (c s0).bind fun y s1 => (pVar i s1).bind fun x s2 => zr (f x y MH.zero) s2
def pCallB (f : List D → MH → R β) (a : PA) : Sl → PR β := fun s => (a s).bind fun x s1 => zr (f x MH.zero) s1
variable {a c : ME} {pa pc : PE}
theorem sim_1r {f : D → MH → R β} (ha : SimR T a pa) (o : F1Ok f) : Sim b T (fun s h => (a s h).bind f) (p1 f pa) := fun Y s ps h st =>
  (ha Y s ps h st).bind st fun d p h1 _ st1 rv => o.rel st1 rv
theorem sim_1e {f : D → MH → R β} (ha : Sim b T a pa) (o : F1Ok f) : Sim b T (fun s h => (a s h).bind f) (p1 f pa) := fun Y s ps h st =>
  (ha Y s ps h st).bind fun d p h1 st1 n => o.rel st1 (.inl ⟨rfl, n⟩)
theorem sim_rr {f : D → D → MH → R β} (ha : SimR T a pa) (hc : SimR T c pc) (o : OpOk f) : Sim b T (fun s h => (a s h).bind fun x h1 => (c s h1).bind fun y h2 => f x y h2) (pOp f pa pc) := fun Y s ps h st =>
  (ha Y s ps h st).bind st fun d p h1 _ st1 rv => (hc Y s ps h1 st1).bind st1 fun d' p' h2 u st2 rv' => o.rel st2 (rv.up u) rv'
theorem sim_ee {f : D → D → MH → R β} (ha : Sim b T a pa) (hc : Sim b T c pc) (o : OpOk f) : Sim b T (fun s h => (a s h).bind fun x h1 => (c s h1).bind fun y h2 => f x y h2) (pOp f pa pc) := fun Y s ps h st =>
  (ha Y s ps h st).bind fun d ps1 h1 st1 n => (hc Y s ps1 h1 st1).bind fun d' ps2 h2 st2 n' => o.rel st2 (.inl ⟨rfl, n⟩) (.inl ⟨rfl, n'⟩)
theorem sim_er {f : D → D → MH → R β} (ha : Sim b T a pa) (hc : SimR T c pc) (o : OpOk f) : Sim b T (fun s h => (a s h).bind fun x h1 => (c s h1).bind fun y h2 => f x y h2) (pOp f pa pc) := fun Y s ps h st =>
  (ha Y s ps h st).bind fun d ps1 h1 st1 n => (hc Y s ps1 h1 st1).bind st1 fun d' p' h2 u st2 rv' => o.rel st2 (.inl ⟨rfl, n⟩) rv'
theorem pVar_ok {i : Nat} {p : D} {ps1 : Sl} (e : pVar i ps = .ok p ps1) : ps1 = ps ∧ ps[i]? = some (some p) := by
  unfold pVar at e
  split at e
  · cases e
    exact ⟨rfl, by assumption⟩
  · cases e
theorem pVar_exc {i : Nat} {e : Ex} : pVar i ps ≠ .exc e := by
  unfold pVar
  split <;> simp
/-- a name is read, again later -/
theorem late {i : Nat} {f : D → MH → R β} {g : D → Sl → PR β} (k : ∀ d p h1 ps1, (∀ ps2 h2 p2 ps3, St T Y s ps2 h2 → pVar i ps2 = .ok p2 ps3 → ps3 = ps2 ∧ Rv h2 d p2) → St T Y s ps1 h1 → RelE b T Y s ps1 h1 (f d h1) (g p ps1)) (st : St T Y s ps h) : RelE b T Y s ps h ((mVar i s h).bind f) ((pVar i ps).bind g) := by
  cases e : pVar i ps with
  | exc x => exact absurd e pVar_exc
  | bad => trivial
  | ok p ps1 =>
    obtain ⟨rfl, ep⟩ := pVar_ok e
    obtain ⟨d, es, rv⟩ := st.rv ep
    have em : mVar i s h = .ok d h := by
      unfold mVar
      simp only [es]
    rw [em]
    refine k d p h _ (fun ps2 h2 p2 ps3 st2 e2 => ?_) st
    obtain ⟨rfl, ep2⟩ := pVar_ok e2
    obtain ⟨d2, es2, rv2⟩ := st2.rv ep2
    rw [es] at es2
    cases es2
    exact ⟨rfl, rv2⟩
theorem sim_le {f : D → D → MH → R β} {i : Nat} (hc : Sim b T c pc) (o : OpOk f) : Sim b T (fun s h => (mVar i s h).bind fun x h1 => (c s h1).bind fun y h2 => f x y h2) (pOpL f i pc) := fun Y s ps h st =>
  late (fun d p h1 ps1 hl st1 => (hc Y s ps1 h1 st1).bind fun y ps2 h2 st2 n => by
    cases e : pVar i ps2 with
    | exc x => exact absurd e pVar_exc
    | bad => trivial
    | ok p2 ps3 =>
      obtain ⟨rfl, rv⟩ := hl ps2 h2 p2 ps3 st2 e
      exact o.rel st2 rv (.inl ⟨rfl, n⟩)) st
/-! ### tests, choices -/
def asB1 : D → MH → R Bool := fun d h => match d with
  | .bl b => .ok b h
  | _ => .bad
def pAnd (ta tb : PT) : PT := fun s => (ta s).bind fun k s1 => if k = true then tb s1 else .ok false s1
def pOr (ta tb : PT) : PT := fun s => (ta s).bind fun k s1 => if k = true then .ok true s1 else tb s1
def pNot (ta : PT) : PT := fun s => (ta s).bind fun k s1 => .ok (!k) s1
def pIf (t : PT) (x y : Sl → PR β) : Sl → PR β := fun s => (t s).bind fun k s1 => if k = true then x s1 else y s1
def pAsB (x : PE) : PT := p1 asB1 x
def pAndV (x y : PE) : PE := fun s => (pAsB x s).bind fun k s1 => if k = true then y s1 else .ok (.bl false) s1
def pOrV (x y : PE) : PE := fun s => (pAsB x s).bind fun k s1 => if k = true then .ok (.bl true) s1 else y s1
def pNotV (x : PE) : PE := fun s => (pAsB x s).bind fun k s1 => .ok (.bl (!k)) s1
def pYes : PT := fun s => .ok true s
variable {ta tb : MT} {qa qb : PT}
theorem sim_and (ha : Sim b T ta qa) (hb : Sim b T tb qb) : Sim b T (mAnd ta tb) (pAnd qa qb) := fun Y s ps h st =>
  (ha Y s ps h st).bind fun k ps1 h1 st1 _ => by
    cases k with
    | true => exact hb Y s ps1 h1 st1
    | false => exact RelE.ok st1 trivial
theorem sim_or (ha : Sim b T ta qa) (hb : Sim b T tb qb) : Sim b T (mOr ta tb) (pOr qa qb) := fun Y s ps h st =>
  (ha Y s ps h st).bind fun k ps1 h1 st1 _ => by
    cases k with
    | true => exact RelE.ok st1 trivial
    | false => exact hb Y s ps1 h1 st1
theorem sim_not (ha : Sim b T ta qa) : Sim b T (mNot ta) (pNot qa) := fun Y s ps h st =>
  (ha Y s ps h st).bind fun k ps1 h1 st1 _ => RelE.ok st1 trivial
theorem sim_if (ht : Sim b T ta qa) (ha : Sim b T a pa) (hc : Sim b T c pc) : Sim b T (mIf ta a c) (pIf qa pa pc) := fun Y s ps h st =>
  (ht Y s ps h st).bind fun k ps1 h1 st1 _ => by
    cases k with
    | true => exact ha Y s ps1 h1 st1
    | false => exact hc Y s ps1 h1 st1
theorem sim_yes : Sim b T mYes pYes := fun Y s ps h st => RelE.ok st trivial
theorem asB_ok : F1Ok asB1 := by
  refine ⟨fun h d p a hz rv e => ?_, fun h d p e hz rv => ?_⟩
  · unfold asB1 at e ⊢
    split at e
    · cases e
      rcases rv with ⟨rfl, _⟩ | ⟨n, xs, rfl, _, _, z, _⟩
      · exact ⟨rfl, trivial⟩
      · cases z
    · cases e
  · unfold asB1
    split <;> simp
theorem sim_asB (ha : Sim b T a pa) : Sim b T (fun s h => asB (a s h)) (pAsB pa) := sim_1e ha asB_ok
theorem sim_andV (ha : Sim b T a pa) (hc : Sim b T c pc) : Sim b T (mAndV a c) (pAndV pa pc) := fun Y s ps h st =>
  (sim_asB ha Y s ps h st).bind fun k ps1 h1 st1 _ => by
    cases k with
    | true => exact hc Y s ps1 h1 st1
    | false => exact RelE.ok st1 rfl
theorem sim_orV (ha : Sim b T a pa) (hc : Sim b T c pc) : Sim b T (mOrV a c) (pOrV pa pc) := fun Y s ps h st =>
  (sim_asB ha Y s ps h st).bind fun k ps1 h1 st1 _ => by
    cases k with
    | true => exact RelE.ok st1 rfl
    | false => exact hc Y s ps1 h1 st1
theorem sim_notV (ha : Sim b T a pa) : Sim b T (mNotV a) (pNotV pa) := fun Y s ps h st =>
  (sim_asB ha Y s ps h st).bind fun k ps1 h1 st1 _ => RelE.ok st1 rfl
def pChain (f g : F2) (x y z : PE) : PE := fun s => (x s).bind fun d s1 => (y s1).bind fun e s2 => ((zr (f d e MH.zero) s2).bind fun d s => zr (asB1 d MH.zero) s).bind fun k s3 => if k = true then (z s3).bind fun u s4 => zr (g e u MH.zero) s4 else .ok (.bl false) s3
theorem sim_chain {f g : F2} {c2 : ME} {pc2 : PE} (ha : Sim b T a pa) (hc : Sim b T c pc) (h2 : Sim b T c2 pc2) (o1 : OpOk f) (o2 : OpOk g) : Sim b T (mChain f g a c c2) (pChain f g pa pc pc2) := fun Y s ps h st =>
  (ha Y s ps h st).bind fun d ps1 h1 st1 n1 => (hc Y s ps1 h1 st1).bind fun e ps2 h2' st2 n2 => RelE.bind (RelE.bind (f := asB1) (o1.rel st2 (.inl ⟨rfl, n1⟩) (.inl ⟨rfl, n2⟩)) fun d ps h st n => asB_ok.rel st (.inl ⟨rfl, n⟩)) fun k ps3 h3 st3 _ => by
    cases k with
    | true => exact (h2 Y s ps3 h3 st3).bind fun u ps4 h4 st4 n4 => o2.rel st4 (.inl ⟨rfl, n2⟩) (.inl ⟨rfl, n4⟩)
    | false => exact RelE.ok st3 rfl
/-! ### displays -/
def pNil : PA := fun s => .ok [] s
def pCons (x : PE) (t : PA) : PA := fun s => (x s).bind fun d s1 => (t s1).bind fun ds s2 => .ok (d :: ds) s2
def pTup (t : PA) : PE := fun s => (t s).bind fun xs s1 => if xs.length ≤ sizeLine then .ok (.tup xs) s1 else .bad
def pLst (t : PA) : PE := fun s => (t s).bind fun xs s1 => if xs.length ≤ sizeLine then .ok (.lst xs) s1 else .bad
variable {ma : MA} {qA : PA}
theorem sim_nil : Sim b T mNil pNil := fun Y s ps h st => RelE.ok st rfl
theorem sim_cons (ha : Sim b T a pa) (ht : Sim b T ma qA) : Sim b T (mCons a ma) (pCons pa qA) := fun Y s ps h st =>
  (ha Y s ps h st).bind fun d ps1 h1 st1 n1 => (ht Y s ps1 h1 st1).bind fun ds ps2 h2 st2 n2 => RelE.ok st2 (by
    show nrs (d :: ds) = true
    simp only [nrs, Bool.and_eq_true]
    exact ⟨n1, n2⟩)
theorem sim_tup (ht : Sim b T ma qA) : Sim b T (mTup ma) (pTup qA) := fun Y s ps h st =>
  (ht Y s ps h st).bind fun ds ps2 h2 st2 n2 => by
    split
    · exact RelE.ok st2 n2
    · trivial
theorem sim_lst (ht : Sim b T ma qA) : Sim b T (mLst ma) (pLst qA) := fun Y s ps h st =>
  (ht Y s ps h st).bind fun ds ps2 h2 st2 n2 => by
    split
    · exact RelE.ok st2 n2
    · trivial
theorem ra_nil : SimRA T mNil pNil := fun Y s ps h st => ⟨rfl, [], h, rfl, Up.refl, trivial⟩
theorem ra_cons (ha : SimR T a pa) (ht : SimRA T ma qA) : SimRA T (mCons a ma) (pCons pa qA) := fun Y s ps h st => by
  have ra := ha Y s ps h st
  show RelRA Y ps h ((a s h).bind _) ((pa ps).bind _)
  cases e : pa ps with
  | ok p ps1 =>
    rw [e] at ra
    obtain ⟨rfl, d, h1, e1, u1, r1⟩ := ra
    rw [e1]
    have rt := ht Y s _ h1 (st.up u1)
    show RelRA Y _ h ((ma s h1).bind _) ((qA _).bind _)
    cases e2 : qA ps1 with
    | ok p2 ps2 =>
      rw [e2] at rt
      obtain ⟨rfl, ds, h2, e3, u2, r2⟩ := rt
      rw [e3]
      exact ⟨rfl, d :: ds, h2, rfl, u1.trans u2, r1.up u2, r2⟩
    | exc x =>
      rw [e2] at rt
      obtain ⟨h2, e3, q⟩ := rt
      rw [e3]
      exact ⟨h2, rfl, q⟩
    | bad => trivial
  | exc x =>
    rw [e] at ra
    obtain ⟨h1, e1, q⟩ := ra
    rw [e1]
    exact ⟨h1, rfl, q⟩
  | bad => trivial
theorem sim_br {f : List D → MH → R β} (ha : SimRA T ma qA) (o : FbOk f) : Sim b T (fun s h => (ma s h).bind f) (pCallB f qA) := fun Y s ps h st =>
  (ha Y s ps h st).bind st fun d p h1 _ st1 rv => o.rel st1 rv
theorem sim_be {f : List D → MH → R β} (ha : Sim b T ma qA) (o : FbOk f) : Sim b T (fun s h => (ma s h).bind f) (pCallB f qA) := fun Y s ps h st =>
  (ha Y s ps h st).bind fun d ps1 h1 st1 n => o.rel st1 (RvL.refl n)
/-! ### slices -/
def part1 : D → MH → R (Option Int) := fun d h => match d with
  | .int i => .ok (some i) h
  | _ => .bad
def pNoPart : PO' := fun s => .ok none s
def pPart (x : PE) : PO' := p1 part1 x
abbrev FC := D → Option Int → Option Int → MH → R D
structure CutOk (f : FC) : Prop where
  ok : ∀ h d p l u a hz, Rv h d p → f p l u MH.zero = .ok a hz → f d l u h = .ok a h ∧ a.nr = true
  ne : ∀ h d p l u e hz, Rv h d p → f p l u MH.zero ≠ .exc e hz
def pCut (f : FC) (x : PE) (lo hi : PO') : PE := fun s => (x s).bind fun d s1 => (lo s1).bind fun l s2 => (hi s2).bind fun u s3 => zr (f d l u MH.zero) s3
theorem part_ok : F1Ok part1 := by
  refine ⟨fun h d p a hz rv e => ?_, fun h d p e hz rv => ?_⟩
  · unfold part1 at e ⊢
    split at e
    · cases e
      rcases rv with ⟨rfl, _⟩ | ⟨n, xs, rfl, _, _, z, _⟩
      · exact ⟨rfl, trivial⟩
      · cases z
    · cases e
  · unfold part1
    split <;> simp
variable {lo hi : MO'} {ql qh : PO'}
theorem sim_noPart : Sim b T mNoPart pNoPart := fun Y s ps h st => RelE.ok st trivial
theorem sim_part (ha : Sim b T a pa) : Sim b T (mPart a) (pPart pa) := sim_1e ha part_ok
theorem CutOk.rel {f : FC} (o : CutOk f) {d p : D} {l u : Option Int} (st : St T Y s ps h) (rv : Rv h d p) : RelE b T Y s ps h (f d l u h) (zr (f p l u MH.zero) ps) := by
  cases e : f p l u MH.zero with
  | ok a hz =>
    obtain ⟨e1, n⟩ := o.ok h d p l u a hz rv e
    rw [e1]
    exact RelE.ok st n
  | exc x hz => exact absurd e (o.ne h d p l u x hz rv)
  | bad => trivial
theorem sim_cute {f : FC} (ha : Sim b T a pa) (hl : Sim b T lo ql) (hh : Sim b T hi qh) (o : CutOk f) : Sim b T (mCut f a lo hi) (pCut f pa ql qh) := fun Y s ps h st =>
  (ha Y s ps h st).bind fun d ps1 h1 st1 n => (hl Y s ps1 h1 st1).bind fun l ps2 h2 st2 _ => (hh Y s ps2 h2 st2).bind fun u ps3 h3 st3 _ => o.rel st3 (.inl ⟨rfl, n⟩)
theorem sim_cutr {f : FC} (ha : SimR T a pa) (hl : Sim true T lo ql) (hh : Sim true T hi qh) (o : CutOk f) : Sim b T (mCut f a lo hi) (pCut f pa ql qh) := Sim.weak fun Y s ps h st =>
  (ha Y s ps h st).bind st fun d p h1 _ st1 rv => by
    have r1 := hl Y s ps h1 st1
    show RelE true T Y s ps h1 ((lo s h1).bind _) ((ql ps).bind _)
    cases e1 : ql ps with
    | ok l ps2 =>
      rw [e1] at r1
      obtain ⟨h2, e2, _, st2, z⟩ := r1
      obtain ⟨rfl, u2⟩ := z rfl
      rw [e2]
      have r2 := hh Y s _ h2 st2
      show RelE true T Y s _ h1 ((hi s h2).bind _) ((qh _).bind _)
      cases e3 : qh ps2 with
      | ok u ps3 =>
        rw [e3] at r2
        obtain ⟨h3, e4, _, st3, z2⟩ := r2
        obtain ⟨rfl, u3⟩ := z2 rfl
        rw [e4]
        exact RelE.from (fun _ => ⟨rfl, u2.trans u3⟩) (o.rel st3 (rv.up (u2.trans u3)))
      | exc x =>
        rw [e3] at r2
        obtain ⟨h3, e4, q⟩ := r2
        rw [e4]
        exact ⟨h3, rfl, q⟩
      | bad => trivial
    | exc x =>
      rw [e1] at r1
      obtain ⟨h3, e4, q⟩ := r1
      rw [e4]
      exact ⟨h3, rfl, q⟩
    | bad => trivial
end
end Tb
end

section
set_option maxHeartbeats 4000000
namespace Tb
open PySem PySem.Spec PyProof.Rows L2
/-! ## what is walked -/
abbrev PGd := Option (Nat × List D)
abbrev PI' := Sl → PR (List D × PGd)
def gP (g : PGd) (s : Sl) : Prop := match g with
  | none => True
  | some (i, xs) => s[i]? = some (some (.lst xs))
def GR (T : SC) (Y : DY) (s : Sl) (g' : Gd) (g : PGd) : Prop := match g', g with
  | none, none => True
  | some (n, xs), none => n < Y.h0.next ∧ n ∉ Y.IO ∧ Y.h0.get n = some (.lst xs)
  | some (n, xs), some (i, ys) => i ∈ T.K ∧ i ∈ T.Fx ∧ s[i]? = some (some (.ref n)) ∧ xs = ys
  | none, some _ => False
theorem GR.ok {T : SC} {Y : DY} {s ps : Sl} {h : MH} {g' : Gd} {g : PGd} (r : GR T Y s g' g) (st : St T Y s ps h) (q : gP g ps) : gOk g' h := by
  unfold GR at r
  unfold gP at q
  unfold gOk
  split at r
  · trivial
  · obtain ⟨a, c, e⟩ := r
    simp only
    rw [st.frm _ a c]
    exact e
  · obtain ⟨a, _, e, rfl⟩ := r
    simp only at q
    obtain ⟨n, xs, e1, _, e2, e3, _⟩ := st.held a q
    rw [e] at e1
    cases e1
    cases e3
    exact e2
  · exact r.elim
theorem GR.to {T : SC} {Y : DY} {s s' ps ps' : Sl} {h h' : MH} {g' : Gd} {g : PGd} (r : GR T Y s g' g) (st : St T Y s ps h) (st' : St T Y s' ps' h') : GR T Y s' g' g := by
  unfold GR at r ⊢
  split at r
  · exact r
  · exact r
  · obtain ⟨a, c, e, z⟩ := r
    exact ⟨a, c, by rw [st'.fix _ c, ← st.fix _ c]; exact e, z⟩
  · exact r
def GdAt (g' : Gd) (h : MH) : Prop := match g' with
  | none => True
  | some (n, xs) => n < h.next ∧ h.get n = some (.lst xs)
def RelIt (b : Bool) (T : SC) (Y : DY) (s ps : Sl) (h : MH) (rm : R (List D × Gd)) (rq : PR (List D × PGd)) : Prop := match rq with
  | .ok p ps' => ∃ g' h', rm = .ok (p.1, g') h' ∧ nrs p.1 = true ∧ St T Y s ps' h' ∧ GR T Y s g' p.2 ∧ GdAt g' h' ∧ (b = true → ps' = ps ∧ Up h h')
  | .exc e => ∃ h', rm = .exc e h' ∧ FrY Y h' ∧ e.nr
  | .bad => True
theorem GdAt.up {g' : Gd} {h h' : MH} (q : GdAt g' h) (u : Up h h') : GdAt g' h' := by
  unfold GdAt at q ⊢
  split at q
  · trivial
  · exact ⟨Nat.lt_of_lt_of_le q.1 u.nx, by rw [u.get _ q.1]; exact q.2⟩
theorem GdAt.ok {g' : Gd} {h : MH} (q : GdAt g' h) : gOk g' h := by
  unfold GdAt at q
  unfold gOk
  split at q
  · trivial
  · exact q.2
def SimI (b : Bool) (T : SC) (m : MI) (q : PI') : Prop := ∀ Y s ps h, St T Y s ps h → RelIt b T Y s ps h (m s h) (q ps)
theorem RelIt.from {b : Bool} {T : SC} {Y : DY} {s ps ps1 : Sl} {h h1 : MH} {rm : R (List D × Gd)} {rq : PR (List D × PGd)} (hb : b = true → ps1 = ps ∧ Up h h1) (r : RelIt b T Y s ps1 h1 rm rq) : RelIt b T Y s ps h rm rq := by
  cases rq with
  | ok a ps' =>
    obtain ⟨g', h', e, na, st, gr, ga, q⟩ := r
    exact ⟨g', h', e, na, st, gr, ga, fun z => let ⟨e1, u1⟩ := hb z; let ⟨e2, u2⟩ := q z; ⟨e2.trans e1, u1.trans u2⟩⟩
  | exc e => exact r
  | bad => trivial
section
variable {α : Type} [Nrm α] {b : Bool} {T : SC} {Y : DY} {s ps : Sl} {h : MH}
theorem RelE.bindI {rm : R α} {rq : PR α} {f : α → MH → R (List D × Gd)} {g : α → Sl → PR (List D × PGd)} (r : RelE b T Y s ps h rm rq) (k : ∀ a ps1 h1, St T Y s ps1 h1 → Nrm.ok a → RelIt b T Y s ps1 h1 (f a h1) (g a ps1)) : RelIt b T Y s ps h (rm.bind f) (rq.bind g) := by
  cases rq with
  | ok a ps1 =>
    obtain ⟨h1, e, na, st, q⟩ := r
    subst e
    exact RelIt.from q (k a ps1 h1 st na)
  | exc e =>
    obtain ⟨h1, e1, q⟩ := r
    subst e1
    exact ⟨h1, rfl, q⟩
  | bad => trivial
/-- of a value -/
def items (d : D) : Option (List D) := match d with
  | .tup xs => some xs
  | .lst xs => some xs
  | .str x => some (x.cps.toList.map fun c => .str ⟨#[c]⟩)
  | _ => none
def pIter (x : PE) : PI' := fun s => (x s).bind fun d s1 => match items d with
  | some xs => .ok (xs, none) s1
  | none => .bad
theorem items_it {d : D} {xs : List D} (hn : d.nr = true) (e : items d = some xs) : itOf d h = .ok (xs, none) h ∧ nrs xs = true := by
  cases d <;> simp only [items, Option.some.injEq, reduceCtorEq] at e
  · subst e
    refine ⟨rfl, nrs_iff.mpr fun x hx => ?_⟩
    obtain ⟨c, _, rfl⟩ := List.mem_map.mp hx
    rfl
  · subst e
    exact ⟨rfl, by simpa only [D.nr] using hn⟩
  · subst e
    exact ⟨rfl, by simpa only [D.nr] using hn⟩
variable {a c : ME} {pa pc : PE} {i : Nat}
theorem si_val (ha : Sim b T a pa) : SimI b T (mIter a) (pIter pa) := fun Y s ps h st =>
  (ha Y s ps h st).bindI fun d ps1 h1 st1 n => by
    cases e : items d with
    | none => trivial
    | some xs =>
      obtain ⟨e1, e2⟩ := items_it (h := h1) n e
      exact ⟨none, h1, e1, e2, st1, trivial, trivial, fun _ => ⟨rfl, Up.refl⟩⟩
/-- of a name that holds another one's list -/
theorem si_rd (hi : i ∉ T.K) : SimI b T (mIter (mVar i)) (pIter (pVar i)) := fun Y s ps h st => by
  show RelIt b T Y s ps h ((mVar i s h).bind itOf) ((pVar i ps).bind _)
  cases e : pVar i ps with
  | exc x => exact absurd e pVar_exc
  | bad => trivial
  | ok p ps1 =>
    obtain ⟨rfl, ep⟩ := pVar_ok e
    obtain ⟨d, es, rv⟩ := st.rv ep
    have em : mVar i s h = .ok d h := by
      unfold mVar
      simp only [es]
    rw [em]
    show RelIt b T Y s _ h (itOf d h) (match items p with | some xs => .ok (xs, none) _ | none => .bad)
    rcases rv with ⟨rfl, n⟩ | ⟨n, xs, rfl, h1, h2, rfl, h3⟩
    · cases e : items d with
      | none => trivial
      | some xs =>
        obtain ⟨e1, e2⟩ := items_it (h := h) n e
        exact ⟨none, h, e1, e2, st, trivial, trivial, fun _ => ⟨rfl, Up.refl⟩⟩
    · obtain ⟨q1, q2⟩ := st.rdo i n _ hi ep es
      refine ⟨some (n, xs), h, ?_, h3, st, ⟨q1, q2, ?_⟩, ⟨h1, h2⟩, fun _ => ⟨rfl, Up.refl⟩⟩
      · simp only [itOf, h2]
      · rw [← st.frm n q1 q2]
        exact h2
/-- of a held list, that stays meanwhile -/
def pIterK (i : Nat) : PI' := fun s => match s[i]? with
  | some (some (.lst xs)) => .ok (xs, some (i, xs)) s
  | _ => .bad
theorem si_held (hi : i ∈ T.K) (hf : i ∈ T.Fx) : SimI b T (mIter (mVar i)) (pIterK i) := fun Y s ps h st => by
  unfold pIterK
  split
  · rename_i xs ep
    obtain ⟨n, ys, es, h1, h2, h3, h4⟩ := st.held hi ep
    cases h3
    refine ⟨some (n, xs), h, ?_, h4, st, ⟨hi, hf, es, rfl⟩, ⟨h1, h2⟩, fun _ => ⟨rfl, Up.refl⟩⟩
    have em : mVar i s h = .ok (.ref n) h := by
      unfold mVar
      simp only [es]
    show (mVar i s h).bind itOf = _
    rw [em]
    show itOf (.ref n) h = _
    simp only [itOf, h2]
  · trivial
theorem nrs_range {lo : Int} {n : Nat} : nrs (rangeD lo n) = true := nrs_iff.mpr fun x hx => by
  unfold rangeD at hx
  obtain ⟨j, _, rfl⟩ := List.mem_map.mp hx
  rfl
def pRange1 (x : PE) : PI' := fun s => (x s).bind fun d s1 => match d with
  | .int j => if -(2 ^ 62) ≤ j ∧ j < 2 ^ 62 then .ok (rangeD 0 j.toNat, none) s1 else .bad
  | _ => .bad
def pRange2 (x y : PE) : PI' := fun s => (x s).bind fun d s1 => (y s1).bind fun e s2 => match d, e with
  | .int i, .int j => if -(2 ^ 62) ≤ i ∧ i < 2 ^ 62 ∧ -(2 ^ 62) ≤ j ∧ j < 2 ^ 62 then .ok (rangeD i (j - i).toNat, none) s2 else .bad
  | _, _ => .bad
theorem si_range1 (ha : Sim b T a pa) : SimI b T (mRange1 a) (pRange1 pa) := fun Y s ps h st =>
  (ha Y s ps h st).bindI fun d ps1 h1 st1 n => by
    cases d <;> try trivial
    simp only
    split
    · exact ⟨none, h1, rfl, nrs_range, st1, trivial, trivial, fun _ => ⟨rfl, Up.refl⟩⟩
    · trivial
theorem si_range2 (ha : Sim b T a pa) (hc : Sim b T c pc) : SimI b T (mRange2 a c) (pRange2 pa pc) := fun Y s ps h st =>
  (ha Y s ps h st).bindI fun d ps1 h1 st1 n => (hc Y s ps1 h1 st1).bindI fun e ps2 h2 st2 n2 => by
    cases d <;> try trivial
    cases e <;> try trivial
    simp only
    split
    · exact ⟨none, h2, rfl, nrs_range, st2, trivial, trivial, fun _ => ⟨rfl, Up.refl⟩⟩
    · trivial
/-! ### zip, enumerate: what they walk, as it stands -/
def RelSrc (T : SC) (Y : DY) (s ps : Sl) (h : MH) (rm : R D) (rq : PR (List D × PGd)) : Prop := match rq with
  | .ok p ps' => ps' = ps ∧ ∃ d h' k g', rm = .ok d h' ∧ Up h h' ∧ nrs p.1 = true ∧ (∀ h2, Up h' h2 → srcOf h2 d = some (k, p.1, g')) ∧ GR T Y s g' p.2 ∧ GdAt g' h'
  | .exc e => ∃ h', rm = .exc e h' ∧ FrY Y h' ∧ e.nr
  | .bad => True
def SimSrc (T : SC) (m : ME) (q : PI') : Prop := ∀ Y s ps h, St T Y s ps h → RelSrc T Y s ps h (m s h) (q ps)
def pSrc (x : PE) : PI' := fun s => (x s).bind fun d s1 => match d with
  | .tup xs => .ok (xs, none) s1
  | .lst xs => .ok (xs, none) s1
  | _ => .bad
theorem src_val (ha : Sim true T a pa) : SimSrc T a (pSrc pa) := fun Y s ps h st => by
  have r := ha Y s ps h st
  unfold pSrc
  cases e : pa ps with
  | ok d ps1 =>
    rw [e] at r
    obtain ⟨h1, e1, n, st1, z⟩ := r
    obtain ⟨rfl, u⟩ := z rfl
    cases d <;> try trivial
    · exact ⟨rfl, _, h1, true, none, e1, u, n, fun _ _ => rfl, trivial, trivial⟩
    · exact ⟨rfl, _, h1, false, none, e1, u, n, fun _ _ => rfl, trivial, trivial⟩
  | exc x =>
    rw [e] at r
    exact r
  | bad => trivial
theorem src_held (hi : i ∈ T.K) (hf : i ∈ T.Fx) : SimSrc T (mVar i) (pIterK i) := fun Y s ps h st => by
  unfold pIterK
  split
  · rename_i xs ep
    obtain ⟨n, ys, es, h1, h2, h3, h4⟩ := st.held hi ep
    cases h3
    refine ⟨rfl, .ref n, h, false, some (n, xs), ?_, Up.refl, h4, fun h2' u => ?_, ⟨hi, hf, es, rfl⟩, ⟨h1, h2⟩⟩
    · unfold mVar
      simp only [es]
    · unfold srcOf
      simp only [u.get n h1, h2]
  · trivial
theorem src_rd (hi : i ∉ T.K) : SimSrc T (mVar i) (pSrc (pVar i)) := fun Y s ps h st => by
  unfold pSrc
  cases e : pVar i ps with
  | exc x => exact absurd e pVar_exc
  | bad => trivial
  | ok p ps1 =>
    obtain ⟨rfl, ep⟩ := pVar_ok e
    obtain ⟨d, es, rv⟩ := st.rv ep
    have em : mVar i s h = .ok d h := by
      unfold mVar
      simp only [es]
    rw [em]
    rcases rv with ⟨rfl, n⟩ | ⟨n, xs, rfl, h1, h2, rfl, h3⟩
    · cases d <;> try trivial
      · exact ⟨rfl, _, h, true, none, rfl, Up.refl, n, fun _ _ => rfl, trivial, trivial⟩
      · exact ⟨rfl, _, h, false, none, rfl, Up.refl, n, fun _ _ => rfl, trivial, trivial⟩
    · obtain ⟨q1, q2⟩ := st.rdo i n _ hi ep es
      refine ⟨rfl, .ref n, h, false, some (n, xs), rfl, Up.refl, h3, fun h2' u => ?_, ⟨q1, q2, ?_⟩, ⟨h1, h2⟩⟩
      · unfold srcOf
        simp only [u.get n h1, h2]
      · rw [← st.frm n q1 q2]
        exact h2
def pEnum (x : PI') : PI' := fun s => (x s).bind fun p s1 => .ok (p.1.mapIdx fun i x => pairD (.int (i : Nat)) x, p.2) s1
def pZip (x y : PI') : PI' := fun s => (x s).bind fun p s1 => (y s1).bind fun q s2 => match p.2, q.2 with
  | none, g => .ok (List.zipWith pairD p.1 q.1, g) s2
  | some g, none => .ok (List.zipWith pairD p.1 q.1, some g) s2
  | _, _ => .bad
theorem nrs_zip : ∀ {xs ys : List D}, nrs xs = true → nrs ys = true → nrs (List.zipWith pairD xs ys) = true
  | [], _, _, _ => by simp [nrs]
  | _ :: _, [], _, _ => by simp [nrs]
  | x :: xs, y :: ys, h1, h2 => by
    simp only [nrs, Bool.and_eq_true] at h1 h2
    simp only [List.zipWith_cons_cons, nrs, pairD, D.nr, h1.1, h2.1, nrs_zip h1.2 h2.2, Bool.and_self, Bool.and_true]
theorem nrs_enum {xs : List D} (h : nrs xs = true) : nrs (xs.mapIdx fun i x => pairD (.int (i : Nat)) x) = true := nrs_iff.mpr fun y hy => by
  obtain ⟨i, hi, rfl⟩ := List.mem_mapIdx.mp hy
  have := nrs_iff.mp h xs[i] (List.getElem_mem hi)
  simp [pairD, D.nr, nrs, this]
variable {qa qc : PI'}
theorem si_enum (ha : SimSrc T a qa) : SimI b T (mEnum a) (pEnum qa) := fun Y s ps h st => by
  have r := ha Y s ps h st
  show RelIt b T Y s ps h ((a s h).bind enumOf) ((qa ps).bind _)
  cases e : qa ps with
  | ok p ps1 =>
    rw [e] at r
    obtain ⟨rfl, d, h1, k, g', e1, u, n, es, gr, ga⟩ := r
    rw [e1]
    refine ⟨g', h1, ?_, nrs_enum n, st.up u, gr, ga, fun _ => ⟨rfl, u⟩⟩
    show enumOf d h1 = _
    unfold enumOf
    rw [es h1 Up.refl]
  | exc x =>
    rw [e] at r
    obtain ⟨h1, e1, q⟩ := r
    rw [e1]
    exact ⟨h1, rfl, q⟩
  | bad => trivial
theorem si_zipL (ha : Sim true T a pa) (hc : SimSrc T c qc) : SimI b T (mZip a c) (pZip (pSrc pa) qc) := fun Y s ps h st => by
  have r := ha Y s ps h st
  show RelIt b T Y s ps h ((a s h).bind _) ((pSrc pa ps).bind _)
  unfold pSrc
  cases e : pa ps with
  | ok d ps1 =>
    rw [e] at r
    obtain ⟨h1, e1, nd, st1, z⟩ := r
    obtain ⟨rfl, u⟩ := z rfl
    rw [e1]
    have go : ∀ (k : Bool) (xs : List D), nrs xs = true → (∀ h2, srcOf h2 d = some (k, xs, none)) → RelIt b T Y s ps1 h ((c s h1).bind fun e h2 => zipOf d e h2) ((qc ps1).bind fun q s2 => .ok (List.zipWith pairD xs q.1, q.2) s2) := by
      intro k xs n es
      have r2 := hc Y s _ h1 st1
      cases e2 : qc ps1 with
      | ok p2 ps2 =>
        rw [e2] at r2
        obtain ⟨rfl, d2, h2, k2, g2, e3, u2, n2, es2, gr2, ga2⟩ := r2
        rw [e3]
        refine ⟨g2, h2, ?_, nrs_zip n n2, st1.up u2, gr2, ga2, fun _ => ⟨rfl, u.trans u2⟩⟩
        show zipOf d d2 h2 = _
        unfold zipOf
        rw [es h2, es2 h2 Up.refl]
      | exc x =>
        rw [e2] at r2
        obtain ⟨h2, e3, q⟩ := r2
        rw [e3]
        exact ⟨h2, rfl, q⟩
      | bad => trivial
    cases d <;> try trivial
    · exact go true _ nd fun _ => rfl
    · exact go false _ nd fun _ => rfl
  | exc x =>
    rw [e] at r
    obtain ⟨h1, e1, q⟩ := r
    rw [e1]
    exact ⟨h1, rfl, q⟩
  | bad => trivial
theorem si_zipR (ha : SimSrc T a qa) (hc : Sim true T c pc) : SimI b T (mZip a c) (pZip qa (pSrc pc)) := fun Y s ps h st => by
  have r := ha Y s ps h st
  show RelIt b T Y s ps h ((a s h).bind _) ((qa ps).bind _)
  cases e : qa ps with
  | ok p ps1 =>
    rw [e] at r
    obtain ⟨rfl, d, h1, k, g', e1, u, n, es, gr, ga⟩ := r
    rw [e1]
    have r2 := hc Y s _ h1 (st.up u)
    show RelIt b T Y s _ h ((c s h1).bind _) ((pSrc pc _).bind _)
    unfold pSrc
    cases e2 : pc ps1 with
    | ok d2 ps2 =>
      rw [e2] at r2
      obtain ⟨h2, e3, n2, st2, z⟩ := r2
      obtain ⟨rfl, u2⟩ := z rfl
      rw [e3]
      have fin : ∀ (k2 : Bool) (ys : List D), nrs ys = true → srcOf h2 d2 = some (k2, ys, none) → RelIt b T Y s ps2 h (zipOf d d2 h2) (match p.2, (none : PGd) with
          | none, g => PR.ok (List.zipWith pairD p.1 ys, g) ps2
          | some g, none => .ok (List.zipWith pairD p.1 ys, some g) ps2
          | _, _ => .bad) := by
        intro k2 ys ny e5
        obtain ⟨p1, pg⟩ := p
        unfold zipOf
        rw [es h2 u2, e5]
        cases pg with
        | none => cases g' with
          | none => exact ⟨none, h2, rfl, nrs_zip n ny, st2, gr, trivial, fun _ => ⟨rfl, u.trans u2⟩⟩
          | some g4 => exact ⟨some g4, h2, rfl, nrs_zip n ny, st2, gr, ga.up u2, fun _ => ⟨rfl, u.trans u2⟩⟩
        | some gg => cases g' with
          | none => exact gr.elim
          | some g4 => exact ⟨some g4, h2, rfl, nrs_zip n ny, st2, gr, ga.up u2, fun _ => ⟨rfl, u.trans u2⟩⟩
      cases d2 <;> try trivial
      · exact fin true _ n2 rfl
      · exact fin false _ n2 rfl
    | exc x =>
      rw [e2] at r2
      obtain ⟨h2, e3, q⟩ := r2
      rw [e3]
      exact ⟨h2, rfl, q⟩
    | bad => trivial
  | exc x =>
    rw [e] at r
    obtain ⟨h1, e1, q⟩ := r
    rw [e1]
    exact ⟨h1, rfl, q⟩
  | bad => trivial
end
end Tb
end

section
set_option maxHeartbeats 4000000
namespace Tb
open PySem PySem.Spec PyProof.Rows L2
/-! ## targets -/
def TgOk (T : SC) (tg : MG) : Prop := ∀ x ps ps1 Y s h, x.nr = true → tg x ps = some ps1 → St T Y s ps h → ∃ s1, tg x s = some s1 ∧ St T Y s1 ps1 h
def TgsOk (T : SC) (tg : MGs) : Prop := ∀ x ps ps1 Y s h, nrs x = true → tg x ps = some ps1 → St T Y s ps h → ∃ s1, tg x s = some s1 ∧ St T Y s1 ps1 h
def TgIn (vs : List Nat) (tg : MG) : Prop := ∀ x s s1, tg x s = some s1 → wipeM s1 vs = wipeM s vs
def TgsIn (vs : List Nat) (tg : MGs) : Prop := ∀ x s s1, tg x s = some s1 → wipeM s1 vs = wipeM s vs
section
variable {T : SC} {Y : DY} {s ps : Sl} {h : MH} {i n : Nat} {vs : List Nat} {tg : MG} {tgs : MGs}
theorem tg_name (hi : i ∉ T.K) (hf : i ∉ T.Fx) : TgOk T (mgName i) := fun x ps ps1 Y s h nx e st => by
  cases e
  exact ⟨_, rfl, st.setV hi hf nx⟩
theorem tgs_nil : TgsOk T mgNil := fun x ps ps1 Y s h nx e st => by
  cases x with
  | nil =>
    cases e
    exact ⟨_, rfl, st⟩
  | cons => cases e
theorem tgs_cons (h1 : TgOk T tg) (h2 : TgsOk T tgs) : TgsOk T (mgCons tg tgs) := fun x ps ps1 Y s h nx e st => by
  cases x with
  | nil => cases e
  | cons d ds =>
    simp only [nrs, Bool.and_eq_true] at nx
    simp only [mgCons, Option.bind_eq_some_iff] at e
    obtain ⟨ps2, e1, e2⟩ := e
    obtain ⟨s2, e3, st2⟩ := h1 d ps ps2 Y s h nx.1 e1 st
    obtain ⟨s3, e4, st3⟩ := h2 ds ps2 ps1 Y s2 h nx.2 e2 st2
    exact ⟨s3, by simp only [mgCons, e3, Option.bind_some, e4], st3⟩
theorem tg_tup (h1 : TgsOk T tgs) : TgOk T (mgTup n tgs) := fun x ps ps1 Y s h nx e st => by
  cases x with
  | tup xs =>
    simp only [mgTup] at e ⊢
    split at e
    · rename_i hz
      rw [if_pos hz]
      exact h1 xs ps ps1 Y s h nx e st
    · cases e
  | lst xs =>
    simp only [mgTup] at e ⊢
    split at e
    · rename_i hz
      rw [if_pos hz]
      exact h1 xs ps ps1 Y s h nx e st
    · cases e
  | _ => cases e
theorem wipe_len : ∀ {vs : List Nat}, (wipeM s vs).length = s.length
  | [] => rfl
  | v :: vs => by
    unfold wipeM
    rw [List.length_set]
    exact wipe_len
theorem wipe_get : ∀ {vs : List Nat}, (wipeM s vs)[i]? = if i ∈ vs then (if i < s.length then some none else none) else s[i]?
  | [] => by simp [wipeM]
  | v :: vs => by
    unfold wipeM
    rw [List.getElem?_set, wipe_get (vs := vs), wipe_len]
    by_cases hv : v = i
    · subst hv
      simp
    · rw [if_neg hv]
      have : (i ∈ v :: vs) ↔ i ∈ vs := by simp [Ne.symm hv]
      simp only [this]
theorem wipe_wipe : wipeM (wipeM s vs) vs = wipeM s vs := List.ext_getElem? fun i => by
  rw [wipe_get, wipe_get, wipe_len]
  split <;> rfl
theorem in_name (hi : i ∈ vs) : TgIn vs (mgName i) := fun x s s1 e => by
  cases e
  refine List.ext_getElem? fun j => ?_
  rw [wipe_get, wipe_get, List.length_set]
  split
  · rfl
  · rename_i hj
    exact set_ne fun z => hj (z ▸ hi)
theorem ins_nil : TgsIn vs mgNil := fun x s s1 e => by
  cases x with
  | nil =>
    cases e
    rfl
  | cons => cases e
theorem ins_cons (h1 : TgIn vs tg) (h2 : TgsIn vs tgs) : TgsIn vs (mgCons tg tgs) := fun x s s1 e => by
  cases x with
  | nil => cases e
  | cons d ds =>
    simp only [mgCons, Option.bind_eq_some_iff] at e
    obtain ⟨s2, e1, e2⟩ := e
    exact (h2 ds s2 s1 e2).trans (h1 d s s2 e1)
theorem in_tup (h1 : TgsIn vs tgs) : TgIn vs (mgTup n tgs) := fun x s s1 e => by
  cases x with
  | tup xs =>
    simp only [mgTup] at e
    split at e
    · exact h1 xs s s1 e
    · cases e
  | lst xs =>
    simp only [mgTup] at e
    split at e
    · exact h1 xs s s1 e
    · cases e
  | _ => cases e
theorem St.wipe : ∀ {vs : List Nat}, (∀ v ∈ vs, v ∉ T.Fx) → St T Y s ps h → St T Y (wipeM s vs) (wipeM ps vs) h
  | [], _, st => st
  | v :: vs, hf, st => (St.wipe (fun u hu => hf u (List.mem_cons_of_mem _ hu)) st).unset2 (hf v List.mem_cons_self)
/-- names of a comprehension are as ahead -/
def unwipe (s1 s2 : Sl) : List Nat → Sl
  | [] => s2
  | v :: vs => match s1[v]? with
    | some o => (unwipe s1 s2 vs).set v o
    | none => unwipe s1 s2 vs
theorem unwipe_len {s1 s2 : Sl} : ∀ {vs : List Nat}, (unwipe s1 s2 vs).length = s2.length
  | [] => rfl
  | v :: vs => by
    unfold unwipe
    split
    · rw [List.length_set]
      exact unwipe_len
    · exact unwipe_len
theorem unwipe_get {s1 s2 : Sl} (hl : s1.length = s2.length) : ∀ {vs : List Nat}, (unwipe s1 s2 vs)[i]? = if i ∈ vs then s1[i]? else s2[i]?
  | [] => by simp [unwipe]
  | v :: vs => by
    unfold unwipe
    have ih := unwipe_get hl (vs := vs)
    cases e : s1[v]? with
    | none =>
      simp only
      rw [ih]
      by_cases hv : i = v
      · subst hv
        have : s2[i]? = none := by
          rw [List.getElem?_eq_none_iff] at e ⊢
          omega
        simp [e, this]
      · have : (i ∈ v :: vs) ↔ i ∈ vs := by simp [hv]
        simp only [this]
    | some o =>
      simp only
      by_cases hv : i = v
      · subst hv
        have := get_lt e
        rw [set_eq (by rw [unwipe_len]; omega), if_pos List.mem_cons_self, e]
      · rw [set_ne hv, ih]
        have : (i ∈ v :: vs) ↔ i ∈ vs := by simp [hv]
        simp only [this]
theorem unwipe_same (hl : ∀ v ∈ vs, v < s.length → True) : unwipe s (wipeM s vs) vs = s := List.ext_getElem? fun i => by
  rw [unwipe_get (by rw [wipe_len]), wipe_get]
  split <;> rfl
theorem St.unwipe {ps2 : Sl} {h2 : MH} (hK : ∀ v ∈ vs, v ∉ T.K) (hR : ∀ v ∈ vs, v ∉ T.Rd) (st : St T Y s ps h) (st2 : St T Y (wipeM s vs) ps2 h2) : St T Y s (unwipe ps ps2 vs) h2 := by
  have hl : ps.length = ps2.length := by
    have := st2.len
    rw [wipe_len, st.len] at this
    exact this
  have look : ∀ {j : Nat} {q : D}, (Tb.unwipe ps ps2 vs)[j]? = some (some q) → (j ∈ vs ∧ ps[j]? = some (some q) ∧ s[j]? = some (some q) ∧ q.nr = true) ∨ (j ∉ vs ∧ ps2[j]? = some (some q)) := fun {j q} e => by
    rw [unwipe_get hl] at e
    split at e
    · rename_i hj
      obtain ⟨d, e1, _, _, c⟩ := st.val j q e
      obtain ⟨rfl, n⟩ := c (hK j hj) (hR j hj)
      exact .inl ⟨hj, e, e1, n⟩
    · exact .inr ⟨by assumption, e⟩
  have at_ : ∀ {j : Nat}, j ∉ vs → (wipeM s vs)[j]? = s[j]? := fun hj => by rw [wipe_get, if_neg hj]
  refine ⟨by rw [unwipe_len, ← hl, st.len], fun j q e => ?_, fun j m q hj e em => ?_, fun j m q hj e em => ?_, st2.frm, st2.nxt, st2.io, st.fix⟩
  · rcases look e with ⟨hj, _, e2, n⟩ | ⟨hj, e2⟩
    · exact ⟨q, e2, fun z => absurd z (hK j hj), fun _ => .inl ⟨rfl, n⟩, fun _ _ => ⟨rfl, n⟩⟩
    · obtain ⟨d, e1, z⟩ := st2.val j q e2
      exact ⟨d, by rw [← at_ hj]; exact e1, z⟩
  · rcases look e with ⟨hv, _⟩ | ⟨hv, e2⟩
    · exact absurd hj (hK j hv)
    · obtain ⟨a, b⟩ := st2.sep j m q hj e2 (by rw [at_ hv]; exact em)
      refine ⟨a, fun k r hk er => ?_⟩
      rcases look er with ⟨_, _, e3, n⟩ | ⟨hkv, e3⟩
      · rw [e3]
        intro z
        cases z
        cases n
      · rw [← at_ hkv]
        exact b k r hk e3
  · rcases look e with ⟨hv, _, e3, n⟩ | ⟨hv, e2⟩
    · rw [e3] at em
      cases em
      cases n
    · exact st2.rdo j m q hj e2 (by rw [at_ hv]; exact em)
/-! ### a name that stays -/
abbrev SC.fx (T : SC) (i : Nat) : SC := { T with Fx := i :: T.Fx }
theorem St.addFx (st : St T Y s ps h) : St (T.fx i) { Y with s0 := s } s ps h := ⟨st.len, st.val, st.sep, st.rdo, st.frm, st.nxt, st.io, fun _ _ => rfl⟩
theorem St.subFx {s' ps' : Sl} {h' : MH} (st : St T Y s ps h) (st' : St (T.fx i) { Y with s0 := s } s' ps' h') : St T Y s' ps' h' :=
  ⟨st'.len, st'.val, st'.sep, st'.rdo, st'.frm, st'.nxt, st'.io, fun j hj => (st'.fix j (List.mem_cons_of_mem _ hj)).trans (st.fix j hj)⟩
theorem sim_fx {α : Type} [Nrm α] {b : Bool} {m : Sl → MH → R α} {q : Sl → PR α} (i : Nat) (S : Sim b (T.fx i) m q) : Sim b T m q := fun Y s ps h st => by
  have r := S _ s ps h (st.addFx (i := i))
  cases e : q ps with
  | ok a ps1 =>
    rw [e] at r
    obtain ⟨h1, e1, n, st1, z⟩ := r
    exact ⟨h1, e1, n, st.subFx st1, z⟩
  | exc x =>
    rw [e] at r
    exact r
  | bad => trivial
end
/-! ## comprehensions -/
open Classical in
noncomputable def compP (g : PGd) (vs : List Nat) (tg : MG) (tt : PT) (el : PE) : List D → List D → Sl → PR (List D)
  | [], acc, s => if gP g s then .ok acc s else .bad
  | x :: xs, acc, s => if gP g s then (match tg x s with
      | some s1 => (match tt s1 with
        | .ok b s2 => if b = true then (match el s2 with
            | .ok y s3 => if acc.length < sizeLine then compP g vs tg tt el xs (acc ++ [y]) (wipeM s3 vs) else .bad
            | _ => .bad) else compP g vs tg tt el xs acc (wipeM s2 vs)
        | _ => .bad)
      | none => .bad) else .bad
noncomputable def pComp (it : PI') (vs : List Nat) (tg : MG) (tt : PT) (el : PE) : PE := fun s => (it s).bind fun p s1 => match compP p.2 vs tg tt el p.1 [] (wipeM s1 vs) with
  | .ok xs s2 => .ok (.lst xs) (unwipe s1 s2 vs)
  | _ => .bad
section
variable {b : Bool} {T : SC} {Y : DY} {s ps : Sl} {h : MH} {i n : Nat} {vs : List Nat} {tg : MG} {tt : MT} {el : ME} {qt : PT} {qe : PE} {it : MI} {qi : PI'}
theorem nrs_append {xs ys : List D} (h1 : nrs xs = true) (h2 : nrs ys = true) : nrs (xs ++ ys) = true := nrs_iff.mpr fun x hx => (List.mem_append.mp hx).elim (nrs_iff.mp h1 x) (nrs_iff.mp h2 x)
theorem nrs_one {x : D} (h : x.nr = true) : nrs [x] = true := by simp [nrs, h]
theorem nrs_nil : nrs [] = true := rfl
theorem nrs_cons {x : D} {xs : List D} : nrs (x :: xs) = true ↔ x.nr = true ∧ nrs xs = true := by simp [nrs]
theorem comp_sim {g' : Gd} {g : PGd} (htg : TgOk T tg) (hin : TgIn vs tg) (ht : Sim false T tt qt) (he : Sim false T el qe) (hF : ∀ v ∈ vs, v ∉ T.Fx) : ∀ (xs acc : List D) (ps : Sl) (h : MH), St T Y (wipeM s vs) ps h → GR T Y (wipeM s vs) g' g → nrs xs = true → nrs acc = true →
    match compP g vs tg qt qe xs acc ps with
    | .ok ys ps' => ∃ h', compLoop g' tg tt el (wipeM s vs) xs acc h = .ok ys h' ∧ nrs ys = true ∧ St T Y (wipeM s vs) ps' h'
    | _ => True
  | [], acc, ps, h, st, gr, _, na => by
    unfold compP compLoop
    by_cases hg : gP g ps
    · rw [if_pos hg, if_pos (gr.ok st hg)]
      exact ⟨h, rfl, na, st⟩
    · rw [if_neg hg]
      trivial
  | x :: xs, acc, ps, h, st, gr, nx, na => by
    obtain ⟨n1, n2⟩ := nrs_cons.mp nx
    unfold compP compLoop
    by_cases hg : gP g ps
    · rw [if_pos hg, if_pos (gr.ok st hg)]
      cases e1 : tg x ps with
      | none => trivial
      | some ps1 =>
        obtain ⟨s1, e2, st1⟩ := htg x ps ps1 Y _ h n1 e1 st
        have hw := hin x _ s1 e2
        rw [wipe_wipe] at hw
        simp only [e2]
        have r := ht Y s1 ps1 h st1
        cases e3 : qt ps1 with
        | ok k ps2 =>
          rw [e3] at r
          obtain ⟨h1, e4, _, st2, _⟩ := r
          simp only [e4]
          cases k with
          | true =>
            simp only [if_true]
            have r2 := he Y s1 ps2 h1 st2
            cases e5 : qe ps2 with
            | ok y ps3 =>
              rw [e5] at r2
              obtain ⟨h2, e6, ny, st3, _⟩ := r2
              simp only [e6]
              by_cases hz : acc.length < sizeLine
              · rw [if_pos hz, if_pos hz]
                have st4 := st3.wipe (vs := vs) hF
                rw [hw] at st4
                exact comp_sim htg hin ht he hF xs _ _ _ st4 (gr.to st st4) n2 (nrs_append na (nrs_one ny))
              · rw [if_neg hz]
                trivial
            | exc x => trivial
            | bad => trivial
          | false =>
            simp only [Bool.false_eq_true, if_false]
            have st4 := st2.wipe (vs := vs) hF
            rw [hw] at st4
            exact comp_sim htg hin ht he hF xs _ _ _ st4 (gr.to st st4) n2 na
        | exc x => trivial
        | bad => trivial
    · rw [if_neg hg]
      trivial
theorem GR.wipe {g' : Gd} {g : PGd} (hK : ∀ v ∈ vs, v ∉ T.K) (r : GR T Y s g' g) : GR T Y (wipeM s vs) g' g := by
  unfold GR at r ⊢
  split at r
  · exact r
  · exact r
  · obtain ⟨a, c, e, z⟩ := r
    exact ⟨a, c, by rw [wipe_get, if_neg fun q => hK _ q a]; exact e, z⟩
  · exact r
theorem RelIt.bind {α : Type} [Nrm α] {rm : R (List D × Gd)} {rq : PR (List D × PGd)} {f : List D × Gd → MH → R α} {ff : List D × PGd → Sl → PR α} (r : RelIt b T Y s ps h rm rq)
    (k : ∀ xs g' g ps1 h1, St T Y s ps1 h1 → nrs xs = true → GR T Y s g' g → GdAt g' h1 → (b = true → ps1 = ps ∧ Up h h1) → RelE b T Y s ps1 h1 (f (xs, g') h1) (ff (xs, g) ps1)) : RelE b T Y s ps h (rm.bind f) (rq.bind ff) := by
  cases rq with
  | ok p ps1 =>
    obtain ⟨g', h1, e, n, st, gr, ga, q⟩ := r
    subst e
    exact RelE.from q (k p.1 g' p.2 ps1 h1 st n gr ga q)
  | exc e =>
    obtain ⟨h1, e1, q⟩ := r
    subst e1
    exact ⟨h1, rfl, q⟩
  | bad => trivial
/-- a comprehension that draws -/
theorem sim_comp (hi : SimI false T it qi) (htg : TgOk T tg) (hin : TgIn vs tg) (ht : Sim false T tt qt) (he : Sim false T el qe) (hK : ∀ v ∈ vs, v ∉ T.K) (hR : ∀ v ∈ vs, v ∉ T.Rd) (hF : ∀ v ∈ vs, v ∉ T.Fx) :
    Sim false T (fun s h => (mComp it vs tg tt el s h).bind finL) (pComp qi vs tg qt qe) := fun Y s ps h st => by
  have e0 : (mComp it vs tg tt el s h).bind finL = (it s h).bind fun p h1 => (compLoop p.2 tg tt el (wipeM s vs) p.1 [] h1).bind finL := by
    unfold mComp
    cases it s h <;> rfl
  show RelE false T Y s ps h ((mComp it vs tg tt el s h).bind finL) _
  rw [e0]
  refine (hi Y s ps h st).bind fun xs g' g ps1 h1 st1 nx gr _ _ => ?_
  have r := comp_sim (s := s) (g' := g') (g := g) htg hin ht he hF xs [] _ h1 (st1.wipe (vs := vs) hF) (gr.wipe hK) nx rfl
  simp only
  cases e : compP g vs tg qt qe xs [] (wipeM ps1 vs) with
  | ok ys ps2 =>
    rw [e] at r
    obtain ⟨h2, e2, ny, st2⟩ := r
    rw [e2]
    exact ⟨h2, rfl, ny, St.unwipe hK hR st1 st2, fun z => by cases z⟩
  | exc x => exact trivial
  | bad => exact trivial
/-! ### that draw nothing -/
def lcQ {α : Type} (f : α → PR (Option D)) : List α → PR (List D)
  | [] => .ok [] []
  | x :: xs => match f x with
    | .ok o _ => (match lcQ f xs with
      | .ok ys _ => .ok (o.toList ++ ys) []
      | _ => .bad)
    | _ => .bad
def lcEl (vs : List Nat) (tg : MG) (tt : PT) (el : PE) (s : Sl) (x : D) : PR (Option D) := match tg x (wipeM s vs) with
  | some s1 => (tt s1).bind fun k s2 => if k = true then (el s2).bind fun y _ => .ok (some y) [] else .ok none []
  | none => .bad
def lcFin (r : PR (List D)) (s : Sl) : PR D := match r with
  | .ok ys _ => if ys.length ≤ sizeLine then .ok (.lst ys) s else .bad
  | _ => .bad
def pLc (it : PI') (vs : List Nat) (tg : MG) (tt : PT) (el : PE) : PE := fun s => (it s).bind fun p s1 => lcFin (lcQ (lcEl vs tg tt el s1) p.1) s1
theorem lcQ_sim {g' : Gd} (htg : TgOk T tg) (ht : Sim true T tt qt) (he : Sim true T el qe) (hg : ∀ h1, Up h h1 → gOk g' h1) (st0 : St T Y (wipeM s vs) (wipeM ps vs) h) : ∀ (xs acc ys : List D) (r : Sl) (h1 : MH), Up h h1 → nrs xs = true → lcQ (lcEl vs tg qt qe ps) xs = .ok ys r → acc.length + ys.length ≤ sizeLine →
    ∃ h2, compLoop g' tg tt el (wipeM s vs) xs acc h1 = .ok (acc ++ ys) h2 ∧ nrs ys = true ∧ Up h h2
  | [], acc, ys, r, h1, u, _, e, hz => by
    unfold lcQ at e
    cases e
    unfold compLoop
    rw [if_pos (hg h1 u)]
    exact ⟨h1, by simp, rfl, u⟩
  | x :: xs, acc, ys, r, h1, u, nx, e, hz => by
    obtain ⟨n1, n2⟩ := nrs_cons.mp nx
    unfold lcQ at e
    unfold compLoop
    rw [if_pos (hg h1 u)]
    cases e0 : lcEl vs tg qt qe ps x with
    | ok o r0 =>
      rw [e0] at e
      simp only at e
      cases e9 : lcQ (lcEl vs tg qt qe ps) xs with
      | ok zs r1 =>
        rw [e9] at e
        simp only [PR.ok.injEq] at e
        obtain ⟨rfl, _⟩ := e
        unfold lcEl at e0
        cases e1 : tg x (wipeM ps vs) with
        | none =>
          rw [e1] at e0
          cases e0
        | some ps1 =>
          rw [e1] at e0
          simp only at e0
          obtain ⟨s1, e2, st1⟩ := htg x _ ps1 Y _ h1 n1 e1 (st0.up u)
          simp only [e2]
          have rt := ht Y s1 ps1 h1 st1
          cases e3 : qt ps1 with
          | ok k ps2 =>
            rw [e3] at rt e0
            obtain ⟨h2, e4, _, st2, q⟩ := rt
            obtain ⟨rfl, u2⟩ := q rfl
            simp only [e4]
            cases k with
            | true =>
              simp only [PR.bind, if_true] at e0
              have rl := he Y s1 _ h2 st2
              cases e5 : qe ps2 with
              | ok y ps3 =>
                rw [e5] at rl e0
                obtain ⟨h3, e6, ny, st3, q3⟩ := rl
                obtain ⟨rfl, u3⟩ := q3 rfl
                simp only [PR.ok.injEq] at e0
                obtain ⟨rfl, _⟩ := e0
                simp only [Option.toList_some, List.cons_append, List.nil_append, List.length_cons] at hz
                simp only [e6, if_true]
                rw [if_pos (by omega)]
                obtain ⟨h4, e7, nz, u4⟩ := lcQ_sim htg ht he hg st0 xs (acc ++ [y]) zs r1 h3 (u.trans (u2.trans u3)) n2 e9 (by simp; omega)
                refine ⟨h4, ?_, nrs_cons.mpr ⟨ny, nz⟩, u4⟩
                rw [e7]
                simp
              | exc x =>
                rw [e5] at e0
                cases e0
              | bad =>
                rw [e5] at e0
                cases e0
            | false =>
              simp only [PR.bind, Bool.false_eq_true, if_false, PR.ok.injEq] at e0
              obtain ⟨rfl, _⟩ := e0
              simp only [Bool.false_eq_true, if_false]
              obtain ⟨h4, e7, nz, u4⟩ := lcQ_sim htg ht he hg st0 xs acc zs r1 h2 (u.trans u2) n2 e9 (by simpa using hz)
              exact ⟨h4, by rw [e7]; simp, by simpa using nz, u4⟩
          | exc x =>
            rw [e3] at e0
            cases e0
          | bad =>
            rw [e3] at e0
            cases e0
      | exc x =>
        rw [e9] at e
        cases e
      | bad =>
        rw [e9] at e
        cases e
    | exc x =>
      rw [e0] at e
      cases e
    | bad =>
      rw [e0] at e
      cases e
theorem sim_lc (hi : SimI true T it qi) (htg : TgOk T tg) (ht : Sim true T tt qt) (he : Sim true T el qe) (hF : ∀ v ∈ vs, v ∉ T.Fx) : Sim b T (fun s h => (mComp it vs tg tt el s h).bind finL) (pLc qi vs tg qt qe) := Sim.weak fun Y s ps h st => by
  have e0 : (mComp it vs tg tt el s h).bind finL = (it s h).bind fun p h1 => (compLoop p.2 tg tt el (wipeM s vs) p.1 [] h1).bind finL := by
    unfold mComp
    cases it s h <;> rfl
  show RelE true T Y s ps h ((mComp it vs tg tt el s h).bind finL) _
  rw [e0]
  refine (hi Y s ps h st).bind fun xs g' g ps1 h1 st1 nx gr ga _ => ?_
  simp only
  cases e : lcQ (lcEl vs tg qt qe ps1) xs with
  | ok ys r =>
    unfold lcFin
    simp only
    by_cases hz : ys.length ≤ sizeLine
    · rw [if_pos hz]
      obtain ⟨h2, e2, ny, u2⟩ := lcQ_sim (ps := ps1) htg ht he (fun h3 u => (ga.up u).ok) (st1.wipe (vs := vs) hF) xs [] ys r h1 Up.refl nx e (by simpa using hz)
      rw [e2]
      exact ⟨h2, rfl, ny, st1.up u2, fun _ => ⟨rfl, u2⟩⟩
    · rw [if_neg hz]
      exact trivial
  | exc x => exact trivial
  | bad => exact trivial
end
end Tb
end

section
set_option maxHeartbeats 4000000
namespace Tb
open PySem PySem.Spec PyProof.Rows L2
/-! ## new lists that a name holds -/
def NewL (Y : DY) (s ps : Sl) (h' : MH) (n : Nat) (xs : List D) : Prop := nrs xs = true ∧ n < h'.next ∧ h'.get n = some (.lst xs) ∧ Y.h0.next ≤ n ∧ ∀ (j : Nat) (q : D), ps[j]? = some (some q) → s[j]? ≠ some (some (D.ref n))
def RelH (b : Bool) (T : SC) (Y : DY) (s ps : Sl) (h : MH) (rm : R D) (rq : PR D) : Prop := match rq with
  | .ok p ps' => ∃ n xs h', rm = .ok (.ref n) h' ∧ p = .lst xs ∧ NewL Y s ps' h' n xs ∧ St T Y s ps' h' ∧ (b = true → ps' = ps ∧ Up h h' ∧ h.next ≤ n)
  | .exc e => ∃ h', rm = .exc e h' ∧ FrY Y h' ∧ e.nr
  | .bad => True
def SimH (b : Bool) (T : SC) (m : ME) (q : PE) : Prop := ∀ Y s ps h, St T Y s ps h → RelH b T Y s ps h (m s h) (q ps)
section
variable {b : Bool} {T : SC} {Y : DY} {s ps : Sl} {h : MH} {i n : Nat} {xs : List D}
theorem MH.get_newS {o : MO} : (h.new o).get h.next = some o := by rw [get_new, if_pos rfl]
theorem Up.new {o : MO} : Up h (h.new o) := ⟨fun m z => by rw [get_new, if_neg (by omega)], by rw [next_new]; omega⟩
theorem St.below (st : St T Y s ps h) : ∀ (j : Nat) (q : D), ps[j]? = some (some q) → s[j]? ≠ some (some (D.ref h.next)) := fun j q e z => by
  obtain ⟨d, e1, rv⟩ := st.rv e
  rw [z] at e1
  cases e1
  rcases rv with ⟨rfl, n⟩ | ⟨m, zs, e2, e3, _⟩
  · cases n
  · cases e2
    omega
theorem RelH.new (st : St T Y s ps h) (hx : nrs xs = true) : RelH b T Y s ps h (.ok (.ref h.next) (h.new (.lst xs))) (.ok (.lst xs) ps) :=
  ⟨h.next, xs, _, rfl, rfl, ⟨hx, by rw [next_new]; omega, MH.get_newS, st.nxt, st.below⟩, st.up .new, fun _ => ⟨rfl, .new, Nat.le_refl _⟩⟩
theorem RelH.from {ps1 : Sl} {h1 : MH} {rm : R D} {rq : PR D} (hb : b = true → ps1 = ps ∧ Up h h1) (r : RelH b T Y s ps1 h1 rm rq) : RelH b T Y s ps h rm rq := by
  cases rq with
  | ok a ps' =>
    obtain ⟨n, xs, h', e, na, nl, st, q⟩ := r
    exact ⟨n, xs, h', e, na, nl, st, fun z => let ⟨e1, u1⟩ := hb z; let ⟨e2, u2, l2⟩ := q z; ⟨e2.trans e1, u1.trans u2, Nat.le_trans u1.nx l2⟩⟩
  | exc e => exact r
  | bad => trivial
end
section
variable {b : Bool} {T : SC} {Y : DY} {s ps : Sl} {h : MH} {i n : Nat} {xs : List D} {a c : ME} {pa pc : PE} {ma : MA} {qA : PA}
theorem RelE.bindH {α : Type} [Nrm α] {rm : R α} {rq : PR α} {f : α → MH → R D} {g : α → Sl → PR D} (r : RelE true T Y s ps h rm rq) (k : ∀ a ps1 h1, St T Y s ps1 h1 → Nrm.ok a → RelH b T Y s ps1 h1 (f a h1) (g a ps1)) : RelH b T Y s ps h (rm.bind f) (rq.bind g) := by
  cases rq with
  | ok a ps1 =>
    obtain ⟨h1, e, na, st, q⟩ := r
    subst e
    exact RelH.from (fun _ => q rfl) (k a ps1 h1 st na)
  | exc e =>
    obtain ⟨h1, e1, q⟩ := r
    subst e1
    exact ⟨h1, rfl, q⟩
  | bad => trivial
theorem RelR.bindH {rm : R D} {rq : PR D} {f : D → MH → R D} {g : D → Sl → PR D} (st : St T Y s ps h) (r : RelR Y ps h rm rq) (k : ∀ d p h1, Up h h1 → St T Y s ps h1 → Rv h1 d p → RelH b T Y s ps h1 (f d h1) (g p ps)) : RelH b T Y s ps h (rm.bind f) (rq.bind g) := by
  cases rq with
  | ok a ps1 =>
    obtain ⟨rfl, d, h1, e, u, rv⟩ := r
    subst e
    exact RelH.from (fun _ => ⟨rfl, u⟩) (k d a h1 u (st.up u) rv)
  | exc e =>
    obtain ⟨h1, e1, q⟩ := r
    subst e1
    exact ⟨h1, rfl, q⟩
  | bad => trivial
theorem RelRA.bindH {rm : R (List D)} {rq : PR (List D)} {f : List D → MH → R D} {g : List D → Sl → PR D} (st : St T Y s ps h) (r : RelRA Y ps h rm rq) (k : ∀ d p h1, Up h h1 → St T Y s ps h1 → RvL h1 d p → RelH b T Y s ps h1 (f d h1) (g p ps)) : RelH b T Y s ps h (rm.bind f) (rq.bind g) := by
  cases rq with
  | ok a ps1 =>
    obtain ⟨rfl, d, h1, e, u, rv⟩ := r
    subst e
    exact RelH.from (fun _ => ⟨rfl, u⟩) (k d a h1 u (st.up u) rv)
  | exc e =>
    obtain ⟨h1, e1, q⟩ := r
    subst e1
    exact ⟨h1, rfl, q⟩
  | bad => trivial
theorem RelH.weak {rm : R D} {rq : PR D} (r : RelH true T Y s ps h rm rq) : RelH b T Y s ps h rm rq := by
  cases rq with
  | ok a ps' =>
    obtain ⟨n, xs, h', e, na, nl, st, q⟩ := r
    exact ⟨n, xs, h', e, na, nl, st, fun _ => q rfl⟩
  | exc e => exact r
  | bad => trivial
theorem sh_lst (ha : Sim true T ma qA) : SimH b T (mLstH ma) (pLst qA) := fun Y s ps h st =>
  (ha Y s ps h st).bindH fun xs ps1 h1 st1 nx => by
    split
    · exact RelH.new st1 nx
    · trivial
/-- .. of what is drawn -/
theorem sh_lste (ha : Sim false T ma qA) : SimH false T (mLstH ma) (pLst qA) := fun Y s ps h st => by
  have r := ha Y s ps h st
  show RelH false T Y s ps h ((ma s h).bind _) ((qA ps).bind _)
  cases e : qA ps with
  | ok xs ps1 =>
    rw [e] at r
    obtain ⟨h1, e1, nx, st1, _⟩ := r
    rw [e1]
    refine RelH.from (fun z => by cases z) (?_ : RelH false T Y s ps1 h1 _ _)
    show RelH false T Y s ps1 h1 (if _ then _ else _) (if _ then _ else _)
    split
    · exact RelH.new st1 nx
    · trivial
  | exc x =>
    rw [e] at r
    obtain ⟨h1, e1, q⟩ := r
    rw [e1]
    exact ⟨h1, rfl, q⟩
  | bad => trivial
def opAddL : D → D → MH → R D := fun d e h => match lstOf h d, lstOf h e with
  | some xs, some ys => if xs.length + ys.length ≤ sizeLine then .ok (.lst (xs ++ ys)) h else .bad
  | _, _ => .bad
theorem Rv.lst {d p : D} (rv : Rv h d p) {ys : List D} (e : lstOf MH.zero p = some ys) : lstOf h d = some ys ∧ nrs ys = true ∧ p = .lst ys := by
  rcases rv with ⟨rfl, n⟩ | ⟨m, zs, rfl, _, g, rfl, nz⟩
  · cases d <;> simp only [lstOf, reduceCtorEq] at e
    · cases e
      exact ⟨rfl, n, rfl⟩
    · cases e
  · cases e
    refine ⟨?_, nz, rfl⟩
    simp only [lstOf, g]
theorem Rv.seq {d p : D} (rv : Rv h d p) {ys : List D} (e : seqOf MH.zero p = some ys) : seqOf h d = some ys ∧ nrs ys = true := by
  rcases rv with ⟨rfl, n⟩ | ⟨m, zs, rfl, _, g, rfl, nz⟩
  · cases d <;> first | (simp only [seqOf, lstOf, reduceCtorEq] at e; done) | (cases n; done) | (cases e; exact ⟨rfl, n⟩)
  · cases e
    exact ⟨by simp only [seqOf, lstOf, g], nz⟩
theorem sh_addrr (ha : SimR T a pa) (hc : SimR T c pc) : SimH b T (mOp opAddH a c) (pOp opAddL pa pc) := fun Y s ps h st =>
  (ha Y s ps h st).bindH st fun d p h1 _ st1 rv => (hc Y s ps h1 st1).bindH st1 fun d' p' h2 u st2 rv' => by
    unfold opAddH opAddL
    cases e1 : lstOf MH.zero p with
    | none => trivial
    | some xs =>
      cases e2 : lstOf MH.zero p' with
      | none => trivial
      | some ys =>
        obtain ⟨q1, q2, _⟩ := (rv.up u).lst e1
        obtain ⟨q3, q4, _⟩ := rv'.lst e2
        simp only [q1, q3]
        by_cases hz : xs.length + ys.length ≤ sizeLine
        · rw [if_pos hz, if_pos hz]
          exact RelH.new st2 (nrs_append q2 q4)
        · rw [if_neg hz, if_neg hz]
          trivial
def opCutL : FC := fun d lo hi h => match lstOf h d with
  | some xs => .ok (.lst (cutD xs lo hi)) h
  | none => .bad
theorem nrs_cut {lo hi : Option Int} (hx : nrs xs = true) : nrs (cutD xs lo hi) = true := nrs_iff.mpr fun x hm => nrs_iff.mp hx x (List.mem_of_mem_drop (List.mem_of_mem_take hm))
theorem sh_cut {lo hi : MO'} {ql qh : PO'} (ha : SimR T a pa) (hl : Sim true T lo ql) (hh : Sim true T hi qh) : SimH b T (mCut opCutH a lo hi) (pCut opCutL pa ql qh) := fun Y s ps h st =>
  (ha Y s ps h st).bindH st fun d p h1 _ st1 rv => by
    have r1 := hl Y s ps h1 st1
    show RelH b T Y s ps h1 ((lo s h1).bind _) ((ql ps).bind _)
    cases e1 : ql ps with
    | ok l ps2 =>
      rw [e1] at r1
      obtain ⟨h2, e2, _, st2, z⟩ := r1
      obtain ⟨rfl, u2⟩ := z rfl
      rw [e2]
      have r2 := hh Y s _ h2 st2
      show RelH b T Y s _ h1 ((hi s h2).bind _) ((qh _).bind _)
      cases e3 : qh ps2 with
      | ok u ps3 =>
        rw [e3] at r2
        obtain ⟨h3, e4, _, st3, z2⟩ := r2
        obtain ⟨rfl, u3⟩ := z2 rfl
        rw [e4]
        refine RelH.from (fun _ => ⟨rfl, u2.trans u3⟩) ?_
        show RelH b T Y s _ h3 (opCutH d l u h3) (zr (opCutL p l u MH.zero) _)
        unfold opCutH opCutL
        cases e5 : lstOf MH.zero p with
        | none => trivial
        | some xs =>
          obtain ⟨q1, q2, _⟩ := (rv.up (u2.trans u3)).lst e5
          simp only [q1]
          exact RelH.new st3 (nrs_cut q2)
      | exc x =>
        rw [e3] at r2
        obtain ⟨h3, e4, q⟩ := r2
        rw [e4]
        exact ⟨h3, rfl, q⟩
      | bad => trivial
    | exc x =>
      rw [e1] at r1
      obtain ⟨h3, e4, q⟩ := r1
      rw [e4]
      exact ⟨h3, rfl, q⟩
    | bad => trivial
theorem sh_list (ha : SimR T a pa) : SimH b T (mCallB bListH (mCons a mNil)) (pCallB bList (pCons pa pNil)) := fun Y s ps h st =>
  (ra_cons ha ra_nil Y s ps h st).bindH st fun d p h1 _ st1 rv => by
    match d, p, rv with
    | [], [], _ => trivial
    | [d], [p], rv =>
      unfold bListH bList
      simp only
      cases e : seqOf MH.zero p with
      | none => trivial
      | some xs =>
        obtain ⟨q1, q2⟩ := rv.1.seq e
        simp only [q1]
        exact RelH.new st1 q2
    | d :: d' :: ds, [p], rv => exact rv.2.elim
    | [d], p :: p' :: ps, rv => exact rv.2.elim
    | d :: d' :: ds, p :: p' :: ps, _ => exact trivial
    | [], _ :: _, rv => exact rv.elim
    | _ :: _, [], rv => exact rv.elim
theorem sh_if {ta : MT} {qa : PT} (ht : Sim true T ta qa) (ha : SimH b T a pa) (hc : SimH b T c pc) : SimH b T (mIf ta a c) (pIf qa pa pc) := fun Y s ps h st =>
  (ht Y s ps h st).bindH fun k ps1 h1 st1 _ => by
    cases k with
    | true => exact ha Y s ps1 h1 st1
    | false => exact hc Y s ps1 h1 st1
theorem sh_lc {it : MI} {qi : PI'} {vs : List Nat} {tg : MG} {tt : MT} {el : ME} {qt : PT} {qe : PE} (hi : SimI true T it qi) (htg : TgOk T tg) (ht : Sim true T tt qt) (he : Sim true T el qe) (hF : ∀ v ∈ vs, v ∉ T.Fx) : SimH b T (mLc it vs tg tt el finH) (pLc qi vs tg qt qe) := fun Y s ps h st => by
  have e0 : mLc it vs tg tt el finH s h = (mComp it vs tg tt el s h).bind finH := rfl
  have r := sim_lc (b := true) hi htg ht he hF Y s ps h st
  have r' : RelE true T Y s ps h ((mComp it vs tg tt el s h).bind finL) (pLc qi vs tg qt qe ps) := r
  rw [e0]
  cases e : pLc qi vs tg qt qe ps with
  | ok p ps1 =>
    rw [e] at r'
    obtain ⟨h1, e1, np, st1, z⟩ := r'
    obtain ⟨rfl, u⟩ := z rfl
    cases e2 : mComp it vs tg tt el s h with
    | ok xs h2 =>
      rw [e2] at e1
      cases e1
      exact RelH.from (fun _ => ⟨rfl, u⟩) (RelH.new st1 np)
    | exc x h2 => rw [e2] at e1; cases e1
    | bad => rw [e2] at e1; cases e1
  | exc x =>
    rw [e] at r'
    obtain ⟨h1, e1, q⟩ := r'
    cases e2 : mComp it vs tg tt el s h with
    | ok xs h2 => rw [e2] at e1; cases e1
    | exc x h2 =>
      rw [e2] at e1
      cases e1
      exact ⟨_, rfl, q⟩
    | bad => rw [e2] at e1; cases e1
  | bad => trivial
theorem RelE.bindHe {α : Type} [Nrm α] {rm : R α} {rq : PR α} {f : α → MH → R D} {g : α → Sl → PR D} (r : RelE false T Y s ps h rm rq) (k : ∀ a ps1 h1, St T Y s ps1 h1 → Nrm.ok a → RelH false T Y s ps1 h1 (f a h1) (g a ps1)) : RelH false T Y s ps h (rm.bind f) (rq.bind g) := by
  cases rq with
  | ok a ps1 =>
    obtain ⟨h1, e, na, st, q⟩ := r
    subst e
    exact RelH.from (fun z => by cases z) (k a ps1 h1 st na)
  | exc e =>
    obtain ⟨h1, e1, q⟩ := r
    subst e1
    exact ⟨h1, rfl, q⟩
  | bad => trivial
theorem sh_liste (ha : Sim false T ma qA) : SimH false T (mCallB bListH ma) (pCallB bList qA) := fun Y s ps h st =>
  (ha Y s ps h st).bindHe fun ds ps1 h1 st1 nd => by
    unfold bListH bList
    match ds, nd with
    | [], _ => exact trivial
    | [d], nd =>
      simp only
      cases e : seqOf MH.zero d with
      | none => exact trivial
      | some xs =>
        obtain ⟨q1, q2⟩ := Rv.seq (h := h1) (.inl ⟨rfl, (nrs_cons.mp nd).1⟩) e
        simp only [q1]
        exact RelH.new st1 q2
    | _ :: _ :: _, _ => exact trivial
theorem sh_comp {it : MI} {qi : PI'} {vs : List Nat} {tg : MG} {tt : MT} {el : ME} {qt : PT} {qe : PE} (hi : SimI false T it qi) (htg : TgOk T tg) (hin : TgIn vs tg) (ht : Sim false T tt qt) (he : Sim false T el qe) (hK : ∀ v ∈ vs, v ∉ T.K) (hR : ∀ v ∈ vs, v ∉ T.Rd) (hF : ∀ v ∈ vs, v ∉ T.Fx) : SimH false T (mLc it vs tg tt el finH) (pComp qi vs tg qt qe) := fun Y s ps h st => by
  have e0 : mLc it vs tg tt el finH s h = (mComp it vs tg tt el s h).bind finH := rfl
  have r := sim_comp hi htg hin ht he hK hR hF Y s ps h st
  have r' : RelE false T Y s ps h ((mComp it vs tg tt el s h).bind finL) (pComp qi vs tg qt qe ps) := r
  rw [e0]
  cases e : pComp qi vs tg qt qe ps with
  | ok p ps1 =>
    rw [e] at r'
    obtain ⟨h1, e1, np, st1, z⟩ := r'
    cases e2 : mComp it vs tg tt el s h with
    | ok xs h2 =>
      rw [e2] at e1
      cases e1
      exact RelH.from (fun z => by cases z) (RelH.new st1 np)
    | exc x h2 => rw [e2] at e1; cases e1
    | bad => rw [e2] at e1; cases e1
  | exc x =>
    rw [e] at r'
    obtain ⟨h1, e1, q⟩ := r'
    cases e2 : mComp it vs tg tt el s h with
    | ok xs h2 => rw [e2] at e1; cases e1
    | exc x h2 =>
      rw [e2] at e1
      cases e1
      exact ⟨_, rfl, q⟩
    | bad => rw [e2] at e1; cases e1
  | bad => trivial
end
end Tb
end

section
set_option maxHeartbeats 4000000
namespace Tb
open PySem PySem.Spec PyProof.Rows L2
/-! ## statements -/
abbrev PS' := Sl → PZ
def RetR (T : SC) (Y : DY) (h : MH) (d p : D) : Prop := (T.rH = false → d = p ∧ p.nr = true) ∧ (T.rH = true → ∃ n xs, d = .ref n ∧ n < h.next ∧ Y.h0.next ≤ n ∧ h.get n = some (.lst xs) ∧ p = .lst xs ∧ nrs xs = true)
def RelZ (T : SC) (Y : DY) (rm : RS) (rq : PZ) : Prop := match rq with
  | .nx ps' => ∃ s' h', rm = .nx s' h' ∧ St T Y s' ps' h'
  | .brk ps' => ∃ s' h', rm = .brk s' h' ∧ St T Y s' ps' h'
  | .ct ps' => ∃ s' h', rm = .ct s' h' ∧ St T Y s' ps' h'
  | .ret p ps' => ∃ d s' h', rm = .ret d h' ∧ St T Y s' ps' h' ∧ RetR T Y h' d p
  | .exc e => ∃ h', rm = .exc e h' ∧ FrY Y h' ∧ e.nr
  | .bad => True
def SimS (T : SC) (m : MS) (q : PS') : Prop := ∀ Y s ps h, St T Y s ps h → RelZ T Y (m s h) (q ps)
section
variable {α : Type} [Nrm α] {b : Bool} {T : SC} {Y : DY} {s ps : Sl} {h : MH} {i j k n : Nat} {xs : List D} {a c e3 : ME} {pa pc p3 : PE} {ma : MA} {qA : PA} {ta : MT} {qt : PT} {m m2 : MS} {q q2 : PS'} {tg : MG}
theorem RelE.toZ {rm : R α} {rq : PR α} {f : α → MH → RS} {g : α → Sl → PZ} (r : RelE b T Y s ps h rm rq) (k : ∀ a ps1 h1, St T Y s ps1 h1 → Nrm.ok a → RelZ T Y (f a h1) (g a ps1)) : RelZ T Y (rm.toS f) (PR.toZ rq g) := by
  cases rq with
  | ok a ps1 =>
    obtain ⟨h1, e, na, st, q⟩ := r
    subst e
    exact k a ps1 h1 st na
  | exc e =>
    obtain ⟨h1, e1, q⟩ := r
    subst e1
    exact ⟨h1, rfl, q⟩
  | bad => trivial
theorem RelR.toZ {rm : R D} {rq : PR D} {f : D → MH → RS} {g : D → Sl → PZ} (st : St T Y s ps h) (r : RelR Y ps h rm rq) (k : ∀ d p h1, Up h h1 → St T Y s ps h1 → Rv h1 d p → RelZ T Y (f d h1) (g p ps)) : RelZ T Y (rm.toS f) (PR.toZ rq g) := by
  cases rq with
  | ok a ps1 =>
    obtain ⟨rfl, d, h1, e, u, rv⟩ := r
    subst e
    exact k d a h1 u (st.up u) rv
  | exc e =>
    obtain ⟨h1, e1, q⟩ := r
    subst e1
    exact ⟨h1, rfl, q⟩
  | bad => trivial
theorem RelH.toZ {rm : R D} {rq : PR D} {f : D → MH → RS} {g : D → Sl → PZ} (r : RelH b T Y s ps h rm rq) (k : ∀ n xs ps1 h1, St T Y s ps1 h1 → NewL Y s ps1 h1 n xs → RelZ T Y (f (.ref n) h1) (g (.lst xs) ps1)) : RelZ T Y (rm.toS f) (PR.toZ rq g) := by
  cases rq with
  | ok a ps1 =>
    obtain ⟨n, xs, h1, e, rfl, nl, st, q⟩ := r
    subst e
    exact k n xs ps1 h1 st nl
  | exc e =>
    obtain ⟨h1, e1, q⟩ := r
    subst e1
    exact ⟨h1, rfl, q⟩
  | bad => trivial
def pSkip : PS' := fun s => .nx s
def pSeq (x y : PS') : PS' := fun s => (x s).seq y
def pBreak : PS' := fun s => .brk s
def pCont : PS' := fun s => .ct s
def pRet (x : PE) : PS' := fun s => PR.toZ (x s) fun d s1 => .ret d s1
def pRetN : PS' := fun s => .ret .non s
/-- a held list is handed back -/
def pRetL (i : Nat) : PS' := fun s => match s[i]? with
  | some (some d) => .ret d (s.set i none)
  | _ => .bad
def pIfS (t : PT) (x y : PS') : PS' := fun s => PR.toZ (t s) fun k s1 => if k = true then x s1 else y s1
def pDo (x : PE) : PS' := fun s => PR.toZ (x s) fun _ s1 => .nx s1
def pSet (i : Nat) (x : PE) : PS' := fun s => PR.toZ (x s) fun d s1 => .nx (s1.set i (some d))
def pUnpack (g : MG) (x : PE) : PS' := fun s => PR.toZ (x s) fun d s1 => match g d s1 with
  | some s2 => .nx s2
  | none => .bad
def pPar2 (i j : Nat) (x y : PE) : PS' := fun s => PR.toZ (x s) fun d s1 => PR.toZ (y s1) fun e s2 => .nx ((s2.set i (some d)).set j (some e))
def pPar3 (i j k : Nat) (x y z : PE) : PS' := fun s => PR.toZ (x s) fun d s1 => PR.toZ (y s1) fun e s2 => PR.toZ (z s2) fun f s3 => .nx (((s3.set i (some d)).set j (some e)).set k (some f))
def pBad : PS' := fun _ => .bad
theorem ss_skip : SimS T mSkip pSkip := fun Y s ps h st => ⟨s, h, rfl, st⟩
theorem ss_break : SimS T mBreak pBreak := fun Y s ps h st => ⟨s, h, rfl, st⟩
theorem ss_cont : SimS T mCont pCont := fun Y s ps h st => ⟨s, h, rfl, st⟩
theorem ss_bad : SimS T m pBad := fun Y s ps h st => trivial
theorem ss_seq (h1 : SimS T m q) (h2 : SimS T m2 q2) : SimS T (mSeq m m2) (pSeq q q2) := fun Y s ps h st => by
  have r := h1 Y s ps h st
  show RelZ T Y ((m s h).seq m2) ((q ps).seq q2)
  cases e : q ps with
  | nx ps1 =>
    rw [e] at r
    obtain ⟨s1, h1', e1, st1⟩ := r
    rw [e1]
    exact h2 Y s1 ps1 h1' st1
  | brk ps1 =>
    rw [e] at r
    obtain ⟨s1, h1', e1, st1⟩ := r
    rw [e1]
    exact ⟨s1, h1', rfl, st1⟩
  | ct ps1 =>
    rw [e] at r
    obtain ⟨s1, h1', e1, st1⟩ := r
    rw [e1]
    exact ⟨s1, h1', rfl, st1⟩
  | ret p ps1 =>
    rw [e] at r
    obtain ⟨d, s1, h1', e1, st1⟩ := r
    rw [e1]
    exact ⟨d, s1, h1', rfl, st1⟩
  | exc x =>
    rw [e] at r
    obtain ⟨h1', e1, st1⟩ := r
    rw [e1]
    exact ⟨h1', rfl, st1⟩
  | bad => trivial
theorem RetR.val {d : D} (hr : T.rH = false) (n : d.nr = true) : RetR T Y h d d := ⟨fun _ => ⟨rfl, n⟩, fun z => by rw [hr] at z; cases z⟩
theorem retF_val {d : D} (n : d.nr = true) : (match d with
    | .ref n => match h.get n with
      | some (.lst xs) => RS.ret (.lst xs) (h.drop n)
      | none => .bad
    | d => .ret d h) = .ret d h := by
  cases d <;> first | rfl | cases n
theorem ss_retF (hr : T.rH = false) (ha : Sim false T a pa) : SimS T (mRetF a) (pRet pa) := fun Y s ps h st =>
  (ha Y s ps h st).toZ fun d ps1 h1 st1 n => ⟨d, s, h1, (by cases d <;> first | rfl | cases n), st1, RetR.val hr n⟩
theorem ss_ret (hr : T.rH = false) (ha : Sim false T a pa) : SimS T (mRet a) (pRet pa) := fun Y s ps h st =>
  (ha Y s ps h st).toZ fun d ps1 h1 st1 n => ⟨d, s, h1, rfl, st1, RetR.val hr n⟩
theorem ss_retN (hr : T.rH = false) : SimS T mRetN pRetN := fun Y s ps h st => ⟨.non, s, h, rfl, st, RetR.val hr rfl⟩
theorem ss_retL (hr : T.rH = false) (hi : i ∈ T.K) : SimS T (mRetF (mVar i)) (pRetL i) := fun Y s ps h st => by
  unfold pRetL
  cases e : ps[i]? with
  | none => trivial
  | some o =>
    cases o with
    | none => trivial
    | some p =>
      obtain ⟨n, xs, e1, e2, e3, rfl, e4⟩ := st.held hi e
      refine ⟨.lst xs, s, h.drop n, ?_, st.drop hi e e1, RetR.val hr e4⟩
      unfold mRetF mVar
      simp only [e1, R.toS, e3]
theorem RetR.new {n : Nat} (hr : T.rH = true) (a : n < h.next) (b : Y.h0.next ≤ n) (c : h.get n = some (.lst xs)) (d : nrs xs = true) : RetR T Y h (.ref n) (.lst xs) := ⟨fun z => absurd (hr.symm.trans z) (by decide), fun _ => ⟨n, xs, rfl, a, b, c, rfl, d⟩⟩
theorem ss_retNew (hr : T.rH = true) (ha : SimH false T a pa) : SimS T (mRet a) (pRet pa) := fun Y s ps h st =>
  (ha Y s ps h st).toZ fun n xs ps1 h1 st1 nl => ⟨.ref n, s, h1, rfl, st1, RetR.new hr nl.2.1 nl.2.2.2.1 nl.2.2.1 nl.1⟩
theorem ss_if (ht : Sim false T ta qt) (h1 : SimS T m q) (h2 : SimS T m2 q2) : SimS T (mIfS ta m m2) (pIfS qt q q2) := fun Y s ps h st =>
  (ht Y s ps h st).toZ fun k ps1 h1' st1 _ => by
    cases k with
    | true => exact h1 Y s ps1 h1' st1
    | false => exact h2 Y s ps1 h1' st1
theorem ss_do (ha : Sim false T a pa) : SimS T (mDo a) (pDo pa) := fun Y s ps h st => (ha Y s ps h st).toZ fun d ps1 h1 st1 _ => ⟨s, h1, rfl, st1⟩
theorem ss_set (hi : i ∉ T.K) (hf : i ∉ T.Fx) (ha : Sim false T a pa) : SimS T (mSet i a) (pSet i pa) := fun Y s ps h st => (ha Y s ps h st).toZ fun d ps1 h1 st1 n => ⟨_, h1, rfl, st1.setV hi hf n⟩
theorem ss_setH (hi : i ∈ T.K) (hf : i ∉ T.Fx) (ha : SimH false T a pa) : SimS T (mSet i a) (pSet i pa) := fun Y s ps h st => (ha Y s ps h st).toZ fun n xs ps1 h1 st1 nl => ⟨_, h1, rfl, st1.setH hi hf nl.2.1 nl.2.2.1 nl.1 nl.2.2.2.1 nl.2.2.2.2⟩
/-- another name for another one's list -/
theorem ss_setR (hi : i ∉ T.K) (hr : i ∈ T.Rd) (hf : i ∉ T.Fx) (hj : j ∉ T.K) : SimS T (mSet i (mVar j)) (pSet i (pVar j)) := fun Y s ps h st => by
  show RelZ T Y ((mVar j s h).toS _) (PR.toZ (pVar j ps) _)
  cases e : pVar j ps with
  | exc x => exact absurd e pVar_exc
  | bad => trivial
  | ok p ps1 =>
    obtain ⟨rfl, ep⟩ := pVar_ok e
    obtain ⟨d, es, rv⟩ := st.rv ep
    have em : mVar j s h = .ok d h := by
      unfold mVar
      simp only [es]
    rw [em]
    exact ⟨_, h, rfl, st.setR hi hr hf rv fun n z => by
      subst z
      exact st.rdo j n p hj ep es⟩
theorem ss_unpack (ht : TgOk T tg) (ha : Sim false T a pa) : SimS T (mUnpack tg a) (pUnpack tg pa) := fun Y s ps h st => (ha Y s ps h st).toZ fun d ps1 h1 st1 n => by
  cases e : tg d ps1 with
  | none => exact trivial
  | some ps2 =>
    obtain ⟨s2, e1, st2⟩ := ht d ps1 ps2 Y s h1 n e st1
    simp only [e1]
    exact ⟨s2, h1, rfl, st2⟩
theorem ss_par2 (hi : i ∉ T.K) (hif : i ∉ T.Fx) (hj : j ∉ T.K) (hjf : j ∉ T.Fx) (ha : Sim false T a pa) (hc : Sim false T c pc) : SimS T (mPar2 i j a c) (pPar2 i j pa pc) := fun Y s ps h st =>
  (ha Y s ps h st).toZ fun d ps1 h1 st1 n1 => (hc Y s ps1 h1 st1).toZ fun e ps2 h2 st2 n2 => ⟨_, h2, rfl, (st2.setV hi hif n1).setV hj hjf n2⟩
theorem ss_par3 (hi : i ∉ T.K) (hif : i ∉ T.Fx) (hj : j ∉ T.K) (hjf : j ∉ T.Fx) (hk : k ∉ T.K) (hkf : k ∉ T.Fx) (ha : Sim false T a pa) (hc : Sim false T c pc) (h3 : Sim false T e3 p3) : SimS T (mPar3 i j k a c e3) (pPar3 i j k pa pc p3) := fun Y s ps h st =>
  (ha Y s ps h st).toZ fun d ps1 h1 st1 n1 => (hc Y s ps1 h1 st1).toZ fun e ps2 h2 st2 n2 => (h3 Y s ps2 h2 st2).toZ fun f ps3 h3 st3 n3 => ⟨_, h3, rfl, ((st3.setV hi hif n1).setV hj hjf n2).setV hk hkf n3⟩
/-- the first one held, the second draws nothing -/
theorem ss_par2hv (hi : i ∈ T.K) (hif : i ∉ T.Fx) (hj : j ∉ T.K) (hjf : j ∉ T.Fx) (ha : SimH false T a pa) (hc : Sim true T c pc) : SimS T (mPar2 i j a c) (pPar2 i j pa pc) := fun Y s ps h st =>
  (ha Y s ps h st).toZ fun n xs ps1 h1 st1 nl => by
    have r := hc Y s ps1 h1 st1
    show RelZ T Y ((c s h1).toS _) (PR.toZ (pc ps1) _)
    cases e : pc ps1 with
    | ok d ps2 =>
      rw [e] at r
      obtain ⟨h2, e1, nd, st2, z⟩ := r
      obtain ⟨rfl, u⟩ := z rfl
      rw [e1]
      refine ⟨_, h2, rfl, St.setV (St.setH st2 hi hif (Nat.lt_of_lt_of_le nl.2.1 u.nx) ((u.get _ nl.2.1).trans nl.2.2.1) nl.1 nl.2.2.2.1 nl.2.2.2.2) hj hjf nd⟩
    | exc x =>
      rw [e] at r
      obtain ⟨h2, e1, z⟩ := r
      rw [e1]
      exact ⟨h2, rfl, z⟩
    | bad => trivial
theorem ss_par2vh (hi : i ∉ T.K) (hif : i ∉ T.Fx) (hj : j ∈ T.K) (hjf : j ∉ T.Fx) (hij : i ≠ j) (ha : Sim false T a pa) (hc : SimH false T c pc) : SimS T (mPar2 i j a c) (pPar2 i j pa pc) := fun Y s ps h st =>
  (ha Y s ps h st).toZ fun d ps1 h1 st1 nd => (hc Y s ps1 h1 st1).toZ fun n xs ps2 h2 st2 nl => ⟨_, h2, rfl, St.setH (st2.setV hi hif nd) hj hjf nl.2.1 nl.2.2.1 nl.1 nl.2.2.2.1 fun k q e => by
    rcases set_at e with ⟨rfl, e1, hl⟩ | ⟨hk, e1⟩
    · rw [set_eq (by rw [st2.len]; exact hl)]
      intro z
      cases z
      cases nd
    · rw [set_ne hk]
      exact nl.2.2.2.2 k q e1⟩
theorem ss_par2hh (hi : i ∈ T.K) (hif : i ∉ T.Fx) (hj : j ∈ T.K) (hjf : j ∉ T.Fx) (hij : i ≠ j) (ha : SimH false T a pa) (hc : SimH true T c pc) : SimS T (mPar2 i j a c) (pPar2 i j pa pc) := fun Y s ps h st =>
  (ha Y s ps h st).toZ fun n xs ps1 h1 st1 nl => by
    have r := hc Y s ps1 h1 st1
    show RelZ T Y ((c s h1).toS _) (PR.toZ (pc ps1) _)
    cases e : pc ps1 with
    | ok d ps2 =>
      rw [e] at r
      obtain ⟨n2, ys, h2, e1, rfl, nl2, st2, z⟩ := r
      obtain ⟨rfl, u, l2⟩ := z rfl
      rw [e1]
      have st3 := St.setH st2 hi hif (Nat.lt_of_lt_of_le nl.2.1 u.nx) ((u.get _ nl.2.1).trans nl.2.2.1) nl.1 nl.2.2.2.1 nl.2.2.2.2
      refine ⟨_, h2, rfl, St.setH st3 hj hjf nl2.2.1 nl2.2.2.1 nl2.1 nl2.2.2.2.1 fun k q e => ?_⟩
      rcases set_at e with ⟨rfl, e1, hl⟩ | ⟨hk, e1⟩
      · rw [set_eq (by rw [st2.len]; exact hl)]
        intro z
        cases z
        have := nl.2.1
        omega
      · rw [set_ne hk]
        exact nl2.2.2.2.2 k q e1
    | exc x =>
      rw [e] at r
      obtain ⟨h2, e1, z⟩ := r
      rw [e1]
      exact ⟨h2, rfl, z⟩
    | bad => trivial
/-! ### changes of held lists -/
abbrev GM := List D → List D → Option (D × List D)
structure MutOk (f : FM) (g : GM) : Prop where
  ok : ∀ h n xs ds ps r ys, h.get n = some (.lst xs) → nrs xs = true → RvL h ds ps → g xs ps = some (r, ys) → f (.ref n) ds h = .ok r (h.set n (.lst ys)) ∧ r.nr = true ∧ nrs ys = true
def pMeth (g : GM) (i : Nat) (x : PA) : PE := fun s => (pVar i s).bind fun _ s0 => (x s0).bind fun ds s1 => match s1[i]? with
  | some (some (.lst xs)) => (match g xs ds with
    | some (r, ys) => .ok r (s1.set i (some (.lst ys)))
    | none => .bad)
  | _ => .bad
theorem meth_fin {f : FM} {g : GM} (o : MutOk f g) (hi : i ∈ T.K) {d : D} {es ds : List D} (st : St T Y s ps h) (hd : s[i]? = some (some d)) (rv : RvL h es ds) : RelE false T Y s ps h (f d es h) (match ps[i]? with
  | some (some (.lst xs)) => (match g xs ds with
    | some (r, ys) => PR.ok r (ps.set i (some (.lst ys)))
    | none => .bad)
  | _ => .bad) := by
  split
  · rename_i xs ep
    obtain ⟨n, ys, e1, e2, e3, e4, e5⟩ := st.held hi ep
    cases e4
    rw [hd] at e1
    cases e1
    cases e6 : g xs ds with
    | none => exact trivial
    | some p =>
      obtain ⟨r, zs⟩ := p
      obtain ⟨q1, q2, q3⟩ := o.ok h n xs es ds r zs e3 e5 rv e6
      exact ⟨_, q1, q2, st.put hi ep hd q3, fun z => by cases z⟩
  · exact trivial
theorem sim_meth {f : FM} {g : GM} (o : MutOk f g) (hi : i ∈ T.K) (ha : Sim false T ma qA) : Sim false T (mMeth "list" f (mVar i) ma) (pMeth g i qA) := fun Y s ps h st => by
  show RelE false T Y s ps h ((mVar i s h).bind _) ((pVar i ps).bind _)
  cases e : pVar i ps with
  | exc x => exact absurd e pVar_exc
  | bad => trivial
  | ok p ps1 =>
    obtain ⟨rfl, ep⟩ := pVar_ok e
    obtain ⟨n, xs, e1, e2, e3, rfl, e5⟩ := st.held hi ep
    have em : mVar i s h = .ok (.ref n) h := by
      unfold mVar
      simp only [e1]
    rw [em]
    show RelE false T Y s _ h (if kindIs "list" (.ref n) h = true then _ else _) _
    rw [if_pos (kind_ref e3)]
    exact RelE.bind (ha Y s _ h st) fun ds ps2 h2 st2 nd => meth_fin o hi st2 e1 (RvL.refl nd)
theorem sim_methr {f : FM} {g : GM} (o : MutOk f g) (hi : i ∈ T.K) (ha : SimRA T ma qA) : Sim false T (mMeth "list" f (mVar i) ma) (pMeth g i qA) := fun Y s ps h st => by
  show RelE false T Y s ps h ((mVar i s h).bind _) ((pVar i ps).bind _)
  cases e : pVar i ps with
  | exc x => exact absurd e pVar_exc
  | bad => trivial
  | ok p ps1 =>
    obtain ⟨rfl, ep⟩ := pVar_ok e
    obtain ⟨n, xs, e1, e2, e3, rfl, e5⟩ := st.held hi ep
    have em : mVar i s h = .ok (.ref n) h := by
      unfold mVar
      simp only [e1]
    rw [em]
    show RelE false T Y s _ h (if kindIs "list" (.ref n) h = true then _ else _) _
    rw [if_pos (kind_ref e3)]
    exact RelRA.bind st (ha Y s _ h st) fun ds qs h2 _ st2 rv => meth_fin o hi st2 e1 rv
def pSetSub (i : Nat) (x v : PE) : PS' := fun s => PR.toZ (v s) fun c s1 => PR.toZ (pVar i s1) fun _ s2 => PR.toZ (x s2) fun b s3 => match s3[i]?, b with
  | some (some (.lst xs)), .int k => (match ixN xs.length k with
    | some j => .nx (s3.set i (some (.lst (xs.set j c))))
    | none => .bad)
  | _, _ => .bad
theorem nrs_set {j : Nat} {d : D} (hx : nrs xs = true) (hd : d.nr = true) : nrs (xs.set j d) = true := nrs_iff.mpr fun x hm => by
  rcases List.mem_or_eq_of_mem_set hm with z | rfl
  · exact nrs_iff.mp hx x z
  · exact hd
theorem ss_setSub (hi : i ∈ T.K) (hx : Sim false T a pa) (hv : Sim false T c pc) : SimS T (mSetSub setIx (mVar i) a c) (pSetSub i pa pc) := fun Y s ps h st =>
  (hv Y s ps h st).toZ fun d ps1 h1 st1 nd => by
    show RelZ T Y ((mVar i s h1).toS _) (PR.toZ (pVar i ps1) _)
    cases e : pVar i ps1 with
    | exc x => exact absurd e pVar_exc
    | bad => trivial
    | ok p ps2 =>
      obtain ⟨rfl, ep⟩ := pVar_ok e
      obtain ⟨n, xs, e1, e2, e3, rfl, e5⟩ := st1.held hi ep
      have em : mVar i s h1 = .ok (.ref n) h1 := by
        unfold mVar
        simp only [e1]
      rw [em]
      show RelZ T Y ((a s h1).toS _) (PR.toZ (pa _) _)
      refine RelE.toZ (hx Y s _ h1 st1) fun b ps3 h3 st3 nb => ?_
      split
      · rename_i ys k ep3
        obtain ⟨n', zs, e1', e2', e3', e4', e5'⟩ := st3.held hi ep3
        cases e4'
        rw [e1] at e1'
        cases e1'
        cases e6 : ixN ys.length k with
        | none => exact trivial
        | some j =>
          refine ⟨s, _, ?_, st3.put hi ep3 e1 (nrs_set e5' nd)⟩
          show R.toS (setIx (.ref n) (.int k) d h3) _ = _
          simp only [setIx, e3', e6]
          rfl
      · exact trivial
def pAug (i : Nat) (f : F2) (x : PE) : PS' := fun s => PR.toZ (pVar i s) fun d s0 => PR.toZ (x s0) fun y s1 => PR.toZ (zr (f d y MH.zero) s1) fun z s2 => .nx (s2.set i (some z))
theorem ss_aug {f : F2} (o : OpOk f) (hi : i ∉ T.K) (hr : i ∉ T.Rd) (hf : i ∉ T.Fx) (ha : Sim false T a pa) : SimS T (mAug i f a) (pAug i f pa) := fun Y s ps h st => by
  unfold mAug pAug
  cases e : pVar i ps with
  | exc x => exact absurd e pVar_exc
  | bad => trivial
  | ok p ps1 =>
    obtain ⟨rfl, ep⟩ := pVar_ok e
    obtain ⟨d, e1, _, _, c⟩ := st.val i p ep
    obtain ⟨rfl, nd⟩ := c hi hr
    simp only [e1]
    show RelZ T Y ((a s h).toS _) (PR.toZ (pa _) _)
    exact RelE.toZ (ha Y s _ h st) fun y ps2 h2 st2 ny => RelE.toZ (b := false) (o.rel st2 (.inl ⟨rfl, nd⟩) (.inl ⟨rfl, ny⟩)) fun z ps3 h3 st3 nz => ⟨_, h3, rfl, st3.setV hi hf nz⟩
/-- a held list grows by another -/
def pAugL (i : Nat) (x : PE) : PS' := fun s => PR.toZ (pVar i s) fun _ s0 => PR.toZ (x s0) fun y s1 => match s1[i]?, y with
  | some (some (.lst xs)), .lst ys => if xs.length + ys.length ≤ sizeLine then .nx (s1.set i (some (.lst (xs ++ ys)))) else .bad
  | _, _ => .bad
theorem set_self {α : Type} {l : List α} {i : Nat} {x : α} (e : l[i]? = some x) : l.set i x = l := List.ext_getElem? fun j => by
  by_cases hj : j = i
  · subst hj
    rw [set_eq (get_lt e), e]
  · rw [set_ne hj]
theorem ss_augL (hi : i ∈ T.K) (ha : Sim false T a pa) : SimS T (mAug i iopAdd a) (pAugL i pa) := fun Y s ps h st => by
  unfold mAug pAugL
  cases e : pVar i ps with
  | exc x => exact absurd e pVar_exc
  | bad => trivial
  | ok p ps1 =>
    obtain ⟨rfl, ep⟩ := pVar_ok e
    obtain ⟨n, xs, e1, e2, e3, rfl, e5⟩ := st.held hi ep
    simp only [e1]
    show RelZ T Y ((a s h).toS _) (PR.toZ (pa _) _)
    refine RelE.toZ (ha Y s _ h st) fun y ps2 h2 st2 ny => ?_
    split
    · rename_i ys zs ep2
      obtain ⟨n', us, f1, f2, f3, f4, f5⟩ := st2.held hi ep2
      cases f4
      rw [e1] at f1
      cases f1
      split
      · rename_i hz
        refine ⟨s, _, ?_, st2.put hi ep2 e1 (nrs_append f5 ny)⟩
        have : iopAdd (.ref n) (.lst zs) h2 = .ok (.ref n) (h2.set n (.lst (ys ++ zs))) := by
          simp only [iopAdd, f3, lstOf, if_pos hz]
        rw [this]
        show RS.nx (s.set i (some (.ref n))) _ = _
        rw [set_self e1]
      · exact trivial
    · exact trivial
/-- xs[i] += e -/
def pAugSub (f : F2) (i : Nat) (x v : PE) : PS' := fun s => PR.toZ (pVar i s) fun _ s0 => PR.toZ (x s0) fun b s1 => match s1[i]?, b with
  | some (some (.lst xs)), .int k => (match atI xs k with
    | some d => PR.toZ (v s1) fun y s2 => PR.toZ (zr (f d y MH.zero) s2) fun z s3 => (match s3[i]? with
      | some (some (.lst ys)) => (match ixN ys.length k with
        | some j => .nx (s3.set i (some (.lst (ys.set j z))))
        | none => .bad)
      | _ => .bad)
    | none => .bad)
  | _, _ => .bad
theorem atI_mem {α : Type} {xs : List α} {k : Int} {d : α} (e : atI xs k = some d) : d ∈ xs := by
  unfold atI at e
  obtain ⟨j, _, e2⟩ := Option.bind_eq_some_iff.mp e
  exact List.mem_of_getElem? e2
theorem ss_augSub {f : F2} (o : OpOk f) (hi : i ∈ T.K) (hx : Sim false T a pa) (hv : Sim false T c pc) : SimS T (mAugSub getIxL f setIx (mVar i) a c) (pAugSub f i pa pc) := fun Y s ps h st => by
  show RelZ T Y ((mVar i s h).toS _) (PR.toZ (pVar i ps) _)
  cases e : pVar i ps with
  | exc x => exact absurd e pVar_exc
  | bad => trivial
  | ok p ps2 =>
    obtain ⟨rfl, ep⟩ := pVar_ok e
    obtain ⟨n, xs, e1, e2, e3, rfl, e5⟩ := st.held hi ep
    have em : mVar i s h = .ok (.ref n) h := by
      unfold mVar
      simp only [e1]
    rw [em]
    show RelZ T Y ((a s h).toS _) (PR.toZ (pa _) _)
    refine RelE.toZ (hx Y s _ h st) fun b ps3 h3 st3 nb => ?_
    split
    · rename_i ys k ep3
      obtain ⟨n', zs, e1', e2', e3', e4', e5'⟩ := st3.held hi ep3
      cases e4'
      rw [e1] at e1'
      cases e1'
      cases e6 : atI ys k with
      | none => exact trivial
      | some d =>
        have nd := nrs_iff.mp e5' d (atI_mem e6)
        have e7 : getIxL (.ref n) (.int k) h3 = .ok d h3 := by simp only [getIxL, lstOf, e3', e6]
        rw [e7]
        show RelZ T Y ((c s h3).toS _) (PR.toZ (pc _) _)
        refine RelE.toZ (hv Y s _ h3 st3) fun y ps4 h4 st4 ny => RelE.toZ (b := false) (o.rel st4 (.inl ⟨rfl, nd⟩) (.inl ⟨rfl, ny⟩)) fun z ps5 h5 st5 nz => ?_
        split
        · rename_i us ep5
          obtain ⟨n', ws, g1, g2, g3, g4, g5⟩ := st5.held hi ep5
          cases g4
          rw [e1] at g1
          cases g1
          cases e8 : ixN us.length k with
          | none => exact trivial
          | some j =>
            refine ⟨s, _, ?_, st5.put hi ep5 e1 (nrs_set g5 nz)⟩
            simp only [setIx, g3, e8]
            rfl
        · exact trivial
    · exact trivial
end
end Tb
end

section
set_option maxHeartbeats 4000000
namespace Tb
open PySem PySem.Spec PyProof.Rows L2
/-! ## loops -/
open Classical in
noncomputable def forP (g : PGd) (tg : MG) (body : PS') : List D → Sl → PZ
  | [], s => if gP g s then .nx s else .bad
  | x :: xs, s => if gP g s then (match tg x s with
      | some s1 => (match body s1 with
        | .nx s2 => forP g tg body xs s2
        | .ct s2 => forP g tg body xs s2
        | .brk s2 => .nx s2
        | .ret d s2 => .ret d s2
        | .exc e => .exc e
        | .bad => .bad)
      | none => .bad) else .bad
noncomputable def pFor (it : PI') (tg : MG) (body : PS') : PS' := fun s => PR.toZ (it s) fun p s1 => forP p.2 tg body p.1 s1
def whileP (t : PT) (body : PS') : Nat → Sl → PZ
  | 0, _ => .bad
  | n + 1, s => PR.toZ (t s) fun b s1 => if b = true then (match body s1 with
      | .nx s2 => whileP t body n s2
      | .ct s2 => whileP t body n s2
      | .brk s2 => .nx s2
      | .ret d s2 => .ret d s2
      | .exc e => .exc e
      | .bad => .bad) else .nx s1
def pWhile (t : PT) (body : PS') : PS' := whileP t body 1000000
section
variable {α : Type} [Nrm α] {b : Bool} {T : SC} {Y : DY} {s ps : Sl} {h : MH} {i j k n : Nat} {ta : MT} {qt : PT} {m : MS} {q : PS'} {tg : MG} {it : MI} {qi : PI'}
theorem RelIt.toZ {rm : R (List D × Gd)} {rq : PR (List D × PGd)} {f : List D × Gd → MH → RS} {ff : List D × PGd → Sl → PZ} (r : RelIt b T Y s ps h rm rq)
    (k : ∀ xs g' g ps1 h1, St T Y s ps1 h1 → nrs xs = true → GR T Y s g' g → RelZ T Y (f (xs, g') h1) (ff (xs, g) ps1)) : RelZ T Y (rm.toS f) (PR.toZ rq ff) := by
  cases rq with
  | ok p ps1 =>
    obtain ⟨g', h1, e, n, st, gr, ga, q⟩ := r
    subst e
    exact k p.1 g' p.2 ps1 h1 st n gr
  | exc e =>
    obtain ⟨h1, e1, q⟩ := r
    subst e1
    exact ⟨h1, rfl, q⟩
  | bad => trivial
theorem for_sim {g' : Gd} {g : PGd} (htg : TgOk T tg) (hb : SimS T m q) : ∀ (xs : List D) (s ps : Sl) (h : MH), St T Y s ps h → GR T Y s g' g → nrs xs = true → RelZ T Y (forLoop g' tg m xs s h) (forP g tg q xs ps)
  | [], s, ps, h, st, gr, _ => by
    unfold forP forLoop
    by_cases hg : gP g ps
    · rw [if_pos hg, if_pos (gr.ok st hg)]
      exact ⟨s, h, rfl, st⟩
    · rw [if_neg hg]
      trivial
  | x :: xs, s, ps, h, st, gr, nx => by
    obtain ⟨n1, n2⟩ := nrs_cons.mp nx
    unfold forP forLoop
    by_cases hg : gP g ps
    · rw [if_pos hg, if_pos (gr.ok st hg)]
      cases e1 : tg x ps with
      | none => trivial
      | some ps1 =>
        obtain ⟨s1, e2, st1⟩ := htg x ps ps1 Y _ h n1 e1 st
        simp only [e2]
        have r := hb Y s1 ps1 h st1
        cases e3 : q ps1 with
        | nx ps2 =>
          rw [e3] at r
          obtain ⟨s2, h2, e4, st2⟩ := r
          simp only [e4]
          exact for_sim htg hb xs s2 ps2 h2 st2 (gr.to st st2) n2
        | ct ps2 =>
          rw [e3] at r
          obtain ⟨s2, h2, e4, st2⟩ := r
          simp only [e4]
          exact for_sim htg hb xs s2 ps2 h2 st2 (gr.to st st2) n2
        | brk ps2 =>
          rw [e3] at r
          obtain ⟨s2, h2, e4, st2⟩ := r
          simp only [e4]
          exact ⟨s2, h2, rfl, st2⟩
        | ret p ps2 =>
          rw [e3] at r
          obtain ⟨d, s2, h2, e4, st2⟩ := r
          simp only [e4]
          exact ⟨d, s2, h2, rfl, st2⟩
        | exc e =>
          rw [e3] at r
          obtain ⟨h2, e4, st2⟩ := r
          simp only [e4]
          exact ⟨h2, rfl, st2⟩
        | bad => trivial
    · rw [if_neg hg]
      trivial
theorem ss_for (hi : SimI false T it qi) (htg : TgOk T tg) (hb : SimS T m q) : SimS T (mFor it tg m) (pFor qi tg q) := fun Y s ps h st =>
  (hi Y s ps h st).toZ fun xs g' g ps1 h1 st1 nx gr => for_sim htg hb xs s ps1 h1 st1 gr nx
theorem ss_fx (i : Nat) (S : SimS (T.fx i) m q) : SimS T m q := fun Y s ps h st => by
  have r := S _ s ps h (st.addFx (i := i))
  cases e : q ps with
  | nx ps1 =>
    rw [e] at r
    obtain ⟨s1, h1, e1, st1⟩ := r
    exact ⟨s1, h1, e1, st.subFx st1⟩
  | brk ps1 =>
    rw [e] at r
    obtain ⟨s1, h1, e1, st1⟩ := r
    exact ⟨s1, h1, e1, st.subFx st1⟩
  | ct ps1 =>
    rw [e] at r
    obtain ⟨s1, h1, e1, st1⟩ := r
    exact ⟨s1, h1, e1, st.subFx st1⟩
  | ret p ps1 =>
    rw [e] at r
    obtain ⟨d, s1, h1, e1, st1, z⟩ := r
    exact ⟨d, s1, h1, e1, st.subFx st1, z⟩
  | exc x =>
    rw [e] at r
    exact r
  | bad => trivial
theorem while_sim (ht : Sim false T ta qt) (hb : SimS T m q) : ∀ (n : Nat) (s ps : Sl) (h : MH), St T Y s ps h → RelZ T Y (whileLoop ta m n s h) (whileP qt q n ps)
  | 0, s, ps, h, st => trivial
  | n + 1, s, ps, h, st => by
    unfold whileLoop whileP
    refine (ht Y s ps h st).toZ fun k ps1 h1 st1 _ => ?_
    cases k with
    | false => exact ⟨s, h1, rfl, st1⟩
    | true =>
      simp only [if_true]
      have r := hb Y s ps1 h1 st1
      cases e3 : q ps1 with
      | nx ps2 =>
        rw [e3] at r
        obtain ⟨s2, h2, e4, st2⟩ := r
        simp only [e4]
        exact while_sim ht hb n s2 ps2 h2 st2
      | ct ps2 =>
        rw [e3] at r
        obtain ⟨s2, h2, e4, st2⟩ := r
        simp only [e4]
        exact while_sim ht hb n s2 ps2 h2 st2
      | brk ps2 =>
        rw [e3] at r
        obtain ⟨s2, h2, e4, st2⟩ := r
        simp only [e4]
        exact ⟨s2, h2, rfl, st2⟩
      | ret p ps2 =>
        rw [e3] at r
        obtain ⟨d, s2, h2, e4, st2⟩ := r
        simp only [e4]
        exact ⟨d, s2, h2, rfl, st2⟩
      | exc e =>
        rw [e3] at r
        obtain ⟨h2, e4, st2⟩ := r
        simp only [e4]
        exact ⟨h2, rfl, st2⟩
      | bad => trivial
theorem ss_while (ht : Sim false T ta qt) (hb : SimS T m q) : SimS T (mWhile ta m) (pWhile qt q) := fun Y s ps h st => while_sim ht hb _ s ps h st
end
/-! ## defs -/
abbrev PF := List D → PR D
/-- a def: io names the lists that it changes; their values behind it are handed back -/
@[simp] def outsOf (s : Sl) : List Nat → Option Sl
  | [] => some []
  | i :: is => match s[i]? with
    | some (some d) => (outsOf s is).map (some d :: ·)
    | _ => none
def retP (io : List Nat) (d : D) (s : Sl) : PR D := match outsOf s io with
  | some o => .ok d o
  | none => .bad
theorem outsOf_len {s : Sl} : ∀ {io : List Nat} {o : Sl}, outsOf s io = some o → o.length = io.length
  | [], o, e => by cases e; rfl
  | i :: is, o, e => by
    unfold outsOf at e
    split at e
    · obtain ⟨o1, e1, rfl⟩ := Option.map_eq_some_iff.mp e
      simp [outsOf_len e1]
    · cases e
theorem outsOf_get {s : Sl} : ∀ {io : List Nat} {o : Sl} {k i : Nat}, outsOf s io = some o → io[k]? = some i → ∃ d, s[i]? = some (some d) ∧ o[k]? = some (some d)
  | [], o, k, i, e, ek => by cases ek
  | j :: is, o, k, i, e, ek => by
    unfold outsOf at e
    split at e
    · rename_i d ed
      obtain ⟨o1, e1, rfl⟩ := Option.map_eq_some_iff.mp e
      cases k with
      | zero =>
        cases ek
        exact ⟨d, ed, rfl⟩
      | succ k => exact outsOf_get (k := k) e1 (by simpa using ek)
    · cases e
def pFn (n : Nat) (io : List Nat) (rH : Bool) (body : PS') : PF := fun ds => match body (ds.map some ++ List.replicate (n - ds.length) none) with
  | .ret d s => retP io d s
  | .nx s => if rH = true then .bad else retP io .non s
  | .exc e => .exc e
  | _ => .bad
structure ArgsR (np : Nat) (io rd : List Nat) (h : MH) (ds ps : List D) : Prop where
  l1 : ds.length = np
  l2 : ps.length = np
  val : ∀ i d p, ds[i]? = some d → ps[i]? = some p → (i ∈ io → Hd h d p) ∧ (i ∉ io → Rv h d p) ∧ (i ∉ io → i ∉ rd → d = p ∧ p.nr = true)
  sep : ∀ i n, i ∈ io → ds[i]? = some (.ref n) → ∀ j, j ≠ i → ds[j]? ≠ some (.ref n)
def FrA (io : List Nat) (ds : List D) (h h' : MH) : Prop := h.next ≤ h'.next ∧ ∀ n, n < h.next → (∀ i ∈ io, ds[i]? ≠ some (.ref n)) → h'.get n = h.get n
def RelF (io : List Nat) (rH : Bool) (ds : List D) (h : MH) (rm : R D) (rq : PR D) : Prop := match rq with
  | .ok p outs => ∃ d h', rm = .ok d h' ∧ FrA io ds h h' ∧ outs.length = io.length ∧ (∀ (k i : Nat) (n : Nat), io[k]? = some i → ds[i]? = some (.ref n) → ∃ xs, h'.get n = some (.lst xs) ∧ outs[k]? = some (some (.lst xs)) ∧ nrs xs = true) ∧
    (rH = false → d = p ∧ p.nr = true) ∧ (rH = true → ∃ n xs, d = .ref n ∧ h.next ≤ n ∧ n < h'.next ∧ h'.get n = some (.lst xs) ∧ p = .lst xs ∧ nrs xs = true)
  | .exc e => ∃ h', rm = .exc e h' ∧ FrA io ds h h' ∧ e.nr
  | .bad => True
def SimF (np : Nat) (io rd : List Nat) (rH : Bool) (F : Fn) (P : PF) : Prop := ∀ ds ps h, ArgsR np io rd h ds ps → RelF io rH ds h (F ds h) (P ps)
theorem leave_to' {N : Nat} {d : D} {h : MH} (hn : N ≤ h.next) : ∃ h', leave N d h = .ok d h' ∧ N ≤ h'.next ∧ (∀ n, n < N → h'.get n = h.get n) ∧ ∀ n, d = .ref n → N ≤ n → h' = h := by
  unfold leave
  split
  · rename_i hz
    refine ⟨_, rfl, Nat.le_refl _, fun n z => ?_, fun n z1 z2 => ?_⟩
    · show (if n < N then h.get n else none) = _
      rw [if_pos z]
    · subst z1
      have := hz.1
      simp only [D.bd, decide_eq_true_eq] at this
      omega
  · exact ⟨h, rfl, hn, fun _ _ => rfl, fun _ _ _ => rfl⟩
/-- THE RULE for defs -/
theorem sim_fn {T : SC} {m : MS} {q : PS'} {N np : Nat} {io rd : List Nat} {rH : Bool} (S : SimS T m q) (e0 : T.rH = rH) (e1 : ∀ i ∈ io, i ∈ T.K) (e2 : ∀ i ∈ io, i ∈ T.Fx) (e3 : ∀ i ∈ T.K, i < np → i ∈ io) (e4 : ∀ i ∈ rd, i ∈ T.Rd) (e5 : ∀ i ∈ T.Fx, i ∈ io) (e6 : ∀ i ∈ io, i < np) :
    SimF np io rd rH (fnM N m) (pFn N io rH q) := fun ds ps h A => by
  have lds := A.l1
  have lps := A.l2
  let IO : List Nat := io.filterMap fun i => match ds[i]? with
    | some (D.ref n) => some n
    | _ => none
  have io_iff : ∀ n, n ∈ IO ↔ ∃ i ∈ io, ds[i]? = some (.ref n) := fun n => by
    show n ∈ List.filterMap _ _ ↔ _
    rw [List.mem_filterMap]
    constructor
    · rintro ⟨i, hi, e⟩
      split at e
      · rename_i m em
        cases e
        exact ⟨i, hi, em⟩
      · cases e
    · rintro ⟨i, hi, e⟩
      exact ⟨i, hi, by simp only [e]⟩
  have at1 : ∀ {i : Nat} {d : D}, (ds.map some ++ List.replicate (N - ds.length) none)[i]? = some (some d) ↔ ds[i]? = some d := fun {i d} => by
    by_cases hi : i < ds.length
    · rw [List.getElem?_append_left (by simpa using hi), List.getElem?_map]
      cases ds[i]? <;> simp
    · rw [List.getElem?_append_right (by simpa using hi), List.getElem?_replicate, List.getElem?_eq_none (by omega)]
      split <;> simp
  have at2 : ∀ {i : Nat} {d : D}, (ps.map some ++ List.replicate (N - ps.length) none)[i]? = some (some d) ↔ ps[i]? = some d := fun {i d} => by
    by_cases hi : i < ps.length
    · rw [List.getElem?_append_left (by simpa using hi), List.getElem?_map]
      cases ps[i]? <;> simp
    · rw [List.getElem?_append_right (by simpa using hi), List.getElem?_replicate, List.getElem?_eq_none (by omega)]
      split <;> simp
  have pair : ∀ {i : Nat} {p : D}, ps[i]? = some p → i < np ∧ ∃ d, ds[i]? = some d := fun {i p} e => by
    have := get_lt e
    exact ⟨by omega, ds[i]'(by omega), List.getElem?_eq_getElem _⟩
  let Y : DY := ⟨ds.map some ++ List.replicate (N - ds.length) none, h, IO⟩
  have st : St T Y (ds.map some ++ List.replicate (N - ds.length) none) (ps.map some ++ List.replicate (N - ps.length) none) h := by
    refine ⟨by simp [lds, lps], fun i p e => ?_, fun i n p hi e em => ?_, fun i n p hi e em => ?_, fun _ _ _ => rfl, Nat.le_refl _, fun n hn => ?_, fun _ _ => rfl⟩
    · rw [at2] at e
      obtain ⟨hl, d, ed⟩ := pair e
      obtain ⟨a, b, c⟩ := A.val i d p ed e
      exact ⟨d, at1.mpr ed, fun z => a (e3 i z hl), fun z => b fun y => z (e1 i y), fun z1 z2 => c (fun y => z1 (e1 i y)) fun y => z2 (e4 i y)⟩
    · rw [at2] at e
      rw [at1] at em
      obtain ⟨hl, _⟩ := pair e
      have hio := e3 i hi hl
      refine ⟨.inl ((io_iff n).mpr ⟨i, hio, em⟩), fun j r hj er => ?_⟩
      rw [Ne, at1]
      exact A.sep i n hio em j hj
    · rw [at2] at e
      rw [at1] at em
      have hio : i ∉ io := fun z => hi (e1 i z)
      obtain ⟨_, b, _⟩ := A.val i _ p em e
      rcases b hio with ⟨rfl, z⟩ | ⟨m, xs, z, hm, _⟩
      · cases z
      · cases z
        refine ⟨hm, fun z => ?_⟩
        obtain ⟨j, hj, ej⟩ := (io_iff _).mp z
        exact A.sep j _ hj ej i (fun y => hio (y ▸ hj)) em
    · obtain ⟨i, hi, ei⟩ := (io_iff n).mp hn
      have hl : i < np := e6 i hi
      obtain ⟨a, _, _⟩ := A.val i _ (ps[i]'(by omega)) ei (List.getElem?_eq_getElem _)
      obtain ⟨m, xs, z, hm, _⟩ := a hi
      cases z
      exact hm
  have r := S Y _ _ h st
  have outs_ok : ∀ (s' ps' : Sl) (h1 h2 : MH) (o : Sl), St T Y s' ps' h1 → (∀ n, n < h.next → h2.get n = h1.get n) → outsOf ps' io = some o → ∀ (k i n : Nat), io[k]? = some i → ds[i]? = some (.ref n) → ∃ xs, h2.get n = some (.lst xs) ∧ o[k]? = some (some (.lst xs)) ∧ nrs xs = true := by
    intro s' ps' h1 h2 o st1 hg eo k i n ek ei
    have hi : i ∈ io := List.mem_of_getElem? ek
    obtain ⟨p, ep, eo2⟩ := outsOf_get eo ek
    obtain ⟨m, xs, f1, f2, f3, f4, f5⟩ := st1.held (e1 i hi) ep
    have f6 : s'[i]? = some (some (.ref n)) := (st1.fix i (e2 i hi)).trans (at1.mpr ei)
    rw [f1] at f6
    cases f6
    have hn : n < h.next := st.io n ((io_iff n).mpr ⟨i, hi, ei⟩)
    exact ⟨xs, (hg n hn).trans f3, by rw [eo2, f4], f5⟩
  have frA : ∀ h2 : MH, h.next ≤ h2.next → (∀ n, n < h.next → n ∉ IO → h2.get n = h.get n) → FrA io ds h h2 := fun h2 le hg => ⟨le, fun n hn hz => hg n hn fun z => by
    obtain ⟨i, hi, ei⟩ := (io_iff n).mp z
    exact hz i hi ei⟩
  unfold pFn fnM
  generalize hq : q (ps.map some ++ List.replicate (N - ps.length) none) = rq at r
  have fin : ∀ (d p : D) (s' ps' : Sl) (h1 : MH), St T Y s' ps' h1 → RetR T Y h1 d p → RelF io rH ds h (leave h.next d h1) (retP io p ps') := by
    intro d p s' ps' h1 st1 rr
    unfold retP
    cases eo : outsOf ps' io with
    | none => exact trivial
    | some o =>
      obtain ⟨h2, l1, l2, l3, l4⟩ := leave_to' (N := h.next) (d := d) st1.nxt
      refine ⟨d, h2, l1, frA h2 l2 fun n z1 z2 => (l3 n z1).trans (st1.frm n z1 z2), outsOf_len eo, outs_ok s' ps' h1 h2 o st1 l3 eo, fun z => rr.1 (e0.trans z), fun z => ?_⟩
      obtain ⟨n, xs, z1, z2, z3, z4, z5, z6⟩ := rr.2 (e0.trans z)
      have := l4 n z1 z3
      subst this
      exact ⟨n, xs, z1, z3, z2, z4, z5, z6⟩
  cases rq with
  | ret p ps' =>
    obtain ⟨d, s', h1, em, st1, rr⟩ := r
    rw [em]
    exact fin d p s' ps' h1 st1 rr
  | nx ps' =>
    obtain ⟨s', h1, em, st1⟩ := r
    rw [em]
    cases rH with
    | true => exact trivial
    | false => exact fin .non .non s' ps' h1 st1 ⟨fun _ => ⟨rfl, rfl⟩, fun z => absurd (e0.symm.trans z) (by decide)⟩
  | exc e =>
    obtain ⟨h1, em, fr, en⟩ := r
    rw [em]
    exact ⟨h1, rfl, frA h1 fr.2 fr.1, en⟩
  | brk ps' => exact trivial
  | ct ps' => exact trivial
  | bad => exact trivial
/-! ## calls -/
def pCall0 (n : Nat) (P : PF) (dv : List D) (x : PA) : PE := fun s => (x s).bind fun ds s1 => if ds.length + dv.length = n then (match P (ds ++ dv) with
  | .ok d _ => .ok d s1
  | .exc e => .exc e
  | .bad => .bad) else .bad
def pCallK (n l np : Nat) (P : PF) (gD : List D → List D → List D) (x y : PA) : PE := fun s => (x s).bind fun ds s1 => (y s1).bind fun es s2 => if ds.length = n ∧ es.length = l ∧ (gD ds es).length = np then (match P (gD ds es) with
  | .ok d _ => .ok d s2
  | .exc e => .exc e
  | .bad => .bad) else .bad
section
variable {b : Bool} {T : SC} {Y : DY} {s ps : Sl} {h : MH} {i j k n np : Nat} {ma mb : MA} {qA qB : PA} {F : Fn} {P : PF} {rd : List Nat} {dv : List D}
theorem ArgsR.vals {ds : List D} (hl : ds.length = np) (hn : nrs ds = true) : ArgsR np [] rd h ds ds := ⟨hl, hl, fun i d p e1 e2 => by
  rw [e1] at e2
  cases e2
  have nd := nrs_iff.mp hn d (List.mem_of_getElem? e1)
  exact ⟨fun z => (by cases z), fun _ => .inl ⟨rfl, nd⟩, fun _ _ => ⟨rfl, nd⟩⟩, fun i n z => (by cases z)⟩
theorem FrY.of {Y : DY} {h h' : MH} (a : FrY Y h) (b : Up h h') : FrY Y h' := ⟨fun n z1 z2 => (b.get n (Nat.lt_of_lt_of_le z1 a.2)).trans (a.1 n z1 z2), Nat.le_trans a.2 b.nx⟩
theorem FrA.up {ds : List D} {h h' : MH} (a : FrA [] ds h h') : Up h h' := ⟨fun n z => a.2 n z fun i hi => (by cases hi), a.1⟩
/-- a call of a def that changes no list -/
theorem call_vals (S : SimF np [] rd false F P) (st : St T Y s ps h) {ds : List D} (hl : ds.length = np) (hn : nrs ds = true) : RelE b T Y s ps h (F ds h) (match P ds with
  | .ok d _ => .ok d ps
  | .exc e => .exc e
  | .bad => .bad) := by
  have r := S ds ds h (.vals hl hn)
  cases e : P ds with
  | ok p o =>
    rw [e] at r
    obtain ⟨d, h', e1, fr, _, _, z, _⟩ := r
    obtain ⟨rfl, nd⟩ := z rfl
    have u := fr.up
    exact ⟨h', e1, nd, st.up u, fun _ => ⟨rfl, u⟩⟩
  | exc x =>
    rw [e] at r
    obtain ⟨h', e1, fr, en⟩ := r
    exact ⟨h', e1, st.fr.of fr.up, en⟩
  | bad => exact trivial
theorem sim_call0 (S : SimF np [] rd false F P) (hd : nrs dv = true) (ha : Sim b T ma qA) : Sim b T (mCall np F dv ma) (pCall0 np P dv qA) := fun Y s ps h st =>
  (ha Y s ps h st).bind fun ds ps1 h1 st1 nd => by
    by_cases hl : ds.length + dv.length = np
    · rw [if_pos hl, if_pos hl]
      exact call_vals S st1 (by simpa using hl) (nrs_append nd hd)
    · rw [if_neg hl, if_neg hl]
      exact trivial
theorem sim_callK {l m : Nat} {gD : List D → List D → List D} (S : SimF np [] rd false F P) (hg : ∀ ds es, nrs ds = true → nrs es = true → nrs (gD ds es) = true) (ha : Sim b T ma qA) (hb : Sim b T mb qB) : Sim b T (mCallK m l np F gD ma mb) (pCallK m l np P gD qA qB) := fun Y s ps h st =>
  (ha Y s ps h st).bind fun ds ps1 h1 st1 nd => (hb Y s ps1 h1 st1).bind fun es ps2 h2 st2 ne => by
    by_cases hl : ds.length = m ∧ es.length = l ∧ (gD ds es).length = np
    · rw [if_pos hl, if_pos hl]
      exact call_vals S st2 hl.2.2 (hg ds es nd ne)
    · rw [if_neg hl, if_neg hl]
      exact trivial
theorem nrs_pick {ix : List (Nat × Bool)} {xs dv ys : List D} (h1 : nrs xs = true) (h2 : nrs dv = true) (h3 : nrs ys = true) : nrs (kPick ix xs dv ys) = true := nrs_iff.mpr fun x hx => by
  unfold kPick at hx
  rcases List.mem_append.mp hx with hx | hx
  · exact nrs_iff.mp h1 x hx
  · obtain ⟨p, _, e⟩ := List.mem_filterMap.mp hx
    split at e
    · exact nrs_iff.mp h3 x (List.mem_of_getElem? e)
    · exact nrs_iff.mp h2 x (List.mem_of_getElem? e)
/-! ### names that are handed on as they are -/
@[simp] def lateS : List (Option Nat) → List D → Sl → Option (List D)
  | [], [], _ => some []
  | none :: sh, d :: ds, s => (lateS sh ds s).map (d :: ·)
  | some i :: sh, _ :: ds, s => match s[i]? with
    | some (some x) => (lateS sh ds s).map (x :: ·)
    | _ => none
  | _, _, _ => none
@[simp] def putOuts : List Nat → Sl → Sl → Sl
  | i :: is, o :: os, s => putOuts is os (s.set i o)
  | _, _, s => s
def pCall (n : Nat) (P : PF) (dv : List D) (sh : List (Option Nat)) (dst : List Nat) (x : PA) : PE := fun s => (x s).bind fun ds s1 => match lateS sh ds s1 with
  | some es => if es.length + dv.length = n then (match P (es ++ dv) with
    | .ok d o => .ok d (putOuts dst o s1)
    | .exc e => .exc e
    | .bad => .bad) else .bad
  | none => .bad
def LateR (s : Sl) : List (Option Nat) → List D → List D → Prop
  | [], [], [] => True
  | none :: sh, d :: ds, e :: es => d = e ∧ e.nr = true ∧ LateR s sh ds es
  | some i :: sh, d :: ds, _ :: es => s[i]? = some (some d) ∧ LateR s sh ds es
  | _, _, _ => False
def RelL (b : Bool) (T : SC) (Y : DY) (s ps : Sl) (h : MH) (sh : List (Option Nat)) (rm : R (List D)) (rq : PR (List D)) : Prop := match rq with
  | .ok es ps' => ∃ ds h', rm = .ok ds h' ∧ LateR s sh ds es ∧ St T Y s ps' h' ∧ (b = true → ps' = ps ∧ Up h h')
  | .exc e => ∃ h', rm = .exc e h' ∧ FrY Y h' ∧ e.nr
  | .bad => True
def SimL (b : Bool) (T : SC) (sh : List (Option Nat)) (m : MA) (q : PA) : Prop := ∀ Y s ps h, St T Y s ps h → RelL b T Y s ps h sh (m s h) (q ps)
theorem RelL.from {ps1 : Sl} {h1 : MH} {sh : List (Option Nat)} {rm : R (List D)} {rq : PR (List D)} (hb : b = true → ps1 = ps ∧ Up h h1) (r : RelL b T Y s ps1 h1 sh rm rq) : RelL b T Y s ps h sh rm rq := by
  cases rq with
  | ok a ps' =>
    obtain ⟨ds, h', e, na, st, q⟩ := r
    exact ⟨ds, h', e, na, st, fun z => let ⟨e1, u1⟩ := hb z; let ⟨e2, u2⟩ := q z; ⟨e2.trans e1, u1.trans u2⟩⟩
  | exc e => exact r
  | bad => trivial
variable {sh : List (Option Nat)} {a : ME} {pa : PE}
theorem sl_nil : SimL b T [] mNil pNil := fun Y s ps h st => ⟨[], h, rfl, trivial, st, fun _ => ⟨rfl, Up.refl⟩⟩
theorem sl_cons {o : Option Nat} {d p : D} {ps1 : Sl} {h1 : MH} (st1 : St T Y s ps1 h1) (ht : SimL b T sh ma qA) (hz : ∀ ds es, LateR s sh ds es → LateR s (o :: sh) (d :: ds) (p :: es)) : RelL b T Y s ps1 h1 (o :: sh) ((ma s h1).bind fun xs h2 => .ok (d :: xs) h2) ((qA ps1).bind fun xs s2 => .ok (p :: xs) s2) := by
  have r := ht Y s ps1 h1 st1
  cases e : qA ps1 with
  | ok es ps2 =>
    rw [e] at r
    obtain ⟨ds, h2, e1, lr, st2, q⟩ := r
    rw [e1]
    exact ⟨d :: ds, h2, rfl, hz ds es lr, st2, q⟩
  | exc x =>
    rw [e] at r
    obtain ⟨h2, e1, q⟩ := r
    rw [e1]
    exact ⟨h2, rfl, q⟩
  | bad => trivial
theorem sl_val (ha : Sim b T a pa) (ht : SimL b T sh ma qA) : SimL b T (none :: sh) (mCons a ma) (pCons pa qA) := fun Y s ps h st => by
  have r := ha Y s ps h st
  show RelL b T Y s ps h _ ((a s h).bind _) ((pa ps).bind _)
  cases e : pa ps with
  | ok d ps1 =>
    rw [e] at r
    obtain ⟨h1, e1, n, st1, q⟩ := r
    rw [e1]
    exact RelL.from q (sl_cons st1 ht fun ds es lr => ⟨rfl, n, lr⟩)
  | exc x =>
    rw [e] at r
    obtain ⟨h2, e1, q⟩ := r
    rw [e1]
    exact ⟨h2, rfl, q⟩
  | bad => trivial
theorem sl_late (ht : SimL b T sh ma qA) : SimL b T (some i :: sh) (mCons (mVar i) ma) (pCons (pVar i) qA) := fun Y s ps h st => by
  show RelL b T Y s ps h _ ((mVar i s h).bind _) ((pVar i ps).bind _)
  cases e : pVar i ps with
  | exc x => exact absurd e pVar_exc
  | bad => trivial
  | ok p ps1 =>
    obtain ⟨rfl, ep⟩ := pVar_ok e
    obtain ⟨d, es, rv⟩ := st.rv ep
    have em : mVar i s h = .ok d h := by
      unfold mVar
      simp only [es]
    rw [em]
    exact sl_cons st ht fun ds es' lr => ⟨es, lr⟩
/-- what late names stand for -/
theorem late_get {s ps : Sl} : ∀ {sh : List (Option Nat)} {ds es fs : List D}, LateR s sh ds es → lateS sh es ps = some fs → ds.length = sh.length ∧ fs.length = sh.length ∧
    ∀ (k : Nat) (o : Option Nat), sh[k]? = some o → match o with
      | none => ∃ d : D, ds[k]? = some d ∧ fs[k]? = some d ∧ d.nr = true
      | some i => ∃ d p : D, ds[k]? = some d ∧ fs[k]? = some p ∧ s[i]? = some (some d) ∧ ps[i]? = some (some p)
  | [], [], [], fs, _, e => by
    cases e
    exact ⟨rfl, rfl, fun k o z => by cases z⟩
  | none :: sh, d :: ds, e :: es, fs, r, q => by
    obtain ⟨rfl, n, r⟩ := r
    obtain ⟨gs, q1, rfl⟩ := Option.map_eq_some_iff.mp q
    obtain ⟨l1, l2, z⟩ := late_get r q1
    refine ⟨by simp [l1], by simp [l2], fun k o ek => ?_⟩
    cases k with
    | zero =>
      cases ek
      exact ⟨d, rfl, rfl, n⟩
    | succ k => simpa using z k o (by simpa using ek)
  | some i :: sh, d :: ds, e :: es, fs, r, q => by
    obtain ⟨r1, r⟩ := r
    unfold lateS at q
    split at q
    · rename_i x ex
      obtain ⟨gs, q1, rfl⟩ := Option.map_eq_some_iff.mp q
      obtain ⟨l1, l2, z⟩ := late_get r q1
      refine ⟨by simp [l1], by simp [l2], fun k o ek => ?_⟩
      cases k with
      | zero =>
        cases ek
        exact ⟨d, x, rfl, rfl, r1, ex⟩
      | succ k => simpa using z k o (by simpa using ek)
    · cases q
  | [], _ :: _, _, _, r, _ => r.elim
  | [], [], _ :: _, _, r, _ => r.elim
  | none :: _, [], _, _, r, _ => r.elim
  | none :: _, _ :: _, [], _, r, _ => r.elim
  | some _ :: _, [], _, _, r, _ => r.elim
  | some _ :: _, _ :: _, [], _, r, _ => r.elim
theorem put_len : ∀ {dst : List Nat} {os s : Sl}, (putOuts dst os s).length = s.length
  | [], _, _ => by simp [putOuts]
  | _ :: _, [], _ => by simp [putOuts]
  | i :: is, o :: os, s => by
    unfold putOuts
    rw [put_len, List.length_set]
theorem put_get : ∀ {dst : List Nat} {os s : Sl}, dst.Nodup → dst.length = os.length → (∀ (j i : Nat), dst[j]? = some i → i < s.length → (putOuts dst os s)[i]? = os[j]?) ∧ ∀ i, i ∉ dst → (putOuts dst os s)[i]? = s[i]?
  | [], os, s, _, _ => ⟨fun j i z => (by cases z), fun i _ => by simp [putOuts]⟩
  | i :: is, [], s, _, l => (by cases l)
  | i :: is, o :: os, s, nd, l => by
    obtain ⟨n1, n2⟩ := List.nodup_cons.mp nd
    obtain ⟨a, b⟩ := put_get (s := s.set i o) n2 (by simpa using l)
    unfold putOuts
    refine ⟨fun j k e hk => ?_, fun k hk => ?_⟩
    · cases j with
      | zero =>
        cases e
        rw [b i n1, set_eq hk]
        rfl
      | succ j => simpa using a j k (by simpa using e) (by simpa using hk)
    · simp only [List.mem_cons, not_or] at hk
      rw [b k hk.2, set_ne hk.1]
/-- several held lists are changed at once -/
theorem St.puts {dst : List Nat} {os : Sl} {h' : MH} (st : St T Y s ps h) (le : h.next ≤ h'.next) (fr : ∀ n, n < h.next → (∀ i ∈ dst, s[i]? ≠ some (some (D.ref n))) → h'.get n = h.get n) (nd : dst.Nodup) (l : dst.length = os.length) (hK : ∀ i ∈ dst, i ∈ T.K) (hs : ∀ i ∈ dst, ∃ p, ps[i]? = some (some p))
    (ho : ∀ (j i n : Nat), dst[j]? = some i → s[i]? = some (some (D.ref n)) → ∃ xs, h'.get n = some (.lst xs) ∧ os[j]? = some (some (.lst xs)) ∧ nrs xs = true) : St T Y s (putOuts dst os ps) h' := by
  obtain ⟨pg, pn⟩ := put_get (s := ps) nd l
  have look : ∀ {i : Nat} {q : D}, (putOuts dst os ps)[i]? = some (some q) → (i ∈ dst ∧ ∃ n xs, s[i]? = some (some (.ref n)) ∧ n < h.next ∧ h'.get n = some (.lst xs) ∧ q = .lst xs ∧ nrs xs = true) ∨ (i ∉ dst ∧ ps[i]? = some (some q)) := fun {i q} e => by
    by_cases hi : i ∈ dst
    · obtain ⟨j, ej⟩ := List.getElem?_of_mem hi
      obtain ⟨p, ep⟩ := hs i hi
      obtain ⟨n, xs, e1, e2, _⟩ := st.held (hK i hi) ep
      obtain ⟨ys, f1, f2, f3⟩ := ho j i n ej e1
      rw [pg j i ej (get_lt ep), f2] at e
      cases e
      exact .inl ⟨hi, n, ys, e1, e2, f1, rfl, f3⟩
    · rw [pn i hi] at e
      exact .inr ⟨hi, e⟩
  have old : ∀ {i : Nat} {q : D}, (putOuts dst os ps)[i]? = some (some q) → ∃ q', ps[i]? = some (some q') := fun {i q} e => by
    rcases look e with ⟨hi, _⟩ | ⟨_, e⟩
    · exact hs i hi
    · exact ⟨q, e⟩
  have keep : ∀ {i : Nat} {q d : D}, i ∉ dst → ps[i]? = some (some q) → s[i]? = some (some d) → Hd h d q → Hd h' d q := fun {i q d} hi ep es ⟨n, xs, z1, z2, z3, z4, z5⟩ => by
    subst z1
    refine ⟨n, xs, rfl, Nat.lt_of_lt_of_le z2 le, ?_, z4, z5⟩
    rw [fr n z2 fun k hk ek => ?_]
    · exact z3
    · obtain ⟨p, epk⟩ := hs k hk
      obtain ⟨_, b⟩ := st.sep k n p (hK k hk) epk ek
      exact b i q (fun z => hi (z ▸ hk)) ep es
  refine ⟨by rw [put_len, st.len], fun i q e => ?_, fun i n q hi e em => ?_, fun i n q hi e em => ?_, fun n z1 z2 => ?_, Nat.le_trans st.nxt le, st.io, st.fix⟩
  · rcases look e with ⟨hi, n, xs, e1, e2, e3, rfl, e4⟩ | ⟨hi, ep⟩
    · exact ⟨_, e1, fun _ => ⟨n, xs, rfl, Nat.lt_of_lt_of_le e2 le, e3, rfl, e4⟩, fun z => absurd (hK i hi) z, fun z => absurd (hK i hi) z⟩
    · obtain ⟨d, es, a, b, c⟩ := st.val i q ep
      exact ⟨d, es, fun z => keep hi ep es (a z), fun z => (b z).imp id (keep hi ep es), c⟩
  · obtain ⟨q', ep⟩ := old e
    obtain ⟨a, b⟩ := st.sep i n q' hi ep em
    refine ⟨a, fun j r hj er => ?_⟩
    obtain ⟨r', er'⟩ := old er
    exact b j r' hj er'
  · obtain ⟨q', ep⟩ := old e
    exact st.rdo i n q' hi ep em
  · rw [fr n (Nat.lt_of_lt_of_le z1 st.nxt) fun k hk ek => ?_]
    · exact st.frm n z1 z2
    · obtain ⟨p, epk⟩ := hs k hk
      obtain ⟨a, _⟩ := st.sep k n p (hK k hk) epk ek
      rcases a with a | a
      · exact z2 a
      · omega
def callOk (K io rd : List Nat) (sh : List (Option Nat)) (dst : List Nat) : Bool :=
  (io.all fun k => match sh[k]? with | some (some i) => decide (i ∈ K) | _ => false) && ((List.range sh.length).all fun k => match sh[k]? with | some (some i) => decide (k ∈ io) || decide (k ∈ rd) | _ => true) &&
  (io.all fun k => (List.range sh.length).all fun k' => decide (k' = k) || decide (sh[k']? ≠ sh[k]?)) && decide (io.map (fun k => (sh[k]?).join) = dst.map some) && decide dst.Nodup
/-- what a call leaves behind -/
theorem call_core {io : List Nat} {rH : Bool} {dst : List Nat} {ds es fs : List D} (S : SimF np io rd rH F P) (hc : callOk T.K io rd sh dst = true) (st : St T Y s ps h) (lr : LateR s sh ds es) (el : lateS sh es ps = some fs) (hl : fs.length + dv.length = np) (hd : nrs dv = true) :
    match P (fs ++ dv) with
    | .ok p o => ∃ d h', F (ds ++ dv) h = .ok d h' ∧ St T Y s (putOuts dst o ps) h' ∧ (∀ (j : Nat) (q : D), (putOuts dst o ps)[j]? = some (some q) → ∃ q', ps[j]? = some (some q')) ∧ (io = [] → putOuts dst o ps = ps ∧ Up h h') ∧ h.next ≤ h'.next ∧ (rH = false → d = p ∧ p.nr = true) ∧ (rH = true → ∃ n xs, d = .ref n ∧ h.next ≤ n ∧ n < h'.next ∧ h'.get n = some (.lst xs) ∧ p = .lst xs ∧ nrs xs = true)
    | .exc e => ∃ h', F (ds ++ dv) h = .exc e h' ∧ FrY Y h' ∧ e.nr
    | .bad => True := by
  unfold callOk at hc
  simp only [Bool.and_eq_true, List.all_eq_true, decide_eq_true_eq] at hc
  obtain ⟨⟨⟨⟨c1, c2⟩, c3⟩, c4⟩, c5⟩ := hc
  obtain ⟨l1, l2, look⟩ := late_get lr el
  have ioS : ∀ k ∈ io, ∃ i, sh[k]? = some (some i) ∧ i ∈ T.K := fun k hk => by
    have := c1 k hk
    split at this
    · rename_i i e
      exact ⟨i, e, by simpa using this⟩
    · cases this
  have c3' : ∀ k ∈ io, ∀ k', k' ≠ k → k' < sh.length → sh[k']? ≠ sh[k]? := fun k hk k' hne hlt => by
    have := c3 k hk k' (List.mem_range.mpr hlt)
    simpa [hne] using this
  have app1 : ∀ {xs : List D} {k : Nat} {d : D}, xs.length = sh.length → (xs ++ dv)[k]? = some d → (k < sh.length ∧ xs[k]? = some d) ∨ (sh.length ≤ k ∧ d ∈ dv) := fun {xs k d} hx e => by
    by_cases hk : k < xs.length
    · rw [List.getElem?_append_left hk] at e
      exact .inl ⟨by omega, e⟩
    · rw [List.getElem?_append_right (by omega)] at e
      exact .inr ⟨by omega, List.mem_of_getElem? e⟩
  have dvn : ∀ d ∈ dv, d.nr = true := nrs_iff.mp hd
  have atIo : ∀ k ∈ io, k < sh.length := fun k hk => by
    obtain ⟨i, e, _⟩ := ioS k hk
    exact get_lt e
  have A : ArgsR np io rd h (ds ++ dv) (fs ++ dv) := by
    refine ⟨by rw [List.length_append, l1, ← l2, hl], by rw [List.length_append, hl], fun k d p e1 e2 => ?_, fun k n hk e j hj ej => ?_⟩
    · rcases app1 l1 e1 with ⟨hk, e1'⟩ | ⟨hk, e1'⟩
      · rcases app1 l2 e2 with ⟨_, e2'⟩ | ⟨hk2, _⟩
        · have z := look k sh[k] (List.getElem?_eq_getElem hk)
          cases eo : sh[k] with
          | none =>
            rw [eo] at z
            obtain ⟨d', q1, q2, q3⟩ := z
            rw [e1'] at q1
            rw [e2'] at q2
            cases q1
            cases q2
            refine ⟨fun q => ?_, fun _ => .inl ⟨rfl, q3⟩, fun _ _ => ⟨rfl, q3⟩⟩
            obtain ⟨i, ei, _⟩ := ioS k q
            rw [List.getElem?_eq_getElem hk, eo] at ei
            cases ei
          | some i =>
            rw [eo] at z
            obtain ⟨d', p', q1, q2, q3, q4⟩ := z
            rw [e1'] at q1
            rw [e2'] at q2
            cases q1
            cases q2
            have ek : sh[k]? = some (some i) := by rw [List.getElem?_eq_getElem hk, eo]
            obtain ⟨d2, r1, r2, r3, r4⟩ := st.val i p q4
            rw [q3] at r1
            cases r1
            refine ⟨fun q => ?_, fun q => ?_, fun q1 q2 => ?_⟩
            · obtain ⟨i', ei, hi⟩ := ioS k q
              rw [ek] at ei
              cases ei
              exact r2 hi
            · by_cases hi : i ∈ T.K
              · exact .inr (r2 hi)
              · exact r3 hi
            · have := c2 k (List.mem_range.mpr hk)
              rw [ek] at this
              simp only [Bool.or_eq_true, decide_eq_true_eq] at this
              exact absurd (this.resolve_left q1) q2
        · omega
      · rcases app1 l2 e2 with ⟨hk2, _⟩ | ⟨_, _⟩
        · omega
        · rw [List.getElem?_append_right (by omega)] at e1 e2
          rw [l1] at e1
          rw [l2, e1] at e2
          cases e2
          have nd := dvn d e1'
          exact ⟨fun q => absurd (atIo k q) (by omega), fun _ => .inl ⟨rfl, nd⟩, fun _ _ => ⟨rfl, nd⟩⟩
    · have hk' := atIo k hk
      obtain ⟨i, ei, hi⟩ := ioS k hk
      have zk := look k (some i) ei
      obtain ⟨d', p', q1, q2, q3, q4⟩ := zk
      rw [List.getElem?_append_left (by omega), q1] at e
      cases e
      obtain ⟨_, sp⟩ := st.sep i n p' hi q4 q3
      rcases app1 l1 ej with ⟨hjl, ej'⟩ | ⟨_, ej'⟩
      · have zj := look j sh[j] (List.getElem?_eq_getElem hjl)
        cases eo : sh[j] with
        | none =>
          rw [eo] at zj
          obtain ⟨d2, r1, _, r3⟩ := zj
          rw [ej'] at r1
          cases r1
          cases r3
        | some i2 =>
          rw [eo] at zj
          obtain ⟨d2, p2, r1, r2, r3, r4⟩ := zj
          rw [ej'] at r1
          cases r1
          have hne := c3' k hk j hj hjl
          rw [List.getElem?_eq_getElem hjl, eo, ei] at hne
          exact sp i2 p2 (fun z => hne (by rw [z])) r4 r3
      · have := dvn _ ej'
        cases this
  have ioD : ∀ (j k : Nat), io[j]? = some k → ∃ i, dst[j]? = some i ∧ sh[k]? = some (some i) := fun j k e => by
    obtain ⟨i, ei, _⟩ := ioS k (List.mem_of_getElem? e)
    have : (io.map fun k => (sh[k]?).join)[j]? = some (some i) := by rw [List.getElem?_map, e]; simp [ei]
    rw [c4, List.getElem?_map] at this
    obtain ⟨i', e1, e2⟩ := Option.map_eq_some_iff.mp this
    cases e2
    exact ⟨_, e1, ei⟩
  have lenD : dst.length = io.length := by
    have := congrArg List.length c4
    simpa using this.symm
  have dIo : ∀ (j i : Nat), dst[j]? = some i → ∃ k, io[j]? = some k ∧ sh[k]? = some (some i) := fun j i e => by
    have hj := get_lt e
    have hj2 : j < io.length := by omega
    obtain ⟨i', e1, e2⟩ := ioD j io[j] (List.getElem?_eq_getElem hj2)
    rw [e] at e1
    cases e1
    exact ⟨_, List.getElem?_eq_getElem hj2, e2⟩
  have r := S (ds ++ dv) (fs ++ dv) h A
  cases eP : P (fs ++ dv) with
  | ok p o =>
    rw [eP] at r
    obtain ⟨d, h', e1, fr, lo, ho, r1, r2⟩ := r
    have dsAt : ∀ (k i : Nat), sh[k]? = some (some i) → ∃ x p : D, (ds ++ dv)[k]? = some x ∧ s[i]? = some (some x) ∧ ps[i]? = some (some p) := fun k i ei => by
      obtain ⟨d', p', q1, q2, q3, q4⟩ := look k (some i) ei
      have := get_lt ei
      exact ⟨d', p', by rw [List.getElem?_append_left (by omega)]; exact q1, q3, q4⟩
    refine ⟨d, h', e1, ?_, fun j q e => ?_, fun z => ?_, fr.1, r1, r2⟩
    · refine st.puts fr.1 (fun n hn hz => fr.2 n hn fun k hk ek => ?_) c5 (by rw [lo, lenD]) (fun i hi => ?_) (fun i hi => ?_) fun j i n ej es => ?_
      · obtain ⟨j, ej⟩ := List.getElem?_of_mem hk
        obtain ⟨i, e2, e3⟩ := ioD j k ej
        obtain ⟨x, p, q1, q2, _⟩ := dsAt k i e3
        rw [ek] at q1
        cases q1
        exact hz i (List.mem_of_getElem? e2) q2
      · obtain ⟨j, ej⟩ := List.getElem?_of_mem hi
        obtain ⟨k, e2, e3⟩ := dIo j i ej
        obtain ⟨i', e4, e5⟩ := ioS k (List.mem_of_getElem? e2)
        rw [e3] at e4
        cases e4
        exact e5
      · obtain ⟨j, ej⟩ := List.getElem?_of_mem hi
        obtain ⟨k, e2, e3⟩ := dIo j i ej
        obtain ⟨x, p, _, _, q⟩ := dsAt k i e3
        exact ⟨p, q⟩
      · obtain ⟨k, e2, e3⟩ := dIo j i ej
        obtain ⟨x, p, q1, q2, _⟩ := dsAt k i e3
        rw [es] at q2
        cases q2
        exact ho j k n e2 q1
    · by_cases hj : j ∈ dst
      · obtain ⟨j', ej⟩ := List.getElem?_of_mem hj
        obtain ⟨k, e2, e3⟩ := dIo j' j ej
        obtain ⟨x, p, _, _, q⟩ := dsAt k j e3
        exact ⟨p, q⟩
      · rw [(put_get (s := ps) c5 (by rw [lo, lenD])).2 j hj] at e
        exact ⟨q, e⟩
    · subst z
      have : dst = [] := by cases dst with
        | nil => rfl
        | cons a as => cases lenD
      subst this
      exact ⟨by simp [putOuts], fr.up⟩
  | exc x =>
    rw [eP] at r
    obtain ⟨h', e1, fr, en⟩ := r
    refine ⟨h', e1, ⟨fun n z1 z2 => ?_, Nat.le_trans st.nxt fr.1⟩, en⟩
    rw [fr.2 n (Nat.lt_of_lt_of_le z1 st.nxt) fun k hk ek => ?_]
    · exact st.frm n z1 z2
    · obtain ⟨i, ei, hi⟩ := ioS k hk
      obtain ⟨d', p', q1, q2, q3, q4⟩ := look k (some i) ei
      rw [List.getElem?_append_left (by have := get_lt ei; omega), q1] at ek
      cases ek
      obtain ⟨a, _⟩ := st.sep i n p' hi q4 q3
      rcases a with a | a
      · exact z2 a
      · omega
  | bad => exact trivial
theorem sim_call {io : List Nat} {dst : List Nat} (S : SimF np io rd false F P) (hc : callOk T.K io rd sh dst = true) (hd : nrs dv = true) (hb : b = true → io = []) (ha : SimL b T sh ma qA) : Sim b T (mCall np F dv ma) (pCall np P dv sh dst qA) := fun Y s ps h st => by
  have r := ha Y s ps h st
  show RelE b T Y s ps h ((ma s h).bind _) ((qA ps).bind _)
  cases e : qA ps with
  | ok es ps1 =>
    rw [e] at r
    obtain ⟨ds, h1, e1, lr, st1, q⟩ := r
    rw [e1]
    refine RelE.from q ?_
    show RelE b T Y s ps1 h1 (if ds.length + dv.length = np then F (ds ++ dv) h1 else .bad) (match lateS sh es ps1 with
      | some es => if es.length + dv.length = np then (match P (es ++ dv) with
        | .ok d o => .ok d (putOuts dst o ps1)
        | .exc e => .exc e
        | .bad => .bad) else .bad
      | none => .bad)
    cases el : lateS sh es ps1 with
    | none => exact trivial
    | some fs =>
      obtain ⟨l1, l2, _⟩ := late_get lr el
      simp only
      by_cases hl : fs.length + dv.length = np
      · rw [if_pos hl, if_pos (by omega)]
        have c := call_core (dst := dst) S hc st1 lr el hl hd
        cases eP : P (fs ++ dv) with
        | ok p o =>
          rw [eP] at c
          obtain ⟨d, h', f1, f2, _, f3, _, f4, _⟩ := c
          obtain ⟨rfl, nd⟩ := f4 rfl
          exact ⟨h', f1, nd, f2, fun z => f3 (hb z)⟩
        | exc x =>
          rw [eP] at c
          exact c
        | bad => exact trivial
      · rw [if_neg hl]
        exact trivial
  | exc x =>
    rw [e] at r
    obtain ⟨h2, e1, q⟩ := r
    rw [e1]
    exact ⟨h2, rfl, q⟩
  | bad => trivial
/-- .. that hands back a new list -/
theorem sh_call {io : List Nat} {dst : List Nat} (S : SimF np io rd true F P) (hc : callOk T.K io rd sh dst = true) (hd : nrs dv = true) (hb : b = true → io = []) (ha : SimL true T sh ma qA) : SimH b T (mCall np F dv ma) (pCall np P dv sh dst qA) := fun Y s ps h st => by
  have r := ha Y s ps h st
  show RelH b T Y s ps h ((ma s h).bind _) ((qA ps).bind _)
  cases e : qA ps with
  | ok es ps1 =>
    rw [e] at r
    obtain ⟨ds, h1, e1, lr, st1, q⟩ := r
    rw [e1]
    obtain ⟨rfl, u⟩ := q rfl
    refine RelH.from (fun _ => ⟨rfl, u⟩) ?_
    show RelH b T Y s ps1 h1 (if ds.length + dv.length = np then F (ds ++ dv) h1 else .bad) (match lateS sh es ps1 with
      | some es => if es.length + dv.length = np then (match P (es ++ dv) with
        | .ok d o => .ok d (putOuts dst o ps1)
        | .exc e => .exc e
        | .bad => .bad) else .bad
      | none => .bad)
    cases el : lateS sh es ps1 with
    | none => exact trivial
    | some fs =>
      obtain ⟨l1, l2, _⟩ := late_get lr el
      simp only
      by_cases hl : fs.length + dv.length = np
      · rw [if_pos hl, if_pos (by omega)]
        have c := call_core (dst := dst) S hc st1 lr el hl hd
        cases eP : P (fs ++ dv) with
        | ok p o =>
          rw [eP] at c
          obtain ⟨d, h', f1, f2, fo, f3, f5, _, f4⟩ := c
          obtain ⟨n, xs, rfl, z1, z2, z3, rfl, z4⟩ := f4 rfl
          refine ⟨n, xs, h', f1, rfl, ⟨z4, z2, z3, Nat.le_trans st1.nxt z1, fun j q ej => ?_⟩, f2, fun z => let ⟨g1, g2⟩ := f3 (hb z); ⟨g1, g2, z1⟩⟩
          intro em
          obtain ⟨q', ej'⟩ := fo j q ej
          obtain ⟨d2, e2, rv⟩ := st1.rv ej'
          rw [em] at e2
          cases e2
          rcases rv with ⟨rfl, nn⟩ | ⟨m, zs, y1, y2, _⟩
          · cases nn
          · cases y1
            omega
        | exc x =>
          rw [eP] at c
          exact c
        | bad => exact trivial
      · rw [if_neg hl]
        exact trivial
  | exc x =>
    rw [e] at r
    obtain ⟨h2, e1, q⟩ := r
    rw [e1]
    exact ⟨h2, rfl, q⟩
  | bad => trivial
end
end Tb
end

section
set_option maxHeartbeats 4000000
namespace Tb
open PySem PySem.Spec PyProof.Rows L2
/-! ## the operators -/
section
variable {h : MH} {d p d' p' : D}
theorem Rv.toD (rv : Rv h d p) : toD h d = toD MH.zero p := by
  rcases rv with ⟨rfl, n⟩ | ⟨m, zs, rfl, _, g, rfl, nz⟩
  · cases d <;> first | rfl | cases n
  · simp only [Tb.toD, g]
    rfl
theorem Rv.lstE (rv : Rv h d p) : lstOf h d = lstOf MH.zero p := by
  rcases rv with ⟨rfl, n⟩ | ⟨m, zs, rfl, _, g, rfl, nz⟩
  · cases d <;> first | rfl | cases n
  · simp only [lstOf, g]
theorem Rv.seqE (rv : Rv h d p) : seqOf h d = seqOf MH.zero p := by
  rcases rv with ⟨rfl, n⟩ | ⟨m, zs, rfl, _, g, rfl, nz⟩
  · cases d <;> first | rfl | cases n
  · simp only [seqOf, lstOf, g]
theorem Rv.kindE (rv : Rv h d p) : kindOf h d = kindOf MH.zero p := by
  rcases rv with ⟨rfl, n⟩ | ⟨m, zs, rfl, _, g, rfl, nz⟩
  · cases d <;> first | rfl | cases n
  · simp only [kindOf, g]
/-- the same, or a list -/
theorem Rv.two (rv : Rv h d p) : (d = p ∧ p.nr = true) ∨ ∃ n xs, d = .ref n ∧ p = .lst xs ∧ lstOf h d = some xs ∧ nrs xs = true := by
  rcases rv with ⟨rfl, n⟩ | ⟨m, zs, rfl, _, g, rfl, nz⟩
  · exact .inl ⟨rfl, n⟩
  · exact .inr ⟨m, zs, rfl, rfl, by simp only [lstOf, g], nz⟩
theorem nrs_rep {xs : List D} (hx : nrs xs = true) (n : Nat) : nrs (List.replicate n xs).flatten = true := nrs_iff.mpr fun x hm => by
  obtain ⟨l, hl, hx'⟩ := List.mem_flatten.mp hm
  rw [(List.mem_replicate.mp hl).2] at hx'
  exact nrs_iff.mp hx x hx'
theorem nrs_rev {xs : List D} (hx : nrs xs = true) : nrs xs.reverse = true := nrs_iff.mpr fun x hm => nrs_iff.mp hx x (List.mem_reverse.mp hm)
theorem Rv.int {i : Int} (r : Rv h d (.int i)) : d = .int i := by
  rcases r.two with ⟨rfl, _⟩ | ⟨_, _, _, z, _⟩
  · rfl
  · cases z
theorem Rv.str {i : Str} (r : Rv h d (.str i)) : d = .str i := by
  rcases r.two with ⟨rfl, _⟩ | ⟨_, _, _, z, _⟩
  · rfl
  · cases z
theorem Rv.bl {i : Bool} (r : Rv h d (.bl i)) : d = .bl i := by
  rcases r.two with ⟨rfl, _⟩ | ⟨_, _, _, z, _⟩
  · rfl
  · cases z
theorem Rv.non (r : Rv h d .non) : d = .non := by
  rcases r.two with ⟨rfl, _⟩ | ⟨_, _, _, z, _⟩
  · rfl
  · cases z
theorem Rv.tup {xs : List D} (r : Rv h d (.tup xs)) : d = .tup xs ∧ nrs xs = true := by
  rcases r.two with ⟨rfl, z⟩ | ⟨_, _, _, z, _⟩
  · exact ⟨rfl, z⟩
  · cases z
theorem Rv.scr {xs : List Int} (r : Rv h d (.scr xs)) : d = .scr xs := by
  rcases r.two with ⟨rfl, _⟩ | ⟨_, _, _, z, _⟩
  · rfl
  · cases z
theorem Rv.raw {u : V} (r : Rv h d (.raw u)) : d = .raw u := by
  rcases r.two with ⟨rfl, _⟩ | ⟨_, _, _, z, _⟩
  · rfl
  · cases z
theorem ok_opMul : OpOk opMul := by
  refine ⟨fun h d p d' p' a hz r1 r2 e => ?_, fun h d p d' p' e hz r1 r2 => ?_⟩
  · unfold opMul at e
    split at e
    · obtain rfl := r1.int
      obtain rfl := r2.int
      split at e
      · rename_i hz
        cases e
        exact ⟨if_pos hz, rfl⟩
      · cases e
    · cases e
  · unfold opMul
    split
    · split <;> simp
    · simp
theorem ok_opDiv : OpOk opDiv := by
  refine ⟨fun h d p d' p' a hz r1 r2 e => ?_, fun h d p d' p' e hz r1 r2 => ?_⟩
  · unfold opDiv at e
    split at e
    · obtain rfl := r1.int
      obtain rfl := r2.int
      split at e
      · rename_i hz
        cases e
        exact ⟨if_pos hz, rfl⟩
      · cases e
    · cases e
  · unfold opDiv
    split
    · split <;> simp
    · simp
theorem ok_opMod : OpOk opMod := by
  refine ⟨fun h d p d' p' a hz r1 r2 e => ?_, fun h d p d' p' e hz r1 r2 => ?_⟩
  · unfold opMod at e
    split at e
    · obtain rfl := r1.int
      obtain rfl := r2.int
      split at e
      · rename_i hz
        cases e
        exact ⟨if_pos hz, rfl⟩
      · cases e
    · cases e
  · unfold opMod
    split
    · split <;> simp
    · simp
theorem ok_opPow : OpOk opPow := by
  refine ⟨fun h d p d' p' a hz r1 r2 e => ?_, fun h d p d' p' e hz r1 r2 => ?_⟩
  · unfold opPow at e
    split at e
    · obtain rfl := r1.int
      obtain rfl := r2.int
      split at e
      · rename_i hz
        cases e
        exact ⟨if_pos hz, rfl⟩
      · cases e
    · cases e
  · unfold opPow
    split
    · split <;> simp
    · simp
theorem ok_opSub : OpOk opSub := by
  refine ⟨fun h d p d' p' a hz r1 r2 e => ?_, fun h d p d' p' e hz r1 r2 => ?_⟩
  · unfold opSub at e
    split at e
    · obtain rfl := r1.int
      obtain rfl := r2.int
      cases e
      exact ⟨rfl, rfl⟩
    · obtain rfl := r1.bl
      obtain rfl := r2.int
      cases e
      exact ⟨rfl, rfl⟩
    · cases e
  · unfold opSub
    split <;> simp
theorem ok_iopSub : OpOk iopSub := by
  refine ⟨fun h d p d' p' a hz r1 r2 e => ?_, fun h d p d' p' e hz r1 r2 => ?_⟩
  · unfold iopSub at e
    split at e
    · obtain rfl := r1.int
      obtain rfl := r2.int
      cases e
      exact ⟨rfl, rfl⟩
    · cases e
  · unfold iopSub
    split <;> simp
theorem ok_opLe : OpOk opLe := by
  refine ⟨fun h d p d' p' a hz r1 r2 e => ?_, fun h d p d' p' e hz r1 r2 => ?_⟩
  · unfold opLe at e
    split at e
    · obtain rfl := r1.int
      obtain rfl := r2.int
      cases e
      exact ⟨rfl, rfl⟩
    · cases e
  · unfold opLe
    split <;> simp
theorem ok_opGt : OpOk opGt := by
  refine ⟨fun h d p d' p' a hz r1 r2 e => ?_, fun h d p d' p' e hz r1 r2 => ?_⟩
  · unfold opGt at e
    split at e
    · obtain rfl := r1.int
      obtain rfl := r2.int
      cases e
      exact ⟨rfl, rfl⟩
    · cases e
  · unfold opGt
    split <;> simp
theorem ok_opGe : OpOk opGe := by
  refine ⟨fun h d p d' p' a hz r1 r2 e => ?_, fun h d p d' p' e hz r1 r2 => ?_⟩
  · unfold opGe at e
    split at e
    · obtain rfl := r1.int
      obtain rfl := r2.int
      cases e
      exact ⟨rfl, rfl⟩
    · cases e
  · unfold opGe
    split <;> simp
theorem ok_opAdd : OpOk opAdd := by
  refine ⟨fun h d p d' p' a hz r1 r2 e => ?_, fun h d p d' p' e hz r1 r2 => ?_⟩
  · unfold opAdd at e
    split at e
    · obtain rfl := r1.int
      obtain rfl := r2.int
      cases e
      exact ⟨rfl, rfl⟩
    · obtain rfl := r1.str
      obtain rfl := r2.str
      split at e
      · rename_i hz
        cases e
        exact ⟨if_pos hz, rfl⟩
      · cases e
    · obtain ⟨rfl, n1⟩ := r1.tup
      obtain ⟨rfl, n2⟩ := r2.tup
      split at e
      · rename_i hz
        cases e
        exact ⟨if_pos hz, nrs_append n1 n2⟩
      · cases e
    · obtain rfl := r1.int
      obtain rfl := r2.bl
      cases e
      exact ⟨rfl, rfl⟩
    · obtain rfl := r1.bl
      obtain rfl := r2.int
      cases e
      exact ⟨rfl, rfl⟩
    · split at e
      · rename_i xs ys e1 e2
        obtain ⟨q1, n1, z1⟩ := r1.lst e1
        obtain ⟨q2, n2, z2⟩ := r2.lst e2
        split at e
        · rename_i hz
          cases e
          subst z1
          subst z2
          rcases r1.two with ⟨rfl, _⟩ | ⟨m1, xs1, rfl, _, _, _⟩ <;> rcases r2.two with ⟨rfl, _⟩ | ⟨m2, xs2, rfl, _, _, _⟩ <;> exact ⟨by simp only [opAdd, q1, q2, if_pos hz], nrs_append n1 n2⟩
        · cases e
      · cases e
  · unfold opAdd
    split <;> (try split) <;> (try split) <;> simp
theorem ok_iopAdd : OpOk iopAdd := by
  refine ⟨fun h d p d' p' a hz r1 r2 e => ?_, fun h d p d' p' e hz r1 r2 => ?_⟩
  · unfold iopAdd at e
    split at e
    · obtain rfl := r1.int
      obtain rfl := r2.int
      cases e
      exact ⟨rfl, rfl⟩
    · obtain rfl := r1.str
      obtain rfl := r2.str
      split at e
      · rename_i hz
        cases e
        exact ⟨if_pos hz, rfl⟩
      · cases e
    · simp only [MH.zero] at e
      cases e
    · cases e
  · unfold iopAdd
    split <;> (try split) <;> (try split) <;> simp
theorem ok_opEq : OpOk opEq := by
  refine ⟨fun h d p d' p' a hz r1 r2 e => ?_, fun h d p d' p' e hz r1 r2 => ?_⟩
  · unfold opEq at e
    split at e
    · obtain rfl := r1.str
      obtain rfl := r2.str
      cases e
      exact ⟨rfl, rfl⟩
    · rename_i hn
      split at e
      · rename_i x y e1 e2
        rw [← r1.toD] at e1
        rw [← r2.toD] at e2
        split at e
        · rename_i hz
          cases e
          refine ⟨?_, rfl⟩
          unfold opEq
          split
          · rcases r1.two with ⟨rfl, _⟩ | ⟨m1, xs1, z, _⟩
            · rcases r2.two with ⟨rfl, _⟩ | ⟨m2, xs2, z, _⟩
              · exact absurd rfl (hn _ _ rfl)
              · cases z
            · cases z
          · simp only [e1, e2, if_pos hz]
        · cases e
      · cases e
  · unfold opEq
    split <;> (try split) <;> (try split) <;> simp
theorem ok_opNe : OpOk opNe := by
  refine ⟨fun h d p d' p' a hz r1 r2 e => ?_, fun h d p d' p' e hz r1 r2 => ?_⟩
  · unfold opNe at e
    split at e
    · obtain rfl := r1.str
      obtain rfl := r2.str
      cases e
      exact ⟨rfl, rfl⟩
    · rename_i hn
      split at e
      · rename_i x y e1 e2
        rw [← r1.toD] at e1
        rw [← r2.toD] at e2
        split at e
        · rename_i hz
          cases e
          refine ⟨?_, rfl⟩
          unfold opNe
          split
          · rcases r1.two with ⟨rfl, _⟩ | ⟨m1, xs1, z, _⟩
            · rcases r2.two with ⟨rfl, _⟩ | ⟨m2, xs2, z, _⟩
              · exact absurd rfl (hn _ _ rfl)
              · cases z
            · cases z
          · simp only [e1, e2, if_pos hz]
        · cases e
      · cases e
  · unfold opNe
    split <;> (try split) <;> (try split) <;> simp
theorem ok_opLt : OpOk opLt := by
  refine ⟨fun h d p d' p' a hz r1 r2 e => ?_, fun h d p d' p' e hz r1 r2 => ?_⟩
  · unfold opLt at e
    split at e
    · obtain rfl := r1.int
      obtain rfl := r2.int
      cases e
      exact ⟨rfl, rfl⟩
    · obtain rfl := r1.str
      obtain rfl := r2.str
      cases e
      exact ⟨rfl, rfl⟩
    · obtain ⟨rfl, _⟩ := r1.tup
      obtain ⟨rfl, _⟩ := r2.tup
      split at e
      · rename_i e1 e2
        cases e
        exact ⟨by simp only [opLt, e1, e2], rfl⟩
      · cases e
    · cases e
  · unfold opLt
    split <;> (try split) <;> simp
theorem isNon_of (r : Rv h d p) (e : isNon p = some b) : isNon d = some b := by
  rcases r.two with ⟨rfl, _⟩ | ⟨m1, xs1, rfl, rfl, _⟩
  · exact e
  · exact e
theorem ok_opIs : OpOk opIs := by
  refine ⟨fun h d p d' p' a hz r1 r2 e => ?_, fun h d p d' p' e hz r1 r2 => ?_⟩
  · unfold opIs at e
    split at e
    · obtain rfl := r1.bl
      obtain rfl := r2.bl
      cases e
      exact ⟨rfl, rfl⟩
    · obtain rfl := r2.non
      split at e
      · rename_i e1
        cases e
        refine ⟨?_, rfl⟩
        unfold opIs
        split
        · rename_i z
          cases z
        · simp only [isNon_of r1 e1]
        · simp_all
        · simp_all
      · cases e
    · rename_i hn
      obtain rfl := r2.bl
      split at e
      · rename_i e1
        cases e
        refine ⟨?_, rfl⟩
        have hd : ∀ c, d ≠ .bl c := fun c z => by
          subst z
          rcases r1.two with ⟨z, _⟩ | ⟨_, _, z, _⟩
          · exact hn c z.symm
          · cases z
        unfold opIs
        split
        · exact absurd rfl (hd _)
        · rename_i z
          cases z
        · simp only [isNon_of r1 e1]
        · simp_all
      · cases e
    · cases e
  · unfold opIs
    split <;> (try split) <;> simp
theorem ok_opIsNot : OpOk opIsNot := by
  refine ⟨fun h d p d' p' a hz r1 r2 e => ?_, fun h d p d' p' e hz r1 r2 => ?_⟩
  · unfold opIsNot at e
    split at e
    · obtain rfl := r1.bl
      obtain rfl := r2.bl
      cases e
      exact ⟨rfl, rfl⟩
    · obtain rfl := r2.non
      split at e
      · rename_i e1
        cases e
        refine ⟨?_, rfl⟩
        unfold opIsNot
        split
        · rename_i z
          cases z
        · simp only [isNon_of r1 e1]
        · simp_all
        · simp_all
      · cases e
    · rename_i hn
      obtain rfl := r2.bl
      split at e
      · rename_i e1
        cases e
        refine ⟨?_, rfl⟩
        have hd : ∀ c, d ≠ .bl c := fun c z => by
          subst z
          rcases r1.two with ⟨z, _⟩ | ⟨_, _, z, _⟩
          · exact hn c z.symm
          · cases z
        unfold opIsNot
        split
        · exact absurd rfl (hd _)
        · rename_i z
          cases z
        · simp only [isNon_of r1 e1]
        · simp_all
      · cases e
    · cases e
  · unfold opIsNot
    split <;> (try split) <;> simp
theorem ok_opIn {neg : Bool} : OpOk (opIn neg) := by
  refine ⟨fun h d p d' p' a hz r1 r2 e => ?_, fun h d p d' p' e hz r1 r2 => ?_⟩
  · unfold opIn at e
    split at e
    · obtain rfl := r1.str
      obtain rfl := r2.str
      cases e
      exact ⟨rfl, rfl⟩
    · rename_i hn
      split at e
      · rename_i x y e1 e2
        rw [← r1.toD] at e1
        rw [← r2.seqE] at e2
        split at e
        · rename_i hz
          cases e
          refine ⟨?_, rfl⟩
          unfold opIn
          split
          · rcases r1.two with ⟨rfl, _⟩ | ⟨m1, xs1, z, _⟩
            · rcases r2.two with ⟨rfl, _⟩ | ⟨m2, xs2, z, _⟩
              · exact absurd rfl (hn _ _ rfl)
              · cases z
            · cases z
          · simp only [e1, e2, if_pos hz]
        · cases e
      · cases e
  · unfold opIn
    split <;> (try split) <;> (try split) <;> simp
theorem ok_opIx : OpOk opIx := by
  refine ⟨fun h d p d' p' a hz r1 r2 e => ?_, fun h d p d' p' e hz r1 r2 => ?_⟩
  · unfold opIx at e
    split at e
    · obtain rfl := r1.str
      obtain rfl := r2.int
      split at e
      · rename_i hz
        split at e
        · rename_i e1
          cases e
          refine ⟨?_, rfl⟩
          simp only [opIx, if_pos hz, e1]
        · cases e
      · cases e
    · rename_i hn
      obtain rfl := r2.int
      split at e
      · rename_i xs e1
        obtain ⟨q1, q2⟩ := r1.seq e1
        split at e
        · rename_i e2
          cases e
          refine ⟨?_, nrs_iff.mp q2 _ (atI_mem e2)⟩
          unfold opIx
          split
          · rename_i z _
            rcases r1.two with ⟨rfl, _⟩ | ⟨m1, xs1, z, _⟩
            · exact absurd rfl (hn _)
            · cases z
          · rename_i i0 _ z
            cases z
            simp only [q1, e2]
          · rename_i z _
            exact absurd rfl (z _)
        · cases e
      · cases e
    · cases e
  · unfold opIx
    split <;> (try split) <;> (try split) <;> simp
theorem ok_opRep : OpOk opRep := by
  refine ⟨fun h d p d' p' a hz r1 r2 e => ?_, fun h d p d' p' e hz r1 r2 => ?_⟩
  · unfold opRep at e
    split at e
    · obtain rfl := r1.int
      obtain rfl := r2.int
      exact ok_opMul.ok h _ _ _ _ a hz r1 r2 e
    · obtain rfl := r1.str
      obtain rfl := r2.int
      split at e
      · rename_i hz
        cases e
        exact ⟨if_pos hz, rfl⟩
      · cases e
    · obtain ⟨rfl, n1⟩ := r1.tup
      obtain rfl := r2.int
      split at e
      · rename_i hz
        cases e
        exact ⟨if_pos hz, nrs_rep n1 _⟩
      · cases e
    · rename_i hn1 hn2
      obtain rfl := r2.int
      split at e
      · rename_i xs e1
        obtain ⟨q1, q2, z1⟩ := r1.lst e1
        split at e
        · rename_i hz
          cases e
          subst z1
          rcases r1.two with ⟨rfl, _⟩ | ⟨m1, xs1, rfl, _, _, _⟩ <;> exact ⟨by simp only [opRep, q1, if_pos hz], nrs_rep q2 _⟩
        · cases e
      · cases e
    · cases e
  · unfold opRep
    split <;> (try split) <;> (try split) <;> (try simp)
    exact ok_opMul.ne h _ _ _ _ e hz r1 r2
theorem ok_opNeg : F1Ok opNeg := by
  refine ⟨fun h d p a hz r e => ?_, fun h d p e hz r => ?_⟩
  · unfold opNeg at e
    split at e
    · obtain rfl := r.int
      cases e
      exact ⟨rfl, rfl⟩
    · obtain rfl := r.bl
      cases e
      exact ⟨rfl, rfl⟩
    · cases e
  · unfold opNeg
    split <;> simp
theorem ok_opRev : F1Ok opRev := by
  refine ⟨fun h d p a hz r e => ?_, fun h d p e hz r => ?_⟩
  · unfold opRev at e
    split at e
    · obtain ⟨rfl, n⟩ := r.tup
      cases e
      exact ⟨rfl, nrs_rev n⟩
    · split at e
      · rename_i xs e1
        obtain ⟨q1, q2, z1⟩ := r.lst e1
        cases e
        subst z1
        rcases r.two with ⟨rfl, _⟩ | ⟨m1, xs1, rfl, _, _, _⟩ <;> exact ⟨by simp only [opRev, q1], nrs_rev q2⟩
      · cases e
  · unfold opRev
    split <;> (try split) <;> simp
theorem ok_truth : F1Ok truth := by
  refine ⟨fun h d p a hz r e => ?_, fun h d p e hz r => ?_⟩
  · unfold truth at e
    split at e
    · obtain rfl := r.non
      cases e
      exact ⟨rfl, trivial⟩
    · obtain rfl := r.bl
      cases e
      exact ⟨rfl, trivial⟩
    · obtain rfl := r.int
      cases e
      exact ⟨rfl, trivial⟩
    · obtain rfl := r.str
      split at e
      · rename_i hz
        cases e
        exact ⟨if_pos hz, trivial⟩
      · cases e
    · rename_i n1 n2 n3 n4
      split at e
      · rename_i xs e1
        obtain ⟨q1, q2⟩ := r.seq e1
        cases e
        refine ⟨?_, trivial⟩
        rcases r.two with ⟨rfl, _⟩ | ⟨m1, xs1, rfl, _, _, _⟩
        · cases d <;> first | (exact absurd rfl n1; done) | (exact absurd rfl (n2 _); done) | (exact absurd rfl (n3 _); done) | (exact absurd rfl (n4 _); done) | (simp only [truth, q1])
        · simp only [truth, q1]
      · cases e
  · unfold truth
    split <;> (try split) <;> simp
theorem ok_opCut : CutOk opCut := by
  refine ⟨fun h d p l u a hz r e => ?_, fun h d p l u e hz r => ?_⟩
  · unfold opCut at e
    split at e
    · obtain rfl := r.str
      split at e
      · rename_i hz
        cases e
        exact ⟨if_pos hz, rfl⟩
      · cases e
    · obtain ⟨rfl, n⟩ := r.tup
      cases e
      exact ⟨rfl, nrs_cut n⟩
    · obtain rfl := r.scr
      cases e
      exact ⟨rfl, nrs_cut (nrs_iff.mpr fun x hx => by
        obtain ⟨j, _, rfl⟩ := List.mem_map.mp hx
        rfl)⟩
    · split at e
      · rename_i xs e1
        obtain ⟨q1, q2, z1⟩ := r.lst e1
        cases e
        subst z1
        rcases r.two with ⟨rfl, _⟩ | ⟨m1, xs1, rfl, _, _, _⟩ <;> exact ⟨by simp only [opCut, q1], nrs_cut q2⟩
      · cases e
  · unfold opCut
    split <;> (try split) <;> simp
theorem RvL.one {ds : List D} (r : RvL h ds [p]) : ∃ d, ds = [d] ∧ Rv h d p := by
  match ds, r with
  | [d], r => exact ⟨d, rfl, r.1⟩
  | [], r => exact r.elim
  | _ :: _ :: _, r => exact r.2.elim
theorem RvL.pair {ds : List D} (r : RvL h ds [p, p']) : ∃ d d', ds = [d, d'] ∧ Rv h d p ∧ Rv h d' p' := by
  match ds, r with
  | [d, d'], r => exact ⟨d, d', rfl, r.1, r.2.1⟩
  | [], r => exact r.elim
  | [_], r => exact r.2.elim
  | _ :: _ :: _ :: _, r => exact r.2.2.elim
theorem seq_look (r : Rv h d p) {β : Type} {f : List D → Option β} {x : β} (e : (seqOf MH.zero p).bind f = some x) : (seqOf h d).bind f = some x := by rw [r.seqE]; exact e
theorem ok_bLen : FbOk bLen := by
  refine ⟨fun h ds ps a hz r e => ?_, fun h ds ps e hz r => ?_⟩
  · unfold bLen at e
    split at e
    · obtain ⟨d, rfl, rv⟩ := r.one
      obtain rfl := rv.str
      split at e
      · rename_i hz
        cases e
        exact ⟨if_pos hz, rfl⟩
      · cases e
    · rename_i hn
      obtain ⟨d, rfl, rv⟩ := r.one
      split at e
      · rename_i xs e1
        obtain ⟨q1, q2⟩ := rv.seq e1
        cases e
        refine ⟨?_, rfl⟩
        unfold bLen
        split
        · rename_i z
          cases z
          rcases rv.two with ⟨rfl, _⟩ | ⟨m1, xs1, z, _⟩
          · exact absurd rfl (hn _)
          · cases z
        · rename_i z
          cases z
          simp only [q1]
        · rename_i z
          exact absurd rfl (z _)
      · cases e
    · cases e
  · unfold bLen
    split <;> (try split) <;> simp
theorem ok_bTuple : FbOk bTuple := by
  refine ⟨fun h ds ps a hz r e => ?_, fun h ds ps e hz r => ?_⟩
  · unfold bTuple at e
    split at e
    · obtain ⟨d, rfl, rv⟩ := r.one
      split at e
      · rename_i xs e1
        obtain ⟨q1, q2⟩ := rv.seq e1
        cases e
        exact ⟨by simp only [bTuple, q1], q2⟩
      · cases e
    · cases e
  · unfold bTuple
    split <;> (try split) <;> simp
theorem ok_bList : FbOk bList := by
  refine ⟨fun h ds ps a hz r e => ?_, fun h ds ps e hz r => ?_⟩
  · unfold bList at e
    split at e
    · obtain ⟨d, rfl, rv⟩ := r.one
      split at e
      · rename_i xs e1
        obtain ⟨q1, q2⟩ := rv.seq e1
        cases e
        exact ⟨by simp only [bList, q1], q2⟩
      · cases e
    · cases e
  · unfold bList
    split <;> (try split) <;> simp
theorem ok_bRepr : FbOk bRepr := by
  refine ⟨fun h ds ps a hz r e => ?_, fun h ds ps e hz r => ?_⟩
  · unfold bRepr at e
    split at e
    · obtain ⟨d, rfl, rv⟩ := r.one
      split at e
      · rename_i x e1
        rw [← rv.toD] at e1
        split at e
        · rename_i hz
          cases e
          exact ⟨by simp only [bRepr, e1, if_pos hz], rfl⟩
        · cases e
      · cases e
    · cases e
  · unfold bRepr
    split <;> (try split) <;> (try split) <;> simp
theorem ok_bAbs : FbOk bAbs := by
  refine ⟨fun h ds ps a hz r e => ?_, fun h ds ps e hz r => ?_⟩
  · unfold bAbs at e
    split at e
    · obtain ⟨d, rfl, rv⟩ := r.one
      obtain rfl := rv.int
      cases e
      exact ⟨rfl, rfl⟩
    · cases e
  · unfold bAbs
    split <;> simp
theorem ok_bInt : FbOk bInt := by
  refine ⟨fun h ds ps a hz r e => ?_, fun h ds ps e hz r => ?_⟩
  · unfold bInt at e
    split at e
    · obtain ⟨d, rfl, rv⟩ := r.one
      obtain rfl := rv.int
      cases e
      exact ⟨rfl, rfl⟩
    · obtain ⟨d, rfl, rv⟩ := r.one
      obtain rfl := rv.bl
      cases e
      exact ⟨rfl, rfl⟩
    · cases e
  · unfold bInt
    split <;> simp
theorem ok_bStr : FbOk bStr := by
  refine ⟨fun h ds ps a hz r e => ?_, fun h ds ps e hz r => ?_⟩
  · unfold bStr at e
    split at e
    · obtain ⟨d, rfl, rv⟩ := r.one
      obtain rfl := rv.int
      split at e
      · rename_i hz
        cases e
        exact ⟨if_pos hz, rfl⟩
      · cases e
    · obtain ⟨d, rfl, rv⟩ := r.one
      obtain rfl := rv.str
      cases e
      exact ⟨rfl, rfl⟩
    · cases e
  · unfold bStr
    split <;> (try split) <;> simp
theorem ok_bOrd : FbOk bOrd := by
  refine ⟨fun h ds ps a hz r e => ?_, fun h ds ps e hz r => ?_⟩
  · unfold bOrd at e
    split at e
    · obtain ⟨d, rfl, rv⟩ := r.one
      obtain rfl := rv.str
      split at e
      · rename_i hz
        cases e
        exact ⟨if_pos hz, rfl⟩
      · cases e
    · cases e
  · unfold bOrd
    split <;> (try split) <;> simp
theorem strsOf_nr {xs : List D} {ss : List Str} : strsOf xs = some ss → True := fun _ => trivial
theorem nrs_strs {ss : List Str} : nrs (ss.map .str) = true := nrs_iff.mpr fun x hx => by
  obtain ⟨j, _, rfl⟩ := List.mem_map.mp hx
  rfl
theorem nrs_ints {ss : List Int} : nrs (ss.map .int) = true := nrs_iff.mpr fun x hx => by
  obtain ⟨j, _, rfl⟩ := List.mem_map.mp hx
  rfl
theorem ok_bSorted : FbOk bSorted := by
  refine ⟨fun h ds ps a hz r e => ?_, fun h ds ps e hz r => ?_⟩
  · unfold bSorted at e
    split at e
    · obtain ⟨d, rfl, rv⟩ := r.one
      rw [← rv.lstE] at e
      split at e
      · rename_i xs e1
        split at e
        · rename_i ss e2
          split at e
          · rename_i hz
            cases e
            exact ⟨by simp only [bSorted, e1, e2, if_pos hz], nrs_strs⟩
          · cases e
        · rename_i e2
          split at e
          · rename_i ns e3
            cases e
            exact ⟨by simp only [bSorted, e1, e2, e3], nrs_ints⟩
          · cases e
      · cases e
    · cases e
  · unfold bSorted
    split <;> (try split) <;> (try split) <;> (try split) <;> simp
theorem ok_bMax : FbOk bMax := by
  refine ⟨fun h ds ps a hz r e => ?_, fun h ds ps e hz r => ?_⟩
  · unfold bMax at e
    split at e
    · obtain ⟨d, d', rfl, r1, r2⟩ := r.pair
      obtain rfl := r1.int
      obtain rfl := r2.int
      cases e
      exact ⟨rfl, rfl⟩
    · obtain ⟨d, rfl, rv⟩ := r.one
      split at e
      · rename_i e1
        have e2 := seq_look rv e1
        cases e
        exact ⟨by simp only [bMax, e2], rfl⟩
      · cases e
    · cases e
  · unfold bMax
    split <;> (try split) <;> simp
theorem ok_bMin : FbOk bMin := by
  refine ⟨fun h ds ps a hz r e => ?_, fun h ds ps e hz r => ?_⟩
  · unfold bMin at e
    split at e
    · obtain ⟨d, d', rfl, r1, r2⟩ := r.pair
      obtain rfl := r1.int
      obtain rfl := r2.int
      cases e
      exact ⟨rfl, rfl⟩
    · obtain ⟨d, rfl, rv⟩ := r.one
      split at e
      · rename_i e1
        have e2 := seq_look rv e1
        cases e
        exact ⟨by simp only [bMin, e2], rfl⟩
      · cases e
    · cases e
  · unfold bMin
    split <;> (try split) <;> simp
theorem ok_bSum : FbOk bSum := by
  refine ⟨fun h ds ps a hz r e => ?_, fun h ds ps e hz r => ?_⟩
  · unfold bSum at e
    split at e
    · obtain ⟨d, rfl, rv⟩ := r.one
      split at e
      · rename_i e1
        have e2 := seq_look rv e1
        cases e
        exact ⟨by simp only [bSum, e2], rfl⟩
      · cases e
    · cases e
  · unfold bSum
    split <;> (try split) <;> simp
theorem ok_bAll : FbOk bAll := by
  refine ⟨fun h ds ps a hz r e => ?_, fun h ds ps e hz r => ?_⟩
  · unfold bAll at e
    split at e
    · obtain ⟨d, rfl, rv⟩ := r.one
      split at e
      · rename_i e1
        have e2 := seq_look rv e1
        cases e
        exact ⟨by simp only [bAll, e2], rfl⟩
      · cases e
    · cases e
  · unfold bAll
    split <;> (try split) <;> simp
theorem ok_bAny : FbOk bAny := by
  refine ⟨fun h ds ps a hz r e => ?_, fun h ds ps e hz r => ?_⟩
  · unfold bAny at e
    split at e
    · obtain ⟨d, rfl, rv⟩ := r.one
      split at e
      · rename_i e1
        have e2 := seq_look rv e1
        cases e
        exact ⟨by simp only [bAny, e2], rfl⟩
      · cases e
    · cases e
  · unfold bAny
    split <;> (try split) <;> simp
theorem ok_bIsi : FbOk bIsi := by
  refine ⟨fun h ds ps a hz r e => ?_, fun h ds ps e hz r => ?_⟩
  · unfold bIsi at e
    split at e
    · obtain ⟨d, d', rfl, r1, r2⟩ := r.pair
      obtain rfl := r2.raw
      split at e
      · rename_i e1
        rw [← r1.kindE] at e1
        cases e
        exact ⟨by simp only [bIsi, e1], rfl⟩
      · cases e
    · cases e
  · unfold bIsi
    split <;> (try split) <;> simp
/-! ### changes of lists -/
def gAppend : GM := fun xs ds => match ds with
  | [x] => if xs.length < sizeLine then some (.non, xs ++ [x]) else none
  | _ => none
def gExtend : GM := fun xs ds => match ds with
  | [x] => match lstOf MH.zero x with
    | some ys => if xs.length + ys.length ≤ sizeLine then some (.non, xs ++ ys) else none
    | none => none
  | _ => none
def gPop : GM := fun xs ds => match ds with
  | [.int i] => if -(2 ^ 63) ≤ i ∧ i < 2 ^ 63 then match seqIndex? i xs.length with
      | some k => match xs[k]? with
        | some y => some (y, xs.eraseIdx k)
        | none => none
      | none => none
    else none
  | _ => none
/-- of values alone -/
structure MutV (f : FM) (g : GM) : Prop where
  ok : ∀ h n xs ds r ys, h.get n = some (.lst xs) → nrs xs = true → nrs ds = true → g xs ds = some (r, ys) → f (.ref n) ds h = .ok r (h.set n (.lst ys)) ∧ r.nr = true ∧ nrs ys = true
theorem ok_extend : MutOk lExtend gExtend := by
  refine ⟨fun h n xs ds ps r ys hg nx rv e => ?_⟩
  unfold gExtend at e
  split at e
  · obtain ⟨d, rfl, rv1⟩ := rv.one
    split at e
    · rename_i zs e1
      obtain ⟨q1, q2, _⟩ := rv1.lst e1
      split at e
      · rename_i hz
        cases e
        exact ⟨by simp only [lExtend, hg, q1, if_pos hz], rfl, nrs_append nx q2⟩
      · cases e
    · cases e
  · cases e
theorem nrs_erase {xs : List D} {k : Nat} (hx : nrs xs = true) : nrs (xs.eraseIdx k) = true := nrs_iff.mpr fun x hm => nrs_iff.mp hx x (List.mem_of_mem_eraseIdx hm)
theorem ok_pop : MutOk lPop gPop := by
  refine ⟨fun h n xs ds ps r ys hg nx rv e => ?_⟩
  unfold gPop at e
  split at e
  · obtain ⟨d, rfl, rv1⟩ := rv.one
    obtain rfl := rv1.int
    split at e
    · rename_i hz
      split at e
      · rename_i k e1
        split at e
        · rename_i y e2
          cases e
          exact ⟨by simp only [lPop, hg, if_pos hz, e1, e2], nrs_iff.mp nx _ (List.mem_of_getElem? e2), nrs_erase nx⟩
        · cases e
      · cases e
    · cases e
  · cases e
theorem ok_append : MutV lAppend gAppend := by
  refine ⟨fun h n xs ds r ys hg nx nd e => ?_⟩
  unfold gAppend at e
  split at e
  · split at e
    · rename_i hz
      cases e
      exact ⟨by simp only [lAppend, hg, if_pos hz], rfl, nrs_append nx nd⟩
    · cases e
  · cases e
theorem MutOk.v {f : FM} {g : GM} (o : MutOk f g) : MutV f g := ⟨fun h n xs ds r ys hg nx nd e => o.ok h n xs ds ds r ys hg nx (RvL.refl nd) e⟩
variable {T : SC} {Y : DY} {s ps : Sl} {i : Nat} {ma : MA} {qA : PA}
theorem sim_methv {f : FM} {g : GM} (o : MutV f g) (hi : i ∈ T.K) (ha : Sim false T ma qA) : Sim false T (mMeth "list" f (mVar i) ma) (pMeth g i qA) := fun Y s ps h st => by
  show RelE false T Y s ps h ((mVar i s h).bind _) ((pVar i ps).bind _)
  cases e : pVar i ps with
  | exc x => exact absurd e pVar_exc
  | bad => trivial
  | ok p ps1 =>
    obtain ⟨rfl, ep⟩ := pVar_ok e
    obtain ⟨n, xs, e1, e2, e3, rfl, e5⟩ := st.held hi ep
    have em : mVar i s h = .ok (.ref n) h := by
      unfold mVar
      simp only [e1]
    rw [em]
    show RelE false T Y s _ h (if kindIs "list" (.ref n) h = true then _ else _) _
    rw [if_pos (kind_ref e3)]
    refine RelE.bind (ha Y s _ h st) fun ds ps2 h2 st2 nd => ?_
    split
    · rename_i ys ep2
      obtain ⟨n', zs, f1, f2, f3, f4, f5⟩ := st2.held hi ep2
      cases f4
      rw [e1] at f1
      cases f1
      cases e6 : g ys ds with
      | none => exact trivial
      | some p =>
        obtain ⟨r, ws⟩ := p
        obtain ⟨q1, q2, q3⟩ := o.ok h2 n ys ds r ws f3 f5 nd e6
        exact ⟨_, q1, q2, st2.put hi ep2 e1 q3, fun z => by cases z⟩
    · exact trivial
/-! ### the end of a law -/
theorem tells_of {F : Fn} {P : PF} {rd : List Nat} (S : SimF 1 [] rd false F P) (h : ∀ ns : List Int, ns.length ≤ 63 → ∃ o, P [.scr ns] = .ok (.bl true) o) : Tells F := fun ns hl => by
  obtain ⟨o, e⟩ := h ns hl
  have r := S [.scr ns] [.scr ns] MH.zero (.vals rfl rfl)
  rw [e] at r
  obtain ⟨d, h', e1, _, _, _, z, _⟩ := r
  obtain ⟨rfl, _⟩ := z rfl
  exact ⟨h', e1⟩
end
end Tb
end

section
set_option maxHeartbeats 4000000
namespace Tb
open PySem PySem.Spec PyProof.Rows L2
/-! ## the rules as the printed proofs name them -/
section
variable {b : Bool} {T : SC} {a c : ME} {pa pc : PE} {f : F2} {i : Nat} {ma : MA} {qA : PA} {g : FB}
theorem so_rr (ha : SimR T a pa) (hc : SimR T c pc) (o : OpOk f) : Sim b T (mOp f a c) (pOp f pa pc) := sim_rr ha hc o
theorem so_ee (ha : Sim b T a pa) (hc : Sim b T c pc) (o : OpOk f) : Sim b T (mOp f a c) (pOp f pa pc) := sim_ee ha hc o
theorem so_er (ha : Sim b T a pa) (hc : SimR T c pc) (o : OpOk f) : Sim b T (mOp f a c) (pOp f pa pc) := sim_er ha hc o
theorem so_le (hc : Sim b T c pc) (o : OpOk f) : Sim b T (mOp f (mVar i) c) (pOpL f i pc) := sim_le hc o
theorem s_neg (ha : Sim b T a pa) : Sim b T (mNeg a) (p1 opNeg pa) := sim_1e ha ok_opNeg
theorem s_rev (ha : SimR T a pa) : Sim b T (mRev a) (p1 opRev pa) := sim_1r ha ok_opRev
theorem s_revE (ha : Sim b T a pa) : Sim b T (mRev a) (p1 opRev pa) := sim_1e ha ok_opRev
theorem s_truth (ha : SimR T a pa) : Sim b T (mTruth a) (p1 truth pa) := sim_1r ha ok_truth
theorem s_truthE (ha : Sim b T a pa) : Sim b T (mTruth a) (p1 truth pa) := sim_1e ha ok_truth
theorem s_asB (ha : Sim b T a pa) : Sim b T (mAsB a) (pAsB pa) := sim_asB ha
theorem s_br (ha : SimRA T ma qA) (o : FbOk g) : Sim b T (mCallB g ma) (pCallB g qA) := sim_br ha o
theorem s_be (ha : Sim b T ma qA) (o : FbOk g) : Sim b T (mCallB g ma) (pCallB g qA) := sim_be ha o
theorem s_lc {it : MI} {qi : PI'} {vs : List Nat} {tg : MG} {tt : MT} {el : ME} {qt : PT} {qe : PE} (hi : SimI true T it qi) (htg : TgOk T tg) (ht : Sim true T tt qt) (he : Sim true T el qe) (hF : ∀ v ∈ vs, v ∉ T.Fx) : Sim b T (mLc it vs tg tt el finL) (pLc qi vs tg qt qe) := sim_lc hi htg ht he hF
theorem s_comp {it : MI} {qi : PI'} {vs : List Nat} {tg : MG} {tt : MT} {el : ME} {qt : PT} {qe : PE} (hi : SimI false T it qi) (htg : TgOk T tg) (hin : TgIn vs tg) (ht : Sim false T tt qt) (he : Sim false T el qe) (hK : ∀ v ∈ vs, v ∉ T.K) (hR : ∀ v ∈ vs, v ∉ T.Rd) (hF : ∀ v ∈ vs, v ∉ T.Fx) : Sim false T (mLc it vs tg tt el finL) (pComp qi vs tg qt qe) := sim_comp hi htg hin ht he hK hR hF
/-- with a fuel -/
theorem simF_bad {np : Nat} {io rd : List Nat} {rH : Bool} : SimF np io rd rH (fun _ _ => .bad) (fun _ => .bad) := fun ds ps h A => trivial
end
end Tb
end

section
set_option maxHeartbeats 4000000
namespace Tb
open PySem PySem.Spec PyProof.Rows L2
universe u
/-! ## the heap-free calculus -/
def PR.el {α : Type} {β : Sort u} (r : PR α) (F : α → Sl → β) (g : Ex → β) (b : β) (_ : Bx F := ⟨⟩) : β := match r with
  | .ok a s => F a s
  | .exc e => g e
  | .bad => b
def PZ.el {β : Sort u} (r : PZ) (N B C : Sl → β) (T : D → Sl → β) (g : Ex → β) (b : β) (_ : Bx4 N B C T := ⟨⟩) : β := match r with
  | .nx s => N s
  | .brk s => B s
  | .ct s => C s
  | .ret d s => T d s
  | .exc e => g e
  | .bad => b
section
variable {α γ : Type} {β : Sort u} {F : α → Sl → β} {g : Ex → β} {b : β} {r : PR α} {s : Sl} {N B C : Sl → β} {T : D → Sl → β} {q : PZ}
@[simp ↓] theorem el_ok {a : α} : (PR.ok a s).el F g b = F a s := id rfl
@[simp ↓] theorem el_exc {e : Ex} : (PR.exc e : PR α).el F g b = g e := id rfl
@[simp ↓] theorem el_bad : (PR.bad : PR α).el F g b = b := id rfl
@[simp ↓] theorem zl_nx : (PZ.nx s).el N B C T g b = N s := id rfl
@[simp ↓] theorem zl_brk : (PZ.brk s).el N B C T g b = B s := id rfl
@[simp ↓] theorem zl_ct : (PZ.ct s).el N B C T g b = C s := id rfl
@[simp ↓] theorem zl_ret {d : D} : (PZ.ret d s).el N B C T g b = T d s := id rfl
@[simp ↓] theorem zl_exc {e : Ex} : (PZ.exc e).el N B C T g b = g e := id rfl
@[simp ↓] theorem zl_bad : (PZ.bad).el N B C T g b = b := id rfl
@[simp ↓] theorem el_ite {c : Prop} [Decidable c] {x y : PR α} : (if c then x else y).el F g b = if c then x.el F g b else y.el F g b := by split <;> rfl
@[simp ↓] theorem zl_ite {c : Prop} [Decidable c] {x y : PZ} : (if c then x else y).el N B C T g b = if c then x.el N B C T g b else y.el N B C T g b := by split <;> rfl
theorem el_bind {r : PR γ} {f : γ → Sl → PR α} : (r.bind f).el F g b = r.el (fun x s => (f x s).el F g b) g b := by cases r <;> rfl
theorem zl_toZ {r : PR γ} {f : γ → Sl → PZ} : (PR.toZ r f).el N B C T g b = r.el (fun x s => (f x s).el N B C T g b) g b := by cases r <;> rfl
theorem zl_seq {f : Sl → PZ} : (q.seq f).el N B C T g b = q.el (fun s => (f s).el N B C T g b) B C T g b := by cases q <;> rfl
theorem el_ext {F' : α → Sl → β} (e : ∀ a s, F a s = F' a s) : r.el F g b = r.el F' g b := by
  have : F = F' := funext fun a => funext (e a)
  subst this
  rfl
theorem of_el {a : α} {o : Sl} (h : r.el (fun x s => x = a ∧ s = o) (fun _ => False) False) : r = .ok a o := by
  cases r with
  | ok x s =>
    obtain ⟨rfl, rfl⟩ := h
    rfl
  | exc e => exact h.elim
  | bad => exact h.elim
theorem el_ex {F : α → Sl → Prop} (h : r.el F (fun _ => False) False) : ∃ a s, r = .ok a s ∧ F a s := by
  cases r with
  | ok x s => exact ⟨x, s, rfl, h⟩
  | exc e => exact h.elim
  | bad => exact h.elim
theorem el_mono {F F' : α → Sl → Prop} {g g' : Ex → Prop} (h : r.el F g False) (i : ∀ a s, F a s → F' a s) (j : ∀ e, g e → g' e) : r.el F' g' False := by
  cases r with
  | ok x s => exact i _ _ h
  | exc e => exact j _ h
  | bad => exact h.elim
theorem zl_mono {N N' B B' C C' : Sl → Prop} {T T' : D → Sl → Prop} {g g' : Ex → Prop} (h : q.el N B C T g False) (i1 : ∀ s, N s → N' s) (i2 : ∀ s, B s → B' s) (i3 : ∀ s, C s → C' s) (i4 : ∀ d s, T d s → T' d s) (i5 : ∀ e, g e → g' e) : q.el N' B' C' T' g' False := by
  cases q with
  | nx s => exact i1 _ h
  | brk s => exact i2 _ h
  | ct s => exact i3 _ h
  | ret d s => exact i4 _ _ h
  | exc e => exact i5 _ h
  | bad => exact h.elim
end
/-! ### expressions -/
section
variable {γ δ : Type} {β : Sort u} {F : D → Sl → β} {FB : Bool → Sl → β} {FL : List D → Sl → β} {FO : Option Int → Sl → β} {FI : List D × PGd → Sl → β} {FG : δ → Sl → β} {g : Ex → β} {b : β} {s : Sl} {i n : Nat} {d : D} {x y z : PE} {t t' : PT} {a a' : PA}
@[simp ↓] theorem e_var : (pVar i s).el F g b = match s[i]? with | some (some d) => F d s | _ => b := by
  unfold pVar
  split <;> simp_all [PR.el]
@[simp ↓] theorem e_c : (pC d s).el F g b = F d s := id rfl
@[simp ↓] theorem e_1 {f : D → MH → R δ} : (p1 f x s).el FG g b = (x s).el (fun d s1 => (zr (f d MH.zero) s1).el FG g b) g b := el_bind
@[simp ↓] theorem e_op {f : D → D → MH → R δ} : (pOp f x y s).el FG g b = (x s).el (fun d s1 => (y s1).el (fun e s2 => (zr (f d e MH.zero) s2).el FG g b) g b) g b := el_bind.trans (el_ext fun _ _ => el_bind)
@[simp ↓] theorem e_opL {f : D → D → MH → R δ} : (pOpL f i y s).el FG g b = match s[i]? with | some (some _) => (y s).el (fun e s1 => match s1[i]? with | some (some d) => (zr (f d e MH.zero) s1).el FG g b | _ => b) g b | _ => b := by
  unfold pOpL
  rw [el_bind, e_var]
  split
  · rw [el_bind]
    exact el_ext fun e s1 => by rw [el_bind, e_var]
  · rfl
@[simp ↓] theorem e_callB {f : List D → MH → R δ} : (pCallB f a s).el FG g b = (a s).el (fun ds s1 => (zr (f ds MH.zero) s1).el FG g b) g b := el_bind
@[simp ↓] theorem e_and : (pAnd t t' s).el FB g b = (t s).el (fun k s1 => if k = true then (t' s1).el FB g b else FB false s1) g b := el_bind.trans (el_ext fun _ _ => el_ite)
@[simp ↓] theorem e_or : (pOr t t' s).el FB g b = (t s).el (fun k s1 => if k = true then FB true s1 else (t' s1).el FB g b) g b := el_bind.trans (el_ext fun _ _ => el_ite)
@[simp ↓] theorem e_not : (pNot t s).el FB g b = (t s).el (fun k s1 => FB (!k) s1) g b := el_bind
@[simp ↓] theorem e_yes : (pYes s).el FB g b = FB true s := id rfl
@[simp ↓] theorem e_if {x y : Sl → PR δ} : (pIf t x y s).el FG g b = (t s).el (fun k s1 => if k = true then (x s1).el FG g b else (y s1).el FG g b) g b := el_bind.trans (el_ext fun _ _ => el_ite)
@[simp ↓] theorem e_asB : (pAsB x s).el FB g b = (x s).el (fun d s1 => match d with | .bl k => FB k s1 | _ => b) g b := el_bind.trans (el_ext fun d _ => by cases d <;> rfl)
@[simp ↓] theorem e_andV : (pAndV x y s).el F g b = (x s).el (fun d s1 => match d with | .bl true => (y s1).el F g b | .bl false => F (.bl false) s1 | _ => b) g b := el_bind.trans (e_asB.trans (el_ext fun d _ => by
  cases d with
  | bl k => cases k <;> rfl
  | _ => rfl))
@[simp ↓] theorem e_orV : (pOrV x y s).el F g b = (x s).el (fun d s1 => match d with | .bl true => F (.bl true) s1 | .bl false => (y s1).el F g b | _ => b) g b := el_bind.trans (e_asB.trans (el_ext fun d _ => by
  cases d with
  | bl k => cases k <;> rfl
  | _ => rfl))
@[simp ↓] theorem e_notV : (pNotV x s).el F g b = (x s).el (fun d s1 => match d with | .bl k => F (.bl !k) s1 | _ => b) g b := el_bind.trans (e_asB.trans (el_ext fun d _ => by cases d <;> rfl))
@[simp ↓] theorem e_chain {f f' : F2} : (pChain f f' x y z s).el F g b = (x s).el (fun d s1 => (y s1).el (fun e s2 => (zr (f d e MH.zero) s2).el (fun k s3 => match k with | .bl true => (z s3).el (fun u s4 => (zr (f' e u MH.zero) s4).el F g b) g b | .bl false => F (.bl false) s3 | _ => b) g b) g b) g b :=
  el_bind.trans (el_ext fun _ _ => el_bind.trans (el_ext fun _ _ => el_bind.trans (el_bind.trans (el_ext fun d _ => by
    cases d with
    | bl k =>
      cases k with
      | true => exact el_bind
      | false => rfl
    | _ => rfl))))
@[simp ↓] theorem e_nil : (pNil s).el FL g b = FL [] s := id rfl
@[simp ↓] theorem e_cons : (pCons x a s).el FL g b = (x s).el (fun d s1 => (a s1).el (fun ds s2 => FL (d :: ds) s2) g b) g b := el_bind.trans (el_ext fun _ _ => el_bind)
@[simp ↓] theorem e_tup : (pTup a s).el F g b = (a s).el (fun ds s1 => if ds.length ≤ 16777216 then F (.tup ds) s1 else b) g b := el_bind.trans (el_ext fun _ _ => el_ite)
@[simp ↓] theorem e_lst : (pLst a s).el F g b = (a s).el (fun ds s1 => if ds.length ≤ 16777216 then F (.lst ds) s1 else b) g b := el_bind.trans (el_ext fun _ _ => el_ite)
@[simp ↓] theorem e_noPart : (pNoPart s).el FO g b = FO none s := id rfl
@[simp ↓] theorem e_part : (pPart x s).el FO g b = (x s).el (fun d s1 => match d with | .int i => FO (some i) s1 | _ => b) g b := el_bind.trans (el_ext fun d _ => by cases d <;> rfl)
@[simp ↓] theorem e_cut {f : FC} {lo hi : PO'} : (pCut f x lo hi s).el F g b = (x s).el (fun d s1 => (lo s1).el (fun l s2 => (hi s2).el (fun u s3 => (zr (f d l u MH.zero) s3).el F g b) g b) g b) g b := el_bind.trans (el_ext fun _ _ => el_bind.trans (el_ext fun _ _ => el_bind))
@[simp ↓] theorem e_meth {G : GM} : (pMeth G i a s).el F g b = match s[i]? with | some (some _) => (a s).el (fun ds s1 => match s1[i]? with | some (some (.lst xs)) => (match G xs ds with | some (r, ys) => F r (s1.set i (some (.lst ys))) | none => b) | _ => b) g b | _ => b := by
  unfold pMeth
  rw [el_bind, e_var]
  split
  · rw [el_bind]
    refine el_ext fun ds s1 => ?_
    cases s1[i]? with
    | none => rfl
    | some o =>
      cases o with
      | none => rfl
      | some d =>
        cases d with
        | lst xs =>
          simp only
          cases G xs ds with
          | none => rfl
          | some p => rfl
        | _ => rfl
  · rfl
/-! ### what is walked -/
@[simp ↓] theorem e_iter : (pIter x s).el FI g b = (x s).el (fun d s1 => match items d with | some xs => FI (xs, none) s1 | none => b) g b := el_bind.trans (el_ext fun d _ => by cases items d <;> rfl)
@[simp] theorem items_tup {xs : List D} : items (.tup xs) = some xs := id rfl
@[simp] theorem items_lst {xs : List D} : items (.lst xs) = some xs := id rfl
@[simp] theorem items_str {t : Str} : items (.str t) = some (t.cps.toList.map fun c => .str ⟨#[c]⟩) := id rfl
@[simp ↓] theorem e_iterK : (pIterK i s).el FI g b = match s[i]? with | some (some (.lst xs)) => FI (xs, some (i, xs)) s | _ => b := by
  unfold pIterK
  split <;> simp_all [PR.el]
@[simp ↓] theorem e_range1 : (pRange1 x s).el FI g b = (x s).el (fun d s1 => match d with | .int j => if -4611686018427387904 ≤ j ∧ j < 4611686018427387904 then FI (rangeD 0 j.toNat, none) s1 else b | _ => b) g b := el_bind.trans (el_ext fun d _ => by
  cases d <;> first | rfl | exact el_ite)
@[simp ↓] theorem e_range2 : (pRange2 x y s).el FI g b = (x s).el (fun d s1 => (y s1).el (fun e s2 => match d, e with
    | .int i, .int j => if -4611686018427387904 ≤ i ∧ i < 4611686018427387904 ∧ -4611686018427387904 ≤ j ∧ j < 4611686018427387904 then FI (rangeD i (j - i).toNat, none) s2 else b
    | _, _ => b) g b) g b := el_bind.trans (el_ext fun d _ => el_bind.trans (el_ext fun e _ => by
  cases d <;> first | rfl | (cases e <;> first | rfl | exact el_ite)))
@[simp ↓] theorem e_src : (pSrc x s).el FI g b = (x s).el (fun d s1 => match d with | .tup xs => FI (xs, none) s1 | .lst xs => FI (xs, none) s1 | _ => b) g b := el_bind.trans (el_ext fun d _ => by cases d <;> rfl)
variable {it it' : PI'}
@[simp ↓] theorem e_enum : (pEnum it s).el FI g b = (it s).el (fun p s1 => FI (p.1.mapIdx fun i x => pairD (.int (i : Nat)) x, p.2) s1) g b := el_bind
@[simp ↓] theorem e_zip : (pZip it it' s).el FI g b = (it s).el (fun p s1 => (it' s1).el (fun q s2 => match p.2, q.2 with
    | none, h => FI (List.zipWith pairD p.1 q.1, h) s2
    | some h, none => FI (List.zipWith pairD p.1 q.1, some h) s2
    | _, _ => b) g b) g b := el_bind.trans (el_ext fun p _ => el_bind.trans (el_ext fun q _ => by
  obtain ⟨p1, p2⟩ := p
  obtain ⟨q1, q2⟩ := q
  cases p2 <;> cases q2 <;> rfl))
/-! ### comprehensions that draw nothing -/
def lcG (f : γ → Option (Option D)) : List γ → Option (List D)
  | [] => some []
  | x :: xs => match f x, lcG f xs with
    | some o, some ys => some (o.toList ++ ys)
    | _, _ => none
def lcV (tg : MG) (t : PT) (y : PE) (s : Sl) (x : D) : Option (Option D) := match tg x s with
  | some s1 => (t s1).el (fun k s2 => if k = true then (y s2).el (fun d _ => some (some d)) (fun _ => none) none else some none) (fun _ => none) none
  | none => none
theorem lc_eq {vs : List Nat} {tg : MG} : ∀ xs : List D, lcQ (lcEl vs tg t y s) xs = match lcG (lcV tg t y (wipeM s vs)) xs with
    | some ys => .ok ys []
    | none => .bad
  | [] => rfl
  | x :: xs => by
    have ih := lc_eq (vs := vs) (tg := tg) xs
    unfold lcQ lcG
    rw [ih]
    unfold lcEl lcV
    cases tg x (wipeM s vs) with
    | none => rfl
    | some s1 =>
      simp only
      cases t s1 with
      | ok k s2 =>
        cases k with
        | true =>
          simp only [PR.bind, PR.el, if_true]
          cases y s2 with
          | ok d s3 => cases lcG _ xs <;> rfl
          | exc e => cases lcG _ xs <;> rfl
          | bad => cases lcG _ xs <;> rfl
        | false =>
          simp only [PR.bind, PR.el, Bool.false_eq_true, if_false]
          cases lcG _ xs <;> rfl
      | exc e => rfl
      | bad => rfl
/-- what is done with what it tells -/
def lcK (o : Option (List D)) (F : D → Sl → β) (b : β) (s : Sl) (_ : Bx F := ⟨⟩) : β := match o with
  | some ys => if ys.length ≤ sizeLine then F (.lst ys) s else b
  | none => b
@[simp ↓] theorem e_lc {vs : List Nat} {tg : MG} : (pLc it vs tg t y s).el F g b = (it s).el (fun p s1 => lcK (lcG (lcV tg t y (wipeM s1 vs)) p.1) F b s1) g b := el_bind.trans (el_ext fun p s1 => by
  unfold lcFin
  rw [lc_eq]
  unfold lcK
  cases lcG (lcV tg t y (wipeM s1 vs)) p.1 with
  | none => rfl
  | some ys => exact el_ite)
@[simp ↓] theorem lcK_some {ys : List D} : lcK (some ys) F b s = if ys.length ≤ 16777216 then F (.lst ys) s else b := id rfl
@[simp ↓] theorem lcK_none : lcK none F b s = b := id rfl
theorem lcG_map {f : γ → Option (Option D)} {e : δ → γ} : ∀ xs : List δ, lcG f (xs.map e) = lcG (fun x => f (e x)) xs
  | [] => rfl
  | x :: xs => by
    simp only [List.map_cons, lcG]
    rw [lcG_map xs]
@[simp] theorem lcG_all {φ : γ → D} : ∀ xs : List γ, lcG (fun x => some (some (φ x))) xs = some (xs.map φ)
  | [] => rfl
  | x :: xs => by
    unfold lcG
    rw [lcG_all xs]
    rfl
@[simp] theorem lcG_if {φ : γ → D} {p : γ → Prop} [DecidablePred p] : ∀ xs : List γ, lcG (fun x => if p x then some (some (φ x)) else some none) xs = some ((xs.filter fun x => decide (p x)).map φ)
  | [] => rfl
  | x :: xs => by
    unfold lcG
    rw [lcG_if xs]
    by_cases h : p x
    · simp [h]
    · simp [h]
@[simp] theorem lcG_nil {f : γ → Option (Option D)} : lcG f [] = some [] := id rfl
theorem lcG_congr {f f' : γ → Option (Option D)} : ∀ {xs : List γ}, (∀ x ∈ xs, f x = f' x) → lcG f xs = lcG f' xs
  | [], _ => rfl
  | x :: xs, h => by
    unfold lcG
    rw [h x List.mem_cons_self, lcG_congr fun y hy => h y (List.mem_cons_of_mem _ hy)]
theorem lcG_is {f : γ → Option (Option D)} {φ : γ → D} {xs : List γ} (h : ∀ x ∈ xs, f x = some (some (φ x))) : lcG f xs = some (xs.map φ) := (lcG_congr h).trans (lcG_all xs)
theorem lcG_isif {f : γ → Option (Option D)} {φ : γ → D} {p : γ → Bool} {xs : List γ} (h : ∀ x ∈ xs, f x = if p x = true then some (some (φ x)) else some none) : lcG f xs = some ((xs.filter p).map φ) := by
  rw [lcG_congr h, lcG_if]
  simp
/-! ### calls -/
@[simp ↓] theorem e_call0 {P : PF} {dv : List D} : (pCall0 n P dv a s).el F g b = (a s).el (fun ds s1 => if ds.length + dv.length = n then (P (ds ++ dv)).el (fun d _ => F d s1) g b else b) g b := el_bind.trans (el_ext fun ds s1 => el_ite.trans (by
  split
  · cases P (ds ++ dv) <;> rfl
  · rfl))
@[simp ↓] theorem e_callK {P : PF} {l m : Nat} {gd : List D → List D → List D} : (pCallK m l n P gd a a' s).el F g b = (a s).el (fun ds s1 => (a' s1).el (fun es s2 => if ds.length = m ∧ es.length = l ∧ (gd ds es).length = n then (P (gd ds es)).el (fun d _ => F d s2) g b else b) g b) g b :=
  el_bind.trans (el_ext fun ds s1 => el_bind.trans (el_ext fun es s2 => el_ite.trans (by
  split
  · cases P (gd ds es) <;> rfl
  · rfl)))
@[simp ↓] theorem e_call {P : PF} {dv : List D} {sh : List (Option Nat)} {dst : List Nat} : (pCall n P dv sh dst a s).el F g b = (a s).el (fun ds s1 => match lateS sh ds s1 with | some es => if es.length + dv.length = n then (P (es ++ dv)).el (fun d o => F d (putOuts dst o s1)) g b else b | none => b) g b := el_bind.trans (el_ext fun ds s1 => by
  cases lateS sh ds s1 with
  | none => rfl
  | some es =>
    simp only
    by_cases hl : es.length + dv.length = n
    · rw [if_pos hl, if_pos hl]
      cases P (es ++ dv) <;> rfl
    · rw [if_neg hl, if_neg hl]
      rfl)

end
end Tb
end

section
set_option maxHeartbeats 4000000
namespace Tb
open PySem PySem.Spec PyProof.Rows L2
universe u
/-! ### statements -/
section
variable {β : Sort u} {N B C : Sl → β} {T : D → Sl → β} {g : Ex → β} {b : β} {s : Sl} {i j k n : Nat} {x y z : PE} {t : PT} {p q : PS'} {tg : MG} {it : PI'}
@[simp ↓] theorem z_skip : (pSkip s).el N B C T g b = N s := id rfl
@[simp ↓] theorem z_seq : (pSeq p q s).el N B C T g b = (p s).el (fun s1 => (q s1).el N B C T g b) B C T g b := zl_seq
@[simp ↓] theorem z_break : (pBreak s).el N B C T g b = B s := id rfl
@[simp ↓] theorem z_cont : (pCont s).el N B C T g b = C s := id rfl
@[simp ↓] theorem z_bad : (pBad s).el N B C T g b = b := id rfl
@[simp ↓] theorem z_ret : (pRet x s).el N B C T g b = (x s).el (fun d s1 => T d s1) g b := zl_toZ
@[simp ↓] theorem z_retN : (pRetN s).el N B C T g b = T .non s := id rfl
@[simp ↓] theorem z_retL : (pRetL i s).el N B C T g b = match s[i]? with | some (some d) => T d (s.set i none) | _ => b := by
  unfold pRetL
  split <;> simp_all
@[simp ↓] theorem z_if : (pIfS t p q s).el N B C T g b = (t s).el (fun k s1 => if k = true then (p s1).el N B C T g b else (q s1).el N B C T g b) g b := zl_toZ.trans (el_ext fun _ _ => zl_ite)
@[simp ↓] theorem z_do : (pDo x s).el N B C T g b = (x s).el (fun _ s1 => N s1) g b := zl_toZ
@[simp ↓] theorem z_set : (pSet i x s).el N B C T g b = (x s).el (fun d s1 => N (s1.set i (some d))) g b := zl_toZ
@[simp ↓] theorem z_unpack : (pUnpack tg x s).el N B C T g b = (x s).el (fun d s1 => match tg d s1 with | some s2 => N s2 | none => b) g b := zl_toZ.trans (el_ext fun d s1 => by cases tg d s1 <;> rfl)
@[simp ↓] theorem z_par2 : (pPar2 i j x y s).el N B C T g b = (x s).el (fun d s1 => (y s1).el (fun e s2 => N ((s2.set i (some d)).set j (some e))) g b) g b := zl_toZ.trans (el_ext fun _ _ => zl_toZ)
@[simp ↓] theorem z_par3 : (pPar3 i j k x y z s).el N B C T g b = (x s).el (fun d s1 => (y s1).el (fun e s2 => (z s2).el (fun f s3 => N (((s3.set i (some d)).set j (some e)).set k (some f))) g b) g b) g b := zl_toZ.trans (el_ext fun _ _ => zl_toZ.trans (el_ext fun _ _ => zl_toZ))
@[simp ↓] theorem z_setSub : (pSetSub i x y s).el N B C T g b = (y s).el (fun c s1 => (match s1[i]? with
    | some (some _) => (x s1).el (fun d s3 => (match s3[i]?, d with
      | some (some (.lst xs)), .int k => (match ixN xs.length k with | some j => N (s3.set i (some (.lst (xs.set j c)))) | none => b)
      | _, _ => b)) g b
    | _ => b)) g b := zl_toZ.trans (el_ext fun c s1 => by
  rw [zl_toZ, e_var]
  cases s1[i]? with
  | none => rfl
  | some o => cases o with
    | none => rfl
    | some d0 =>
      simp only
      rw [zl_toZ]
      refine el_ext fun d s3 => ?_
      cases s3[i]? with
      | none => rfl
      | some o => cases o with
        | none => rfl
        | some w => cases w <;> first | rfl | (cases d <;> first | rfl | (simp only; cases ixN _ _ <;> rfl)))
@[simp ↓] theorem z_aug {f : F2} : (pAug i f x s).el N B C T g b = match s[i]? with | some (some d) => (x s).el (fun y s1 => (zr (f d y MH.zero) s1).el (fun z s2 => N (s2.set i (some z))) g b) g b | _ => b := by
  unfold pAug
  rw [zl_toZ, e_var]
  cases s[i]? with
  | none => rfl
  | some o => cases o with
    | none => rfl
    | some d0 =>
      simp only
      rw [zl_toZ]
      exact el_ext fun d s3 => zl_toZ
@[simp ↓] theorem z_augL : (pAugL i x s).el N B C T g b = (match s[i]? with
    | some (some _) => (x s).el (fun y s1 => (match s1[i]?, y with
      | some (some (.lst xs)), .lst ys => if xs.length + ys.length ≤ 16777216 then N (s1.set i (some (.lst (xs ++ ys)))) else b
      | _, _ => b)) g b
    | _ => b) := by
  unfold pAugL
  rw [zl_toZ, e_var]
  cases s[i]? with
  | none => rfl
  | some o => cases o with
    | none => rfl
    | some d0 =>
      simp only
      rw [zl_toZ]
      refine el_ext fun d s3 => ?_
      cases s3[i]? with
      | none => rfl
      | some o => cases o with
        | none => rfl
        | some w => cases w <;> first | rfl | (cases d <;> first | rfl | exact zl_ite)
@[simp ↓] theorem z_augSub {f : F2} : (pAugSub f i x y s).el N B C T g b = (match s[i]? with
    | some (some _) => (x s).el (fun c s1 => (match s1[i]?, c with
      | some (some (.lst xs)), .int k => (match atI xs k with
        | some d => (y s1).el (fun e s2 => (zr (f d e MH.zero) s2).el (fun z s3 => (match s3[i]? with
          | some (some (.lst ys)) => (match ixN ys.length k with | some j => N (s3.set i (some (.lst (ys.set j z)))) | none => b)
          | _ => b)) g b) g b
        | none => b)
      | _, _ => b)) g b
    | _ => b) := by
  unfold pAugSub
  rw [zl_toZ, e_var]
  cases s[i]? with
  | none => rfl
  | some o => cases o with
    | none => rfl
    | some d0 =>
      simp only
      rw [zl_toZ]
      refine el_ext fun c s1 => ?_
      cases s1[i]? with
      | none => rfl
      | some o => cases o with
        | none => rfl
        | some w => cases w with
          | lst xs => cases c with
            | int k =>
              simp only
              cases atI xs k with
              | none => rfl
              | some d =>
                simp only
                rw [zl_toZ]
                refine el_ext fun e s2 => ?_
                rw [zl_toZ]
                refine el_ext fun z s3 => ?_
                cases s3[i]? with
                | none => rfl
                | some o => cases o with
                  | none => rfl
                  | some w => cases w <;> first | rfl | (simp only; cases ixN _ _ <;> rfl)
            | _ => rfl
          | _ => rfl
@[simp ↓] theorem z_for : (pFor it tg p s).el N B C T g b = (it s).el (fun q s1 => (forP q.2 tg p q.1 s1).el N B C T g b) g b := zl_toZ
end
/-! ### defs -/
section
variable {β : Sort u} {F : D → Sl → β} {g : Ex → β} {b : β} {io : List Nat} {rH : Bool} {n : Nat} {q : PS'} {ds : List D}
theorem e_fn : (pFn n io rH q ds).el F g b = (q (ds.map some ++ List.replicate (n - ds.length) none)).el (fun s => if rH = true then b else (retP io .non s).el F g b) (fun _ => b) (fun _ => b) (fun d s => (retP io d s).el F g b) g b := by
  unfold pFn
  cases q (ds.map some ++ List.replicate (n - ds.length) none) with
  | nx s => exact el_ite
  | _ => rfl
end
@[simp] theorem retP_nil {d : D} {s : Sl} : retP [] d s = .ok d [] := id rfl
@[simp] theorem retP_cons {d : D} {s : Sl} {x : Option D} {io : List Nat} : retP io d (x :: s) = match outsOf (x :: s) io with
  | some o => .ok d o
  | none => .bad := id rfl
/-! ### loops -/
section
variable {α : Type} {N B C : Sl → Prop} {T : D → Sl → Prop} {G : Ex → Prop} {tg : MG} {q : PS'} {s : Sl}
theorem for_inv (I : List D → Sl → Prop) (step : ∀ x xs s, I (x :: xs) s → ∃ s1, tg x s = some s1 ∧ (q s1).el (I xs) N (I xs) T G False) (fin : ∀ s, I [] s → N s) : ∀ xs s, I xs s → (forP none tg q xs s).el N B C T G False
  | [], s, i => by
    unfold forP
    rw [if_pos (show gP none s from trivial)]
    exact fin s i
  | x :: xs, s, i => by
    unfold forP
    rw [if_pos (show gP none s from trivial)]
    obtain ⟨s1, e, h⟩ := step x xs s i
    rw [e]
    simp only
    cases e2 : q s1 <;> rw [e2] at h
    · exact for_inv I step fin xs _ h
    · exact h
    · exact for_inv I step fin xs _ h
    · exact h
    · exact h
    · exact h.elim
/-- over a list that a name holds, and that stays -/
theorem for_invK {i : Nat} {ys : List D} (I : List D → Sl → Prop) (hg : ∀ xs s, I xs s → s[i]? = some (some (.lst ys))) (step : ∀ x xs s, I (x :: xs) s → ∃ s1, tg x s = some s1 ∧ (q s1).el (I xs) N (I xs) T G False) (fin : ∀ s, I [] s → N s) : ∀ xs s, I xs s → (forP (some (i, ys)) tg q xs s).el N B C T G False
  | [], s, h => by
    unfold forP
    rw [if_pos (show gP (some (i, ys)) s from hg _ _ h)]
    exact fin s h
  | x :: xs, s, h => by
    unfold forP
    rw [if_pos (show gP (some (i, ys)) s from hg _ _ h)]
    obtain ⟨s1, e, h⟩ := step x xs s h
    rw [e]
    simp only
    cases e2 : q s1 <;> rw [e2] at h
    · exact for_invK I hg step fin xs _ h
    · exact h
    · exact for_invK I hg step fin xs _ h
    · exact h
    · exact h
    · exact h.elim
/-- over items of a kind -/
theorem for_map {e : α → D} (I : List α → Sl → Prop) {xs : List α} (i : I xs s) (step : ∀ x xs s, I (x :: xs) s → ∃ s1, tg (e x) s = some s1 ∧ (q s1).el (I xs) N (I xs) T G False) (fin : ∀ s, I [] s → N s) : (forP none tg q (xs.map e) s).el N B C T G False := by
  refine for_inv (fun ds s => ∃ xs, ds = xs.map e ∧ I xs s) ?_ ?_ _ _ ⟨xs, rfl, i⟩
  · rintro d ds s ⟨ys, e1, h⟩
    cases ys with
    | nil => cases e1
    | cons y ys =>
      cases e1
      obtain ⟨s1, e2, h2⟩ := step y ys s h
      exact ⟨s1, e2, zl_mono h2 (fun s h => ⟨ys, rfl, h⟩) (fun _ h => h) (fun s h => ⟨ys, rfl, h⟩) (fun _ _ h => h) fun _ h => h⟩
  · rintro s ⟨ys, e1, h⟩
    cases ys with
    | nil => exact fin s h
    | cons y ys => cases e1
theorem for_ran {lo : Int} {n : Nat} (I : Nat → Sl → Prop) (i : I 0 s) (step : ∀ k s, k < n → I k s → ∃ s1, tg (.int (lo + (k : Nat))) s = some s1 ∧ (q s1).el (I (k + 1)) N (I (k + 1)) T G False) (fin : ∀ s, I n s → N s) : (forP none tg q (rangeD lo n) s).el N B C T G False := by
  unfold rangeD
  refine for_map (e := fun k : Nat => D.int (lo + (k : Nat))) (fun ks s => ∃ k, k + ks.length = n ∧ ks = (List.range' k ks.length) ∧ I k s) ⟨0, by simp, by simp [List.range_eq_range'], i⟩ ?_ ?_
  · rintro x ks s ⟨k, e1, e2, h⟩
    simp only [List.length_cons] at e1 e2
    rw [List.range'_succ] at e2
    obtain ⟨rfl, e3⟩ := List.cons.inj e2
    obtain ⟨s1, e4, h4⟩ := step x s (by omega) h
    exact ⟨s1, e4, zl_mono h4 (fun s h => ⟨x + 1, by omega, e3, h⟩) (fun _ h => h) (fun s h => ⟨x + 1, by omega, e3, h⟩) (fun _ _ h => h) fun _ h => h⟩
  · rintro s ⟨k, e1, e2, h⟩
    simp only [List.length_nil, Nat.add_zero] at e1
    subst e1
    exact fin s h
end
/-! ### comprehensions that draw -/
section
variable {F : D → Sl → Prop} {G : Ex → Prop} {it : PI'} {vs : List Nat} {tg : MG} {t : PT} {y : PE} {s : Sl}
theorem compP_inv (I : List D → List D → Sl → Prop) {P : List D → Sl → Prop} (step : ∀ x xs acc s, I (x :: xs) acc s → ∃ s1, tg x s = some s1 ∧ (t s1).el (fun k s2 => if k = true then (y s2).el (fun d s3 => acc.length < 16777216 ∧ I xs (acc ++ [d]) (wipeM s3 vs)) (fun _ => False) False else I xs acc (wipeM s2 vs)) (fun _ => False) False) (fin : ∀ acc s, I [] acc s → P acc s) : ∀ xs acc s, I xs acc s → (compP none vs tg t y xs acc s).el P (fun _ => False) False
  | [], acc, s, h => by
    unfold compP
    rw [if_pos (show gP none s from trivial)]
    exact fin acc s h
  | x :: xs, acc, s, h => by
    unfold compP
    rw [if_pos (show gP none s from trivial)]
    obtain ⟨s1, e, h⟩ := step x xs acc s h
    rw [e]
    simp only
    obtain ⟨k, s2, e1, h1⟩ := el_ex h
    rw [e1]
    simp only
    by_cases hk : k = true
    · rw [if_pos hk] at h1 ⊢
      obtain ⟨d, s3, e2, hz, h2⟩ := el_ex h1
      rw [e2]
      simp only
      rw [if_pos (show acc.length < sizeLine from hz)]
      exact compP_inv I step fin xs _ _ h2
    · rw [if_neg hk] at h1 ⊢
      exact compP_inv I step fin xs _ _ h1
theorem e_comp : (pComp it vs tg t y s).el F G False ↔ (it s).el (fun p s1 => (compP p.2 vs tg t y p.1 [] (wipeM s1 vs)).el (fun xs s2 => F (.lst xs) (unwipe s1 s2 vs)) (fun _ => False) False) G False := by
  unfold pComp
  rw [el_bind]
  rw [el_ext fun p s1 => ?_]
  cases compP p.2 vs tg t y p.1 [] (wipeM s1 vs) <;> rfl
end
end Tb
end

section
set_option maxHeartbeats 4000000
namespace Tb
open PySem PySem.Spec PyProof.Rows L2
universe u
/-! ### what the operators tell -/
section
variable {h : MH} {s : Sl} {i j : Int} {x y : Str} {xs ys : List D} {ns ms : List Int} {d e : D} {b c : Bool}
@[simp ↓] theorem zr_ok {α : Type} {a : α} : zr (R.ok a h) s = .ok a s := id rfl
theorem zr_en {α : Type} {r : R α} {a : α} (q : ∀ Q : α → MH → Prop, r.en Q = Q a h) : zr r s = .ok a s := by
  have := q fun a' _ => a' = a
  have h1 : r.en fun a' _ => a' = a := this ▸ rfl
  obtain ⟨a', h', e, e2⟩ := R.en_ex h1
  rw [e, e2]
  rfl
@[simp ↓] theorem z_add : zr (opAdd (.int i) (.int j) h) s = .ok (.int (i + j)) s := id rfl
@[simp ↓] theorem z_addB {b : Bool} : zr (opAdd (.bl b) (.int j) h) s = .ok (.int ((if b = true then 1 else 0) + j)) s := id rfl
@[simp ↓] theorem z_subB {b : Bool} : zr (opSub (.bl b) (.int j) h) s = .ok (.int ((if b = true then 1 else 0) - j)) s := id rfl
@[simp ↓] theorem z_negB {b : Bool} : zr (opNeg (.bl b) h) s = .ok (.int (-(if b = true then 1 else 0))) s := id rfl
@[simp ↓] theorem z_sub : zr (opSub (.int i) (.int j) h) s = .ok (.int (i - j)) s := id rfl
@[simp ↓] theorem z_iadd : zr (iopAdd (.int i) (.int j) h) s = .ok (.int (i + j)) s := id rfl
@[simp ↓] theorem z_isub : zr (iopSub (.int i) (.int j) h) s = .ok (.int (i - j)) s := id rfl
@[simp ↓] theorem z_neg : zr (opNeg (.int i) h) s = .ok (.int (-i)) s := id rfl
@[simp ↓] theorem z_lt : zr (opLt (.int i) (.int j) h) s = .ok (.bl (decide (i < j))) s := id rfl
@[simp ↓] theorem z_le : zr (opLe (.int i) (.int j) h) s = .ok (.bl (decide (i ≤ j))) s := id rfl
@[simp ↓] theorem z_gt : zr (opGt (.int i) (.int j) h) s = .ok (.bl (decide (j < i))) s := id rfl
@[simp ↓] theorem z_ge : zr (opGe (.int i) (.int j) h) s = .ok (.bl (decide (j ≤ i))) s := id rfl
@[simp ↓] theorem z_ltS : zr (opLt (.str x) (.str y) h) s = .ok (.bl (decide (x.cps.toList < y.cps.toList))) s := id rfl
@[simp ↓] theorem z_repI : zr (opRep (.int i) (.int j) h) s = zr (opMul (.int i) (.int j) h) s := id rfl
@[simp ↓] theorem z_mod (hj : 0 < j) : zr (opMod (.int i) (.int j) h) s = .ok (.int (i % j)) s := zr_en fun Q => o_mod (h := h) hj
theorem z_divW (hj : 0 < j) (hl : j < 2 ^ 200) : zr (opDiv (.int i) (.int j) h) s = .ok (.int (i / j)) s := zr_en fun Q => o_div (h := h) hj hl
@[simp ↓] theorem z_div (hj : 0 < j) (hl : j < 18446744073709551616) : zr (opDiv (.int i) (.int j) h) s = .ok (.int (i / j)) s := z_divW hj (Int.lt_trans hl (by decide))
theorem z_mul (hs : smallI i ∨ smallI j) : zr (opMul (.int i) (.int j) h) s = .ok (.int (i * j)) s := zr_en fun Q => o_mul (h := h) hs
@[simp ↓] theorem z_mulL (h1 : -18446744073709551616 < i) (h2 : i < 18446744073709551616) : zr (opMul (.int i) (.int j) h) s = .ok (.int (i * j)) s := z_mul (.inl ⟨h1, h2⟩)
@[simp ↓] theorem z_mulR (h1 : -18446744073709551616 < j) (h2 : j < 18446744073709551616) : zr (opMul (.int i) (.int j) h) s = .ok (.int (i * j)) s := z_mul (.inr ⟨h1, h2⟩)
@[simp ↓] theorem z_mulM {p : Int} (h1 : 0 < p) (h2 : p < 18446744073709551616) : zr (opMul (.int (i % p)) (.int j) h) s = .ok (.int (i % p * j)) s := zr_en fun Q => c_mulM (h := h) h1 h2
@[simp ↓] theorem z_pow (h0 : 0 ≤ j) (h1 : j ≤ 1000000) (h2 : i.natAbs < 18446744073709551616) : zr (opPow (.int i) (.int j) h) s = .ok (.int (i ^ j.toNat)) s := zr_en fun Q => o_pow (h := h) h0 h1 h2
@[simp ↓] theorem z_eqI : zr (opEq (.int i) (.int j) h) s = .ok (.bl (decide (i = j))) s := zr_en fun Q => o_eqI (h := h)
@[simp ↓] theorem z_neI : zr (opNe (.int i) (.int j) h) s = .ok (.bl (!decide (i = j))) s := zr_en fun Q => o_neI (h := h)
@[simp ↓] theorem z_eqS : zr (opEq (.str x) (.str y) h) s = .ok (.bl (decide (x = y))) s := id rfl
@[simp ↓] theorem z_neS : zr (opNe (.str x) (.str y) h) s = .ok (.bl (!decide (x = y))) s := id rfl
theorem z_eqP {p q : PyData} (h1 : toD h d = some p) (h2 : toD h e = some q) (s1 : SeqAt.shaped p = true) (s2 : SeqAt.shaped q = true) (ns : ∀ x, d ≠ .str x) : zr (opEq d e h) s = .ok (.bl (PyData.eqv p q)) s := by rw [eqP h1 h2 s1 s2 ns]; rfl
theorem z_neP {p q : PyData} (h1 : toD h d = some p) (h2 : toD h e = some q) (s1 : SeqAt.shaped p = true) (s2 : SeqAt.shaped q = true) (ns : ∀ x, d ≠ .str x) : zr (opNe d e h) s = .ok (.bl (!PyData.eqv p q)) s := by rw [neP h1 h2 s1 s2 ns]; rfl
@[simp ↓] theorem z_eqTI : zr (opEq (.tup (intsD ns)) (.tup (intsD ms)) h) s = .ok (.bl (decide (ns = ms))) s := zr_en fun Q => o_eqTI (h := h)
@[simp ↓] theorem z_neTI : zr (opNe (.tup (intsD ns)) (.tup (intsD ms)) h) s = .ok (.bl (!decide (ns = ms))) s := zr_en fun Q => o_neTI (h := h)
@[simp ↓] theorem z_eqLI : zr (opEq (.lst (intsD ns)) (.lst (intsD ms)) h) s = .ok (.bl (decide (ns = ms))) s := zr_en fun Q => o_eqLI (h := h)
@[simp ↓] theorem z_neLI : zr (opNe (.lst (intsD ns)) (.lst (intsD ms)) h) s = .ok (.bl (!decide (ns = ms))) s := zr_en fun Q => o_neLI (h := h)
@[simp ↓] theorem z_neNil : zr (opNe (.lst (ns.map .int)) (.lst []) h) s = .ok (.bl (!decide (ns = []))) s := z_neLI (ns := ns) (ms := [])
@[simp ↓] theorem z_eqNil : zr (opEq (.lst (ns.map .int)) (.lst []) h) s = .ok (.bl (decide (ns = []))) s := z_eqLI (ns := ns) (ms := [])
@[simp ↓] theorem z_isNonI : zr (opIs (.int i) .non h) s = .ok (.bl false) s := id rfl
@[simp ↓] theorem z_isNonN : zr (opIs .non .non h) s = .ok (.bl true) s := id rfl
@[simp ↓] theorem z_isNonT : zr (opIs (.tup xs) .non h) s = .ok (.bl false) s := id rfl
@[simp ↓] theorem z_isNonS : zr (opIs (.str x) .non h) s = .ok (.bl false) s := id rfl
@[simp ↓] theorem z_isBl : zr (opIs (.bl b) (.bl c) h) s = .ok (.bl (decide (b = c))) s := id rfl
@[simp ↓] theorem z_notNonI : zr (opIsNot (.int i) .non h) s = .ok (.bl true) s := id rfl
@[simp ↓] theorem z_notNonN : zr (opIsNot .non .non h) s = .ok (.bl false) s := id rfl
@[simp ↓] theorem z_notNonT : zr (opIsNot (.tup xs) .non h) s = .ok (.bl true) s := id rfl
@[simp ↓] theorem z_notNonS : zr (opIsNot (.str x) .non h) s = .ok (.bl true) s := id rfl
@[simp ↓] theorem z_tI : zr (truth (.int i) h) s = .ok (i != 0) s := id rfl
@[simp ↓] theorem z_tB : zr (truth (.bl b) h) s = .ok b s := id rfl
@[simp ↓] theorem z_tN : zr (truth .non h) s = .ok false s := id rfl
@[simp ↓] theorem z_tT : zr (truth (.tup xs) h) s = .ok (!xs.isEmpty) s := id rfl
@[simp ↓] theorem z_tL : zr (truth (.lst xs) h) s = .ok (!xs.isEmpty) s := id rfl
@[simp ↓] theorem z_asB : zr (asB1 (.bl b) h) s = .ok b s := id rfl
/-! items -/
def pk (xs : List D) (i : Int) (s : Sl) : PR D := match atI xs i with
  | some z => .ok z s
  | none => .bad
theorem pk_at {z : D} (q : atI xs i = some z) : pk xs i s = .ok z s := by
  unfold pk
  rw [q]
@[simp ↓] theorem z_ixT : zr (opIx (.tup xs) (.int i) h) s = pk xs i s := by
  unfold pk opIx
  simp only [seqOf]
  cases atI xs i <;> rfl
@[simp ↓] theorem z_ixL : zr (opIx (.lst xs) (.int i) h) s = pk xs i s := by
  unfold pk opIx
  simp only [seqOf, lstOf]
  cases atI xs i <;> rfl
@[simp ↓] theorem pk0 {x0 : D} {r : List D} : pk (x0 :: r) 0 s = .ok x0 s := pk_at at_0
@[simp ↓] theorem pk1 {x0 x1 : D} {r : List D} : pk (x0 :: x1 :: r) 1 s = .ok x1 s := pk_at at_1
@[simp ↓] theorem pk2 {x0 x1 x2 : D} {r : List D} : pk (x0 :: x1 :: x2 :: r) 2 s = .ok x2 s := pk_at at_2
@[simp ↓] theorem pk3 {x0 x1 x2 x3 : D} {r : List D} : pk (x0 :: x1 :: x2 :: x3 :: r) 3 s = .ok x3 s := pk_at at_3
@[simp ↓] theorem pk4 {x0 x1 x2 x3 x4 : D} {r : List D} : pk (x0 :: x1 :: x2 :: x3 :: x4 :: r) 4 s = .ok x4 s := pk_at at_4
@[simp ↓] theorem pk5 {x0 x1 x2 x3 x4 x5 : D} {r : List D} : pk (x0 :: x1 :: x2 :: x3 :: x4 :: x5 :: r) 5 s = .ok x5 s := pk_at at_5
@[simp ↓] theorem pk6 {x0 x1 x2 x3 x4 x5 x6 : D} {r : List D} : pk (x0 :: x1 :: x2 :: x3 :: x4 :: x5 :: x6 :: r) 6 s = .ok x6 s := pk_at at_6
@[simp ↓] theorem pk7 {x0 x1 x2 x3 x4 x5 x6 x7 : D} {r : List D} : pk (x0 :: x1 :: x2 :: x3 :: x4 :: x5 :: x6 :: x7 :: r) 7 s = .ok x7 s := pk_at at_7
@[simp ↓] theorem pk8 {x0 x1 x2 x3 x4 x5 x6 x7 x8 : D} {r : List D} : pk (x0 :: x1 :: x2 :: x3 :: x4 :: x5 :: x6 :: x7 :: x8 :: r) 8 s = .ok x8 s := pk_at at_8
@[simp ↓] theorem pk9 {x0 x1 x2 x3 x4 x5 x6 x7 x8 x9 : D} {r : List D} : pk (x0 :: x1 :: x2 :: x3 :: x4 :: x5 :: x6 :: x7 :: x8 :: x9 :: r) 9 s = .ok x9 s := pk_at at_9
@[simp ↓] theorem pk10 {x0 x1 x2 x3 x4 x5 x6 x7 x8 x9 x10 : D} {r : List D} : pk (x0 :: x1 :: x2 :: x3 :: x4 :: x5 :: x6 :: x7 :: x8 :: x9 :: x10 :: r) 10 s = .ok x10 s := pk_at at_10
@[simp ↓] theorem pk11 {x0 x1 x2 x3 x4 x5 x6 x7 x8 x9 x10 x11 : D} {r : List D} : pk (x0 :: x1 :: x2 :: x3 :: x4 :: x5 :: x6 :: x7 :: x8 :: x9 :: x10 :: x11 :: r) 11 s = .ok x11 s := pk_at at_11
@[simp ↓] theorem pk12 {x0 x1 x2 x3 x4 x5 x6 x7 x8 x9 x10 x11 x12 : D} {r : List D} : pk (x0 :: x1 :: x2 :: x3 :: x4 :: x5 :: x6 :: x7 :: x8 :: x9 :: x10 :: x11 :: x12 :: r) 12 s = .ok x12 s := pk_at at_12
@[simp ↓] theorem pk13 {x0 x1 x2 x3 x4 x5 x6 x7 x8 x9 x10 x11 x12 x13 : D} {r : List D} : pk (x0 :: x1 :: x2 :: x3 :: x4 :: x5 :: x6 :: x7 :: x8 :: x9 :: x10 :: x11 :: x12 :: x13 :: r) 13 s = .ok x13 s := pk_at at_13
@[simp ↓] theorem pk14 {x0 x1 x2 x3 x4 x5 x6 x7 x8 x9 x10 x11 x12 x13 x14 : D} {r : List D} : pk (x0 :: x1 :: x2 :: x3 :: x4 :: x5 :: x6 :: x7 :: x8 :: x9 :: x10 :: x11 :: x12 :: x13 :: x14 :: r) 14 s = .ok x14 s := pk_at at_14
@[simp ↓] theorem pk15 {x0 x1 x2 x3 x4 x5 x6 x7 x8 x9 x10 x11 x12 x13 x14 x15 : D} {r : List D} : pk (x0 :: x1 :: x2 :: x3 :: x4 :: x5 :: x6 :: x7 :: x8 :: x9 :: x10 :: x11 :: x12 :: x13 :: x14 :: x15 :: r) 15 s = .ok x15 s := pk_at at_15
@[simp ↓] theorem pk16 {x0 x1 x2 x3 x4 x5 x6 x7 x8 x9 x10 x11 x12 x13 x14 x15 x16 : D} {r : List D} : pk (x0 :: x1 :: x2 :: x3 :: x4 :: x5 :: x6 :: x7 :: x8 :: x9 :: x10 :: x11 :: x12 :: x13 :: x14 :: x15 :: x16 :: r) 16 s = .ok x16 s := pk_at at_16
/-- an item by a draw -/
theorem pk_any {F : D → Sl → Prop} {g : Ex → Prop} (h0 : 0 ≤ i) (h1 : i < xs.length) (k : ∀ z ∈ xs, F z s) : (pk xs i s).el F g False := by
  have hl : i.toNat < xs.length := by omega
  have e : atI xs i = some xs[i.toNat] := by
    unfold atI ixN
    rw [if_pos h0, if_pos h1]
    exact List.getElem?_eq_getElem hl
  rw [pk_at e]
  exact k _ (List.getElem_mem hl)
theorem pk_map {α : Type} {f : α → D} {zs : List α} {F : D → Sl → Prop} {g : Ex → Prop} (h0 : 0 ≤ i) (h1 : i < zs.length) (k : ∀ z ∈ zs, F (f z) s) : (pk (zs.map f) i s).el F g False :=
  pk_any h0 (by simpa using h1) fun z hz => by
    obtain ⟨w, hw, rfl⟩ := List.mem_map.mp hz
    exact k w hw
theorem pk_last {z : D} : pk (xs ++ [z]) (-1) s = .ok z s := pk_at (by
  unfold atI ixN
  have e : (-1 + ((xs.length : Int) + 1)).toNat = xs.length := by omega
  simp only [List.length_append, List.length_cons, List.length_nil]
  simp [e]
  rw [if_pos (by omega)]
  simp)
/-! built-ins -/
@[simp ↓] theorem z_lenL : zr (bLen [.lst xs] h) s = .ok (.int (xs.length : Nat)) s := id rfl
@[simp ↓] theorem z_lenT : zr (bLen [.tup xs] h) s = .ok (.int (xs.length : Nat)) s := id rfl
@[simp ↓] theorem z_lenS (hx : x.length ≤ 16777216) : zr (bLen [.str x] h) s = .ok (.int (x.length : Nat)) s := by
  have : bLen [.str x] h = .ok (.int (x.length : Nat)) h := if_pos hx
  rw [this]
  rfl
@[simp ↓] theorem z_tupL : zr (bTuple [.lst xs] h) s = .ok (.tup xs) s := id rfl
@[simp ↓] theorem z_tupT : zr (bTuple [.tup xs] h) s = .ok (.tup xs) s := id rfl
@[simp ↓] theorem z_lstL : zr (bList [.lst xs] h) s = .ok (.lst xs) s := id rfl
@[simp ↓] theorem z_lstT : zr (bList [.tup xs] h) s = .ok (.lst xs) s := id rfl
@[simp ↓] theorem z_abs : zr (bAbs [.int i] h) s = .ok (.int (if i < 0 then -i else i)) s := id rfl
@[simp ↓] theorem z_intI : zr (bInt [.int i] h) s = .ok (.int i) s := id rfl
@[simp ↓] theorem z_intB : zr (bInt [.bl b] h) s = .ok (.int (if b then 1 else 0)) s := id rfl
@[simp ↓] theorem z_max2 : zr (bMax [.int i, .int j] h) s = .ok (.int (if j > i then j else i)) s := id rfl
@[simp ↓] theorem z_min2 : zr (bMin [.int i, .int j] h) s = .ok (.int (if j < i then j else i)) s := id rfl
@[simp ↓] theorem z_sumL : zr (bSum [.lst (intsD ns)] h) s = .ok (.int ns.sum) s := zr_en fun Q => sum_lstI (h := h)
@[simp ↓] theorem z_sumT : zr (bSum [.tup (intsD ns)] h) s = .ok (.int ns.sum) s := zr_en fun Q => sum_tupI (h := h)
@[simp ↓] theorem z_sumLm {α : Type} {f : α → Int} {zs : List α} : zr (bSum [.lst (zs.map fun z => D.int (f z))] h) s = .ok (.int (zs.map f).sum) s := by
  have := z_sumL (ns := zs.map f) (h := h) (s := s)
  unfold intsD at this
  rw [List.map_map] at this
  exact this
theorem z_maxT (hne : ns ≠ []) : zr (bMax [.tup (intsD ns)] h) s = .ok (.int (maxI ns)) s := zr_en fun Q => max_tupI (h := h) hne
theorem z_minT (hne : ns ≠ []) : zr (bMin [.tup (intsD ns)] h) s = .ok (.int (minI ns)) s := zr_en fun Q => min_tupI (h := h) hne
theorem z_maxL (hne : ns ≠ []) : zr (bMax [.lst (intsD ns)] h) s = .ok (.int (maxI ns)) s := zr_en fun Q => max_lstI (h := h) hne
theorem z_minL (hne : ns ≠ []) : zr (bMin [.lst (intsD ns)] h) s = .ok (.int (minI ns)) s := zr_en fun Q => min_lstI (h := h) hne
theorem bls_map {α : Type} {f : α → Bool} : ∀ zs : List α, blsOf (zs.map fun z => D.bl (f z)) = some (zs.map f)
  | [] => rfl
  | z :: zs => by simp [blsOf, bls_map zs]
@[simp ↓] theorem z_all {α : Type} {f : α → Bool} {zs : List α} : zr (bAll [.lst (zs.map fun z => D.bl (f z))] h) s = .ok (.bl (zs.all f)) s := by
  have : bAll [.lst (zs.map fun z => D.bl (f z))] h = .ok (.bl ((zs.map f).all id)) h := by
    simp only [bAll, seqOf, lstOf, Option.bind_some, bls_map]
  rw [this]
  simp [List.all_map]
@[simp ↓] theorem z_any {α : Type} {f : α → Bool} {zs : List α} : zr (bAny [.lst (zs.map fun z => D.bl (f z))] h) s = .ok (.bl (zs.any f)) s := by
  have : bAny [.lst (zs.map fun z => D.bl (f z))] h = .ok (.bl ((zs.map f).any id)) h := by
    simp only [bAny, seqOf, lstOf, Option.bind_some, bls_map]
  rw [this]
  simp [List.any_map]
theorem z_repr (hp : d.plain = true) (hw : d.wt ≤ sizeLine) (hd : d.deep ≤ 64) : zr (bRepr [d] h) s = .ok (.str (txt d)) s := zr_en fun Q => o_repr (h := h) hp hw hd
@[simp ↓] theorem z_reprB : zr (bRepr [.bl b] h) s = .ok (.str (txt (.bl b))) s := z_repr rfl (by simp [D.wt, sizeLine]) (by simp [D.deep])
@[simp ↓] theorem z_reprN : zr (bRepr [.non] h) s = .ok (.str (txt .non)) s := z_repr rfl (by simp [D.wt, sizeLine]) (by simp [D.deep])
theorem z_reprI (hi : i.natAbs < 2 ^ 700) : zr (bRepr [.int i] h) s = .ok (.str (txt (.int i))) s := z_repr (by simp [D.plain, hi]) (by simp [D.wt, sizeLine]) (by simp [D.deep])
@[simp ↓] theorem z_cutT {lo hi : Option Int} : zr (opCut (.tup xs) lo hi h) s = .ok (.tup (Tb.cutD xs lo hi)) s := id rfl
@[simp ↓] theorem z_cutL {lo hi : Option Int} : zr (opCut (.lst xs) lo hi h) s = .ok (.lst (Tb.cutD xs lo hi)) s := id rfl
@[simp ↓] theorem z_cutLL {lo hi : Option Int} : zr (opCutL (.lst xs) lo hi h) s = .ok (.lst (Tb.cutD xs lo hi)) s := id rfl
@[simp ↓] theorem z_cutS {lo hi : Option Int} : zr (opCut (.scr ns) lo hi h) s = .ok (.lst ((Tb.cutD ns lo hi).map .int)) s := by
  have : Tb.cutD (ns.map D.int) lo hi = (Tb.cutD ns lo hi).map .int := by
    unfold Tb.cutD
    rw [List.length_map, List.map_take, List.map_drop]
  show PR.ok (D.lst (Tb.cutD (ns.map .int) lo hi)) s = _
  rw [this]
@[simp ↓] theorem z_revT : zr (opRev (.tup xs) h) s = .ok (.tup xs.reverse) s := id rfl
@[simp ↓] theorem z_revL : zr (opRev (.lst xs) h) s = .ok (.lst xs.reverse) s := id rfl
@[simp ↓] theorem z_addT (hz : xs.length + ys.length ≤ 16777216) : zr (opAdd (.tup xs) (.tup ys) h) s = .ok (.tup (xs ++ ys)) s := zr_en fun Q => add_tup (h := h) hz
@[simp ↓] theorem z_addL (hz : xs.length + ys.length ≤ 16777216) : zr (opAdd (.lst xs) (.lst ys) h) s = .ok (.lst (xs ++ ys)) s := by
  have : opAdd (.lst xs) (.lst ys) h = .ok (.lst (xs ++ ys)) h := by
    simp only [opAdd, lstOf]
    exact if_pos hz
  rw [this]
  rfl
@[simp ↓] theorem z_addLL (hz : xs.length + ys.length ≤ 16777216) : zr (opAddL (.lst xs) (.lst ys) h) s = .ok (.lst (xs ++ ys)) s := by
  have : opAddL (.lst xs) (.lst ys) h = .ok (.lst (xs ++ ys)) h := by
    simp only [opAddL, lstOf]
    exact if_pos hz
  rw [this]
  rfl
@[simp ↓] theorem z_addS (hz : x.length + y.length ≤ 16777216) : zr (opAdd (.str x) (.str y) h) s = .ok (.str (x ++ y)) s := by
  have : opAdd (.str x) (.str y) h = .ok (.str (x ++ y)) h := if_pos hz
  rw [this]
  rfl
@[simp] theorem g_append : gAppend xs [d] = if xs.length < 16777216 then some (.non, xs ++ [d]) else none := id rfl
@[simp ↓] theorem zi_non_int : zr (bIsi [.non, .raw (.ty "int")] h) s = .ok (.bl false) s := zr_en fun Q => isi_non_int (h := h)
@[simp ↓] theorem zi_non_str : zr (bIsi [.non, .raw (.ty "str")] h) s = .ok (.bl false) s := zr_en fun Q => isi_non_str (h := h)
@[simp ↓] theorem zi_non_tuple : zr (bIsi [.non, .raw (.ty "tuple")] h) s = .ok (.bl false) s := zr_en fun Q => isi_non_tuple (h := h)
@[simp ↓] theorem zi_non_list : zr (bIsi [.non, .raw (.ty "list")] h) s = .ok (.bl false) s := zr_en fun Q => isi_non_list (h := h)
@[simp ↓] theorem zi_non_bool : zr (bIsi [.non, .raw (.ty "bool")] h) s = .ok (.bl false) s := zr_en fun Q => isi_non_bool (h := h)
@[simp ↓] theorem zi_non_dict : zr (bIsi [.non, .raw (.ty "dict")] h) s = .ok (.bl false) s := zr_en fun Q => isi_non_dict (h := h)
@[simp ↓] theorem zi_bl_int : zr (bIsi [(.bl b), .raw (.ty "int")] h) s = .ok (.bl true) s := zr_en fun Q => isi_bl_int (h := h)
@[simp ↓] theorem zi_bl_str : zr (bIsi [(.bl b), .raw (.ty "str")] h) s = .ok (.bl false) s := zr_en fun Q => isi_bl_str (h := h)
@[simp ↓] theorem zi_bl_tuple : zr (bIsi [(.bl b), .raw (.ty "tuple")] h) s = .ok (.bl false) s := zr_en fun Q => isi_bl_tuple (h := h)
@[simp ↓] theorem zi_bl_list : zr (bIsi [(.bl b), .raw (.ty "list")] h) s = .ok (.bl false) s := zr_en fun Q => isi_bl_list (h := h)
@[simp ↓] theorem zi_bl_bool : zr (bIsi [(.bl b), .raw (.ty "bool")] h) s = .ok (.bl true) s := zr_en fun Q => isi_bl_bool (h := h)
@[simp ↓] theorem zi_bl_dict : zr (bIsi [(.bl b), .raw (.ty "dict")] h) s = .ok (.bl false) s := zr_en fun Q => isi_bl_dict (h := h)
@[simp ↓] theorem zi_int_int : zr (bIsi [(.int i), .raw (.ty "int")] h) s = .ok (.bl true) s := zr_en fun Q => isi_int_int (h := h)
@[simp ↓] theorem zi_int_str : zr (bIsi [(.int i), .raw (.ty "str")] h) s = .ok (.bl false) s := zr_en fun Q => isi_int_str (h := h)
@[simp ↓] theorem zi_int_tuple : zr (bIsi [(.int i), .raw (.ty "tuple")] h) s = .ok (.bl false) s := zr_en fun Q => isi_int_tuple (h := h)
@[simp ↓] theorem zi_int_list : zr (bIsi [(.int i), .raw (.ty "list")] h) s = .ok (.bl false) s := zr_en fun Q => isi_int_list (h := h)
@[simp ↓] theorem zi_int_bool : zr (bIsi [(.int i), .raw (.ty "bool")] h) s = .ok (.bl false) s := zr_en fun Q => isi_int_bool (h := h)
@[simp ↓] theorem zi_int_dict : zr (bIsi [(.int i), .raw (.ty "dict")] h) s = .ok (.bl false) s := zr_en fun Q => isi_int_dict (h := h)
@[simp ↓] theorem zi_str_int : zr (bIsi [(.str x), .raw (.ty "int")] h) s = .ok (.bl false) s := zr_en fun Q => isi_str_int (h := h)
@[simp ↓] theorem zi_str_str : zr (bIsi [(.str x), .raw (.ty "str")] h) s = .ok (.bl true) s := zr_en fun Q => isi_str_str (h := h)
@[simp ↓] theorem zi_str_tuple : zr (bIsi [(.str x), .raw (.ty "tuple")] h) s = .ok (.bl false) s := zr_en fun Q => isi_str_tuple (h := h)
@[simp ↓] theorem zi_str_list : zr (bIsi [(.str x), .raw (.ty "list")] h) s = .ok (.bl false) s := zr_en fun Q => isi_str_list (h := h)
@[simp ↓] theorem zi_str_bool : zr (bIsi [(.str x), .raw (.ty "bool")] h) s = .ok (.bl false) s := zr_en fun Q => isi_str_bool (h := h)
@[simp ↓] theorem zi_str_dict : zr (bIsi [(.str x), .raw (.ty "dict")] h) s = .ok (.bl false) s := zr_en fun Q => isi_str_dict (h := h)
@[simp ↓] theorem zi_tup_int : zr (bIsi [(.tup xs), .raw (.ty "int")] h) s = .ok (.bl false) s := zr_en fun Q => isi_tup_int (h := h)
@[simp ↓] theorem zi_tup_str : zr (bIsi [(.tup xs), .raw (.ty "str")] h) s = .ok (.bl false) s := zr_en fun Q => isi_tup_str (h := h)
@[simp ↓] theorem zi_tup_tuple : zr (bIsi [(.tup xs), .raw (.ty "tuple")] h) s = .ok (.bl true) s := zr_en fun Q => isi_tup_tuple (h := h)
@[simp ↓] theorem zi_tup_list : zr (bIsi [(.tup xs), .raw (.ty "list")] h) s = .ok (.bl false) s := zr_en fun Q => isi_tup_list (h := h)
@[simp ↓] theorem zi_tup_bool : zr (bIsi [(.tup xs), .raw (.ty "bool")] h) s = .ok (.bl false) s := zr_en fun Q => isi_tup_bool (h := h)
@[simp ↓] theorem zi_tup_dict : zr (bIsi [(.tup xs), .raw (.ty "dict")] h) s = .ok (.bl false) s := zr_en fun Q => isi_tup_dict (h := h)
@[simp ↓] theorem zi_lst_int : zr (bIsi [(.lst xs), .raw (.ty "int")] h) s = .ok (.bl false) s := zr_en fun Q => isi_lst_int (h := h)
@[simp ↓] theorem zi_lst_str : zr (bIsi [(.lst xs), .raw (.ty "str")] h) s = .ok (.bl false) s := zr_en fun Q => isi_lst_str (h := h)
@[simp ↓] theorem zi_lst_tuple : zr (bIsi [(.lst xs), .raw (.ty "tuple")] h) s = .ok (.bl false) s := zr_en fun Q => isi_lst_tuple (h := h)
@[simp ↓] theorem zi_lst_list : zr (bIsi [(.lst xs), .raw (.ty "list")] h) s = .ok (.bl true) s := zr_en fun Q => isi_lst_list (h := h)
@[simp ↓] theorem zi_lst_bool : zr (bIsi [(.lst xs), .raw (.ty "bool")] h) s = .ok (.bl false) s := zr_en fun Q => isi_lst_bool (h := h)
@[simp ↓] theorem zi_lst_dict : zr (bIsi [(.lst xs), .raw (.ty "dict")] h) s = .ok (.bl false) s := zr_en fun Q => isi_lst_dict (h := h)
end
end Tb
end

section
set_option maxHeartbeats 4000000
namespace Tb
open PySem PySem.Spec PyProof.Rows L2
/-! ### texts -/
/-- its signs -/
abbrev sg (x : Str) : List Nat := x.cps.toList
section
variable {h : MH} {s : Sl} {x y : Str} {i j : Int} {b : Bool} {n m : Nat} {ns : List Int} {xs : List D}
theorem sg_len : (sg x).length = x.length := by simp [sg, Str.length]
@[simp] theorem sg_add : sg (x ++ y) = sg x ++ sg y := by simp [sg, PySem.Str.cps_append]
theorem len_add : (x ++ y).length = x.length + y.length := PySem.Str.length_append x y
theorem sg_cut {lo hi : Option Int} : ∀ c ∈ sg (cutS x lo hi), c ∈ sg x := fun c hc => by
  unfold cutS sg at hc
  exact List.mem_of_mem_drop (List.mem_of_mem_take hc)
theorem len_cut {lo hi : Option Int} : (cutS x lo hi).length ≤ x.length := by
  rw [← sg_len, ← sg_len]
  unfold cutS sg
  simp only [List.length_take, List.length_drop]
  omega
/-- its signs are signs -/
def SgOk (x : Str) : Prop := ∀ c ∈ sg x, c < 0x110000
theorem SgOk.lay (q : SgOk x) : PyData.canLay0 (.str x) = true := by
  show x.cps.all (· < 0x110000) = true
  rw [Array.all_eq_true_iff_forall_mem]
  intro c hc
  exact decide_eq_true (q c (by simpa [sg] using hc))
theorem SgOk.add (q : SgOk x) (r : SgOk y) : SgOk (x ++ y) := fun c hc => by
  rw [sg_add] at hc
  exact (List.mem_append.mp hc).elim (q c) (r c)
theorem SgOk.cut {lo hi : Option Int} (q : SgOk x) : SgOk (cutS x lo hi) := fun c hc => q c (sg_cut c hc)
theorem sg_one {c : Nat} : sg ⟨#[c]⟩ = [c] := rfl
theorem len_one {c : Nat} : (⟨#[c]⟩ : Str).length = 1 := rfl
theorem z_cutSt {lo hi : Option Int} (hx : x.length ≤ 16777216) : zr (opCut (.str x) lo hi h) s = .ok (.str (cutS x lo hi)) s := by
  have : opCut (.str x) lo hi h = .ok (.str (cutS x lo hi)) h := if_pos hx
  rw [this]
  rfl
/-- a sign by a draw -/
theorem ixS_any {F : D → Sl → Prop} {g : Ex → Prop} (hx : x.length ≤ 16777216) (h0 : 0 ≤ i) (h1 : i < x.length) (k : ∀ c ∈ sg x, F (.str ⟨#[c]⟩) s) : (zr (opIx (.str x) (.int i) h) s).el F g False := by
  have hl : i.toNat < (sg x).length := by rw [sg_len]; omega
  have e : atI (sg x) i = some (sg x)[i.toNat] := by
    unfold atI ixN
    rw [if_pos h0, if_pos (by rw [sg_len]; exact h1)]
    exact List.getElem?_eq_getElem hl
  have e2 : opIx (.str x) (.int i) h = .ok (.str ⟨#[(sg x)[i.toNat]]⟩) h := by
    unfold opIx
    simp only
    rw [if_pos (show x.length ≤ sizeLine from hx)]
    simp only [show x.cps.toList = sg x from rfl, e]
  rw [e2]
  exact k _ (List.getElem_mem hl)
@[simp ↓] theorem z_in1 {c : Nat} : zr (opIn b (.str ⟨#[c]⟩) (.str x) h) s = .ok (.bl (flip b (decide (c ∈ sg x)))) s := by
  have : opIn b (.str ⟨#[c]⟩) (.str x) h = .ok (.bl (flip b (decide (c ∈ sg x)))) h := by
    unfold opIn
    simp only
    rw [PySem.StrLaws.found_one]
  rw [this]
  rfl
@[simp ↓] theorem z_ord1 {c : Nat} : zr (bOrd [.str ⟨#[c]⟩] h) s = .ok (.int (c : Nat)) s := id rfl
@[simp] theorem flip_f : flip false b = b := by simp [flip]
@[simp] theorem flip_t : flip true b = !b := by simp [flip]
@[simp ↓] theorem z_inI : zr (opIn b (.int i) (.tup (intsD ns)) h) s = .ok (.bl (flip b (ns.any fun n => decide (n = i)))) s := by
  have e1 : toPs (intsD ns) = some (ns.map .int) := by
    have := toP_tupI (ns := ns) (h := h)
    simp only [toD, toP, Option.map_eq_some_iff] at this
    obtain ⟨ps, h1, h2⟩ := this
    cases h2
    exact h1
  have e2 : SeqAt.shaped (.list (ns.map .int)) = true := shaped_lstI
  have e3 : ∀ ms : List Int, ((ms.map PyData.int).any fun z => PyData.eqv z (.int i)) = ms.any fun n => decide (n = i) := fun ms => by
    induction ms with
    | nil => rfl
    | cons m ms ih => simp only [List.map_cons, List.any_cons, ih, eqv_int]
  have : opIn b (.int i) (.tup (intsD ns)) h = .ok (.bl (flip b (ns.any fun n => decide (n = i)))) h := by
    simp only [opIn, toD, toP, seqOf, Option.bind_some, e1]
    rw [if_pos ⟨rfl, e2⟩, e3]
  rw [this]
  rfl
theorem toPs_strs : ∀ ss : List Str, toPs (ss.map .str) = some (ss.map .str)
  | [] => rfl
  | n :: ns => by simp only [List.map_cons, toPs, toP, toPs_strs ns]
theorem lay_strs : ∀ {ss : List Str}, (∀ x ∈ ss, SgOk x) → PyData.canLayAll0 (ss.map .str) = true
  | [], _ => rfl
  | n :: ns, h => by
    simp only [List.map_cons, PyData.canLayAll0, Bool.and_eq_true]
    exact ⟨(h n List.mem_cons_self).lay, lay_strs fun x hx => h x (List.mem_cons_of_mem _ hx)⟩
theorem depth_strs : ∀ ss : List Str, PyData.depthAll (ss.map .str) = 0
  | [] => rfl
  | n :: ns => by simp only [List.map_cons, PyData.depthAll, PyData.depth, depth_strs ns]; rfl
theorem eqv_str : PyData.eqv (.str x) (.str y) = decide (x = y) := by
  simp only [PyData.eqv]
  exact Bool.eq_iff_iff.mpr (by simp)
theorem shaped_str (q : SgOk x) : SeqAt.shaped (.str x) = true := by
  unfold SeqAt.shaped
  rw [q.lay]
  rfl
theorem z_inS {ss : List Str} (q : SgOk x) (qs : ∀ x ∈ ss, SgOk x) : zr (opIn b (.str x) (.lst (ss.map .str)) h) s = .ok (.bl (flip b (ss.any fun y => decide (y = x)))) s := by
  have e2 : SeqAt.shaped (.list (ss.map .str)) = true := by
    unfold SeqAt.shaped
    simp only [PyData.canLay0, lay_strs qs, Bool.true_and, PyData.depth, depth_strs]
    rfl
  have e3 : ∀ ms : List Str, ((ms.map PyData.str).any fun z => PyData.eqv z (.str x)) = ms.any fun n => decide (n = x) := fun ms => by
    induction ms with
    | nil => rfl
    | cons m ms ih => simp only [List.map_cons, List.any_cons, ih, eqv_str]
  have : opIn b (.str x) (.lst (ss.map .str)) h = .ok (.bl (flip b (ss.any fun y => decide (y = x)))) h := by
    simp only [opIn, toD, toP, seqOf, lstOf, Option.bind_some, toPs_strs]
    rw [if_pos ⟨shaped_str q, e2⟩, e3]
  rw [this]
  rfl
theorem z_inNil (q : SgOk x) : zr (opIn b (.str x) (.lst []) h) s = .ok (.bl (flip b false)) s := z_inS (ss := []) q fun _ z => by cases z
@[simp ↓] theorem z_eqNN : zr (opEq (.lst []) (.lst []) h) s = .ok (.bl true) s := z_eqNil (ns := [])
@[simp ↓] theorem z_neNN : zr (opNe (.lst []) (.lst []) h) s = .ok (.bl false) s := z_neNil (ns := [])
/-! great numbers -/
theorem cmul_big (h1 : i.natAbs < 10000000000000000000000000000000000000000000000000000000000000000000000000000000000000000000000000000000000000000000000000000000000000000000000000000000000000000000000000000000000000000000000000000000000000000000000000000000000000000000000000000000000000000000000000000000000000000000000000000000000000000000000000000000000000000000000000000000000000000000000000000000000000000000000000000000000000000) (h2 : j.natAbs < 10000000000000000000000000000000000000000000000000000000000000000000000000000000000000000000000000000000000000000000000000000000000000000000000000000000000000000000000000000000000000000000000000000000000000000000000000000000000000000000000000000000000000000000000000000000000000000000000000000000000000000000000000000000000000000000000000000000000000000000000000000000000000000000000000000000000000000) : CMulW i j := by
  have b : ∀ n : Nat, n < 10000000000000000000000000000000000000000000000000000000000000000000000000000000000000000000000000000000000000000000000000000000000000000000000000000000000000000000000000000000000000000000000000000000000000000000000000000000000000000000000000000000000000000000000000000000000000000000000000000000000000000000000000000000000000000000000000000000000000000000000000000000000000000000000000000000000000000 → n.log2 < 1330 := fun n q => by
    by_cases z : n = 0
    · rw [z]; decide
    · exact (Nat.log2_lt z).mpr (Nat.lt_trans q (by decide +kernel))
  have := b _ h1
  have := b _ h2
  unfold CMulW
  omega
@[simp ↓] theorem z_mulB (h1 : -10000000000000000000000000000000000000000000000000000000000000000000000000000000000000000000000000000000000000000000000000000000000000000000000000000000000000000000000000000000000000000000000000000000000000000000000000000000000000000000000000000000000000000000000000000000000000000000000000000000000000000000000000000000000000000000000000000000000000000000000000000000000000000000000000000000000000000 < i) (h2 : i < 10000000000000000000000000000000000000000000000000000000000000000000000000000000000000000000000000000000000000000000000000000000000000000000000000000000000000000000000000000000000000000000000000000000000000000000000000000000000000000000000000000000000000000000000000000000000000000000000000000000000000000000000000000000000000000000000000000000000000000000000000000000000000000000000000000000000000000) (h3 : -10000000000000000000000000000000000000000000000000000000000000000000000000000000000000000000000000000000000000000000000000000000000000000000000000000000000000000000000000000000000000000000000000000000000000000000000000000000000000000000000000000000000000000000000000000000000000000000000000000000000000000000000000000000000000000000000000000000000000000000000000000000000000000000000000000000000000000 < j) (h4 : j < 10000000000000000000000000000000000000000000000000000000000000000000000000000000000000000000000000000000000000000000000000000000000000000000000000000000000000000000000000000000000000000000000000000000000000000000000000000000000000000000000000000000000000000000000000000000000000000000000000000000000000000000000000000000000000000000000000000000000000000000000000000000000000000000000000000000000000000) : zr (opMul (.int i) (.int j) h) s = .ok (.int (i * j)) s := by
  have hz : CMulW i j := cmul_big (by omega) (by omega)
  have : opMul (.int i) (.int j) h = .ok (.int (i * j)) h := if_pos (.inr (.inr hz))
  rw [this]
  rfl
@[simp] theorem g_extend {ys : List D} : gExtend xs [.lst ys] = if xs.length + ys.length ≤ 16777216 then some (.non, xs ++ ys) else none := id rfl
/-! is True -/
@[simp ↓] theorem z_isI {i : Int} {c : Bool} : zr (opIs (.int i) (.bl c) h) s = .ok (.bl false) s := id rfl
@[simp ↓] theorem z_isN {c : Bool} : zr (opIs .non (.bl c) h) s = .ok (.bl false) s := id rfl
@[simp ↓] theorem z_isS {c : Bool} : zr (opIs (.str x) (.bl c) h) s = .ok (.bl false) s := id rfl
@[simp ↓] theorem z_isT {c : Bool} : zr (opIs (.tup xs) (.bl c) h) s = .ok (.bl false) s := id rfl
@[simp ↓] theorem z_isL {c : Bool} : zr (opIs (.lst xs) (.bl c) h) s = .ok (.bl false) s := id rfl
@[simp ↓] theorem z_isnB {a c : Bool} : zr (opIsNot (.bl a) (.bl c) h) s = .ok (.bl (!decide (a = c))) s := id rfl
@[simp ↓] theorem z_isnI {i : Int} {c : Bool} : zr (opIsNot (.int i) (.bl c) h) s = .ok (.bl true) s := id rfl
@[simp ↓] theorem z_isnN {c : Bool} : zr (opIsNot .non (.bl c) h) s = .ok (.bl true) s := id rfl
@[simp ↓] theorem z_isnS {c : Bool} : zr (opIsNot (.str x) (.bl c) h) s = .ok (.bl true) s := id rfl
@[simp ↓] theorem z_isnT {c : Bool} : zr (opIsNot (.tup xs) (.bl c) h) s = .ok (.bl true) s := id rfl
@[simp ↓] theorem z_isnL {c : Bool} : zr (opIsNot (.lst xs) (.bl c) h) s = .ok (.bl true) s := id rfl
theorem z_strI {i : Int} (q : i.natAbs < 2 ^ 700) : zr (bStr [.int i] h) s = .ok (.str (toString i)) s := by
  have h2 : i.natAbs.log2 < 1920 := by
    by_cases z : i.natAbs = 0
    · rw [z]; decide
    · have := (Nat.log2_lt z).mpr q
      omega
  have : bStr [.int i] h = .ok (.str (toString i)) h := if_pos h2
  rw [this]
  rfl
end
end Tb
end

section
set_option maxHeartbeats 4000000
namespace Tb
open PySem PySem.Spec PyProof.Rows L2
/-! ## a call whose last thing is a list made for it -/
def pCallN (N n : Nat) (P : PF) (dv : List D) (sh : List (Option Nat)) (dst : List Nat) (x : PA) : PE := fun s => (x s).bind fun ds s1 => if s1.length = N then (match lateS sh ds (s1 ++ [ds.getLast?]) with
  | some es => if es.length + dv.length = n then (match P (es ++ dv) with
    | .ok d o => .ok d (putOuts dst o s1)
    | .exc e => .exc e
    | .bad => .bad) else .bad
  | none => .bad) else .bad
section
variable {b : Bool} {T : SC} {Y : DY} {s ps ps1 : Sl} {h h1 : MH} {i j k n np : Nat} {ma : MA} {qA : PA} {F : Fn} {P : PF} {io rd : List Nat} {dv xs : List D} {sh : List (Option Nat)} {a : ME} {pa : PE} {dst : List Nat}
def RelN (T : SC) (Y : DY) (s ps : Sl) (h : MH) (sh : List (Option Nat)) (rm : R (List D)) (rq : PR (List D)) : Prop := match rq with
  | .ok es ps' => ∃ ds fs n xs h', rm = .ok (ds ++ [.ref n]) h' ∧ es = fs ++ [.lst xs] ∧ LateR s sh ds fs ∧ NewL Y s ps' h' n xs ∧ St T Y s ps' h'
  | .exc e => ∃ h', rm = .exc e h' ∧ FrY Y h' ∧ e.nr
  | .bad => True
def SimN (T : SC) (sh : List (Option Nat)) (m : MA) (q : PA) : Prop := ∀ Y s ps h, St T Y s ps h → RelN T Y s ps h sh (m s h) (q ps)
theorem sn_last (ha : SimH false T a pa) : SimN T [] (mCons a mNil) (pCons pa pNil) := fun Y s ps h st => by
  have r := ha Y s ps h st
  show RelN T Y s ps h _ ((a s h).bind _) ((pa ps).bind _)
  cases e : pa ps with
  | ok d ps1 =>
    rw [e] at r
    obtain ⟨n, xs, h1, e1, rfl, nl, st1, q⟩ := r
    rw [e1]
    exact ⟨[], [], n, xs, h1, rfl, rfl, trivial, nl, st1⟩
  | exc x =>
    rw [e] at r
    obtain ⟨h2, e1, q⟩ := r
    rw [e1]
    exact ⟨h2, rfl, q⟩
  | bad => trivial
theorem sn_cons {o : Option Nat} {d p : D} (st1 : St T Y s ps1 h1) (ht : SimN T sh ma qA) (hz : ∀ ds es, LateR s sh ds es → LateR s (o :: sh) (d :: ds) (p :: es)) : RelN T Y s ps h (o :: sh) ((ma s h1).bind fun xs h2 => .ok (d :: xs) h2) ((qA ps1).bind fun xs s2 => .ok (p :: xs) s2) := by
  have r := ht Y s ps1 h1 st1
  cases e : qA ps1 with
  | ok es ps2 =>
    rw [e] at r
    obtain ⟨ds, fs, n, xs, h2, e1, rfl, lr, nl, st2⟩ := r
    rw [e1]
    exact ⟨d :: ds, p :: fs, n, xs, h2, rfl, rfl, hz ds fs lr, nl, st2⟩
  | exc x =>
    rw [e] at r
    obtain ⟨h2, e1, q⟩ := r
    rw [e1]
    exact ⟨h2, rfl, q⟩
  | bad => trivial
theorem sn_val (ha : Sim false T a pa) (ht : SimN T sh ma qA) : SimN T (none :: sh) (mCons a ma) (pCons pa qA) := fun Y s ps h st => by
  have r := ha Y s ps h st
  show RelN T Y s ps h _ ((a s h).bind _) ((pa ps).bind _)
  cases e : pa ps with
  | ok d ps1 =>
    rw [e] at r
    obtain ⟨h1, e1, n, st1, q⟩ := r
    rw [e1]
    exact sn_cons st1 ht fun ds es lr => ⟨rfl, n, lr⟩
  | exc x =>
    rw [e] at r
    obtain ⟨h2, e1, q⟩ := r
    rw [e1]
    exact ⟨h2, rfl, q⟩
  | bad => trivial
theorem sn_late (ht : SimN T sh ma qA) : SimN T (some i :: sh) (mCons (mVar i) ma) (pCons (pVar i) qA) := fun Y s ps h st => by
  show RelN T Y s ps h _ ((mVar i s h).bind _) ((pVar i ps).bind _)
  cases e : pVar i ps with
  | exc x => exact absurd e pVar_exc
  | bad => trivial
  | ok p ps1 =>
    obtain ⟨rfl, ep⟩ := pVar_ok e
    obtain ⟨d, es, rv⟩ := st.rv ep
    have em : mVar i s h = .ok d h := by
      unfold mVar
      simp only [es]
    rw [em]
    exact sn_cons st ht fun ds es' lr => ⟨es, lr⟩
theorem LateR.ext {x : Option D} {d : D} (hx : x = some d) : ∀ {sh : List (Option Nat)} {ds es : List D} {e : D}, LateR s sh ds es → LateR (s ++ [x]) (sh ++ [some s.length]) (ds ++ [d]) (es ++ [e])
  | [], [], [], e, _ => ⟨by rw [List.getElem?_append_right (Nat.le_refl _)]; simp [hx], trivial⟩
  | none :: sh, d :: ds, e :: es, _, ⟨a, b, c⟩ => ⟨a, b, LateR.ext hx c⟩
  | some i :: sh, d :: ds, e :: es, _, ⟨a, c⟩ => ⟨by rw [List.getElem?_append_left (get_lt a)]; exact a, LateR.ext hx c⟩
  | [], _ :: _, _, _, r => r.elim
  | [], [], _ :: _, _, r => r.elim
  | none :: _, [], _, _, r => r.elim
  | none :: _, _ :: _, [], _, r => r.elim
  | some _ :: _, [], _, _, r => r.elim
  | some _ :: _, _ :: _, [], _, r => r.elim
theorem at_ext {α : Type} {l : List α} {x y : α} {i : Nat} (e : (l ++ [x])[i]? = some y) : (i = l.length ∧ y = x) ∨ (i < l.length ∧ l[i]? = some y) := by
  by_cases hi : i < l.length
  · rw [List.getElem?_append_left hi] at e
    exact .inr ⟨hi, e⟩
  · have := get_lt e
    simp only [List.length_append, List.length_singleton] at this
    have hl : i = l.length := by omega
    subst hl
    rw [List.getElem?_append_right (Nat.le_refl _)] at e
    simp at e
    exact .inl ⟨rfl, e.symm⟩
theorem at_old {α : Type} {l : List α} {x : α} {i : Nat} (hi : i < l.length) : (l ++ [x])[i]? = l[i]? := List.getElem?_append_left hi
theorem at_new {α : Type} {l : List α} {x : α} : (l ++ [x])[l.length]? = some x := by
  rw [List.getElem?_append_right (Nat.le_refl _)]
  simp
theorem st_ext (st : St T Y s ps h) (nl : NewL Y s ps h n xs) : St ⟨ps.length :: T.K, T.Rd, [], T.rH⟩ Y (s ++ [some (.ref n)]) (ps ++ [some (.lst xs)]) h := by
  obtain ⟨n1, n2, n3, n4, n5⟩ := nl
  have kk : ∀ {i : Nat}, i < ps.length → (i ∈ ps.length :: T.K ↔ i ∈ T.K) := fun {i} hi => by
    simp only [List.mem_cons]
    exact ⟨fun z => z.resolve_left (by omega), .inr⟩
  refine ⟨by simp [st.len], fun i p e => ?_, fun i m p hi e em => ?_, fun i m p hi e em => ?_, st.frm, st.nxt, st.io, fun i hi => by cases hi⟩
  · rcases at_ext e with ⟨rfl, e2⟩ | ⟨hl, e2⟩
    · cases e2
      refine ⟨.ref n, by rw [← st.len]; exact at_new, fun _ => ⟨n, xs, rfl, n2, n3, rfl, n1⟩, fun z => absurd (List.mem_cons_self ..) z, fun z => absurd (List.mem_cons_self ..) z⟩
    · obtain ⟨d, es, a, b, c⟩ := st.val i p e2
      exact ⟨d, by rw [at_old (get_lt es)]; exact es, fun z => a ((kk hl).mp z), fun z => b fun y => z ((kk hl).mpr y), fun z => c fun y => z ((kk hl).mpr y)⟩
  · rcases at_ext e with ⟨rfl, e2⟩ | ⟨hl, e2⟩
    · rw [← st.len, at_new] at em
      cases em
      refine ⟨.inr n4, fun j q hj ej => ?_⟩
      rcases at_ext ej with ⟨rfl, _⟩ | ⟨hl, e3⟩
      · exact absurd rfl hj
      · rw [at_old (by rw [st.len]; exact hl)]
        exact n5 j q e3
    · rw [at_old (by rw [st.len]; exact hl)] at em
      obtain ⟨a, b⟩ := st.sep i m p ((kk hl).mp hi) e2 em
      refine ⟨a, fun j q hj ej => ?_⟩
      rcases at_ext ej with ⟨rfl, _⟩ | ⟨hl, e3⟩
      · rw [← st.len, at_new]
        intro z
        cases z
        exact n5 i p e2 em
      · rw [at_old (by rw [st.len]; exact hl)]
        exact b j q hj e3
  · rcases at_ext e with ⟨rfl, e2⟩ | ⟨hl, e2⟩
    · exact absurd (List.mem_cons_self ..) hi
    · rw [at_old (by rw [st.len]; exact hl)] at em
      exact st.rdo i m p (fun y => hi ((kk hl).mpr y)) e2 em
theorem st_cut {x y : Option D} (hf : ∀ i ∈ T.Fx, s[i]? = Y.s0[i]?) (st : St ⟨ps.length :: T.K, T.Rd, [], T.rH⟩ Y (s ++ [x]) (ps ++ [y]) h) : St T Y s ps h := by
  have len : s.length = ps.length := by have := st.len; simpa using this
  have kk : ∀ {i : Nat}, i < ps.length → (i ∈ ps.length :: T.K ↔ i ∈ T.K) := fun {i} hi => by
    simp only [List.mem_cons]
    exact ⟨fun z => z.resolve_left (by omega), .inr⟩
  have up : ∀ {i : Nat} {p : D}, ps[i]? = some (some p) → i < ps.length ∧ (ps ++ [y])[i]? = some (some p) := fun {i p} e => ⟨get_lt e, by rw [at_old (get_lt e)]; exact e⟩
  have ups : ∀ {i : Nat}, i < ps.length → (s ++ [x])[i]? = s[i]? := fun {i} hl => at_old (by omega)
  refine ⟨len, fun i p e => ?_, fun i m p hi e em => ?_, fun i m p hi e em => ?_, st.frm, st.nxt, st.io, hf⟩
  · obtain ⟨hl, e2⟩ := up e
    obtain ⟨d, es, a, b, c⟩ := st.val i p e2
    rw [ups hl] at es
    exact ⟨d, es, fun z => a ((kk hl).mpr z), fun z => b fun y => z ((kk hl).mp y), fun z => c fun y => z ((kk hl).mp y)⟩
  · obtain ⟨hl, e2⟩ := up e
    obtain ⟨a, b⟩ := st.sep i m p ((kk hl).mpr hi) e2 ((ups hl).trans em)
    refine ⟨a, fun j q hj ej => ?_⟩
    obtain ⟨hl2, e3⟩ := up ej
    have := b j q hj e3
    rwa [ups hl2] at this
  · obtain ⟨hl, e2⟩ := up e
    exact st.rdo i m p (fun y => hi ((kk hl).mp y)) e2 ((ups hl).trans em)
theorem put_ext {x : Option D} : ∀ {dst : List Nat} {os s : Sl}, ∃ y, putOuts dst os (s ++ [x]) = putOuts dst os s ++ [y]
  | [], os, s => ⟨x, by simp [putOuts]⟩
  | i :: is, [], s => ⟨x, by simp [putOuts]⟩
  | i :: is, o :: os, s => by
    unfold putOuts
    by_cases hi : i < s.length
    · rw [List.set_append_left _ _ hi]
      exact put_ext
    · rw [List.set_append_right _ _ (by omega), List.set_eq_of_length_le (l := s) (i := i) (by omega)]
      by_cases h0 : i - s.length = 0
      · rw [h0]
        exact put_ext (x := o)
      · rw [List.set_eq_of_length_le (l := [x]) (by simp; omega)]
        exact put_ext
theorem sim_callN {N : Nat} (S : SimF np io rd false F P) (hc : callOk (N :: T.K) io rd (sh ++ [some N]) dst = true) (hd : nrs dv = true) (ha : SimN T sh ma qA) : Sim false T (mCall np F dv ma) (pCallN N np P dv (sh ++ [some N]) dst qA) := fun Y s ps h st => by
  have r := ha Y s ps h st
  show RelE false T Y s ps h ((ma s h).bind _) ((qA ps).bind _)
  cases e : qA ps with
  | ok es ps1 =>
    rw [e] at r
    obtain ⟨ds, fs, n, xs, h1, e1, rfl, lr, nl, st1⟩ := r
    rw [e1]
    refine RelE.from (ps1 := ps1) (h1 := h1) (fun z => by cases z) ?_
    show RelE false T Y s ps1 h1 (if (ds ++ [D.ref n]).length + dv.length = np then F ((ds ++ [D.ref n]) ++ dv) h1 else .bad) (if ps1.length = N then (match lateS (sh ++ [some N]) (fs ++ [.lst xs]) (ps1 ++ [(fs ++ [D.lst xs]).getLast?]) with
      | some es => if es.length + dv.length = np then (match P (es ++ dv) with
        | .ok d o => .ok d (putOuts dst o ps1)
        | .exc e => .exc e
        | .bad => .bad) else .bad
      | none => .bad) else .bad)
    by_cases hN : ps1.length = N
    · subst hN
      rw [if_pos rfl, List.getLast?_concat]
      have st' := st_ext st1 nl
      have lr' := lr.ext (x := some (.ref n)) rfl (e := .lst xs)
      rw [st1.len] at lr'
      cases el : lateS (sh ++ [some ps1.length]) (fs ++ [.lst xs]) (ps1 ++ [some (.lst xs)]) with
      | none => exact trivial
      | some gs =>
        obtain ⟨l1, l2, _⟩ := late_get lr' el
        simp only
        by_cases hl : gs.length + dv.length = np
        · rw [if_pos hl, if_pos (by omega)]
          have c := call_core (dst := dst) S hc st' lr' el hl hd
          cases eP : P (gs ++ dv) with
          | ok p o =>
            rw [eP] at c
            obtain ⟨d, h', f1, f2, fo, f3, f5, f4, _⟩ := c
            obtain ⟨rfl, nd⟩ := f4 rfl
            obtain ⟨y, ey⟩ := put_ext (x := some (.lst xs)) (dst := dst) (os := o) (s := ps1)
            rw [ey] at f2
            have f6 : St T Y s (putOuts dst o ps1) h' := st_cut st1.fix (by rw [put_len]; exact f2)
            exact ⟨h', f1, nd, f6, fun z => by cases z⟩
          | exc x =>
            rw [eP] at c
            exact c
          | bad => exact trivial
        · rw [if_neg hl]
          exact trivial
    · rw [if_neg hN]
      exact trivial
  | exc x =>
    rw [e] at r
    obtain ⟨h2, e1, q⟩ := r
    rw [e1]
    exact ⟨h2, rfl, q⟩
  | bad => trivial
end
section
variable {β : Sort u} {F : D → Sl → β} {g : Ex → β} {b : β} {s : Sl} {a : PA} {n N : Nat}
@[simp ↓] theorem e_callN {P : PF} {dv : List D} {sh : List (Option Nat)} {dst : List Nat} : (pCallN N n P dv sh dst a s).el F g b = (a s).el (fun ds s1 => if s1.length = N then (match lateS sh ds (s1 ++ [ds.getLast?]) with | some es => if es.length + dv.length = n then (P (es ++ dv)).el (fun d o => F d (putOuts dst o s1)) g b else b | none => b) else b) g b := el_bind.trans (el_ext fun ds s1 => by
  by_cases hN : s1.length = N
  · rw [if_pos hN, if_pos hN]
    cases lateS sh ds (s1 ++ [ds.getLast?]) with
    | none => rfl
    | some es =>
      simp only
      by_cases hl : es.length + dv.length = n
      · rw [if_pos hl, if_pos hl]
        cases P (es ++ dv) <;> rfl
      · rw [if_neg hl, if_neg hl]
        rfl
  · rw [if_neg hN, if_neg hN]
    rfl)
end
end Tb
end

section
set_option maxHeartbeats 4000000
namespace Tb
open PySem PySem.Spec PyProof.Rows L2
universe u
/-! ## methods of texts, built-in functions by keywords -/
def isStrD : D → Bool
  | .str _ => true
  | _ => false
def pMethS (f : FB) (x : PE) (a : PA) : PE := fun s => (x s).bind fun d s1 => if isStrD d = true then (a s1).bind fun ds s2 => zr (f (d :: ds) MH.zero) s2 else .bad
def pCallBK (n l : Nat) (f : FB) (x y : PA) : PE := fun s => (x s).bind fun ds s1 => (y s1).bind fun es s2 => if ds.length = n ∧ es.length = l then zr (f (ds ++ es) MH.zero) s2 else .bad
section
variable {b : Bool} {T : SC} {n l : Nat} {ma mb : MA} {qA qB : PA} {a : ME} {pa : PE} {f : FB}
theorem sim_methS (ha : Sim b T a pa) (hb : Sim b T ma qA) (o : FbOk f) : Sim b T (mMeth "str" (lOf f) a ma) (pMethS f pa qA) := fun Y s ps h st =>
  (ha Y s ps h st).bind fun d ps1 h1 st1 nd => by
    cases d with
    | str x =>
      show RelE b T Y s ps1 h1 ((ma s h1).bind _) ((qA ps1).bind _)
      exact (hb Y s ps1 h1 st1).bind fun ds ps2 h2 st2 ns => o.rel st2 (RvL.refl (by simp only [nrs, D.nr, Bool.true_and]; exact ns))
    | _ => exact trivial
theorem sim_callBK (ha : Sim b T ma qA) (hb : Sim b T mb qB) (o : FbOk f) : Sim b T (mCallBK n l f ma mb) (pCallBK n l f qA qB) := fun Y s ps h st =>
  (ha Y s ps h st).bind fun ds ps1 h1 st1 nd => (hb Y s ps1 h1 st1).bind fun es ps2 h2 st2 ne => by
    by_cases hl : ds.length = n ∧ es.length = l
    · rw [if_pos hl, if_pos hl]
      exact o.rel st2 (RvL.refl (nrs_append nd ne))
    · rw [if_neg hl, if_neg hl]
      exact trivial
end
theorem ok_bSIndex : FbOk bSIndex := by
  refine ⟨fun h ds ps a hz r e => ?_, fun h ds ps e hz r => ?_⟩
  · unfold bSIndex at e
    split at e
    · obtain ⟨d, d', rfl, r1, r2⟩ := r.pair
      obtain rfl := r1.str
      obtain rfl := r2.str
      split at e
      · rename_i e1
        cases e
        exact ⟨by simp only [bSIndex, e1], rfl⟩
      · cases e
    · cases e
  · unfold bSIndex
    split <;> (try split) <;> simp
theorem ok_bMaxD : FbOk bMaxD := by
  refine ⟨fun h ds ps a hz r e => ?_, fun h ds ps e hz r => ?_⟩
  · unfold bMaxD at e
    split at e
    · obtain ⟨d, d', rfl, r1, r2⟩ := r.pair
      obtain rfl := r2.int
      split at e
      · rename_i e1
        have e2 := seq_look r1 e1
        cases e
        exact ⟨by simp only [bMaxD, e2], rfl⟩
      · rename_i e1
        have e2 := seq_look r1 e1
        cases e
        exact ⟨by simp only [bMaxD, e2], rfl⟩
      · cases e
    · cases e
  · unfold bMaxD
    split <;> (try split) <;> simp
section
variable {β : Sort u} {F : D → Sl → β} {g : Ex → β} {b : β} {s : Sl} {x : PE} {a a' : PA} {n l : Nat} {f : FB} {h : MH} {i j : Int} {c : Nat} {y z : Str} {ns : List Int}
@[simp ↓] theorem e_methS : (pMethS f x a s).el F g b = (x s).el (fun d s1 => if isStrD d = true then (a s1).el (fun ds s2 => (zr (f (d :: ds) MH.zero) s2).el F g b) g b else b) g b := el_bind.trans (el_ext fun d s1 => by
  by_cases hd : isStrD d = true
  · rw [if_pos hd, if_pos hd]
    exact el_bind
  · rw [if_neg hd, if_neg hd]
    rfl)
@[simp ↓] theorem e_callBK : (pCallBK n l f a a' s).el F g b = (a s).el (fun ds s1 => (a' s1).el (fun es s2 => if ds.length = n ∧ es.length = l then (zr (f (ds ++ es) MH.zero) s2).el F g b else b) g b) g b := el_bind.trans (el_ext fun _ _ => el_bind.trans (el_ext fun _ _ => by
  split <;> rfl))
@[simp] theorem isStrD_str : isStrD (.str y) = true := id rfl
@[simp ↓] theorem z_repS (h0 : 0 ≤ i) (h1 : i < 1000) (h2 : y.length ≤ 1000) : zr (opRep (.str y) (.int i) h) s = .ok (.str (repS y i.toNat)) s := by
  have hz : -(2 ^ 63) ≤ i ∧ i < 2 ^ 63 ∧ y.length * i.toNat ≤ sizeLine := by
    refine ⟨by omega, by omega, ?_⟩
    have : y.length * i.toNat ≤ 1000 * 1000 := Nat.mul_le_mul h2 (by omega)
    have : (1000 * 1000 : Nat) ≤ sizeLine := by decide
    omega
  have e : opRep (.str y) (.int i) h = .ok (.str (repS y i.toNat)) h := if_pos hz
  rw [e]
  rfl
theorem sg_rep : ∀ n : Nat, sg (repS y n) = (List.replicate n (sg y)).flatten := fun n => by
  have h : ∀ (n : Nat) (b : Array Nat), ((List.replicate n y.cps).foldl (· ++ ·) b).toList = b.toList ++ (List.replicate n (sg y)).flatten := fun n => by
    induction n with
    | zero => intro b; simp
    | succ n ih => intro b; rw [List.replicate_succ, List.foldl_cons, ih]; simp [sg, List.replicate_succ]
  show ((List.replicate n y.cps).foldl (· ++ ·) #[]).toList = _
  rw [h]
  simp
theorem z_sindex {i : Nat} (e : (Builtin.Str.occurrences y z 0 y.length 1).head? = some i) : zr (bSIndex [.str y, .str z] h) s = .ok (.int (i : Int)) s := by
  have : bSIndex [.str y, .str z] h = .ok (.int (i : Int)) h := by
    unfold bSIndex
    simp only
    cases q : Builtin.Str.occurrences y z 0 y.length 1 with
    | nil => rw [q] at e; cases e
    | cons k r => rw [q] at e; cases e; rfl
  rw [this]
  rfl
/-- the greatest, or what is told where there is none -/
def maxD0 (ns : List Int) (z : Int) : Int := match ns with
  | [] => z
  | n :: ns => maxI (n :: ns)
theorem z_maxDT : zr (bMaxD [.tup (intsD ns), .int i] h) s = .ok (.int (maxD0 ns i)) s := by
  have e : (seqOf h (.tup (intsD ns))).bind intsOf = some ns := intsOf_ints
  have : bMaxD [.tup (intsD ns), .int i] h = .ok (.int (maxD0 ns i)) h := by
    unfold bMaxD
    simp only [e]
    cases ns <;> rfl
  rw [this]
  rfl
@[simp ↓] theorem z_maxD : zr (bMaxD [.lst (intsD ns), .int i] h) s = .ok (.int (maxD0 ns i)) s := by
  have e : (seqOf h (.lst (intsD ns))).bind intsOf = some ns := intsOf_ints
  have : bMaxD [.lst (intsD ns), .int i] h = .ok (.int (maxD0 ns i)) h := by
    unfold bMaxD
    simp only [e]
    cases ns <;> rfl
  rw [this]
  rfl
theorem maxD0_mem {z : Int} : (ns = [] ∧ maxD0 ns z = z) ∨ (maxD0 ns z ∈ ns ∧ ∀ y ∈ ns, y ≤ maxD0 ns z) := by
  cases ns with
  | nil => exact .inl ⟨rfl, rfl⟩
  | cons n ns => exact .inr maxI_mem
/-- the sign at a place -/
theorem z_ixS (hx : y.length ≤ 16777216) (e : atI (sg y) i = some c) : zr (opIx (.str y) (.int i) h) s = .ok (.str ⟨#[c]⟩) s := by
  have e2 : opIx (.str y) (.int i) h = .ok (.str ⟨#[c]⟩) h := by
    unfold opIx
    simp only
    rw [if_pos (show y.length ≤ sizeLine from hx)]
    simp only [show y.cps.toList = sg y from rfl, e]
  rw [e2]
  rfl
end
/-! ## while -/
section
variable {N B C : Sl → Prop} {T : D → Sl → Prop} {G : Ex → Prop} {t : PT} {q : PS'} {s : Sl} {n : Nat}
theorem whileP_inv (I : Nat → Sl → Prop) (J : Sl → Prop) (step : ∀ k s, I k s → (t s).el (fun b s1 => if b = true then ∃ m, k = m + 1 ∧ (q s1).el (I m) J (I m) T G False else J s1) G False) (fin : ∀ s, J s → N s) : ∀ (f k : Nat) (s : Sl), k < f → I k s → (whileP t q f s).el N B C T G False
  | 0, _, _, h, _ => by omega
  | f + 1, k, s, h, i => by
    unfold whileP
    rw [zl_toZ]
    refine el_mono (step k s i) (fun b s1 h1 => ?_) (fun _ h => h)
    by_cases hb : b = true
    · rw [if_pos hb] at h1 ⊢
      obtain ⟨m, rfl, h2⟩ := h1
      cases e2 : q s1 <;> rw [e2] at h2
      · exact whileP_inv I J step fin f m _ (by omega) h2
      · exact fin _ h2
      · exact whileP_inv I J step fin f m _ (by omega) h2
      · exact h2
      · exact h2
      · exact h2.elim
    · rw [if_neg hb] at h1 ⊢
      exact fin _ h1
/-- a loop that turns at most n times -/
theorem while_inv (I : Nat → Sl → Prop) (J : Sl → Prop) (hn : n < 1000000) (i : I n s) (step : ∀ k s, I k s → (t s).el (fun b s1 => if b = true then ∃ m, k = m + 1 ∧ (q s1).el (I m) J (I m) T G False else J s1) G False) (fin : ∀ s, J s → N s) : (pWhile t q s).el N B C T G False :=
  whileP_inv I J step fin 1000000 n s hn i
end
end Tb
end

section
set_option maxHeartbeats 4000000
namespace Tb
open PySem PySem.Spec PyProof.Rows L2
/-! ## a comprehension whose name is that of a held list, not made yet -/
@[reducible] def SC.less (T : SC) (vs : List Nat) : SC := ⟨T.K.filter fun i => !vs.contains i, T.Rd.filter fun i => !vs.contains i, T.Fx, T.rH⟩
def pGuard {α : Type} (vs : List Nat) (q : Sl → PR α) : Sl → PR α := fun s => if (vs.all fun i => match s[i]? with | some (some _) => false | _ => true) = true then q s else .bad
section
variable {α : Type} [Nrm α] {b : Bool} {T : SC} {Y : DY} {s ps : Sl} {h : MH} {vs : List Nat}
theorem mem_less {K : List Nat} {i : Nat} : i ∈ K.filter (fun i => !vs.contains i) ↔ i ∈ K ∧ i ∉ vs := by
  simp [List.mem_filter]
theorem St.less (t : St T Y s ps h) (hn : ∀ i ∈ vs, ∀ p, ps[i]? ≠ some (some p)) : St (T.less vs) Y s ps h := by
  have nv : ∀ {i p}, ps[i]? = some (some p) → i ∉ vs := fun {i p} e hi => hn i hi p e
  refine ⟨t.len, fun i p e => ?_, fun i n p hi e es => ?_, fun i n p hi e es => ?_, t.frm, t.nxt, t.io, t.fix⟩
  · obtain ⟨d, e1, a, b, c⟩ := t.val i p e
    have hv := nv e
    exact ⟨d, e1, fun z => a (mem_less.mp z).1, fun z => b fun y => z (mem_less.mpr ⟨y, hv⟩), fun z z2 => c (fun y => z (mem_less.mpr ⟨y, hv⟩)) fun y => z2 (mem_less.mpr ⟨y, hv⟩)⟩
  · exact t.sep i n p (mem_less.mp hi).1 e es
  · exact t.rdo i n p (fun y => hi (mem_less.mpr ⟨y, nv e⟩)) e es
theorem s_less {m : Sl → MH → R α} {q : Sl → PR α} (S : Sim true (T.less vs) m q) : Sim b T m (pGuard vs q) := fun Y s ps h st => by
  show RelE b T Y s ps h (m s h) (if _ then _ else _)
  split
  · rename_i hz
    have hn : ∀ i ∈ vs, ∀ p, ps[i]? ≠ some (some p) := fun i hi p e => by
      have := List.all_eq_true.mp hz i hi
      rw [e] at this
      cases this
    have r := S Y s ps h (st.less hn)
    cases e : q ps with
    | ok a ps' =>
      rw [e] at r
      obtain ⟨h', e1, n, st', z⟩ := r
      obtain ⟨rfl, u⟩ := z rfl
      exact ⟨h', e1, n, st.up u, fun _ => ⟨rfl, u⟩⟩
    | exc x =>
      rw [e] at r
      exact r
    | bad => exact trivial
  · exact trivial
universe u
@[simp ↓] theorem e_guard {β : Sort u} {F : α → Sl → β} {g : Ex → β} {b : β} {q : Sl → PR α} {s : Sl} : (pGuard vs q s).el F g b = if (vs.all fun i => match s[i]? with | some (some _) => false | _ => true) = true then (q s).el F g b else b := el_ite
end
/-! ## sorted(set(x)), len(set(x)) -/
theorem ok_bSSet : FbOk bSSet := by
  refine ⟨fun h ds ps a hz r e => ?_, fun h ds ps e hz r => ?_⟩
  · unfold bSSet at e
    split at e
    · obtain ⟨d, rfl, r1⟩ := r.one
      have e0 := r1.seqE
      split at e
      · rename_i e1
        split at e
        · rename_i e2
          split at e
          · rename_i hl
            cases e
            refine ⟨by simp only [bSSet, e0, e1, e2, hl, if_true], ?_⟩
            exact nrs_iff.mpr fun x hx => by
              obtain ⟨y, _, rfl⟩ := List.mem_map.mp hx
              rfl
          · cases e
        · rename_i e2
          split at e
          · rename_i e3
            split at e
            · rename_i hl
              cases e
              refine ⟨by simp only [bSSet, e0, e1, e2, e3, hl, if_true], ?_⟩
              exact nrs_iff.mpr fun x hx => by
                obtain ⟨y, _, rfl⟩ := List.mem_map.mp hx
                rfl
            · cases e
          · cases e
      · cases e
    · cases e
  · unfold bSSet
    repeat' split
    all_goals simp
theorem ok_bLSet : FbOk bLSet := by
  refine ⟨fun h ds ps a hz r e => ?_, fun h ds ps e hz r => ?_⟩
  · unfold bLSet at e
    split at e
    · obtain ⟨d, rfl, r1⟩ := r.one
      have e0 := r1.seqE
      split at e
      · rename_i e1
        split at e
        · rename_i e2
          split at e
          · rename_i hl
            cases e
            exact ⟨by simp only [bLSet, e0, e1, e2, hl, if_true], rfl⟩
          · cases e
        · rename_i e2
          split at e
          · rename_i e3
            split at e
            · rename_i hl
              cases e
              exact ⟨by simp only [bLSet, e0, e1, e2, e3, hl, if_true], rfl⟩
            · cases e
          · cases e
      · cases e
    · cases e
  · unfold bLSet
    repeat' split
    all_goals simp
section
variable {h : MH} {s : Sl} {ss : List Str} {ns : List Int}
theorem strsOf_strs : ∀ ss : List Str, strsOf (ss.map .str) = some ss
  | [] => rfl
  | x :: xs => by simp only [List.map_cons, strsOf, strsOf_strs xs, Option.map_some]
theorem strsOf_ints : ∀ {ns : List Int}, ns ≠ [] → strsOf (intsD ns) = none
  | [], h => absurd rfl h
  | x :: xs, _ => rfl
theorem z_ssetS (q : ss.length < 64) : zr (bSSet [.lst (ss.map .str)] h) s = .ok (.lst ((sortS (dedup ss)).map .str)) s := by
  unfold bSSet
  simp only [seqOf, lstOf, strsOf_strs, if_pos q]
  rfl
theorem z_ssetST (q : ss.length < 64) : zr (bSSet [.tup (ss.map .str)] h) s = .ok (.lst ((sortS (dedup ss)).map .str)) s := by
  unfold bSSet
  simp only [seqOf, lstOf, strsOf_strs, if_pos q]
  rfl
theorem z_ssetI (q : ns.length < 64) : zr (bSSet [.lst (intsD ns)] h) s = .ok (.lst (intsD (sortI (dedup ns)))) s := by
  unfold bSSet
  by_cases e : ns = []
  · subst e
    have e1 : sortS (dedup ([] : List Str)) = [] := by simp [sortS, dedup]
    have e2 : sortI (dedup ([] : List Int)) = [] := by simp [sortI, dedup]
    simp only [intsD, List.map_nil, seqOf, lstOf, strsOf, e1, e2]
    rfl
  · simp only [seqOf, lstOf, strsOf_ints e, intsOf_ints, if_pos q]
    rfl
theorem z_ssetIT (q : ns.length < 64) : zr (bSSet [.tup (intsD ns)] h) s = .ok (.lst (intsD (sortI (dedup ns)))) s := by
  unfold bSSet
  by_cases e : ns = []
  · subst e
    have e1 : sortS (dedup ([] : List Str)) = [] := by simp [sortS, dedup]
    have e2 : sortI (dedup ([] : List Int)) = [] := by simp [sortI, dedup]
    simp only [intsD, List.map_nil, seqOf, lstOf, strsOf, e1, e2]
    rfl
  · simp only [seqOf, lstOf, strsOf_ints e, intsOf_ints, if_pos q]
    rfl
theorem z_lsetS (q : ss.length < 64) : zr (bLSet [.lst (ss.map .str)] h) s = .ok (.int ((dedup ss).length : Nat)) s := by
  unfold bLSet
  simp only [seqOf, lstOf, strsOf_strs, if_pos q]
  rfl
end
end Tb
end

section
set_option maxHeartbeats 4000000
namespace Tb
open PySem PySem.Spec PyProof.Rows L2
/-! ## sorted(range(n), key=lambda x: ..), plain -/
def KX.vars : KX → List Nat
  | .par => []
  | .var i => [i]
  | .int _ => []
  | .neg a => a.vars
  | .ix a b => a.vars ++ b.vars
def KT.vars : KT → List Nat
  | .one a => a.vars
  | .two a b => a.vars ++ b.vars
def pSortR (kt : KT) (p : PE) : PE := fun s => (p s).bind fun d s1 => match d with
  | .int n => if 0 ≤ n ∧ n ≤ 100000 then (match ksOf (kt.key s1) (rngD n.toNat) with
    | some ps => if okKeys ps = true then .ok (.lst (sortP ps)) s1 else .bad
    | none => .bad) else .bad
  | _ => .bad
section
variable {b : Bool} {T : SC} {Y : DY} {s ps : Sl} {h : MH}
theorem KX.same (st : St T Y s ps h) {d : D} : ∀ {k : KX} {x : D}, (∀ i ∈ k.vars, i ∉ T.K ∧ i ∉ T.Rd) → k.val ps d = some x → k.val s d = some x
  | .par, x, _, e => e
  | .var i, x, hv, e => by
    simp only [KX.val] at e ⊢
    split at e
    · rename_i y e1
      cases e
      obtain ⟨d', e2, _, _, c⟩ := st.val i _ e1
      obtain ⟨rfl, _⟩ := c (hv i (by simp [KX.vars])).1 (hv i (by simp [KX.vars])).2
      rw [e2]
    · cases e
  | .int z, x, _, e => e
  | .neg a, x, hv, e => by
    simp only [KX.val] at e ⊢
    split at e
    · rename_i i e1
      cases e
      rw [KX.same (k := a) st (fun i hi => hv i hi) e1]
    · cases e
  | .ix a c, x, hv, e => by
    simp only [KX.val] at e ⊢
    split at e
    · rename_i xs i e1 e2
      rw [KX.same (k := a) st (fun i hi => hv i (List.mem_append_left _ hi)) e1, KX.same (k := c) st (fun i hi => hv i (List.mem_append_right _ hi)) e2]
      exact e
    · cases e
theorem KT.same (st : St T Y s ps h) {d : D} {k : KT} {x : PyData} (hv : ∀ i ∈ k.vars, i ∉ T.K ∧ i ∉ T.Rd) (e : k.key ps d = some x) : k.key s d = some x := by
  cases k with
  | one a =>
    simp only [KT.key] at e ⊢
    obtain ⟨y, e1, e2⟩ := Option.bind_eq_some_iff.mp e
    rw [KX.same (k := a) st hv e1]
    exact e2
  | two a c =>
    simp only [KT.key] at e ⊢
    split at e
    · rename_i x1 x2 e1 e2
      obtain ⟨y1, g1, g2⟩ := Option.bind_eq_some_iff.mp e1
      obtain ⟨y2, g3, g4⟩ := Option.bind_eq_some_iff.mp e2
      rw [KX.same (k := a) st (fun i hi => hv i (List.mem_append_left _ hi)) g1, KX.same (k := c) st (fun i hi => hv i (List.mem_append_right _ hi)) g3]
      simp only [Option.bind_some, g2, g4]
      exact e
    · cases e
theorem ksOf_same {k k' : D → Option PyData} (hk : ∀ d x, k d = some x → k' d = some x) : ∀ {xs : List D} {r : List (D × PyData)}, ksOf k xs = some r → ksOf k' xs = some r
  | [], r, h => h
  | x :: xs, r, h => by
    simp only [ksOf] at h ⊢
    split at h
    · rename_i y r' e1 e2
      cases h
      rw [hk _ _ e1, ksOf_same hk e2]
    · cases h
theorem sim_sortR {kt : KT} {m : ME} {p : PE} (hv : ∀ i ∈ kt.vars, i ∉ T.K ∧ i ∉ T.Rd) (ha : Sim b T m p) : Sim b T (mSortR kt m) (pSortR kt p) := fun Y s ps h st => by
  refine (ha Y s ps h st).bind fun d ps1 h1 st1 _ => ?_
  cases d with
  | int n =>
    simp only
    split
    · cases e : ksOf (kt.key ps1) (rngD n.toNat) with
      | none => trivial
      | some r =>
        simp only [ksOf_same (fun d x q => KT.same st1 hv q) e]
        split
        · refine RelE.ok st1 ?_
          show nrs (sortP r) = true
          rw [nrs_iff]
          intro x hx
          unfold sortP at hx
          obtain ⟨q, hq, rfl⟩ := List.mem_map.mp hx
          have h2 : q ∈ r := (List.mem_mergeSort).mp hq
          have h3 : q.1 ∈ r.map (·.1) := List.mem_map.mpr ⟨q, h2, rfl⟩
          rw [(ksOf_fst e).1] at h3
          obtain ⟨i, _, e3⟩ := List.mem_map.mp h3
          rw [← e3]
          rfl
        · trivial
    · trivial
  | _ => trivial
end
section
variable {s : Sl} {a : PE} {kt : KT} {F : D → Sl → Prop} {g : Ex → Prop} {bb : Prop}
theorem e_sortR : (pSortR kt a s).el F g bb = (a s).el (fun d s1 => match d with
  | .int n => if 0 ≤ n ∧ n ≤ 100000 then (match ksOf (kt.key s1) (rngD n.toNat) with
    | some ps => if okKeys ps = true then F (.lst (sortP ps)) s1 else bb
    | none => bb) else bb
  | _ => bb) g bb := by
  unfold pSortR
  rw [el_bind]
  refine el_ext fun d s1 => ?_
  cases d with
  | int n =>
    simp only
    split
    · cases ksOf (kt.key s1) (rngD n.toNat) with
      | none => rfl
      | some r =>
        simp only
        split <;> rfl
    · rfl
  | _ => rfl
end
/-! ### whole keys -/
theorem ks_ints {k : D → Option PyData} {f : Nat → Int} : ∀ {l : List Nat}, (∀ i ∈ l, k (.int (i : Nat)) = some (.int (f i))) → ksOf k (l.map fun i => .int (i : Nat)) = some (l.map fun i => (.int (i : Nat), .int (f i)))
  | [], _ => rfl
  | i :: l, h => by
    simp only [List.map_cons, ksOf, h i List.mem_cons_self, ks_ints (l := l) fun j hj => h j (List.mem_cons_of_mem _ hj)]
theorem ok_ints {f : Nat → Int} {l : List Nat} : okKeys (l.map fun i => (D.int (i : Nat), PyData.int (f i))) = true := by
  unfold okKeys
  rw [Bool.or_eq_true]
  exact .inl (List.all_eq_true.mpr fun p hp => by
    obtain ⟨i, _, rfl⟩ := List.mem_map.mp hp
    rfl)
theorem sort_ints {f : Nat → Int} {l : List Nat} : sortP (l.map fun i => (D.int (i : Nat), PyData.int (f i))) = (l.mergeSort fun i j => decide (f i ≤ f j)).map fun i => D.int (i : Nat) := by
  unfold sortP
  have e : (l.mergeSort fun i j => decide (f i ≤ f j)).map (fun i => (D.int (i : Nat), PyData.int (f i))) = (l.map fun i => (D.int (i : Nat), PyData.int (f i))).mergeSort (PySem.W.dataLe false (·.2)) :=
    PySem.W.sort_maps (fun i => (D.int (i : Nat), PyData.int (f i))) fun a _ b _ => by
      have := congrFun (congrFun (PySem.W.dataLe_int (β := Nat) f) a) b
      exact this.symm
  rw [← e, List.map_map]
  rfl
end Tb
end

section
set_option maxHeartbeats 4000000
namespace Tb
open PySem PySem.Spec PyProof.Rows L2
/-! ## a tuple of names handed back, plain -/
def retT (K : List Nat) : List Nat → Sl → Option (List D × Sl)
  | [], s => some ([], s)
  | i :: is, s => match s[i]? with
    | some (some d) => (retT K is (if i ∈ K then s.set i none else s)).map fun p => (d :: p.1, p.2)
    | _ => none
def pRetT (K is : List Nat) : PS' := fun s => match retT K is s with
  | some p => .ret (.tup p.1) p.2
  | none => .bad
def mVars : List Nat → MA
  | [] => mNil
  | i :: is => mCons (mVar i) (mVars is)
section
variable {T : SC} {Y : DY}
theorem retT_ok : ∀ {is : List Nat} {s ps : Sl} {h : MH} {p : List D × Sl}, (∀ i ∈ is, i ∈ T.K ∨ i ∉ T.Rd) → St T Y s ps h → retT T.K is ps = some p →
    ∃ rs : List D, rs.length = is.length ∧ (∀ h', mVars is s h' = .ok rs h') ∧ ∃ h2, frzT rs h = some (p.1, h2) ∧ St T Y s p.2 h2 ∧ nrs p.1 = true
  | [], s, ps, h, p, hv, st, e => by
    cases e
    exact ⟨[], rfl, fun h' => rfl, h, rfl, st, rfl⟩
  | i :: is, s, ps, h, p, hv, st, e => by
    simp only [retT] at e
    split at e
    · rename_i d ed
      rw [Option.map_eq_some_iff] at e
      obtain ⟨q, e1, rfl⟩ := e
      by_cases hi : i ∈ T.K
      · rw [if_pos hi] at e1
        obtain ⟨n, xs, g1, g2, g3, rfl, g4⟩ := st.held hi ed
        obtain ⟨rs, l1, l2, h2, l3, l4, l5⟩ := retT_ok (fun j hj => hv j (List.mem_cons_of_mem _ hj)) (st.drop hi ed g1) e1
        refine ⟨.ref n :: rs, by rw [List.length_cons, List.length_cons, l1], fun h' => ?_, h2, ?_, l4, by simp only [nrs, D.nr, g4, l5, Bool.and_self]⟩
        · simp only [mVars, mCons, mVar, g1, R.bind, l2]
        · simp only [frzT, g3, l3, Option.map_some]
      · rw [if_neg hi] at e1
        have hr : i ∉ T.Rd := (hv i List.mem_cons_self).resolve_left hi
        obtain ⟨d', g1, _, _, c⟩ := st.val i d ed
        obtain ⟨rfl, g4⟩ := c hi hr
        obtain ⟨rs, l1, l2, h2, l3, l4, l5⟩ := retT_ok (fun j hj => hv j (List.mem_cons_of_mem _ hj)) st e1
        refine ⟨d' :: rs, by rw [List.length_cons, List.length_cons, l1], fun h' => ?_, h2, ?_, l4, by simp only [nrs, g4, l5, Bool.and_self]⟩
        · simp only [mVars, mCons, mVar, g1, R.bind, l2]
        · cases d' with
          | ref n => cases g4
          | _ => simp only [frzT, l3, Option.map_some]
    · cases e
theorem ss_retT {is : List Nat} (hl : is.length ≤ 100) (hr : T.rH = false) (hv : ∀ i ∈ is, i ∈ T.K ∨ i ∉ T.Rd) {K : List Nat} (hK : K = T.K) : SimS T (mRetT (mVars is)) (pRetT K is) := fun Y s ps h st => by
  subst hK
  unfold pRetT
  cases e : retT T.K is ps with
  | none => trivial
  | some p =>
    obtain ⟨rs, l1, l2, h2, l3, l4, l5⟩ := retT_ok hv st e
    refine ⟨.tup p.1, s, h2, ?_, l4, RetR.val hr l5⟩
    unfold mRetT
    have hz := sizeLine_eq
    rw [l2]
    simp only [R.toS]
    rw [if_pos (by omega), l3]
end
section
variable {s : Sl} {K is : List Nat} {N : Sl → Prop} {B C : Sl → Prop} {T : D → Sl → Prop} {g : Ex → Prop} {b : Prop}
theorem z_retT : (pRetT K is s).el N B C T g b = match retT K is s with
  | some p => T (.tup p.1) p.2
  | none => b := by
  unfold pRetT
  cases retT K is s <;> rfl
end
end Tb
end

section
set_option maxHeartbeats 0
open PySem PySem.Spec PyProof.Rows L2 Tb
namespace Lw
def top (i : Nat) : Stmt := PySem.Challenge.pw_tablebills_k09_splits_told.main.body.getD i (.Pass ⟨0, 0, 0, 0⟩)
abbrev FnP (K : PySem.W.Frag) (x : Str) (i : Nat) (dvs : List V) (f : Addr) (fd : FuncData) : Prop := FunD K x x (defArgs (top i)) (defBody (top i)) (defScope (top i)) dvs [] f fd
/-! ### mirrors -/
noncomputable def m_w_feed : MS :=
  mRet (mLstH (mCons (mCut opCut (mVar 0) mNoPart (mPart (mC (.int 63)))) (mCons (mC (.int 0)) (mCons (mC (.int 0)) (mCons (mC (.int 0)) (mNil))))))
noncomputable def f_w_feed : Fn := fnM 1 m_w_feed
noncomputable def m_rests : MS :=
  mRetF (mCallB bTuple (mCons (mLc (mIter (mVar 1)) [2] (mgName 2) (mYes) (mOp opMod (mOp opRep (mVar 0) (mVar 2)) (mCallB bSum (mCons (mVar 1) (mNil)))) finL) (mNil)))
noncomputable def f_rests : Fn := fnM 3 m_rests
noncomputable def m_cuts : MS :=
  mRet (mLc (mIter (mVar 1)) [2] (mgName 2) (mYes) (mOp opDiv (mOp opRep (mVar 0) (mVar 2)) (mCallB bSum (mCons (mVar 1) (mNil)))) finH)
noncomputable def f_cuts : Fn := fnM 3 m_cuts
noncomputable def m_split_4 : MS :=
  mRetF (mCallB bTuple (mCons (mVar 2) (mNil)))
noncomputable def m_split_3 : MS :=
  mSeq (mFor (mIter (mCut opCut (mVar 4) mNoPart (mPart (mOp opSub (mVar 0) (mCallB bSum (mCons (mVar 2) (mNil))))))) (mgName 5) (mAugSub getIxL iopAdd setIx (mVar 2) (mVar 5) (mC (.int 1)))) (m_split_4)
noncomputable def m_split_2 : MS :=
  mSeq (mSet 4 (mSortR (.one (.neg (.ix (.var 3) .par))) (mCallB bLen (mCons (mVar 1) (mNil))))) (m_split_3)
noncomputable def m_split_1 : MS :=
  mSeq (mSet 3 (mCall 2 f_rests [] (mCons (mVar 0) (mCons (mVar 1) (mNil))))) (m_split_2)
noncomputable def m_split : MS :=
  mSeq (mSet 2 (mCall 2 f_cuts [] (mCons (mVar 0) (mCons (mVar 1) (mNil))))) (m_split_1)
noncomputable def f_split : Fn := fnM 6 m_split
noncomputable def m_w_parts_5 : MS :=
  mRetT (mCons (mVar 3) (mCons (mVar 5) (mCons (mVar 7) (mNil))))
noncomputable def m_w_parts_4 : MS :=
  mSeq (mFor (mRange1 (mOp opSub (mVar 0) (mCallB bSum (mCons (mVar 3) (mNil))))) (mgName 8) (mSeq (mSet 6 (mLc (mRange1 (mCallB bLen (mCons (mVar 3) (mNil)))) [9] (mgName 9) (mAsB (mOp opEq (mOp opIx (mVar 7) (mVar 9)) (mOp opIx (mVar 3) (mVar 9)))) (mVar 9) finL)) (mSeq (mSet 10 (mCallB bMax (mCons (mLc (mIter (mVar 6)) [9] (mgName 9) (mYes) (mOp opIx (mVar 5) (mVar 9)) finL) (mNil)))) (mAugSub getIxL iopAdd setIx (mVar 7) (mOp opIx (mLc (mIter (mVar 6)) [9] (mgName 9) (mAsB (mOp opEq (mOp opIx (mVar 5) (mVar 9)) (mVar 10))) (mVar 9) finL) (mC (.int 0))) (mC (.int 1)))))) (m_w_parts_5)
noncomputable def m_w_parts_3 : MS :=
  mSeq (mSet 7 (mCallB bListH (mCons (mVar 3) (mNil)))) (m_w_parts_4)
noncomputable def m_w_parts_2 : MS :=
  mSeq (mSet 5 (mLc (mZip (mVar 1) (mVar 3)) [4, 6] (mgTup 2 (mgCons (mgName 4) (mgCons (mgName 6) (mgNil)))) (mYes) (mOp opSub (mOp opRep (mVar 0) (mVar 4)) (mOp opRep (mVar 6) (mVar 2))) finL)) (m_w_parts_3)
noncomputable def m_w_parts_1 : MS :=
  mSeq (mSet 3 (mLc (mIter (mVar 1)) [4] (mgName 4) (mYes) (mOp opDiv (mOp opRep (mVar 0) (mVar 4)) (mVar 2)) finL)) (m_w_parts_2)
noncomputable def m_w_parts : MS :=
  mSeq (mSet 2 (mCallB bSum (mCons (mVar 1) (mNil)))) (m_w_parts_1)
noncomputable def f_w_parts : Fn := fnM 11 m_w_parts
noncomputable def m_w_right_3 : MS :=
  mRetF (mOp opEq (mCallB bRepr (mCons (mCall 2 f_rests [] (mCons (mVar 0) (mCons (mVar 1) (mNil)))) (mNil))) (mCallB bRepr (mCons (mCallB bTuple (mCons (mVar 3) (mNil))) (mNil))))
noncomputable def m_w_right_2 : MS :=
  mSeq (mIfS (mOr (mNot (mTruth (mCallB bIsi (mCons (mVar 5) (mCons (mC (.raw (.ty "tuple"))) (mNil)))))) (mAsB (mOp opNe (mCallB bRepr (mCons (mVar 5) (mNil))) (mCallB bRepr (mCons (mCallB bTuple (mCons (mVar 4) (mNil))) (mNil)))))) (mRetF (mC (.bl false))) (mSkip)) (m_w_right_3)
noncomputable def m_w_right_1 : MS :=
  mSeq (mSet 5 (mCall 2 f_split [] (mCons (mVar 0) (mCons (mVar 1) (mNil))))) (m_w_right_2)
noncomputable def m_w_right : MS :=
  mSeq (mUnpack (mgTup 3 (mgCons (mgName 2) (mgCons (mgName 3) (mgCons (mgName 4) (mgNil))))) (mCall 2 f_w_parts [] (mCons (mVar 0) (mCons (mVar 1) (mNil))))) (m_w_right_1)
noncomputable def f_w_right : Fn := fnM 6 m_w_right
noncomputable def m_w_by_hand_3 : MS :=
  mRetF (mAndV (mOp opEq (mCall 2 f_rests [] (mCons (mC (.int 10)) (mCons (mTup (mCons (mC (.int 1)) (mCons (mC (.int 1)) (mCons (mC (.int 1)) (mNil))))) (mNil)))) (mTup (mCons (mC (.int 1)) (mCons (mC (.int 1)) (mCons (mC (.int 1)) (mNil)))))) (mOp opEq (mCall 2 f_rests [] (mCons (mC (.int 7)) (mCons (mTup (mCons (mC (.int 3)) (mCons (mC (.int 2)) (mCons (mC (.int 1)) (mNil))))) (mNil)))) (mTup (mCons (mC (.int 3)) (mCons (mC (.int 2)) (mCons (mC (.int 1)) (mNil)))))))
noncomputable def m_w_by_hand_2 : MS :=
  mSeq (mFor (mIter (mVar 0)) (mgTup 3 (mgCons (mgName 1) (mgCons (mgName 2) (mgCons (mgName 3) (mgNil))))) (mIfS (mOr (mAsB (mOp opNe (mCall 2 f_split [] (mCons (mVar 1) (mCons (mVar 2) (mNil)))) (mVar 3))) (mNot (mTruth (mCall 2 f_w_right [] (mCons (mVar 1) (mCons (mVar 2) (mNil))))))) (mRetF (mC (.bl false))) (mSkip))) (m_w_by_hand_3)
noncomputable def m_w_by_hand_1 : MS :=
  mSeq (mDo (mMeth "list" lExtend (mVar 0) (mCons (mLst (mCons (mTup (mCons (mC (.int 1)) (mCons (mTup (mCons (mC (.int 1)) (mCons (mC (.int 2)) (mCons (mC (.int 2)) (mNil))))) (mCons (mTup (mCons (mC (.int 0)) (mCons (mC (.int 1)) (mCons (mC (.int 0)) (mNil))))) (mNil))))) (mCons (mTup (mCons (mC (.int 3)) (mCons (mTup (mCons (mC (.int 2)) (mCons (mC (.int 2)) (mCons (mC (.int 1)) (mNil))))) (mCons (mTup (mCons (mC (.int 1)) (mCons (mC (.int 1)) (mCons (mC (.int 1)) (mNil))))) (mNil))))) (mCons (mTup (mCons (mC (.int 0)) (mCons (mTup (mCons (mC (.int 5)) (mNil))) (mCons (mTup (mCons (mC (.int 0)) (mNil))) (mNil))))) (mCons (mTup (mCons (mC (.int 7)) (mCons (mTup (mCons (mC (.int 3)) (mCons (mC (.int 2)) (mCons (mC (.int 1)) (mNil))))) (mCons (mTup (mCons (mC (.int 4)) (mCons (mC (.int 2)) (mCons (mC (.int 1)) (mNil))))) (mNil))))) (mNil)))))) (mNil)))) (m_w_by_hand_2)
noncomputable def m_w_by_hand : MS :=
  mSeq (mSet 0 (mLstH (mCons (mTup (mCons (mC (.int 10)) (mCons (mTup (mCons (mC (.int 1)) (mCons (mC (.int 1)) (mCons (mC (.int 1)) (mNil))))) (mCons (mTup (mCons (mC (.int 4)) (mCons (mC (.int 3)) (mCons (mC (.int 3)) (mNil))))) (mNil))))) (mCons (mTup (mCons (mC (.int 11)) (mCons (mTup (mCons (mC (.int 1)) (mCons (mC (.int 1)) (mCons (mC (.int 1)) (mNil))))) (mCons (mTup (mCons (mC (.int 4)) (mCons (mC (.int 4)) (mCons (mC (.int 3)) (mNil))))) (mNil))))) (mCons (mTup (mCons (mC (.int 5)) (mCons (mTup (mCons (mC (.int 0)) (mCons (mC (.int 3)) (mCons (mC (.int 0)) (mNil))))) (mCons (mTup (mCons (mC (.int 0)) (mCons (mC (.int 5)) (mCons (mC (.int 0)) (mNil))))) (mNil))))) (mNil)))))) (m_w_by_hand_1)
noncomputable def f_w_by_hand : Fn := fnM 4 m_w_by_hand
noncomputable def m_w_draw_9 : MS :=
  mRetF (mOp opMod (mOp opDiv (mOp opMod (mOp opAdd (mOp opRep (mVar 5) (mVar 5)) (mVar 4)) (mC (.int 2147483629))) (mC (.int 131))) (mVar 1))
noncomputable def m_w_draw_8 : MS :=
  mSeq (mSet 5 (mOp opMod (mOp opAdd (mOp opRep (mVar 5) (mVar 5)) (mOp opRep (mC (.int 16807)) (mVar 4))) (mC (.int 2147483587)))) (m_w_draw_9)
noncomputable def m_w_draw_7 : MS :=
  mSeq (mSet 5 (mOp opMod (mOp opAdd (mOp opRep (mVar 5) (mVar 5)) (mOp opRep (mC (.int 48271)) (mVar 4))) (mC (.int 2147483647)))) (m_w_draw_8)
noncomputable def m_w_draw_6 : MS :=
  mSeq (mSet 5 (mOp opMod (mOp opAdd (mOp opAdd (mOp opMod (mVar 3) (mC (.int 2147483629))) (mOp opRep (mOp opRep (mC (.int 69621)) (mVar 4)) (mVar 4))) (mOp opRep (mC (.int 7)) (mVar 4))) (mC (.int 2147483629)))) (m_w_draw_7)
noncomputable def m_w_draw_5 : MS :=
  mSeq (mSet 4 (mOp opIx (mVar 0) (mC (.int 3)))) (m_w_draw_6)
noncomputable def m_w_draw_4 : MS :=
  mSeq (mIfS (mAnd (mAsB (mOp opGe (mVar 3) (mOp opPow (mC (.int 10)) (mC (.int 18))))) (mAsB (mOp opLe (mOp opIx (mVar 0) (mC (.int 1))) (mCallB bLen (mCons (mOp opIx (mVar 0) (mC (.int 0))) (mNil)))))) (mSeq (mSetSub setIx (mVar 0) (mC (.int 2)) (mOp opDiv (mVar 3) (mVar 1))) (mRetF (mOp opMod (mVar 3) (mVar 1)))) (mSkip)) (m_w_draw_5)
noncomputable def m_w_draw_3 : MS :=
  mSeq (mAugSub getIxL iopAdd setIx (mVar 0) (mC (.int 1)) (mC (.int 1))) (m_w_draw_4)
noncomputable def m_w_draw_2 : MS :=
  mSeq (mSet 3 (mIf (mAsB (mOp opEq (mOp opIx (mVar 0) (mC (.int 0))) (mLst (mNil)))) (mC (.int 7)) (mOp opIx (mOp opIx (mVar 0) (mC (.int 0))) (mOp opMod (mOp opIx (mVar 0) (mC (.int 1))) (mCallB bLen (mCons (mOp opIx (mVar 0) (mC (.int 0))) (mNil))))))) (m_w_draw_3)
noncomputable def m_w_draw_1 : MS :=
  mSeq (mIfS (mAsB (mOp opGt (mOp opIx (mVar 0) (mC (.int 2))) (mC (.int 0)))) (mSeq (mSet 2 (mOp opMod (mOp opIx (mVar 0) (mC (.int 2))) (mVar 1))) (mSeq (mSetSub setIx (mVar 0) (mC (.int 2)) (mOp opDiv (mOp opIx (mVar 0) (mC (.int 2))) (mVar 1))) (mRetF (mVar 2)))) (mSkip)) (m_w_draw_2)
noncomputable def m_w_draw : MS :=
  mSeq (mAugSub getIxL iopAdd setIx (mVar 0) (mC (.int 3)) (mC (.int 1))) (m_w_draw_1)
noncomputable def f_w_draw : Fn := fnM 6 m_w_draw
noncomputable def m_w_weights_4 : MS :=
  mRetF (mCallB bTuple (mCons (mVar 3) (mNil)))
noncomputable def m_w_weights_3 : MS :=
  mSeq (mIfS (mAsB (mOp opEq (mCallB bSum (mCons (mVar 3) (mNil))) (mC (.int 0)))) (mSetSub setIx (mVar 3) (mCall 2 f_w_draw [] (mCons (mVar 0) (mCons (mCallB bLen (mCons (mVar 3) (mNil))) (mNil)))) (mOp opAdd (mC (.int 1)) (mCall 2 f_w_draw [] (mCons (mVar 0) (mCons (mC (.int 3)) (mNil)))))) (mSkip)) (m_w_weights_4)
noncomputable def m_w_weights_2 : MS :=
  mSeq (mFor (mRange1 (mOp opAdd (mC (.int 1)) (mCall 2 f_w_draw [] (mCons (mVar 0) (mCons (mVar 1) (mNil)))))) (mgName 4) (mSeq (mSet 5 (mOp opSub (mOp opPow (mC (.int 10)) (mC (.int 9))) (mCall 2 f_w_draw [] (mCons (mVar 0) (mCons (mC (.int 3)) (mNil)))))) (mSeq (mDo (mMeth "list" lAppend (mVar 3) (mCons (mOp opIx (mTup (mCons (mCall 2 f_w_draw [] (mCons (mVar 0) (mCons (mC (.int 4)) (mNil)))) (mCons (mC (.int 1)) (mCons (mCall 2 f_w_draw [] (mCons (mVar 0) (mCons (mC (.int 50)) (mNil)))) (mCons (mVar 5) (mCons (mOp opAdd (mC (.int 1)) (mCall 2 f_w_draw [] (mCons (mVar 0) (mCons (mOp opPow (mC (.int 10)) (mC (.int 9))) (mNil))))) (mCons (mVar 5) (mNil)))))))) (mVar 2)) (mNil)))) (mIfS (mAnd (mAsB (mOp opEq (mVar 2) (mC (.int 5)))) (mAsB (mOp opEq (mCall 2 f_w_draw [] (mCons (mVar 0) (mCons (mC (.int 2)) (mNil)))) (mC (.int 0))))) (mSetSub setIx (mVar 3) (mNeg (mC (.int 1))) (mCall 2 f_w_draw [] (mCons (mVar 0) (mCons (mC (.int 3)) (mNil))))) (mSkip))))) (m_w_weights_3)
noncomputable def m_w_weights_1 : MS :=
  mSeq (mSet 3 (mLstH (mNil))) (m_w_weights_2)
noncomputable def m_w_weights : MS :=
  mSeq (mSet 2 (mCall 2 f_w_draw [] (mCons (mVar 0) (mCons (mC (.int 6)) (mNil))))) (m_w_weights_1)
noncomputable def f_w_weights : Fn := fnM 6 m_w_weights
noncomputable def m_w_total_3 : MS :=
  mRetF (mOp opIx (mVar 4) (mCall 2 f_w_draw [] (mCons (mVar 0) (mCons (mC (.int 6)) (mNil)))))
noncomputable def m_w_total_2 : MS :=
  mSeq (mSet 4 (mTup (mCons (mC (.int 0)) (mCons (mCall 2 f_w_draw [] (mCons (mVar 0) (mCons (mOp opAdd (mCallB bLen (mCons (mVar 1) (mNil))) (mC (.int 1))) (mNil)))) (mCons (mCall 2 f_w_draw [] (mCons (mVar 0) (mCons (mC (.int 1000)) (mNil)))) (mCons (mVar 3) (mCons (mCall 2 f_w_draw [] (mCons (mVar 0) (mCons (mOp opPow (mC (.int 10)) (mC (.int 12))) (mNil)))) (mCons (mVar 2) (mNil))))))))) (m_w_total_3)
noncomputable def m_w_total_1 : MS :=
  mSeq (mSet 3 (mOp opAdd (mOp opRep (mCallB bSum (mCons (mVar 1) (mNil))) (mCall 2 f_w_draw [] (mCons (mVar 0) (mCons (mC (.int 3)) (mNil))))) (mCall 2 f_w_draw [] (mCons (mVar 0) (mCons (mC (.int 4)) (mNil)))))) (m_w_total_2)
noncomputable def m_w_total : MS :=
  mSeq (mSet 2 (mOp opSub (mOp opPow (mC (.int 10)) (mC (.int 12))) (mCall 2 f_w_draw [] (mCons (mVar 0) (mCons (mC (.int 9)) (mNil)))))) (m_w_total_1)
noncomputable def f_w_total : Fn := fnM 5 m_w_total
noncomputable def m_law_2 : MS :=
  mRetF (mCall 0 f_w_by_hand [] (mNil))
noncomputable def m_law_1 : MS :=
  mSeq (mFor (mRange1 (mC (.int 8))) (mgName 2) (mSeq (mSet 3 (mCall 2 f_w_weights [] (mCons (mVar 1) (mCons (mOp opIx (mTup (mCons (mC (.int 12)) (mCons (mC (.int 4)) (mNil)))) (mCall 2 f_w_draw [] (mCons (mVar 1) (mCons (mC (.int 2)) (mNil))))) (mNil))))) (mSeq (mSet 4 (mCall 2 f_w_total [] (mCons (mVar 1) (mCons (mVar 3) (mNil))))) (mSeq (mSet 5 (mCallB bRepr (mCons (mVar 3) (mNil)))) (mIfS (mOr (mNot (mTruth (mCall 2 f_w_right [] (mCons (mCallB bMin (mCons (mVar 4) (mCons (mOp opPow (mC (.int 10)) (mC (.int 12))) (mNil)))) (mCons (mVar 3) (mNil)))))) (mAsB (mOp opNe (mCallB bRepr (mCons (mVar 3) (mNil))) (mVar 5)))) (mRetF (mC (.bl false))) (mSkip)))))) (m_law_2)
noncomputable def m_law : MS :=
  mSeq (mSet 1 (mCall 1 f_w_feed [] (mCons (mVar 0) (mNil)))) (m_law_1)
noncomputable def f_law : Fn := fnM 6 m_law
/-! ### their texts -/
noncomputable def sh_cuts_2 : Sh := ⟨"cuts", 2, [], 2, f_cuts, [], gKw, [false, false]⟩
noncomputable def sh_rests_2 : Sh := ⟨"rests", 2, [], 2, f_rests, [], gKw, [false, false]⟩
noncomputable def sh_w_parts_2 : Sh := ⟨"_law_parts", 2, [], 2, f_w_parts, [], gKw, [false, false]⟩
noncomputable def sh_split_2 : Sh := ⟨"split", 2, [], 2, f_split, [], gKw, [false, false]⟩
noncomputable def sh_w_right_2 : Sh := ⟨"_law_right", 2, [], 2, f_w_right, [], gKw, [false, false]⟩
noncomputable def sh_w_draw_2 : Sh := ⟨"_law_draw", 2, [], 2, f_w_draw, [], gKw, [true, false]⟩
noncomputable def sh_w_feed_1 : Sh := ⟨"_law_feed", 1, [], 1, f_w_feed, [], gKw, [false]⟩
noncomputable def sh_w_weights_2 : Sh := ⟨"_law_weights", 2, [], 2, f_w_weights, [], gKw, [true, false]⟩
noncomputable def sh_w_total_2 : Sh := ⟨"_law_total", 2, [], 2, f_w_total, [], gKw, [true, false]⟩
noncomputable def sh_w_by_hand_0 : Sh := ⟨"_law_by_hand", 0, [], 0, f_w_by_hand, [], gKw, []⟩
noncomputable def c_w_feed : Cfg := ⟨["_law_script"], defScope (top 5), [], [], [], [], true, false, [], false⟩
theorem s_w_feed : FnScope ["_law_script"] ["_law_script"] (defScope (top 5)) := ⟨rfl, rfl, rfl, by decide +kernel, rfl, by decide +kernel, by decide +kernel⟩
theorem e_w_feed : cBody c_w_feed (defBody (top 5)) = some m_w_feed := by kernel_rfl
noncomputable def c_rests : Cfg := ⟨["total", "weights", "weight"], defScope (top 2), [], [], ["tuple", "sum"], [], false, false, [], false⟩
theorem s_rests : FnScope ["total", "weights", "weight"] ["total", "weights"] (defScope (top 2)) := ⟨rfl, rfl, rfl, by decide +kernel, rfl, by decide +kernel, by decide +kernel⟩
theorem e_rests : cBody c_rests (defBody (top 2)) = some m_rests := by kernel_rfl
noncomputable def c_cuts : Cfg := ⟨["total", "weights", "weight"], defScope (top 1), [], [], ["sum"], [], true, false, [], false⟩
theorem s_cuts : FnScope ["total", "weights", "weight"] ["total", "weights"] (defScope (top 1)) := ⟨rfl, rfl, rfl, by decide +kernel, rfl, by decide +kernel, by decide +kernel⟩
theorem e_cuts : cBody c_cuts (defBody (top 1)) = some m_cuts := by kernel_rfl
noncomputable def c_split : Cfg := ⟨["total", "weights", "told", "own", "order", "place"], defScope (top 3), [sh_cuts_2, sh_rests_2], [], ["sorted", "range", "len", "sum", "tuple"], ["told"], false, false, [], true⟩
theorem s_split : FnScope ["total", "weights", "told", "own", "order", "place"] ["total", "weights"] (defScope (top 3)) := ⟨rfl, rfl, rfl, by decide +kernel, rfl, by decide +kernel, by decide +kernel⟩
theorem e_split : cBody c_split (defBody (top 3)) = some m_split := by kernel_rfl
noncomputable def c_w_parts : Cfg := ⟨["_law_total_here", "_law_weights_here", "_law_entire", "_law_low", "_law_weight", "_law_left", "_law_own", "_law_told", "_law_turn", "_law_k", "_law_bar"], defScope (top 9), [], [], ["sum", "zip", "list", "range", "len", "max"], ["_law_told"], false, false, [], false⟩
theorem s_w_parts : FnScope ["_law_total_here", "_law_weights_here", "_law_entire", "_law_low", "_law_weight", "_law_left", "_law_own", "_law_told", "_law_turn", "_law_k", "_law_bar"] ["_law_total_here", "_law_weights_here"] (defScope (top 9)) := ⟨rfl, rfl, rfl, by decide +kernel, rfl, by decide +kernel, by decide +kernel⟩
theorem e_w_parts : cBody c_w_parts (defBody (top 9)) = some m_w_parts := by kernel_rfl
noncomputable def c_w_right : Cfg := ⟨["_law_total_here", "_law_weights_here", "_law_low", "_law_left", "_law_parts_here", "_law_told"], defScope (top 10), [sh_w_parts_2, sh_split_2, sh_rests_2], [], ["repr", "tuple", "isinstance"], [], false, false, [], false⟩
theorem s_w_right : FnScope ["_law_total_here", "_law_weights_here", "_law_low", "_law_left", "_law_parts_here", "_law_told"] ["_law_total_here", "_law_weights_here"] (defScope (top 10)) := ⟨rfl, rfl, rfl, by decide +kernel, rfl, by decide +kernel, by decide +kernel⟩
theorem e_w_right : cBody c_w_right (defBody (top 10)) = some m_w_right := by kernel_rfl
noncomputable def c_w_by_hand : Cfg := ⟨["_law_cases", "_law_total_here", "_law_weights_here", "_law_parts_here"], defScope (top 11), [sh_w_right_2, sh_split_2, sh_rests_2], [], [], ["_law_cases"], false, false, [], false⟩
theorem s_w_by_hand : FnScope ["_law_cases", "_law_total_here", "_law_weights_here", "_law_parts_here"] [] (defScope (top 11)) := ⟨rfl, rfl, rfl, by decide +kernel, rfl, by decide +kernel, by decide +kernel⟩
theorem e_w_by_hand : cBody c_w_by_hand (defBody (top 11)) = some m_w_by_hand := by kernel_rfl
noncomputable def c_w_draw : Cfg := ⟨["_law_feed_here", "_law_many", "_law_told", "_law_cell", "_law_turn", "_law_mixed"], defScope (top 6), [], [], ["len"], ["_law_feed_here"], false, false, [], false⟩
theorem s_w_draw : FnScope ["_law_feed_here", "_law_many", "_law_told", "_law_cell", "_law_turn", "_law_mixed"] ["_law_feed_here", "_law_many"] (defScope (top 6)) := ⟨rfl, rfl, rfl, by decide +kernel, rfl, by decide +kernel, by decide +kernel⟩
theorem e_w_draw : cBody c_w_draw (defBody (top 6)) = some m_w_draw := by kernel_rfl
noncomputable def c_w_weights : Cfg := ⟨["_law_feed_here", "_law_many", "_law_style", "_law_found", "_law_k", "_law_near"], defScope (top 7), [sh_w_draw_2], [], ["range", "sum", "len", "tuple"], ["_law_feed_here", "_law_found"], false, false, [], false⟩
theorem s_w_weights : FnScope ["_law_feed_here", "_law_many", "_law_style", "_law_found", "_law_k", "_law_near"] ["_law_feed_here", "_law_many"] (defScope (top 7)) := ⟨rfl, rfl, rfl, by decide +kernel, rfl, by decide +kernel, by decide +kernel⟩
theorem e_w_weights : cBody c_w_weights (defBody (top 7)) = some m_w_weights := by kernel_rfl
noncomputable def c_w_total : Cfg := ⟨["_law_feed_here", "_law_weights_here", "_law_far", "_law_near", "_law_some"], defScope (top 8), [sh_w_draw_2], [], ["sum", "len"], ["_law_feed_here"], false, false, [], false⟩
theorem s_w_total : FnScope ["_law_feed_here", "_law_weights_here", "_law_far", "_law_near", "_law_some"] ["_law_feed_here", "_law_weights_here"] (defScope (top 8)) := ⟨rfl, rfl, rfl, by decide +kernel, rfl, by decide +kernel, by decide +kernel⟩
theorem e_w_total : cBody c_w_total (defBody (top 8)) = some m_w_total := by kernel_rfl
noncomputable def c_law : Cfg := ⟨["_law_script", "_law_feed_here", "_law_turn", "_law_weights_here", "_law_total_here", "_law_kept"], defScope (top 12), [sh_w_feed_1, sh_w_weights_2, sh_w_draw_2, sh_w_total_2, sh_w_right_2, sh_w_by_hand_0], [], ["range", "repr", "min"], ["_law_feed_here"], false, false, [], false⟩
theorem s_law : FnScope ["_law_script", "_law_feed_here", "_law_turn", "_law_weights_here", "_law_total_here", "_law_kept"] ["_law_script"] (defScope (top 12)) := ⟨rfl, rfl, rfl, by decide +kernel, rfl, by decide +kernel, by decide +kernel⟩
theorem e_law : cBody c_law (defBody (top 12)) = some m_law := by kernel_rfl
/-! ### the head -/
def d_w_feed : He.DefD := ⟨("_law_feed", none), "_law_feed", "_law_feed", defArgs (top 5), defBody (top 5), defScope (top 5), [], []⟩
def d_rests : He.DefD := ⟨("rests", none), "rests", "rests", defArgs (top 2), defBody (top 2), defScope (top 2), [], []⟩
def d_cuts : He.DefD := ⟨("cuts", none), "cuts", "cuts", defArgs (top 1), defBody (top 1), defScope (top 1), [], []⟩
def d_split : He.DefD := ⟨("split", none), "split", "split", defArgs (top 3), defBody (top 3), defScope (top 3), [], []⟩
def d_w_parts : He.DefD := ⟨("_law_parts", none), "_law_parts", "_law_parts", defArgs (top 9), defBody (top 9), defScope (top 9), [], []⟩
def d_w_right : He.DefD := ⟨("_law_right", none), "_law_right", "_law_right", defArgs (top 10), defBody (top 10), defScope (top 10), [], []⟩
def d_w_by_hand : He.DefD := ⟨("_law_by_hand", none), "_law_by_hand", "_law_by_hand", defArgs (top 11), defBody (top 11), defScope (top 11), [], []⟩
def d_w_draw : He.DefD := ⟨("_law_draw", none), "_law_draw", "_law_draw", defArgs (top 6), defBody (top 6), defScope (top 6), [], []⟩
def d_w_weights : He.DefD := ⟨("_law_weights", none), "_law_weights", "_law_weights", defArgs (top 7), defBody (top 7), defScope (top 7), [], []⟩
def d_w_total : He.DefD := ⟨("_law_total", none), "_law_total", "_law_total", defArgs (top 8), defBody (top 8), defScope (top 8), [], []⟩
def d_law : He.DefD := ⟨("law", none), "law", "law", defArgs (top 12), defBody (top 12), defScope (top 12), [], []⟩
def fn : List He.DefD := [d_w_feed, d_rests, d_cuts, d_split, d_w_parts, d_w_right, d_w_by_hand, d_w_draw, d_w_weights, d_w_total, d_law]
def fa : List He.Fa := [.glo "_law_feed", .glo "rests", .glo "cuts", .glo "split", .glo "_law_parts", .glo "_law_right", .glo "_law_by_hand", .glo "_law_draw", .glo "_law_weights", .glo "_law_total", .glo "law", .free "tuple", .free "sum", .free "sorted", .free "range", .free "len", .free "zip", .free "list", .free "max", .free "repr", .free "isinstance", .free "min"]
abbrev Ro : PySem.W.OpenRow := PySem.W.OpenLaw.row PySem.Challenge.rw_tablebills_k09_splits_told
def tfq : List (He.Defn × Str) := [(("split", none), ("split" : Str) ++ ".<locals>." ++ "<lambda>")]
def tf : List He.Defn := [("split", none)]
abbrev hk : PySem.W.Hook := He.hookX 4 fa fn [] tf (apart tfq)
def ob (s : PySem.W.SharedT) : He.AlX := He.obsX 4 fa fn [] tf (apart tfq) (HandSHeadRun.getT s)
theorem ob_eq (s : PySem.W.SharedT) : ob s = hk.obs s.abs := He.obsX_eq (HandSHeadRun.getT_eq s)
theorem run (w : World) : HandSHeadRun.RunEq Ro (PySem.W.view Ro.prog [12]) hk ob 4000 ["cuts", "rests", "split", "_law_feed", "_law_draw", "_law_weights", "_law_total", "_law_parts", "_law_right", "_law_by_hand"] w := by
  intro os
  kernel_rfl
theorem facts {P : Program} {w : World} {K : PySem.W.Frag} {h : Heap} {mg : Str → Option Value} {f : Addr} (X : K.In h) (G : h.Ns mainGlobals mg) (hfa : mg ("law" : Str) = some (.ref f)) (cX : He.SaysX fa fn [] tf (apart tfq) w h K) :
    ∃ (K2 : PySem.W.Frag) (fd : FuncData) (cs : List (Addr × Addr)), K2.In h ∧ (∀ (s : Shared) (v : Value), BindsTo s fd ⟨[v], []⟩ [("_law_script", v)]) ∧ (∀ p ∈ cs, h.get? p.2 = some { cls := .none, data := .fields #[] }) ∧ (∀ p ∈ cs, K2.lookup p.2 = none) ∧ (∀ p ∈ cs, PySem.W.CodeHd h p.1 p.2) ∧ (∀ PT q, TabK K2 PT q → PT ∈ cs.map (·.2)) ∧
      ∀ base : Heap, K2.In base → base.Ns mainGlobals mg → (∀ p ∈ cs, LamX.TabB base mg p.1 p.2) → FnG P w K2 mg base 5 f fd ["_law_script"] (spM K2 f_law 1) := by
  have c := cX.t.d
  obtain ⟨fd_w_feed, F0_w_feed⟩ := c.def_ 0 (d := d_w_feed) rfl
  have g_w_feed := He.glo_ok X G (c.fact 0 (f := .glo "_law_feed") rfl)
  obtain ⟨fd_rests, F0_rests⟩ := c.def_ 1 (d := d_rests) rfl
  have g_rests := He.glo_ok X G (c.fact 1 (f := .glo "rests") rfl)
  obtain ⟨fd_cuts, F0_cuts⟩ := c.def_ 2 (d := d_cuts) rfl
  have g_cuts := He.glo_ok X G (c.fact 2 (f := .glo "cuts") rfl)
  obtain ⟨fd_split, F0_split⟩ := c.def_ 3 (d := d_split) rfl
  have g_split := He.glo_ok X G (c.fact 3 (f := .glo "split") rfl)
  obtain ⟨fd_w_parts, F0_w_parts⟩ := c.def_ 4 (d := d_w_parts) rfl
  have g_w_parts := He.glo_ok X G (c.fact 4 (f := .glo "_law_parts") rfl)
  obtain ⟨fd_w_right, F0_w_right⟩ := c.def_ 5 (d := d_w_right) rfl
  have g_w_right := He.glo_ok X G (c.fact 5 (f := .glo "_law_right") rfl)
  obtain ⟨fd_w_by_hand, F0_w_by_hand⟩ := c.def_ 6 (d := d_w_by_hand) rfl
  have g_w_by_hand := He.glo_ok X G (c.fact 6 (f := .glo "_law_by_hand") rfl)
  obtain ⟨fd_w_draw, F0_w_draw⟩ := c.def_ 7 (d := d_w_draw) rfl
  have g_w_draw := He.glo_ok X G (c.fact 7 (f := .glo "_law_draw") rfl)
  obtain ⟨fd_w_weights, F0_w_weights⟩ := c.def_ 8 (d := d_w_weights) rfl
  have g_w_weights := He.glo_ok X G (c.fact 8 (f := .glo "_law_weights") rfl)
  obtain ⟨fd_w_total, F0_w_total⟩ := c.def_ 9 (d := d_w_total) rfl
  have g_w_total := He.glo_ok X G (c.fact 9 (f := .glo "_law_total") rfl)
  obtain ⟨fd_law, F0_law⟩ := c.def_ 10 (d := d_law) rfl
  have g_law := He.glo_ok X G (c.fact 10 (f := .glo "law") rfl)
  have b_tuple := He.free_ok X G (c.fact 11 (f := .free "tuple") rfl)
  have b_sum := He.free_ok X G (c.fact 12 (f := .free "sum") rfl)
  have b_sorted := He.free_ok X G (c.fact 13 (f := .free "sorted") rfl)
  have b_range := He.free_ok X G (c.fact 14 (f := .free "range") rfl)
  have b_len := He.free_ok X G (c.fact 15 (f := .free "len") rfl)
  have b_zip := He.free_ok X G (c.fact 16 (f := .free "zip") rfl)
  have b_list := He.free_ok X G (c.fact 17 (f := .free "list") rfl)
  have b_max := He.free_ok X G (c.fact 18 (f := .free "max") rfl)
  have b_repr := He.free_ok X G (c.fact 19 (f := .free "repr") rfl)
  have b_isinstance := He.free_ok X G (c.fact 20 (f := .free "isinstance") rfl)
  have b_min := He.free_ok X G (c.fact 21 (f := .free "min") rfl)
  have e := hfa.symm.trans g_law
  cases e
  obtain ⟨o0, h0⟩ := fun_at F0_law
  have F_w_feed := FunD.mark (T := tabsT K tfq) F0_w_feed h0
  have F_rests := FunD.mark (T := tabsT K tfq) F0_rests h0
  have F_cuts := FunD.mark (T := tabsT K tfq) F0_cuts h0
  have F_split := FunD.mark (T := tabsT K tfq) F0_split h0
  have F_w_parts := FunD.mark (T := tabsT K tfq) F0_w_parts h0
  have F_w_right := FunD.mark (T := tabsT K tfq) F0_w_right h0
  have F_w_by_hand := FunD.mark (T := tabsT K tfq) F0_w_by_hand h0
  have F_w_draw := FunD.mark (T := tabsT K tfq) F0_w_draw h0
  have F_w_weights := FunD.mark (T := tabsT K tfq) F0_w_weights h0
  have F_w_total := FunD.mark (T := tabsT K tfq) F0_w_total h0
  have F_law := FunD.mark (T := tabsT K tfq) F0_law h0
  have m_split : ((("split", none), ("split" : Str) ++ ".<locals>." ++ "<lambda>") : He.Defn × Str) ∈ tfq := by simp [tfq]
  have t_split := tab_of (f0 := He.fAd K d_law.at_) cX.more m_split
  have k_split := code_at F0_split
  have bl := FunD.bindsA (ps := ["_law_script"]) F_law fun _ _ _ _ _ _ us hl => match us, hl with | [_], _ => rfl
  have tp : ∀ p ∈ tfq.map (fun p => He.cT K p.1), ∃ d ∈ tf, p = He.cT K d := fun p hp => by
    obtain ⟨d, hd, e⟩ := List.mem_map.mp hp
    exact ⟨d.1, List.mem_map.mpr ⟨d, hd, rfl⟩, e.symm⟩
  refine ⟨marked K (He.fAd K d_law.at_) (tabsT K tfq), fd_law, tfq.map fun p => He.cT K p.1, marked_in X h0, fun s v => bl s [v] rfl, fun p hp => ?_, fun p hp => ?_, fun p hp => ?_, fun PT q t => tab_in t, fun base _ _ TB => ?_⟩
  · obtain ⟨d, hd, rfl⟩ := tp p hp
    exact cX.empty d hd
  · obtain ⟨d, hd, rfl⟩ := tp p hp
    rw [lookup_marked h0]
    exact cX.out d hd
  · obtain ⟨d, hd, rfl⟩ := tp p hp
    exact PySem.W.codeHd_of_K X (cX.hd d hd)
  generalize marked K (He.fAd K d_law.at_) (tabsT K tfq) = K2 at *
  have G_w_feed : FnG P w K2 mg base 1 _ fd_w_feed ["_law_script"] (spM K2 f_w_feed 1) := fng_of (k := 0) (c := c_w_feed) F_w_feed s_w_feed rfl rfl e_w_feed trivial trivial trivial
  have hsh_w_feed_1 : ShG P w K2 mg base 1 sh_w_feed_1 := sh_pos G_w_feed g_w_feed F_w_feed.kp (F_w_feed.bindsN fun _ _ _ _ _ _ us hl => match us, hl with | [_], _ => rfl)
  have G_rests : FnG P w K2 mg base 1 _ fd_rests ["total", "weights"] (spM K2 f_rests 2) := fng_of (k := 0) (c := c_rests) F_rests s_rests rfl rfl e_rests trivial trivial ⟨b_tuple, b_sum, trivial⟩
  have hsh_rests_2 : ShG P w K2 mg base 1 sh_rests_2 := sh_pos G_rests g_rests F_rests.kp (F_rests.bindsN fun _ _ _ _ _ _ us hl => match us, hl with | [_, _], _ => rfl)
  have G_cuts : FnG P w K2 mg base 1 _ fd_cuts ["total", "weights"] (spM K2 f_cuts 2) := fng_of (k := 0) (c := c_cuts) F_cuts s_cuts rfl rfl e_cuts trivial trivial ⟨b_sum, trivial⟩
  have hsh_cuts_2 : ShG P w K2 mg base 1 sh_cuts_2 := sh_pos G_cuts g_cuts F_cuts.kp (F_cuts.bindsN fun _ _ _ _ _ _ us hl => match us, hl with | [_, _], _ => rfl)
  have G_split : FnG P w K2 mg base 2 _ fd_split ["total", "weights"] (spM K2 f_split 2) := fng_ofL (k := 1) (c := c_split) F_split s_split rfl rfl e_split ⟨hsh_cuts_2.mono (by decide), hsh_rests_2.mono (by decide), trivial⟩ trivial ⟨b_sorted, b_range, b_len, b_sum, b_tuple, trivial⟩ k_split (TB _ (List.mem_map.mpr ⟨_, m_split, rfl⟩)) t_split rfl
  have hsh_split_2 : ShG P w K2 mg base 2 sh_split_2 := sh_pos G_split g_split F_split.kp (F_split.bindsN fun _ _ _ _ _ _ us hl => match us, hl with | [_, _], _ => rfl)
  have G_w_parts : FnG P w K2 mg base 1 _ fd_w_parts ["_law_total_here", "_law_weights_here"] (spM K2 f_w_parts 2) := fng_of (k := 0) (c := c_w_parts) F_w_parts s_w_parts rfl rfl e_w_parts trivial trivial ⟨b_sum, b_zip, b_list, b_range, b_len, b_max, trivial⟩
  have hsh_w_parts_2 : ShG P w K2 mg base 1 sh_w_parts_2 := sh_pos G_w_parts g_w_parts F_w_parts.kp (F_w_parts.bindsN fun _ _ _ _ _ _ us hl => match us, hl with | [_, _], _ => rfl)
  have G_w_right : FnG P w K2 mg base 3 _ fd_w_right ["_law_total_here", "_law_weights_here"] (spM K2 f_w_right 2) := fng_of (k := 2) (c := c_w_right) F_w_right s_w_right rfl rfl e_w_right ⟨hsh_w_parts_2.mono (by decide), hsh_split_2.mono (by decide), hsh_rests_2.mono (by decide), trivial⟩ trivial ⟨b_repr, b_tuple, b_isinstance, trivial⟩
  have hsh_w_right_2 : ShG P w K2 mg base 3 sh_w_right_2 := sh_pos G_w_right g_w_right F_w_right.kp (F_w_right.bindsN fun _ _ _ _ _ _ us hl => match us, hl with | [_, _], _ => rfl)
  have G_w_by_hand : FnG P w K2 mg base 4 _ fd_w_by_hand [] (spM K2 f_w_by_hand 0) := fng_of (k := 3) (c := c_w_by_hand) F_w_by_hand s_w_by_hand rfl rfl e_w_by_hand ⟨hsh_w_right_2.mono (by decide), hsh_split_2.mono (by decide), hsh_rests_2.mono (by decide), trivial⟩ trivial trivial
  have hsh_w_by_hand_0 : ShG P w K2 mg base 4 sh_w_by_hand_0 := sh_pos G_w_by_hand g_w_by_hand F_w_by_hand.kp (F_w_by_hand.bindsN fun _ _ _ _ _ _ us hl => match us, hl with | [], _ => rfl)
  have G_w_draw : FnG P w K2 mg base 1 _ fd_w_draw ["_law_feed_here", "_law_many"] (spM K2 f_w_draw 2) := fng_of (k := 0) (c := c_w_draw) F_w_draw s_w_draw rfl rfl e_w_draw trivial trivial ⟨b_len, trivial⟩
  have hsh_w_draw_2 : ShG P w K2 mg base 1 sh_w_draw_2 := sh_pos G_w_draw g_w_draw F_w_draw.kp (F_w_draw.bindsN fun _ _ _ _ _ _ us hl => match us, hl with | [_, _], _ => rfl)
  have G_w_weights : FnG P w K2 mg base 2 _ fd_w_weights ["_law_feed_here", "_law_many"] (spM K2 f_w_weights 2) := fng_of (k := 1) (c := c_w_weights) F_w_weights s_w_weights rfl rfl e_w_weights ⟨hsh_w_draw_2.mono (by decide), trivial⟩ trivial ⟨b_range, b_sum, b_len, b_tuple, trivial⟩
  have hsh_w_weights_2 : ShG P w K2 mg base 2 sh_w_weights_2 := sh_pos G_w_weights g_w_weights F_w_weights.kp (F_w_weights.bindsN fun _ _ _ _ _ _ us hl => match us, hl with | [_, _], _ => rfl)
  have G_w_total : FnG P w K2 mg base 2 _ fd_w_total ["_law_feed_here", "_law_weights_here"] (spM K2 f_w_total 2) := fng_of (k := 1) (c := c_w_total) F_w_total s_w_total rfl rfl e_w_total ⟨hsh_w_draw_2.mono (by decide), trivial⟩ trivial ⟨b_sum, b_len, trivial⟩
  have hsh_w_total_2 : ShG P w K2 mg base 2 sh_w_total_2 := sh_pos G_w_total g_w_total F_w_total.kp (F_w_total.bindsN fun _ _ _ _ _ _ us hl => match us, hl with | [_, _], _ => rfl)
  have G_law : FnG P w K2 mg base 5 _ fd_law ["_law_script"] (spM K2 f_law 1) := fng_of (k := 4) (c := c_law) F_law s_law rfl rfl e_law ⟨hsh_w_feed_1.mono (by decide), hsh_w_weights_2.mono (by decide), hsh_w_draw_2.mono (by decide), hsh_w_total_2.mono (by decide), hsh_w_right_2.mono (by decide), hsh_w_by_hand_0.mono (by decide), trivial⟩ trivial ⟨b_range, b_repr, b_min, trivial⟩
  exact G_law
theorem ends (hT : Tells f_law) : PySem.Challenge.rw_tablebills_k09_splits_told.Holds := by
  w_on; o_law
  refine HandSHeadRun.head_any (r := Ro) (q := PySem.W.view Ro.prog [12]) (H := hk) (ob := ob) (M := 4000) (loose := ["cuts", "rests", "split", "_law_feed", "_law_draw", "_law_weights", "_law_total", "_law_parts", "_law_right", "_law_by_hand"]) (d := HandSHeadRun.topDef Ro.prog 12) (kwd := []) ob_eq
    (by kernel_rfl) (fun s => by kernel_rfl) run (by kernel_rfl) (by kernel_rfl) (by kernel_rfl) (by rfl) (by first | assumption | decide +kernel) (by decide +kernel) ⟨rfl, rfl, rfl, rfl, rfl, by decide +kernel⟩ ?hw ?hc
  case hw => w_witness2
  case hc =>
    refine law_of (l := PySem.Challenge.rw_tablebills_k09_splits_told) (k := 5) (x := "_law_script") (F := f_law) rfl (by kernel_rfl) ⟨rfl, by decide, by decide⟩ hT ?_
    intro w mg fa0 h Y G hmg0
    obtain ⟨K, KX, c⟩ := Y
    have hmg : mg ("law" : PySem.Str) = some (.ref fa0) := by
      have e : (HandSHeadRun.topDef Ro.prog 12).name = ("law" : PySem.Str) := by kernel_rfl
      rw [← e]
      exact hmg0
    exact facts (P := PySem.Challenge.rw_tablebills_k09_splits_told.prog) (w := w) KX G hmg c
end Lw
end

section
set_option maxHeartbeats 0
open PySem PySem.Spec PyProof.Rows L2 Tb
namespace Lw
abbrev T_w_feed : SC := ⟨[], [], [], true⟩
noncomputable def q_w_feed : PS' :=
  pRet (pLst (pCons (pCut opCut (pVar 0) (pNoPart) (pPart (pC (.int 63)))) (pCons (pC (.int 0)) (pCons (pC (.int 0)) (pCons (pC (.int 0)) (pNil))))))
theorem sq_w_feed : SimS T_w_feed (m_w_feed) (q_w_feed) := by
  unfold m_w_feed q_w_feed
  exact ss_retNew rfl (sh_lst (sim_cons (sim_cute (sim_var (by decide) (by decide)) (sim_noPart) (sim_part (sim_c rfl)) ok_opCut) (sim_cons (sim_c rfl) (sim_cons (sim_c rfl) (sim_cons (sim_c rfl) (sim_nil))))))
noncomputable def p_w_feed : PF := pFn 1 [] true q_w_feed
theorem sf_w_feed : SimF 1 [] [] true f_w_feed p_w_feed := sim_fn sq_w_feed rfl (by decide) (by decide) (by decide) (by decide) (by decide) (by decide)
abbrev T_rests : SC := ⟨[], [], [], false⟩
noncomputable def q_rests : PS' :=
  pRet (pCallB bTuple (pCons (pLc (pIter (pVar 1)) [2] (mgName 2) (pYes) (pOp opMod (pOp opRep (pVar 0) (pVar 2)) (pCallB bSum (pCons (pVar 1) (pNil))))) (pNil)))
theorem sq_rests : SimS T_rests (m_rests) (q_rests) := by
  unfold m_rests q_rests
  exact ss_retF rfl (s_be (sim_cons (s_lc (si_val (sim_var (by decide) (by decide))) (tg_name (by decide) (by decide)) (sim_yes) (so_ee (so_ee (sim_var (by decide) (by decide)) (sim_var (by decide) (by decide)) ok_opRep) (s_be (sim_cons (sim_var (by decide) (by decide)) (sim_nil)) ok_bSum) ok_opMod) (by decide)) (sim_nil)) ok_bTuple)
noncomputable def p_rests : PF := pFn 3 [] false q_rests
theorem sf_rests : SimF 2 [] [] false f_rests p_rests := sim_fn sq_rests rfl (by decide) (by decide) (by decide) (by decide) (by decide) (by decide)
abbrev T_cuts : SC := ⟨[], [], [], true⟩
noncomputable def q_cuts : PS' :=
  pRet (pLc (pIter (pVar 1)) [2] (mgName 2) (pYes) (pOp opDiv (pOp opRep (pVar 0) (pVar 2)) (pCallB bSum (pCons (pVar 1) (pNil)))))
theorem sq_cuts : SimS T_cuts (m_cuts) (q_cuts) := by
  unfold m_cuts q_cuts
  exact ss_retNew rfl (sh_lc (si_val (sim_var (by decide) (by decide))) (tg_name (by decide) (by decide)) (sim_yes) (so_ee (so_ee (sim_var (by decide) (by decide)) (sim_var (by decide) (by decide)) ok_opRep) (s_be (sim_cons (sim_var (by decide) (by decide)) (sim_nil)) ok_bSum) ok_opDiv) (by decide))
noncomputable def p_cuts : PF := pFn 3 [] true q_cuts
theorem sf_cuts : SimF 2 [] [] true f_cuts p_cuts := sim_fn sq_cuts rfl (by decide) (by decide) (by decide) (by decide) (by decide) (by decide)
abbrev T_split : SC := ⟨[2], [], [], false⟩
noncomputable def b_split_1 : PS' :=
  pAugSub iopAdd 2 (pVar 5) (pC (.int 1))
theorem sb_split_1 : SimS (T_split) (mAugSub getIxL iopAdd setIx (mVar 2) (mVar 5) (mC (.int 1))) (b_split_1) := by
  unfold b_split_1
  exact ss_augSub ok_iopAdd (by decide) (sim_var (by decide) (by decide)) (sim_c rfl)
noncomputable def q_split_4 : PS' :=
  pRet (pCallB bTuple (pCons (pVar 2) (pNil)))
theorem sq_split_4 : SimS T_split (m_split_4) (q_split_4) := by
  unfold m_split_4 q_split_4
  exact ss_retF rfl (s_br (ra_cons (sim_hv) (ra_nil)) ok_bTuple)
noncomputable def q_split_3 : PS' :=
  pSeq (pFor (pIter (pCut opCut (pVar 4) (pNoPart) (pPart (pOp opSub (pVar 0) (pCallB bSum (pCons (pVar 2) (pNil))))))) (mgName 5) (b_split_1)) (q_split_4)
theorem sq_split_3 : SimS T_split (m_split_3) (q_split_3) := by
  unfold m_split_3 q_split_3
  exact ss_seq (ss_for (si_val (sim_cute (sim_var (by decide) (by decide)) (sim_noPart) (sim_part (so_ee (sim_var (by decide) (by decide)) (s_br (ra_cons (sim_hv) (ra_nil)) ok_bSum) ok_opSub)) ok_opCut)) (tg_name (by decide) (by decide)) (sb_split_1)) (sq_split_4)
noncomputable def q_split_2 : PS' :=
  pSeq (pSet 4 (pSortR (.one (.neg (.ix (.var 3) .par))) (pCallB bLen (pCons (pVar 1) (pNil))))) (q_split_3)
theorem sq_split_2 : SimS T_split (m_split_2) (q_split_2) := by
  unfold m_split_2 q_split_2
  exact ss_seq (ss_set (by decide) (by decide) (sim_sortR (by decide) (s_be (sim_cons (sim_var (by decide) (by decide)) (sim_nil)) ok_bLen))) (sq_split_3)
noncomputable def q_split_1 : PS' :=
  pSeq (pSet 3 (pCall0 2 p_rests [] (pCons (pVar 0) (pCons (pVar 1) (pNil))))) (q_split_2)
theorem sq_split_1 : SimS T_split (m_split_1) (q_split_1) := by
  unfold m_split_1 q_split_1
  exact ss_seq (ss_set (by decide) (by decide) (sim_call0 (dv := []) sf_rests rfl (sim_cons (sim_var (by decide) (by decide)) (sim_cons (sim_var (by decide) (by decide)) (sim_nil))))) (sq_split_2)
noncomputable def q_split : PS' :=
  pSeq (pSet 2 (pCall 2 p_cuts [] [none, none] [] (pCons (pVar 0) (pCons (pVar 1) (pNil))))) (q_split_1)
theorem sq_split : SimS T_split (m_split) (q_split) := by
  unfold m_split q_split
  exact ss_seq (ss_setH (by decide) (by decide) (sh_call (dv := []) (sh := [none, none]) (dst := []) sf_cuts (by decide) rfl (fun _ => rfl) (sl_val (sim_var (by decide) (by decide)) (sl_val (sim_var (by decide) (by decide)) (sl_nil))))) (sq_split_1)
noncomputable def p_split : PF := pFn 6 [] false q_split
theorem sf_split : SimF 2 [] [] false f_split p_split := sim_fn sq_split rfl (by decide) (by decide) (by decide) (by decide) (by decide) (by decide)
abbrev T_w_parts : SC := ⟨[7], [], [], false⟩
noncomputable def b_w_parts_1 : PS' :=
  pSeq (pSet 6 (pLc (pRange1 (pCallB bLen (pCons (pVar 3) (pNil)))) [9] (mgName 9) (pAsB (pOp opEq (pOp opIx (pVar 7) (pVar 9)) (pOp opIx (pVar 3) (pVar 9)))) (pVar 9))) (pSeq (pSet 10 (pCallB bMax (pCons (pLc (pIter (pVar 6)) [9] (mgName 9) (pYes) (pOp opIx (pVar 5) (pVar 9))) (pNil)))) (pAugSub iopAdd 7 (pOp opIx (pLc (pIter (pVar 6)) [9] (mgName 9) (pAsB (pOp opEq (pOp opIx (pVar 5) (pVar 9)) (pVar 10))) (pVar 9)) (pC (.int 0))) (pC (.int 1))))
theorem sb_w_parts_1 : SimS (T_w_parts) (mSeq (mSet 6 (mLc (mRange1 (mCallB bLen (mCons (mVar 3) (mNil)))) [9] (mgName 9) (mAsB (mOp opEq (mOp opIx (mVar 7) (mVar 9)) (mOp opIx (mVar 3) (mVar 9)))) (mVar 9) finL)) (mSeq (mSet 10 (mCallB bMax (mCons (mLc (mIter (mVar 6)) [9] (mgName 9) (mYes) (mOp opIx (mVar 5) (mVar 9)) finL) (mNil)))) (mAugSub getIxL iopAdd setIx (mVar 7) (mOp opIx (mLc (mIter (mVar 6)) [9] (mgName 9) (mAsB (mOp opEq (mOp opIx (mVar 5) (mVar 9)) (mVar 10))) (mVar 9) finL) (mC (.int 0))) (mC (.int 1))))) (b_w_parts_1) := by
  unfold b_w_parts_1
  exact ss_seq (ss_set (by decide) (by decide) (s_lc (si_range1 (s_be (sim_cons (sim_var (by decide) (by decide)) (sim_nil)) ok_bLen)) (tg_name (by decide) (by decide)) (s_asB (so_ee (so_rr sim_hv (SimR.of (sim_var (by decide) (by decide))) ok_opIx) (so_ee (sim_var (by decide) (by decide)) (sim_var (by decide) (by decide)) ok_opIx) ok_opEq)) (sim_var (by decide) (by decide)) (by decide))) (ss_seq (ss_set (by decide) (by decide) (s_be (sim_cons (s_lc (si_val (sim_var (by decide) (by decide))) (tg_name (by decide) (by decide)) (sim_yes) (so_ee (sim_var (by decide) (by decide)) (sim_var (by decide) (by decide)) ok_opIx) (by decide)) (sim_nil)) ok_bMax)) (ss_augSub ok_iopAdd (by decide) (so_ee (s_lc (si_val (sim_var (by decide) (by decide))) (tg_name (by decide) (by decide)) (s_asB (so_ee (so_ee (sim_var (by decide) (by decide)) (sim_var (by decide) (by decide)) ok_opIx) (sim_var (by decide) (by decide)) ok_opEq)) (sim_var (by decide) (by decide)) (by decide)) (sim_c rfl) ok_opIx) (sim_c rfl)))
noncomputable def q_w_parts_5 : PS' :=
  pRetT [7] [3, 5, 7]
theorem sq_w_parts_5 : SimS T_w_parts (m_w_parts_5) (q_w_parts_5) := by
  unfold m_w_parts_5 q_w_parts_5
  exact ss_retT (is := [3, 5, 7]) (by decide) rfl (by decide) (by decide)
noncomputable def q_w_parts_4 : PS' :=
  pSeq (pFor (pRange1 (pOp opSub (pVar 0) (pCallB bSum (pCons (pVar 3) (pNil))))) (mgName 8) (b_w_parts_1)) (q_w_parts_5)
theorem sq_w_parts_4 : SimS T_w_parts (m_w_parts_4) (q_w_parts_4) := by
  unfold m_w_parts_4 q_w_parts_4
  exact ss_seq (ss_for (si_range1 (so_ee (sim_var (by decide) (by decide)) (s_be (sim_cons (sim_var (by decide) (by decide)) (sim_nil)) ok_bSum) ok_opSub)) (tg_name (by decide) (by decide)) (sb_w_parts_1)) (sq_w_parts_5)
noncomputable def q_w_parts_3 : PS' :=
  pSeq (pSet 7 (pCallB bList (pCons (pVar 3) (pNil)))) (q_w_parts_4)
theorem sq_w_parts_3 : SimS T_w_parts (m_w_parts_3) (q_w_parts_3) := by
  unfold m_w_parts_3 q_w_parts_3
  exact ss_seq (ss_setH (by decide) (by decide) (sh_list (SimR.of (sim_var (by decide) (by decide))))) (sq_w_parts_4)
noncomputable def q_w_parts_2 : PS' :=
  pSeq (pSet 5 (pLc (pZip (pSrc (pVar 1)) (pSrc (pVar 3))) [4, 6] (mgTup 2 (mgCons (mgName 4) (mgCons (mgName 6) (mgNil)))) (pYes) (pOp opSub (pOp opRep (pVar 0) (pVar 4)) (pOp opRep (pVar 6) (pVar 2))))) (q_w_parts_3)
theorem sq_w_parts_2 : SimS T_w_parts (m_w_parts_2) (q_w_parts_2) := by
  unfold m_w_parts_2 q_w_parts_2
  exact ss_seq (ss_set (by decide) (by decide) (s_lc (si_zipL (sim_var (by decide) (by decide)) (src_val (sim_var (by decide) (by decide)))) (tg_tup (tgs_cons (tg_name (by decide) (by decide)) (tgs_cons (tg_name (by decide) (by decide)) (tgs_nil)))) (sim_yes) (so_ee (so_ee (sim_var (by decide) (by decide)) (sim_var (by decide) (by decide)) ok_opRep) (so_ee (sim_var (by decide) (by decide)) (sim_var (by decide) (by decide)) ok_opRep) ok_opSub) (by decide))) (sq_w_parts_3)
noncomputable def q_w_parts_1 : PS' :=
  pSeq (pSet 3 (pLc (pIter (pVar 1)) [4] (mgName 4) (pYes) (pOp opDiv (pOp opRep (pVar 0) (pVar 4)) (pVar 2)))) (q_w_parts_2)
theorem sq_w_parts_1 : SimS T_w_parts (m_w_parts_1) (q_w_parts_1) := by
  unfold m_w_parts_1 q_w_parts_1
  exact ss_seq (ss_set (by decide) (by decide) (s_lc (si_val (sim_var (by decide) (by decide))) (tg_name (by decide) (by decide)) (sim_yes) (so_ee (so_ee (sim_var (by decide) (by decide)) (sim_var (by decide) (by decide)) ok_opRep) (sim_var (by decide) (by decide)) ok_opDiv) (by decide))) (sq_w_parts_2)
noncomputable def q_w_parts : PS' :=
  pSeq (pSet 2 (pCallB bSum (pCons (pVar 1) (pNil)))) (q_w_parts_1)
theorem sq_w_parts : SimS T_w_parts (m_w_parts) (q_w_parts) := by
  unfold m_w_parts q_w_parts
  exact ss_seq (ss_set (by decide) (by decide) (s_be (sim_cons (sim_var (by decide) (by decide)) (sim_nil)) ok_bSum)) (sq_w_parts_1)
noncomputable def p_w_parts : PF := pFn 11 [] false q_w_parts
theorem sf_w_parts : SimF 2 [] [] false f_w_parts p_w_parts := sim_fn sq_w_parts rfl (by decide) (by decide) (by decide) (by decide) (by decide) (by decide)
abbrev T_w_right : SC := ⟨[], [], [], false⟩
noncomputable def q_w_right_3 : PS' :=
  pRet (pOp opEq (pCallB bRepr (pCons (pCall0 2 p_rests [] (pCons (pVar 0) (pCons (pVar 1) (pNil)))) (pNil))) (pCallB bRepr (pCons (pCallB bTuple (pCons (pVar 3) (pNil))) (pNil))))
theorem sq_w_right_3 : SimS T_w_right (m_w_right_3) (q_w_right_3) := by
  unfold m_w_right_3 q_w_right_3
  exact ss_retF rfl (so_ee (s_be (sim_cons (sim_call0 (dv := []) sf_rests rfl (sim_cons (sim_var (by decide) (by decide)) (sim_cons (sim_var (by decide) (by decide)) (sim_nil)))) (sim_nil)) ok_bRepr) (s_be (sim_cons (s_be (sim_cons (sim_var (by decide) (by decide)) (sim_nil)) ok_bTuple) (sim_nil)) ok_bRepr) ok_opEq)
noncomputable def q_w_right_2 : PS' :=
  pSeq (pIfS (pOr (pNot (p1 truth (pCallB bIsi (pCons (pVar 5) (pCons (pC (.raw (.ty "tuple"))) (pNil)))))) (pAsB (pOp opNe (pCallB bRepr (pCons (pVar 5) (pNil))) (pCallB bRepr (pCons (pCallB bTuple (pCons (pVar 4) (pNil))) (pNil)))))) (pRet (pC (.bl false))) (pSkip)) (q_w_right_3)
theorem sq_w_right_2 : SimS T_w_right (m_w_right_2) (q_w_right_2) := by
  unfold m_w_right_2 q_w_right_2
  exact ss_seq (ss_if (sim_or (sim_not (s_truthE (s_be (sim_cons (sim_var (by decide) (by decide)) (sim_cons (sim_c rfl) (sim_nil))) ok_bIsi))) (s_asB (so_ee (s_be (sim_cons (sim_var (by decide) (by decide)) (sim_nil)) ok_bRepr) (s_be (sim_cons (s_be (sim_cons (sim_var (by decide) (by decide)) (sim_nil)) ok_bTuple) (sim_nil)) ok_bRepr) ok_opNe))) (ss_retF rfl (sim_c rfl)) (ss_skip)) (sq_w_right_3)
noncomputable def q_w_right_1 : PS' :=
  pSeq (pSet 5 (pCall0 2 p_split [] (pCons (pVar 0) (pCons (pVar 1) (pNil))))) (q_w_right_2)
theorem sq_w_right_1 : SimS T_w_right (m_w_right_1) (q_w_right_1) := by
  unfold m_w_right_1 q_w_right_1
  exact ss_seq (ss_set (by decide) (by decide) (sim_call0 (dv := []) sf_split rfl (sim_cons (sim_var (by decide) (by decide)) (sim_cons (sim_var (by decide) (by decide)) (sim_nil))))) (sq_w_right_2)
noncomputable def q_w_right : PS' :=
  pSeq (pUnpack (mgTup 3 (mgCons (mgName 2) (mgCons (mgName 3) (mgCons (mgName 4) (mgNil))))) (pCall0 2 p_w_parts [] (pCons (pVar 0) (pCons (pVar 1) (pNil))))) (q_w_right_1)
theorem sq_w_right : SimS T_w_right (m_w_right) (q_w_right) := by
  unfold m_w_right q_w_right
  exact ss_seq (ss_unpack (tg_tup (tgs_cons (tg_name (by decide) (by decide)) (tgs_cons (tg_name (by decide) (by decide)) (tgs_cons (tg_name (by decide) (by decide)) (tgs_nil))))) (sim_call0 (dv := []) sf_w_parts rfl (sim_cons (sim_var (by decide) (by decide)) (sim_cons (sim_var (by decide) (by decide)) (sim_nil))))) (sq_w_right_1)
noncomputable def p_w_right : PF := pFn 6 [] false q_w_right
theorem sf_w_right : SimF 2 [] [] false f_w_right p_w_right := sim_fn sq_w_right rfl (by decide) (by decide) (by decide) (by decide) (by decide) (by decide)
abbrev T_w_by_hand : SC := ⟨[0], [], [], false⟩
noncomputable def b_w_by_hand_1 : PS' :=
  pIfS (pOr (pAsB (pOp opNe (pCall0 2 p_split [] (pCons (pVar 1) (pCons (pVar 2) (pNil)))) (pVar 3))) (pNot (p1 truth (pCall0 2 p_w_right [] (pCons (pVar 1) (pCons (pVar 2) (pNil))))))) (pRet (pC (.bl false))) (pSkip)
theorem sb_w_by_hand_1 : SimS ((T_w_by_hand).fx 0) (mIfS (mOr (mAsB (mOp opNe (mCall 2 f_split [] (mCons (mVar 1) (mCons (mVar 2) (mNil)))) (mVar 3))) (mNot (mTruth (mCall 2 f_w_right [] (mCons (mVar 1) (mCons (mVar 2) (mNil))))))) (mRetF (mC (.bl false))) (mSkip)) (b_w_by_hand_1) := by
  unfold b_w_by_hand_1
  exact ss_if (sim_or (s_asB (so_ee (sim_call0 (dv := []) sf_split rfl (sim_cons (sim_var (by decide) (by decide)) (sim_cons (sim_var (by decide) (by decide)) (sim_nil)))) (sim_var (by decide) (by decide)) ok_opNe)) (sim_not (s_truthE (sim_call0 (dv := []) sf_w_right rfl (sim_cons (sim_var (by decide) (by decide)) (sim_cons (sim_var (by decide) (by decide)) (sim_nil))))))) (ss_retF rfl (sim_c rfl)) (ss_skip)
noncomputable def q_w_by_hand_3 : PS' :=
  pRet (pAndV (pOp opEq (pCall0 2 p_rests [] (pCons (pC (.int 10)) (pCons (pTup (pCons (pC (.int 1)) (pCons (pC (.int 1)) (pCons (pC (.int 1)) (pNil))))) (pNil)))) (pTup (pCons (pC (.int 1)) (pCons (pC (.int 1)) (pCons (pC (.int 1)) (pNil)))))) (pOp opEq (pCall0 2 p_rests [] (pCons (pC (.int 7)) (pCons (pTup (pCons (pC (.int 3)) (pCons (pC (.int 2)) (pCons (pC (.int 1)) (pNil))))) (pNil)))) (pTup (pCons (pC (.int 3)) (pCons (pC (.int 2)) (pCons (pC (.int 1)) (pNil)))))))
theorem sq_w_by_hand_3 : SimS T_w_by_hand (m_w_by_hand_3) (q_w_by_hand_3) := by
  unfold m_w_by_hand_3 q_w_by_hand_3
  exact ss_retF rfl (sim_andV (so_ee (sim_call0 (dv := []) sf_rests rfl (sim_cons (sim_c rfl) (sim_cons (sim_tup (sim_cons (sim_c rfl) (sim_cons (sim_c rfl) (sim_cons (sim_c rfl) (sim_nil))))) (sim_nil)))) (sim_tup (sim_cons (sim_c rfl) (sim_cons (sim_c rfl) (sim_cons (sim_c rfl) (sim_nil))))) ok_opEq) (so_ee (sim_call0 (dv := []) sf_rests rfl (sim_cons (sim_c rfl) (sim_cons (sim_tup (sim_cons (sim_c rfl) (sim_cons (sim_c rfl) (sim_cons (sim_c rfl) (sim_nil))))) (sim_nil)))) (sim_tup (sim_cons (sim_c rfl) (sim_cons (sim_c rfl) (sim_cons (sim_c rfl) (sim_nil))))) ok_opEq))
noncomputable def q_w_by_hand_2 : PS' :=
  pSeq (pFor (pIterK 0) (mgTup 3 (mgCons (mgName 1) (mgCons (mgName 2) (mgCons (mgName 3) (mgNil))))) (b_w_by_hand_1)) (q_w_by_hand_3)
theorem sq_w_by_hand_2 : SimS T_w_by_hand (m_w_by_hand_2) (q_w_by_hand_2) := by
  unfold m_w_by_hand_2 q_w_by_hand_2
  exact ss_seq (ss_fx 0 (ss_for (si_held (by decide) (by decide)) (tg_tup (tgs_cons (tg_name (by decide) (by decide)) (tgs_cons (tg_name (by decide) (by decide)) (tgs_cons (tg_name (by decide) (by decide)) (tgs_nil))))) (sb_w_by_hand_1))) (sq_w_by_hand_3)
noncomputable def q_w_by_hand_1 : PS' :=
  pSeq (pDo (pMeth gExtend 0 (pCons (pLst (pCons (pTup (pCons (pC (.int 1)) (pCons (pTup (pCons (pC (.int 1)) (pCons (pC (.int 2)) (pCons (pC (.int 2)) (pNil))))) (pCons (pTup (pCons (pC (.int 0)) (pCons (pC (.int 1)) (pCons (pC (.int 0)) (pNil))))) (pNil))))) (pCons (pTup (pCons (pC (.int 3)) (pCons (pTup (pCons (pC (.int 2)) (pCons (pC (.int 2)) (pCons (pC (.int 1)) (pNil))))) (pCons (pTup (pCons (pC (.int 1)) (pCons (pC (.int 1)) (pCons (pC (.int 1)) (pNil))))) (pNil))))) (pCons (pTup (pCons (pC (.int 0)) (pCons (pTup (pCons (pC (.int 5)) (pNil))) (pCons (pTup (pCons (pC (.int 0)) (pNil))) (pNil))))) (pCons (pTup (pCons (pC (.int 7)) (pCons (pTup (pCons (pC (.int 3)) (pCons (pC (.int 2)) (pCons (pC (.int 1)) (pNil))))) (pCons (pTup (pCons (pC (.int 4)) (pCons (pC (.int 2)) (pCons (pC (.int 1)) (pNil))))) (pNil))))) (pNil)))))) (pNil)))) (q_w_by_hand_2)
theorem sq_w_by_hand_1 : SimS T_w_by_hand (m_w_by_hand_1) (q_w_by_hand_1) := by
  unfold m_w_by_hand_1 q_w_by_hand_1
  exact ss_seq (ss_do (sim_methv ok_extend.v (by decide) (sim_cons (sim_lst (sim_cons (sim_tup (sim_cons (sim_c rfl) (sim_cons (sim_tup (sim_cons (sim_c rfl) (sim_cons (sim_c rfl) (sim_cons (sim_c rfl) (sim_nil))))) (sim_cons (sim_tup (sim_cons (sim_c rfl) (sim_cons (sim_c rfl) (sim_cons (sim_c rfl) (sim_nil))))) (sim_nil))))) (sim_cons (sim_tup (sim_cons (sim_c rfl) (sim_cons (sim_tup (sim_cons (sim_c rfl) (sim_cons (sim_c rfl) (sim_cons (sim_c rfl) (sim_nil))))) (sim_cons (sim_tup (sim_cons (sim_c rfl) (sim_cons (sim_c rfl) (sim_cons (sim_c rfl) (sim_nil))))) (sim_nil))))) (sim_cons (sim_tup (sim_cons (sim_c rfl) (sim_cons (sim_tup (sim_cons (sim_c rfl) (sim_nil))) (sim_cons (sim_tup (sim_cons (sim_c rfl) (sim_nil))) (sim_nil))))) (sim_cons (sim_tup (sim_cons (sim_c rfl) (sim_cons (sim_tup (sim_cons (sim_c rfl) (sim_cons (sim_c rfl) (sim_cons (sim_c rfl) (sim_nil))))) (sim_cons (sim_tup (sim_cons (sim_c rfl) (sim_cons (sim_c rfl) (sim_cons (sim_c rfl) (sim_nil))))) (sim_nil))))) (sim_nil)))))) (sim_nil)))) (sq_w_by_hand_2)
noncomputable def q_w_by_hand : PS' :=
  pSeq (pSet 0 (pLst (pCons (pTup (pCons (pC (.int 10)) (pCons (pTup (pCons (pC (.int 1)) (pCons (pC (.int 1)) (pCons (pC (.int 1)) (pNil))))) (pCons (pTup (pCons (pC (.int 4)) (pCons (pC (.int 3)) (pCons (pC (.int 3)) (pNil))))) (pNil))))) (pCons (pTup (pCons (pC (.int 11)) (pCons (pTup (pCons (pC (.int 1)) (pCons (pC (.int 1)) (pCons (pC (.int 1)) (pNil))))) (pCons (pTup (pCons (pC (.int 4)) (pCons (pC (.int 4)) (pCons (pC (.int 3)) (pNil))))) (pNil))))) (pCons (pTup (pCons (pC (.int 5)) (pCons (pTup (pCons (pC (.int 0)) (pCons (pC (.int 3)) (pCons (pC (.int 0)) (pNil))))) (pCons (pTup (pCons (pC (.int 0)) (pCons (pC (.int 5)) (pCons (pC (.int 0)) (pNil))))) (pNil))))) (pNil)))))) (q_w_by_hand_1)
theorem sq_w_by_hand : SimS T_w_by_hand (m_w_by_hand) (q_w_by_hand) := by
  unfold m_w_by_hand q_w_by_hand
  exact ss_seq (ss_setH (by decide) (by decide) (sh_lst (sim_cons (sim_tup (sim_cons (sim_c rfl) (sim_cons (sim_tup (sim_cons (sim_c rfl) (sim_cons (sim_c rfl) (sim_cons (sim_c rfl) (sim_nil))))) (sim_cons (sim_tup (sim_cons (sim_c rfl) (sim_cons (sim_c rfl) (sim_cons (sim_c rfl) (sim_nil))))) (sim_nil))))) (sim_cons (sim_tup (sim_cons (sim_c rfl) (sim_cons (sim_tup (sim_cons (sim_c rfl) (sim_cons (sim_c rfl) (sim_cons (sim_c rfl) (sim_nil))))) (sim_cons (sim_tup (sim_cons (sim_c rfl) (sim_cons (sim_c rfl) (sim_cons (sim_c rfl) (sim_nil))))) (sim_nil))))) (sim_cons (sim_tup (sim_cons (sim_c rfl) (sim_cons (sim_tup (sim_cons (sim_c rfl) (sim_cons (sim_c rfl) (sim_cons (sim_c rfl) (sim_nil))))) (sim_cons (sim_tup (sim_cons (sim_c rfl) (sim_cons (sim_c rfl) (sim_cons (sim_c rfl) (sim_nil))))) (sim_nil))))) (sim_nil)))))) (sq_w_by_hand_1)
noncomputable def p_w_by_hand : PF := pFn 4 [] false q_w_by_hand
theorem sf_w_by_hand : SimF 0 [] [] false f_w_by_hand p_w_by_hand := sim_fn sq_w_by_hand rfl (by decide) (by decide) (by decide) (by decide) (by decide) (by decide)
abbrev T_w_draw : SC := ⟨[0], [], [0], false⟩
noncomputable def q_w_draw_9 : PS' :=
  pRet (pOp opMod (pOp opDiv (pOp opMod (pOp opAdd (pOp opRep (pVar 5) (pVar 5)) (pVar 4)) (pC (.int 2147483629))) (pC (.int 131))) (pVar 1))
theorem sq_w_draw_9 : SimS T_w_draw (m_w_draw_9) (q_w_draw_9) := by
  unfold m_w_draw_9 q_w_draw_9
  exact ss_retF rfl (so_ee (so_ee (so_ee (so_ee (so_ee (sim_var (by decide) (by decide)) (sim_var (by decide) (by decide)) ok_opRep) (sim_var (by decide) (by decide)) ok_opAdd) (sim_c rfl) ok_opMod) (sim_c rfl) ok_opDiv) (sim_var (by decide) (by decide)) ok_opMod)
noncomputable def q_w_draw_8 : PS' :=
  pSeq (pSet 5 (pOp opMod (pOp opAdd (pOp opRep (pVar 5) (pVar 5)) (pOp opRep (pC (.int 16807)) (pVar 4))) (pC (.int 2147483587)))) (q_w_draw_9)
theorem sq_w_draw_8 : SimS T_w_draw (m_w_draw_8) (q_w_draw_8) := by
  unfold m_w_draw_8 q_w_draw_8
  exact ss_seq (ss_set (by decide) (by decide) (so_ee (so_ee (so_ee (sim_var (by decide) (by decide)) (sim_var (by decide) (by decide)) ok_opRep) (so_ee (sim_c rfl) (sim_var (by decide) (by decide)) ok_opRep) ok_opAdd) (sim_c rfl) ok_opMod)) (sq_w_draw_9)
noncomputable def q_w_draw_7 : PS' :=
  pSeq (pSet 5 (pOp opMod (pOp opAdd (pOp opRep (pVar 5) (pVar 5)) (pOp opRep (pC (.int 48271)) (pVar 4))) (pC (.int 2147483647)))) (q_w_draw_8)
theorem sq_w_draw_7 : SimS T_w_draw (m_w_draw_7) (q_w_draw_7) := by
  unfold m_w_draw_7 q_w_draw_7
  exact ss_seq (ss_set (by decide) (by decide) (so_ee (so_ee (so_ee (sim_var (by decide) (by decide)) (sim_var (by decide) (by decide)) ok_opRep) (so_ee (sim_c rfl) (sim_var (by decide) (by decide)) ok_opRep) ok_opAdd) (sim_c rfl) ok_opMod)) (sq_w_draw_8)
noncomputable def q_w_draw_6 : PS' :=
  pSeq (pSet 5 (pOp opMod (pOp opAdd (pOp opAdd (pOp opMod (pVar 3) (pC (.int 2147483629))) (pOp opRep (pOp opRep (pC (.int 69621)) (pVar 4)) (pVar 4))) (pOp opRep (pC (.int 7)) (pVar 4))) (pC (.int 2147483629)))) (q_w_draw_7)
theorem sq_w_draw_6 : SimS T_w_draw (m_w_draw_6) (q_w_draw_6) := by
  unfold m_w_draw_6 q_w_draw_6
  exact ss_seq (ss_set (by decide) (by decide) (so_ee (so_ee (so_ee (so_ee (sim_var (by decide) (by decide)) (sim_c rfl) ok_opMod) (so_ee (so_ee (sim_c rfl) (sim_var (by decide) (by decide)) ok_opRep) (sim_var (by decide) (by decide)) ok_opRep) ok_opAdd) (so_ee (sim_c rfl) (sim_var (by decide) (by decide)) ok_opRep) ok_opAdd) (sim_c rfl) ok_opMod)) (sq_w_draw_7)
noncomputable def q_w_draw_5 : PS' :=
  pSeq (pSet 4 (pOp opIx (pVar 0) (pC (.int 3)))) (q_w_draw_6)
theorem sq_w_draw_5 : SimS T_w_draw (m_w_draw_5) (q_w_draw_5) := by
  unfold m_w_draw_5 q_w_draw_5
  exact ss_seq (ss_set (by decide) (by decide) (so_rr sim_hv (SimR.of (sim_c rfl)) ok_opIx)) (sq_w_draw_6)
noncomputable def q_w_draw_4 : PS' :=
  pSeq (pIfS (pAnd (pAsB (pOp opGe (pVar 3) (pOp opPow (pC (.int 10)) (pC (.int 18))))) (pAsB (pOp opLe (pOp opIx (pVar 0) (pC (.int 1))) (pCallB bLen (pCons (pOp opIx (pVar 0) (pC (.int 0))) (pNil)))))) (pSeq (pSetSub 0 (pC (.int 2)) (pOp opDiv (pVar 3) (pVar 1))) (pRet (pOp opMod (pVar 3) (pVar 1)))) (pSkip)) (q_w_draw_5)
theorem sq_w_draw_4 : SimS T_w_draw (m_w_draw_4) (q_w_draw_4) := by
  unfold m_w_draw_4 q_w_draw_4
  exact ss_seq (ss_if (sim_and (s_asB (so_ee (sim_var (by decide) (by decide)) (so_ee (sim_c rfl) (sim_c rfl) ok_opPow) ok_opGe)) (s_asB (so_ee (so_rr sim_hv (SimR.of (sim_c rfl)) ok_opIx) (s_be (sim_cons (so_rr sim_hv (SimR.of (sim_c rfl)) ok_opIx) (sim_nil)) ok_bLen) ok_opLe))) (ss_seq (ss_setSub (by decide) (sim_c rfl) (so_ee (sim_var (by decide) (by decide)) (sim_var (by decide) (by decide)) ok_opDiv)) (ss_retF rfl (so_ee (sim_var (by decide) (by decide)) (sim_var (by decide) (by decide)) ok_opMod))) (ss_skip)) (sq_w_draw_5)
noncomputable def q_w_draw_3 : PS' :=
  pSeq (pAugSub iopAdd 0 (pC (.int 1)) (pC (.int 1))) (q_w_draw_4)
theorem sq_w_draw_3 : SimS T_w_draw (m_w_draw_3) (q_w_draw_3) := by
  unfold m_w_draw_3 q_w_draw_3
  exact ss_seq (ss_augSub ok_iopAdd (by decide) (sim_c rfl) (sim_c rfl)) (sq_w_draw_4)
noncomputable def q_w_draw_2 : PS' :=
  pSeq (pSet 3 (pIf (pAsB (pOp opEq (pOp opIx (pVar 0) (pC (.int 0))) (pLst (pNil)))) (pC (.int 7)) (pOp opIx (pOp opIx (pVar 0) (pC (.int 0))) (pOp opMod (pOp opIx (pVar 0) (pC (.int 1))) (pCallB bLen (pCons (pOp opIx (pVar 0) (pC (.int 0))) (pNil))))))) (q_w_draw_3)
theorem sq_w_draw_2 : SimS T_w_draw (m_w_draw_2) (q_w_draw_2) := by
  unfold m_w_draw_2 q_w_draw_2
  exact ss_seq (ss_set (by decide) (by decide) (sim_if (s_asB (so_ee (so_rr sim_hv (SimR.of (sim_c rfl)) ok_opIx) (sim_lst (sim_nil)) ok_opEq)) (sim_c rfl) (so_ee (so_rr sim_hv (SimR.of (sim_c rfl)) ok_opIx) (so_ee (so_rr sim_hv (SimR.of (sim_c rfl)) ok_opIx) (s_be (sim_cons (so_rr sim_hv (SimR.of (sim_c rfl)) ok_opIx) (sim_nil)) ok_bLen) ok_opMod) ok_opIx))) (sq_w_draw_3)
noncomputable def q_w_draw_1 : PS' :=
  pSeq (pIfS (pAsB (pOp opGt (pOp opIx (pVar 0) (pC (.int 2))) (pC (.int 0)))) (pSeq (pSet 2 (pOp opMod (pOp opIx (pVar 0) (pC (.int 2))) (pVar 1))) (pSeq (pSetSub 0 (pC (.int 2)) (pOp opDiv (pOp opIx (pVar 0) (pC (.int 2))) (pVar 1))) (pRet (pVar 2)))) (pSkip)) (q_w_draw_2)
theorem sq_w_draw_1 : SimS T_w_draw (m_w_draw_1) (q_w_draw_1) := by
  unfold m_w_draw_1 q_w_draw_1
  exact ss_seq (ss_if (s_asB (so_ee (so_rr sim_hv (SimR.of (sim_c rfl)) ok_opIx) (sim_c rfl) ok_opGt)) (ss_seq (ss_set (by decide) (by decide) (so_ee (so_rr sim_hv (SimR.of (sim_c rfl)) ok_opIx) (sim_var (by decide) (by decide)) ok_opMod)) (ss_seq (ss_setSub (by decide) (sim_c rfl) (so_ee (so_rr sim_hv (SimR.of (sim_c rfl)) ok_opIx) (sim_var (by decide) (by decide)) ok_opDiv)) (ss_retF rfl (sim_var (by decide) (by decide))))) (ss_skip)) (sq_w_draw_2)
noncomputable def q_w_draw : PS' :=
  pSeq (pAugSub iopAdd 0 (pC (.int 3)) (pC (.int 1))) (q_w_draw_1)
theorem sq_w_draw : SimS T_w_draw (m_w_draw) (q_w_draw) := by
  unfold m_w_draw q_w_draw
  exact ss_seq (ss_augSub ok_iopAdd (by decide) (sim_c rfl) (sim_c rfl)) (sq_w_draw_1)
noncomputable def p_w_draw : PF := pFn 6 [0] false q_w_draw
theorem sf_w_draw : SimF 2 [0] [] false f_w_draw p_w_draw := sim_fn sq_w_draw rfl (by decide) (by decide) (by decide) (by decide) (by decide) (by decide)
abbrev T_w_weights : SC := ⟨[0, 3], [], [0], false⟩
noncomputable def b_w_weights_1 : PS' :=
  pSeq (pSet 5 (pOp opSub (pOp opPow (pC (.int 10)) (pC (.int 9))) (pCall 2 p_w_draw [] [some 0, none] [0] (pCons (pVar 0) (pCons (pC (.int 3)) (pNil)))))) (pSeq (pDo (pMeth gAppend 3 (pCons (pOp opIx (pTup (pCons (pCall 2 p_w_draw [] [some 0, none] [0] (pCons (pVar 0) (pCons (pC (.int 4)) (pNil)))) (pCons (pC (.int 1)) (pCons (pCall 2 p_w_draw [] [some 0, none] [0] (pCons (pVar 0) (pCons (pC (.int 50)) (pNil)))) (pCons (pVar 5) (pCons (pOp opAdd (pC (.int 1)) (pCall 2 p_w_draw [] [some 0, none] [0] (pCons (pVar 0) (pCons (pOp opPow (pC (.int 10)) (pC (.int 9))) (pNil))))) (pCons (pVar 5) (pNil)))))))) (pVar 2)) (pNil)))) (pIfS (pAnd (pAsB (pOp opEq (pVar 2) (pC (.int 5)))) (pAsB (pOp opEq (pCall 2 p_w_draw [] [some 0, none] [0] (pCons (pVar 0) (pCons (pC (.int 2)) (pNil)))) (pC (.int 0))))) (pSetSub 3 (p1 opNeg (pC (.int 1))) (pCall 2 p_w_draw [] [some 0, none] [0] (pCons (pVar 0) (pCons (pC (.int 3)) (pNil))))) (pSkip)))
theorem sb_w_weights_1 : SimS (T_w_weights) (mSeq (mSet 5 (mOp opSub (mOp opPow (mC (.int 10)) (mC (.int 9))) (mCall 2 f_w_draw [] (mCons (mVar 0) (mCons (mC (.int 3)) (mNil)))))) (mSeq (mDo (mMeth "list" lAppend (mVar 3) (mCons (mOp opIx (mTup (mCons (mCall 2 f_w_draw [] (mCons (mVar 0) (mCons (mC (.int 4)) (mNil)))) (mCons (mC (.int 1)) (mCons (mCall 2 f_w_draw [] (mCons (mVar 0) (mCons (mC (.int 50)) (mNil)))) (mCons (mVar 5) (mCons (mOp opAdd (mC (.int 1)) (mCall 2 f_w_draw [] (mCons (mVar 0) (mCons (mOp opPow (mC (.int 10)) (mC (.int 9))) (mNil))))) (mCons (mVar 5) (mNil)))))))) (mVar 2)) (mNil)))) (mIfS (mAnd (mAsB (mOp opEq (mVar 2) (mC (.int 5)))) (mAsB (mOp opEq (mCall 2 f_w_draw [] (mCons (mVar 0) (mCons (mC (.int 2)) (mNil)))) (mC (.int 0))))) (mSetSub setIx (mVar 3) (mNeg (mC (.int 1))) (mCall 2 f_w_draw [] (mCons (mVar 0) (mCons (mC (.int 3)) (mNil))))) (mSkip)))) (b_w_weights_1) := by
  unfold b_w_weights_1
  exact ss_seq (ss_set (by decide) (by decide) (so_ee (so_ee (sim_c rfl) (sim_c rfl) ok_opPow) (sim_call (dv := []) (sh := [some 0, none]) (dst := [0]) sf_w_draw (by decide) rfl (by decide) (sl_late (sl_val (sim_c rfl) (sl_nil)))) ok_opSub)) (ss_seq (ss_do (sim_methv ok_append (by decide) (sim_cons (so_ee (sim_tup (sim_cons (sim_call (dv := []) (sh := [some 0, none]) (dst := [0]) sf_w_draw (by decide) rfl (by decide) (sl_late (sl_val (sim_c rfl) (sl_nil)))) (sim_cons (sim_c rfl) (sim_cons (sim_call (dv := []) (sh := [some 0, none]) (dst := [0]) sf_w_draw (by decide) rfl (by decide) (sl_late (sl_val (sim_c rfl) (sl_nil)))) (sim_cons (sim_var (by decide) (by decide)) (sim_cons (so_ee (sim_c rfl) (sim_call (dv := []) (sh := [some 0, none]) (dst := [0]) sf_w_draw (by decide) rfl (by decide) (sl_late (sl_val (so_ee (sim_c rfl) (sim_c rfl) ok_opPow) (sl_nil)))) ok_opAdd) (sim_cons (sim_var (by decide) (by decide)) (sim_nil)))))))) (sim_var (by decide) (by decide)) ok_opIx) (sim_nil)))) (ss_if (sim_and (s_asB (so_ee (sim_var (by decide) (by decide)) (sim_c rfl) ok_opEq)) (s_asB (so_ee (sim_call (dv := []) (sh := [some 0, none]) (dst := [0]) sf_w_draw (by decide) rfl (by decide) (sl_late (sl_val (sim_c rfl) (sl_nil)))) (sim_c rfl) ok_opEq))) (ss_setSub (by decide) (s_neg (sim_c rfl)) (sim_call (dv := []) (sh := [some 0, none]) (dst := [0]) sf_w_draw (by decide) rfl (by decide) (sl_late (sl_val (sim_c rfl) (sl_nil))))) (ss_skip)))
noncomputable def q_w_weights_4 : PS' :=
  pRet (pCallB bTuple (pCons (pVar 3) (pNil)))
theorem sq_w_weights_4 : SimS T_w_weights (m_w_weights_4) (q_w_weights_4) := by
  unfold m_w_weights_4 q_w_weights_4
  exact ss_retF rfl (s_br (ra_cons (sim_hv) (ra_nil)) ok_bTuple)
noncomputable def q_w_weights_3 : PS' :=
  pSeq (pIfS (pAsB (pOp opEq (pCallB bSum (pCons (pVar 3) (pNil))) (pC (.int 0)))) (pSetSub 3 (pCall 2 p_w_draw [] [some 0, none] [0] (pCons (pVar 0) (pCons (pCallB bLen (pCons (pVar 3) (pNil))) (pNil)))) (pOp opAdd (pC (.int 1)) (pCall 2 p_w_draw [] [some 0, none] [0] (pCons (pVar 0) (pCons (pC (.int 3)) (pNil)))))) (pSkip)) (q_w_weights_4)
theorem sq_w_weights_3 : SimS T_w_weights (m_w_weights_3) (q_w_weights_3) := by
  unfold m_w_weights_3 q_w_weights_3
  exact ss_seq (ss_if (s_asB (so_ee (s_br (ra_cons (sim_hv) (ra_nil)) ok_bSum) (sim_c rfl) ok_opEq)) (ss_setSub (by decide) (sim_call (dv := []) (sh := [some 0, none]) (dst := [0]) sf_w_draw (by decide) rfl (by decide) (sl_late (sl_val (s_br (ra_cons (sim_hv) (ra_nil)) ok_bLen) (sl_nil)))) (so_ee (sim_c rfl) (sim_call (dv := []) (sh := [some 0, none]) (dst := [0]) sf_w_draw (by decide) rfl (by decide) (sl_late (sl_val (sim_c rfl) (sl_nil)))) ok_opAdd)) (ss_skip)) (sq_w_weights_4)
noncomputable def q_w_weights_2 : PS' :=
  pSeq (pFor (pRange1 (pOp opAdd (pC (.int 1)) (pCall 2 p_w_draw [] [some 0, none] [0] (pCons (pVar 0) (pCons (pVar 1) (pNil)))))) (mgName 4) (b_w_weights_1)) (q_w_weights_3)
theorem sq_w_weights_2 : SimS T_w_weights (m_w_weights_2) (q_w_weights_2) := by
  unfold m_w_weights_2 q_w_weights_2
  exact ss_seq (ss_for (si_range1 (so_ee (sim_c rfl) (sim_call (dv := []) (sh := [some 0, none]) (dst := [0]) sf_w_draw (by decide) rfl (by decide) (sl_late (sl_val (sim_var (by decide) (by decide)) (sl_nil)))) ok_opAdd)) (tg_name (by decide) (by decide)) (sb_w_weights_1)) (sq_w_weights_3)
noncomputable def q_w_weights_1 : PS' :=
  pSeq (pSet 3 (pLst (pNil))) (q_w_weights_2)
theorem sq_w_weights_1 : SimS T_w_weights (m_w_weights_1) (q_w_weights_1) := by
  unfold m_w_weights_1 q_w_weights_1
  exact ss_seq (ss_setH (by decide) (by decide) (sh_lst (sim_nil))) (sq_w_weights_2)
noncomputable def q_w_weights : PS' :=
  pSeq (pSet 2 (pCall 2 p_w_draw [] [some 0, none] [0] (pCons (pVar 0) (pCons (pC (.int 6)) (pNil))))) (q_w_weights_1)
theorem sq_w_weights : SimS T_w_weights (m_w_weights) (q_w_weights) := by
  unfold m_w_weights q_w_weights
  exact ss_seq (ss_set (by decide) (by decide) (sim_call (dv := []) (sh := [some 0, none]) (dst := [0]) sf_w_draw (by decide) rfl (by decide) (sl_late (sl_val (sim_c rfl) (sl_nil))))) (sq_w_weights_1)
noncomputable def p_w_weights : PF := pFn 6 [0] false q_w_weights
theorem sf_w_weights : SimF 2 [0] [] false f_w_weights p_w_weights := sim_fn sq_w_weights rfl (by decide) (by decide) (by decide) (by decide) (by decide) (by decide)
abbrev T_w_total : SC := ⟨[0], [], [0], false⟩
noncomputable def q_w_total_3 : PS' :=
  pRet (pOp opIx (pVar 4) (pCall 2 p_w_draw [] [some 0, none] [0] (pCons (pVar 0) (pCons (pC (.int 6)) (pNil)))))
theorem sq_w_total_3 : SimS T_w_total (m_w_total_3) (q_w_total_3) := by
  unfold m_w_total_3 q_w_total_3
  exact ss_retF rfl (so_ee (sim_var (by decide) (by decide)) (sim_call (dv := []) (sh := [some 0, none]) (dst := [0]) sf_w_draw (by decide) rfl (by decide) (sl_late (sl_val (sim_c rfl) (sl_nil)))) ok_opIx)
noncomputable def q_w_total_2 : PS' :=
  pSeq (pSet 4 (pTup (pCons (pC (.int 0)) (pCons (pCall 2 p_w_draw [] [some 0, none] [0] (pCons (pVar 0) (pCons (pOp opAdd (pCallB bLen (pCons (pVar 1) (pNil))) (pC (.int 1))) (pNil)))) (pCons (pCall 2 p_w_draw [] [some 0, none] [0] (pCons (pVar 0) (pCons (pC (.int 1000)) (pNil)))) (pCons (pVar 3) (pCons (pCall 2 p_w_draw [] [some 0, none] [0] (pCons (pVar 0) (pCons (pOp opPow (pC (.int 10)) (pC (.int 12))) (pNil)))) (pCons (pVar 2) (pNil))))))))) (q_w_total_3)
theorem sq_w_total_2 : SimS T_w_total (m_w_total_2) (q_w_total_2) := by
  unfold m_w_total_2 q_w_total_2
  exact ss_seq (ss_set (by decide) (by decide) (sim_tup (sim_cons (sim_c rfl) (sim_cons (sim_call (dv := []) (sh := [some 0, none]) (dst := [0]) sf_w_draw (by decide) rfl (by decide) (sl_late (sl_val (so_ee (s_be (sim_cons (sim_var (by decide) (by decide)) (sim_nil)) ok_bLen) (sim_c rfl) ok_opAdd) (sl_nil)))) (sim_cons (sim_call (dv := []) (sh := [some 0, none]) (dst := [0]) sf_w_draw (by decide) rfl (by decide) (sl_late (sl_val (sim_c rfl) (sl_nil)))) (sim_cons (sim_var (by decide) (by decide)) (sim_cons (sim_call (dv := []) (sh := [some 0, none]) (dst := [0]) sf_w_draw (by decide) rfl (by decide) (sl_late (sl_val (so_ee (sim_c rfl) (sim_c rfl) ok_opPow) (sl_nil)))) (sim_cons (sim_var (by decide) (by decide)) (sim_nil))))))))) (sq_w_total_3)
noncomputable def q_w_total_1 : PS' :=
  pSeq (pSet 3 (pOp opAdd (pOp opRep (pCallB bSum (pCons (pVar 1) (pNil))) (pCall 2 p_w_draw [] [some 0, none] [0] (pCons (pVar 0) (pCons (pC (.int 3)) (pNil))))) (pCall 2 p_w_draw [] [some 0, none] [0] (pCons (pVar 0) (pCons (pC (.int 4)) (pNil)))))) (q_w_total_2)
theorem sq_w_total_1 : SimS T_w_total (m_w_total_1) (q_w_total_1) := by
  unfold m_w_total_1 q_w_total_1
  exact ss_seq (ss_set (by decide) (by decide) (so_ee (so_ee (s_be (sim_cons (sim_var (by decide) (by decide)) (sim_nil)) ok_bSum) (sim_call (dv := []) (sh := [some 0, none]) (dst := [0]) sf_w_draw (by decide) rfl (by decide) (sl_late (sl_val (sim_c rfl) (sl_nil)))) ok_opRep) (sim_call (dv := []) (sh := [some 0, none]) (dst := [0]) sf_w_draw (by decide) rfl (by decide) (sl_late (sl_val (sim_c rfl) (sl_nil)))) ok_opAdd)) (sq_w_total_2)
noncomputable def q_w_total : PS' :=
  pSeq (pSet 2 (pOp opSub (pOp opPow (pC (.int 10)) (pC (.int 12))) (pCall 2 p_w_draw [] [some 0, none] [0] (pCons (pVar 0) (pCons (pC (.int 9)) (pNil)))))) (q_w_total_1)
theorem sq_w_total : SimS T_w_total (m_w_total) (q_w_total) := by
  unfold m_w_total q_w_total
  exact ss_seq (ss_set (by decide) (by decide) (so_ee (so_ee (sim_c rfl) (sim_c rfl) ok_opPow) (sim_call (dv := []) (sh := [some 0, none]) (dst := [0]) sf_w_draw (by decide) rfl (by decide) (sl_late (sl_val (sim_c rfl) (sl_nil)))) ok_opSub)) (sq_w_total_1)
noncomputable def p_w_total : PF := pFn 5 [0] false q_w_total
theorem sf_w_total : SimF 2 [0] [] false f_w_total p_w_total := sim_fn sq_w_total rfl (by decide) (by decide) (by decide) (by decide) (by decide) (by decide)
abbrev T_law : SC := ⟨[1], [], [], false⟩
noncomputable def b_law_1 : PS' :=
  pSeq (pSet 3 (pCall 2 p_w_weights [] [some 1, none] [1] (pCons (pVar 1) (pCons (pOp opIx (pTup (pCons (pC (.int 12)) (pCons (pC (.int 4)) (pNil)))) (pCall 2 p_w_draw [] [some 1, none] [1] (pCons (pVar 1) (pCons (pC (.int 2)) (pNil))))) (pNil))))) (pSeq (pSet 4 (pCall 2 p_w_total [] [some 1, none] [1] (pCons (pVar 1) (pCons (pVar 3) (pNil))))) (pSeq (pSet 5 (pCallB bRepr (pCons (pVar 3) (pNil)))) (pIfS (pOr (pNot (p1 truth (pCall0 2 p_w_right [] (pCons (pCallB bMin (pCons (pVar 4) (pCons (pOp opPow (pC (.int 10)) (pC (.int 12))) (pNil)))) (pCons (pVar 3) (pNil)))))) (pAsB (pOp opNe (pCallB bRepr (pCons (pVar 3) (pNil))) (pVar 5)))) (pRet (pC (.bl false))) (pSkip))))
theorem sb_law_1 : SimS (T_law) (mSeq (mSet 3 (mCall 2 f_w_weights [] (mCons (mVar 1) (mCons (mOp opIx (mTup (mCons (mC (.int 12)) (mCons (mC (.int 4)) (mNil)))) (mCall 2 f_w_draw [] (mCons (mVar 1) (mCons (mC (.int 2)) (mNil))))) (mNil))))) (mSeq (mSet 4 (mCall 2 f_w_total [] (mCons (mVar 1) (mCons (mVar 3) (mNil))))) (mSeq (mSet 5 (mCallB bRepr (mCons (mVar 3) (mNil)))) (mIfS (mOr (mNot (mTruth (mCall 2 f_w_right [] (mCons (mCallB bMin (mCons (mVar 4) (mCons (mOp opPow (mC (.int 10)) (mC (.int 12))) (mNil)))) (mCons (mVar 3) (mNil)))))) (mAsB (mOp opNe (mCallB bRepr (mCons (mVar 3) (mNil))) (mVar 5)))) (mRetF (mC (.bl false))) (mSkip))))) (b_law_1) := by
  unfold b_law_1
  exact ss_seq (ss_set (by decide) (by decide) (sim_call (dv := []) (sh := [some 1, none]) (dst := [1]) sf_w_weights (by decide) rfl (by decide) (sl_late (sl_val (so_ee (sim_tup (sim_cons (sim_c rfl) (sim_cons (sim_c rfl) (sim_nil)))) (sim_call (dv := []) (sh := [some 1, none]) (dst := [1]) sf_w_draw (by decide) rfl (by decide) (sl_late (sl_val (sim_c rfl) (sl_nil)))) ok_opIx) (sl_nil))))) (ss_seq (ss_set (by decide) (by decide) (sim_call (dv := []) (sh := [some 1, none]) (dst := [1]) sf_w_total (by decide) rfl (by decide) (sl_late (sl_val (sim_var (by decide) (by decide)) (sl_nil))))) (ss_seq (ss_set (by decide) (by decide) (s_be (sim_cons (sim_var (by decide) (by decide)) (sim_nil)) ok_bRepr)) (ss_if (sim_or (sim_not (s_truthE (sim_call0 (dv := []) sf_w_right rfl (sim_cons (s_be (sim_cons (sim_var (by decide) (by decide)) (sim_cons (so_ee (sim_c rfl) (sim_c rfl) ok_opPow) (sim_nil))) ok_bMin) (sim_cons (sim_var (by decide) (by decide)) (sim_nil)))))) (s_asB (so_ee (s_be (sim_cons (sim_var (by decide) (by decide)) (sim_nil)) ok_bRepr) (sim_var (by decide) (by decide)) ok_opNe))) (ss_retF rfl (sim_c rfl)) (ss_skip))))
noncomputable def q_law_2 : PS' :=
  pRet (pCall0 0 p_w_by_hand [] (pNil))
theorem sq_law_2 : SimS T_law (m_law_2) (q_law_2) := by
  unfold m_law_2 q_law_2
  exact ss_retF rfl (sim_call0 (dv := []) sf_w_by_hand rfl (sim_nil))
noncomputable def q_law_1 : PS' :=
  pSeq (pFor (pRange1 (pC (.int 8))) (mgName 2) (b_law_1)) (q_law_2)
theorem sq_law_1 : SimS T_law (m_law_1) (q_law_1) := by
  unfold m_law_1 q_law_1
  exact ss_seq (ss_for (si_range1 (sim_c rfl)) (tg_name (by decide) (by decide)) (sb_law_1)) (sq_law_2)
noncomputable def q_law : PS' :=
  pSeq (pSet 1 (pCall 1 p_w_feed [] [none] [] (pCons (pVar 0) (pNil)))) (q_law_1)
theorem sq_law : SimS T_law (m_law) (q_law) := by
  unfold m_law q_law
  exact ss_seq (ss_setH (by decide) (by decide) (sh_call (dv := []) (sh := [none]) (dst := []) sf_w_feed (by decide) rfl (fun _ => rfl) (sl_val (sim_var (by decide) (by decide)) (sl_nil)))) (sq_law_1)
noncomputable def p_law : PF := pFn 6 [] false q_law
theorem sf_law : SimF 1 [] [] false f_law p_law := sim_fn sq_law rfl (by decide) (by decide) (by decide) (by decide) (by decide) (by decide)
end Lw
end

section
set_option maxHeartbeats 4000000
namespace Lw
/-! ## the order of the greatest rests, the first of like ones -/
def ordL (f : Nat → Int) (n : Nat) : List Nat := (List.range n).mergeSort fun i j => decide (f i ≤ f j)
theorem ordL_perm {f : Nat → Int} {n : Nat} : (ordL f n).Perm (List.range n) := List.mergeSort_perm _ _
theorem ordL_nd {f : Nat → Int} {n : Nat} : (ordL f n).Nodup := ordL_perm.nodup_iff.mpr List.nodup_range
theorem ordL_len {f : Nat → Int} {n : Nat} : (ordL f n).length = n := by rw [ordL_perm.length_eq, List.length_range]
theorem ordL_lt {f : Nat → Int} {n k : Nat} (h : k ∈ ordL f n) : k < n := List.mem_range.mp (ordL_perm.mem_iff.mp h)
theorem ordL_mem {f : Nat → Int} {n k : Nat} (h : k < n) : k ∈ ordL f n := ordL_perm.mem_iff.mpr (List.mem_range.mpr h)
theorem two_sub : ∀ {n i j : Nat}, j < i → i < n → [j, i].Sublist (List.range n)
  | 0, i, j, _, h => absurd h (Nat.not_lt_zero _)
  | n + 1, i, j, h1, h2 => by
    rw [List.range_succ]
    rcases Nat.lt_or_ge i n with q | q
    · exact (two_sub h1 q).trans (List.sublist_append_left _ _)
    · have e : i = n := by omega
      subst e
      exact List.Sublist.append (l₁ := [j]) (List.singleton_sublist.mpr (List.mem_range.mpr h1)) (List.Sublist.refl _)
theorem pair_pos {L : List Nat} (nd : L.Nodup) {i j : Nat} (h1 : [i, j].Sublist L) (h2 : [j, i].Sublist L) : False := by
  induction L with
  | nil => cases h1
  | cons x L ih =>
    rw [List.nodup_cons] at nd
    cases h1 with
    | cons _ h1 =>
      cases h2 with
      | cons _ h2 => exact ih nd.2 h1 h2
      | cons_cons _ h2 => exact nd.1 (h1.subset (by simp))
    | cons_cons _ h1 =>
      cases h2 with
      | cons _ h2 => exact nd.1 (h2.subset (by simp))
      | cons_cons _ h2 => exact nd.1 (h1.subset (by simp))
theorem ordL_lex {f : Nat → Int} {n : Nat} : (ordL f n).Pairwise fun i j => f i < f j ∨ (f i = f j ∧ i < j) := by
  have tr : ∀ a b c : Nat, decide (f a ≤ f b) = true → decide (f b ≤ f c) = true → decide (f a ≤ f c) = true := fun a b c h1 h2 => by
    have := of_decide_eq_true h1
    have := of_decide_eq_true h2
    exact decide_eq_true (by omega)
  have tot : ∀ a b : Nat, (decide (f a ≤ f b) || decide (f b ≤ f a)) = true := fun a b => by
    rcases Int.le_total (f a) (f b) with h | h <;> simp [h]
  have s1 : (ordL f n).Pairwise fun i j => decide (f i ≤ f j) = true := List.pairwise_mergeSort tr tot _
  have key : ∀ i j, [i, j].Sublist (ordL f n) → f i ≤ f j → (f i < f j ∨ (f i = f j ∧ i < j)) := fun i j hs hle => by
    rcases Int.lt_or_eq_of_le hle with h | h
    · exact .inl h
    · refine .inr ⟨h, ?_⟩
      rcases Nat.lt_trichotomy i j with q | q | q
      · exact q
      · subst q
        have := ordL_nd.sublist hs
        simp at this
      · have hi : i < n := ordL_lt (hs.subset (by simp))
        have : [j, i].Sublist (ordL f n) := List.pair_sublist_mergeSort tr tot (decide_eq_true (by omega)) (two_sub q hi)
        exact (pair_pos ordL_nd hs this).elim
  rw [List.pairwise_iff_forall_sublist] at s1 ⊢
  intro i j hs
  exact key i j hs (of_decide_eq_true (s1 hs))
/-- what stands at turn t: of those left the least by (f, place) -/
theorem ordL_at {f : Nat → Int} {n t : Nat} (ht : t < n) : ∃ p, (ordL f n)[t]? = some p ∧ p < n ∧ p ∉ (ordL f n).take t ∧ ∀ k, k < n → k ∉ (ordL f n).take t → k ≠ p → f p < f k ∨ (f p = f k ∧ p < k) := by
  have hl : t < (ordL f n).length := by rw [ordL_len]; exact ht
  have nd := ordL_nd (f := f) (n := n)
  have lx := ordL_lex (f := f) (n := n)
  have e := List.take_append_drop t (ordL f n)
  rw [List.drop_eq_getElem_cons hl] at e
  rw [← e] at nd lx
  rw [List.nodup_append] at nd
  rw [List.pairwise_append, List.pairwise_cons] at lx
  refine ⟨(ordL f n)[t], List.getElem?_eq_getElem hl, ordL_lt (List.getElem_mem hl), fun h => nd.2.2 _ h _ List.mem_cons_self rfl, fun k hk h1 h2 => ?_⟩
  have hm := ordL_mem (f := f) hk
  rw [← e] at hm
  rcases List.mem_append.mp hm with h | h
  · exact absurd h h1
  · rcases List.mem_cons.mp h with h | h
    · exact absurd h h2
    · exact lx.2.1.1 k h
theorem first_of {l : List Nat} {p : Nat} (s : l.Pairwise (· < ·)) (hp : p ∈ l) (h : ∀ k ∈ l, p ≤ k) : ∃ r, l = p :: r := by
  cases l with
  | nil => cases hp
  | cons x l =>
    rcases List.mem_cons.mp hp with rfl | hp
    · exact ⟨l, rfl⟩
    · have h1 := (List.pairwise_cons.mp s).1 p hp
      have h2 := h x List.mem_cons_self
      omega
end Lw
end

section
set_option maxHeartbeats 4000000
namespace Lw
/-! ## cuts, rests, one more for some -/
def lowL (t S : Int) (ws : List Int) : List Int := ws.map fun w => t * w / S
def rstL (t S : Int) (ws : List Int) : List Int := ws.map fun w => t * w % S
theorem low_bd {t S : Int} (hS : 0 < S) : ∀ {ws : List Int}, S * (lowL t S ws).sum ≤ t * ws.sum ∧ t * ws.sum ≤ S * (lowL t S ws).sum + (S - 1) * ws.length
  | [] => by simp [lowL]
  | w :: ws => by
    obtain ⟨h1, h2⟩ := low_bd (t := t) hS (ws := ws)
    have e : (lowL t S (w :: ws)).sum = t * w / S + (lowL t S ws).sum := by simp [lowL]
    have d1 := Int.emod_add_mul_ediv (t * w) S
    have d2 := Int.emod_nonneg (t * w) (show S ≠ 0 by omega)
    have d3 := Int.emod_lt_of_pos (t * w) hS
    have e1 : S * (t * w / S + (lowL t S ws).sum) = S * (t * w / S) + S * (lowL t S ws).sum := Int.mul_add _ _ _
    have e2 : t * (w + ws.sum) = t * w + t * ws.sum := Int.mul_add _ _ _
    have e3 : (S - 1) * ((ws.length : Int) + 1) = (S - 1) * ws.length + (S - 1) := by rw [Int.mul_add, Int.mul_one]
    rw [e, List.sum_cons, List.length_cons]
    push_cast
    rw [e1, e2, e3]
    omega
theorem m_bd {t S : Int} {ws : List Int} (hS : 0 < S) (hs : ws.sum = S) : 0 ≤ t - (lowL t S ws).sum ∧ t - (lowL t S ws).sum < ws.length := by
  obtain ⟨h1, h2⟩ := low_bd (t := t) hS (ws := ws)
  rw [hs] at h1 h2
  have hn : 0 < ws.length := by
    cases ws with
    | nil => simp at hs; omega
    | cons w ws => simp
  constructor
  · have : S * (lowL t S ws).sum ≤ S * t := by rw [Int.mul_comm S t]; exact h1
    have := Int.le_of_mul_le_mul_left this hS
    omega
  · have e : S * (t - (lowL t S ws).sum) = t * S - S * (lowL t S ws).sum := by rw [Int.mul_sub, Int.mul_comm S t]
    have e2 : (S - 1) * (ws.length : Int) = S * ws.length - ws.length := by rw [Int.sub_mul, Int.one_mul]
    have h3 : S * (t - (lowL t S ws).sum) < S * ws.length := by
      rw [e]
      omega
    exact Int.lt_of_mul_lt_mul_left h3 (Int.le_of_lt hS)
/-- one more at some places -/
def bump (low : List Int) (P : List Nat) : List Int := low.mapIdx fun k x => if k ∈ P then x + 1 else x
theorem bump_nil {low : List Int} : bump low [] = low := by
  apply List.ext_getElem?
  intro k
  unfold bump
  rw [List.getElem?_mapIdx]
  cases low[k]? <;> simp
theorem bump_len {low : List Int} {P : List Nat} : (bump low P).length = low.length := by simp [bump]
theorem bump_at {low : List Int} {P : List Nat} {k : Nat} {x : Int} (h : low[k]? = some x) : (bump low P)[k]? = some (if k ∈ P then x + 1 else x) := by
  simp [bump, h]
theorem bump_snoc {low : List Int} {P : List Nat} {p : Nat} {x : Int} (h : low[p]? = some x) : bump low (P ++ [p]) = (bump low P).set p (x + 1) := by
  apply List.ext_getElem?
  intro k
  rw [List.getElem?_set]
  by_cases hk : p = k
  · subst hk
    have hl : p < (bump low P).length := by rw [bump_len]; exact (List.getElem?_eq_some_iff.mp h).1
    rw [if_pos rfl, if_pos hl, bump_at h, if_pos (by simp)]
  · rw [if_neg hk]
    unfold bump
    rw [List.getElem?_mapIdx, List.getElem?_mapIdx]
    congr 1
    funext y
    have : (k ∈ P ++ [p]) ↔ k ∈ P := by
      simp only [List.mem_append, List.mem_singleton]
      constructor
      · rintro (h | h)
        · exact h
        · exact absurd h.symm hk
      · exact Or.inl
    simp only [this]
/-- the law's turn: those that have their cut yet, the greatest rest, the first of it -/
theorem turn_ok {low r : List Int} {n t : Nat} (hl : low.length = n) (hr : r.length = n) (ht : t < n) :
    let f := fun k => - (r.getD k 0)
    let P := (ordL f n).take t
    let own := (List.range n).filter fun k => decide (k ∉ P)
    ∃ p x y, (ordL f n)[t]? = some p ∧ p < n ∧ p ∉ P ∧ low[p]? = some x ∧ r[p]? = some y ∧ p ∈ own ∧ (∀ k ∈ own, r.getD k 0 ≤ y) ∧ y = r.getD p 0 ∧ ∃ rest, (own.filter fun k => decide (r.getD k 0 = y)) = p :: rest := by
  intro f P own
  obtain ⟨p, h1, h2, h3, h4⟩ := ordL_at (f := f) ht
  have hx : p < low.length := by omega
  have hy : p < r.length := by omega
  have ey : r.getD p 0 = r[p] := by simp [List.getD_eq_getElem?_getD, List.getElem?_eq_getElem hy]
  have hown : p ∈ own := List.mem_filter.mpr ⟨List.mem_range.mpr h2, decide_eq_true h3⟩
  have up : own.Pairwise (· < ·) := List.Pairwise.filter _ (List.pairwise_lt_range)
  refine ⟨p, low[p], r[p], h1, h2, h3, List.getElem?_eq_getElem hx, List.getElem?_eq_getElem hy, hown, fun k hk => ?_, ey.symm, first_of (List.Pairwise.filter _ up) (List.mem_filter.mpr ⟨hown, decide_eq_true ey⟩) fun k hk => ?_⟩
  · obtain ⟨k1, k2⟩ := List.mem_filter.mp hk
    have kn := List.mem_range.mp k1
    by_cases e : k = p
    · rw [e, ey]; exact Int.le_refl _
    · have := h4 k kn (of_decide_eq_true k2) e
      show r.getD k 0 ≤ r[p]
      rw [← ey]
      simp only [f] at this
      omega
  · obtain ⟨k1, k2⟩ := List.mem_filter.mp hk
    obtain ⟨k3, k4⟩ := List.mem_filter.mp k1
    have kn := List.mem_range.mp k3
    have k2 := of_decide_eq_true k2
    by_cases e : k = p
    · omega
    · have := h4 k kn (of_decide_eq_true k4) e
      simp only [f] at this
      rw [← ey] at k2
      omega
structure Turn (low r : List Int) (n t : Nat) (O P : List Nat) (p : Nat) (x y : Int) (rest : List Nat) : Prop where
  at_ : O[t]? = some p
  lt : p < n
  nw : p ∉ P
  lo : low[p]? = some x
  re : r[p]? = some y
  ow : p ∈ (List.range n).filter fun k => decide (k ∉ P)
  mx : ∀ k ∈ (List.range n).filter fun k => decide (k ∉ P), r.getD k 0 ≤ y
  eq : y = r.getD p 0
  fst : (((List.range n).filter fun k => decide (k ∉ P)).filter fun k => decide (r.getD k 0 = y)) = p :: rest
theorem turn2 {low r : List Int} {n t : Nat} {O P : List Nat} (hO : O = ordL (fun k => - (r.getD k 0)) n) (hP : P = O.take t) (hl : low.length = n) (hr : r.length = n) (ht : t < n) : ∃ p x y rest, Turn low r n t O P p x y rest := by
  subst hO hP
  obtain ⟨p, x, y, g1, g2, g3, g4, g5, g6, g7, g8, rest, g9⟩ := turn_ok hl hr ht
  exact ⟨p, x, y, rest, g1, g2, g3, g4, g5, g6, g7, g8, g9⟩
end Lw
end

section
set_option maxHeartbeats 4000000
open PySem PySem.Spec PyProof.Rows L2 Tb
namespace Lw
/-! ## slices -/
theorem sIx_pos {n d : Nat} {a : Int} (h : 0 ≤ a) : HT.sIx n d (some a) = min a.toNat n := by
  show (if a < 0 then (a + (n : Int)).toNat else min a.toNat n) = _
  rw [if_neg (by omega)]
theorem cut_to {α : Type} {xs : List α} {a : Int} (h : 0 ≤ a) : Tb.cutD xs none (some a) = xs.take a.toNat := by
  unfold Tb.cutD
  rw [sIx_pos h, show HT.sIx xs.length 0 none = 0 from rfl, Nat.sub_zero, List.drop_zero]
  rw [← List.take_eq_take_min]
theorem cut_from {α : Type} {xs : List α} {a : Int} (h : 0 ≤ a) : Tb.cutD xs (some a) none = xs.drop a.toNat := by
  unfold Tb.cutD
  rw [sIx_pos h, show HT.sIx xs.length xs.length none = xs.length from rfl]
  rw [List.take_of_length_le (by simp)]
  by_cases hl : a.toNat ≤ xs.length
  · rw [Nat.min_eq_left hl]
  · rw [Nat.min_eq_right (by omega), List.drop_of_length_le (Nat.le_refl _), List.drop_of_length_le (by omega)]
/-! ## the program's cuts, rests -/
theorem z_sumT' {ns : List Int} {h : MH} {s : Sl} : zr (bSum [.tup (ns.map .int)] h) s = .ok (.int ns.sum) s := z_sumT (ns := ns)
theorem z_sumL' {ns : List Int} {h : MH} {s : Sl} : zr (bSum [.lst (ns.map .int)] h) s = .ok (.int ns.sum) s := z_sumL (ns := ns)
section
variable {t S : Int} {ws : List Int}
theorem cut_lc (h1 : 0 ≤ t) (h2 : t < 18446744073709551616) (hS : 0 < S) (hS2 : S < 18446744073709551616) (hs : ws.sum = S) {s : Sl} (es : s = [some (.int t), some (.tup (ws.map .int)), none]) :
    lcG (lcV (mgName 2) pYes (pOp opDiv (pOp opRep (pVar 0) (pVar 2)) (pCallB bSum (pCons (pVar 1) (pNil)))) s) (ws.map D.int) = some ((lowL t S ws).map D.int) := by
  subst es
  have e : (lowL t S ws).map D.int = ws.map fun w => D.int (t * w / S) := by simp [lowL]
  rw [lcG_map, e]
  refine lcG_is fun w _ => ?_
  simp [lcV, mgName, z_sumT', hs, z_mulL (show -18446744073709551616 < t by omega) h2, z_div hS hS2]
theorem rst_lc (h1 : 0 ≤ t) (h2 : t < 18446744073709551616) (hS : 0 < S) (hs : ws.sum = S) {s : Sl} (es : s = [some (.int t), some (.tup (ws.map .int)), none]) :
    lcG (lcV (mgName 2) pYes (pOp opMod (pOp opRep (pVar 0) (pVar 2)) (pCallB bSum (pCons (pVar 1) (pNil)))) s) (ws.map D.int) = some ((rstL t S ws).map D.int) := by
  subst es
  have e : (rstL t S ws).map D.int = ws.map fun w => D.int (t * w % S) := by simp [rstL]
  rw [lcG_map, e]
  refine lcG_is fun w _ => ?_
  simp [lcV, mgName, z_sumT', hs, z_mulL (show -18446744073709551616 < t by omega) h2, z_mod hS]
theorem cuts_ok (h1 : 0 ≤ t) (h2 : t < 18446744073709551616) (hS : 0 < S) (hS2 : S < 18446744073709551616) (hs : ws.sum = S) (hl : ws.length ≤ 1000) : p_cuts [.int t, .tup (ws.map .int)] = .ok (.lst ((lowL t S ws).map .int)) [] := by
  refine of_el ?_
  unfold p_cuts
  rw [e_fn]
  unfold q_cuts
  simp
  rw [cut_lc (s := wipeM [some (D.int t), some (D.tup (List.map D.int ws)), none] [2]) h1 h2 hS hS2 hs rfl]
  have l2 : ((lowL t S ws).map D.int).length ≤ 16777216 := by simp [lowL]; omega
  simp only [lcK_some, l2, if_true]
  simp
theorem rests_ok (h1 : 0 ≤ t) (h2 : t < 18446744073709551616) (hS : 0 < S) (hs : ws.sum = S) (hl : ws.length ≤ 1000) : p_rests [.int t, .tup (ws.map .int)] = .ok (.tup ((rstL t S ws).map .int)) [] := by
  refine of_el ?_
  unfold p_rests
  rw [e_fn]
  unfold q_rests
  simp
  rw [rst_lc (s := wipeM [some (D.int t), some (D.tup (List.map D.int ws)), none] [2]) h1 h2 hS hs rfl]
  have l2 : ((rstL t S ws).map D.int).length ≤ 16777216 := by simp [rstL]; omega
  simp only [lcK_some, l2, if_true]
  simp
/-! ## the program's split -/
theorem key_ok {rs : List Int} {s : Sl} {n : Nat} (h3 : s[3]? = some (some (.tup (rs.map .int)))) (hn : rs.length = n) (hb : n ≤ 1000) : ksOf (fun d => KT.key s d (.one (.neg (.ix (.var 3) .par)))) (rngD n) = some ((List.range n).map fun i => (D.int (i : Nat), PyData.int (- (rs.getD i 0)))) := by
  refine ks_ints (l := List.range n) fun i hi => ?_
  have hi := List.mem_range.mp hi
  have hl : i < rs.length := by omega
  have e1 : atI (rs.map D.int) (i : Nat) = some (.int rs[i]) := by
    unfold atI ixN
    rw [if_pos (by omega), if_pos (by rw [List.length_map]; omega)]
    simp [hl]
  have e2 : rs.getD i 0 = rs[i] := by simp [List.getD_eq_getElem?_getD, List.getElem?_eq_getElem hl]
  have hz : -(2 ^ 62 : Int) ≤ (i : Nat) ∧ ((i : Nat) : Int) < 2 ^ 62 := by omega
  simp only [KT.key, KX.val, h3, if_pos hz, e1, e2, Option.bind_some, keyD]
def spl (t S : Int) (ws : List Int) : List Int := bump (lowL t S ws) ((ordL (fun k => - ((rstL t S ws).getD k 0)) ws.length).take (t - (lowL t S ws).sum).toNat)
theorem split_ok (h1 : 0 ≤ t) (h2 : t < 18446744073709551616) (hS : 0 < S) (hS2 : S < 18446744073709551616) (hs : ws.sum = S) (hl : ws.length ≤ 1000) : p_split [.int t, .tup (ws.map .int)] = .ok (.tup ((spl t S ws).map .int)) [] := by
  have ll : (lowL t S ws).length = ws.length := by simp [lowL]
  have lr : (rstL t S ws).length = ws.length := by simp [rstL]
  obtain ⟨m0, m1⟩ := m_bd (t := t) hS hs
  refine of_el ?_
  unfold p_split
  rw [e_fn]
  unfold q_split
  simp [cuts_ok h1 h2 hS hS2 hs hl]
  unfold q_split_1
  simp [rests_ok h1 h2 hS hs hl]
  unfold q_split_2
  simp
  rw [e_sortR]
  simp
  refine ⟨by omega, ?_⟩
  rw [key_ok (rs := rstL t S ws) rfl lr hl]
  simp only [ok_ints, if_true, sort_ints]
  refine ⟨trivial, ?_⟩
  have hm : (t - (lowL t S ws).sum).toNat < ws.length := by omega
  show (q_split_3 [some (D.int t), some (D.tup (List.map D.int ws)), some (D.lst (List.map D.int (lowL t S ws))), some (D.tup (List.map D.int (rstL t S ws))), some (D.lst ((ordL (fun k => - ((rstL t S ws).getD k 0)) ws.length).map fun i => D.int (i : Nat))), none]).el _ _ _ _ _ _
  have hO : ∀ k ∈ ordL (fun k => - ((rstL t S ws).getD k 0)) ws.length, k < ws.length := fun k h => ordL_lt h
  have nO := ordL_nd (f := fun k => - ((rstL t S ws).getD k 0)) (n := ws.length)
  unfold spl
  generalize ordL (fun k => - ((rstL t S ws).getD k 0)) ws.length = O at *
  unfold q_split_3
  simp [z_sumL', cut_to m0]
  rw [← List.map_take]
  refine for_map (e := fun i : Nat => D.int (i : Nat)) (fun rs s => Hold (∃ done x5, O.take (t - (lowL t S ws).sum).toNat = done ++ rs ∧ s = [some (D.int t), some (D.tup (List.map D.int ws)), some (D.lst (List.map D.int (bump (lowL t S ws) done))), some (D.tup (List.map D.int (rstL t S ws))), some (D.lst (O.map fun i => D.int (i : Nat))), x5])) ⟨[], _, rfl, by rw [bump_nil]⟩ ?_ ?_
  · rintro p rs s ⟨done, x5, e, rfl⟩
    refine ⟨_, rfl, ?_⟩
    have hp : p ∈ O.take (t - (lowL t S ws).sum).toNat := by rw [e]; simp
    have pn := hO p (List.mem_of_mem_take hp)
    have nd : (done ++ p :: rs).Nodup := by rw [← e]; exact nO.sublist (List.take_sublist _ _)
    have pd : p ∉ done := fun h => (List.nodup_append.mp nd).2.2 p h p List.mem_cons_self rfl
    have hx : p < (lowL t S ws).length := by omega
    have g1 := List.getElem?_eq_getElem hx
    have g2 := bump_at (P := done) g1
    rw [if_neg pd] at g2
    have g3 := bump_snoc (P := done) g1
    have ix : ixN (bump (lowL t S ws) done).length (p : Int) = some p := by
      unfold ixN
      rw [if_pos (by omega), if_pos (by rw [bump_len]; omega)]
      simp
    have at1 : atI ((bump (lowL t S ws) done).map D.int) (p : Int) = some (.int (lowL t S ws)[p]) := by
      unfold atI
      rw [List.length_map, ix]
      simp [g2]
    unfold b_split_1
    simp [ix, at1]
    exact ⟨done ++ [p], some (.int (p : Nat)), by rw [e]; simp, by rw [g3, List.map_set]⟩
  · rintro s ⟨done, x5, e, rfl⟩
    unfold q_split_4
    rw [List.append_nil] at e
    simp [e]
end
end Lw
end

section
set_option maxHeartbeats 4000000
open PySem PySem.Spec PyProof.Rows L2 Tb
namespace Lw
/-! ## the law's parts -/
theorem at_int {xs : List Int} {k : Nat} {x : Int} (h : xs[k]? = some x) : atI (xs.map D.int) (k : Int) = some (.int x) := by
  have hk := (List.getElem?_eq_some_iff.mp h).1
  unfold atI ixN
  rw [if_pos (by omega), if_pos (by rw [List.length_map]; omega)]
  simp [h]
theorem own_lc {low : List Int} {P : List Nat} {n : Nat} (hl : low.length = n) {s : Sl} {a0 a1 a2 a4 a5 a6 a8 a10 : Option D} (es : s = [a0, a1, a2, some (.lst (low.map .int)), a4, a5, a6, some (.lst ((bump low P).map .int)), a8, none, a10]) :
    lcG (lcV (mgName 9) (pAsB (pOp opEq (pOp opIx (pVar 7) (pVar 9)) (pOp opIx (pVar 3) (pVar 9)))) (pVar 9) s) (rangeD 0 n) = some (((List.range n).filter fun k => decide (k ∉ P)).map fun k => D.int (k : Nat)) := by
  subst es
  unfold rangeD
  rw [lcG_map]
  refine lcG_isif (φ := fun k : Nat => D.int (k : Nat)) (p := fun k => decide (k ∉ P)) fun k hk => ?_
  have hk := List.mem_range.mp hk
  have e1 := List.getElem?_eq_getElem (show k < low.length by omega)
  have e2 := bump_at (P := P) e1
  have f1 := at_int e1
  have f2 := at_int e2
  by_cases q : k ∈ P
  · rw [if_pos q] at f2
    simp [lcV, mgName, pk_at f1, pk_at f2, q]
    omega
  · rw [if_neg q] at f2
    simp [lcV, mgName, pk_at f1, pk_at f2, q]
theorem val_lc {r : List Int} {n : Nat} (hr : r.length = n) {W : List Nat} (hW : ∀ k ∈ W, k < n) {s : Sl} {a0 a1 a2 a3 a4 a6 a7 a8 a10 : Option D} (es : s = [a0, a1, a2, a3, a4, some (.lst (r.map .int)), a6, a7, a8, none, a10]) :
    lcG (lcV (mgName 9) pYes (pOp opIx (pVar 5) (pVar 9)) s) (W.map fun k => D.int (k : Nat)) = some ((W.map fun k => r.getD k 0).map D.int) := by
  subst es
  rw [lcG_map, List.map_map]
  refine lcG_is fun k hk => ?_
  have hk := hW k hk
  have e1 := List.getElem?_eq_getElem (show k < r.length by omega)
  have e2 : r.getD k 0 = r[k] := by rw [List.getD_eq_getElem?_getD, e1]; rfl
  simp only [Function.comp_apply, e2]
  simp [lcV, mgName, pk_at (at_int e1)]
theorem fst_lc {r : List Int} {n : Nat} (hr : r.length = n) {W : List Nat} (hW : ∀ k ∈ W, k < n) {y : Int} {s : Sl} {a0 a1 a2 a3 a4 a6 a7 a8 : Option D} (es : s = [a0, a1, a2, a3, a4, some (.lst (r.map .int)), a6, a7, a8, none, some (.int y)]) :
    lcG (lcV (mgName 9) (pAsB (pOp opEq (pOp opIx (pVar 5) (pVar 9)) (pVar 10))) (pVar 9) s) (W.map fun k => D.int (k : Nat)) = some ((W.filter fun k => decide (r.getD k 0 = y)).map fun k => D.int (k : Nat)) := by
  subst es
  rw [lcG_map]
  refine lcG_isif (φ := fun k : Nat => D.int (k : Nat)) (p := fun k => decide (r.getD k 0 = y)) fun k hk => ?_
  have hk := hW k hk
  have e1 := List.getElem?_eq_getElem (show k < r.length by omega)
  have e2 : r.getD k 0 = r[k] := by rw [List.getD_eq_getElem?_getD, e1]; rfl
  simp only [e2]
  by_cases q : r[k] = y
  · simp [lcV, mgName, pk_at (at_int e1), q]
  · simp [lcV, mgName, pk_at (at_int e1), q]
section
variable {t S : Int} {ws : List Int}
theorem parts_ok (h1 : 0 ≤ t) (h2 : t < 18446744073709551616) (hS : 0 < S) (hS2 : S < 18446744073709551616) (hs : ws.sum = S) (hl : ws.length ≤ 1000) :
    p_w_parts [.int t, .tup (ws.map .int)] = .ok (.tup [.lst ((lowL t S ws).map .int), .lst ((rstL t S ws).map .int), .lst ((spl t S ws).map .int)]) [] := by
  have ll : (lowL t S ws).length = ws.length := by simp [lowL]
  have lr : (rstL t S ws).length = ws.length := by simp [rstL]
  obtain ⟨m0, m1⟩ := m_bd (t := t) hS hs
  refine of_el ?_
  unfold p_w_parts
  rw [e_fn]
  unfold q_w_parts
  simp [z_sumT', hs]
  unfold q_w_parts_1
  simp
  have c1 : ∀ s : Sl, s = [some (.int t), some (.tup (ws.map .int)), some (.int S), none, none, none, none, none, none, none, none] → lcG (lcV (mgName 4) pYes (pOp opDiv (pOp opRep (pVar 0) (pVar 4)) (pVar 2)) s) (ws.map D.int) = some ((lowL t S ws).map D.int) := by
    rintro s rfl
    have e : (lowL t S ws).map D.int = ws.map fun w => D.int (t * w / S) := by simp [lowL]
    rw [lcG_map, e]
    refine lcG_is fun w _ => ?_
    simp [lcV, mgName, z_mulL (show -18446744073709551616 < t by omega) h2, z_div hS hS2]
  rw [c1 (wipeM [some (.int t), some (.tup (ws.map .int)), some (.int S), none, none, none, none, none, none, none, none] [4]) rfl]
  have l2 : ((lowL t S ws).map D.int).length ≤ 16777216 := by simp; omega
  simp only [lcK_some, l2, if_true]
  unfold q_w_parts_2
  simp
  have c2 : ∀ s : Sl, s = [some (.int t), some (.tup (ws.map .int)), some (.int S), some (.lst ((lowL t S ws).map .int)), none, none, none, none, none, none, none] → lcG (lcV (mgTup 2 (mgCons (mgName 4) (mgCons (mgName 6) mgNil))) pYes (pOp opSub (pOp opRep (pVar 0) (pVar 4)) (pOp opRep (pVar 6) (pVar 2))) s) (List.zipWith (fun a b => Tb.pairD (D.int a) (D.int b)) ws (lowL t S ws)) = some ((rstL t S ws).map D.int) := by
    rintro s rfl
    have e : (rstL t S ws).map D.int = ws.map fun w => D.int (t * w % S) := by simp [rstL]
    have z : List.zipWith (fun a b => Tb.pairD (D.int a) (D.int b)) ws (lowL t S ws) = ws.map fun w => Tb.pairD (D.int w) (D.int (t * w / S)) := by
      unfold lowL
      rw [List.zipWith_map_right, List.zipWith_self]
    rw [z, lcG_map, e]
    refine lcG_is fun w _ => ?_
    have e2 : t * w % S = t * w - t * w / S * S := by rw [Int.emod_def, Int.mul_comm S]
    rw [e2]
    simp [lcV, mgName, Tb.pairD, z_mulL (show -18446744073709551616 < t by omega) h2, z_mulR (show -18446744073709551616 < S by omega) hS2]
  rw [c2 (wipeM [some (.int t), some (.tup (ws.map .int)), some (.int S), some (.lst ((lowL t S ws).map .int)), none, none, none, none, none, none, none] [4, 6]) rfl]
  have l3 : ((rstL t S ws).map D.int).length ≤ 16777216 := by simp; omega
  simp only [lcK_some, l3, if_true]
  unfold q_w_parts_3
  simp
  unfold q_w_parts_4
  simp [z_sumL']
  refine ⟨⟨by omega, by omega⟩, ?_⟩
  have hm : (t - (lowL t S ws).sum).toNat ≤ ws.length := by omega
  refine for_ran (fun i s => Hold (∃ x6 x8 x10, s = [some (D.int t), some (D.tup (ws.map .int)), some (D.int S), some (D.lst ((lowL t S ws).map .int)), none, some (D.lst ((rstL t S ws).map .int)), x6, some (D.lst ((bump (lowL t S ws) ((ordL (fun k => - ((rstL t S ws).getD k 0)) ws.length).take i)).map .int)), x8, none, x10])) ⟨none, none, none, by rw [List.take_zero, bump_nil]⟩ ?_ ?_
  · rintro i s hi ⟨x6, x8, x10, rfl⟩
    have hi2 : i < ws.length := Nat.lt_of_lt_of_le hi hm
    have T := turn2 (low := lowL t S ws) (r := rstL t S ws) (n := ws.length) (t := i) rfl rfl ll lr hi2
    obtain ⟨p, T⟩ := T
    obtain ⟨x, T⟩ := T
    obtain ⟨y, T⟩ := T
    obtain ⟨rest, T⟩ := T
    obtain ⟨g1, g2, g3, g4, g5, g6, g7, g8, g9⟩ := T
    have gt : (ordL (fun k => - ((rstL t S ws).getD k 0)) ws.length).take (i + 1) = (ordL (fun k => - ((rstL t S ws).getD k 0)) ws.length).take i ++ [p] := by
      rw [List.take_add_one, g1]
      rfl
    rw [gt, bump_snoc g4]
    generalize (ordL (fun k => - ((rstL t S ws).getD k 0)) ws.length).take i = P at *
    generalize hL : lowL t S ws = low at *
    generalize hR : rstL t S ws = r at *
    have bl : (bump low P).length = ws.length := by rw [bump_len]; exact ll
    refine ⟨_, rfl, ?_⟩
    have wl : ∀ k ∈ (List.range ws.length).filter (fun k => decide (k ∉ P)), k < ws.length := fun k h => List.mem_range.mp (List.mem_filter.mp h).1
    have wn : ((List.range ws.length).filter fun k => decide (k ∉ P)).length ≤ 1000 := Nat.le_trans (List.length_filter_le _ _) (by rw [List.length_range]; exact hl)
    generalize hW : ((List.range ws.length).filter fun k => decide (k ∉ P)) = W at *
    have ne : (W.map fun k => r.getD k 0) ≠ [] := fun z => by
      rw [List.map_eq_nil_iff] at z
      rw [z] at g6
      cases g6
    have mx : maxI (W.map fun k => r.getD k 0) = y := by
      obtain ⟨q1, q2⟩ := maxI_spec ne
      obtain ⟨k, q3, q4⟩ := List.mem_map.mp q1
      have := g7 k q3
      have := q2 y (List.mem_map.mpr ⟨p, g6, g8.symm⟩)
      omega
    have px : (bump low P)[p]? = some x := by
      have := bump_at (P := P) g4
      rwa [if_neg g3] at this
    have ix : ixN (bump low P).length (p : Int) = some p := by
      unfold ixN
      rw [if_pos (by omega), if_pos (by rw [bl]; omega)]
      simp
    unfold b_w_parts_1
    simp
    refine ⟨by omega, ?_⟩
    rw [ll, own_lc (n := ws.length) ll (s := wipeM [some (D.int t), some (D.tup (List.map D.int ws)), some (D.int S), some (D.lst (List.map D.int low)), none, some (D.lst (List.map D.int r)), x6, some (D.lst (List.map D.int (bump low P))), some (D.int i), none, x10] [9]) rfl, hW]
    have n1 : (W.map fun k => D.int (k : Nat)).length ≤ 16777216 := by rw [List.length_map]; omega
    simp only [lcK_some, n1, if_true]
    simp
    rw [val_lc lr wl (s := wipeM [some (D.int t), some (D.tup (List.map D.int ws)), some (D.int S), some (D.lst (List.map D.int low)), none, some (D.lst (List.map D.int r)), some (D.lst (W.map fun k => D.int (k : Nat))), some (D.lst (List.map D.int (bump low P))), some (D.int i), none, x10] [9]) rfl]
    have n2 : ((W.map fun k => r.getD k 0).map D.int).length ≤ 16777216 := by rw [List.length_map, List.length_map]; omega
    simp only [lcK_some, n2, if_true]
    have zm := fun (h : MH) (s : Sl) => z_maxL (ns := W.map fun k => r.getD k 0) (h := h) (s := s) ne
    rw [mx] at zm
    simp only [intsD] at zm
    have fz := fun (s : Sl) (a0 a1 a2 a3 a4 a6 a7 a8 : Option D) (es : s = [a0, a1, a2, a3, a4, some (.lst (r.map .int)), a6, a7, a8, none, some (.int y)]) => fst_lc lr wl (y := y) es
    rw [g9] at fz
    generalize (W.map fun k => r.getD k 0) = V at *
    simp [zm]
    rw [fz (wipeM [some (D.int t), some (D.tup (List.map D.int ws)), some (D.int S), some (D.lst (List.map D.int low)), none, some (D.lst (List.map D.int r)), some (D.lst (W.map fun k => D.int (k : Nat))), some (D.lst (List.map D.int (bump low P))), some (D.int i), none, some (D.int y)] [9]) _ _ _ _ _ _ _ _ rfl]
    have n3 : ((p :: rest).map fun k => D.int (k : Nat)).length ≤ 16777216 := by
      have : (p :: rest).length ≤ W.length := by rw [← g9]; exact List.length_filter_le _ _
      rw [List.length_map]
      omega
    simp only [lcK_some, n3, if_true]
    have at1 := at_int px
    simp [at1, ix]
    exact ⟨some (.lst (W.map fun k => D.int (k : Nat))), some (.int i), some (.int y), by rw [List.map_set]⟩
  · rintro s ⟨x6, x8, x10, rfl⟩
    unfold q_w_parts_5
    rw [z_retT]
    simp [retT, spl]
end
end Lw
end

section
set_option maxHeartbeats 4000000
open PySem PySem.Spec PyProof.Rows L2 Tb
namespace Lw
/-! ## what repr tells; the law's question -/
theorem ints_all : ∀ {xs : List Int}, (∀ x ∈ xs, x.natAbs < 2 ^ 700) → plains (xs.map .int) = true ∧ wts (xs.map .int) ≤ 704 * xs.length ∧ deeps (xs.map .int) = 0
  | [], _ => ⟨rfl, by simp [wts], rfl⟩
  | x :: xs, h => by
    obtain ⟨a, b, c⟩ := ints_all (xs := xs) fun y hy => h y (List.mem_cons_of_mem _ hy)
    refine ⟨?_, ?_, ?_⟩
    · simp only [List.map_cons, plains, a, D.plain, decide_eq_true (h x List.mem_cons_self), Bool.and_self]
    · simp only [List.map_cons, wts, D.wt, List.length_cons]
      omega
    · simp only [List.map_cons, deeps, c, D.deep]
      rfl
theorem reprT {xs : List Int} (h : ∀ x ∈ xs, x.natAbs < 2 ^ 700) (hl : xs.length ≤ 1000) {hh : MH} {s : Sl} : zr (bRepr [.tup (xs.map .int)] hh) s = .ok (.str (txt (.tup (xs.map .int)))) s := by
  obtain ⟨a, b, c⟩ := ints_all h
  refine z_repr ?_ ?_ ?_
  · simpa only [D.plain] using a
  · have hz := sizeLine_eq
    simp only [D.wt]
    omega
  · simp only [D.deep, c]
    decide
theorem big {x : Int} (h0 : 0 ≤ x) (h1 : x ≤ 18446744073709551616 * 18446744073709551616 + 1) : x.natAbs < 2 ^ 700 := by
  have : x.natAbs ≤ 18446744073709551616 * 18446744073709551616 + 1 := by omega
  exact Nat.lt_of_le_of_lt this (by decide +kernel)
section
variable {t S : Int} {ws : List Int}
theorem low_sm (h1 : 0 ≤ t) (h2 : t < 18446744073709551616) (hS : 0 < S) (hw : ∀ w ∈ ws, 0 ≤ w ∧ w < 18446744073709551616) : ∀ x ∈ lowL t S ws, 0 ≤ x ∧ x ≤ 18446744073709551616 * 18446744073709551616 := fun x hx => by
  obtain ⟨w, hm, rfl⟩ := List.mem_map.mp hx
  obtain ⟨w0, w1⟩ := hw w hm
  have p0 : 0 ≤ t * w := Int.mul_nonneg h1 w0
  have p1 : t * w ≤ 18446744073709551616 * 18446744073709551616 := Int.mul_le_mul (by omega) (by omega) w0 (by decide)
  exact ⟨Int.ediv_nonneg p0 (by omega), Int.le_trans (Int.ediv_le_self _ p0) p1⟩
theorem spl_sm (h1 : 0 ≤ t) (h2 : t < 18446744073709551616) (hS : 0 < S) (hw : ∀ w ∈ ws, 0 ≤ w ∧ w < 18446744073709551616) : ∀ x ∈ spl t S ws, x.natAbs < 2 ^ 700 := fun x hx => by
  unfold spl bump at hx
  obtain ⟨k, hk, e⟩ := List.mem_mapIdx.mp hx
  have := low_sm h1 h2 hS hw _ (List.getElem_mem hk)
  subst e
  split <;> exact big (by omega) (by omega)
theorem rst_sm (hS : 0 < S) (hS2 : S < 18446744073709551616) : ∀ x ∈ rstL t S ws, x.natAbs < 2 ^ 700 := fun x hx => by
  obtain ⟨w, hm, rfl⟩ := List.mem_map.mp hx
  have a := Int.emod_nonneg (t * w) (show S ≠ 0 by omega)
  have b := Int.emod_lt_of_pos (t * w) hS
  exact big a (by omega)
theorem spl_len : (spl t S ws).length = ws.length := by simp [spl, bump_len, lowL]
theorem right_ok (h1 : 0 ≤ t) (h2 : t < 18446744073709551616) (hS : 0 < S) (hS2 : S < 18446744073709551616) (hs : ws.sum = S) (hl : ws.length ≤ 1000) (hw : ∀ w ∈ ws, 0 ≤ w ∧ w < 18446744073709551616) : p_w_right [.int t, .tup (ws.map .int)] = .ok (.bl true) [] := by
  have r1 := fun (hh : MH) (s : Sl) => reprT (spl_sm h1 h2 hS hw) (by rw [spl_len]; exact hl) (hh := hh) (s := s)
  have r2 := fun (hh : MH) (s : Sl) => reprT (rst_sm (t := t) (ws := ws) hS hS2) (by simp [rstL]; exact hl) (hh := hh) (s := s)
  refine of_el ?_
  unfold p_w_right
  rw [e_fn]
  unfold q_w_right
  simp [parts_ok h1 h2 hS hS2 hs hl]
  unfold q_w_right_1
  simp [split_ok h1 h2 hS hS2 hs hl]
  unfold q_w_right_2
  simp [r1]
  unfold q_w_right_3
  simp [rests_ok h1 h2 hS hs hl, r2]
end
end Lw
end

section
set_option maxHeartbeats 4000000
open PySem PySem.Spec PyProof.Rows L2 Tb
namespace Lw
/-- a feed: cells, the place, what is left, turns -/
def Feed (k : Int) (c : D) : Prop := ∃ (ns : List Int) (a l t : Int), c = .lst [.lst (ns.map .int), .int a, .int l, .int t] ∧ 0 ≤ t ∧ t ≤ k
theorem Feed.mono {k l : Int} {c : D} (h : Feed k c) (e : k ≤ l) : Feed l c := let ⟨ns, a, b, p, q, r, t⟩ := h; ⟨ns, a, b, p, q, r, by omega⟩
theorem feed_ok {ns : List Int} : ∃ c, p_w_feed [.scr ns] = .ok c [] ∧ Feed 0 c := by
  refine ⟨.lst [.lst ((Tb.cutD ns none (some 63)).map .int), .int 0, .int 0, .int 0], of_el ?_, _, 0, 0, 0, rfl, by omega, by omega⟩
  unfold p_w_feed
  rw [e_fn]
  unfold q_w_feed
  simp
theorem draw_ok {k m : Int} {c : D} {F : D → Sl → Prop} {g : Ex → Prop} (hc : Feed k c) (hk : k < 1000000) (hm : 0 < m) (hm2 : m < 18446744073709551616) (go : ∀ v c', 0 ≤ v → v < m → Feed (k + 1) c' → F (.int v) [some c']) : (p_w_draw [c, .int m]).el F g False := by
  obtain ⟨ns, a, l, t, rfl, ht, htk⟩ := hc
  have hlv : ∀ x a' l', F (.int (x % m)) [some (.lst [.lst (ns.map .int), .int a', .int l', .int (t + 1)])] := fun x a' l' =>
    go _ _ (Int.emod_nonneg _ (by omega)) (Int.emod_lt_of_pos _ hm) ⟨ns, a', l', t + 1, rfl, by omega, by omega⟩
  have rest : ∀ (x : Int) c1, (q_w_draw_3 [some (.lst [.lst (ns.map .int), .int a, .int l, .int (t + 1)]), some (.int m), c1, some (.int x), none, none]).el (fun s => (retP [0] .non s).el F g False) (fun _ => False) (fun _ => False) (fun d s => (retP [0] d s).el F g False) g False := by
    intro x c1
    have q0 : 69621 * (t + 1) < 18446744073709551616 := by omega
    have q1 : -18446744073709551616 < 69621 * (t + 1) := by omega
    unfold q_w_draw_3 q_w_draw_4
    simp [ixN, hm, hm2]
    have tail : (q_w_draw_5 [some (.lst [.lst (ns.map .int), .int (a + 1), .int l, .int (t + 1)]), some (.int m), c1, some (.int x), none, none]).el (fun s => (retP [0] .non s).el F g False) (fun _ => False) (fun _ => False) (fun d s => (retP [0] d s).el F g False) g False := by
      unfold q_w_draw_5 q_w_draw_6 q_w_draw_7 q_w_draw_8 q_w_draw_9
      simp [hm, q0, q1, hlv]
    split
    · split
      · exact hlv _ _ _
      · exact tail
    · exact tail
  unfold p_w_draw
  rw [e_fn]
  unfold q_w_draw q_w_draw_1 q_w_draw_2
  simp [ixN, hm, hm2]
  split
  · exact hlv _ _ _
  · split
    · exact rest _ _
    · rename_i hns
      have hp : 0 < (ns.length : Int) := by
        have := List.length_pos_iff.mpr hns
        omega
      obtain ⟨x, hx⟩ := at_mod (c := a) hns
      rw [z_mod hp]
      simp [pk_at hx]
      exact rest _ _
end Lw
end

section
set_option maxHeartbeats 4000000
open PySem PySem.Spec PyProof.Rows L2 Tb
namespace Lw
theorem pks9 (L : List Int) (i : Int) (s : Sl) (F : D → Sl → Prop) (g : Ex → Prop) (h0 : 0 ≤ i) (h1 : i < L.length) (go : ∀ x ∈ L, F (.int x) s) : (pk (L.map .int) i s).el F g False :=
  pk_map h0 h1 go
def WOk (w : Int) : Prop := 0 ≤ w ∧ w ≤ 1000000000
section
variable {k : Int} {c : D} {F : D → Sl → Prop} {g : Ex → Prop}
theorem weights_ok {m : Int} (hc : Feed k c) (hk : k < 800000) (h1 : 1 ≤ m) (h2 : m ≤ 12) (go : ∀ (ws : List Int) c', (∀ w ∈ ws, WOk w) → 0 < ws.sum → ws.length ≤ 12 → Feed (k + 200) c' → F (.tup (ws.map .int)) [some c']) : (p_w_weights [c, .int m]).el F g False := by
  unfold p_w_weights
  rw [e_fn]
  unfold q_w_weights
  simp
  refine draw_ok hc (by omega) (by decide) (by decide) fun sty c1 a1' b1' f1 => ?_
  unfold q_w_weights_1 q_w_weights_2
  simp
  refine draw_ok f1 (by omega) (by omega) (by omega) fun n c2 a2 b2 f2 => ?_
  simp
  refine ⟨⟨by omega, by omega⟩, ?_⟩
  refine for_ran (fun i s => Hold (∃ c, ∃ ws : List Int, ∃ x4 x5, Feed (k + 2 + 7 * i) c ∧ (∀ w ∈ ws, WOk w) ∧ ws.length = i ∧ s = [some c, some (.int m), some (.int sty), some (.lst (ws.map .int)), x4, x5])) ⟨c2, [], _, _, f2.mono (by omega), fun _ h => (nomatch h), rfl, rfl⟩ ?_ ?_
  · rintro i s hi ⟨c, ws, x4, x5, q1, q2, q3, rfl⟩
    refine ⟨_, rfl, ?_⟩
    unfold b_w_weights_1
    simp
    refine draw_ok q1 (by omega) (by decide) (by decide) fun v1 c1 a1 b1 f1 => ?_
    simp
    refine draw_ok f1 (by omega) (by decide) (by decide) fun v2 c2 a2 b2 f2 => ?_
    simp
    refine draw_ok f2 (by omega) (by decide) (by decide) fun v3 c3 a3 b3 f3 => ?_
    simp
    refine draw_ok f3 (by omega) (by decide) (by decide) fun v4 c4 a4 b4 f4 => ?_
    simp
    refine pks9 [v2, 1, v3, 1000000000 - v1, 1 + v4, 1000000000 - v1] sty _ _ _ a1' (by simpa using b1') fun w hw => ?_
    have hwo : WOk w := by
      unfold WOk
      simp only [List.mem_cons, List.not_mem_nil, or_false] at hw
      omega
    simp
    rw [if_pos (by omega)]
    simp
    have snoc : ∀ y, WOk y → (∀ x ∈ ws ++ [y], WOk x) := fun y q x hx => (List.mem_append.mp hx).elim (q2 x) fun h => by rw [List.mem_singleton.mp h]; exact q
    have ixL : ixN (ws.length + 1) (-1) = some ws.length := by
      unfold ixN
      rw [if_neg (by decide), if_pos (by omega)]
      congr 1
      omega
    by_cases h5 : sty = 5
    · simp [h5]
      refine draw_ok f4 (by omega) (by decide) (by decide) fun v5 c5 a5 b5 f5 => ?_
      simp
      by_cases h6 : v5 = 0
      · simp [h6]
        refine draw_ok f5 (by omega) (by decide) (by decide) fun v6 c6 a6 b6 f6 => ?_
        have e6 : (List.map D.int ws ++ [D.int w]).set ws.length (D.int v6) = (ws ++ [v6]).map .int := by
          rw [List.set_append_right _ _ (by simp)]
          simp
        simp [ixL]
        rw [e6]
        exact ⟨c6, ws ++ [v6], _, _, f6.mono (by omega), snoc v6 ⟨a6, by omega⟩, by simp [q3], rfl⟩
      · simp [h6]
        exact ⟨c5, ws ++ [w], _, _, f5.mono (by omega), snoc w hwo, by simp [q3], by rw [List.map_append]; rfl⟩
    · simp [h5]
      exact ⟨c4, ws ++ [w], _, _, f4.mono (by omega), snoc w hwo, by simp [q3], by rw [List.map_append]; rfl⟩
  · rintro s ⟨c, ws, x4, x5, q1, q2, q3, rfl⟩
    have nn : ∀ {xs : List Int}, (∀ w ∈ xs, WOk w) → 0 ≤ xs.sum := fun {xs} => by
      induction xs with
      | nil => intro _; simp
      | cons x xs ih =>
        intro h
        have h1 := (h x List.mem_cons_self).1
        have h2 := ih fun y hy => h y (List.mem_cons_of_mem _ hy)
        rw [List.sum_cons]
        omega
    have wl : (ws.length : Int) = 1 + n := by omega
    unfold q_w_weights_3
    simp [z_sumL']
    by_cases hz : ws.sum = 0
    · simp [hz]
      refine draw_ok q1 (by omega) (by decide) (by decide) fun v1 c1 a1 b1 f1 => ?_
      simp
      refine draw_ok f1 (by omega) (by omega) (by omega) fun v2 c2 a2 b2 f2 => ?_
      have ix : ixN ws.length v2 = some v2.toNat := by
        unfold ixN
        rw [if_pos a2, if_pos b2]
      simp [ix]
      unfold q_w_weights_4
      simp
      have le : ∀ {xs : List Int}, (∀ w ∈ xs, WOk w) → ∀ x ∈ xs, x ≤ xs.sum := fun {xs} => by
        induction xs with
        | nil => intro _ x h; cases h
        | cons y xs ih =>
          intro h x hx
          have h1 := (h y List.mem_cons_self).1
          have h3 := nn fun z hz => h z (List.mem_cons_of_mem _ hz)
          rw [List.sum_cons]
          rcases List.mem_cons.mp hx with rfl | hx
          · omega
          · have := ih (fun z hz => h z (List.mem_cons_of_mem _ hz)) x hx
            omega
      have ok : ∀ w ∈ ws.set v2.toNat (1 + v1), WOk w := fun w hw => by
        rcases List.mem_or_eq_of_mem_set hw with h | rfl
        · exact q2 w h
        · exact ⟨by omega, by omega⟩
      have hm : (1 + v1) ∈ ws.set v2.toNat (1 + v1) := List.mem_set (by omega) _
      have := le ok _ hm
      have key := go (ws.set v2.toNat (1 + v1)) c2 ok (by omega) (by rw [List.length_set]; omega) (f2.mono (by omega))
      rw [List.map_set] at key
      exact key
    · simp [hz]
      unfold q_w_weights_4
      simp
      exact go ws c q2 (by have := nn q2; omega) (by omega) (q1.mono (by omega))
end
end Lw
end

section
set_option maxHeartbeats 8000000
open PySem PySem.Spec PyProof.Rows L2 Tb
namespace Lw
section
variable {k : Int} {c : D} {F : D → Sl → Prop} {g : Ex → Prop}
theorem total_ok {ws : List Int} (hs : 0 ≤ ws.sum) (hl : ws.length ≤ 12) (hb : ws.sum ≤ 12000000000) (hc : Feed k c) (hk : k < 800000) (go : ∀ t c', 0 ≤ t → Feed (k + 20) c' → F (.int t) [some c']) : (p_w_total [c, .tup (ws.map .int)]).el F g False := by
  unfold p_w_total
  rw [e_fn]
  unfold q_w_total
  simp
  refine draw_ok hc (by omega) (by decide) (by decide) fun v1 c1 a1 b1 f1 => ?_
  unfold q_w_total_1
  simp [z_sumT']
  refine draw_ok f1 (by omega) (by decide) (by decide) fun v2 c2 a2 b2 f2 => ?_
  simp [z_mulR (show -18446744073709551616 < v2 by omega) (show v2 < 18446744073709551616 by omega)]
  refine draw_ok f2 (by omega) (by decide) (by decide) fun v3 c3 a3 b3 f3 => ?_
  unfold q_w_total_2
  simp
  refine draw_ok f3 (by omega) (by omega) (by omega) fun v4 c4 a4 b4 f4 => ?_
  simp
  refine draw_ok f4 (by omega) (by decide) (by decide) fun v5 c5 a5 b5 f5 => ?_
  simp
  refine draw_ok f5 (by omega) (by decide) (by decide) fun v6 c6 a6 b6 f6 => ?_
  unfold q_w_total_3
  simp
  refine draw_ok f6 (by omega) (by decide) (by decide) fun v7 c7 a7 b7 f7 => ?_
  simp
  have p0 : 0 ≤ ws.sum * v2 := Int.mul_nonneg hs a2
  refine pks9 [0, v4, v5, ws.sum * v2 + v3, v6, 1000000000000 - v1] v7 _ _ _ a7 (by simpa using b7) fun t ht => ?_
  simp
  refine go t c7 ?_ (f7.mono (by omega))
  simp only [List.mem_cons, List.not_mem_nil, or_false] at ht
  omega
end
end Lw
end

section
set_option maxHeartbeats 8000000
open PySem PySem.Spec PyProof.Rows L2 Tb
namespace Lw
structure CaseOk (t : Int) (ws ps : List Int) : Prop where
  t0 : 0 ≤ t
  t1 : t < 18446744073709551616
  s0 : 0 < ws.sum
  s1 : ws.sum < 18446744073709551616
  l : ws.length ≤ 1000
  w : ∀ w ∈ ws, 0 ≤ w ∧ w < 18446744073709551616
  e : spl t ws.sum ws = ps
theorem ordL_is {f : Nat → Int} {n : Nat} {L : List Nat} (hp : L.Perm (List.range n)) (hs : L.Pairwise fun i j => f i < f j ∨ (f i = f j ∧ i < j)) : ordL f n = L :=
  List.Perm.eq_of_pairwise (fun a b _ _ h1 h2 => by omega) ordL_lex hs (ordL_perm.trans hp.symm)
theorem case_is {t : Int} {ws ps : List Int} (L : List Nat) (t0 : 0 ≤ t) (t1 : t < 18446744073709551616) (s0 : 0 < ws.sum) (s1 : ws.sum < 18446744073709551616) (l : ws.length ≤ 1000) (w : ∀ w ∈ ws, 0 ≤ w ∧ w < 18446744073709551616)
    (hp : L.Perm (List.range ws.length)) (hs : L.Pairwise fun i j => - ((rstL t ws.sum ws).getD i 0) < - ((rstL t ws.sum ws).getD j 0) ∨ (- ((rstL t ws.sum ws).getD i 0) = - ((rstL t ws.sum ws).getD j 0) ∧ i < j)) (e : bump (lowL t ws.sum ws) (L.take (t - (lowL t ws.sum ws).sum).toNat) = ps) : CaseOk t ws ps :=
  ⟨t0, t1, s0, s1, l, w, by unfold spl; rw [ordL_is hp hs]; exact e⟩
def caseD (p : Int × List Int × List Int) : D := .tup [.int p.1, .tup (p.2.1.map .int), .tup (p.2.2.map .int)]
def cases9 : List (Int × List Int × List Int) := [(10, [1, 1, 1], [4, 3, 3]), (11, [1, 1, 1], [4, 4, 3]), (5, [0, 3, 0], [0, 5, 0]), (1, [1, 2, 2], [0, 1, 0]), (3, [2, 2, 1], [1, 1, 1]), (0, [5], [0]), (7, [3, 2, 1], [4, 2, 1])]
theorem cases_ok : ∀ p ∈ cases9, CaseOk p.1 p.2.1 p.2.2 := by
  intro p hp
  simp only [cases9, List.mem_cons, List.not_mem_nil, or_false] at hp
  rcases hp with rfl | rfl | rfl | rfl | rfl | rfl | rfl
  · exact case_is [0, 1, 2] (by decide +kernel) (by decide +kernel) (by decide +kernel) (by decide +kernel) (by decide +kernel) (by decide +kernel) (by decide +kernel) (by decide +kernel) (by decide +kernel)
  · exact case_is [0, 1, 2] (by decide +kernel) (by decide +kernel) (by decide +kernel) (by decide +kernel) (by decide +kernel) (by decide +kernel) (by decide +kernel) (by decide +kernel) (by decide +kernel)
  · exact case_is [0, 1, 2] (by decide +kernel) (by decide +kernel) (by decide +kernel) (by decide +kernel) (by decide +kernel) (by decide +kernel) (by decide +kernel) (by decide +kernel) (by decide +kernel)
  · exact case_is [1, 2, 0] (by decide +kernel) (by decide +kernel) (by decide +kernel) (by decide +kernel) (by decide +kernel) (by decide +kernel) (by decide +kernel) (by decide +kernel) (by decide +kernel)
  · exact case_is [2, 0, 1] (by decide +kernel) (by decide +kernel) (by decide +kernel) (by decide +kernel) (by decide +kernel) (by decide +kernel) (by decide +kernel) (by decide +kernel) (by decide +kernel)
  · exact case_is [0] (by decide +kernel) (by decide +kernel) (by decide +kernel) (by decide +kernel) (by decide +kernel) (by decide +kernel) (by decide +kernel) (by decide +kernel) (by decide +kernel)
  · exact case_is [0, 1, 2] (by decide +kernel) (by decide +kernel) (by decide +kernel) (by decide +kernel) (by decide +kernel) (by decide +kernel) (by decide +kernel) (by decide +kernel) (by decide +kernel)
theorem z_neTI' {ns ms : List Int} {h : MH} {s : Sl} : zr (opNe (.tup (ns.map .int)) (.tup (ms.map .int)) h) s = .ok (.bl (!decide (ns = ms))) s := z_neTI (ns := ns) (ms := ms)
theorem z_eqTI' {ns ms : List Int} {h : MH} {s : Sl} : zr (opEq (.tup (ns.map .int)) (.tup (ms.map .int)) h) s = .ok (.bl (decide (ns = ms))) s := z_eqTI (ns := ns) (ms := ms)
theorem rests1 : p_rests [.int 10, .tup [.int 1, .int 1, .int 1]] = .ok (.tup [.int 1, .int 1, .int 1]) [] := by
  have := rests_ok (t := 10) (S := 3) (ws := [1, 1, 1]) (by decide) (by decide) (by decide) (by decide) (by decide)
  have e : rstL 10 3 [1, 1, 1] = [1, 1, 1] := by decide
  rw [e] at this
  exact this
theorem rests2 : p_rests [.int 7, .tup [.int 3, .int 2, .int 1]] = .ok (.tup [.int 3, .int 2, .int 1]) [] := by
  have := rests_ok (t := 7) (S := 6) (ws := [3, 2, 1]) (by decide) (by decide) (by decide) (by decide) (by decide)
  have e : rstL 7 6 [3, 2, 1] = [3, 2, 1] := by decide
  rw [e] at this
  exact this
theorem by_hand_ok : p_w_by_hand [] = .ok (.bl true) [] := by
  refine of_el ?_
  unfold p_w_by_hand
  rw [e_fn]
  unfold q_w_by_hand q_w_by_hand_1 q_w_by_hand_2
  simp
  refine for_invK (i := 0) (ys := cases9.map caseD) (fun ds s => Hold ((∀ d ∈ ds, ∃ p ∈ cases9, d = caseD p) ∧ ∃ x1 x2 x3, s = [some (.lst (cases9.map caseD)), x1, x2, x3])) ?_ ?_ ?_ _ _ ⟨fun d h => by
    have h : d ∈ cases9.map caseD := h
    obtain ⟨p, hp, rfl⟩ := List.mem_map.mp h
    exact ⟨p, hp, rfl⟩, _, _, _, rfl⟩
  · rintro ds s ⟨_, x1, x2, x3, rfl⟩
    rfl
  · rintro d ds s ⟨hd, x1, x2, x3, rfl⟩
    obtain ⟨p, hp, rfl⟩ := hd d List.mem_cons_self
    have q := cases_ok p hp
    refine ⟨_, rfl, ?_⟩
    have e1 := split_ok q.t0 q.t1 q.s0 q.s1 rfl q.l
    rw [q.e] at e1
    have e2 := right_ok q.t0 q.t1 q.s0 q.s1 rfl q.l q.w
    unfold b_w_by_hand_1
    simp [e1, e2, z_neTI']
    exact ⟨fun d h => hd d (List.mem_cons_of_mem _ h), _, _, _, rfl⟩
  · rintro s ⟨_, x1, x2, x3, rfl⟩
    unfold q_w_by_hand_3
    have z1 := fun (h : MH) (s : Sl) => z_eqTI' (ns := [1, 1, 1]) (ms := [1, 1, 1]) (h := h) (s := s)
    have z2 := fun (h : MH) (s : Sl) => z_eqTI' (ns := [3, 2, 1]) (ms := [3, 2, 1]) (h := h) (s := s)
    simp only [List.map_cons, List.map_nil] at z1 z2
    simp [rests1, rests2, z1, z2]
theorem law_ok {ns : List Int} : ∃ o, p_law [.scr ns] = .ok (.bl true) o := by
  obtain ⟨c, e1, h1⟩ := feed_ok (ns := ns)
  have h : (p_law [.scr ns]).el (fun d o => d = .bl true) (fun _ => False) False := by
    unfold p_law
    rw [e_fn]
    unfold q_law
    simp [e1]
    unfold q_law_1
    simp
    refine for_ran (fun i s => Hold (∃ c x2 x3 x4 x5, Feed (300 * i) c ∧ s = [some (.scr ns), some c, x2, x3, x4, x5])) ⟨c, _, _, _, _, by simpa using h1, rfl⟩ ?_ ?_
    · rintro i s hi ⟨c, x2, x3, x4, x5, hc, rfl⟩
      refine ⟨_, rfl, ?_⟩
      unfold b_law_1
      simp
      refine draw_ok hc (by omega) (by decide) (by decide) fun v c1 a1 b1 f1 => ?_
      simp
      refine pks9 [12, 4] v _ _ _ a1 (by simpa using b1) fun m hm => ?_
      have m12 : 1 ≤ m ∧ m ≤ 12 := by
        simp only [List.mem_cons, List.not_mem_nil, or_false] at hm
        omega
      simp
      refine weights_ok f1 (by omega) m12.1 m12.2 fun ws c2 hw hs hl f2 => ?_
      have sb : ∀ {xs : List Int}, (∀ w ∈ xs, WOk w) → xs.sum ≤ 1000000000 * xs.length := fun {xs} => by
        induction xs with
        | nil => intro _; simp
        | cons x xs ih =>
          intro h
          have h1 := (h x List.mem_cons_self).2
          have h2 := ih fun y hy => h y (List.mem_cons_of_mem _ hy)
          rw [List.sum_cons, List.length_cons]
          push_cast
          omega
      have sb1 := sb hw
      simp
      refine total_ok (by omega) hl (by omega) f2 (by omega) fun t c3 t0 f3 => ?_
      have rp := fun (h : MH) (s : Sl) => reprT (xs := ws) (fun x hx => by
        have := hw x hx
        exact big this.1 (by have := this.2; omega)) (by omega) (hh := h) (s := s)
      have r1 : ∀ t' : Int, 0 ≤ t' → t' ≤ 1000000000000 → p_w_right [.int t', .tup (ws.map .int)] = .ok (.bl true) [] := fun t' a b => right_ok a (by omega) hs (by omega) rfl (by omega) fun w h => by
        have := hw w h
        exact ⟨this.1, by have := this.2; omega⟩
      simp [rp]
      by_cases ht : 1000000000000 < t
      · simp [ht, r1 1000000000000 (by decide) (by decide), rp]
        exact ⟨c3, _, _, _, _, f3.mono (by omega), rfl⟩
      · simp [ht, r1 t t0 (by omega), rp]
        exact ⟨c3, _, _, _, _, f3.mono (by omega), rfl⟩
    · rintro s ⟨c, x2, x3, x4, x5, hc, rfl⟩
      unfold q_law_2
      simp [by_hand_ok]
  obtain ⟨d, o, e, rfl⟩ := el_ex h
  exact ⟨o, e⟩
end Lw
theorem PySem.Challenge.cw_tablebills_k09_splits_told_holds : PySem.Challenge.rw_tablebills_k09_splits_told.Holds := by
  exact Lw.ends (tells_of Lw.sf_law fun ns _ => Lw.law_ok)
end
