import PyProof.Rows.All
import Wide.All
import OpenK.AllK
import Wide.FinOn
import HandS.ForMost
import HandS.ForExc
import HandS.Defaults
import HandS.TupAny
import HandS.Wide
import HandS.Style
import HandS.IsInst
import HandS.Flow
import HandS.RaiseMore
import HandS.Zip
import HandS.HeadEnd
import KE.KStateDown
import HandS.Head0
import HandS.Head1
import HandS.Head2
import HandS.HeadHook1
import HandS.HeadHook2
import HandS.HeadHook3
import HandS.HeadHook4
import PySem.Challenge.RW_tablebills_k08_whole_deals_in_a_row
set_option Elab.async false
set_option linter.all false
set_option maxRecDepth 100000
section
set_option maxHeartbeats 4000000
namespace Tb
open PySem PySem.Spec L2
/-! ## values, the mirror heap -/
inductive D where
  | non | bl (b : Bool) | int (i : Int) | str (x : Str) | tup (xs : List D) | lst (xs : List D) | ref (n : Nat) | raw (v : V) | scr (ns : List Int)
inductive MO where
  | lst (xs : List D)
structure MH where
  get : Nat → Option MO
  next : Nat
def MH.set (h : MH) (n : Nat) (o : MO) : MH := ⟨fun m => if m = n then some o else h.get m, h.next⟩
def MH.new (h : MH) (o : MO) : MH := ⟨fun m => if m = h.next then some o else h.get m, h.next + 1⟩
def MH.drop (h : MH) (n : Nat) : MH := ⟨fun m => if m = n then none else h.get m, h.next⟩
structure Ex where
  cls : Value
  fs : List (Str × D)
inductive R (α : Type) where
  | ok (a : α) (h : MH)
  | exc (e : Ex) (h : MH)
  | bad
def R.bind {α β : Type} (r : R α) (f : α → MH → R β) : R β := match r with
  | .ok a h => f a h
  | .exc e h => .exc e h
  | .bad => .bad
/-- nothing is raised -/
def R.calm {α : Type} (r : R α) : R α := match r with
  | .ok a h => .ok a h
  | _ => .bad
/-! ## a mirror heap over the kit's -/
structure W3 where
  io : Nat → Addr
  h : MH
  H : Hp
  bar : Addr → Prop
/-- the things that may change: those that the mirror heap holds, and those that are still being made -/
def Own (w : W3) (a : Addr) : Prop := (∃ n o, w.h.get n = some o ∧ w.io n = a) ∨ w.bar a
def KTup (K : PySem.W.Frag) (a : Addr) (xs : List V) : Prop := ∃ (o : Obj) (its : Array Value) (n : Nat), K.lookup a = some o ∧ o.cls = .type "tuple" ∧ o.data = .seq its n ∧ its.size ≤ sizeLine ∧ Vals xs its.toList
def KLst (K : PySem.W.Frag) (a : Addr) (xs : List V) : Prop := ∃ (o : Obj) (its : Array Value) (n : Nat), K.lookup a = some o ∧ o.cls = .type "list" ∧ o.dict = none ∧ o.data = .seq its n ∧ its.size ≤ sizeLine ∧ Vals xs its.toList
def TupAt (K : PySem.W.Frag) (w : W3) (a : Addr) (xs : List V) : Prop := (Rd w.H a (.tup xs) ∧ ¬ Own w a) ∨ KTup K a xs
def LstAt (w : W3) (a : Addr) (xs : List V) : Prop := w.H a = some (.lst xs) ∧ ¬ Own w a
/-- the script -/
def ScrAt (K : PySem.W.Frag) (w : W3) (a : Addr) (ns : List Int) : Prop := (Rd w.H a (.lst (ns.map V.int)) ∧ ¬ Own w a) ∨ KLst K a (ns.map V.int)
theorem TupAt.sq {K : PySem.W.Frag} {w : W3} {a : Addr} {xs : List V} (h : TupAt K w a xs) : SqT K w.H a xs := h.imp (·.1) id
theorem LstAt.sq {K : PySem.W.Frag} {w : W3} {a : Addr} {xs : List V} (h : LstAt w a xs) : SqL K w.H a xs := SqL.of h.1
theorem ScrAt.sq {K : PySem.W.Frag} {w : W3} {a : Addr} {ns : List Int} (h : ScrAt K w a ns) : SqL K w.H a (ns.map V.int) := h.imp (·.1) id
mutual
def Rep (K : PySem.W.Frag) (w : W3) : D → V → Prop
  | .non, v => v = .non
  | .bl b, v => v = .bl b
  | .int i, v => v = .int i
  | .str x, v => v = .str x
  | .raw u, v => v = u
  | .ref n, v => n < w.h.next ∧ v = .ref (w.io n)
  | .tup xs, v => ∃ a vs, v = .ref a ∧ TupAt K w a vs ∧ Reps K w xs vs
  | .lst xs, v => ∃ a vs, v = .ref a ∧ LstAt w a vs ∧ Reps K w xs vs
  | .scr ns, v => ∃ a, v = .ref a ∧ ScrAt K w a ns
def Reps (K : PySem.W.Frag) (w : W3) : List D → List V → Prop
  | [], vs => vs = []
  | x :: xs, vs => ∃ u us, vs = u :: us ∧ Rep K w x u ∧ Reps K w xs us
end
def ObjR (K : PySem.W.Frag) (w : W3) (a : Addr) : MO → Prop
  | .lst xs => ∃ vs, w.H a = some (.lst vs) ∧ Reps K w xs vs
structure Ok (K : PySem.W.Frag) (w : W3) : Prop where
  dom : ∀ n o, w.h.get n = some o → n < w.h.next ∧ ObjR K w (w.io n) o
  inj : ∀ n m o u, w.h.get n = some o → w.h.get m = some u → w.io n = w.io m → n = m
  barH : ∀ a, w.bar a → ∃ u, w.H a = some u
  barO : ∀ n o, w.h.get n = some o → ¬ w.bar (w.io n)
/-- what a value's meaning leans on -/
structure Ext0 (w w' : W3) : Prop where
  io0 : ∀ n, n < w.h.next → w'.io n = w.io n
  nx0 : w.h.next ≤ w'.h.next
  un0 : ∀ a u, w.H a = some u → ¬ Own w a → w'.H a = some u ∧ ¬ Own w' a
structure Ext (w w' : W3) : Prop where
  io : ∀ n, n < w.h.next → w'.io n = w.io n
  nx : w.h.next ≤ w'.h.next
  un : ∀ a u, w.H a = some u → ¬ Own w a → w'.H a = some u ∧ ¬ Own w' a
  ba : ∀ a, w.bar a → w'.bar a ∧ w'.H a = w.H a
theorem Ext.refl (w : W3) : Ext w w := ⟨fun _ _ => rfl, Nat.le_refl _, fun _ _ h n => ⟨h, n⟩, fun _ h => ⟨h, rfl⟩⟩
theorem Ext.trans {w w1 w2 : W3} (a : Ext w w1) (b : Ext w1 w2) : Ext w w2 :=
  ⟨fun n h => (b.io n (Nat.lt_of_lt_of_le h a.nx)).trans (a.io n h), Nat.le_trans a.nx b.nx, fun c u h n => let ⟨h1, n1⟩ := a.un c u h n; b.un c u h1 n1,
    fun c h => let ⟨h1, e1⟩ := a.ba c h; let ⟨h2, e2⟩ := b.ba c h1; ⟨h2, e2.trans e1⟩⟩
section
variable {K : PySem.W.Frag} {w w' : W3}
theorem Ext.to0 (e : Ext w w') : Ext0 w w' := ⟨e.io, e.nx, e.un⟩
theorem Ext0.rd {a : Addr} {u : HO} (e : Ext0 w w') (h : Rd w.H a u) (n : ¬ Own w a) : Rd w'.H a u ∧ ¬ Own w' a := by
  rcases h with h | ⟨o, h⟩
  · exact ⟨.inl (e.un0 a _ h n).1, (e.un0 a _ h n).2⟩
  · exact ⟨.inr ⟨o, (e.un0 a _ h n).1⟩, (e.un0 a _ h n).2⟩
theorem TupAt.ext0 {a : Addr} {xs : List V} (e : Ext0 w w') (h : TupAt K w a xs) : TupAt K w' a xs := h.imp (fun q => e.rd q.1 q.2) id
theorem LstAt.ext0 {a : Addr} {xs : List V} (e : Ext0 w w') (h : LstAt w a xs) : LstAt w' a xs := e.un0 a _ h.1 h.2
theorem ScrAt.ext0 {a : Addr} {ns : List Int} (e : Ext0 w w') (h : ScrAt K w a ns) : ScrAt K w' a ns := h.imp (fun q => e.rd q.1 q.2) id
mutual
theorem Rep.ext0 (e : Ext0 w w') : ∀ {d : D} {v : V}, Rep K w d v → Rep K w' d v
  | .non, _, h => by simpa only [Rep] using h
  | .bl _, _, h => by simpa only [Rep] using h
  | .int _, _, h => by simpa only [Rep] using h
  | .str _, _, h => by simpa only [Rep] using h
  | .raw _, _, h => by simpa only [Rep] using h
  | .ref n, _, h => by
    simp only [Rep] at h ⊢
    exact ⟨Nat.lt_of_lt_of_le h.1 e.nx0, by rw [e.io0 n h.1]; exact h.2⟩
  | .tup xs, _, h => by
    simp only [Rep] at h ⊢
    obtain ⟨a, vs, h1, h2, h3⟩ := h
    exact ⟨a, vs, h1, h2.ext0 e, Reps.ext0 e h3⟩
  | .lst xs, _, h => by
    simp only [Rep] at h ⊢
    obtain ⟨a, vs, h1, h2, h3⟩ := h
    exact ⟨a, vs, h1, h2.ext0 e, Reps.ext0 e h3⟩
  | .scr ns, _, h => by
    simp only [Rep] at h ⊢
    obtain ⟨a, h1, h2⟩ := h
    exact ⟨a, h1, h2.ext0 e⟩
theorem Reps.ext0 (e : Ext0 w w') : ∀ {ds : List D} {vs : List V}, Reps K w ds vs → Reps K w' ds vs
  | [], _, h => by simpa only [Reps] using h
  | d :: ds, _, h => by
    simp only [Reps] at h ⊢
    obtain ⟨u, us, h1, h2, h3⟩ := h
    exact ⟨u, us, h1, Rep.ext0 e h2, Reps.ext0 e h3⟩
end
theorem Rep.ext (e : Ext w w') {d : D} {v : V} (h : Rep K w d v) : Rep K w' d v := Rep.ext0 e.to0 h
theorem Reps.ext (e : Ext w w') {ds : List D} {vs : List V} (h : Reps K w ds vs) : Reps K w' ds vs := Reps.ext0 e.to0 h
theorem TupAt.ext {a : Addr} {xs : List V} (e : Ext w w') (h : TupAt K w a xs) : TupAt K w' a xs := TupAt.ext0 e.to0 h
theorem LstAt.ext {a : Addr} {xs : List V} (e : Ext w w') (h : LstAt w a xs) : LstAt w' a xs := LstAt.ext0 e.to0 h
theorem ScrAt.ext {a : Addr} {ns : List Int} (e : Ext w w') (h : ScrAt K w a ns) : ScrAt K w' a ns := ScrAt.ext0 e.to0 h
theorem Reps.nil : Reps K w [] [] := by simp only [Reps]
theorem Reps.cons {d : D} {v : V} {ds : List D} {vs : List V} (h : Rep K w d v) (t : Reps K w ds vs) : Reps K w (d :: ds) (v :: vs) := by
  simp only [Reps]
  exact ⟨v, vs, rfl, h, t⟩
theorem Reps.uncons {d : D} {ds : List D} {vs : List V} (h : Reps K w (d :: ds) vs) : ∃ u us, vs = u :: us ∧ Rep K w d u ∧ Reps K w ds us := by
  simpa only [Reps] using h
theorem Reps.unnil {vs : List V} (h : Reps K w [] vs) : vs = [] := by simpa only [Reps] using h
theorem Reps.length : ∀ {ds : List D} {vs : List V}, Reps K w ds vs → ds.length = vs.length
  | [], _, h => by rw [h.unnil]; rfl
  | d :: ds, _, h => by
    obtain ⟨u, us, rfl, _, h3⟩ := h.uncons
    simp [Reps.length h3]
theorem Reps.get : ∀ {ds : List D} {vs : List V} {i : Nat} {d : D}, Reps K w ds vs → ds[i]? = some d → ∃ v, vs[i]? = some v ∧ Rep K w d v
  | [], _, _, _, _, e => by simp at e
  | _ :: _, _, 0, _, h, e => by
    obtain ⟨u, us, rfl, h2, _⟩ := h.uncons
    simp at e; subst e
    exact ⟨u, rfl, h2⟩
  | _ :: _, _, i + 1, _, h, e => by
    obtain ⟨u, us, rfl, _, h3⟩ := h.uncons
    simpa using Reps.get (i := i) h3 (by simpa using e)
theorem Reps.append : ∀ {ds es : List D} {vs us : List V}, Reps K w ds vs → Reps K w es us → Reps K w (ds ++ es) (vs ++ us)
  | [], _, _, _, h, h' => by rw [h.unnil]; exact h'
  | d :: ds, _, _, _, h, h' => by
    obtain ⟨u, us, rfl, h2, h3⟩ := h.uncons
    exact Reps.cons h2 (Reps.append h3 h')
theorem Reps.take : ∀ {ds : List D} {vs : List V} (n : Nat), Reps K w ds vs → Reps K w (ds.take n) (vs.take n)
  | _, _, 0, _ => Reps.nil
  | [], _, _ + 1, h => by rw [h.unnil]; exact Reps.nil
  | d :: ds, _, n + 1, h => by
    obtain ⟨u, us, rfl, h2, h3⟩ := h.uncons
    exact Reps.cons h2 (Reps.take n h3)
theorem Reps.drop : ∀ {ds : List D} {vs : List V} (n : Nat), Reps K w ds vs → Reps K w (ds.drop n) (vs.drop n)
  | _, _, 0, h => h
  | [], _, _ + 1, h => by rw [h.unnil]; exact Reps.nil
  | d :: ds, _, n + 1, h => by
    obtain ⟨u, us, rfl, h2, h3⟩ := h.uncons
    exact Reps.drop n h3
theorem Reps.set {d : D} {v : V} (hd : Rep K w d v) : ∀ {ds : List D} {vs : List V} (i : Nat), Reps K w ds vs → Reps K w (ds.set i d) (vs.set i v)
  | [], _, _, h => by rw [h.unnil]; exact Reps.nil
  | _ :: ds, _, 0, h => by
    obtain ⟨u, us, rfl, h2, h3⟩ := h.uncons
    exact Reps.cons hd h3
  | _ :: ds, _, i + 1, h => by
    obtain ⟨u, us, rfl, h2, h3⟩ := h.uncons
    exact Reps.cons h2 (Reps.set hd i h3)
theorem Reps.one {d : D} {vs : List V} (h : Reps K w [d] vs) : ∃ v, vs = [v] ∧ Rep K w d v := by
  obtain ⟨u, us, rfl, h2, h3⟩ := h.uncons
  rw [h3.unnil]; exact ⟨u, rfl, h2⟩
theorem Reps.two {d e : D} {vs : List V} (h : Reps K w [d, e] vs) : ∃ u v, vs = [u, v] ∧ Rep K w d u ∧ Rep K w e v := by
  obtain ⟨u, us, rfl, h2, h3⟩ := h.uncons
  obtain ⟨v, rfl, h4⟩ := h3.one
  exact ⟨u, v, rfl, h2, h4⟩
theorem ObjR.ext0 (e : Ext0 w w') {a : Addr} (hH : w'.H a = w.H a) : ∀ {o : MO}, ObjR K w a o → ObjR K w' a o
  | .lst xs, ⟨vs, h1, h2⟩ => ⟨vs, by rw [hH]; exact h1, h2.ext0 e⟩
theorem ObjR.ext (e : Ext w w') {a : Addr} (hH : w'.H a = w.H a) {o : MO} (h : ObjR K w a o) : ObjR K w' a o := ObjR.ext0 e.to0 hH h
theorem ObjR.some {a : Addr} : ∀ {o : MO}, ObjR K w a o → ∃ u, w.H a = some u
  | .lst xs, ⟨vs, h1, _⟩ => ⟨_, h1⟩
theorem Ok.own_some (k : Ok K w) {a : Addr} (h : Own w a) : ∃ u, w.H a = some u := by
  rcases h with ⟨n, o, h1, rfl⟩ | h
  · exact (k.dom n o h1).2.some
  · exact k.barH a h
theorem Ok.free (k : Ok K w) {p : Addr} (h : w.H p = none) : ¬ Own w p := fun q => by
  obtain ⟨u, e⟩ := k.own_some q
  rw [h] at e; cases e
/-! ### the four steps of a heap -/
/-- a new thing that the mirror heap doesn't hold -/
def W3.lay (w : W3) (p : Addr) (u : HO) : W3 := ⟨w.io, w.h, upd w.H p u, w.bar⟩
theorem Ok.notBar {p : Addr} (k : Ok K w) (hp : w.H p = none) : ∀ a, w.bar a → a ≠ p := fun a h e => by
  obtain ⟨u, q⟩ := k.barH a h
  rw [e, hp] at q; cases q
theorem Ext.lay {p : Addr} {u : HO} (k : Ok K w) (hp : w.H p = none) : Ext w (w.lay p u) :=
  ⟨fun _ _ => rfl, Nat.le_refl _, fun a o h n => ⟨(upd_ne (ne_of_none h hp)).trans h, n⟩, fun a h => ⟨h, upd_ne (k.notBar hp a h)⟩⟩
theorem Ok.lay {p : Addr} {u : HO} (k : Ok K w) (hp : w.H p = none) : Ok K (w.lay p u) := by
  refine ⟨fun n o h => ?_, fun n m o v h h' e => k.inj n m o v h h' e, fun a h => ?_, k.barO⟩
  · obtain ⟨h1, h2⟩ := k.dom n o h
    obtain ⟨v, hv⟩ := h2.some
    exact ⟨h1, h2.ext (Ext.lay k hp) (upd_ne (ne_of_none hv hp))⟩
  · obtain ⟨v, hv⟩ := k.barH a h
    exact ⟨v, (upd_ne (k.notBar hp a h)).trans hv⟩
theorem Rep.layTup {p : Addr} {xs : List V} {ds : List D} (k : Ok K w) (hp : w.H p = none) (r : Reps K w ds xs) : Rep K (w.lay p (.tup xs)) (.tup ds) (.ref p) := by
  simp only [Rep]
  exact ⟨p, xs, rfl, .inl ⟨.inl upd_same, fun q => k.free hp q⟩, r.ext (Ext.lay k hp)⟩
theorem Rep.layLst {p : Addr} {xs : List V} {ds : List D} (k : Ok K w) (hp : w.H p = none) (r : Reps K w ds xs) : Rep K (w.lay p (.lst xs)) (.lst ds) (.ref p) := by
  simp only [Rep]
  exact ⟨p, xs, rfl, ⟨upd_same, fun q => k.free hp q⟩, r.ext (Ext.lay k hp)⟩
/-- a new thing that the mirror heap holds -/
def W3.hold (w : W3) (p : Addr) (u : HO) (o : MO) : W3 := ⟨fun n => if n = w.h.next then p else w.io n, w.h.new o, upd w.H p u, w.bar⟩
theorem Ext.hold {p : Addr} {u : HO} {o : MO} (k : Ok K w) (hp : w.H p = none) : Ext w (w.hold p u o) := by
  refine ⟨fun n h => if_neg (Nat.ne_of_lt h), Nat.le_succ _, fun a v h n => ⟨(upd_ne (ne_of_none h hp)).trans h, fun q => ?_⟩, fun a h => ⟨h, upd_ne (k.notBar hp a h)⟩⟩
  rcases q with ⟨m, o', h1, h2⟩ | q
  · unfold W3.hold MH.new at h1 h2
    simp only at h1 h2
    by_cases hm : m = w.h.next
    · rw [if_pos hm] at h2
      rw [h2] at hp; rw [hp] at h; cases h
    · rw [if_neg hm] at h1 h2
      exact n (.inl ⟨m, o', h1, h2⟩)
  · exact n (.inr q)
theorem Ok.hold {p : Addr} {u : HO} {o : MO} (k : Ok K w) (hp : w.H p = none) (ho : ObjR K (w.hold p u o) p o) : Ok K (w.hold p u o) := by
  refine ⟨fun n o' h => ?_, fun n m o1 o2 h1 h2 e => ?_, fun a h => ?_, fun n o' h => ?_⟩
  · unfold W3.hold MH.new at h ⊢
    simp only at h ⊢
    by_cases hn : n = w.h.next
    · subst hn
      rw [if_pos rfl] at h; cases h
      exact ⟨Nat.lt_succ_self _, by rw [if_pos rfl]; exact ho⟩
    · rw [if_neg hn] at h
      obtain ⟨q1, q2⟩ := k.dom n o' h
      obtain ⟨v, hv⟩ := q2.some
      exact ⟨Nat.lt_succ_of_lt q1, by rw [if_neg hn]; exact q2.ext (Ext.hold k hp) (upd_ne (ne_of_none hv hp))⟩
  · unfold W3.hold MH.new at h1 h2 e
    simp only at h1 h2 e
    by_cases hn : n = w.h.next
    · by_cases hm : m = w.h.next
      · rw [hn, hm]
      · rw [if_pos hn, if_neg hm] at e
        rw [if_neg hm] at h2
        obtain ⟨v, hv⟩ := (k.dom m o2 h2).2.some
        rw [← e, hp] at hv; cases hv
    · by_cases hm : m = w.h.next
      · rw [if_neg hn, if_pos hm] at e
        rw [if_neg hn] at h1
        obtain ⟨v, hv⟩ := (k.dom n o1 h1).2.some
        rw [e, hp] at hv; cases hv
      · rw [if_neg hn, if_neg hm] at e
        rw [if_neg hn] at h1
        rw [if_neg hm] at h2
        exact k.inj n m o1 o2 h1 h2 e
  · obtain ⟨v, hv⟩ := k.barH a h
    exact ⟨v, (upd_ne (k.notBar hp a h)).trans hv⟩
  · unfold W3.hold MH.new at h ⊢
    simp only at h ⊢
    by_cases hn : n = w.h.next
    · rw [if_pos hn]
      exact fun q => k.notBar hp p q rfl
    · rw [if_neg hn] at h ⊢
      exact k.barO n o' h
theorem Rep.hold {p : Addr} {u : HO} {o : MO} : Rep K (w.hold p u o) (.ref w.h.next) (.ref p) := by
  simp only [Rep]
  exact ⟨Nat.lt_succ_self _, by unfold W3.hold; simp only [if_true]⟩
/-- the thing at n is written -/
def W3.put (w : W3) (n : Nat) (u : HO) (o : MO) : W3 := ⟨w.io, w.h.set n o, upd w.H (w.io n) u, w.bar⟩
theorem Ok.barNe {n : Nat} {o : MO} (k : Ok K w) (h : w.h.get n = some o) : ∀ a, w.bar a → a ≠ w.io n := fun a q e => k.barO n o h (e ▸ q)
theorem Ext.put {n : Nat} {u : HO} {o o' : MO} (k : Ok K w) (h : w.h.get n = some o') : Ext w (w.put n u o) := by
  refine ⟨fun _ _ => rfl, Nat.le_refl _, fun a v ha na => ?_, fun a q => ⟨q, upd_ne (k.barNe h a q)⟩⟩
  have hne : a ≠ w.io n := fun e => na (.inl ⟨n, o', h, e.symm⟩)
  refine ⟨(upd_ne hne).trans ha, fun q => ?_⟩
  rcases q with ⟨m, o1, h1, h2⟩ | q
  · unfold W3.put MH.set at h1 h2
    simp only at h1 h2
    by_cases hm : m = n
    · subst hm; exact hne h2.symm
    · rw [if_neg hm] at h1; exact na (.inl ⟨m, o1, h1, h2⟩)
  · exact na (.inr q)
theorem put_old {n : Nat} {u : HO} {o o' : MO} (h : w.h.get n = some o') : ∀ x y, (w.put n u o).h.get x = some y → ∃ z, w.h.get x = some z := fun x y hx => by
  unfold W3.put MH.set at hx
  simp only at hx
  by_cases hm : x = n
  · subst hm; exact ⟨o', h⟩
  · rw [if_neg hm] at hx; exact ⟨y, hx⟩
theorem Ok.put {n : Nat} {u : HO} {o o' : MO} (k : Ok K w) (h : w.h.get n = some o') (ho : ObjR K (w.put n u o) (w.io n) o) : Ok K (w.put n u o) := by
  refine ⟨fun m o1 h1 => ?_, fun m l o1 o2 h1 h2 e => ?_, fun a q => ?_, fun m o1 h1 => ?_⟩
  · unfold W3.put MH.set at h1
    simp only at h1
    by_cases hm : m = n
    · subst hm
      rw [if_pos rfl] at h1; cases h1
      exact ⟨(k.dom m o' h).1, ho⟩
    · rw [if_neg hm] at h1
      obtain ⟨q1, q2⟩ := k.dom m o1 h1
      exact ⟨q1, q2.ext (Ext.put k h) (upd_ne fun e => hm (k.inj m n o1 o' h1 h e))⟩
  · obtain ⟨z1, e1⟩ := put_old h m o1 h1
    obtain ⟨z2, e2⟩ := put_old h l o2 h2
    exact k.inj m l z1 z2 e1 e2 e
  · obtain ⟨v, hv⟩ := k.barH a q
    exact ⟨v, (upd_ne (k.barNe h a q)).trans hv⟩
  · obtain ⟨z1, e1⟩ := put_old h m o1 h1
    exact k.barO m z1 e1
/-- some things are forgotten -/
def W3.less (w : W3) (g : Nat → Option MO) : W3 := ⟨w.io, ⟨g, w.h.next⟩, w.H, w.bar⟩
theorem Ext.less {g : Nat → Option MO} (hg : ∀ n o, g n = some o → w.h.get n = some o) : Ext w (w.less g) := by
  refine ⟨fun _ _ => rfl, Nat.le_refl _, fun a u h n => ⟨h, fun q => ?_⟩, fun a q => ⟨q, rfl⟩⟩
  rcases q with ⟨m, o, h1, h2⟩ | q
  · exact n (.inl ⟨m, o, hg m o h1, h2⟩)
  · exact n (.inr q)
theorem Ok.less {g : Nat → Option MO} (k : Ok K w) (hg : ∀ n o, g n = some o → w.h.get n = some o) : Ok K (w.less g) :=
  ⟨fun n o h => let ⟨q1, q2⟩ := k.dom n o (hg n o h); ⟨q1, q2.ext (Ext.less hg) rfl⟩, fun n m o u h1 h2 e => k.inj n m o u (hg n o h1) (hg m u h2) e, k.barH, fun n o h => k.barO n o (hg n o h)⟩
/-! ### a thing that is being made -/
def W3.bare (w : W3) (p : Addr) (u : HO) : W3 := ⟨w.io, w.h, upd w.H p u, fun a => w.bar a ∨ a = p⟩
theorem Ext.bare {p : Addr} {u : HO} (k : Ok K w) (hp : w.H p = none) : Ext w (w.bare p u) := by
  refine ⟨fun _ _ => rfl, Nat.le_refl _, fun a o h n => ⟨(upd_ne (ne_of_none h hp)).trans h, fun q => ?_⟩, fun a h => ⟨.inl h, upd_ne (k.notBar hp a h)⟩⟩
  rcases q with q | q | q
  · exact n (.inl q)
  · exact n (.inr q)
  · exact ne_of_none h hp q
theorem Ok.bare {p : Addr} {u : HO} (k : Ok K w) (hp : w.H p = none) : Ok K (w.bare p u) := by
  refine ⟨fun n o h => ?_, fun n m o v h h' e => k.inj n m o v h h' e, fun a q => ?_, fun n o h q => ?_⟩
  · obtain ⟨h1, h2⟩ := k.dom n o h
    obtain ⟨v, hv⟩ := h2.some
    exact ⟨h1, h2.ext (Ext.bare k hp) (upd_ne (ne_of_none hv hp))⟩
  · rcases q with q | q
    · obtain ⟨v, hv⟩ := k.barH a q
      exact ⟨v, (upd_ne (k.notBar hp a q)).trans hv⟩
    · exact ⟨u, by rw [q]; exact upd_same⟩
  · rcases q with q | q
    · exact k.barO n o h q
    · obtain ⟨v, hv⟩ := (k.dom n o h).2.some
      exact ne_of_none hv hp q
/-- it is written -/
def W3.barPut (w : W3) (p : Addr) (u : HO) : W3 := ⟨w.io, w.h, upd w.H p u, w.bar⟩
theorem Ext0.barPut {p : Addr} {u : HO} (hb : w.bar p) : Ext0 w (w.barPut p u) :=
  ⟨fun _ _ => rfl, Nat.le_refl _, fun a o h n => ⟨(upd_ne (show a ≠ p from fun e => n (.inr (by rw [e]; exact hb)))).trans h, n⟩⟩
theorem Ok.barPut {p : Addr} {u : HO} (k : Ok K w) (hb : w.bar p) : Ok K (w.barPut p u) := by
  refine ⟨fun n o h => ?_, fun n m o v h h' e => k.inj n m o v h h' e, fun a q => ?_, k.barO⟩
  · obtain ⟨h1, h2⟩ := k.dom n o h
    exact ⟨h1, h2.ext0 (Ext0.barPut hb) (upd_ne (show w.io n ≠ p from fun e => k.barO n o h (by rw [e]; exact hb)))⟩
  · by_cases e : a = p
    · exact ⟨u, by rw [e]; exact upd_same⟩
    · obtain ⟨v, hv⟩ := k.barH a q
      exact ⟨v, (upd_ne e).trans hv⟩
/-- .. seen from a heap that doesn't know it -/
theorem Ext.barPut {w0 : W3} {p : Addr} {u : HO} (x : Ext w0 w) (k0 : Ok K w0) (hp : w0.H p = none) : Ext w0 (w.barPut p u) :=
  ⟨x.io, x.nx, fun a o h n => let ⟨h1, n1⟩ := x.un a o h n; ⟨(upd_ne (ne_of_none h hp)).trans h1, n1⟩, fun a h => let ⟨h1, e1⟩ := x.ba a h; ⟨h1, (upd_ne (k0.notBar hp a h)).trans e1⟩⟩
/-- it is made -/
def W3.free (w : W3) (p : Addr) : W3 := ⟨w.io, w.h, w.H, fun a => w.bar a ∧ a ≠ p⟩
theorem own_free {p a : Addr} (h : Own (w.free p) a) : Own w a := h.imp id (·.1)
theorem Ext0.free {p : Addr} : Ext0 w (w.free p) := ⟨fun _ _ => rfl, Nat.le_refl _, fun a u h n => ⟨h, fun q => n (own_free q)⟩⟩
theorem Ok.freeB {p : Addr} (k : Ok K w) : Ok K (w.free p) :=
  ⟨fun n o h => let ⟨h1, h2⟩ := k.dom n o h; ⟨h1, h2.ext0 Ext0.free rfl⟩, fun n m o v h h' e => k.inj n m o v h h' e, fun a q => k.barH a q.1, fun n o h q => k.barO n o h q.1⟩
theorem Ext.free {w0 : W3} {p : Addr} (x : Ext w0 w) (k0 : Ok K w0) (hp : w0.H p = none) : Ext w0 (w.free p) :=
  ⟨x.io, x.nx, fun a o h n => let ⟨h1, n1⟩ := x.un a o h n; ⟨h1, fun q => n1 (own_free q)⟩, fun a h => let ⟨h1, e1⟩ := x.ba a h; ⟨⟨h1, k0.notBar hp a h⟩, e1⟩⟩
/-- it is made, and the mirror heap holds it -/
def W3.adopt (w : W3) (p : Addr) (o : MO) : W3 := ⟨fun n => if n = w.h.next then p else w.io n, w.h.new o, w.H, w.bar⟩
theorem Ext.adopt {w0 : W3} {p : Addr} {o : MO} (x : Ext w0 w) (k : Ok K w) (hp : w0.H p = none) : Ext w0 (w.adopt p o) := by
  refine ⟨fun n h => ?_, Nat.le_trans x.nx (Nat.le_succ _), fun a u h n => ?_, x.ba⟩
  · exact (if_neg (Nat.ne_of_lt (Nat.lt_of_lt_of_le h x.nx))).trans (x.io n h)
  · obtain ⟨h1, n1⟩ := x.un a u h n
    refine ⟨h1, fun q => ?_⟩
    rcases q with ⟨m, o', q1, q2⟩ | q
    · unfold W3.adopt MH.new at q1 q2
      simp only at q1 q2
      by_cases hm : m = w.h.next
      · rw [if_pos hm] at q2
        exact ne_of_none h hp q2.symm
      · rw [if_neg hm] at q1 q2
        exact n1 (.inl ⟨m, o', q1, q2⟩)
    · exact n1 (.inr q)
theorem Ok.adopt {p : Addr} {xs : List D} {vs : List V} (k : Ok K w) (np : ¬ Own w p) (hp : w.H p = some (.lst vs)) (r : Reps K (w.adopt p (.lst xs)) xs vs) (old : ∀ n o, w.h.get n = some o → ObjR K (w.adopt p (.lst xs)) (w.io n) o) : Ok K (w.adopt p (.lst xs)) := by
  refine ⟨fun n o h => ?_, fun n m o1 o2 h1 h2 e => ?_, k.barH, fun n o h => ?_⟩
  · unfold W3.adopt MH.new at h
    simp only at h
    by_cases hn : n = w.h.next
    · subst hn
      rw [if_pos rfl] at h; cases h
      refine ⟨Nat.lt_succ_self _, ?_⟩
      show ObjR K _ (if w.h.next = w.h.next then p else _) _
      rw [if_pos rfl]
      exact ⟨vs, hp, r⟩
    · rw [if_neg hn] at h
      refine ⟨Nat.lt_succ_of_lt (k.dom n o h).1, ?_⟩
      show ObjR K _ (if n = w.h.next then p else w.io n) _
      rw [if_neg hn]
      exact old n o h
  · unfold W3.adopt MH.new at h1 h2 e
    simp only at h1 h2 e
    by_cases hn : n = w.h.next
    · by_cases hm : m = w.h.next
      · rw [hn, hm]
      · rw [if_pos hn, if_neg hm] at e
        rw [if_neg hm] at h2
        exact (np (.inl ⟨m, o2, h2, e.symm⟩)).elim
    · by_cases hm : m = w.h.next
      · rw [if_neg hn, if_pos hm] at e
        rw [if_neg hn] at h1
        exact (np (.inl ⟨n, o1, h1, e⟩)).elim
      · rw [if_neg hn, if_neg hm] at e
        rw [if_neg hn] at h1
        rw [if_neg hm] at h2
        exact k.inj n m o1 o2 h1 h2 e
  · show ¬ w.bar (if n = w.h.next then p else w.io n)
    by_cases hn : n = w.h.next
    · rw [if_pos hn]
      exact fun q => np (.inr q)
    · rw [if_neg hn]
      unfold W3.adopt MH.new at h
      simp only at h
      rw [if_neg hn] at h
      exact k.barO n o h
theorem Ext0.adopt {p : Addr} {o : MO} (hb : w.bar p) : Ext0 w ((w.free p).adopt p o) := by
  refine ⟨fun n h => if_neg (Nat.ne_of_lt h), Nat.le_succ _, fun a u h n => ⟨h, fun q => ?_⟩⟩
  rcases q with ⟨m, o', q1, q2⟩ | q
  · unfold W3.adopt W3.free MH.new at q1 q2
    simp only at q1 q2
    by_cases hm : m = w.h.next
    · rw [if_pos hm] at q2
      exact n (.inr (by rw [← q2]; exact hb))
    · rw [if_neg hm] at q1 q2
      exact n (.inl ⟨m, o', q1, q2⟩)
  · exact n (.inr q.1)
end
end Tb
end

section
set_option maxHeartbeats 4000000
namespace Tb
open PySem PySem.Spec L2
/-! ## what is wanted of a result -/
abbrev Sl := List (Option D)
def ExR (K : PySem.W.Frag) (w : W3) (x : Ex) (cls : Value) (d : Option Addr) : Prop :=
  cls = x.cls ∧ match x.fs with
    | [] => True
    | _ => ∃ (a : Addr) (vs : List V), d = some a ∧ w.H a = some (.xd ((x.fs.map (·.1)).zip vs)) ∧ ¬ Own w a ∧ Reps K w (x.fs.map (·.2)) vs
/-- the relation of a result's value -/
abbrev Rl (α β : Type) := W3 → α → β → Prop
def PostW {α β : Type} (K : PySem.W.Frag) (E : XK) (Rel : Rl α β) (w : W3) (r : R α) (Q : α → W3 → β → Prop) : Prop := match r with
  | .ok a h => ∀ w' v, w'.h = h → Ext w w' → Ok K w' → Rel w' a v → Q a w' v
  | .exc x h => ∀ w' cls d, w'.h = h → Ext w w' → Ok K w' → ExR K w' x cls d → E cls d w'.H
  | .bad => False
abbrev RepL (K : PySem.W.Frag) : Rl (List D) (List V) := fun w ds vs => Reps K w ds vs
abbrev RepD (K : PySem.W.Frag) : Rl D V := fun w d v => Rep K w d v
abbrev EqB : Rl Bool Bool := fun _ a b => a = b
section
variable {α β γ δ : Type} {K : PySem.W.Frag} {E : XK} {Rel : Rl α β} {Rel' : Rl γ δ} {w w1 : W3}
theorem PostW.imp {r : R α} {Q Q' : α → W3 → β → Prop} (h : PostW K E Rel w r Q) (hQ : ∀ a w' v, Ext w w' → Ok K w' → Rel w' a v → Q a w' v → Q' a w' v) : PostW K E Rel w r Q' := by
  cases r with
  | ok a h' => exact fun w' v e x o p => hQ a w' v x o p (h w' v e x o p)
  | exc x h' => exact h
  | bad => exact h
theorem PostW.from {r : R α} {Q : α → W3 → β → Prop} (h : PostW K E Rel w r Q) (e : Ext w w1) : PostW K E Rel w1 r Q := by
  cases r with
  | ok a h' => exact fun w' v e' x o p => h w' v e' (e.trans x) o p
  | exc x h' => exact fun w' cls d e' q o p => h w' cls d e' (e.trans q) o p
  | bad => exact h
theorem PostW.bind {r : R α} {f : α → MH → R γ} {Q : γ → W3 → δ → Prop} (h : PostW K E Rel' w (r.bind f) Q) : PostW K E Rel w r (fun a w1 _ => PostW K E Rel' w1 (f a w1.h) Q) := by
  cases r with
  | ok a h' =>
    intro w' v e x o p
    subst e
    exact PostW.from h x
  | exc x h' => exact h
  | bad => exact h
theorem PostW.here {a : α} {Q : α → W3 → β → Prop} {v : β} (h : PostW K E Rel w (.ok a w.h) Q) (k : Ok K w) (r : Rel w a v) : Q a w v := h w v rfl (Ext.refl w) k r
/-- no exception: another wish does -/
theorem PostW.calm {E' : XK} {r : R α} {Q : α → W3 → β → Prop} (h : PostW K E Rel w r.calm Q) : PostW K E' Rel w r Q := by
  cases r with
  | ok a h' => exact h
  | exc x h' => exact h.elim
  | bad => exact h
end
def SRep (K : PySem.W.Frag) (w : W3) (s : Sl) (σ : L2.St) : Prop := s.length = σ.length ∧ ∀ (i : Nat) (d : D), s[i]? = some (some d) → ∃ v, σ[i]? = some (some v) ∧ Rep K w d v
section
variable {K : PySem.W.Frag} {E : XK} {w w1 : W3} {s : Sl} {σ : L2.St}
theorem SRep.ext (h : SRep K w s σ) (e : Ext w w1) : SRep K w1 s σ := ⟨h.1, fun i d q => let ⟨v, h1, h2⟩ := h.2 i d q; ⟨v, h1, h2.ext e⟩⟩
theorem SRep.set (h : SRep K w s σ) {d : D} {v : V} (i : Nat) (r : Rep K w d v) : SRep K w (s.set i (some d)) (σ.set i (some v)) := by
  refine ⟨by simp [h.1], fun j e q => ?_⟩
  by_cases hj : i = j
  · subst hj
    by_cases hl : i < s.length
    · rw [List.getElem?_set_self hl] at q
      cases q
      exact ⟨v, List.getElem?_set_self (by rw [← h.1]; exact hl), r⟩
    · rw [List.getElem?_eq_none (by simpa using hl)] at q; cases q
  · rw [List.getElem?_set_ne hj] at q ⊢
    exact h.2 j e q
theorem SRep.unset (h : SRep K w s σ) (i : Nat) : SRep K w (s.set i none) (σ.set i none) := by
  refine ⟨by simp [h.1], fun j e q => ?_⟩
  by_cases hj : i = j
  · subst hj
    by_cases hl : i < s.length
    · rw [List.getElem?_set_self hl] at q; cases q
    · rw [List.getElem?_eq_none (by simpa using hl)] at q; cases q
  · rw [List.getElem?_set_ne hj] at q ⊢
    exact h.2 j e q
end
abbrev ME := Sl → MH → R D
abbrev MT := Sl → MH → R Bool
abbrev MA := Sl → MH → R (List D)
def tM (K : PySem.W.Frag) (E : XK) (m : ME) : TE := fun σ H Q => ∃ w s, w.H = H ∧ Ok K w ∧ SRep K w s σ ∧ PostW K E (RepD K) w (m s w.h) fun _ w' v => Q v w'.H
def tMT (K : PySem.W.Frag) (E : XK) (m : MT) : TT := fun σ H Q => ∃ w s, w.H = H ∧ Ok K w ∧ SRep K w s σ ∧ PostW K E EqB w (m s w.h) fun _ w' v => Q v w'.H
def tMA (K : PySem.W.Frag) (E : XK) (m : MA) : TA := fun σ H Q => ∃ w s, w.H = H ∧ Ok K w ∧ SRep K w s σ ∧ PostW K E (RepL K) w (m s w.h) fun _ w' v => Q v w'.H
section
variable {X : Cx} {K : PySem.W.Frag} {E : XK} {e : Expr} {t t' : TE}
theorem pe_imp (h : PE X e t) (hi : ∀ σ H Q, t' σ H Q → t σ H Q) : PE X e t' := ⟨fun pins s σ H Q I q => h.run pins s σ H Q I (hi σ H Q q)⟩
theorem pt_imp {u u' : TT} (h : PT X e u) (hi : ∀ σ H Q, u' σ H Q → u σ H Q) : PT X e u' := ⟨fun pins s σ H Q I q => h.run pins s σ H Q I (hi σ H Q q)⟩
theorem pw_imp {u u' : TT} (h : PW X e u) (hi : ∀ σ H Q, u' σ H Q → u σ H Q) : PW X e u' := ⟨fun wh pins s σ H Q I q => h.run wh pins s σ H Q I (hi σ H Q q)⟩
theorem pa_imp {es : List Expr} {u u' : TA} (h : PA X es u) (hi : ∀ σ H Q, u' σ H Q → u σ H Q) : PA X es u' := ⟨fun pos pins s σ H Q I q => h.run pos pins s σ H Q I (hi σ H Q q)⟩
theorem ps_imp {st : Stmt} {u u' : TS} (h : PS X st u) (hi : ∀ D σ H, u' D σ H → u D σ H) : PS X st u' := ⟨fun pins s σ H D I q => h.run pins s σ H D I (hi D σ H q)⟩
theorem pss_imp {st : List Stmt} {u u' : TS} (h : PSs X st u) (hi : ∀ D σ H, u' D σ H → u D σ H) : PSs X st u' := ⟨fun pins s σ H D I q => h.run pins s σ H D I (hi D σ H q)⟩
/-- the core: a part's reading from the whole's -/
theorem tM_at {m : ME} {w : W3} {s : Sl} {σ : L2.St} {Q : VK} (k : Ok K w) (r : SRep K w s σ) (h : PostW K E (RepD K) w (m s w.h) fun _ w' v => Q v w'.H) : tM K E m σ w.H Q := ⟨w, s, rfl, k, r, h⟩
theorem tMT_at {m : MT} {w : W3} {s : Sl} {σ : L2.St} {Q : Bool → Hp → Prop} (k : Ok K w) (r : SRep K w s σ) (h : PostW K E EqB w (m s w.h) fun _ w' v => Q v w'.H) : tMT K E m σ w.H Q := ⟨w, s, rfl, k, r, h⟩
theorem tMA_at {m : MA} {w : W3} {s : Sl} {σ : L2.St} {Q : List V → Hp → Prop} (k : Ok K w) (r : SRep K w s σ) (h : PostW K E (RepL K) w (m s w.h) fun _ w' v => Q v w'.H) : tMA K E m σ w.H Q := ⟨w, s, rfl, k, r, h⟩
end
/-! ## names, constants -/
def mC (d : D) : ME := fun _ h => .ok d h
def mVar (i : Nat) : ME := fun s h => match s[i]? with
  | some (some d) => .ok d h
  | _ => .bad
section
variable {X : Cx} {E : XK}
theorem me_const {e : Expr} {v : V} {d : D} (h : PE X e (tC v)) (hd : ∀ w, Rep X.K w d v) : PE X e (tM X.K E (mC d)) := by
  refine pe_imp h fun σ H Q hq => ?_
  obtain ⟨w, s, e, k, r, q⟩ := hq
  subst e
  exact q.here k (hd w)
theorem me_var {i : Nat} {e : Expr} (h : PE X e (tVar i)) : PE X e (tM X.K E (mVar i)) := by
  refine pe_imp h fun σ H Q hq => ?_
  obtain ⟨w, s, e, k, r, q⟩ := hq
  subst e
  unfold mVar at q
  split at q
  · rename_i d hd
    obtain ⟨v, h1, h2⟩ := r.2 i d hd
    exact ⟨v, h1, q.here k h2⟩
  · exact q.elim
end
/-! ## operators -/
abbrev F2 := D → D → MH → R D
def mOp (f : F2) (a b : ME) : ME := fun s h => (a s h).bind fun x h1 => (b s h1).bind fun y h2 => f x y h2
def rM (K : PySem.W.Frag) (E : XK) (f : F2) : R2 := fun x y H Q => ∃ w d e, w.H = H ∧ Ok K w ∧ Rep K w d x ∧ Rep K w e y ∧ PostW K E (RepD K) w (f d e w.h) fun _ w' v => Q v w'.H
section
variable {X : Cx} {E : XK} {a b : Expr} {ma mb : ME} {f : F2} {pos : Pos}
theorem tOp_of {σ : L2.St} {H : Hp} {Q : VK} (h : tM X.K E (mOp f ma mb) σ H Q) : tOp (rM X.K E f) (tM X.K E ma) (tM X.K E mb) σ H Q := by
  obtain ⟨w, s, e, k, r, q⟩ := h
  subst e
  refine tM_at k r (q.bind.imp fun x w1 v x1 k1 p1 q1 => ?_)
  refine tM_at k1 (r.ext x1) (q1.bind.imp fun y w2 u x2 k2 p2 q2 => ?_)
  exact ⟨w2, x, y, rfl, k2, p1.ext x2, p2, q2⟩
theorem me_op {op : Operator} (ho : OpR X (binaryOp op) (rM X.K E f)) (ha : PE X a (tM X.K E ma)) (hb : PE X b (tM X.K E mb)) : PE X (.BinOp a op b pos) (tM X.K E (mOp f ma mb)) :=
  pe_imp (pe_op ho ha hb) fun _ _ _ h => tOp_of h
theorem me_cmp {op : CmpOp} (ho : OpR X (compareOp op) (rM X.K E f)) (ha : PE X a (tM X.K E ma)) (hb : PE X b (tM X.K E mb)) (hm : behindInMarks op b = false) : PE X (.Compare a [op] [b] pos) (tM X.K E (mOp f ma mb)) :=
  pe_imp (pe_cmpR ho ha hb hm) fun _ _ _ h => tOp_of h
/-- a value as a truth -/
def asB (r : R D) : R Bool := r.bind fun d h => match d with
  | .bl b => .ok b h
  | _ => .bad
theorem PostW.asB {K : PySem.W.Frag} {w : W3} {r : R D} {Q : Bool → W3 → Bool → Prop} (h : PostW K E EqB w (asB r) Q) : PostW K E (RepD K) w r fun _ w' v => ∃ c, v = .bl c ∧ Q c w' c := by
  refine (PostW.bind h).imp fun d w' v x k p q => ?_
  cases d with
  | bl b =>
    simp only [Rep] at p
    exact ⟨b, p, q.here k rfl⟩
  | _ => exact q.elim
theorem mt_cmp {op : CmpOp} (ho : OpR X (compareOp op) (rM X.K E f)) (ha : PE X a (tM X.K E ma)) (hb : PE X b (tM X.K E mb)) (hm : behindInMarks op b = false) : PT X (.Compare a [op] [b] pos) (tMT X.K E fun s h => asB (mOp f ma mb s h)) := by
  refine pt_imp (pt_cmpR ho ha hb hm) fun σ H Q hq => ?_
  obtain ⟨w, s, e, k, r, q⟩ := hq
  subst e
  refine tOp_of (tM_at k r (q.asB.imp fun _ w' v _ _ _ z => z))
/-- a < b < c -/
def mChain (f g : F2) (a b c : ME) : ME := fun s h => (a s h).bind fun x h1 => (b s h1).bind fun y h2 => (asB (f x y h2)).bind fun k h3 => if k = true then (c s h3).bind fun z h4 => g y z h4 else .ok (.bl false) h3
theorem tChain_of {mc : ME} {g : F2} {σ : L2.St} {H : Hp} {Q : VK} (h : tM X.K E (mChain f g ma mb mc) σ H Q) : tChain (rM X.K E f) (rM X.K E g) (tM X.K E ma) (tM X.K E mb) (tM X.K E mc) σ H Q := by
  obtain ⟨w, s, e, k, r, q⟩ := h
  subst e
  refine tM_at k r (q.bind.imp fun x w1 v x1 k1 p1 q1 => ?_)
  refine tM_at k1 (r.ext x1) (q1.bind.imp fun y w2 u x2 k2 p2 q2 => ?_)
  refine ⟨w2, x, y, rfl, k2, p1.ext x2, p2, ?_⟩
  refine (PostW.asB (q2.bind (Rel := EqB))).imp fun _ w3 v3 x3 k3 _ z => ?_
  obtain ⟨b, e, q3⟩ := z
  refine ⟨b, e, ?_⟩
  cases b with
  | true =>
    rw [if_pos rfl] at q3 ⊢
    refine tM_at k3 (r.ext (x1.trans (x2.trans x3))) (q3.bind.imp fun z w4 v4 x4 k4 p4 q4 => ?_)
    exact ⟨w4, y, z, rfl, k4, p2.ext (x3.trans x4), p4, q4⟩
  | false =>
    rw [if_neg Bool.false_ne_true] at q3 ⊢
    exact q3.here k3 (by simp only [Rep])
theorem me_chain {op op' : CmpOp} {c : Expr} {mc : ME} {g : F2} (ho : OpR X (compareOp op) (rM X.K E f)) (ho' : OpR X (compareOp op') (rM X.K E g)) (ha : PE X a (tM X.K E ma)) (hb : PE X b (tM X.K E mb)) (hc : PE X c (tM X.K E mc))
    (hm : lastMarks [op, op'] [b, c] = false) : PE X (.Compare a [op, op'] [b, c] pos) (tM X.K E (mChain f g ma mb mc)) := pe_imp (pe_chain ho ho' ha hb hc hm) fun _ _ _ h => tChain_of h
theorem mt_chain {op op' : CmpOp} {c : Expr} {mc : ME} {g : F2} (ho : OpR X (compareOp op) (rM X.K E f)) (ho' : OpR X (compareOp op') (rM X.K E g)) (ha : PE X a (tM X.K E ma)) (hb : PE X b (tM X.K E mb)) (hc : PE X c (tM X.K E mc))
    (hm : lastMarks [op, op'] [b, c] = false) : PT X (.Compare a [op, op'] [b, c] pos) (tMT X.K E fun s h => asB (mChain f g ma mb mc s h)) := by
  refine pt_imp (pt_chain ho ho' ha hb hc hm) fun σ H Q hq => ?_
  obtain ⟨w, s, e, k, r, q⟩ := hq
  subst e
  exact tChain_of (tM_at k r (q.asB.imp fun _ w' v _ _ _ z => z))
end
end Tb
end

section
set_option maxHeartbeats 4000000
namespace Tb
open PySem PySem.Spec L2
/-! ## lists and tuples read -/
def lstOf (h : MH) : D → Option (List D)
  | .lst xs => some xs
  | .ref n => match h.get n with
    | some (.lst xs) => some xs
    | none => none
  | _ => none
def seqOf (h : MH) : D → Option (List D)
  | .tup xs => some xs
  | d => lstOf h d
section
variable {K : PySem.W.Frag} {w : W3}
theorem lst_at (k : Ok K w) {d : D} {v : V} {xs : List D} (r : Rep K w d v) (h : lstOf w.h d = some xs) : ∃ a vs, v = .ref a ∧ w.H a = some (.lst vs) ∧ Reps K w xs vs := by
  cases d with
  | lst ys =>
    simp only [lstOf, Option.some.injEq] at h
    subst h
    simp only [Rep] at r
    obtain ⟨a, vs, h1, h2, h3⟩ := r
    exact ⟨a, vs, h1, h2.1, h3⟩
  | ref n =>
    simp only [lstOf] at h
    split at h
    · rename_i ys e
      cases h
      simp only [Rep] at r
      obtain ⟨vs, h1, h2⟩ := (k.dom n _ e).2
      exact ⟨_, vs, r.2, h1, h2⟩
    · cases h
  | _ => simp [lstOf] at h
theorem seq_at (k : Ok K w) {d : D} {v : V} {xs : List D} (r : Rep K w d v) (h : seqOf w.h d = some xs) : ∃ a vs, v = .ref a ∧ (SqL K w.H a vs ∨ SqT K w.H a vs) ∧ Reps K w xs vs := by
  cases d with
  | tup ys =>
    simp only [seqOf, Option.some.injEq] at h
    subst h
    simp only [Rep] at r
    obtain ⟨a, vs, h1, h2, h3⟩ := r
    exact ⟨a, vs, h1, .inr h2.sq, h3⟩
  | _ =>
    obtain ⟨a, vs, h1, h2, h3⟩ := lst_at k r h
    exact ⟨a, vs, h1, .inl (SqL.of h2), h3⟩
theorem tup_at {xs : List D} {v : V} (r : Rep K w (.tup xs) v) : ∃ a vs, v = .ref a ∧ SqT K w.H a vs ∧ Reps K w xs vs := by
  simp only [Rep] at r
  obtain ⟨a, vs, h1, h2, h3⟩ := r
  exact ⟨a, vs, h1, h2.sq, h3⟩
theorem rep_int {i : Int} {v : V} : Rep K w (.int i) v ↔ v = .int i := by simp only [Rep]
theorem rep_str {i : Str} {v : V} : Rep K w (.str i) v ↔ v = .str i := by simp only [Rep]
theorem rep_bl {i : Bool} {v : V} : Rep K w (.bl i) v ↔ v = .bl i := by simp only [Rep]
theorem rep_non {v : V} : Rep K w .non v ↔ v = .non := by simp only [Rep]
/-- a new list, not held; a new tuple -/
theorem PostW.newL {E : XK} {xs : List D} {vs : List V} {Q : V → Hp → Prop} (h : PostW K E (RepD K) w (.ok (.lst xs) w.h) fun _ w' v => Q v w'.H) (k : Ok K w) (r : Reps K w xs vs) : ∀ p, w.H p = none → Q (.ref p) (upd w.H p (.lst vs)) :=
  fun p hp => h (w.lay p (.lst vs)) (.ref p) rfl (Ext.lay k hp) (k.lay hp) (Rep.layLst k hp r)
theorem PostW.newT {E : XK} {xs : List D} {vs : List V} {Q : V → Hp → Prop} (h : PostW K E (RepD K) w (.ok (.tup xs) w.h) fun _ w' v => Q v w'.H) (k : Ok K w) (r : Reps K w xs vs) : ∀ p, w.H p = none → Q (.ref p) (upd w.H p (.tup vs)) :=
  fun p hp => h (w.lay p (.tup vs)) (.ref p) rfl (Ext.lay k hp) (k.lay hp) (Rep.layTup k hp r)
theorem PostW.newH {E : XK} {xs : List D} {vs : List V} {Q : V → Hp → Prop} (h : PostW K E (RepD K) w (.ok (.ref w.h.next) (w.h.new (.lst xs))) fun _ w' v => Q v w'.H) (k : Ok K w) (r : Reps K w xs vs) : ∀ p, w.H p = none → Q (.ref p) (upd w.H p (.lst vs)) := fun p hp =>
  h (w.hold p (.lst vs) (.lst xs)) (.ref p) rfl (Ext.hold k hp) (k.hold hp ⟨vs, upd_same, r.ext (Ext.hold k hp)⟩) Rep.hold
end
/-! ## operators -/
def smallI (i : Int) : Prop := -(2 ^ 64) < i ∧ i < 2 ^ 64
instance smallD (i : Int) : Decidable (smallI i) := by unfold smallI; infer_instance
instance cmulD (i j : Int) : Decidable (CMulW i j) := by unfold CMulW; infer_instance
instance cdivD (i j : Int) : Decidable (CDivW i j) := by unfold CDivW; infer_instance
instance cpowD (i j : Int) : Decidable (CPow i j) := by unfold CPow; infer_instance
def opAdd : F2
  | .int i, .int j, h => .ok (.int (i + j)) h
  | .str x, .str y, h => if x.length + y.length ≤ sizeLine then .ok (.str (x ++ y)) h else .bad
  | .tup xs, .tup ys, h => if xs.length + ys.length ≤ sizeLine then .ok (.tup (xs ++ ys)) h else .bad
  | .int i, .bl b, h => .ok (.int (i + PyProof.Rows.b2i b)) h
  | d, e, h => match lstOf h d, lstOf h e with
    | some xs, some ys => if xs.length + ys.length ≤ sizeLine then .ok (.lst (xs ++ ys)) h else .bad
    | _, _ => .bad
/-- two lists, the new one held -/
def opAddH : F2 := fun d e h => match lstOf h d, lstOf h e with
    | some xs, some ys => if xs.length + ys.length ≤ sizeLine then .ok (.ref h.next) (h.new (.lst (xs ++ ys))) else .bad
    | _, _ => .bad
def opSub : F2
  | .int i, .int j, h => .ok (.int (i - j)) h
  | _, _, _ => .bad
def opMul : F2
  | .int i, .int j, h => if smallI i ∨ smallI j ∨ CMulW i j then .ok (.int (i * j)) h else .bad
  | _, _, _ => .bad
def opDiv : F2
  | .int i, .int j, h => if CDivW i j then .ok (.int (i / j)) h else .bad
  | _, _, _ => .bad
def opMod : F2
  | .int i, .int j, h => if 0 < j then .ok (.int (i % j)) h else .bad
  | _, _, _ => .bad
def opPow : F2
  | .int i, .int j, h => if CPow i j then .ok (.int (i ^ j.toNat)) h else .bad
  | _, _, _ => .bad
section
variable {X : Cx} {E : XK}
theorem or_add : OpR X (binaryOp .Add) (rM X.K E opAdd) := by
  intro pins s σ H x y v u Q I rx ry h
  obtain ⟨w, d, e, eH, k, rd, re, q⟩ := h
  subst eH
  unfold opAdd at q
  split at q
  · rw [rep_int] at rd re
    exact op_add pins s σ _ x y v u Q I rx ry ⟨_, _, rd, re, q.here k (rep_int.mpr rfl)⟩
  · rw [rep_str] at rd re
    split at q
    · exact op_add_str pins s σ _ x y v u Q I rx ry ⟨_, _, rd, re, by assumption, q.here k (rep_str.mpr rfl)⟩
    · exact q.elim
  · split at q
    · rename_i hz
      obtain ⟨a, vs, e1, h1, r1⟩ := tup_at rd
      obtain ⟨b, us, e2, h2, r2⟩ := tup_at re
      refine op_catA pins s σ _ x y v u Q I rx ry ⟨a, b, vs, us, e1, e2, h1, h2, by rw [← r1.length, ← r2.length]; exact hz, fun z => ?_, fun _ z => ?_, fun _ _ => q.newT k (r1.append r2)⟩
      · have h := r1.length
        rw [z] at h
        rw [List.length_eq_zero_iff.mp h, List.nil_append, ] at q
        subst e2
        exact q.here k re
      · have h := r2.length
        rw [z] at h
        rw [List.length_eq_zero_iff.mp h, List.append_nil] at q
        subst e1
        exact q.here k rd
    · exact q.elim
  · rw [rep_int] at rd
    rw [rep_bl] at re
    exact op_add_ib pins s σ _ x y v u Q I rx ry ⟨_, _, rd, re, q.here k (rep_int.mpr rfl)⟩
  · split at q
    · rename_i e1 e2
      split at q
      · rename_i hz
        obtain ⟨a, vs, ea, h1, r1⟩ := lst_at k rd e1
        obtain ⟨b, us, eb, h2, r2⟩ := lst_at k re e2
        exact op_cat pins s σ _ x y v u Q I rx ry ⟨a, b, vs, us, ea, eb, h1, h2, by rw [← r1.length, ← r2.length]; exact hz, q.newL k (r1.append r2)⟩
      · exact q.elim
    · exact q.elim
theorem or_addH : OpR X (binaryOp .Add) (rM X.K E opAddH) := by
  intro pins s σ H x y v u Q I rx ry h
  obtain ⟨w, d, e, eH, k, rd, re, q⟩ := h
  subst eH
  unfold opAddH at q
  split at q
  · rename_i e1 e2
    split at q
    · rename_i hz
      obtain ⟨a, vs, ea, h1, r1⟩ := lst_at k rd e1
      obtain ⟨b, us, eb, h2, r2⟩ := lst_at k re e2
      exact op_cat pins s σ _ x y v u Q I rx ry ⟨a, b, vs, us, ea, eb, h1, h2, by rw [← r1.length, ← r2.length]; exact hz, q.newH k (r1.append r2)⟩
    · exact q.elim
  · exact q.elim
theorem or_sub : OpR X (binaryOp .Sub) (rM X.K E opSub) := by
  intro pins s σ H x y v u Q I rx ry h
  obtain ⟨w, d, e, eH, k, rd, re, q⟩ := h
  subst eH
  unfold opSub at q
  split at q
  · rw [rep_int] at rd re
    exact op_sub pins s σ _ x y v u Q I rx ry ⟨_, _, rd, re, q.here k (rep_int.mpr rfl)⟩
  · exact q.elim
theorem or_mul : OpR X (binaryOp .Mult) (rM X.K E opMul) := by
  intro pins s σ H x y v u Q I rx ry h
  obtain ⟨w, d, e, eH, k, rd, re, q⟩ := h
  subst eH
  unfold opMul at q
  split at q
  · rw [rep_int] at rd re
    split at q
    · rename_i hz
      have q' := q.here k (rep_int.mpr rfl)
      rcases hz with hz | hz | hz
      · exact op_mul pins s σ _ x y v u Q I rx ry ⟨_, _, rd, re, .inl hz, q'⟩
      · exact op_mul pins s σ _ x y v u Q I rx ry ⟨_, _, rd, re, .inr hz, q'⟩
      · exact op_mulW pins s σ _ x y v u Q I rx ry ⟨_, _, rd, re, hz, q'⟩
    · exact q.elim
  · exact q.elim
theorem or_div : OpR X (binaryOp .FloorDiv) (rM X.K E opDiv) := by
  intro pins s σ H x y v u Q I rx ry h
  obtain ⟨w, d, e, eH, k, rd, re, q⟩ := h
  subst eH
  unfold opDiv at q
  split at q
  · rw [rep_int] at rd re
    split at q
    · exact op_fdivW pins s σ _ x y v u Q I rx ry ⟨_, _, rd, re, by assumption, q.here k (rep_int.mpr rfl)⟩
    · exact q.elim
  · exact q.elim
theorem or_mod : OpR X (binaryOp .Mod) (rM X.K E opMod) := by
  intro pins s σ H x y v u Q I rx ry h
  obtain ⟨w, d, e, eH, k, rd, re, q⟩ := h
  subst eH
  unfold opMod at q
  split at q
  · rw [rep_int] at rd re
    split at q
    · exact op_mod pins s σ _ x y v u Q I rx ry ⟨_, _, rd, re, by assumption, q.here k (rep_int.mpr rfl)⟩
    · exact q.elim
  · exact q.elim
theorem or_pow : OpR X (binaryOp .Pow) (rM X.K E opPow) := by
  intro pins s σ H x y v u Q I rx ry h
  obtain ⟨w, d, e, eH, k, rd, re, q⟩ := h
  subst eH
  unfold opPow at q
  split at q
  · rw [rep_int] at rd re
    split at q
    · exact op_pow pins s σ _ x y v u Q I rx ry ⟨_, _, rd, re, by assumption, q.here k (rep_int.mpr rfl)⟩
    · exact q.elim
  · exact q.elim
end
/-! ## data: what == and repr see -/
mutual
def toP : D → Option PyData
  | .non => some .none
  | .bl b => some (.bool b)
  | .int i => some (.int i)
  | .str x => some (.str x)
  | .tup xs => (toPs xs).map .tuple
  | .lst xs => (toPs xs).map .list
  | .ref _ => none
  | .raw _ => none
  | .scr _ => none
def toPs : List D → Option (List PyData)
  | [] => some []
  | x :: xs => match toP x, toPs xs with
    | some p, some ps => some (p :: ps)
    | _, _ => none
end
/-- .. with lists of the heap, whose items are plain -/
def toD (h : MH) : D → Option PyData
  | .ref n => match h.get n with
    | some (.lst xs) => (toPs xs).map .list
    | none => none
  | d => toP d
section
variable {K : PySem.W.Frag} {w : W3}
mutual
theorem toP_ok : ∀ {d : D} {v : V} {p : PyData}, Rep K w d v → toP d = some p → Dp K w.H v p
  | .non, v, p, r, h => by
    simp only [toP, Option.some.injEq] at h; subst h; rw [rep_non] at r; subst r; exact .non
  | .bl b, v, p, r, h => by
    simp only [toP, Option.some.injEq] at h; subst h; rw [rep_bl] at r; subst r; exact .bl b
  | .int i, v, p, r, h => by
    simp only [toP, Option.some.injEq] at h; subst h; rw [rep_int] at r; subst r; exact .int i
  | .str x, v, p, r, h => by
    simp only [toP, Option.some.injEq] at h; subst h; rw [rep_str] at r; subst r; exact .str x
  | .tup xs, v, p, r, h => by
    simp only [toP, Option.map_eq_some_iff] at h
    obtain ⟨ps, h1, rfl⟩ := h
    obtain ⟨a, vs, rfl, h2, h3⟩ := tup_at r
    exact .tup h2 (toPs_ok h3 h1)
  | .lst xs, v, p, r, h => by
    simp only [toP, Option.map_eq_some_iff] at h
    obtain ⟨ps, h1, rfl⟩ := h
    simp only [Rep] at r
    obtain ⟨a, vs, rfl, h2, h3⟩ := r
    exact .lst h2.sq (toPs_ok h3 h1)
  | .ref _, v, p, r, h => by simp [toP] at h
  | .raw _, v, p, r, h => by simp [toP] at h
  | .scr _, v, p, r, h => by simp [toP] at h
theorem toPs_ok : ∀ {ds : List D} {vs : List V} {ps : List PyData}, Reps K w ds vs → toPs ds = some ps → DpAll K w.H vs ps
  | [], vs, ps, r, h => by
    simp only [toPs, Option.some.injEq] at h; subst h
    rw [r.unnil]; exact .nil
  | d :: ds, vs, ps, r, h => by
    obtain ⟨u, us, rfl, r1, r2⟩ := r.uncons
    simp only [toPs] at h
    split at h
    · rename_i p qs e1 e2
      cases h
      exact .cons (toP_ok r1 e1) (toPs_ok r2 e2)
    · cases h
end
theorem toD_ok (k : Ok K w) {d : D} {v : V} {p : PyData} (r : Rep K w d v) (h : toD w.h d = some p) : Dp K w.H v p := by
  cases d with
  | ref n =>
    simp only [toD] at h
    split at h
    · rename_i xs e
      simp only [Option.map_eq_some_iff] at h
      obtain ⟨ps, h1, rfl⟩ := h
      obtain ⟨vs, h2, h3⟩ := (k.dom n _ e).2
      simp only [Rep] at r
      rw [r.2]
      exact .lst (SqL.of h2) (toPs_ok h3 h1)
    · cases h
  | _ => exact toP_ok r h
end
def opEq : F2
  | .str x, .str y, h => .ok (.bl (decide (x = y))) h
  | x, y, h => match toD h x, toD h y with
    | some p, some q => if SeqAt.shaped p = true ∧ SeqAt.shaped q = true then .ok (.bl (PyData.eqv p q)) h else .bad
    | _, _ => .bad
def opNe : F2
  | .str x, .str y, h => .ok (.bl (!decide (x = y))) h
  | x, y, h => match toD h x, toD h y with
    | some p, some q => if SeqAt.shaped p = true ∧ SeqAt.shaped q = true then .ok (.bl (!PyData.eqv p q)) h else .bad
    | _, _ => .bad
theorem str_dec {x y : Str} : decide (V.str x = V.str y) = decide (x = y) := Bool.eq_iff_iff.mpr (by simp)
def intsOf : List D → Option (List Int)
  | [] => some []
  | .int i :: xs => (intsOf xs).map (i :: ·)
  | _ => none
theorem intsOf_ok {K : PySem.W.Frag} {w : W3} : ∀ {ds : List D} {vs : List V} {ns : List Int}, Reps K w ds vs → intsOf ds = some ns → vs = ns.map V.int
  | [], vs, ns, r, h => by simp only [intsOf, Option.some.injEq] at h; subst h; rw [r.unnil]; rfl
  | d :: ds, vs, ns, r, h => by
    obtain ⟨u, us, rfl, r1, r2⟩ := r.uncons
    cases d with
    | int i =>
      simp only [intsOf, Option.map_eq_some_iff] at h
      obtain ⟨ms, h1, rfl⟩ := h
      rw [rep_int] at r1
      rw [r1, intsOf_ok r2 h1]
      rfl
    | _ => simp [intsOf] at h
def opLt : F2
  | .int i, .int j, h => .ok (.bl (decide (i < j))) h
  | .str x, .str y, h => .ok (.bl (decide (x.cps.toList < y.cps.toList))) h
  | .tup xs, .tup ys, h => match intsOf xs, intsOf ys with
    | some ns, some ms => .ok (.bl (HT.lexLt ns ms)) h
    | _, _ => .bad
  | _, _, _ => .bad
def opLe : F2
  | .int i, .int j, h => .ok (.bl (decide (i ≤ j))) h
  | _, _, _ => .bad
def opGt : F2
  | .int i, .int j, h => .ok (.bl (decide (j < i))) h
  | _, _, _ => .bad
def opGe : F2
  | .int i, .int j, h => .ok (.bl (decide (j ≤ i))) h
  | _, _, _ => .bad
def isNon : D → Option Bool
  | .non => some true
  | .raw _ => none
  | _ => some false
def opIs : F2
  | .bl a, .bl b, h => .ok (.bl (decide (a = b))) h
  | x, .non, h => match isNon x with
    | some b => .ok (.bl b) h
    | none => .bad
  | _, _, _ => .bad
def opIsNot : F2
  | .bl a, .bl b, h => .ok (.bl (!decide (a = b))) h
  | x, .non, h => match isNon x with
    | some b => .ok (.bl (!b)) h
    | none => .bad
  | _, _, _ => .bad
section
variable {X : Cx} {E : XK}
theorem or_eq (hu : X.A.units + 64 < cLine) : OpR X (compareOp .Eq) (rM X.K E opEq) := by
  intro pins s σ H x y v u Q I rx ry h
  obtain ⟨w, d, e, eH, k, rd, re, q⟩ := h
  subst eH
  unfold opEq at q
  split at q
  · rename_i x' y' _
    rw [rep_str] at rd re
    subst rd re
    exact op_eq pins s σ _ _ _ v u Q I rx ry ⟨rfl, by rw [str_dec]; exact q.here k (rep_bl.mpr rfl)⟩
  · split at q
    · rename_i p p' e1 e2
      split at q
      · rename_i hz
        exact op_eqD hu pins s σ _ x y v u Q I rx ry ⟨p, p', toD_ok k rd e1, toD_ok k re e2, hz.1, hz.2, q.here k (rep_bl.mpr rfl)⟩
      · exact q.elim
    · exact q.elim
theorem or_ne (hu : X.A.units + 64 < cLine) : OpR X (compareOp .NotEq) (rM X.K E opNe) := by
  intro pins s σ H x y v u Q I rx ry h
  obtain ⟨w, d, e, eH, k, rd, re, q⟩ := h
  subst eH
  unfold opNe at q
  split at q
  · rename_i x' y' _
    rw [rep_str] at rd re
    subst rd re
    exact op_ne pins s σ _ _ _ v u Q I rx ry ⟨rfl, by rw [str_dec]; exact q.here k (rep_bl.mpr rfl)⟩
  · split at q
    · rename_i p p' e1 e2
      split at q
      · rename_i hz
        exact op_neD hu pins s σ _ x y v u Q I rx ry ⟨p, p', toD_ok k rd e1, toD_ok k re e2, hz.1, hz.2, q.here k (rep_bl.mpr rfl)⟩
      · exact q.elim
    · exact q.elim
theorem or_lt (hu : X.A.units < cLine) : OpR X (compareOp .Lt) (rM X.K E opLt) := by
  intro pins s σ H x y v u Q I rx ry h
  obtain ⟨w, d, e, eH, k, rd, re, q⟩ := h
  subst eH
  unfold opLt at q
  split at q
  · rw [rep_int] at rd re
    exact op_lt pins s σ _ x y v u Q I rx ry ⟨_, _, rd, re, q.here k (rep_bl.mpr rfl)⟩
  · rw [rep_str] at rd re
    exact op_lt_str pins s σ _ x y v u Q I rx ry ⟨_, _, rd, re, q.here k (rep_bl.mpr rfl)⟩
  · split at q
    · rename_i ns ms e1 e2
      obtain ⟨a, vs, rfl, h1, r1⟩ := tup_at rd
      obtain ⟨b, us, rfl, h2, r2⟩ := tup_at re
      rw [intsOf_ok r1 e1] at h1
      rw [intsOf_ok r2 e2] at h2
      exact op_ltT hu pins s σ _ _ _ v u Q I rx ry ⟨_, _, _, _, rfl, rfl, h1, h2, q.here k (rep_bl.mpr rfl)⟩
    · exact q.elim
  · exact q.elim
theorem or_le : OpR X (compareOp .LtE) (rM X.K E opLe) := by
  intro pins s σ H x y v u Q I rx ry h
  obtain ⟨w, d, e, eH, k, rd, re, q⟩ := h
  subst eH
  unfold opLe at q
  split at q
  · rw [rep_int] at rd re
    exact op_le pins s σ _ x y v u Q I rx ry ⟨_, _, rd, re, q.here k (rep_bl.mpr rfl)⟩
  · exact q.elim
theorem or_gt : OpR X (compareOp .Gt) (rM X.K E opGt) := by
  intro pins s σ H x y v u Q I rx ry h
  obtain ⟨w, d, e, eH, k, rd, re, q⟩ := h
  subst eH
  unfold opGt at q
  split at q
  · rw [rep_int] at rd re
    exact op_gt pins s σ _ x y v u Q I rx ry ⟨_, _, rd, re, q.here k (rep_bl.mpr rfl)⟩
  · exact q.elim
theorem or_ge : OpR X (compareOp .GtE) (rM X.K E opGe) := by
  intro pins s σ H x y v u Q I rx ry h
  obtain ⟨w, d, e, eH, k, rd, re, q⟩ := h
  subst eH
  unfold opGe at q
  split at q
  · rw [rep_int] at rd re
    exact op_ge pins s σ _ x y v u Q I rx ry ⟨_, _, rd, re, q.here k (rep_bl.mpr rfl)⟩
  · exact q.elim
theorem rep_isNon {K : PySem.W.Frag} {w : W3} {d : D} {v : V} {b : Bool} (r : Rep K w d v) (hd : isNon d = some b) : decide (v = .non) = b := by
  cases d with
  | non => rw [rep_non] at r; subst r; cases hd; rfl
  | bl b => rw [rep_bl] at r; subst r; cases hd; rfl
  | int b => rw [rep_int] at r; subst r; cases hd; rfl
  | str b => rw [rep_str] at r; subst r; cases hd; rfl
  | tup xs => obtain ⟨a, vs, rfl, _, _⟩ := tup_at r; cases hd; rfl
  | lst xs => simp only [Rep] at r; obtain ⟨a, vs, rfl, _, _⟩ := r; cases hd; rfl
  | ref n => simp only [Rep] at r; obtain ⟨_, rfl⟩ := r; cases hd; rfl
  | raw u => cases hd
  | scr ns => simp only [Rep] at r; obtain ⟨a, rfl, _⟩ := r; cases hd; rfl
theorem or_is : OpR X (compareOp .Is) (rM X.K E opIs) := by
  intro pins s σ H x y v u Q I rx ry h
  obtain ⟨w, d, e, eH, k, rd, re, q⟩ := h
  subst eH
  unfold opIs at q
  split at q
  · rw [rep_bl] at rd re
    exact op_isBl pins s σ _ x y v u Q I rx ry ⟨_, _, rd, re, q.here k (rep_bl.mpr rfl)⟩
  · rw [rep_non] at re
    split at q
    · rename_i b e1
      refine op_isN pins s σ _ x y v u Q I rx ry ⟨re, ?_⟩
      rw [rep_isNon rd e1]
      exact q.here k (rep_bl.mpr rfl)
    · exact q.elim
  · exact q.elim
theorem or_isnot : OpR X (compareOp .IsNot) (rM X.K E opIsNot) := by
  intro pins s σ H x y v u Q I rx ry h
  obtain ⟨w, d, e, eH, k, rd, re, q⟩ := h
  subst eH
  unfold opIsNot at q
  split at q
  · rw [rep_bl] at rd re
    exact op_notBl pins s σ _ x y v u Q I rx ry ⟨_, _, rd, re, q.here k (rep_bl.mpr rfl)⟩
  · rw [rep_non] at re
    split at q
    · rename_i b e1
      refine op_notN pins s σ _ x y v u Q I rx ry ⟨re, ?_⟩
      rw [rep_isNon rd e1]
      exact q.here k (rep_bl.mpr rfl)
    · exact q.elim
  · exact q.elim
end
end Tb
end

section
set_option maxHeartbeats 4000000
namespace Tb
open PySem PySem.Spec L2
/-! ## tests -/
def mAnd (a b : MT) : MT := fun s h => (a s h).bind fun k h1 => if k = true then b s h1 else .ok false h1
def mOr (a b : MT) : MT := fun s h => (a s h).bind fun k h1 => if k = true then .ok true h1 else b s h1
def mNot (a : MT) : MT := fun s h => (a s h).bind fun k h1 => .ok (!k) h1
/-- the truth of a value -/
def truth : D → MH → R Bool
  | .non, h => .ok false h
  | .bl b, h => .ok b h
  | .int i, h => .ok (i != 0) h
  | .str x, h => if x.length ≤ sizeLine then .ok ((x.length : Int) != 0) h else .bad
  | d, h => match seqOf h d with
    | some xs => .ok (!xs.isEmpty) h
    | none => .bad
def mTruth (m : ME) : MT := fun s h => (m s h).bind truth
section
variable {X : Cx} {E : XK} {a b : Expr} {rest : List Expr} {ma mb : MT} {pos : Pos}
theorem tAnd_of {σ : L2.St} {H : Hp} {Q : Bool → Hp → Prop} (h : tMT X.K E (mAnd ma mb) σ H Q) : L2.tAnd (tMT X.K E ma) (tMT X.K E mb) σ H Q := by
  obtain ⟨w, s, e, k, r, q⟩ := h
  subst e
  refine tMT_at k r ((PostW.bind (Rel := EqB) q).imp fun c w1 v x1 k1 p1 q1 => ?_)
  subst p1
  cases c with
  | true =>
    rw [if_pos rfl] at q1 ⊢
    exact tMT_at k1 (r.ext x1) q1
  | false =>
    rw [if_neg Bool.false_ne_true] at q1 ⊢
    exact q1.here k1 rfl
theorem tOr_of {σ : L2.St} {H : Hp} {Q : Bool → Hp → Prop} (h : tMT X.K E (mOr ma mb) σ H Q) : L2.tOr (tMT X.K E ma) (tMT X.K E mb) σ H Q := by
  obtain ⟨w, s, e, k, r, q⟩ := h
  subst e
  refine tMT_at k r ((PostW.bind (Rel := EqB) q).imp fun c w1 v x1 k1 p1 q1 => ?_)
  subst p1
  cases c with
  | true =>
    rw [if_pos rfl] at q1 ⊢
    exact q1.here k1 rfl
  | false =>
    rw [if_neg Bool.false_ne_true] at q1 ⊢
    exact tMT_at k1 (r.ext x1) q1
theorem mw_and (ha : PT X a (tMT X.K E ma)) (hb : PW X (.BoolOp .And (b :: rest) pos) (tMT X.K E mb)) : PW X (.BoolOp .And (a :: b :: rest) pos) (tMT X.K E (mAnd ma mb)) := pw_imp (pw_and ha hb) fun _ _ _ h => tAnd_of h
theorem mw_or (ha : PT X a (tMT X.K E ma)) (hb : PW X (.BoolOp .Or (b :: rest) pos) (tMT X.K E mb)) : PW X (.BoolOp .Or (a :: b :: rest) pos) (tMT X.K E (mOr ma mb)) := pw_imp (pw_or ha hb) fun _ _ _ h => tOr_of h
theorem mt_not (ha : PT X a (tMT X.K E ma)) : PT X (.UnaryOp .Not a pos) (tMT X.K E (mNot ma)) := by
  refine pt_imp (pt_not ha) fun σ H Q hq => ?_
  obtain ⟨w, s, e, k, r, q⟩ := hq
  subst e
  refine tMT_at k r ((PostW.bind (Rel := EqB) q).imp fun c w1 v x1 k1 p1 q1 => ?_)
  subst p1
  exact q1.here k1 rfl
theorem truth_ok {K : PySem.W.Frag} {w : W3} {d : D} {v : V} {Q : Bool → Hp → Prop} (k : Ok K w) (r : Rep K w d v) (q : PostW K E EqB w (truth d w.h) fun _ w' b => Q b w'.H) : ∃ b, TruV K v w.H b ∧ Q b w.H := by
  unfold truth at q
  split at q
  · rw [rep_non] at r; subst r; exact ⟨_, rfl, q.here k rfl⟩
  · rw [rep_bl] at r; subst r; exact ⟨_, rfl, q.here k rfl⟩
  · rw [rep_int] at r; subst r; exact ⟨_, rfl, q.here k rfl⟩
  · rw [rep_str] at r; subst r
    split at q
    · exact ⟨_, ⟨by assumption, rfl⟩, q.here k rfl⟩
    · exact q.elim
  · split at q
    · rename_i xs e
      obtain ⟨a, vs, rfl, h2, h3⟩ := seq_at k r e
      have e2 : (!xs.isEmpty) = !vs.isEmpty := by
        have := h3.length
        cases xs <;> cases vs <;> simp_all
      rw [e2] at q
      rcases h2 with h2 | h2
      · exact ⟨_, .inl ⟨vs, h2, rfl⟩, q.here k rfl⟩
      · exact ⟨_, .inr (.inl ⟨vs, h2, rfl⟩), q.here k rfl⟩
    · exact q.elim
theorem mt_truth {m : ME} (ha : PE X a (tM X.K E m)) (he : ∀ whole, isTrue a X.env whole = (do let v ← whole; standAt a.pos; holding [v] (truthy v))) : PT X a (tMT X.K E (mTruth m)) := by
  refine pt_imp (pt_truth ha he) fun σ H Q hq => ?_
  obtain ⟨w, s, e, k, r, q⟩ := hq
  subst e
  exact tM_at k r ((PostW.bind (Rel := RepD X.K) q).imp fun d w1 v x1 k1 p1 q1 => truth_ok k1 p1 q1)
end
/-! ## and, or, not as values; a if t else b -/
def ofB (m : MT) : ME := fun s h => (m s h).bind fun b h1 => .ok (.bl b) h1
/-- and, or of values: all but the last a truth -/
def mAndV (a b : ME) : ME := fun s h => (asB (a s h)).bind fun k h1 => if k = true then b s h1 else .ok (.bl false) h1
def mOrV (a b : ME) : ME := fun s h => (asB (a s h)).bind fun k h1 => if k = true then .ok (.bl true) h1 else b s h1
def mNotV (a : ME) : ME := fun s h => (asB (a s h)).bind fun k h1 => .ok (.bl (!k)) h1
def mIf (c : MT) (a b : ME) : ME := fun s h => (c s h).bind fun k h1 => if k = true then a s h1 else b s h1
section
variable {X : Cx} {E : XK} {a b c : Expr} {rest : List Expr} {ma mb : ME} {mc : MT} {pos : Pos}
theorem me_one {op : BoolOp} {m : ME} (h : PE X a (tM X.K E m)) : PE X (.BoolOp op [a] pos) (tM X.K E m) := pe_one h
theorem me_and (ha : PE X a (tM X.K E ma)) (hb : PE X (.BoolOp .And (b :: rest) pos) (tM X.K E mb)) : PE X (.BoolOp .And (a :: b :: rest) pos) (tM X.K E (mAndV ma mb)) := by
  refine pe_imp (pe_and ha hb) fun σ H Q hq => ?_
  obtain ⟨w, s, e, k, r, q⟩ := hq
  subst e
  refine tM_at k r ((PostW.asB (PostW.bind (Rel := EqB) q)).imp fun _ w1 v x1 k1 _ z => ?_)
  obtain ⟨b, e, q1⟩ := z
  refine ⟨b, e, ?_⟩
  cases b with
  | true =>
    rw [if_pos rfl] at q1 ⊢
    exact tM_at k1 (r.ext x1) q1
  | false =>
    rw [if_neg Bool.false_ne_true] at q1 ⊢
    exact q1.here k1 (rep_bl.mpr rfl)
theorem me_or (ha : PE X a (tM X.K E ma)) (hb : PE X (.BoolOp .Or (b :: rest) pos) (tM X.K E mb)) : PE X (.BoolOp .Or (a :: b :: rest) pos) (tM X.K E (mOrV ma mb)) := by
  refine pe_imp (pe_or ha hb) fun σ H Q hq => ?_
  obtain ⟨w, s, e, k, r, q⟩ := hq
  subst e
  refine tM_at k r ((PostW.asB (PostW.bind (Rel := EqB) q)).imp fun _ w1 v x1 k1 _ z => ?_)
  obtain ⟨b, e, q1⟩ := z
  refine ⟨b, e, ?_⟩
  cases b with
  | true =>
    rw [if_pos rfl] at q1 ⊢
    exact q1.here k1 (rep_bl.mpr rfl)
  | false =>
    rw [if_neg Bool.false_ne_true] at q1 ⊢
    exact tM_at k1 (r.ext x1) q1
theorem me_not (ha : PE X a (tM X.K E ma)) : PE X (.UnaryOp .Not a pos) (tM X.K E (mNotV ma)) := by
  refine pe_imp (pe_not ha) fun σ H Q hq => ?_
  obtain ⟨w, s, e, k, r, q⟩ := hq
  subst e
  refine tM_at k r ((PostW.asB (PostW.bind (Rel := EqB) q)).imp fun _ w1 v x1 k1 _ z => ?_)
  obtain ⟨b, e, q1⟩ := z
  exact ⟨b, e, q1.here k1 (rep_bl.mpr rfl)⟩
theorem me_if (hc : PT X c (tMT X.K E mc)) (ha : PE X a (tM X.K E ma)) (hb : PE X b (tM X.K E mb)) : PE X (.IfExp c a b pos) (tM X.K E (mIf mc ma mb)) := by
  refine pe_imp (pe_ifExp hc ha hb) fun σ H Q hq => ?_
  obtain ⟨w, s, e, k, r, q⟩ := hq
  subst e
  refine tMT_at k r ((PostW.bind (Rel := EqB) q).imp fun c w1 v x1 k1 p1 q1 => ?_)
  subst p1
  cases c with
  | true =>
    rw [if_pos rfl] at q1 ⊢
    exact tM_at k1 (r.ext x1) q1
  | false =>
    rw [if_neg Bool.false_ne_true] at q1 ⊢
    exact tM_at k1 (r.ext x1) q1
end
/-! ## -a -/
def opNeg : D → MH → R D
  | .int i, h => .ok (.int (-i)) h
  | _, _ => .bad
def mNeg (a : ME) : ME := fun s h => (a s h).bind opNeg
section
variable {X : Cx} {E : XK} {a : Expr} {ma : ME} {pos : Pos}
theorem me_neg (ha : PE X a (tM X.K E ma)) : PE X (.UnaryOp .USub a pos) (tM X.K E (mNeg ma)) := by
  refine pe_imp (pe_un un_neg ha) fun σ H Q hq => ?_
  obtain ⟨w, s, e, k, r, q⟩ := hq
  subst e
  refine tM_at k r ((PostW.bind (Rel := RepD X.K) q).imp fun d w1 v x1 k1 p1 q1 => ?_)
  unfold opNeg at q1
  split at q1
  · exact ⟨_, rep_int.mp p1, q1.here k1 (rep_int.mpr rfl)⟩
  · exact q1.elim
end
/-! ## arguments, displays -/
def mNil : MA := fun _ h => .ok [] h
def mCons (a : ME) (t : MA) : MA := fun s h => (a s h).bind fun x h1 => (t s h1).bind fun xs h2 => .ok (x :: xs) h2
def mTup (a : MA) : ME := fun s h => (a s h).bind fun xs h1 => if xs.length ≤ sizeLine then .ok (.tup xs) h1 else .bad
/-- a list, not held; held -/
def mLst (a : MA) : ME := fun s h => (a s h).bind fun xs h1 => if xs.length ≤ sizeLine then .ok (.lst xs) h1 else .bad
def mLstH (a : MA) : ME := fun s h => (a s h).bind fun xs h1 => if xs.length ≤ sizeLine then .ok (.ref h1.next) (h1.new (.lst xs)) else .bad
section
variable {X : Cx} {E : XK} {e : Expr} {es : List Expr} {ma : ME} {mt : MA} {pos : Pos}
theorem mar_nil : PA X [] (tMA X.K E mNil) := by
  refine pa_imp pa_nil fun σ H Q hq => ?_
  obtain ⟨w, s, e, k, r, q⟩ := hq
  subst e
  exact PostW.here (Rel := RepL X.K) q k Reps.nil
theorem mar_cons (ha : PE X e (tM X.K E ma)) (ht : PA X es (tMA X.K E mt)) (hs : starEach (e :: es) X.env = (false, eval e X.env) :: starEach es X.env) : PA X (e :: es) (tMA X.K E (mCons ma mt)) := by
  refine pa_imp (pa_cons ha ht hs) fun σ H Q hq => ?_
  obtain ⟨w, s, e, k, r, q⟩ := hq
  subst e
  refine tM_at k r ((PostW.bind (Rel := RepD X.K) q).imp fun x w1 v x1 k1 p1 q1 => ?_)
  refine tMA_at k1 (r.ext x1) ((PostW.bind (Rel := RepL X.K) q1).imp fun xs w2 vs x2 k2 p2 q2 => ?_)
  exact PostW.here (Rel := RepL X.K) q2 k2 (Reps.cons (p1.ext x2) p2)
theorem me_tup {x1 : Nat} (h : PA X es (tMA X.K E mt)) : PE X (.Tuple es x1 pos) (tM X.K E (mTup mt)) := by
  refine pe_imp (pe_tup h) fun σ H Q hq => ?_
  obtain ⟨w, s, e, k, r, q⟩ := hq
  subst e
  refine tMA_at k r ((PostW.bind (Rel := RepL X.K) q).imp fun xs w1 vs x1 k1 p1 q1 => ?_)
  split at q1
  · exact ⟨by rw [← p1.length]; assumption, q1.newT k1 p1⟩
  · exact q1.elim
theorem me_lst (h : PA X es (tMA X.K E mt)) : PE X (.List es pos) (tM X.K E (mLst mt)) := by
  refine pe_imp (pe_lst h) fun σ H Q hq => ?_
  obtain ⟨w, s, e, k, r, q⟩ := hq
  subst e
  refine tMA_at k r ((PostW.bind (Rel := RepL X.K) q).imp fun xs w1 vs x1 k1 p1 q1 => ?_)
  split at q1
  · exact ⟨by rw [← p1.length]; assumption, q1.newL k1 p1⟩
  · exact q1.elim
theorem me_lstH (h : PA X es (tMA X.K E mt)) : PE X (.List es pos) (tM X.K E (mLstH mt)) := by
  refine pe_imp (pe_lst h) fun σ H Q hq => ?_
  obtain ⟨w, s, e, k, r, q⟩ := hq
  subst e
  refine tMA_at k r ((PostW.bind (Rel := RepL X.K) q).imp fun xs w1 vs x1 k1 p1 q1 => ?_)
  split at q1
  · exact ⟨by rw [← p1.length]; assumption, q1.newH k1 p1⟩
  · exact q1.elim
end
/-! ## items, slices -/
def opIx : F2
  | .str x, .int i, h => if x.length ≤ sizeLine then match atI x.cps.toList i with
      | some c => .ok (.str ⟨#[c]⟩) h
      | none => .bad
    else .bad
  | d, .int i, h => match seqOf h d with
    | some xs => match atI xs i with
      | some x => .ok x h
      | none => .bad
    | none => .bad
  | _, _, _ => .bad
theorem atI_rep {K : PySem.W.Frag} {w : W3} {ds : List D} {vs : List V} {i : Int} {d : D} (r : Reps K w ds vs) (h : atI ds i = some d) : ∃ v, atI vs i = some v ∧ Rep K w d v := by
  unfold atI at h ⊢
  rw [← r.length]
  cases e : ixN ds.length i with
  | none => rw [e] at h; cases h
  | some j =>
    rw [e] at h
    obtain ⟨v, h1, h2⟩ := r.get (show ds[j]? = some d from h)
    exact ⟨v, h1, h2⟩
section
variable {X : Cx} {E : XK} {a b : Expr} {ma mb : ME} {pos : Pos}
theorem ir_ix : IxR X (rM X.K E opIx) := by
  intro value slice pins s σ H x y v u Q I rx ry h hs
  obtain ⟨w, d, e, eH, k, rd, re, q⟩ := h
  subst eH
  unfold opIx at q
  split at q
  · rw [rep_str] at rd
    rw [rep_int] at re
    split at q
    · split at q
      · rename_i hz _ c hc
        exact ix_str value slice pins s σ _ x y v u Q I rx ry ⟨_, _, c, rd, re, hz, hc, q.here k (rep_str.mpr rfl)⟩ hs
      · exact q.elim
    · exact q.elim
  · rw [rep_int] at re
    split at q
    · rename_i xs e1
      split at q
      · rename_i z hz
        obtain ⟨p, vs, ex, h2, h3⟩ := seq_at k rd e1
        obtain ⟨z', h4, h5⟩ := atI_rep h3 hz
        rcases h2 with h2 | h2
        · exact ix_list value slice pins s σ _ x y v u Q I rx ry ⟨p, vs, _, z', ex, re, h2, h4, q.here k h5⟩ hs
        · exact ix_tup value slice pins s σ _ x y v u Q I rx ry ⟨p, vs, _, z', ex, re, h2, h4, q.here k h5⟩ hs
      · exact q.elim
    · exact q.elim
  · exact q.elim
theorem me_ix (ha : PE X a (tM X.K E ma)) (hb : PE X b (tM X.K E mb)) (hs : PlainIx b) : PE X (.Subscript a b pos) (tM X.K E (mOp opIx ma mb)) :=
  pe_imp (pe_ix ir_ix ha hb hs) fun _ _ _ h => tOp_of h
/-- a slice's part -/
abbrev MO' := Sl → MH → R (Option Int)
def mNoPart : MO' := fun _ h => .ok none h
def mPart (m : ME) : MO' := fun s h => (m s h).bind fun d h1 => match d with
  | .int i => .ok (some i) h1
  | _ => .bad
abbrev EqO : Rl (Option Int) (Option Int) := fun _ a b => a = b
def tMO (K : PySem.W.Frag) (E : XK) (m : MO') : TO := fun σ H Q => ∃ w s, w.H = H ∧ Ok K w ∧ SRep K w s σ ∧ PostW K E EqO w (m s w.h) fun _ w' v => Q v w'.H
theorem po_imp {e : Option Expr} {t t' : TO} (h : PO X e t) (hi : ∀ σ H Q, t' σ H Q → t σ H Q) : PO X e t' := ⟨fun pins s σ H Q I q => h.run pins s σ H Q I (hi σ H Q q)⟩
theorem mo_none : PO X none (tMO X.K E mNoPart) := by
  refine po_imp po_none fun σ H Q hq => ?_
  obtain ⟨w, s, e, k, r, q⟩ := hq
  subst e
  exact PostW.here (Rel := EqO) q k rfl
theorem mo_some (ha : PE X a (tM X.K E ma)) : PO X (some a) (tMO X.K E (mPart ma)) := by
  refine po_imp (po_some ha) fun σ H Q hq => ?_
  obtain ⟨w, s, e, k, r, q⟩ := hq
  subst e
  refine tM_at k r ((PostW.bind (Rel := RepD X.K) q).imp fun d w1 v x1 k1 p1 q1 => ?_)
  split at q1
  · exact ⟨_, rep_int.mp p1, PostW.here (Rel := EqO) q1 k1 rfl⟩
  · exact q1.elim
def cutD {α : Type} (xs : List α) (lo hi : Option Int) : List α := (xs.drop (HT.sIx xs.length 0 lo)).take (HT.sIx xs.length xs.length hi - HT.sIx xs.length 0 lo)
theorem cut_whole {α : Type} {xs : List α} {lo hi : Option Int} (h1 : HT.sIx xs.length 0 lo = 0) (h2 : HT.sIx xs.length xs.length hi = xs.length) : cutD xs lo hi = xs := by
  unfold cutD
  rw [h1, h2, List.drop_zero, Nat.sub_zero, List.take_length]
theorem cut_rep {K : PySem.W.Frag} {w : W3} {ds : List D} {vs : List V} {lo hi : Option Int} (r : Reps K w ds vs) : Reps K w (cutD ds lo hi) (cutV vs lo hi) := by
  unfold cutD cutV
  rw [← r.length]
  exact (r.drop _).take _
theorem reps_ints {K : PySem.W.Frag} {w : W3} : ∀ ns : List Int, Reps K w (ns.map D.int) (ns.map V.int)
  | [] => Reps.nil
  | n :: ns => Reps.cons (rep_int.mpr rfl) (reps_ints ns)
def opCut : D → Option Int → Option Int → MH → R D
  | .str x, lo, hi, h => if x.length ≤ sizeLine then .ok (.str (cutS x lo hi)) h else .bad
  | .tup xs, lo, hi, h => .ok (.tup (cutD xs lo hi)) h
  | .scr ns, lo, hi, h => .ok (.lst (cutD (ns.map .int) lo hi)) h
  | d, lo, hi, h => match lstOf h d with
    | some xs => .ok (.lst (cutD xs lo hi)) h
    | none => .bad
/-- a slice of a list that the mirror heap holds -/
def opCutH : D → Option Int → Option Int → MH → R D := fun d lo hi h => match lstOf h d with
    | some xs => .ok (.ref h.next) (h.new (.lst (cutD xs lo hi)))
    | none => .bad
def mCut (f : D → Option Int → Option Int → MH → R D) (a : ME) (lo hi : MO') : ME := fun s h => (a s h).bind fun d h1 => (lo s h1).bind fun l h2 => (hi s h2).bind fun u h3 => f d l u h3
def rCut (K : PySem.W.Frag) (E : XK) (f : D → Option Int → Option Int → MH → R D) : V → Option Int → Option Int → Hp → VK → Prop := fun x lo hi H Q => ∃ w d, w.H = H ∧ Ok K w ∧ Rep K w d x ∧ PostW K E (RepD K) w (f d lo hi w.h) fun _ w' v => Q v w'.H
theorem sr_cut : SlR X (rCut X.K E opCut) := by
  intro pins s σ H x v vl vu lo hi sl Q I rx hsl pl pu h
  obtain ⟨w, d, eH, k, rd, q⟩ := h
  subst eH
  unfold opCut at q
  split at q
  · rw [rep_str] at rd
    split at q
    · exact sl_str pins s σ _ x v vl vu _ _ sl Q I rx hsl pl pu ⟨_, rd, by assumption, q.here k (rep_str.mpr rfl)⟩
    · exact q.elim
  · rename_i xs
    obtain ⟨p, vs, ex, h2, h3⟩ := tup_at rd
    refine sl_tupA pins s σ _ x v vl vu _ _ sl Q I rx hsl pl pu ⟨p, vs, ex, h2, fun z => ?_, fun z => q.newT k (cut_rep h3)⟩
    rw [cut_whole (by rw [h3.length]; exact z.1) (by rw [h3.length]; exact z.2)] at q
    subst ex
    exact q.here k rd
  · simp only [Rep] at rd
    obtain ⟨a, ex, h2⟩ := rd
    exact sl_list pins s σ _ x v vl vu _ _ sl Q I rx hsl pl pu ⟨a, _, ex, h2.sq, q.newL k (cut_rep (reps_ints _))⟩
  · split at q
    · rename_i xs e1
      obtain ⟨p, vs, ex, h2, h3⟩ := lst_at k rd e1
      exact sl_list pins s σ _ x v vl vu _ _ sl Q I rx hsl pl pu ⟨p, vs, ex, SqL.of h2, q.newL k (cut_rep h3)⟩
    · exact q.elim
theorem sr_cutH : SlR X (rCut X.K E opCutH) := by
  intro pins s σ H x v vl vu lo hi sl Q I rx hsl pl pu h
  obtain ⟨w, d, eH, k, rd, q⟩ := h
  subst eH
  unfold opCutH at q
  split at q
  · rename_i xs e1
    obtain ⟨p, vs, ex, h2, h3⟩ := lst_at k rd e1
    exact sl_list pins s σ _ x v vl vu _ _ sl Q I rx hsl pl pu ⟨p, vs, ex, SqL.of h2, q.newH k (cut_rep h3)⟩
  · exact q.elim
theorem me_cut {f : D → Option Int → Option Int → MH → R D} {lo hi : Option Expr} {ml mh : MO'} {p2 : Pos} (hr : SlR X (rCut X.K E f)) (ha : PE X a (tM X.K E ma)) (hl : PO X lo (tMO X.K E ml)) (hh : PO X hi (tMO X.K E mh)) :
    PE X (.Subscript a (.Slice lo hi none p2) pos) (tM X.K E (mCut f ma ml mh)) := by
  refine pe_imp (pe_slice hr ha hl hh) fun σ H Q hq => ?_
  obtain ⟨w, s, e, k, r, q⟩ := hq
  subst e
  refine tM_at k r ((PostW.bind (Rel := RepD X.K) q).imp fun d w1 v x1 k1 p1 q1 => ?_)
  refine ⟨w1, s, rfl, k1, r.ext x1, (PostW.bind (Rel := EqO) q1).imp fun l w2 _ x2 k2 e2 q2 => ?_⟩
  subst e2
  refine ⟨w2, s, rfl, k2, r.ext (x1.trans x2), (PostW.bind (Rel := EqO) q2).imp fun u w3 _ x3 k3 e3 q3 => ?_⟩
  subst e3
  exact ⟨w3, d, rfl, k3, p1.ext (x2.trans x3), q3⟩
end
end Tb
end

section
set_option maxHeartbeats 4000000
namespace Tb
open PySem PySem.Spec L2
/-! ## statements: what comes of them -/
inductive RS where
  | nx (s : Sl) (h : MH)
  | brk (s : Sl) (h : MH)
  | ct (s : Sl) (h : MH)
  | ret (d : D) (h : MH)
  | exc (e : Ex) (h : MH)
  | bad
abbrev MS := Sl → MH → RS
abbrev PN := Sl → W3 → L2.St → Prop
structure EndsM where
  nx : PN
  bk : PN
  ct : PN
  rt : D → W3 → V → Prop
def PostS (K : PySem.W.Frag) (E : XK) (w : W3) (r : RS) (M : EndsM) : Prop := match r with
  | .nx s h => ∀ w' σ, w'.h = h → Ext w w' → Ok K w' → SRep K w' s σ → M.nx s w' σ
  | .brk s h => ∀ w' σ, w'.h = h → Ext w w' → Ok K w' → SRep K w' s σ → M.bk s w' σ
  | .ct s h => ∀ w' σ, w'.h = h → Ext w w' → Ok K w' → SRep K w' s σ → M.ct s w' σ
  | .ret d h => ∀ w' v, w'.h = h → Ext w w' → Ok K w' → Rep K w' d v → M.rt d w' v
  | .exc x h => ∀ w' cls d, w'.h = h → Ext w w' → Ok K w' → ExR K w' x cls d → E cls d w'.H
  | .bad => False
def endsM (D : Ends) : EndsM := ⟨fun _ w σ => D.nx σ w.H, fun _ w σ => D.bk σ w.H, fun _ w σ => D.ct σ w.H, fun _ w v => D.rt v w.H⟩
def RS.seq (r : RS) (f : Sl → MH → RS) : RS := match r with
  | .nx s h => f s h
  | r => r
def R.toS {α : Type} (r : R α) (f : α → MH → RS) : RS := match r with
  | .ok a h => f a h
  | .exc e h => .exc e h
  | .bad => .bad
section
variable {K : PySem.W.Frag} {E : XK} {w w1 : W3}
theorem PostS.from {r : RS} {M : EndsM} (h : PostS K E w r M) (e : Ext w w1) : PostS K E w1 r M := by
  cases r with
  | nx s h' => exact fun w' σ a b c d => h w' σ a (e.trans b) c d
  | brk s h' => exact fun w' σ a b c d => h w' σ a (e.trans b) c d
  | ct s h' => exact fun w' σ a b c d => h w' σ a (e.trans b) c d
  | ret s h' => exact fun w' σ a b c d => h w' σ a (e.trans b) c d
  | exc x h' => exact fun w' c d e' q o p => h w' c d e' (e.trans q) o p
  | bad => exact h
theorem PostS.seq {r : RS} {f : Sl → MH → RS} {M : EndsM} (h : PostS K E w (r.seq f) M) : PostS K E w r { M with nx := fun s w1 _ => PostS K E w1 (f s w1.h) M } := by
  cases r with
  | nx s h' =>
    intro w' σ e x k r
    subst e
    exact PostS.from h x
  | brk s h' => exact h
  | ct s h' => exact h
  | ret s h' => exact h
  | exc x h' => exact h
  | bad => exact h
theorem PostS.imp {r : RS} {M M' : EndsM} (h : PostS K E w r M) (hn : ∀ s w' σ, Ext w w' → Ok K w' → SRep K w' s σ → M.nx s w' σ → M'.nx s w' σ) (hb : ∀ s w' σ, Ext w w' → Ok K w' → SRep K w' s σ → M.bk s w' σ → M'.bk s w' σ)
    (hc : ∀ s w' σ, Ext w w' → Ok K w' → SRep K w' s σ → M.ct s w' σ → M'.ct s w' σ) (hr : ∀ d w' v, Ext w w' → Ok K w' → Rep K w' d v → M.rt d w' v → M'.rt d w' v) : PostS K E w r M' := by
  cases r with
  | nx s h' => exact fun w' σ a b c d => hn _ _ _ b c d (h w' σ a b c d)
  | brk s h' => exact fun w' σ a b c d => hb _ _ _ b c d (h w' σ a b c d)
  | ct s h' => exact fun w' σ a b c d => hc _ _ _ b c d (h w' σ a b c d)
  | ret s h' => exact fun w' σ a b c d => hr _ _ _ b c d (h w' σ a b c d)
  | exc x h' => exact h
  | bad => exact h
theorem PostW.toS {α β : Type} {Rel : Rl α β} {r : R α} {f : α → MH → RS} {M : EndsM} (h : PostS K E w (r.toS f) M) : PostW K E Rel w r (fun a w1 _ => PostS K E w1 (f a w1.h) M) := by
  cases r with
  | ok a h' =>
    intro w' v e x o p
    subst e
    exact PostS.from h x
  | exc x h' => exact h
  | bad => exact h
theorem PostS.hereN {s : Sl} {σ : L2.St} {M : EndsM} (h : PostS K E w (.nx s w.h) M) (k : Ok K w) (r : SRep K w s σ) : M.nx s w σ := h w σ rfl (Ext.refl w) k r
end
def tMS (K : PySem.W.Frag) (E : XK) (m : MS) : TS := fun D σ H => ∃ w s, w.H = H ∧ Ok K w ∧ SRep K w s σ ∧ PostS K E w (m s w.h) (endsM D)
theorem tMS_at {K : PySem.W.Frag} {E : XK} {m : MS} {w : W3} {s : Sl} {σ : L2.St} {D : Ends} (k : Ok K w) (r : SRep K w s σ) (h : PostS K E w (m s w.h) (endsM D)) : tMS K E m D σ w.H := ⟨w, s, rfl, k, r, h⟩
def mSkip : MS := fun s h => .nx s h
def mSeq (a b : MS) : MS := fun s h => (a s h).seq b
def mBreak : MS := fun s h => .brk s h
def mCont : MS := fun s h => .ct s h
def mRet (m : ME) : MS := fun s h => (m s h).toS fun d h1 => .ret d h1
def mRetN : MS := fun _ h => .ret .non h
def mIfS (c : MT) (a b : MS) : MS := fun s h => (c s h).toS fun k h1 => if k = true then a s h1 else b s h1
def mDo (m : ME) : MS := fun s h => (m s h).toS fun _ h1 => .nx s h1
section
variable {X : Cx} {E : XK} {st : Stmt} {rest : List Stmt} {ma mb : MS} {e : Expr} {m : ME} {pos : Pos}
theorem mss_nil : PSs X [] (tMS X.K E mSkip) := by
  refine pss_imp pss_nil fun D σ H hq => ?_
  obtain ⟨w, s, e, k, r, q⟩ := hq
  subst e
  exact PostS.hereN q k r
theorem mss_cons (h1 : PS X st (tMS X.K E ma)) (h2 : PSs X rest (tMS X.K E mb)) : PSs X (st :: rest) (tMS X.K E (mSeq ma mb)) := by
  refine pss_imp (pss_cons h1 h2) fun D σ H hq => ?_
  obtain ⟨w, s, e, k, r, q⟩ := hq
  subst e
  exact tMS_at k r ((PostS.seq q).imp (fun s' w' σ' x' k' r' z => tMS_at k' r' z) (fun _ _ _ _ _ _ z => z) (fun _ _ _ _ _ _ z => z) fun _ _ _ _ _ _ z => z)
theorem mss_one (h1 : PS X st (tMS X.K E ma)) : PSs X [st] (tMS X.K E ma) := pss_one h1
theorem ms_pass : PS X (.Pass pos) (tMS X.K E mSkip) := by
  refine ps_imp ps_pass fun D σ H hq => ?_
  obtain ⟨w, s, e, k, r, q⟩ := hq
  subst e
  exact PostS.hereN q k r
theorem ms_break : PS X (.Break pos) (tMS X.K E mBreak) := by
  refine ps_imp ps_break fun D σ H hq => ?_
  obtain ⟨w, s, e, k, r, q⟩ := hq
  subst e
  exact q w σ rfl (Ext.refl w) k r
theorem ms_cont : PS X (.Continue pos) (tMS X.K E mCont) := by
  refine ps_imp ps_continue fun D σ H hq => ?_
  obtain ⟨w, s, e, k, r, q⟩ := hq
  subst e
  exact q w σ rfl (Ext.refl w) k r
theorem ms_ret (h : PE X e (tM X.K E m)) : PS X (.Return (some e) pos) (tMS X.K E (mRet m)) := by
  refine ps_imp (ps_ret h) fun D σ H hq => ?_
  obtain ⟨w, s, e, k, r, q⟩ := hq
  subst e
  refine tM_at k r ((PostW.toS (Rel := RepD X.K) q).imp fun d w1 v x1 k1 p1 q1 => ?_)
  exact q1 w1 v rfl (Ext.refl w1) k1 p1
theorem ms_retN : PS X (.Return none pos) (tMS X.K E mRetN) := by
  refine ps_imp ps_retN fun D σ H hq => ?_
  obtain ⟨w, s, e, k, r, q⟩ := hq
  subst e
  exact q w .non rfl (Ext.refl w) k (rep_non.mpr rfl)
theorem ms_if {c : Expr} {a b : List Stmt} {mc : MT} (hc : PT X c (tMT X.K E mc)) (ha : PSs X a (tMS X.K E ma)) (hb : PSs X b (tMS X.K E mb)) : PS X (.If c a b pos) (tMS X.K E (mIfS mc ma mb)) := by
  refine ps_imp (ps_if hc ha hb) fun D σ H hq => ?_
  obtain ⟨w, s, e, k, r, q⟩ := hq
  subst e
  refine tMT_at k r ((PostW.toS (Rel := EqB) q).imp fun c w1 v x1 k1 p1 q1 => ?_)
  subst p1
  cases c with
  | true =>
    rw [if_pos rfl] at q1 ⊢
    exact tMS_at k1 (r.ext x1) q1
  | false =>
    rw [if_neg Bool.false_ne_true] at q1 ⊢
    exact tMS_at k1 (r.ext x1) q1
theorem ms_do (h : PE X e (tM X.K E m)) (hs : swapsWith e none pos.line X.env = pure false) : PS X (.Expr e pos) (tMS X.K E (mDo m)) := by
  refine ps_imp (ps_expr h hs) fun D σ H hq => ?_
  obtain ⟨w, s, e, k, r, q⟩ := hq
  subst e
  exact tM_at k r ((PostW.toS (Rel := RepD X.K) q).imp fun d w1 v x1 k1 p1 q1 => PostS.hereN q1 k1 (r.ext x1))
end
/-! ## targets: names and tuples of them -/
abbrev MG := D → Sl → Option Sl
abbrev MGs := List D → Sl → Option Sl
def mgName (i : Nat) : MG := fun d s => some (s.set i (some d))
def mgNil : MGs := fun ds s => match ds with
  | [] => some s
  | _ => none
def mgCons (g : MG) (gs : MGs) : MGs := fun ds s => match ds with
  | d :: r => (g d s).bind (gs r)
  | [] => none
def mgTup (n : Nat) (gs : MGs) : MG := fun d s => match d with
  | .tup xs => if xs.length = n then gs xs s else none
  | _ => none
/-- vs: the slots that are stored -/
def GOk (K : PySem.W.Frag) (vs : List Nat) (g : TG) (m : MG) : Prop := ∀ (v : V) (σ : L2.St) (w : W3) (d : D) (s s' : Sl) (Q : L2.St → Hp → Prop), Ok K w → SRep K w s σ → Rep K w d v → m d s = some s' →
  (∀ σ', SRep K w s' σ' → wipe σ' vs = wipe σ vs → Q σ' w.H) → g v σ w.H Q
def GsOk (K : PySem.W.Frag) (vs : List Nat) (g : TGs) (m : MGs) : Prop := ∀ (us : List V) (σ : L2.St) (w : W3) (ds : List D) (s s' : Sl) (Q : L2.St → Hp → Prop), Ok K w → SRep K w s σ → Reps K w ds us → m ds s = some s' →
  (∀ σ', SRep K w s' σ' → wipe σ' vs = wipe σ vs → Q σ' w.H) → g us σ w.H Q
theorem wipe_set {x : Option V} : ∀ {vs : List Nat} {σ : L2.St} {i : Nat}, i ∈ vs → wipe (σ.set i x) vs = wipe σ vs
  | [], _, _, h => absurd h (by simp)
  | v :: vs, σ, i, h => by
    by_cases hv : i ∈ vs
    · unfold wipe
      rw [wipe_set hv]
    · have e : i = v := by simpa [hv] using h
      subst e
      have aux : ∀ (us : List Nat) (τ : L2.St), i ∉ us → wipe (τ.set i x) us = (wipe τ us).set i x := by
        intro us
        induction us with
        | nil => intro τ _; rfl
        | cons u us ih =>
          intro τ hu
          unfold wipe
          rw [ih τ (fun z => hu (List.mem_cons_of_mem _ z)), List.set_comm _ _ (fun z => hu (by rw [z]; exact List.mem_cons_self))]
      unfold wipe
      rw [aux vs σ hv, List.set_set]
theorem go_name {K : PySem.W.Frag} {vs : List Nat} {i : Nat} (hi : i ∈ vs) : GOk K vs (gName i) (mgName i) := by
  intro v σ w d s s' Q k r p e h
  unfold mgName at e
  cases e
  exact h _ (r.set i p) (wipe_set hi)
theorem gos_nil {K : PySem.W.Frag} {vs : List Nat} : GsOk K vs gNil mgNil := by
  intro us σ w ds s s' Q k r p e h
  unfold mgNil at e
  split at e
  · cases e
    exact ⟨p.unnil, h σ r rfl⟩
  · cases e
theorem gos_cons {K : PySem.W.Frag} {vs : List Nat} {g : TG} {m : MG} {gs : TGs} {ms : MGs} (h1 : GOk K vs g m) (h2 : GsOk K vs gs ms) : GsOk K vs (gCons g gs) (mgCons m ms) := by
  intro us σ w ds s s' Q k r p e h
  unfold mgCons at e
  split at e
  · rename_i d ds'
    obtain ⟨u, us', rfl, p1, p2⟩ := p.uncons
    cases e1 : m d s with
    | none => rw [e1] at e; cases e
    | some s1 =>
      rw [e1] at e
      refine ⟨u, us', rfl, h1 u σ w d s s1 _ k r p1 e1 fun σ1 r1 z1 => ?_⟩
      exact h2 us' σ1 w ds' s1 s' _ k r1 p2 e fun σ2 r2 z2 => h σ2 r2 (z2.trans z1)
  · cases e
theorem go_tup {K : PySem.W.Frag} {vs : List Nat} {n : Nat} {gs : TGs} {ms : MGs} (h : GsOk K vs gs ms) : GOk K vs (gTup K n gs) (mgTup n ms) := by
  intro v σ w d s s' Q k r p e hq
  unfold mgTup at e
  split at e
  · split at e
    · rename_i xs hz
      obtain ⟨a, us, rfl, h2, h3⟩ := tup_at p
      exact ⟨a, us, rfl, h2, by rw [← h3.length]; exact hz, h us σ w xs s s' Q k r h3 e hq⟩
    · cases e
  · cases e
/-! ## what is walked -/
abbrev Gd := Option (Nat × List D)
def gOk (g : Gd) (h : MH) : Prop := match g with
  | none => True
  | some (n, xs) => h.get n = some (.lst xs)
structure Walks (K : PySem.W.Frag) (w : W3) (J : L2.It) (p : List D × Gd) : Prop where
  go : ∀ i w', Ext w w' → Ok K w' → gOk p.2 w'.h → i < p.1.length → J.go i w'.H
  yl : ∀ i w' x H' d, Ext w w' → Ok K w' → gOk p.2 w'.h → p.1[i]? = some d → J.yld i w'.H x H' → ∃ w'', w''.H = H' ∧ w''.h = w'.h ∧ Ext w' w'' ∧ Ok K w'' ∧ Rep K w'' d x
  st : ∀ w', Ext w w' → Ok K w' → gOk p.2 w'.h → J.stop p.1.length w'.H
abbrev MI := Sl → MH → R (List D × Gd)
abbrev RelI (K : PySem.W.Frag) : Rl (List D × Gd) L2.It := fun w p J => Walks K w J p
def tMI (K : PySem.W.Frag) (E : XK) (m : MI) : TI := fun σ H Q => ∃ w s, w.H = H ∧ Ok K w ∧ SRep K w s σ ∧ PostW K E (RelI K) w (m s w.h) fun _ w' J => Q J w'.H
theorem pi_imp {X : Cx} {tg e : Expr} {t t' : TI} (h : PI X tg e t) (hi : ∀ σ H Q, t' σ H Q → t σ H Q) : PI X tg e t' := ⟨fun pins s σ H Q I q => h.run pins s σ H Q I (hi σ H Q q)⟩
section
variable {K : PySem.W.Frag} {w : W3}
theorem TupAt.inj {X : Cx} {a : Addr} {xs : List V} (h : TupAt K w a xs) : SqT K w.H a xs := h.sq
/-- a tuple is walked -/
theorem walks_tup {xs : List D} {v : V} (r : Rep K w (.tup xs) v) : ∃ a, v = .ref a ∧ (∃ vs, SqT K w.H a vs) ∧ Walks K w (Itt K a) (xs, none) := by
  have r0 := r
  simp only [Rep] at r
  obtain ⟨a, vs, rfl, h2, h3⟩ := r
  refine ⟨a, rfl, ⟨vs, h2.sq⟩, ⟨fun i w' x k g hi => ?_, fun i w' y H' d x k g e hy => ?_, fun w' x k g => ?_⟩⟩
  · have hi' : i < vs.length := by rw [← h3.length]; exact hi
    exact ⟨vs, vs[i], (h2.ext x).sq, by simp [hi']⟩
  · obtain ⟨e1, hy⟩ := hy
    subst e1
    obtain ⟨v, e2, p⟩ := h3.get e
    have e3 := hy vs (h2.ext x).sq
    rw [e2] at e3; cases e3
    exact ⟨w', rfl, rfl, Ext.refl w', k, p.ext x⟩
  · exact ⟨vs, (h2.ext x).sq, by rw [h3.length]; exact Nat.le_refl _⟩
theorem walks_lst {xs : List D} {v : V} (r : Rep K w (.lst xs) v) : ∃ a, v = .ref a ∧ (∃ vs, SqL K w.H a vs) ∧ Walks K w (Itl K a) (xs, none) := by
  simp only [Rep] at r
  obtain ⟨a, vs, rfl, h2, h3⟩ := r
  refine ⟨a, rfl, ⟨vs, h2.sq⟩, ⟨fun i w' x k g hi => ?_, fun i w' y H' d x k g e hy => ?_, fun w' x k g => ?_⟩⟩
  · have hi' : i < vs.length := by rw [← h3.length]; exact hi
    exact ⟨vs, vs[i], (h2.ext x).sq, by simp [hi']⟩
  · obtain ⟨e1, hy⟩ := hy
    subst e1
    obtain ⟨v, e2, p⟩ := h3.get e
    have e3 := hy vs (h2.ext x).sq
    rw [e2] at e3; cases e3
    exact ⟨w', rfl, rfl, Ext.refl w', k, p.ext x⟩
  · exact ⟨vs, (h2.ext x).sq, by rw [h3.length]; exact Nat.le_refl _⟩
theorem walks_ref {n : Nat} {xs : List D} {v : V} (k0 : Ok K w) (r : Rep K w (.ref n) v) (hn : w.h.get n = some (.lst xs)) : ∃ a, v = .ref a ∧ (∃ vs, SqL K w.H a vs) ∧ Walks K w (Itl K a) (xs, some (n, xs)) := by
  simp only [Rep] at r
  obtain ⟨hlt, rfl⟩ := r
  obtain ⟨vs0, h1, h2⟩ := (k0.dom n _ hn).2
  have at' : ∀ w', Ext w w' → Ok K w' → gOk (some (n, xs)) w'.h → ∃ vs, w'.H (w.io n) = some (.lst vs) ∧ Reps K w' xs vs := fun w' x k g => by
    obtain ⟨vs, q1, q2⟩ := (k.dom n _ g).2
    rw [x.io n hlt] at q1
    exact ⟨vs, q1, q2⟩
  refine ⟨_, rfl, ⟨vs0, SqL.of h1⟩, ⟨fun i w' x k g hi => ?_, fun i w' y H' d x k g e hy => ?_, fun w' x k g => ?_⟩⟩
  · obtain ⟨vs, q1, q2⟩ := at' w' x k g
    have hi' : i < vs.length := by rw [← q2.length]; exact hi
    exact ⟨vs, vs[i], SqL.of q1, by simp [hi']⟩
  · obtain ⟨e1, hy⟩ := hy
    subst e1
    obtain ⟨vs, q1, q2⟩ := at' w' x k g
    obtain ⟨v, e2, p⟩ := q2.get e
    have e3 := hy vs (SqL.of q1)
    rw [e2] at e3; cases e3
    exact ⟨w', rfl, rfl, Ext.refl w', k, p⟩
  · obtain ⟨vs, q1, q2⟩ := at' w' x k g
    exact ⟨vs, SqL.of q1, by rw [q2.length]; exact Nat.le_refl _⟩
def rangeD (lo : Int) (n : Nat) : List D := (List.range n).map fun i => .int (lo + (i : Nat))
theorem walks_range {lo : Int} {n : Nat} : Walks K w (Itr lo n) (rangeD lo n, none) := by
  refine ⟨fun i w' x k g hi => ?_, fun i w' y H' d x k g e hy => ?_, fun w' x k g => ?_⟩
  · show i < n
    simpa [rangeD] using hi
  · obtain ⟨e1, rfl⟩ := hy
    subst e1
    refine ⟨w', rfl, rfl, Ext.refl w', k, ?_⟩
    unfold rangeD at e
    rw [List.getElem?_map, Option.map_eq_some_iff] at e
    obtain ⟨j, e2, rfl⟩ := e
    have e3 : j = i := by
      have := (List.getElem?_eq_some_iff.mp e2).2
      simpa using this.symm
    subst e3
    exact rep_int.mpr rfl
  · show n ≤ _
    simp [rangeD]
end
end Tb
end

section
set_option maxHeartbeats 4000000
namespace Tb
open PySem PySem.Spec L2
/-! ## walking a value -/
def itOf : D → MH → R (List D × Gd)
  | .tup xs, h => .ok (xs, none) h
  | .lst xs, h => .ok (xs, none) h
  | .str x, h => .ok (x.cps.toList.map fun c => .str ⟨#[c]⟩, none) h
  | .ref n, h => match h.get n with
    | some (.lst xs) => .ok (xs, some (n, xs)) h
    | none => .bad
  | _, _ => .bad
def mIter (m : ME) : MI := fun s h => (m s h).bind itOf
theorem walks_str {K : PySem.W.Frag} {w : W3} {x : Str} : Walks K w (Its x) (x.cps.toList.map fun c => .str ⟨#[c]⟩, none) := by
  refine ⟨fun i w' _ k g hi => ?_, fun i w' y H' d _ k g e hy => ?_, fun w' _ k g => ?_⟩
  · show i < x.cps.size
    simpa using hi
  · obtain ⟨e1, c, e2, rfl⟩ := hy
    subst e1
    refine ⟨w', rfl, rfl, Ext.refl w', k, ?_⟩
    rw [List.getElem?_map, Option.map_eq_some_iff] at e
    obtain ⟨j, e3, rfl⟩ := e
    rw [Array.getElem?_toList, e2] at e3
    cases e3
    exact rep_str.mpr rfl
  · show x.cps.size ≤ _
    simp
section
variable {X : Cx} {E : XK} {tg e : Expr} {m : ME}
theorem mi_val (he : PE X e (tM X.K E m)) : PI X tg e (tMI X.K E (mIter m)) := by
  refine ⟨fun pins s σ H R I hq => ?_⟩
  obtain ⟨w, sl, eH, k, r, q⟩ := hq
  subst eH
  refine thn (he.run pins s σ w.H
      (fun v H1 => ∃ w1 d, w1.H = H1 ∧ Ok X.K w1 ∧ Rep X.K w1 d v ∧ PostW X.K E (RelI X.K) w1 (itOf d w1.h) fun _ w' J => R J w'.H)
      I (tM_at k r ((PostW.bind (Rel := RepD X.K) q).imp fun d w1 v _ k1 p1 q1 => ⟨w1, d, rfl, k1, p1, q1⟩))) fun u s1 hv => ?_
  obtain ⟨v, H1, I1, rv, w1, d, e1, k1, p1, q1⟩ := hv
  subst e1
  unfold itOf at q1
  split at q1
  · obtain ⟨a, rfl, ⟨vs, hs⟩, wk⟩ := walks_tup p1
    cases rv
    obtain ⟨its, r2, ht, _⟩ := I1.tuple hs
    exact wpAny_pyIter_tuple (show s1.heap.IsTuple a its.toArray from ht)
      (pi_one (tk := s1.toks) I1 _ (turn_tuple a _) ⟨_, Heap.get?_push_size _ rfl, rfl, rfl⟩
        (PostW.here (Rel := RelI X.K) q1 k1 wk))
  · obtain ⟨a, rfl, ⟨vs, hs⟩, wk⟩ := walks_lst p1
    cases rv
    obtain ⟨its, r2, ht, _⟩ := I1.list hs
    exact wpAny_pyIter_list ht.isList
      (pi_one (tk := s1.toks) I1 _ (turn_list a _) ⟨_, Heap.get?_push_size _ rfl, rfl, rfl⟩
        (PostW.here (Rel := RelI X.K) q1 k1 wk))
  · rename_i x
    have e2 := rep_str.mp p1
    subst e2
    obtain ⟨t, rfl⟩ := rv
    have wk : Walks X.K w1 (Its x) (x.cps.toList.map fun c => D.str ⟨#[c]⟩, none) := walks_str
    have q2 := PostW.here (Rel := RelI X.K) q1 k1 wk
    cases ha : x.cps.all (· < 128) with
    | false =>
      exact wpAny_pyIter_wide ha
        (pi_one (tk := s1.toks) I1 _ (turn_str _ x t "str_iterator" (.inr rfl)) ⟨_, Heap.get?_push_size _ rfl, rfl, rfl⟩ q2)
    | true =>
      exact wpAny_pyIter_ascii ha
        (pi_one (tk := s1.toks) I1 _ (turn_str _ x t "str_ascii_iterator" (.inl rfl)) ⟨_, Heap.get?_push_size _ rfl, rfl, rfl⟩ q2)
  · split at q1
    · rename_i n h' xs e2
      obtain ⟨a, rfl, ⟨vs, hs⟩, wk⟩ := walks_ref k1 p1 e2
      cases rv
      obtain ⟨its, r2, ht, _⟩ := I1.list hs
      exact wpAny_pyIter_list ht.isList
        (pi_one (tk := s1.toks) I1 _ (turn_list a _) ⟨_, Heap.get?_push_size _ rfl, rfl, rfl⟩
          (PostW.here (Rel := RelI X.K) q1 k1 wk))
    · exact q1.elim
  · exact q1.elim
/-- range(a), range(a, b) -/
def mRange1 (m : ME) : MI := fun s h => (m s h).bind fun d h1 => match d with
  | .int j => if -(2 ^ 62) ≤ j ∧ j < 2 ^ 62 then .ok (rangeD 0 j.toNat, none) h1 else .bad
  | _ => .bad
def mRange2 (m n : ME) : MI := fun s h => (m s h).bind fun d h1 => (n s h1).bind fun e h2 => match d, e with
  | .int i, .int j => if -(2 ^ 62) ≤ i ∧ i < 2 ^ 62 ∧ -(2 ^ 62) ≤ j ∧ j < 2 ^ 62 then .ok (rangeD i (j - i).toNat, none) h2 else .bad
  | _, _ => .bad
theorem mi_range1 {a : Expr} {p pos : Pos} (hg : Gl X "range") (hm : X.mg "range" = none) (ha : PE X a (tM X.K E m)) (hs : starEach [a] X.env = [(false, eval a X.env)]) :
    PI X tg (.Call (.Name "range" p) [a] [] pos) (tMI X.K E (mRange1 m)) := by
  refine pi_imp (pi_range1 hg hm (pa_cons ha pa_nil hs) hs) fun σ H Q hq => ?_
  obtain ⟨w, s, e, k, r, q⟩ := hq
  subst e
  refine tM_at k r ((PostW.bind (Rel := RepD X.K) q).imp fun d w1 v x1 k1 p1 q1 => ?_)
  split at q1
  · split at q1
    · rename_i hz
      exact ⟨_, congrArg (fun z => [z]) (rep_int.mp p1), hz.1, hz.2, PostW.here (Rel := RelI X.K) q1 k1 (by simpa using walks_range)⟩
    · exact q1.elim
  · exact q1.elim
theorem mi_range2 {a b : Expr} {n : ME} {p pos : Pos} (hg : Gl X "range") (hm : X.mg "range" = none) (ha : PE X a (tM X.K E m)) (hb : PE X b (tM X.K E n)) (hs : starEach [a, b] X.env = [(false, eval a X.env), (false, eval b X.env)]) (hs2 : starEach [b] X.env = [(false, eval b X.env)]) :
    PI X tg (.Call (.Name "range" p) [a, b] [] pos) (tMI X.K E (mRange2 m n)) := by
  refine pi_imp (pi_range2 hg hm (pa_cons ha (pa_cons hb pa_nil hs2) (by rw [hs, hs2])) hs hs2) fun σ H Q hq => ?_
  obtain ⟨w, s, e, k, r, q⟩ := hq
  subst e
  show tM X.K E m σ w.H fun x H1 => tM X.K E n σ H1 fun y H2 => ∃ i j : Int, [x, y] = [V.int i, V.int j] ∧ (-(2 ^ 62) ≤ i ∧ i < 2 ^ 62 ∧ -(2 ^ 62) ≤ j ∧ j < 2 ^ 62) ∧ Q (Itr i (j - i).toNat) H2
  refine tM_at k r ((PostW.bind (Rel := RepD X.K) q).imp fun d w1 v x1 k1 p1 q1 => ?_)
  refine tM_at k1 (r.ext x1) ((PostW.bind (Rel := RepD X.K) q1).imp fun d2 w2 v2 x2 k2 p2 q2 => ?_)
  split at q2
  · split at q2
    · rename_i hz
      refine ⟨_, _, ?_, hz, PostW.here (Rel := RelI X.K) q2 k2 walks_range⟩
      rw [rep_int.mp p1, rep_int.mp p2]
    · exact q2.elim
  · exact q2.elim
end
/-! ## for -/
open Classical in
noncomputable def forLoop (g : Gd) (tg : MG) (body : MS) : List D → Sl → MH → RS
  | [], s, h => if gOk g h then .nx s h else .bad
  | x :: xs, s, h => if gOk g h then (match tg x s with
      | some s1 => (match body s1 h with
        | .nx s2 h2 => forLoop g tg body xs s2 h2
        | .ct s2 h2 => forLoop g tg body xs s2 h2
        | .brk s2 h2 => .nx s2 h2
        | .ret d h2 => .ret d h2
        | .exc e h2 => .exc e h2
        | .bad => .bad)
      | none => .bad) else .bad
noncomputable def mFor (it : MI) (tg : MG) (body : MS) : MS := fun s h => (it s h).toS fun p h1 => forLoop p.2 tg body p.1 s h1
theorem wipe_nil {σ : L2.St} : wipe σ [] = σ := rfl
section
variable {X : Cx} {E : XK} {tg iter : Expr} {body : List Stmt} {mi : MI} {g : TG} {mg : MG} {mb : MS} {vs : List Nat} {pos : Pos}
theorem ms_for (hp : PassesOwn (model X.prog X.w) X.A X.env X.xe) (hc : X.calm = true) (hi : PI X tg iter (tMI X.K E mi)) (hg : PG X tg g) (gk : GOk X.K vs g mg) (hb : PSs X body (tMS X.K E mb))
    (hs : ∀ x, foldedSetIterable iter X.env x = pure x) : PS X (.For tg iter body [] pos) (tMS X.K E (mFor mi mg mb)) := by
  refine ps_imp (ps_for hp hc hi hg hb hs) fun D σ H hq => ?_
  obtain ⟨w, s, e, k, r, q⟩ := hq
  subst e
  refine ⟨w, s, rfl, k, r, (PostW.toS (Rel := RelI X.K) q).imp fun p w1 J x1 k1 wk q1 => ?_⟩
  refine ⟨fun i m σ' H' => m = p.1.length - i ∧ i ≤ p.1.length ∧ ∃ w' s', w'.H = H' ∧ Ext w1 w' ∧ Ok X.K w' ∧ SRep X.K w' s' σ' ∧ PostS X.K E w' (forLoop p.2 mg mb (p.1.drop i) s' w'.h) (endsM D),
    ⟨p.1.length, by simp, Nat.zero_le _, w1, s, rfl, Ext.refl w1, k1, r.ext x1, by rw [List.drop_zero]; exact q1⟩, ?_⟩
  rintro i m σ' H' ⟨rfl, hi', w', s', rfl, x', k', r', q'⟩
  by_cases hlt : i < p.1.length
  · rw [List.drop_eq_getElem_cons hlt] at q'
    unfold forLoop at q'
    split at q'
    · rename_i hgd
      split at q'
      · rename_i s1 hs1
        refine .inr ⟨wk.go i w' x' k' hgd hlt, fun σ2 H2 => ∃ w2 s2, w2.H = H2 ∧ Ext w1 w2 ∧ Ok X.K w2 ∧ SRep X.K w2 s2 σ2 ∧ PostS X.K E w2 (forLoop p.2 mg mb (p.1.drop (i + 1)) s2 w2.h) (endsM D), fun σ2 H2 z => ?_, fun x H2 hy => ?_⟩
        · obtain ⟨w2, s2, a1, a2, a3, a4, a5⟩ := z
          exact ⟨p.1.length - (i + 1), by omega, rfl, hlt, w2, s2, a1, a2, a3, a4, a5⟩
        · obtain ⟨w2, e2, eh, x2, k2, p2⟩ := wk.yl i w' x H2 _ x' k' hgd (List.getElem?_eq_getElem hlt) hy
          subst e2
          refine gk x σ' w2 _ s' s1 _ k2 (r'.ext x2) p2 hs1 fun σ3 r3 _ => ?_
          refine tMS_at k2 r3 ?_
          rw [eh]
          have xx := x'.trans x2
          cases hbd : mb s1 w'.h with
          | nx s2 h2 =>
            rw [hbd] at q'
            exact fun w3 σ3 e3 x3 k3 r3 => ⟨w3, s2, rfl, xx.trans x3, k3, r3, by rw [e3]; exact PostS.from q' (x2.trans x3)⟩
          | ct s2 h2 =>
            rw [hbd] at q'
            exact fun w3 σ3 e3 x3 k3 r3 => ⟨w3, s2, rfl, xx.trans x3, k3, r3, by rw [e3]; exact PostS.from q' (x2.trans x3)⟩
          | brk s2 h2 =>
            rw [hbd] at q'
            exact fun w3 σ3 e3 x3 k3 r3 => q' w3 σ3 e3 (x2.trans x3) k3 r3
          | ret d h2 =>
            rw [hbd] at q'
            exact fun w3 v e3 x3 k3 p3 => q' w3 v e3 (x2.trans x3) k3 p3
          | exc ex h2 =>
            rw [hbd] at q'
            exact fun w3 c d e3 x3 k3 p3 => q' w3 c d e3 (x2.trans x3) k3 p3
          | bad =>
            rw [hbd] at q'
            exact q'
      · exact q'.elim
    · exact q'.elim
  · have e : i = p.1.length := by omega
    subst e
    rw [List.drop_length] at q'
    unfold forLoop at q'
    split at q'
    · rename_i hgd
      exact .inl ⟨wk.st w' x' k' hgd, PostS.hereN q' k' r'⟩
    · exact q'.elim
end
/-! ## while -/
def whileLoop (c : MT) (body : MS) : Nat → Sl → MH → RS
  | 0, _, _ => .bad
  | n + 1, s, h => (c s h).toS fun b h1 => if b = true then (match body s h1 with
      | .nx s2 h2 => whileLoop c body n s2 h2
      | .ct s2 h2 => whileLoop c body n s2 h2
      | .brk s2 h2 => .nx s2 h2
      | .ret d h2 => .ret d h2
      | .exc e h2 => .exc e h2
      | .bad => .bad) else .nx s h1
/-- so many turns at the most -/
def mWhile (c : MT) (body : MS) : MS := whileLoop c body 1000000
section
variable {X : Cx} {E : XK} {c : Expr} {body : List Stmt} {mc : MT} {mb : MS} {pos : Pos}
theorem ms_while (hp : PassesOwn (model X.prog X.w) X.A X.env X.xe) (hc : PT X c (tMT X.K E mc)) (hb : PSs X body (tMS X.K E mb)) : PS X (.While c body [] pos) (tMS X.K E (mWhile mc mb)) := by
  refine ps_imp (ps_while hp hc hb) fun D σ H hq => ?_
  obtain ⟨w, s, e, k, r, q⟩ := hq
  subst e
  refine ⟨fun m σ' H' => ∃ w' s', w'.H = H' ∧ Ok X.K w' ∧ SRep X.K w' s' σ' ∧ PostS X.K E w' (whileLoop mc mb m s' w'.h) (endsM D), ⟨1000000, w, s, rfl, k, r, q⟩, ?_⟩
  rintro m σ' H' ⟨w', s', rfl, k', r', q'⟩
  cases m with
  | zero => exact q'.elim
  | succ n =>
    unfold whileLoop at q'
    refine tMT_at k' r' ((PostW.toS (Rel := EqB) q').imp fun b w1 v x1 k1 p1 q1 => ?_)
    subst p1
    cases b with
    | true =>
      rw [if_pos rfl] at q1 ⊢
      refine ⟨fun σ2 H2 => ∃ w2 s2, w2.H = H2 ∧ Ok X.K w2 ∧ SRep X.K w2 s2 σ2 ∧ PostS X.K E w2 (whileLoop mc mb n s2 w2.h) (endsM D), fun σ2 H2 z => ⟨n, Nat.lt_succ_self n, z⟩, tMS_at k1 (r'.ext x1) ?_⟩
      cases hbd : mb s' w1.h with
      | nx s2 h2 =>
        rw [hbd] at q1
        exact fun w3 σ3 e3 x3 k3 r3 => ⟨w3, s2, rfl, k3, r3, by rw [e3]; exact PostS.from q1 x3⟩
      | ct s2 h2 =>
        rw [hbd] at q1
        exact fun w3 σ3 e3 x3 k3 r3 => ⟨w3, s2, rfl, k3, r3, by rw [e3]; exact PostS.from q1 x3⟩
      | brk s2 h2 =>
        rw [hbd] at q1
        exact fun w3 σ3 e3 x3 k3 r3 => q1 w3 σ3 e3 x3 k3 r3
      | ret d h2 =>
        rw [hbd] at q1
        exact fun w3 v e3 x3 k3 p3 => q1 w3 v e3 x3 k3 p3
      | exc ex h2 =>
        rw [hbd] at q1
        exact fun w3 c d e3 x3 k3 p3 => q1 w3 c d e3 x3 k3 p3
      | bad =>
        rw [hbd] at q1
        exact q1
    | false =>
      rw [if_neg Bool.false_ne_true] at q1 ⊢
      exact PostS.hereN q1 k1 (r'.ext x1)
end
end Tb
end

section
set_option maxHeartbeats 4000000
namespace Tb
open PySem PySem.Spec PyProof.Rows L2
/-! ## zip of a tuple or list with a tuple or list -/
/-- b: a tuple, else a list -/
def SqA (b : Bool) (h : Heap) (l : Addr) (xs : Array Value) : Prop := match b with
  | true => h.IsTuple l xs
  | false => h.IsList l xs
def ItA (b : Bool) (h : Heap) (it l : Addr) (i : Nat) : Prop := match b with
  | true => h.IsTupleIter it l i
  | false => h.IsListIter it l i
theorem SqA.but {b : Bool} {h h' : Heap} {l c : Addr} {xs : Array Value} (q : SqA b h l xs) (e : Heap.ExtBut c h h') (n : l ≠ c) : SqA b h' l xs := by
  cases b
  · exact Heap.IsList.extBut q e n
  · exact Heap.IsTuple.extBut q e n
theorem ItA.but {b : Bool} {h h' : Heap} {it l c : Addr} {i : Nat} (q : ItA b h it l i) (e : Heap.ExtBut c h h') (n : it ≠ c) : ItA b h' it l i := by
  cases b
  · exact Heap.IsListIter.extBut q e n
  · exact Heap.IsTupleIter.extBut q e n
theorem ItA.of_at {b : Bool} {h h' : Heap} {it l : Addr} {i : Nat} (q : ItA b h it l i) (e : ∀ o, h.get? it = some o → h'.get? it = some o) : ItA b h' it l i := by
  cases b
  · exact Heap.IsListIter.at q e
  · exact Heap.IsTupleIter.at q e
theorem ItA.look {b : Bool} {h : Heap} {it l : Addr} {i : Nat} (q : ItA b h it l i) : ∃ o vs, h.get? it = some o ∧ o.data = .fields vs := by
  cases b
  · obtain ⟨o, e, _, d⟩ := q
    exact ⟨o, _, e, d⟩
  · obtain ⟨o, e, _, d⟩ := q
    exact ⟨o, _, e, d⟩
section
variable {prog : Program} {w : World} {A : Around} {E : Value → Shared → Prop} {s : Shared} {b1 b2 : Bool} {zz pI pO ia ib la lb : Addr} {ka kb : Nat} {xs ys : Array Value} {x y p q : Value}
theorem nextA {b : Bool} {it l : Addr} {i : Nat} {Q : Value → Shared → Prop} (hi : ItA b s.heap it l i) (hs : SqA b s.heap l xs) (e : xs[i]? = some x) (k : ∀ g, ItA b g it l (i + 1) → Heap.SameBut it s.heap g → Q x { s with heap := g }) :
    wpAny (model prog w) A (Builtin.SmallTypes.nextOf (.ref it)) Q E s := by
  cases b
  · exact wpAny_nextOf_list_item hi hs e k
  · exact RZ.nextOf_tuple_item hi hs e k
theorem endA {b : Bool} {it l : Addr} {i : Nat} {Q : Value → Shared → Prop} (hh : A.handled = none) (hi : ItA b s.heap it l i) (hs : SqA b s.heap l xs) (e : xs[i]? = none) (k : ∀ g u, Heap.ExtBut it s.heap g → (∃ o, g.get? u = some o ∧ o.cls = .type "StopIteration") → E (.ref u) { s with heap := g }) :
    wpAny (model prog w) A (Builtin.SmallTypes.nextOf (.ref it)) Q E s := by
  cases b
  · exact wpAny_nextOf_list_end hh hi hs e k
  · exact RZ.nextOf_tuple_end hh hi hs e k
theorem zipA_item {Q : Value → Shared → Prop} (D : ZipApart zz pI pO ia ib la lb) (fz : IsZip s.heap zz pI pO .none) (fI : IsPair s.heap pI (.ref ia) (.ref ib)) (fO : IsPair s.heap pO p q) (f1 : ItA b1 s.heap ia la ka) (f2 : ItA b2 s.heap ib lb kb)
    (g1 : SqA b1 s.heap la xs) (g2 : SqA b2 s.heap lb ys) (e1 : xs[ka]? = some x) (e2 : ys[kb]? = some y)
    (k : ∀ g, IsZip g zz pI pO (rawInt s.heap.objs.size) → IsPair g pO x y → ItA b1 g ia la (ka + 1) → ItA b2 g ib lb (kb + 1) → IsPair g s.heap.objs.size x y → g.objs.size = s.heap.objs.size + 1 →
      (∀ c o, c ≠ zz → c ≠ pO → c ≠ ia → c ≠ ib → s.heap.get? c = some o → g.get? c = some o) → Q (.ref s.heap.objs.size) { s with heap := g }) :
    wpAny (model prog w) A (Builtin.«zip.__next__» ⟨[.ref zz], []⟩) (fun fin s' => ∃ v, fin = .done (.ret v) ∧ Q v s') E s := by
  show wpAny _ _ (field (.ref zz) 2 >>= _) _ _ _
  refine wpAny_bind (wpAny_field fz rfl (x := .bool false) rfl ?_)
  show wpAny _ _ (field (.ref zz) 3 >>= _) _ _ _
  refine wpAny_bind (wpAny_field fz rfl (x := .ref pI) rfl (wpAny_bind (wpAny_seqItems fI rfl ?_)))
  show wpAny _ _ (Builtin.SmallTypes.ownedTupleIsFree (.ref zz) >>= _) _ _ _
  refine wpAny_bind ?_; unfold Builtin.SmallTypes.ownedTupleIsFree
  refine wpAny_bind (wpAny_field fz rfl (x := .none) rfl (wpAny_pure ?_)); simp only [if_true]
  refine wpAny_bind (wpAny_rule (wpAny_bind (wpAny_field fz rfl (x := .ref pO) rfl ?_)))
  refine wpAny_bind (wpAny_setField_rec fz (by simp) fun u1 z1 s1 => ?_)
  have fz1 : IsZip u1 zz pI pO .ellipsis := z1
  refine wpAny_bind ?_; simp only [List.zipIdx_cons, List.zipIdx_nil, List.forIn_cons, List.forIn_nil]
  refine wpAny_bind (wpAny_bind (wpAny_onRaise ?_)); show wpAny _ _ (Builtin.SmallTypes.nextOf (.ref ia) >>= _) _ _ _
  refine wpAny_bind (nextA (f1.but s1.extBut D.i1z) (g1.but s1.extBut D.l1z) e1 fun u2 f12 s2 => wpAny_pure ?_)
  have fO2 : IsPair u2 pO p q := s2.extBut _ _ D.TOi1 (s1.extBut _ _ D.TOz fO)
  refine wpAny_bind (wpAny_seqItems fO2 rfl (wpAny_bind (wpAny_updateSeq_pair fO2 fun u3 z3 s3 => ?_)))
  have fO3 : IsPair u3 pO x q := z3
  refine wpAny_bind (wpAny_letGo (wpAny_pure (wpAny_bind (wpAny_bind (wpAny_onRaise ?_)))))
  show wpAny _ _ (Builtin.SmallTypes.nextOf (.ref ib) >>= _) _ _ _
  have f23 := ((f2.but s1.extBut D.i2z).but s2.extBut D.i12.symm).but s3.extBut D.TOi2.symm
  have g23 := ((g2.but s1.extBut D.l2z).but s2.extBut D.l2i1).but s3.extBut D.l2TO
  refine wpAny_bind (nextA f23 g23 e2 fun u4 f24 s4 => wpAny_pure ?_)
  have fO4 : IsPair u4 pO x q := s4.extBut _ _ D.TOi2 fO3
  refine wpAny_bind (wpAny_seqItems fO4 rfl (wpAny_bind (wpAny_updateSeq_pair fO4 fun u5 z5 s5 => ?_)))
  have fO5 : IsPair u5 pO x y := z5
  refine wpAny_bind (wpAny_letGo (wpAny_pure (wpAny_pure (wpAny_bind (wpAny_seqItems fO5 rfl (wpAny_bind (wpAny_newTuple ?_)))))))
  have size : u5.objs.size = s.heap.objs.size := ((((s5.1.trans s4.1).trans s3.1).trans s2.1).trans s1.1)
  have fz5 : IsZip u5 zz pI pO .ellipsis := s5.extBut _ _ D.TOz.symm (s4.extBut _ _ D.i2z.symm (s3.extBut _ _ D.TOz.symm (s2.extBut _ _ D.i1z.symm fz1)))
  have rest : ∀ c o, c ≠ zz → c ≠ pO → c ≠ ia → c ≠ ib → s.heap.get? c = some o → u5.get? c = some o := fun c o n1 n2 n3 n4 e => s5.extBut _ _ n2 (s4.extBut _ _ n4 (s3.extBut _ _ n2 (s2.extBut _ _ n3 (s1.extBut _ _ n1 e))))
  have f15 := ((f12.but s3.extBut D.TOi1.symm).but s4.extBut D.i12).but s5.extBut D.TOi1.symm
  have f25 := f24.but s5.extBut D.TOi2.symm
  have lz : zz < u5.objs.size := Heap.lt_size fz5
  show wpAny _ _ (Builtin.SmallTypes.ownedTupleHandOut (.ref zz) (.ref u5.objs.size) >>= _) _ _ _
  refine wpAny_bind ?_; unfold Builtin.SmallTypes.ownedTupleHandOut
  have fz6 : IsZip (u5.push { cls := .type "tuple", data := .seq #[x, y] }) zz pI pO .ellipsis := Heap.get?_push_of_some _ fz5
  refine wpAny_bind (wpAny_setField_rec fz6 (by simp) fun u7 z7 s7 => ?_)
  have fz7 : IsZip u7 zz pI pO (rawInt u5.objs.size) := z7
  refine wpAny_setField_rec fz7 (by simp) fun u8 z8 s8 => ?_
  have fz8 : IsZip u8 zz pI pO (rawInt u5.objs.size) := z8
  have lift : ∀ c o, c ≠ zz → u5.get? c = some o → u8.get? c = some o := fun c o n e => s8.extBut _ _ n (s7.extBut _ _ n (Heap.get?_push_of_some _ e))
  have made : IsPair u8 u5.objs.size x y := s8.extBut _ _ (Nat.ne_of_gt lz) (s7.extBut _ _ (Nat.ne_of_gt lz) (Heap.get?_push_size _ rfl))
  have size8 : u8.objs.size = u5.objs.size + 1 := (s8.1.trans s7.1).trans (Heap.size_push ..)
  rw [size] at fz8 made size8
  refine wpAny_pure ⟨_, rfl, ?_⟩
  rw [show (Value.ref u5.objs.size) = .ref s.heap.objs.size from congrArg Value.ref size]
  exact k u8 fz8 (lift _ _ D.TOz fO5) (f15.of_at fun o e => lift _ o D.i1z e) (f25.of_at fun o e => lift _ o D.i2z e) made size8 fun c o n1 n2 n3 n4 e => lift c o n1 (rest c o n1 n2 n3 n4 e)
theorem zipA_end {Q : Fin → Shared → Prop} (hh : A.handled = none) (D : ZipApart zz pI pO ia ib la lb) (fz : IsZip s.heap zz pI pO .none) (fI : IsPair s.heap pI (.ref ia) (.ref ib)) (fO : IsPair s.heap pO p q) (f1 : ItA b1 s.heap ia la ka) (f2 : ItA b2 s.heap ib lb kb)
    (g1 : SqA b1 s.heap la xs) (g2 : SqA b2 s.heap lb ys) (stop : xs[ka]? = none ∨ ys[kb]? = none)
    (k : ∀ g u, (∀ c o, c ≠ zz → c ≠ pO → c ≠ ia → c ≠ ib → s.heap.get? c = some o → g.get? c = some o) → (∃ o, g.get? u = some o ∧ o.cls = .type "StopIteration") → E (.ref u) { s with heap := g }) :
    wpAny (model prog w) A (Builtin.«zip.__next__» ⟨[.ref zz], []⟩) Q E s := by
  show wpAny _ _ (field (.ref zz) 2 >>= _) _ _ _
  refine wpAny_bind (wpAny_field fz rfl (x := .bool false) rfl ?_)
  show wpAny _ _ (field (.ref zz) 3 >>= _) _ _ _
  refine wpAny_bind (wpAny_field fz rfl (x := .ref pI) rfl (wpAny_bind (wpAny_seqItems fI rfl ?_)))
  show wpAny _ _ (Builtin.SmallTypes.ownedTupleIsFree (.ref zz) >>= _) _ _ _
  refine wpAny_bind ?_; unfold Builtin.SmallTypes.ownedTupleIsFree
  refine wpAny_bind (wpAny_field fz rfl (x := .none) rfl (wpAny_pure ?_)); simp only [if_true]
  refine wpAny_bind (wpAny_rule (wpAny_bind (wpAny_field fz rfl (x := .ref pO) rfl ?_)))
  refine wpAny_bind (wpAny_setField_rec fz (by simp) fun u1 z1 s1 => ?_)
  have fz1 : IsZip u1 zz pI pO .ellipsis := z1
  refine wpAny_bind ?_; simp only [List.zipIdx_cons, List.zipIdx_nil, List.forIn_cons, List.forIn_nil]
  refine wpAny_bind (wpAny_bind (wpAny_onRaise ?_)); show wpAny _ _ (Builtin.SmallTypes.nextOf (.ref ia) >>= _) _ _ _
  have closed : ∀ {g : Heap} {u : Addr}, IsZip g zz pI pO .ellipsis → (∃ o, g.get? u = some o ∧ o.cls = .type "StopIteration") → u ≠ zz := fun {g u} h1 h2 e => by
    obtain ⟨o, h3, h4⟩ := h2
    rw [e, h1] at h3
    cases h3
    simp at h4
  cases ex : xs[ka]? with
  | none =>
    refine wpAny_bind (endA hh (f1.but s1.extBut D.i1z) (g1.but s1.extBut D.l1z) ex fun u2 u s2 hu => ?_)
    have fz2 : IsZip u2 zz pI pO .ellipsis := s2 _ _ D.i1z.symm fz1
    have ne := closed fz2 hu
    obtain ⟨o, h3, h4⟩ := hu
    exact wpAny_setField_rec fz2 (by simp) fun u3 _ s3 => k u3 u (fun c o n1 _ n3 _ e => s3.extBut _ _ n1 (s2 _ _ n3 (s1.extBut _ _ n1 e))) ⟨o, s3.extBut _ _ ne h3, h4⟩
  | some x =>
    have ey : ys[kb]? = none := stop.resolve_left (by rw [ex]; simp)
    refine wpAny_bind (nextA (f1.but s1.extBut D.i1z) (g1.but s1.extBut D.l1z) ex fun u2 f12 s2 => wpAny_pure ?_)
    have fO2 : IsPair u2 pO p q := s2.extBut _ _ D.TOi1 (s1.extBut _ _ D.TOz fO)
    refine wpAny_bind (wpAny_seqItems fO2 rfl (wpAny_bind (wpAny_updateSeq_pair fO2 fun u3 z3 s3 => ?_)))
    refine wpAny_bind (wpAny_letGo (wpAny_pure (wpAny_bind (wpAny_bind (wpAny_onRaise ?_)))))
    show wpAny _ _ (Builtin.SmallTypes.nextOf (.ref ib) >>= _) _ _ _
    have f23 := ((f2.but s1.extBut D.i2z).but s2.extBut D.i12.symm).but s3.extBut D.TOi2.symm
    have g23 := ((g2.but s1.extBut D.l2z).but s2.extBut D.l2i1).but s3.extBut D.l2TO
    refine wpAny_bind (endA hh f23 g23 ey fun u4 u s4 hu => ?_)
    have fz4 : IsZip u4 zz pI pO .ellipsis := s4 _ _ D.i2z.symm (s3.extBut _ _ D.TOz.symm (s2.extBut _ _ D.i1z.symm fz1))
    have ne := closed fz4 hu
    obtain ⟨o, h3, h4⟩ := hu
    exact wpAny_setField_rec fz4 (by simp) fun u5 _ s5 => k u5 u (fun c o n1 n2 n3 n4 e => s5.extBut _ _ n1 (s4 _ _ n4 (s3.extBut _ _ n2 (s2.extBut _ _ n3 (s1.extBut _ _ n1 e))))) ⟨o, s5.extBut _ _ ne h3, h4⟩
theorem pyNextA_item {Q : Option Value → Shared → Prop} (D : ZipApart zz pI pO ia ib la lb) (fz : IsZip s.heap zz pI pO .none) (fI : IsPair s.heap pI (.ref ia) (.ref ib)) (fO : IsPair s.heap pO p q) (f1 : ItA b1 s.heap ia la ka) (f2 : ItA b2 s.heap ib lb kb)
    (g1 : SqA b1 s.heap la xs) (g2 : SqA b2 s.heap lb ys) (e1 : xs[ka]? = some x) (e2 : ys[kb]? = some y)
    (k : ∀ g, IsZip g zz pI pO (rawInt s.heap.objs.size) → IsPair g pO x y → ItA b1 g ia la (ka + 1) → ItA b2 g ib lb (kb + 1) → IsPair g s.heap.objs.size x y → g.objs.size = s.heap.objs.size + 1 →
      (∀ c o, c ≠ zz → c ≠ pO → c ≠ ia → c ≠ ib → s.heap.get? c = some o → g.get? c = some o) → Q (some (.ref s.heap.objs.size)) { s with heap := g }) : wpAny (model prog w) A (pyNext (.ref zz)) Q E s := by
  have ty : s.TypeIs (.ref zz) "zip" := ⟨_, fz, rfl⟩
  unfold pyNext
  refine wpAny_bind (wpAny_attempt (wpAny_callSpecial?_slot (name := Str.ofString "__next__") ty F.slot_zip_next (wpAny_call_entry F.slot_zip_next ty F.entry_zip_next ?_ (F.args_zip_next_1 _))))
  exact zipA_item D fz fI fO f1 f2 g1 g2 e1 e2 fun g a1 a2 a3 a4 a5 a6 a7 => wpAny_pure (k g a1 a2 a3 a4 a5 a6 a7)
theorem pyNextA_end {Q : Option Value → Shared → Prop} (hh : A.handled = none) (D : ZipApart zz pI pO ia ib la lb) (fz : IsZip s.heap zz pI pO .none) (fI : IsPair s.heap pI (.ref ia) (.ref ib)) (fO : IsPair s.heap pO p q) (f1 : ItA b1 s.heap ia la ka) (f2 : ItA b2 s.heap ib lb kb)
    (g1 : SqA b1 s.heap la xs) (g2 : SqA b2 s.heap lb ys) (stop : xs[ka]? = none ∨ ys[kb]? = none)
    (k : ∀ g, (∀ c o, c ≠ zz → c ≠ pO → c ≠ ia → c ≠ ib → s.heap.get? c = some o → g.get? c = some o) → Q none { s with heap := g }) : wpAny (model prog w) A (pyNext (.ref zz)) Q E s := by
  have ty : s.TypeIs (.ref zz) "zip" := ⟨_, fz, rfl⟩
  unfold pyNext
  refine wpAny_bind (wpAny_attempt (wpAny_callSpecial?_slot (name := Str.ofString "__next__") ty F.slot_zip_next (wpAny_call_entry F.slot_zip_next ty F.entry_zip_next (zipA_end hh D fz fI fO f1 f2 g1 g2 stop fun g u keep ⟨o, h3, h4⟩ => ?_) (F.args_zip_next_1 _))))
  exact wpAny_bind (wpAny_isInstance (T := "StopIteration") (b := true) ⟨o, h3, h4⟩ isSubtype_stop (wpAny_pure (k _ keep)))
end
/-! ### zip(a, b) called -/
def itName : Bool → String
  | true => "tuple_iterator"
  | false => "list_iterator"
abbrev za1 (b1 : Bool) (h : Heap) (la : Addr) : Heap := h.push { cls := .type (itName b1), data := .fields #[.ref la, .int 0 0] }
abbrev za2 (b1 b2 : Bool) (h : Heap) (la lb : Addr) : Heap := (za1 b1 h la).push { cls := .type (itName b2), data := .fields #[.ref lb, .int 0 0] }
abbrev za3 (b1 b2 : Bool) (h : Heap) (la lb : Addr) : Heap := (za2 b1 b2 h la lb).push { cls := .type "tuple", data := .seq #[.ref h.objs.size, .ref (za1 b1 h la).objs.size] }
abbrev za4 (b1 b2 : Bool) (h : Heap) (la lb : Addr) : Heap := (za3 b1 b2 h la lb).push { cls := .type "tuple", data := .seq #[.none, .none] }
abbrev za5 (b1 b2 : Bool) (h : Heap) (la lb : Addr) : Heap := (za4 b1 b2 h la lb).push { cls := .type "zip", data := .fields #[.none, .bool false, .bool false, .ref (za2 b1 b2 h la lb).objs.size, .ref (za3 b1 b2 h la lb).objs.size] }
theorem meets_tl (la lb : Addr) (xs ys : Array Value) : Meets (Builtin.«zip.__new__» ⟨[.type "zip", .ref la, .ref lb], []⟩) (fun _ R s => s.heap.IsTuple la xs ∧ s.heap.IsList lb ys ∧ R (.ok (.ret (.ref (za4 true false s.heap la lb).objs.size))) { s with heap := za5 true false s.heap la lb }) :=
  .of_wp fun prog w A R s h => by
    obtain ⟨hp, g, d, tk, os⟩ := s; obtain ⟨ha, hb, h⟩ := h
    have hs := sub_zip
    have hA : Heap.IsTuple (Shared.heap ⟨hp, g, d, tk, os⟩) la xs := ha
    have hB : Heap.IsList (Shared.heap ⟨hp.push { cls := .type "tuple_iterator", data := .fields #[.ref la, .int 0 0] }, g, d, tk, os⟩) lb ys := Heap.IsList.push hb _
    wp_walk using wpAny_pyIter_tuple hA, wpAny_pyIter_list hB
    exact ⟨_, rfl, h⟩
theorem meets_lt (la lb : Addr) (xs ys : Array Value) : Meets (Builtin.«zip.__new__» ⟨[.type "zip", .ref la, .ref lb], []⟩) (fun _ R s => s.heap.IsList la xs ∧ s.heap.IsTuple lb ys ∧ R (.ok (.ret (.ref (za4 false true s.heap la lb).objs.size))) { s with heap := za5 false true s.heap la lb }) :=
  .of_wp fun prog w A R s h => by
    obtain ⟨hp, g, d, tk, os⟩ := s; obtain ⟨ha, hb, h⟩ := h
    have hs := sub_zip
    have hA : Heap.IsList (Shared.heap ⟨hp, g, d, tk, os⟩) la xs := ha
    have hB : Heap.IsTuple (Shared.heap ⟨hp.push { cls := .type "list_iterator", data := .fields #[.ref la, .int 0 0] }, g, d, tk, os⟩) lb ys := Heap.IsTuple.push hb _
    wp_walk using wpAny_pyIter_list hA, wpAny_pyIter_tuple hB
    exact ⟨_, rfl, h⟩
theorem meets_zipA (b1 b2 : Bool) (la lb : Addr) (xs ys : Array Value) : Meets (Builtin.«zip.__new__» ⟨[.type "zip", .ref la, .ref lb], []⟩) (fun _ R s => SqA b1 s.heap la xs ∧ SqA b2 s.heap lb ys ∧ R (.ok (.ret (.ref (za4 b1 b2 s.heap la lb).objs.size))) { s with heap := za5 b1 b2 s.heap la lb }) := by
  cases b1 <;> cases b2
  · exact meets_zip_new la lb xs ys
  · exact meets_lt la lb xs ys
  · exact meets_tl la lb xs ys
  · exact RZ.meets_zipT_new la lb xs ys
section
variable {prog : Program} {w : World} {A : Around} {E : Value → Shared → Prop} {s : Shared} {b1 b2 : Bool} {la lb : Addr} {xs ys : Array Value}
theorem call_zipA {Q : Value → Shared → Prop} (g1 : SqA b1 s.heap la xs) (g2 : SqA b2 s.heap lb ys)
    (k : ∀ g, IsZip g (s.heap.objs.size + 4) (s.heap.objs.size + 2) (s.heap.objs.size + 3) .none → IsPair g (s.heap.objs.size + 2) (.ref s.heap.objs.size) (.ref (s.heap.objs.size + 1)) → IsPair g (s.heap.objs.size + 3) .none .none →
      ItA b1 g s.heap.objs.size la 0 → ItA b2 g (s.heap.objs.size + 1) lb 0 → (∀ c o, s.heap.get? c = some o → g.get? c = some o) → Q (.ref (s.heap.objs.size + 4)) { s with heap := g }) : wpAny (model prog w) A (call (.type "zip") [.ref la, .ref lb]) Q E s := by
  refine callType_new F.called_zip (by decide) (F.typeCall_zip_2 _ _) (F.newCall_zip_2 _ _) (fun obj => F.args_object_init_3 obj _ _) F.entry_zip_new (meets_zipA b1 b2 la lb xs ys) ⟨g1, g2, ?_⟩
  have n1 : (za1 b1 s.heap la).objs.size = s.heap.objs.size + 1 := Heap.size_push ..
  have n2 : (za2 b1 b2 s.heap la lb).objs.size = s.heap.objs.size + 2 := (Heap.size_push ..).trans (by rw [n1])
  have n3 : (za3 b1 b2 s.heap la lb).objs.size = s.heap.objs.size + 3 := (Heap.size_push ..).trans (by rw [n2])
  have n4 : (za4 b1 b2 s.heap la lb).objs.size = s.heap.objs.size + 4 := (Heap.size_push ..).trans (by rw [n3])
  have up : ∀ {g : Heap} {c : Addr} {o o' : Obj}, g.get? c = some o → (g.push o').get? c = some o := fun e => Heap.get?_push_of_some _ e
  have q5 : (za5 b1 b2 s.heap la lb).get? (za4 b1 b2 s.heap la lb).objs.size = some _ := Heap.get?_push_size _ rfl
  have q4 : (za5 b1 b2 s.heap la lb).get? (za3 b1 b2 s.heap la lb).objs.size = some _ := up (Heap.get?_push_size _ rfl)
  have q3 : (za5 b1 b2 s.heap la lb).get? (za2 b1 b2 s.heap la lb).objs.size = some _ := up (up (Heap.get?_push_size _ rfl))
  have q2 : (za5 b1 b2 s.heap la lb).get? (za1 b1 s.heap la).objs.size = some _ := up (up (up (Heap.get?_push_size _ rfl)))
  have q1 : (za5 b1 b2 s.heap la lb).get? s.heap.objs.size = some _ := up (up (up (up (Heap.get?_push_size _ rfl))))
  show _ ∧ _
  rw [n2, n3, n4] at q5
  rw [n1, n2] at q3
  rw [n3] at q4
  rw [n1] at q2
  rw [n4]
  have i1 : ItA b1 (za5 b1 b2 s.heap la lb) s.heap.objs.size la 0 := by
    cases b1
    · exact ⟨_, q1, rfl, rfl⟩
    · exact ⟨_, q1, rfl, rfl⟩
  have i2 : ItA b2 (za5 b1 b2 s.heap la lb) (s.heap.objs.size + 1) lb 0 := by
    cases b2
    · exact ⟨_, q2, rfl, rfl⟩
    · exact ⟨_, q2, rfl, rfl⟩
  exact ⟨⟨_, q5, rfl⟩, k _ q5 q3 q4 i1 i2 fun c o e => up (up (up (up (up e))))⟩
end
end Tb
end

section
set_option maxHeartbeats 4000000
namespace Tb
open PySem PySem.Spec PyProof.Rows L2
open PySem.AutoSeq1 (wpAny_loadPart')
/-! ## enumerate of a tuple or list -/
section
variable {prog : Program} {w : World} {A : Around} {E : Value → Shared → Prop} {s : Shared} {b : Bool} {ee it l : Addr} {i : Nat} {xs : Array Value} {x old : Value}
theorem enumA_item {Q : Value → Shared → Prop} (fe : IsEnum s.heap ee it i old) (fi : ItA b s.heap it l i) (fs : SqA b s.heap l xs) (e1 : xs[i]? = some x) (ne : ee ≠ it)
    (k : ∀ g, IsEnumOut g ee it ((i : Int) + 1) x s.heap.objs.size → ItA b g it l (i + 1) → g.get? s.heap.objs.size = some { cls := .type "tuple", data := .seq #[.int i s.toks, x] } → g.objs.size = s.heap.objs.size + 1 →
      (∀ c o, c ≠ ee → c ≠ it → s.heap.get? c = some o → g.get? c = some o) → Q (.ref s.heap.objs.size) { s with heap := g, toks := s.toks + 1 }) :
    wpAny (model prog w) A (Builtin.«enumerate.__next__» ⟨[.ref ee], []⟩) (fun fin s' => ∃ v, fin = .done (.ret v) ∧ Q v s') E s := by
  obtain ⟨h0, gs, dr, tk, os⟩ := s
  show wpAny _ _ (field (.ref ee) 2 >>= _) _ _ _
  refine wpAny_bind (wpAny_field fe rfl (x := .ref it) rfl (wpAny_bind (nextA fi fs e1 fun u1 fi1 q1 => ?_)))
  have q1' : Heap.SameBut it h0 u1 := q1
  have fe1 : IsEnum u1 ee it i old := (q1'.2 ee ne).trans fe
  show wpAny _ _ (field (.ref ee) 3 >>= _) _ _ ⟨u1, gs, dr, tk, os⟩
  refine wpAny_bind (wpAny_field fe1 rfl (x := rawInt i) rfl ?_); show wpAny _ _ (field (.ref ee) 4 >>= _) _ _ ⟨u1, gs, dr, tk, os⟩
  refine wpAny_bind (wpAny_field fe1 rfl (x := .none) rfl ?_); show wpAny _ _ (mkInt i >>= _) _ _ ⟨u1, gs, dr, tk, os⟩
  refine wpAny_bind (wpAny_mkInt ?_); show wpAny _ _ (setField (.ref ee) 3 (rawInt ((i : Int) + 1)) >>= _) _ _ ⟨u1, gs, dr, tk + 1, os⟩
  refine wpAny_bind (wpAny_setField_rec fe1 (by simp) fun u2 z2 q2 => ?_)
  have q2' : Heap.SameBut ee u1 u2 := q2
  have fe2 : IsEnum u2 ee it ((i : Int) + 1) old := z2
  show wpAny _ _ (setField (.ref ee) 4 .none >>= _) _ _ ⟨u2, gs, dr, tk + 1, os⟩
  refine wpAny_bind (wpAny_setField_rec fe2 (by simp) fun u3 z3 q3 => ?_)
  have q3' : Heap.SameBut ee u2 u3 := q3
  have fe3 : IsEnum u3 ee it ((i : Int) + 1) old := z3
  show wpAny _ _ (newTuple [.int i tk, x] >>= _) _ _ ⟨u3, gs, dr, tk + 1, os⟩
  refine wpAny_bind (wpAny_newTuple ?_)
  have fe4 : IsEnum (u3.push { cls := .type "tuple", data := .seq #[.int i tk, x] }) ee it ((i : Int) + 1) old := Heap.get?_push_of_some _ fe3
  generalize eu : u3.push { cls := .type "tuple", data := .seq #[.int i tk, x] } = u4 at fe4
  have size : u3.objs.size = h0.objs.size := (q3'.1.trans q2'.1).trans q1'.1
  have le : ee < h0.objs.size := Heap.lt_size fe
  have made : u4.get? h0.objs.size = some { cls := .type "tuple", data := .seq #[.int i tk, x] } := by
    rw [← eu, ← size]
    exact Heap.get?_push_size _ rfl
  have size4 : u4.objs.size = h0.objs.size + 1 := by rw [← eu, Heap.size_push, size]
  have rest : ∀ c o, c ≠ ee → c ≠ it → h0.get? c = some o → u4.get? c = some o := fun c o n1 n2 e => by
    rw [← eu]
    exact Heap.get?_push_of_some _ (q3'.extBut c o n1 (q2'.extBut c o n1 (q1'.extBut c o n2 e)))
  have fi4 : ItA b u4 it l (i + 1) := by
    rw [← eu]
    exact ((fi1.but q2'.extBut ne.symm).but q3'.extBut ne.symm).of_at fun o e => Heap.get?_push_of_some _ e
  show wpAny _ _ (Builtin.SmallTypes.ownedTupleIsFree (.ref ee) >>= _) _ _ ⟨u4, gs, dr, tk + 1, os⟩
  rw [size]
  refine wpAny_bind ?_; unfold Builtin.SmallTypes.ownedTupleIsFree
  refine wpAny_bind (wpAny_field fe4 rfl (x := .none) rfl (wpAny_pure ?_)); simp only [if_true]
  refine wpAny_bind (wpAny_rule (wpAny_bind (wpAny_field fe4 rfl (x := old) rfl (wpAny_bind (wpAny_setField_rec fe4 (by simp) fun u5 z5 q5 => ?_)))))
  have q5' : Heap.SameBut ee u4 u5 := q5
  have fe5 : IsEnum u5 ee it ((i : Int) + 1) x := z5
  show wpAny _ _ (Builtin.SmallTypes.ownedTupleHandOut (.ref ee) (.ref h0.objs.size) >>= _) _ _ ⟨u5, gs, dr, tk + 1, os⟩
  refine wpAny_bind ?_; unfold Builtin.SmallTypes.ownedTupleHandOut
  refine wpAny_bind (wpAny_setField_rec fe5 (by simp) fun u6 z6 q6 => ?_)
  have q6' : Heap.SameBut ee u5 u6 := q6
  have fe6 : IsEnumOut u6 ee it ((i : Int) + 1) x h0.objs.size := z6
  refine wpAny_setField_rec fe6 (by simp) fun u7 z7 q7 => ?_
  have q7' : Heap.SameBut ee u6 u7 := q7
  have lift : ∀ c o, c ≠ ee → u4.get? c = some o → u7.get? c = some o := fun c o n e => q7'.extBut _ _ n (q6'.extBut _ _ n (q5'.extBut _ _ n e))
  exact wpAny_bind (wpAny_letGo (wpAny_pure ⟨_, rfl, k u7 z7 (fi4.of_at fun o e => lift _ o ne.symm e) (lift _ _ (Nat.ne_of_gt le) made) (by rw [q7'.1, q6'.1, q5'.1, size4]) fun c o n1 n2 e => lift c o n1 (rest c o n1 n2 e)⟩))
theorem pyNextE_item {Q : Option Value → Shared → Prop} (fe : IsEnum s.heap ee it i old) (fi : ItA b s.heap it l i) (fs : SqA b s.heap l xs) (e1 : xs[i]? = some x) (ne : ee ≠ it)
    (k : ∀ g, IsEnumOut g ee it ((i : Int) + 1) x s.heap.objs.size → ItA b g it l (i + 1) → g.get? s.heap.objs.size = some { cls := .type "tuple", data := .seq #[.int i s.toks, x] } → g.objs.size = s.heap.objs.size + 1 →
      (∀ c o, c ≠ ee → c ≠ it → s.heap.get? c = some o → g.get? c = some o) → Q (some (.ref s.heap.objs.size)) { s with heap := g, toks := s.toks + 1 }) : wpAny (model prog w) A (pyNext (.ref ee)) Q E s := by
  have ty : s.TypeIs (.ref ee) "enumerate" := ⟨_, fe, rfl⟩
  unfold pyNext
  refine wpAny_bind (wpAny_attempt (wpAny_callSpecial?_slot (name := Str.ofString "__next__") ty F.slot_enumerate_next (wpAny_call_entry F.slot_enumerate_next ty F.entry_enumerate_next ?_ (F.args_enumerate_next_1 _))))
  exact enumA_item fe fi fs e1 ne fun g a1 a2 a3 a4 a5 => wpAny_pure (k g a1 a2 a3 a4 a5)
theorem pyNextE_end {Q : Option Value → Shared → Prop} (hh : A.handled = none) (fe : IsEnum s.heap ee it i old) (fi : ItA b s.heap it l i) (fs : SqA b s.heap l xs) (e1 : xs[i]? = none) (k : ∀ g, Heap.ExtBut it s.heap g → Q none { s with heap := g }) :
    wpAny (model prog w) A (pyNext (.ref ee)) Q E s := by
  have ty : s.TypeIs (.ref ee) "enumerate" := ⟨_, fe, rfl⟩
  unfold pyNext
  refine wpAny_bind (wpAny_attempt (wpAny_callSpecial?_slot (name := Str.ofString "__next__") ty F.slot_enumerate_next (wpAny_call_entry F.slot_enumerate_next ty F.entry_enumerate_next ?_ (F.args_enumerate_next_1 _))))
  show wpAny _ _ (field (.ref ee) 2 >>= _) _ _ _
  refine wpAny_bind (wpAny_field fe rfl (x := .ref it) rfl (wpAny_bind (endA hh fi fs e1 fun g u keep ⟨o, h3, h4⟩ => ?_)))
  exact wpAny_bind (wpAny_isInstance (T := "StopIteration") (b := true) ⟨o, h3, h4⟩ isSubtype_stop (wpAny_pure (k _ keep)))
end
abbrev ea1 (b : Bool) (h : Heap) (l : Addr) : Heap := h.push { cls := .type (itName b), data := .fields #[.ref l, .int 0 0] }
abbrev ea2 (b : Bool) (h : Heap) (l : Addr) : Heap := (ea1 b h l).push { cls := .type "enumerate", data := .fields #[.none, .bool false, .ref h.objs.size, rawInt 0, .none, .none] }
theorem meets_enumT (l : Addr) (xs : Array Value) (n : Nat) (dct : Option Addr) (sl : Array (Option Value)) :
    Meets (Builtin.«enumerate.__new__» ⟨[.type "enumerate", .ref l], []⟩) (fun _ R s => s.heap.get? l = some { cls := .type "tuple", dict := dct, data := .seq xs n, slots := sl } ∧ R (.ok (.ret (.ref (ea1 true s.heap l).objs.size))) { s with heap := ea2 true s.heap l }) :=
  .of_wp fun prog w A R s h => by
    obtain ⟨hp, g, d, tk, os⟩ := s; obtain ⟨hl, h⟩ := h
    have hs := sub_enumerate
    have hT : Heap.IsTuple (Shared.heap ⟨hp, g, d, tk, os⟩) l xs := ⟨_, hl, rfl, n, rfl⟩
    wp_walk using wpAny_loadPart' hl
    refine wpAny_stack_any fun st => wpAny_pure ?_
    split
    · rename_i c _ _ _ _ _
      cases (c == Value.type "enumerate") <;> (wp_walk using wpAny_loadPart' hl, wpAny_pyIter_tuple hT; exact ⟨_, rfl, h⟩)
    · wp_walk using wpAny_loadPart' hl, wpAny_pyIter_tuple hT
      exact ⟨_, rfl, h⟩
section
variable {prog : Program} {w : World} {A : Around} {E : Value → Shared → Prop} {s : Shared} {b : Bool} {l : Addr} {xs : Array Value}
theorem call_enumA {Q : Value → Shared → Prop} (fs : SqA b s.heap l xs) (k : ∀ g, IsEnum g (s.heap.objs.size + 1) s.heap.objs.size 0 .none → ItA b g s.heap.objs.size l 0 → (∀ c o, s.heap.get? c = some o → g.get? c = some o) → Q (.ref (s.heap.objs.size + 1)) { s with heap := g }) :
    wpAny (model prog w) A (call (.type "enumerate") [.ref l]) Q E s := by
  cases b with
  | false => exact call_enumerate_list fs fun g a1 a2 _ a4 => k g a1 a2 a4
  | true =>
    obtain ⟨⟨c, dct, dt, sl⟩, hl, hc, n, hd⟩ := fs
    have hc' : c = .type "tuple" := hc
    have hd' : dt = .seq xs n := hd
    subst hc' hd'
    refine callType_new F.called_enumerate (by decide) (F.typeCall_enumerate_1 _) (F.newCall_enumerate_1 _) (fun obj => F.args_object_init_2 obj _) F.entry_enumerate_new (meets_enumT l xs n dct sl) ⟨hl, ?_⟩
    have n1 : (ea1 true s.heap l).objs.size = s.heap.objs.size + 1 := Heap.size_push ..
    show _ ∧ _
    rw [n1]
    have q2 : (ea2 true s.heap l).get? (ea1 true s.heap l).objs.size = some _ := Heap.get?_push_size _ rfl
    rw [n1] at q2
    have q1 : (ea2 true s.heap l).get? s.heap.objs.size = some _ := Heap.get?_push_of_some _ (Heap.get?_push_size _ rfl)
    exact ⟨⟨_, q2, rfl⟩, k _ q2 ⟨_, q1, rfl, rfl⟩ fun c o e => Heap.get?_push_of_some _ (Heap.get?_push_of_some _ e)⟩
end
/-! ## the two as iterators of the layer -/
def SqV (b : Bool) (K : PySem.W.Frag) (H : Hp) (a : Addr) (xs : List V) : Prop := match b with
  | true => SqT K H a xs
  | false => SqL K H a xs
section
variable {X : Cx} {pins : List (Addr × Obj)} {σ : L2.St} {H : Hp} {s : Shared} {b : Bool} {a : Addr} {xs ys : List V}
theorem SqV.its (I : L2.Inv X pins σ H s) (h : SqV b X.K H a xs) : ∃ its : List Value, Vals xs its ∧ SqA b s.heap a its.toArray := by
  cases b
  · obtain ⟨its, r, p, _⟩ := I.list h
    exact ⟨its, r, p.isList⟩
  · obtain ⟨its, r, p, _⟩ := I.tuple h
    exact ⟨its, r, p⟩
theorem SqV.inj (I : L2.Inv X pins σ H s) (h : SqV b X.K H a xs) (h' : SqV b X.K H a ys) : xs = ys := by
  cases b
  · exact I.list_inj h h'
  · exact I.tuple_inj h h'
theorem SqA.lt {b : Bool} {h : Heap} {l : Addr} {xs : Array Value} (q : SqA b h l xs) : l < h.objs.size := by
  cases b
  · obtain ⟨o, e, _⟩ := q
    exact Heap.lt_size e
  · obtain ⟨o, e, _⟩ := q
    exact Heap.lt_size e
end
def ItzA (K : PySem.W.Frag) (b1 b2 : Bool) (a c : Addr) : L2.It :=
  ⟨fun i H => ∃ (xs ys : List V) (x y : V), SqV b1 K H a xs ∧ SqV b2 K H c ys ∧ xs[i]? = some x ∧ ys[i]? = some y,
    fun i H v H' => ∃ T x y, v = .ref T ∧ H T = none ∧ H' = upd H T (.tup [x, y]) ∧ (∀ xs, SqV b1 K H a xs → xs[i]? = some x) ∧ ∀ ys, SqV b2 K H c ys → ys[i]? = some y,
    fun i H => ∃ xs ys : List V, SqV b1 K H a xs ∧ SqV b2 K H c ys ∧ (xs.length ≤ i ∨ ys.length ≤ i)⟩
def IteA (K : PySem.W.Frag) (b : Bool) (a : Addr) : L2.It :=
  ⟨fun i H => ∃ (xs : List V) (x : V), SqV b K H a xs ∧ xs[i]? = some x,
    fun i H v H' => ∃ T x, v = .ref T ∧ H T = none ∧ H' = upd H T (.tup [.int (i : Nat), x]) ∧ ∀ xs, SqV b K H a xs → xs[i]? = some x,
    fun i H => ∃ xs : List V, SqV b K H a xs ∧ xs.length ≤ i⟩
theorem five {α : Type} {c a1 a2 a3 a4 a5 : α} (h : c ∈ [a1, a2, a3, a4, a5]) : c = a1 ∨ c = a2 ∨ c = a3 ∨ c = a4 ∨ c = a5 := by simpa using h
theorem turn_zipA {P : Program} {w : World} {K : PySem.W.Frag} {elts : List Expr} {kk : Nat} {tpos : Pos} {b1 b2 : Bool} {la lb zz pI pO ia ib : Addr} (D : ZipApart zz pI pO ia ib la lb) :
    Turn P w K (.Tuple elts kk tpos) (ItzA K b1 b2 la lb) [zz, pI, pO, ia, ib] zz (fun i h => IsZip h zz pI pO .none ∧ IsPair h pI (.ref ia) (.ref ib) ∧ (∃ x y, IsPair h pO x y) ∧ ItA b1 h ia la i ∧ ItA b2 h ib lb i) where
  mem := List.Mem.head _
  obj := fun i h ⟨fz, fI, ⟨x, y, fO⟩, f1, f2⟩ c hc => by
    obtain ⟨o1, v1, q1, d1⟩ := f1.look
    obtain ⟨o2, v2, q2, d2⟩ := f2.look
    rcases five hc with e | e | e | e | e <;> rw [e]
    · exact ⟨_, fz, fun v z => nomatch z⟩
    · exact ⟨_, fI, fun v z => nomatch z⟩
    · exact ⟨_, fO, fun v z => nomatch z⟩
    · exact ⟨o1, q1, fun v z => by rw [d1] at z; cases z⟩
    · exact ⟨o2, q2, fun v z => by rw [d2] at z; cases z⟩
  keep := fun i h h' ⟨fz, fI, ⟨x, y, fO⟩, f1, f2⟩ k => ⟨k zz (by simp) _ fz, k pI (by simp) _ fI, ⟨x, y, k pO (by simp) _ fO⟩, f1.of_at fun o q => k ia (by simp) o q, f2.of_at fun o q => k ib (by simp) o q⟩
  item := by
    intro X hP hw hK hc i pins s σ H E I hf st hg
    subst hP hw hK
    obtain ⟨fz, fI, ⟨x0, y0, fO⟩, f1, f2⟩ := st
    obtain ⟨xs, ys, x, y, sx, sy, ex, ey⟩ := hg
    obtain ⟨its, r1, g1⟩ := sx.its I
    obtain ⟨its2, r2, g2⟩ := sy.its I
    obtain ⟨u, eu, ru⟩ := r1.get ex
    obtain ⟨u2, eu2, ru2⟩ := r2.get ey
    have lz : zz < s.heap.objs.size := Heap.lt_size fz
    refine pyNextA_item D fz fI fO f1 f2 g1 g2 (x := u) (y := u2) (by simpa using eu) (by simpa using eu2) fun g z' o' f1' f2' made size keep => ?_
    refine ⟨_, rfl, wpAny_letOwnedTupleGo_zip (s := { s with heap := g }) z' fun g2 z2 sb => ?_⟩
    have made2 : g2.get? s.heap.objs.size = some { cls := .type "tuple", data := .seq #[u, u2] } := (sb.2 _ (Nat.ne_of_gt lz)).trans made
    have newO : ObjOk X.prog X.w (upd H s.heap.objs.size (.tup [x, y])) g2 s.heap.objs.size (.tup [x, y]) := ⟨(by decide : 2 ≤ sizeLine), [u, u2], .cons ru (.cons ru2 .nil), ⟨_, made2, rfl, _, rfl⟩⟩
    have keep2 : ∀ c o, c ∉ [zz, pI, pO, ia, ib] → s.heap.get? c = some o → g2.get? c = some o := fun c o n q => by
      simp only [List.mem_cons, List.not_mem_nil, or_false, not_or] at n
      exact (sb.2 c n.1).trans (keep c o n.1 n.2.2.1 n.2.2.2.1 n.2.2.2.2 q)
    refine ⟨.ref s.heap.objs.size, _, I.turnedNew (t' := s.toks) (ch := [zz, pI, pO, ia, ib]) keep2 hf (Nat.le_refl _) newO, rfl, ⟨_, x, y, rfl, I.hok.fresh (Nat.le_refl _), rfl, fun l hl => by rw [hl.inj I sx]; exact ex, fun l hl => by rw [hl.inj I sy]; exact ey⟩,
      ⟨z2, (sb.2 _ D.TIz).trans (keep _ _ D.TIz D.TITO D.TIi1 D.TIi2 fI), ⟨u, u2, (sb.2 _ D.TOz).trans o'⟩, f1'.of_at fun o q => (sb.2 _ D.i1z).trans q, f2'.of_at fun o q => (sb.2 _ D.i2z).trans q⟩, fun c hcm => ?_⟩
    have lt : c < s.heap.objs.size := by
      obtain ⟨_, _, q1, _⟩ := f1.look
      obtain ⟨_, _, q2, _⟩ := f2.look
      rcases five hcm with e | e | e | e | e <;> rw [e]
      · exact lz
      · exact Heap.lt_size fI
      · exact Heap.lt_size fO
      · exact Heap.lt_size q1
      · exact Heap.lt_size q2
    rw [upd_ne (Nat.ne_of_lt lt)]
    exact (hf c hcm).1
  done := by
    intro X hP hw hK hc i pins s σ H E I hf st hg
    subst hP hw hK
    obtain ⟨fz, fI, ⟨x0, y0, fO⟩, f1, f2⟩ := st
    obtain ⟨xs, ys, sx, sy, stop⟩ := hg
    obtain ⟨its, r1, g1⟩ := sx.its I
    obtain ⟨its2, r2, g2⟩ := sy.its I
    have l1 := r1.length
    have l2 := r2.length
    have over : its.toArray[i]? = none ∨ its2.toArray[i]? = none := stop.imp (fun z => by simp; omega) fun z => by simp; omega
    exact pyNextA_end (I.ok.hd hc) D fz fI fO f1 f2 g1 g2 over fun g keep => ⟨rfl, I.turnedL (t' := s.toks) (ch := [zz, pI, pO, ia, ib]) (fun c o n q => by
      simp only [List.mem_cons, List.not_mem_nil, or_false, not_or] at n
      exact keep c o n.1 n.2.2.1 n.2.2.2.1 n.2.2.2.2 q) hf⟩
  self := fun A i s Q E st h => wpAny_pyIter_zip st.1 h
theorem turn_enumA {P : Program} {w : World} {K : PySem.W.Frag} {elts : List Expr} {kk : Nat} {tpos : Pos} {b : Bool} {a ee it : Addr} :
    Turn P w K (.Tuple elts kk tpos) (IteA K b a) [ee, it] ee (fun i h => (∃ old, IsEnum h ee it ((i : Nat) : Int) old) ∧ ItA b h it a i ∧ ee ≠ it) where
  mem := List.Mem.head _
  obj := fun i h ⟨⟨old, fe⟩, fi, _⟩ c hc => by
    obtain ⟨o1, v1, q1, d1⟩ := fi.look
    have hc' : c = ee ∨ c = it := by simpa using hc
    rcases hc' with e | e <;> rw [e]
    · exact ⟨_, fe, fun v z => nomatch z⟩
    · exact ⟨o1, q1, fun v z => by rw [d1] at z; cases z⟩
  keep := fun i h h' ⟨⟨old, fe⟩, fi, ne⟩ k => ⟨⟨old, k ee (by simp) _ fe⟩, fi.of_at fun o q => k it (by simp) o q, ne⟩
  item := by
    intro X hP hw hK hc i pins s σ H E I hf st hg
    subst hP hw hK
    obtain ⟨⟨old, fe⟩, fi, ne⟩ := st
    obtain ⟨xs, x, sx, ex⟩ := hg
    obtain ⟨its, r1, g1⟩ := sx.its I
    obtain ⟨u, eu, ru⟩ := r1.get ex
    obtain ⟨_, _, qi, _⟩ := fi.look
    have le : ee < s.heap.objs.size := Heap.lt_size fe
    have li : it < s.heap.objs.size := Heap.lt_size qi
    refine pyNextE_item fe fi g1 (x := u) (by simpa using eu) ne fun g out fi' made size keep => ?_
    refine ⟨_, rfl, wpAny_letOwnedTupleGo_enum (s := { s with heap := g, toks := s.toks + 1 }) out fun g2 fe2 sb => ?_⟩
    have made2 : g2.get? s.heap.objs.size = some { cls := .type "tuple", data := .seq #[.int i s.toks, u] } := (sb.2 _ (Nat.ne_of_gt le)).trans made
    have newO : ObjOk X.prog X.w (upd H s.heap.objs.size (.tup [.int (i : Nat), x])) g2 s.heap.objs.size (.tup [.int (i : Nat), x]) := ⟨(by decide : 2 ≤ sizeLine), [.int i s.toks, u], .cons ⟨_, rfl⟩ (.cons ru .nil), ⟨_, made2, rfl, _, rfl⟩⟩
    have keep2 : ∀ c o, c ∉ [ee, it] → s.heap.get? c = some o → g2.get? c = some o := fun c o n q => by
      simp only [List.mem_cons, List.not_mem_nil, or_false, not_or] at n
      exact (sb.2 c n.1).trans (keep c o n.1 n.2 q)
    refine ⟨.ref s.heap.objs.size, _, I.turnedNew (t' := s.toks + 1) (ch := [ee, it]) keep2 hf (Nat.le_refl _) newO, rfl, ⟨_, x, rfl, I.hok.fresh (Nat.le_refl _), rfl, fun l hl => by rw [hl.inj I sx]; exact ex⟩, ⟨⟨u, ?_⟩, fi'.of_at fun o q => (sb.2 it ne.symm).trans q, ne⟩, fun c hcm => ?_⟩
    · rw [show ((i + 1 : Nat) : Int) = (i : Int) + 1 by omega]
      exact fe2
    · have hc' : c = ee ∨ c = it := by simpa using hcm
      have lt : c < s.heap.objs.size := by
        rcases hc' with e | e <;> rw [e]
        · exact le
        · exact li
      rw [upd_ne (Nat.ne_of_lt lt)]
      exact (hf c hcm).1
  done := by
    intro X hP hw hK hc i pins s σ H E I hf st hg
    subst hP hw hK
    obtain ⟨⟨old, fe⟩, fi, ne⟩ := st
    obtain ⟨xs, sx, stop⟩ := hg
    obtain ⟨its, r1, g1⟩ := sx.its I
    have l1 := r1.length
    exact pyNextE_end (I.ok.hd hc) fe fi g1 (by simp; omega) fun g keep => ⟨rfl, I.turnedL (t' := s.toks) (ch := [ee, it]) (fun c o n q => by
      simp only [List.mem_cons, List.not_mem_nil, or_false, not_or] at n
      exact keep c o n.2 q) hf⟩
  self := fun A i s Q E st h => let ⟨⟨_, fe⟩, _⟩ := st; wpAny_pyIter_enum fe h
end Tb
end

section
set_option maxHeartbeats 4000000
namespace Tb
open PySem PySem.Spec PyProof.Rows L2
/-! ## zip, enumerate: the mirrors -/
def srcOf (h : MH) : D → Option (Bool × List D × Gd)
  | .tup xs => some (true, xs, none)
  | .lst xs => some (false, xs, none)
  | .ref n => match h.get n with
    | some (.lst xs) => some (false, xs, some (n, xs))
    | none => none
  | _ => none
/-- what is walked, at every later time -/
def SrcAt (K : PySem.W.Frag) (w : W3) (b : Bool) (a : Addr) (xs : List D) (g : Gd) : Prop := ∀ w', Ext w w' → Ok K w' → gOk g w'.h → ∃ vs, SqV b K w'.H a vs ∧ Reps K w' xs vs
theorem src_at {K : PySem.W.Frag} {w : W3} {d : D} {v : V} {b : Bool} {xs : List D} {g : Gd} (k0 : Ok K w) (r : Rep K w d v) (e : srcOf w.h d = some (b, xs, g)) : ∃ a, v = .ref a ∧ SrcAt K w b a xs g ∧ gOk g w.h := by
  cases d with
  | tup ys =>
    cases e
    simp only [Rep] at r
    obtain ⟨a, vs, rfl, h2, h3⟩ := r
    exact ⟨a, rfl, fun w' x k _ => ⟨vs, (h2.ext x).sq, h3.ext x⟩, trivial⟩
  | lst ys =>
    cases e
    simp only [Rep] at r
    obtain ⟨a, vs, rfl, h2, h3⟩ := r
    exact ⟨a, rfl, fun w' x k _ => ⟨vs, (h2.ext x).sq, h3.ext x⟩, trivial⟩
  | ref n =>
    simp only [srcOf] at e
    split at e
    · rename_i ys hn
      cases e
      simp only [Rep] at r
      obtain ⟨hlt, rfl⟩ := r
      refine ⟨_, rfl, fun w' x k g => ?_, hn⟩
      obtain ⟨vs, q1, q2⟩ := (k.dom n _ g).2
      rw [x.io n hlt] at q1
      exact ⟨vs, SqL.of q1, q2⟩
    · cases e
  | _ => simp [srcOf] at e
theorem SrcAt.ext {K : PySem.W.Frag} {w w1 : W3} {b : Bool} {a : Addr} {xs : List D} {g : Gd} (h : SrcAt K w b a xs g) (x : Ext w w1) : SrcAt K w1 b a xs g := fun w' x' k q => h w' (x.trans x') k q
def pairD (x y : D) : D := .tup [x, y]
theorem walks_zipA {K : PySem.W.Frag} {w : W3} {b1 b2 : Bool} {a c : Addr} {xs ys : List D} {g1 g2 g : Gd} (s1 : SrcAt K w b1 a xs g1) (s2 : SrcAt K w b2 c ys g2) (hg : ∀ h, gOk g h → gOk g1 h ∧ gOk g2 h) : Walks K w (ItzA K b1 b2 a c) (List.zipWith pairD xs ys, g) := by
  refine ⟨fun i w' x k q hi => ?_, fun i w' y H' d x k q e hy => ?_, fun w' x k q => ?_⟩
  · obtain ⟨vs, q1, q2⟩ := s1 w' x k (hg _ q).1
    obtain ⟨us, q3, q4⟩ := s2 w' x k (hg _ q).2
    simp only [List.length_zipWith] at hi
    have l1 := q2.length
    have l2 := q4.length
    exact ⟨vs, us, vs[i]'(by omega), us[i]'(by omega), q1, q3, by simp, by simp⟩
  · obtain ⟨vs, q1, q2⟩ := s1 w' x k (hg _ q).1
    obtain ⟨us, q3, q4⟩ := s2 w' x k (hg _ q).2
    obtain ⟨T, u, v, rfl, hT, rfl, h1, h2⟩ := hy
    rw [List.getElem?_zipWith] at e
    split at e
    · rename_i d1 d2 e1 e2
      cases e
      obtain ⟨z1, e3, p1⟩ := q2.get e1
      obtain ⟨z2, e4, p2⟩ := q4.get e2
      have e5 := h1 vs q1
      have e6 := h2 us q3
      rw [e3] at e5
      rw [e4] at e6
      cases e5
      cases e6
      exact ⟨w'.lay T (.tup [u, v]), rfl, rfl, Ext.lay k hT, k.lay hT, Rep.layTup k hT (Reps.cons p1 (Reps.cons p2 Reps.nil))⟩
    · cases e
  · obtain ⟨vs, q1, q2⟩ := s1 w' x k (hg _ q).1
    obtain ⟨us, q3, q4⟩ := s2 w' x k (hg _ q).2
    have l1 := q2.length
    have l2 := q4.length
    refine ⟨vs, us, q1, q3, ?_⟩
    simp only [List.length_zipWith]
    omega
theorem walks_enumA {K : PySem.W.Frag} {w : W3} {b : Bool} {a : Addr} {xs : List D} {g : Gd} (s1 : SrcAt K w b a xs g) : Walks K w (IteA K b a) (xs.mapIdx fun i x => pairD (.int (i : Nat)) x, g) := by
  refine ⟨fun i w' x k q hi => ?_, fun i w' y H' d x k q e hy => ?_, fun w' x k q => ?_⟩
  · obtain ⟨vs, q1, q2⟩ := s1 w' x k q
    simp only [List.length_mapIdx] at hi
    have l1 := q2.length
    exact ⟨vs, vs[i]'(by omega), q1, by simp⟩
  · obtain ⟨vs, q1, q2⟩ := s1 w' x k q
    obtain ⟨T, v, rfl, hT, rfl, h1⟩ := hy
    rw [List.getElem?_mapIdx, Option.map_eq_some_iff] at e
    obtain ⟨d1, e1, rfl⟩ := e
    obtain ⟨z1, e3, p1⟩ := q2.get e1
    have e5 := h1 vs q1
    rw [e3] at e5
    cases e5
    exact ⟨w'.lay T (.tup [.int (i : Nat), v]), rfl, rfl, Ext.lay k hT, k.lay hT, Rep.layTup k hT (Reps.cons (rep_int.mpr rfl) (Reps.cons p1 Reps.nil))⟩
  · obtain ⟨vs, q1, q2⟩ := s1 w' x k q
    have l1 := q2.length
    refine ⟨vs, q1, ?_⟩
    simp only [List.length_mapIdx]
    omega
def zipOf (d e : D) (h : MH) : R (List D × Gd) := match srcOf h d, srcOf h e with
  | some (_, xs, none), some (_, ys, g) => .ok (List.zipWith pairD xs ys, g) h
  | some (_, xs, some g), some (_, ys, none) => .ok (List.zipWith pairD xs ys, some g) h
  | _, _ => .bad
def mZip (a b : ME) : MI := fun s h => (a s h).bind fun d h1 => (b s h1).bind fun e h2 => zipOf d e h2
def enumOf (d : D) (h : MH) : R (List D × Gd) := match srcOf h d with
  | some (_, xs, g) => .ok (xs.mapIdx fun i x => pairD (.int (i : Nat)) x, g) h
  | none => .bad
def mEnum (a : ME) : MI := fun s h => (a s h).bind enumOf
section
variable {X : Cx} {E : XK} {e e2 : Expr} {m m2 : ME} {p pos tpos : Pos} {elts : List Expr} {kk : Nat}
theorem mi_zip (hg : Gl X "zip") (hm : X.mg "zip" = none) (ha : PE X e (tM X.K E m)) (hb : PE X e2 (tM X.K E m2)) (hs : starEach [e, e2] X.env = (false, eval e X.env) :: starEach [e2] X.env) (hs2 : starEach [e2] X.env = [(false, eval e2 X.env)])
    (hpl : (backTo pos (starEach [e2] X.env)).any (·.1) = false) : PI X (.Tuple elts kk tpos) (.Call (.Name "zip" p) [e, e2] [] pos) (tMI X.K E (mZip m m2)) := by
  refine ⟨fun pins s σ H R I hq => ?_⟩
  obtain ⟨w, sl, eH, k, r, q⟩ := hq
  subst eH
  have hargs : PA X [e, e2] (tCons (tM X.K E m) (tCons (tM X.K E m2) tNil)) := pa_cons ha (pa_cons hb pa_nil hs2) hs
  have hq1 : tCons (tM X.K E m) (tCons (tM X.K E m2) tNil) σ w.H fun vs H1 => ∃ (w2 : W3) (d1 d2 : D) (v1 v2 : V), vs = [v1, v2] ∧ w2.H = H1 ∧ Ok X.K w2 ∧ Rep X.K w2 d1 v1 ∧ Rep X.K w2 d2 v2 ∧ PostW X.K E (RelI X.K) w2 (zipOf d1 d2 w2.h) fun _ w' J => R J w'.H := by
    refine tM_at k r ((PostW.bind (Rel := RepD X.K) q).imp fun d1 w1 v1 x1 k1 p1 q1 => ?_)
    refine tM_at k1 (r.ext x1) ((PostW.bind (Rel := RepD X.K) q1).imp fun d2 w2 v2 x2 k2 p2 q2 => ?_)
    exact ⟨w2, d1, d2, v1, v2, rfl, rfl, k2, p1.ext x2, p2, q2⟩
  refine Call_ (ld_blt I hg hm PyProof.Rows.boot_zip (PyProof.Rows.callWith_type1 (thn (hargs.run pos pins s σ w.H _ I hq1) fun us s1 hv => ?_) hs hpl))
  obtain ⟨vs, H1, I1, rv, w2, d1, d2, v1, v2, rfl, e1, k2, p1, p2, q2⟩ := hv
  subst e1
  have core : ∀ {b1 b2 : Bool} {xs ys : List D} {g1 g2 g : Gd}, srcOf w2.h d1 = some (b1, xs, g1) → srcOf w2.h d2 = some (b2, ys, g2) → (∀ h, gOk g h → gOk g1 h ∧ gOk g2 h) →
      PostW X.K E (RelI X.K) w2 (.ok (List.zipWith pairD xs ys, g) w2.h) (fun _ w' J => R J w'.H) → wpAny (model X.prog X.w) X.A (call (.type "zip") us) (fun v s2 => wpAny (model X.prog X.w) X.A (pyIter v) (PIE X pins σ (.Tuple elts kk tpos) R) X.xe s2) X.xe s1 := by
    intro b1 b2 xs ys g1 g2 g e1 e2 hgg q3
    obtain ⟨a, rfl, s1', o1⟩ := src_at k2 p1 e1
    obtain ⟨c, rfl, s2', o2⟩ := src_at k2 p2 e2
    obtain ⟨vs1, sv1, _⟩ := s1' w2 (Ext.refl _) k2 o1
    obtain ⟨vs2, sv2, _⟩ := s2' w2 (Ext.refl _) k2 o2
    obtain ⟨its, r1, ga⟩ := sv1.its I1
    obtain ⟨its2, r2, gb⟩ := sv2.its I1
    cases rv with
    | cons ra rv =>
      cases rv with
      | cons rb rv =>
        cases rv
        cases ra
        cases rb
        refine call_zipA ga gb fun gg z1 z2 z3 z4 z5 keep => wpAny_pyIter_zip z1 ?_
        have I2 : L2.Inv X pins σ w2.H { s1 with heap := gg } := I1.kept (t' := s1.toks) keep
        refine ⟨s1.heap.objs.size + 4, [s1.heap.objs.size + 4, s1.heap.objs.size + 2, s1.heap.objs.size + 3, s1.heap.objs.size, s1.heap.objs.size + 1], _, ItzA X.K b1 b2 a c, w2.H, rfl, I2, turn_zipA (PySem.W.ktu_apart s1.heap.objs.size a c ga.lt gb.lt), ⟨z1, z2, ⟨_, _, z3⟩, z4, z5⟩, fun t ht => ?_, ?_⟩
        · have le : s1.heap.objs.size ≤ t := by
            rcases five ht with z | z | z | z | z <;> rw [z] <;> first | exact Nat.le_add_right _ _ | exact Nat.le_refl _
          exact I1.fpOk le (I1.hok.fresh le)
        · exact PostW.here (Rel := RelI X.K) q3 k2 (walks_zipA s1' s2' hgg)
  unfold zipOf at q2
  split at q2
  · rename_i b1 xs b2 ys g e1 e2
    exact core e1 e2 (fun h z => ⟨trivial, z⟩) q2
  · rename_i b1 xs g b2 ys e1 e2
    exact core e1 e2 (fun h z => ⟨z, trivial⟩) q2
  · exact q2.elim
theorem mi_enum (hg : Gl X "enumerate") (hm : X.mg "enumerate" = none) (ha : PE X e (tM X.K E m)) (hs : starEach [e] X.env = [(false, eval e X.env)]) : PI X (.Tuple elts kk tpos) (.Call (.Name "enumerate" p) [e] [] pos) (tMI X.K E (mEnum m)) := by
  refine ⟨fun pins s σ H R I hq => ?_⟩
  obtain ⟨w, sl, eH, k, r, q⟩ := hq
  subst eH
  have hargs : PA X [e] (tCons (tM X.K E m) tNil) := pa_cons ha pa_nil hs
  have hq1 : tCons (tM X.K E m) tNil σ w.H fun vs H1 => ∃ (w2 : W3) (d1 : D) (v1 : V), vs = [v1] ∧ w2.H = H1 ∧ Ok X.K w2 ∧ Rep X.K w2 d1 v1 ∧ PostW X.K E (RelI X.K) w2 (enumOf d1 w2.h) fun _ w' J => R J w'.H := by
    refine tM_at k r ((PostW.bind (Rel := RepD X.K) q).imp fun d1 w1 v1 x1 k1 p1 q1 => ?_)
    exact ⟨w1, d1, v1, rfl, rfl, k1, p1, q1⟩
  refine Call_ (ld_blt I hg hm boot_enumerate (PyProof.Rows.callWith_type1 (thn (hargs.run pos pins s σ w.H _ I hq1) fun us s1 hv => ?_) hs rfl))
  obtain ⟨vs, H1, I1, rv, w2, d1, v1, rfl, e1, k2, p1, q2⟩ := hv
  subst e1
  unfold enumOf at q2
  split at q2
  · rename_i b xs g e1
    obtain ⟨a, rfl, s1', o1⟩ := src_at k2 p1 e1
    obtain ⟨vs1, sv1, _⟩ := s1' w2 (Ext.refl _) k2 o1
    obtain ⟨its, r1, ga⟩ := sv1.its I1
    cases rv with
    | cons ra rv =>
      cases rv
      cases ra
      refine call_enumA ga fun gg z1 z2 keep => wpAny_pyIter_enum z1 ?_
      have I2 : L2.Inv X pins σ w2.H { s1 with heap := gg } := I1.kept (t' := s1.toks) keep
      refine ⟨s1.heap.objs.size + 1, [s1.heap.objs.size + 1, s1.heap.objs.size], _, IteA X.K b a, w2.H, rfl, I2, turn_enumA, ⟨⟨.none, z1⟩, z2, Nat.succ_ne_self _⟩, fun t ht => ?_, ?_⟩
      · have ht' : t = s1.heap.objs.size + 1 ∨ t = s1.heap.objs.size := by simpa using ht
        have le : s1.heap.objs.size ≤ t := by
          rcases ht' with z | z <;> rw [z] <;> first | exact Nat.le_add_right _ _ | exact Nat.le_refl _
        exact I1.fpOk le (I1.hok.fresh le)
      · exact PostW.here (Rel := RelI X.K) q2 k2 (walks_enumA s1')
  · exact q2.elim
end
end Tb
end

section
set_option maxHeartbeats 4000000
namespace Tb
open PySem PySem.Spec L2
/-! ## comprehensions -/
def wipeM (s : Sl) : List Nat → Sl
  | [] => s
  | v :: vs => (wipeM s vs).set v none
theorem SRep.wipe {K : PySem.W.Frag} {w : W3} {s : Sl} {σ : L2.St} (h : SRep K w s σ) : ∀ vs, SRep K w (wipeM s vs) (L2.wipe σ vs)
  | [] => h
  | v :: vs => (SRep.wipe h vs).unset v
theorem wipe_sub {vs : List Nat} {σ : L2.St} : ∀ us : List Nat, (∀ u ∈ us, u ∈ vs) → L2.wipe (L2.wipe σ us) vs = L2.wipe σ vs
  | [], _ => rfl
  | u :: us, h => by
    show L2.wipe ((L2.wipe σ us).set u none) vs = _
    rw [wipe_set (h u List.mem_cons_self)]
    exact wipe_sub us fun x hx => h x (List.mem_cons_of_mem _ hx)
theorem wipe_idem {vs : List Nat} {σ : L2.St} : L2.wipe (L2.wipe σ vs) vs = L2.wipe σ vs := wipe_sub vs fun _ h => h
open Classical in
noncomputable def compLoop (g : Gd) (tg : MG) (tt : MT) (el : ME) (s : Sl) : List D → List D → MH → R (List D)
  | [], acc, h => if gOk g h then .ok acc h else .bad
  | x :: xs, acc, h => if gOk g h then (match tg x s with
      | some s1 => (match tt s1 h with
        | .ok b h1 => if b = true then (match el s1 h1 with
            | .ok y h2 => if acc.length < sizeLine then compLoop g tg tt el s xs (acc ++ [y]) h2 else .bad
            | _ => .bad) else compLoop g tg tt el s xs acc h1
        | _ => .bad)
      | none => .bad) else .bad
noncomputable def mComp (it : MI) (vs : List Nat) (tg : MG) (tt : MT) (el : ME) : MA := fun s h => (it s h).bind fun p h1 => compLoop p.2 tg tt el (wipeM s vs) p.1 [] h1
/-- what becomes of the list that was made -/
abbrev Fn1 := List D → MH → R D
def FinOk (K : PySem.W.Frag) (f : Fn1) : Prop := ∀ (E : XK) (w1 w2 : W3) (p : Addr) (xs : List D) (vs : List V) (Q : V → Hp → Prop), Ext w1 w2 → Ok K w1 → Ok K w2 → w1.H p = none → w2.bar p → w2.H p = some (.lst vs) → Reps K w2 xs vs →
  PostW K E (RepD K) w1 (f xs w2.h) (fun _ w' v => Q v w'.H) → Q (.ref p) w2.H
def finL : Fn1 := fun xs h => .ok (.lst xs) h
def finH : Fn1 := fun xs h => .ok (.ref h.next) (h.new (.lst xs))
theorem fin_l {K : PySem.W.Frag} : FinOk K finL := by
  intro E w1 w2 p xs vs Q x k1 k2 hp hb hl r q
  refine q (w2.free p) (.ref p) rfl (x.free k1 hp) k2.freeB ?_
  simp only [Rep]
  refine ⟨p, vs, rfl, ⟨hl, fun z => ?_⟩, r.ext0 Ext0.free⟩
  rcases z with ⟨n, o, h1, h2⟩ | z
  · exact k2.barO n o h1 (by rw [show w2.io n = p from h2]; exact hb)
  · exact z.2 rfl
theorem fin_h {K : PySem.W.Frag} : FinOk K finH := by
  intro E w1 w2 p xs vs Q x k1 k2 hp hb hl r q
  have np : ¬ Own (w2.free p) p := fun z => by
    rcases z with ⟨n, o, h1, h2⟩ | z
    · exact k2.barO n o h1 (by rw [show w2.io n = p from h2]; exact hb)
    · exact z.2 rfl
  have e0 : Ext0 w2 ((w2.free p).adopt p (.lst xs)) := Ext0.adopt hb
  refine q ((w2.free p).adopt p (.lst xs)) (.ref p) rfl ((x.free k1 hp).adopt k2.freeB hp) (Ok.adopt k2.freeB np hl (r.ext0 e0) fun n o h => (k2.dom n o h).2.ext0 e0 rfl) ?_
  simp only [Rep]
  exact ⟨Nat.lt_succ_self _, congrArg V.ref (if_pos rfl).symm⟩
section
variable {X : Cx} {E : XK} {K : PySem.W.Frag} {mi : MI} {g : TG} {mg : MG} {mt : MT} {me : ME} {vs : List Nat} {f : Fn1}
theorem tLc_of (gk : GOk K vs g mg) (fk : FinOk K f) {σ : L2.St} {H : Hp} {Q : VK} (hq : tM K E (fun s h => (mComp mi vs mg mt me s h).bind f) σ H Q) : tLc (tMI K E mi) g (tMT K E0 mt) (tM K E0 me) vs σ H Q := by
  obtain ⟨w, s, e, k, r, q⟩ := hq
  subst e
  have q' : PostW K E (RepD K) w ((mi s w.h).bind fun p h1 => (compLoop p.2 mg mt me (wipeM s vs) p.1 [] h1).bind f) fun _ w' v => Q v w'.H := by
    have e1 : (mi s w.h).bind (fun p h1 => (compLoop p.2 mg mt me (wipeM s vs) p.1 [] h1).bind f) = (mComp mi vs mg mt me s w.h).bind f := by
      unfold mComp
      cases mi s w.h <;> rfl
    rw [e1]; exact q
  refine ⟨w, s, rfl, k, r, (PostW.bind (Rel := RelI K) q').imp fun p w1 J x1 k1 wk q1 => fun L hL => ?_⟩
  have hr := (r.ext x1).wipe vs
  generalize er : compLoop p.2 mg mt me (wipeM s vs) p.1 [] w1.h = r0 at q1
  -- at each turn what is left comes to the same
  refine ⟨fun i m H' => m = p.1.length - i ∧ i ≤ p.1.length ∧ ∃ w' acc vacc, w'.H = H' ∧ Ext w1 w' ∧ Ok K w' ∧ w'.bar L ∧ w'.H L = some (.lst vacc) ∧ Reps K w' acc vacc ∧
      compLoop p.2 mg mt me (wipeM s vs) (p.1.drop i) acc w'.h = r0,
    ⟨p.1.length, by simp, Nat.zero_le _, w1.bare L (.lst []), [], [], rfl, Ext.bare k1 hL, k1.bare hL, .inr rfl, upd_same, Reps.nil, by rw [List.drop_zero]; exact er⟩, ?_⟩
  rintro i m H' ⟨rfl, hi', w', acc, vacc, rfl, x', k', hb, hl, ra, eq⟩
  have wk' := fun (z : gOk p.2 w'.h) => z
  by_cases hlt : i < p.1.length
  · rw [List.drop_eq_getElem_cons hlt] at eq
    unfold compLoop at eq
    split at eq
    · rename_i hgd
      split at eq
      · rename_i s1 hs1
        refine .inr ⟨wk.go i w' x' k' hgd hlt, fun H2 => ∃ w2 acc2 vacc2, w2.H = H2 ∧ Ext w1 w2 ∧ Ok K w2 ∧ w2.bar L ∧ w2.H L = some (.lst vacc2) ∧ Reps K w2 acc2 vacc2 ∧
            compLoop p.2 mg mt me (wipeM s vs) (p.1.drop (i + 1)) acc2 w2.h = r0, fun H2 z => ?_, fun x H2 hy => ?_⟩
        · obtain ⟨w2, acc2, vacc2, a1, a2, a3, a4, a5, a6, a7⟩ := z
          exact ⟨p.1.length - (i + 1), by omega, rfl, hlt, w2, acc2, vacc2, a1, a2, a3, a4, a5, a6, a7⟩
        · obtain ⟨w2, e2, eh, x2, k2, p2⟩ := wk.yl i w' x H2 _ x' k' hgd (List.getElem?_eq_getElem hlt) hy
          subst e2
          have xx := x'.trans x2
          obtain ⟨hb2, hl2⟩ := x2.ba L hb
          rw [hl] at hl2
          have bad : ∀ {Z : Prop}, (R.bad : R (List D)) = r0 → Z := fun ez => by
            rw [← ez] at q1
            exact q1.elim
          refine gk x (L2.wipe σ vs) w2 _ (wipeM s vs) s1 _ k2 (hr.ext xx) p2 hs1 fun σ3 r3 wq => ?_
          refine ⟨wq.trans wipe_idem, ?_⟩
          refine tMT_at k2 r3 ?_
          rw [eh]
          cases ht : mt s1 w'.h with
          | bad => rw [ht] at eq; exact bad eq
          | exc ex hx => rw [ht] at eq; exact bad eq
          | ok b h1 =>
            rw [ht] at eq
            intro w3 b' e3 x3 k3 eb
            subst eb
            cases b with
            | false =>
              rw [if_neg Bool.false_ne_true]
              simp only [Bool.false_eq_true, if_false] at eq
              obtain ⟨hb3, hl3⟩ := x3.ba L hb2
              exact ⟨w3, acc, vacc, rfl, xx.trans x3, k3, hb3, by rw [hl3, hl2], ra.ext (x2.trans x3), by rw [e3]; exact eq⟩
            | true =>
              rw [if_pos rfl]
              simp only [if_true] at eq
              refine tM_at k3 (r3.ext x3) ?_
              rw [e3]
              cases he : me s1 h1 with
              | bad => rw [he] at eq; exact bad eq
              | exc ex hx => rw [he] at eq; exact bad eq
              | ok y h2 =>
                rw [he] at eq
                simp only at eq
                intro w4 v e4 x4 k4 p4
                have x24 := x2.trans (x3.trans x4)
                obtain ⟨hb4, hl4⟩ := (x3.trans x4).ba L hb2
                rw [hl2] at hl4
                have hlen := ra.length
                split at eq
                · rename_i hz
                  refine ⟨vacc, hl4, by rw [← hlen]; exact hz, w4.barPut L (.lst (vacc ++ [v])), acc ++ [y], vacc ++ [v], rfl, (xx.trans (x3.trans x4)).barPut k1 hL, k4.barPut hb4, hb4, upd_same, ?_, by
                    show compLoop _ _ _ _ _ _ _ w4.h = _
                    rw [e4]; exact eq⟩
                  exact ((ra.ext x24).append (Reps.cons p4 Reps.nil)).ext0 (Ext0.barPut hb4)
                · exact bad eq
      · rw [← eq] at q1; exact q1.elim
    · rw [← eq] at q1; exact q1.elim
  · have e : i = p.1.length := by omega
    subst e
    rw [List.drop_length] at eq
    unfold compLoop at eq
    split at eq
    · rename_i hgd
      rw [← eq] at q1
      exact .inl ⟨wk.st w' x' k' hgd, fk E w1 w' L acc vacc Q x' k1 k' hL hb hl ra q1⟩
    · rw [← eq] at q1; exact q1.elim
end
/-- a clause's tests: none, one -/
theorem pts_imp {X : Cx} {ifs : List Expr} {t t' : TT} (h : PTs X ifs t) (hi : ∀ σ H Q, t' σ H Q → t σ H Q) : PTs X ifs t' := ⟨fun pins s σ H Q I q => h.run pins s σ H Q I (hi σ H Q q)⟩
def mYes : MT := fun _ h => .ok true h
theorem mts_nil {X : Cx} {E : XK} : PTs X [] (tMT X.K E mYes) := by
  refine pts_imp pts_nil fun σ H Q hq => ?_
  obtain ⟨w, s, e, k, r, q⟩ := hq
  subst e
  exact PostW.here (Rel := EqB) q k rfl
theorem mts_one {X : Cx} {E : XK} {c : Expr} {mt : MT} (h : PT X c (tMT X.K E mt)) : PTs X [c] (tMT X.K E mt) := pts_one h
section
variable {X : Cx} {E : XK} {mi : MI} {g : TG} {mg : MG} {mt : MT} {me : ME} {f : Fn1} {elt tg iter : Expr} {ifs : List Expr} {scope : Scope} {own : List (Str × Nat)} {pos spos py : Pos}
theorem me_lc (hc : X.calm = true) (hN : X.N.Nodup) (hi : PI X tg iter (tMI X.K E mi)) (ok : BlkOk X.N X.env.scope scope own) (gk : GOk X.K (own.map (·.2)) g mg) (fk : FinOk X.K f)
    (hg : ∀ (s : Shared) (H : Hp) (C : Addr) (cl : List (Str × Addr)) (fp : List Addr), PG (X.blk s H scope (compEnvC scope cl C X.env) fp) tg g)
    (ht : ∀ (s : Shared) (H : Hp) (C : Addr) (cl : List (Str × Addr)) (fp : List Addr), PTs (X.blk s H scope (compEnvC scope cl C X.env) fp) ifs (tMT X.K E0 mt))
    (he : ∀ (s : Shared) (H : Hp) (C : Addr) (cl : List (Str × Addr)) (fp : List Addr), PE (X.blk s H scope (compEnvC scope cl C X.env) fp) elt (tM X.K E0 me)) (hs : ∀ x, foldedSetIterable iter X.env x = pure x) :
    PE X (.ListComp elt [⟨tg, iter, ifs, 0⟩] scope pos) (tM X.K E fun s h => (mComp mi (own.map (·.2)) mg mt me s h).bind f) :=
  pe_imp (pe_lc hc hN hi ok hg ht he hs) fun _ _ _ h => tLc_of gk fk h
theorem ms_setLc {i : Nat} {y : Str} (hc : X.calm = true) (hN : X.N.Nodup) (hy : X.N[i]? = some y) (hyl : X.env.scope.names.lookup y = some .local)
    (hsw : swapsWith (.ListComp elt [⟨tg, iter, ifs, 0⟩] scope pos) (some (.Name y py)) spos.line X.env = pure true)
    (hi : PI X tg iter (tMI X.K E mi)) (ok : BlkOk X.N X.env.scope scope own) (gk : GOk X.K (own.map (·.2)) g mg) (fk : FinOk X.K f)
    (hg : ∀ (s : Shared) (H : Hp) (C : Addr) (cl : List (Str × Addr)) (fp : List Addr), PG (X.blk s H scope (compEnvC scope cl C X.env) fp) tg g)
    (ht : ∀ (s : Shared) (H : Hp) (C : Addr) (cl : List (Str × Addr)) (fp : List Addr), PTs (X.blk s H scope (compEnvC scope cl C X.env) fp) ifs (tMT X.K E0 mt))
    (he : ∀ (s : Shared) (H : Hp) (C : Addr) (cl : List (Str × Addr)) (fp : List Addr), PE (X.blk s H scope (compEnvC scope cl C X.env) fp) elt (tM X.K E0 me)) (hs : ∀ x, foldedSetIterable iter X.env x = pure x) :
    PS X (.Assign [.Name y py] (.ListComp elt [⟨tg, iter, ifs, 0⟩] scope pos) spos) (tAsg (tM X.K E fun s h => (mComp mi (own.map (·.2)) mg mt me s h).bind f) (gName i)) :=
  ps_imp (ps_setLc hc hN hy hyl hsw hi ok hg ht he hs) fun _ _ _ h => tLc_of gk fk h
end
end Tb
end

section
set_option maxHeartbeats 4000000
namespace Tb
open PySem PySem.Spec L2
/-! ## stores -/
def mSet (i : Nat) (m : ME) : MS := fun s h => (m s h).toS fun d h1 => .nx (s.set i (some d)) h1
def mUnpack (g : MG) (m : ME) : MS := fun s h => (m s h).toS fun d h1 => match g d s with
  | some s1 => .nx s1 h1
  | none => .bad
section
variable {X : Cx} {E : XK} {K : PySem.W.Frag} {e : Expr} {m : ME} {pos : Pos}
theorem tAsg_of {i : Nat} {D : Ends} {σ : L2.St} {H : Hp} (h : tMS K E (mSet i m) D σ H) : tAsg (tM K E m) (gName i) D σ H := by
  obtain ⟨w, s, e, k, r, q⟩ := h
  subst e
  exact tM_at k r ((PostW.toS (Rel := RepD K) q).imp fun d w1 v x1 k1 p1 q1 => PostS.hereN q1 k1 ((r.ext x1).set i p1))
theorem ms_set {i : Nat} {x : Str} {pos' : Pos} (hN : X.N.Nodup) (hi : X.N[i]? = some x) (hx : Loc X.env.scope x) (he : PE X e (tM X.K E m)) (hs : swapsWith e (some (.Name x pos')) pos.line X.env = pure false)
    (hf : X.fn x = true ∨ X.env.scope.names.lookup x = some .local) : PS X (.Assign [.Name x pos'] e pos) (tMS X.K E (mSet i m)) := ps_imp (ps_set hN hi hx he hs hf) fun _ _ _ h => tAsg_of h
theorem ms_unpack {tg : Expr} {vs : List Nat} {g : TG} {mg : MG} (he : PE X e (tM X.K E m)) (hg : PG X tg g) (gk : GOk X.K vs g mg) (hs : swapsWithSole [tg] e pos.line X.env = pure false) (hw : swappedStores [tg] e X.env = pure none)
    (h1 : (assignEach [tg] X.env).map (·.2) = [assign tg X.env]) : PS X (.Assign [tg] e pos) (tMS X.K E (mUnpack mg m)) := by
  refine ps_imp (ps_asg he hg hs hw h1) fun D σ H hq => ?_
  obtain ⟨w, s, e, k, r, q⟩ := hq
  subst e
  refine tM_at k r ((PostW.toS (Rel := RepD X.K) q).imp fun d w1 v x1 k1 p1 q1 => ?_)
  split at q1
  · rename_i s1 hs1
    exact gk v σ w1 d s s1 _ k1 (r.ext x1) p1 hs1 fun σ' r' _ => PostS.hereN q1 k1 r'
  · exact q1.elim
/-- a, b = x, y; a, b, c = x, y, z -/
def mPar2 (i j : Nat) (a b : ME) : MS := fun s h => (a s h).toS fun x h1 => (b s h1).toS fun y h2 => .nx ((s.set i (some x)).set j (some y)) h2
def mPar3 (i j l : Nat) (a b c : ME) : MS := fun s h => (a s h).toS fun x h1 => (b s h1).toS fun y h2 => (c s h2).toS fun z h3 => .nx (((s.set i (some x)).set j (some y)).set l (some z)) h3
theorem swapped2 {env : Env} {x y : Str} {px py pt p2 : Pos} {kt k2 : Nat} {a b : Expr} (hb : env.blockKind = .function) (hx : env.kindOf x = some .local) (hy : env.kindOf y = some .local) (hl : py.line = px.line) (hne : x ≠ y)
    (na : ∀ u p, a ≠ .Starred u p) (nb : ∀ u p, b ≠ .Starred u p) (hf : [a, b].all (foldedForSure 8) = false) (hk : [a, b].all (constantsAlone 8) = false) :
    swappedStores [.Tuple [.Name x px, .Name y py] kt pt] (.Tuple [a, b] k2 p2) env = pure (some [x, y]) := by
  have e2 : [x, y].eraseDups = [x, y] := by
    have e3 : (y == x) = false := beq_eq_false_iff_ne.mpr (Ne.symm hne)
    simp [List.eraseDups, List.eraseDupsBy, List.eraseDupsBy.loop, e3]
  unfold swappedStores
  simp only [List.length_cons, List.length_nil, hb, hf, hk, Expr.pos, hl, hx, hy, List.filterMap_cons, List.filterMap_nil, List.head?_cons, Option.map_some, Option.getD_some, beq_self_eq_true, Bool.and_self, if_true, e2]
  rw [if_neg (by decide), if_neg (by cases a <;> cases b <;> first | exact Bool.false_ne_true | exact absurd rfl (na _ _) | exact absurd rfl (nb _ _))]
  rfl
theorem swapped3 {env : Env} {x y z : Str} {px py pz pt p2 : Pos} {kt k2 : Nat} {a b c : Expr} (hb : env.blockKind = .function) (hx : env.kindOf x = some .local) (hy : env.kindOf y = some .local) (hz : env.kindOf z = some .local) (hl : py.line = px.line) (hl3 : pz.line = px.line)
    (hxy : x ≠ y) (hxz : x ≠ z) (hyz : y ≠ z) (na : ∀ u p, a ≠ .Starred u p) (nb : ∀ u p, b ≠ .Starred u p) (nc : ∀ u p, c ≠ .Starred u p) (hf : [a, b, c].all (foldedForSure 8) = false) (hk : [a, b, c].all (constantsAlone 8) = false) :
    swappedStores [.Tuple [.Name x px, .Name y py, .Name z pz] kt pt] (.Tuple [a, b, c] k2 p2) env = pure (some [x, y, z]) := by
  have e2 : [x, y, z].eraseDups = [x, y, z] := by
    have e3 : (y == x) = false := beq_eq_false_iff_ne.mpr (Ne.symm hxy)
    have e4 : (z == x) = false := beq_eq_false_iff_ne.mpr (Ne.symm hxz)
    have e5 : (z == y) = false := beq_eq_false_iff_ne.mpr (Ne.symm hyz)
    simp [List.eraseDups, List.eraseDupsBy, List.eraseDupsBy.loop, e3, e4, e5]
  unfold swappedStores
  simp only [List.length_cons, List.length_nil, hb, hf, hk, Expr.pos, hl, hl3, hx, hy, hz, List.filterMap_cons, List.filterMap_nil, List.head?_cons, Option.map_some, Option.getD_some, beq_self_eq_true, Bool.and_self, if_true, e2]
  rw [if_neg (by decide), if_neg (fun hs => by
    obtain ⟨q, hq, e⟩ := List.any_eq_true.mp hs
    have nq : ∀ u p, q ≠ .Starred u p := by
      rcases List.mem_cons.mp hq with rfl | hq
      · exact na
      · rcases List.mem_cons.mp hq with rfl | hq
        · exact nb
        · rcases List.mem_cons.mp hq with rfl | hq
          · exact nc
          · cases hq
    cases q <;> first | exact Bool.false_ne_true e | exact absurd rfl (nq _ _))]
  rfl
theorem ms_par2 {i j : Nat} {x y : Str} {a b : Expr} {ma mb : ME} {px py pt pt2 : Pos} {kt k2 : Nat} (hc : X.calm = true) (hN : X.N.Nodup) (hi : X.N[i]? = some x) (hj : X.N[j]? = some y) (hij : i ≠ j)
    (hx : X.env.scope.names.lookup x = some .local) (hy : X.env.scope.names.lookup y = some .local) (ha : PE X a (tM X.K E ma)) (hb : PE X b (tM X.K E mb))
    (sa : starEach [a, b] X.env = (false, eval a X.env) :: starEach [b] X.env) (sb : starEach [b] X.env = (false, eval b X.env) :: starEach [] X.env)
    (hw : swappedStores [.Tuple [.Name x px, .Name y py] kt pt] (.Tuple [a, b] k2 pt2) X.env = pure (some [x, y])) :
    PS X (.Assign [.Tuple [.Name x px, .Name y py] kt pt] (.Tuple [a, b] k2 pt2) pos) (tMS X.K E (mPar2 i j ma mb)) := by
  refine ps_imp (ps_par hc hN hi hj hij hx hy (pa_cons ha (pa_cons hb pa_nil sb) sa) hw) fun D σ H hq => ?_
  obtain ⟨w, s, e, k, r, q⟩ := hq
  subst e
  show tM X.K E ma σ w.H fun x H1 => tM X.K E mb σ H1 fun y H2 => ∃ v w, [x, y] = [v, w] ∧ D.nx ((σ.set i (some v)).set j (some w)) H2
  refine tM_at k r ((PostW.toS (Rel := RepD X.K) q).imp fun d w1 v x1 k1 p1 q1 => ?_)
  refine tM_at k1 (r.ext x1) ((PostW.toS (Rel := RepD X.K) q1).imp fun d2 w2 v2 x2 k2 p2 q2 => ?_)
  exact ⟨_, _, rfl, PostS.hereN q2 k2 (((r.ext (x1.trans x2)).set i (p1.ext x2)).set j p2)⟩
theorem ms_par3 {i j l : Nat} {x y z : Str} {a b c : Expr} {ma mb mc : ME} {px py pz pt pt2 : Pos} {kt k2 : Nat} (hc : X.calm = true) (hN : X.N.Nodup) (hi : X.N[i]? = some x) (hj : X.N[j]? = some y) (hl : X.N[l]? = some z) (hij : i ≠ j) (hil : i ≠ l) (hjl : j ≠ l)
    (hx : X.env.scope.names.lookup x = some .local) (hy : X.env.scope.names.lookup y = some .local) (hz : X.env.scope.names.lookup z = some .local) (ha : PE X a (tM X.K E ma)) (hb : PE X b (tM X.K E mb)) (hd : PE X c (tM X.K E mc))
    (sa : starEach [a, b, c] X.env = (false, eval a X.env) :: starEach [b, c] X.env) (sb : starEach [b, c] X.env = (false, eval b X.env) :: starEach [c] X.env) (sc : starEach [c] X.env = (false, eval c X.env) :: starEach [] X.env)
    (hw : swappedStores [.Tuple [.Name x px, .Name y py, .Name z pz] kt pt] (.Tuple [a, b, c] k2 pt2) X.env = pure (some [x, y, z])) :
    PS X (.Assign [.Tuple [.Name x px, .Name y py, .Name z pz] kt pt] (.Tuple [a, b, c] k2 pt2) pos) (tMS X.K E (mPar3 i j l ma mb mc)) := by
  refine ps_imp (ps_par3 hc hN hi hj hl hij hil hjl hx hy hz (pa_cons ha (pa_cons hb (pa_cons hd pa_nil sc) sb) sa) hw) fun D σ H hq => ?_
  obtain ⟨w, s, e, k, r, q⟩ := hq
  subst e
  show tM X.K E ma σ w.H fun x H1 => tM X.K E mb σ H1 fun y H2 => tM X.K E mc σ H2 fun z H3 => ∃ u v w, [x, y, z] = [u, v, w] ∧ D.nx (((σ.set i (some u)).set j (some v)).set l (some w)) H3
  refine tM_at k r ((PostW.toS (Rel := RepD X.K) q).imp fun d w1 v x1 k1 p1 q1 => ?_)
  refine tM_at k1 (r.ext x1) ((PostW.toS (Rel := RepD X.K) q1).imp fun d2 w2 v2 x2 k2 p2 q2 => ?_)
  refine tM_at k2 (r.ext (x1.trans x2)) ((PostW.toS (Rel := RepD X.K) q2).imp fun d3 w3 v3 x3 k3 p3 q3 => ?_)
  exact ⟨_, _, _, rfl, PostS.hereN q3 k3 ((((r.ext (x1.trans (x2.trans x3))).set i (p1.ext (x2.trans x3))).set j (p2.ext x3)).set l p3)⟩
end
/-! ## the heap is written -/
/-- o[i] = v -/
def setIx : D → D → D → MH → R Unit
  | .ref n, .int i, v, h => match h.get n with
    | some (.lst xs) => match ixN xs.length i with
      | some j => .ok () (h.set n (.lst (xs.set j v)))
      | none => .bad
    | none => .bad
  | _, _, _, _ => .bad
abbrev EqU : Rl Unit Unit := fun _ _ _ => True
def rSet (K : PySem.W.Frag) (E : XK) (f : D → D → D → MH → R Unit) : V → V → V → Hp → (Hp → Prop) → Prop := fun o i v H Q => ∃ w a b c, w.H = H ∧ Ok K w ∧ Rep K w a o ∧ Rep K w b i ∧ Rep K w c v ∧ PostW K E EqU w (f a b c w.h) fun _ w' _ => Q w'.H
theorem put_lst {K : PySem.W.Frag} {w : W3} (k : Ok K w) {n : Nat} {o : MO} {xs : List D} {vs : List V} (h : w.h.get n = some o) (r : Reps K w xs vs) : Ok K (w.put n (.lst vs) (.lst xs)) :=
  k.put h ⟨vs, upd_same, r.ext (Ext.put k h)⟩
section
variable {X : Cx} {E : XK} {pos : Pos}
theorem sr_set : PSet X (rSet X.K E setIx) := by
  intro pins s σ H o i v ov iv u Q I ro ri rv h
  obtain ⟨w, a, b, c, eH, k, ra, rb, rc, q⟩ := h
  subst eH
  unfold setIx at q
  split at q
  · split at q
    · split at q
      · rename_i xs hg _ j hj
        have r0 := ra
        simp only [Rep] at r0
        obtain ⟨vs, h1, h2⟩ := (k.dom _ _ hg).2
        refine set_list pins s σ _ o i v ov iv u Q I ro ri rv ⟨_, vs, _, j, r0.2, rep_int.mp rb, h1, by rw [← h2.length]; exact hj, ?_⟩
        exact q (w.put _ (.lst (vs.set j v)) (.lst (xs.set j _))) () rfl (Ext.put k hg) (put_lst k hg (h2.set rc j)) trivial
      · exact q.elim
    · exact q.elim
  · exact q.elim
def mSetSub (f : D → D → D → MH → R Unit) (o i v : ME) : MS := fun s h => (v s h).toS fun c h1 => (o s h1).toS fun a h2 => (i s h2).toS fun b h3 => (f a b c h3).toS fun _ h4 => .nx s h4
theorem ms_setSub {o i e : Expr} {mo mi me : ME} {f : D → D → D → MH → R Unit} {spos : Pos} (hs : PSet X (rSet X.K E f)) (he : PE X e (tM X.K E me)) (ho : PE X o (tM X.K E mo)) (hi : PE X i (tM X.K E mi))
    (ha : ∀ v, assign (.Subscript o i pos) X.env v = (do
      let ov ← holding [v] (eval o X.env)
      let iv ← holding [v, ov] (eval i X.env)
      standAt pos
      holding [v, ov, iv] (setItem ov iv v)
      release [v, ov, iv] []))
    (h1 : swapsWithSole [.Subscript o i pos] e spos.line X.env = pure false) (h2 : swappedStores [.Subscript o i pos] e X.env = pure none) (h3 : (assignEach [.Subscript o i pos] X.env).map (·.2) = [assign (.Subscript o i pos) X.env]) :
    PS X (.Assign [.Subscript o i pos] e spos) (tMS X.K E (mSetSub f mo mi me)) := by
  refine ps_imp (ps_asg he (pg_sub ho hi hs ha) h1 h2 h3) fun D σ H hq => ?_
  obtain ⟨w, s, e, k, r, q⟩ := hq
  subst e
  refine tM_at k r ((PostW.toS (Rel := RepD X.K) q).imp fun c w1 v x1 k1 p1 q1 => ?_)
  refine tM_at k1 (r.ext x1) ((PostW.toS (Rel := RepD X.K) q1).imp fun a w2 v2 x2 k2 p2 q2 => ?_)
  refine tM_at k2 (r.ext (x1.trans x2)) ((PostW.toS (Rel := RepD X.K) q2).imp fun b w3 v3 x3 k3 p3 q3 => ?_)
  refine ⟨w3, a, b, c, rfl, k3, p2.ext x3, p3, p1.ext (x2.trans x3), (PostW.toS (Rel := EqU) q3).imp fun _ w4 _ x4 k4 _ q4 => ?_⟩
  exact PostS.hereN q4 k4 (r.ext (x1.trans (x2.trans (x3.trans x4))))
/-- o[i] op= e, o a list -/
def getIxL : F2
  | d, .int i, h => match lstOf h d with
    | some xs => match atI xs i with
      | some x => .ok x h
      | none => .bad
    | none => .bad
  | _, _, _ => .bad
theorem gr_ix : PGet X (rM X.K E getIxL) := by
  intro pins s σ H o i ov iv Q I ro ri h
  obtain ⟨w, d, e, eH, k, rd, re, q⟩ := h
  subst eH
  unfold getIxL at q
  split at q
  · split at q
    · split at q
      · rename_i i _ xs e1 _ z hz
        obtain ⟨p, vs, ex, h2, h3⟩ := lst_at k rd e1
        obtain ⟨z', h4, h5⟩ := atI_rep h3 hz
        have ei := rep_int.mp re
        subst ex ei
        cases ro
        obtain ⟨t, rfl⟩ := ri
        obtain ⟨its, r, pl, hl0⟩ := I.list (SqL.of h2)
        obtain ⟨j, j1, j2, j3, j4, j5⟩ := atI_get h4
        obtain ⟨u, eu, ru⟩ := r.get j2
        have hl := r.length
        have hn := line63
        have fin : EP X pins σ Q u s := ⟨z', w.H, I, ru, q.here k h5⟩
        by_cases h0 : 0 ≤ i
        · have hj : i.toNat = j := by
            have := (seqIndex_of h0 j5).symm.trans j1
            exact Option.some.inj this
          refine wpAny_getItem_list pl.isList h0 (by omega) ?_ fin
          rw [hj]
          simpa using eu
        · have hj : (i + (its.toArray.size : Int)).toNat = j := by
            have := (seqIndex_neg (by omega) j4).symm.trans j1
            rw [List.size_toArray, ← hl]
            exact Option.some.inj this
          refine wpAny_getItem_list_neg pl.isList (by omega) (by rw [List.size_toArray] <;> omega) (by omega) ?_ fin
          rw [hj]
          simpa using eu
      · exact q.elim
    · exact q.elim
  · exact q.elim
def mAugSub (g : F2) (f : F2) (st : D → D → D → MH → R Unit) (o i e : ME) : MS := fun s h => (o s h).toS fun a h1 => (i s h1).toS fun b h2 => (g a b h2).toS fun x h3 => (e s h3).toS fun y h4 => (f x y h4).toS fun z h5 => (st a b z h5).toS fun _ h6 => .nx s h6
theorem ms_augSub {o i e : Expr} {mo mi me : ME} {g f : F2} {st : D → D → D → MH → R Unit} {op : Operator} {spos : Pos} (hg : PGet X (rM X.K E g)) (hp : OpR X (inplaceOp op) (rM X.K E f)) (hs : PSet X (rSet X.K E st)) (ho : PE X o (tM X.K E mo)) (hi : PE X i (tM X.K E mi)) (he : PE X e (tM X.K E me))
    (ha : ∀ ov iv new, augStore i ov iv new = (do holding [new, ov, iv] (setItem ov iv new); release [new, ov, iv] []; pure .next)) : PS X (.AugAssign (.Subscript o i pos) op e spos) (tMS X.K E (mAugSub g f st mo mi me)) := by
  refine ps_imp (ps_augS ho hi hg he hp hs ha) fun D σ H hq => ?_
  obtain ⟨w, s, e, k, r, q⟩ := hq
  subst e
  refine tM_at k r ((PostW.toS (Rel := RepD X.K) q).imp fun a w1 v1 x1 k1 p1 q1 => ?_)
  refine tM_at k1 (r.ext x1) ((PostW.toS (Rel := RepD X.K) q1).imp fun b w2 v2 x2 k2 p2 q2 => ?_)
  refine ⟨w2, a, b, rfl, k2, p1.ext x2, p2, (PostW.toS (Rel := RepD X.K) q2).imp fun x w3 v3 x3 k3 p3 q3 => ?_⟩
  have x13 := x1.trans (x2.trans x3)
  refine tM_at k3 (r.ext x13) ((PostW.toS (Rel := RepD X.K) q3).imp fun y w4 v4 x4 k4 p4 q4 => ?_)
  refine ⟨w4, x, y, rfl, k4, p3.ext x4, p4, (PostW.toS (Rel := RepD X.K) q4).imp fun z w5 v5 x5 k5 p5 q5 => ?_⟩
  refine ⟨w5, a, b, z, rfl, k5, p1.ext (x2.trans (x3.trans (x4.trans x5))), p2.ext (x3.trans (x4.trans x5)), p5, (PostW.toS (Rel := EqU) q5).imp fun _ w6 _ x6 k6 _ q6 => ?_⟩
  exact PostS.hereN q6 k6 (r.ext (x13.trans (x4.trans (x5.trans x6))))
/-- x op= e -/
def mAug (i : Nat) (f : F2) (e : ME) : MS := fun s h => match s[i]? with
  | some (some x) => (e s h).toS fun y h1 => (f x y h1).toS fun z h2 => .nx (s.set i (some z)) h2
  | _ => .bad
theorem ms_aug {i : Nat} {x : Str} {e : Expr} {me : ME} {f : F2} {op : Operator} {pos' : Pos} (hN : X.N.Nodup) (hi : X.N[i]? = some x) (hx : Loc X.env.scope x) (he : PE X e (tM X.K E me)) (hp : OpR X (inplaceOp op) (rM X.K E f)) (hf : X.fn x = true ∨ X.env.scope.names.lookup x = some .local) :
    PS X (.AugAssign (.Name x pos') op e pos) (tMS X.K E (mAug i f me)) := by
  refine ps_imp (ps_aug hN hi hx he hp hf) fun D σ H hq => ?_
  obtain ⟨w, s, e, k, r, q⟩ := hq
  subst e
  unfold mAug at q
  split at q
  · rename_i d hd
    obtain ⟨v, e1, p0⟩ := r.2 i d hd
    refine ⟨v, e1, tM_at k r ((PostW.toS (Rel := RepD X.K) q).imp fun y w1 u x1 k1 p1 q1 => ?_)⟩
    refine ⟨w1, d, y, rfl, k1, p0.ext x1, p1, (PostW.toS (Rel := RepD X.K) q1).imp fun z w2 v2 x2 k2 p2 q2 => ?_⟩
    exact PostS.hereN q2 k2 ((r.ext (x1.trans x2)).set i p2)
  · exact q.elim
/-- the operators in place -/
def iopAdd : F2
  | .int i, .int j, h => .ok (.int (i + j)) h
  | .str x, .str y, h => if x.length + y.length ≤ sizeLine then .ok (.str (x ++ y)) h else .bad
  | .ref n, e, h => match h.get n, lstOf h e with
    | some (.lst xs), some ys => if xs.length + ys.length ≤ sizeLine then .ok (.ref n) (h.set n (.lst (xs ++ ys))) else .bad
    | _, _ => .bad
  | _, _, _ => .bad
def iopSub : F2
  | .int i, .int j, h => .ok (.int (i - j)) h
  | _, _, _ => .bad
theorem oi_add : OpR X (inplaceOp .Add) (rM X.K E iopAdd) := by
  intro pins s σ H x y v u Q I rx ry h
  obtain ⟨w, d, e, eH, k, rd, re, q⟩ := h
  subst eH
  unfold iopAdd at q
  split at q
  · rw [rep_int] at rd re
    exact iop_add pins s σ _ x y v u Q I rx ry ⟨_, _, rd, re, q.here k (rep_int.mpr rfl)⟩
  · rw [rep_str] at rd re
    split at q
    · exact iop_add_str pins s σ _ x y v u Q I rx ry ⟨_, _, rd, re, by assumption, q.here k (rep_str.mpr rfl)⟩
    · exact q.elim
  · split at q
    · rename_i n _ _ xs ys e1 e2
      split at q
      · rename_i hz
        have r0 := rd
        simp only [Rep] at r0
        obtain ⟨vs, h1, h2⟩ := (k.dom n _ e1).2
        obtain ⟨b, us, ex, h3, h4⟩ := lst_at k re e2
        refine iop_ext pins s σ _ x y v u Q I rx ry ⟨_, b, vs, us, r0.2, ex, h1, h3, by rw [← h2.length, ← h4.length]; exact hz, ?_⟩
        refine q (w.put n (.lst (vs ++ us)) (.lst (xs ++ ys))) _ rfl (Ext.put k e1) (put_lst k e1 (h2.append h4)) ?_
        simp only [Rep]
        exact ⟨r0.1, rfl⟩
      · exact q.elim
    · exact q.elim
  · exact q.elim
theorem oi_sub : OpR X (inplaceOp .Sub) (rM X.K E iopSub) := by
  intro pins s σ H x y v u Q I rx ry h
  obtain ⟨w, d, e, eH, k, rd, re, q⟩ := h
  subst eH
  unfold iopSub at q
  split at q
  · rw [rep_int] at rd re
    exact iop_sub pins s σ _ x y v u Q I rx ry ⟨_, _, rd, re, q.here k (rep_int.mpr rfl)⟩
  · exact q.elim
end
/-! ## methods of built-in types -/
abbrev FM := D → List D → MH → R D
def rMeth (K : PySem.W.Frag) (E : XK) (f : FM) : V → List V → Hp → VK → Prop := fun x vs H Q => ∃ w d ds, w.H = H ∧ Ok K w ∧ Rep K w d x ∧ Reps K w ds vs ∧ PostW K E (RepD K) w (f d ds w.h) fun _ w' v => Q v w'.H
/-- the receiver's kind -/
def kindIs (T : String) (d : D) (h : MH) : Bool := match d with
  | .str _ => T == "str"
  | d => T == "list" && (lstOf h d).isSome
theorem kind_ok {K : PySem.W.Frag} {w : W3} {T : String} {d : D} {v : V} (k : Ok K w) (r : Rep K w d v) (h : kindIs T d w.h = true) : tyV K T v w.H := by
  unfold kindIs at h
  split at h
  · rw [rep_str] at r
    subst r
    exact beq_iff_eq.mp h
  · rw [Bool.and_eq_true, beq_iff_eq] at h
    obtain ⟨xs, e⟩ := Option.isSome_iff_exists.mp h.2
    obtain ⟨a, vs, rfl, h2, _⟩ := lst_at k r e
    exact .inl ⟨h.1, vs, SqL.of h2⟩
def mMeth (T : String) (f : FM) (o : ME) (a : MA) : ME := fun s h => (o s h).bind fun d h1 => if kindIs T d h1 = true then (a s h1).bind fun ds h2 => f d ds h2 else .bad
section
variable {X : Cx} {E : XK} {o e : Expr} {es : List Expr} {mo : ME} {ma : MA} {f : FM} {T id : String} {name : Str} {apos cpos : Pos}
theorem tBM_of {σ : L2.St} {H : Hp} {Q : VK} (h : tM X.K E (mMeth T f mo ma) σ H Q) : tBM X.K T (rMeth X.K E f) (tM X.K E mo) (tMA X.K E ma) σ H Q := by
  obtain ⟨w, s, e, k, r, q⟩ := h
  subst e
  refine tM_at k r ((PostW.bind (Rel := RepD X.K) q).imp fun d w1 v x1 k1 p1 q1 => ?_)
  split at q1
  · rename_i hk
    refine ⟨kind_ok k1 p1 hk, tMA_at k1 (r.ext x1) ((PostW.bind (Rel := RepL X.K) q1).imp fun ds w2 vs x2 k2 p2 q2 => ?_)⟩
    exact ⟨w2, d, ds, rfl, k2, p1.ext x2, p2, q2⟩
  · exact q1.elim
theorem me_meth (pa : PlainAttrs T) (slot : Slot T name id) (hty : typeOf (.builtin id) = pure (.type "method_descriptor")) (hm : MtR X id (rMeth X.K E f)) (ho : PE X o (tM X.K E mo)) (ha : PA X (e :: es) (tMA X.K E ma))
    (hb : attributeBase o name X.env (eval o X.env) = eval o X.env)
    (h30 : ((((backTo cpos (starEach (e :: es) X.env)).all fun x => !x.1) && (backToKw cpos (keywordEach [] X.env)).all fun x => x.1.isSome) && decide (((e :: es).length + ([] : List Keyword).length + if ([] : List Keyword).isEmpty = true then 0 else 1) < 30)) = true)
    (hl : (apos.endLine == cpos.line) = true) (hs : starEach (e :: es) X.env = (false, eval e X.env) :: starEach es X.env) (hn : ((backTo cpos (starEach es X.env)).any fun x => x.1) = false) :
    PE X (.Call (.Attribute o name apos) (e :: es) [] cpos) (tM X.K E (mMeth T f mo ma)) :=
  pe_imp (pe_bm pa slot hty hm ho ha hb h30 hl hs hn) fun _ _ _ h => tBM_of h
/-- append, extend -/
def lAppend : FM
  | .ref n, [x], h => match h.get n with
    | some (.lst xs) => if xs.length < sizeLine then .ok .non (h.set n (.lst (xs ++ [x]))) else .bad
    | none => .bad
  | _, _, _ => .bad
def lExtend : FM
  | .ref n, [x], h => match h.get n, lstOf h x with
    | some (.lst xs), some ys => if xs.length + ys.length ≤ sizeLine then .ok .non (h.set n (.lst (xs ++ ys))) else .bad
    | _, _ => .bad
  | _, _, _ => .bad
theorem mr_append : MtR X "list.append" (rMeth X.K E lAppend) := by
  intro pins s σ H x vs v us Q I rx rv h
  obtain ⟨w, d, ds, eH, k, rd, rs, q⟩ := h
  subst eH
  unfold lAppend at q
  split at q
  · split at q
    · rename_i xs e1
      split at q
      · rename_i hz
        obtain ⟨y, rfl, r1⟩ := rs.one
        have r0 := rd
        simp only [Rep] at r0
        obtain ⟨vs, h1, h2⟩ := (k.dom _ _ e1).2
        refine mt_append pins s σ _ x _ v us Q I rx rv ⟨_, vs, y, r0.2, rfl, h1, by rw [← h2.length]; exact hz, ?_⟩
        exact q (w.put _ (.lst (vs ++ [y])) (.lst (xs ++ [_]))) _ rfl (Ext.put k e1) (put_lst k e1 (h2.append (Reps.cons r1 Reps.nil))) (rep_non.mpr rfl)
      · exact q.elim
    · exact q.elim
  · exact q.elim
theorem mr_extend : MtR X "list.extend" (rMeth X.K E lExtend) := by
  intro pins s σ H x vs v us Q I rx rv h
  obtain ⟨w, d, ds, eH, k, rd, rs, q⟩ := h
  subst eH
  unfold lExtend at q
  split at q
  · split at q
    · rename_i xs ys e1 e2
      split at q
      · rename_i hz
        obtain ⟨y, rfl, r1⟩ := rs.one
        have r0 := rd
        simp only [Rep] at r0
        obtain ⟨vs, h1, h2⟩ := (k.dom _ _ e1).2
        obtain ⟨b, us', rfl, h3, h4⟩ := lst_at k r1 e2
        refine mt_extend pins s σ _ x _ v us Q I rx rv ⟨_, b, vs, us', r0.2, rfl, h1, h3, by rw [← h2.length, ← h4.length]; exact hz, ?_⟩
        exact q (w.put _ (.lst (vs ++ us')) (.lst (xs ++ ys))) _ rfl (Ext.put k e1) (put_lst k e1 (h2.append h4)) (rep_non.mpr rfl)
      · exact q.elim
    · exact q.elim
  · exact q.elim
end
/-! ## built-in functions -/
abbrev FB := List D → MH → R D
def rB (K : PySem.W.Frag) (E : XK) (f : FB) : List V → Hp → VK → Prop := fun vs H Q => ∃ w ds, w.H = H ∧ Ok K w ∧ Reps K w ds vs ∧ PostW K E (RepD K) w (f ds w.h) fun _ w' v => Q v w'.H
def mCallB (f : FB) (a : MA) : ME := fun s h => (a s h).bind f
section
variable {X : Cx} {E : XK} {e : Expr} {es : List Expr} {ma : MA} {f : FB} {T id : String} {x : Str} {p pos : Pos}
theorem tCB_of {σ : L2.St} {H : Hp} {Q : VK} (h : tM X.K E (mCallB f ma) σ H Q) : tCB (rB X.K E f) (tMA X.K E ma) σ H Q := by
  obtain ⟨w, s, e, k, r, q⟩ := h
  subst e
  exact tMA_at k r ((PostW.bind (Rel := RepL X.K) q).imp fun ds w1 vs x1 k1 p1 q1 => ⟨w1, ds, rfl, k1, p1, q1⟩)
theorem me_callB (hc : CallR X (.builtin id) (rB X.K E f)) (hg : Gl X x) (hm : X.mg x = none) (hv : bootBuiltins x = some (.builtin id)) (ha : PA X (e :: es) (tMA X.K E ma)) (hn : x ≠ "__name__") (hd : (x == ("__debug__" : Str)) = false)
    (he : starEach (e :: es) X.env = (false, eval e X.env) :: starEach es X.env) (hp : (backTo pos (starEach es X.env)).any (·.1) = false) : PE X (.Call (.Name x p) (e :: es) [] pos) (tM X.K E (mCallB f ma)) :=
  pe_imp (pe_callB hc hg hm hv ha hn hd he hp) fun _ _ _ h => tCB_of h
theorem me_callTy (hc : CallR X (.type T) (rB X.K E f)) (hg : Gl X x) (hm : X.mg x = none) (hv : bootBuiltins x = some (.type T)) (ha : PA X (e :: es) (tMA X.K E ma)) (hn : x ≠ "__name__") (hd : (x == ("__debug__" : Str)) = false)
    (he : starEach (e :: es) X.env = (false, eval e X.env) :: starEach es X.env) (hp : (backTo pos (starEach es X.env)).any (·.1) = false) : PE X (.Call (.Name x p) (e :: es) [] pos) (tM X.K E (mCallB f ma)) :=
  pe_imp (pe_callTy hc hg hm hv ha hn hd he hp) fun _ _ _ h => tCB_of h
end
end Tb
end

section
set_option maxHeartbeats 4000000
namespace Tb
open PySem PySem.Spec PyProof.Rows L2
/-! ## sum, max, min, any, all of a tuple -/
section
variable {prog : Program} {w : World} {A : Around} {E : Value → Shared → Prop} {s : Shared} {l : Addr} {its : List Value} {ns : List Int} {xs : Array (Int × Tok)}
theorem iter_tup {items : Array Value} {Q : Value → Shared → Prop} (hl : s.heap.IsTuple l items) (k : ∀ s2 : Shared, s2 = { s with heap := s.heap.push { cls := .type "tuple_iterator", data := .fields #[.ref l, .int 0 0] } } →
    (s2.heap.IsTupleIter s.heap.objs.size l 0 ∧ s2.heap.IsTuple l items) → (∀ b ∈ [s.heap.objs.size, l], b < s2.heap.objs.size) → l ≠ s.heap.objs.size → Q (.ref s.heap.objs.size) s2) : wpAny (model prog w) A (pyIter (.ref l)) Q E s := by
  have lt : l < s.heap.objs.size := by
    obtain ⟨_, e, _⟩ := hl
    exact Heap.lt_size e
  refine wpAny_pyIter_tuple hl (k _ rfl ⟨⟨_, Heap.get?_push_size _ rfl, rfl, rfl⟩, hl.push _⟩ (fun b hb => ?_) (Nat.ne_of_lt lt))
  show b < (s.heap.push _).objs.size
  rw [Heap.size_push]
  simp only [List.mem_cons, List.not_mem_nil, or_false] at hb
  rcases hb with e | e <;> rw [e]
  · exact Nat.lt_succ_self _
  · exact Nat.lt_succ_of_lt lt
theorem keptT {o : Obj} {h' : Heap} (k : ∀ b ob, b ∉ [s.heap.objs.size] → (s.heap.push o).get? b = some ob → h'.get? b = some ob) : ∀ b ob, s.heap.get? b = some ob → h'.get? b = some ob := fun b ob e => by
  refine k b ob (fun hm => ?_) (Heap.get?_push_of_some _ e)
  simp only [List.mem_cons, List.not_mem_nil, or_false] at hm
  exact absurd (hm ▸ Heap.lt_size e) (Nat.lt_irrefl _)
theorem sumT {Q : Value → Shared → Prop} (hh : A.handled = none) (hl : s.heap.IsTuple l its.toArray) (hi : IntsAre its ns) (k : ∀ h' tk t', (∀ b o, s.heap.get? b = some o → h'.get? b = some o) → Q (.int ns.sum t') { s with heap := h', toks := tk }) :
    wpAny (model prog w) A (call (.builtin "sum") [.ref l]) Q E s := by
  obtain ⟨xs, e⟩ := hi.allInts.items
  have hn : numsOf (intItems xs).toList = ns := by rw [← e]; exact hi.numsOf
  rw [nums_intItems] at hn
  rw [e] at hl
  refine call_sum_walkG (iter_tup hl fun s2 e2 st fp lI => ?_)
  subst e2
  refine ⟨_, _, _, _, _, _, numAt xs, rfl, Walks.tuple (A := A.in1) hh _ l lI (intItems xs), st, fp, (fun _ _ => intItems_at), fun h' tk t' hk => ?_⟩
  have z := k h' tk t' (keptT hk)
  rw [show (intItems xs).size = xs.size by simp [intItems], preSum_eq, List.take_of_length_le (by simp), hn]
  exact z
theorem maxT {Q : Value → Shared → Prop} (hh : A.handled = none) (hl : s.heap.IsTuple l its.toArray) (hi : IntsAre its ns) (hne : 0 < ns.length)
    (k : ∀ h' tk M t', (∀ b o, s.heap.get? b = some o → h'.get? b = some o) → M ∈ ns → (∀ a, a ∈ ns → a ≤ M) → Q (.int M t') { s with heap := h', toks := tk }) : wpAny (model prog w) A (call (.builtin "max") [.ref l]) Q E s := by
  obtain ⟨xs, e⟩ := hi.allInts.items
  have hn : numsOf (intItems xs).toList = ns := by rw [← e]; exact hi.numsOf
  rw [nums_intItems] at hn
  subst hn
  rw [e] at hl
  have hsz : 0 < xs.size := by simpa using hne
  refine call_max_walk (iter_tup hl fun s2 e2 st fp lI => ?_)
  subst e2
  refine ⟨_, _, _, _, _, _, _, rfl, Walks.tuple (A := A.in1) hh _ l lI (intItems xs), st, fp, by simpa [intItems] using hsz, CmpOf.ints_gt (numAt xs) (fun _ _ => intItems_at), fun v h' tk hP hk => ?_⟩
  have hP' : (intItems xs)[argBest (fun i j => decide (numAt xs i > numAt xs j)) (xs.size - 1)]? = some v := by simpa [intItems] using hP
  obtain ⟨t, rfl⟩ := intItems_at hP'
  obtain ⟨h1, h2⟩ := argBest_gt (numAt xs) (xs.size - 1)
  refine k h' tk _ t (keptT hk) ?_ fun a ha => ?_
  · rw [numAt_eq]; exact PySem.getD_mem (by rw [List.length_map, Array.length_toList]; omega)
  · obtain ⟨j, hj, rfl⟩ := mem_getD ha
    rw [List.length_map, Array.length_toList] at hj
    rw [← numAt_eq]; exact h2 j (by omega)
theorem minT {Q : Value → Shared → Prop} (hh : A.handled = none) (hl : s.heap.IsTuple l its.toArray) (hi : IntsAre its ns) (hne : 0 < ns.length)
    (k : ∀ h' tk M t', (∀ b o, s.heap.get? b = some o → h'.get? b = some o) → M ∈ ns → (∀ a, a ∈ ns → M ≤ a) → Q (.int M t') { s with heap := h', toks := tk }) : wpAny (model prog w) A (call (.builtin "min") [.ref l]) Q E s := by
  obtain ⟨xs, e⟩ := hi.allInts.items
  have hn : numsOf (intItems xs).toList = ns := by rw [← e]; exact hi.numsOf
  rw [nums_intItems] at hn
  subst hn
  rw [e] at hl
  have hsz : 0 < xs.size := by simpa using hne
  refine call_min_walk (iter_tup hl fun s2 e2 st fp lI => ?_)
  subst e2
  refine ⟨_, _, _, _, _, _, _, rfl, Walks.tuple (A := A.in1) hh _ l lI (intItems xs), st, fp, by simpa [intItems] using hsz, CmpOf.ints_lt (numAt xs) (fun _ _ => intItems_at), fun v h' tk hP hk => ?_⟩
  have hP' : (intItems xs)[argBest (fun i j => decide (numAt xs i < numAt xs j)) (xs.size - 1)]? = some v := by simpa [intItems] using hP
  obtain ⟨t, rfl⟩ := intItems_at hP'
  obtain ⟨h1, h2⟩ := argBest_lt (numAt xs) (xs.size - 1)
  refine k h' tk _ t (keptT hk) ?_ fun a ha => ?_
  · rw [numAt_eq]; exact PySem.getD_mem (by rw [List.length_map, Array.length_toList]; omega)
  · obtain ⟨j, hj, rfl⟩ := mem_getD ha
    rw [List.length_map, Array.length_toList] at hj
    rw [← numAt_eq]; exact h2 j (by omega)
end
section
variable {X : Cx}
theorem cr_sumT (hc : X.calm = true) : CallR X (.builtin "sum") fun vs H Q => ∃ (a : Addr) (ns : List Int), vs = [V.ref a] ∧ SqT X.K H a (ns.map V.int) ∧ Q (.int ns.sum) H := by
  intro pins s σ H vs us Q I r h
  obtain ⟨a, ns, rfl, hs, q⟩ := h
  obtain ⟨its, rv, hl, _⟩ := I.tuple hs
  rw [Vals.ref1 r]
  exact sumT (I.ok.hd hc) hl rv.ints fun h' tk t' hk => ⟨.int _, H, I.kept hk, ⟨_, rfl⟩, q⟩
theorem cr_maxT (hc : X.calm = true) : CallR X (.builtin "max") fun vs H Q => ∃ (a : Addr) (ns : List Int), vs = [V.ref a] ∧ SqT X.K H a (ns.map V.int) ∧ 0 < ns.length ∧ ∀ m, m ∈ ns → (∀ y, y ∈ ns → y ≤ m) → Q (.int m) H := by
  intro pins s σ H vs us Q I r h
  obtain ⟨a, ns, rfl, hs, hne, q⟩ := h
  obtain ⟨its, rv, hl, _⟩ := I.tuple hs
  rw [Vals.ref1 r]
  exact maxT (I.ok.hd hc) hl rv.ints hne fun h' tk m t' hk h1 h2 => ⟨.int _, H, I.kept hk, ⟨_, rfl⟩, q m h1 h2⟩
theorem cr_minT (hc : X.calm = true) : CallR X (.builtin "min") fun vs H Q => ∃ (a : Addr) (ns : List Int), vs = [V.ref a] ∧ SqT X.K H a (ns.map V.int) ∧ 0 < ns.length ∧ ∀ m, m ∈ ns → (∀ y, y ∈ ns → m ≤ y) → Q (.int m) H := by
  intro pins s σ H vs us Q I r h
  obtain ⟨a, ns, rfl, hs, hne, q⟩ := h
  obtain ⟨its, rv, hl, _⟩ := I.tuple hs
  rw [Vals.ref1 r]
  exact minT (I.ok.hd hc) hl rv.ints hne fun h' tk m t' hk h1 h2 => ⟨.int _, H, I.kept hk, ⟨_, rfl⟩, q m h1 h2⟩
theorem cr_anyT (hc : X.calm = true) : CallR X (.builtin "any") fun vs H Q => ∃ (a : Addr) (bs : List Bool), vs = [V.ref a] ∧ SqT X.K H a (bs.map V.bl) ∧ Q (.bl (bs.any id)) H := by
  intro pins s σ H vs us Q I r h
  obtain ⟨a, bs, rfl, hs, q⟩ := h
  obtain ⟨its, rv, hl, _⟩ := I.tuple hs
  rw [Vals.ref1 r]
  have hb := rv.bls
  refine call_any_walk (iter_tup hl fun s2 e2 st fp lI => ?_)
  subst e2
  refine ⟨_, _, _, _, _, _, _, rfl, Walks.tuple (A := X.A.in1) (I.ok.hd hc) _ a lI its.toArray, st, truth_bools hb, fun h' tk hk => ?_⟩
  refine ⟨.bl _, H, I.kept (keptT hk), ?_, q⟩
  show Value.bool _ = Value.bool _
  rw [← L2.any_range, hb, List.size_toArray, List.length_map]
theorem cr_allT (hc : X.calm = true) : CallR X (.builtin "all") fun vs H Q => ∃ (a : Addr) (bs : List Bool), vs = [V.ref a] ∧ SqT X.K H a (bs.map V.bl) ∧ Q (.bl (bs.all id)) H := by
  intro pins s σ H vs us Q I r h
  obtain ⟨a, bs, rfl, hs, q⟩ := h
  obtain ⟨its, rv, hl, _⟩ := I.tuple hs
  rw [Vals.ref1 r]
  have hb := rv.bls
  refine call_all_walk (iter_tup hl fun s2 e2 st fp lI => ?_)
  subst e2
  refine ⟨_, _, _, _, _, _, _, rfl, Walks.tuple (A := X.A.in1) (I.ok.hd hc) _ a lI its.toArray, st, truth_bools hb, fun h' tk hk => ?_⟩
  refine ⟨.bl _, H, I.kept (keptT hk), ?_, q⟩
  show Value.bool _ = Value.bool _
  rw [← L2.all_range, hb, List.size_toArray, List.length_map]
end
end Tb
end

section
set_option maxHeartbeats 4000000
namespace Tb
open PySem PySem.Spec L2
/-! ## built-in functions, one by one -/
def bLen : FB
  | [.str x], h => if x.length ≤ sizeLine then .ok (.int (x.length : Nat)) h else .bad
  | [d], h => match seqOf h d with
    | some xs => .ok (.int (xs.length : Nat)) h
    | none => .bad
  | _, _ => .bad
def bTuple : FB
  | [d], h => match seqOf h d with
    | some xs => .ok (.tup xs) h
    | none => .bad
  | _, _ => .bad
def bList : FB
  | [d], h => match seqOf h d with
    | some xs => .ok (.lst xs) h
    | none => .bad
  | _, _ => .bad
/-- .. held -/
def bListH : FB
  | [d], h => match seqOf h d with
    | some xs => .ok (.ref h.next) (h.new (.lst xs))
    | none => .bad
  | _, _ => .bad
def bRepr : FB
  | [d], h => match toD h d with
    | some p => if p.showable = true ∧ p.shown.length ≤ sizeLine ∧ SeqAt.shaped p = true then .ok (.str p.shown) h else .bad
    | none => .bad
  | _, _ => .bad
def bAbs : FB
  | [.int i], h => .ok (.int (if i < 0 then -i else i)) h
  | _, _ => .bad
def bInt : FB
  | [.int i], h => .ok (.int i) h
  | [.bl k], h => .ok (.int (if k then 1 else 0)) h
  | _, _ => .bad
def bStr : FB
  | [.int i], h => if i.natAbs.log2 < 1920 then .ok (.str (toString i)) h else .bad
  | [.str x], h => .ok (.str x) h
  | _, _ => .bad
def bOrd : FB
  | [.str x], h => if x.length = 1 then .ok (.int (x.cps.getD 0 0 : Nat)) h else .bad
  | _, _ => .bad
def maxI (ns : List Int) : Int := ns.foldl max (ns.headD 0)
def minI (ns : List Int) : Int := ns.foldl min (ns.headD 0)
def bMax : FB
  | [.int i, .int j], h => .ok (.int (if j > i then j else i)) h
  | [d], h => match (seqOf h d).bind intsOf with
    | some (n :: ns) => .ok (.int (maxI (n :: ns))) h
    | _ => .bad
  | _, _ => .bad
def bMin : FB
  | [.int i, .int j], h => .ok (.int (if j < i then j else i)) h
  | [d], h => match (seqOf h d).bind intsOf with
    | some (n :: ns) => .ok (.int (minI (n :: ns))) h
    | _ => .bad
  | _, _ => .bad
def bSum : FB
  | [d], h => match (seqOf h d).bind intsOf with
    | some ns => .ok (.int ns.sum) h
    | none => .bad
  | _, _ => .bad
def blsOf : List D → Option (List Bool)
  | [] => some []
  | .bl b :: xs => (blsOf xs).map (b :: ·)
  | _ => none
def bAll : FB
  | [d], h => match (seqOf h d).bind blsOf with
    | some bs => .ok (.bl (bs.all id)) h
    | none => .bad
  | _, _ => .bad
def bAny : FB
  | [d], h => match (seqOf h d).bind blsOf with
    | some bs => .ok (.bl (bs.any id)) h
    | none => .bad
  | _, _ => .bad
/-- a value's class, of the built-in ones -/
def kindOf (h : MH) : D → Option String
  | .non => some "NoneType"
  | .bl _ => some "bool"
  | .int _ => some "int"
  | .str _ => some "str"
  | .tup _ => some "tuple"
  | .lst _ => some "list"
  | .ref n => match h.get n with
    | some (.lst _) => some "list"
    | none => none
  | _ => none
def isIn (k c : String) : Option Bool := if k = c then some true else if k = "bool" ∧ c = "int" then some true else if c = "int" ∨ c = "str" ∨ c = "tuple" ∨ c = "list" ∨ c = "bool" ∨ c = "dict" then some false else none
def bIsi : FB
  | [d, .raw (.ty c)], h => match (kindOf h d).bind (isIn · c) with
    | some b => .ok (.bl b) h
    | none => .bad
  | _, _ => .bad
theorem isIn_ok {k c : String} {b : Bool} (hk : k = "NoneType" ∨ k = "bool" ∨ k = "int" ∨ k = "str" ∨ k = "tuple" ∨ k = "list") (h : isIn k c = some b) : kitB k c = some b := by
  unfold isIn at h
  split at h
  · rename_i e
    subst e
    cases h
    rcases hk with rfl | rfl | rfl | rfl | rfl | rfl <;> decide +kernel
  · split at h
    · rename_i e
      cases h
      rw [e.1, e.2]
      decide +kernel
    · split at h
      · rename_i n1 n2 e
        cases h
        rcases hk with rfl | rfl | rfl | rfl | rfl | rfl <;> rcases e with rfl | rfl | rfl | rfl | rfl | rfl <;> first | decide +kernel | exact absurd rfl n1 | exact absurd ⟨rfl, rfl⟩ n2
      · cases h
theorem blsOf_ok {K : PySem.W.Frag} {w : W3} : ∀ {ds : List D} {vs : List V} {ns : List Bool}, Reps K w ds vs → blsOf ds = some ns → vs = ns.map V.bl
  | [], vs, ns, r, h => by simp only [blsOf, Option.some.injEq] at h; subst h; rw [r.unnil]; rfl
  | d :: ds, vs, ns, r, h => by
    obtain ⟨u, us, rfl, r1, r2⟩ := r.uncons
    cases d with
    | bl i =>
      simp only [blsOf, Option.map_eq_some_iff] at h
      obtain ⟨ms, h1, rfl⟩ := h
      rw [rep_bl] at r1
      rw [r1, blsOf_ok r2 h1]
      rfl
    | _ => simp [blsOf] at h
theorem foldl_max : ∀ (ns : List Int) (a : Int), (ns.foldl max a = a ∨ ns.foldl max a ∈ ns) ∧ a ≤ ns.foldl max a ∧ ∀ y ∈ ns, y ≤ ns.foldl max a
  | [], a => ⟨.inl rfl, Int.le_refl _, fun y h => by cases h⟩
  | n :: ns, a => by
    obtain ⟨h1, h2, h3⟩ := foldl_max ns (max a n)
    rw [List.foldl_cons]
    refine ⟨?_, by omega, fun y hy => ?_⟩
    · rcases h1 with h1 | h1
      · rw [h1]
        by_cases q : a ≤ n
        · right; rw [show max a n = n by omega]; exact List.mem_cons_self
        · left; omega
      · exact .inr (List.mem_cons_of_mem _ h1)
    · rcases List.mem_cons.mp hy with rfl | hy
      · omega
      · exact h3 y hy
theorem foldl_min : ∀ (ns : List Int) (a : Int), (ns.foldl min a = a ∨ ns.foldl min a ∈ ns) ∧ ns.foldl min a ≤ a ∧ ∀ y ∈ ns, ns.foldl min a ≤ y
  | [], a => ⟨.inl rfl, Int.le_refl _, fun y h => by cases h⟩
  | n :: ns, a => by
    obtain ⟨h1, h2, h3⟩ := foldl_min ns (min a n)
    rw [List.foldl_cons]
    refine ⟨?_, by omega, fun y hy => ?_⟩
    · rcases h1 with h1 | h1
      · rw [h1]
        by_cases q : a ≤ n
        · left; omega
        · right; rw [show min a n = n by omega]; exact List.mem_cons_self
      · exact .inr (List.mem_cons_of_mem _ h1)
    · rcases List.mem_cons.mp hy with rfl | hy
      · omega
      · exact h3 y hy
theorem maxI_mem {n : Int} {ns : List Int} : maxI (n :: ns) ∈ n :: ns ∧ ∀ y ∈ n :: ns, y ≤ maxI (n :: ns) := by
  obtain ⟨h1, h2, h3⟩ := foldl_max (n :: ns) n
  exact ⟨h1.elim (fun e => by show (n :: ns).foldl max n ∈ _; rw [e]; exact List.mem_cons_self) id, h3⟩
theorem minI_mem {n : Int} {ns : List Int} : minI (n :: ns) ∈ n :: ns ∧ ∀ y ∈ n :: ns, minI (n :: ns) ≤ y := by
  obtain ⟨h1, h2, h3⟩ := foldl_min (n :: ns) n
  exact ⟨h1.elim (fun e => by show (n :: ns).foldl min n ∈ _; rw [e]; exact List.mem_cons_self) id, h3⟩
section
variable {X : Cx} {E : XK}
theorem cr_len : CallR X (.builtin "len") (rB X.K E bLen) := by
  intro pins s σ H xs us Q I r h
  obtain ⟨w, ds, eH, k, rs, q⟩ := h
  subst eH
  unfold bLen at q
  split at q
  · obtain ⟨v, rfl, r1⟩ := rs.one
    have e := rep_str.mp r1
    subst e
    split at q
    · exact call_len pins s σ _ _ us Q I r ⟨_, _, rfl, ⟨by assumption, rfl⟩, q.here k (rep_int.mpr rfl)⟩
    · exact q.elim
  · obtain ⟨v, rfl, r1⟩ := rs.one
    split at q
    · rename_i xs e
      obtain ⟨a, vs, rfl, h2, h3⟩ := seq_at k r1 e
      rw [h3.length] at q
      rcases h2 with h2 | h2
      · exact call_len pins s σ _ _ us Q I r ⟨_, _, rfl, .inl ⟨vs, h2, rfl⟩, q.here k (rep_int.mpr rfl)⟩
      · exact call_len pins s σ _ _ us Q I r ⟨_, _, rfl, .inr ⟨vs, h2, rfl⟩, q.here k (rep_int.mpr rfl)⟩
    · exact q.elim
  · exact q.elim
theorem cr_tuple : CallR X (.type "tuple") (rB X.K E bTuple) := by
  intro pins s σ H xs us Q I r h
  obtain ⟨w, ds, eH, k, rs, q⟩ := h
  subst eH
  unfold bTuple at q
  split at q
  · rename_i d
    obtain ⟨v, rfl, r1⟩ := rs.one
    split at q
    · rename_i xs e
      cases d with
      | tup ys =>
        cases e
        obtain ⟨a, vs, rfl, h2, h3⟩ := tup_at r1
        exact call_tuple_of pins s σ _ _ us Q I r ⟨a, vs, rfl, .inr ⟨h2, q.here k r1⟩⟩
      | _ =>
        obtain ⟨a, vs, rfl, h2, h3⟩ := lst_at k r1 e
        exact call_tuple_of pins s σ _ _ us Q I r ⟨a, vs, rfl, .inl ⟨SqL.of h2, q.newT k h3⟩⟩
    · exact q.elim
  · exact q.elim
theorem cr_list : CallR X (.type "list") (rB X.K E bList) := by
  intro pins s σ H xs us Q I r h
  obtain ⟨w, ds, eH, k, rs, q⟩ := h
  subst eH
  unfold bList at q
  split at q
  · obtain ⟨v, rfl, r1⟩ := rs.one
    split at q
    · rename_i xs e
      obtain ⟨a, vs, rfl, h2, h3⟩ := seq_at k r1 e
      exact call_list_of pins s σ _ _ us Q I r ⟨a, vs, rfl, h2, q.newL k h3⟩
    · exact q.elim
  · exact q.elim
theorem cr_listH : CallR X (.type "list") (rB X.K E bListH) := by
  intro pins s σ H xs us Q I r h
  obtain ⟨w, ds, eH, k, rs, q⟩ := h
  subst eH
  unfold bListH at q
  split at q
  · obtain ⟨v, rfl, r1⟩ := rs.one
    split at q
    · rename_i xs e
      obtain ⟨a, vs, rfl, h2, h3⟩ := seq_at k r1 e
      exact call_list_of pins s σ _ _ us Q I r ⟨a, vs, rfl, h2, q.newH k h3⟩
    · exact q.elim
  · exact q.elim
theorem noDict : ∀ {p : PyData}, PyData.canLay0 p = true → p.hasDict = false := fun {p} h => PyData.hasDict_of_canLay p h
theorem cr_repr (hg : X.A.guards = some []) (hu : X.A.units + 66 < cLine) : CallR X (.builtin "repr") (rB X.K E bRepr) := by
  intro pins s σ H xs us Q I r h
  obtain ⟨w, ds, eH, k, rs, q⟩ := h
  subst eH
  unfold bRepr at q
  split at q
  · obtain ⟨v, rfl, r1⟩ := rs.one
    split at q
    · rename_i p e
      split at q
      · rename_i hz
        obtain ⟨h1, h2, h3⟩ := hz
        obtain ⟨u, rfl, ru⟩ := vals1 r
        have dp := toD_ok k r1 e
        have q' : Q (.str p.shown) w.H := q.here k (rep_str.mpr rfl)
        cases p with
        | none =>
          cases dp; cases ru
          exact PySem.P.repr_of_none ⟨.str _, _, I.tok _, ⟨_, rfl⟩, by simpa only [PyData.shown] using q'⟩
        | bool b =>
          cases dp; cases ru
          exact PySem.P.repr_of_bool ⟨.str _, _, I.tok _, ⟨_, rfl⟩, by simpa only [PyData.shown] using q'⟩
        | int i =>
          cases dp
          obtain ⟨t, rfl⟩ := ru
          exact PySem.P.repr_of_int (by simpa [PyData.showable] using h1) ⟨.str _, _, I.tok _, ⟨_, rfl⟩, by simpa only [PyData.shown] using q'⟩
        | str x =>
          cases dp
          obtain ⟨t, rfl⟩ := ru
          exact PySem.P.repr_of_str ⟨.str _, _, I.tok _, ⟨_, rfl⟩, by simpa only [PyData.shown] using q'⟩ (by simpa only [PyData.shown] using h2)
        | dict kvs => cases dp
        | list ps =>
          obtain ⟨as, rd⟩ := Dp.reads I _ _ _ dp ru
          cases dp
          cases ru
          have hd := SeqAt.depth_of_shaped h3
          exact repr_of_reads' rd h1 (fun z => absurd z (by rw [noDict (SeqAt.canLay_of_shaped h3)]; exact Bool.false_ne_true)) hg (by omega) (fun _ _ z => z)
            (fun h' t tk hk => ⟨.str _, _, I.kept (t' := tk) hk, ⟨_, rfl⟩, q'⟩) h2
        | tuple ps =>
          obtain ⟨as, rd⟩ := Dp.reads I _ _ _ dp ru
          cases dp
          cases ru
          have hd := SeqAt.depth_of_shaped h3
          exact repr_of_reads' rd h1 (fun z => absurd z (by rw [noDict (SeqAt.canLay_of_shaped h3)]; exact Bool.false_ne_true)) hg (by omega) (fun _ _ z => z)
            (fun h' t tk hk => ⟨.str _, _, I.kept (t' := tk) hk, ⟨_, rfl⟩, q'⟩) h2
      · exact q.elim
    · exact q.elim
  · exact q.elim
theorem cr_abs : CallR X (.builtin "abs") (rB X.K E bAbs) := by
  intro pins s σ H xs us Q I r h
  obtain ⟨w, ds, eH, k, rs, q⟩ := h
  subst eH
  unfold bAbs at q
  split at q
  · obtain ⟨v, rfl, r1⟩ := rs.one
    have e := rep_int.mp r1
    subst e
    exact call_abs pins s σ _ _ us Q I r ⟨_, rfl, q.here k (rep_int.mpr rfl)⟩
  · exact q.elim
theorem cr_int : CallR X (.type "int") (rB X.K E bInt) := by
  intro pins s σ H xs us Q I r h
  obtain ⟨w, ds, eH, k, rs, q⟩ := h
  subst eH
  unfold bInt at q
  split at q
  · obtain ⟨v, rfl, r1⟩ := rs.one
    have e := rep_int.mp r1
    subst e
    exact call_int1 pins s σ _ _ us Q I r (.inl ⟨_, rfl, q.here k (rep_int.mpr rfl)⟩)
  · obtain ⟨v, rfl, r1⟩ := rs.one
    have e := rep_bl.mp r1
    subst e
    exact call_int1 pins s σ _ _ us Q I r (.inr ⟨_, rfl, q.here k (rep_int.mpr rfl)⟩)
  · exact q.elim
theorem cr_str : CallR X (.type "str") (rB X.K E bStr) := by
  intro pins s σ H xs us Q I r h
  obtain ⟨w, ds, eH, k, rs, q⟩ := h
  subst eH
  unfold bStr at q
  split at q
  · obtain ⟨v, rfl, r1⟩ := rs.one
    have e := rep_int.mp r1
    subst e
    split at q
    · exact call_str_int pins s σ _ _ us Q I r ⟨_, rfl, by assumption, q.here k (rep_str.mpr rfl)⟩
    · exact q.elim
  · obtain ⟨v, rfl, r1⟩ := rs.one
    have e := rep_str.mp r1
    subst e
    exact SkE.call_str_str pins s σ _ _ us Q I r ⟨_, rfl, q.here k (rep_str.mpr rfl)⟩
  · exact q.elim
theorem cr_ord : CallR X (.builtin "ord") (rB X.K E bOrd) := by
  intro pins s σ H xs us Q I r h
  obtain ⟨w, ds, eH, k, rs, q⟩ := h
  subst eH
  unfold bOrd at q
  split at q
  · obtain ⟨v, rfl, r1⟩ := rs.one
    have e := rep_str.mp r1
    subst e
    split at q
    · exact call_ord pins s σ _ _ us Q I r ⟨_, rfl, by assumption, q.here k (rep_int.mpr rfl)⟩
    · exact q.elim
  · exact q.elim
theorem ints_at {w : W3} (k : Ok X.K w) {d : D} {v : V} {ns : List Int} (r : Rep X.K w d v) (h : (seqOf w.h d).bind intsOf = some ns) : ∃ a, v = .ref a ∧ (SqL X.K w.H a (ns.map V.int) ∨ SqT X.K w.H a (ns.map V.int)) := by
  cases e : seqOf w.h d with
  | none => rw [e] at h; cases h
  | some xs =>
    rw [e] at h
    obtain ⟨a, vs, rfl, h2, h3⟩ := seq_at k r e
    rw [intsOf_ok h3 h] at h2
    exact ⟨a, rfl, h2⟩
theorem bls_at {w : W3} (k : Ok X.K w) {d : D} {v : V} {ns : List Bool} (r : Rep X.K w d v) (h : (seqOf w.h d).bind blsOf = some ns) : ∃ a, v = .ref a ∧ (SqL X.K w.H a (ns.map V.bl) ∨ SqT X.K w.H a (ns.map V.bl)) := by
  cases e : seqOf w.h d with
  | none => rw [e] at h; cases h
  | some xs =>
    rw [e] at h
    obtain ⟨a, vs, rfl, h2, h3⟩ := seq_at k r e
    rw [blsOf_ok h3 h] at h2
    exact ⟨a, rfl, h2⟩
theorem antisym {a b : Int} {ns : List Int} (h1 : a ∈ ns) (h2 : ∀ y ∈ ns, y ≤ a) (h3 : b ∈ ns) (h4 : ∀ y ∈ ns, y ≤ b) : a = b := Int.le_antisymm (h4 a h1) (h2 b h3)
theorem cr_maxM (hc : X.calm = true) : CallR X (.builtin "max") (rB X.K E bMax) := by
  intro pins s σ H xs us Q I r h
  obtain ⟨w, ds, eH, k, rs, q⟩ := h
  subst eH
  unfold bMax at q
  split at q
  · obtain ⟨u, v, rfl, r1, r2⟩ := rs.two
    have e := rep_int.mp r1
    have e' := rep_int.mp r2
    subst e e'
    exact call_max2 hc pins s σ _ _ us Q I r ⟨_, _, rfl, q.here k (rep_int.mpr rfl)⟩
  · obtain ⟨v, rfl, r1⟩ := rs.one
    split at q
    · rename_i n ns e
      obtain ⟨a, rfl, h2⟩ := ints_at k r1 e
      have q' := q.here k (rep_int.mpr rfl)
      have q2 : ∀ m, m ∈ n :: ns → (∀ y, y ∈ n :: ns → y ≤ m) → Q (.int m) w.H := fun m hm hy => by
        rw [antisym hm hy maxI_mem.1 maxI_mem.2]
        exact q'
      rcases h2 with h2 | h2
      · exact cr_max hc pins s σ _ _ us Q I r ⟨a, _, rfl, h2, by simp, q2⟩
      · exact cr_maxT hc pins s σ _ _ us Q I r ⟨a, _, rfl, h2, by simp, q2⟩
    · exact q.elim
  · exact q.elim
theorem cr_minM (hc : X.calm = true) : CallR X (.builtin "min") (rB X.K E bMin) := by
  intro pins s σ H xs us Q I r h
  obtain ⟨w, ds, eH, k, rs, q⟩ := h
  subst eH
  unfold bMin at q
  split at q
  · obtain ⟨u, v, rfl, r1, r2⟩ := rs.two
    have e := rep_int.mp r1
    have e' := rep_int.mp r2
    subst e e'
    exact call_min2 hc pins s σ _ _ us Q I r ⟨_, _, rfl, q.here k (rep_int.mpr rfl)⟩
  · obtain ⟨v, rfl, r1⟩ := rs.one
    split at q
    · rename_i n ns e
      obtain ⟨a, rfl, h2⟩ := ints_at k r1 e
      have q' := q.here k (rep_int.mpr rfl)
      have q2 : ∀ m, m ∈ n :: ns → (∀ y, y ∈ n :: ns → m ≤ y) → Q (.int m) w.H := fun m hm hy => by
        rw [show m = minI (n :: ns) from Int.le_antisymm (hy _ minI_mem.1) (minI_mem.2 m hm)]
        exact q'
      rcases h2 with h2 | h2
      · exact cr_min hc pins s σ _ _ us Q I r ⟨a, _, rfl, h2, by simp, q2⟩
      · exact cr_minT hc pins s σ _ _ us Q I r ⟨a, _, rfl, h2, by simp, q2⟩
    · exact q.elim
  · exact q.elim
theorem cr_sumM (hc : X.calm = true) : CallR X (.builtin "sum") (rB X.K E bSum) := by
  intro pins s σ H xs us Q I r h
  obtain ⟨w, ds, eH, k, rs, q⟩ := h
  subst eH
  unfold bSum at q
  split at q
  · obtain ⟨v, rfl, r1⟩ := rs.one
    split at q
    · rename_i ns e
      obtain ⟨a, rfl, h2⟩ := ints_at k r1 e
      rcases h2 with h2 | h2
      · exact cr_sum hc pins s σ _ _ us Q I r ⟨a, _, rfl, h2, q.here k (rep_int.mpr rfl)⟩
      · exact cr_sumT hc pins s σ _ _ us Q I r ⟨a, _, rfl, h2, q.here k (rep_int.mpr rfl)⟩
    · exact q.elim
  · exact q.elim
theorem cr_allM (hc : X.calm = true) : CallR X (.builtin "all") (rB X.K E bAll) := by
  intro pins s σ H xs us Q I r h
  obtain ⟨w, ds, eH, k, rs, q⟩ := h
  subst eH
  unfold bAll at q
  split at q
  · obtain ⟨v, rfl, r1⟩ := rs.one
    split at q
    · rename_i ns e
      obtain ⟨a, rfl, h2⟩ := bls_at k r1 e
      rcases h2 with h2 | h2
      · exact cr_all hc pins s σ _ _ us Q I r ⟨a, _, rfl, h2, q.here k (rep_bl.mpr rfl)⟩
      · exact cr_allT hc pins s σ _ _ us Q I r ⟨a, _, rfl, h2, q.here k (rep_bl.mpr rfl)⟩
    · exact q.elim
  · exact q.elim
theorem cr_anyM (hc : X.calm = true) : CallR X (.builtin "any") (rB X.K E bAny) := by
  intro pins s σ H xs us Q I r h
  obtain ⟨w, ds, eH, k, rs, q⟩ := h
  subst eH
  unfold bAny at q
  split at q
  · obtain ⟨v, rfl, r1⟩ := rs.one
    split at q
    · rename_i ns e
      obtain ⟨a, rfl, h2⟩ := bls_at k r1 e
      rcases h2 with h2 | h2
      · exact cr_any hc pins s σ _ _ us Q I r ⟨a, _, rfl, h2, q.here k (rep_bl.mpr rfl)⟩
      · exact cr_anyT hc pins s σ _ _ us Q I r ⟨a, _, rfl, h2, q.here k (rep_bl.mpr rfl)⟩
    · exact q.elim
  · exact q.elim
theorem tyx_of {w : W3} (k : Ok X.K w) {d : D} {v : V} {n : String} (r : Rep X.K w d v) (h : kindOf w.h d = some n) : TyX X.K w.H v (.type n) ∧ (n = "NoneType" ∨ n = "bool" ∨ n = "int" ∨ n = "str" ∨ n = "tuple" ∨ n = "list") := by
  cases d with
  | non => cases h; rw [rep_non.mp r]; exact ⟨.base .non, by simp⟩
  | bl b => cases h; rw [rep_bl.mp r]; exact ⟨.base (.bl b), by simp⟩
  | int b => cases h; rw [rep_int.mp r]; exact ⟨.base (.int b), by simp⟩
  | str b => cases h; rw [rep_str.mp r]; exact ⟨.base (.str b), by simp⟩
  | tup xs =>
    cases h
    simp only [Rep] at r
    obtain ⟨a, vs, rfl, h2, _⟩ := r
    refine ⟨?_, by simp⟩
    rcases h2 with ⟨h2 | ⟨o, h2⟩, _⟩ | ⟨o, its, n, h2, h3, _⟩
    · exact .base (.tup h2)
    · exact .fTuple h2
    · exact .kTuple h2 h3
  | lst xs =>
    cases h
    simp only [Rep] at r
    obtain ⟨a, vs, rfl, h2, _⟩ := r
    exact ⟨.base (.lst h2.1), by simp⟩
  | ref m =>
    simp only [kindOf] at h
    split at h
    · rename_i xs e
      cases h
      simp only [Rep] at r
      obtain ⟨vs, h1, _⟩ := (k.dom m _ e).2
      rw [r.2]
      exact ⟨.base (.lst h1), by simp⟩
    · cases h
  | raw u => cases h
  | scr ns => cases h
theorem cr_isi : CallR X (.builtin "isinstance") (rB X.K E bIsi) := by
  intro pins s σ H xs us Q I r h
  obtain ⟨w, ds, eH, k, rs, q⟩ := h
  subst eH
  unfold bIsi at q
  split at q
  · rename_i d c
    obtain ⟨v, u, rfl, r1, r2⟩ := rs.two
    simp only [Rep] at r2
    subst r2
    split at q
    · rename_i b e
      cases e1 : kindOf w.h d with
      | none => rw [e1] at e; cases e
      | some n =>
        rw [e1] at e
        obtain ⟨t, hn⟩ := tyx_of k r1 e1
        exact call_isi pins s σ _ _ us Q I r ⟨v, _, _, _, b, rfl, .ty c, t, kit_ty (isIn_ok hn e), q.here k (rep_bl.mpr rfl)⟩
    · exact q.elim
  · exact q.elim
end
end Tb
end

section
set_option maxHeartbeats 4000000
namespace Tb
open PySem PySem.Spec L2
/-! ## defs -/
mutual
/-- what a value refers to stands below N -/
def D.bd (N : Nat) : D → Bool
  | .ref n => decide (n < N)
  | .tup xs => bds N xs
  | .lst xs => bds N xs
  | _ => true
def bds (N : Nat) : List D → Bool
  | [] => true
  | x :: xs => x.bd N && bds N xs
end
def MO.bd (N : Nat) : MO → Bool
  | .lst xs => bds N xs
/-- the heap ahead of a call, with what the call has written -/
def MH.cut (h : MH) (N : Nat) : MH := ⟨fun n => if n < N then h.get n else none, N⟩
open Classical in
/-- a def is left: what it has made is forgotten, if nothing refers to it -/
noncomputable def leave (N : Nat) (d : D) (h : MH) : R D := if d.bd N = true ∧ ∀ n, n < N → ∀ o, h.get n = some o → o.bd N = true then .ok d (h.cut N) else .ok d h
abbrev Fn := List D → MH → R D
/-- a def by its body: ns names, its parameters first -/
noncomputable def fnM (ns : Nat) (body : MS) : Fn := fun ds h => match body (ds.map some ++ List.replicate (ns - ds.length) none) h with
  | .ret d h1 => leave h.next d h1
  | .nx _ h1 => leave h.next .non h1
  | .exc e h1 => .exc e h1
  | _ => .bad
section
variable {K : PySem.W.Frag} {w w1 w2 : W3}
mutual
theorem Rep.cut (hi : w2.io = w1.io) (hH : w2.H = w1.H) (ho : ∀ a, Own w2 a → Own w1 a) : ∀ {d : D} {v : V}, d.bd w2.h.next = true → Rep K w1 d v → Rep K w2 d v
  | .non, _, _, h => by simpa only [Rep] using h
  | .bl _, _, _, h => by simpa only [Rep] using h
  | .int _, _, _, h => by simpa only [Rep] using h
  | .str _, _, _, h => by simpa only [Rep] using h
  | .raw _, _, _, h => by simpa only [Rep] using h
  | .ref n, _, hb, h => by
    simp only [Rep] at h ⊢
    simp only [D.bd, decide_eq_true_eq] at hb
    exact ⟨hb, by rw [hi]; exact h.2⟩
  | .tup xs, _, hb, h => by
    simp only [Rep] at h ⊢
    simp only [D.bd] at hb
    obtain ⟨a, vs, h1, h2, h3⟩ := h
    refine ⟨a, vs, h1, h2.imp (fun q => ⟨?_, fun z => q.2 (ho a z)⟩) id, Reps.cut hi hH ho hb h3⟩
    rw [hH]; exact q.1
  | .lst xs, _, hb, h => by
    simp only [Rep] at h ⊢
    simp only [D.bd] at hb
    obtain ⟨a, vs, h1, h2, h3⟩ := h
    exact ⟨a, vs, h1, ⟨by rw [hH]; exact h2.1, fun z => h2.2 (ho a z)⟩, Reps.cut hi hH ho hb h3⟩
  | .scr ns, _, _, h => by
    simp only [Rep] at h ⊢
    obtain ⟨a, h1, h2⟩ := h
    refine ⟨a, h1, h2.imp (fun q => ⟨?_, fun z => q.2 (ho a z)⟩) id⟩
    rw [hH]; exact q.1
theorem Reps.cut (hi : w2.io = w1.io) (hH : w2.H = w1.H) (ho : ∀ a, Own w2 a → Own w1 a) : ∀ {ds : List D} {vs : List V}, bds w2.h.next ds = true → Reps K w1 ds vs → Reps K w2 ds vs
  | [], _, _, h => by rw [h.unnil]; exact Reps.nil
  | d :: ds, _, hb, h => by
    obtain ⟨u, us, rfl, h1, h2⟩ := h.uncons
    simp only [bds, Bool.and_eq_true] at hb
    exact Reps.cons (Rep.cut hi hH ho hb.1 h1) (Reps.cut hi hH ho hb.2 h2)
end
theorem leave_ok {d : D} {v : V} {Q : D → W3 → V → Prop} {E : XK} (x : Ext w w1) (k : Ok K w1) (r : Rep K w1 d v) (q : PostW K E (RepD K) w (leave w.h.next d w1.h) Q) : ∃ w2, w2.H = w1.H ∧ Q d w2 v := by
  unfold leave at q
  split at q
  · rename_i hz
    have ho : ∀ a, Own (⟨w1.io, w1.h.cut w.h.next, w1.H, w1.bar⟩ : W3) a → Own w1 a := fun a z => by
      rcases z with ⟨n, o, h1, h2⟩ | z
      · simp only [MH.cut] at h1
        split at h1
        · exact .inl ⟨n, o, h1, h2⟩
        · cases h1
      · exact .inr z
    have hg : ∀ n o, (w1.h.cut w.h.next).get n = some o → n < w.h.next ∧ w1.h.get n = some o := fun n o h1 => by
      simp only [MH.cut] at h1
      split at h1
      · exact ⟨by assumption, h1⟩
      · cases h1
    refine ⟨⟨w1.io, w1.h.cut w.h.next, w1.H, w1.bar⟩, rfl, q _ v rfl ⟨x.io, Nat.le_refl _, fun a u h n => ?_, x.ba⟩ ⟨fun n o h => ?_, fun n m o u h1 h2 e => k.inj n m o u (hg n o h1).2 (hg m u h2).2 e, k.barH, fun n o h => k.barO n o (hg n o h).2⟩ (Rep.cut (w1 := w1) (w2 := ⟨w1.io, w1.h.cut w.h.next, w1.H, w1.bar⟩) rfl rfl ho hz.1 r)⟩
    · obtain ⟨h1, n1⟩ := x.un a u h n
      exact ⟨h1, fun z => n1 (ho a z)⟩
    · obtain ⟨h1, h2⟩ := hg n o h
      refine ⟨h1, ?_⟩
      have hb := hz.2 n h1 o h2
      cases o with
      | lst xs =>
        obtain ⟨vs, q1, q2⟩ := (k.dom n _ h2).2
        exact ⟨vs, q1, Reps.cut (w1 := w1) (w2 := ⟨w1.io, w1.h.cut w.h.next, w1.H, w1.bar⟩) rfl rfl ho hb q2⟩
  · exact ⟨w1, rfl, q w1 v rfl x k r⟩
end
/-! ### what a def promises -/
def spM (K : PySem.W.Frag) (F : Fn) (n : Nat) : Sp := fun vs H Q E => vs.length = n ∧ ∃ w ds, w.H = H ∧ Ok K w ∧ Reps K w ds vs ∧ PostW K E (RepD K) w (F ds w.h) fun _ w' v => Q v w'.H
/-- a def keeps it wherever no repr is under way -/
structure FnG (P : Program) (w : World) (K : PySem.W.Frag) (mg : Str → Option Value) (base : Heap) (k : Nat) (f : Addr) (fd : FuncData) (ps : List Str) (sp : Sp) : Prop where
  len : ∀ vs H Q E, sp vs H Q E → vs.length = ps.length
  run : ∀ (A : Around) (outer : List Env) (s : Shared) (H : Hp) (args : Args) (us : List Value) (vs : List V) (Q : VK) (E : XK), A.guards = some [] → Room k A → Env0 P w K mg base A outer s H → BindsTo s fd args (ps.zip us) →
    Vals vs us → sp vs H Q E → codeAny (model P w) A (.call (.ref f) args) (CR (L2.CX P w) outer P w H s Q E) s
theorem FnG.mono {P : Program} {w : World} {K : PySem.W.Frag} {mg : Str → Option Value} {base : Heap} {j k : Nat} {f : Addr} {fd : FuncData} {ps : List Str} {sp : Sp} (F : FnG P w K mg base j f fd ps sp) (h : j ≤ k) : FnG P w K mg base k f fd ps sp :=
  ⟨F.len, fun A outer s H args us vs Q E hg hr => F.run A outer s H args us vs Q E hg (hr.mono h)⟩
section
variable {P : Program} {w : World} {K : PySem.W.Frag} {mg : Str → Option Value} {base : Heap} {x qual : Str} {params : Arguments} {body : List Stmt} {scope : Scope} {dvs : List V} {kws : List (Str × V)} {f : Addr} {fd : FuncData}
/-- THE RULE: a def by its body's mirror -/
theorem fng {N ps : List Str} {k : Nat} {m : MS} (F : FunD K x qual params body scope dvs kws f fd) (S : FnScope N ps scope)
    (hbody : ∀ X : Cx, X.prog = P → X.w = w → X.K = K → X.mg = mg → X.base = base → X.N = N → X.env.scope = scope → X.calm = true → (∀ y, X.fn y = true) → X.A.guards = some [] → Room k X.A → X.env.blockKind = .function →
      ∀ E, Passes (L2.CX P w) X E → PassesOwn (model P w) X.A X.env X.xe → PSs X body (tMS K E m)) :
    FnG P w K mg base (k + 1) f fd ps (spM K (fnM N.length m) ps.length) := by
  obtain ⟨oc, od, dV, kV, doc, pm, an, cdv, ct, osl, rfl, lk, hcd, _, _⟩ := F.ex
  refine ⟨fun vs H Q E h => h.1, fun A outer s H args us vs Q E hg hr e0 hb r hsp => ?_⟩
  have hin : K.In s.heap := e0.mod.kin.keeps fun b o e => (e0.bs b o e).1
  have hlim : s.heap.NoLimit := e0.mod.nolimit.keeps fun b o e => (e0.bs b o e).1
  have hloc : ∀ y ∈ ps.zip us, scope.names.lookup y.1 = some .local ∨ (scope.names.lookup y.1 = some .cell ∧ ((cellsFrom (s.heap.objs.size + 1) scope.names []).lookup y.1).isSome = true) := by
    intro y hy
    exact (S.par y.1 (List.of_mem_zip (a := y.1) (b := y.2) hy).1).imp id fun q => ⟨q, PySem.W.cellsFrom_some _ _ _ (.inl q)⟩
  refine codeAny_call_function hr.depth (hin _ _ lk) rfl S.co S.gen rfl (PySem.W.codeRec_of hin hcd) (hb _ _ _ _ ?_)
  refine wpAny_newFunctionEnv_cells S.kind hloc fun env he s1 hx => ?_
  subst he
  refine ⟨hlim.keeps hx.toInCall.keep, codeAny_func ?_⟩
  have I := inv_start (CX := L2.CX P w) (E := E) S hr.hd e0 hsp.1 r hx
  obtain ⟨hl, w0, ds, eH, k0, r0, q0⟩ := hsp
  have tk : Takes (cxOf (L2.CX P w) P w K mg base N qual scope f cdv A outer s H E) fun cls d _ H => E cls d H := takes_of rfl rfl rfl rfl
  have hp := hbody (cxOf (L2.CX P w) P w K mg base N qual scope f cdv A outer s H E) rfl rfl rfl rfl rfl rfl rfl rfl (fun _ => rfl) hg (hr.deeper _) (by unfold Env.blockKind; rw [show (cxOf (L2.CX P w) P w K mg base N qual scope f cdv A outer s H E).env.scope.kind = .function from S.kind]; rfl) E
    (passes_call tk fun _ _ _ _ z => z) (passes_of rfl)
  have hds := r0.length
  have sr : SRep K w0 (ds.map some ++ List.replicate (N.length - ds.length) none) (L2.start N vs) := by
    unfold L2.start
    refine ⟨by simp [hds], fun i d hd => ?_⟩
    by_cases hi : i < ds.length
    · rw [List.getElem?_append_left (by simpa using hi), List.getElem?_map, Option.map_eq_some_iff] at hd
      obtain ⟨d', h1, h2⟩ := hd
      cases h2
      obtain ⟨v, h3, h4⟩ := r0.get h1
      exact ⟨v, by rw [List.getElem?_append_left (by simpa using (by omega : i < vs.length)), List.getElem?_map, h3]; rfl, h4⟩
    · rw [List.getElem?_append_right (by simpa using hi), List.getElem?_replicate] at hd
      split at hd <;> cases hd
  subst eH
  have fin : ∀ {σ' : L2.St} {H' : Hp} {v : V} {u : Value} {s' : Shared}, L2.Inv (cxOf (L2.CX P w) P w K mg base N qual scope f cdv A outer s w0.H E) [] σ' H' s' → RelV v u → Q v H' → CE outer P w w0.H s Q u s' := fun J rv q => ⟨_, _, J.os, J.bare, J.base, J.hok, rv, q⟩
  have post : PostS K E w0 (m (ds.map some ++ List.replicate (N.length - ds.length) none) w0.h) (endsM { nx := fun _ H' => Q .non H', rt := Q }) := by
    unfold fnM at q0
    split at q0
    · rename_i d h1 e
      rw [e]
      intro w' v e1 x1 k1 p1
      subst e1
      obtain ⟨w2, e2, q2⟩ := leave_ok x1 k1 p1 q0
      show Q v w'.H
      rw [← e2]; exact q2
    · rename_i s2 h1 e
      rw [e]
      intro w' σ' e1 x1 k1 p1
      subst e1
      obtain ⟨w2, e2, q2⟩ := leave_ok x1 k1 (rep_non.mpr rfl) q0
      show Q .non w'.H
      rw [← e2]; exact q2
    · rename_i ex h1 e
      rw [e]
      exact q0
    · exact q0.elim
  refine wpAny_mono (hp.run [] s1 (L2.start N vs) w0.H _ I (tMS_at k0 sr post)) (fun fl s' hs => ?_) fun e s' hs => hs
  cases fl with
  | ret u =>
    obtain ⟨v, σ', H', J, rv, q⟩ := hs
    exact fin J rv q
  | next =>
    obtain ⟨σ', H', J, q⟩ := hs
    exact fin (v := V.non) (u := Value.none) J rfl q
  | brk =>
    obtain ⟨_, _, _, q⟩ := hs
    exact False.elim q
  | cont =>
    obtain ⟨_, _, _, q⟩ := hs
    exact False.elim q
end
/-! ### calls -/
/-- a call: the positional values, then what stands for the others -/
def mCall (n : Nat) (F : Fn) (dv : List D) (a : MA) : ME := fun s h => (a s h).bind fun ds h1 => if ds.length + dv.length = n then F (ds ++ dv) h1 else .bad
section
variable {X : Cx} {E : XK} {k : Nat} {f : Addr} {fd : FuncData} {ps : List Str} {sp : Sp} {F : Fn} {dvs : List V} {ds : List Value} {dv : List D} {x : Str} {p pos : Pos} {e : Expr} {es : List Expr} {ma : MA}
theorem run_fng {pins : List (Addr × Obj)} {σ : L2.St} {H : Hp} {s : Shared} {Q : VK} {us : List Value} {vs : List V} (G : FnG X.prog X.w X.K X.mg X.base k f fd ps sp) (hg : X.A.guards = some []) (hr : Room k X.A) (hb : Binds X.K fd ps ds) (hd : Vals dvs ds)
    (hx : Passes (L2.CX X.prog X.w) X E) (I : L2.Inv X pins σ H s) (r : Vals vs us) (h : sp (vs ++ dvs) H Q E) : wpAny (model X.prog X.w) X.A (call (.ref f) us) (EP X pins σ Q) X.xe s := by
  have rr := r.append hd
  have hlen := (rr.length).symm.trans (G.len _ _ _ _ h)
  have go := G.run X.A X.stack s H ⟨us, []⟩ (us ++ ds) (vs ++ dvs) Q E hg hr I.env0 (hb s us I.kIn hlen) rr h
  refine wpAny_call (codeAny_mono go fun res s' hq => ?_)
  match res, hq with
  | .ok (.ret u), hq => exact I.after hq
  | .error e, hq => exact hx pins σ H s e s' I hq
theorem me_call (G : FnG X.prog X.w X.K X.mg X.base k f fd ps (spM X.K F ps.length)) (hgd : X.A.guards = some []) (hr : Room k X.A) (hg : Gl X x) (hm : X.mg x = some (.ref f)) (hk : PySem.W.keepIn X.K (.ref f) = true) (hb : Binds X.K fd ps ds) (hd : Vals dvs ds)
    (hdv : ∀ w, Reps X.K w dv dvs) (hx : Passes (L2.CX X.prog X.w) X E) (ha : PA X (e :: es) (tMA X.K E ma)) (hdb : (x == ("__debug__" : Str)) = false)
    (he : starEach (e :: es) X.env = (false, eval e X.env) :: starEach es X.env) (hpl : (backTo pos (starEach es X.env)).any (·.1) = false) : PE X (.Call (.Name x p) (e :: es) [] pos) (tM X.K E (mCall ps.length F dv ma)) := by
  refine ⟨fun pins s σ H Q I hq => ?_⟩
  obtain ⟨w, sl, eH, k0, r0, q⟩ := hq
  subst eH
  have hq1 : tMA X.K E ma σ w.H fun vs H1 => spM X.K F ps.length (vs ++ dvs) H1 Q E := by
    refine tMA_at k0 r0 ((PostW.bind (Rel := RepL X.K) q).imp fun ds w1 vs x1 k1 p1 q2 => ?_)
    split at q2
    · rename_i hz
      have r2 := p1.append (hdv w1)
      exact ⟨by rw [← r2.length, List.length_append]; exact hz, w1, ds ++ dv, rfl, k1, r2, q2⟩
    · exact q2.elim
  refine wpAny_Call_Name_kw (ld_glob I hg hm ?_ hdb)
  refine PySem.W.callWith_K (h₀ := X.base) I.ok.mod.kin hk (thn (ha.run pos pins s σ w.H _ I hq1) fun us s1 hv => ?_) he hpl
  obtain ⟨vs, H1, I1, rv, q2⟩ := hv
  exact ⟨I1.kIn, run_fng G hgd hr hb hd hx I1 rv q2⟩
end
section
variable {X : Cx} {E : XK} {k : Nat} {f : Addr} {fd : FuncData} {ps : List Str} {F : Fn} {dvs : List V} {ds : List Value} {dv : List D} {x : Str} {p pos : Pos}
theorem me_call0 (G : FnG X.prog X.w X.K X.mg X.base k f fd ps (spM X.K F ps.length)) (hgd : X.A.guards = some []) (hr : Room k X.A) (hg : Gl X x) (hm : X.mg x = some (.ref f)) (hk : PySem.W.keepIn X.K (.ref f) = true) (hb : Binds X.K fd ps ds) (hd : Vals dvs ds)
    (hdv : ∀ w, Reps X.K w dv dvs) (hx : Passes (L2.CX X.prog X.w) X E) (hdb : (x == ("__debug__" : Str)) = false) : PE X (.Call (.Name x p) [] [] pos) (tM X.K E (mCall ps.length F dv mNil)) := by
  refine ⟨fun pins s σ H Q I hq => ?_⟩
  obtain ⟨w, sl, eH, k0, r0, q⟩ := hq
  subst eH
  have q2 := (PostW.bind (Rel := RepL X.K) (r := mNil sl w.h) q).here k0 (v := []) Reps.nil
  split at q2
  · rename_i hz
    have r2 := hdv w
    refine wpAny_Call_Name_kw (ld_glob I hg hm ?_ hdb)
    exact PySem.W.callWith_K0 I.kIn hk (run_fng (us := []) (vs := []) G hgd hr hb hd hx I .nil ⟨by rw [List.nil_append, ← r2.length]; simpa using hz, w, _, rfl, k0, r2, q2⟩)
  · exact q2.elim
end
/-! ### calls with keywords -/
def tMK (K : PySem.W.Frag) (E : XK) (m : MA) : TA := tMA K E m
section
variable {X : Cx} {E : XK} {k n : Nat} {f : Addr} {fd : FuncData} {ps ks : List Str} {F : Fn} {x : Str} {p pos kpos : Pos} {e : Expr} {es : List Expr} {kws : List Keyword} {ma mk me : MA} {m : ME} {nm : Option Str}
  {g : List Value → List Value → List Value} {gV : List V → List V → List V} {gD : List D → List D → List D}
theorem pk_imp {t t' : TA} (h : PK X kws t) (hi : ∀ σ H Q, t' σ H Q → t σ H Q) : PK X kws t' := ⟨fun pos pins s σ H Q I q => h.run pos pins s σ H Q I (hi σ H Q q)⟩
theorem mk_nil : PK X [] (tMA X.K E mNil) := by
  refine pk_imp pk_nil fun σ H Q hq => ?_
  obtain ⟨w, s, e, k, r, q⟩ := hq
  subst e
  exact PostW.here (Rel := RepL X.K) q k Reps.nil
theorem mk_cons (ha : PE X e (tM X.K E m)) (ht : PK X kws (tMA X.K E ma)) : PK X (⟨nm, e, kpos⟩ :: kws) (tMA X.K E (mCons m ma)) := by
  refine pk_imp (pk_cons ha ht) fun σ H Q hq => ?_
  obtain ⟨w, s, e, k, r, q⟩ := hq
  subst e
  refine tM_at k r ((PostW.bind (Rel := RepD X.K) q).imp fun x w1 v x1 k1 p1 q1 => ?_)
  refine tMA_at k1 (r.ext x1) ((PostW.bind (Rel := RepL X.K) q1).imp fun xs w2 vs x2 k2 p2 q2 => ?_)
  exact PostW.here (Rel := RepL X.K) q2 k2 (Reps.cons (p1.ext x2) p2)
/-- n values by their places, l by their names -/
def mCallK (n l np : Nat) (F : Fn) (gD : List D → List D → List D) (a kw : MA) : ME := fun s h => (a s h).bind fun ds h1 => (kw s h1).bind fun es h2 => if ds.length = n ∧ es.length = l ∧ (gD ds es).length = np then F (gD ds es) h2 else .bad
theorem run_fngK {pins : List (Addr × Obj)} {σ : L2.St} {H : Hp} {s : Shared} {Q : VK} {us ws : List Value} {vs zs : List V} {sp : Sp} (G : FnG X.prog X.w X.K X.mg X.base k f fd ps sp) (hg : X.A.guards = some []) (hr : Room k X.A) (hb : KBn X.K fd ps n ks g gV)
    (hx : Passes (L2.CX X.prog X.w) X E) (I : L2.Inv X pins σ H s) (r : Vals vs us) (rz : Vals zs ws) (l1 : vs.length = n) (l2 : zs.length = ks.length) (h : sp (gV vs zs) H Q E) : wpAny (model X.prog X.w) X.A (call (.ref f) us (ks.zip ws)) (EP X pins σ Q) X.xe s := by
  have go := G.run X.A X.stack s H ⟨us, ks.zip ws⟩ (g us ws) (gV vs zs) Q E hg hr I.env0 (hb.to s us ws I.kIn (r.length.symm.trans l1) (rz.length.symm.trans l2)) (hb.rel r rz) h
  refine wpAny_call (codeAny_mono go fun res s' hq => ?_)
  match res, hq with
  | .ok (.ret u), hq => exact I.after hq
  | .error e, hq => exact hx pins σ H s e s' I hq
theorem me_callK (G : FnG X.prog X.w X.K X.mg X.base k f fd ps (spM X.K F ps.length)) (hgd : X.A.guards = some []) (hr : Room k X.A) (hg : Gl X x) (hm : X.mg x = some (.ref f)) (hk : PySem.W.keepIn X.K (.ref f) = true) (hb : KBn X.K fd ps n ks g gV)
    (hgV : ∀ (w : W3) (ds es : List D) (vs zs : List V), Reps X.K w ds vs → Reps X.K w es zs → Reps X.K w (gD ds es) (gV vs zs)) (hx : Passes (L2.CX X.prog X.w) X E) (ha : PA X (e :: es) (tMA X.K E ma)) (hkw : PK X kws (tMA X.K E mk))
    (hall : (backToKw pos (keywordEach kws X.env)).all (·.1.isSome) = true) (hks : (backToKw pos (keywordEach kws X.env)).filterMap (·.1) = ks) (hdb : (x == ("__debug__" : Str)) = false)
    (he : starEach (e :: es) X.env = (false, eval e X.env) :: starEach es X.env) (hpl : ((backTo pos (starEach (e :: es) X.env)).any (·.1) || (backToKw pos (keywordEach kws X.env)).any (·.1.isNone)) = false) :
    PE X (.Call (.Name x p) (e :: es) kws pos) (tM X.K E (mCallK n ks.length ps.length F gD ma mk)) := by
  refine ⟨fun pins s σ H Q I hq => ?_⟩
  obtain ⟨w, sl, eH, k0, r0, q⟩ := hq
  subst eH
  have hq1 : tMA X.K E ma σ w.H fun vs H1 => tMA X.K E mk σ H1 fun zs H2 => vs.length = n ∧ zs.length = ks.length ∧ spM X.K F ps.length (gV vs zs) H2 Q E := by
    refine tMA_at k0 r0 ((PostW.bind (Rel := RepL X.K) q).imp fun ds w1 vs x1 k1 p1 q1 => ?_)
    refine tMA_at k1 (r0.ext x1) ((PostW.bind (Rel := RepL X.K) q1).imp fun es w2 zs x2 k2 p2 q2 => ?_)
    split at q2
    · rename_i hz
      have r2 := hgV w2 ds es vs zs (p1.ext x2) p2
      exact ⟨by rw [← p1.length]; exact hz.1, by rw [← p2.length]; exact hz.2.1, by rw [← r2.length]; exact hz.2.2, w2, _, rfl, k2, r2, q2⟩
    · exact q2.elim
  refine wpAny_Call_Name_kw (ld_glob I hg hm ?_ hdb)
  refine PySem.W.callWith_KW (h₀ := X.base) I.ok.mod.kin hk hall (thn (ha.run pos pins s σ w.H _ I hq1) fun us s1 hv => ?_) hpl he
  obtain ⟨vs, H1, I1, rv, q2⟩ := hv
  refine thn (hkw.run pos pins s1 σ H1 _ I1 q2) fun ws s2 hz => ?_
  obtain ⟨zs, H2, I2, rz, l1, l2, q3⟩ := hz
  rw [hks]
  exact ⟨I2.kIn, run_fngK G hgd hr hb hx I2 rv rz l1 l2 q3⟩
end
/-- how keywords bind: a def with defaults, one without -/
theorem kb_dfl {K : PySem.W.Frag} {x qual : Str} {params : Arguments} {body : List Stmt} {scope : Scope} {dvs : List V} {f : Addr} {fd : FuncData} {ps : List Str} (F : FunD K x qual params body scope dvs [] f fd) (n : Nat) (ks : List Str) (g : {α : Type} → List α → List α → List α → List α) (hd : dvs ≠ [])
    (hrel : ∀ {vs ds zs : List V} {us its ws : List Value}, Vals vs us → Vals ds its → Vals zs ws → Vals (g vs ds zs) (g us its ws))
    (h : ∀ (T : Addr) (kV doc pm : Value) (an : Option Addr) (cdv ct : Value) (us its ws : List Value), us.length = n → its.length = dvs.length → ws.length = ks.length →
      ∃ k, bindArgs (PySem.W.fnOf x qual params body scope (.ref T) kV doc pm an cdv ct) ⟨us, ks.zip ws⟩ = seqItems? (.ref T) >>= k ∧ k (some its.toArray) = pure (ps.zip (g us its ws))) :
    ∃ its : List Value, KBn K fd ps n ks (fun us ws => g us its ws) (fun vs zs => g vs dvs zs) := by
  obtain ⟨oc, od, dV, kV, doc, pm, an, cdv, ct, osl, rfl, lk, hcd, hD, hK⟩ := F.ex
  rcases hD with ⟨e, _⟩ | ⟨_, T, o, its, m, rfl, lT, oT, rT⟩
  · exact absurd e hd
  · refine ⟨its, ⟨fun s us ws X l1 l2 => ?_, fun r1 r2 => hrel r1 rT r2⟩⟩
    obtain ⟨k, e1, e2⟩ := h T kV doc pm an cdv ct us its ws l1 rT.length.symm l2
    refine BindsTo.of_looks fun M => ?_
    rw [e1]
    exact looks_items X lT oT (.of_pure e2)
theorem kb_none {K : PySem.W.Frag} {x qual : Str} {params : Arguments} {body : List Stmt} {scope : Scope} {f : Addr} {fd : FuncData} {ps : List Str} (F : FunD K x qual params body scope [] [] f fd) (n : Nat) (ks : List Str) (g : {α : Type} → List α → List α → List α)
    (hrel : ∀ {vs zs : List V} {us ws : List Value}, Vals vs us → Vals zs ws → Vals (g vs zs) (g us ws))
    (h : ∀ (kV doc pm : Value) (an : Option Addr) (cdv ct : Value) (us ws : List Value), us.length = n → ws.length = ks.length → bindArgs (PySem.W.fnOf x qual params body scope .none kV doc pm an cdv ct) ⟨us, ks.zip ws⟩ = pure (ps.zip (g us ws))) :
    KBn K fd ps n ks (fun us ws => g us ws) (fun vs zs => g vs zs) := by
  obtain ⟨oc, od, dV, kV, doc, pm, an, cdv, ct, osl, rfl, lk, hcd, hD, hK⟩ := F.ex
  rcases hD with ⟨_, rfl⟩ | ⟨e, _⟩
  · exact ⟨fun s us ws X l1 l2 => .of_eq (h kV doc pm an cdv ct us ws l1 l2), fun r1 r2 => hrel r1 r2⟩
  · exact absurd rfl e
end Tb
end

section
set_option maxHeartbeats 4000000
namespace Tb
open PySem PySem.Spec L2
/-! ## from the text to its mirror -/
structure Sh where
  name : Str
  n : Nat
  ks : List Str
  np : Nat
  F : Fn
  dv : List D
  gD : List D → List D → List D
structure Cfg where
  N : List Str
  sc : Scope
  G : List Sh
  C : List (Str × D)
  B : List Str
  held : List Str
  retH : Bool
  blk : Bool
  cel : List Str
def ShOk (X : Cx) (k : Nat) (sh : Sh) : Prop := ∃ (f : Addr) (fd : FuncData) (ps : List Str), ps.length = sh.np ∧ X.mg sh.name = some (.ref f) ∧ PySem.W.keepIn X.K (.ref f) = true ∧ FnG X.prog X.w X.K X.mg X.base k f fd ps (spM X.K sh.F ps.length) ∧
  (sh.ks = [] → ∃ dvs ds, Vals dvs ds ∧ Binds X.K fd ps ds ∧ ∀ w, Reps X.K w sh.dv dvs) ∧
  (sh.ks ≠ [] → ∃ g gV, KBn X.K fd ps sh.n sh.ks g gV ∧ ∀ (w : W3) (ds es : List D) (vs zs : List V), Reps X.K w ds vs → Reps X.K w es zs → Reps X.K w (sh.gD ds es) (gV vs zs))
structure CxOk (c : Cfg) (X : Cx) (E : XK) : Prop where
  hN : X.N = c.N
  nd : c.N.Nodup
  sc : X.env.scope = c.sc
  calm : X.calm = true
  gd : X.A.guards = some []
  kk : ∃ k, Room k X.A ∧ ∀ sh ∈ c.G, ShOk X k sh
  con : ∀ p ∈ c.C, ∃ u v, X.mg p.1 = some u ∧ RelV v u ∧ ∀ w, Rep X.K w p.2 v
  blt : ∀ x ∈ c.B, X.mg x = none
  fn : c.blk = false → (∀ y, X.fn y = true) ∧ X.env.blockKind = .function ∧ PassesOwn (model X.prog X.w) X.A X.env X.xe
  pass : Passes (L2.CX X.prog X.w) X E
  cl : ∀ y ∈ c.cel, X.fn y = true
def slotOf : List Str → Str → Option Nat
  | [], _ => none
  | y :: ys, x => if y = x then some 0 else (slotOf ys x).map (· + 1)
theorem slotOf_get : ∀ {N : List Str} {x : Str} {i : Nat}, slotOf N x = some i → N[i]? = some x
  | [], _, _, h => by cases h
  | y :: ys, x, i, h => by
    unfold slotOf at h
    split at h
    · rename_i e
      cases h
      rw [e]; rfl
    · rw [Option.map_eq_some_iff] at h
      obtain ⟨j, h1, rfl⟩ := h
      simpa using slotOf_get h1
def kindB (c : Cfg) (x : Str) : Option NameKind := c.sc.names.lookup x
def visB (c : Cfg) (x : Str) : Bool := kindB c x == some .local || kindB c x == some .cell || kindB c x == some .free
def glB (c : Cfg) (x : Str) : Bool := kindB c x == some .globalImplicit
def notStar : Expr → Bool
  | .Starred .. => false
  | _ => true
def notSlice : Expr → Bool
  | .Slice .. => false
  | _ => true
def notSet : Expr → Bool
  | .Set .. => false
  | _ => true
def notComp : Expr → Bool
  | .ListComp .. => false
  | .SetComp .. => false
  | .DictComp .. => false
  | _ => true
def notTuple : Expr → Bool
  | .Tuple .. => false
  | .List .. => false
  | _ => true
def plainBase : Expr → Bool
  | .Call _ [] _ _ => false
  | _ => true
/-- whose truth is the truth of its value -/
def plainTest : Expr → Bool
  | .UnaryOp .Not _ _ => false
  | .BoolOp .. => false
  | .IfExp .. => false
  | .Compare .. => false
  | _ => true
theorem star_cons {e : Expr} {es : List Expr} {env : Env} (h : notStar e = true) : starEach (e :: es) env = (false, eval e env) :: starEach es env := by
  cases e <;> first | rfl | cases h
theorem star_any {pos : Pos} {env : Env} : ∀ {es : List Expr}, es.all notStar = true → (backTo pos (starEach es env)).any (·.1) = false
  | [], _ => rfl
  | e :: es, h => by
    rw [List.all_cons, Bool.and_eq_true] at h
    rw [star_cons h.1]
    show (false || (backTo pos (starEach es env)).any (·.1)) = false
    rw [star_any h.2]; rfl
theorem star_all {pos : Pos} {env : Env} : ∀ {es : List Expr}, es.all notStar = true → ((backTo pos (starEach es env)).all fun x => !x.1) = true
  | [], _ => rfl
  | e :: es, h => by
    rw [List.all_cons, Bool.and_eq_true] at h
    rw [star_cons h.1]
    show (true && (backTo pos (starEach es env)).all fun x => !x.1) = true
    rw [star_all h.2]; rfl
theorem plainIx_of {b : Expr} (h : notSlice b = true) : PlainIx b := by
  intro o i
  cases b <;> first | rfl | cases h
theorem marks_of {op : CmpOp} {b : Expr} (h : notSet b = true) : behindInMarks op b = false := by
  cases b <;> first | rfl | cases h
theorem folded_of {e : Expr} {env : Env} (h : notSet e = true) : ∀ x, foldedSetIterable e env x = pure x := by
  intro x
  cases e <;> first | rfl | cases h
theorem swaps_none {e : Expr} {l : Nat} {env : Env} (h : notComp e = true) : swapsWith e none l env = pure false := by
  cases e <;> first | rfl | cases h
theorem swaps_some {e t : Expr} {l : Nat} {env : Env} (h : notComp e = true) : swapsWith e (some t) l env = pure false := by
  cases e <;> first | rfl | cases h
theorem swaps_tup {e : Expr} {l : Nat} {env : Env} {es : List Expr} {k : Nat} {p : Pos} : swapsWith e (some (.Tuple es k p)) l env = pure false := by
  cases e <;> rfl
theorem swaps_sub {e a b : Expr} {l : Nat} {env : Env} {p : Pos} : swapsWith e (some (.Subscript a b p)) l env = pure false := by
  cases e <;> rfl
theorem base_of {o : Expr} {name : Str} {env : Env} (h : plainBase o = true) : attributeBase o name env (eval o env) = eval o env := by
  cases o with
  | Call f args kws pos =>
    cases args with
    | nil => cases h
    | cons a as => cases f <;> rfl
  | _ => rfl
theorem test_of {a : Expr} {env : Env} (h : plainTest a = true) : ∀ whole, isTrue a env whole = (do let v ← whole; standAt a.pos; holding [v] (truthy v)) := by
  intro whole
  cases a with
  | UnaryOp op x p => cases op <;> first | rfl | cases h
  | BoolOp => cases h
  | IfExp => cases h
  | Compare => cases h
  | _ => rfl
section
variable {c : Cfg} {X : Cx} {E : XK}
theorem CxOk.vis (k : CxOk c X E) {x : Str} (h : visB c x = true) : Vis X.env.scope x := by
  unfold visB kindB at h
  simp only [Bool.or_eq_true, beq_iff_eq] at h
  unfold Vis
  rw [k.sc]
  rcases h with (h | h) | h
  · exact .inl h
  · exact .inr (.inl h)
  · exact .inr (.inr h)
theorem CxOk.gl (k : CxOk c X E) {x : Str} (h : glB c x = true) : Gl X x := by
  unfold glB kindB at h
  rw [beq_iff_eq] at h
  show X.env.scope.names.lookup x = _
  rw [k.sc]; exact h
theorem CxOk.slot (k : CxOk c X E) {x : Str} {i : Nat} (h : slotOf c.N x = some i) : X.N[i]? = some x := by
  rw [k.hN]; exact slotOf_get h
theorem CxOk.nd' (k : CxOk c X E) : X.N.Nodup := by rw [k.hN]; exact k.nd
theorem CxOk.units (k : CxOk c X E) : X.A.units + 66 < cLine := by
  obtain ⟨j, r, _⟩ := k.kk
  have := r.un
  omega
end
/-! ### names, constants, operators -/
def plainName (x : Str) : Bool := !(x == ("__debug__" : Str)) && !(x == ("__classdict__" : Str)) && !(x == ("__name__" : Str))
theorem pn1 {x : Str} (h : plainName x = true) : (x == ("__debug__" : Str)) = false := by
  unfold plainName at h
  simp only [Bool.and_eq_true, Bool.not_eq_true'] at h
  exact h.1.1
theorem pn2 {x : Str} (h : plainName x = true) : (x == ("__classdict__" : Str)) = false := by
  unfold plainName at h
  simp only [Bool.and_eq_true, Bool.not_eq_true'] at h
  exact h.1.2
theorem pn3 {x : Str} (h : plainName x = true) : x ≠ "__name__" := by
  unfold plainName at h
  simp only [Bool.and_eq_true, Bool.not_eq_true'] at h
  exact beq_eq_false_iff_ne.mp h.2
/-- the built-in classes that stand as values -/
def tyTab : List (Str × String) := [("int", "int"), ("str", "str"), ("tuple", "tuple"), ("list", "list"), ("bool", "bool"), ("dict", "dict")]
theorem tyTab_ok : ∀ p ∈ tyTab, bootBuiltins p.1 = some (.type p.2) := by
  intro p hp
  simp only [tyTab, List.mem_cons, List.not_mem_nil, or_false] at hp
  rcases hp with rfl | rfl | rfl | rfl | rfl | rfl <;> decide +kernel
def cName (c : Cfg) (x : Str) : Option ME :=
  if plainName x = true then
    if visB c x = true then (slotOf c.N x).map mVar
    else if glB c x = true then
      match c.C.find? (fun p => decide (p.1 = x)) with
      | some p => some (mC p.2)
      | none => if x ∈ c.B then (tyTab.find? fun p => decide (p.1 = x)).map fun p => mC (.raw (.ty p.2)) else none
    else none
  else none
def cConst : Const → Option ME
  | .int i => some (mC (.int i))
  | .bool b => some (mC (.bl b))
  | .none => some (mC .non)
  | .str s => some (mC (.str s))
  | _ => none
def binTab (hp : Bool) : Operator → Option F2
  | .Add => some (if hp = true then opAddH else opAdd)
  | .Sub => some opSub
  | .Mult => some opMul
  | .Mod => some opMod
  | .FloorDiv => some opDiv
  | .Pow => some opPow
  | _ => none
def cmpTab : CmpOp → Option F2
  | .Eq => some opEq
  | .NotEq => some opNe
  | .Lt => some opLt
  | .LtE => some opLe
  | .Gt => some opGt
  | .GtE => some opGe
  | .Is => some opIs
  | .IsNot => some opIsNot
  | _ => none
def augTab : Operator → Option F2
  | .Add => some iopAdd
  | .Sub => some iopSub
  | _ => none
section
variable {c : Cfg} {X : Cx} {E : XK}
theorem cName_ok (k : CxOk c X E) {x : Str} {pos : Pos} {m : ME} (h : cName c x = some m) : PE X (.Name x pos) (tM X.K E m) := by
  unfold cName at h
  split at h
  · rename_i hp
    split at h
    · rename_i hv
      rw [Option.map_eq_some_iff] at h
      obtain ⟨i, h1, rfl⟩ := h
      exact me_var (pe_var (k.slot h1) (k.vis hv) (pn1 hp) (pn2 hp))
    · split at h
      · rename_i hg
        split at h
        · rename_i p hf
          cases h
          have hm := List.mem_of_find?_eq_some hf
          have he : p.1 = x := by simpa using List.find?_some hf
          obtain ⟨u, v, h1, h2, h3⟩ := k.con p hm
          rw [he] at h1
          exact me_const (pe_glob (k.gl hg) h1 h2 (pn1 hp)) h3
        · split at h
          · rename_i hb
            rw [Option.map_eq_some_iff] at h
            obtain ⟨p, hf, rfl⟩ := h
            have hm := List.mem_of_find?_eq_some hf
            have he : p.1 = x := by simpa using List.find?_some hf
            have hv := tyTab_ok p hm
            rw [he] at hv
            exact me_const (v := .ty p.2) (pe_bltn (k.gl hg) (k.blt x hb) hv rfl (pn3 hp) (pn1 hp)) fun w => by simp only [Rep]
          · cases h
      · cases h
  · cases h
theorem cConst_ok {v : Const} {j : Nat} {pos : Pos} {m : ME} (h : cConst v = some m) : PE X (.Constant v j pos) (tM X.K E m) := by
  unfold cConst at h
  split at h <;> cases h
  · exact me_const pe_int fun w => rep_int.mpr rfl
  · exact me_const pe_bl fun w => rep_bl.mpr rfl
  · exact me_const pe_non fun w => rep_non.mpr rfl
  · exact me_const pe_str fun w => rep_str.mpr rfl
theorem binTab_ok {hp : Bool} {op : Operator} {f : F2} (h : binTab hp op = some f) : OpR X (binaryOp op) (rM X.K E f) := by
  unfold binTab at h
  split at h <;> cases h
  · split
    · exact or_addH
    · exact or_add
  · exact or_sub
  · exact or_mul
  · exact or_mod
  · exact or_div
  · exact or_pow
theorem cmpTab_ok (k : CxOk c X E) {op : CmpOp} {f : F2} (h : cmpTab op = some f) : OpR X (compareOp op) (rM X.K E f) := by
  have hu := k.units
  unfold cmpTab at h
  split at h <;> cases h
  · exact or_eq (by omega)
  · exact or_ne (by omega)
  · exact or_lt (by omega)
  · exact or_le
  · exact or_gt
  · exact or_ge
  · exact or_is
  · exact or_isnot
theorem augTab_ok {op : Operator} {f : F2} (h : augTab op = some f) : OpR X (inplaceOp op) (rM X.K E f) := by
  unfold augTab at h
  split at h <;> cases h
  · exact oi_add
  · exact oi_sub
end
/-! ### targets -/
def cGT (c : Cfg) (x : Str) : Option (MG × List Nat) :=
  if plainName x = true ∧ (kindB c x = some .local ∨ ((c.blk = false ∨ x ∈ c.cel) ∧ kindB c x = some .cell)) then (slotOf c.N x).map fun i => (mgName i, [i]) else none
mutual
def cG (c : Cfg) : Nat → Expr → Option (MG × List Nat)
  | 0, _ => none
  | _ + 1, .Name x _ => cGT c x
  | n + 1, .Tuple es _ _ => (cGs c n es).map fun p => (mgTup es.length p.1, p.2)
  | _ + 1, _ => none
def cGs (c : Cfg) : Nat → List Expr → Option (MGs × List Nat)
  | 0, _ => none
  | _ + 1, [] => some (mgNil, [])
  | n + 1, e :: es => if notStar e = true then match cG c n e, cGs c n es with
      | some p, some q => some (mgCons p.1 q.1, p.2 ++ q.2)
      | _, _ => none
    else none
end
/-- the kit's reading of the same target -/
def gGT (c : Cfg) (x : Str) : TG := gName ((slotOf c.N x).getD 0)
mutual
def gG (K : PySem.W.Frag) (c : Cfg) : Nat → Expr → TG
  | _ + 1, .Name x _ => gGT c x
  | n + 1, .Tuple es _ _ => gTup K es.length (gGs K c n es)
  | _, _ => gName 0
def gGs (K : PySem.W.Frag) (c : Cfg) : Nat → List Expr → TGs
  | n + 1, e :: es => gCons (gG K c n e) (gGs K c n es)
  | _, _ => gNil
end
theorem assign_len {env : Env} : ∀ es : List Expr, (assignEach es env).length = es.length
  | [] => rfl
  | e :: es => by
    have := assign_len (env := env) es
    cases e <;> simp [assignEach, this]
theorem assign_find {env : Env} : ∀ {es : List Expr}, es.all notStar = true → (assignEach es env).findIdx? (·.1) = none
  | [], _ => rfl
  | e :: es, h => by
    rw [List.all_cons, Bool.and_eq_true] at h
    have ih := assign_find (env := env) h.2
    cases e <;> first | (cases h.1; done) | (simp only [assignEach, List.findIdx?_cons, ih]; rfl)
theorem assign_cons {env : Env} {e : Expr} {es : List Expr} (h : notStar e = true) : (assignEach (e :: es) env).map (·.2) = assign e env :: (assignEach es env).map (·.2) := by
  cases e <;> first | rfl | cases h
section
variable {c : Cfg} {X : Cx} {E : XK}
theorem CxOk.loc (k : CxOk c X E) {x : Str} (h : kindB c x = some .local ∨ ((c.blk = false ∨ x ∈ c.cel) ∧ kindB c x = some .cell)) : L2.Loc X.env.scope x ∧ (X.fn x = true ∨ X.env.scope.names.lookup x = some .local) := by
  unfold L2.Loc
  rw [k.sc]
  rcases h with h | ⟨h1, h⟩
  · exact ⟨.inl h, .inr h⟩
  · exact ⟨.inr h, .inl (h1.elim (fun z => (k.fn z).1 x) (k.cl x))⟩
theorem cGT_ok (k : CxOk c X E) {x : Str} {pos : Pos} {m : MG} {vs : List Nat} (h : cGT c x = some (m, vs)) : PG X (.Name x pos) (gGT c x) ∧ ∀ us, (∀ i ∈ vs, i ∈ us) → GOk X.K us (gGT c x) m := by
  unfold cGT at h
  split at h
  · rename_i hz
    rw [Option.map_eq_some_iff] at h
    obtain ⟨i, h1, h2⟩ := h
    cases h2
    obtain ⟨l1, l2⟩ := k.loc hz.2
    have e : gGT c x = gName i := by unfold gGT; rw [h1]; rfl
    rw [e]
    exact ⟨pg_name k.nd' (k.slot h1) l1 l2, fun us hu => go_name (hu i (by simp))⟩
  · cases h
mutual
theorem cG_ok (k : CxOk c X E) : ∀ (n : Nat) {e : Expr} {m : MG} {vs : List Nat}, cG c n e = some (m, vs) → PG X e (gG X.K c n e) ∧ ∀ us, (∀ i ∈ vs, i ∈ us) → GOk X.K us (gG X.K c n e) m
  | 0, e, m, vs, h => by simp [cG] at h
  | n + 1, e, m, vs, h => by
    cases e with
    | Name x p =>
      simp only [cG] at h
      simp only [gG]
      exact cGT_ok k h
    | Tuple es j p =>
      simp only [cG, Option.map_eq_some_iff] at h
      obtain ⟨q, h1, h2⟩ := h
      cases h2
      obtain ⟨h3, h4, h5⟩ := cGs_ok k n h1
      simp only [gG]
      exact ⟨pg_tup k.calm h3 (assign_len es) (assign_find h5), fun us hu => go_tup (h4 us hu)⟩
    | _ => simp [cG] at h
theorem cGs_ok (k : CxOk c X E) : ∀ (n : Nat) {es : List Expr} {p : MGs × List Nat}, cGs c n es = some p → PGs X es (gGs X.K c n es) ∧ (∀ us, (∀ i ∈ p.2, i ∈ us) → GsOk X.K us (gGs X.K c n es) p.1) ∧ es.all notStar = true
  | 0, es, p, h => by simp [cGs] at h
  | n + 1, [], p, h => by
    simp only [cGs, Option.some.injEq] at h
    subst h
    simp only [gGs]
    exact ⟨pgs_nil, fun us _ => gos_nil, rfl⟩
  | n + 1, e :: es, p, h => by
    simp only [cGs] at h
    split at h
    · rename_i hs
      split at h
      · rename_i p1 p2 e1 e2
        cases h
        obtain ⟨h1, h2⟩ := cG_ok k n (m := p1.1) (vs := p1.2) (by simpa using e1)
        obtain ⟨h3, h4, h5⟩ := cGs_ok k n e2
        simp only [gGs]
        exact ⟨pgs_cons h1 h3 (assign_cons hs), fun us hu => gos_cons (h2 us fun i hi => hu i (List.mem_append_left _ hi)) (h4 us fun i hi => hu i (List.mem_append_right _ hi)), by rw [List.all_cons, hs, h5]; rfl⟩
      · cases h
    · cases h
end
end
end Tb
end

section
set_option maxHeartbeats 4000000
namespace Tb
open PySem PySem.Spec L2
/-! ### built-in functions and methods by their names -/
structure BI where
  x : Str
  ty : Bool
  id : String
  f : FB
def bTab (hp : Bool) : List BI := [⟨"len", false, "len", bLen⟩, ⟨"tuple", true, "tuple", bTuple⟩, ⟨"list", true, "list", if hp = true then bListH else bList⟩, ⟨"repr", false, "repr", bRepr⟩, ⟨"abs", false, "abs", bAbs⟩, ⟨"int", true, "int", bInt⟩, ⟨"str", true, "str", bStr⟩,
  ⟨"ord", false, "ord", bOrd⟩, ⟨"max", false, "max", bMax⟩, ⟨"min", false, "min", bMin⟩, ⟨"sum", false, "sum", bSum⟩, ⟨"all", false, "all", bAll⟩, ⟨"any", false, "any", bAny⟩, ⟨"isinstance", false, "isinstance", bIsi⟩]
def BI.v (b : BI) : Value := if b.ty = true then .type b.id else .builtin b.id
theorem bTab_boot (hp : Bool) : ∀ b ∈ bTab hp, bootBuiltins b.x = some b.v := by
  intro b hb
  simp only [bTab, List.mem_cons, List.not_mem_nil, or_false] at hb
  rcases hb with rfl | rfl | rfl | rfl | rfl | rfl | rfl | rfl | rfl | rfl | rfl | rfl | rfl | rfl <;> (simp only [BI.v]; decide +kernel)
theorem bTab_ok {c : Cfg} {X : Cx} {E : XK} (k : CxOk c X E) (hp : Bool) : ∀ b ∈ bTab hp, CallR X b.v (rB X.K E b.f) := by
  intro b hb
  simp only [bTab, List.mem_cons, List.not_mem_nil, or_false] at hb
  rcases hb with rfl | rfl | rfl | rfl | rfl | rfl | rfl | rfl | rfl | rfl | rfl | rfl | rfl | rfl
  · exact cr_len
  · exact cr_tuple
  · show CallR X (.type "list") (rB X.K E (if hp = true then bListH else bList))
    split
    · exact cr_listH
    · exact cr_list
  · exact cr_repr k.gd k.units
  · exact cr_abs
  · exact cr_int
  · exact cr_str
  · exact cr_ord
  · exact cr_maxM k.calm
  · exact cr_minM k.calm
  · exact cr_sumM k.calm
  · exact cr_allM k.calm
  · exact cr_anyM k.calm
  · exact cr_isi
structure MI' where
  name : Str
  T : String
  id : String
  f : FM
def mTab : List MI' := [⟨"append", "list", "list.append", lAppend⟩, ⟨"extend", "list", "list.extend", lExtend⟩]
theorem mTab_ok {X : Cx} {E : XK} : ∀ m ∈ mTab, PlainAttrs m.T ∧ Slot m.T m.name m.id ∧ typeOf (.builtin m.id) = pure (.type "method_descriptor") ∧ MtR X m.id (rMeth X.K E m.f) := by
  intro m hm
  simp only [mTab, List.mem_cons, List.not_mem_nil, or_false] at hm
  rcases hm with rfl | rfl
  · exact ⟨PySem.F.plainAttrs_list, PySem.F.slot_list_append, PySem.F.type_list_append, mr_append⟩
  · exact ⟨PySem.F.plainAttrs_list, PySem.F.slot_list_extend, PySem.F.type_list_extend, mr_extend⟩
/-! ### expressions -/
abbrev RE := Cfg → Bool → Expr → Option ME
abbrev RT := Cfg → Expr → Option MT
def cA (rE : Expr → Option ME) : List Expr → Option MA
  | [] => some mNil
  | e :: es => if notStar e = true then match rE e, cA rE es with
      | some m, some ms => some (mCons m ms)
      | _, _ => none
    else none
def cKw (rE : Expr → Option ME) : List Keyword → Option (MA × List Str)
  | [] => some (mNil, [])
  | ⟨some n, e, _⟩ :: ks => match rE e, cKw rE ks with
      | some m, some p => some (mCons m p.1, n :: p.2)
      | _, _ => none
  | _ => none
def Cfg.inBlk (c : Cfg) (scope : Scope) : Cfg := { c with sc := relS scope c.sc, blk := true, cel := (scope.names.filter fun y => scope.names.lookup y.1 == some .cell).map (·.1) }
def ownOf (N : List Str) : List (Str × NameKind) → List (Str × Nat)
  | [] => []
  | (x, k) :: r => match slotOf N x with
    | some i => if k = .local ∨ k = .cell then (x, i) :: ownOf N r else ownOf N r
    | none => ownOf N r
/-- range(..), or a value -/
def cI (c : Cfg) (rE : RE) : Expr → Option MI
  | .Call (.Name x _) [a] [] _ => if x = "range" ∧ glB c x = true ∧ x ∈ c.B ∧ notStar a = true then (rE c false a).map mRange1 else none
  | .Call (.Name x _) [a, b] [] _ => if x = "range" ∧ glB c x = true ∧ x ∈ c.B ∧ notStar a = true ∧ notStar b = true then match rE c false a, rE c false b with
      | some m, some n => some (mRange2 m n)
      | _, _ => none
    else none
  | _ => none
/-- zip, enumerate: their pairs go to a tuple of names -/
def cZ (c : Cfg) (rE : RE) : Expr → Expr → Option MI
  | .Tuple _ _ _, .Call (.Name x _) [a, b] [] _ => if x = "zip" ∧ glB c x = true ∧ x ∈ c.B ∧ notStar a = true ∧ notStar b = true then match rE c false a, rE c false b with
      | some m, some n => some (mZip m n)
      | _, _ => none
    else none
  | .Tuple _ _ _, .Call (.Name x _) [a] [] _ => if x = "enumerate" ∧ glB c x = true ∧ x ∈ c.B ∧ notStar a = true then (rE c false a).map mEnum else none
  | _, _ => none
def cIter (c : Cfg) (rE : RE) (tg e : Expr) : Option MI := match cI c rE e with
  | some m => some m
  | none => match cZ c rE tg e with
    | some m => some m
    | none => (rE c false e).map mIter
def cIfs (rT : Expr → Option MT) : List Expr → Option MT
  | [] => some mYes
  | [t] => rT t
  | _ => none
structure CP where
  mi : MI
  own : List (Str × Nat)
  mg : MG
  mt : MT
  me : ME
noncomputable def CP.m (p : CP) (f : Fn1) : ME := fun s h => (mComp p.mi (p.own.map (·.2)) p.mg p.mt p.me s h).bind f
def cComp (c : Cfg) (rE : RE) (rT : RT) (elt tg iter : Expr) (ifs : List Expr) (scope : Scope) : Option CP :=
  if blkC c.N c.sc scope (ownOf c.N scope.names) = true ∧ notSet iter = true then
    match cIter c rE tg iter, cG (c.inBlk scope) 9 tg, cIfs (rT (c.inBlk scope)) ifs, rE (c.inBlk scope) false elt with
    | some mi, some p, some mt, some me => if (p.2.all fun i => decide (i ∈ (ownOf c.N scope.names).map (·.2))) = true then some ⟨mi, ownOf c.N scope.names, p.1, mt, me⟩ else none
    | _, _, _, _ => none
  else none
noncomputable def cCall (c : Cfg) (rE : RE) (hp : Bool) : Expr → List Expr → List Keyword → Option ME
  | .Name x _, [], [] => if plainName x = true ∧ glB c x = true then
      (c.G.find? fun sh => decide (sh.name = x) && decide (sh.n = 0) && decide (sh.ks = [])).map fun sh => mCall sh.np sh.F sh.dv mNil
    else none
  | .Name x _, a :: as, [] => if plainName x = true ∧ glB c x = true then
      match cA (rE c false) (a :: as) with
      | some ma => match c.G.find? fun sh => decide (sh.name = x) && decide (sh.n = (a :: as).length) && decide (sh.ks = []) with
        | some sh => some (mCall sh.np sh.F sh.dv ma)
        | none => if x ∈ c.B then ((bTab hp).find? fun b => decide (b.x = x)).map fun b => mCallB b.f ma else none
      | none => none
    else none
  | .Name x _, a :: as, kw :: kws => if plainName x = true ∧ glB c x = true then
      match cA (rE c false) (a :: as), cKw (rE c false) (kw :: kws) with
      | some ma, some mk => (c.G.find? fun sh => decide (sh.name = x) && decide (sh.n = (a :: as).length) && decide (sh.ks = mk.2)).map fun sh => mCallK sh.n sh.ks.length sh.np sh.F sh.gD ma mk.1
      | _, _ => none
    else none
  | .Attribute o name apos, a :: as, [] => if plainBase o = true ∧ (a :: as).length < 30 then
      match rE c false o, cA (rE c false) (a :: as), mTab.find? fun m => decide (m.name = name) with
      | some mo, some ma, some m => some (mMeth m.T m.f mo ma)
      | _, _, _ => none
    else none
  | _, _, _ => none
/-- where a call's method stands on its own line -/
def lineOk : Expr → Pos → Bool
  | .Attribute _ _ apos, pos => apos.endLine == pos.line
  | _, _ => true
def cBoolV (rE : Expr → Option ME) (op : BoolOp) : List Expr → Option ME
  | [] => none
  | [a] => rE a
  | a :: b :: r => match rE a, cBoolV rE op (b :: r) with
    | some x, some y => some (match op with | .And => mAndV x y | .Or => mOrV x y)
    | _, _ => none
def cBoolT (rT : Expr → Option MT) (op : BoolOp) : List Expr → Option MT
  | [] => none
  | [a] => rT a
  | a :: b :: r => match rT a, cBoolT rT op (b :: r) with
    | some x, some y => some (match op with | .And => mAnd x y | .Or => mOr x y)
    | _, _ => none
def cCmp (c : Cfg) (rE : RE) (a : Expr) : List CmpOp → List Expr → Option ME
  | [op], [b] => if notSet b = true then match cmpTab op, rE c false a, rE c false b with
      | some f, some x, some y => some (mOp f x y)
      | _, _, _ => none
    else none
  | [op, op'], [b, d] => if notSet d = true then match cmpTab op, cmpTab op', rE c false a, rE c false b, rE c false d with
      | some f, some g, some x, some y, some z => some (mChain f g x y z)
      | _, _, _, _, _ => none
    else none
  | _, _ => none
def cPart (rE : Expr → Option ME) : Option Expr → Option MO'
  | none => some mNoPart
  | some e => (rE e).map mPart
noncomputable def stepE (rE : RE) (rT : RT) : RE := fun c hp e => match e with
  | .Name x _ => cName c x
  | .Constant v _ _ => cConst v
  | .BinOp a op b _ => match binTab hp op, rE c false a, rE c false b with
    | some f, some x, some y => some (mOp f x y)
    | _, _, _ => none
  | .UnaryOp .USub a _ => (rE c false a).map mNeg
  | .UnaryOp .Not a _ => (rE c false a).map mNotV
  | .BoolOp op es _ => cBoolV (rE c false) op es
  | .Compare a ops bs _ => cCmp c rE a ops bs
  | .IfExp t a b _ => match rT c t, rE c hp a, rE c hp b with
    | some mt, some x, some y => some (mIf mt x y)
    | _, _, _ => none
  | .Tuple es _ _ => (cA (rE c false) es).map mTup
  | .List es _ => (cA (rE c false) es).map (if hp = true then mLstH else mLst)
  | .Subscript a (.Slice lo hi none _) _ => match rE c false a, cPart (rE c false) lo, cPart (rE c false) hi with
    | some x, some l, some u => some (mCut (if hp = true then opCutH else opCut) x l u)
    | _, _, _ => none
  | .Subscript a b _ => if notSlice b = true then match rE c false a, rE c false b with
      | some x, some y => some (mOp opIx x y)
      | _, _ => none
    else none
  | .ListComp elt [⟨tg, iter, ifs, as⟩] scope _ => if as = 0 then (cComp c rE rT elt tg iter ifs scope).map fun p => p.m (if hp = true then finH else finL) else none
  | .Call f args kws pos => if lineOk f pos = true then cCall c rE hp f args kws else none
  | _ => none
def stepT (rE : RE) (rT : RT) : RT := fun c e => match e with
  | .Compare a ops bs _ => (cCmp c rE a ops bs).map fun m s h => asB (m s h)
  | .BoolOp op es _ => cBoolT (rT c) op es
  | .UnaryOp .Not a _ => (rT c a).map mNot
  | e => if plainTest e = true then (rE c false e).map mTruth else none
noncomputable def comp : Nat → RE × RT
  | 0 => (fun _ _ _ => none, fun _ _ => none)
  | n + 1 => (stepE (comp n).1 (comp n).2, stepT (comp n).1 (comp n).2)
/-! ### they are right -/
abbrev GoodE (r : RE) : Prop := ∀ (c : Cfg) (X : Cx) (E : XK) (hp : Bool) (e : Expr) (m : ME), CxOk c X E → r c hp e = some m → PE X e (tM X.K E m)
abbrev GoodT (r : RT) : Prop := ∀ (c : Cfg) (X : Cx) (E : XK) (e : Expr) (m : MT), CxOk c X E → r c e = some m → PT X e (tMT X.K E m)
section
variable {rE : RE} {rT : RT} {c : Cfg} {X : Cx} {E : XK}
theorem cA_ok (gE : GoodE rE) (k : CxOk c X E) : ∀ {es : List Expr} {ma : MA}, cA (rE c false) es = some ma → PA X es (tMA X.K E ma) ∧ es.all notStar = true
  | [], ma, h => by
    simp only [cA, Option.some.injEq] at h
    subst h
    exact ⟨mar_nil, rfl⟩
  | e :: es, ma, h => by
    simp only [cA] at h
    split at h
    · rename_i hs
      split at h
      · rename_i m ms e1 e2
        cases h
        obtain ⟨h1, h2⟩ := cA_ok gE k e2
        exact ⟨mar_cons (gE c X E false e m k e1) h1 (star_cons hs), by rw [List.all_cons, hs, h2]; rfl⟩
      · cases h
    · cases h
theorem cKw_ok (gE : GoodE rE) (k : CxOk c X E) : ∀ {ks : List Keyword} {p : MA × List Str}, cKw (rE c false) ks = some p → PK X ks (tMA X.K E p.1) ∧
    (∀ pos, (backToKw pos (keywordEach ks X.env)).all (·.1.isSome) = true ∧ (backToKw pos (keywordEach ks X.env)).filterMap (·.1) = p.2 ∧ (backToKw pos (keywordEach ks X.env)).any (·.1.isNone) = false)
  | [], p, h => by
    simp only [cKw, Option.some.injEq] at h
    subst h
    exact ⟨mk_nil, fun pos => ⟨rfl, rfl, rfl⟩⟩
  | ⟨none, e, kp⟩ :: ks, p, h => by simp [cKw] at h
  | ⟨some n, e, kp⟩ :: ks, p, h => by
    simp only [cKw] at h
    split at h
    · rename_i m q e1 e2
      cases h
      obtain ⟨h1, h2⟩ := cKw_ok gE k e2
      refine ⟨mk_cons (gE c X E false e m k e1) h1, fun pos => ?_⟩
      obtain ⟨h3, h4, h5⟩ := h2 pos
      simp only [backToKw] at h3 h4 h5
      simp only [keywordEach, backToKw, List.map_cons, List.all_cons, List.filterMap_cons, List.any_cons, h3, h4, h5]
      simp
    · cases h
theorem inBlk_ok (k : CxOk c X E) (s : Shared) (H : Hp) (scope : Scope) (C : Addr) (cl : List (Str × Addr)) (fp : List Addr) : CxOk (c.inBlk scope) (X.blk s H scope (compEnvC scope cl C X.env) fp) E0 := by
  refine ⟨k.hN, k.nd, ?_, k.calm, k.gd, k.kk, k.con, k.blt, (fun z => nomatch z), passL, fun y hy => ?_⟩
  · show relabel scope X.env = relS scope c.sc
    rw [← k.sc]
    rfl
  · obtain ⟨p, hp, rfl⟩ := List.mem_map.mp hy
    exact (List.mem_filter.mp hp).2
theorem own_slot {N : List Str} : ∀ {l : List (Str × NameKind)}, ∀ p ∈ ownOf N l, N[p.2]? = some p.1
  | [], p, h => by cases h
  | (x, kd) :: r, p, h => by
    unfold ownOf at h
    split at h
    · rename_i i e
      split at h
      · rcases List.mem_cons.mp h with rfl | h
        · exact slotOf_get e
        · exact own_slot p h
      · exact own_slot p h
    · exact own_slot p h
theorem cI_ok (gE : GoodE rE) (k : CxOk c X E) {tg e : Expr} {m : MI} (h : cI c rE e = some m) : PI X tg e (tMI X.K E m) := by
  unfold cI at h
  split at h
  · split at h
    · rename_i hz
      obtain ⟨rfl, h1, h2, h3⟩ := hz
      rw [Option.map_eq_some_iff] at h
      obtain ⟨ma, e1, rfl⟩ := h
      exact mi_range1 (k.gl h1) (k.blt _ h2) (gE c X E false _ _ k e1) (star_cons h3)
    · cases h
  · split at h
    · rename_i hz
      obtain ⟨rfl, h1, h2, h3, h4⟩ := hz
      split at h
      · rename_i ma mb e1 e2
        cases h
        exact mi_range2 (k.gl h1) (k.blt _ h2) (gE c X E false _ _ k e1) (gE c X E false _ _ k e2) (by rw [star_cons h3, star_cons h4]; rfl) (star_cons h4)
      · cases h
    · cases h
  · cases h
theorem cZ_ok (gE : GoodE rE) (k : CxOk c X E) {tg e : Expr} {m : MI} (h : cZ c rE tg e = some m) : PI X tg e (tMI X.K E m) := by
  unfold cZ at h
  split at h
  · split at h
    · rename_i hz
      obtain ⟨rfl, h1, h2, h3, h4⟩ := hz
      split at h
      · rename_i ma mb e1 e2
        cases h
        exact mi_zip (k.gl h1) (k.blt _ h2) (gE c X E false _ _ k e1) (gE c X E false _ _ k e2) (star_cons h3) (star_cons h4) (by rw [star_cons h4]; rfl)
      · cases h
    · cases h
  · split at h
    · rename_i hz
      obtain ⟨rfl, h1, h2, h3⟩ := hz
      rw [Option.map_eq_some_iff] at h
      obtain ⟨ma, e1, rfl⟩ := h
      exact mi_enum (k.gl h1) (k.blt _ h2) (gE c X E false _ _ k e1) (star_cons h3)
    · cases h
  · cases h
theorem cIter_ok (gE : GoodE rE) (k : CxOk c X E) {tg e : Expr} {m : MI} (h : cIter c rE tg e = some m) : PI X tg e (tMI X.K E m) := by
  unfold cIter at h
  split at h
  · rename_i m' e1
    cases h
    exact cI_ok gE k e1
  · split at h
    · rename_i m' e1
      cases h
      exact cZ_ok gE k e1
    · rw [Option.map_eq_some_iff] at h
      obtain ⟨ma, e1, rfl⟩ := h
      exact mi_val (gE c X E false _ _ k e1)
theorem cIfs_ok (gT : GoodT rT) (k : CxOk c X E) {ifs : List Expr} {m : MT} (h : cIfs (rT c) ifs = some m) : PTs X ifs (tMT X.K E m) := by
  unfold cIfs at h
  split at h
  · cases h; exact mts_nil
  · exact mts_one (gT c X E _ _ k h)
  · cases h
/-- what a comprehension's parts have to be -/
theorem cComp_ok (gE : GoodE rE) (gT : GoodT rT) (k : CxOk c X E) {elt tg iter : Expr} {ifs : List Expr} {scope : Scope} {p : CP} (h : cComp c rE rT elt tg iter ifs scope = some p) :
    PI X tg iter (tMI X.K E p.mi) ∧ BlkOk X.N X.env.scope scope p.own ∧ GOk X.K (p.own.map (·.2)) (gG X.K (c.inBlk scope) 9 tg) p.mg ∧
      (∀ (s : Shared) (H : Hp) (C : Addr) (cl : List (Str × Addr)) (fp : List Addr), PG (X.blk s H scope (compEnvC scope cl C X.env) fp) tg (gG X.K (c.inBlk scope) 9 tg)) ∧
      (∀ (s : Shared) (H : Hp) (C : Addr) (cl : List (Str × Addr)) (fp : List Addr), PTs (X.blk s H scope (compEnvC scope cl C X.env) fp) ifs (tMT X.K E0 p.mt)) ∧
      (∀ (s : Shared) (H : Hp) (C : Addr) (cl : List (Str × Addr)) (fp : List Addr), PE (X.blk s H scope (compEnvC scope cl C X.env) fp) elt (tM X.K E0 p.me)) ∧ notSet iter = true := by
  unfold cComp at h
  split at h
  · rename_i hz
    split at h
    · rename_i mi q mt me e1 e2 e3 e4
      split at h
      · rename_i ha
        cases h
        refine ⟨cIter_ok gE k e1, ?_, ?_, fun s H C cl fp => ?_, fun s H C cl fp => ?_, fun s H C cl fp => ?_, hz.2⟩
        · refine blkOk_by ?_
          rw [k.hN, k.sc]
          exact hz.1
        · have hx := inBlk_ok k (X := X) (X.s_0) (X.H_0) scope 0 [] []
          exact (cG_ok hx 9 (m := q.1) (vs := q.2) (by simpa using e2)).2 _ fun i hi => by
            have := List.all_eq_true.mp ha i hi
            exact of_decide_eq_true this
        · exact (cG_ok (inBlk_ok k s H scope C cl fp) 9 (m := q.1) (vs := q.2) (by simpa using e2)).1
        · exact cIfs_ok gT (inBlk_ok k s H scope C cl fp) e3
        · exact gE _ _ _ false _ _ (inBlk_ok k s H scope C cl fp) e4
      · cases h
    · cases h
  · cases h
end
end Tb
end

section
set_option maxHeartbeats 8000000
namespace Tb
open PySem PySem.Spec L2
section
variable {rE : RE} {rT : RT} {c : Cfg} {X : Cx} {E : XK}
theorem find_mem {α : Type} {l : List α} {p : α → Bool} {a : α} (h : l.find? p = some a) : a ∈ l ∧ p a = true := ⟨List.mem_of_find?_eq_some h, List.find?_some h⟩
theorem cCall_ok (gE : GoodE rE) (k : CxOk c X E) {hp : Bool} {f : Expr} {args : List Expr} {kws : List Keyword} {pos : Pos} {m : ME} (hl : lineOk f pos = true) (h : cCall c rE hp f args kws = some m) : PE X (.Call f args kws pos) (tM X.K E m) := by
  obtain ⟨j, hr, hG⟩ := k.kk
  unfold cCall at h
  split at h
  · split at h
    · rename_i hz
      rw [Option.map_eq_some_iff] at h
      obtain ⟨sh, h1, rfl⟩ := h
      obtain ⟨h2, h3⟩ := find_mem h1
      simp only [Bool.and_eq_true, decide_eq_true_eq] at h3
      obtain ⟨⟨rfl, _⟩, h5⟩ := h3
      obtain ⟨fa, fd, ps, e1, e2, e3, G, b1, _⟩ := hG sh h2
      obtain ⟨dvs, ds, b3, b4, b5⟩ := b1 h5
      rw [← e1]
      exact me_call0 G k.gd hr (k.gl hz.2) e2 e3 b4 b3 b5 k.pass (pn1 hz.1)
    · cases h
  · split at h
    · rename_i hz
      split at h
      · rename_i ma e0
        obtain ⟨a1, a2⟩ := cA_ok gE k e0
        rw [List.all_cons, Bool.and_eq_true] at a2
        split at h
        · rename_i sh h1
          cases h
          obtain ⟨h2, h3⟩ := find_mem h1
          simp only [Bool.and_eq_true, decide_eq_true_eq] at h3
          obtain ⟨⟨rfl, _⟩, h5⟩ := h3
          obtain ⟨fa, fd, ps, e1, e2, e3, G, b1, _⟩ := hG sh h2
          obtain ⟨dvs, ds, b3, b4, b5⟩ := b1 h5
          rw [← e1]
          exact me_call G k.gd hr (k.gl hz.2) e2 e3 b4 b3 b5 k.pass a1 (pn1 hz.1) (star_cons a2.1) (star_any a2.2)
        · split at h
          · rename_i hb
            rw [Option.map_eq_some_iff] at h
            obtain ⟨b, h1, rfl⟩ := h
            obtain ⟨h2, h3⟩ := find_mem h1
            have h4 : b.x = _ := of_decide_eq_true h3
            have bb := bTab_boot hp b h2
            have bc := bTab_ok (E := E) k hp b h2
            rw [h4] at bb
            unfold BI.v at bb bc
            split at bb
            · rename_i ht
              rw [if_pos ht] at bc
              exact me_callTy bc (k.gl hz.2) (k.blt _ hb) bb a1 (pn3 hz.1) (pn1 hz.1) (star_cons a2.1) (star_any a2.2)
            · rename_i ht
              rw [if_neg ht] at bc
              exact me_callB bc (k.gl hz.2) (k.blt _ hb) bb a1 (pn3 hz.1) (pn1 hz.1) (star_cons a2.1) (star_any a2.2)
          · cases h
      · cases h
    · cases h
  · split at h
    · rename_i hz
      split at h
      · rename_i ma mk e0 e9
        obtain ⟨a1, a2⟩ := cA_ok gE k e0
        rw [List.all_cons, Bool.and_eq_true] at a2
        obtain ⟨k1, k2⟩ := cKw_ok gE k e9
        obtain ⟨k3, k4, k5⟩ := k2 pos
        rw [Option.map_eq_some_iff] at h
        obtain ⟨sh, h1, rfl⟩ := h
        obtain ⟨h2, h3⟩ := find_mem h1
        simp only [Bool.and_eq_true, decide_eq_true_eq] at h3
        obtain ⟨⟨rfl, h4⟩, h5⟩ := h3
        obtain ⟨fa, fd, ps, e1, e2, e3, G, _, b1⟩ := hG sh h2
        have hne : sh.ks ≠ [] := by
          rw [h5, ← k4]
          intro z
          have := congrArg List.length z
          simp only [keywordEach, backToKw, List.map_cons] at k3 z
          rename_i kw kws' _ _ _
          obtain ⟨nm, ve, kp⟩ := kw
          cases nm with
          | none => simp [keywordEach] at k3
          | some n => simp [keywordEach] at z
        obtain ⟨g, gV, b3, b4⟩ := b1 hne
        rw [← e1]
        exact me_callK G k.gd hr (k.gl hz.2) e2 e3 b3 b4 k.pass a1 k1 k3 (by rw [k4, h5]) (pn1 hz.1) (star_cons a2.1) (by rw [star_cons a2.1, Bool.or_eq_false_iff]; exact ⟨by
          have := star_any (pos := pos) (env := X.env) a2.2
          simpa [backTo] using this, k5⟩)
      · cases h
    · cases h
  · split at h
    · rename_i hz
      split at h
      · rename_i mo ma md e1 e2 e3
        cases h
        obtain ⟨a1, a2⟩ := cA_ok gE k e2
        have a3 := a2
        rw [List.all_cons, Bool.and_eq_true] at a2
        obtain ⟨m1, m2⟩ := find_mem e3
        have m3 : md.name = _ := of_decide_eq_true m2
        obtain ⟨p1, p2, p3, p4⟩ := mTab_ok (X := X) (E := E) md m1
        rw [m3] at p2
        refine me_meth p1 p2 p3 p4 (gE c X E false _ _ k e1) a1 (base_of hz.1) ?_ hl (star_cons a2.1) (star_any a2.2)
        rw [star_all a3]
        simp only [keywordEach, backToKw, List.map_nil, List.all_nil, Bool.and_self, Bool.true_and, decide_eq_true_eq, List.length_nil, List.isEmpty_nil, if_true, Nat.add_zero]
        exact hz.2
      · cases h
    · cases h
  · cases h
theorem cCmp_ok (gE : GoodE rE) (k : CxOk c X E) {a : Expr} {ops : List CmpOp} {bs : List Expr} {pos : Pos} {m : ME} (h : cCmp c rE a ops bs = some m) : PE X (.Compare a ops bs pos) (tM X.K E m) ∧ PT X (.Compare a ops bs pos) (tMT X.K E fun s h => asB (m s h)) := by
  unfold cCmp at h
  split at h
  · split at h
    · rename_i hs
      split at h
      · rename_i f x y e1 e2 e3
        cases h
        have g1 := gE c X E false _ _ k e2
        have g2 := gE c X E false _ _ k e3
        exact ⟨me_cmp (cmpTab_ok k e1) g1 g2 (marks_of hs), mt_cmp (cmpTab_ok k e1) g1 g2 (marks_of hs)⟩
      · cases h
    · cases h
  · split at h
    · rename_i hs
      split at h
      · rename_i f g x y z e1 e2 e3 e4 e5
        cases h
        have g1 := gE c X E false _ _ k e3
        have g2 := gE c X E false _ _ k e4
        have g3 := gE c X E false _ _ k e5
        exact ⟨me_chain (cmpTab_ok k e1) (cmpTab_ok k e2) g1 g2 g3 (marks_of hs), mt_chain (cmpTab_ok k e1) (cmpTab_ok k e2) g1 g2 g3 (marks_of hs)⟩
      · cases h
    · cases h
  · cases h
theorem cBoolV_ok (gE : GoodE rE) (k : CxOk c X E) {op : BoolOp} {pos : Pos} : ∀ {es : List Expr} {m : ME}, cBoolV (rE c false) op es = some m → PE X (.BoolOp op es pos) (tM X.K E m)
  | [], m, h => by cases h
  | [a], m, h => me_one (gE c X E false _ _ k h)
  | a :: b :: r, m, h => by
    simp only [cBoolV] at h
    split at h
    · rename_i x y e1 e2
      have g1 := gE c X E false _ _ k e1
      have g2 := cBoolV_ok gE k (pos := pos) e2
      cases op <;> cases h
      · exact me_and g1 g2
      · exact me_or g1 g2
    · cases h
theorem cBoolT_ok (gT : GoodT rT) (k : CxOk c X E) {op : BoolOp} {pos : Pos} : ∀ {es : List Expr} {m : MT}, cBoolT (rT c) op es = some m → PW X (.BoolOp op es pos) (tMT X.K E m)
  | [], m, h => by cases h
  | [a], m, h => by
    cases op with
    | And => exact pw_and1 (gT c X E _ _ k h)
    | Or => exact pw_or1 (gT c X E _ _ k h)
  | a :: b :: r, m, h => by
    simp only [cBoolT] at h
    split at h
    · rename_i x y e1 e2
      have g1 := gT c X E _ _ k e1
      have g2 := cBoolT_ok gT k (pos := pos) e2
      cases op <;> cases h
      · exact mw_and g1 g2
      · exact mw_or g1 g2
    · cases h
theorem cPart_ok (gE : GoodE rE) (k : CxOk c X E) {e : Option Expr} {m : MO'} (h : cPart (rE c false) e = some m) : PO X e (tMO X.K E m) := by
  unfold cPart at h
  split at h
  · cases h; exact mo_none
  · rw [Option.map_eq_some_iff] at h
    obtain ⟨x, e1, rfl⟩ := h
    exact mo_some (gE c X E false _ _ k e1)
theorem stepE_ok (gE : GoodE rE) (gT : GoodT rT) : GoodE (stepE rE rT) := by
  intro c X E hp e m k h
  unfold stepE at h
  split at h
  · exact cName_ok k h
  · exact cConst_ok h
  · split at h
    · rename_i f x y e1 e2 e3
      cases h
      exact me_op (binTab_ok e1) (gE c X E false _ _ k e2) (gE c X E false _ _ k e3)
    · cases h
  · rw [Option.map_eq_some_iff] at h
    obtain ⟨x, e1, rfl⟩ := h
    exact me_neg (gE c X E false _ _ k e1)
  · rw [Option.map_eq_some_iff] at h
    obtain ⟨x, e1, rfl⟩ := h
    exact me_not (gE c X E false _ _ k e1)
  · exact cBoolV_ok gE k h
  · exact (cCmp_ok gE k h).1
  · split at h
    · rename_i mt x y e1 e2 e3
      cases h
      exact me_if (gT c X E _ _ k e1) (gE c X E hp _ _ k e2) (gE c X E hp _ _ k e3)
    · cases h
  · rw [Option.map_eq_some_iff] at h
    obtain ⟨ma, e1, rfl⟩ := h
    exact me_tup (cA_ok gE k e1).1
  · rw [Option.map_eq_some_iff] at h
    obtain ⟨ma, e1, rfl⟩ := h
    cases hp with
    | true => exact me_lstH (cA_ok gE k e1).1
    | false => exact me_lst (cA_ok gE k e1).1
  · split at h
    · rename_i x l u e1 e2 e3
      cases h
      cases hp with
      | true => exact me_cut sr_cutH (gE c X E false _ _ k e1) (cPart_ok gE k e2) (cPart_ok gE k e3)
      | false => exact me_cut sr_cut (gE c X E false _ _ k e1) (cPart_ok gE k e2) (cPart_ok gE k e3)
    · cases h
  · split at h
    · rename_i hs
      split at h
      · rename_i x y e1 e2
        cases h
        exact me_ix (gE c X E false _ _ k e1) (gE c X E false _ _ k e2) (plainIx_of hs)
      · cases h
    · cases h
  · split at h
    · rename_i ha
      subst ha
      rw [Option.map_eq_some_iff] at h
      obtain ⟨p, e1, rfl⟩ := h
      obtain ⟨h1, h2, h3, h4, h5, h6, h7⟩ := cComp_ok gE gT k e1
      cases hp with
      | true => exact me_lc k.calm k.nd' h1 h2 h3 fin_h h4 h5 h6 (folded_of h7)
      | false => exact me_lc k.calm k.nd' h1 h2 h3 fin_l h4 h5 h6 (folded_of h7)
    · cases h
  · split at h
    · rename_i hl
      exact cCall_ok gE k hl h
    · cases h
  · cases h
theorem stepT_ok (gE : GoodE rE) (gT : GoodT rT) : GoodT (stepT rE rT) := by
  intro c X E e m k h
  unfold stepT at h
  split at h
  · rw [Option.map_eq_some_iff] at h
    obtain ⟨x, e1, rfl⟩ := h
    exact (cCmp_ok gE k e1).2
  · exact PW.pt (cBoolT_ok gT k h)
  · rw [Option.map_eq_some_iff] at h
    obtain ⟨x, e1, rfl⟩ := h
    exact mt_not (gT c X E _ _ k e1)
  · split at h
    · rename_i hp
      rw [Option.map_eq_some_iff] at h
      obtain ⟨x, e1, rfl⟩ := h
      exact mt_truth (gE c X E false _ _ k e1) (test_of hp)
    · cases h
theorem comp_ok : ∀ n, GoodE (comp n).1 ∧ GoodT (comp n).2
  | 0 => ⟨fun c X E hp e m k h => (nomatch h), fun c X E e m k h => (nomatch h)⟩
  | n + 1 => ⟨stepE_ok (comp_ok n).1 (comp_ok n).2, stepT_ok (comp_ok n).1 (comp_ok n).2⟩
end
end Tb
end

section
set_option maxHeartbeats 8000000
namespace Tb
open PySem PySem.Spec L2
/-! ### statements -/
/-- a list that the def has made is handed back: nobody holds it any more -/
def mRetF (m : ME) : MS := fun s h => (m s h).toS fun d h1 => match d with
  | .ref n => match h1.get n with
    | some (.lst xs) => .ret (.lst xs) (h1.drop n)
    | none => .bad
  | d => .ret d h1
def mBad : MS := fun _ _ => .bad
section
variable {X : Cx} {E : XK} {e : Expr} {m : ME} {pos : Pos}
theorem ms_bad {st : Stmt} : PS X st (tMS X.K E mBad) := by
  refine ps_imp ps_never fun D σ H hq => ?_
  obtain ⟨w, s, e, k, r, q⟩ := hq
  exact q
theorem ms_retF (h : PE X e (tM X.K E m)) : PS X (.Return (some e) pos) (tMS X.K E (mRetF m)) := by
  refine ps_imp (ps_ret h) fun D σ H hq => ?_
  obtain ⟨w, s, e, k, r, q⟩ := hq
  subst e
  refine tM_at k r ((PostW.toS (Rel := RepD X.K) q).imp fun d w1 v x1 k1 p1 q1 => ?_)
  split at q1
  · split at q1
    · rename_i n _ xs hn
      have hg : ∀ a o, (w1.h.drop n).get a = some o → w1.h.get a = some o := fun a o z => by
        unfold MH.drop at z
        simp only at z
        split at z
        · cases z
        · exact z
      obtain ⟨vs, h1, h2⟩ := (k1.dom n _ hn).2
      have p0 : Rep X.K w1 (.ref n) v := p1
      simp only [Rep] at p0
      refine q1 (w1.less (w1.h.drop n).get) v rfl (Ext.less hg) (k1.less hg) ?_
      simp only [Rep]
      refine ⟨_, vs, p0.2, ⟨h1, fun z => ?_⟩, h2.ext (Ext.less hg)⟩
      rcases z with ⟨a, o, z1, z2⟩ | z
      · have z3 := hg a o z1
        have e : a = n := k1.inj a n _ _ z3 hn z2
        have z4 : (if a = n then none else w1.h.get a) = some o := z1
        rw [if_pos e] at z4; cases z4
      · exact k1.barO n _ hn z
    · exact q1.elim
  · exact q1 w1 v rfl (Ext.refl w1) k1 p1
end
theorem swaps_lc {env : Env} {elt : Expr} {gs : List Comprehension} {scope : Scope} {vp tp : Pos} {t : Str} {l : Nat} {kd : Option NameKind} (hb : env.blockKind = .function) (hk : env.kindOf t = kd) :
    swapsWith (.ListComp elt gs scope vp) (some (.Name t tp)) l env = pure ((kd == some .local) && (tp.line == vp.line) && !(scope.names.any fun (n, k) => n == t && (k == .local || k == .cell))) := by
  unfold swapsWith
  simp only [hb, hk, Expr.pos]
  rfl
theorem swapped_not {ts : List Expr} {k : Nat} {p : Pos} {e : Expr} {env : Env} (h : notTuple e = true) : swappedStores [.Tuple ts k p] e env = pure none := by
  cases e <;> first | rfl | cases h
theorem swapped_len {ts vs : List Expr} {k k2 : Nat} {p p2 : Pos} {env : Env} (h2 : ts.length ≠ 2) (h3 : ts.length ≠ 3) : swappedStores [.Tuple ts k p] (.Tuple vs k2 p2) env = pure none := by
  have e1 : (ts.length == 2) = false := beq_eq_false_iff_ne.mpr h2
  have e2 : (ts.length == 3) = false := beq_eq_false_iff_ne.mpr h3
  unfold swappedStores
  simp only [e1, e2, Bool.or_self, Bool.not_false, Bool.true_or, if_true]
theorem sole_tup {e : Expr} {l : Nat} {env : Env} {es : List Expr} {k : Nat} {p : Pos} : swapsWithSole [.Tuple es k p] e l env = pure false := by
  cases e <;> rfl
theorem sole_sub {e a b : Expr} {l : Nat} {env : Env} {p : Pos} : swapsWithSole [.Subscript a b p] e l env = pure false := by
  cases e <;> rfl
theorem swapped_sub {o i e : Expr} {p : Pos} {env : Env} : swappedStores [.Subscript o i p] e env = pure none := by
  cases e <;> rfl
/-- a, b (, c) = x, y (, z) : plain names and what they become -/
noncomputable def cPar (c : Cfg) (rE : RE) : List Expr → List Expr → Option MS
  | [.Name x px, .Name y py], [a, b] =>
    if plainName x = true ∧ plainName y = true ∧ kindB c x = some .local ∧ kindB c y = some .local ∧ py.line = px.line ∧ x ≠ y ∧ notStar a = true ∧ notStar b = true ∧ [a, b].all (foldedForSure 8) = false ∧ [a, b].all (constantsAlone 8) = false then
      match slotOf c.N x, slotOf c.N y, rE c (decide (x ∈ c.held)) a, rE c (decide (y ∈ c.held)) b with
      | some i, some j, some ma, some mb => if i ≠ j then some (mPar2 i j ma mb) else none
      | _, _, _, _ => none
    else none
  | [.Name x px, .Name y py, .Name z pz], [a, b, d] =>
    if kindB c x = some .local ∧ kindB c y = some .local ∧ kindB c z = some .local ∧ py.line = px.line ∧ pz.line = px.line ∧ x ≠ y ∧ x ≠ z ∧ y ≠ z ∧ notStar a = true ∧ notStar b = true ∧ notStar d = true ∧ [a, b, d].all (foldedForSure 8) = false ∧ [a, b, d].all (constantsAlone 8) = false then
      match slotOf c.N x, slotOf c.N y, slotOf c.N z, rE c (decide (x ∈ c.held)) a, rE c (decide (y ∈ c.held)) b, rE c (decide (z ∈ c.held)) d with
      | some i, some j, some l, some ma, some mb, some md => if i ≠ j ∧ i ≠ l ∧ j ≠ l then some (mPar3 i j l ma mb md) else none
      | _, _, _, _, _, _ => none
    else none
  | _, _ => none
noncomputable def cAsg (c : Cfg) (rE : RE) (rT : RT) : Expr → Expr → Option MS
  | .Name y tp, .ListComp elt [⟨tg, iter, ifs, as⟩] scope vp =>
    if as = 0 ∧ plainName y = true ∧ (kindB c y = some .local ∨ kindB c y = some .cell) then
      match slotOf c.N y, cComp c rE rT elt tg iter ifs scope with
      | some i, some p => some (mSet i (p.m (if decide (y ∈ c.held) = true then finH else finL)))
      | _, _ => none
    else none
  | .Name y tp, e => if notComp e = true ∧ plainName y = true ∧ (kindB c y = some .local ∨ kindB c y = some .cell) then
      match slotOf c.N y, rE c (decide (y ∈ c.held)) e with
      | some i, some m => some (mSet i m)
      | _, _ => none
    else none
  | .Tuple ts k tp, .Tuple vs k2 vp => if ts.length = 2 ∨ ts.length = 3 then cPar c rE ts vs else
      match cG c 9 (.Tuple ts k tp), rE c false (.Tuple vs k2 vp) with
      | some p, some m => some (mUnpack p.1 m)
      | _, _ => none
  | .Tuple ts k tp, e => if notTuple e = true then match cG c 9 (.Tuple ts k tp), rE c false e with
      | some p, some m => some (mUnpack p.1 m)
      | _, _ => none
    else none
  | .Subscript o i _, e => if notSlice i = true then match rE c false o, rE c false i, rE c false e with
      | some mo, some mi, some me => some (mSetSub setIx mo mi me)
      | _, _, _ => none
    else none
  | _, _ => none
noncomputable def cAug (c : Cfg) (rE : RE) (op : Operator) : Expr → Expr → Option MS
  | .Name x _, e => if plainName x = true ∧ (kindB c x = some .local ∨ kindB c x = some .cell) then
      match slotOf c.N x, augTab op, rE c false e with
      | some i, some f, some m => some (mAug i f m)
      | _, _, _ => none
    else none
  | .Subscript o i _, e => if notSlice i = true then match augTab op, rE c false o, rE c false i, rE c false e with
      | some f, some mo, some mi, some me => some (mAugSub getIxL f setIx mo mi me)
      | _, _, _, _ => none
    else none
  | _, _ => none
mutual
noncomputable def cS (c : Cfg) (rE : RE) (rT : RT) : Nat → Stmt → Option MS
  | 0, _ => none
  | _ + 1, .Return none _ => some mRetN
  | _ + 1, .Return (some e) _ => (rE c c.retH e).map (if c.retH = true then mRet else mRetF)
  | _ + 1, .Assign [t] e _ => cAsg c rE rT t e
  | _ + 1, .AugAssign t op e _ => cAug c rE op t e
  | n + 1, .If t a b _ => match rT c t, cSs c rE rT n a, cSs c rE rT n b with
    | some mt, some ma, some mb => some (mIfS mt ma mb)
    | _, _, _ => none
  | n + 1, .For tg iter body [] _ => if notSet iter = true then match cIter c rE tg iter, cG c 9 tg, cSs c rE rT n body with
      | some mi, some p, some mb => some (mFor mi p.1 mb)
      | _, _, _ => none
    else none
  | n + 1, .While t body [] _ => match rT c t, cSs c rE rT n body with
    | some mt, some mb => some (mWhile mt mb)
    | _, _ => none
  | _ + 1, .Expr e _ => if notComp e = true then (rE c false e).map mDo else none
  | _ + 1, .Raise _ _ _ => some mBad
  | _ + 1, .Pass _ => some mSkip
  | _ + 1, .Break _ => some mBreak
  | _ + 1, .Continue _ => some mCont
  | _ + 1, _ => none
noncomputable def cSs (c : Cfg) (rE : RE) (rT : RT) : Nat → List Stmt → Option MS
  | 0, _ => none
  | _ + 1, [] => some mSkip
  | n + 1, [st] => cS c rE rT n st
  | n + 1, st :: r => match cS c rE rT n st, cSs c rE rT n r with
    | some a, some b => some (mSeq a b)
    | _, _ => none
end
section
variable {rE : RE} {rT : RT} {c : Cfg} {X : Cx} {E : XK}
theorem not_star {a : Expr} (h : notStar a = true) : ∀ u p, a ≠ .Starred u p := fun u p e => by subst e; cases h
theorem CxOk.kind (k : CxOk c X E) {x : Str} {kd : Option NameKind} (h : kindB c x = kd) : X.env.scope.names.lookup x = kd := by rw [k.sc]; exact h
theorem cPar_ok (gE : GoodE rE) (k : CxOk c X E) (hb : c.blk = false) {ts vs : List Expr} {k1 k2 : Nat} {p1 p2 pos : Pos} {m : MS} (h : cPar c rE ts vs = some m) : PS X (.Assign [.Tuple ts k1 p1] (.Tuple vs k2 p2) pos) (tMS X.K E m) := by
  have hf := (k.fn hb).2.1
  unfold cPar at h
  split at h
  · split at h
    · rename_i hz
      obtain ⟨_, _, lx, ly, ll, ne, na, nb, hf1, hf2⟩ := hz
      split at h
      · rename_i i j ma mb e1 e2 e3 e4
        split at h
        · rename_i hij
          cases h
          exact ms_par2 k.calm k.nd' (k.slot e1) (k.slot e2) hij (k.kind lx) (k.kind ly) (gE c X E _ _ _ k e3) (gE c X E _ _ _ k e4) (star_cons na) (star_cons nb)
            (swapped2 hf (k.kind lx) (k.kind ly) ll ne (not_star na) (not_star nb) hf1 hf2)
        · cases h
      · cases h
    · cases h
  · split at h
    · rename_i hz
      obtain ⟨lx, ly, lz, ll, ll2, n1, n2, n3, na, nb, nd, hf1, hf2⟩ := hz
      split at h
      · rename_i i j l ma mb md e1 e2 e3 e4 e5 e6
        split at h
        · rename_i hij
          cases h
          exact ms_par3 k.calm k.nd' (k.slot e1) (k.slot e2) (k.slot e3) hij.1 hij.2.1 hij.2.2 (k.kind lx) (k.kind ly) (k.kind lz) (gE c X E _ _ _ k e4) (gE c X E _ _ _ k e5) (gE c X E _ _ _ k e6) (star_cons na) (star_cons nb) (star_cons nd)
            (swapped3 hf (k.kind lx) (k.kind ly) (k.kind lz) ll ll2 n1 n2 n3 (not_star na) (not_star nb) (not_star nd) hf1 hf2)
        · cases h
      · cases h
    · cases h
  · cases h
theorem CxOk.store (k : CxOk c X E) (hb : c.blk = false) {x : Str} (h : kindB c x = some .local ∨ kindB c x = some .cell) : L2.Loc X.env.scope x ∧ (X.fn x = true ∨ X.env.scope.names.lookup x = some .local) := k.loc (h.imp id fun z => ⟨.inl hb, z⟩)
theorem assign_sub {o i : Expr} {pos : Pos} (h : notSlice i = true) : ∀ v, assign (.Subscript o i pos) X.env v = (do
      let ov ← holding [v] (eval o X.env)
      let iv ← holding [v, ov] (eval i X.env)
      standAt pos
      holding [v, ov, iv] (setItem ov iv v)
      release [v, ov, iv] []) := by
  intro v
  cases i <;> first | rfl | cases h
theorem aug_sub {i : Expr} (h : notSlice i = true) : ∀ ov iv new, augStore i ov iv new = (do holding [new, ov, iv] (setItem ov iv new); release [new, ov, iv] []; pure .next) := by
  intro ov iv new
  cases i <;> first | rfl | cases h
theorem cAsg_ok (gE : GoodE rE) (gT : GoodT rT) (k : CxOk c X E) (hb : c.blk = false) {t e : Expr} {pos : Pos} {m : MS} (h : cAsg c rE rT t e = some m) : PS X (.Assign [t] e pos) (tMS X.K E m) := by
  have hf := (k.fn hb).2.1
  unfold cAsg at h
  split at h
  · split at h
    · rename_i hz
      obtain ⟨rfl, hp, hk⟩ := hz
      split at h
      · rename_i i p e1 e2
        cases h
        obtain ⟨h1, h2, h3, h4, h5, h6, h7⟩ := cComp_ok gE gT k e2
        obtain ⟨s1, s2⟩ := k.store hb hk
        rename_i y tp elt tg iter ifs scope vp _ _
        have fk : FinOk X.K (if decide (y ∈ c.held) = true then finH else finL) := by
          split
          · exact fin_h
          · exact fin_l
        have hs := swaps_lc (env := X.env) (elt := elt) (gs := [⟨tg, iter, ifs, 0⟩]) (scope := scope) (vp := vp) (tp := tp) (t := y) (l := pos.line) (kd := kindB c y) hf (k.kind rfl)
        cases hc : (kindB c y == some .local) && (tp.line == vp.line) && !(scope.names.any fun (n, k) => n == y && (k == .local || k == .cell)) with
        | true =>
          rw [hc] at hs
          simp only [Bool.and_eq_true, beq_iff_eq] at hc
          exact ps_imp (ms_setLc k.calm k.nd' (k.slot e1) (k.kind hc.1.1) hs h1 h2 h3 fk h4 h5 h6 (folded_of h7)) fun _ _ _ z => tAsg_of z
        | false =>
          rw [hc] at hs
          exact ms_set k.nd' (k.slot e1) s1 (me_lc k.calm k.nd' h1 h2 h3 fk h4 h5 h6 (folded_of h7)) hs s2
      · cases h
    · cases h
  · split at h
    · rename_i hz
      obtain ⟨hn, hp, hk⟩ := hz
      split at h
      · rename_i i m e1 e2
        cases h
        obtain ⟨s1, s2⟩ := k.store hb hk
        exact ms_set k.nd' (k.slot e1) s1 (gE c X E _ _ _ k e2) (swaps_some hn) s2
      · cases h
    · cases h
  · split at h
    · exact cPar_ok gE k hb h
    · rename_i hz
      split at h
      · rename_i p m e1 e2
        cases h
        obtain ⟨g1, g2⟩ := cG_ok k 9 (m := p.1) (vs := p.2) (by simpa using e1)
        exact ms_unpack (gE c X E _ _ _ k e2) g1 (g2 p.2 fun _ z => z) sole_tup (swapped_len (fun z => hz (.inl z)) fun z => hz (.inr z)) rfl
      · cases h
  · split at h
    · rename_i hz
      split at h
      · rename_i p m e1 e2
        cases h
        obtain ⟨g1, g2⟩ := cG_ok k 9 (m := p.1) (vs := p.2) (by simpa using e1)
        exact ms_unpack (gE c X E _ _ _ k e2) g1 (g2 p.2 fun _ z => z) sole_tup (swapped_not hz) rfl
      · cases h
    · cases h
  · split at h
    · rename_i hz
      split at h
      · rename_i mo mi me e1 e2 e3
        cases h
        exact ms_setSub sr_set (gE c X E _ _ _ k e3) (gE c X E _ _ _ k e1) (gE c X E _ _ _ k e2) (assign_sub hz) sole_sub swapped_sub rfl
      · cases h
    · cases h
  · cases h
theorem cAug_ok (gE : GoodE rE) (k : CxOk c X E) (hb : c.blk = false) {t e : Expr} {op : Operator} {pos : Pos} {m : MS} (h : cAug c rE op t e = some m) : PS X (.AugAssign t op e pos) (tMS X.K E m) := by
  unfold cAug at h
  split at h
  · split at h
    · rename_i hz
      split at h
      · rename_i i f m e1 e2 e3
        cases h
        obtain ⟨s1, s2⟩ := k.store hb hz.2
        exact ms_aug k.nd' (k.slot e1) s1 (gE c X E _ _ _ k e3) (augTab_ok e2) s2
      · cases h
    · cases h
  · split at h
    · rename_i hz
      split at h
      · rename_i f mo mi me e1 e2 e3 e4
        cases h
        exact ms_augSub gr_ix (augTab_ok e1) sr_set (gE c X E _ _ _ k e2) (gE c X E _ _ _ k e3) (gE c X E _ _ _ k e4) (aug_sub hz)
      · cases h
    · cases h
  · cases h
mutual
theorem cS_ok (gE : GoodE rE) (gT : GoodT rT) (k : CxOk c X E) (hb : c.blk = false) : ∀ (n : Nat) {st : Stmt} {m : MS}, cS c rE rT n st = some m → PS X st (tMS X.K E m)
  | 0, st, m, h => by simp [cS] at h
  | n + 1, st, m, h => by
    unfold cS at h
    split at h
    · cases ‹_ + 1 = 0›
    · cases h; exact ms_retN
    · rw [Option.map_eq_some_iff] at h
      obtain ⟨x, e1, rfl⟩ := h
      split
      · exact ms_ret (gE c X E _ _ _ k e1)
      · exact ms_retF (gE c X E _ _ _ k e1)
    · exact cAsg_ok gE gT k hb h
    · exact cAug_ok gE k hb h
    · split at h
      · rename_i mt ma mb e1 e2 e3
        cases h
        cases ‹n + 1 = _ + 1›
        exact ms_if (gT c X E _ _ k e1) (cSs_ok gE gT k hb n e2) (cSs_ok gE gT k hb n e3)
      · cases h
    · split at h
      · rename_i hz
        split at h
        · rename_i mi p mb e1 e2 e3
          cases h
          cases ‹n + 1 = _ + 1›
          obtain ⟨g1, g2⟩ := cG_ok k 9 (m := p.1) (vs := p.2) (by simpa using e2)
          exact ms_for (k.fn hb).2.2 k.calm (cIter_ok gE k e1) g1 (g2 p.2 fun _ z => z) (cSs_ok gE gT k hb n e3) (folded_of hz)
        · cases h
      · cases h
    · split at h
      · rename_i mt mb e1 e2
        cases h
        cases ‹n + 1 = _ + 1›
        exact ms_while (k.fn hb).2.2 (gT c X E _ _ k e1) (cSs_ok gE gT k hb n e2)
      · cases h
    · split at h
      · rename_i hz
        rw [Option.map_eq_some_iff] at h
        obtain ⟨x, e1, rfl⟩ := h
        exact ms_do (gE c X E _ _ _ k e1) (swaps_none hz)
      · cases h
    · cases h; exact ms_bad
    · cases h; exact ms_pass
    · cases h; exact ms_break
    · cases h; exact ms_cont
    · cases h
theorem cSs_ok (gE : GoodE rE) (gT : GoodT rT) (k : CxOk c X E) (hb : c.blk = false) : ∀ (n : Nat) {sts : List Stmt} {m : MS}, cSs c rE rT n sts = some m → PSs X sts (tMS X.K E m)
  | 0, sts, m, h => by simp [cSs] at h
  | n + 1, [], m, h => by
    simp only [cSs, Option.some.injEq] at h
    subst h
    exact mss_nil
  | n + 1, [st], m, h => by
    simp only [cSs] at h
    exact mss_one (cS_ok gE gT k hb n h)
  | n + 1, st :: st2 :: r, m, h => by
    simp only [cSs] at h
    split at h
    · rename_i a b e1 e2
      cases h
      exact mss_cons (cS_ok gE gT k hb n e1) (cSs_ok gE gT k hb n e2)
    · cases h
end
end
/-- a def's body, compiled -/
noncomputable def cBody (c : Cfg) (body : List Stmt) : Option MS := cSs c (comp 30).1 (comp 30).2 60 body
theorem cBody_ok {c : Cfg} {X : Cx} {E : XK} {body : List Stmt} {m : MS} (k : CxOk c X E) (hb : c.blk = false) (h : cBody c body = some m) : PSs X body (tMS X.K E m) := cSs_ok (comp_ok 30).1 (comp_ok 30).2 k hb 60 h
end Tb
end

section
set_option maxHeartbeats 4000000
namespace Tb
open PySem PySem.Spec PyProof.Rows L2
/-! ## the end: a law by its def's mirror -/
def MH.zero : MH := ⟨fun _ => none, 0⟩
/-- what the law's mirror must tell -/
def Tells (F : Fn) : Prop := ∀ ns : List Int, ns.length ≤ 63 → ∃ h, F [.scr ns] MH.zero = .ok (.bl true) h
theorem vals_of_ints : ∀ {us : List Value} {ns : List Int}, IntsAre us ns → Vals (ns.map V.int) us
  | _, _, .nil => Paired.nil
  | _, _, .cons n t r => Paired.cons ⟨t, rfl⟩ (vals_of_ints r)
theorem spM_law {K : PySem.W.Frag} {F : Fn} {H : Hp} {a : Addr} {ns : List Int} {E : XK} (hF : Tells F) (hl : ns.length ≤ 63) (hS : SqL K H a (ns.map V.int)) : spM K F 1 [.ref a] H (fun v _ => v = .bl true) E := by
  obtain ⟨h1, e1⟩ := hF ns hl
  have no : ∀ b, ¬ Own (⟨fun _ => 0, MH.zero, H, fun _ => False⟩ : W3) b := fun b z => by
    rcases z with ⟨n, o, q, _⟩ | z
    · cases q
    · exact z
  refine ⟨rfl, ⟨fun _ => 0, MH.zero, H, fun _ => False⟩, [.scr ns], rfl, ⟨fun n o q => (by cases q), fun n m o u q => (by cases q), fun b q => q.elim, fun n o q => (by cases q)⟩, Reps.cons ?_ Reps.nil, ?_⟩
  · simp only [Rep]
    exact ⟨a, rfl, hS.imp (fun q => ⟨q, no a⟩) id⟩
  · show PostW K E (RepD K) _ (F [.scr ns] MH.zero) _
    rw [e1]
    intro w' v _ _ _ r
    exact rep_bl.mp r
section
variable {P : Program} {w : World} {K : PySem.W.Frag} {mg mb : Str → Option Value} {k : Nat} {fa a : Addr} {fd : FuncData} {x : Str} {F : Fn} {s₁ : Shared} {us : List Value} {ns : List Int}
/-- with a heap that tracks the script alone, or nothing -/
theorem end_core {H : Hp} (KX : K.In s₁.heap) (n1 : s₁.heap.Ns mainGlobals mg) (n2 : s₁.heap.Ns builtinsNs mb) (n3 : ∀ y : Str, y ≠ "__name__" → mb y = bootBuiltins y) (n4 : s₁.heap.NoLimit) (hg : s₁.gens = #[])
    (ha : s₁.heap.get? a = some { cls := .type "list", data := .seq us.toArray }) (hl : ns.length ≤ 63) (hr : Room k callerA) (hF : Tells F)
    (G : ∀ base : Heap, K.In base → base.Ns mainGlobals mg → FnG P w K mg base k fa fd [x] (spM K F 1)) (hb : ∀ (s : Shared) (u : Value), BindsTo s fd ⟨[u], []⟩ [(x, u)])
    (fz : ∀ b u, H b = some u → ∃ o xs, u = HO.frz o (.lst xs)) (hS : SqL K H a (ns.map V.int)) (hok : HOk P w H s₁.heap) (hA : ∀ b, H b ≠ none → b = a) (hK : H a ≠ none → K.lookup a = none) :
    codeAny (model P w) callerA (.call (.ref fa) ⟨[.ref a], []⟩) (fun r s' => r = .ok (.ret (.bool true)) ∧ OldK s₁.heap s'.heap ∧ s'.os = s₁.os ∧ AllBare s'.gens) s₁ := by
  have tracked : ∀ {b : Addr}, H b ≠ none → s₁.heap.get? b = some { cls := .type "list", data := .seq us.toArray } := fun {b} q => by rw [hA b q]; exact ha
  have seen : ∀ {b : Addr} {o : Obj}, s₁.heap.get? b = some o → H b = none → (hidT s₁.heap H).get? b = some o := fun e q => hidT_get e q
  have dictFree : ∀ {b : Addr} {o : Obj} {es : Array DictEntry} {ep : Nat}, s₁.heap.get? b = some o → o.data = .dict es ep → H b = none := fun {b o es ep} e d => by
    by_cases q : H b = none
    · exact q
    · have z := tracked q
      rw [e] at z
      cases z
      cases (show Data.seq us.toArray _ = Data.dict es ep from d)
  have nsOf : ∀ {b : Addr} {m : Str → Option Value}, s₁.heap.Ns b m → (hidT s₁.heap H).Ns b m := fun ⟨o, es, ep, e, d, r⟩ => ⟨o, es, ep, seen e (dictFree e d), d, r⟩
  have kin : K.In (hidT s₁.heap H) := fun b o e => seen (KX b o e) (by
    by_cases q : H b = none
    · exact q
    · have z := hA b q
      subst z
      rw [hK q] at e
      cases e)
  have md : Mod K mg (hidT s₁.heap H) := ⟨kin, nsOf n1, ⟨mb, nsOf n2, n3⟩, let ⟨mc, c1, c2⟩ := n4; ⟨mc, nsOf c1, c2⟩⟩
  have e0 : Env0 P w K mg (hidT s₁.heap H) callerA [] s₁ H := ⟨rfl, md, fun b o e => of_hidT e, Nat.le_of_eq (hidT_size _ _), trivial, fun b q => absurd (show b ∈ ([] : List Addr) from q) (by simp), hok, .of_eq hg⟩
  have go := (G _ kin (nsOf n1)).run callerA [] s₁ H ⟨[.ref a], []⟩ [.ref a] [.ref a] _ (fun _ _ _ => False) rfl hr e0 (hb s₁ (.ref a)) (Paired.cons rfl Paired.nil) (spM_law hF hl hS)
  refine codeAny_mono go fun r s' q => ?_
  match r, q with
  | .error e, q =>
    obtain ⟨_, _, _, _, _, _, _, _, _, _, _, _, z⟩ := q
    exact z.elim
  | .ok .next, q => exact False.elim q
  | .ok .brk, q => exact False.elim q
  | .ok .cont, q => exact False.elim q
  | .ok (.ret u), q =>
    obtain ⟨v, H', os, bare, un, hok', rv, e⟩ := q
    have e' : v = .bl true := e
    subst e'
    have eu : u = Value.bool true := rv
    subst eu
    refine ⟨rfl, OldK.of_keep fun b o e => ?_, os, bare⟩
    cases hz : H b with
    | none => exact un.keep b o e hz (fun z => absurd (show b ∈ ([] : List Addr) from z) (by simp)) (by simp)
    | some ob =>
      obtain ⟨oo, xs, rfl⟩ := fz b ob hz
      have z2 := un.frzs b oo _ hz
      obtain ⟨f1, _⟩ := hok b _ hz
      obtain ⟨f2, _⟩ := hok' b _ z2
      rw [e] at f1
      cases f1
      exact f2
theorem end_call (KX : K.In s₁.heap) (n1 : s₁.heap.Ns mainGlobals mg) (n2 : s₁.heap.Ns builtinsNs mb) (n3 : ∀ y : Str, y ≠ "__name__" → mb y = bootBuiltins y) (n4 : s₁.heap.NoLimit) (hg : s₁.gens = #[])
    (ha : s₁.heap.get? a = some { cls := .type "list", data := .seq us.toArray }) (hi : IntsAre us ns) (hl : ns.length ≤ 63) (hr : Room k callerA) (hF : Tells F)
    (G : ∀ base : Heap, K.In base → base.Ns mainGlobals mg → FnG P w K mg base k fa fd [x] (spM K F 1)) (hb : ∀ (s : Shared) (u : Value), BindsTo s fd ⟨[u], []⟩ [(x, u)]) :
    codeAny (model P w) callerA (.call (.ref fa) ⟨[.ref a], []⟩) (fun r s' => r = .ok (.ret (.bool true)) ∧ OldK s₁.heap s'.heap ∧ s'.os = s₁.os ∧ AllBare s'.gens) s₁ := by
  have rv := vals_of_ints hi
  have len := hi.length
  have hz : ns.length ≤ sizeLine := Nat.le_trans hl (by decide)
  cases hk : K.lookup a with
  | some o =>
    have e := KX a o hk
    rw [ha] at e
    cases e
    exact end_core (H := fun _ => none) KX n1 n2 n3 n4 hg ha hl hr hF G hb (fun b u z => by cases z) (.inr ⟨_, us.toArray, _, hk, rfl, rfl, rfl, by rw [List.size_toArray, len]; exact hz, by simpa using rv⟩) (fun b u z => by cases (show (none : Option HO) = some u from z)) (fun b z => absurd rfl z) fun z => absurd rfl z
  | none =>
    have at_ : ∀ {b : Addr} {u : HO}, (if b = a then some (HO.frz { cls := .type "list", data := .seq us.toArray } (.lst (ns.map V.int))) else none) = some u → b = a ∧ u = HO.frz { cls := .type "list", data := .seq us.toArray } (.lst (ns.map V.int)) := fun {b u} z => by
      split at z
      · cases z
        exact ⟨by assumption, rfl⟩
      · cases z
    refine end_core (H := fun b => if b = a then some (.frz { cls := .type "list", data := .seq us.toArray } (.lst (ns.map V.int))) else none) KX n1 n2 n3 n4 hg ha hl hr hF G hb (fun b u z => ⟨_, _, (at_ z).2⟩) (.inl (.inr ⟨{ cls := .type "list", data := .seq us.toArray }, if_pos rfl⟩)) (fun b u z => ?_) (fun b z => ?_) fun _ => hk
    · obtain ⟨rfl, rfl⟩ := at_ z
      exact ⟨ha, by rw [List.length_map]; exact hz, us, _, rv, ha⟩
    · by_cases q : b = a
      · exact q
      · exact absurd (if_neg q) z
end
/-- a law's promise, by the written part, the def, its mirror -/
theorem law_of {l : PySem.W.OpenLaw} {k : Nat} {q : Program} {loose : List Str} {XP : (Str → Option Value) → Heap → Prop} {YP : World → Heap → Prop} {d : DefRec} {x : Str} {F : Fn}
    (hn : l.most = some 63) (hdf : d.params.defaults = []) (hr : Room k callerA) (hF : Tells F)
    (G : ∀ (w : World) (mg : Str → Option Value) (fa : Addr) (h : Heap), YP w h → h.Ns mainGlobals mg → mg d.name = some (.ref fa) →
      ∃ (K : PySem.W.Frag) (fd : FuncData), K.In h ∧ (∀ (s : Shared) (u : Value), BindsTo s fd ⟨[u], []⟩ [(x, u)]) ∧ ∀ base : Heap, K.In base → base.Ns mainGlobals mg → FnG l.prog w K mg base k fa fd [x] (spM K F 1)) :
    PySem.W.WalkO q loose XP YP l.row.toRowW d [] (fun f vs => PySem.call f vs) := by
  refine Att.attach_call hn hdf fun w s₀ s₁ mg mb fa o pm cd doc a us ns Gd Y _ _ _ hm hobj hints hlen hg => ?_
  obtain ⟨K, fd, KX, hb, hG⟩ := G w mg fa _ Y Gd.T.g hm
  exact end_call KX Gd.T.g Gd.T.b Gd.T.builtins Gd.T.nolimit hg hobj hints hlen hr hF hG hb
end Tb
end

section
set_option maxHeartbeats 4000000
namespace Tb
open PySem PySem.Spec PyProof.Rows L2
/-! ## defs from their texts -/
noncomputable def mLc (mi : MI) (vs : List Nat) (mg : MG) (mt : MT) (me : ME) (f : Fn1) : ME := fun s h => (mComp mi vs mg mt me s h).bind f
def mAsB (m : ME) : MT := fun s h => asB (m s h)
def gKw (xs ys : List D) : List D := xs ++ ys
/-- a call shape, said without a context -/
def ShG (P : Program) (w : World) (K : PySem.W.Frag) (mg : Str → Option Value) (base : Heap) (k : Nat) (sh : Sh) : Prop := ∃ (f : Addr) (fd : FuncData) (ps : List Str), ps.length = sh.np ∧ mg sh.name = some (.ref f) ∧ PySem.W.keepIn K (.ref f) = true ∧ FnG P w K mg base k f fd ps (spM K sh.F ps.length) ∧
  (sh.ks = [] → ∃ dvs ds, Vals dvs ds ∧ Binds K fd ps ds ∧ ∀ w, Reps K w sh.dv dvs) ∧
  (sh.ks ≠ [] → ∃ g gV, KBn K fd ps sh.n sh.ks g gV ∧ ∀ (w : W3) (ds es : List D) (vs zs : List V), Reps K w ds vs → Reps K w es zs → Reps K w (sh.gD ds es) (gV vs zs))
/-- a constant of the module -/
def ConG (K : PySem.W.Frag) (mg : Str → Option Value) (p : Str × D) : Prop := ∃ u v, mg p.1 = some u ∧ RelV v u ∧ ∀ w, Rep K w p.2 v
def allP {α : Type} (p : α → Prop) : List α → Prop
  | [] => True
  | x :: xs => p x ∧ allP p xs
theorem allP_mem {α : Type} {p : α → Prop} : ∀ {l : List α}, allP p l → ∀ x ∈ l, p x
  | _ :: _, h, _, .head _ => h.1
  | _ :: _, h, _, .tail _ q => allP_mem h.2 _ q
section
variable {P : Program} {w : World} {K : PySem.W.Frag} {mg : Str → Option Value} {base : Heap} {x qual : Str} {params : Arguments} {body : List Stmt} {scope : Scope} {dvs : List V} {kws : List (Str × V)} {f : Addr} {fd : FuncData} {ps : List Str} {k j : Nat}
theorem ShG.mono {sh : Sh} (h : ShG P w K mg base j sh) (hj : j ≤ k) : ShG P w K mg base k sh := by
  obtain ⟨f, fd, ps, h1, h2, h3, h4, h5⟩ := h
  exact ⟨f, fd, ps, h1, h2, h3, h4.mono hj, h5⟩
theorem fng_of {c : Cfg} {m : MS} (F : FunD K x qual params body scope dvs kws f fd) (S : FnScope c.N ps scope) (hs : c.sc = scope) (hb : c.blk = false) (hm : cBody c body = some m) (hG : allP (ShG P w K mg base k) c.G) (hC : allP (ConG K mg) c.C) (hB : allP (fun y => mg y = none) c.B) (hcel : c.cel = [] := by rfl) :
    FnG P w K mg base (k + 1) f fd ps (spM K (fnM c.N.length m) ps.length) := by
  refine fng F S fun X e1 e2 e3 e4 e5 e6 e7 h1 h2 h3 h4 h5 E h6 h7 => ?_
  subst e1 e2 e3 e4 e5
  exact cBody_ok (c := c) ⟨e6, S.nd, e7.trans hs.symm, h1, h3, ⟨k, h4, allP_mem hG⟩, allP_mem hC, allP_mem hB, fun _ => ⟨h2, h5, h7⟩, h6, by rw [hcel]; exact fun y hy => (nomatch hy)⟩ hb hm
theorem sh_pos {F : Fn} {name : Str} {n : Nat} {gD : List D → List D → List D} (G : FnG P w K mg base k f fd ps (spM K F ps.length)) (hm : mg name = some (.ref f)) (hk : PySem.W.keepIn K (.ref f) = true) (hb : Binds K fd ps []) : ShG P w K mg base k ⟨name, n, [], ps.length, F, [], gD⟩ :=
  ⟨f, fd, ps, rfl, hm, hk, G, fun _ => ⟨[], [], .nil, hb, fun _ => Reps.nil⟩, fun z => absurd rfl z⟩
theorem sh_dfl {F : Fn} {name : Str} {n : Nat} {dv : List D} {dvs : List V} {gD : List D → List D → List D} (G : FnG P w K mg base k f fd ps (spM K F ps.length)) (hm : mg name = some (.ref f)) (hk : PySem.W.keepIn K (.ref f) = true) (hb : ∃ ds, Vals dvs ds ∧ Binds K fd ps ds) (hr : ∀ w, Reps K w dv dvs) :
    ShG P w K mg base k ⟨name, n, [], ps.length, F, dv, gD⟩ :=
  let ⟨ds, h1, h2⟩ := hb
  ⟨f, fd, ps, rfl, hm, hk, G, fun _ => ⟨dvs, ds, h1, h2, hr⟩, fun z => absurd rfl z⟩
theorem sh_kw {F : Fn} {name : Str} {n : Nat} {ks : List Str} {dv : List D} {gD : List D → List D → List D} {g : List Value → List Value → List Value} {gV : List V → List V → List V} (G : FnG P w K mg base k f fd ps (spM K F ps.length)) (hm : mg name = some (.ref f)) (hk : PySem.W.keepIn K (.ref f) = true)
    (hn : ks ≠ []) (hb : KBn K fd ps n ks g gV) (hr : ∀ (w : W3) (ds es : List D) (vs zs : List V), Reps K w ds vs → Reps K w es zs → Reps K w (gD ds es) (gV vs zs)) : ShG P w K mg base k ⟨name, n, ks, ps.length, F, dv, gD⟩ :=
  ⟨f, fd, ps, rfl, hm, hk, G, fun z => absurd z hn, fun _ => ⟨g, gV, hb, hr⟩⟩
theorem con_int {h : Heap} {i : Int} (X : K.In h) (G : h.Ns mainGlobals mg) (c : (He.Fa.int x i).ok K = true) : ConG K mg (x, .int i) := by
  obtain ⟨t, e⟩ := He.int_ok X G c
  exact ⟨_, .int i, e, ⟨t, rfl⟩, fun w => rep_int.mpr rfl⟩
theorem con_str {h : Heap} {z : Str} (X : K.In h) (G : h.Ns mainGlobals mg) (c : (He.Fa.str x z).ok K = true) : ConG K mg (x, .str z) := by
  obtain ⟨t, e⟩ := He.str_ok X G c
  exact ⟨_, .str z, e, ⟨t, rfl⟩, fun w => rep_str.mpr rfl⟩
end
end Tb
end

section
set_option maxHeartbeats 4000000
namespace Tb
open PySem PySem.Spec PyProof.Rows L2
/-! ## what a mirror tells: a calculus -/
/-- what stands here is looked at later -/
structure Bx {α : Sort _} (x : α) : Type where
structure Bx4 {α β γ δ : Sort _} (x : α) (y : β) (z : γ) (w : δ) : Type where
def R.en {α : Type} (r : R α) (Q : α → MH → Prop) (_ : Bx Q := ⟨⟩) : Prop := match r with
  | .ok a h => Q a h
  | _ => False
def RS.en (r : RS) (N B C : Sl → MH → Prop) (T : D → MH → Prop) (_ : Bx4 N B C T := ⟨⟩) : Prop := match r with
  | .nx s h => N s h
  | .brk s h => B s h
  | .ct s h => C s h
  | .ret d h => T d h
  | _ => False
/-- the statements behind -/
def Nx (m : MS) (N B C : Sl → MH → Prop) (T : D → MH → Prop) (s : Sl) (h : MH) (_ : Bx4 N B C T := ⟨⟩) : Prop := (m s h).en N B C T
section
variable {α β : Type} {r : R α} {q : RS} {Q Q' : α → MH → Prop} {N B C N' B' C' : Sl → MH → Prop} {T T' : D → MH → Prop} {s : Sl} {h : MH} {d : D}
theorem nx {m : MS} : Nx m N B C T s h = (m s h).en N B C T := rfl
theorem en_ext (e : ∀ a h, Q a h = Q' a h) : r.en Q = r.en Q' := by
  cases r with
  | ok a h => exact e a h
  | _ => rfl
theorem enS_ext (e : ∀ a h, N a h = N' a h) : q.en N B C T = q.en N' B C T := by
  cases q with
  | nx a h => exact e a h
  | _ => rfl
@[simp ↓] theorem en_ok {a : α} : (R.ok a h).en Q = Q a h := id rfl
@[simp ↓] theorem en_bind {f : α → MH → R β} {Q : β → MH → Prop} : (r.bind f).en Q = r.en fun a h => (f a h).en Q := by cases r <;> rfl
@[simp ↓] theorem en_toS {f : α → MH → RS} : (r.toS f).en N B C T = r.en fun a h => (f a h).en N B C T := by cases r <;> rfl
@[simp ↓] theorem en_seqR {f : Sl → MH → RS} : (q.seq f).en N B C T = q.en (fun s h => Nx f N B C T s h) B C T := by cases q <;> rfl
@[simp ↓] theorem en_nx : (RS.nx s h).en N B C T = N s h := id rfl
@[simp ↓] theorem en_ct : (RS.ct s h).en N B C T = C s h := id rfl
@[simp ↓] theorem en_brk : (RS.brk s h).en N B C T = B s h := id rfl
@[simp ↓] theorem en_ret : (RS.ret d h).en N B C T = T d h := id rfl
@[simp ↓] theorem en_bad : (R.bad : R α).en Q = False := id rfl
@[simp ↓] theorem enS_bad : (RS.bad).en N B C T = False := id rfl
theorem R.en_mono {Q' : α → MH → Prop} (h : r.en Q) (i : ∀ a h, Q a h → Q' a h) : r.en Q' := by
  cases r with
  | ok a h1 => exact i a h1 h
  | _ => exact h
theorem RS.en_mono (h : q.en N B C T) (i1 : ∀ s h, N s h → N' s h) (i2 : ∀ s h, B s h → B' s h) (i3 : ∀ s h, C s h → C' s h) (i4 : ∀ s h, T s h → T' s h) : q.en N' B' C' T' := by
  cases q with
  | nx s1 h1 => exact i1 _ _ h
  | brk s1 h1 => exact i2 _ _ h
  | ct s1 h1 => exact i3 _ _ h
  | ret s1 h1 => exact i4 _ _ h
  | _ => exact h
theorem R.en_ex (h : r.en Q) : ∃ a h1, r = .ok a h1 ∧ Q a h1 := by
  cases r with
  | ok a h1 => exact ⟨a, h1, rfl, h⟩
  | _ => exact h.elim
@[simp ↓] theorem en_ite {c : Prop} [Decidable c] {a b : R α} : (if c then a else b).en Q = if c then a.en Q else b.en Q := by split <;> rfl
@[simp ↓] theorem enS_ite {c : Prop} [Decidable c] {a b : RS} : (if c then a else b).en N B C T = if c then a.en N B C T else b.en N B C T := by split <;> rfl
/-! ### the words -/
end
section
variable {Q : D → MH → Prop} {QB : Bool → MH → Prop} {QA : List D → MH → Prop} {QO : Option Int → MH → Prop} {QI : List D × Gd → MH → Prop} {N B C : Sl → MH → Prop} {T : D → MH → Prop} {s : Sl} {h : MH} {d : D}
variable {i j l n : Nat} {a b c : ME} {ma mb : MA} {ta tb : MT} {sa sb : MS} {f g : F2} {mi : MI} {tg : MG}
@[simp ↓] theorem ev_var : (mVar i s h).en Q = match s[i]? with | some (some d) => Q d h | _ => False := by
  unfold mVar
  split <;> simp_all
@[simp ↓] theorem ev_c : (mC d s h).en Q = Q d h := id rfl
@[simp ↓] theorem ev_op : (mOp f a b s h).en Q = (a s h).en fun x h1 => (b s h1).en fun y h2 => (f x y h2).en Q := en_bind.trans (en_ext fun _ _ => en_bind)
@[simp ↓] theorem ev_neg : (mNeg a s h).en Q = (a s h).en fun x h1 => (opNeg x h1).en Q := en_bind
@[simp ↓] theorem ev_nil : (mNil s h).en QA = QA [] h := id rfl
@[simp ↓] theorem ev_cons : (mCons a ma s h).en QA = (a s h).en fun x h1 => (ma s h1).en fun xs h2 => QA (x :: xs) h2 := en_bind.trans (en_ext fun _ _ => en_bind)
@[simp ↓] theorem ev_tup : (mTup ma s h).en Q = (ma s h).en fun xs h1 => if xs.length ≤ sizeLine then Q (.tup xs) h1 else False := en_bind.trans (en_ext fun _ _ => en_ite)
@[simp ↓] theorem ev_lst : (mLst ma s h).en Q = (ma s h).en fun xs h1 => if xs.length ≤ sizeLine then Q (.lst xs) h1 else False := en_bind.trans (en_ext fun _ _ => en_ite)
@[simp ↓] theorem ev_lstH : (mLstH ma s h).en Q = (ma s h).en fun xs h1 => if xs.length ≤ sizeLine then Q (.ref h1.next) (h1.new (.lst xs)) else False := en_bind.trans (en_ext fun _ _ => en_ite)
@[simp ↓] theorem ev_if : (mIf ta a b s h).en Q = (ta s h).en fun k h1 => if k = true then (a s h1).en Q else (b s h1).en Q := en_bind.trans (en_ext fun _ _ => en_ite)
@[simp ↓] theorem en_asB {r : R D} : (asB r).en QB = r.en fun d h => match d with | .bl b => QB b h | _ => False := en_bind.trans (en_ext fun d h => by cases d <;> rfl)
@[simp ↓] theorem ev_mAsB : (mAsB a s h).en QB = (a s h).en fun d h => match d with | .bl b => QB b h | _ => False := en_asB
@[simp ↓] theorem ev_chain : (mChain f g a b c s h).en Q = (a s h).en fun x h1 => (b s h1).en fun y h2 => (f x y h2).en fun d h3 => match d with | .bl true => (c s h3).en fun z h4 => (g y z h4).en Q | .bl false => Q (.bl false) h3 | _ => False :=
  en_bind.trans (en_ext fun _ _ => en_bind.trans (en_ext fun _ _ => en_bind.trans (en_asB.trans (en_ext fun d h3 => by
    cases d with
    | bl k =>
      cases k with
      | true => exact en_ite.trans ((if_pos rfl).trans en_bind)
      | false => exact en_ite.trans (if_neg Bool.false_ne_true)
    | _ => rfl))))
@[simp ↓] theorem ev_truth : (mTruth a s h).en QB = (a s h).en fun d h1 => (truth d h1).en QB := en_bind
@[simp ↓] theorem ev_and : (mAnd ta tb s h).en QB = (ta s h).en fun k h1 => if k = true then (tb s h1).en QB else QB false h1 := en_bind.trans (en_ext fun _ _ => en_ite)
@[simp ↓] theorem ev_or : (mOr ta tb s h).en QB = (ta s h).en fun k h1 => if k = true then QB true h1 else (tb s h1).en QB := en_bind.trans (en_ext fun _ _ => en_ite)
@[simp ↓] theorem ev_not : (mNot ta s h).en QB = (ta s h).en fun k h1 => QB (!k) h1 := en_bind
@[simp ↓] theorem ev_andV : (mAndV a b s h).en Q = (a s h).en fun d h => match d with | .bl true => (b s h).en Q | .bl false => Q (.bl false) h | _ => False :=
  en_bind.trans (en_asB.trans (en_ext fun d h => by cases d with
    | bl k => cases k <;> rfl
    | _ => rfl))
@[simp ↓] theorem ev_orV : (mOrV a b s h).en Q = (a s h).en fun d h => match d with | .bl true => Q (.bl true) h | .bl false => (b s h).en Q | _ => False :=
  en_bind.trans (en_asB.trans (en_ext fun d h => by cases d with
    | bl k => cases k <;> rfl
    | _ => rfl))
@[simp ↓] theorem ev_notV : (mNotV a s h).en Q = (a s h).en fun d h => match d with | .bl b => Q (.bl !b) h | _ => False := en_bind.trans en_asB
@[simp ↓] theorem ev_noPart : (mNoPart s h).en QO = QO none h := id rfl
@[simp ↓] theorem ev_part : (mPart a s h).en QO = (a s h).en fun d h1 => match d with | .int i => QO (some i) h1 | _ => False := en_bind.trans (en_ext fun d h => by cases d <;> rfl)
@[simp ↓] theorem ev_cut {p : D → Option Int → Option Int → MH → R D} {lo hi : MO'} : (mCut p a lo hi s h).en Q = (a s h).en fun d h1 => (lo s h1).en fun l h2 => (hi s h2).en fun u h3 => (p d l u h3).en Q :=
  en_bind.trans (en_ext fun _ _ => en_bind.trans (en_ext fun _ _ => en_bind))
@[simp ↓] theorem ev_callB {p : FB} : (mCallB p ma s h).en Q = (ma s h).en fun ds h1 => (p ds h1).en Q := en_bind
@[simp ↓] theorem ev_meth {t : String} {p : FM} : (mMeth t p a ma s h).en Q = (a s h).en fun d h1 => if kindIs t d h1 = true then (ma s h1).en fun ds h2 => (p d ds h2).en Q else False :=
  en_bind.trans (en_ext fun _ _ => en_ite.trans (by rw [en_bind]; rfl))
@[simp ↓] theorem ev_call {F : Fn} {dv : List D} : (mCall n F dv ma s h).en Q = (ma s h).en fun ds h1 => if ds.length + dv.length = n then (F (ds ++ dv) h1).en Q else False := en_bind.trans (en_ext fun _ _ => en_ite)
@[simp ↓] theorem ev_callK {F : Fn} {gd : List D → List D → List D} : (mCallK n l i F gd ma mb s h).en Q = (ma s h).en fun ds h1 => (mb s h1).en fun es h2 => if ds.length = n ∧ es.length = l ∧ (gd ds es).length = i then (F (gd ds es) h2).en Q else False :=
  en_bind.trans (en_ext fun _ _ => en_bind.trans (en_ext fun _ _ => en_ite))
@[simp] theorem ev_gKw {xs ys : List D} : gKw xs ys = xs ++ ys := id rfl
@[simp ↓] theorem ev_lc {vs : List Nat} {mt : MT} {fin : Fn1} : (mLc mi vs tg mt a fin s h).en Q = (mi s h).en fun p h1 => (compLoop p.2 tg mt a (wipeM s vs) p.1 [] h1).en fun xs h2 => (fin xs h2).en Q :=
  en_bind.trans (en_bind)
@[simp ↓] theorem ev_iter : (mIter a s h).en QI = (a s h).en fun d h1 => (itOf d h1).en QI := en_bind
@[simp ↓] theorem ev_range1 : (mRange1 a s h).en QI = (a s h).en fun d h1 => match d with | .int j => if -4611686018427387904 ≤ j ∧ j < 4611686018427387904 then QI (rangeD 0 j.toNat, none) h1 else False | _ => False := en_bind.trans (en_ext fun d h => by
  cases d <;> first | rfl | exact en_ite)
@[simp ↓] theorem ev_range2 : (mRange2 a b s h).en QI = (a s h).en fun d h1 => (b s h1).en fun e h2 => match d, e with
  | .int i, .int j => if -4611686018427387904 ≤ i ∧ i < 4611686018427387904 ∧ -4611686018427387904 ≤ j ∧ j < 4611686018427387904 then QI (rangeD i (j - i).toNat, none) h2 else False
  | _, _ => False := en_bind.trans (en_ext fun d h => en_bind.trans (en_ext fun e h => by
  cases d <;> first | rfl | (cases e <;> first | rfl | exact en_ite)))
@[simp ↓] theorem ev_skip : (mSkip s h).en N B C T = N s h := id rfl
@[simp ↓] theorem ev_seq : (mSeq sa sb s h).en N B C T = (sa s h).en (fun s h => Nx sb N B C T s h) B C T := en_seqR
@[simp ↓] theorem ev_break : (mBreak s h).en N B C T = B s h := id rfl
@[simp ↓] theorem ev_cont : (mCont s h).en N B C T = C s h := id rfl
@[simp ↓] theorem ev_ret : (mRet a s h).en N B C T = (a s h).en fun d h1 => T d h1 := en_toS
@[simp ↓] theorem ev_retN : (mRetN s h).en N B C T = T .non h := id rfl
/-- a value that is handed back -/
def ret1 (d : D) (h : MH) (T : D → MH → Prop) (_ : Bx T := ⟨⟩) : Prop := match d with
  | .ref n => match h.get n with
    | some (.lst xs) => T (.lst xs) (h.drop n)
    | none => False
  | d => T d h
@[simp ↓] theorem ev_retF : (mRetF a s h).en N B C T = (a s h).en fun d h1 => ret1 d h1 T := en_toS.trans (en_ext fun d h => by
  cases d with
  | ref n =>
    unfold ret1
    simp only
    cases e : h.get n with
    | none => rfl
    | some o => cases o; rfl
  | _ => rfl)
@[simp ↓] theorem ret1_int {i : Int} : ret1 (.int i) h T = T (.int i) h := id rfl
@[simp ↓] theorem ret1_bl {i : Bool} : ret1 (.bl i) h T = T (.bl i) h := id rfl
@[simp ↓] theorem ret1_str {i : Str} : ret1 (.str i) h T = T (.str i) h := id rfl
@[simp ↓] theorem ret1_non : ret1 .non h T = T .non h := id rfl
@[simp ↓] theorem ret1_tup {xs : List D} : ret1 (.tup xs) h T = T (.tup xs) h := id rfl
@[simp ↓] theorem ret1_lst {xs : List D} : ret1 (.lst xs) h T = T (.lst xs) h := id rfl
theorem ret1_ref {xs : List D} (e : h.get n = some (.lst xs)) : ret1 (.ref n) h T = T (.lst xs) (h.drop n) := by
  unfold ret1
  simp only [e]
@[simp ↓] theorem ev_ifS : (mIfS ta sa sb s h).en N B C T = (ta s h).en fun k h1 => if k = true then (sa s h1).en N B C T else (sb s h1).en N B C T := en_toS.trans (en_ext fun _ _ => enS_ite)
@[simp ↓] theorem ev_do : (mDo a s h).en N B C T = (a s h).en fun _ h1 => N s h1 := en_toS
@[simp ↓] theorem ev_set : (mSet i a s h).en N B C T = (a s h).en fun d h1 => N (s.set i (some d)) h1 := en_toS
@[simp ↓] theorem ev_unpack : (mUnpack tg a s h).en N B C T = (a s h).en fun d h1 => match tg d s with | some s1 => N s1 h1 | none => False := en_toS.trans (en_ext fun d h => by
  show RS.en (match tg d s with | some s1 => RS.nx s1 h | none => RS.bad) N B C T = _
  split <;> rfl)
@[simp ↓] theorem ev_par2 : (mPar2 i j a b s h).en N B C T = (a s h).en fun x h1 => (b s h1).en fun y h2 => N ((s.set i (some x)).set j (some y)) h2 := en_toS.trans (en_ext fun _ _ => en_toS)
@[simp ↓] theorem ev_par3 : (mPar3 i j l a b c s h).en N B C T = (a s h).en fun x h1 => (b s h1).en fun y h2 => (c s h2).en fun z h3 => N (((s.set i (some x)).set j (some y)).set l (some z)) h3 := en_toS.trans (en_ext fun _ _ => en_toS.trans (en_ext fun _ _ => en_toS))
@[simp ↓] theorem ev_setSub {p : D → D → D → MH → R Unit} : (mSetSub p a b c s h).en N B C T = (c s h).en fun c h1 => (a s h1).en fun a h2 => (b s h2).en fun b h3 => (p a b c h3).en fun _ h4 => N s h4 :=
  en_toS.trans (en_ext fun _ _ => en_toS.trans (en_ext fun _ _ => en_toS.trans (en_ext fun _ _ => en_toS)))
@[simp ↓] theorem ev_augSub {st : D → D → D → MH → R Unit} : (mAugSub g f st a b c s h).en N B C T = (a s h).en fun a h1 => (b s h1).en fun b h2 => (g a b h2).en fun x h3 => (c s h3).en fun y h4 => (f x y h4).en fun z h5 => (st a b z h5).en fun _ h6 => N s h6 :=
  en_toS.trans (en_ext fun _ _ => en_toS.trans (en_ext fun _ _ => en_toS.trans (en_ext fun _ _ => en_toS.trans (en_ext fun _ _ => en_toS.trans (en_ext fun _ _ => en_toS)))))
@[simp ↓] theorem ev_aug : (mAug i f a s h).en N B C T = match s[i]? with | some (some x) => (a s h).en fun y h1 => (f x y h1).en fun z h2 => N (s.set i (some z)) h2 | _ => False := by
  unfold mAug
  cases e : s[i]? with
  | none => rfl
  | some o =>
    cases o with
    | none => rfl
    | some x => exact en_toS.trans (en_ext fun _ _ => en_toS)
@[simp ↓] theorem ev_for : (mFor mi tg sa s h).en N B C T = (mi s h).en fun p h1 => (forLoop p.2 tg sa p.1 s h1).en N B C T := en_toS
@[simp] theorem ev_mgName : mgName i d s = some (s.set i (some d)) := id rfl
@[simp ↓] theorem ev_finL {xs : List D} : (finL xs h).en Q = Q (.lst xs) h := id rfl
@[simp ↓] theorem ev_finH {xs : List D} : (finH xs h).en Q = Q (.ref h.next) (h.new (.lst xs)) := id rfl
@[simp ↓] theorem ev_yes : (mYes s h).en QB = QB true h := id rfl
@[simp] theorem ev_gnil : mgNil [] s = some s := id rfl
@[simp] theorem ev_gcons {u : MG} {us : MGs} {ds : List D} : mgCons u us (d :: ds) s = (u d s).bind (us ds) := id rfl
@[simp] theorem ev_gtup {us : MGs} {xs : List D} : mgTup n us (.tup xs) s = if xs.length = n then us xs s else none := id rfl
end
/-! ### heaps -/
section
variable {h h' : MH} {m n N : Nat} {o o' : MO} {d : D}
@[simp] theorem get_set : (h.set n o).get m = if m = n then some o else h.get m := id rfl
@[simp] theorem next_set : (h.set n o).next = h.next := id rfl
@[simp] theorem get_new : (h.new o).get m = if m = h.next then some o else h.get m := id rfl
@[simp] theorem next_new : (h.new o).next = h.next + 1 := id rfl
@[simp] theorem get_drop : (h.drop n).get m = if m = n then none else h.get m := id rfl
@[simp] theorem next_drop : (h.drop n).next = h.next := id rfl
theorem MH.ext' {h h' : MH} (e : ∀ n, h.get n = h'.get n) (e2 : h.next = h'.next) : h = h' := by
  cases h; cases h'
  have : _ = _ := funext e
  simp only at this e2
  subst this e2; rfl
@[simp] theorem set_set : (h.set n o).set n o' = h.set n o' := MH.ext' (fun m => by simp only [get_set]; split <;> rfl) rfl
@[simp] theorem new_set : (h.new o).set h.next o' = h.new o' := MH.ext' (fun m => by simp only [get_set, get_new]; split <;> rfl) rfl
theorem set_new (hn : n ≠ h.next) : (h.new o).set n o' = (h.set n o').new o := MH.ext' (fun m => by
  show (if m = n then some o' else if m = h.next then some o else h.get m) = if m = h.next then some o else if m = n then some o' else h.get m
  by_cases e1 : m = n
  · subst e1
    rw [if_pos rfl, if_neg hn, if_pos rfl]
  · rw [if_neg e1, if_neg e1]) rfl
structure Tidy (h : MH) : Prop where
  out : ∀ m, h.next ≤ m → h.get m = none
  bd : ∀ m o, h.get m = some o → o.bd h.next = true
theorem Tidy.zero : Tidy MH.zero := ⟨fun _ _ => rfl, fun m o e => by cases e⟩
theorem Tidy.lt (t : Tidy h) (e : h.get n = some o) : n < h.next := by
  by_cases z : n < h.next
  · exact z
  · rw [t.out n (by omega)] at e; cases e
theorem Tidy.set (t : Tidy h) (hn : n < h.next) (ho : o.bd h.next = true) : Tidy (h.set n o) := ⟨fun m hm => by
  have hm' : h.next ≤ m := hm
  rw [get_set, if_neg (by omega)]; exact t.out m hm', fun m o' e => by
  rw [get_set] at e
  split at e
  · cases e; exact ho
  · exact t.bd m o' e⟩
mutual
theorem bd_mono {N M : Nat} (hm : N ≤ M) : ∀ {d : D}, d.bd N = true → d.bd M = true
  | .ref n, e => by simp only [D.bd, decide_eq_true_eq] at e ⊢; omega
  | .tup xs, e => by simp only [D.bd] at e ⊢; exact bds_mono hm e
  | .lst xs, e => by simp only [D.bd] at e ⊢; exact bds_mono hm e
  | .non, _ | .bl _, _ | .int _, _ | .str _, _ | .raw _, _ | .scr _, _ => rfl
theorem bds_mono {N M : Nat} (hm : N ≤ M) : ∀ {ds : List D}, bds N ds = true → bds M ds = true
  | [], _ => rfl
  | d :: ds, e => by
    simp only [bds, Bool.and_eq_true] at e ⊢
    exact ⟨bd_mono hm e.1, bds_mono hm e.2⟩
end
theorem MO.bd_mono {N M : Nat} (hm : N ≤ M) : ∀ {o : MO}, o.bd N = true → o.bd M = true
  | .lst xs, e => bds_mono hm (ds := xs) e
theorem Tidy.new (t : Tidy h) (ho : o.bd (h.next + 1) = true) : Tidy (h.new o) := ⟨fun m hm => by
  have hm' : h.next + 1 ≤ m := hm
  rw [get_new, if_neg (by omega)]; exact t.out m (by omega), fun m o' e => by
  rw [get_new] at e
  split at e
  · cases e; exact ho
  · exact MO.bd_mono (Nat.le_succ _) (t.bd m o' e)⟩
@[simp] theorem cut_new (hn : N ≤ h.next) : (h.new o).cut N = h.cut N := MH.ext' (fun m => by
  show (if m < N then (h.new o).get m else none) = if m < N then h.get m else none
  split
  · rw [get_new, if_neg (by omega)]
  · rfl) rfl
theorem cut_drop (hn : N ≤ n) : (h.drop n).cut N = h.cut N := MH.ext' (fun m => by
  show (if m < N then (h.drop n).get m else none) = if m < N then h.get m else none
  split
  · rw [get_drop, if_neg (by omega)]
  · rfl) rfl
theorem cut_self (t : ∀ m, h.next ≤ m → h.get m = none) : h.cut h.next = h := MH.ext' (fun m => by
  show (if m < h.next then h.get m else none) = h.get m
  split
  · rfl
  · exact (t m (by omega)).symm) rfl
/-- a def is left; h2: what was there, as it is now -/
theorem leave_to {h1 h2 : MH} (t : Tidy h2) (e : h2.next = N) (c : h1.cut N = h2) (hd : d.bd N = true) : leave N d h1 = .ok d h2 := by
  unfold leave
  subst c
  rw [if_pos]
  refine ⟨hd, fun n hn o ho => ?_⟩
  have := t.bd n o (show (if n < N then h1.get n else none) = some o by rw [if_pos hn]; exact ho)
  rwa [e] at this
theorem leave_same (t : Tidy h) (hd : d.bd h.next = true) : leave h.next d h = .ok d h := leave_to t rfl (cut_self t.out) hd
end
/-! ### defs, loops -/
section
variable {m : MS} {n : Nat} {ds : List D} {h : MH} {Q : D → MH → Prop}
theorem fn_en (hm : (m (ds.map some ++ List.replicate (n - ds.length) none) h).en (fun _ h1 => (leave h.next .non h1).en Q) (fun _ _ => False) (fun _ _ => False) (fun d h1 => (leave h.next d h1).en Q)) : (fnM n m ds h).en Q := by
  unfold fnM
  cases e : m (ds.map some ++ List.replicate (n - ds.length) none) h <;> rw [e] at hm <;> first | exact hm | exact hm.elim
/-- a def that leaves the heap as it was: what it tells -/
theorem en_eq {d : D} {r : R D} (q : r.en fun d' h' => d' = d ∧ h' = h) : r = .ok d h := by
  obtain ⟨a, h1, e, e1, e2⟩ := R.en_ex q
  rw [e, e1, e2]
variable {g : Gd} {tg : MG} {body : MS} {N B C : Sl → MH → Prop} {T : D → MH → Prop}
theorem for_en (I : List D → Sl → MH → Prop) (hg : ∀ xs s h, I xs s h → gOk g h) (step : ∀ x xs s h, I (x :: xs) s h → ∃ s1, tg x s = some s1 ∧ (body s1 h).en (I xs) N (I xs) T) (fin : ∀ s h, I [] s h → N s h) : ∀ xs s h, I xs s h → (forLoop g tg body xs s h).en N B C T
  | [], s, h, i => by
    unfold forLoop
    rw [if_pos (hg _ _ _ i)]
    exact fin _ _ i
  | x :: xs, s, h, i => by
    unfold forLoop
    rw [if_pos (hg _ _ _ i)]
    obtain ⟨s1, e, q⟩ := step x xs s h i
    rw [e]
    simp only
    cases e2 : body s1 h <;> rw [e2] at q
    · exact for_en I hg step fin xs _ _ q
    · exact q
    · exact for_en I hg step fin xs _ _ q
    · exact q
    · exact q.elim
    · exact q.elim
/-- nothing else is walked -/
theorem forT {xs : List D} {s : Sl} (I : List D → Sl → MH → Prop) (i : I xs s h) (step : ∀ x xs s h, I (x :: xs) s h → ∃ s1, tg x s = some s1 ∧ (body s1 h).en (I xs) N (I xs) T) (fin : ∀ s h, I [] s h → N s h) : (forLoop none tg body xs s h).en N B C T :=
  for_en (g := none) I (fun _ _ _ _ => trivial) step fin xs s h i
variable {tt : MT} {el : ME} {s : Sl}
theorem comp_en {P : List D → MH → Prop} (I : List D → List D → MH → Prop) (hg : ∀ xs acc h, I xs acc h → gOk g h)
    (step : ∀ x xs acc h, I (x :: xs) acc h → ∃ s1, tg x s = some s1 ∧ (tt s1 h).en fun b h1 => if b = true then (el s1 h1).en fun y h2 => acc.length < sizeLine ∧ I xs (acc ++ [y]) h2 else I xs acc h1) (fin : ∀ acc h, I [] acc h → P acc h) :
    ∀ xs acc h, I xs acc h → (compLoop g tg tt el s xs acc h).en P
  | [], acc, h, i => by
    unfold compLoop
    rw [if_pos (hg _ _ _ i)]
    exact fin _ _ i
  | x :: xs, acc, h, i => by
    unfold compLoop
    rw [if_pos (hg _ _ _ i)]
    obtain ⟨s1, e, q⟩ := step x xs acc h i
    rw [e]
    simp only
    obtain ⟨b, h1, e1, q1⟩ := R.en_ex q
    rw [e1]
    simp only
    by_cases hb : b = true
    · rw [if_pos hb] at q1 ⊢
      obtain ⟨y, h2, e2, z, q2⟩ := R.en_ex q1
      rw [e2]
      simp only
      rw [if_pos z]
      exact comp_en I hg step fin xs _ _ q2
    · rw [if_neg hb] at q1 ⊢
      exact comp_en I hg step fin xs _ _ q1
/-- each item by itself, the heap stays -/
theorem comp_map {φ : D → D} : ∀ {xs acc : List D}, (∀ x ∈ xs, ∃ s1, tg x s = some s1 ∧ tt s1 h = .ok true h ∧ el s1 h = .ok (φ x) h) → acc.length + xs.length ≤ sizeLine → compLoop none tg tt el s xs acc h = .ok (acc ++ xs.map φ) h
  | [], acc, _, _ => by
    unfold compLoop
    rw [if_pos (show gOk none h from trivial)]
    simp
  | x :: xs, acc, hx, hz => by
    unfold compLoop
    rw [if_pos (show gOk none h from trivial)]
    obtain ⟨s1, e1, e2, e3⟩ := hx x List.mem_cons_self
    simp only [List.length_cons] at hz
    rw [e1]
    simp only [e2, e3, if_true]
    rw [if_pos (by omega), comp_map (fun y hy => hx y (List.mem_cons_of_mem _ hy)) (by simp; omega)]
    simp
theorem comp_filter {p : D → Bool} {φ : D → D} : ∀ {xs acc : List D}, (∀ x ∈ xs, ∃ s1, tg x s = some s1 ∧ tt s1 h = .ok (p x) h ∧ (p x = true → el s1 h = .ok (φ x) h)) → acc.length + xs.length ≤ sizeLine → compLoop none tg tt el s xs acc h = .ok (acc ++ (xs.filter p).map φ) h
  | [], acc, _, _ => by
    unfold compLoop
    rw [if_pos (show gOk none h from trivial)]
    simp
  | x :: xs, acc, hx, hz => by
    unfold compLoop
    rw [if_pos (show gOk none h from trivial)]
    obtain ⟨s1, e1, e2, e3⟩ := hx x List.mem_cons_self
    simp only [List.length_cons] at hz
    rw [e1]
    simp only [e2]
    cases hp : p x with
    | true =>
      simp only [e3 hp, if_true]
      rw [if_pos (by omega), comp_filter (fun y hy => hx y (List.mem_cons_of_mem _ hy)) (by simp; omega), List.filter_cons_of_pos hp]
      simp
    | false =>
      simp only [Bool.false_eq_true, if_false]
      rw [comp_filter (fun y hy => hx y (List.mem_cons_of_mem _ hy)) (by omega), List.filter_cons_of_neg (by simp [hp])]
end
/-! ### operators -/
section
variable {h : MH} {i j : Int} {x y : Str} {xs ys : List D} {Q : D → MH → Prop} {QB : Bool → MH → Prop} {QU : Unit → MH → Prop} {QI : List D × Gd → MH → Prop} {n k : Nat} {d e : D}
@[simp ↓] theorem o_add : (opAdd (.int i) (.int j) h).en Q = Q (.int (i + j)) h := id rfl
@[simp ↓] theorem o_sub : (opSub (.int i) (.int j) h).en Q = Q (.int (i - j)) h := id rfl
theorem o_mul (hs : smallI i ∨ smallI j) : (opMul (.int i) (.int j) h).en Q = Q (.int (i * j)) h := by
  rw [show opMul (.int i) (.int j) h = .ok (.int (i * j)) h from if_pos (hs.imp id .inl)]; rfl
theorem o_div (hj : 0 < j) (hl : j < 2 ^ 200) : (opDiv (.int i) (.int j) h).en Q = Q (.int (i / j)) h := by
  have h1 : j.natAbs < 2 ^ 200 := by omega
  have h2 : CDivW i j := by
    refine ⟨hj, ?_⟩
    by_cases z : j.natAbs = 0
    · rw [z]; decide
    · have := (Nat.log2_lt z).mpr h1
      omega
  rw [show opDiv (.int i) (.int j) h = .ok (.int (i / j)) h from if_pos h2]; rfl
theorem o_mod (hj : 0 < j) : (opMod (.int i) (.int j) h).en Q = Q (.int (i % j)) h := by
  rw [show opMod (.int i) (.int j) h = .ok (.int (i % j)) h from if_pos hj]; rfl
theorem o_pow (h0 : 0 ≤ j) (h1 : j ≤ 1000000) (h2 : i.natAbs < 2 ^ 64) : (opPow (.int i) (.int j) h).en Q = Q (.int (i ^ j.toNat)) h := by
  rw [show opPow (.int i) (.int j) h = .ok (.int (i ^ j.toNat)) h from if_pos ⟨h0, h1, h2⟩]; rfl
@[simp ↓] theorem c_mod (hj : 0 < j) : (opMod (.int i) (.int j) h).en Q = Q (.int (i % j)) h := o_mod hj
@[simp ↓] theorem c_div (hj : 0 < j) (hl : j < 18446744073709551616) : (opDiv (.int i) (.int j) h).en Q = Q (.int (i / j)) h := o_div hj (Int.lt_trans hl (by decide))
@[simp ↓] theorem c_mulL (h1 : -18446744073709551616 < i) (h2 : i < 18446744073709551616) : (opMul (.int i) (.int j) h).en Q = Q (.int (i * j)) h := o_mul (.inl ⟨h1, h2⟩)
@[simp ↓] theorem c_mulR (h1 : -18446744073709551616 < j) (h2 : j < 18446744073709551616) : (opMul (.int i) (.int j) h).en Q = Q (.int (i * j)) h := o_mul (.inr ⟨h1, h2⟩)
@[simp ↓] theorem c_mulM {p : Int} (h1 : 0 < p) (h2 : p < 18446744073709551616) : (opMul (.int (i % p)) (.int j) h).en Q = Q (.int (i % p * j)) h := o_mul (.inl ⟨by have := Int.emod_nonneg i (by omega : p ≠ 0); omega, by have := Int.emod_lt_of_pos i h1; omega⟩)
@[simp ↓] theorem c_pow (h0 : 0 ≤ j) (h1 : j ≤ 1000000) (h2 : i.natAbs < 18446744073709551616) : (opPow (.int i) (.int j) h).en Q = Q (.int (i ^ j.toNat)) h := o_pow h0 h1 h2
@[simp ↓] theorem o_lt : (opLt (.int i) (.int j) h).en Q = Q (.bl (decide (i < j))) h := id rfl
@[simp ↓] theorem o_le : (opLe (.int i) (.int j) h).en Q = Q (.bl (decide (i ≤ j))) h := id rfl
@[simp ↓] theorem o_gt : (opGt (.int i) (.int j) h).en Q = Q (.bl (decide (j < i))) h := id rfl
@[simp ↓] theorem o_ge : (opGe (.int i) (.int j) h).en Q = Q (.bl (decide (j ≤ i))) h := id rfl
@[simp ↓] theorem o_iadd : (iopAdd (.int i) (.int j) h).en Q = Q (.int (i + j)) h := id rfl
@[simp ↓] theorem o_isub : (iopSub (.int i) (.int j) h).en Q = Q (.int (i - j)) h := id rfl
@[simp ↓] theorem o_neg : (opNeg (.int i) h).en Q = Q (.int (-i)) h := id rfl
theorem eqP {d e : D} {p q : PyData} (h1 : toD h d = some p) (h2 : toD h e = some q) (s1 : SeqAt.shaped p = true) (s2 : SeqAt.shaped q = true) (ns : ∀ x, d ≠ .str x) : opEq d e h = .ok (.bl (PyData.eqv p q)) h := by
  unfold opEq
  split
  · exact absurd rfl (ns _)
  · rw [h1, h2]
    exact if_pos ⟨s1, s2⟩
theorem neP {d e : D} {p q : PyData} (h1 : toD h d = some p) (h2 : toD h e = some q) (s1 : SeqAt.shaped p = true) (s2 : SeqAt.shaped q = true) (ns : ∀ x, d ≠ .str x) : opNe d e h = .ok (.bl (!PyData.eqv p q)) h := by
  unfold opNe
  split
  · exact absurd rfl (ns _)
  · rw [h1, h2]
    exact if_pos ⟨s1, s2⟩
theorem o_eqP {d e : D} {p q : PyData} (h1 : toD h d = some p) (h2 : toD h e = some q) (s1 : SeqAt.shaped p = true) (s2 : SeqAt.shaped q = true) (ns : ∀ x, d ≠ .str x) : (opEq d e h).en Q = Q (.bl (PyData.eqv p q)) h := by rw [eqP h1 h2 s1 s2 ns]; rfl
theorem o_neP {d e : D} {p q : PyData} (h1 : toD h d = some p) (h2 : toD h e = some q) (s1 : SeqAt.shaped p = true) (s2 : SeqAt.shaped q = true) (ns : ∀ x, d ≠ .str x) : (opNe d e h).en Q = Q (.bl (!PyData.eqv p q)) h := by rw [neP h1 h2 s1 s2 ns]; rfl
theorem eqv_int : PyData.eqv (.int i) (.int j) = decide (i = j) := by simp only [PyData.eqv]; exact Bool.eq_iff_iff.mpr (by simp)
@[simp ↓] theorem o_eqI : (opEq (.int i) (.int j) h).en Q = Q (.bl (decide (i = j))) h := by rw [o_eqP (p := .int i) (q := .int j) rfl rfl rfl rfl (by simp), eqv_int]
@[simp ↓] theorem o_neI : (opNe (.int i) (.int j) h).en Q = Q (.bl (!decide (i = j))) h := by rw [o_neP (p := .int i) (q := .int j) rfl rfl rfl rfl (by simp), eqv_int]
@[simp ↓] theorem o_eqS : (opEq (.str x) (.str y) h).en Q = Q (.bl (decide (x = y))) h := id rfl
@[simp ↓] theorem o_neS : (opNe (.str x) (.str y) h).en Q = Q (.bl (!decide (x = y))) h := id rfl
theorem toPs_ints : ∀ ns : List Int, toPs (ns.map .int) = some (ns.map .int)
  | [] => rfl
  | n :: ns => by simp only [List.map_cons, toPs, toP, toPs_ints ns]
theorem lay_ints : ∀ ns : List Int, PyData.canLayAll0 (ns.map .int) = true
  | [] => rfl
  | n :: ns => by simp only [List.map_cons, PyData.canLayAll0, PyData.canLay0, lay_ints ns, Bool.and_self]
theorem depth_ints : ∀ ns : List Int, PyData.depthAll (ns.map .int) ≤ 1
  | [] => by decide
  | n :: ns => by
    have := depth_ints ns
    simp only [List.map_cons, PyData.depthAll, PyData.depth]
    exact Nat.max_le.mpr ⟨by decide, this⟩
theorem o_eqNil {ns : List Int} : (opEq (.lst (ns.map .int)) (.lst []) h).en Q = Q (.bl (decide (ns = []))) h := by
  have e1 : toD h (.lst (ns.map .int)) = some (.list (ns.map .int)) := by
    show toP (.lst (ns.map .int)) = _
    simp only [toP, toPs_ints, Option.map_some]
  rw [o_eqP e1 (q := .list []) rfl ?_ rfl (by simp)]
  · congr 2
    cases ns with
    | nil => rfl
    | cons n ns => simp [PyData.eqv, PyData.eqvAll]
  · unfold SeqAt.shaped
    simp only [PyData.canLay0, lay_ints, Bool.true_and, decide_eq_true_eq, PyData.depth]
    have := depth_ints ns
    exact decide_eq_true (by omega)
@[simp ↓] theorem t_int : (truth (.int i) h).en QB = QB (i != 0) h := id rfl
@[simp ↓] theorem t_bl {b : Bool} : (truth (.bl b) h).en QB = QB b h := id rfl
/-- items -/
theorem o_ix {z : D} (h1 : seqOf h d = some xs) (h2 : atI xs i = some z) : (opIx d (.int i) h).en Q = Q z h := by
  have : opIx d (.int i) h = .ok z h := by
    unfold opIx
    split
    · simp [seqOf, lstOf] at h1
    · rename_i e1
      cases e1
      rw [h1]
      simp only [h2]
    · rename_i n1 _
      exact (n1 i rfl).elim
  rw [this]; rfl
theorem o_gix {z : D} (h1 : lstOf h d = some xs) (h2 : atI xs i = some z) : (getIxL d (.int i) h).en Q = Q z h := by
  have : getIxL d (.int i) h = .ok z h := by
    unfold getIxL
    simp only [h1, h2]
  rw [this]; rfl
theorem o_six (h1 : h.get n = some (.lst xs)) (h2 : ixN xs.length i = some k) : (setIx (.ref n) (.int i) d h).en QU = QU () (h.set n (.lst (xs.set k d))) := by
  have : setIx (.ref n) (.int i) d h = .ok () (h.set n (.lst (xs.set k d))) := by
    unfold setIx
    simp only [h1, h2]
  rw [this]; rfl
theorem o_len (h1 : seqOf h d = some xs) : (bLen [d] h).en Q = Q (.int (xs.length : Nat)) h := by
  have : bLen [d] h = .ok (.int (xs.length : Nat)) h := by
    unfold bLen
    split
    · rename_i e1
      cases e1
      simp [seqOf, lstOf] at h1
    · rename_i e1
      cases e1
      rw [h1]
    · rename_i n1
      exact absurd rfl (n1 d)
  rw [this]; rfl
theorem o_tuple (h1 : seqOf h d = some xs) : (bTuple [d] h).en Q = Q (.tup xs) h := by
  have : bTuple [d] h = .ok (.tup xs) h := by simp only [bTuple, h1]
  rw [this]; rfl
theorem o_list (h1 : seqOf h d = some xs) : (bList [d] h).en Q = Q (.lst xs) h := by
  have : bList [d] h = .ok (.lst xs) h := by simp only [bList, h1]
  rw [this]; rfl
theorem o_append (h1 : h.get n = some (.lst xs)) (h2 : xs.length < sizeLine) : (lAppend (.ref n) [d] h).en Q = Q .non (h.set n (.lst (xs ++ [d]))) := by
  have : lAppend (.ref n) [d] h = .ok .non (h.set n (.lst (xs ++ [d]))) := by
    simp only [lAppend, h1]
    exact if_pos h2
  rw [this]; rfl
/-- items by their kinds -/
def pick (xs : List D) (i : Int) (Q : D → MH → Prop) (h : MH) (_ : Bx Q := ⟨⟩) : Prop := match atI xs i with
  | some z => Q z h
  | none => False
theorem pick_some {z : D} (e : atI xs i = some z) : pick xs i Q h = Q z h := by
  unfold pick
  simp only [e]
@[simp ↓] theorem ix_tup : (opIx (.tup xs) (.int i) h).en Q = pick xs i Q h := by
  unfold pick opIx
  simp only [seqOf]
  cases atI xs i <;> rfl
@[simp ↓] theorem ix_lst : (opIx (.lst xs) (.int i) h).en Q = pick xs i Q h := by
  unfold pick opIx
  simp only [seqOf, lstOf]
  cases atI xs i <;> rfl
theorem ix_ref (e : h.get n = some (.lst xs)) : (opIx (.ref n) (.int i) h).en Q = pick xs i Q h := by
  unfold pick opIx
  simp only [seqOf, lstOf, e]
  cases atI xs i <;> rfl
theorem gix_ref (e : h.get n = some (.lst xs)) : (getIxL (.ref n) (.int i) h).en Q = pick xs i Q h := by
  unfold pick getIxL
  simp only [lstOf, e]
  cases atI xs i <;> rfl
@[simp] theorem at_0 {α : Type} {x0 : α} {r : List α} : atI (x0 :: r) 0 = some x0 := by
  have : (0 : Int) < ((x0 :: r).length : Int) := by simp only [List.length_cons, Int.natCast_add]; omega
  unfold atI ixN
  rw [if_pos (by decide), if_pos this]
  rfl
@[simp] theorem at_1 {α : Type} {x0 x1 : α} {r : List α} : atI (x0 :: x1 :: r) 1 = some x1 := by
  have : (1 : Int) < ((x0 :: x1 :: r).length : Int) := by simp only [List.length_cons, Int.natCast_add]; omega
  unfold atI ixN
  rw [if_pos (by decide), if_pos this]
  rfl
@[simp] theorem at_2 {α : Type} {x0 x1 x2 : α} {r : List α} : atI (x0 :: x1 :: x2 :: r) 2 = some x2 := by
  have : (2 : Int) < ((x0 :: x1 :: x2 :: r).length : Int) := by simp only [List.length_cons, Int.natCast_add]; omega
  unfold atI ixN
  rw [if_pos (by decide), if_pos this]
  rfl
@[simp] theorem at_3 {α : Type} {x0 x1 x2 x3 : α} {r : List α} : atI (x0 :: x1 :: x2 :: x3 :: r) 3 = some x3 := by
  have : (3 : Int) < ((x0 :: x1 :: x2 :: x3 :: r).length : Int) := by simp only [List.length_cons, Int.natCast_add]; omega
  unfold atI ixN
  rw [if_pos (by decide), if_pos this]
  rfl
@[simp] theorem at_4 {α : Type} {x0 x1 x2 x3 x4 : α} {r : List α} : atI (x0 :: x1 :: x2 :: x3 :: x4 :: r) 4 = some x4 := by
  have : (4 : Int) < ((x0 :: x1 :: x2 :: x3 :: x4 :: r).length : Int) := by simp only [List.length_cons, Int.natCast_add]; omega
  unfold atI ixN
  rw [if_pos (by decide), if_pos this]
  rfl
@[simp] theorem at_5 {α : Type} {x0 x1 x2 x3 x4 x5 : α} {r : List α} : atI (x0 :: x1 :: x2 :: x3 :: x4 :: x5 :: r) 5 = some x5 := by
  have : (5 : Int) < ((x0 :: x1 :: x2 :: x3 :: x4 :: x5 :: r).length : Int) := by simp only [List.length_cons, Int.natCast_add]; omega
  unfold atI ixN
  rw [if_pos (by decide), if_pos this]
  rfl
@[simp] theorem at_6 {α : Type} {x0 x1 x2 x3 x4 x5 x6 : α} {r : List α} : atI (x0 :: x1 :: x2 :: x3 :: x4 :: x5 :: x6 :: r) 6 = some x6 := by
  have : (6 : Int) < ((x0 :: x1 :: x2 :: x3 :: x4 :: x5 :: x6 :: r).length : Int) := by simp only [List.length_cons, Int.natCast_add]; omega
  unfold atI ixN
  rw [if_pos (by decide), if_pos this]
  rfl
@[simp] theorem at_7 {α : Type} {x0 x1 x2 x3 x4 x5 x6 x7 : α} {r : List α} : atI (x0 :: x1 :: x2 :: x3 :: x4 :: x5 :: x6 :: x7 :: r) 7 = some x7 := by
  have : (7 : Int) < ((x0 :: x1 :: x2 :: x3 :: x4 :: x5 :: x6 :: x7 :: r).length : Int) := by simp only [List.length_cons, Int.natCast_add]; omega
  unfold atI ixN
  rw [if_pos (by decide), if_pos this]
  rfl
@[simp] theorem at_8 {α : Type} {x0 x1 x2 x3 x4 x5 x6 x7 x8 : α} {r : List α} : atI (x0 :: x1 :: x2 :: x3 :: x4 :: x5 :: x6 :: x7 :: x8 :: r) 8 = some x8 := by
  have : (8 : Int) < ((x0 :: x1 :: x2 :: x3 :: x4 :: x5 :: x6 :: x7 :: x8 :: r).length : Int) := by simp only [List.length_cons, Int.natCast_add]; omega
  unfold atI ixN
  rw [if_pos (by decide), if_pos this]
  rfl
@[simp] theorem at_9 {α : Type} {x0 x1 x2 x3 x4 x5 x6 x7 x8 x9 : α} {r : List α} : atI (x0 :: x1 :: x2 :: x3 :: x4 :: x5 :: x6 :: x7 :: x8 :: x9 :: r) 9 = some x9 := by
  have : (9 : Int) < ((x0 :: x1 :: x2 :: x3 :: x4 :: x5 :: x6 :: x7 :: x8 :: x9 :: r).length : Int) := by simp only [List.length_cons, Int.natCast_add]; omega
  unfold atI ixN
  rw [if_pos (by decide), if_pos this]
  rfl
@[simp] theorem at_10 {α : Type} {x0 x1 x2 x3 x4 x5 x6 x7 x8 x9 x10 : α} {r : List α} : atI (x0 :: x1 :: x2 :: x3 :: x4 :: x5 :: x6 :: x7 :: x8 :: x9 :: x10 :: r) 10 = some x10 := by
  have : (10 : Int) < ((x0 :: x1 :: x2 :: x3 :: x4 :: x5 :: x6 :: x7 :: x8 :: x9 :: x10 :: r).length : Int) := by simp only [List.length_cons, Int.natCast_add]; omega
  unfold atI ixN
  rw [if_pos (by decide), if_pos this]
  rfl
@[simp] theorem at_11 {α : Type} {x0 x1 x2 x3 x4 x5 x6 x7 x8 x9 x10 x11 : α} {r : List α} : atI (x0 :: x1 :: x2 :: x3 :: x4 :: x5 :: x6 :: x7 :: x8 :: x9 :: x10 :: x11 :: r) 11 = some x11 := by
  have : (11 : Int) < ((x0 :: x1 :: x2 :: x3 :: x4 :: x5 :: x6 :: x7 :: x8 :: x9 :: x10 :: x11 :: r).length : Int) := by simp only [List.length_cons, Int.natCast_add]; omega
  unfold atI ixN
  rw [if_pos (by decide), if_pos this]
  rfl
@[simp] theorem at_12 {α : Type} {x0 x1 x2 x3 x4 x5 x6 x7 x8 x9 x10 x11 x12 : α} {r : List α} : atI (x0 :: x1 :: x2 :: x3 :: x4 :: x5 :: x6 :: x7 :: x8 :: x9 :: x10 :: x11 :: x12 :: r) 12 = some x12 := by
  have : (12 : Int) < ((x0 :: x1 :: x2 :: x3 :: x4 :: x5 :: x6 :: x7 :: x8 :: x9 :: x10 :: x11 :: x12 :: r).length : Int) := by simp only [List.length_cons, Int.natCast_add]; omega
  unfold atI ixN
  rw [if_pos (by decide), if_pos this]
  rfl
@[simp] theorem at_13 {α : Type} {x0 x1 x2 x3 x4 x5 x6 x7 x8 x9 x10 x11 x12 x13 : α} {r : List α} : atI (x0 :: x1 :: x2 :: x3 :: x4 :: x5 :: x6 :: x7 :: x8 :: x9 :: x10 :: x11 :: x12 :: x13 :: r) 13 = some x13 := by
  have : (13 : Int) < ((x0 :: x1 :: x2 :: x3 :: x4 :: x5 :: x6 :: x7 :: x8 :: x9 :: x10 :: x11 :: x12 :: x13 :: r).length : Int) := by simp only [List.length_cons, Int.natCast_add]; omega
  unfold atI ixN
  rw [if_pos (by decide), if_pos this]
  rfl
@[simp] theorem at_14 {α : Type} {x0 x1 x2 x3 x4 x5 x6 x7 x8 x9 x10 x11 x12 x13 x14 : α} {r : List α} : atI (x0 :: x1 :: x2 :: x3 :: x4 :: x5 :: x6 :: x7 :: x8 :: x9 :: x10 :: x11 :: x12 :: x13 :: x14 :: r) 14 = some x14 := by
  have : (14 : Int) < ((x0 :: x1 :: x2 :: x3 :: x4 :: x5 :: x6 :: x7 :: x8 :: x9 :: x10 :: x11 :: x12 :: x13 :: x14 :: r).length : Int) := by simp only [List.length_cons, Int.natCast_add]; omega
  unfold atI ixN
  rw [if_pos (by decide), if_pos this]
  rfl
@[simp] theorem at_15 {α : Type} {x0 x1 x2 x3 x4 x5 x6 x7 x8 x9 x10 x11 x12 x13 x14 x15 : α} {r : List α} : atI (x0 :: x1 :: x2 :: x3 :: x4 :: x5 :: x6 :: x7 :: x8 :: x9 :: x10 :: x11 :: x12 :: x13 :: x14 :: x15 :: r) 15 = some x15 := by
  have : (15 : Int) < ((x0 :: x1 :: x2 :: x3 :: x4 :: x5 :: x6 :: x7 :: x8 :: x9 :: x10 :: x11 :: x12 :: x13 :: x14 :: x15 :: r).length : Int) := by simp only [List.length_cons, Int.natCast_add]; omega
  unfold atI ixN
  rw [if_pos (by decide), if_pos this]
  rfl
@[simp] theorem at_16 {α : Type} {x0 x1 x2 x3 x4 x5 x6 x7 x8 x9 x10 x11 x12 x13 x14 x15 x16 : α} {r : List α} : atI (x0 :: x1 :: x2 :: x3 :: x4 :: x5 :: x6 :: x7 :: x8 :: x9 :: x10 :: x11 :: x12 :: x13 :: x14 :: x15 :: x16 :: r) 16 = some x16 := by
  have : (16 : Int) < ((x0 :: x1 :: x2 :: x3 :: x4 :: x5 :: x6 :: x7 :: x8 :: x9 :: x10 :: x11 :: x12 :: x13 :: x14 :: x15 :: x16 :: r).length : Int) := by simp only [List.length_cons, Int.natCast_add]; omega
  unfold atI ixN
  rw [if_pos (by decide), if_pos this]
  rfl
@[simp ↓] theorem pk_0 {x0 : D} {r : List D} : pick (x0 :: r) 0 Q h = Q x0 h := pick_some at_0
@[simp ↓] theorem pk_1 {x0 x1 : D} {r : List D} : pick (x0 :: x1 :: r) 1 Q h = Q x1 h := pick_some at_1
@[simp ↓] theorem pk_2 {x0 x1 x2 : D} {r : List D} : pick (x0 :: x1 :: x2 :: r) 2 Q h = Q x2 h := pick_some at_2
@[simp ↓] theorem pk_3 {x0 x1 x2 x3 : D} {r : List D} : pick (x0 :: x1 :: x2 :: x3 :: r) 3 Q h = Q x3 h := pick_some at_3
@[simp ↓] theorem pk_4 {x0 x1 x2 x3 x4 : D} {r : List D} : pick (x0 :: x1 :: x2 :: x3 :: x4 :: r) 4 Q h = Q x4 h := pick_some at_4
@[simp ↓] theorem pk_5 {x0 x1 x2 x3 x4 x5 : D} {r : List D} : pick (x0 :: x1 :: x2 :: x3 :: x4 :: x5 :: r) 5 Q h = Q x5 h := pick_some at_5
@[simp ↓] theorem pk_6 {x0 x1 x2 x3 x4 x5 x6 : D} {r : List D} : pick (x0 :: x1 :: x2 :: x3 :: x4 :: x5 :: x6 :: r) 6 Q h = Q x6 h := pick_some at_6
@[simp ↓] theorem pk_7 {x0 x1 x2 x3 x4 x5 x6 x7 : D} {r : List D} : pick (x0 :: x1 :: x2 :: x3 :: x4 :: x5 :: x6 :: x7 :: r) 7 Q h = Q x7 h := pick_some at_7
@[simp ↓] theorem pk_8 {x0 x1 x2 x3 x4 x5 x6 x7 x8 : D} {r : List D} : pick (x0 :: x1 :: x2 :: x3 :: x4 :: x5 :: x6 :: x7 :: x8 :: r) 8 Q h = Q x8 h := pick_some at_8
@[simp ↓] theorem pk_9 {x0 x1 x2 x3 x4 x5 x6 x7 x8 x9 : D} {r : List D} : pick (x0 :: x1 :: x2 :: x3 :: x4 :: x5 :: x6 :: x7 :: x8 :: x9 :: r) 9 Q h = Q x9 h := pick_some at_9
@[simp ↓] theorem pk_10 {x0 x1 x2 x3 x4 x5 x6 x7 x8 x9 x10 : D} {r : List D} : pick (x0 :: x1 :: x2 :: x3 :: x4 :: x5 :: x6 :: x7 :: x8 :: x9 :: x10 :: r) 10 Q h = Q x10 h := pick_some at_10
@[simp ↓] theorem pk_11 {x0 x1 x2 x3 x4 x5 x6 x7 x8 x9 x10 x11 : D} {r : List D} : pick (x0 :: x1 :: x2 :: x3 :: x4 :: x5 :: x6 :: x7 :: x8 :: x9 :: x10 :: x11 :: r) 11 Q h = Q x11 h := pick_some at_11
@[simp ↓] theorem pk_12 {x0 x1 x2 x3 x4 x5 x6 x7 x8 x9 x10 x11 x12 : D} {r : List D} : pick (x0 :: x1 :: x2 :: x3 :: x4 :: x5 :: x6 :: x7 :: x8 :: x9 :: x10 :: x11 :: x12 :: r) 12 Q h = Q x12 h := pick_some at_12
@[simp ↓] theorem pk_13 {x0 x1 x2 x3 x4 x5 x6 x7 x8 x9 x10 x11 x12 x13 : D} {r : List D} : pick (x0 :: x1 :: x2 :: x3 :: x4 :: x5 :: x6 :: x7 :: x8 :: x9 :: x10 :: x11 :: x12 :: x13 :: r) 13 Q h = Q x13 h := pick_some at_13
@[simp ↓] theorem pk_14 {x0 x1 x2 x3 x4 x5 x6 x7 x8 x9 x10 x11 x12 x13 x14 : D} {r : List D} : pick (x0 :: x1 :: x2 :: x3 :: x4 :: x5 :: x6 :: x7 :: x8 :: x9 :: x10 :: x11 :: x12 :: x13 :: x14 :: r) 14 Q h = Q x14 h := pick_some at_14
@[simp ↓] theorem pk_15 {x0 x1 x2 x3 x4 x5 x6 x7 x8 x9 x10 x11 x12 x13 x14 x15 : D} {r : List D} : pick (x0 :: x1 :: x2 :: x3 :: x4 :: x5 :: x6 :: x7 :: x8 :: x9 :: x10 :: x11 :: x12 :: x13 :: x14 :: x15 :: r) 15 Q h = Q x15 h := pick_some at_15
@[simp ↓] theorem pk_16 {x0 x1 x2 x3 x4 x5 x6 x7 x8 x9 x10 x11 x12 x13 x14 x15 x16 : D} {r : List D} : pick (x0 :: x1 :: x2 :: x3 :: x4 :: x5 :: x6 :: x7 :: x8 :: x9 :: x10 :: x11 :: x12 :: x13 :: x14 :: x15 :: x16 :: r) 16 Q h = Q x16 h := pick_some at_16
@[simp ↓] theorem len_lst : (bLen [.lst xs] h).en Q = Q (.int (xs.length : Nat)) h := o_len rfl
@[simp ↓] theorem len_tup : (bLen [.tup xs] h).en Q = Q (.int (xs.length : Nat)) h := o_len rfl
@[simp ↓] theorem tup_lst : (bTuple [.lst xs] h).en Q = Q (.tup xs) h := id rfl
@[simp ↓] theorem tup_tup : (bTuple [.tup xs] h).en Q = Q (.tup xs) h := id rfl
@[simp ↓] theorem list_lst : (bList [.lst xs] h).en Q = Q (.lst xs) h := id rfl
@[simp ↓] theorem list_tup : (bList [.tup xs] h).en Q = Q (.lst xs) h := id rfl
theorem at_mod {ns : List Int} {c : Int} (h0 : ns ≠ []) : ∃ x, atI (ns.map D.int) (c % (ns.length : Int)) = some (.int x) := by
  have hp : 0 < (ns.length : Int) := by
    have := List.length_pos_iff.mpr h0
    omega
  have h1 := Int.emod_nonneg c (by omega : (ns.length : Int) ≠ 0)
  have h2 := Int.emod_lt_of_pos c hp
  have h3 : (c % (ns.length : Int)).toNat < ns.length := by omega
  refine ⟨ns[(c % (ns.length : Int)).toNat], ?_⟩
  unfold atI ixN
  rw [List.length_map, if_pos h1, if_pos h2]
  show (ns.map D.int)[(c % (ns.length : Int)).toNat]? = _
  rw [List.getElem?_map, List.getElem?_eq_getElem h3]
  rfl
@[simp ↓] theorem it_tup : (itOf (.tup xs) h).en QI = QI (xs, none) h := id rfl
@[simp ↓] theorem it_lst : (itOf (.lst xs) h).en QI = QI (xs, none) h := id rfl
theorem kind_ref (h1 : h.get n = some (.lst xs)) : kindIs "list" (.ref n) h = true := by simp [kindIs, lstOf, h1]
end
end Tb
end

section
set_option maxHeartbeats 4000000
namespace Tb
open PySem PySem.Spec PyProof.Rows L2
/-! ## more of the calculus -/
/-- not to be looked into by simp -/
def Hold (p : Prop) (_ : Bx p := ⟨⟩) : Prop := p
theorem Hold.mk {p : Prop} (h : p) : Hold p := h
section
variable {tg : MG} {body : MS} {N B C : Sl → MH → Prop} {T : D → MH → Prop} {s : Sl} {h : MH}
/-- a walk of range(lo, lo + n) -/
theorem for_range {lo : Int} {n : Nat} (I : Nat → Sl → MH → Prop) (i0 : I 0 s h) (step : ∀ t s h, t < n → I t s h → ∃ s1, tg (.int (lo + t)) s = some s1 ∧ (body s1 h).en (I (t + 1)) N (I (t + 1)) T) (fin : ∀ s h, I n s h → N s h) :
    (forLoop none tg body (rangeD lo n) s h).en N B C T := by
  have aux : ∀ k t s h, t + k = n → I t s h → (forLoop none tg body ((List.range' t k).map fun i => .int (lo + (i : Nat))) s h).en N B C T := by
    intro k
    induction k with
    | zero =>
      intro t s h e i
      obtain rfl : t = n := by omega
      unfold forLoop
      rw [List.range'_zero, List.map_nil]
      simp only
      rw [if_pos (show gOk none h from trivial)]
      exact fin _ _ i
    | succ k ih =>
      intro t s h e i
      rw [List.range'_succ, List.map_cons]
      unfold forLoop
      rw [if_pos (show gOk none h from trivial)]
      obtain ⟨s1, e1, q⟩ := step t s h (by omega) i
      rw [e1]
      simp only
      cases e2 : body s1 h <;> rw [e2] at q
      · exact ih (t + 1) _ _ (by omega) q
      · exact q
      · exact ih (t + 1) _ _ (by omega) q
      · exact q
      · exact q.elim
      · exact q.elim
  have := aux n 0 s h (by omega) i0
  rwa [← List.range_eq_range'] at this
end
/-! ### isinstance -/
@[simp ↓] theorem isi_non_int {h : MH} {Q : D → MH → Prop} : (bIsi [.non, .raw (.ty "int")] h).en Q = Q (.bl false) h := by simp [bIsi, kindOf, isIn]
@[simp ↓] theorem isi_non_str {h : MH} {Q : D → MH → Prop} : (bIsi [.non, .raw (.ty "str")] h).en Q = Q (.bl false) h := by simp [bIsi, kindOf, isIn]
@[simp ↓] theorem isi_non_tuple {h : MH} {Q : D → MH → Prop} : (bIsi [.non, .raw (.ty "tuple")] h).en Q = Q (.bl false) h := by simp [bIsi, kindOf, isIn]
@[simp ↓] theorem isi_non_list {h : MH} {Q : D → MH → Prop} : (bIsi [.non, .raw (.ty "list")] h).en Q = Q (.bl false) h := by simp [bIsi, kindOf, isIn]
@[simp ↓] theorem isi_non_bool {h : MH} {Q : D → MH → Prop} : (bIsi [.non, .raw (.ty "bool")] h).en Q = Q (.bl false) h := by simp [bIsi, kindOf, isIn]
@[simp ↓] theorem isi_non_dict {h : MH} {Q : D → MH → Prop} : (bIsi [.non, .raw (.ty "dict")] h).en Q = Q (.bl false) h := by simp [bIsi, kindOf, isIn]
@[simp ↓] theorem isi_bl_int {b : Bool} {h : MH} {Q : D → MH → Prop} : (bIsi [(.bl b), .raw (.ty "int")] h).en Q = Q (.bl true) h := by simp [bIsi, kindOf, isIn]
@[simp ↓] theorem isi_bl_str {b : Bool} {h : MH} {Q : D → MH → Prop} : (bIsi [(.bl b), .raw (.ty "str")] h).en Q = Q (.bl false) h := by simp [bIsi, kindOf, isIn]
@[simp ↓] theorem isi_bl_tuple {b : Bool} {h : MH} {Q : D → MH → Prop} : (bIsi [(.bl b), .raw (.ty "tuple")] h).en Q = Q (.bl false) h := by simp [bIsi, kindOf, isIn]
@[simp ↓] theorem isi_bl_list {b : Bool} {h : MH} {Q : D → MH → Prop} : (bIsi [(.bl b), .raw (.ty "list")] h).en Q = Q (.bl false) h := by simp [bIsi, kindOf, isIn]
@[simp ↓] theorem isi_bl_bool {b : Bool} {h : MH} {Q : D → MH → Prop} : (bIsi [(.bl b), .raw (.ty "bool")] h).en Q = Q (.bl true) h := by simp [bIsi, kindOf, isIn]
@[simp ↓] theorem isi_bl_dict {b : Bool} {h : MH} {Q : D → MH → Prop} : (bIsi [(.bl b), .raw (.ty "dict")] h).en Q = Q (.bl false) h := by simp [bIsi, kindOf, isIn]
@[simp ↓] theorem isi_int_int {i : Int} {h : MH} {Q : D → MH → Prop} : (bIsi [(.int i), .raw (.ty "int")] h).en Q = Q (.bl true) h := by simp [bIsi, kindOf, isIn]
@[simp ↓] theorem isi_int_str {i : Int} {h : MH} {Q : D → MH → Prop} : (bIsi [(.int i), .raw (.ty "str")] h).en Q = Q (.bl false) h := by simp [bIsi, kindOf, isIn]
@[simp ↓] theorem isi_int_tuple {i : Int} {h : MH} {Q : D → MH → Prop} : (bIsi [(.int i), .raw (.ty "tuple")] h).en Q = Q (.bl false) h := by simp [bIsi, kindOf, isIn]
@[simp ↓] theorem isi_int_list {i : Int} {h : MH} {Q : D → MH → Prop} : (bIsi [(.int i), .raw (.ty "list")] h).en Q = Q (.bl false) h := by simp [bIsi, kindOf, isIn]
@[simp ↓] theorem isi_int_bool {i : Int} {h : MH} {Q : D → MH → Prop} : (bIsi [(.int i), .raw (.ty "bool")] h).en Q = Q (.bl false) h := by simp [bIsi, kindOf, isIn]
@[simp ↓] theorem isi_int_dict {i : Int} {h : MH} {Q : D → MH → Prop} : (bIsi [(.int i), .raw (.ty "dict")] h).en Q = Q (.bl false) h := by simp [bIsi, kindOf, isIn]
@[simp ↓] theorem isi_str_int {x : Str} {h : MH} {Q : D → MH → Prop} : (bIsi [(.str x), .raw (.ty "int")] h).en Q = Q (.bl false) h := by simp [bIsi, kindOf, isIn]
@[simp ↓] theorem isi_str_str {x : Str} {h : MH} {Q : D → MH → Prop} : (bIsi [(.str x), .raw (.ty "str")] h).en Q = Q (.bl true) h := by simp [bIsi, kindOf, isIn]
@[simp ↓] theorem isi_str_tuple {x : Str} {h : MH} {Q : D → MH → Prop} : (bIsi [(.str x), .raw (.ty "tuple")] h).en Q = Q (.bl false) h := by simp [bIsi, kindOf, isIn]
@[simp ↓] theorem isi_str_list {x : Str} {h : MH} {Q : D → MH → Prop} : (bIsi [(.str x), .raw (.ty "list")] h).en Q = Q (.bl false) h := by simp [bIsi, kindOf, isIn]
@[simp ↓] theorem isi_str_bool {x : Str} {h : MH} {Q : D → MH → Prop} : (bIsi [(.str x), .raw (.ty "bool")] h).en Q = Q (.bl false) h := by simp [bIsi, kindOf, isIn]
@[simp ↓] theorem isi_str_dict {x : Str} {h : MH} {Q : D → MH → Prop} : (bIsi [(.str x), .raw (.ty "dict")] h).en Q = Q (.bl false) h := by simp [bIsi, kindOf, isIn]
@[simp ↓] theorem isi_tup_int {xs : List D} {h : MH} {Q : D → MH → Prop} : (bIsi [(.tup xs), .raw (.ty "int")] h).en Q = Q (.bl false) h := by simp [bIsi, kindOf, isIn]
@[simp ↓] theorem isi_tup_str {xs : List D} {h : MH} {Q : D → MH → Prop} : (bIsi [(.tup xs), .raw (.ty "str")] h).en Q = Q (.bl false) h := by simp [bIsi, kindOf, isIn]
@[simp ↓] theorem isi_tup_tuple {xs : List D} {h : MH} {Q : D → MH → Prop} : (bIsi [(.tup xs), .raw (.ty "tuple")] h).en Q = Q (.bl true) h := by simp [bIsi, kindOf, isIn]
@[simp ↓] theorem isi_tup_list {xs : List D} {h : MH} {Q : D → MH → Prop} : (bIsi [(.tup xs), .raw (.ty "list")] h).en Q = Q (.bl false) h := by simp [bIsi, kindOf, isIn]
@[simp ↓] theorem isi_tup_bool {xs : List D} {h : MH} {Q : D → MH → Prop} : (bIsi [(.tup xs), .raw (.ty "bool")] h).en Q = Q (.bl false) h := by simp [bIsi, kindOf, isIn]
@[simp ↓] theorem isi_tup_dict {xs : List D} {h : MH} {Q : D → MH → Prop} : (bIsi [(.tup xs), .raw (.ty "dict")] h).en Q = Q (.bl false) h := by simp [bIsi, kindOf, isIn]
@[simp ↓] theorem isi_lst_int {xs : List D} {h : MH} {Q : D → MH → Prop} : (bIsi [(.lst xs), .raw (.ty "int")] h).en Q = Q (.bl false) h := by simp [bIsi, kindOf, isIn]
@[simp ↓] theorem isi_lst_str {xs : List D} {h : MH} {Q : D → MH → Prop} : (bIsi [(.lst xs), .raw (.ty "str")] h).en Q = Q (.bl false) h := by simp [bIsi, kindOf, isIn]
@[simp ↓] theorem isi_lst_tuple {xs : List D} {h : MH} {Q : D → MH → Prop} : (bIsi [(.lst xs), .raw (.ty "tuple")] h).en Q = Q (.bl false) h := by simp [bIsi, kindOf, isIn]
@[simp ↓] theorem isi_lst_list {xs : List D} {h : MH} {Q : D → MH → Prop} : (bIsi [(.lst xs), .raw (.ty "list")] h).en Q = Q (.bl true) h := by simp [bIsi, kindOf, isIn]
@[simp ↓] theorem isi_lst_bool {xs : List D} {h : MH} {Q : D → MH → Prop} : (bIsi [(.lst xs), .raw (.ty "bool")] h).en Q = Q (.bl false) h := by simp [bIsi, kindOf, isIn]
@[simp ↓] theorem isi_lst_dict {xs : List D} {h : MH} {Q : D → MH → Prop} : (bIsi [(.lst xs), .raw (.ty "dict")] h).en Q = Q (.bl false) h := by simp [bIsi, kindOf, isIn]
/-! ### lists of ints -/
def intsD (ns : List Int) : List D := ns.map .int
@[simp] theorem ints_len {ns : List Int} : (intsD ns).length = ns.length := by simp [intsD]
theorem ints_bd {N : Nat} : ∀ {ns : List Int}, bds N (intsD ns) = true
  | [] => rfl
  | n :: ns => by
    have := ints_bd (N := N) (ns := ns)
    unfold intsD at this ⊢
    simp [bds, D.bd, this]
theorem ints_set {ns : List Int} {j : Nat} {i : Int} : (intsD ns).set j (.int i) = intsD (ns.set j i) := by simp [intsD, List.map_set]
theorem intsD_at {ns : List Int} {j : Nat} {i : Int} (e : ns[j]? = some i) : (intsD ns)[j]? = some (.int i) := by simp [intsD, e]
theorem ixN_pos {n j : Nat} (hj : j < n) : ixN n (j : Int) = some j := by
  unfold ixN
  rw [if_pos (by omega), if_pos (by omega)]
  rfl
theorem at_pos {xs : List D} {j : Nat} {z : D} (e : xs[j]? = some z) : atI xs (j : Int) = some z := by
  unfold atI
  have hj : j < xs.length := (List.getElem?_eq_some_iff.mp e).1
  rw [ixN_pos hj]
  exact e
theorem rangeD_map {n : Nat} {φ : D → D} {f : Nat → Int} (e : ∀ i, i < n → φ (.int (i : Int)) = .int (f i)) : (rangeD 0 n).map φ = intsD ((List.range n).map f) := by
  unfold rangeD intsD
  rw [List.map_map, List.map_map]
  refine List.map_congr_left fun i hi => ?_
  simp only [Function.comp_apply, Int.zero_add]
  exact e i (List.mem_range.mp hi)
theorem mem_rangeD {n : Nat} {x : D} (h : x ∈ rangeD 0 n) : ∃ i : Nat, i < n ∧ x = .int (i : Int) := by
  unfold rangeD at h
  obtain ⟨i, h1, h2⟩ := List.mem_map.mp h
  exact ⟨i, List.mem_range.mp h1, by rw [← h2]; simp⟩
@[simp] theorem rangeD_len {lo : Int} {n : Nat} : (rangeD lo n).length = n := by simp [rangeD]
theorem range_set {n j : Nat} {f g : Nat → Int} (hj : j < n) (e : ∀ i, i < n → i ≠ j → g i = f i) : ((List.range n).map f).set j (g j) = (List.range n).map g := by
  refine List.ext_getElem (by simp) fun i h1 h2 => ?_
  simp only [List.length_set, List.length_map, List.length_range] at h1
  rw [List.getElem_set]
  simp only [List.getElem_map, List.getElem_range]
  split
  · rename_i e1
    subst e1; rfl
  · rename_i e1
    exact (e i h1 (fun z => e1 z.symm)).symm
theorem eqvAll_ints : ∀ {ns ms : List Int}, PyData.eqvAll (ns.map .int) (ms.map .int) = decide (ns = ms)
  | [], [] => rfl
  | [], m :: ms => by simp [PyData.eqvAll]
  | n :: ns, [] => by simp [PyData.eqvAll]
  | n :: ns, m :: ms => by
    simp only [List.map_cons, PyData.eqvAll, eqvAll_ints, PyData.eqv]
    exact Bool.eq_iff_iff.mpr (by simp)
theorem toP_tupI {ns : List Int} {h : MH} : toD h (.tup (intsD ns)) = some (.tuple (ns.map .int)) := by
  show toP (.tup (intsD ns)) = _
  unfold intsD
  simp only [toP, toPs_ints, Option.map_some]
theorem toP_lstI {ns : List Int} {h : MH} : toD h (.lst (intsD ns)) = some (.list (ns.map .int)) := by
  show toP (.lst (intsD ns)) = _
  unfold intsD
  simp only [toP, toPs_ints, Option.map_some]
theorem shaped_tupI {ns : List Int} : SeqAt.shaped (.tuple (ns.map .int)) = true := by
  unfold SeqAt.shaped
  have := depth_ints ns
  simp only [PyData.canLay0, lay_ints, Bool.true_and, PyData.depth]
  exact decide_eq_true (by omega)
theorem shaped_lstI {ns : List Int} : SeqAt.shaped (.list (ns.map .int)) = true := by
  unfold SeqAt.shaped
  have := depth_ints ns
  simp only [PyData.canLay0, lay_ints, Bool.true_and, PyData.depth]
  exact decide_eq_true (by omega)
section
variable {ns ms : List Int} {h : MH} {Q : D → MH → Prop}
@[simp ↓] theorem o_eqTI : (opEq (.tup (intsD ns)) (.tup (intsD ms)) h).en Q = Q (.bl (decide (ns = ms))) h := by
  rw [o_eqP (p := .tuple (ns.map .int)) (q := .tuple (ms.map .int)) toP_tupI toP_tupI shaped_tupI shaped_tupI (by simp)]
  simp only [PyData.eqv, eqvAll_ints]
@[simp ↓] theorem o_neTI : (opNe (.tup (intsD ns)) (.tup (intsD ms)) h).en Q = Q (.bl (!decide (ns = ms))) h := by
  rw [o_neP (p := .tuple (ns.map .int)) (q := .tuple (ms.map .int)) toP_tupI toP_tupI shaped_tupI shaped_tupI (by simp)]
  simp only [PyData.eqv, eqvAll_ints]
@[simp ↓] theorem o_eqLI : (opEq (.lst (intsD ns)) (.lst (intsD ms)) h).en Q = Q (.bl (decide (ns = ms))) h := by
  rw [o_eqP (p := .list (ns.map .int)) (q := .list (ms.map .int)) toP_lstI toP_lstI shaped_lstI shaped_lstI (by simp)]
  simp only [PyData.eqv, eqvAll_ints]
@[simp ↓] theorem o_neLI : (opNe (.lst (intsD ns)) (.lst (intsD ms)) h).en Q = Q (.bl (!decide (ns = ms))) h := by
  rw [o_neP (p := .list (ns.map .int)) (q := .list (ms.map .int)) toP_lstI toP_lstI shaped_lstI shaped_lstI (by simp)]
  simp only [PyData.eqv, eqvAll_ints]
theorem intsOf_ints : ∀ {ns : List Int}, intsOf (intsD ns) = some ns
  | [] => rfl
  | n :: ns => by
    have := intsOf_ints (ns := ns)
    unfold intsD at this ⊢
    simp only [List.map_cons, intsOf, this, Option.map_some]
@[simp ↓] theorem sum_lstI : (bSum [.lst (intsD ns)] h).en Q = Q (.int ns.sum) h := by
  simp only [bSum, seqOf, lstOf, Option.bind_some, intsOf_ints]
  rfl
@[simp ↓] theorem sum_tupI : (bSum [.tup (intsD ns)] h).en Q = Q (.int ns.sum) h := by
  simp only [bSum, seqOf, Option.bind_some, intsOf_ints]
  rfl
theorem max_tupI (hne : ns ≠ []) : (bMax [.tup (intsD ns)] h).en Q = Q (.int (maxI ns)) h := by
  cases ns with
  | nil => exact absurd rfl hne
  | cons n ns =>
    simp only [bMax, seqOf, Option.bind_some, intsOf_ints]
    rfl
theorem min_tupI (hne : ns ≠ []) : (bMin [.tup (intsD ns)] h).en Q = Q (.int (minI ns)) h := by
  cases ns with
  | nil => exact absurd rfl hne
  | cons n ns =>
    simp only [bMin, seqOf, Option.bind_some, intsOf_ints]
    rfl
theorem max_lstI (hne : ns ≠ []) : (bMax [.lst (intsD ns)] h).en Q = Q (.int (maxI ns)) h := by
  cases ns with
  | nil => exact absurd rfl hne
  | cons n ns =>
    simp only [bMax, seqOf, lstOf, Option.bind_some, intsOf_ints]
    rfl
theorem min_lstI (hne : ns ≠ []) : (bMin [.lst (intsD ns)] h).en Q = Q (.int (minI ns)) h := by
  cases ns with
  | nil => exact absurd rfl hne
  | cons n ns =>
    simp only [bMin, seqOf, lstOf, Option.bind_some, intsOf_ints]
    rfl
theorem maxI_spec (hne : ns ≠ []) : maxI ns ∈ ns ∧ ∀ y ∈ ns, y ≤ maxI ns := by
  cases ns with
  | nil => exact absurd rfl hne
  | cons n ns => exact maxI_mem
theorem minI_spec (hne : ns ≠ []) : minI ns ∈ ns ∧ ∀ y ∈ ns, minI ns ≤ y := by
  cases ns with
  | nil => exact absurd rfl hne
  | cons n ns => exact minI_mem
end
@[simp ↓] theorem ev_zip {a b : ME} {s : Sl} {h : MH} {QI : List D × Gd → MH → Prop} : (mZip a b s h).en QI = (a s h).en fun d h1 => (b s h1).en fun e h2 => (zipOf d e h2).en QI := en_bind.trans (en_ext fun _ _ => en_bind)
@[simp ↓] theorem ev_enum {a : ME} {s : Sl} {h : MH} {QI : List D × Gd → MH → Prop} : (mEnum a s h).en QI = (a s h).en fun d h1 => (enumOf d h1).en QI := en_bind
@[simp ↓] theorem zip_tl {xs ys : List D} {h : MH} {QI : List D × Gd → MH → Prop} : (zipOf (.tup xs) (.lst ys) h).en QI = QI (List.zipWith pairD xs ys, none) h := id rfl
@[simp ↓] theorem zip_tt {xs ys : List D} {h : MH} {QI : List D × Gd → MH → Prop} : (zipOf (.tup xs) (.tup ys) h).en QI = QI (List.zipWith pairD xs ys, none) h := id rfl
@[simp ↓] theorem zip_lt {xs ys : List D} {h : MH} {QI : List D × Gd → MH → Prop} : (zipOf (.lst xs) (.tup ys) h).en QI = QI (List.zipWith pairD xs ys, none) h := id rfl
@[simp ↓] theorem zip_ll {xs ys : List D} {h : MH} {QI : List D × Gd → MH → Prop} : (zipOf (.lst xs) (.lst ys) h).en QI = QI (List.zipWith pairD xs ys, none) h := id rfl
@[simp ↓] theorem cut_tup {xs : List D} {lo hi : Option Int} {h : MH} {Q : D → MH → Prop} : (opCut (.tup xs) lo hi h).en Q = Q (.tup (Tb.cutD xs lo hi)) h := id rfl
@[simp ↓] theorem cut_lst {xs : List D} {lo hi : Option Int} {h : MH} {Q : D → MH → Prop} : (opCut (.lst xs) lo hi h).en Q = Q (.lst (Tb.cutD xs lo hi)) h := id rfl
theorem add_tup {xs ys : List D} {h : MH} {Q : D → MH → Prop} (hz : xs.length + ys.length ≤ sizeLine) : (opAdd (.tup xs) (.tup ys) h).en Q = Q (.tup (xs ++ ys)) h := by
  rw [show opAdd (.tup xs) (.tup ys) h = .ok (.tup (xs ++ ys)) h from if_pos hz]
  rfl
/-! ### what repr tells -/
mutual
/-- numbers and texts that repr shows -/
def D.plain : D → Bool
  | .non | .bl _ => true
  | .int i => decide (i.natAbs < 2 ^ 200)
  | .str x => PyData.canLay0 (.str x)
  | .tup xs | .lst xs => plains xs
  | _ => false
def plains : List D → Bool
  | [] => true
  | x :: xs => x.plain && plains xs
end
mutual
/-- no less than what repr takes -/
def D.wt : D → Nat
  | .str x => 10 * x.length + 2
  | .tup xs | .lst xs => wts xs + 3
  | _ => 202
def wts : List D → Nat
  | [] => 0
  | x :: xs => x.wt + 2 + wts xs
end
mutual
def D.deep : D → Nat
  | .tup xs | .lst xs => deeps xs + 1
  | _ => 0
def deeps : List D → Nat
  | [] => 0
  | x :: xs => max x.deep (deeps xs)
end
structure Shown (d : D) (p : PyData) : Prop where
  to : toP d = some p
  can : p.showable = true
  len : p.shown.length ≤ d.wt
  lay : p.canLay0 = true
  dep : p.depth = d.deep
structure ShownAll (ds : List D) (ps : List PyData) : Prop where
  to : toPs ds = some ps
  can : PyData.showableAll ps = true
  len : ((PyData.shownAll ps).map (·.length)).sum + 2 * (PyData.shownAll ps).length ≤ wts ds
  lay : PyData.canLayAll0 ps = true
  dep : PyData.depthAll ps = deeps ds
mutual
theorem shown_of : ∀ {d : D}, d.plain = true → ∃ p, Shown d p
  | .non, _ => ⟨.none, rfl, rfl, by decide +kernel, rfl, rfl⟩
  | .bl b, _ => ⟨.bool b, rfl, rfl, by cases b <;> decide +kernel, rfl, rfl⟩
  | .int i, h => by
    have h1 : i.natAbs < 2 ^ 200 := by simpa [D.plain] using h
    have h2 : i.natAbs.log2 < 201 := by
      by_cases z : i.natAbs = 0
      · rw [z]; decide
      · have := (Nat.log2_lt z).mpr h1
        omega
    refine ⟨.int i, rfl, ?_, ?_, rfl, rfl⟩
    · simp only [PyData.showable, decide_eq_true_eq]
      omega
    · show (PySem.Str.ofString (toString i)).length ≤ 202
      rw [PySem.ofString_length]
      exact PySem.int_text_length_le (k := 201) (by decide) h2
  | .str x, h => by
    have h1 : PyData.canLay0 (.str x) = true := by simpa only [D.plain] using h
    refine ⟨.str x, rfl, rfl, ?_, h1, rfl⟩
    refine PySem.StrLaws.reprText_len x fun c hc => ?_
    have h2 : x.cps.all (· < 0x110000) = true := h1
    rw [Array.all_eq_true_iff_forall_mem] at h2
    have := of_decide_eq_true (h2 c (Array.mem_def.mpr hc))
    omega
  | .tup xs, h => by
    obtain ⟨ps, h1⟩ := showns_of (ds := xs) (by simpa only [D.plain] using h)
    refine ⟨.tuple ps, by simp only [toP, h1.to, Option.map_some], h1.can, ?_, h1.lay, by simp only [PyData.depth, D.deep, h1.dep]⟩
    have := PySem.tupleText_len_le (PyData.shownAll ps)
    have := h1.len
    simp only [PyData.shown, D.wt]
    omega
  | .lst xs, h => by
    obtain ⟨ps, h1⟩ := showns_of (ds := xs) (by simpa only [D.plain] using h)
    refine ⟨.list ps, by simp only [toP, h1.to, Option.map_some], h1.can, ?_, h1.lay, by simp only [PyData.depth, D.deep, h1.dep]⟩
    have := PySem.listText_len_le (PyData.shownAll ps)
    have := h1.len
    simp only [PyData.shown, D.wt]
    omega
  | .ref _, h => by simp [D.plain] at h
  | .raw _, h => by simp [D.plain] at h
  | .scr _, h => by simp [D.plain] at h
theorem showns_of : ∀ {ds : List D}, plains ds = true → ∃ ps, ShownAll ds ps
  | [], _ => ⟨[], rfl, rfl, by simp [PyData.shownAll, wts], rfl, rfl⟩
  | d :: ds, h => by
    simp only [plains, Bool.and_eq_true] at h
    obtain ⟨p, h1⟩ := shown_of h.1
    obtain ⟨ps, h2⟩ := showns_of h.2
    refine ⟨p :: ps, by simp only [toPs, h1.to, h2.to], by simp only [PyData.showableAll, h1.can, h2.can, Bool.and_self], ?_, by simp only [PyData.canLayAll0, h1.lay, h2.lay, Bool.and_self], by simp only [PyData.depthAll, deeps, h1.dep, h2.dep]⟩
    have := h1.len
    have := h2.len
    simp only [PyData.shownAll, List.map_cons, List.sum_cons, List.length_cons, wts]
    omega
end
/-- what repr tells of it -/
noncomputable def txt (d : D) : Str := ((toP d).map PyData.shown).getD ⟨#[]⟩
theorem o_repr {d : D} {h : MH} {Q : D → MH → Prop} (hp : d.plain = true) (hw : d.wt ≤ sizeLine) (hd : d.deep ≤ 64) : (bRepr [d] h).en Q = Q (.str (txt d)) h := by
  obtain ⟨p, h1⟩ := shown_of hp
  have e1 : toD h d = some p := by
    cases d <;> first | exact h1.to | (simp [D.plain] at hp; done)
  have e2 : bRepr [d] h = .ok (.str p.shown) h := by
    simp only [bRepr, e1]
    refine if_pos ⟨h1.can, Nat.le_trans h1.len hw, ?_⟩
    unfold SeqAt.shaped
    rw [h1.lay, h1.dep]
    simpa using hd
  rw [e2]
  show Q (.str p.shown) h = _
  unfold txt
  rw [h1.to]
  rfl
/-- a held list -/
theorem o_reprH {n : Nat} {xs : List D} {h : MH} {Q : D → MH → Prop} (e : h.get n = some (.lst xs)) (hp : (D.lst xs).plain = true) (hw : (D.lst xs).wt ≤ sizeLine) (hd : (D.lst xs).deep ≤ 64) : (bRepr [.ref n] h).en Q = Q (.str (txt (.lst xs))) h := by
  rw [← o_repr (h := h) (Q := Q) hp hw hd]
  have e1 : toD h (.ref n) = toD h (.lst xs) := by
    simp only [toD, e, toP]
  have e2 : bRepr [.ref n] h = bRepr [.lst xs] h := by simp only [bRepr, e1]
  rw [e2]
theorem ints_plain {ns : List Int} (h : ∀ n ∈ ns, n.natAbs < 2 ^ 200) : plains (intsD ns) = true := by
  induction ns with
  | nil => rfl
  | cons n ns ih =>
    simp only [intsD, List.map_cons, plains, Bool.and_eq_true, D.plain, decide_eq_true_eq]
    exact ⟨h n List.mem_cons_self, ih fun m hm => h m (List.mem_cons_of_mem _ hm)⟩
theorem ints_wt {ns : List Int} : wts (intsD ns) = 204 * ns.length := by
  induction ns with
  | nil => rfl
  | cons n ns ih =>
    unfold intsD at ih
    simp only [intsD, List.map_cons, wts, D.wt, List.length_cons, ih]
    omega
theorem ints_deep {ns : List Int} : deeps (intsD ns) = 0 := by
  induction ns with
  | nil => rfl
  | cons n ns ih =>
    unfold intsD at ih
    simp only [intsD, List.map_cons, deeps, D.deep, ih]
    rfl
end Tb
end

section
set_option maxHeartbeats 0
open PySem PySem.Spec PyProof.Rows L2 Tb
namespace Lw
def top (i : Nat) : Stmt := PySem.Challenge.pw_tablebills_k08_whole_deals_in_a_row.main.body.getD i (.Pass ⟨0, 0, 0, 0⟩)
abbrev FnP (K : PySem.W.Frag) (x : Str) (i : Nat) (dvs : List V) (f : Addr) (fd : FuncData) : Prop := FunD K x x (defArgs (top i)) (defBody (top i)) (defScope (top i)) dvs [] f fd
/-! ### mirrors -/
noncomputable def m_w_feed : MS :=
  mRet (mLstH (mCons (mCut opCut (mVar 0) mNoPart (mPart (mC (.int 63)))) (mCons (mC (.int 0)) (mCons (mC (.int 0)) (mCons (mC (.int 0)) (mNil))))))
noncomputable def f_w_feed : Fn := fnM 1 m_w_feed
noncomputable def m_up_to : MS :=
  mRetF (mOp opDiv (mOp opSub (mOp opAdd (mOp opSub (mVar 2) (mVar 1)) (mVar 0)) (mC (.int 1))) (mVar 0))
noncomputable def f_up_to : Fn := fnM 3 m_up_to
noncomputable def m_deal : MS :=
  mRetF (mCallB bTuple (mCons (mLc (mRange1 (mVar 1)) [3] (mgName 3) (mYes) (mOp opSub (mCall 3 f_up_to [] (mCons (mVar 1) (mCons (mVar 3) (mCons (mOp opAdd (mVar 2) (mVar 0)) (mNil))))) (mCall 3 f_up_to [] (mCons (mVar 1) (mCons (mVar 3) (mCons (mVar 2) (mNil)))))) finL) (mNil)))
noncomputable def f_deal : Fn := fnM 4 m_deal
noncomputable def m_dealt_on : MS :=
  mSeq (mSet 2 (mLstH (mNil))) <|
  mSeq (mSet 3 (mC (.int 0))) <|
  mSeq (mFor (mIter (mVar 0)) (mgName 4) (mSeq (mDo (mMeth "list" lAppend (mVar 2) (mCons (mCallK 2 1 3 f_deal gKw (mCons (mVar 4) (mCons (mVar 1) (mNil))) (mCons (mVar 3) (mNil))) (mNil)))) (mAug 3 iopAdd (mVar 4)))) <|
  mRetF (mVar 2)
noncomputable def f_dealt_on : Fn := fnM 5 m_dealt_on
noncomputable def m_w_draw : MS :=
  mSeq (mAugSub getIxL iopAdd setIx (mVar 0) (mC (.int 3)) (mC (.int 1))) <|
  mSeq (mIfS (mAsB (mOp opGt (mOp opIx (mVar 0) (mC (.int 2))) (mC (.int 0)))) (mSeq (mSet 2 (mOp opMod (mOp opIx (mVar 0) (mC (.int 2))) (mVar 1))) (mSeq (mSetSub setIx (mVar 0) (mC (.int 2)) (mOp opDiv (mOp opIx (mVar 0) (mC (.int 2))) (mVar 1))) (mRetF (mVar 2)))) (mSkip)) <|
  mSeq (mSet 3 (mIf (mAsB (mOp opEq (mOp opIx (mVar 0) (mC (.int 0))) (mLst (mNil)))) (mC (.int 7)) (mOp opIx (mOp opIx (mVar 0) (mC (.int 0))) (mOp opMod (mOp opIx (mVar 0) (mC (.int 1))) (mCallB bLen (mCons (mOp opIx (mVar 0) (mC (.int 0))) (mNil))))))) <|
  mSeq (mAugSub getIxL iopAdd setIx (mVar 0) (mC (.int 1)) (mC (.int 1))) <|
  mSeq (mIfS (mAnd (mAsB (mOp opGe (mVar 3) (mOp opPow (mC (.int 10)) (mC (.int 18))))) (mAsB (mOp opLe (mOp opIx (mVar 0) (mC (.int 1))) (mCallB bLen (mCons (mOp opIx (mVar 0) (mC (.int 0))) (mNil)))))) (mSeq (mSetSub setIx (mVar 0) (mC (.int 2)) (mOp opDiv (mVar 3) (mVar 1))) (mRetF (mOp opMod (mVar 3) (mVar 1)))) (mSkip)) <|
  mSeq (mSet 4 (mOp opIx (mVar 0) (mC (.int 3)))) <|
  mSeq (mSet 5 (mOp opMod (mOp opAdd (mOp opAdd (mOp opMod (mVar 3) (mC (.int 2147483629))) (mOp opMul (mOp opMul (mC (.int 69621)) (mVar 4)) (mVar 4))) (mOp opMul (mC (.int 7)) (mVar 4))) (mC (.int 2147483629)))) <|
  mSeq (mSet 5 (mOp opMod (mOp opAdd (mOp opMul (mVar 5) (mVar 5)) (mOp opMul (mC (.int 48271)) (mVar 4))) (mC (.int 2147483647)))) <|
  mSeq (mSet 5 (mOp opMod (mOp opAdd (mOp opMul (mVar 5) (mVar 5)) (mOp opMul (mC (.int 16807)) (mVar 4))) (mC (.int 2147483587)))) <|
  mRetF (mOp opMod (mOp opDiv (mOp opMod (mOp opAdd (mOp opMul (mVar 5) (mVar 5)) (mVar 4)) (mC (.int 2147483629))) (mC (.int 131))) (mVar 1))
noncomputable def f_w_draw : Fn := fnM 6 m_w_draw
noncomputable def m_w_added : MS :=
  mRetF (mLc (mRange1 (mVar 1)) [3] (mgName 3) (mYes) (mCallB bSum (mCons (mLc (mIter (mVar 0)) [2] (mgName 2) (mYes) (mOp opIx (mVar 2) (mVar 3)) finL) (mNil))) finL)
noncomputable def f_w_added : Fn := fnM 4 m_w_added
noncomputable def m_w_pence : MS :=
  mSeq (mSet 1 (mOp opSub (mOp opPow (mC (.int 10)) (mC (.int 10))) (mCall 2 f_w_draw [] (mCons (mVar 0) (mCons (mC (.int 30)) (mNil)))))) <|
  mRetF (mOp opIx (mTup (mCons (mC (.int 0)) (mCons (mCall 2 f_w_draw [] (mCons (mVar 0) (mCons (mC (.int 40)) (mNil)))) (mCons (mCall 2 f_w_draw [] (mCons (mVar 0) (mCons (mC (.int 100000)) (mNil)))) (mCons (mCall 2 f_w_draw [] (mCons (mVar 0) (mCons (mOp opPow (mC (.int 10)) (mC (.int 10))) (mNil)))) (mCons (mVar 1) (mNil))))))) (mCall 2 f_w_draw [] (mCons (mVar 0) (mCons (mC (.int 5)) (mNil)))))
noncomputable def f_w_pence : Fn := fnM 2 m_w_pence
noncomputable def m_w_row_right : MS :=
  mSeq (mSet 3 (mC (.int 0))) <|
  mSeq (mFor (mZip (mVar 0) (mVar 2)) (mgTup 2 (mgCons (mgName 4) (mgCons (mgName 5) (mgNil)))) (mSeq (mIfS (mOr (mAsB (mOp opNe (mCallB bLen (mCons (mVar 5) (mNil))) (mVar 1))) (mOr (mAsB (mOp opNe (mCallB bSum (mCons (mVar 5) (mNil))) (mVar 4))) (mAsB (mOp opNe (mVar 5) (mCall 3 f_deal [] (mCons (mVar 4) (mCons (mVar 1) (mCons (mVar 3) (mNil))))))))) (mRetF (mC (.bl false))) (mSkip)) (mSeq (mIfS (mOr (mAsB (mOp opNe (mCallB bMin (mCons (mVar 5) (mNil))) (mOp opDiv (mVar 4) (mVar 1)))) (mAsB (mOp opGt (mOp opSub (mCallB bMax (mCons (mVar 5) (mNil))) (mCallB bMin (mCons (mVar 5) (mNil)))) (mC (.int 1))))) (mRetF (mC (.bl false))) (mSkip)) (mAug 3 iopAdd (mVar 4))))) <|
  mRetF (mOp opEq (mCallB bLen (mCons (mVar 2) (mNil))) (mCallB bLen (mCons (mVar 0) (mNil))))
noncomputable def f_w_row_right : Fn := fnM 6 m_w_row_right
noncomputable def m_w_deals_right : MS :=
  mSeq (mPar3 2 3 4 (mCall 1 f_w_pence [] (mCons (mVar 0) (mNil))) (mCall 1 f_w_pence [] (mCons (mVar 0) (mNil))) (mCall 1 f_w_pence [] (mCons (mVar 0) (mNil)))) <|
  mSeq (mSet 5 (mCall 2 f_w_added [] (mCons (mLst (mCons (mCall 3 f_deal [] (mCons (mVar 2) (mCons (mVar 1) (mCons (mVar 4) (mNil))))) (mCons (mCall 3 f_deal [] (mCons (mVar 3) (mCons (mVar 1) (mCons (mOp opAdd (mVar 4) (mVar 2)) (mNil))))) (mNil)))) (mCons (mVar 1) (mNil))))) <|
  mSeq (mIfS (mAsB (mOp opNe (mVar 5) (mCallB bList (mCons (mCall 3 f_deal [] (mCons (mOp opAdd (mVar 2) (mVar 3)) (mCons (mVar 1) (mCons (mVar 4) (mNil))))) (mNil))))) (mRetF (mC (.bl false))) (mSkip)) <|
  mSeq (mIfS (mAsB (mOp opNe (mCall 3 f_deal [] (mCons (mVar 2) (mCons (mVar 1) (mCons (mOp opAdd (mVar 4) (mOp opMul (mVar 1) (mCall 2 f_w_draw [] (mCons (mVar 0) (mCons (mC (.int 1000)) (mNil)))))) (mNil))))) (mCall 3 f_deal [] (mCons (mVar 2) (mCons (mVar 1) (mCons (mVar 4) (mNil))))))) (mRetF (mC (.bl false))) (mSkip)) <|
  mSeq (mSet 6 (mCall 3 f_deal [] (mCons (mVar 2) (mCons (mVar 1) (mCons (mVar 4) (mNil)))))) <|
  mRetF (mOp opEq (mCall 3 f_deal [] (mCons (mVar 2) (mCons (mVar 1) (mCons (mOp opAdd (mVar 4) (mC (.int 1))) (mNil))))) (mOp opAdd (mCut opCut (mVar 6) (mPart (mNeg (mC (.int 1)))) mNoPart) (mCut opCut (mVar 6) mNoPart (mPart (mNeg (mC (.int 1)))))))
noncomputable def f_w_deals_right : Fn := fnM 7 m_w_deals_right
noncomputable def m_law : MS :=
  mSeq (mSet 1 (mCall 1 f_w_feed [] (mCons (mVar 0) (mNil)))) <|
  mSeq (mFor (mRange1 (mC (.int 3))) (mgName 2) (mSeq (mSet 3 (mCallB bTuple (mCons (mLc (mRange1 (mCall 2 f_w_draw [] (mCons (mVar 1) (mCons (mOp opIx (mTup (mCons (mC (.int 6)) (mCons (mC (.int 41)) (mNil)))) (mOp opDiv (mCall 2 f_w_draw [] (mCons (mVar 1) (mCons (mC (.int 3)) (mNil)))) (mC (.int 2)))) (mNil))))) [4] (mgName 4) (mYes) (mCall 1 f_w_pence [] (mCons (mVar 1) (mNil))) finL) (mNil)))) (mSeq (mSet 5 (mOp opAdd (mC (.int 1)) (mCall 2 f_w_draw [] (mCons (mVar 1) (mCons (mC (.int 12)) (mNil)))))) (mSeq (mSet 6 (mCall 2 f_dealt_on [] (mCons (mVar 3) (mCons (mVar 5) (mNil))))) (mSeq (mIfS (mOr (mNot (mTruth (mCall 3 f_w_row_right [] (mCons (mVar 3) (mCons (mVar 5) (mCons (mVar 6) (mNil))))))) (mNot (mTruth (mCall 2 f_w_deals_right [] (mCons (mVar 1) (mCons (mVar 5) (mNil))))))) (mRetF (mC (.bl false))) (mSkip)) (mFor (mRange1 (mCallB bLen (mCons (mVar 3) (mNil)))) (mgName 7) (mSeq (mSet 8 (mCall 2 f_w_added [] (mCons (mCut opCut (mVar 6) (mPart (mVar 7)) (mPart (mOp opAdd (mOp opAdd (mVar 7) (mC (.int 1))) (mCall 2 f_w_draw [] (mCons (mVar 1) (mCons (mCallB bLen (mCons (mVar 3) (mNil))) (mNil))))))) (mCons (mVar 5) (mNil))))) (mIfS (mAsB (mOp opGt (mOp opSub (mCallB bMax (mCons (mVar 8) (mNil))) (mCallB bMin (mCons (mVar 8) (mNil)))) (mC (.int 1)))) (mRetF (mC (.bl false))) (mSkip))))))))) <|
  mRetF (mC (.bl true))
noncomputable def f_law : Fn := fnM 9 m_law
/-! ### their texts -/
noncomputable def sh_up_to_3 : Sh := ⟨"up_to", 3, [], 3, f_up_to, [], gKw⟩
noncomputable def sh_deal_2_begun : Sh := ⟨"deal", 2, ["begun"], 3, f_deal, [], gKw⟩
noncomputable def sh_w_draw_2 : Sh := ⟨"_law_draw", 2, [], 2, f_w_draw, [], gKw⟩
noncomputable def sh_deal_3 : Sh := ⟨"deal", 3, [], 3, f_deal, [], gKw⟩
noncomputable def sh_w_pence_1 : Sh := ⟨"_law_pence", 1, [], 1, f_w_pence, [], gKw⟩
noncomputable def sh_w_added_2 : Sh := ⟨"_law_added", 2, [], 2, f_w_added, [], gKw⟩
noncomputable def sh_w_feed_1 : Sh := ⟨"_law_feed", 1, [], 1, f_w_feed, [], gKw⟩
noncomputable def sh_w_deals_right_2 : Sh := ⟨"_law_deals_right", 2, [], 2, f_w_deals_right, [], gKw⟩
noncomputable def sh_w_row_right_3 : Sh := ⟨"_law_row_right", 3, [], 3, f_w_row_right, [], gKw⟩
noncomputable def sh_dealt_on_2 : Sh := ⟨"dealt_on", 2, [], 2, f_dealt_on, [], gKw⟩
noncomputable def c_w_feed : Cfg := ⟨["_law_script"], defScope (top 5), [], [], [], [], true, false, []⟩
theorem s_w_feed : FnScope ["_law_script"] ["_law_script"] (defScope (top 5)) := ⟨rfl, rfl, rfl, by decide +kernel, rfl, by decide +kernel, by decide +kernel⟩
theorem e_w_feed : cBody c_w_feed (defBody (top 5)) = some m_w_feed := by kernel_rfl
noncomputable def c_up_to : Cfg := ⟨["many", "hand", "end"], defScope (top 1), [], [], [], [], false, false, []⟩
theorem s_up_to : FnScope ["many", "hand", "end"] ["many", "hand", "end"] (defScope (top 1)) := ⟨rfl, rfl, rfl, by decide +kernel, rfl, by decide +kernel, by decide +kernel⟩
theorem e_up_to : cBody c_up_to (defBody (top 1)) = some m_up_to := by kernel_rfl
noncomputable def c_deal : Cfg := ⟨["pence", "many", "begun", "hand"], defScope (top 2), [sh_up_to_3], [], ["tuple", "range"], [], false, false, []⟩
theorem s_deal : FnScope ["pence", "many", "begun", "hand"] ["pence", "many", "begun"] (defScope (top 2)) := ⟨rfl, rfl, rfl, by decide +kernel, rfl, by decide +kernel, by decide +kernel⟩
theorem e_deal : cBody c_deal (defBody (top 2)) = some m_deal := by kernel_rfl
noncomputable def c_dealt_on : Cfg := ⟨["pieces", "many", "told", "begun", "pence"], defScope (top 3), [sh_deal_2_begun], [], [], ["told"], false, false, []⟩
theorem s_dealt_on : FnScope ["pieces", "many", "told", "begun", "pence"] ["pieces", "many"] (defScope (top 3)) := ⟨rfl, rfl, rfl, by decide +kernel, rfl, by decide +kernel, by decide +kernel⟩
theorem e_dealt_on : cBody c_dealt_on (defBody (top 3)) = some m_dealt_on := by kernel_rfl
noncomputable def c_w_draw : Cfg := ⟨["_law_feed_here", "_law_many", "_law_told", "_law_cell", "_law_turn", "_law_mixed"], defScope (top 6), [], [], ["len"], ["_law_feed_here"], false, false, []⟩
theorem s_w_draw : FnScope ["_law_feed_here", "_law_many", "_law_told", "_law_cell", "_law_turn", "_law_mixed"] ["_law_feed_here", "_law_many"] (defScope (top 6)) := ⟨rfl, rfl, rfl, by decide +kernel, rfl, by decide +kernel, by decide +kernel⟩
theorem e_w_draw : cBody c_w_draw (defBody (top 6)) = some m_w_draw := by kernel_rfl
noncomputable def c_w_added : Cfg := ⟨["_law_rows", "_law_many", "_law_row", "_law_hand"], defScope (top 8), [], [], ["range", "sum"], [], false, false, []⟩
theorem s_w_added : FnScope ["_law_rows", "_law_many", "_law_row", "_law_hand"] ["_law_rows", "_law_many"] (defScope (top 8)) := ⟨rfl, rfl, rfl, by decide +kernel, rfl, by decide +kernel, by decide +kernel⟩
theorem e_w_added : cBody c_w_added (defBody (top 8)) = some m_w_added := by kernel_rfl
noncomputable def c_w_pence : Cfg := ⟨["_law_feed_here", "_law_far"], defScope (top 7), [sh_w_draw_2], [], [], ["_law_feed_here"], false, false, []⟩
theorem s_w_pence : FnScope ["_law_feed_here", "_law_far"] ["_law_feed_here"] (defScope (top 7)) := ⟨rfl, rfl, rfl, by decide +kernel, rfl, by decide +kernel, by decide +kernel⟩
theorem e_w_pence : cBody c_w_pence (defBody (top 7)) = some m_w_pence := by kernel_rfl
noncomputable def c_w_row_right : Cfg := ⟨["_law_pieces", "_law_many", "_law_told", "_law_begun", "_law_pence_here", "_law_row"], defScope (top 9), [sh_deal_3], [], ["zip", "max", "min", "sum", "len"], [], false, false, []⟩
theorem s_w_row_right : FnScope ["_law_pieces", "_law_many", "_law_told", "_law_begun", "_law_pence_here", "_law_row"] ["_law_pieces", "_law_many", "_law_told"] (defScope (top 9)) := ⟨rfl, rfl, rfl, by decide +kernel, rfl, by decide +kernel, by decide +kernel⟩
theorem e_w_row_right : cBody c_w_row_right (defBody (top 9)) = some m_w_row_right := by kernel_rfl
noncomputable def c_w_deals_right : Cfg := ⟨["_law_feed_here", "_law_many", "_law_one", "_law_other", "_law_begun", "_law_both", "_law_row"], defScope (top 10), [sh_w_pence_1, sh_w_added_2, sh_deal_3, sh_w_draw_2], [], ["list"], ["_law_feed_here"], false, false, []⟩
theorem s_w_deals_right : FnScope ["_law_feed_here", "_law_many", "_law_one", "_law_other", "_law_begun", "_law_both", "_law_row"] ["_law_feed_here", "_law_many"] (defScope (top 10)) := ⟨rfl, rfl, rfl, by decide +kernel, rfl, by decide +kernel, by decide +kernel⟩
theorem e_w_deals_right : cBody c_w_deals_right (defBody (top 10)) = some m_w_deals_right := by kernel_rfl
noncomputable def c_law : Cfg := ⟨["_law_script", "_law_feed_here", "_law_turn", "_law_pieces", "_law_k", "_law_many", "_law_told", "_law_begin", "_law_own"], defScope (top 11), [sh_w_feed_1, sh_w_added_2, sh_w_draw_2, sh_w_deals_right_2, sh_w_row_right_3, sh_dealt_on_2, sh_w_pence_1], [], ["range", "len", "max", "min", "tuple"], ["_law_feed_here"], false, false, []⟩
theorem s_law : FnScope ["_law_script", "_law_feed_here", "_law_turn", "_law_pieces", "_law_k", "_law_many", "_law_told", "_law_begin", "_law_own"] ["_law_script"] (defScope (top 11)) := ⟨rfl, rfl, rfl, by decide +kernel, rfl, by decide +kernel, by decide +kernel⟩
theorem e_law : cBody c_law (defBody (top 11)) = some m_law := by kernel_rfl
/-! ### the head -/
def d_w_feed : He.DefD := ⟨("_law_feed", none), "_law_feed", "_law_feed", defArgs (top 5), defBody (top 5), defScope (top 5), [], []⟩
def d_up_to : He.DefD := ⟨("up_to", none), "up_to", "up_to", defArgs (top 1), defBody (top 1), defScope (top 1), [], []⟩
def d_deal : He.DefD := ⟨("deal", none), "deal", "deal", defArgs (top 2), defBody (top 2), defScope (top 2), [(.int 0)], []⟩
def d_dealt_on : He.DefD := ⟨("dealt_on", none), "dealt_on", "dealt_on", defArgs (top 3), defBody (top 3), defScope (top 3), [], []⟩
def d_w_draw : He.DefD := ⟨("_law_draw", none), "_law_draw", "_law_draw", defArgs (top 6), defBody (top 6), defScope (top 6), [], []⟩
def d_w_added : He.DefD := ⟨("_law_added", none), "_law_added", "_law_added", defArgs (top 8), defBody (top 8), defScope (top 8), [], []⟩
def d_w_pence : He.DefD := ⟨("_law_pence", none), "_law_pence", "_law_pence", defArgs (top 7), defBody (top 7), defScope (top 7), [], []⟩
def d_w_row_right : He.DefD := ⟨("_law_row_right", none), "_law_row_right", "_law_row_right", defArgs (top 9), defBody (top 9), defScope (top 9), [], []⟩
def d_w_deals_right : He.DefD := ⟨("_law_deals_right", none), "_law_deals_right", "_law_deals_right", defArgs (top 10), defBody (top 10), defScope (top 10), [], []⟩
def d_law : He.DefD := ⟨("law", none), "law", "law", defArgs (top 11), defBody (top 11), defScope (top 11), [], []⟩
def fn : List He.DefD := [d_w_feed, d_up_to, d_deal, d_dealt_on, d_w_draw, d_w_added, d_w_pence, d_w_row_right, d_w_deals_right, d_law]
def fa : List He.Fa := [.glo "_law_feed", .glo "up_to", .glo "deal", .glo "dealt_on", .glo "_law_draw", .glo "_law_added", .glo "_law_pence", .glo "_law_row_right", .glo "_law_deals_right", .glo "law", .free "tuple", .free "range", .free "len", .free "sum", .free "zip", .free "max", .free "min", .free "list"]
abbrev Ro : PySem.W.OpenRow := PySem.W.OpenLaw.row PySem.Challenge.rw_tablebills_k08_whole_deals_in_a_row
abbrev hk : PySem.W.Hook := He.hookD 4 fa fn
def ob (s : PySem.W.SharedT) : He.AlD := He.obsDG 4 fa fn (HandSHeadRun.getT s)
theorem ob_eq (s : PySem.W.SharedT) : ob s = hk.obs s.abs := He.obsDG_eq (HandSHeadRun.getT_eq s)
theorem run (w : World) : HandSHeadRun.RunEq Ro (PySem.W.view Ro.prog [11]) hk ob 900 ["up_to", "deal", "dealt_on", "_law_feed", "_law_draw", "_law_pence", "_law_added", "_law_row_right", "_law_deals_right"] w := by
  intro os
  kernel_rfl
theorem facts {P : Program} {w : World} {K : PySem.W.Frag} {h : Heap} {mg : Str → Option Value} {f : Addr} (X : K.In h) (G : h.Ns mainGlobals mg) (hfa : mg ("law" : Str) = some (.ref f)) (c : He.SaysD fa fn K) :
    ∃ fd : FuncData, (∀ (s : Shared) (v : Value), BindsTo s fd ⟨[v], []⟩ [("_law_script", v)]) ∧ ∀ base : Heap, K.In base → base.Ns mainGlobals mg → FnG P w K mg base 4 f fd ["_law_script"] (spM K f_law 1) := by
  obtain ⟨fd_w_feed, F_w_feed⟩ := c.def_ 0 (d := d_w_feed) rfl
  have g_w_feed := He.glo_ok X G (c.fact 0 (f := .glo "_law_feed") rfl)
  obtain ⟨fd_up_to, F_up_to⟩ := c.def_ 1 (d := d_up_to) rfl
  have g_up_to := He.glo_ok X G (c.fact 1 (f := .glo "up_to") rfl)
  obtain ⟨fd_deal, F_deal⟩ := c.def_ 2 (d := d_deal) rfl
  have g_deal := He.glo_ok X G (c.fact 2 (f := .glo "deal") rfl)
  obtain ⟨fd_dealt_on, F_dealt_on⟩ := c.def_ 3 (d := d_dealt_on) rfl
  have g_dealt_on := He.glo_ok X G (c.fact 3 (f := .glo "dealt_on") rfl)
  obtain ⟨fd_w_draw, F_w_draw⟩ := c.def_ 4 (d := d_w_draw) rfl
  have g_w_draw := He.glo_ok X G (c.fact 4 (f := .glo "_law_draw") rfl)
  obtain ⟨fd_w_added, F_w_added⟩ := c.def_ 5 (d := d_w_added) rfl
  have g_w_added := He.glo_ok X G (c.fact 5 (f := .glo "_law_added") rfl)
  obtain ⟨fd_w_pence, F_w_pence⟩ := c.def_ 6 (d := d_w_pence) rfl
  have g_w_pence := He.glo_ok X G (c.fact 6 (f := .glo "_law_pence") rfl)
  obtain ⟨fd_w_row_right, F_w_row_right⟩ := c.def_ 7 (d := d_w_row_right) rfl
  have g_w_row_right := He.glo_ok X G (c.fact 7 (f := .glo "_law_row_right") rfl)
  obtain ⟨fd_w_deals_right, F_w_deals_right⟩ := c.def_ 8 (d := d_w_deals_right) rfl
  have g_w_deals_right := He.glo_ok X G (c.fact 8 (f := .glo "_law_deals_right") rfl)
  obtain ⟨fd_law, F_law⟩ := c.def_ 9 (d := d_law) rfl
  have g_law := He.glo_ok X G (c.fact 9 (f := .glo "law") rfl)
  have b_tuple := He.free_ok X G (c.fact 10 (f := .free "tuple") rfl)
  have b_range := He.free_ok X G (c.fact 11 (f := .free "range") rfl)
  have b_len := He.free_ok X G (c.fact 12 (f := .free "len") rfl)
  have b_sum := He.free_ok X G (c.fact 13 (f := .free "sum") rfl)
  have b_zip := He.free_ok X G (c.fact 14 (f := .free "zip") rfl)
  have b_max := He.free_ok X G (c.fact 15 (f := .free "max") rfl)
  have b_min := He.free_ok X G (c.fact 16 (f := .free "min") rfl)
  have b_list := He.free_ok X G (c.fact 17 (f := .free "list") rfl)
  have e := hfa.symm.trans g_law
  cases e
  have bl := FunD.bindsA (ps := ["_law_script"]) F_law fun _ _ _ _ _ _ us hl => match us, hl with | [_], _ => rfl
  refine ⟨fd_law, fun s v => bl s [v] rfl, fun base _ _ => ?_⟩
  have G_w_feed : FnG P w K mg base 1 _ fd_w_feed ["_law_script"] (spM K f_w_feed 1) := fng_of (k := 0) (c := c_w_feed) F_w_feed s_w_feed rfl rfl e_w_feed trivial trivial trivial
  have hsh_w_feed_1 : ShG P w K mg base 1 sh_w_feed_1 := sh_pos G_w_feed g_w_feed F_w_feed.kp (F_w_feed.bindsN fun _ _ _ _ _ _ us hl => match us, hl with | [_], _ => rfl)
  have G_up_to : FnG P w K mg base 1 _ fd_up_to ["many", "hand", "end"] (spM K f_up_to 3) := fng_of (k := 0) (c := c_up_to) F_up_to s_up_to rfl rfl e_up_to trivial trivial trivial
  have hsh_up_to_3 : ShG P w K mg base 1 sh_up_to_3 := sh_pos G_up_to g_up_to F_up_to.kp (F_up_to.bindsN fun _ _ _ _ _ _ us hl => match us, hl with | [_, _, _], _ => rfl)
  have G_deal : FnG P w K mg base 2 _ fd_deal ["pence", "many", "begun"] (spM K f_deal 3) := fng_of (k := 1) (c := c_deal) F_deal s_deal rfl rfl e_deal ⟨hsh_up_to_3.mono (by decide), trivial⟩ trivial ⟨b_tuple, b_range, trivial⟩
  obtain ⟨its_sh_deal_2_begun, kb_sh_deal_2_begun⟩ := kb_dfl (ps := ["pence", "many", "begun"]) F_deal 2 ["begun"] (fun us _ ws => us ++ ws) (List.cons_ne_nil _ _) (fun r1 _ r3 => r1.append r3) fun _ _ _ _ _ _ _ us its ws h1 h2 h3 => match us, its, ws, h1, h2, h3 with | [_, _], [_], [_], _, _, _ => ⟨_, rfl, rfl⟩
  have hsh_deal_2_begun : ShG P w K mg base 2 sh_deal_2_begun := sh_kw G_deal g_deal F_deal.kp (by decide) kb_sh_deal_2_begun fun _ _ _ _ _ r1 r2 => r1.append r2
  have kb_sh_deal_3 := FunD.binds1 (ps := ["pence", "many", "begun"]) F_deal 3 1 (List.cons_ne_nil _ _) rfl fun _ _ _ _ _ _ _ us its h1 h2 => match us, its, h1, h2 with | [_, _, _], [_], _, _ => ⟨_, rfl, rfl⟩
  have hsh_deal_3 : ShG P w K mg base 2 sh_deal_3 := sh_dfl G_deal g_deal F_deal.kp kb_sh_deal_3 fun _ => Reps.nil
  have G_dealt_on : FnG P w K mg base 3 _ fd_dealt_on ["pieces", "many"] (spM K f_dealt_on 2) := fng_of (k := 2) (c := c_dealt_on) F_dealt_on s_dealt_on rfl rfl e_dealt_on ⟨hsh_deal_2_begun.mono (by decide), trivial⟩ trivial trivial
  have hsh_dealt_on_2 : ShG P w K mg base 3 sh_dealt_on_2 := sh_pos G_dealt_on g_dealt_on F_dealt_on.kp (F_dealt_on.bindsN fun _ _ _ _ _ _ us hl => match us, hl with | [_, _], _ => rfl)
  have G_w_draw : FnG P w K mg base 1 _ fd_w_draw ["_law_feed_here", "_law_many"] (spM K f_w_draw 2) := fng_of (k := 0) (c := c_w_draw) F_w_draw s_w_draw rfl rfl e_w_draw trivial trivial ⟨b_len, trivial⟩
  have hsh_w_draw_2 : ShG P w K mg base 1 sh_w_draw_2 := sh_pos G_w_draw g_w_draw F_w_draw.kp (F_w_draw.bindsN fun _ _ _ _ _ _ us hl => match us, hl with | [_, _], _ => rfl)
  have G_w_added : FnG P w K mg base 1 _ fd_w_added ["_law_rows", "_law_many"] (spM K f_w_added 2) := fng_of (k := 0) (c := c_w_added) F_w_added s_w_added rfl rfl e_w_added trivial trivial ⟨b_range, b_sum, trivial⟩
  have hsh_w_added_2 : ShG P w K mg base 1 sh_w_added_2 := sh_pos G_w_added g_w_added F_w_added.kp (F_w_added.bindsN fun _ _ _ _ _ _ us hl => match us, hl with | [_, _], _ => rfl)
  have G_w_pence : FnG P w K mg base 2 _ fd_w_pence ["_law_feed_here"] (spM K f_w_pence 1) := fng_of (k := 1) (c := c_w_pence) F_w_pence s_w_pence rfl rfl e_w_pence ⟨hsh_w_draw_2.mono (by decide), trivial⟩ trivial trivial
  have hsh_w_pence_1 : ShG P w K mg base 2 sh_w_pence_1 := sh_pos G_w_pence g_w_pence F_w_pence.kp (F_w_pence.bindsN fun _ _ _ _ _ _ us hl => match us, hl with | [_], _ => rfl)
  have G_w_row_right : FnG P w K mg base 3 _ fd_w_row_right ["_law_pieces", "_law_many", "_law_told"] (spM K f_w_row_right 3) := fng_of (k := 2) (c := c_w_row_right) F_w_row_right s_w_row_right rfl rfl e_w_row_right ⟨hsh_deal_3.mono (by decide), trivial⟩ trivial ⟨b_zip, b_max, b_min, b_sum, b_len, trivial⟩
  have hsh_w_row_right_3 : ShG P w K mg base 3 sh_w_row_right_3 := sh_pos G_w_row_right g_w_row_right F_w_row_right.kp (F_w_row_right.bindsN fun _ _ _ _ _ _ us hl => match us, hl with | [_, _, _], _ => rfl)
  have G_w_deals_right : FnG P w K mg base 3 _ fd_w_deals_right ["_law_feed_here", "_law_many"] (spM K f_w_deals_right 2) := fng_of (k := 2) (c := c_w_deals_right) F_w_deals_right s_w_deals_right rfl rfl e_w_deals_right ⟨hsh_w_pence_1.mono (by decide), hsh_w_added_2.mono (by decide), hsh_deal_3.mono (by decide), hsh_w_draw_2.mono (by decide), trivial⟩ trivial ⟨b_list, trivial⟩
  have hsh_w_deals_right_2 : ShG P w K mg base 3 sh_w_deals_right_2 := sh_pos G_w_deals_right g_w_deals_right F_w_deals_right.kp (F_w_deals_right.bindsN fun _ _ _ _ _ _ us hl => match us, hl with | [_, _], _ => rfl)
  have G_law : FnG P w K mg base 4 _ fd_law ["_law_script"] (spM K f_law 1) := fng_of (k := 3) (c := c_law) F_law s_law rfl rfl e_law ⟨hsh_w_feed_1.mono (by decide), hsh_w_added_2.mono (by decide), hsh_w_draw_2.mono (by decide), hsh_w_deals_right_2.mono (by decide), hsh_w_row_right_3.mono (by decide), hsh_dealt_on_2.mono (by decide), hsh_w_pence_1.mono (by decide), trivial⟩ trivial ⟨b_range, b_len, b_max, b_min, b_tuple, trivial⟩
  exact G_law
theorem ends (hT : Tells f_law) : PySem.Challenge.rw_tablebills_k08_whole_deals_in_a_row.Holds := by
  w_on; o_law
  refine HandSHeadRun.head_any (r := Ro) (q := PySem.W.view Ro.prog [11]) (H := hk) (ob := ob) (M := 900) (loose := ["up_to", "deal", "dealt_on", "_law_feed", "_law_draw", "_law_pence", "_law_added", "_law_row_right", "_law_deals_right"]) (d := HandSHeadRun.topDef Ro.prog 11) (kwd := []) ob_eq
    (by kernel_rfl) (fun s => by kernel_rfl) run (by kernel_rfl) (by kernel_rfl) (by kernel_rfl) (by rfl) (by first | assumption | decide +kernel) (by decide +kernel) ⟨rfl, rfl, rfl, rfl, rfl, by decide +kernel⟩ ?hw ?hc
  case hw => w_witness2
  case hc =>
    refine law_of (l := PySem.Challenge.rw_tablebills_k08_whole_deals_in_a_row) (k := 4) (x := "_law_script") (F := f_law) rfl (by kernel_rfl) ⟨rfl, by decide, by decide⟩ hT ?_
    intro w mg fa0 h Y G hmg0
    obtain ⟨K, KX, c⟩ := Y
    have hmg : mg ("law" : PySem.Str) = some (.ref fa0) := by
      have e : (HandSHeadRun.topDef Ro.prog 11).name = ("law" : PySem.Str) := by kernel_rfl
      rw [← e]
      exact hmg0
    obtain ⟨fd, hb, hF⟩ := facts (P := PySem.Challenge.rw_tablebills_k08_whole_deals_in_a_row.prog) (w := w) KX G hmg c
    exact ⟨K, fd, KX, hb, hF⟩
end Lw
end

section
set_option maxHeartbeats 4000000
open PySem PySem.Spec PyProof.Rows L2 Tb
namespace Lw
def FO (ns : List Int) (c a b : Int) : MO := .lst [.lst (ns.map .int), .int c, .int a, .int b]
theorem FO_bd {ns : List Int} {c a b : Int} {N : Nat} : (FO ns c a b).bd N = true := by
  have : ∀ ns : List Int, bds N (ns.map .int) = true := fun ns => by
    induction ns with
    | nil => rfl
    | cons x xs ih => simp [bds, D.bd, ih]
  simp [FO, MO.bd, bds, D.bd, this]
theorem draw_en {h : MH} {n : Nat} {m : Int} {ns : List Int} {c a b : Int} {Q : D → MH → Prop} (hget : h.get n = some (FO ns c a b)) (t : Tidy h) (hm : 0 < m) (hm2 : m < 2 ^ 200) (hb : 0 ≤ b) (hb2 : b < 2 ^ 62)
    (k : ∀ v c' a', 0 ≤ v → v < m → Q (.int v) (h.set n (FO ns c' a' (b + 1)))) : (f_w_draw [.ref n, .int m] h).en Q := by
  have hn := t.lt hget
  refine fn_en ?_
  have hlv : ∀ v c' a', (0 ≤ v ∧ v < m) → (leave h.next (.int v) (h.set n (FO ns c' a' (b + 1)))).en Q := fun v c' a' hv => by
    have e := leave_same (h := h.set n (FO ns c' a' (b + 1))) (d := .int v) (t.set hn FO_bd) rfl
    rw [next_set] at e
    rw [e]
    exact k v c' a' hv.1 hv.2
  unfold m_w_draw
  have hbS : b + 1 < 18446744073709551616 := by omega
  have hbT : -18446744073709551616 < b + 1 := by omega
  have hm3 : (0 : Int) ≤ m := by omega
  have hlv' : ∀ x : Int, ∀ c' a', (leave h.next (.int (x % m)) (h.set n (FO ns c' a' (b + 1)))).en Q := fun x c' a' => hlv _ _ _ ⟨Int.emod_nonneg _ (by omega), Int.emod_lt_of_pos _ hm⟩
  unfold FO at hlv'
  have rest : ∀ x : Int, (mSeq (mAugSub getIxL iopAdd setIx (mVar 0) (mC (.int 1)) (mC (.int 1))) <|
  mSeq (mIfS (mAnd (mAsB (mOp opGe (mVar 3) (mOp opPow (mC (.int 10)) (mC (.int 18))))) (mAsB (mOp opLe (mOp opIx (mVar 0) (mC (.int 1))) (mCallB bLen (mCons (mOp opIx (mVar 0) (mC (.int 0))) (mNil)))))) (mSeq (mSetSub setIx (mVar 0) (mC (.int 2)) (mOp opDiv (mVar 3) (mVar 1))) (mRetF (mOp opMod (mVar 3) (mVar 1)))) (mSkip)) <|
  mSeq (mSet 4 (mOp opIx (mVar 0) (mC (.int 3)))) <|
  mSeq (mSet 5 (mOp opMod (mOp opAdd (mOp opAdd (mOp opMod (mVar 3) (mC (.int 2147483629))) (mOp opMul (mOp opMul (mC (.int 69621)) (mVar 4)) (mVar 4))) (mOp opMul (mC (.int 7)) (mVar 4))) (mC (.int 2147483629)))) <|
  mSeq (mSet 5 (mOp opMod (mOp opAdd (mOp opMul (mVar 5) (mVar 5)) (mOp opMul (mC (.int 48271)) (mVar 4))) (mC (.int 2147483647)))) <|
  mSeq (mSet 5 (mOp opMod (mOp opAdd (mOp opMul (mVar 5) (mVar 5)) (mOp opMul (mC (.int 16807)) (mVar 4))) (mC (.int 2147483587)))) <|
  mRetF (mOp opMod (mOp opDiv (mOp opMod (mOp opAdd (mOp opMul (mVar 5) (mVar 5)) (mVar 4)) (mC (.int 2147483629))) (mC (.int 131))) (mVar 1))) [some (.ref n), some (.int m), none, some (.int x), none, none] (h.set n (.lst [.lst (ns.map .int), .int c, .int a, .int (b + 1)])) |>.en (fun x h1 => (leave h.next D.non h1).en Q) (fun x x_1 => False) (fun x x_1 => False)
      (fun d h1 => (leave h.next d h1).en Q) := by
    intro x
    simp [ix_ref, gix_ref, o_six, ixN, hget]
    rw [nx]
    simp [ix_ref, gix_ref, o_six, ixN, hget, hm]
    split
    · split
      · simp [ix_ref, gix_ref, o_six, ixN, hm, o_div hm hm2]
        rw [nx]
        simp [hm, hlv']
      · rw [nx]
        simp [ix_ref]
        rw [nx]
        simp [hbS, hbT]
        rw [nx]
        simp [hbS, hbT]
        rw [nx]
        simp [hbS, hbT]
        rw [nx]
        simp [hm, hlv']
    · rw [nx]
      simp [ix_ref]
      rw [nx]
      simp [hbS, hbT]
      rw [nx]
      simp [hbS, hbT]
      rw [nx]
      simp [hbS, hbT]
      rw [nx]
      simp [hm, hlv']
  simp [ix_ref, gix_ref, o_six, hget, FO, ixN]
  rw [nx]
  simp [ix_ref, gix_ref, o_six, hget, ixN, hm]
  split
  · rw [nx]
    simp [ix_ref, gix_ref, o_six, ixN, o_div hm hm2, setIx]
    rw [nx]
    simp [hlv']
  · rw [nx]
    simp [ix_ref, gix_ref, o_six, hm, o_eqNil]
    by_cases hns : ns = []
    · rw [if_pos hns]
      exact rest _
    · rw [if_neg hns]
      obtain ⟨x, hx⟩ := at_mod (c := c) hns
      have hp : 0 < (ns.length : Int) := by
        have := List.length_pos_iff.mpr hns
        omega
      rw [c_mod hp, ix_lst, pick_some hx]
      exact rest x
end Lw
end

section
set_option maxHeartbeats 4000000
open PySem PySem.Spec PyProof.Rows L2 Tb
namespace Lw
/-! ### deals -/
/-- how many numbers below e have the rest i -/
def U (m : Int) (i : Nat) (e : Int) : Int := (e - i + m - 1) / m
theorem U_succ {m : Int} {i : Nat} {e : Int} (hm : 0 < m) (hi : (i : Int) < m) : U m i (e + 1) = U m i e + if e % m = i then 1 else 0 := by
  unfold U
  have h0 : e = m * (e / m) + e % m := (Int.mul_ediv_add_emod e m).symm
  generalize e / m = q at h0
  have r0 := Int.emod_nonneg e (by omega : m ≠ 0)
  have r1 := Int.emod_lt_of_pos e hm
  generalize e % m = r at h0 r0 r1
  subst h0
  have a1 : m * q + r - (i : Int) + m - 1 = (r - i + m - 1) + m * q := by omega
  have a2 : m * q + r + 1 - (i : Int) + m - 1 = (r - i + m) + m * q := by omega
  rw [a1, a2, Int.add_mul_ediv_left _ _ (by omega), Int.add_mul_ediv_left _ _ (by omega)]
  have big : ∀ x : Int, m ≤ x → x < 2 * m → x / m = 1 := fun x h1 h2 => by
    have : x = (x - m) + m * 1 := by omega
    rw [this, Int.add_mul_ediv_left _ _ (by omega), Int.ediv_eq_zero_of_lt (by omega) (by omega)]
    rfl
  have low : ∀ x : Int, 0 ≤ x → x < m → x / m = 0 := fun x h1 h2 => Int.ediv_eq_zero_of_lt h1 h2
  by_cases c1 : r = i
  · rw [if_pos c1, big (r - i + m) (by omega) (by omega), low (r - i + m - 1) (by omega) (by omega)]
    omega
  · rw [if_neg c1]
    by_cases c2 : (i : Int) < r
    · rw [big (r - i + m) (by omega) (by omega), big (r - i + m - 1) (by omega) (by omega)]
      omega
    · rw [low (r - i + m) (by omega) (by omega), low (r - i + m - 1) (by omega) (by omega)]
      omega
theorem U_mul {m : Int} {i : Nat} {e q : Int} (hm : 0 < m) : U m i (e + m * q) = U m i e + q := by
  unfold U
  rw [show e + m * q - (i : Int) + m - 1 = (e - i + m - 1) + m * q by omega, Int.add_mul_ediv_left _ _ (by omega)]
/-- the hands behind so many, from b on -/
def lv (c m b : Int) (t : Nat) : List Int := (List.range m.toNat).map fun i => c + (U m i (b + t) - U m i b)
def dl (p m b : Int) : List Int := (List.range m.toNat).map fun i => U m i (b + p) - U m i b
theorem lv_len {c m b : Int} {t : Nat} : (lv c m b t).length = m.toNat := by simp [lv]
theorem lv_zero {c m b : Int} : lv c m b 0 = (List.range m.toNat).map fun _ => c := by
  unfold lv
  refine List.map_congr_left fun i _ => ?_
  simp
theorem lv_succ {c m b : Int} {t : Nat} (hm : 0 < m) : ∃ (j : Nat) (v : Int), (b + t) % m = j ∧ j < m.toNat ∧ (lv c m b t)[j]? = some v ∧ (lv c m b t).set j (v + 1) = lv c m b (t + 1) := by
  have r0 := Int.emod_nonneg (b + t) (by omega : m ≠ 0)
  have r1 := Int.emod_lt_of_pos (b + t) hm
  have hj : ((b + t) % m).toNat < m.toNat := by omega
  have e0 : (b + t) % m = (((b + t) % m).toNat : Int) := by omega
  refine ⟨((b + t) % m).toNat, c + (U m ((b + t) % m).toNat (b + t) - U m ((b + t) % m).toNat b), e0, hj, ?_, ?_⟩
  · unfold lv
    rw [List.getElem?_map, List.getElem?_range hj]
    rfl
  · have e1 : c + (U m ((b + t) % m).toNat (b + t) - U m ((b + t) % m).toNat b) + 1 = c + (U m ((b + t) % m).toNat (b + (t + 1 : Nat)) - U m ((b + t) % m).toNat b) := by
      rw [show b + ((t + 1 : Nat) : Int) = b + t + 1 by omega, U_succ hm (by omega), if_pos e0]
      omega
    rw [e1]
    unfold lv
    refine range_set (g := fun i => c + (U m i (b + (t + 1 : Nat)) - U m i b)) hj fun i hi hne => ?_
    rw [show b + ((t + 1 : Nat) : Int) = b + t + 1 by omega, U_succ hm (by omega), if_neg (by omega)]
    omega
theorem lv_all {m b p : Int} (hp : 0 ≤ p) : lv 0 m b p.toNat = dl p m b := by
  unfold lv dl
  refine List.map_congr_left fun i _ => ?_
  rw [show ((p.toNat : Nat) : Int) = p by omega]
  omega
theorem lv_part {m b p : Int} (hm : 0 < m) (hp : 0 ≤ p) : lv (p / m) m b (p % m).toNat = dl p m b := by
  unfold lv dl
  refine List.map_congr_left fun i _ => ?_
  have h0 : p = p % m + m * (p / m) := (Int.emod_add_mul_ediv p m).symm
  have r0 := Int.emod_nonneg p (by omega : m ≠ 0)
  rw [show ((p % m).toNat : Int) = p % m by omega]
  have : U m i (b + p) = U m i (b + p % m) + p / m := by
    rw [← U_mul hm, show b + p % m + m * (p / m) = b + p by omega]
  omega
/-! ### what the defs tell -/
theorem fn_leave {m : MS} {n : Nat} {ds : List D} {h : MH} {d : D} (t : Tidy h) (hd : d.bd h.next = true)
    (hm : (m (ds.map some ++ List.replicate (n - ds.length) none) h).en (fun _ _ => False) (fun _ _ => False) (fun _ _ => False) (fun d' h' => d' = d ∧ h'.cut h.next = h)) : fnM n m ds h = .ok d h := by
  refine en_eq (fn_en (RS.en_mono hm (fun _ _ z => z.elim) (fun _ _ z => z) (fun _ _ z => z) fun d' h' z => ?_))
  obtain ⟨rfl, e⟩ := z
  rw [leave_to t rfl e hd]
  exact ⟨rfl, rfl⟩
theorem up_to_eq {m i e : Int} {h : MH} (t : Tidy h) (hm : 0 < m) (hm2 : m < 18446744073709551616) : f_up_to [.int m, .int i, .int e] h = .ok (.int ((e - i + m - 1) / m)) h := by
  refine fn_leave t rfl ?_
  unfold m_up_to
  simp [hm, hm2, cut_self t.out]
theorem up_to_en {m i e : Int} {h : MH} {Q : D → MH → Prop} (t : Tidy h) (hm : 0 < m) (hm2 : m < 18446744073709551616) : (f_up_to [.int m, .int i, .int e] h).en Q = Q (.int ((e - i + m - 1) / m)) h := by
  rw [up_to_eq t hm hm2]
  exact en_ok
theorem deal_eq {p m b : Int} {h : MH} (t : Tidy h) (hm : 0 < m) (hm2 : m < 1000) : f_deal [.int p, .int m, .int b] h = .ok (.tup (intsD (dl p m b))) h := by
  refine fn_leave t (by simp only [D.bd]; exact ints_bd) ?_
  unfold m_deal
  simp
  refine ⟨⟨by omega, by omega⟩, ?_⟩
  rw [comp_map (φ := fun d => match d with | .int i => .int (U m i.toNat (b + p) - U m i.toNat b) | d => d)]
  · simp [cut_self t.out]
    rw [rangeD_map (f := fun i => U m i (b + p) - U m i b) (fun i hi => by simp)]
    rfl
  · intro x hx
    obtain ⟨i, hi, rfl⟩ := mem_rangeD hx
    refine ⟨_, rfl, rfl, en_eq ?_⟩
    simp [wipeM, up_to_en t hm (by omega : m < 18446744073709551616)]
    rfl
  · simp [sizeLine]
    omega
theorem deal_en {p m b : Int} {h : MH} {Q : D → MH → Prop} (t : Tidy h) (hm : 0 < m) (hm2 : m < 1000) : (f_deal [.int p, .int m, .int b] h).en Q = Q (.tup (intsD (dl p m b))) h := by
  rw [deal_eq t hm hm2]
  exact en_ok
/-! ### rows of deals -/
def rws (m : Int) : List Int → Int → List D
  | [], _ => []
  | p :: ps, b => .tup (intsD (dl p m b)) :: rws m ps (b + p)
theorem rws_len {m : Int} : ∀ {ps : List Int} {b : Int}, (rws m ps b).length = ps.length
  | [], _ => rfl
  | p :: ps, b => by simp [rws, rws_len]
theorem rws_bd {m : Int} {N : Nat} : ∀ {ps : List Int} {b : Int}, bds N (rws m ps b) = true
  | [], _ => rfl
  | p :: ps, b => by simp [rws, bds, D.bd, ints_bd, rws_bd]
theorem bds_append {N : Nat} : ∀ {xs ys : List D}, bds N (xs ++ ys) = (bds N xs && bds N ys)
  | [], _ => by simp [bds]
  | x :: xs, ys => by simp [bds, bds_append, Bool.and_assoc]
theorem tidy_new {h : MH} {xs : List D} (t : Tidy h) (hx : ∀ N, bds N xs = true) : Tidy (h.new (.lst xs)) := t.new (hx _)
theorem dealt_on_eq {ps : List Int} {m : Int} {h : MH} (t : Tidy h) (hl : ps.length ≤ 1000) (hm : 0 < m) (hm2 : m < 1000) : f_dealt_on [.tup (intsD ps), .int m] h = .ok (.lst (rws m ps 0)) h := by
  refine fn_leave t (by simp only [D.bd]; exact rws_bd) ?_
  unfold m_dealt_on
  simp
  rw [nx]
  simp
  rw [nx]
  simp
  refine forT (fun xs s h' => Hold (∃ c4 done rest b, xs = intsD rest ∧ rws m ps 0 = done ++ rws m rest b ∧ ps.length = done.length + rest.length ∧ (∀ N, bds N done = true) ∧ s = [some (.tup (intsD ps)), some (.int m), some (.ref h.next), some (.int b), c4] ∧ h' = h.new (.lst done))) (Hold.mk ⟨_, [], ps, 0, rfl, rfl, by simp, fun _ => rfl, rfl, rfl⟩) ?_ ?_
  · rintro x xs s h' ⟨c4, done, rest, b, e1, e2, e3, e5, rfl, rfl⟩
    cases rest with
    | nil => cases e1
    | cons p rest =>
      cases e1
      refine ⟨_, rfl, ?_⟩
      simp
      refine ⟨kind_ref (xs := done) (by simp), ?_⟩
      rw [deal_en (tidy_new t e5) hm hm2]
      simp
      rw [o_append (xs := done) (by simp) (by simp only [List.length_cons] at e3; simp only [sizeLine]; omega)]
      rw [nx]
      simp
      refine Hold.mk ⟨_, done ++ [.tup (intsD (dl p m b))], rest, b + p, rfl, ?_, ?_, fun N => ?_, rfl, new_set⟩
      · rw [e2]
        simp [rws]
      · simp only [List.length_cons] at e3
        simp
        omega
      · rw [bds_append, e5]
        simp [bds, D.bd, ints_bd]
  · rintro s h' ⟨c4, done, rest, b, e1, e2, e3, e5, rfl, rfl⟩
    cases rest with
    | cons p rest => cases e1
    | nil =>
      rw [nx]
      simp
      rw [ret1_ref (xs := done) (by simp)]
      simp only [rws, List.append_nil] at e2
      refine ⟨by rw [e2], ?_⟩
      rw [cut_drop (Nat.le_refl _), cut_new (Nat.le_refl _), cut_self t.out]
end Lw
end

section
set_option maxHeartbeats 4000000
open PySem PySem.Spec PyProof.Rows L2 Tb
namespace Lw
/-! ### drawn things -/
section
variable {h : MH} {n : Nat} {m : Int} {ns : List Int} {c a b : Int} {Q : D → MH → Prop}
theorem tidyF (t : Tidy h) (hn : n < h.next) : Tidy (h.set n (FO ns c a b)) := t.set hn FO_bd
theorem drawF (t : Tidy h) (hn : n < h.next) (hm : 0 < m) (hm2 : m < 2 ^ 200) (hb : 0 ≤ b) (hb2 : b < 2 ^ 62)
    (k : ∀ v c' a', 0 ≤ v → v < m → Q (.int v) (h.set n (FO ns c' a' (b + 1)))) : (f_w_draw [.ref n, .int m] (h.set n (FO ns c a b))).en Q := by
  refine draw_en (ns := ns) (c := c) (a := a) (b := b) (by simp) (tidyF t hn) hm hm2 hb hb2 fun v c' a' h1 h2 => ?_
  rw [set_set]
  exact k v c' a' h1 h2
theorem leaveF {d : D} (t : Tidy h) (hn : n < h.next) (hd : d.bd h.next = true) (q : Q d (h.set n (FO ns c a b))) : (leave h.next d (h.set n (FO ns c a b))).en Q := by
  have e := leave_same (h := h.set n (FO ns c a b)) (d := d) (tidyF t hn) hd
  rw [next_set] at e
  rw [e]
  exact q
theorem penceF (t : Tidy h) (hn : n < h.next) (hb : 0 ≤ b) (hb2 : b < 2 ^ 61) (k : ∀ v c' a', 0 ≤ v → v ≤ 10 ^ 10 → Q (.int v) (h.set n (FO ns c' a' (b + 5)))) : (f_w_pence [.ref n] (h.set n (FO ns c a b))).en Q := by
  refine fn_en ?_
  unfold m_w_pence
  simp
  refine drawF t hn (by decide) (by decide) hb (by omega) fun v0 c0 a0 p0 q0 => ?_
  simp
  rw [nx]
  simp
  refine drawF t hn (by decide) (by decide) (by omega) (by omega) fun v1 c1 a1 p1 q1 => ?_
  simp
  refine drawF t hn (by decide) (by decide) (by omega) (by omega) fun v2 c2 a2 p2 q2 => ?_
  simp
  refine drawF t hn (by decide) (by decide) (by omega) (by omega) fun v3 c3 a3 p3 q3 => ?_
  simp [sizeLine]
  refine drawF t hn (by decide) (by decide) (by omega) (by omega) fun v4 c4 a4 p4 q4 => ?_
  have e5 : b + 1 + 1 + 1 + 1 + 1 = b + 5 := by omega
  rw [e5]
  have fin : ∀ v : Int, 0 ≤ v → v ≤ 10 ^ 10 → (leave h.next (.int v) (h.set n (FO ns c4 a4 (b + 5)))).en Q := fun v h1 h2 => leaveF t hn rfl (k v c4 a4 h1 h2)
  have hv : v4 = 0 ∨ v4 = 1 ∨ v4 = 2 ∨ v4 = 3 ∨ v4 = 4 := by omega
  rcases hv with rfl | rfl | rfl | rfl | rfl <;> simp <;> refine fin _ ?_ ?_ <;> omega
end
end Lw
end

section
set_option maxHeartbeats 4000000
open PySem PySem.Spec PyProof.Rows L2 Tb
namespace Lw
/-! ### what is so of deals -/
theorem U_grow {m b : Int} {i : Nat} (hm : 0 < m) (hi : (i : Int) < m) : ∀ t : Nat, 0 ≤ U m i (b + t) - U m i b ∧ U m i (b + t) - U m i b ≤ t
  | 0 => by simp
  | t + 1 => by
    have ih := U_grow (b := b) hm hi t
    rw [show b + ((t + 1 : Nat) : Int) = b + t + 1 by omega, U_succ hm hi]
    split <;> omega
theorem dl_len {p m b : Int} : (dl p m b).length = m.toNat := by simp [dl]
theorem sum_set : ∀ {xs : List Int} {j : Nat} {v w : Int}, xs[j]? = some v → (xs.set j w).sum = xs.sum + (w - v)
  | [], _, _, _, h => by simp at h
  | x :: xs, 0, v, w, h => by
    simp at h
    subst h
    simp
    omega
  | x :: xs, j + 1, v, w, h => by
    have := sum_set (xs := xs) (j := j) (w := w) (by simpa using h)
    simp [this]
    omega
theorem sum_const {c : Int} : ∀ n : Nat, ((List.range n).map fun _ => c).sum = n * c
  | 0 => by simp
  | n + 1 => by
    rw [List.range_succ, List.map_append, List.sum_append, sum_const n]
    simp
    rw [Int.add_mul]
    omega
theorem lv_sum {c m b : Int} (hm : 0 < m) : ∀ t : Nat, (lv c m b t).sum = m * c + t
  | 0 => by
    rw [lv_zero, sum_const]
    rw [show ((m.toNat : Nat) : Int) = m by omega]
    simp
  | t + 1 => by
    obtain ⟨j, v, e1, e2, e3, e4⟩ := lv_succ (c := c) (m := m) (b := b) (t := t) hm
    rw [← e4, sum_set e3, lv_sum hm t]
    omega
theorem dl_sum {p m b : Int} (hm : 0 < m) (hp : 0 ≤ p) : (dl p m b).sum = p := by
  rw [← lv_all hp, lv_sum hm]
  omega
/-- each has the cut part, or one more -/
theorem dl_mem {p m b v : Int} (hm : 0 < m) (hp : 0 ≤ p) (hv : v ∈ dl p m b) : v = p / m ∨ v = p / m + 1 := by
  rw [← lv_part hm hp] at hv
  unfold lv at hv
  obtain ⟨i, h1, rfl⟩ := List.mem_map.mp hv
  have h2 := List.mem_range.mp h1
  have r0 := Int.emod_nonneg p (by omega : m ≠ 0)
  have r1 := Int.emod_lt_of_pos p hm
  have g1 := U_grow (b := b) hm (i := i) (by omega) (p % m).toNat
  have g2 := U_grow (b := b + (p % m).toNat) hm (i := i) (by omega) (m - p % m).toNat
  have e : U m i (b + (p % m).toNat + (m - p % m).toNat) = U m i b + 1 := by
    rw [show b + ((p % m).toNat : Int) + ((m - p % m).toNat : Int) = b + m * 1 by omega, U_mul hm]
  omega
theorem sum_ge {c : Int} : ∀ {xs : List Int}, (∀ x ∈ xs, c ≤ x) → xs.length * c ≤ xs.sum
  | [], _ => by simp
  | x :: xs, h => by
    have := sum_ge (c := c) (xs := xs) fun y hy => h y (List.mem_cons_of_mem _ hy)
    have := h x List.mem_cons_self
    simp only [List.length_cons, List.sum_cons]
    rw [show ((xs.length + 1 : Nat) : Int) * c = (xs.length : Int) * c + c by rw [Int.natCast_add, Int.add_mul]; simp]
    omega
theorem dl_ne {p m b : Int} (hm : 0 < m) : dl p m b ≠ [] := by
  intro e
  have := dl_len (p := p) (m := m) (b := b)
  rw [e] at this
  simp at this
  omega
theorem dl_min {p m b : Int} (hm : 0 < m) (hp : 0 ≤ p) : minI (dl p m b) = p / m := by
  obtain ⟨h1, h2⟩ := minI_spec (dl_ne (p := p) (b := b) hm)
  rcases dl_mem hm hp h1 with e | e
  · exact e
  · exfalso
    have := sum_ge (c := p / m + 1) (xs := dl p m b) fun x hx => by
      have := h2 x hx
      omega
    rw [dl_len, dl_sum hm hp, show ((m.toNat : Nat) : Int) = m by omega, Int.mul_add] at this
    have r1 := Int.emod_lt_of_pos p hm
    have := Int.mul_ediv_add_emod p m
    omega
theorem dl_near {p m b : Int} (hm : 0 < m) (hp : 0 ≤ p) : maxI (dl p m b) - minI (dl p m b) ≤ 1 := by
  obtain ⟨h1, h2⟩ := maxI_spec (dl_ne (p := p) (b := b) hm)
  rw [dl_min hm hp]
  rcases dl_mem hm hp h1 with e | e <;> omega
theorem dl_round {p m b d : Int} (hm : 0 < m) : dl p m (b + m * d) = dl p m b := by
  unfold dl
  refine List.map_congr_left fun i _ => ?_
  rw [show b + m * d + p = b + p + m * d by omega, U_mul hm, U_mul hm]
  omega
theorem U_turn {m e : Int} {i : Nat} : U m (i + 1) (e + 1) = U m i e := by
  unfold U
  congr 1
  omega
theorem U_turn0 {m e : Int} {k : Nat} (hm : 0 < m) (hk : m = k + 1) : U m 0 (e + 1) = U m k e + 1 := by
  unfold U
  rw [show e + 1 - ((0 : Nat) : Int) + m - 1 = (e - k + m - 1) + m * 1 by omega, Int.add_mul_ediv_left _ _ (by omega)]
/-- dl at k, taken apart -/
theorem dl_turn {p m b : Int} {k : Nat} (hk : m = k + 1) : dl p m (b + 1) = (U m k (b + p) - U m k b) :: ((List.range k).map fun i => U m i (b + p) - U m i b) := by
  unfold dl
  rw [show m.toNat = k + 1 by omega, List.range_succ_eq_map, List.map_cons, List.map_map]
  congr 1
  · rw [show b + 1 + p = b + p + 1 by omega, U_turn0 (by omega) hk, U_turn0 (by omega) hk]
    omega
  · refine List.map_congr_left fun i _ => ?_
    simp only [Function.comp_apply, Nat.succ_eq_add_one]
    rw [show b + 1 + p = b + p + 1 by omega, U_turn, U_turn]
theorem dl_snoc {p m b : Int} {k : Nat} (hk : m = k + 1) : dl p m b = ((List.range k).map fun i => U m i (b + p) - U m i b) ++ [U m k (b + p) - U m k b] := by
  unfold dl
  rw [show m.toNat = k + 1 by omega, List.range_succ, List.map_append]
  rfl
end Lw
end

section
set_option maxHeartbeats 4000000
open PySem PySem.Spec PyProof.Rows L2 Tb
namespace Lw
/-! ### rows added -/
def rowD (r : List Int) : D := .tup (intsD r)
def rwsL (m : Int) : List Int → Int → List (List Int)
  | [], _ => []
  | p :: ps, b => dl p m b :: rwsL m ps (b + p)
theorem rws_L {m : Int} : ∀ {ps : List Int} {b : Int}, rws m ps b = (rwsL m ps b).map rowD
  | [], _ => rfl
  | p :: ps, b => by simp [rws, rwsL, rowD, rws_L]
theorem rwsL_len {m : Int} : ∀ {ps : List Int} {b : Int}, ∀ r ∈ rwsL m ps b, r.length = m.toNat
  | p :: ps, b, r, h => by
    rcases List.mem_cons.mp h with e | h
    · rw [e, dl_len]
    · exact rwsL_len r h
theorem rwsL_take {m : Int} : ∀ {ps : List Int} {b : Int} (n : Nat), (rwsL m ps b).take n = rwsL m (ps.take n) b
  | [], b, n => by simp [rwsL]
  | p :: ps, b, 0 => by simp [rwsL]
  | p :: ps, b, n + 1 => by simp [rwsL, rwsL_take]
theorem rwsL_drop {m : Int} : ∀ {ps : List Int} {b : Int} (n : Nat), ∃ b', (rwsL m ps b).drop n = rwsL m (ps.drop n) b'
  | [], b, n => ⟨0, by simp [rwsL]⟩
  | p :: ps, b, 0 => ⟨b, by simp⟩
  | p :: ps, b, n + 1 => by
    obtain ⟨b', e⟩ := rwsL_drop (ps := ps) (b := b + p) n
    exact ⟨b', by simpa [rwsL] using e⟩
def cols (rows : List (List Int)) (m : Int) : List Int := (List.range m.toNat).map fun i => (rows.map fun r => r.getD i 0).sum
theorem dl_getD {p m b : Int} {i : Nat} (hi : i < m.toNat) : (dl p m b).getD i 0 = U m i (b + p) - U m i b := by
  unfold dl
  rw [List.getD_eq_getElem?_getD, List.getElem?_map, List.getElem?_range hi]
  rfl
theorem cols_rws {m : Int} : ∀ {ps : List Int} {b : Int}, cols (rwsL m ps b) m = dl ps.sum m b := by
  intro ps
  induction ps with
  | nil =>
    intro b
    unfold cols dl
    refine List.map_congr_left fun i _ => ?_
    simp [rwsL]
  | cons p ps ih =>
    intro b
    unfold cols dl
    refine List.map_congr_left fun i hi => ?_
    have hi' := List.mem_range.mp hi
    have e := ih (b := b + p)
    unfold cols dl at e
    have e2 := congrArg (fun l => l[i]?) e
    simp only [List.getElem?_map, List.getElem?_range hi', Option.map_some, Option.some.injEq] at e2
    simp only [rwsL, List.map_cons, List.sum_cons, e2, dl_getD hi']
    rw [show b + p + ps.sum = b + (p + ps.sum) by omega]
    omega
theorem ints_nth {ns : List Int} {i : Nat} (hi : i < ns.length) : atI (intsD ns) (i : Int) = some (.int (ns.getD i 0)) := by
  refine at_pos (intsD_at ?_)
  rw [List.getD_eq_getElem?_getD, List.getElem?_eq_getElem hi]
  rfl
section
variable {h : MH} {m : Int} {Q : D → MH → Prop}
theorem added_eq {rows : List (List Int)} (t : Tidy h) (hm : 0 < m) (hm2 : m < 1000) (hr : ∀ r ∈ rows, m.toNat ≤ r.length) (hl : rows.length ≤ 1000) : f_w_added [.lst (rows.map rowD), .int m] h = .ok (.lst (intsD (cols rows m))) h := by
  refine fn_leave t (by simp only [D.bd]; exact ints_bd) ?_
  unfold m_w_added
  simp
  refine ⟨⟨by omega, by omega⟩, ?_⟩
  rw [comp_map (φ := fun d => match d with | .int i => .int (rows.map fun r => r.getD i.toNat 0).sum | d => d)]
  · simp
    rw [rangeD_map (f := fun i => (rows.map fun r => r.getD i 0).sum) (fun i hi => by simp)]
    exact ⟨rfl, cut_self t.out⟩
  · intro x hx
    obtain ⟨i, hi, rfl⟩ := mem_rangeD hx
    refine ⟨_, rfl, rfl, en_eq ?_⟩
    simp [wipeM]
    have hmap : (rows.map rowD).map (fun d => match d with | .tup xs => xs.getD i .non | d => d) = intsD (rows.map fun r => r.getD i 0) := by
      unfold intsD
      rw [List.map_map, List.map_map]
      refine List.map_congr_left fun r hr' => ?_
      have hir : i < r.length := Nat.lt_of_lt_of_le hi (hr r hr')
      simp only [Function.comp_apply, rowD, intsD]
      rw [List.getD_eq_getElem?_getD, List.getD_eq_getElem?_getD, List.getElem?_map, List.getElem?_eq_getElem hir]
      rfl
    rw [comp_map (φ := fun d => match d with | .tup xs => xs.getD i .non | d => d)]
    · simp only [List.nil_append, hmap]
      simp
    · intro y hy
      obtain ⟨r, hr', rfl⟩ := List.mem_map.mp hy
      have hir : i < r.length := Nat.lt_of_lt_of_le hi (hr r hr')
      refine ⟨_, rfl, rfl, en_eq ?_⟩
      simp [rowD]
      rw [pick_some (ints_nth hir)]
      refine ⟨?_, rfl⟩
      unfold intsD
      rw [List.getD_eq_getElem?_getD, List.getD_eq_getElem?_getD, List.getElem?_map, List.getElem?_eq_getElem hir]
      rfl
    · simp [sizeLine]
      omega
  · simp [sizeLine]
    omega
theorem added_en {rows : List (List Int)} (t : Tidy h) (hm : 0 < m) (hm2 : m < 1000) (hr : ∀ r ∈ rows, m.toNat ≤ r.length) (hl : rows.length ≤ 1000) : (f_w_added [.lst (rows.map rowD), .int m] h).en Q = Q (.lst (intsD (cols rows m))) h := by
  rw [added_eq t hm hm2 hr hl]
  exact en_ok
theorem row_right_eq {ps : List Int} (t : Tidy h) (hm : 0 < m) (hm2 : m < 1000) (hp : ∀ p ∈ ps, 0 ≤ p) : f_w_row_right [.tup (intsD ps), .int m, .lst (rws m ps 0)] h = .ok (.bl true) h := by
  refine fn_leave t rfl ?_
  unfold m_w_row_right
  simp
  rw [nx]
  simp
  refine forT (fun xs s h' => Hold (∃ (c4 c5 : Option D) (rest : List Int) (b : Int), xs = List.zipWith pairD (intsD rest) (rws m rest b) ∧ (∀ p ∈ rest, 0 ≤ p) ∧ s = [some (.tup (intsD ps)), some (.int m), some (.lst (rws m ps 0)), some (.int b), c4, c5] ∧ h' = h)) (Hold.mk ⟨_, _, ps, 0, rfl, hp, rfl, rfl⟩) ?_ ?_
  · rintro x xs s h' ⟨c4, c5, rest, b, e1, e2, rfl, rfl⟩
    cases rest with
    | nil => cases e1
    | cons p rest =>
      cases e1
      have p0 := e2 p List.mem_cons_self
      refine ⟨_, rfl, ?_⟩
      simp [rws, dl_len, show max m 0 = m by omega, dl_sum hm p0]
      rw [deal_en t hm hm2]
      simp
      rw [nx]
      simp
      rw [min_tupI (dl_ne hm), dl_min hm p0]
      simp [hm, show m < 18446744073709551616 by omega]
      rw [max_tupI (dl_ne hm)]
      simp
      rw [min_tupI (dl_ne hm)]
      have near := dl_near (p := p) (b := b) hm p0
      simp [show ¬ 1 < maxI (dl p m b) - minI (dl p m b) by omega]
      rw [nx]
      simp
      exact Hold.mk ⟨_, _, rest, b + p, rfl, fun q hq => e2 q (List.mem_cons_of_mem _ hq), rfl, rfl⟩
  · rintro s h' ⟨c4, c5, rest, b, e1, e2, rfl, rfl⟩
    rw [nx]
    simp [rws_len]
    exact cut_self t.out
end
end Lw
end

section
set_option maxHeartbeats 4000000
open PySem PySem.Spec PyProof.Rows L2 Tb
namespace Lw
theorem cut_last {α : Type} {xs : List α} {y : α} : Tb.cutD (xs ++ [y]) (some (-1)) none = [y] := by
  have h1 : HT.sIx (xs ++ [y]).length 0 (some (-1)) = xs.length := by
    simp only [List.length_append, List.length_singleton, HT.sIx]
    split <;> omega
  have h2 : HT.sIx (xs ++ [y]).length (xs ++ [y]).length none = (xs ++ [y]).length := rfl
  unfold Tb.cutD
  rw [h1, h2, List.drop_left]
  simp
theorem cut_init {α : Type} {xs : List α} {y : α} : Tb.cutD (xs ++ [y]) none (some (-1)) = xs := by
  have h1 : HT.sIx (xs ++ [y]).length 0 none = 0 := rfl
  have h2 : HT.sIx (xs ++ [y]).length (xs ++ [y]).length (some (-1)) = xs.length := by
    simp only [List.length_append, List.length_singleton, HT.sIx]
    split <;> omega
  unfold Tb.cutD
  rw [h1, h2]
  simp
section
variable {h : MH} {n : Nat} {ns : List Int} {c a b m : Int} {Q : D → MH → Prop}
theorem deals_rightF (t : Tidy h) (hn : n < h.next) (hm : 0 < m) (hm2 : m < 1000) (hb : 0 ≤ b) (hb2 : b < 2 ^ 60) (k : ∀ c' a', Q (.bl true) (h.set n (FO ns c' a' (b + 16)))) : (f_w_deals_right [.ref n, .int m] (h.set n (FO ns c a b))).en Q := by
  refine fn_en ?_
  unfold m_w_deals_right
  simp
  refine penceF t hn hb (by omega) fun v0 c0 a0 p0 q0 => ?_
  simp
  refine penceF t hn (by omega) (by omega) fun v1 c1 a1 p1 q1 => ?_
  simp
  refine penceF t hn (by omega) (by omega) fun v2 c2 a2 p2 q2 => ?_
  simp
  rw [nx]
  simp
  rw [deal_en (tidyF t hn) hm hm2]
  simp
  rw [deal_en (tidyF t hn) hm hm2]
  simp [sizeLine]
  have e1 : [D.tup (intsD (dl v0 m v2)), D.tup (intsD (dl v1 m (v2 + v0)))] = (rwsL m [v0, v1] v2).map rowD := by simp [rwsL, rowD]
  rw [e1, added_en (tidyF t hn) hm hm2 (fun r hr => by rw [rwsL_len r hr]; exact Nat.le_refl _) (by simp [rwsL]), cols_rws]
  simp
  rw [nx]
  simp
  rw [deal_en (tidyF t hn) hm hm2]
  simp
  rw [nx]
  simp
  refine drawF t hn (by decide) (by decide) (by omega) (by omega) fun v3 c3 a3 p3 q3 => ?_
  rw [c_mulL (by omega) (by omega)]
  simp
  rw [deal_en (tidyF t hn) hm hm2]
  simp
  rw [deal_en (tidyF t hn) hm hm2]
  simp [dl_round hm]
  rw [nx]
  simp
  rw [deal_en (tidyF t hn) hm hm2]
  rw [nx]
  simp
  rw [deal_en (tidyF t hn) hm hm2]
  obtain ⟨kk, hk⟩ : ∃ kk : Nat, m = kk + 1 := ⟨(m - 1).toNat, by omega⟩
  have hr : intsD (dl v0 m v2) = intsD ((List.range kk).map fun i => U m i (v2 + v0) - U m i v2) ++ [D.int (U m kk (v2 + v0) - U m kk v2)] := by
    rw [dl_snoc hk]
    simp [intsD]
  try simp
  rw [hr, cut_last]
  try simp
  rw [cut_init, add_tup (by simp [sizeLine]; omega)]
  have e2 : [D.int (U m kk (v2 + v0) - U m kk v2)] ++ intsD ((List.range kk).map fun i => U m i (v2 + v0) - U m i v2) = intsD (dl v0 m (v2 + 1)) := by
    rw [dl_turn hk]
    simp [intsD]
  rw [e2]
  try simp
  have e3 : b + 5 + 5 + 5 + 1 = b + 16 := by omega
  rw [e3]
  exact leaveF t hn rfl (k _ _)
end
end Lw
end

section
set_option maxHeartbeats 4000000
open PySem PySem.Spec PyProof.Rows L2 Tb
namespace Lw
/-! ### the law -/
def h1 : MH := ⟨fun _ => none, 1⟩
theorem tidy1 : Tidy h1 := ⟨fun _ _ => rfl, fun m o e => by cases e⟩
theorem ints_cut {ns : List Int} {lo hi : Option Int} : Tb.cutD (ns.map D.int) lo hi = (Tb.cutD ns lo hi).map .int := by
  unfold Tb.cutD
  rw [List.length_map, List.map_take, List.map_drop]
theorem feed_eq {ns : List Int} : ∃ ns', f_w_feed [.scr ns] MH.zero = .ok (.ref 0) (h1.set 0 (FO ns' 0 0 0)) := by
  refine ⟨Tb.cutD ns none (some 63), ?_⟩
  have e1 : MH.zero.new (FO (Tb.cutD ns none (some 63)) 0 0 0) = h1.set 0 (FO (Tb.cutD ns none (some 63)) 0 0 0) := MH.ext' (fun m => by
    show (if m = 0 then _ else none) = if m = 0 then _ else none
    rfl) rfl
  rw [← e1]
  unfold f_w_feed
  refine en_eq (fn_en ?_)
  unfold m_w_feed
  simp
  have e2 : ∀ {Q : D → MH → Prop} {h : MH}, (opCut (.scr ns) none (some 63) h).en Q = Q (.lst ((Tb.cutD ns none (some 63)).map .int)) h := fun {Q h} => by
    show Q (.lst (Tb.cutD (ns.map .int) none (some 63))) h = _
    rw [ints_cut]
  rw [e2]
  simp [sizeLine]
  have e3 : leave MH.zero.next (.ref MH.zero.next) (MH.zero.new (FO (Tb.cutD ns none (some 63)) 0 0 0)) = .ok (.ref MH.zero.next) (MH.zero.new (FO (Tb.cutD ns none (some 63)) 0 0 0)) := by
    unfold leave
    rw [if_neg]
    intro z
    have := z.1
    simp [D.bd, MH.zero] at this
  show (leave MH.zero.next (.ref MH.zero.next) (MH.zero.new (FO (Tb.cutD ns none (some 63)) 0 0 0))).en _
  rw [e3]
  exact ⟨rfl, rfl⟩
theorem leave_any {N : Nat} {d : D} {h : MH} : ∃ h', leave N d h = .ok d h' := by
  unfold leave
  split
  · exact ⟨_, rfl⟩
  · exact ⟨_, rfl⟩
theorem sum_nn : ∀ {xs : List Int}, (∀ x ∈ xs, 0 ≤ x) → 0 ≤ xs.sum
  | [], _ => by simp
  | x :: xs, h => by
    have := sum_nn (xs := xs) fun y hy => h y (List.mem_cons_of_mem _ hy)
    have := h x List.mem_cons_self
    simp only [List.sum_cons]
    omega
theorem tells : Tells f_law := by
  intro ns hl
  suffices hs : (f_law [.scr ns] MH.zero).en fun d h => d = .bl true by
    obtain ⟨d, h, e, rfl⟩ := R.en_ex hs
    exact ⟨h, e⟩
  refine fn_en ?_
  unfold m_law
  simp
  obtain ⟨ns', e0⟩ := feed_eq (ns := ns)
  rw [e0]
  simp
  rw [nx]
  simp
  have hn : 0 < h1.next := Nat.zero_lt_one
  refine for_range (fun t s h => Hold (∃ (c2 c3 c4 c5 c6 c7 c8 : Option D) (c a b : Int), 0 ≤ b ∧ b ≤ 300 * t ∧ s = [some (.scr ns), some (.ref 0), c2, c3, c4, c5, c6, c7, c8] ∧ h = h1.set 0 (FO ns' c a b))) (Hold.mk ⟨_, _, _, _, _, _, _, 0, 0, 0, by omega, by omega, rfl, rfl⟩) ?_ ?_
  · rintro t s h ht ⟨c2, c3, c4, c5, c6, c7, c8, c, a, b, b1, b2, rfl, rfl⟩
    refine ⟨_, rfl, ?_⟩
    simp [sizeLine]
    refine drawF tidy1 hn (by decide) (by decide) (by omega) (by omega) fun v0 c0 a0 p0 q0 => ?_
    try simp
    have hx : ∃ u : Int, (u = 6 ∨ u = 41) ∧ atI [D.int 6, D.int 41] (v0 / 2) = some (.int u) := by
      have hv : v0 = 0 ∨ v0 = 1 ∨ v0 = 2 := by omega
      rcases hv with rfl | rfl | rfl
      · exact ⟨6, .inl rfl, rfl⟩
      · exact ⟨6, .inl rfl, rfl⟩
      · exact ⟨41, .inr rfl, rfl⟩
    obtain ⟨u, hu, eu⟩ := hx
    rw [pick_some eu]
    try simp
    refine drawF tidy1 hn (by omega) (by omega) (by omega) (by omega) fun v1 cc1 a1 p1 q1 => ?_
    try simp
    refine ⟨by omega, ?_⟩
    rw [show b + 1 + 1 = b + 2 + 5 * ((0 : Nat) : Int) by omega]
    refine comp_en (g := none) (fun xs acc h' => Hold (∃ vs c' a', acc = intsD vs ∧ (∀ p ∈ vs, 0 ≤ p) ∧ vs.length + xs.length = v1.toNat ∧ h' = h1.set 0 (FO ns' c' a' (b + 2 + 5 * (vs.length : Int))))) (fun _ _ _ _ => trivial) ?_ ?_ _ _ _ (Hold.mk ⟨[], cc1, a1, rfl, by simp, by simp, rfl⟩)
    · rintro x xs acc h' ⟨vs, c', a', rfl, e1, e2, rfl⟩
      simp only [List.length_cons] at e2
      refine ⟨_, rfl, ?_⟩
      simp [wipeM]
      refine penceF tidy1 hn (by omega) (by omega) fun v c2 a2 h1' h2 => ?_
      refine ⟨by simp only [sizeLine, ints_len]; omega, Hold.mk ⟨vs ++ [v], c2, a2, by simp [intsD], ?_, by simp; omega, ?_⟩⟩
      · intro p hp
        rcases List.mem_append.mp hp with hp | hp
        · exact e1 p hp
        · obtain rfl := List.mem_singleton.mp hp
          exact h1'
      · congr 2
        simp
        omega
    rintro acc h' ⟨vs, cc2, a2, rfl, hvs, e2, rfl⟩
    simp only [List.length_nil, Nat.add_zero] at e2
    have hvl : vs.length ≤ 41 := by omega
    simp
    rw [nx]
    simp
    refine drawF tidy1 hn (by decide) (by decide) (by omega) (by omega) fun v3 cc3 a3 p3 q3 => ?_
    try simp
    generalize hB : b + 2 + 5 * (vs.length : Int) + 1 = b3
    have hm : 0 < 1 + v3 := by omega
    have hm2 : 1 + v3 < 1000 := by omega
    generalize 1 + v3 = m at hm hm2
    rw [nx]
    simp
    have e7 := dealt_on_eq (ps := vs) (m := m) (tidyF (ns := ns') (c := cc3) (a := a3) (b := b3) tidy1 hn) (by omega) hm hm2
    rw [e7]
    simp
    rw [nx]
    simp
    rw [row_right_eq (tidyF tidy1 hn) hm hm2 hvs]
    simp
    refine deals_rightF tidy1 hn hm hm2 (by omega) (by omega) fun cc4 a4 => ?_
    try simp
    rw [nx]
    simp
    refine ⟨by omega, ?_⟩
    refine for_range (fun t' s h => Hold (∃ (c7 c8 : Option D) (cx ax : Int), s = [some (.scr ns), some (.ref 0), some (.int t), some (.tup (intsD vs)), c4, some (.int m), some (.lst (rws m vs 0)), c7, c8] ∧ h = h1.set 0 (FO ns' cx ax (b3 + 16 + t')))) (Hold.mk ⟨_, _, cc4, a4, rfl, by simp⟩) ?_ ?_
    · rintro t' s h ht' ⟨c7, c8, cx, ax, rfl, rfl⟩
      refine ⟨_, rfl, ?_⟩
      simp
      refine drawF tidy1 hn (by omega) (by omega) (by omega) (by omega) fun v5 cc5 a5 p5 q5 => ?_
      try simp
      have es : ∃ b' ps', Tb.cutD (rws m vs 0) (some (t' : Int)) (some ((t' : Int) + 1 + v5)) = (rwsL m ps' b').map rowD ∧ ps'.length ≤ vs.length ∧ ∀ p ∈ ps', 0 ≤ p := by
        unfold Tb.cutD
        rw [rws_L, ← List.map_drop, ← List.map_take]
        generalize HT.sIx ((rwsL m vs 0).map rowD).length 0 (some (t' : Int)) = lo
        generalize HT.sIx ((rwsL m vs 0).map rowD).length ((rwsL m vs 0).map rowD).length (some ((t' : Int) + 1 + v5)) = hi
        obtain ⟨b', e⟩ := rwsL_drop (m := m) (ps := vs) (b := 0) lo
        refine ⟨b', (vs.drop lo).take (hi - lo), by rw [e, rwsL_take], by simp; omega, fun p hp => hvs p (List.mem_of_mem_drop (List.mem_of_mem_take hp))⟩
      obtain ⟨b', ps', es1, es2, es3⟩ := es
      rw [es1, added_en (tidyF tidy1 hn) hm hm2 (fun r hr => by rw [rwsL_len r hr]; exact Nat.le_refl _) ?_, cols_rws]
      · try simp
        rw [nx]
        simp
        have near := dl_near (p := ps'.sum) (b := b') hm (sum_nn es3)
        rw [max_lstI (dl_ne hm)]
        simp
        rw [min_lstI (dl_ne hm)]
        simp [show ¬ 1 < maxI (dl ps'.sum m b') - minI (dl ps'.sum m b') by omega]
        exact Hold.mk ⟨_, _, cc5, a5, rfl, by congr 2; omega⟩
      · have : (rwsL m ps' b').length = ps'.length := by
          have := rws_len (m := m) (ps := ps') (b := b')
          rw [rws_L, List.length_map] at this
          exact this
        omega
    · rintro s h ⟨c7, c8, cx, ax, rfl, rfl⟩
      exact Hold.mk ⟨_, _, _, _, _, _, _, cx, ax, _, by omega, by omega, rfl, rfl⟩
  · rintro s h ⟨c2, c3, c4, c5, c6, c7, c8, c, a, b, b1, b2, rfl, rfl⟩
    rw [nx]
    simp
    obtain ⟨h9, e12⟩ := leave_any (N := MH.zero.next) (d := .bl true) (h := h1.set 0 (FO ns' c a b))
    rw [e12]
    rfl
end Lw
theorem PySem.Challenge.cw_tablebills_k08_whole_deals_in_a_row_holds : PySem.Challenge.rw_tablebills_k08_whole_deals_in_a_row.Holds := by
  exact Lw.ends Lw.tells
end
