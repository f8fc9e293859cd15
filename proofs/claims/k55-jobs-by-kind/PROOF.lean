import PyProof.Rows.All
import Wide.All
import OpenK.AllK
import Wide.FinOn
import HandS.ForMost
import HandS.ForExc
import HandS.Defaults
import HandS.TupAny
import HandS.Wide
import HandS.Style
import HandS.IsInst
import HandS.Flow
import HandS.RaiseMore
import HandS.TryOnly
import HandS.Zip
import HandS.HeadEnd
import HandS.Deep
import HandS.TupMul
import KE.KStateDown
import HandS.Head0
import HandS.Head1
import HandS.Head2
import HandS.HeadHook1
import HandS.HeadHook2
import HandS.HeadHook3
import HandS.HeadHook4
import PySem.Challenge.RW_tablebills_k55_jobs_by_kind
set_option Elab.async false
set_option linter.all false
set_option maxRecDepth 100000
section
set_option maxHeartbeats 4000000
namespace Tb
open PySem PySem.Spec L2
/-! ## values, the mirror heap -/
inductive D where
  | non | bl (b : Bool) | int (i : Int) | str (x : Str) | tup (xs : List D) | lst (xs : List D) | ref (n : Nat) | raw (v : V) | scr (ns : List Int)
inductive MO where
  | lst (xs : List D)
structure MH where
  get : Nat → Option MO
  next : Nat
def MH.set (h : MH) (n : Nat) (o : MO) : MH := ⟨fun m => if m = n then some o else h.get m, h.next⟩
def MH.new (h : MH) (o : MO) : MH := ⟨fun m => if m = h.next then some o else h.get m, h.next + 1⟩
def MH.drop (h : MH) (n : Nat) : MH := ⟨fun m => if m = n then none else h.get m, h.next⟩
structure Ex where
  cls : Value
  fs : List (Str × D)
inductive R (α : Type) where
  | ok (a : α) (h : MH)
  | exc (e : Ex) (h : MH)
  | bad
def R.bind {α β : Type} (r : R α) (f : α → MH → R β) : R β := match r with
  | .ok a h => f a h
  | .exc e h => .exc e h
  | .bad => .bad
/-- nothing is raised -/
def R.calm {α : Type} (r : R α) : R α := match r with
  | .ok a h => .ok a h
  | _ => .bad
/-! ## a mirror heap over the kit's -/
structure W3 where
  io : Nat → Addr
  h : MH
  H : Hp
  bar : Addr → Prop
/-- the things that may change: those that the mirror heap holds, and those that are still being made -/
def Own (w : W3) (a : Addr) : Prop := (∃ n o, w.h.get n = some o ∧ w.io n = a) ∨ w.bar a
def KTup (K : PySem.W.Frag) (a : Addr) (xs : List V) : Prop := ∃ (o : Obj) (its : Array Value) (n : Nat), K.lookup a = some o ∧ o.cls = .type "tuple" ∧ o.data = .seq its n ∧ its.size ≤ sizeLine ∧ Vals xs its.toList
def KLst (K : PySem.W.Frag) (a : Addr) (xs : List V) : Prop := ∃ (o : Obj) (its : Array Value) (n : Nat), K.lookup a = some o ∧ o.cls = .type "list" ∧ o.dict = none ∧ o.data = .seq its n ∧ its.size ≤ sizeLine ∧ Vals xs its.toList
def TupAt (K : PySem.W.Frag) (w : W3) (a : Addr) (xs : List V) : Prop := (Rd w.H a (.tup xs) ∧ ¬ Own w a) ∨ KTup K a xs
def LstAt (w : W3) (a : Addr) (xs : List V) : Prop := w.H a = some (.lst xs) ∧ ¬ Own w a
/-- the script -/
def ScrAt (K : PySem.W.Frag) (w : W3) (a : Addr) (ns : List Int) : Prop := (Rd w.H a (.lst (ns.map V.int)) ∧ ¬ Own w a) ∨ KLst K a (ns.map V.int)
theorem TupAt.sq {K : PySem.W.Frag} {w : W3} {a : Addr} {xs : List V} (h : TupAt K w a xs) : SqT K w.H a xs := h.imp (·.1) id
theorem LstAt.sq {K : PySem.W.Frag} {w : W3} {a : Addr} {xs : List V} (h : LstAt w a xs) : SqL K w.H a xs := SqL.of h.1
theorem ScrAt.sq {K : PySem.W.Frag} {w : W3} {a : Addr} {ns : List Int} (h : ScrAt K w a ns) : SqL K w.H a (ns.map V.int) := h.imp (·.1) id
mutual
def Rep (K : PySem.W.Frag) (w : W3) : D → V → Prop
  | .non, v => v = .non
  | .bl b, v => v = .bl b
  | .int i, v => v = .int i
  | .str x, v => v = .str x
  | .raw u, v => v = u
  | .ref n, v => n < w.h.next ∧ v = .ref (w.io n)
  | .tup xs, v => ∃ a vs, v = .ref a ∧ TupAt K w a vs ∧ Reps K w xs vs
  | .lst xs, v => ∃ a vs, v = .ref a ∧ LstAt w a vs ∧ Reps K w xs vs
  | .scr ns, v => ∃ a, v = .ref a ∧ ScrAt K w a ns
def Reps (K : PySem.W.Frag) (w : W3) : List D → List V → Prop
  | [], vs => vs = []
  | x :: xs, vs => ∃ u us, vs = u :: us ∧ Rep K w x u ∧ Reps K w xs us
end
def ObjR (K : PySem.W.Frag) (w : W3) (a : Addr) : MO → Prop
  | .lst xs => ∃ vs, w.H a = some (.lst vs) ∧ Reps K w xs vs
structure Ok (K : PySem.W.Frag) (w : W3) : Prop where
  dom : ∀ n o, w.h.get n = some o → n < w.h.next ∧ ObjR K w (w.io n) o
  inj : ∀ n m o u, w.h.get n = some o → w.h.get m = some u → w.io n = w.io m → n = m
  barH : ∀ a, w.bar a → ∃ u, w.H a = some u
  barO : ∀ n o, w.h.get n = some o → ¬ w.bar (w.io n)
/-- what a value's meaning leans on -/
structure Ext0 (w w' : W3) : Prop where
  io0 : ∀ n, n < w.h.next → w'.io n = w.io n
  nx0 : w.h.next ≤ w'.h.next
  un0 : ∀ a u, w.H a = some u → ¬ Own w a → w'.H a = some u ∧ ¬ Own w' a
structure Ext (w w' : W3) : Prop where
  io : ∀ n, n < w.h.next → w'.io n = w.io n
  nx : w.h.next ≤ w'.h.next
  un : ∀ a u, w.H a = some u → ¬ Own w a → w'.H a = some u ∧ ¬ Own w' a
  ba : ∀ a, w.bar a → w'.bar a ∧ w'.H a = w.H a
theorem Ext.refl (w : W3) : Ext w w := ⟨fun _ _ => rfl, Nat.le_refl _, fun _ _ h n => ⟨h, n⟩, fun _ h => ⟨h, rfl⟩⟩
theorem Ext.trans {w w1 w2 : W3} (a : Ext w w1) (b : Ext w1 w2) : Ext w w2 :=
  ⟨fun n h => (b.io n (Nat.lt_of_lt_of_le h a.nx)).trans (a.io n h), Nat.le_trans a.nx b.nx, fun c u h n => let ⟨h1, n1⟩ := a.un c u h n; b.un c u h1 n1,
    fun c h => let ⟨h1, e1⟩ := a.ba c h; let ⟨h2, e2⟩ := b.ba c h1; ⟨h2, e2.trans e1⟩⟩
section
variable {K : PySem.W.Frag} {w w' : W3}
theorem Ext.to0 (e : Ext w w') : Ext0 w w' := ⟨e.io, e.nx, e.un⟩
theorem Ext0.rd {a : Addr} {u : HO} (e : Ext0 w w') (h : Rd w.H a u) (n : ¬ Own w a) : Rd w'.H a u ∧ ¬ Own w' a := by
  rcases h with h | ⟨o, h⟩
  · exact ⟨.inl (e.un0 a _ h n).1, (e.un0 a _ h n).2⟩
  · exact ⟨.inr ⟨o, (e.un0 a _ h n).1⟩, (e.un0 a _ h n).2⟩
theorem TupAt.ext0 {a : Addr} {xs : List V} (e : Ext0 w w') (h : TupAt K w a xs) : TupAt K w' a xs := h.imp (fun q => e.rd q.1 q.2) id
theorem LstAt.ext0 {a : Addr} {xs : List V} (e : Ext0 w w') (h : LstAt w a xs) : LstAt w' a xs := e.un0 a _ h.1 h.2
theorem ScrAt.ext0 {a : Addr} {ns : List Int} (e : Ext0 w w') (h : ScrAt K w a ns) : ScrAt K w' a ns := h.imp (fun q => e.rd q.1 q.2) id
mutual
theorem Rep.ext0 (e : Ext0 w w') : ∀ {d : D} {v : V}, Rep K w d v → Rep K w' d v
  | .non, _, h => by simpa only [Rep] using h
  | .bl _, _, h => by simpa only [Rep] using h
  | .int _, _, h => by simpa only [Rep] using h
  | .str _, _, h => by simpa only [Rep] using h
  | .raw _, _, h => by simpa only [Rep] using h
  | .ref n, _, h => by
    simp only [Rep] at h ⊢
    exact ⟨Nat.lt_of_lt_of_le h.1 e.nx0, by rw [e.io0 n h.1]; exact h.2⟩
  | .tup xs, _, h => by
    simp only [Rep] at h ⊢
    obtain ⟨a, vs, h1, h2, h3⟩ := h
    exact ⟨a, vs, h1, h2.ext0 e, Reps.ext0 e h3⟩
  | .lst xs, _, h => by
    simp only [Rep] at h ⊢
    obtain ⟨a, vs, h1, h2, h3⟩ := h
    exact ⟨a, vs, h1, h2.ext0 e, Reps.ext0 e h3⟩
  | .scr ns, _, h => by
    simp only [Rep] at h ⊢
    obtain ⟨a, h1, h2⟩ := h
    exact ⟨a, h1, h2.ext0 e⟩
theorem Reps.ext0 (e : Ext0 w w') : ∀ {ds : List D} {vs : List V}, Reps K w ds vs → Reps K w' ds vs
  | [], _, h => by simpa only [Reps] using h
  | d :: ds, _, h => by
    simp only [Reps] at h ⊢
    obtain ⟨u, us, h1, h2, h3⟩ := h
    exact ⟨u, us, h1, Rep.ext0 e h2, Reps.ext0 e h3⟩
end
theorem Rep.ext (e : Ext w w') {d : D} {v : V} (h : Rep K w d v) : Rep K w' d v := Rep.ext0 e.to0 h
theorem Reps.ext (e : Ext w w') {ds : List D} {vs : List V} (h : Reps K w ds vs) : Reps K w' ds vs := Reps.ext0 e.to0 h
theorem TupAt.ext {a : Addr} {xs : List V} (e : Ext w w') (h : TupAt K w a xs) : TupAt K w' a xs := TupAt.ext0 e.to0 h
theorem LstAt.ext {a : Addr} {xs : List V} (e : Ext w w') (h : LstAt w a xs) : LstAt w' a xs := LstAt.ext0 e.to0 h
theorem ScrAt.ext {a : Addr} {ns : List Int} (e : Ext w w') (h : ScrAt K w a ns) : ScrAt K w' a ns := ScrAt.ext0 e.to0 h
theorem Reps.nil : Reps K w [] [] := by simp only [Reps]
theorem Reps.cons {d : D} {v : V} {ds : List D} {vs : List V} (h : Rep K w d v) (t : Reps K w ds vs) : Reps K w (d :: ds) (v :: vs) := by
  simp only [Reps]
  exact ⟨v, vs, rfl, h, t⟩
theorem Reps.uncons {d : D} {ds : List D} {vs : List V} (h : Reps K w (d :: ds) vs) : ∃ u us, vs = u :: us ∧ Rep K w d u ∧ Reps K w ds us := by
  simpa only [Reps] using h
theorem Reps.unnil {vs : List V} (h : Reps K w [] vs) : vs = [] := by simpa only [Reps] using h
theorem Reps.length : ∀ {ds : List D} {vs : List V}, Reps K w ds vs → ds.length = vs.length
  | [], _, h => by rw [h.unnil]; rfl
  | d :: ds, _, h => by
    obtain ⟨u, us, rfl, _, h3⟩ := h.uncons
    simp [Reps.length h3]
theorem Reps.get : ∀ {ds : List D} {vs : List V} {i : Nat} {d : D}, Reps K w ds vs → ds[i]? = some d → ∃ v, vs[i]? = some v ∧ Rep K w d v
  | [], _, _, _, _, e => by simp at e
  | _ :: _, _, 0, _, h, e => by
    obtain ⟨u, us, rfl, h2, _⟩ := h.uncons
    simp at e; subst e
    exact ⟨u, rfl, h2⟩
  | _ :: _, _, i + 1, _, h, e => by
    obtain ⟨u, us, rfl, _, h3⟩ := h.uncons
    simpa using Reps.get (i := i) h3 (by simpa using e)
theorem Reps.append : ∀ {ds es : List D} {vs us : List V}, Reps K w ds vs → Reps K w es us → Reps K w (ds ++ es) (vs ++ us)
  | [], _, _, _, h, h' => by rw [h.unnil]; exact h'
  | d :: ds, _, _, _, h, h' => by
    obtain ⟨u, us, rfl, h2, h3⟩ := h.uncons
    exact Reps.cons h2 (Reps.append h3 h')
theorem Reps.take : ∀ {ds : List D} {vs : List V} (n : Nat), Reps K w ds vs → Reps K w (ds.take n) (vs.take n)
  | _, _, 0, _ => Reps.nil
  | [], _, _ + 1, h => by rw [h.unnil]; exact Reps.nil
  | d :: ds, _, n + 1, h => by
    obtain ⟨u, us, rfl, h2, h3⟩ := h.uncons
    exact Reps.cons h2 (Reps.take n h3)
theorem Reps.drop : ∀ {ds : List D} {vs : List V} (n : Nat), Reps K w ds vs → Reps K w (ds.drop n) (vs.drop n)
  | _, _, 0, h => h
  | [], _, _ + 1, h => by rw [h.unnil]; exact Reps.nil
  | d :: ds, _, n + 1, h => by
    obtain ⟨u, us, rfl, h2, h3⟩ := h.uncons
    exact Reps.drop n h3
theorem Reps.set {d : D} {v : V} (hd : Rep K w d v) : ∀ {ds : List D} {vs : List V} (i : Nat), Reps K w ds vs → Reps K w (ds.set i d) (vs.set i v)
  | [], _, _, h => by rw [h.unnil]; exact Reps.nil
  | _ :: ds, _, 0, h => by
    obtain ⟨u, us, rfl, h2, h3⟩ := h.uncons
    exact Reps.cons hd h3
  | _ :: ds, _, i + 1, h => by
    obtain ⟨u, us, rfl, h2, h3⟩ := h.uncons
    exact Reps.cons h2 (Reps.set hd i h3)
theorem Reps.one {d : D} {vs : List V} (h : Reps K w [d] vs) : ∃ v, vs = [v] ∧ Rep K w d v := by
  obtain ⟨u, us, rfl, h2, h3⟩ := h.uncons
  rw [h3.unnil]; exact ⟨u, rfl, h2⟩
theorem Reps.two {d e : D} {vs : List V} (h : Reps K w [d, e] vs) : ∃ u v, vs = [u, v] ∧ Rep K w d u ∧ Rep K w e v := by
  obtain ⟨u, us, rfl, h2, h3⟩ := h.uncons
  obtain ⟨v, rfl, h4⟩ := h3.one
  exact ⟨u, v, rfl, h2, h4⟩
theorem ObjR.ext0 (e : Ext0 w w') {a : Addr} (hH : w'.H a = w.H a) : ∀ {o : MO}, ObjR K w a o → ObjR K w' a o
  | .lst xs, ⟨vs, h1, h2⟩ => ⟨vs, by rw [hH]; exact h1, h2.ext0 e⟩
theorem ObjR.ext (e : Ext w w') {a : Addr} (hH : w'.H a = w.H a) {o : MO} (h : ObjR K w a o) : ObjR K w' a o := ObjR.ext0 e.to0 hH h
theorem ObjR.some {a : Addr} : ∀ {o : MO}, ObjR K w a o → ∃ u, w.H a = some u
  | .lst xs, ⟨vs, h1, _⟩ => ⟨_, h1⟩
theorem Ok.own_some (k : Ok K w) {a : Addr} (h : Own w a) : ∃ u, w.H a = some u := by
  rcases h with ⟨n, o, h1, rfl⟩ | h
  · exact (k.dom n o h1).2.some
  · exact k.barH a h
theorem Ok.free (k : Ok K w) {p : Addr} (h : w.H p = none) : ¬ Own w p := fun q => by
  obtain ⟨u, e⟩ := k.own_some q
  rw [h] at e; cases e
/-! ### the four steps of a heap -/
/-- a new thing that the mirror heap doesn't hold -/
def W3.lay (w : W3) (p : Addr) (u : HO) : W3 := ⟨w.io, w.h, upd w.H p u, w.bar⟩
theorem Ok.notBar {p : Addr} (k : Ok K w) (hp : w.H p = none) : ∀ a, w.bar a → a ≠ p := fun a h e => by
  obtain ⟨u, q⟩ := k.barH a h
  rw [e, hp] at q; cases q
theorem Ext.lay {p : Addr} {u : HO} (k : Ok K w) (hp : w.H p = none) : Ext w (w.lay p u) :=
  ⟨fun _ _ => rfl, Nat.le_refl _, fun a o h n => ⟨(upd_ne (ne_of_none h hp)).trans h, n⟩, fun a h => ⟨h, upd_ne (k.notBar hp a h)⟩⟩
theorem Ok.lay {p : Addr} {u : HO} (k : Ok K w) (hp : w.H p = none) : Ok K (w.lay p u) := by
  refine ⟨fun n o h => ?_, fun n m o v h h' e => k.inj n m o v h h' e, fun a h => ?_, k.barO⟩
  · obtain ⟨h1, h2⟩ := k.dom n o h
    obtain ⟨v, hv⟩ := h2.some
    exact ⟨h1, h2.ext (Ext.lay k hp) (upd_ne (ne_of_none hv hp))⟩
  · obtain ⟨v, hv⟩ := k.barH a h
    exact ⟨v, (upd_ne (k.notBar hp a h)).trans hv⟩
theorem Rep.layTup {p : Addr} {xs : List V} {ds : List D} (k : Ok K w) (hp : w.H p = none) (r : Reps K w ds xs) : Rep K (w.lay p (.tup xs)) (.tup ds) (.ref p) := by
  simp only [Rep]
  exact ⟨p, xs, rfl, .inl ⟨.inl upd_same, fun q => k.free hp q⟩, r.ext (Ext.lay k hp)⟩
theorem Rep.layLst {p : Addr} {xs : List V} {ds : List D} (k : Ok K w) (hp : w.H p = none) (r : Reps K w ds xs) : Rep K (w.lay p (.lst xs)) (.lst ds) (.ref p) := by
  simp only [Rep]
  exact ⟨p, xs, rfl, ⟨upd_same, fun q => k.free hp q⟩, r.ext (Ext.lay k hp)⟩
/-- a new thing that the mirror heap holds -/
def W3.hold (w : W3) (p : Addr) (u : HO) (o : MO) : W3 := ⟨fun n => if n = w.h.next then p else w.io n, w.h.new o, upd w.H p u, w.bar⟩
theorem Ext.hold {p : Addr} {u : HO} {o : MO} (k : Ok K w) (hp : w.H p = none) : Ext w (w.hold p u o) := by
  refine ⟨fun n h => if_neg (Nat.ne_of_lt h), Nat.le_succ _, fun a v h n => ⟨(upd_ne (ne_of_none h hp)).trans h, fun q => ?_⟩, fun a h => ⟨h, upd_ne (k.notBar hp a h)⟩⟩
  rcases q with ⟨m, o', h1, h2⟩ | q
  · unfold W3.hold MH.new at h1 h2
    simp only at h1 h2
    by_cases hm : m = w.h.next
    · rw [if_pos hm] at h2
      rw [h2] at hp; rw [hp] at h; cases h
    · rw [if_neg hm] at h1 h2
      exact n (.inl ⟨m, o', h1, h2⟩)
  · exact n (.inr q)
theorem Ok.hold {p : Addr} {u : HO} {o : MO} (k : Ok K w) (hp : w.H p = none) (ho : ObjR K (w.hold p u o) p o) : Ok K (w.hold p u o) := by
  refine ⟨fun n o' h => ?_, fun n m o1 o2 h1 h2 e => ?_, fun a h => ?_, fun n o' h => ?_⟩
  · unfold W3.hold MH.new at h ⊢
    simp only at h ⊢
    by_cases hn : n = w.h.next
    · subst hn
      rw [if_pos rfl] at h; cases h
      exact ⟨Nat.lt_succ_self _, by rw [if_pos rfl]; exact ho⟩
    · rw [if_neg hn] at h
      obtain ⟨q1, q2⟩ := k.dom n o' h
      obtain ⟨v, hv⟩ := q2.some
      exact ⟨Nat.lt_succ_of_lt q1, by rw [if_neg hn]; exact q2.ext (Ext.hold k hp) (upd_ne (ne_of_none hv hp))⟩
  · unfold W3.hold MH.new at h1 h2 e
    simp only at h1 h2 e
    by_cases hn : n = w.h.next
    · by_cases hm : m = w.h.next
      · rw [hn, hm]
      · rw [if_pos hn, if_neg hm] at e
        rw [if_neg hm] at h2
        obtain ⟨v, hv⟩ := (k.dom m o2 h2).2.some
        rw [← e, hp] at hv; cases hv
    · by_cases hm : m = w.h.next
      · rw [if_neg hn, if_pos hm] at e
        rw [if_neg hn] at h1
        obtain ⟨v, hv⟩ := (k.dom n o1 h1).2.some
        rw [e, hp] at hv; cases hv
      · rw [if_neg hn, if_neg hm] at e
        rw [if_neg hn] at h1
        rw [if_neg hm] at h2
        exact k.inj n m o1 o2 h1 h2 e
  · obtain ⟨v, hv⟩ := k.barH a h
    exact ⟨v, (upd_ne (k.notBar hp a h)).trans hv⟩
  · unfold W3.hold MH.new at h ⊢
    simp only at h ⊢
    by_cases hn : n = w.h.next
    · rw [if_pos hn]
      exact fun q => k.notBar hp p q rfl
    · rw [if_neg hn] at h ⊢
      exact k.barO n o' h
theorem Rep.hold {p : Addr} {u : HO} {o : MO} : Rep K (w.hold p u o) (.ref w.h.next) (.ref p) := by
  simp only [Rep]
  exact ⟨Nat.lt_succ_self _, by unfold W3.hold; simp only [if_true]⟩
/-- the thing at n is written -/
def W3.put (w : W3) (n : Nat) (u : HO) (o : MO) : W3 := ⟨w.io, w.h.set n o, upd w.H (w.io n) u, w.bar⟩
theorem Ok.barNe {n : Nat} {o : MO} (k : Ok K w) (h : w.h.get n = some o) : ∀ a, w.bar a → a ≠ w.io n := fun a q e => k.barO n o h (e ▸ q)
theorem Ext.put {n : Nat} {u : HO} {o o' : MO} (k : Ok K w) (h : w.h.get n = some o') : Ext w (w.put n u o) := by
  refine ⟨fun _ _ => rfl, Nat.le_refl _, fun a v ha na => ?_, fun a q => ⟨q, upd_ne (k.barNe h a q)⟩⟩
  have hne : a ≠ w.io n := fun e => na (.inl ⟨n, o', h, e.symm⟩)
  refine ⟨(upd_ne hne).trans ha, fun q => ?_⟩
  rcases q with ⟨m, o1, h1, h2⟩ | q
  · unfold W3.put MH.set at h1 h2
    simp only at h1 h2
    by_cases hm : m = n
    · subst hm; exact hne h2.symm
    · rw [if_neg hm] at h1; exact na (.inl ⟨m, o1, h1, h2⟩)
  · exact na (.inr q)
theorem put_old {n : Nat} {u : HO} {o o' : MO} (h : w.h.get n = some o') : ∀ x y, (w.put n u o).h.get x = some y → ∃ z, w.h.get x = some z := fun x y hx => by
  unfold W3.put MH.set at hx
  simp only at hx
  by_cases hm : x = n
  · subst hm; exact ⟨o', h⟩
  · rw [if_neg hm] at hx; exact ⟨y, hx⟩
theorem Ok.put {n : Nat} {u : HO} {o o' : MO} (k : Ok K w) (h : w.h.get n = some o') (ho : ObjR K (w.put n u o) (w.io n) o) : Ok K (w.put n u o) := by
  refine ⟨fun m o1 h1 => ?_, fun m l o1 o2 h1 h2 e => ?_, fun a q => ?_, fun m o1 h1 => ?_⟩
  · unfold W3.put MH.set at h1
    simp only at h1
    by_cases hm : m = n
    · subst hm
      rw [if_pos rfl] at h1; cases h1
      exact ⟨(k.dom m o' h).1, ho⟩
    · rw [if_neg hm] at h1
      obtain ⟨q1, q2⟩ := k.dom m o1 h1
      exact ⟨q1, q2.ext (Ext.put k h) (upd_ne fun e => hm (k.inj m n o1 o' h1 h e))⟩
  · obtain ⟨z1, e1⟩ := put_old h m o1 h1
    obtain ⟨z2, e2⟩ := put_old h l o2 h2
    exact k.inj m l z1 z2 e1 e2 e
  · obtain ⟨v, hv⟩ := k.barH a q
    exact ⟨v, (upd_ne (k.barNe h a q)).trans hv⟩
  · obtain ⟨z1, e1⟩ := put_old h m o1 h1
    exact k.barO m z1 e1
/-- some things are forgotten -/
def W3.less (w : W3) (g : Nat → Option MO) : W3 := ⟨w.io, ⟨g, w.h.next⟩, w.H, w.bar⟩
theorem Ext.less {g : Nat → Option MO} (hg : ∀ n o, g n = some o → w.h.get n = some o) : Ext w (w.less g) := by
  refine ⟨fun _ _ => rfl, Nat.le_refl _, fun a u h n => ⟨h, fun q => ?_⟩, fun a q => ⟨q, rfl⟩⟩
  rcases q with ⟨m, o, h1, h2⟩ | q
  · exact n (.inl ⟨m, o, hg m o h1, h2⟩)
  · exact n (.inr q)
theorem Ok.less {g : Nat → Option MO} (k : Ok K w) (hg : ∀ n o, g n = some o → w.h.get n = some o) : Ok K (w.less g) :=
  ⟨fun n o h => let ⟨q1, q2⟩ := k.dom n o (hg n o h); ⟨q1, q2.ext (Ext.less hg) rfl⟩, fun n m o u h1 h2 e => k.inj n m o u (hg n o h1) (hg m u h2) e, k.barH, fun n o h => k.barO n o (hg n o h)⟩
/-! ### a thing that is being made -/
def W3.bare (w : W3) (p : Addr) (u : HO) : W3 := ⟨w.io, w.h, upd w.H p u, fun a => w.bar a ∨ a = p⟩
theorem Ext.bare {p : Addr} {u : HO} (k : Ok K w) (hp : w.H p = none) : Ext w (w.bare p u) := by
  refine ⟨fun _ _ => rfl, Nat.le_refl _, fun a o h n => ⟨(upd_ne (ne_of_none h hp)).trans h, fun q => ?_⟩, fun a h => ⟨.inl h, upd_ne (k.notBar hp a h)⟩⟩
  rcases q with q | q | q
  · exact n (.inl q)
  · exact n (.inr q)
  · exact ne_of_none h hp q
theorem Ok.bare {p : Addr} {u : HO} (k : Ok K w) (hp : w.H p = none) : Ok K (w.bare p u) := by
  refine ⟨fun n o h => ?_, fun n m o v h h' e => k.inj n m o v h h' e, fun a q => ?_, fun n o h q => ?_⟩
  · obtain ⟨h1, h2⟩ := k.dom n o h
    obtain ⟨v, hv⟩ := h2.some
    exact ⟨h1, h2.ext (Ext.bare k hp) (upd_ne (ne_of_none hv hp))⟩
  · rcases q with q | q
    · obtain ⟨v, hv⟩ := k.barH a q
      exact ⟨v, (upd_ne (k.notBar hp a q)).trans hv⟩
    · exact ⟨u, by rw [q]; exact upd_same⟩
  · rcases q with q | q
    · exact k.barO n o h q
    · obtain ⟨v, hv⟩ := (k.dom n o h).2.some
      exact ne_of_none hv hp q
/-- it is written -/
def W3.barPut (w : W3) (p : Addr) (u : HO) : W3 := ⟨w.io, w.h, upd w.H p u, w.bar⟩
theorem Ext0.barPut {p : Addr} {u : HO} (hb : w.bar p) : Ext0 w (w.barPut p u) :=
  ⟨fun _ _ => rfl, Nat.le_refl _, fun a o h n => ⟨(upd_ne (show a ≠ p from fun e => n (.inr (by rw [e]; exact hb)))).trans h, n⟩⟩
theorem Ok.barPut {p : Addr} {u : HO} (k : Ok K w) (hb : w.bar p) : Ok K (w.barPut p u) := by
  refine ⟨fun n o h => ?_, fun n m o v h h' e => k.inj n m o v h h' e, fun a q => ?_, k.barO⟩
  · obtain ⟨h1, h2⟩ := k.dom n o h
    exact ⟨h1, h2.ext0 (Ext0.barPut hb) (upd_ne (show w.io n ≠ p from fun e => k.barO n o h (by rw [e]; exact hb)))⟩
  · by_cases e : a = p
    · exact ⟨u, by rw [e]; exact upd_same⟩
    · obtain ⟨v, hv⟩ := k.barH a q
      exact ⟨v, (upd_ne e).trans hv⟩
/-- .. seen from a heap that doesn't know it -/
theorem Ext.barPut {w0 : W3} {p : Addr} {u : HO} (x : Ext w0 w) (k0 : Ok K w0) (hp : w0.H p = none) : Ext w0 (w.barPut p u) :=
  ⟨x.io, x.nx, fun a o h n => let ⟨h1, n1⟩ := x.un a o h n; ⟨(upd_ne (ne_of_none h hp)).trans h1, n1⟩, fun a h => let ⟨h1, e1⟩ := x.ba a h; ⟨h1, (upd_ne (k0.notBar hp a h)).trans e1⟩⟩
/-- it is made -/
def W3.free (w : W3) (p : Addr) : W3 := ⟨w.io, w.h, w.H, fun a => w.bar a ∧ a ≠ p⟩
theorem own_free {p a : Addr} (h : Own (w.free p) a) : Own w a := h.imp id (·.1)
theorem Ext0.free {p : Addr} : Ext0 w (w.free p) := ⟨fun _ _ => rfl, Nat.le_refl _, fun a u h n => ⟨h, fun q => n (own_free q)⟩⟩
theorem Ok.freeB {p : Addr} (k : Ok K w) : Ok K (w.free p) :=
  ⟨fun n o h => let ⟨h1, h2⟩ := k.dom n o h; ⟨h1, h2.ext0 Ext0.free rfl⟩, fun n m o v h h' e => k.inj n m o v h h' e, fun a q => k.barH a q.1, fun n o h q => k.barO n o h q.1⟩
theorem Ext.free {w0 : W3} {p : Addr} (x : Ext w0 w) (k0 : Ok K w0) (hp : w0.H p = none) : Ext w0 (w.free p) :=
  ⟨x.io, x.nx, fun a o h n => let ⟨h1, n1⟩ := x.un a o h n; ⟨h1, fun q => n1 (own_free q)⟩, fun a h => let ⟨h1, e1⟩ := x.ba a h; ⟨⟨h1, k0.notBar hp a h⟩, e1⟩⟩
/-- it is made, and the mirror heap holds it -/
def W3.adopt (w : W3) (p : Addr) (o : MO) : W3 := ⟨fun n => if n = w.h.next then p else w.io n, w.h.new o, w.H, w.bar⟩
theorem Ext.adopt {w0 : W3} {p : Addr} {o : MO} (x : Ext w0 w) (k : Ok K w) (hp : w0.H p = none) : Ext w0 (w.adopt p o) := by
  refine ⟨fun n h => ?_, Nat.le_trans x.nx (Nat.le_succ _), fun a u h n => ?_, x.ba⟩
  · exact (if_neg (Nat.ne_of_lt (Nat.lt_of_lt_of_le h x.nx))).trans (x.io n h)
  · obtain ⟨h1, n1⟩ := x.un a u h n
    refine ⟨h1, fun q => ?_⟩
    rcases q with ⟨m, o', q1, q2⟩ | q
    · unfold W3.adopt MH.new at q1 q2
      simp only at q1 q2
      by_cases hm : m = w.h.next
      · rw [if_pos hm] at q2
        exact ne_of_none h hp q2.symm
      · rw [if_neg hm] at q1 q2
        exact n1 (.inl ⟨m, o', q1, q2⟩)
    · exact n1 (.inr q)
theorem Ok.adopt {p : Addr} {xs : List D} {vs : List V} (k : Ok K w) (np : ¬ Own w p) (hp : w.H p = some (.lst vs)) (r : Reps K (w.adopt p (.lst xs)) xs vs) (old : ∀ n o, w.h.get n = some o → ObjR K (w.adopt p (.lst xs)) (w.io n) o) : Ok K (w.adopt p (.lst xs)) := by
  refine ⟨fun n o h => ?_, fun n m o1 o2 h1 h2 e => ?_, k.barH, fun n o h => ?_⟩
  · unfold W3.adopt MH.new at h
    simp only at h
    by_cases hn : n = w.h.next
    · subst hn
      rw [if_pos rfl] at h; cases h
      refine ⟨Nat.lt_succ_self _, ?_⟩
      show ObjR K _ (if w.h.next = w.h.next then p else _) _
      rw [if_pos rfl]
      exact ⟨vs, hp, r⟩
    · rw [if_neg hn] at h
      refine ⟨Nat.lt_succ_of_lt (k.dom n o h).1, ?_⟩
      show ObjR K _ (if n = w.h.next then p else w.io n) _
      rw [if_neg hn]
      exact old n o h
  · unfold W3.adopt MH.new at h1 h2 e
    simp only at h1 h2 e
    by_cases hn : n = w.h.next
    · by_cases hm : m = w.h.next
      · rw [hn, hm]
      · rw [if_pos hn, if_neg hm] at e
        rw [if_neg hm] at h2
        exact (np (.inl ⟨m, o2, h2, e.symm⟩)).elim
    · by_cases hm : m = w.h.next
      · rw [if_neg hn, if_pos hm] at e
        rw [if_neg hn] at h1
        exact (np (.inl ⟨n, o1, h1, e⟩)).elim
      · rw [if_neg hn, if_neg hm] at e
        rw [if_neg hn] at h1
        rw [if_neg hm] at h2
        exact k.inj n m o1 o2 h1 h2 e
  · show ¬ w.bar (if n = w.h.next then p else w.io n)
    by_cases hn : n = w.h.next
    · rw [if_pos hn]
      exact fun q => np (.inr q)
    · rw [if_neg hn]
      unfold W3.adopt MH.new at h
      simp only at h
      rw [if_neg hn] at h
      exact k.barO n o h
theorem Ext0.adopt {p : Addr} {o : MO} (hb : w.bar p) : Ext0 w ((w.free p).adopt p o) := by
  refine ⟨fun n h => if_neg (Nat.ne_of_lt h), Nat.le_succ _, fun a u h n => ⟨h, fun q => ?_⟩⟩
  rcases q with ⟨m, o', q1, q2⟩ | q
  · unfold W3.adopt W3.free MH.new at q1 q2
    simp only at q1 q2
    by_cases hm : m = w.h.next
    · rw [if_pos hm] at q2
      exact n (.inr (by rw [← q2]; exact hb))
    · rw [if_neg hm] at q1 q2
      exact n (.inl ⟨m, o', q1, q2⟩)
  · exact n (.inr q.1)
end
end Tb
end

section
set_option maxHeartbeats 4000000
namespace Tb
open PySem PySem.Spec L2
/-! ## what is wanted of a result -/
abbrev Sl := List (Option D)
def ExR (K : PySem.W.Frag) (w : W3) (x : Ex) (cls : Value) (d : Option Addr) : Prop :=
  cls = x.cls ∧ match x.fs with
    | [] => True
    | _ => ∃ (a : Addr) (vs : List V), d = some a ∧ w.H a = some (.xd ((x.fs.map (·.1)).zip vs)) ∧ ¬ Own w a ∧ Reps K w (x.fs.map (·.2)) vs
/-- the relation of a result's value -/
abbrev Rl (α β : Type) := W3 → α → β → Prop
def PostW {α β : Type} (K : PySem.W.Frag) (E : XK) (Rel : Rl α β) (w : W3) (r : R α) (Q : α → W3 → β → Prop) : Prop := match r with
  | .ok a h => ∀ w' v, w'.h = h → Ext w w' → Ok K w' → Rel w' a v → Q a w' v
  | .exc x h => ∀ w' cls d, w'.h = h → Ext w w' → Ok K w' → ExR K w' x cls d → E cls d w'.H
  | .bad => False
abbrev RepL (K : PySem.W.Frag) : Rl (List D) (List V) := fun w ds vs => Reps K w ds vs
abbrev RepD (K : PySem.W.Frag) : Rl D V := fun w d v => Rep K w d v
abbrev EqB : Rl Bool Bool := fun _ a b => a = b
section
variable {α β γ δ : Type} {K : PySem.W.Frag} {E : XK} {Rel : Rl α β} {Rel' : Rl γ δ} {w w1 : W3}
theorem PostW.imp {r : R α} {Q Q' : α → W3 → β → Prop} (h : PostW K E Rel w r Q) (hQ : ∀ a w' v, Ext w w' → Ok K w' → Rel w' a v → Q a w' v → Q' a w' v) : PostW K E Rel w r Q' := by
  cases r with
  | ok a h' => exact fun w' v e x o p => hQ a w' v x o p (h w' v e x o p)
  | exc x h' => exact h
  | bad => exact h
theorem PostW.from {r : R α} {Q : α → W3 → β → Prop} (h : PostW K E Rel w r Q) (e : Ext w w1) : PostW K E Rel w1 r Q := by
  cases r with
  | ok a h' => exact fun w' v e' x o p => h w' v e' (e.trans x) o p
  | exc x h' => exact fun w' cls d e' q o p => h w' cls d e' (e.trans q) o p
  | bad => exact h
theorem PostW.bind {r : R α} {f : α → MH → R γ} {Q : γ → W3 → δ → Prop} (h : PostW K E Rel' w (r.bind f) Q) : PostW K E Rel w r (fun a w1 _ => PostW K E Rel' w1 (f a w1.h) Q) := by
  cases r with
  | ok a h' =>
    intro w' v e x o p
    subst e
    exact PostW.from h x
  | exc x h' => exact h
  | bad => exact h
theorem PostW.here {a : α} {Q : α → W3 → β → Prop} {v : β} (h : PostW K E Rel w (.ok a w.h) Q) (k : Ok K w) (r : Rel w a v) : Q a w v := h w v rfl (Ext.refl w) k r
/-- no exception: another wish does -/
theorem PostW.calm {E' : XK} {r : R α} {Q : α → W3 → β → Prop} (h : PostW K E Rel w r.calm Q) : PostW K E' Rel w r Q := by
  cases r with
  | ok a h' => exact h
  | exc x h' => exact h.elim
  | bad => exact h
end
def SRep (K : PySem.W.Frag) (w : W3) (s : Sl) (σ : L2.St) : Prop := s.length = σ.length ∧ ∀ (i : Nat) (d : D), s[i]? = some (some d) → ∃ v, σ[i]? = some (some v) ∧ Rep K w d v
section
variable {K : PySem.W.Frag} {E : XK} {w w1 : W3} {s : Sl} {σ : L2.St}
theorem SRep.ext (h : SRep K w s σ) (e : Ext w w1) : SRep K w1 s σ := ⟨h.1, fun i d q => let ⟨v, h1, h2⟩ := h.2 i d q; ⟨v, h1, h2.ext e⟩⟩
theorem SRep.set (h : SRep K w s σ) {d : D} {v : V} (i : Nat) (r : Rep K w d v) : SRep K w (s.set i (some d)) (σ.set i (some v)) := by
  refine ⟨by simp [h.1], fun j e q => ?_⟩
  by_cases hj : i = j
  · subst hj
    by_cases hl : i < s.length
    · rw [List.getElem?_set_self hl] at q
      cases q
      exact ⟨v, List.getElem?_set_self (by rw [← h.1]; exact hl), r⟩
    · rw [List.getElem?_eq_none (by simpa using hl)] at q; cases q
  · rw [List.getElem?_set_ne hj] at q ⊢
    exact h.2 j e q
theorem SRep.unset (h : SRep K w s σ) (i : Nat) : SRep K w (s.set i none) (σ.set i none) := by
  refine ⟨by simp [h.1], fun j e q => ?_⟩
  by_cases hj : i = j
  · subst hj
    by_cases hl : i < s.length
    · rw [List.getElem?_set_self hl] at q; cases q
    · rw [List.getElem?_eq_none (by simpa using hl)] at q; cases q
  · rw [List.getElem?_set_ne hj] at q ⊢
    exact h.2 j e q
end
abbrev ME := Sl → MH → R D
abbrev MT := Sl → MH → R Bool
abbrev MA := Sl → MH → R (List D)
def tM (K : PySem.W.Frag) (E : XK) (m : ME) : TE := fun σ H Q => ∃ w s, w.H = H ∧ Ok K w ∧ SRep K w s σ ∧ PostW K E (RepD K) w (m s w.h) fun _ w' v => Q v w'.H
def tMT (K : PySem.W.Frag) (E : XK) (m : MT) : TT := fun σ H Q => ∃ w s, w.H = H ∧ Ok K w ∧ SRep K w s σ ∧ PostW K E EqB w (m s w.h) fun _ w' v => Q v w'.H
def tMA (K : PySem.W.Frag) (E : XK) (m : MA) : TA := fun σ H Q => ∃ w s, w.H = H ∧ Ok K w ∧ SRep K w s σ ∧ PostW K E (RepL K) w (m s w.h) fun _ w' v => Q v w'.H
section
variable {X : Cx} {K : PySem.W.Frag} {E : XK} {e : Expr} {t t' : TE}
theorem pe_imp (h : PE X e t) (hi : ∀ σ H Q, t' σ H Q → t σ H Q) : PE X e t' := ⟨fun pins s σ H Q I q => h.run pins s σ H Q I (hi σ H Q q)⟩
theorem pt_imp {u u' : TT} (h : PT X e u) (hi : ∀ σ H Q, u' σ H Q → u σ H Q) : PT X e u' := ⟨fun pins s σ H Q I q => h.run pins s σ H Q I (hi σ H Q q)⟩
theorem pw_imp {u u' : TT} (h : PW X e u) (hi : ∀ σ H Q, u' σ H Q → u σ H Q) : PW X e u' := ⟨fun wh pins s σ H Q I q => h.run wh pins s σ H Q I (hi σ H Q q)⟩
theorem pa_imp {es : List Expr} {u u' : TA} (h : PA X es u) (hi : ∀ σ H Q, u' σ H Q → u σ H Q) : PA X es u' := ⟨fun pos pins s σ H Q I q => h.run pos pins s σ H Q I (hi σ H Q q)⟩
theorem ps_imp {st : Stmt} {u u' : TS} (h : PS X st u) (hi : ∀ D σ H, u' D σ H → u D σ H) : PS X st u' := ⟨fun pins s σ H D I q => h.run pins s σ H D I (hi D σ H q)⟩
theorem pss_imp {st : List Stmt} {u u' : TS} (h : PSs X st u) (hi : ∀ D σ H, u' D σ H → u D σ H) : PSs X st u' := ⟨fun pins s σ H D I q => h.run pins s σ H D I (hi D σ H q)⟩
/-- the core: a part's reading from the whole's -/
theorem tM_at {m : ME} {w : W3} {s : Sl} {σ : L2.St} {Q : VK} (k : Ok K w) (r : SRep K w s σ) (h : PostW K E (RepD K) w (m s w.h) fun _ w' v => Q v w'.H) : tM K E m σ w.H Q := ⟨w, s, rfl, k, r, h⟩
theorem tMT_at {m : MT} {w : W3} {s : Sl} {σ : L2.St} {Q : Bool → Hp → Prop} (k : Ok K w) (r : SRep K w s σ) (h : PostW K E EqB w (m s w.h) fun _ w' v => Q v w'.H) : tMT K E m σ w.H Q := ⟨w, s, rfl, k, r, h⟩
theorem tMA_at {m : MA} {w : W3} {s : Sl} {σ : L2.St} {Q : List V → Hp → Prop} (k : Ok K w) (r : SRep K w s σ) (h : PostW K E (RepL K) w (m s w.h) fun _ w' v => Q v w'.H) : tMA K E m σ w.H Q := ⟨w, s, rfl, k, r, h⟩
end
/-! ## names, constants -/
def mC (d : D) : ME := fun _ h => .ok d h
def mVar (i : Nat) : ME := fun s h => match s[i]? with
  | some (some d) => .ok d h
  | _ => .bad
section
variable {X : Cx} {E : XK}
theorem me_const {e : Expr} {v : V} {d : D} (h : PE X e (tC v)) (hd : ∀ w, Rep X.K w d v) : PE X e (tM X.K E (mC d)) := by
  refine pe_imp h fun σ H Q hq => ?_
  obtain ⟨w, s, e, k, r, q⟩ := hq
  subst e
  exact q.here k (hd w)
theorem me_var {i : Nat} {e : Expr} (h : PE X e (tVar i)) : PE X e (tM X.K E (mVar i)) := by
  refine pe_imp h fun σ H Q hq => ?_
  obtain ⟨w, s, e, k, r, q⟩ := hq
  subst e
  unfold mVar at q
  split at q
  · rename_i d hd
    obtain ⟨v, h1, h2⟩ := r.2 i d hd
    exact ⟨v, h1, q.here k h2⟩
  · exact q.elim
end
/-! ## operators -/
abbrev F2 := D → D → MH → R D
def mOp (f : F2) (a b : ME) : ME := fun s h => (a s h).bind fun x h1 => (b s h1).bind fun y h2 => f x y h2
def rM (K : PySem.W.Frag) (E : XK) (f : F2) : R2 := fun x y H Q => ∃ w d e, w.H = H ∧ Ok K w ∧ Rep K w d x ∧ Rep K w e y ∧ PostW K E (RepD K) w (f d e w.h) fun _ w' v => Q v w'.H
section
variable {X : Cx} {E : XK} {a b : Expr} {ma mb : ME} {f : F2} {pos : Pos}
theorem tOp_of {σ : L2.St} {H : Hp} {Q : VK} (h : tM X.K E (mOp f ma mb) σ H Q) : tOp (rM X.K E f) (tM X.K E ma) (tM X.K E mb) σ H Q := by
  obtain ⟨w, s, e, k, r, q⟩ := h
  subst e
  refine tM_at k r (q.bind.imp fun x w1 v x1 k1 p1 q1 => ?_)
  refine tM_at k1 (r.ext x1) (q1.bind.imp fun y w2 u x2 k2 p2 q2 => ?_)
  exact ⟨w2, x, y, rfl, k2, p1.ext x2, p2, q2⟩
theorem me_op {op : Operator} (ho : OpR X (binaryOp op) (rM X.K E f)) (ha : PE X a (tM X.K E ma)) (hb : PE X b (tM X.K E mb)) : PE X (.BinOp a op b pos) (tM X.K E (mOp f ma mb)) :=
  pe_imp (pe_op ho ha hb) fun _ _ _ h => tOp_of h
theorem me_cmp {op : CmpOp} (ho : OpR X (compareOp op) (rM X.K E f)) (ha : PE X a (tM X.K E ma)) (hb : PE X b (tM X.K E mb)) (hm : behindInMarks op b = false) : PE X (.Compare a [op] [b] pos) (tM X.K E (mOp f ma mb)) :=
  pe_imp (pe_cmpR ho ha hb hm) fun _ _ _ h => tOp_of h
/-- a value as a truth -/
def asB (r : R D) : R Bool := r.bind fun d h => match d with
  | .bl b => .ok b h
  | _ => .bad
theorem PostW.asB {K : PySem.W.Frag} {w : W3} {r : R D} {Q : Bool → W3 → Bool → Prop} (h : PostW K E EqB w (asB r) Q) : PostW K E (RepD K) w r fun _ w' v => ∃ c, v = .bl c ∧ Q c w' c := by
  refine (PostW.bind h).imp fun d w' v x k p q => ?_
  cases d with
  | bl b =>
    simp only [Rep] at p
    exact ⟨b, p, q.here k rfl⟩
  | _ => exact q.elim
theorem mt_cmp {op : CmpOp} (ho : OpR X (compareOp op) (rM X.K E f)) (ha : PE X a (tM X.K E ma)) (hb : PE X b (tM X.K E mb)) (hm : behindInMarks op b = false) : PT X (.Compare a [op] [b] pos) (tMT X.K E fun s h => asB (mOp f ma mb s h)) := by
  refine pt_imp (pt_cmpR ho ha hb hm) fun σ H Q hq => ?_
  obtain ⟨w, s, e, k, r, q⟩ := hq
  subst e
  refine tOp_of (tM_at k r (q.asB.imp fun _ w' v _ _ _ z => z))
/-- a < b < c -/
def mChain (f g : F2) (a b c : ME) : ME := fun s h => (a s h).bind fun x h1 => (b s h1).bind fun y h2 => (asB (f x y h2)).bind fun k h3 => if k = true then (c s h3).bind fun z h4 => g y z h4 else .ok (.bl false) h3
theorem tChain_of {mc : ME} {g : F2} {σ : L2.St} {H : Hp} {Q : VK} (h : tM X.K E (mChain f g ma mb mc) σ H Q) : tChain (rM X.K E f) (rM X.K E g) (tM X.K E ma) (tM X.K E mb) (tM X.K E mc) σ H Q := by
  obtain ⟨w, s, e, k, r, q⟩ := h
  subst e
  refine tM_at k r (q.bind.imp fun x w1 v x1 k1 p1 q1 => ?_)
  refine tM_at k1 (r.ext x1) (q1.bind.imp fun y w2 u x2 k2 p2 q2 => ?_)
  refine ⟨w2, x, y, rfl, k2, p1.ext x2, p2, ?_⟩
  refine (PostW.asB (q2.bind (Rel := EqB))).imp fun _ w3 v3 x3 k3 _ z => ?_
  obtain ⟨b, e, q3⟩ := z
  refine ⟨b, e, ?_⟩
  cases b with
  | true =>
    rw [if_pos rfl] at q3 ⊢
    refine tM_at k3 (r.ext (x1.trans (x2.trans x3))) (q3.bind.imp fun z w4 v4 x4 k4 p4 q4 => ?_)
    exact ⟨w4, y, z, rfl, k4, p2.ext (x3.trans x4), p4, q4⟩
  | false =>
    rw [if_neg Bool.false_ne_true] at q3 ⊢
    exact q3.here k3 (by simp only [Rep])
theorem me_chain {op op' : CmpOp} {c : Expr} {mc : ME} {g : F2} (ho : OpR X (compareOp op) (rM X.K E f)) (ho' : OpR X (compareOp op') (rM X.K E g)) (ha : PE X a (tM X.K E ma)) (hb : PE X b (tM X.K E mb)) (hc : PE X c (tM X.K E mc))
    (hm : lastMarks [op, op'] [b, c] = false) : PE X (.Compare a [op, op'] [b, c] pos) (tM X.K E (mChain f g ma mb mc)) := pe_imp (pe_chain ho ho' ha hb hc hm) fun _ _ _ h => tChain_of h
theorem mt_chain {op op' : CmpOp} {c : Expr} {mc : ME} {g : F2} (ho : OpR X (compareOp op) (rM X.K E f)) (ho' : OpR X (compareOp op') (rM X.K E g)) (ha : PE X a (tM X.K E ma)) (hb : PE X b (tM X.K E mb)) (hc : PE X c (tM X.K E mc))
    (hm : lastMarks [op, op'] [b, c] = false) : PT X (.Compare a [op, op'] [b, c] pos) (tMT X.K E fun s h => asB (mChain f g ma mb mc s h)) := by
  refine pt_imp (pt_chain ho ho' ha hb hc hm) fun σ H Q hq => ?_
  obtain ⟨w, s, e, k, r, q⟩ := hq
  subst e
  exact tChain_of (tM_at k r (q.asB.imp fun _ w' v _ _ _ z => z))
end
end Tb
end

section
set_option maxHeartbeats 4000000
namespace Tb
open PySem PySem.Spec L2
/-! ## lists and tuples read -/
def lstOf (h : MH) : D → Option (List D)
  | .lst xs => some xs
  | .ref n => match h.get n with
    | some (.lst xs) => some xs
    | none => none
  | _ => none
def seqOf (h : MH) : D → Option (List D)
  | .tup xs => some xs
  | d => lstOf h d
section
variable {K : PySem.W.Frag} {w : W3}
theorem lst_at (k : Ok K w) {d : D} {v : V} {xs : List D} (r : Rep K w d v) (h : lstOf w.h d = some xs) : ∃ a vs, v = .ref a ∧ w.H a = some (.lst vs) ∧ Reps K w xs vs := by
  cases d with
  | lst ys =>
    simp only [lstOf, Option.some.injEq] at h
    subst h
    simp only [Rep] at r
    obtain ⟨a, vs, h1, h2, h3⟩ := r
    exact ⟨a, vs, h1, h2.1, h3⟩
  | ref n =>
    simp only [lstOf] at h
    split at h
    · rename_i ys e
      cases h
      simp only [Rep] at r
      obtain ⟨vs, h1, h2⟩ := (k.dom n _ e).2
      exact ⟨_, vs, r.2, h1, h2⟩
    · cases h
  | _ => simp [lstOf] at h
theorem seq_at (k : Ok K w) {d : D} {v : V} {xs : List D} (r : Rep K w d v) (h : seqOf w.h d = some xs) : ∃ a vs, v = .ref a ∧ (SqL K w.H a vs ∨ SqT K w.H a vs) ∧ Reps K w xs vs := by
  cases d with
  | tup ys =>
    simp only [seqOf, Option.some.injEq] at h
    subst h
    simp only [Rep] at r
    obtain ⟨a, vs, h1, h2, h3⟩ := r
    exact ⟨a, vs, h1, .inr h2.sq, h3⟩
  | _ =>
    obtain ⟨a, vs, h1, h2, h3⟩ := lst_at k r h
    exact ⟨a, vs, h1, .inl (SqL.of h2), h3⟩
theorem tup_at {xs : List D} {v : V} (r : Rep K w (.tup xs) v) : ∃ a vs, v = .ref a ∧ SqT K w.H a vs ∧ Reps K w xs vs := by
  simp only [Rep] at r
  obtain ⟨a, vs, h1, h2, h3⟩ := r
  exact ⟨a, vs, h1, h2.sq, h3⟩
theorem rep_int {i : Int} {v : V} : Rep K w (.int i) v ↔ v = .int i := by simp only [Rep]
theorem rep_str {i : Str} {v : V} : Rep K w (.str i) v ↔ v = .str i := by simp only [Rep]
theorem rep_bl {i : Bool} {v : V} : Rep K w (.bl i) v ↔ v = .bl i := by simp only [Rep]
theorem rep_non {v : V} : Rep K w .non v ↔ v = .non := by simp only [Rep]
/-- a new list, not held; a new tuple -/
theorem PostW.newL {E : XK} {xs : List D} {vs : List V} {Q : V → Hp → Prop} (h : PostW K E (RepD K) w (.ok (.lst xs) w.h) fun _ w' v => Q v w'.H) (k : Ok K w) (r : Reps K w xs vs) : ∀ p, w.H p = none → Q (.ref p) (upd w.H p (.lst vs)) :=
  fun p hp => h (w.lay p (.lst vs)) (.ref p) rfl (Ext.lay k hp) (k.lay hp) (Rep.layLst k hp r)
theorem PostW.newT {E : XK} {xs : List D} {vs : List V} {Q : V → Hp → Prop} (h : PostW K E (RepD K) w (.ok (.tup xs) w.h) fun _ w' v => Q v w'.H) (k : Ok K w) (r : Reps K w xs vs) : ∀ p, w.H p = none → Q (.ref p) (upd w.H p (.tup vs)) :=
  fun p hp => h (w.lay p (.tup vs)) (.ref p) rfl (Ext.lay k hp) (k.lay hp) (Rep.layTup k hp r)
theorem PostW.newH {E : XK} {xs : List D} {vs : List V} {Q : V → Hp → Prop} (h : PostW K E (RepD K) w (.ok (.ref w.h.next) (w.h.new (.lst xs))) fun _ w' v => Q v w'.H) (k : Ok K w) (r : Reps K w xs vs) : ∀ p, w.H p = none → Q (.ref p) (upd w.H p (.lst vs)) := fun p hp =>
  h (w.hold p (.lst vs) (.lst xs)) (.ref p) rfl (Ext.hold k hp) (k.hold hp ⟨vs, upd_same, r.ext (Ext.hold k hp)⟩) Rep.hold
end
/-! ## operators -/
def smallI (i : Int) : Prop := -(2 ^ 64) < i ∧ i < 2 ^ 64
instance smallD (i : Int) : Decidable (smallI i) := by unfold smallI; infer_instance
instance cmulD (i j : Int) : Decidable (CMulW i j) := by unfold CMulW; infer_instance
instance cdivD (i j : Int) : Decidable (CDivW i j) := by unfold CDivW; infer_instance
instance cpowD (i j : Int) : Decidable (CPow i j) := by unfold CPow; infer_instance
def opAdd : F2
  | .int i, .int j, h => .ok (.int (i + j)) h
  | .str x, .str y, h => if x.length + y.length ≤ sizeLine then .ok (.str (x ++ y)) h else .bad
  | .tup xs, .tup ys, h => if xs.length + ys.length ≤ sizeLine then .ok (.tup (xs ++ ys)) h else .bad
  | .int i, .bl b, h => .ok (.int (i + PyProof.Rows.b2i b)) h
  | d, e, h => match lstOf h d, lstOf h e with
    | some xs, some ys => if xs.length + ys.length ≤ sizeLine then .ok (.lst (xs ++ ys)) h else .bad
    | _, _ => .bad
/-- two lists, the new one held -/
def opAddH : F2 := fun d e h => match lstOf h d, lstOf h e with
    | some xs, some ys => if xs.length + ys.length ≤ sizeLine then .ok (.ref h.next) (h.new (.lst (xs ++ ys))) else .bad
    | _, _ => .bad
def opSub : F2
  | .int i, .int j, h => .ok (.int (i - j)) h
  | _, _, _ => .bad
def opMul : F2
  | .int i, .int j, h => if smallI i ∨ smallI j ∨ CMulW i j then .ok (.int (i * j)) h else .bad
  | _, _, _ => .bad
def opDiv : F2
  | .int i, .int j, h => if CDivW i j then .ok (.int (i / j)) h else .bad
  | _, _, _ => .bad
def opMod : F2
  | .int i, .int j, h => if 0 < j then .ok (.int (i % j)) h else .bad
  | _, _, _ => .bad
def opPow : F2
  | .int i, .int j, h => if CPow i j then .ok (.int (i ^ j.toNat)) h else .bad
  | _, _, _ => .bad
section
variable {X : Cx} {E : XK}
theorem or_add : OpR X (binaryOp .Add) (rM X.K E opAdd) := by
  intro pins s σ H x y v u Q I rx ry h
  obtain ⟨w, d, e, eH, k, rd, re, q⟩ := h
  subst eH
  unfold opAdd at q
  split at q
  · rw [rep_int] at rd re
    exact op_add pins s σ _ x y v u Q I rx ry ⟨_, _, rd, re, q.here k (rep_int.mpr rfl)⟩
  · rw [rep_str] at rd re
    split at q
    · exact op_add_str pins s σ _ x y v u Q I rx ry ⟨_, _, rd, re, by assumption, q.here k (rep_str.mpr rfl)⟩
    · exact q.elim
  · split at q
    · rename_i hz
      obtain ⟨a, vs, e1, h1, r1⟩ := tup_at rd
      obtain ⟨b, us, e2, h2, r2⟩ := tup_at re
      refine op_catA pins s σ _ x y v u Q I rx ry ⟨a, b, vs, us, e1, e2, h1, h2, by rw [← r1.length, ← r2.length]; exact hz, fun z => ?_, fun _ z => ?_, fun _ _ => q.newT k (r1.append r2)⟩
      · have h := r1.length
        rw [z] at h
        rw [List.length_eq_zero_iff.mp h, List.nil_append, ] at q
        subst e2
        exact q.here k re
      · have h := r2.length
        rw [z] at h
        rw [List.length_eq_zero_iff.mp h, List.append_nil] at q
        subst e1
        exact q.here k rd
    · exact q.elim
  · rw [rep_int] at rd
    rw [rep_bl] at re
    exact op_add_ib pins s σ _ x y v u Q I rx ry ⟨_, _, rd, re, q.here k (rep_int.mpr rfl)⟩
  · split at q
    · rename_i e1 e2
      split at q
      · rename_i hz
        obtain ⟨a, vs, ea, h1, r1⟩ := lst_at k rd e1
        obtain ⟨b, us, eb, h2, r2⟩ := lst_at k re e2
        exact op_cat pins s σ _ x y v u Q I rx ry ⟨a, b, vs, us, ea, eb, h1, h2, by rw [← r1.length, ← r2.length]; exact hz, q.newL k (r1.append r2)⟩
      · exact q.elim
    · exact q.elim
theorem or_addH : OpR X (binaryOp .Add) (rM X.K E opAddH) := by
  intro pins s σ H x y v u Q I rx ry h
  obtain ⟨w, d, e, eH, k, rd, re, q⟩ := h
  subst eH
  unfold opAddH at q
  split at q
  · rename_i e1 e2
    split at q
    · rename_i hz
      obtain ⟨a, vs, ea, h1, r1⟩ := lst_at k rd e1
      obtain ⟨b, us, eb, h2, r2⟩ := lst_at k re e2
      exact op_cat pins s σ _ x y v u Q I rx ry ⟨a, b, vs, us, ea, eb, h1, h2, by rw [← r1.length, ← r2.length]; exact hz, q.newH k (r1.append r2)⟩
    · exact q.elim
  · exact q.elim
theorem or_sub : OpR X (binaryOp .Sub) (rM X.K E opSub) := by
  intro pins s σ H x y v u Q I rx ry h
  obtain ⟨w, d, e, eH, k, rd, re, q⟩ := h
  subst eH
  unfold opSub at q
  split at q
  · rw [rep_int] at rd re
    exact op_sub pins s σ _ x y v u Q I rx ry ⟨_, _, rd, re, q.here k (rep_int.mpr rfl)⟩
  · exact q.elim
theorem or_mul : OpR X (binaryOp .Mult) (rM X.K E opMul) := by
  intro pins s σ H x y v u Q I rx ry h
  obtain ⟨w, d, e, eH, k, rd, re, q⟩ := h
  subst eH
  unfold opMul at q
  split at q
  · rw [rep_int] at rd re
    split at q
    · rename_i hz
      have q' := q.here k (rep_int.mpr rfl)
      rcases hz with hz | hz | hz
      · exact op_mul pins s σ _ x y v u Q I rx ry ⟨_, _, rd, re, .inl hz, q'⟩
      · exact op_mul pins s σ _ x y v u Q I rx ry ⟨_, _, rd, re, .inr hz, q'⟩
      · exact op_mulW pins s σ _ x y v u Q I rx ry ⟨_, _, rd, re, hz, q'⟩
    · exact q.elim
  · exact q.elim
theorem or_div : OpR X (binaryOp .FloorDiv) (rM X.K E opDiv) := by
  intro pins s σ H x y v u Q I rx ry h
  obtain ⟨w, d, e, eH, k, rd, re, q⟩ := h
  subst eH
  unfold opDiv at q
  split at q
  · rw [rep_int] at rd re
    split at q
    · exact op_fdivW pins s σ _ x y v u Q I rx ry ⟨_, _, rd, re, by assumption, q.here k (rep_int.mpr rfl)⟩
    · exact q.elim
  · exact q.elim
theorem or_mod : OpR X (binaryOp .Mod) (rM X.K E opMod) := by
  intro pins s σ H x y v u Q I rx ry h
  obtain ⟨w, d, e, eH, k, rd, re, q⟩ := h
  subst eH
  unfold opMod at q
  split at q
  · rw [rep_int] at rd re
    split at q
    · exact op_mod pins s σ _ x y v u Q I rx ry ⟨_, _, rd, re, by assumption, q.here k (rep_int.mpr rfl)⟩
    · exact q.elim
  · exact q.elim
theorem or_pow : OpR X (binaryOp .Pow) (rM X.K E opPow) := by
  intro pins s σ H x y v u Q I rx ry h
  obtain ⟨w, d, e, eH, k, rd, re, q⟩ := h
  subst eH
  unfold opPow at q
  split at q
  · rw [rep_int] at rd re
    split at q
    · exact op_pow pins s σ _ x y v u Q I rx ry ⟨_, _, rd, re, by assumption, q.here k (rep_int.mpr rfl)⟩
    · exact q.elim
  · exact q.elim
end
/-! ## data: what == and repr see -/
mutual
def toP : D → Option PyData
  | .non => some .none
  | .bl b => some (.bool b)
  | .int i => some (.int i)
  | .str x => some (.str x)
  | .tup xs => (toPs xs).map .tuple
  | .lst xs => (toPs xs).map .list
  | .ref _ => none
  | .raw _ => none
  | .scr _ => none
def toPs : List D → Option (List PyData)
  | [] => some []
  | x :: xs => match toP x, toPs xs with
    | some p, some ps => some (p :: ps)
    | _, _ => none
end
/-- .. with lists of the heap, whose items are plain -/
def toD (h : MH) : D → Option PyData
  | .ref n => match h.get n with
    | some (.lst xs) => (toPs xs).map .list
    | none => none
  | d => toP d
section
variable {K : PySem.W.Frag} {w : W3}
mutual
theorem toP_ok : ∀ {d : D} {v : V} {p : PyData}, Rep K w d v → toP d = some p → Dp K w.H v p
  | .non, v, p, r, h => by
    simp only [toP, Option.some.injEq] at h; subst h; rw [rep_non] at r; subst r; exact .non
  | .bl b, v, p, r, h => by
    simp only [toP, Option.some.injEq] at h; subst h; rw [rep_bl] at r; subst r; exact .bl b
  | .int i, v, p, r, h => by
    simp only [toP, Option.some.injEq] at h; subst h; rw [rep_int] at r; subst r; exact .int i
  | .str x, v, p, r, h => by
    simp only [toP, Option.some.injEq] at h; subst h; rw [rep_str] at r; subst r; exact .str x
  | .tup xs, v, p, r, h => by
    simp only [toP, Option.map_eq_some_iff] at h
    obtain ⟨ps, h1, rfl⟩ := h
    obtain ⟨a, vs, rfl, h2, h3⟩ := tup_at r
    exact .tup h2 (toPs_ok h3 h1)
  | .lst xs, v, p, r, h => by
    simp only [toP, Option.map_eq_some_iff] at h
    obtain ⟨ps, h1, rfl⟩ := h
    simp only [Rep] at r
    obtain ⟨a, vs, rfl, h2, h3⟩ := r
    exact .lst h2.sq (toPs_ok h3 h1)
  | .ref _, v, p, r, h => by simp [toP] at h
  | .raw _, v, p, r, h => by simp [toP] at h
  | .scr _, v, p, r, h => by simp [toP] at h
theorem toPs_ok : ∀ {ds : List D} {vs : List V} {ps : List PyData}, Reps K w ds vs → toPs ds = some ps → DpAll K w.H vs ps
  | [], vs, ps, r, h => by
    simp only [toPs, Option.some.injEq] at h; subst h
    rw [r.unnil]; exact .nil
  | d :: ds, vs, ps, r, h => by
    obtain ⟨u, us, rfl, r1, r2⟩ := r.uncons
    simp only [toPs] at h
    split at h
    · rename_i p qs e1 e2
      cases h
      exact .cons (toP_ok r1 e1) (toPs_ok r2 e2)
    · cases h
end
theorem toD_ok (k : Ok K w) {d : D} {v : V} {p : PyData} (r : Rep K w d v) (h : toD w.h d = some p) : Dp K w.H v p := by
  cases d with
  | ref n =>
    simp only [toD] at h
    split at h
    · rename_i xs e
      simp only [Option.map_eq_some_iff] at h
      obtain ⟨ps, h1, rfl⟩ := h
      obtain ⟨vs, h2, h3⟩ := (k.dom n _ e).2
      simp only [Rep] at r
      rw [r.2]
      exact .lst (SqL.of h2) (toPs_ok h3 h1)
    · cases h
  | _ => exact toP_ok r h
end
def opEq : F2
  | .str x, .str y, h => .ok (.bl (decide (x = y))) h
  | x, y, h => match toD h x, toD h y with
    | some p, some q => if SeqAt.shaped p = true ∧ SeqAt.shaped q = true then .ok (.bl (PyData.eqv p q)) h else .bad
    | _, _ => .bad
def opNe : F2
  | .str x, .str y, h => .ok (.bl (!decide (x = y))) h
  | x, y, h => match toD h x, toD h y with
    | some p, some q => if SeqAt.shaped p = true ∧ SeqAt.shaped q = true then .ok (.bl (!PyData.eqv p q)) h else .bad
    | _, _ => .bad
theorem str_dec {x y : Str} : decide (V.str x = V.str y) = decide (x = y) := Bool.eq_iff_iff.mpr (by simp)
def intsOf : List D → Option (List Int)
  | [] => some []
  | .int i :: xs => (intsOf xs).map (i :: ·)
  | _ => none
theorem intsOf_ok {K : PySem.W.Frag} {w : W3} : ∀ {ds : List D} {vs : List V} {ns : List Int}, Reps K w ds vs → intsOf ds = some ns → vs = ns.map V.int
  | [], vs, ns, r, h => by simp only [intsOf, Option.some.injEq] at h; subst h; rw [r.unnil]; rfl
  | d :: ds, vs, ns, r, h => by
    obtain ⟨u, us, rfl, r1, r2⟩ := r.uncons
    cases d with
    | int i =>
      simp only [intsOf, Option.map_eq_some_iff] at h
      obtain ⟨ms, h1, rfl⟩ := h
      rw [rep_int] at r1
      rw [r1, intsOf_ok r2 h1]
      rfl
    | _ => simp [intsOf] at h
def opLt : F2
  | .int i, .int j, h => .ok (.bl (decide (i < j))) h
  | .str x, .str y, h => .ok (.bl (decide (x.cps.toList < y.cps.toList))) h
  | .tup xs, .tup ys, h => match intsOf xs, intsOf ys with
    | some ns, some ms => .ok (.bl (HT.lexLt ns ms)) h
    | _, _ => .bad
  | _, _, _ => .bad
def opLe : F2
  | .int i, .int j, h => .ok (.bl (decide (i ≤ j))) h
  | _, _, _ => .bad
def opGt : F2
  | .int i, .int j, h => .ok (.bl (decide (j < i))) h
  | _, _, _ => .bad
def opGe : F2
  | .int i, .int j, h => .ok (.bl (decide (j ≤ i))) h
  | _, _, _ => .bad
def isNon : D → Option Bool
  | .non => some true
  | .raw _ => none
  | _ => some false
def opIs : F2
  | .bl a, .bl b, h => .ok (.bl (decide (a = b))) h
  | x, .non, h => match isNon x with
    | some b => .ok (.bl b) h
    | none => .bad
  | _, _, _ => .bad
def opIsNot : F2
  | .bl a, .bl b, h => .ok (.bl (!decide (a = b))) h
  | x, .non, h => match isNon x with
    | some b => .ok (.bl (!b)) h
    | none => .bad
  | _, _, _ => .bad
section
variable {X : Cx} {E : XK}
theorem or_eq (hu : X.A.units + 64 < cLine) : OpR X (compareOp .Eq) (rM X.K E opEq) := by
  intro pins s σ H x y v u Q I rx ry h
  obtain ⟨w, d, e, eH, k, rd, re, q⟩ := h
  subst eH
  unfold opEq at q
  split at q
  · rename_i x' y' _
    rw [rep_str] at rd re
    subst rd re
    exact op_eq pins s σ _ _ _ v u Q I rx ry ⟨rfl, by rw [str_dec]; exact q.here k (rep_bl.mpr rfl)⟩
  · split at q
    · rename_i p p' e1 e2
      split at q
      · rename_i hz
        exact op_eqD hu pins s σ _ x y v u Q I rx ry ⟨p, p', toD_ok k rd e1, toD_ok k re e2, hz.1, hz.2, q.here k (rep_bl.mpr rfl)⟩
      · exact q.elim
    · exact q.elim
theorem or_ne (hu : X.A.units + 64 < cLine) : OpR X (compareOp .NotEq) (rM X.K E opNe) := by
  intro pins s σ H x y v u Q I rx ry h
  obtain ⟨w, d, e, eH, k, rd, re, q⟩ := h
  subst eH
  unfold opNe at q
  split at q
  · rename_i x' y' _
    rw [rep_str] at rd re
    subst rd re
    exact op_ne pins s σ _ _ _ v u Q I rx ry ⟨rfl, by rw [str_dec]; exact q.here k (rep_bl.mpr rfl)⟩
  · split at q
    · rename_i p p' e1 e2
      split at q
      · rename_i hz
        exact op_neD hu pins s σ _ x y v u Q I rx ry ⟨p, p', toD_ok k rd e1, toD_ok k re e2, hz.1, hz.2, q.here k (rep_bl.mpr rfl)⟩
      · exact q.elim
    · exact q.elim
theorem or_lt (hu : X.A.units < cLine) : OpR X (compareOp .Lt) (rM X.K E opLt) := by
  intro pins s σ H x y v u Q I rx ry h
  obtain ⟨w, d, e, eH, k, rd, re, q⟩ := h
  subst eH
  unfold opLt at q
  split at q
  · rw [rep_int] at rd re
    exact op_lt pins s σ _ x y v u Q I rx ry ⟨_, _, rd, re, q.here k (rep_bl.mpr rfl)⟩
  · rw [rep_str] at rd re
    exact op_lt_str pins s σ _ x y v u Q I rx ry ⟨_, _, rd, re, q.here k (rep_bl.mpr rfl)⟩
  · split at q
    · rename_i ns ms e1 e2
      obtain ⟨a, vs, rfl, h1, r1⟩ := tup_at rd
      obtain ⟨b, us, rfl, h2, r2⟩ := tup_at re
      rw [intsOf_ok r1 e1] at h1
      rw [intsOf_ok r2 e2] at h2
      exact op_ltT hu pins s σ _ _ _ v u Q I rx ry ⟨_, _, _, _, rfl, rfl, h1, h2, q.here k (rep_bl.mpr rfl)⟩
    · exact q.elim
  · exact q.elim
theorem or_le : OpR X (compareOp .LtE) (rM X.K E opLe) := by
  intro pins s σ H x y v u Q I rx ry h
  obtain ⟨w, d, e, eH, k, rd, re, q⟩ := h
  subst eH
  unfold opLe at q
  split at q
  · rw [rep_int] at rd re
    exact op_le pins s σ _ x y v u Q I rx ry ⟨_, _, rd, re, q.here k (rep_bl.mpr rfl)⟩
  · exact q.elim
theorem or_gt : OpR X (compareOp .Gt) (rM X.K E opGt) := by
  intro pins s σ H x y v u Q I rx ry h
  obtain ⟨w, d, e, eH, k, rd, re, q⟩ := h
  subst eH
  unfold opGt at q
  split at q
  · rw [rep_int] at rd re
    exact op_gt pins s σ _ x y v u Q I rx ry ⟨_, _, rd, re, q.here k (rep_bl.mpr rfl)⟩
  · exact q.elim
theorem or_ge : OpR X (compareOp .GtE) (rM X.K E opGe) := by
  intro pins s σ H x y v u Q I rx ry h
  obtain ⟨w, d, e, eH, k, rd, re, q⟩ := h
  subst eH
  unfold opGe at q
  split at q
  · rw [rep_int] at rd re
    exact op_ge pins s σ _ x y v u Q I rx ry ⟨_, _, rd, re, q.here k (rep_bl.mpr rfl)⟩
  · exact q.elim
theorem rep_isNon {K : PySem.W.Frag} {w : W3} {d : D} {v : V} {b : Bool} (r : Rep K w d v) (hd : isNon d = some b) : decide (v = .non) = b := by
  cases d with
  | non => rw [rep_non] at r; subst r; cases hd; rfl
  | bl b => rw [rep_bl] at r; subst r; cases hd; rfl
  | int b => rw [rep_int] at r; subst r; cases hd; rfl
  | str b => rw [rep_str] at r; subst r; cases hd; rfl
  | tup xs => obtain ⟨a, vs, rfl, _, _⟩ := tup_at r; cases hd; rfl
  | lst xs => simp only [Rep] at r; obtain ⟨a, vs, rfl, _, _⟩ := r; cases hd; rfl
  | ref n => simp only [Rep] at r; obtain ⟨_, rfl⟩ := r; cases hd; rfl
  | raw u => cases hd
  | scr ns => simp only [Rep] at r; obtain ⟨a, rfl, _⟩ := r; cases hd; rfl
theorem or_is : OpR X (compareOp .Is) (rM X.K E opIs) := by
  intro pins s σ H x y v u Q I rx ry h
  obtain ⟨w, d, e, eH, k, rd, re, q⟩ := h
  subst eH
  unfold opIs at q
  split at q
  · rw [rep_bl] at rd re
    exact op_isBl pins s σ _ x y v u Q I rx ry ⟨_, _, rd, re, q.here k (rep_bl.mpr rfl)⟩
  · rw [rep_non] at re
    split at q
    · rename_i b e1
      refine op_isN pins s σ _ x y v u Q I rx ry ⟨re, ?_⟩
      rw [rep_isNon rd e1]
      exact q.here k (rep_bl.mpr rfl)
    · exact q.elim
  · exact q.elim
theorem or_isnot : OpR X (compareOp .IsNot) (rM X.K E opIsNot) := by
  intro pins s σ H x y v u Q I rx ry h
  obtain ⟨w, d, e, eH, k, rd, re, q⟩ := h
  subst eH
  unfold opIsNot at q
  split at q
  · rw [rep_bl] at rd re
    exact op_notBl pins s σ _ x y v u Q I rx ry ⟨_, _, rd, re, q.here k (rep_bl.mpr rfl)⟩
  · rw [rep_non] at re
    split at q
    · rename_i b e1
      refine op_notN pins s σ _ x y v u Q I rx ry ⟨re, ?_⟩
      rw [rep_isNon rd e1]
      exact q.here k (rep_bl.mpr rfl)
    · exact q.elim
  · exact q.elim
end
end Tb
end

section
set_option maxHeartbeats 4000000
namespace Tb
open PySem PySem.Spec L2
/-! ## tests -/
def mAnd (a b : MT) : MT := fun s h => (a s h).bind fun k h1 => if k = true then b s h1 else .ok false h1
def mOr (a b : MT) : MT := fun s h => (a s h).bind fun k h1 => if k = true then .ok true h1 else b s h1
def mNot (a : MT) : MT := fun s h => (a s h).bind fun k h1 => .ok (!k) h1
/-- the truth of a value -/
def truth : D → MH → R Bool
  | .non, h => .ok false h
  | .bl b, h => .ok b h
  | .int i, h => .ok (i != 0) h
  | .str x, h => if x.length ≤ sizeLine then .ok ((x.length : Int) != 0) h else .bad
  | d, h => match seqOf h d with
    | some xs => .ok (!xs.isEmpty) h
    | none => .bad
def mTruth (m : ME) : MT := fun s h => (m s h).bind truth
section
variable {X : Cx} {E : XK} {a b : Expr} {rest : List Expr} {ma mb : MT} {pos : Pos}
theorem tAnd_of {σ : L2.St} {H : Hp} {Q : Bool → Hp → Prop} (h : tMT X.K E (mAnd ma mb) σ H Q) : L2.tAnd (tMT X.K E ma) (tMT X.K E mb) σ H Q := by
  obtain ⟨w, s, e, k, r, q⟩ := h
  subst e
  refine tMT_at k r ((PostW.bind (Rel := EqB) q).imp fun c w1 v x1 k1 p1 q1 => ?_)
  subst p1
  cases c with
  | true =>
    rw [if_pos rfl] at q1 ⊢
    exact tMT_at k1 (r.ext x1) q1
  | false =>
    rw [if_neg Bool.false_ne_true] at q1 ⊢
    exact q1.here k1 rfl
theorem tOr_of {σ : L2.St} {H : Hp} {Q : Bool → Hp → Prop} (h : tMT X.K E (mOr ma mb) σ H Q) : L2.tOr (tMT X.K E ma) (tMT X.K E mb) σ H Q := by
  obtain ⟨w, s, e, k, r, q⟩ := h
  subst e
  refine tMT_at k r ((PostW.bind (Rel := EqB) q).imp fun c w1 v x1 k1 p1 q1 => ?_)
  subst p1
  cases c with
  | true =>
    rw [if_pos rfl] at q1 ⊢
    exact q1.here k1 rfl
  | false =>
    rw [if_neg Bool.false_ne_true] at q1 ⊢
    exact tMT_at k1 (r.ext x1) q1
theorem mw_and (ha : PT X a (tMT X.K E ma)) (hb : PW X (.BoolOp .And (b :: rest) pos) (tMT X.K E mb)) : PW X (.BoolOp .And (a :: b :: rest) pos) (tMT X.K E (mAnd ma mb)) := pw_imp (pw_and ha hb) fun _ _ _ h => tAnd_of h
theorem mw_or (ha : PT X a (tMT X.K E ma)) (hb : PW X (.BoolOp .Or (b :: rest) pos) (tMT X.K E mb)) : PW X (.BoolOp .Or (a :: b :: rest) pos) (tMT X.K E (mOr ma mb)) := pw_imp (pw_or ha hb) fun _ _ _ h => tOr_of h
theorem mt_not (ha : PT X a (tMT X.K E ma)) : PT X (.UnaryOp .Not a pos) (tMT X.K E (mNot ma)) := by
  refine pt_imp (pt_not ha) fun σ H Q hq => ?_
  obtain ⟨w, s, e, k, r, q⟩ := hq
  subst e
  refine tMT_at k r ((PostW.bind (Rel := EqB) q).imp fun c w1 v x1 k1 p1 q1 => ?_)
  subst p1
  exact q1.here k1 rfl
theorem truth_ok {K : PySem.W.Frag} {w : W3} {d : D} {v : V} {Q : Bool → Hp → Prop} (k : Ok K w) (r : Rep K w d v) (q : PostW K E EqB w (truth d w.h) fun _ w' b => Q b w'.H) : ∃ b, TruV K v w.H b ∧ Q b w.H := by
  unfold truth at q
  split at q
  · rw [rep_non] at r; subst r; exact ⟨_, rfl, q.here k rfl⟩
  · rw [rep_bl] at r; subst r; exact ⟨_, rfl, q.here k rfl⟩
  · rw [rep_int] at r; subst r; exact ⟨_, rfl, q.here k rfl⟩
  · rw [rep_str] at r; subst r
    split at q
    · exact ⟨_, ⟨by assumption, rfl⟩, q.here k rfl⟩
    · exact q.elim
  · split at q
    · rename_i xs e
      obtain ⟨a, vs, rfl, h2, h3⟩ := seq_at k r e
      have e2 : (!xs.isEmpty) = !vs.isEmpty := by
        have := h3.length
        cases xs <;> cases vs <;> simp_all
      rw [e2] at q
      rcases h2 with h2 | h2
      · exact ⟨_, .inl ⟨vs, h2, rfl⟩, q.here k rfl⟩
      · exact ⟨_, .inr (.inl ⟨vs, h2, rfl⟩), q.here k rfl⟩
    · exact q.elim
theorem mt_truth {m : ME} (ha : PE X a (tM X.K E m)) (he : ∀ whole, isTrue a X.env whole = (do let v ← whole; standAt a.pos; holding [v] (truthy v))) : PT X a (tMT X.K E (mTruth m)) := by
  refine pt_imp (pt_truth ha he) fun σ H Q hq => ?_
  obtain ⟨w, s, e, k, r, q⟩ := hq
  subst e
  exact tM_at k r ((PostW.bind (Rel := RepD X.K) q).imp fun d w1 v x1 k1 p1 q1 => truth_ok k1 p1 q1)
end
/-! ## and, or, not as values; a if t else b -/
def ofB (m : MT) : ME := fun s h => (m s h).bind fun b h1 => .ok (.bl b) h1
/-- and, or of values: all but the last a truth -/
def mAndV (a b : ME) : ME := fun s h => (asB (a s h)).bind fun k h1 => if k = true then b s h1 else .ok (.bl false) h1
def mOrV (a b : ME) : ME := fun s h => (asB (a s h)).bind fun k h1 => if k = true then .ok (.bl true) h1 else b s h1
def mNotV (a : ME) : ME := fun s h => (asB (a s h)).bind fun k h1 => .ok (.bl (!k)) h1
def mIf (c : MT) (a b : ME) : ME := fun s h => (c s h).bind fun k h1 => if k = true then a s h1 else b s h1
section
variable {X : Cx} {E : XK} {a b c : Expr} {rest : List Expr} {ma mb : ME} {mc : MT} {pos : Pos}
theorem me_one {op : BoolOp} {m : ME} (h : PE X a (tM X.K E m)) : PE X (.BoolOp op [a] pos) (tM X.K E m) := pe_one h
theorem me_and (ha : PE X a (tM X.K E ma)) (hb : PE X (.BoolOp .And (b :: rest) pos) (tM X.K E mb)) : PE X (.BoolOp .And (a :: b :: rest) pos) (tM X.K E (mAndV ma mb)) := by
  refine pe_imp (pe_and ha hb) fun σ H Q hq => ?_
  obtain ⟨w, s, e, k, r, q⟩ := hq
  subst e
  refine tM_at k r ((PostW.asB (PostW.bind (Rel := EqB) q)).imp fun _ w1 v x1 k1 _ z => ?_)
  obtain ⟨b, e, q1⟩ := z
  refine ⟨b, e, ?_⟩
  cases b with
  | true =>
    rw [if_pos rfl] at q1 ⊢
    exact tM_at k1 (r.ext x1) q1
  | false =>
    rw [if_neg Bool.false_ne_true] at q1 ⊢
    exact q1.here k1 (rep_bl.mpr rfl)
theorem me_or (ha : PE X a (tM X.K E ma)) (hb : PE X (.BoolOp .Or (b :: rest) pos) (tM X.K E mb)) : PE X (.BoolOp .Or (a :: b :: rest) pos) (tM X.K E (mOrV ma mb)) := by
  refine pe_imp (pe_or ha hb) fun σ H Q hq => ?_
  obtain ⟨w, s, e, k, r, q⟩ := hq
  subst e
  refine tM_at k r ((PostW.asB (PostW.bind (Rel := EqB) q)).imp fun _ w1 v x1 k1 _ z => ?_)
  obtain ⟨b, e, q1⟩ := z
  refine ⟨b, e, ?_⟩
  cases b with
  | true =>
    rw [if_pos rfl] at q1 ⊢
    exact q1.here k1 (rep_bl.mpr rfl)
  | false =>
    rw [if_neg Bool.false_ne_true] at q1 ⊢
    exact tM_at k1 (r.ext x1) q1
theorem me_not (ha : PE X a (tM X.K E ma)) : PE X (.UnaryOp .Not a pos) (tM X.K E (mNotV ma)) := by
  refine pe_imp (pe_not ha) fun σ H Q hq => ?_
  obtain ⟨w, s, e, k, r, q⟩ := hq
  subst e
  refine tM_at k r ((PostW.asB (PostW.bind (Rel := EqB) q)).imp fun _ w1 v x1 k1 _ z => ?_)
  obtain ⟨b, e, q1⟩ := z
  exact ⟨b, e, q1.here k1 (rep_bl.mpr rfl)⟩
theorem me_if (hc : PT X c (tMT X.K E mc)) (ha : PE X a (tM X.K E ma)) (hb : PE X b (tM X.K E mb)) : PE X (.IfExp c a b pos) (tM X.K E (mIf mc ma mb)) := by
  refine pe_imp (pe_ifExp hc ha hb) fun σ H Q hq => ?_
  obtain ⟨w, s, e, k, r, q⟩ := hq
  subst e
  refine tMT_at k r ((PostW.bind (Rel := EqB) q).imp fun c w1 v x1 k1 p1 q1 => ?_)
  subst p1
  cases c with
  | true =>
    rw [if_pos rfl] at q1 ⊢
    exact tM_at k1 (r.ext x1) q1
  | false =>
    rw [if_neg Bool.false_ne_true] at q1 ⊢
    exact tM_at k1 (r.ext x1) q1
end
/-! ## -a -/
def opNeg : D → MH → R D
  | .int i, h => .ok (.int (-i)) h
  | _, _ => .bad
def mNeg (a : ME) : ME := fun s h => (a s h).bind opNeg
section
variable {X : Cx} {E : XK} {a : Expr} {ma : ME} {pos : Pos}
theorem me_neg (ha : PE X a (tM X.K E ma)) : PE X (.UnaryOp .USub a pos) (tM X.K E (mNeg ma)) := by
  refine pe_imp (pe_un un_neg ha) fun σ H Q hq => ?_
  obtain ⟨w, s, e, k, r, q⟩ := hq
  subst e
  refine tM_at k r ((PostW.bind (Rel := RepD X.K) q).imp fun d w1 v x1 k1 p1 q1 => ?_)
  unfold opNeg at q1
  split at q1
  · exact ⟨_, rep_int.mp p1, q1.here k1 (rep_int.mpr rfl)⟩
  · exact q1.elim
end
/-! ## arguments, displays -/
def mNil : MA := fun _ h => .ok [] h
def mCons (a : ME) (t : MA) : MA := fun s h => (a s h).bind fun x h1 => (t s h1).bind fun xs h2 => .ok (x :: xs) h2
def mTup (a : MA) : ME := fun s h => (a s h).bind fun xs h1 => if xs.length ≤ sizeLine then .ok (.tup xs) h1 else .bad
/-- a list, not held; held -/
def mLst (a : MA) : ME := fun s h => (a s h).bind fun xs h1 => if xs.length ≤ sizeLine then .ok (.lst xs) h1 else .bad
def mLstH (a : MA) : ME := fun s h => (a s h).bind fun xs h1 => if xs.length ≤ sizeLine then .ok (.ref h1.next) (h1.new (.lst xs)) else .bad
section
variable {X : Cx} {E : XK} {e : Expr} {es : List Expr} {ma : ME} {mt : MA} {pos : Pos}
theorem mar_nil : PA X [] (tMA X.K E mNil) := by
  refine pa_imp pa_nil fun σ H Q hq => ?_
  obtain ⟨w, s, e, k, r, q⟩ := hq
  subst e
  exact PostW.here (Rel := RepL X.K) q k Reps.nil
theorem mar_cons (ha : PE X e (tM X.K E ma)) (ht : PA X es (tMA X.K E mt)) (hs : starEach (e :: es) X.env = (false, eval e X.env) :: starEach es X.env) : PA X (e :: es) (tMA X.K E (mCons ma mt)) := by
  refine pa_imp (pa_cons ha ht hs) fun σ H Q hq => ?_
  obtain ⟨w, s, e, k, r, q⟩ := hq
  subst e
  refine tM_at k r ((PostW.bind (Rel := RepD X.K) q).imp fun x w1 v x1 k1 p1 q1 => ?_)
  refine tMA_at k1 (r.ext x1) ((PostW.bind (Rel := RepL X.K) q1).imp fun xs w2 vs x2 k2 p2 q2 => ?_)
  exact PostW.here (Rel := RepL X.K) q2 k2 (Reps.cons (p1.ext x2) p2)
theorem me_tup {x1 : Nat} (h : PA X es (tMA X.K E mt)) : PE X (.Tuple es x1 pos) (tM X.K E (mTup mt)) := by
  refine pe_imp (pe_tup h) fun σ H Q hq => ?_
  obtain ⟨w, s, e, k, r, q⟩ := hq
  subst e
  refine tMA_at k r ((PostW.bind (Rel := RepL X.K) q).imp fun xs w1 vs x1 k1 p1 q1 => ?_)
  split at q1
  · exact ⟨by rw [← p1.length]; assumption, q1.newT k1 p1⟩
  · exact q1.elim
theorem me_lst (h : PA X es (tMA X.K E mt)) : PE X (.List es pos) (tM X.K E (mLst mt)) := by
  refine pe_imp (pe_lst h) fun σ H Q hq => ?_
  obtain ⟨w, s, e, k, r, q⟩ := hq
  subst e
  refine tMA_at k r ((PostW.bind (Rel := RepL X.K) q).imp fun xs w1 vs x1 k1 p1 q1 => ?_)
  split at q1
  · exact ⟨by rw [← p1.length]; assumption, q1.newL k1 p1⟩
  · exact q1.elim
theorem me_lstH (h : PA X es (tMA X.K E mt)) : PE X (.List es pos) (tM X.K E (mLstH mt)) := by
  refine pe_imp (pe_lst h) fun σ H Q hq => ?_
  obtain ⟨w, s, e, k, r, q⟩ := hq
  subst e
  refine tMA_at k r ((PostW.bind (Rel := RepL X.K) q).imp fun xs w1 vs x1 k1 p1 q1 => ?_)
  split at q1
  · exact ⟨by rw [← p1.length]; assumption, q1.newH k1 p1⟩
  · exact q1.elim
end
/-! ## items, slices -/
def opIx : F2
  | .str x, .int i, h => if x.length ≤ sizeLine then match atI x.cps.toList i with
      | some c => .ok (.str ⟨#[c]⟩) h
      | none => .bad
    else .bad
  | d, .int i, h => match seqOf h d with
    | some xs => match atI xs i with
      | some x => .ok x h
      | none => .bad
    | none => .bad
  | _, _, _ => .bad
theorem atI_rep {K : PySem.W.Frag} {w : W3} {ds : List D} {vs : List V} {i : Int} {d : D} (r : Reps K w ds vs) (h : atI ds i = some d) : ∃ v, atI vs i = some v ∧ Rep K w d v := by
  unfold atI at h ⊢
  rw [← r.length]
  cases e : ixN ds.length i with
  | none => rw [e] at h; cases h
  | some j =>
    rw [e] at h
    obtain ⟨v, h1, h2⟩ := r.get (show ds[j]? = some d from h)
    exact ⟨v, h1, h2⟩
section
variable {X : Cx} {E : XK} {a b : Expr} {ma mb : ME} {pos : Pos}
theorem ir_ix : IxR X (rM X.K E opIx) := by
  intro value slice pins s σ H x y v u Q I rx ry h hs
  obtain ⟨w, d, e, eH, k, rd, re, q⟩ := h
  subst eH
  unfold opIx at q
  split at q
  · rw [rep_str] at rd
    rw [rep_int] at re
    split at q
    · split at q
      · rename_i hz _ c hc
        exact ix_str value slice pins s σ _ x y v u Q I rx ry ⟨_, _, c, rd, re, hz, hc, q.here k (rep_str.mpr rfl)⟩ hs
      · exact q.elim
    · exact q.elim
  · rw [rep_int] at re
    split at q
    · rename_i xs e1
      split at q
      · rename_i z hz
        obtain ⟨p, vs, ex, h2, h3⟩ := seq_at k rd e1
        obtain ⟨z', h4, h5⟩ := atI_rep h3 hz
        rcases h2 with h2 | h2
        · exact ix_list value slice pins s σ _ x y v u Q I rx ry ⟨p, vs, _, z', ex, re, h2, h4, q.here k h5⟩ hs
        · exact ix_tup value slice pins s σ _ x y v u Q I rx ry ⟨p, vs, _, z', ex, re, h2, h4, q.here k h5⟩ hs
      · exact q.elim
    · exact q.elim
  · exact q.elim
theorem me_ix (ha : PE X a (tM X.K E ma)) (hb : PE X b (tM X.K E mb)) (hs : PlainIx b) : PE X (.Subscript a b pos) (tM X.K E (mOp opIx ma mb)) :=
  pe_imp (pe_ix ir_ix ha hb hs) fun _ _ _ h => tOp_of h
/-- a slice's part -/
abbrev MO' := Sl → MH → R (Option Int)
def mNoPart : MO' := fun _ h => .ok none h
def mPart (m : ME) : MO' := fun s h => (m s h).bind fun d h1 => match d with
  | .int i => .ok (some i) h1
  | _ => .bad
abbrev EqO : Rl (Option Int) (Option Int) := fun _ a b => a = b
def tMO (K : PySem.W.Frag) (E : XK) (m : MO') : TO := fun σ H Q => ∃ w s, w.H = H ∧ Ok K w ∧ SRep K w s σ ∧ PostW K E EqO w (m s w.h) fun _ w' v => Q v w'.H
theorem po_imp {e : Option Expr} {t t' : TO} (h : PO X e t) (hi : ∀ σ H Q, t' σ H Q → t σ H Q) : PO X e t' := ⟨fun pins s σ H Q I q => h.run pins s σ H Q I (hi σ H Q q)⟩
theorem mo_none : PO X none (tMO X.K E mNoPart) := by
  refine po_imp po_none fun σ H Q hq => ?_
  obtain ⟨w, s, e, k, r, q⟩ := hq
  subst e
  exact PostW.here (Rel := EqO) q k rfl
theorem mo_some (ha : PE X a (tM X.K E ma)) : PO X (some a) (tMO X.K E (mPart ma)) := by
  refine po_imp (po_some ha) fun σ H Q hq => ?_
  obtain ⟨w, s, e, k, r, q⟩ := hq
  subst e
  refine tM_at k r ((PostW.bind (Rel := RepD X.K) q).imp fun d w1 v x1 k1 p1 q1 => ?_)
  split at q1
  · exact ⟨_, rep_int.mp p1, PostW.here (Rel := EqO) q1 k1 rfl⟩
  · exact q1.elim
def cutD {α : Type} (xs : List α) (lo hi : Option Int) : List α := (xs.drop (HT.sIx xs.length 0 lo)).take (HT.sIx xs.length xs.length hi - HT.sIx xs.length 0 lo)
theorem cut_whole {α : Type} {xs : List α} {lo hi : Option Int} (h1 : HT.sIx xs.length 0 lo = 0) (h2 : HT.sIx xs.length xs.length hi = xs.length) : cutD xs lo hi = xs := by
  unfold cutD
  rw [h1, h2, List.drop_zero, Nat.sub_zero, List.take_length]
theorem cut_rep {K : PySem.W.Frag} {w : W3} {ds : List D} {vs : List V} {lo hi : Option Int} (r : Reps K w ds vs) : Reps K w (cutD ds lo hi) (cutV vs lo hi) := by
  unfold cutD cutV
  rw [← r.length]
  exact (r.drop _).take _
theorem reps_ints {K : PySem.W.Frag} {w : W3} : ∀ ns : List Int, Reps K w (ns.map D.int) (ns.map V.int)
  | [] => Reps.nil
  | n :: ns => Reps.cons (rep_int.mpr rfl) (reps_ints ns)
def opCut : D → Option Int → Option Int → MH → R D
  | .str x, lo, hi, h => if x.length ≤ sizeLine then .ok (.str (cutS x lo hi)) h else .bad
  | .tup xs, lo, hi, h => .ok (.tup (cutD xs lo hi)) h
  | .scr ns, lo, hi, h => .ok (.lst (cutD (ns.map .int) lo hi)) h
  | d, lo, hi, h => match lstOf h d with
    | some xs => .ok (.lst (cutD xs lo hi)) h
    | none => .bad
/-- a slice of a list that the mirror heap holds -/
def opCutH : D → Option Int → Option Int → MH → R D := fun d lo hi h => match lstOf h d with
    | some xs => .ok (.ref h.next) (h.new (.lst (cutD xs lo hi)))
    | none => .bad
def mCut (f : D → Option Int → Option Int → MH → R D) (a : ME) (lo hi : MO') : ME := fun s h => (a s h).bind fun d h1 => (lo s h1).bind fun l h2 => (hi s h2).bind fun u h3 => f d l u h3
def rCut (K : PySem.W.Frag) (E : XK) (f : D → Option Int → Option Int → MH → R D) : V → Option Int → Option Int → Hp → VK → Prop := fun x lo hi H Q => ∃ w d, w.H = H ∧ Ok K w ∧ Rep K w d x ∧ PostW K E (RepD K) w (f d lo hi w.h) fun _ w' v => Q v w'.H
theorem sr_cut : SlR X (rCut X.K E opCut) := by
  intro pins s σ H x v vl vu lo hi sl Q I rx hsl pl pu h
  obtain ⟨w, d, eH, k, rd, q⟩ := h
  subst eH
  unfold opCut at q
  split at q
  · rw [rep_str] at rd
    split at q
    · exact sl_str pins s σ _ x v vl vu _ _ sl Q I rx hsl pl pu ⟨_, rd, by assumption, q.here k (rep_str.mpr rfl)⟩
    · exact q.elim
  · rename_i xs
    obtain ⟨p, vs, ex, h2, h3⟩ := tup_at rd
    refine sl_tupA pins s σ _ x v vl vu _ _ sl Q I rx hsl pl pu ⟨p, vs, ex, h2, fun z => ?_, fun z => q.newT k (cut_rep h3)⟩
    rw [cut_whole (by rw [h3.length]; exact z.1) (by rw [h3.length]; exact z.2)] at q
    subst ex
    exact q.here k rd
  · simp only [Rep] at rd
    obtain ⟨a, ex, h2⟩ := rd
    exact sl_list pins s σ _ x v vl vu _ _ sl Q I rx hsl pl pu ⟨a, _, ex, h2.sq, q.newL k (cut_rep (reps_ints _))⟩
  · split at q
    · rename_i xs e1
      obtain ⟨p, vs, ex, h2, h3⟩ := lst_at k rd e1
      exact sl_list pins s σ _ x v vl vu _ _ sl Q I rx hsl pl pu ⟨p, vs, ex, SqL.of h2, q.newL k (cut_rep h3)⟩
    · exact q.elim
theorem sr_cutH : SlR X (rCut X.K E opCutH) := by
  intro pins s σ H x v vl vu lo hi sl Q I rx hsl pl pu h
  obtain ⟨w, d, eH, k, rd, q⟩ := h
  subst eH
  unfold opCutH at q
  split at q
  · rename_i xs e1
    obtain ⟨p, vs, ex, h2, h3⟩ := lst_at k rd e1
    exact sl_list pins s σ _ x v vl vu _ _ sl Q I rx hsl pl pu ⟨p, vs, ex, SqL.of h2, q.newH k (cut_rep h3)⟩
  · exact q.elim
theorem me_cut {f : D → Option Int → Option Int → MH → R D} {lo hi : Option Expr} {ml mh : MO'} {p2 : Pos} (hr : SlR X (rCut X.K E f)) (ha : PE X a (tM X.K E ma)) (hl : PO X lo (tMO X.K E ml)) (hh : PO X hi (tMO X.K E mh)) :
    PE X (.Subscript a (.Slice lo hi none p2) pos) (tM X.K E (mCut f ma ml mh)) := by
  refine pe_imp (pe_slice hr ha hl hh) fun σ H Q hq => ?_
  obtain ⟨w, s, e, k, r, q⟩ := hq
  subst e
  refine tM_at k r ((PostW.bind (Rel := RepD X.K) q).imp fun d w1 v x1 k1 p1 q1 => ?_)
  refine ⟨w1, s, rfl, k1, r.ext x1, (PostW.bind (Rel := EqO) q1).imp fun l w2 _ x2 k2 e2 q2 => ?_⟩
  subst e2
  refine ⟨w2, s, rfl, k2, r.ext (x1.trans x2), (PostW.bind (Rel := EqO) q2).imp fun u w3 _ x3 k3 e3 q3 => ?_⟩
  subst e3
  exact ⟨w3, d, rfl, k3, p1.ext (x2.trans x3), q3⟩
end
end Tb
end

section
set_option maxHeartbeats 4000000
namespace Tb
open PySem PySem.Spec L2
/-! ## statements: what comes of them -/
inductive RS where
  | nx (s : Sl) (h : MH)
  | brk (s : Sl) (h : MH)
  | ct (s : Sl) (h : MH)
  | ret (d : D) (h : MH)
  | exc (e : Ex) (h : MH)
  | bad
abbrev MS := Sl → MH → RS
abbrev PN := Sl → W3 → L2.St → Prop
structure EndsM where
  nx : PN
  bk : PN
  ct : PN
  rt : D → W3 → V → Prop
def PostS (K : PySem.W.Frag) (E : XK) (w : W3) (r : RS) (M : EndsM) : Prop := match r with
  | .nx s h => ∀ w' σ, w'.h = h → Ext w w' → Ok K w' → SRep K w' s σ → M.nx s w' σ
  | .brk s h => ∀ w' σ, w'.h = h → Ext w w' → Ok K w' → SRep K w' s σ → M.bk s w' σ
  | .ct s h => ∀ w' σ, w'.h = h → Ext w w' → Ok K w' → SRep K w' s σ → M.ct s w' σ
  | .ret d h => ∀ w' v, w'.h = h → Ext w w' → Ok K w' → Rep K w' d v → M.rt d w' v
  | .exc x h => ∀ w' cls d, w'.h = h → Ext w w' → Ok K w' → ExR K w' x cls d → E cls d w'.H
  | .bad => False
def endsM (D : Ends) : EndsM := ⟨fun _ w σ => D.nx σ w.H, fun _ w σ => D.bk σ w.H, fun _ w σ => D.ct σ w.H, fun _ w v => D.rt v w.H⟩
def RS.seq (r : RS) (f : Sl → MH → RS) : RS := match r with
  | .nx s h => f s h
  | r => r
def R.toS {α : Type} (r : R α) (f : α → MH → RS) : RS := match r with
  | .ok a h => f a h
  | .exc e h => .exc e h
  | .bad => .bad
section
variable {K : PySem.W.Frag} {E : XK} {w w1 : W3}
theorem PostS.from {r : RS} {M : EndsM} (h : PostS K E w r M) (e : Ext w w1) : PostS K E w1 r M := by
  cases r with
  | nx s h' => exact fun w' σ a b c d => h w' σ a (e.trans b) c d
  | brk s h' => exact fun w' σ a b c d => h w' σ a (e.trans b) c d
  | ct s h' => exact fun w' σ a b c d => h w' σ a (e.trans b) c d
  | ret s h' => exact fun w' σ a b c d => h w' σ a (e.trans b) c d
  | exc x h' => exact fun w' c d e' q o p => h w' c d e' (e.trans q) o p
  | bad => exact h
theorem PostS.seq {r : RS} {f : Sl → MH → RS} {M : EndsM} (h : PostS K E w (r.seq f) M) : PostS K E w r { M with nx := fun s w1 _ => PostS K E w1 (f s w1.h) M } := by
  cases r with
  | nx s h' =>
    intro w' σ e x k r
    subst e
    exact PostS.from h x
  | brk s h' => exact h
  | ct s h' => exact h
  | ret s h' => exact h
  | exc x h' => exact h
  | bad => exact h
theorem PostS.imp {r : RS} {M M' : EndsM} (h : PostS K E w r M) (hn : ∀ s w' σ, Ext w w' → Ok K w' → SRep K w' s σ → M.nx s w' σ → M'.nx s w' σ) (hb : ∀ s w' σ, Ext w w' → Ok K w' → SRep K w' s σ → M.bk s w' σ → M'.bk s w' σ)
    (hc : ∀ s w' σ, Ext w w' → Ok K w' → SRep K w' s σ → M.ct s w' σ → M'.ct s w' σ) (hr : ∀ d w' v, Ext w w' → Ok K w' → Rep K w' d v → M.rt d w' v → M'.rt d w' v) : PostS K E w r M' := by
  cases r with
  | nx s h' => exact fun w' σ a b c d => hn _ _ _ b c d (h w' σ a b c d)
  | brk s h' => exact fun w' σ a b c d => hb _ _ _ b c d (h w' σ a b c d)
  | ct s h' => exact fun w' σ a b c d => hc _ _ _ b c d (h w' σ a b c d)
  | ret s h' => exact fun w' σ a b c d => hr _ _ _ b c d (h w' σ a b c d)
  | exc x h' => exact h
  | bad => exact h
theorem PostW.toS {α β : Type} {Rel : Rl α β} {r : R α} {f : α → MH → RS} {M : EndsM} (h : PostS K E w (r.toS f) M) : PostW K E Rel w r (fun a w1 _ => PostS K E w1 (f a w1.h) M) := by
  cases r with
  | ok a h' =>
    intro w' v e x o p
    subst e
    exact PostS.from h x
  | exc x h' => exact h
  | bad => exact h
theorem PostS.hereN {s : Sl} {σ : L2.St} {M : EndsM} (h : PostS K E w (.nx s w.h) M) (k : Ok K w) (r : SRep K w s σ) : M.nx s w σ := h w σ rfl (Ext.refl w) k r
end
def tMS (K : PySem.W.Frag) (E : XK) (m : MS) : TS := fun D σ H => ∃ w s, w.H = H ∧ Ok K w ∧ SRep K w s σ ∧ PostS K E w (m s w.h) (endsM D)
theorem tMS_at {K : PySem.W.Frag} {E : XK} {m : MS} {w : W3} {s : Sl} {σ : L2.St} {D : Ends} (k : Ok K w) (r : SRep K w s σ) (h : PostS K E w (m s w.h) (endsM D)) : tMS K E m D σ w.H := ⟨w, s, rfl, k, r, h⟩
def mSkip : MS := fun s h => .nx s h
def mSeq (a b : MS) : MS := fun s h => (a s h).seq b
def mBreak : MS := fun s h => .brk s h
def mCont : MS := fun s h => .ct s h
def mRet (m : ME) : MS := fun s h => (m s h).toS fun d h1 => .ret d h1
def mRetN : MS := fun _ h => .ret .non h
def mIfS (c : MT) (a b : MS) : MS := fun s h => (c s h).toS fun k h1 => if k = true then a s h1 else b s h1
def mDo (m : ME) : MS := fun s h => (m s h).toS fun _ h1 => .nx s h1
section
variable {X : Cx} {E : XK} {st : Stmt} {rest : List Stmt} {ma mb : MS} {e : Expr} {m : ME} {pos : Pos}
theorem mss_nil : PSs X [] (tMS X.K E mSkip) := by
  refine pss_imp pss_nil fun D σ H hq => ?_
  obtain ⟨w, s, e, k, r, q⟩ := hq
  subst e
  exact PostS.hereN q k r
theorem mss_cons (h1 : PS X st (tMS X.K E ma)) (h2 : PSs X rest (tMS X.K E mb)) : PSs X (st :: rest) (tMS X.K E (mSeq ma mb)) := by
  refine pss_imp (pss_cons h1 h2) fun D σ H hq => ?_
  obtain ⟨w, s, e, k, r, q⟩ := hq
  subst e
  exact tMS_at k r ((PostS.seq q).imp (fun s' w' σ' x' k' r' z => tMS_at k' r' z) (fun _ _ _ _ _ _ z => z) (fun _ _ _ _ _ _ z => z) fun _ _ _ _ _ _ z => z)
theorem mss_one (h1 : PS X st (tMS X.K E ma)) : PSs X [st] (tMS X.K E ma) := pss_one h1
theorem ms_pass : PS X (.Pass pos) (tMS X.K E mSkip) := by
  refine ps_imp ps_pass fun D σ H hq => ?_
  obtain ⟨w, s, e, k, r, q⟩ := hq
  subst e
  exact PostS.hereN q k r
theorem ms_break : PS X (.Break pos) (tMS X.K E mBreak) := by
  refine ps_imp ps_break fun D σ H hq => ?_
  obtain ⟨w, s, e, k, r, q⟩ := hq
  subst e
  exact q w σ rfl (Ext.refl w) k r
theorem ms_cont : PS X (.Continue pos) (tMS X.K E mCont) := by
  refine ps_imp ps_continue fun D σ H hq => ?_
  obtain ⟨w, s, e, k, r, q⟩ := hq
  subst e
  exact q w σ rfl (Ext.refl w) k r
theorem ms_ret (h : PE X e (tM X.K E m)) : PS X (.Return (some e) pos) (tMS X.K E (mRet m)) := by
  refine ps_imp (ps_ret h) fun D σ H hq => ?_
  obtain ⟨w, s, e, k, r, q⟩ := hq
  subst e
  refine tM_at k r ((PostW.toS (Rel := RepD X.K) q).imp fun d w1 v x1 k1 p1 q1 => ?_)
  exact q1 w1 v rfl (Ext.refl w1) k1 p1
theorem ms_retN : PS X (.Return none pos) (tMS X.K E mRetN) := by
  refine ps_imp ps_retN fun D σ H hq => ?_
  obtain ⟨w, s, e, k, r, q⟩ := hq
  subst e
  exact q w .non rfl (Ext.refl w) k (rep_non.mpr rfl)
theorem ms_if {c : Expr} {a b : List Stmt} {mc : MT} (hc : PT X c (tMT X.K E mc)) (ha : PSs X a (tMS X.K E ma)) (hb : PSs X b (tMS X.K E mb)) : PS X (.If c a b pos) (tMS X.K E (mIfS mc ma mb)) := by
  refine ps_imp (ps_if hc ha hb) fun D σ H hq => ?_
  obtain ⟨w, s, e, k, r, q⟩ := hq
  subst e
  refine tMT_at k r ((PostW.toS (Rel := EqB) q).imp fun c w1 v x1 k1 p1 q1 => ?_)
  subst p1
  cases c with
  | true =>
    rw [if_pos rfl] at q1 ⊢
    exact tMS_at k1 (r.ext x1) q1
  | false =>
    rw [if_neg Bool.false_ne_true] at q1 ⊢
    exact tMS_at k1 (r.ext x1) q1
theorem ms_do (h : PE X e (tM X.K E m)) (hs : swapsWith e none pos.line X.env = pure false) : PS X (.Expr e pos) (tMS X.K E (mDo m)) := by
  refine ps_imp (ps_expr h hs) fun D σ H hq => ?_
  obtain ⟨w, s, e, k, r, q⟩ := hq
  subst e
  exact tM_at k r ((PostW.toS (Rel := RepD X.K) q).imp fun d w1 v x1 k1 p1 q1 => PostS.hereN q1 k1 (r.ext x1))
end
/-! ## targets: names and tuples of them -/
abbrev MG := D → Sl → Option Sl
abbrev MGs := List D → Sl → Option Sl
def mgName (i : Nat) : MG := fun d s => some (s.set i (some d))
def mgNil : MGs := fun ds s => match ds with
  | [] => some s
  | _ => none
def mgCons (g : MG) (gs : MGs) : MGs := fun ds s => match ds with
  | d :: r => (g d s).bind (gs r)
  | [] => none
def mgTup (n : Nat) (gs : MGs) : MG := fun d s => match d with
  | .tup xs => if xs.length = n then gs xs s else none
  | .lst xs => if xs.length = n then gs xs s else none
  | _ => none
/-- a tuple, a list goes to names -/
def gSeq (K : PySem.W.Frag) (n : Nat) (t : TGs) : TG := fun v σ H Q => gTup K n t v σ H Q ∨ gLst K n t v σ H Q
theorem pg_seq {X : Cx} {pos : Pos} {es : List Expr} {k : Nat} {t : TGs} {n : Nat} (hc : X.calm = true) (h : PGs X es t) (hn : (assignEach es X.env).length = n) (hst : (assignEach es X.env).findIdx? (·.1) = none) : PG X (.Tuple es k pos) (gSeq X.K n t) :=
  ⟨fun pins s σ H v u Q I r hw => hw.elim (fun z => (pg_tup hc h hn hst).run pins s σ H v u Q I r z) fun z => (pg_lst hc h hn hst).run pins s σ H v u Q I r z⟩
/-- vs: the slots that are stored -/
def GOk (K : PySem.W.Frag) (vs : List Nat) (g : TG) (m : MG) : Prop := ∀ (v : V) (σ : L2.St) (w : W3) (d : D) (s s' : Sl) (Q : L2.St → Hp → Prop), Ok K w → SRep K w s σ → Rep K w d v → m d s = some s' →
  (∀ σ', SRep K w s' σ' → wipe σ' vs = wipe σ vs → Q σ' w.H) → g v σ w.H Q
def GsOk (K : PySem.W.Frag) (vs : List Nat) (g : TGs) (m : MGs) : Prop := ∀ (us : List V) (σ : L2.St) (w : W3) (ds : List D) (s s' : Sl) (Q : L2.St → Hp → Prop), Ok K w → SRep K w s σ → Reps K w ds us → m ds s = some s' →
  (∀ σ', SRep K w s' σ' → wipe σ' vs = wipe σ vs → Q σ' w.H) → g us σ w.H Q
theorem wipe_set {x : Option V} : ∀ {vs : List Nat} {σ : L2.St} {i : Nat}, i ∈ vs → wipe (σ.set i x) vs = wipe σ vs
  | [], _, _, h => absurd h (by simp)
  | v :: vs, σ, i, h => by
    by_cases hv : i ∈ vs
    · unfold wipe
      rw [wipe_set hv]
    · have e : i = v := by simpa [hv] using h
      subst e
      have aux : ∀ (us : List Nat) (τ : L2.St), i ∉ us → wipe (τ.set i x) us = (wipe τ us).set i x := by
        intro us
        induction us with
        | nil => intro τ _; rfl
        | cons u us ih =>
          intro τ hu
          unfold wipe
          rw [ih τ (fun z => hu (List.mem_cons_of_mem _ z)), List.set_comm _ _ (fun z => hu (by rw [z]; exact List.mem_cons_self))]
      unfold wipe
      rw [aux vs σ hv, List.set_set]
theorem go_name {K : PySem.W.Frag} {vs : List Nat} {i : Nat} (hi : i ∈ vs) : GOk K vs (gName i) (mgName i) := by
  intro v σ w d s s' Q k r p e h
  unfold mgName at e
  cases e
  exact h _ (r.set i p) (wipe_set hi)
theorem gos_nil {K : PySem.W.Frag} {vs : List Nat} : GsOk K vs gNil mgNil := by
  intro us σ w ds s s' Q k r p e h
  unfold mgNil at e
  split at e
  · cases e
    exact ⟨p.unnil, h σ r rfl⟩
  · cases e
theorem gos_cons {K : PySem.W.Frag} {vs : List Nat} {g : TG} {m : MG} {gs : TGs} {ms : MGs} (h1 : GOk K vs g m) (h2 : GsOk K vs gs ms) : GsOk K vs (gCons g gs) (mgCons m ms) := by
  intro us σ w ds s s' Q k r p e h
  unfold mgCons at e
  split at e
  · rename_i d ds'
    obtain ⟨u, us', rfl, p1, p2⟩ := p.uncons
    cases e1 : m d s with
    | none => rw [e1] at e; cases e
    | some s1 =>
      rw [e1] at e
      refine ⟨u, us', rfl, h1 u σ w d s s1 _ k r p1 e1 fun σ1 r1 z1 => ?_⟩
      exact h2 us' σ1 w ds' s1 s' _ k r1 p2 e fun σ2 r2 z2 => h σ2 r2 (z2.trans z1)
  · cases e
theorem go_tup {K : PySem.W.Frag} {vs : List Nat} {n : Nat} {gs : TGs} {ms : MGs} (h : GsOk K vs gs ms) : GOk K vs (gSeq K n gs) (mgTup n ms) := by
  intro v σ w d s s' Q k r p e hq
  unfold mgTup at e
  split at e
  · split at e
    · rename_i xs hz
      obtain ⟨a, us, rfl, h2, h3⟩ := tup_at p
      exact .inl ⟨a, us, rfl, h2, by rw [← h3.length]; exact hz, h us σ w xs s s' Q k r h3 e hq⟩
    · cases e
  · split at e
    · rename_i xs hz
      simp only [Rep] at p
      obtain ⟨a, us, rfl, h2, h3⟩ := p
      exact .inr ⟨a, us, rfl, h2.sq, by rw [← h3.length]; exact hz, h us σ w xs s s' Q k r h3 e hq⟩
    · cases e
  · cases e
/-! ## what is walked -/
abbrev Gd := Option (Nat × List D)
def gOk (g : Gd) (h : MH) : Prop := match g with
  | none => True
  | some (n, xs) => h.get n = some (.lst xs)
structure Walks (K : PySem.W.Frag) (w : W3) (J : L2.It) (p : List D × Gd) : Prop where
  go : ∀ i w', Ext w w' → Ok K w' → gOk p.2 w'.h → i < p.1.length → J.go i w'.H
  yl : ∀ i w' x H' d, Ext w w' → Ok K w' → gOk p.2 w'.h → p.1[i]? = some d → J.yld i w'.H x H' → ∃ w'', w''.H = H' ∧ w''.h = w'.h ∧ Ext w' w'' ∧ Ok K w'' ∧ Rep K w'' d x
  st : ∀ w', Ext w w' → Ok K w' → gOk p.2 w'.h → J.stop p.1.length w'.H
abbrev MI := Sl → MH → R (List D × Gd)
abbrev RelI (K : PySem.W.Frag) : Rl (List D × Gd) L2.It := fun w p J => Walks K w J p
def tMI (K : PySem.W.Frag) (E : XK) (m : MI) : TI := fun σ H Q => ∃ w s, w.H = H ∧ Ok K w ∧ SRep K w s σ ∧ PostW K E (RelI K) w (m s w.h) fun _ w' J => Q J w'.H
theorem pi_imp {X : Cx} {tg e : Expr} {t t' : TI} (h : PI X tg e t) (hi : ∀ σ H Q, t' σ H Q → t σ H Q) : PI X tg e t' := ⟨fun pins s σ H Q I q => h.run pins s σ H Q I (hi σ H Q q)⟩
section
variable {K : PySem.W.Frag} {w : W3}
theorem TupAt.inj {X : Cx} {a : Addr} {xs : List V} (h : TupAt K w a xs) : SqT K w.H a xs := h.sq
/-- a tuple is walked -/
theorem walks_tup {xs : List D} {v : V} (r : Rep K w (.tup xs) v) : ∃ a, v = .ref a ∧ (∃ vs, SqT K w.H a vs) ∧ Walks K w (Itt K a) (xs, none) := by
  have r0 := r
  simp only [Rep] at r
  obtain ⟨a, vs, rfl, h2, h3⟩ := r
  refine ⟨a, rfl, ⟨vs, h2.sq⟩, ⟨fun i w' x k g hi => ?_, fun i w' y H' d x k g e hy => ?_, fun w' x k g => ?_⟩⟩
  · have hi' : i < vs.length := by rw [← h3.length]; exact hi
    exact ⟨vs, vs[i], (h2.ext x).sq, by simp [hi']⟩
  · obtain ⟨e1, hy⟩ := hy
    subst e1
    obtain ⟨v, e2, p⟩ := h3.get e
    have e3 := hy vs (h2.ext x).sq
    rw [e2] at e3; cases e3
    exact ⟨w', rfl, rfl, Ext.refl w', k, p.ext x⟩
  · exact ⟨vs, (h2.ext x).sq, by rw [h3.length]; exact Nat.le_refl _⟩
theorem walks_lst {xs : List D} {v : V} (r : Rep K w (.lst xs) v) : ∃ a, v = .ref a ∧ (∃ vs, SqL K w.H a vs) ∧ Walks K w (Itl K a) (xs, none) := by
  simp only [Rep] at r
  obtain ⟨a, vs, rfl, h2, h3⟩ := r
  refine ⟨a, rfl, ⟨vs, h2.sq⟩, ⟨fun i w' x k g hi => ?_, fun i w' y H' d x k g e hy => ?_, fun w' x k g => ?_⟩⟩
  · have hi' : i < vs.length := by rw [← h3.length]; exact hi
    exact ⟨vs, vs[i], (h2.ext x).sq, by simp [hi']⟩
  · obtain ⟨e1, hy⟩ := hy
    subst e1
    obtain ⟨v, e2, p⟩ := h3.get e
    have e3 := hy vs (h2.ext x).sq
    rw [e2] at e3; cases e3
    exact ⟨w', rfl, rfl, Ext.refl w', k, p.ext x⟩
  · exact ⟨vs, (h2.ext x).sq, by rw [h3.length]; exact Nat.le_refl _⟩
theorem walks_ref {n : Nat} {xs : List D} {v : V} (k0 : Ok K w) (r : Rep K w (.ref n) v) (hn : w.h.get n = some (.lst xs)) : ∃ a, v = .ref a ∧ (∃ vs, SqL K w.H a vs) ∧ Walks K w (Itl K a) (xs, some (n, xs)) := by
  simp only [Rep] at r
  obtain ⟨hlt, rfl⟩ := r
  obtain ⟨vs0, h1, h2⟩ := (k0.dom n _ hn).2
  have at' : ∀ w', Ext w w' → Ok K w' → gOk (some (n, xs)) w'.h → ∃ vs, w'.H (w.io n) = some (.lst vs) ∧ Reps K w' xs vs := fun w' x k g => by
    obtain ⟨vs, q1, q2⟩ := (k.dom n _ g).2
    rw [x.io n hlt] at q1
    exact ⟨vs, q1, q2⟩
  refine ⟨_, rfl, ⟨vs0, SqL.of h1⟩, ⟨fun i w' x k g hi => ?_, fun i w' y H' d x k g e hy => ?_, fun w' x k g => ?_⟩⟩
  · obtain ⟨vs, q1, q2⟩ := at' w' x k g
    have hi' : i < vs.length := by rw [← q2.length]; exact hi
    exact ⟨vs, vs[i], SqL.of q1, by simp [hi']⟩
  · obtain ⟨e1, hy⟩ := hy
    subst e1
    obtain ⟨vs, q1, q2⟩ := at' w' x k g
    obtain ⟨v, e2, p⟩ := q2.get e
    have e3 := hy vs (SqL.of q1)
    rw [e2] at e3; cases e3
    exact ⟨w', rfl, rfl, Ext.refl w', k, p⟩
  · obtain ⟨vs, q1, q2⟩ := at' w' x k g
    exact ⟨vs, SqL.of q1, by rw [q2.length]; exact Nat.le_refl _⟩
def rangeD (lo : Int) (n : Nat) : List D := (List.range n).map fun i => .int (lo + (i : Nat))
theorem walks_range {lo : Int} {n : Nat} : Walks K w (Itr lo n) (rangeD lo n, none) := by
  refine ⟨fun i w' x k g hi => ?_, fun i w' y H' d x k g e hy => ?_, fun w' x k g => ?_⟩
  · show i < n
    simpa [rangeD] using hi
  · obtain ⟨e1, rfl⟩ := hy
    subst e1
    refine ⟨w', rfl, rfl, Ext.refl w', k, ?_⟩
    unfold rangeD at e
    rw [List.getElem?_map, Option.map_eq_some_iff] at e
    obtain ⟨j, e2, rfl⟩ := e
    have e3 : j = i := by
      have := (List.getElem?_eq_some_iff.mp e2).2
      simpa using this.symm
    subst e3
    exact rep_int.mpr rfl
  · show n ≤ _
    simp [rangeD]
end
end Tb
end

section
set_option maxHeartbeats 4000000
namespace Tb
open PySem PySem.Spec L2
/-! ## walking a value -/
def itOf : D → MH → R (List D × Gd)
  | .tup xs, h => .ok (xs, none) h
  | .lst xs, h => .ok (xs, none) h
  | .str x, h => .ok (x.cps.toList.map fun c => .str ⟨#[c]⟩, none) h
  | .ref n, h => match h.get n with
    | some (.lst xs) => .ok (xs, some (n, xs)) h
    | none => .bad
  | _, _ => .bad
def mIter (m : ME) : MI := fun s h => (m s h).bind itOf
theorem walks_str {K : PySem.W.Frag} {w : W3} {x : Str} : Walks K w (Its x) (x.cps.toList.map fun c => .str ⟨#[c]⟩, none) := by
  refine ⟨fun i w' _ k g hi => ?_, fun i w' y H' d _ k g e hy => ?_, fun w' _ k g => ?_⟩
  · show i < x.cps.size
    simpa using hi
  · obtain ⟨e1, c, e2, rfl⟩ := hy
    subst e1
    refine ⟨w', rfl, rfl, Ext.refl w', k, ?_⟩
    rw [List.getElem?_map, Option.map_eq_some_iff] at e
    obtain ⟨j, e3, rfl⟩ := e
    rw [Array.getElem?_toList, e2] at e3
    cases e3
    exact rep_str.mpr rfl
  · show x.cps.size ≤ _
    simp
section
variable {X : Cx} {E : XK} {tg e : Expr} {m : ME}
theorem mi_val (he : PE X e (tM X.K E m)) : PI X tg e (tMI X.K E (mIter m)) := by
  refine ⟨fun pins s σ H R I hq => ?_⟩
  obtain ⟨w, sl, eH, k, r, q⟩ := hq
  subst eH
  refine thn (he.run pins s σ w.H
      (fun v H1 => ∃ w1 d, w1.H = H1 ∧ Ok X.K w1 ∧ Rep X.K w1 d v ∧ PostW X.K E (RelI X.K) w1 (itOf d w1.h) fun _ w' J => R J w'.H)
      I (tM_at k r ((PostW.bind (Rel := RepD X.K) q).imp fun d w1 v _ k1 p1 q1 => ⟨w1, d, rfl, k1, p1, q1⟩))) fun u s1 hv => ?_
  obtain ⟨v, H1, I1, rv, w1, d, e1, k1, p1, q1⟩ := hv
  subst e1
  unfold itOf at q1
  split at q1
  · obtain ⟨a, rfl, ⟨vs, hs⟩, wk⟩ := walks_tup p1
    cases rv
    obtain ⟨its, r2, ht, _⟩ := I1.tuple hs
    exact wpAny_pyIter_tuple (show s1.heap.IsTuple a its.toArray from ht)
      (pi_one (tk := s1.toks) I1 _ (turn_tuple a _) ⟨_, Heap.get?_push_size _ rfl, rfl, rfl⟩
        (PostW.here (Rel := RelI X.K) q1 k1 wk))
  · obtain ⟨a, rfl, ⟨vs, hs⟩, wk⟩ := walks_lst p1
    cases rv
    obtain ⟨its, r2, ht, _⟩ := I1.list hs
    exact wpAny_pyIter_list ht.isList
      (pi_one (tk := s1.toks) I1 _ (turn_list a _) ⟨_, Heap.get?_push_size _ rfl, rfl, rfl⟩
        (PostW.here (Rel := RelI X.K) q1 k1 wk))
  · rename_i x
    have e2 := rep_str.mp p1
    subst e2
    obtain ⟨t, rfl⟩ := rv
    have wk : Walks X.K w1 (Its x) (x.cps.toList.map fun c => D.str ⟨#[c]⟩, none) := walks_str
    have q2 := PostW.here (Rel := RelI X.K) q1 k1 wk
    cases ha : x.cps.all (· < 128) with
    | false =>
      exact wpAny_pyIter_wide ha
        (pi_one (tk := s1.toks) I1 _ (turn_str _ x t "str_iterator" (.inr rfl)) ⟨_, Heap.get?_push_size _ rfl, rfl, rfl⟩ q2)
    | true =>
      exact wpAny_pyIter_ascii ha
        (pi_one (tk := s1.toks) I1 _ (turn_str _ x t "str_ascii_iterator" (.inl rfl)) ⟨_, Heap.get?_push_size _ rfl, rfl, rfl⟩ q2)
  · split at q1
    · rename_i n h' xs e2
      obtain ⟨a, rfl, ⟨vs, hs⟩, wk⟩ := walks_ref k1 p1 e2
      cases rv
      obtain ⟨its, r2, ht, _⟩ := I1.list hs
      exact wpAny_pyIter_list ht.isList
        (pi_one (tk := s1.toks) I1 _ (turn_list a _) ⟨_, Heap.get?_push_size _ rfl, rfl, rfl⟩
          (PostW.here (Rel := RelI X.K) q1 k1 wk))
    · exact q1.elim
  · exact q1.elim
/-- range(a), range(a, b) -/
def mRange1 (m : ME) : MI := fun s h => (m s h).bind fun d h1 => match d with
  | .int j => if -(2 ^ 62) ≤ j ∧ j < 2 ^ 62 then .ok (rangeD 0 j.toNat, none) h1 else .bad
  | _ => .bad
def mRange2 (m n : ME) : MI := fun s h => (m s h).bind fun d h1 => (n s h1).bind fun e h2 => match d, e with
  | .int i, .int j => if -(2 ^ 62) ≤ i ∧ i < 2 ^ 62 ∧ -(2 ^ 62) ≤ j ∧ j < 2 ^ 62 then .ok (rangeD i (j - i).toNat, none) h2 else .bad
  | _, _ => .bad
theorem mi_range1 {a : Expr} {p pos : Pos} (hg : Gl X "range") (hm : X.mg "range" = none) (ha : PE X a (tM X.K E m)) (hs : starEach [a] X.env = [(false, eval a X.env)]) :
    PI X tg (.Call (.Name "range" p) [a] [] pos) (tMI X.K E (mRange1 m)) := by
  refine pi_imp (pi_range1 hg hm (pa_cons ha pa_nil hs) hs) fun σ H Q hq => ?_
  obtain ⟨w, s, e, k, r, q⟩ := hq
  subst e
  refine tM_at k r ((PostW.bind (Rel := RepD X.K) q).imp fun d w1 v x1 k1 p1 q1 => ?_)
  split at q1
  · split at q1
    · rename_i hz
      exact ⟨_, congrArg (fun z => [z]) (rep_int.mp p1), hz.1, hz.2, PostW.here (Rel := RelI X.K) q1 k1 (by simpa using walks_range)⟩
    · exact q1.elim
  · exact q1.elim
theorem mi_range2 {a b : Expr} {n : ME} {p pos : Pos} (hg : Gl X "range") (hm : X.mg "range" = none) (ha : PE X a (tM X.K E m)) (hb : PE X b (tM X.K E n)) (hs : starEach [a, b] X.env = [(false, eval a X.env), (false, eval b X.env)]) (hs2 : starEach [b] X.env = [(false, eval b X.env)]) :
    PI X tg (.Call (.Name "range" p) [a, b] [] pos) (tMI X.K E (mRange2 m n)) := by
  refine pi_imp (pi_range2 hg hm (pa_cons ha (pa_cons hb pa_nil hs2) (by rw [hs, hs2])) hs hs2) fun σ H Q hq => ?_
  obtain ⟨w, s, e, k, r, q⟩ := hq
  subst e
  show tM X.K E m σ w.H fun x H1 => tM X.K E n σ H1 fun y H2 => ∃ i j : Int, [x, y] = [V.int i, V.int j] ∧ (-(2 ^ 62) ≤ i ∧ i < 2 ^ 62 ∧ -(2 ^ 62) ≤ j ∧ j < 2 ^ 62) ∧ Q (Itr i (j - i).toNat) H2
  refine tM_at k r ((PostW.bind (Rel := RepD X.K) q).imp fun d w1 v x1 k1 p1 q1 => ?_)
  refine tM_at k1 (r.ext x1) ((PostW.bind (Rel := RepD X.K) q1).imp fun d2 w2 v2 x2 k2 p2 q2 => ?_)
  split at q2
  · split at q2
    · rename_i hz
      refine ⟨_, _, ?_, hz, PostW.here (Rel := RelI X.K) q2 k2 walks_range⟩
      rw [rep_int.mp p1, rep_int.mp p2]
    · exact q2.elim
  · exact q2.elim
end
/-! ## for -/
open Classical in
noncomputable def forLoop (g : Gd) (tg : MG) (body : MS) : List D → Sl → MH → RS
  | [], s, h => if gOk g h then .nx s h else .bad
  | x :: xs, s, h => if gOk g h then (match tg x s with
      | some s1 => (match body s1 h with
        | .nx s2 h2 => forLoop g tg body xs s2 h2
        | .ct s2 h2 => forLoop g tg body xs s2 h2
        | .brk s2 h2 => .nx s2 h2
        | .ret d h2 => .ret d h2
        | .exc e h2 => .exc e h2
        | .bad => .bad)
      | none => .bad) else .bad
noncomputable def mFor (it : MI) (tg : MG) (body : MS) : MS := fun s h => (it s h).toS fun p h1 => forLoop p.2 tg body p.1 s h1
theorem wipe_nil {σ : L2.St} : wipe σ [] = σ := rfl
section
variable {X : Cx} {E : XK} {tg iter : Expr} {body : List Stmt} {mi : MI} {g : TG} {mg : MG} {mb : MS} {vs : List Nat} {pos : Pos}
theorem ms_for (hp : PassesOwn (model X.prog X.w) X.A X.env X.xe) (hc : X.calm = true) (hi : PI X tg iter (tMI X.K E mi)) (hg : PG X tg g) (gk : GOk X.K vs g mg) (hb : PSs X body (tMS X.K E mb))
    (hs : ∀ x, foldedSetIterable iter X.env x = pure x) : PS X (.For tg iter body [] pos) (tMS X.K E (mFor mi mg mb)) := by
  refine ps_imp (ps_for hp hc hi hg hb hs) fun D σ H hq => ?_
  obtain ⟨w, s, e, k, r, q⟩ := hq
  subst e
  refine ⟨w, s, rfl, k, r, (PostW.toS (Rel := RelI X.K) q).imp fun p w1 J x1 k1 wk q1 => ?_⟩
  refine ⟨fun i m σ' H' => m = p.1.length - i ∧ i ≤ p.1.length ∧ ∃ w' s', w'.H = H' ∧ Ext w1 w' ∧ Ok X.K w' ∧ SRep X.K w' s' σ' ∧ PostS X.K E w' (forLoop p.2 mg mb (p.1.drop i) s' w'.h) (endsM D),
    ⟨p.1.length, by simp, Nat.zero_le _, w1, s, rfl, Ext.refl w1, k1, r.ext x1, by rw [List.drop_zero]; exact q1⟩, ?_⟩
  rintro i m σ' H' ⟨rfl, hi', w', s', rfl, x', k', r', q'⟩
  by_cases hlt : i < p.1.length
  · rw [List.drop_eq_getElem_cons hlt] at q'
    unfold forLoop at q'
    split at q'
    · rename_i hgd
      split at q'
      · rename_i s1 hs1
        refine .inr ⟨wk.go i w' x' k' hgd hlt, fun σ2 H2 => ∃ w2 s2, w2.H = H2 ∧ Ext w1 w2 ∧ Ok X.K w2 ∧ SRep X.K w2 s2 σ2 ∧ PostS X.K E w2 (forLoop p.2 mg mb (p.1.drop (i + 1)) s2 w2.h) (endsM D), fun σ2 H2 z => ?_, fun x H2 hy => ?_⟩
        · obtain ⟨w2, s2, a1, a2, a3, a4, a5⟩ := z
          exact ⟨p.1.length - (i + 1), by omega, rfl, hlt, w2, s2, a1, a2, a3, a4, a5⟩
        · obtain ⟨w2, e2, eh, x2, k2, p2⟩ := wk.yl i w' x H2 _ x' k' hgd (List.getElem?_eq_getElem hlt) hy
          subst e2
          refine gk x σ' w2 _ s' s1 _ k2 (r'.ext x2) p2 hs1 fun σ3 r3 _ => ?_
          refine tMS_at k2 r3 ?_
          rw [eh]
          have xx := x'.trans x2
          cases hbd : mb s1 w'.h with
          | nx s2 h2 =>
            rw [hbd] at q'
            exact fun w3 σ3 e3 x3 k3 r3 => ⟨w3, s2, rfl, xx.trans x3, k3, r3, by rw [e3]; exact PostS.from q' (x2.trans x3)⟩
          | ct s2 h2 =>
            rw [hbd] at q'
            exact fun w3 σ3 e3 x3 k3 r3 => ⟨w3, s2, rfl, xx.trans x3, k3, r3, by rw [e3]; exact PostS.from q' (x2.trans x3)⟩
          | brk s2 h2 =>
            rw [hbd] at q'
            exact fun w3 σ3 e3 x3 k3 r3 => q' w3 σ3 e3 (x2.trans x3) k3 r3
          | ret d h2 =>
            rw [hbd] at q'
            exact fun w3 v e3 x3 k3 p3 => q' w3 v e3 (x2.trans x3) k3 p3
          | exc ex h2 =>
            rw [hbd] at q'
            exact fun w3 c d e3 x3 k3 p3 => q' w3 c d e3 (x2.trans x3) k3 p3
          | bad =>
            rw [hbd] at q'
            exact q'
      · exact q'.elim
    · exact q'.elim
  · have e : i = p.1.length := by omega
    subst e
    rw [List.drop_length] at q'
    unfold forLoop at q'
    split at q'
    · rename_i hgd
      exact .inl ⟨wk.st w' x' k' hgd, PostS.hereN q' k' r'⟩
    · exact q'.elim
end
/-! ## while -/
def whileLoop (c : MT) (body : MS) : Nat → Sl → MH → RS
  | 0, _, _ => .bad
  | n + 1, s, h => (c s h).toS fun b h1 => if b = true then (match body s h1 with
      | .nx s2 h2 => whileLoop c body n s2 h2
      | .ct s2 h2 => whileLoop c body n s2 h2
      | .brk s2 h2 => .nx s2 h2
      | .ret d h2 => .ret d h2
      | .exc e h2 => .exc e h2
      | .bad => .bad) else .nx s h1
/-- so many turns at the most -/
def mWhile (c : MT) (body : MS) : MS := whileLoop c body 1000000
section
variable {X : Cx} {E : XK} {c : Expr} {body : List Stmt} {mc : MT} {mb : MS} {pos : Pos}
theorem ms_while (hp : PassesOwn (model X.prog X.w) X.A X.env X.xe) (hc : PT X c (tMT X.K E mc)) (hb : PSs X body (tMS X.K E mb)) : PS X (.While c body [] pos) (tMS X.K E (mWhile mc mb)) := by
  refine ps_imp (ps_while hp hc hb) fun D σ H hq => ?_
  obtain ⟨w, s, e, k, r, q⟩ := hq
  subst e
  refine ⟨fun m σ' H' => ∃ w' s', w'.H = H' ∧ Ok X.K w' ∧ SRep X.K w' s' σ' ∧ PostS X.K E w' (whileLoop mc mb m s' w'.h) (endsM D), ⟨1000000, w, s, rfl, k, r, q⟩, ?_⟩
  rintro m σ' H' ⟨w', s', rfl, k', r', q'⟩
  cases m with
  | zero => exact q'.elim
  | succ n =>
    unfold whileLoop at q'
    refine tMT_at k' r' ((PostW.toS (Rel := EqB) q').imp fun b w1 v x1 k1 p1 q1 => ?_)
    subst p1
    cases b with
    | true =>
      rw [if_pos rfl] at q1 ⊢
      refine ⟨fun σ2 H2 => ∃ w2 s2, w2.H = H2 ∧ Ok X.K w2 ∧ SRep X.K w2 s2 σ2 ∧ PostS X.K E w2 (whileLoop mc mb n s2 w2.h) (endsM D), fun σ2 H2 z => ⟨n, Nat.lt_succ_self n, z⟩, tMS_at k1 (r'.ext x1) ?_⟩
      cases hbd : mb s' w1.h with
      | nx s2 h2 =>
        rw [hbd] at q1
        exact fun w3 σ3 e3 x3 k3 r3 => ⟨w3, s2, rfl, k3, r3, by rw [e3]; exact PostS.from q1 x3⟩
      | ct s2 h2 =>
        rw [hbd] at q1
        exact fun w3 σ3 e3 x3 k3 r3 => ⟨w3, s2, rfl, k3, r3, by rw [e3]; exact PostS.from q1 x3⟩
      | brk s2 h2 =>
        rw [hbd] at q1
        exact fun w3 σ3 e3 x3 k3 r3 => q1 w3 σ3 e3 x3 k3 r3
      | ret d h2 =>
        rw [hbd] at q1
        exact fun w3 v e3 x3 k3 p3 => q1 w3 v e3 x3 k3 p3
      | exc ex h2 =>
        rw [hbd] at q1
        exact fun w3 c d e3 x3 k3 p3 => q1 w3 c d e3 x3 k3 p3
      | bad =>
        rw [hbd] at q1
        exact q1
    | false =>
      rw [if_neg Bool.false_ne_true] at q1 ⊢
      exact PostS.hereN q1 k1 (r'.ext x1)
end
end Tb
end

section
set_option maxHeartbeats 4000000
namespace Tb
open PySem PySem.Spec PyProof.Rows L2
/-! ## zip of a tuple or list with a tuple or list -/
/-- b: a tuple, else a list -/
def SqA (b : Bool) (h : Heap) (l : Addr) (xs : Array Value) : Prop := match b with
  | true => h.IsTuple l xs
  | false => h.IsList l xs
def ItA (b : Bool) (h : Heap) (it l : Addr) (i : Nat) : Prop := match b with
  | true => h.IsTupleIter it l i
  | false => h.IsListIter it l i
theorem SqA.but {b : Bool} {h h' : Heap} {l c : Addr} {xs : Array Value} (q : SqA b h l xs) (e : Heap.ExtBut c h h') (n : l ≠ c) : SqA b h' l xs := by
  cases b
  · exact Heap.IsList.extBut q e n
  · exact Heap.IsTuple.extBut q e n
theorem ItA.but {b : Bool} {h h' : Heap} {it l c : Addr} {i : Nat} (q : ItA b h it l i) (e : Heap.ExtBut c h h') (n : it ≠ c) : ItA b h' it l i := by
  cases b
  · exact Heap.IsListIter.extBut q e n
  · exact Heap.IsTupleIter.extBut q e n
theorem ItA.of_at {b : Bool} {h h' : Heap} {it l : Addr} {i : Nat} (q : ItA b h it l i) (e : ∀ o, h.get? it = some o → h'.get? it = some o) : ItA b h' it l i := by
  cases b
  · exact Heap.IsListIter.at q e
  · exact Heap.IsTupleIter.at q e
theorem ItA.look {b : Bool} {h : Heap} {it l : Addr} {i : Nat} (q : ItA b h it l i) : ∃ o vs, h.get? it = some o ∧ o.data = .fields vs := by
  cases b
  · obtain ⟨o, e, _, d⟩ := q
    exact ⟨o, _, e, d⟩
  · obtain ⟨o, e, _, d⟩ := q
    exact ⟨o, _, e, d⟩
section
variable {prog : Program} {w : World} {A : Around} {E : Value → Shared → Prop} {s : Shared} {b1 b2 : Bool} {zz pI pO ia ib la lb : Addr} {ka kb : Nat} {xs ys : Array Value} {x y p q : Value}
theorem nextA {b : Bool} {it l : Addr} {i : Nat} {Q : Value → Shared → Prop} (hi : ItA b s.heap it l i) (hs : SqA b s.heap l xs) (e : xs[i]? = some x) (k : ∀ g, ItA b g it l (i + 1) → Heap.SameBut it s.heap g → Q x { s with heap := g }) :
    wpAny (model prog w) A (Builtin.SmallTypes.nextOf (.ref it)) Q E s := by
  cases b
  · exact wpAny_nextOf_list_item hi hs e k
  · exact RZ.nextOf_tuple_item hi hs e k
theorem endA {b : Bool} {it l : Addr} {i : Nat} {Q : Value → Shared → Prop} (hh : A.handled = none) (hi : ItA b s.heap it l i) (hs : SqA b s.heap l xs) (e : xs[i]? = none) (k : ∀ g u, Heap.ExtBut it s.heap g → (∃ o, g.get? u = some o ∧ o.cls = .type "StopIteration") → E (.ref u) { s with heap := g }) :
    wpAny (model prog w) A (Builtin.SmallTypes.nextOf (.ref it)) Q E s := by
  cases b
  · exact wpAny_nextOf_list_end hh hi hs e k
  · exact RZ.nextOf_tuple_end hh hi hs e k
theorem zipA_item {Q : Value → Shared → Prop} (D : ZipApart zz pI pO ia ib la lb) (fz : IsZip s.heap zz pI pO .none) (fI : IsPair s.heap pI (.ref ia) (.ref ib)) (fO : IsPair s.heap pO p q) (f1 : ItA b1 s.heap ia la ka) (f2 : ItA b2 s.heap ib lb kb)
    (g1 : SqA b1 s.heap la xs) (g2 : SqA b2 s.heap lb ys) (e1 : xs[ka]? = some x) (e2 : ys[kb]? = some y)
    (k : ∀ g, IsZip g zz pI pO (rawInt s.heap.objs.size) → IsPair g pO x y → ItA b1 g ia la (ka + 1) → ItA b2 g ib lb (kb + 1) → IsPair g s.heap.objs.size x y → g.objs.size = s.heap.objs.size + 1 →
      (∀ c o, c ≠ zz → c ≠ pO → c ≠ ia → c ≠ ib → s.heap.get? c = some o → g.get? c = some o) → Q (.ref s.heap.objs.size) { s with heap := g }) :
    wpAny (model prog w) A (Builtin.«zip.__next__» ⟨[.ref zz], []⟩) (fun fin s' => ∃ v, fin = .done (.ret v) ∧ Q v s') E s := by
  show wpAny _ _ (field (.ref zz) 2 >>= _) _ _ _
  refine wpAny_bind (wpAny_field fz rfl (x := .bool false) rfl ?_)
  show wpAny _ _ (field (.ref zz) 3 >>= _) _ _ _
  refine wpAny_bind (wpAny_field fz rfl (x := .ref pI) rfl (wpAny_bind (wpAny_seqItems fI rfl ?_)))
  show wpAny _ _ (Builtin.SmallTypes.ownedTupleIsFree (.ref zz) >>= _) _ _ _
  refine wpAny_bind ?_; unfold Builtin.SmallTypes.ownedTupleIsFree
  refine wpAny_bind (wpAny_field fz rfl (x := .none) rfl (wpAny_pure ?_)); simp only [if_true]
  refine wpAny_bind (wpAny_rule (wpAny_bind (wpAny_field fz rfl (x := .ref pO) rfl ?_)))
  refine wpAny_bind (wpAny_setField_rec fz (by simp) fun u1 z1 s1 => ?_)
  have fz1 : IsZip u1 zz pI pO .ellipsis := z1
  refine wpAny_bind ?_; simp only [List.zipIdx_cons, List.zipIdx_nil, List.forIn_cons, List.forIn_nil]
  refine wpAny_bind (wpAny_bind (wpAny_onRaise ?_)); show wpAny _ _ (Builtin.SmallTypes.nextOf (.ref ia) >>= _) _ _ _
  refine wpAny_bind (nextA (f1.but s1.extBut D.i1z) (g1.but s1.extBut D.l1z) e1 fun u2 f12 s2 => wpAny_pure ?_)
  have fO2 : IsPair u2 pO p q := s2.extBut _ _ D.TOi1 (s1.extBut _ _ D.TOz fO)
  refine wpAny_bind (wpAny_seqItems fO2 rfl (wpAny_bind (wpAny_updateSeq_pair fO2 fun u3 z3 s3 => ?_)))
  have fO3 : IsPair u3 pO x q := z3
  refine wpAny_bind (wpAny_letGo (wpAny_pure (wpAny_bind (wpAny_bind (wpAny_onRaise ?_)))))
  show wpAny _ _ (Builtin.SmallTypes.nextOf (.ref ib) >>= _) _ _ _
  have f23 := ((f2.but s1.extBut D.i2z).but s2.extBut D.i12.symm).but s3.extBut D.TOi2.symm
  have g23 := ((g2.but s1.extBut D.l2z).but s2.extBut D.l2i1).but s3.extBut D.l2TO
  refine wpAny_bind (nextA f23 g23 e2 fun u4 f24 s4 => wpAny_pure ?_)
  have fO4 : IsPair u4 pO x q := s4.extBut _ _ D.TOi2 fO3
  refine wpAny_bind (wpAny_seqItems fO4 rfl (wpAny_bind (wpAny_updateSeq_pair fO4 fun u5 z5 s5 => ?_)))
  have fO5 : IsPair u5 pO x y := z5
  refine wpAny_bind (wpAny_letGo (wpAny_pure (wpAny_pure (wpAny_bind (wpAny_seqItems fO5 rfl (wpAny_bind (wpAny_newTuple ?_)))))))
  have size : u5.objs.size = s.heap.objs.size := ((((s5.1.trans s4.1).trans s3.1).trans s2.1).trans s1.1)
  have fz5 : IsZip u5 zz pI pO .ellipsis := s5.extBut _ _ D.TOz.symm (s4.extBut _ _ D.i2z.symm (s3.extBut _ _ D.TOz.symm (s2.extBut _ _ D.i1z.symm fz1)))
  have rest : ∀ c o, c ≠ zz → c ≠ pO → c ≠ ia → c ≠ ib → s.heap.get? c = some o → u5.get? c = some o := fun c o n1 n2 n3 n4 e => s5.extBut _ _ n2 (s4.extBut _ _ n4 (s3.extBut _ _ n2 (s2.extBut _ _ n3 (s1.extBut _ _ n1 e))))
  have f15 := ((f12.but s3.extBut D.TOi1.symm).but s4.extBut D.i12).but s5.extBut D.TOi1.symm
  have f25 := f24.but s5.extBut D.TOi2.symm
  have lz : zz < u5.objs.size := Heap.lt_size fz5
  show wpAny _ _ (Builtin.SmallTypes.ownedTupleHandOut (.ref zz) (.ref u5.objs.size) >>= _) _ _ _
  refine wpAny_bind ?_; unfold Builtin.SmallTypes.ownedTupleHandOut
  have fz6 : IsZip (u5.push { cls := .type "tuple", data := .seq #[x, y] }) zz pI pO .ellipsis := Heap.get?_push_of_some _ fz5
  refine wpAny_bind (wpAny_setField_rec fz6 (by simp) fun u7 z7 s7 => ?_)
  have fz7 : IsZip u7 zz pI pO (rawInt u5.objs.size) := z7
  refine wpAny_setField_rec fz7 (by simp) fun u8 z8 s8 => ?_
  have fz8 : IsZip u8 zz pI pO (rawInt u5.objs.size) := z8
  have lift : ∀ c o, c ≠ zz → u5.get? c = some o → u8.get? c = some o := fun c o n e => s8.extBut _ _ n (s7.extBut _ _ n (Heap.get?_push_of_some _ e))
  have made : IsPair u8 u5.objs.size x y := s8.extBut _ _ (Nat.ne_of_gt lz) (s7.extBut _ _ (Nat.ne_of_gt lz) (Heap.get?_push_size _ rfl))
  have size8 : u8.objs.size = u5.objs.size + 1 := (s8.1.trans s7.1).trans (Heap.size_push ..)
  rw [size] at fz8 made size8
  refine wpAny_pure ⟨_, rfl, ?_⟩
  rw [show (Value.ref u5.objs.size) = .ref s.heap.objs.size from congrArg Value.ref size]
  exact k u8 fz8 (lift _ _ D.TOz fO5) (f15.of_at fun o e => lift _ o D.i1z e) (f25.of_at fun o e => lift _ o D.i2z e) made size8 fun c o n1 n2 n3 n4 e => lift c o n1 (rest c o n1 n2 n3 n4 e)
theorem zipA_end {Q : Fin → Shared → Prop} (hh : A.handled = none) (D : ZipApart zz pI pO ia ib la lb) (fz : IsZip s.heap zz pI pO .none) (fI : IsPair s.heap pI (.ref ia) (.ref ib)) (fO : IsPair s.heap pO p q) (f1 : ItA b1 s.heap ia la ka) (f2 : ItA b2 s.heap ib lb kb)
    (g1 : SqA b1 s.heap la xs) (g2 : SqA b2 s.heap lb ys) (stop : xs[ka]? = none ∨ ys[kb]? = none)
    (k : ∀ g u, (∀ c o, c ≠ zz → c ≠ pO → c ≠ ia → c ≠ ib → s.heap.get? c = some o → g.get? c = some o) → (∃ o, g.get? u = some o ∧ o.cls = .type "StopIteration") → E (.ref u) { s with heap := g }) :
    wpAny (model prog w) A (Builtin.«zip.__next__» ⟨[.ref zz], []⟩) Q E s := by
  show wpAny _ _ (field (.ref zz) 2 >>= _) _ _ _
  refine wpAny_bind (wpAny_field fz rfl (x := .bool false) rfl ?_)
  show wpAny _ _ (field (.ref zz) 3 >>= _) _ _ _
  refine wpAny_bind (wpAny_field fz rfl (x := .ref pI) rfl (wpAny_bind (wpAny_seqItems fI rfl ?_)))
  show wpAny _ _ (Builtin.SmallTypes.ownedTupleIsFree (.ref zz) >>= _) _ _ _
  refine wpAny_bind ?_; unfold Builtin.SmallTypes.ownedTupleIsFree
  refine wpAny_bind (wpAny_field fz rfl (x := .none) rfl (wpAny_pure ?_)); simp only [if_true]
  refine wpAny_bind (wpAny_rule (wpAny_bind (wpAny_field fz rfl (x := .ref pO) rfl ?_)))
  refine wpAny_bind (wpAny_setField_rec fz (by simp) fun u1 z1 s1 => ?_)
  have fz1 : IsZip u1 zz pI pO .ellipsis := z1
  refine wpAny_bind ?_; simp only [List.zipIdx_cons, List.zipIdx_nil, List.forIn_cons, List.forIn_nil]
  refine wpAny_bind (wpAny_bind (wpAny_onRaise ?_)); show wpAny _ _ (Builtin.SmallTypes.nextOf (.ref ia) >>= _) _ _ _
  have closed : ∀ {g : Heap} {u : Addr}, IsZip g zz pI pO .ellipsis → (∃ o, g.get? u = some o ∧ o.cls = .type "StopIteration") → u ≠ zz := fun {g u} h1 h2 e => by
    obtain ⟨o, h3, h4⟩ := h2
    rw [e, h1] at h3
    cases h3
    simp at h4
  cases ex : xs[ka]? with
  | none =>
    refine wpAny_bind (endA hh (f1.but s1.extBut D.i1z) (g1.but s1.extBut D.l1z) ex fun u2 u s2 hu => ?_)
    have fz2 : IsZip u2 zz pI pO .ellipsis := s2 _ _ D.i1z.symm fz1
    have ne := closed fz2 hu
    obtain ⟨o, h3, h4⟩ := hu
    exact wpAny_setField_rec fz2 (by simp) fun u3 _ s3 => k u3 u (fun c o n1 _ n3 _ e => s3.extBut _ _ n1 (s2 _ _ n3 (s1.extBut _ _ n1 e))) ⟨o, s3.extBut _ _ ne h3, h4⟩
  | some x =>
    have ey : ys[kb]? = none := stop.resolve_left (by rw [ex]; simp)
    refine wpAny_bind (nextA (f1.but s1.extBut D.i1z) (g1.but s1.extBut D.l1z) ex fun u2 f12 s2 => wpAny_pure ?_)
    have fO2 : IsPair u2 pO p q := s2.extBut _ _ D.TOi1 (s1.extBut _ _ D.TOz fO)
    refine wpAny_bind (wpAny_seqItems fO2 rfl (wpAny_bind (wpAny_updateSeq_pair fO2 fun u3 z3 s3 => ?_)))
    refine wpAny_bind (wpAny_letGo (wpAny_pure (wpAny_bind (wpAny_bind (wpAny_onRaise ?_)))))
    show wpAny _ _ (Builtin.SmallTypes.nextOf (.ref ib) >>= _) _ _ _
    have f23 := ((f2.but s1.extBut D.i2z).but s2.extBut D.i12.symm).but s3.extBut D.TOi2.symm
    have g23 := ((g2.but s1.extBut D.l2z).but s2.extBut D.l2i1).but s3.extBut D.l2TO
    refine wpAny_bind (endA hh f23 g23 ey fun u4 u s4 hu => ?_)
    have fz4 : IsZip u4 zz pI pO .ellipsis := s4 _ _ D.i2z.symm (s3.extBut _ _ D.TOz.symm (s2.extBut _ _ D.i1z.symm fz1))
    have ne := closed fz4 hu
    obtain ⟨o, h3, h4⟩ := hu
    exact wpAny_setField_rec fz4 (by simp) fun u5 _ s5 => k u5 u (fun c o n1 n2 n3 n4 e => s5.extBut _ _ n1 (s4 _ _ n4 (s3.extBut _ _ n2 (s2.extBut _ _ n3 (s1.extBut _ _ n1 e))))) ⟨o, s5.extBut _ _ ne h3, h4⟩
theorem pyNextA_item {Q : Option Value → Shared → Prop} (D : ZipApart zz pI pO ia ib la lb) (fz : IsZip s.heap zz pI pO .none) (fI : IsPair s.heap pI (.ref ia) (.ref ib)) (fO : IsPair s.heap pO p q) (f1 : ItA b1 s.heap ia la ka) (f2 : ItA b2 s.heap ib lb kb)
    (g1 : SqA b1 s.heap la xs) (g2 : SqA b2 s.heap lb ys) (e1 : xs[ka]? = some x) (e2 : ys[kb]? = some y)
    (k : ∀ g, IsZip g zz pI pO (rawInt s.heap.objs.size) → IsPair g pO x y → ItA b1 g ia la (ka + 1) → ItA b2 g ib lb (kb + 1) → IsPair g s.heap.objs.size x y → g.objs.size = s.heap.objs.size + 1 →
      (∀ c o, c ≠ zz → c ≠ pO → c ≠ ia → c ≠ ib → s.heap.get? c = some o → g.get? c = some o) → Q (some (.ref s.heap.objs.size)) { s with heap := g }) : wpAny (model prog w) A (pyNext (.ref zz)) Q E s := by
  have ty : s.TypeIs (.ref zz) "zip" := ⟨_, fz, rfl⟩
  unfold pyNext
  refine wpAny_bind (wpAny_attempt (wpAny_callSpecial?_slot (name := Str.ofString "__next__") ty F.slot_zip_next (wpAny_call_entry F.slot_zip_next ty F.entry_zip_next ?_ (F.args_zip_next_1 _))))
  exact zipA_item D fz fI fO f1 f2 g1 g2 e1 e2 fun g a1 a2 a3 a4 a5 a6 a7 => wpAny_pure (k g a1 a2 a3 a4 a5 a6 a7)
theorem pyNextA_end {Q : Option Value → Shared → Prop} (hh : A.handled = none) (D : ZipApart zz pI pO ia ib la lb) (fz : IsZip s.heap zz pI pO .none) (fI : IsPair s.heap pI (.ref ia) (.ref ib)) (fO : IsPair s.heap pO p q) (f1 : ItA b1 s.heap ia la ka) (f2 : ItA b2 s.heap ib lb kb)
    (g1 : SqA b1 s.heap la xs) (g2 : SqA b2 s.heap lb ys) (stop : xs[ka]? = none ∨ ys[kb]? = none)
    (k : ∀ g, (∀ c o, c ≠ zz → c ≠ pO → c ≠ ia → c ≠ ib → s.heap.get? c = some o → g.get? c = some o) → Q none { s with heap := g }) : wpAny (model prog w) A (pyNext (.ref zz)) Q E s := by
  have ty : s.TypeIs (.ref zz) "zip" := ⟨_, fz, rfl⟩
  unfold pyNext
  refine wpAny_bind (wpAny_attempt (wpAny_callSpecial?_slot (name := Str.ofString "__next__") ty F.slot_zip_next (wpAny_call_entry F.slot_zip_next ty F.entry_zip_next (zipA_end hh D fz fI fO f1 f2 g1 g2 stop fun g u keep ⟨o, h3, h4⟩ => ?_) (F.args_zip_next_1 _))))
  exact wpAny_bind (wpAny_isInstance (T := "StopIteration") (b := true) ⟨o, h3, h4⟩ isSubtype_stop (wpAny_pure (k _ keep)))
end
/-! ### zip(a, b) called -/
def itName : Bool → String
  | true => "tuple_iterator"
  | false => "list_iterator"
abbrev za1 (b1 : Bool) (h : Heap) (la : Addr) : Heap := h.push { cls := .type (itName b1), data := .fields #[.ref la, .int 0 0] }
abbrev za2 (b1 b2 : Bool) (h : Heap) (la lb : Addr) : Heap := (za1 b1 h la).push { cls := .type (itName b2), data := .fields #[.ref lb, .int 0 0] }
abbrev za3 (b1 b2 : Bool) (h : Heap) (la lb : Addr) : Heap := (za2 b1 b2 h la lb).push { cls := .type "tuple", data := .seq #[.ref h.objs.size, .ref (za1 b1 h la).objs.size] }
abbrev za4 (b1 b2 : Bool) (h : Heap) (la lb : Addr) : Heap := (za3 b1 b2 h la lb).push { cls := .type "tuple", data := .seq #[.none, .none] }
abbrev za5 (b1 b2 : Bool) (h : Heap) (la lb : Addr) : Heap := (za4 b1 b2 h la lb).push { cls := .type "zip", data := .fields #[.none, .bool false, .bool false, .ref (za2 b1 b2 h la lb).objs.size, .ref (za3 b1 b2 h la lb).objs.size] }
theorem meets_tl (la lb : Addr) (xs ys : Array Value) : Meets (Builtin.«zip.__new__» ⟨[.type "zip", .ref la, .ref lb], []⟩) (fun _ R s => s.heap.IsTuple la xs ∧ s.heap.IsList lb ys ∧ R (.ok (.ret (.ref (za4 true false s.heap la lb).objs.size))) { s with heap := za5 true false s.heap la lb }) :=
  .of_wp fun prog w A R s h => by
    obtain ⟨hp, g, d, tk, os⟩ := s; obtain ⟨ha, hb, h⟩ := h
    have hs := sub_zip
    have hA : Heap.IsTuple (Shared.heap ⟨hp, g, d, tk, os⟩) la xs := ha
    have hB : Heap.IsList (Shared.heap ⟨hp.push { cls := .type "tuple_iterator", data := .fields #[.ref la, .int 0 0] }, g, d, tk, os⟩) lb ys := Heap.IsList.push hb _
    wp_walk using wpAny_pyIter_tuple hA, wpAny_pyIter_list hB
    exact ⟨_, rfl, h⟩
theorem meets_lt (la lb : Addr) (xs ys : Array Value) : Meets (Builtin.«zip.__new__» ⟨[.type "zip", .ref la, .ref lb], []⟩) (fun _ R s => s.heap.IsList la xs ∧ s.heap.IsTuple lb ys ∧ R (.ok (.ret (.ref (za4 false true s.heap la lb).objs.size))) { s with heap := za5 false true s.heap la lb }) :=
  .of_wp fun prog w A R s h => by
    obtain ⟨hp, g, d, tk, os⟩ := s; obtain ⟨ha, hb, h⟩ := h
    have hs := sub_zip
    have hA : Heap.IsList (Shared.heap ⟨hp, g, d, tk, os⟩) la xs := ha
    have hB : Heap.IsTuple (Shared.heap ⟨hp.push { cls := .type "list_iterator", data := .fields #[.ref la, .int 0 0] }, g, d, tk, os⟩) lb ys := Heap.IsTuple.push hb _
    wp_walk using wpAny_pyIter_list hA, wpAny_pyIter_tuple hB
    exact ⟨_, rfl, h⟩
theorem meets_zipA (b1 b2 : Bool) (la lb : Addr) (xs ys : Array Value) : Meets (Builtin.«zip.__new__» ⟨[.type "zip", .ref la, .ref lb], []⟩) (fun _ R s => SqA b1 s.heap la xs ∧ SqA b2 s.heap lb ys ∧ R (.ok (.ret (.ref (za4 b1 b2 s.heap la lb).objs.size))) { s with heap := za5 b1 b2 s.heap la lb }) := by
  cases b1 <;> cases b2
  · exact meets_zip_new la lb xs ys
  · exact meets_lt la lb xs ys
  · exact meets_tl la lb xs ys
  · exact RZ.meets_zipT_new la lb xs ys
section
variable {prog : Program} {w : World} {A : Around} {E : Value → Shared → Prop} {s : Shared} {b1 b2 : Bool} {la lb : Addr} {xs ys : Array Value}
theorem call_zipA {Q : Value → Shared → Prop} (g1 : SqA b1 s.heap la xs) (g2 : SqA b2 s.heap lb ys)
    (k : ∀ g, IsZip g (s.heap.objs.size + 4) (s.heap.objs.size + 2) (s.heap.objs.size + 3) .none → IsPair g (s.heap.objs.size + 2) (.ref s.heap.objs.size) (.ref (s.heap.objs.size + 1)) → IsPair g (s.heap.objs.size + 3) .none .none →
      ItA b1 g s.heap.objs.size la 0 → ItA b2 g (s.heap.objs.size + 1) lb 0 → (∀ c o, s.heap.get? c = some o → g.get? c = some o) → Q (.ref (s.heap.objs.size + 4)) { s with heap := g }) : wpAny (model prog w) A (call (.type "zip") [.ref la, .ref lb]) Q E s := by
  refine callType_new F.called_zip (by decide) (F.typeCall_zip_2 _ _) (F.newCall_zip_2 _ _) (fun obj => F.args_object_init_3 obj _ _) F.entry_zip_new (meets_zipA b1 b2 la lb xs ys) ⟨g1, g2, ?_⟩
  have n1 : (za1 b1 s.heap la).objs.size = s.heap.objs.size + 1 := Heap.size_push ..
  have n2 : (za2 b1 b2 s.heap la lb).objs.size = s.heap.objs.size + 2 := (Heap.size_push ..).trans (by rw [n1])
  have n3 : (za3 b1 b2 s.heap la lb).objs.size = s.heap.objs.size + 3 := (Heap.size_push ..).trans (by rw [n2])
  have n4 : (za4 b1 b2 s.heap la lb).objs.size = s.heap.objs.size + 4 := (Heap.size_push ..).trans (by rw [n3])
  have up : ∀ {g : Heap} {c : Addr} {o o' : Obj}, g.get? c = some o → (g.push o').get? c = some o := fun e => Heap.get?_push_of_some _ e
  have q5 : (za5 b1 b2 s.heap la lb).get? (za4 b1 b2 s.heap la lb).objs.size = some _ := Heap.get?_push_size _ rfl
  have q4 : (za5 b1 b2 s.heap la lb).get? (za3 b1 b2 s.heap la lb).objs.size = some _ := up (Heap.get?_push_size _ rfl)
  have q3 : (za5 b1 b2 s.heap la lb).get? (za2 b1 b2 s.heap la lb).objs.size = some _ := up (up (Heap.get?_push_size _ rfl))
  have q2 : (za5 b1 b2 s.heap la lb).get? (za1 b1 s.heap la).objs.size = some _ := up (up (up (Heap.get?_push_size _ rfl)))
  have q1 : (za5 b1 b2 s.heap la lb).get? s.heap.objs.size = some _ := up (up (up (up (Heap.get?_push_size _ rfl))))
  show _ ∧ _
  rw [n2, n3, n4] at q5
  rw [n1, n2] at q3
  rw [n3] at q4
  rw [n1] at q2
  rw [n4]
  have i1 : ItA b1 (za5 b1 b2 s.heap la lb) s.heap.objs.size la 0 := by
    cases b1
    · exact ⟨_, q1, rfl, rfl⟩
    · exact ⟨_, q1, rfl, rfl⟩
  have i2 : ItA b2 (za5 b1 b2 s.heap la lb) (s.heap.objs.size + 1) lb 0 := by
    cases b2
    · exact ⟨_, q2, rfl, rfl⟩
    · exact ⟨_, q2, rfl, rfl⟩
  exact ⟨⟨_, q5, rfl⟩, k _ q5 q3 q4 i1 i2 fun c o e => up (up (up (up (up e))))⟩
end
end Tb
end

section
set_option maxHeartbeats 4000000
namespace Tb
open PySem PySem.Spec PyProof.Rows L2
open PySem.AutoSeq1 (wpAny_loadPart')
/-! ## enumerate of a tuple or list -/
section
variable {prog : Program} {w : World} {A : Around} {E : Value → Shared → Prop} {s : Shared} {b : Bool} {ee it l : Addr} {i : Nat} {xs : Array Value} {x old : Value}
theorem enumA_item {Q : Value → Shared → Prop} (fe : IsEnum s.heap ee it i old) (fi : ItA b s.heap it l i) (fs : SqA b s.heap l xs) (e1 : xs[i]? = some x) (ne : ee ≠ it)
    (k : ∀ g, IsEnumOut g ee it ((i : Int) + 1) x s.heap.objs.size → ItA b g it l (i + 1) → g.get? s.heap.objs.size = some { cls := .type "tuple", data := .seq #[.int i s.toks, x] } → g.objs.size = s.heap.objs.size + 1 →
      (∀ c o, c ≠ ee → c ≠ it → s.heap.get? c = some o → g.get? c = some o) → Q (.ref s.heap.objs.size) { s with heap := g, toks := s.toks + 1 }) :
    wpAny (model prog w) A (Builtin.«enumerate.__next__» ⟨[.ref ee], []⟩) (fun fin s' => ∃ v, fin = .done (.ret v) ∧ Q v s') E s := by
  obtain ⟨h0, gs, dr, tk, os⟩ := s
  show wpAny _ _ (field (.ref ee) 2 >>= _) _ _ _
  refine wpAny_bind (wpAny_field fe rfl (x := .ref it) rfl (wpAny_bind (nextA fi fs e1 fun u1 fi1 q1 => ?_)))
  have q1' : Heap.SameBut it h0 u1 := q1
  have fe1 : IsEnum u1 ee it i old := (q1'.2 ee ne).trans fe
  show wpAny _ _ (field (.ref ee) 3 >>= _) _ _ ⟨u1, gs, dr, tk, os⟩
  refine wpAny_bind (wpAny_field fe1 rfl (x := rawInt i) rfl ?_); show wpAny _ _ (field (.ref ee) 4 >>= _) _ _ ⟨u1, gs, dr, tk, os⟩
  refine wpAny_bind (wpAny_field fe1 rfl (x := .none) rfl ?_); show wpAny _ _ (mkInt i >>= _) _ _ ⟨u1, gs, dr, tk, os⟩
  refine wpAny_bind (wpAny_mkInt ?_); show wpAny _ _ (setField (.ref ee) 3 (rawInt ((i : Int) + 1)) >>= _) _ _ ⟨u1, gs, dr, tk + 1, os⟩
  refine wpAny_bind (wpAny_setField_rec fe1 (by simp) fun u2 z2 q2 => ?_)
  have q2' : Heap.SameBut ee u1 u2 := q2
  have fe2 : IsEnum u2 ee it ((i : Int) + 1) old := z2
  show wpAny _ _ (setField (.ref ee) 4 .none >>= _) _ _ ⟨u2, gs, dr, tk + 1, os⟩
  refine wpAny_bind (wpAny_setField_rec fe2 (by simp) fun u3 z3 q3 => ?_)
  have q3' : Heap.SameBut ee u2 u3 := q3
  have fe3 : IsEnum u3 ee it ((i : Int) + 1) old := z3
  show wpAny _ _ (newTuple [.int i tk, x] >>= _) _ _ ⟨u3, gs, dr, tk + 1, os⟩
  refine wpAny_bind (wpAny_newTuple ?_)
  have fe4 : IsEnum (u3.push { cls := .type "tuple", data := .seq #[.int i tk, x] }) ee it ((i : Int) + 1) old := Heap.get?_push_of_some _ fe3
  generalize eu : u3.push { cls := .type "tuple", data := .seq #[.int i tk, x] } = u4 at fe4
  have size : u3.objs.size = h0.objs.size := (q3'.1.trans q2'.1).trans q1'.1
  have le : ee < h0.objs.size := Heap.lt_size fe
  have made : u4.get? h0.objs.size = some { cls := .type "tuple", data := .seq #[.int i tk, x] } := by
    rw [← eu, ← size]
    exact Heap.get?_push_size _ rfl
  have size4 : u4.objs.size = h0.objs.size + 1 := by rw [← eu, Heap.size_push, size]
  have rest : ∀ c o, c ≠ ee → c ≠ it → h0.get? c = some o → u4.get? c = some o := fun c o n1 n2 e => by
    rw [← eu]
    exact Heap.get?_push_of_some _ (q3'.extBut c o n1 (q2'.extBut c o n1 (q1'.extBut c o n2 e)))
  have fi4 : ItA b u4 it l (i + 1) := by
    rw [← eu]
    exact ((fi1.but q2'.extBut ne.symm).but q3'.extBut ne.symm).of_at fun o e => Heap.get?_push_of_some _ e
  show wpAny _ _ (Builtin.SmallTypes.ownedTupleIsFree (.ref ee) >>= _) _ _ ⟨u4, gs, dr, tk + 1, os⟩
  rw [size]
  refine wpAny_bind ?_; unfold Builtin.SmallTypes.ownedTupleIsFree
  refine wpAny_bind (wpAny_field fe4 rfl (x := .none) rfl (wpAny_pure ?_)); simp only [if_true]
  refine wpAny_bind (wpAny_rule (wpAny_bind (wpAny_field fe4 rfl (x := old) rfl (wpAny_bind (wpAny_setField_rec fe4 (by simp) fun u5 z5 q5 => ?_)))))
  have q5' : Heap.SameBut ee u4 u5 := q5
  have fe5 : IsEnum u5 ee it ((i : Int) + 1) x := z5
  show wpAny _ _ (Builtin.SmallTypes.ownedTupleHandOut (.ref ee) (.ref h0.objs.size) >>= _) _ _ ⟨u5, gs, dr, tk + 1, os⟩
  refine wpAny_bind ?_; unfold Builtin.SmallTypes.ownedTupleHandOut
  refine wpAny_bind (wpAny_setField_rec fe5 (by simp) fun u6 z6 q6 => ?_)
  have q6' : Heap.SameBut ee u5 u6 := q6
  have fe6 : IsEnumOut u6 ee it ((i : Int) + 1) x h0.objs.size := z6
  refine wpAny_setField_rec fe6 (by simp) fun u7 z7 q7 => ?_
  have q7' : Heap.SameBut ee u6 u7 := q7
  have lift : ∀ c o, c ≠ ee → u4.get? c = some o → u7.get? c = some o := fun c o n e => q7'.extBut _ _ n (q6'.extBut _ _ n (q5'.extBut _ _ n e))
  exact wpAny_bind (wpAny_letGo (wpAny_pure ⟨_, rfl, k u7 z7 (fi4.of_at fun o e => lift _ o ne.symm e) (lift _ _ (Nat.ne_of_gt le) made) (by rw [q7'.1, q6'.1, q5'.1, size4]) fun c o n1 n2 e => lift c o n1 (rest c o n1 n2 e)⟩))
theorem pyNextE_item {Q : Option Value → Shared → Prop} (fe : IsEnum s.heap ee it i old) (fi : ItA b s.heap it l i) (fs : SqA b s.heap l xs) (e1 : xs[i]? = some x) (ne : ee ≠ it)
    (k : ∀ g, IsEnumOut g ee it ((i : Int) + 1) x s.heap.objs.size → ItA b g it l (i + 1) → g.get? s.heap.objs.size = some { cls := .type "tuple", data := .seq #[.int i s.toks, x] } → g.objs.size = s.heap.objs.size + 1 →
      (∀ c o, c ≠ ee → c ≠ it → s.heap.get? c = some o → g.get? c = some o) → Q (some (.ref s.heap.objs.size)) { s with heap := g, toks := s.toks + 1 }) : wpAny (model prog w) A (pyNext (.ref ee)) Q E s := by
  have ty : s.TypeIs (.ref ee) "enumerate" := ⟨_, fe, rfl⟩
  unfold pyNext
  refine wpAny_bind (wpAny_attempt (wpAny_callSpecial?_slot (name := Str.ofString "__next__") ty F.slot_enumerate_next (wpAny_call_entry F.slot_enumerate_next ty F.entry_enumerate_next ?_ (F.args_enumerate_next_1 _))))
  exact enumA_item fe fi fs e1 ne fun g a1 a2 a3 a4 a5 => wpAny_pure (k g a1 a2 a3 a4 a5)
theorem pyNextE_end {Q : Option Value → Shared → Prop} (hh : A.handled = none) (fe : IsEnum s.heap ee it i old) (fi : ItA b s.heap it l i) (fs : SqA b s.heap l xs) (e1 : xs[i]? = none) (k : ∀ g, Heap.ExtBut it s.heap g → Q none { s with heap := g }) :
    wpAny (model prog w) A (pyNext (.ref ee)) Q E s := by
  have ty : s.TypeIs (.ref ee) "enumerate" := ⟨_, fe, rfl⟩
  unfold pyNext
  refine wpAny_bind (wpAny_attempt (wpAny_callSpecial?_slot (name := Str.ofString "__next__") ty F.slot_enumerate_next (wpAny_call_entry F.slot_enumerate_next ty F.entry_enumerate_next ?_ (F.args_enumerate_next_1 _))))
  show wpAny _ _ (field (.ref ee) 2 >>= _) _ _ _
  refine wpAny_bind (wpAny_field fe rfl (x := .ref it) rfl (wpAny_bind (endA hh fi fs e1 fun g u keep ⟨o, h3, h4⟩ => ?_)))
  exact wpAny_bind (wpAny_isInstance (T := "StopIteration") (b := true) ⟨o, h3, h4⟩ isSubtype_stop (wpAny_pure (k _ keep)))
end
abbrev ea1 (b : Bool) (h : Heap) (l : Addr) : Heap := h.push { cls := .type (itName b), data := .fields #[.ref l, .int 0 0] }
abbrev ea2 (b : Bool) (h : Heap) (l : Addr) : Heap := (ea1 b h l).push { cls := .type "enumerate", data := .fields #[.none, .bool false, .ref h.objs.size, rawInt 0, .none, .none] }
theorem meets_enumT (l : Addr) (xs : Array Value) (n : Nat) (dct : Option Addr) (sl : Array (Option Value)) :
    Meets (Builtin.«enumerate.__new__» ⟨[.type "enumerate", .ref l], []⟩) (fun _ R s => s.heap.get? l = some { cls := .type "tuple", dict := dct, data := .seq xs n, slots := sl } ∧ R (.ok (.ret (.ref (ea1 true s.heap l).objs.size))) { s with heap := ea2 true s.heap l }) :=
  .of_wp fun prog w A R s h => by
    obtain ⟨hp, g, d, tk, os⟩ := s; obtain ⟨hl, h⟩ := h
    have hs := sub_enumerate
    have hT : Heap.IsTuple (Shared.heap ⟨hp, g, d, tk, os⟩) l xs := ⟨_, hl, rfl, n, rfl⟩
    wp_walk using wpAny_loadPart' hl
    refine wpAny_stack_any fun st => wpAny_pure ?_
    split
    · rename_i c _ _ _ _ _
      cases (c == Value.type "enumerate") <;> (wp_walk using wpAny_loadPart' hl, wpAny_pyIter_tuple hT; exact ⟨_, rfl, h⟩)
    · wp_walk using wpAny_loadPart' hl, wpAny_pyIter_tuple hT
      exact ⟨_, rfl, h⟩
section
variable {prog : Program} {w : World} {A : Around} {E : Value → Shared → Prop} {s : Shared} {b : Bool} {l : Addr} {xs : Array Value}
theorem call_enumA {Q : Value → Shared → Prop} (fs : SqA b s.heap l xs) (k : ∀ g, IsEnum g (s.heap.objs.size + 1) s.heap.objs.size 0 .none → ItA b g s.heap.objs.size l 0 → (∀ c o, s.heap.get? c = some o → g.get? c = some o) → Q (.ref (s.heap.objs.size + 1)) { s with heap := g }) :
    wpAny (model prog w) A (call (.type "enumerate") [.ref l]) Q E s := by
  cases b with
  | false => exact call_enumerate_list fs fun g a1 a2 _ a4 => k g a1 a2 a4
  | true =>
    obtain ⟨⟨c, dct, dt, sl⟩, hl, hc, n, hd⟩ := fs
    have hc' : c = .type "tuple" := hc
    have hd' : dt = .seq xs n := hd
    subst hc' hd'
    refine callType_new F.called_enumerate (by decide) (F.typeCall_enumerate_1 _) (F.newCall_enumerate_1 _) (fun obj => F.args_object_init_2 obj _) F.entry_enumerate_new (meets_enumT l xs n dct sl) ⟨hl, ?_⟩
    have n1 : (ea1 true s.heap l).objs.size = s.heap.objs.size + 1 := Heap.size_push ..
    show _ ∧ _
    rw [n1]
    have q2 : (ea2 true s.heap l).get? (ea1 true s.heap l).objs.size = some _ := Heap.get?_push_size _ rfl
    rw [n1] at q2
    have q1 : (ea2 true s.heap l).get? s.heap.objs.size = some _ := Heap.get?_push_of_some _ (Heap.get?_push_size _ rfl)
    exact ⟨⟨_, q2, rfl⟩, k _ q2 ⟨_, q1, rfl, rfl⟩ fun c o e => Heap.get?_push_of_some _ (Heap.get?_push_of_some _ e)⟩
end
/-! ## the two as iterators of the layer -/
def SqV (b : Bool) (K : PySem.W.Frag) (H : Hp) (a : Addr) (xs : List V) : Prop := match b with
  | true => SqT K H a xs
  | false => SqL K H a xs
section
variable {X : Cx} {pins : List (Addr × Obj)} {σ : L2.St} {H : Hp} {s : Shared} {b : Bool} {a : Addr} {xs ys : List V}
theorem SqV.its (I : L2.Inv X pins σ H s) (h : SqV b X.K H a xs) : ∃ its : List Value, Vals xs its ∧ SqA b s.heap a its.toArray := by
  cases b
  · obtain ⟨its, r, p, _⟩ := I.list h
    exact ⟨its, r, p.isList⟩
  · obtain ⟨its, r, p, _⟩ := I.tuple h
    exact ⟨its, r, p⟩
theorem SqV.inj (I : L2.Inv X pins σ H s) (h : SqV b X.K H a xs) (h' : SqV b X.K H a ys) : xs = ys := by
  cases b
  · exact I.list_inj h h'
  · exact I.tuple_inj h h'
theorem SqA.lt {b : Bool} {h : Heap} {l : Addr} {xs : Array Value} (q : SqA b h l xs) : l < h.objs.size := by
  cases b
  · obtain ⟨o, e, _⟩ := q
    exact Heap.lt_size e
  · obtain ⟨o, e, _⟩ := q
    exact Heap.lt_size e
end
def ItzA (K : PySem.W.Frag) (b1 b2 : Bool) (a c : Addr) : L2.It :=
  ⟨fun i H => ∃ (xs ys : List V) (x y : V), SqV b1 K H a xs ∧ SqV b2 K H c ys ∧ xs[i]? = some x ∧ ys[i]? = some y,
    fun i H v H' => ∃ T x y, v = .ref T ∧ H T = none ∧ H' = upd H T (.tup [x, y]) ∧ (∀ xs, SqV b1 K H a xs → xs[i]? = some x) ∧ ∀ ys, SqV b2 K H c ys → ys[i]? = some y,
    fun i H => ∃ xs ys : List V, SqV b1 K H a xs ∧ SqV b2 K H c ys ∧ (xs.length ≤ i ∨ ys.length ≤ i)⟩
def IteA (K : PySem.W.Frag) (b : Bool) (a : Addr) : L2.It :=
  ⟨fun i H => ∃ (xs : List V) (x : V), SqV b K H a xs ∧ xs[i]? = some x,
    fun i H v H' => ∃ T x, v = .ref T ∧ H T = none ∧ H' = upd H T (.tup [.int (i : Nat), x]) ∧ ∀ xs, SqV b K H a xs → xs[i]? = some x,
    fun i H => ∃ xs : List V, SqV b K H a xs ∧ xs.length ≤ i⟩
theorem five {α : Type} {c a1 a2 a3 a4 a5 : α} (h : c ∈ [a1, a2, a3, a4, a5]) : c = a1 ∨ c = a2 ∨ c = a3 ∨ c = a4 ∨ c = a5 := by simpa using h
theorem turn_zipA {P : Program} {w : World} {K : PySem.W.Frag} {elts : List Expr} {kk : Nat} {tpos : Pos} {b1 b2 : Bool} {la lb zz pI pO ia ib : Addr} (D : ZipApart zz pI pO ia ib la lb) :
    Turn P w K (.Tuple elts kk tpos) (ItzA K b1 b2 la lb) [zz, pI, pO, ia, ib] zz (fun i h => IsZip h zz pI pO .none ∧ IsPair h pI (.ref ia) (.ref ib) ∧ (∃ x y, IsPair h pO x y) ∧ ItA b1 h ia la i ∧ ItA b2 h ib lb i) where
  mem := List.Mem.head _
  obj := fun i h ⟨fz, fI, ⟨x, y, fO⟩, f1, f2⟩ c hc => by
    obtain ⟨o1, v1, q1, d1⟩ := f1.look
    obtain ⟨o2, v2, q2, d2⟩ := f2.look
    rcases five hc with e | e | e | e | e <;> rw [e]
    · exact ⟨_, fz, fun v z => nomatch z⟩
    · exact ⟨_, fI, fun v z => nomatch z⟩
    · exact ⟨_, fO, fun v z => nomatch z⟩
    · exact ⟨o1, q1, fun v z => by rw [d1] at z; cases z⟩
    · exact ⟨o2, q2, fun v z => by rw [d2] at z; cases z⟩
  keep := fun i h h' ⟨fz, fI, ⟨x, y, fO⟩, f1, f2⟩ k => ⟨k zz (by simp) _ fz, k pI (by simp) _ fI, ⟨x, y, k pO (by simp) _ fO⟩, f1.of_at fun o q => k ia (by simp) o q, f2.of_at fun o q => k ib (by simp) o q⟩
  item := by
    intro X hP hw hK hc i pins s σ H E I hf st hg
    subst hP hw hK
    obtain ⟨fz, fI, ⟨x0, y0, fO⟩, f1, f2⟩ := st
    obtain ⟨xs, ys, x, y, sx, sy, ex, ey⟩ := hg
    obtain ⟨its, r1, g1⟩ := sx.its I
    obtain ⟨its2, r2, g2⟩ := sy.its I
    obtain ⟨u, eu, ru⟩ := r1.get ex
    obtain ⟨u2, eu2, ru2⟩ := r2.get ey
    have lz : zz < s.heap.objs.size := Heap.lt_size fz
    refine pyNextA_item D fz fI fO f1 f2 g1 g2 (x := u) (y := u2) (by simpa using eu) (by simpa using eu2) fun g z' o' f1' f2' made size keep => ?_
    refine ⟨_, rfl, wpAny_letOwnedTupleGo_zip (s := { s with heap := g }) z' fun g2 z2 sb => ?_⟩
    have made2 : g2.get? s.heap.objs.size = some { cls := .type "tuple", data := .seq #[u, u2] } := (sb.2 _ (Nat.ne_of_gt lz)).trans made
    have newO : ObjOk X.prog X.w (upd H s.heap.objs.size (.tup [x, y])) g2 s.heap.objs.size (.tup [x, y]) := ⟨(by decide : 2 ≤ sizeLine), [u, u2], .cons ru (.cons ru2 .nil), ⟨_, made2, rfl, _, rfl⟩⟩
    have keep2 : ∀ c o, c ∉ [zz, pI, pO, ia, ib] → s.heap.get? c = some o → g2.get? c = some o := fun c o n q => by
      simp only [List.mem_cons, List.not_mem_nil, or_false, not_or] at n
      exact (sb.2 c n.1).trans (keep c o n.1 n.2.2.1 n.2.2.2.1 n.2.2.2.2 q)
    refine ⟨.ref s.heap.objs.size, _, I.turnedNew (t' := s.toks) (ch := [zz, pI, pO, ia, ib]) keep2 hf (Nat.le_refl _) newO, rfl, ⟨_, x, y, rfl, I.hok.fresh (Nat.le_refl _), rfl, fun l hl => by rw [hl.inj I sx]; exact ex, fun l hl => by rw [hl.inj I sy]; exact ey⟩,
      ⟨z2, (sb.2 _ D.TIz).trans (keep _ _ D.TIz D.TITO D.TIi1 D.TIi2 fI), ⟨u, u2, (sb.2 _ D.TOz).trans o'⟩, f1'.of_at fun o q => (sb.2 _ D.i1z).trans q, f2'.of_at fun o q => (sb.2 _ D.i2z).trans q⟩, fun c hcm => ?_⟩
    have lt : c < s.heap.objs.size := by
      obtain ⟨_, _, q1, _⟩ := f1.look
      obtain ⟨_, _, q2, _⟩ := f2.look
      rcases five hcm with e | e | e | e | e <;> rw [e]
      · exact lz
      · exact Heap.lt_size fI
      · exact Heap.lt_size fO
      · exact Heap.lt_size q1
      · exact Heap.lt_size q2
    rw [upd_ne (Nat.ne_of_lt lt)]
    exact (hf c hcm).1
  done := by
    intro X hP hw hK hc i pins s σ H E I hf st hg
    subst hP hw hK
    obtain ⟨fz, fI, ⟨x0, y0, fO⟩, f1, f2⟩ := st
    obtain ⟨xs, ys, sx, sy, stop⟩ := hg
    obtain ⟨its, r1, g1⟩ := sx.its I
    obtain ⟨its2, r2, g2⟩ := sy.its I
    have l1 := r1.length
    have l2 := r2.length
    have over : its.toArray[i]? = none ∨ its2.toArray[i]? = none := stop.imp (fun z => by simp; omega) fun z => by simp; omega
    exact pyNextA_end (I.ok.hd hc) D fz fI fO f1 f2 g1 g2 over fun g keep => ⟨rfl, I.turnedL (t' := s.toks) (ch := [zz, pI, pO, ia, ib]) (fun c o n q => by
      simp only [List.mem_cons, List.not_mem_nil, or_false, not_or] at n
      exact keep c o n.1 n.2.2.1 n.2.2.2.1 n.2.2.2.2 q) hf⟩
  self := fun A i s Q E st h => wpAny_pyIter_zip st.1 h
theorem turn_enumA {P : Program} {w : World} {K : PySem.W.Frag} {elts : List Expr} {kk : Nat} {tpos : Pos} {b : Bool} {a ee it : Addr} :
    Turn P w K (.Tuple elts kk tpos) (IteA K b a) [ee, it] ee (fun i h => (∃ old, IsEnum h ee it ((i : Nat) : Int) old) ∧ ItA b h it a i ∧ ee ≠ it) where
  mem := List.Mem.head _
  obj := fun i h ⟨⟨old, fe⟩, fi, _⟩ c hc => by
    obtain ⟨o1, v1, q1, d1⟩ := fi.look
    have hc' : c = ee ∨ c = it := by simpa using hc
    rcases hc' with e | e <;> rw [e]
    · exact ⟨_, fe, fun v z => nomatch z⟩
    · exact ⟨o1, q1, fun v z => by rw [d1] at z; cases z⟩
  keep := fun i h h' ⟨⟨old, fe⟩, fi, ne⟩ k => ⟨⟨old, k ee (by simp) _ fe⟩, fi.of_at fun o q => k it (by simp) o q, ne⟩
  item := by
    intro X hP hw hK hc i pins s σ H E I hf st hg
    subst hP hw hK
    obtain ⟨⟨old, fe⟩, fi, ne⟩ := st
    obtain ⟨xs, x, sx, ex⟩ := hg
    obtain ⟨its, r1, g1⟩ := sx.its I
    obtain ⟨u, eu, ru⟩ := r1.get ex
    obtain ⟨_, _, qi, _⟩ := fi.look
    have le : ee < s.heap.objs.size := Heap.lt_size fe
    have li : it < s.heap.objs.size := Heap.lt_size qi
    refine pyNextE_item fe fi g1 (x := u) (by simpa using eu) ne fun g out fi' made size keep => ?_
    refine ⟨_, rfl, wpAny_letOwnedTupleGo_enum (s := { s with heap := g, toks := s.toks + 1 }) out fun g2 fe2 sb => ?_⟩
    have made2 : g2.get? s.heap.objs.size = some { cls := .type "tuple", data := .seq #[.int i s.toks, u] } := (sb.2 _ (Nat.ne_of_gt le)).trans made
    have newO : ObjOk X.prog X.w (upd H s.heap.objs.size (.tup [.int (i : Nat), x])) g2 s.heap.objs.size (.tup [.int (i : Nat), x]) := ⟨(by decide : 2 ≤ sizeLine), [.int i s.toks, u], .cons ⟨_, rfl⟩ (.cons ru .nil), ⟨_, made2, rfl, _, rfl⟩⟩
    have keep2 : ∀ c o, c ∉ [ee, it] → s.heap.get? c = some o → g2.get? c = some o := fun c o n q => by
      simp only [List.mem_cons, List.not_mem_nil, or_false, not_or] at n
      exact (sb.2 c n.1).trans (keep c o n.1 n.2 q)
    refine ⟨.ref s.heap.objs.size, _, I.turnedNew (t' := s.toks + 1) (ch := [ee, it]) keep2 hf (Nat.le_refl _) newO, rfl, ⟨_, x, rfl, I.hok.fresh (Nat.le_refl _), rfl, fun l hl => by rw [hl.inj I sx]; exact ex⟩, ⟨⟨u, ?_⟩, fi'.of_at fun o q => (sb.2 it ne.symm).trans q, ne⟩, fun c hcm => ?_⟩
    · rw [show ((i + 1 : Nat) : Int) = (i : Int) + 1 by omega]
      exact fe2
    · have hc' : c = ee ∨ c = it := by simpa using hcm
      have lt : c < s.heap.objs.size := by
        rcases hc' with e | e <;> rw [e]
        · exact le
        · exact li
      rw [upd_ne (Nat.ne_of_lt lt)]
      exact (hf c hcm).1
  done := by
    intro X hP hw hK hc i pins s σ H E I hf st hg
    subst hP hw hK
    obtain ⟨⟨old, fe⟩, fi, ne⟩ := st
    obtain ⟨xs, sx, stop⟩ := hg
    obtain ⟨its, r1, g1⟩ := sx.its I
    have l1 := r1.length
    exact pyNextE_end (I.ok.hd hc) fe fi g1 (by simp; omega) fun g keep => ⟨rfl, I.turnedL (t' := s.toks) (ch := [ee, it]) (fun c o n q => by
      simp only [List.mem_cons, List.not_mem_nil, or_false, not_or] at n
      exact keep c o n.2 q) hf⟩
  self := fun A i s Q E st h => let ⟨⟨_, fe⟩, _⟩ := st; wpAny_pyIter_enum fe h
end Tb
end

section
set_option maxHeartbeats 4000000
namespace Tb
open PySem PySem.Spec PyProof.Rows L2
/-! ## zip, enumerate: the mirrors -/
def srcOf (h : MH) : D → Option (Bool × List D × Gd)
  | .tup xs => some (true, xs, none)
  | .lst xs => some (false, xs, none)
  | .ref n => match h.get n with
    | some (.lst xs) => some (false, xs, some (n, xs))
    | none => none
  | _ => none
/-- what is walked, at every later time -/
def SrcAt (K : PySem.W.Frag) (w : W3) (b : Bool) (a : Addr) (xs : List D) (g : Gd) : Prop := ∀ w', Ext w w' → Ok K w' → gOk g w'.h → ∃ vs, SqV b K w'.H a vs ∧ Reps K w' xs vs
theorem src_at {K : PySem.W.Frag} {w : W3} {d : D} {v : V} {b : Bool} {xs : List D} {g : Gd} (k0 : Ok K w) (r : Rep K w d v) (e : srcOf w.h d = some (b, xs, g)) : ∃ a, v = .ref a ∧ SrcAt K w b a xs g ∧ gOk g w.h := by
  cases d with
  | tup ys =>
    cases e
    simp only [Rep] at r
    obtain ⟨a, vs, rfl, h2, h3⟩ := r
    exact ⟨a, rfl, fun w' x k _ => ⟨vs, (h2.ext x).sq, h3.ext x⟩, trivial⟩
  | lst ys =>
    cases e
    simp only [Rep] at r
    obtain ⟨a, vs, rfl, h2, h3⟩ := r
    exact ⟨a, rfl, fun w' x k _ => ⟨vs, (h2.ext x).sq, h3.ext x⟩, trivial⟩
  | ref n =>
    simp only [srcOf] at e
    split at e
    · rename_i ys hn
      cases e
      simp only [Rep] at r
      obtain ⟨hlt, rfl⟩ := r
      refine ⟨_, rfl, fun w' x k g => ?_, hn⟩
      obtain ⟨vs, q1, q2⟩ := (k.dom n _ g).2
      rw [x.io n hlt] at q1
      exact ⟨vs, SqL.of q1, q2⟩
    · cases e
  | _ => simp [srcOf] at e
theorem SrcAt.ext {K : PySem.W.Frag} {w w1 : W3} {b : Bool} {a : Addr} {xs : List D} {g : Gd} (h : SrcAt K w b a xs g) (x : Ext w w1) : SrcAt K w1 b a xs g := fun w' x' k q => h w' (x.trans x') k q
def pairD (x y : D) : D := .tup [x, y]
theorem walks_zipA {K : PySem.W.Frag} {w : W3} {b1 b2 : Bool} {a c : Addr} {xs ys : List D} {g1 g2 g : Gd} (s1 : SrcAt K w b1 a xs g1) (s2 : SrcAt K w b2 c ys g2) (hg : ∀ h, gOk g h → gOk g1 h ∧ gOk g2 h) : Walks K w (ItzA K b1 b2 a c) (List.zipWith pairD xs ys, g) := by
  refine ⟨fun i w' x k q hi => ?_, fun i w' y H' d x k q e hy => ?_, fun w' x k q => ?_⟩
  · obtain ⟨vs, q1, q2⟩ := s1 w' x k (hg _ q).1
    obtain ⟨us, q3, q4⟩ := s2 w' x k (hg _ q).2
    simp only [List.length_zipWith] at hi
    have l1 := q2.length
    have l2 := q4.length
    exact ⟨vs, us, vs[i]'(by omega), us[i]'(by omega), q1, q3, by simp, by simp⟩
  · obtain ⟨vs, q1, q2⟩ := s1 w' x k (hg _ q).1
    obtain ⟨us, q3, q4⟩ := s2 w' x k (hg _ q).2
    obtain ⟨T, u, v, rfl, hT, rfl, h1, h2⟩ := hy
    rw [List.getElem?_zipWith] at e
    split at e
    · rename_i d1 d2 e1 e2
      cases e
      obtain ⟨z1, e3, p1⟩ := q2.get e1
      obtain ⟨z2, e4, p2⟩ := q4.get e2
      have e5 := h1 vs q1
      have e6 := h2 us q3
      rw [e3] at e5
      rw [e4] at e6
      cases e5
      cases e6
      exact ⟨w'.lay T (.tup [u, v]), rfl, rfl, Ext.lay k hT, k.lay hT, Rep.layTup k hT (Reps.cons p1 (Reps.cons p2 Reps.nil))⟩
    · cases e
  · obtain ⟨vs, q1, q2⟩ := s1 w' x k (hg _ q).1
    obtain ⟨us, q3, q4⟩ := s2 w' x k (hg _ q).2
    have l1 := q2.length
    have l2 := q4.length
    refine ⟨vs, us, q1, q3, ?_⟩
    simp only [List.length_zipWith]
    omega
theorem walks_enumA {K : PySem.W.Frag} {w : W3} {b : Bool} {a : Addr} {xs : List D} {g : Gd} (s1 : SrcAt K w b a xs g) : Walks K w (IteA K b a) (xs.mapIdx fun i x => pairD (.int (i : Nat)) x, g) := by
  refine ⟨fun i w' x k q hi => ?_, fun i w' y H' d x k q e hy => ?_, fun w' x k q => ?_⟩
  · obtain ⟨vs, q1, q2⟩ := s1 w' x k q
    simp only [List.length_mapIdx] at hi
    have l1 := q2.length
    exact ⟨vs, vs[i]'(by omega), q1, by simp⟩
  · obtain ⟨vs, q1, q2⟩ := s1 w' x k q
    obtain ⟨T, v, rfl, hT, rfl, h1⟩ := hy
    rw [List.getElem?_mapIdx, Option.map_eq_some_iff] at e
    obtain ⟨d1, e1, rfl⟩ := e
    obtain ⟨z1, e3, p1⟩ := q2.get e1
    have e5 := h1 vs q1
    rw [e3] at e5
    cases e5
    exact ⟨w'.lay T (.tup [.int (i : Nat), v]), rfl, rfl, Ext.lay k hT, k.lay hT, Rep.layTup k hT (Reps.cons (rep_int.mpr rfl) (Reps.cons p1 Reps.nil))⟩
  · obtain ⟨vs, q1, q2⟩ := s1 w' x k q
    have l1 := q2.length
    refine ⟨vs, q1, ?_⟩
    simp only [List.length_mapIdx]
    omega
def zipOf (d e : D) (h : MH) : R (List D × Gd) := match srcOf h d, srcOf h e with
  | some (_, xs, none), some (_, ys, g) => .ok (List.zipWith pairD xs ys, g) h
  | some (_, xs, some g), some (_, ys, none) => .ok (List.zipWith pairD xs ys, some g) h
  | _, _ => .bad
def mZip (a b : ME) : MI := fun s h => (a s h).bind fun d h1 => (b s h1).bind fun e h2 => zipOf d e h2
def enumOf (d : D) (h : MH) : R (List D × Gd) := match srcOf h d with
  | some (_, xs, g) => .ok (xs.mapIdx fun i x => pairD (.int (i : Nat)) x, g) h
  | none => .bad
def mEnum (a : ME) : MI := fun s h => (a s h).bind enumOf
section
variable {X : Cx} {E : XK} {e e2 : Expr} {m m2 : ME} {p pos tpos : Pos} {elts : List Expr} {kk : Nat}
theorem mi_zip (hg : Gl X "zip") (hm : X.mg "zip" = none) (ha : PE X e (tM X.K E m)) (hb : PE X e2 (tM X.K E m2)) (hs : starEach [e, e2] X.env = (false, eval e X.env) :: starEach [e2] X.env) (hs2 : starEach [e2] X.env = [(false, eval e2 X.env)])
    (hpl : (backTo pos (starEach [e2] X.env)).any (·.1) = false) : PI X (.Tuple elts kk tpos) (.Call (.Name "zip" p) [e, e2] [] pos) (tMI X.K E (mZip m m2)) := by
  refine ⟨fun pins s σ H R I hq => ?_⟩
  obtain ⟨w, sl, eH, k, r, q⟩ := hq
  subst eH
  have hargs : PA X [e, e2] (tCons (tM X.K E m) (tCons (tM X.K E m2) tNil)) := pa_cons ha (pa_cons hb pa_nil hs2) hs
  have hq1 : tCons (tM X.K E m) (tCons (tM X.K E m2) tNil) σ w.H fun vs H1 => ∃ (w2 : W3) (d1 d2 : D) (v1 v2 : V), vs = [v1, v2] ∧ w2.H = H1 ∧ Ok X.K w2 ∧ Rep X.K w2 d1 v1 ∧ Rep X.K w2 d2 v2 ∧ PostW X.K E (RelI X.K) w2 (zipOf d1 d2 w2.h) fun _ w' J => R J w'.H := by
    refine tM_at k r ((PostW.bind (Rel := RepD X.K) q).imp fun d1 w1 v1 x1 k1 p1 q1 => ?_)
    refine tM_at k1 (r.ext x1) ((PostW.bind (Rel := RepD X.K) q1).imp fun d2 w2 v2 x2 k2 p2 q2 => ?_)
    exact ⟨w2, d1, d2, v1, v2, rfl, rfl, k2, p1.ext x2, p2, q2⟩
  refine Call_ (ld_blt I hg hm PyProof.Rows.boot_zip (PyProof.Rows.callWith_type1 (thn (hargs.run pos pins s σ w.H _ I hq1) fun us s1 hv => ?_) hs hpl))
  obtain ⟨vs, H1, I1, rv, w2, d1, d2, v1, v2, rfl, e1, k2, p1, p2, q2⟩ := hv
  subst e1
  have core : ∀ {b1 b2 : Bool} {xs ys : List D} {g1 g2 g : Gd}, srcOf w2.h d1 = some (b1, xs, g1) → srcOf w2.h d2 = some (b2, ys, g2) → (∀ h, gOk g h → gOk g1 h ∧ gOk g2 h) →
      PostW X.K E (RelI X.K) w2 (.ok (List.zipWith pairD xs ys, g) w2.h) (fun _ w' J => R J w'.H) → wpAny (model X.prog X.w) X.A (call (.type "zip") us) (fun v s2 => wpAny (model X.prog X.w) X.A (pyIter v) (PIE X pins σ (.Tuple elts kk tpos) R) X.xe s2) X.xe s1 := by
    intro b1 b2 xs ys g1 g2 g e1 e2 hgg q3
    obtain ⟨a, rfl, s1', o1⟩ := src_at k2 p1 e1
    obtain ⟨c, rfl, s2', o2⟩ := src_at k2 p2 e2
    obtain ⟨vs1, sv1, _⟩ := s1' w2 (Ext.refl _) k2 o1
    obtain ⟨vs2, sv2, _⟩ := s2' w2 (Ext.refl _) k2 o2
    obtain ⟨its, r1, ga⟩ := sv1.its I1
    obtain ⟨its2, r2, gb⟩ := sv2.its I1
    cases rv with
    | cons ra rv =>
      cases rv with
      | cons rb rv =>
        cases rv
        cases ra
        cases rb
        refine call_zipA ga gb fun gg z1 z2 z3 z4 z5 keep => wpAny_pyIter_zip z1 ?_
        have I2 : L2.Inv X pins σ w2.H { s1 with heap := gg } := I1.kept (t' := s1.toks) keep
        refine ⟨s1.heap.objs.size + 4, [s1.heap.objs.size + 4, s1.heap.objs.size + 2, s1.heap.objs.size + 3, s1.heap.objs.size, s1.heap.objs.size + 1], _, ItzA X.K b1 b2 a c, w2.H, rfl, I2, turn_zipA (PySem.W.ktu_apart s1.heap.objs.size a c ga.lt gb.lt), ⟨z1, z2, ⟨_, _, z3⟩, z4, z5⟩, fun t ht => ?_, ?_⟩
        · have le : s1.heap.objs.size ≤ t := by
            rcases five ht with z | z | z | z | z <;> rw [z] <;> first | exact Nat.le_add_right _ _ | exact Nat.le_refl _
          exact I1.fpOk le (I1.hok.fresh le)
        · exact PostW.here (Rel := RelI X.K) q3 k2 (walks_zipA s1' s2' hgg)
  unfold zipOf at q2
  split at q2
  · rename_i b1 xs b2 ys g e1 e2
    exact core e1 e2 (fun h z => ⟨trivial, z⟩) q2
  · rename_i b1 xs g b2 ys e1 e2
    exact core e1 e2 (fun h z => ⟨z, trivial⟩) q2
  · exact q2.elim
theorem mi_enum (hg : Gl X "enumerate") (hm : X.mg "enumerate" = none) (ha : PE X e (tM X.K E m)) (hs : starEach [e] X.env = [(false, eval e X.env)]) : PI X (.Tuple elts kk tpos) (.Call (.Name "enumerate" p) [e] [] pos) (tMI X.K E (mEnum m)) := by
  refine ⟨fun pins s σ H R I hq => ?_⟩
  obtain ⟨w, sl, eH, k, r, q⟩ := hq
  subst eH
  have hargs : PA X [e] (tCons (tM X.K E m) tNil) := pa_cons ha pa_nil hs
  have hq1 : tCons (tM X.K E m) tNil σ w.H fun vs H1 => ∃ (w2 : W3) (d1 : D) (v1 : V), vs = [v1] ∧ w2.H = H1 ∧ Ok X.K w2 ∧ Rep X.K w2 d1 v1 ∧ PostW X.K E (RelI X.K) w2 (enumOf d1 w2.h) fun _ w' J => R J w'.H := by
    refine tM_at k r ((PostW.bind (Rel := RepD X.K) q).imp fun d1 w1 v1 x1 k1 p1 q1 => ?_)
    exact ⟨w1, d1, v1, rfl, rfl, k1, p1, q1⟩
  refine Call_ (ld_blt I hg hm boot_enumerate (PyProof.Rows.callWith_type1 (thn (hargs.run pos pins s σ w.H _ I hq1) fun us s1 hv => ?_) hs rfl))
  obtain ⟨vs, H1, I1, rv, w2, d1, v1, rfl, e1, k2, p1, q2⟩ := hv
  subst e1
  unfold enumOf at q2
  split at q2
  · rename_i b xs g e1
    obtain ⟨a, rfl, s1', o1⟩ := src_at k2 p1 e1
    obtain ⟨vs1, sv1, _⟩ := s1' w2 (Ext.refl _) k2 o1
    obtain ⟨its, r1, ga⟩ := sv1.its I1
    cases rv with
    | cons ra rv =>
      cases rv
      cases ra
      refine call_enumA ga fun gg z1 z2 keep => wpAny_pyIter_enum z1 ?_
      have I2 : L2.Inv X pins σ w2.H { s1 with heap := gg } := I1.kept (t' := s1.toks) keep
      refine ⟨s1.heap.objs.size + 1, [s1.heap.objs.size + 1, s1.heap.objs.size], _, IteA X.K b a, w2.H, rfl, I2, turn_enumA, ⟨⟨.none, z1⟩, z2, Nat.succ_ne_self _⟩, fun t ht => ?_, ?_⟩
      · have ht' : t = s1.heap.objs.size + 1 ∨ t = s1.heap.objs.size := by simpa using ht
        have le : s1.heap.objs.size ≤ t := by
          rcases ht' with z | z <;> rw [z] <;> first | exact Nat.le_add_right _ _ | exact Nat.le_refl _
        exact I1.fpOk le (I1.hok.fresh le)
      · exact PostW.here (Rel := RelI X.K) q2 k2 (walks_enumA s1')
  · exact q2.elim
end
end Tb
end

section
set_option maxHeartbeats 4000000
namespace Tb
open PySem PySem.Spec L2
/-! ## comprehensions -/
def wipeM (s : Sl) : List Nat → Sl
  | [] => s
  | v :: vs => (wipeM s vs).set v none
theorem SRep.wipe {K : PySem.W.Frag} {w : W3} {s : Sl} {σ : L2.St} (h : SRep K w s σ) : ∀ vs, SRep K w (wipeM s vs) (L2.wipe σ vs)
  | [] => h
  | v :: vs => (SRep.wipe h vs).unset v
theorem wipe_sub {vs : List Nat} {σ : L2.St} : ∀ us : List Nat, (∀ u ∈ us, u ∈ vs) → L2.wipe (L2.wipe σ us) vs = L2.wipe σ vs
  | [], _ => rfl
  | u :: us, h => by
    show L2.wipe ((L2.wipe σ us).set u none) vs = _
    rw [wipe_set (h u List.mem_cons_self)]
    exact wipe_sub us fun x hx => h x (List.mem_cons_of_mem _ hx)
theorem wipe_idem {vs : List Nat} {σ : L2.St} : L2.wipe (L2.wipe σ vs) vs = L2.wipe σ vs := wipe_sub vs fun _ h => h
open Classical in
noncomputable def compLoop (g : Gd) (tg : MG) (tt : MT) (el : ME) (s : Sl) : List D → List D → MH → R (List D)
  | [], acc, h => if gOk g h then .ok acc h else .bad
  | x :: xs, acc, h => if gOk g h then (match tg x s with
      | some s1 => (match tt s1 h with
        | .ok b h1 => if b = true then (match el s1 h1 with
            | .ok y h2 => if acc.length < sizeLine then compLoop g tg tt el s xs (acc ++ [y]) h2 else .bad
            | _ => .bad) else compLoop g tg tt el s xs acc h1
        | _ => .bad)
      | none => .bad) else .bad
noncomputable def mComp (it : MI) (vs : List Nat) (tg : MG) (tt : MT) (el : ME) : MA := fun s h => (it s h).bind fun p h1 => compLoop p.2 tg tt el (wipeM s vs) p.1 [] h1
/-- what becomes of the list that was made -/
abbrev Fn1 := List D → MH → R D
def FinOk (K : PySem.W.Frag) (f : Fn1) : Prop := ∀ (E : XK) (w1 w2 : W3) (p : Addr) (xs : List D) (vs : List V) (Q : V → Hp → Prop), Ext w1 w2 → Ok K w1 → Ok K w2 → w1.H p = none → w2.bar p → w2.H p = some (.lst vs) → Reps K w2 xs vs →
  PostW K E (RepD K) w1 (f xs w2.h) (fun _ w' v => Q v w'.H) → Q (.ref p) w2.H
def finL : Fn1 := fun xs h => .ok (.lst xs) h
def finH : Fn1 := fun xs h => .ok (.ref h.next) (h.new (.lst xs))
theorem fin_l {K : PySem.W.Frag} : FinOk K finL := by
  intro E w1 w2 p xs vs Q x k1 k2 hp hb hl r q
  refine q (w2.free p) (.ref p) rfl (x.free k1 hp) k2.freeB ?_
  simp only [Rep]
  refine ⟨p, vs, rfl, ⟨hl, fun z => ?_⟩, r.ext0 Ext0.free⟩
  rcases z with ⟨n, o, h1, h2⟩ | z
  · exact k2.barO n o h1 (by rw [show w2.io n = p from h2]; exact hb)
  · exact z.2 rfl
theorem fin_h {K : PySem.W.Frag} : FinOk K finH := by
  intro E w1 w2 p xs vs Q x k1 k2 hp hb hl r q
  have np : ¬ Own (w2.free p) p := fun z => by
    rcases z with ⟨n, o, h1, h2⟩ | z
    · exact k2.barO n o h1 (by rw [show w2.io n = p from h2]; exact hb)
    · exact z.2 rfl
  have e0 : Ext0 w2 ((w2.free p).adopt p (.lst xs)) := Ext0.adopt hb
  refine q ((w2.free p).adopt p (.lst xs)) (.ref p) rfl ((x.free k1 hp).adopt k2.freeB hp) (Ok.adopt k2.freeB np hl (r.ext0 e0) fun n o h => (k2.dom n o h).2.ext0 e0 rfl) ?_
  simp only [Rep]
  exact ⟨Nat.lt_succ_self _, congrArg V.ref (if_pos rfl).symm⟩
section
variable {X : Cx} {E : XK} {K : PySem.W.Frag} {mi : MI} {g : TG} {mg : MG} {mt : MT} {me : ME} {vs : List Nat} {f : Fn1}
theorem tLc_of (gk : GOk K vs g mg) (fk : FinOk K f) {σ : L2.St} {H : Hp} {Q : VK} (hq : tM K E (fun s h => (mComp mi vs mg mt me s h).bind f) σ H Q) : tLc (tMI K E mi) g (tMT K E0 mt) (tM K E0 me) vs σ H Q := by
  obtain ⟨w, s, e, k, r, q⟩ := hq
  subst e
  have q' : PostW K E (RepD K) w ((mi s w.h).bind fun p h1 => (compLoop p.2 mg mt me (wipeM s vs) p.1 [] h1).bind f) fun _ w' v => Q v w'.H := by
    have e1 : (mi s w.h).bind (fun p h1 => (compLoop p.2 mg mt me (wipeM s vs) p.1 [] h1).bind f) = (mComp mi vs mg mt me s w.h).bind f := by
      unfold mComp
      cases mi s w.h <;> rfl
    rw [e1]; exact q
  refine ⟨w, s, rfl, k, r, (PostW.bind (Rel := RelI K) q').imp fun p w1 J x1 k1 wk q1 => fun L hL => ?_⟩
  have hr := (r.ext x1).wipe vs
  generalize er : compLoop p.2 mg mt me (wipeM s vs) p.1 [] w1.h = r0 at q1
  -- at each turn what is left comes to the same
  refine ⟨fun i m H' => m = p.1.length - i ∧ i ≤ p.1.length ∧ ∃ w' acc vacc, w'.H = H' ∧ Ext w1 w' ∧ Ok K w' ∧ w'.bar L ∧ w'.H L = some (.lst vacc) ∧ Reps K w' acc vacc ∧
      compLoop p.2 mg mt me (wipeM s vs) (p.1.drop i) acc w'.h = r0,
    ⟨p.1.length, by simp, Nat.zero_le _, w1.bare L (.lst []), [], [], rfl, Ext.bare k1 hL, k1.bare hL, .inr rfl, upd_same, Reps.nil, by rw [List.drop_zero]; exact er⟩, ?_⟩
  rintro i m H' ⟨rfl, hi', w', acc, vacc, rfl, x', k', hb, hl, ra, eq⟩
  have wk' := fun (z : gOk p.2 w'.h) => z
  by_cases hlt : i < p.1.length
  · rw [List.drop_eq_getElem_cons hlt] at eq
    unfold compLoop at eq
    split at eq
    · rename_i hgd
      split at eq
      · rename_i s1 hs1
        refine .inr ⟨wk.go i w' x' k' hgd hlt, fun H2 => ∃ w2 acc2 vacc2, w2.H = H2 ∧ Ext w1 w2 ∧ Ok K w2 ∧ w2.bar L ∧ w2.H L = some (.lst vacc2) ∧ Reps K w2 acc2 vacc2 ∧
            compLoop p.2 mg mt me (wipeM s vs) (p.1.drop (i + 1)) acc2 w2.h = r0, fun H2 z => ?_, fun x H2 hy => ?_⟩
        · obtain ⟨w2, acc2, vacc2, a1, a2, a3, a4, a5, a6, a7⟩ := z
          exact ⟨p.1.length - (i + 1), by omega, rfl, hlt, w2, acc2, vacc2, a1, a2, a3, a4, a5, a6, a7⟩
        · obtain ⟨w2, e2, eh, x2, k2, p2⟩ := wk.yl i w' x H2 _ x' k' hgd (List.getElem?_eq_getElem hlt) hy
          subst e2
          have xx := x'.trans x2
          obtain ⟨hb2, hl2⟩ := x2.ba L hb
          rw [hl] at hl2
          have bad : ∀ {Z : Prop}, (R.bad : R (List D)) = r0 → Z := fun ez => by
            rw [← ez] at q1
            exact q1.elim
          refine gk x (L2.wipe σ vs) w2 _ (wipeM s vs) s1 _ k2 (hr.ext xx) p2 hs1 fun σ3 r3 wq => ?_
          refine ⟨wq.trans wipe_idem, ?_⟩
          refine tMT_at k2 r3 ?_
          rw [eh]
          cases ht : mt s1 w'.h with
          | bad => rw [ht] at eq; exact bad eq
          | exc ex hx => rw [ht] at eq; exact bad eq
          | ok b h1 =>
            rw [ht] at eq
            intro w3 b' e3 x3 k3 eb
            subst eb
            cases b with
            | false =>
              rw [if_neg Bool.false_ne_true]
              simp only [Bool.false_eq_true, if_false] at eq
              obtain ⟨hb3, hl3⟩ := x3.ba L hb2
              exact ⟨w3, acc, vacc, rfl, xx.trans x3, k3, hb3, by rw [hl3, hl2], ra.ext (x2.trans x3), by rw [e3]; exact eq⟩
            | true =>
              rw [if_pos rfl]
              simp only [if_true] at eq
              refine tM_at k3 (r3.ext x3) ?_
              rw [e3]
              cases he : me s1 h1 with
              | bad => rw [he] at eq; exact bad eq
              | exc ex hx => rw [he] at eq; exact bad eq
              | ok y h2 =>
                rw [he] at eq
                simp only at eq
                intro w4 v e4 x4 k4 p4
                have x24 := x2.trans (x3.trans x4)
                obtain ⟨hb4, hl4⟩ := (x3.trans x4).ba L hb2
                rw [hl2] at hl4
                have hlen := ra.length
                split at eq
                · rename_i hz
                  refine ⟨vacc, hl4, by rw [← hlen]; exact hz, w4.barPut L (.lst (vacc ++ [v])), acc ++ [y], vacc ++ [v], rfl, (xx.trans (x3.trans x4)).barPut k1 hL, k4.barPut hb4, hb4, upd_same, ?_, by
                    show compLoop _ _ _ _ _ _ _ w4.h = _
                    rw [e4]; exact eq⟩
                  exact ((ra.ext x24).append (Reps.cons p4 Reps.nil)).ext0 (Ext0.barPut hb4)
                · exact bad eq
      · rw [← eq] at q1; exact q1.elim
    · rw [← eq] at q1; exact q1.elim
  · have e : i = p.1.length := by omega
    subst e
    rw [List.drop_length] at eq
    unfold compLoop at eq
    split at eq
    · rename_i hgd
      rw [← eq] at q1
      exact .inl ⟨wk.st w' x' k' hgd, fk E w1 w' L acc vacc Q x' k1 k' hL hb hl ra q1⟩
    · rw [← eq] at q1; exact q1.elim
end
/-- a clause's tests: none, one -/
theorem pts_imp {X : Cx} {ifs : List Expr} {t t' : TT} (h : PTs X ifs t) (hi : ∀ σ H Q, t' σ H Q → t σ H Q) : PTs X ifs t' := ⟨fun pins s σ H Q I q => h.run pins s σ H Q I (hi σ H Q q)⟩
def mYes : MT := fun _ h => .ok true h
theorem mts_nil {X : Cx} {E : XK} : PTs X [] (tMT X.K E mYes) := by
  refine pts_imp pts_nil fun σ H Q hq => ?_
  obtain ⟨w, s, e, k, r, q⟩ := hq
  subst e
  exact PostW.here (Rel := EqB) q k rfl
theorem mts_one {X : Cx} {E : XK} {c : Expr} {mt : MT} (h : PT X c (tMT X.K E mt)) : PTs X [c] (tMT X.K E mt) := pts_one h
section
variable {X : Cx} {E : XK} {mi : MI} {g : TG} {mg : MG} {mt : MT} {me : ME} {f : Fn1} {elt tg iter : Expr} {ifs : List Expr} {scope : Scope} {own : List (Str × Nat)} {pos spos py : Pos}
theorem me_lc (hc : X.calm = true) (hN : X.N.Nodup) (hi : PI X tg iter (tMI X.K E mi)) (ok : BlkOk X.N X.env.scope scope own) (gk : GOk X.K (own.map (·.2)) g mg) (fk : FinOk X.K f)
    (hg : ∀ (s : Shared) (H : Hp) (C : Addr) (cl : List (Str × Addr)) (fp : List Addr), PG (X.blk s H scope (compEnvC scope cl C X.env) fp) tg g)
    (ht : ∀ (s : Shared) (H : Hp) (C : Addr) (cl : List (Str × Addr)) (fp : List Addr), PTs (X.blk s H scope (compEnvC scope cl C X.env) fp) ifs (tMT X.K E0 mt))
    (he : ∀ (s : Shared) (H : Hp) (C : Addr) (cl : List (Str × Addr)) (fp : List Addr), PE (X.blk s H scope (compEnvC scope cl C X.env) fp) elt (tM X.K E0 me)) (hs : ∀ x, foldedSetIterable iter X.env x = pure x) :
    PE X (.ListComp elt [⟨tg, iter, ifs, 0⟩] scope pos) (tM X.K E fun s h => (mComp mi (own.map (·.2)) mg mt me s h).bind f) :=
  pe_imp (pe_lc hc hN hi ok hg ht he hs) fun _ _ _ h => tLc_of gk fk h
theorem ms_setLc {i : Nat} {y : Str} (hc : X.calm = true) (hN : X.N.Nodup) (hy : X.N[i]? = some y) (hyl : X.env.scope.names.lookup y = some .local)
    (hsw : swapsWith (.ListComp elt [⟨tg, iter, ifs, 0⟩] scope pos) (some (.Name y py)) spos.line X.env = pure true)
    (hi : PI X tg iter (tMI X.K E mi)) (ok : BlkOk X.N X.env.scope scope own) (gk : GOk X.K (own.map (·.2)) g mg) (fk : FinOk X.K f)
    (hg : ∀ (s : Shared) (H : Hp) (C : Addr) (cl : List (Str × Addr)) (fp : List Addr), PG (X.blk s H scope (compEnvC scope cl C X.env) fp) tg g)
    (ht : ∀ (s : Shared) (H : Hp) (C : Addr) (cl : List (Str × Addr)) (fp : List Addr), PTs (X.blk s H scope (compEnvC scope cl C X.env) fp) ifs (tMT X.K E0 mt))
    (he : ∀ (s : Shared) (H : Hp) (C : Addr) (cl : List (Str × Addr)) (fp : List Addr), PE (X.blk s H scope (compEnvC scope cl C X.env) fp) elt (tM X.K E0 me)) (hs : ∀ x, foldedSetIterable iter X.env x = pure x) :
    PS X (.Assign [.Name y py] (.ListComp elt [⟨tg, iter, ifs, 0⟩] scope pos) spos) (tAsg (tM X.K E fun s h => (mComp mi (own.map (·.2)) mg mt me s h).bind f) (gName i)) :=
  ps_imp (ps_setLc hc hN hy hyl hsw hi ok hg ht he hs) fun _ _ _ h => tLc_of gk fk h
end
end Tb
end

section
set_option maxHeartbeats 4000000
namespace Tb
open PySem PySem.Spec L2
/-! ## stores -/
def mSet (i : Nat) (m : ME) : MS := fun s h => (m s h).toS fun d h1 => .nx (s.set i (some d)) h1
def mUnpack (g : MG) (m : ME) : MS := fun s h => (m s h).toS fun d h1 => match g d s with
  | some s1 => .nx s1 h1
  | none => .bad
section
variable {X : Cx} {E : XK} {K : PySem.W.Frag} {e : Expr} {m : ME} {pos : Pos}
theorem tAsg_of {i : Nat} {D : Ends} {σ : L2.St} {H : Hp} (h : tMS K E (mSet i m) D σ H) : tAsg (tM K E m) (gName i) D σ H := by
  obtain ⟨w, s, e, k, r, q⟩ := h
  subst e
  exact tM_at k r ((PostW.toS (Rel := RepD K) q).imp fun d w1 v x1 k1 p1 q1 => PostS.hereN q1 k1 ((r.ext x1).set i p1))
theorem ms_set {i : Nat} {x : Str} {pos' : Pos} (hN : X.N.Nodup) (hi : X.N[i]? = some x) (hx : Loc X.env.scope x) (he : PE X e (tM X.K E m)) (hs : swapsWith e (some (.Name x pos')) pos.line X.env = pure false)
    (hf : X.fn x = true ∨ X.env.scope.names.lookup x = some .local) : PS X (.Assign [.Name x pos'] e pos) (tMS X.K E (mSet i m)) := ps_imp (ps_set hN hi hx he hs hf) fun _ _ _ h => tAsg_of h
theorem ms_unpack {tg : Expr} {vs : List Nat} {g : TG} {mg : MG} (he : PE X e (tM X.K E m)) (hg : PG X tg g) (gk : GOk X.K vs g mg) (hs : swapsWithSole [tg] e pos.line X.env = pure false) (hw : swappedStores [tg] e X.env = pure none)
    (h1 : (assignEach [tg] X.env).map (·.2) = [assign tg X.env]) : PS X (.Assign [tg] e pos) (tMS X.K E (mUnpack mg m)) := by
  refine ps_imp (ps_asg he hg hs hw h1) fun D σ H hq => ?_
  obtain ⟨w, s, e, k, r, q⟩ := hq
  subst e
  refine tM_at k r ((PostW.toS (Rel := RepD X.K) q).imp fun d w1 v x1 k1 p1 q1 => ?_)
  split at q1
  · rename_i s1 hs1
    exact gk v σ w1 d s s1 _ k1 (r.ext x1) p1 hs1 fun σ' r' _ => PostS.hereN q1 k1 r'
  · exact q1.elim
/-- a, b = x, y; a, b, c = x, y, z -/
def mPar2 (i j : Nat) (a b : ME) : MS := fun s h => (a s h).toS fun x h1 => (b s h1).toS fun y h2 => .nx ((s.set i (some x)).set j (some y)) h2
def mPar3 (i j l : Nat) (a b c : ME) : MS := fun s h => (a s h).toS fun x h1 => (b s h1).toS fun y h2 => (c s h2).toS fun z h3 => .nx (((s.set i (some x)).set j (some y)).set l (some z)) h3
theorem swapped2 {env : Env} {x y : Str} {px py pt p2 : Pos} {kt k2 : Nat} {a b : Expr} (hb : env.blockKind = .function) (hx : env.kindOf x = some .local) (hy : env.kindOf y = some .local) (hl : py.line = px.line) (hne : x ≠ y)
    (na : ∀ u p, a ≠ .Starred u p) (nb : ∀ u p, b ≠ .Starred u p) (hf : [a, b].all (foldedForSure 8) = false) (hk : [a, b].all (constantsAlone 8) = false) :
    swappedStores [.Tuple [.Name x px, .Name y py] kt pt] (.Tuple [a, b] k2 p2) env = pure (some [x, y]) := by
  have e2 : [x, y].eraseDups = [x, y] := by
    have e3 : (y == x) = false := beq_eq_false_iff_ne.mpr (Ne.symm hne)
    simp [List.eraseDups, List.eraseDupsBy, List.eraseDupsBy.loop, e3]
  unfold swappedStores
  simp only [List.length_cons, List.length_nil, hb, hf, hk, Expr.pos, hl, hx, hy, List.filterMap_cons, List.filterMap_nil, List.head?_cons, Option.map_some, Option.getD_some, beq_self_eq_true, Bool.and_self, if_true, e2]
  rw [if_neg (by decide), if_neg (by cases a <;> cases b <;> first | exact Bool.false_ne_true | exact absurd rfl (na _ _) | exact absurd rfl (nb _ _))]
  rfl
theorem swapped3 {env : Env} {x y z : Str} {px py pz pt p2 : Pos} {kt k2 : Nat} {a b c : Expr} (hb : env.blockKind = .function) (hx : env.kindOf x = some .local) (hy : env.kindOf y = some .local) (hz : env.kindOf z = some .local) (hl : py.line = px.line) (hl3 : pz.line = px.line)
    (hxy : x ≠ y) (hxz : x ≠ z) (hyz : y ≠ z) (na : ∀ u p, a ≠ .Starred u p) (nb : ∀ u p, b ≠ .Starred u p) (nc : ∀ u p, c ≠ .Starred u p) (hf : [a, b, c].all (foldedForSure 8) = false) (hk : [a, b, c].all (constantsAlone 8) = false) :
    swappedStores [.Tuple [.Name x px, .Name y py, .Name z pz] kt pt] (.Tuple [a, b, c] k2 p2) env = pure (some [x, y, z]) := by
  have e2 : [x, y, z].eraseDups = [x, y, z] := by
    have e3 : (y == x) = false := beq_eq_false_iff_ne.mpr (Ne.symm hxy)
    have e4 : (z == x) = false := beq_eq_false_iff_ne.mpr (Ne.symm hxz)
    have e5 : (z == y) = false := beq_eq_false_iff_ne.mpr (Ne.symm hyz)
    simp [List.eraseDups, List.eraseDupsBy, List.eraseDupsBy.loop, e3, e4, e5]
  unfold swappedStores
  simp only [List.length_cons, List.length_nil, hb, hf, hk, Expr.pos, hl, hl3, hx, hy, hz, List.filterMap_cons, List.filterMap_nil, List.head?_cons, Option.map_some, Option.getD_some, beq_self_eq_true, Bool.and_self, if_true, e2]
  rw [if_neg (by decide), if_neg (fun hs => by
    obtain ⟨q, hq, e⟩ := List.any_eq_true.mp hs
    have nq : ∀ u p, q ≠ .Starred u p := by
      rcases List.mem_cons.mp hq with rfl | hq
      · exact na
      · rcases List.mem_cons.mp hq with rfl | hq
        · exact nb
        · rcases List.mem_cons.mp hq with rfl | hq
          · exact nc
          · cases hq
    cases q <;> first | exact Bool.false_ne_true e | exact absurd rfl (nq _ _))]
  rfl
theorem ms_par2 {i j : Nat} {x y : Str} {a b : Expr} {ma mb : ME} {px py pt pt2 : Pos} {kt k2 : Nat} (hc : X.calm = true) (hN : X.N.Nodup) (hi : X.N[i]? = some x) (hj : X.N[j]? = some y) (hij : i ≠ j)
    (hx : X.env.scope.names.lookup x = some .local) (hy : X.env.scope.names.lookup y = some .local) (ha : PE X a (tM X.K E ma)) (hb : PE X b (tM X.K E mb))
    (sa : starEach [a, b] X.env = (false, eval a X.env) :: starEach [b] X.env) (sb : starEach [b] X.env = (false, eval b X.env) :: starEach [] X.env)
    (hw : swappedStores [.Tuple [.Name x px, .Name y py] kt pt] (.Tuple [a, b] k2 pt2) X.env = pure (some [x, y])) :
    PS X (.Assign [.Tuple [.Name x px, .Name y py] kt pt] (.Tuple [a, b] k2 pt2) pos) (tMS X.K E (mPar2 i j ma mb)) := by
  refine ps_imp (ps_par hc hN hi hj hij hx hy (pa_cons ha (pa_cons hb pa_nil sb) sa) hw) fun D σ H hq => ?_
  obtain ⟨w, s, e, k, r, q⟩ := hq
  subst e
  show tM X.K E ma σ w.H fun x H1 => tM X.K E mb σ H1 fun y H2 => ∃ v w, [x, y] = [v, w] ∧ D.nx ((σ.set i (some v)).set j (some w)) H2
  refine tM_at k r ((PostW.toS (Rel := RepD X.K) q).imp fun d w1 v x1 k1 p1 q1 => ?_)
  refine tM_at k1 (r.ext x1) ((PostW.toS (Rel := RepD X.K) q1).imp fun d2 w2 v2 x2 k2 p2 q2 => ?_)
  exact ⟨_, _, rfl, PostS.hereN q2 k2 (((r.ext (x1.trans x2)).set i (p1.ext x2)).set j p2)⟩
theorem ms_par3 {i j l : Nat} {x y z : Str} {a b c : Expr} {ma mb mc : ME} {px py pz pt pt2 : Pos} {kt k2 : Nat} (hc : X.calm = true) (hN : X.N.Nodup) (hi : X.N[i]? = some x) (hj : X.N[j]? = some y) (hl : X.N[l]? = some z) (hij : i ≠ j) (hil : i ≠ l) (hjl : j ≠ l)
    (hx : X.env.scope.names.lookup x = some .local) (hy : X.env.scope.names.lookup y = some .local) (hz : X.env.scope.names.lookup z = some .local) (ha : PE X a (tM X.K E ma)) (hb : PE X b (tM X.K E mb)) (hd : PE X c (tM X.K E mc))
    (sa : starEach [a, b, c] X.env = (false, eval a X.env) :: starEach [b, c] X.env) (sb : starEach [b, c] X.env = (false, eval b X.env) :: starEach [c] X.env) (sc : starEach [c] X.env = (false, eval c X.env) :: starEach [] X.env)
    (hw : swappedStores [.Tuple [.Name x px, .Name y py, .Name z pz] kt pt] (.Tuple [a, b, c] k2 pt2) X.env = pure (some [x, y, z])) :
    PS X (.Assign [.Tuple [.Name x px, .Name y py, .Name z pz] kt pt] (.Tuple [a, b, c] k2 pt2) pos) (tMS X.K E (mPar3 i j l ma mb mc)) := by
  refine ps_imp (ps_par3 hc hN hi hj hl hij hil hjl hx hy hz (pa_cons ha (pa_cons hb (pa_cons hd pa_nil sc) sb) sa) hw) fun D σ H hq => ?_
  obtain ⟨w, s, e, k, r, q⟩ := hq
  subst e
  show tM X.K E ma σ w.H fun x H1 => tM X.K E mb σ H1 fun y H2 => tM X.K E mc σ H2 fun z H3 => ∃ u v w, [x, y, z] = [u, v, w] ∧ D.nx (((σ.set i (some u)).set j (some v)).set l (some w)) H3
  refine tM_at k r ((PostW.toS (Rel := RepD X.K) q).imp fun d w1 v x1 k1 p1 q1 => ?_)
  refine tM_at k1 (r.ext x1) ((PostW.toS (Rel := RepD X.K) q1).imp fun d2 w2 v2 x2 k2 p2 q2 => ?_)
  refine tM_at k2 (r.ext (x1.trans x2)) ((PostW.toS (Rel := RepD X.K) q2).imp fun d3 w3 v3 x3 k3 p3 q3 => ?_)
  exact ⟨_, _, _, rfl, PostS.hereN q3 k3 ((((r.ext (x1.trans (x2.trans x3))).set i (p1.ext (x2.trans x3))).set j (p2.ext x3)).set l p3)⟩
end
/-! ## the heap is written -/
/-- o[i] = v -/
def setIx : D → D → D → MH → R Unit
  | .ref n, .int i, v, h => match h.get n with
    | some (.lst xs) => match ixN xs.length i with
      | some j => .ok () (h.set n (.lst (xs.set j v)))
      | none => .bad
    | none => .bad
  | _, _, _, _ => .bad
abbrev EqU : Rl Unit Unit := fun _ _ _ => True
def rSet (K : PySem.W.Frag) (E : XK) (f : D → D → D → MH → R Unit) : V → V → V → Hp → (Hp → Prop) → Prop := fun o i v H Q => ∃ w a b c, w.H = H ∧ Ok K w ∧ Rep K w a o ∧ Rep K w b i ∧ Rep K w c v ∧ PostW K E EqU w (f a b c w.h) fun _ w' _ => Q w'.H
theorem put_lst {K : PySem.W.Frag} {w : W3} (k : Ok K w) {n : Nat} {o : MO} {xs : List D} {vs : List V} (h : w.h.get n = some o) (r : Reps K w xs vs) : Ok K (w.put n (.lst vs) (.lst xs)) :=
  k.put h ⟨vs, upd_same, r.ext (Ext.put k h)⟩
section
variable {X : Cx} {E : XK} {pos : Pos}
theorem sr_set : PSet X (rSet X.K E setIx) := by
  intro pins s σ H o i v ov iv u Q I ro ri rv h
  obtain ⟨w, a, b, c, eH, k, ra, rb, rc, q⟩ := h
  subst eH
  unfold setIx at q
  split at q
  · split at q
    · split at q
      · rename_i xs hg _ j hj
        have r0 := ra
        simp only [Rep] at r0
        obtain ⟨vs, h1, h2⟩ := (k.dom _ _ hg).2
        refine set_list pins s σ _ o i v ov iv u Q I ro ri rv ⟨_, vs, _, j, r0.2, rep_int.mp rb, h1, by rw [← h2.length]; exact hj, ?_⟩
        exact q (w.put _ (.lst (vs.set j v)) (.lst (xs.set j _))) () rfl (Ext.put k hg) (put_lst k hg (h2.set rc j)) trivial
      · exact q.elim
    · exact q.elim
  · exact q.elim
def mSetSub (f : D → D → D → MH → R Unit) (o i v : ME) : MS := fun s h => (v s h).toS fun c h1 => (o s h1).toS fun a h2 => (i s h2).toS fun b h3 => (f a b c h3).toS fun _ h4 => .nx s h4
theorem ms_setSub {o i e : Expr} {mo mi me : ME} {f : D → D → D → MH → R Unit} {spos : Pos} (hs : PSet X (rSet X.K E f)) (he : PE X e (tM X.K E me)) (ho : PE X o (tM X.K E mo)) (hi : PE X i (tM X.K E mi))
    (ha : ∀ v, assign (.Subscript o i pos) X.env v = (do
      let ov ← holding [v] (eval o X.env)
      let iv ← holding [v, ov] (eval i X.env)
      standAt pos
      holding [v, ov, iv] (setItem ov iv v)
      release [v, ov, iv] []))
    (h1 : swapsWithSole [.Subscript o i pos] e spos.line X.env = pure false) (h2 : swappedStores [.Subscript o i pos] e X.env = pure none) (h3 : (assignEach [.Subscript o i pos] X.env).map (·.2) = [assign (.Subscript o i pos) X.env]) :
    PS X (.Assign [.Subscript o i pos] e spos) (tMS X.K E (mSetSub f mo mi me)) := by
  refine ps_imp (ps_asg he (pg_sub ho hi hs ha) h1 h2 h3) fun D σ H hq => ?_
  obtain ⟨w, s, e, k, r, q⟩ := hq
  subst e
  refine tM_at k r ((PostW.toS (Rel := RepD X.K) q).imp fun c w1 v x1 k1 p1 q1 => ?_)
  refine tM_at k1 (r.ext x1) ((PostW.toS (Rel := RepD X.K) q1).imp fun a w2 v2 x2 k2 p2 q2 => ?_)
  refine tM_at k2 (r.ext (x1.trans x2)) ((PostW.toS (Rel := RepD X.K) q2).imp fun b w3 v3 x3 k3 p3 q3 => ?_)
  refine ⟨w3, a, b, c, rfl, k3, p2.ext x3, p3, p1.ext (x2.trans x3), (PostW.toS (Rel := EqU) q3).imp fun _ w4 _ x4 k4 _ q4 => ?_⟩
  exact PostS.hereN q4 k4 (r.ext (x1.trans (x2.trans (x3.trans x4))))
/-- o[i] op= e, o a list -/
def getIxL : F2
  | d, .int i, h => match lstOf h d with
    | some xs => match atI xs i with
      | some x => .ok x h
      | none => .bad
    | none => .bad
  | _, _, _ => .bad
theorem gr_ix : PGet X (rM X.K E getIxL) := by
  intro pins s σ H o i ov iv Q I ro ri h
  obtain ⟨w, d, e, eH, k, rd, re, q⟩ := h
  subst eH
  unfold getIxL at q
  split at q
  · split at q
    · split at q
      · rename_i i _ xs e1 _ z hz
        obtain ⟨p, vs, ex, h2, h3⟩ := lst_at k rd e1
        obtain ⟨z', h4, h5⟩ := atI_rep h3 hz
        have ei := rep_int.mp re
        subst ex ei
        cases ro
        obtain ⟨t, rfl⟩ := ri
        obtain ⟨its, r, pl, hl0⟩ := I.list (SqL.of h2)
        obtain ⟨j, j1, j2, j3, j4, j5⟩ := atI_get h4
        obtain ⟨u, eu, ru⟩ := r.get j2
        have hl := r.length
        have hn := line63
        have fin : EP X pins σ Q u s := ⟨z', w.H, I, ru, q.here k h5⟩
        by_cases h0 : 0 ≤ i
        · have hj : i.toNat = j := by
            have := (seqIndex_of h0 j5).symm.trans j1
            exact Option.some.inj this
          refine wpAny_getItem_list pl.isList h0 (by omega) ?_ fin
          rw [hj]
          simpa using eu
        · have hj : (i + (its.toArray.size : Int)).toNat = j := by
            have := (seqIndex_neg (by omega) j4).symm.trans j1
            rw [List.size_toArray, ← hl]
            exact Option.some.inj this
          refine wpAny_getItem_list_neg pl.isList (by omega) (by rw [List.size_toArray] <;> omega) (by omega) ?_ fin
          rw [hj]
          simpa using eu
      · exact q.elim
    · exact q.elim
  · exact q.elim
def mAugSub (g : F2) (f : F2) (st : D → D → D → MH → R Unit) (o i e : ME) : MS := fun s h => (o s h).toS fun a h1 => (i s h1).toS fun b h2 => (g a b h2).toS fun x h3 => (e s h3).toS fun y h4 => (f x y h4).toS fun z h5 => (st a b z h5).toS fun _ h6 => .nx s h6
theorem ms_augSub {o i e : Expr} {mo mi me : ME} {g f : F2} {st : D → D → D → MH → R Unit} {op : Operator} {spos : Pos} (hg : PGet X (rM X.K E g)) (hp : OpR X (inplaceOp op) (rM X.K E f)) (hs : PSet X (rSet X.K E st)) (ho : PE X o (tM X.K E mo)) (hi : PE X i (tM X.K E mi)) (he : PE X e (tM X.K E me))
    (ha : ∀ ov iv new, augStore i ov iv new = (do holding [new, ov, iv] (setItem ov iv new); release [new, ov, iv] []; pure .next)) : PS X (.AugAssign (.Subscript o i pos) op e spos) (tMS X.K E (mAugSub g f st mo mi me)) := by
  refine ps_imp (ps_augS ho hi hg he hp hs ha) fun D σ H hq => ?_
  obtain ⟨w, s, e, k, r, q⟩ := hq
  subst e
  refine tM_at k r ((PostW.toS (Rel := RepD X.K) q).imp fun a w1 v1 x1 k1 p1 q1 => ?_)
  refine tM_at k1 (r.ext x1) ((PostW.toS (Rel := RepD X.K) q1).imp fun b w2 v2 x2 k2 p2 q2 => ?_)
  refine ⟨w2, a, b, rfl, k2, p1.ext x2, p2, (PostW.toS (Rel := RepD X.K) q2).imp fun x w3 v3 x3 k3 p3 q3 => ?_⟩
  have x13 := x1.trans (x2.trans x3)
  refine tM_at k3 (r.ext x13) ((PostW.toS (Rel := RepD X.K) q3).imp fun y w4 v4 x4 k4 p4 q4 => ?_)
  refine ⟨w4, x, y, rfl, k4, p3.ext x4, p4, (PostW.toS (Rel := RepD X.K) q4).imp fun z w5 v5 x5 k5 p5 q5 => ?_⟩
  refine ⟨w5, a, b, z, rfl, k5, p1.ext (x2.trans (x3.trans (x4.trans x5))), p2.ext (x3.trans (x4.trans x5)), p5, (PostW.toS (Rel := EqU) q5).imp fun _ w6 _ x6 k6 _ q6 => ?_⟩
  exact PostS.hereN q6 k6 (r.ext (x13.trans (x4.trans (x5.trans x6))))
/-- x op= e -/
def mAug (i : Nat) (f : F2) (e : ME) : MS := fun s h => match s[i]? with
  | some (some x) => (e s h).toS fun y h1 => (f x y h1).toS fun z h2 => .nx (s.set i (some z)) h2
  | _ => .bad
theorem ms_aug {i : Nat} {x : Str} {e : Expr} {me : ME} {f : F2} {op : Operator} {pos' : Pos} (hN : X.N.Nodup) (hi : X.N[i]? = some x) (hx : Loc X.env.scope x) (he : PE X e (tM X.K E me)) (hp : OpR X (inplaceOp op) (rM X.K E f)) (hf : X.fn x = true ∨ X.env.scope.names.lookup x = some .local) :
    PS X (.AugAssign (.Name x pos') op e pos) (tMS X.K E (mAug i f me)) := by
  refine ps_imp (ps_aug hN hi hx he hp hf) fun D σ H hq => ?_
  obtain ⟨w, s, e, k, r, q⟩ := hq
  subst e
  unfold mAug at q
  split at q
  · rename_i d hd
    obtain ⟨v, e1, p0⟩ := r.2 i d hd
    refine ⟨v, e1, tM_at k r ((PostW.toS (Rel := RepD X.K) q).imp fun y w1 u x1 k1 p1 q1 => ?_)⟩
    refine ⟨w1, d, y, rfl, k1, p0.ext x1, p1, (PostW.toS (Rel := RepD X.K) q1).imp fun z w2 v2 x2 k2 p2 q2 => ?_⟩
    exact PostS.hereN q2 k2 ((r.ext (x1.trans x2)).set i p2)
  · exact q.elim
/-- the operators in place -/
def iopAdd : F2
  | .int i, .int j, h => .ok (.int (i + j)) h
  | .str x, .str y, h => if x.length + y.length ≤ sizeLine then .ok (.str (x ++ y)) h else .bad
  | .ref n, e, h => match h.get n, lstOf h e with
    | some (.lst xs), some ys => if xs.length + ys.length ≤ sizeLine then .ok (.ref n) (h.set n (.lst (xs ++ ys))) else .bad
    | _, _ => .bad
  | _, _, _ => .bad
def iopSub : F2
  | .int i, .int j, h => .ok (.int (i - j)) h
  | _, _, _ => .bad
theorem oi_add : OpR X (inplaceOp .Add) (rM X.K E iopAdd) := by
  intro pins s σ H x y v u Q I rx ry h
  obtain ⟨w, d, e, eH, k, rd, re, q⟩ := h
  subst eH
  unfold iopAdd at q
  split at q
  · rw [rep_int] at rd re
    exact iop_add pins s σ _ x y v u Q I rx ry ⟨_, _, rd, re, q.here k (rep_int.mpr rfl)⟩
  · rw [rep_str] at rd re
    split at q
    · exact iop_add_str pins s σ _ x y v u Q I rx ry ⟨_, _, rd, re, by assumption, q.here k (rep_str.mpr rfl)⟩
    · exact q.elim
  · split at q
    · rename_i n _ _ xs ys e1 e2
      split at q
      · rename_i hz
        have r0 := rd
        simp only [Rep] at r0
        obtain ⟨vs, h1, h2⟩ := (k.dom n _ e1).2
        obtain ⟨b, us, ex, h3, h4⟩ := lst_at k re e2
        refine iop_ext pins s σ _ x y v u Q I rx ry ⟨_, b, vs, us, r0.2, ex, h1, h3, by rw [← h2.length, ← h4.length]; exact hz, ?_⟩
        refine q (w.put n (.lst (vs ++ us)) (.lst (xs ++ ys))) _ rfl (Ext.put k e1) (put_lst k e1 (h2.append h4)) ?_
        simp only [Rep]
        exact ⟨r0.1, rfl⟩
      · exact q.elim
    · exact q.elim
  · exact q.elim
theorem oi_sub : OpR X (inplaceOp .Sub) (rM X.K E iopSub) := by
  intro pins s σ H x y v u Q I rx ry h
  obtain ⟨w, d, e, eH, k, rd, re, q⟩ := h
  subst eH
  unfold iopSub at q
  split at q
  · rw [rep_int] at rd re
    exact iop_sub pins s σ _ x y v u Q I rx ry ⟨_, _, rd, re, q.here k (rep_int.mpr rfl)⟩
  · exact q.elim
end
/-! ## methods of built-in types -/
abbrev FM := D → List D → MH → R D
def rMeth (K : PySem.W.Frag) (E : XK) (f : FM) : V → List V → Hp → VK → Prop := fun x vs H Q => ∃ w d ds, w.H = H ∧ Ok K w ∧ Rep K w d x ∧ Reps K w ds vs ∧ PostW K E (RepD K) w (f d ds w.h) fun _ w' v => Q v w'.H
/-- the receiver's kind -/
def kindIs (T : String) (d : D) (h : MH) : Bool := match d with
  | .str _ => T == "str"
  | d => T == "list" && (lstOf h d).isSome
theorem kind_ok {K : PySem.W.Frag} {w : W3} {T : String} {d : D} {v : V} (k : Ok K w) (r : Rep K w d v) (h : kindIs T d w.h = true) : tyV K T v w.H := by
  unfold kindIs at h
  split at h
  · rw [rep_str] at r
    subst r
    exact beq_iff_eq.mp h
  · rw [Bool.and_eq_true, beq_iff_eq] at h
    obtain ⟨xs, e⟩ := Option.isSome_iff_exists.mp h.2
    obtain ⟨a, vs, rfl, h2, _⟩ := lst_at k r e
    exact .inl ⟨h.1, vs, SqL.of h2⟩
def mMeth (T : String) (f : FM) (o : ME) (a : MA) : ME := fun s h => (o s h).bind fun d h1 => if kindIs T d h1 = true then (a s h1).bind fun ds h2 => f d ds h2 else .bad
section
variable {X : Cx} {E : XK} {o e : Expr} {es : List Expr} {mo : ME} {ma : MA} {f : FM} {T id : String} {name : Str} {apos cpos : Pos}
theorem tBM_of {σ : L2.St} {H : Hp} {Q : VK} (h : tM X.K E (mMeth T f mo ma) σ H Q) : tBM X.K T (rMeth X.K E f) (tM X.K E mo) (tMA X.K E ma) σ H Q := by
  obtain ⟨w, s, e, k, r, q⟩ := h
  subst e
  refine tM_at k r ((PostW.bind (Rel := RepD X.K) q).imp fun d w1 v x1 k1 p1 q1 => ?_)
  split at q1
  · rename_i hk
    refine ⟨kind_ok k1 p1 hk, tMA_at k1 (r.ext x1) ((PostW.bind (Rel := RepL X.K) q1).imp fun ds w2 vs x2 k2 p2 q2 => ?_)⟩
    exact ⟨w2, d, ds, rfl, k2, p1.ext x2, p2, q2⟩
  · exact q1.elim
theorem me_meth (pa : PlainAttrs T) (slot : Slot T name id) (hty : typeOf (.builtin id) = pure (.type "method_descriptor")) (hm : MtR X id (rMeth X.K E f)) (ho : PE X o (tM X.K E mo)) (ha : PA X (e :: es) (tMA X.K E ma))
    (hb : attributeBase o name X.env (eval o X.env) = eval o X.env)
    (h30 : ((((backTo cpos (starEach (e :: es) X.env)).all fun x => !x.1) && (backToKw cpos (keywordEach [] X.env)).all fun x => x.1.isSome) && decide (((e :: es).length + ([] : List Keyword).length + if ([] : List Keyword).isEmpty = true then 0 else 1) < 30)) = true)
    (hl : (apos.endLine == cpos.line) = true) (hs : starEach (e :: es) X.env = (false, eval e X.env) :: starEach es X.env) (hn : ((backTo cpos (starEach es X.env)).any fun x => x.1) = false) :
    PE X (.Call (.Attribute o name apos) (e :: es) [] cpos) (tM X.K E (mMeth T f mo ma)) :=
  pe_imp (pe_bm pa slot hty hm ho ha hb h30 hl hs hn) fun _ _ _ h => tBM_of h
/-- append, extend -/
def lAppend : FM
  | .ref n, [x], h => match h.get n with
    | some (.lst xs) => if xs.length < sizeLine then .ok .non (h.set n (.lst (xs ++ [x]))) else .bad
    | none => .bad
  | _, _, _ => .bad
def lExtend : FM
  | .ref n, [x], h => match h.get n, lstOf h x with
    | some (.lst xs), some ys => if xs.length + ys.length ≤ sizeLine then .ok .non (h.set n (.lst (xs ++ ys))) else .bad
    | _, _ => .bad
  | _, _, _ => .bad
theorem mr_append : MtR X "list.append" (rMeth X.K E lAppend) := by
  intro pins s σ H x vs v us Q I rx rv h
  obtain ⟨w, d, ds, eH, k, rd, rs, q⟩ := h
  subst eH
  unfold lAppend at q
  split at q
  · split at q
    · rename_i xs e1
      split at q
      · rename_i hz
        obtain ⟨y, rfl, r1⟩ := rs.one
        have r0 := rd
        simp only [Rep] at r0
        obtain ⟨vs, h1, h2⟩ := (k.dom _ _ e1).2
        refine mt_append pins s σ _ x _ v us Q I rx rv ⟨_, vs, y, r0.2, rfl, h1, by rw [← h2.length]; exact hz, ?_⟩
        exact q (w.put _ (.lst (vs ++ [y])) (.lst (xs ++ [_]))) _ rfl (Ext.put k e1) (put_lst k e1 (h2.append (Reps.cons r1 Reps.nil))) (rep_non.mpr rfl)
      · exact q.elim
    · exact q.elim
  · exact q.elim
theorem mr_extend : MtR X "list.extend" (rMeth X.K E lExtend) := by
  intro pins s σ H x vs v us Q I rx rv h
  obtain ⟨w, d, ds, eH, k, rd, rs, q⟩ := h
  subst eH
  unfold lExtend at q
  split at q
  · split at q
    · rename_i xs ys e1 e2
      split at q
      · rename_i hz
        obtain ⟨y, rfl, r1⟩ := rs.one
        have r0 := rd
        simp only [Rep] at r0
        obtain ⟨vs, h1, h2⟩ := (k.dom _ _ e1).2
        obtain ⟨b, us', rfl, h3, h4⟩ := lst_at k r1 e2
        refine mt_extend pins s σ _ x _ v us Q I rx rv ⟨_, b, vs, us', r0.2, rfl, h1, h3, by rw [← h2.length, ← h4.length]; exact hz, ?_⟩
        exact q (w.put _ (.lst (vs ++ us')) (.lst (xs ++ ys))) _ rfl (Ext.put k e1) (put_lst k e1 (h2.append h4)) (rep_non.mpr rfl)
      · exact q.elim
    · exact q.elim
  · exact q.elim
end
/-! ## built-in functions -/
abbrev FB := List D → MH → R D
def rB (K : PySem.W.Frag) (E : XK) (f : FB) : List V → Hp → VK → Prop := fun vs H Q => ∃ w ds, w.H = H ∧ Ok K w ∧ Reps K w ds vs ∧ PostW K E (RepD K) w (f ds w.h) fun _ w' v => Q v w'.H
def mCallB (f : FB) (a : MA) : ME := fun s h => (a s h).bind f
section
variable {X : Cx} {E : XK} {e : Expr} {es : List Expr} {ma : MA} {f : FB} {T id : String} {x : Str} {p pos : Pos}
theorem tCB_of {σ : L2.St} {H : Hp} {Q : VK} (h : tM X.K E (mCallB f ma) σ H Q) : tCB (rB X.K E f) (tMA X.K E ma) σ H Q := by
  obtain ⟨w, s, e, k, r, q⟩ := h
  subst e
  exact tMA_at k r ((PostW.bind (Rel := RepL X.K) q).imp fun ds w1 vs x1 k1 p1 q1 => ⟨w1, ds, rfl, k1, p1, q1⟩)
theorem me_callB (hc : CallR X (.builtin id) (rB X.K E f)) (hg : Gl X x) (hm : X.mg x = none) (hv : bootBuiltins x = some (.builtin id)) (ha : PA X (e :: es) (tMA X.K E ma)) (hn : x ≠ "__name__") (hd : (x == ("__debug__" : Str)) = false)
    (he : starEach (e :: es) X.env = (false, eval e X.env) :: starEach es X.env) (hp : (backTo pos (starEach es X.env)).any (·.1) = false) : PE X (.Call (.Name x p) (e :: es) [] pos) (tM X.K E (mCallB f ma)) :=
  pe_imp (pe_callB hc hg hm hv ha hn hd he hp) fun _ _ _ h => tCB_of h
theorem me_callTy (hc : CallR X (.type T) (rB X.K E f)) (hg : Gl X x) (hm : X.mg x = none) (hv : bootBuiltins x = some (.type T)) (ha : PA X (e :: es) (tMA X.K E ma)) (hn : x ≠ "__name__") (hd : (x == ("__debug__" : Str)) = false)
    (he : starEach (e :: es) X.env = (false, eval e X.env) :: starEach es X.env) (hp : (backTo pos (starEach es X.env)).any (·.1) = false) : PE X (.Call (.Name x p) (e :: es) [] pos) (tM X.K E (mCallB f ma)) :=
  pe_imp (pe_callTy hc hg hm hv ha hn hd he hp) fun _ _ _ h => tCB_of h
end
end Tb
end

section
set_option maxHeartbeats 4000000
namespace Tb
open PySem PySem.Spec PyProof.Rows L2
/-! ## sum, max, min, any, all of a tuple -/
section
variable {prog : Program} {w : World} {A : Around} {E : Value → Shared → Prop} {s : Shared} {l : Addr} {its : List Value} {ns : List Int} {xs : Array (Int × Tok)}
theorem iter_tup {items : Array Value} {Q : Value → Shared → Prop} (hl : s.heap.IsTuple l items) (k : ∀ s2 : Shared, s2 = { s with heap := s.heap.push { cls := .type "tuple_iterator", data := .fields #[.ref l, .int 0 0] } } →
    (s2.heap.IsTupleIter s.heap.objs.size l 0 ∧ s2.heap.IsTuple l items) → (∀ b ∈ [s.heap.objs.size, l], b < s2.heap.objs.size) → l ≠ s.heap.objs.size → Q (.ref s.heap.objs.size) s2) : wpAny (model prog w) A (pyIter (.ref l)) Q E s := by
  have lt : l < s.heap.objs.size := by
    obtain ⟨_, e, _⟩ := hl
    exact Heap.lt_size e
  refine wpAny_pyIter_tuple hl (k _ rfl ⟨⟨_, Heap.get?_push_size _ rfl, rfl, rfl⟩, hl.push _⟩ (fun b hb => ?_) (Nat.ne_of_lt lt))
  show b < (s.heap.push _).objs.size
  rw [Heap.size_push]
  simp only [List.mem_cons, List.not_mem_nil, or_false] at hb
  rcases hb with e | e <;> rw [e]
  · exact Nat.lt_succ_self _
  · exact Nat.lt_succ_of_lt lt
theorem keptT {o : Obj} {h' : Heap} (k : ∀ b ob, b ∉ [s.heap.objs.size] → (s.heap.push o).get? b = some ob → h'.get? b = some ob) : ∀ b ob, s.heap.get? b = some ob → h'.get? b = some ob := fun b ob e => by
  refine k b ob (fun hm => ?_) (Heap.get?_push_of_some _ e)
  simp only [List.mem_cons, List.not_mem_nil, or_false] at hm
  exact absurd (hm ▸ Heap.lt_size e) (Nat.lt_irrefl _)
theorem sumT {Q : Value → Shared → Prop} (hh : A.handled = none) (hl : s.heap.IsTuple l its.toArray) (hi : IntsAre its ns) (k : ∀ h' tk t', (∀ b o, s.heap.get? b = some o → h'.get? b = some o) → Q (.int ns.sum t') { s with heap := h', toks := tk }) :
    wpAny (model prog w) A (call (.builtin "sum") [.ref l]) Q E s := by
  obtain ⟨xs, e⟩ := hi.allInts.items
  have hn : numsOf (intItems xs).toList = ns := by rw [← e]; exact hi.numsOf
  rw [nums_intItems] at hn
  rw [e] at hl
  refine call_sum_walkG (iter_tup hl fun s2 e2 st fp lI => ?_)
  subst e2
  refine ⟨_, _, _, _, _, _, numAt xs, rfl, Walks.tuple (A := A.in1) hh _ l lI (intItems xs), st, fp, (fun _ _ => intItems_at), fun h' tk t' hk => ?_⟩
  have z := k h' tk t' (keptT hk)
  rw [show (intItems xs).size = xs.size by simp [intItems], preSum_eq, List.take_of_length_le (by simp), hn]
  exact z
theorem maxT {Q : Value → Shared → Prop} (hh : A.handled = none) (hl : s.heap.IsTuple l its.toArray) (hi : IntsAre its ns) (hne : 0 < ns.length)
    (k : ∀ h' tk M t', (∀ b o, s.heap.get? b = some o → h'.get? b = some o) → M ∈ ns → (∀ a, a ∈ ns → a ≤ M) → Q (.int M t') { s with heap := h', toks := tk }) : wpAny (model prog w) A (call (.builtin "max") [.ref l]) Q E s := by
  obtain ⟨xs, e⟩ := hi.allInts.items
  have hn : numsOf (intItems xs).toList = ns := by rw [← e]; exact hi.numsOf
  rw [nums_intItems] at hn
  subst hn
  rw [e] at hl
  have hsz : 0 < xs.size := by simpa using hne
  refine call_max_walk (iter_tup hl fun s2 e2 st fp lI => ?_)
  subst e2
  refine ⟨_, _, _, _, _, _, _, rfl, Walks.tuple (A := A.in1) hh _ l lI (intItems xs), st, fp, by simpa [intItems] using hsz, CmpOf.ints_gt (numAt xs) (fun _ _ => intItems_at), fun v h' tk hP hk => ?_⟩
  have hP' : (intItems xs)[argBest (fun i j => decide (numAt xs i > numAt xs j)) (xs.size - 1)]? = some v := by simpa [intItems] using hP
  obtain ⟨t, rfl⟩ := intItems_at hP'
  obtain ⟨h1, h2⟩ := argBest_gt (numAt xs) (xs.size - 1)
  refine k h' tk _ t (keptT hk) ?_ fun a ha => ?_
  · rw [numAt_eq]; exact PySem.getD_mem (by rw [List.length_map, Array.length_toList]; omega)
  · obtain ⟨j, hj, rfl⟩ := mem_getD ha
    rw [List.length_map, Array.length_toList] at hj
    rw [← numAt_eq]; exact h2 j (by omega)
theorem minT {Q : Value → Shared → Prop} (hh : A.handled = none) (hl : s.heap.IsTuple l its.toArray) (hi : IntsAre its ns) (hne : 0 < ns.length)
    (k : ∀ h' tk M t', (∀ b o, s.heap.get? b = some o → h'.get? b = some o) → M ∈ ns → (∀ a, a ∈ ns → M ≤ a) → Q (.int M t') { s with heap := h', toks := tk }) : wpAny (model prog w) A (call (.builtin "min") [.ref l]) Q E s := by
  obtain ⟨xs, e⟩ := hi.allInts.items
  have hn : numsOf (intItems xs).toList = ns := by rw [← e]; exact hi.numsOf
  rw [nums_intItems] at hn
  subst hn
  rw [e] at hl
  have hsz : 0 < xs.size := by simpa using hne
  refine call_min_walk (iter_tup hl fun s2 e2 st fp lI => ?_)
  subst e2
  refine ⟨_, _, _, _, _, _, _, rfl, Walks.tuple (A := A.in1) hh _ l lI (intItems xs), st, fp, by simpa [intItems] using hsz, CmpOf.ints_lt (numAt xs) (fun _ _ => intItems_at), fun v h' tk hP hk => ?_⟩
  have hP' : (intItems xs)[argBest (fun i j => decide (numAt xs i < numAt xs j)) (xs.size - 1)]? = some v := by simpa [intItems] using hP
  obtain ⟨t, rfl⟩ := intItems_at hP'
  obtain ⟨h1, h2⟩ := argBest_lt (numAt xs) (xs.size - 1)
  refine k h' tk _ t (keptT hk) ?_ fun a ha => ?_
  · rw [numAt_eq]; exact PySem.getD_mem (by rw [List.length_map, Array.length_toList]; omega)
  · obtain ⟨j, hj, rfl⟩ := mem_getD ha
    rw [List.length_map, Array.length_toList] at hj
    rw [← numAt_eq]; exact h2 j (by omega)
end
section
variable {X : Cx}
theorem cr_sumT (hc : X.calm = true) : CallR X (.builtin "sum") fun vs H Q => ∃ (a : Addr) (ns : List Int), vs = [V.ref a] ∧ SqT X.K H a (ns.map V.int) ∧ Q (.int ns.sum) H := by
  intro pins s σ H vs us Q I r h
  obtain ⟨a, ns, rfl, hs, q⟩ := h
  obtain ⟨its, rv, hl, _⟩ := I.tuple hs
  rw [Vals.ref1 r]
  exact sumT (I.ok.hd hc) hl rv.ints fun h' tk t' hk => ⟨.int _, H, I.kept hk, ⟨_, rfl⟩, q⟩
theorem cr_maxT (hc : X.calm = true) : CallR X (.builtin "max") fun vs H Q => ∃ (a : Addr) (ns : List Int), vs = [V.ref a] ∧ SqT X.K H a (ns.map V.int) ∧ 0 < ns.length ∧ ∀ m, m ∈ ns → (∀ y, y ∈ ns → y ≤ m) → Q (.int m) H := by
  intro pins s σ H vs us Q I r h
  obtain ⟨a, ns, rfl, hs, hne, q⟩ := h
  obtain ⟨its, rv, hl, _⟩ := I.tuple hs
  rw [Vals.ref1 r]
  exact maxT (I.ok.hd hc) hl rv.ints hne fun h' tk m t' hk h1 h2 => ⟨.int _, H, I.kept hk, ⟨_, rfl⟩, q m h1 h2⟩
theorem cr_minT (hc : X.calm = true) : CallR X (.builtin "min") fun vs H Q => ∃ (a : Addr) (ns : List Int), vs = [V.ref a] ∧ SqT X.K H a (ns.map V.int) ∧ 0 < ns.length ∧ ∀ m, m ∈ ns → (∀ y, y ∈ ns → m ≤ y) → Q (.int m) H := by
  intro pins s σ H vs us Q I r h
  obtain ⟨a, ns, rfl, hs, hne, q⟩ := h
  obtain ⟨its, rv, hl, _⟩ := I.tuple hs
  rw [Vals.ref1 r]
  exact minT (I.ok.hd hc) hl rv.ints hne fun h' tk m t' hk h1 h2 => ⟨.int _, H, I.kept hk, ⟨_, rfl⟩, q m h1 h2⟩
theorem cr_anyT (hc : X.calm = true) : CallR X (.builtin "any") fun vs H Q => ∃ (a : Addr) (bs : List Bool), vs = [V.ref a] ∧ SqT X.K H a (bs.map V.bl) ∧ Q (.bl (bs.any id)) H := by
  intro pins s σ H vs us Q I r h
  obtain ⟨a, bs, rfl, hs, q⟩ := h
  obtain ⟨its, rv, hl, _⟩ := I.tuple hs
  rw [Vals.ref1 r]
  have hb := rv.bls
  refine call_any_walk (iter_tup hl fun s2 e2 st fp lI => ?_)
  subst e2
  refine ⟨_, _, _, _, _, _, _, rfl, Walks.tuple (A := X.A.in1) (I.ok.hd hc) _ a lI its.toArray, st, truth_bools hb, fun h' tk hk => ?_⟩
  refine ⟨.bl _, H, I.kept (keptT hk), ?_, q⟩
  show Value.bool _ = Value.bool _
  rw [← L2.any_range, hb, List.size_toArray, List.length_map]
theorem cr_allT (hc : X.calm = true) : CallR X (.builtin "all") fun vs H Q => ∃ (a : Addr) (bs : List Bool), vs = [V.ref a] ∧ SqT X.K H a (bs.map V.bl) ∧ Q (.bl (bs.all id)) H := by
  intro pins s σ H vs us Q I r h
  obtain ⟨a, bs, rfl, hs, q⟩ := h
  obtain ⟨its, rv, hl, _⟩ := I.tuple hs
  rw [Vals.ref1 r]
  have hb := rv.bls
  refine call_all_walk (iter_tup hl fun s2 e2 st fp lI => ?_)
  subst e2
  refine ⟨_, _, _, _, _, _, _, rfl, Walks.tuple (A := X.A.in1) (I.ok.hd hc) _ a lI its.toArray, st, truth_bools hb, fun h' tk hk => ?_⟩
  refine ⟨.bl _, H, I.kept (keptT hk), ?_, q⟩
  show Value.bool _ = Value.bool _
  rw [← L2.all_range, hb, List.size_toArray, List.length_map]
end
end Tb
end

section
set_option maxHeartbeats 4000000
namespace Tb
open PySem PySem.Spec L2
/-! ## built-in functions, one by one -/
def bLen : FB
  | [.str x], h => if x.length ≤ sizeLine then .ok (.int (x.length : Nat)) h else .bad
  | [d], h => match seqOf h d with
    | some xs => .ok (.int (xs.length : Nat)) h
    | none => .bad
  | _, _ => .bad
def bTuple : FB
  | [d], h => match seqOf h d with
    | some xs => .ok (.tup xs) h
    | none => .bad
  | _, _ => .bad
def bList : FB
  | [d], h => match seqOf h d with
    | some xs => .ok (.lst xs) h
    | none => .bad
  | _, _ => .bad
/-- .. held -/
def bListH : FB
  | [d], h => match seqOf h d with
    | some xs => .ok (.ref h.next) (h.new (.lst xs))
    | none => .bad
  | _, _ => .bad
def bRepr : FB
  | [d], h => match toD h d with
    | some p => if p.showable = true ∧ p.shown.length ≤ sizeLine ∧ SeqAt.shaped p = true then .ok (.str p.shown) h else .bad
    | none => .bad
  | _, _ => .bad
def bAbs : FB
  | [.int i], h => .ok (.int (if i < 0 then -i else i)) h
  | _, _ => .bad
def bInt : FB
  | [.int i], h => .ok (.int i) h
  | [.bl k], h => .ok (.int (if k then 1 else 0)) h
  | _, _ => .bad
def bStr : FB
  | [.int i], h => if i.natAbs.log2 < 1920 then .ok (.str (toString i)) h else .bad
  | [.str x], h => .ok (.str x) h
  | _, _ => .bad
def bOrd : FB
  | [.str x], h => if x.length = 1 then .ok (.int (x.cps.getD 0 0 : Nat)) h else .bad
  | _, _ => .bad
def maxI (ns : List Int) : Int := ns.foldl max (ns.headD 0)
def minI (ns : List Int) : Int := ns.foldl min (ns.headD 0)
def bMax : FB
  | [.int i, .int j], h => .ok (.int (if j > i then j else i)) h
  | [d], h => match (seqOf h d).bind intsOf with
    | some (n :: ns) => .ok (.int (maxI (n :: ns))) h
    | _ => .bad
  | _, _ => .bad
def bMin : FB
  | [.int i, .int j], h => .ok (.int (if j < i then j else i)) h
  | [d], h => match (seqOf h d).bind intsOf with
    | some (n :: ns) => .ok (.int (minI (n :: ns))) h
    | _ => .bad
  | _, _ => .bad
def bSum : FB
  | [d], h => match (seqOf h d).bind intsOf with
    | some ns => .ok (.int ns.sum) h
    | none => .bad
  | _, _ => .bad
def blsOf : List D → Option (List Bool)
  | [] => some []
  | .bl b :: xs => (blsOf xs).map (b :: ·)
  | _ => none
def bAll : FB
  | [d], h => match (seqOf h d).bind blsOf with
    | some bs => .ok (.bl (bs.all id)) h
    | none => .bad
  | _, _ => .bad
def bAny : FB
  | [d], h => match (seqOf h d).bind blsOf with
    | some bs => .ok (.bl (bs.any id)) h
    | none => .bad
  | _, _ => .bad
/-- a value's class, of the built-in ones -/
def kindOf (h : MH) : D → Option String
  | .non => some "NoneType"
  | .bl _ => some "bool"
  | .int _ => some "int"
  | .str _ => some "str"
  | .tup _ => some "tuple"
  | .lst _ => some "list"
  | .ref n => match h.get n with
    | some (.lst _) => some "list"
    | none => none
  | _ => none
def isIn (k c : String) : Option Bool := if k = c then some true else if k = "bool" ∧ c = "int" then some true else if c = "int" ∨ c = "str" ∨ c = "tuple" ∨ c = "list" ∨ c = "bool" ∨ c = "dict" then some false else none
def bIsi : FB
  | [d, .raw (.ty c)], h => match (kindOf h d).bind (isIn · c) with
    | some b => .ok (.bl b) h
    | none => .bad
  | _, _ => .bad
theorem isIn_ok {k c : String} {b : Bool} (hk : k = "NoneType" ∨ k = "bool" ∨ k = "int" ∨ k = "str" ∨ k = "tuple" ∨ k = "list") (h : isIn k c = some b) : kitB k c = some b := by
  unfold isIn at h
  split at h
  · rename_i e
    subst e
    cases h
    rcases hk with rfl | rfl | rfl | rfl | rfl | rfl <;> decide +kernel
  · split at h
    · rename_i e
      cases h
      rw [e.1, e.2]
      decide +kernel
    · split at h
      · rename_i n1 n2 e
        cases h
        rcases hk with rfl | rfl | rfl | rfl | rfl | rfl <;> rcases e with rfl | rfl | rfl | rfl | rfl | rfl <;> first | decide +kernel | exact absurd rfl n1 | exact absurd ⟨rfl, rfl⟩ n2
      · cases h
theorem blsOf_ok {K : PySem.W.Frag} {w : W3} : ∀ {ds : List D} {vs : List V} {ns : List Bool}, Reps K w ds vs → blsOf ds = some ns → vs = ns.map V.bl
  | [], vs, ns, r, h => by simp only [blsOf, Option.some.injEq] at h; subst h; rw [r.unnil]; rfl
  | d :: ds, vs, ns, r, h => by
    obtain ⟨u, us, rfl, r1, r2⟩ := r.uncons
    cases d with
    | bl i =>
      simp only [blsOf, Option.map_eq_some_iff] at h
      obtain ⟨ms, h1, rfl⟩ := h
      rw [rep_bl] at r1
      rw [r1, blsOf_ok r2 h1]
      rfl
    | _ => simp [blsOf] at h
theorem foldl_max : ∀ (ns : List Int) (a : Int), (ns.foldl max a = a ∨ ns.foldl max a ∈ ns) ∧ a ≤ ns.foldl max a ∧ ∀ y ∈ ns, y ≤ ns.foldl max a
  | [], a => ⟨.inl rfl, Int.le_refl _, fun y h => by cases h⟩
  | n :: ns, a => by
    obtain ⟨h1, h2, h3⟩ := foldl_max ns (max a n)
    rw [List.foldl_cons]
    refine ⟨?_, by omega, fun y hy => ?_⟩
    · rcases h1 with h1 | h1
      · rw [h1]
        by_cases q : a ≤ n
        · right; rw [show max a n = n by omega]; exact List.mem_cons_self
        · left; omega
      · exact .inr (List.mem_cons_of_mem _ h1)
    · rcases List.mem_cons.mp hy with rfl | hy
      · omega
      · exact h3 y hy
theorem foldl_min : ∀ (ns : List Int) (a : Int), (ns.foldl min a = a ∨ ns.foldl min a ∈ ns) ∧ ns.foldl min a ≤ a ∧ ∀ y ∈ ns, ns.foldl min a ≤ y
  | [], a => ⟨.inl rfl, Int.le_refl _, fun y h => by cases h⟩
  | n :: ns, a => by
    obtain ⟨h1, h2, h3⟩ := foldl_min ns (min a n)
    rw [List.foldl_cons]
    refine ⟨?_, by omega, fun y hy => ?_⟩
    · rcases h1 with h1 | h1
      · rw [h1]
        by_cases q : a ≤ n
        · left; omega
        · right; rw [show min a n = n by omega]; exact List.mem_cons_self
      · exact .inr (List.mem_cons_of_mem _ h1)
    · rcases List.mem_cons.mp hy with rfl | hy
      · omega
      · exact h3 y hy
theorem maxI_mem {n : Int} {ns : List Int} : maxI (n :: ns) ∈ n :: ns ∧ ∀ y ∈ n :: ns, y ≤ maxI (n :: ns) := by
  obtain ⟨h1, h2, h3⟩ := foldl_max (n :: ns) n
  exact ⟨h1.elim (fun e => by show (n :: ns).foldl max n ∈ _; rw [e]; exact List.mem_cons_self) id, h3⟩
theorem minI_mem {n : Int} {ns : List Int} : minI (n :: ns) ∈ n :: ns ∧ ∀ y ∈ n :: ns, minI (n :: ns) ≤ y := by
  obtain ⟨h1, h2, h3⟩ := foldl_min (n :: ns) n
  exact ⟨h1.elim (fun e => by show (n :: ns).foldl min n ∈ _; rw [e]; exact List.mem_cons_self) id, h3⟩
section
variable {X : Cx} {E : XK}
theorem cr_len : CallR X (.builtin "len") (rB X.K E bLen) := by
  intro pins s σ H xs us Q I r h
  obtain ⟨w, ds, eH, k, rs, q⟩ := h
  subst eH
  unfold bLen at q
  split at q
  · obtain ⟨v, rfl, r1⟩ := rs.one
    have e := rep_str.mp r1
    subst e
    split at q
    · exact call_len pins s σ _ _ us Q I r ⟨_, _, rfl, ⟨by assumption, rfl⟩, q.here k (rep_int.mpr rfl)⟩
    · exact q.elim
  · obtain ⟨v, rfl, r1⟩ := rs.one
    split at q
    · rename_i xs e
      obtain ⟨a, vs, rfl, h2, h3⟩ := seq_at k r1 e
      rw [h3.length] at q
      rcases h2 with h2 | h2
      · exact call_len pins s σ _ _ us Q I r ⟨_, _, rfl, .inl ⟨vs, h2, rfl⟩, q.here k (rep_int.mpr rfl)⟩
      · exact call_len pins s σ _ _ us Q I r ⟨_, _, rfl, .inr ⟨vs, h2, rfl⟩, q.here k (rep_int.mpr rfl)⟩
    · exact q.elim
  · exact q.elim
theorem cr_tuple : CallR X (.type "tuple") (rB X.K E bTuple) := by
  intro pins s σ H xs us Q I r h
  obtain ⟨w, ds, eH, k, rs, q⟩ := h
  subst eH
  unfold bTuple at q
  split at q
  · rename_i d
    obtain ⟨v, rfl, r1⟩ := rs.one
    split at q
    · rename_i xs e
      cases d with
      | tup ys =>
        cases e
        obtain ⟨a, vs, rfl, h2, h3⟩ := tup_at r1
        exact call_tuple_of pins s σ _ _ us Q I r ⟨a, vs, rfl, .inr ⟨h2, q.here k r1⟩⟩
      | _ =>
        obtain ⟨a, vs, rfl, h2, h3⟩ := lst_at k r1 e
        exact call_tuple_of pins s σ _ _ us Q I r ⟨a, vs, rfl, .inl ⟨SqL.of h2, q.newT k h3⟩⟩
    · exact q.elim
  · exact q.elim
theorem cr_list : CallR X (.type "list") (rB X.K E bList) := by
  intro pins s σ H xs us Q I r h
  obtain ⟨w, ds, eH, k, rs, q⟩ := h
  subst eH
  unfold bList at q
  split at q
  · obtain ⟨v, rfl, r1⟩ := rs.one
    split at q
    · rename_i xs e
      obtain ⟨a, vs, rfl, h2, h3⟩ := seq_at k r1 e
      exact call_list_of pins s σ _ _ us Q I r ⟨a, vs, rfl, h2, q.newL k h3⟩
    · exact q.elim
  · exact q.elim
theorem cr_listH : CallR X (.type "list") (rB X.K E bListH) := by
  intro pins s σ H xs us Q I r h
  obtain ⟨w, ds, eH, k, rs, q⟩ := h
  subst eH
  unfold bListH at q
  split at q
  · obtain ⟨v, rfl, r1⟩ := rs.one
    split at q
    · rename_i xs e
      obtain ⟨a, vs, rfl, h2, h3⟩ := seq_at k r1 e
      exact call_list_of pins s σ _ _ us Q I r ⟨a, vs, rfl, h2, q.newH k h3⟩
    · exact q.elim
  · exact q.elim
theorem noDict : ∀ {p : PyData}, PyData.canLay0 p = true → p.hasDict = false := fun {p} h => PyData.hasDict_of_canLay p h
theorem cr_repr (hg : X.A.guards = some []) (hu : X.A.units + 66 < cLine) : CallR X (.builtin "repr") (rB X.K E bRepr) := by
  intro pins s σ H xs us Q I r h
  obtain ⟨w, ds, eH, k, rs, q⟩ := h
  subst eH
  unfold bRepr at q
  split at q
  · obtain ⟨v, rfl, r1⟩ := rs.one
    split at q
    · rename_i p e
      split at q
      · rename_i hz
        obtain ⟨h1, h2, h3⟩ := hz
        obtain ⟨u, rfl, ru⟩ := vals1 r
        have dp := toD_ok k r1 e
        have q' : Q (.str p.shown) w.H := q.here k (rep_str.mpr rfl)
        cases p with
        | none =>
          cases dp; cases ru
          exact PySem.P.repr_of_none ⟨.str _, _, I.tok _, ⟨_, rfl⟩, by simpa only [PyData.shown] using q'⟩
        | bool b =>
          cases dp; cases ru
          exact PySem.P.repr_of_bool ⟨.str _, _, I.tok _, ⟨_, rfl⟩, by simpa only [PyData.shown] using q'⟩
        | int i =>
          cases dp
          obtain ⟨t, rfl⟩ := ru
          exact PySem.P.repr_of_int (by simpa [PyData.showable] using h1) ⟨.str _, _, I.tok _, ⟨_, rfl⟩, by simpa only [PyData.shown] using q'⟩
        | str x =>
          cases dp
          obtain ⟨t, rfl⟩ := ru
          exact PySem.P.repr_of_str ⟨.str _, _, I.tok _, ⟨_, rfl⟩, by simpa only [PyData.shown] using q'⟩ (by simpa only [PyData.shown] using h2)
        | dict kvs => cases dp
        | list ps =>
          obtain ⟨as, rd⟩ := Dp.reads I _ _ _ dp ru
          cases dp
          cases ru
          have hd := SeqAt.depth_of_shaped h3
          exact repr_of_reads' rd h1 (fun z => absurd z (by rw [noDict (SeqAt.canLay_of_shaped h3)]; exact Bool.false_ne_true)) hg (by omega) (fun _ _ z => z)
            (fun h' t tk hk => ⟨.str _, _, I.kept (t' := tk) hk, ⟨_, rfl⟩, q'⟩) h2
        | tuple ps =>
          obtain ⟨as, rd⟩ := Dp.reads I _ _ _ dp ru
          cases dp
          cases ru
          have hd := SeqAt.depth_of_shaped h3
          exact repr_of_reads' rd h1 (fun z => absurd z (by rw [noDict (SeqAt.canLay_of_shaped h3)]; exact Bool.false_ne_true)) hg (by omega) (fun _ _ z => z)
            (fun h' t tk hk => ⟨.str _, _, I.kept (t' := tk) hk, ⟨_, rfl⟩, q'⟩) h2
      · exact q.elim
    · exact q.elim
  · exact q.elim
theorem cr_abs : CallR X (.builtin "abs") (rB X.K E bAbs) := by
  intro pins s σ H xs us Q I r h
  obtain ⟨w, ds, eH, k, rs, q⟩ := h
  subst eH
  unfold bAbs at q
  split at q
  · obtain ⟨v, rfl, r1⟩ := rs.one
    have e := rep_int.mp r1
    subst e
    exact call_abs pins s σ _ _ us Q I r ⟨_, rfl, q.here k (rep_int.mpr rfl)⟩
  · exact q.elim
theorem cr_int : CallR X (.type "int") (rB X.K E bInt) := by
  intro pins s σ H xs us Q I r h
  obtain ⟨w, ds, eH, k, rs, q⟩ := h
  subst eH
  unfold bInt at q
  split at q
  · obtain ⟨v, rfl, r1⟩ := rs.one
    have e := rep_int.mp r1
    subst e
    exact call_int1 pins s σ _ _ us Q I r (.inl ⟨_, rfl, q.here k (rep_int.mpr rfl)⟩)
  · obtain ⟨v, rfl, r1⟩ := rs.one
    have e := rep_bl.mp r1
    subst e
    exact call_int1 pins s σ _ _ us Q I r (.inr ⟨_, rfl, q.here k (rep_int.mpr rfl)⟩)
  · exact q.elim
theorem cr_str : CallR X (.type "str") (rB X.K E bStr) := by
  intro pins s σ H xs us Q I r h
  obtain ⟨w, ds, eH, k, rs, q⟩ := h
  subst eH
  unfold bStr at q
  split at q
  · obtain ⟨v, rfl, r1⟩ := rs.one
    have e := rep_int.mp r1
    subst e
    split at q
    · exact call_str_int pins s σ _ _ us Q I r ⟨_, rfl, by assumption, q.here k (rep_str.mpr rfl)⟩
    · exact q.elim
  · obtain ⟨v, rfl, r1⟩ := rs.one
    have e := rep_str.mp r1
    subst e
    exact SkE.call_str_str pins s σ _ _ us Q I r ⟨_, rfl, q.here k (rep_str.mpr rfl)⟩
  · exact q.elim
theorem cr_ord : CallR X (.builtin "ord") (rB X.K E bOrd) := by
  intro pins s σ H xs us Q I r h
  obtain ⟨w, ds, eH, k, rs, q⟩ := h
  subst eH
  unfold bOrd at q
  split at q
  · obtain ⟨v, rfl, r1⟩ := rs.one
    have e := rep_str.mp r1
    subst e
    split at q
    · exact call_ord pins s σ _ _ us Q I r ⟨_, rfl, by assumption, q.here k (rep_int.mpr rfl)⟩
    · exact q.elim
  · exact q.elim
theorem ints_at {w : W3} (k : Ok X.K w) {d : D} {v : V} {ns : List Int} (r : Rep X.K w d v) (h : (seqOf w.h d).bind intsOf = some ns) : ∃ a, v = .ref a ∧ (SqL X.K w.H a (ns.map V.int) ∨ SqT X.K w.H a (ns.map V.int)) := by
  cases e : seqOf w.h d with
  | none => rw [e] at h; cases h
  | some xs =>
    rw [e] at h
    obtain ⟨a, vs, rfl, h2, h3⟩ := seq_at k r e
    rw [intsOf_ok h3 h] at h2
    exact ⟨a, rfl, h2⟩
theorem bls_at {w : W3} (k : Ok X.K w) {d : D} {v : V} {ns : List Bool} (r : Rep X.K w d v) (h : (seqOf w.h d).bind blsOf = some ns) : ∃ a, v = .ref a ∧ (SqL X.K w.H a (ns.map V.bl) ∨ SqT X.K w.H a (ns.map V.bl)) := by
  cases e : seqOf w.h d with
  | none => rw [e] at h; cases h
  | some xs =>
    rw [e] at h
    obtain ⟨a, vs, rfl, h2, h3⟩ := seq_at k r e
    rw [blsOf_ok h3 h] at h2
    exact ⟨a, rfl, h2⟩
theorem antisym {a b : Int} {ns : List Int} (h1 : a ∈ ns) (h2 : ∀ y ∈ ns, y ≤ a) (h3 : b ∈ ns) (h4 : ∀ y ∈ ns, y ≤ b) : a = b := Int.le_antisymm (h4 a h1) (h2 b h3)
theorem cr_maxM (hc : X.calm = true) : CallR X (.builtin "max") (rB X.K E bMax) := by
  intro pins s σ H xs us Q I r h
  obtain ⟨w, ds, eH, k, rs, q⟩ := h
  subst eH
  unfold bMax at q
  split at q
  · obtain ⟨u, v, rfl, r1, r2⟩ := rs.two
    have e := rep_int.mp r1
    have e' := rep_int.mp r2
    subst e e'
    exact call_max2 hc pins s σ _ _ us Q I r ⟨_, _, rfl, q.here k (rep_int.mpr rfl)⟩
  · obtain ⟨v, rfl, r1⟩ := rs.one
    split at q
    · rename_i n ns e
      obtain ⟨a, rfl, h2⟩ := ints_at k r1 e
      have q' := q.here k (rep_int.mpr rfl)
      have q2 : ∀ m, m ∈ n :: ns → (∀ y, y ∈ n :: ns → y ≤ m) → Q (.int m) w.H := fun m hm hy => by
        rw [antisym hm hy maxI_mem.1 maxI_mem.2]
        exact q'
      rcases h2 with h2 | h2
      · exact cr_max hc pins s σ _ _ us Q I r ⟨a, _, rfl, h2, by simp, q2⟩
      · exact cr_maxT hc pins s σ _ _ us Q I r ⟨a, _, rfl, h2, by simp, q2⟩
    · exact q.elim
  · exact q.elim
theorem cr_minM (hc : X.calm = true) : CallR X (.builtin "min") (rB X.K E bMin) := by
  intro pins s σ H xs us Q I r h
  obtain ⟨w, ds, eH, k, rs, q⟩ := h
  subst eH
  unfold bMin at q
  split at q
  · obtain ⟨u, v, rfl, r1, r2⟩ := rs.two
    have e := rep_int.mp r1
    have e' := rep_int.mp r2
    subst e e'
    exact call_min2 hc pins s σ _ _ us Q I r ⟨_, _, rfl, q.here k (rep_int.mpr rfl)⟩
  · obtain ⟨v, rfl, r1⟩ := rs.one
    split at q
    · rename_i n ns e
      obtain ⟨a, rfl, h2⟩ := ints_at k r1 e
      have q' := q.here k (rep_int.mpr rfl)
      have q2 : ∀ m, m ∈ n :: ns → (∀ y, y ∈ n :: ns → m ≤ y) → Q (.int m) w.H := fun m hm hy => by
        rw [show m = minI (n :: ns) from Int.le_antisymm (hy _ minI_mem.1) (minI_mem.2 m hm)]
        exact q'
      rcases h2 with h2 | h2
      · exact cr_min hc pins s σ _ _ us Q I r ⟨a, _, rfl, h2, by simp, q2⟩
      · exact cr_minT hc pins s σ _ _ us Q I r ⟨a, _, rfl, h2, by simp, q2⟩
    · exact q.elim
  · exact q.elim
theorem cr_sumM (hc : X.calm = true) : CallR X (.builtin "sum") (rB X.K E bSum) := by
  intro pins s σ H xs us Q I r h
  obtain ⟨w, ds, eH, k, rs, q⟩ := h
  subst eH
  unfold bSum at q
  split at q
  · obtain ⟨v, rfl, r1⟩ := rs.one
    split at q
    · rename_i ns e
      obtain ⟨a, rfl, h2⟩ := ints_at k r1 e
      rcases h2 with h2 | h2
      · exact cr_sum hc pins s σ _ _ us Q I r ⟨a, _, rfl, h2, q.here k (rep_int.mpr rfl)⟩
      · exact cr_sumT hc pins s σ _ _ us Q I r ⟨a, _, rfl, h2, q.here k (rep_int.mpr rfl)⟩
    · exact q.elim
  · exact q.elim
theorem cr_allM (hc : X.calm = true) : CallR X (.builtin "all") (rB X.K E bAll) := by
  intro pins s σ H xs us Q I r h
  obtain ⟨w, ds, eH, k, rs, q⟩ := h
  subst eH
  unfold bAll at q
  split at q
  · obtain ⟨v, rfl, r1⟩ := rs.one
    split at q
    · rename_i ns e
      obtain ⟨a, rfl, h2⟩ := bls_at k r1 e
      rcases h2 with h2 | h2
      · exact cr_all hc pins s σ _ _ us Q I r ⟨a, _, rfl, h2, q.here k (rep_bl.mpr rfl)⟩
      · exact cr_allT hc pins s σ _ _ us Q I r ⟨a, _, rfl, h2, q.here k (rep_bl.mpr rfl)⟩
    · exact q.elim
  · exact q.elim
theorem cr_anyM (hc : X.calm = true) : CallR X (.builtin "any") (rB X.K E bAny) := by
  intro pins s σ H xs us Q I r h
  obtain ⟨w, ds, eH, k, rs, q⟩ := h
  subst eH
  unfold bAny at q
  split at q
  · obtain ⟨v, rfl, r1⟩ := rs.one
    split at q
    · rename_i ns e
      obtain ⟨a, rfl, h2⟩ := bls_at k r1 e
      rcases h2 with h2 | h2
      · exact cr_any hc pins s σ _ _ us Q I r ⟨a, _, rfl, h2, q.here k (rep_bl.mpr rfl)⟩
      · exact cr_anyT hc pins s σ _ _ us Q I r ⟨a, _, rfl, h2, q.here k (rep_bl.mpr rfl)⟩
    · exact q.elim
  · exact q.elim
theorem tyx_of {w : W3} (k : Ok X.K w) {d : D} {v : V} {n : String} (r : Rep X.K w d v) (h : kindOf w.h d = some n) : TyX X.K w.H v (.type n) ∧ (n = "NoneType" ∨ n = "bool" ∨ n = "int" ∨ n = "str" ∨ n = "tuple" ∨ n = "list") := by
  cases d with
  | non => cases h; rw [rep_non.mp r]; exact ⟨.base .non, by simp⟩
  | bl b => cases h; rw [rep_bl.mp r]; exact ⟨.base (.bl b), by simp⟩
  | int b => cases h; rw [rep_int.mp r]; exact ⟨.base (.int b), by simp⟩
  | str b => cases h; rw [rep_str.mp r]; exact ⟨.base (.str b), by simp⟩
  | tup xs =>
    cases h
    simp only [Rep] at r
    obtain ⟨a, vs, rfl, h2, _⟩ := r
    refine ⟨?_, by simp⟩
    rcases h2 with ⟨h2 | ⟨o, h2⟩, _⟩ | ⟨o, its, n, h2, h3, _⟩
    · exact .base (.tup h2)
    · exact .fTuple h2
    · exact .kTuple h2 h3
  | lst xs =>
    cases h
    simp only [Rep] at r
    obtain ⟨a, vs, rfl, h2, _⟩ := r
    exact ⟨.base (.lst h2.1), by simp⟩
  | ref m =>
    simp only [kindOf] at h
    split at h
    · rename_i xs e
      cases h
      simp only [Rep] at r
      obtain ⟨vs, h1, _⟩ := (k.dom m _ e).2
      rw [r.2]
      exact ⟨.base (.lst h1), by simp⟩
    · cases h
  | raw u => cases h
  | scr ns => cases h
theorem cr_isi : CallR X (.builtin "isinstance") (rB X.K E bIsi) := by
  intro pins s σ H xs us Q I r h
  obtain ⟨w, ds, eH, k, rs, q⟩ := h
  subst eH
  unfold bIsi at q
  split at q
  · rename_i d c
    obtain ⟨v, u, rfl, r1, r2⟩ := rs.two
    simp only [Rep] at r2
    subst r2
    split at q
    · rename_i b e
      cases e1 : kindOf w.h d with
      | none => rw [e1] at e; cases e
      | some n =>
        rw [e1] at e
        obtain ⟨t, hn⟩ := tyx_of k r1 e1
        exact call_isi pins s σ _ _ us Q I r ⟨v, _, _, _, b, rfl, .ty c, t, kit_ty (isIn_ok hn e), q.here k (rep_bl.mpr rfl)⟩
    · exact q.elim
  · exact q.elim
end
end Tb
end

section
set_option maxHeartbeats 4000000
namespace Tb
open PySem PySem.Spec L2
/-! ## defs -/
mutual
/-- what a value refers to stands below N -/
def D.bd (N : Nat) : D → Bool
  | .ref n => decide (n < N)
  | .tup xs => bds N xs
  | .lst xs => bds N xs
  | _ => true
def bds (N : Nat) : List D → Bool
  | [] => true
  | x :: xs => x.bd N && bds N xs
end
def MO.bd (N : Nat) : MO → Bool
  | .lst xs => bds N xs
/-- the heap ahead of a call, with what the call has written -/
def MH.cut (h : MH) (N : Nat) : MH := ⟨fun n => if n < N then h.get n else none, N⟩
open Classical in
/-- a def is left: what it has made is forgotten, if nothing refers to it -/
noncomputable def leave (N : Nat) (d : D) (h : MH) : R D := if d.bd N = true ∧ ∀ n, n < N → ∀ o, h.get n = some o → o.bd N = true then .ok d (h.cut N) else .ok d h
abbrev Fn := List D → MH → R D
/-- a def by its body: ns names, its parameters first -/
noncomputable def fnM (ns : Nat) (body : MS) : Fn := fun ds h => match body (ds.map some ++ List.replicate (ns - ds.length) none) h with
  | .ret d h1 => leave h.next d h1
  | .nx _ h1 => leave h.next .non h1
  | .exc e h1 => .exc e h1
  | _ => .bad
section
variable {K : PySem.W.Frag} {w w1 w2 : W3}
mutual
theorem Rep.cut (hi : w2.io = w1.io) (hH : w2.H = w1.H) (ho : ∀ a, Own w2 a → Own w1 a) : ∀ {d : D} {v : V}, d.bd w2.h.next = true → Rep K w1 d v → Rep K w2 d v
  | .non, _, _, h => by simpa only [Rep] using h
  | .bl _, _, _, h => by simpa only [Rep] using h
  | .int _, _, _, h => by simpa only [Rep] using h
  | .str _, _, _, h => by simpa only [Rep] using h
  | .raw _, _, _, h => by simpa only [Rep] using h
  | .ref n, _, hb, h => by
    simp only [Rep] at h ⊢
    simp only [D.bd, decide_eq_true_eq] at hb
    exact ⟨hb, by rw [hi]; exact h.2⟩
  | .tup xs, _, hb, h => by
    simp only [Rep] at h ⊢
    simp only [D.bd] at hb
    obtain ⟨a, vs, h1, h2, h3⟩ := h
    refine ⟨a, vs, h1, h2.imp (fun q => ⟨?_, fun z => q.2 (ho a z)⟩) id, Reps.cut hi hH ho hb h3⟩
    rw [hH]; exact q.1
  | .lst xs, _, hb, h => by
    simp only [Rep] at h ⊢
    simp only [D.bd] at hb
    obtain ⟨a, vs, h1, h2, h3⟩ := h
    exact ⟨a, vs, h1, ⟨by rw [hH]; exact h2.1, fun z => h2.2 (ho a z)⟩, Reps.cut hi hH ho hb h3⟩
  | .scr ns, _, _, h => by
    simp only [Rep] at h ⊢
    obtain ⟨a, h1, h2⟩ := h
    refine ⟨a, h1, h2.imp (fun q => ⟨?_, fun z => q.2 (ho a z)⟩) id⟩
    rw [hH]; exact q.1
theorem Reps.cut (hi : w2.io = w1.io) (hH : w2.H = w1.H) (ho : ∀ a, Own w2 a → Own w1 a) : ∀ {ds : List D} {vs : List V}, bds w2.h.next ds = true → Reps K w1 ds vs → Reps K w2 ds vs
  | [], _, _, h => by rw [h.unnil]; exact Reps.nil
  | d :: ds, _, hb, h => by
    obtain ⟨u, us, rfl, h1, h2⟩ := h.uncons
    simp only [bds, Bool.and_eq_true] at hb
    exact Reps.cons (Rep.cut hi hH ho hb.1 h1) (Reps.cut hi hH ho hb.2 h2)
end
theorem leave_ok {d : D} {v : V} {Q : D → W3 → V → Prop} {E : XK} (x : Ext w w1) (k : Ok K w1) (r : Rep K w1 d v) (q : PostW K E (RepD K) w (leave w.h.next d w1.h) Q) : ∃ w2, w2.H = w1.H ∧ Q d w2 v := by
  unfold leave at q
  split at q
  · rename_i hz
    have ho : ∀ a, Own (⟨w1.io, w1.h.cut w.h.next, w1.H, w1.bar⟩ : W3) a → Own w1 a := fun a z => by
      rcases z with ⟨n, o, h1, h2⟩ | z
      · simp only [MH.cut] at h1
        split at h1
        · exact .inl ⟨n, o, h1, h2⟩
        · cases h1
      · exact .inr z
    have hg : ∀ n o, (w1.h.cut w.h.next).get n = some o → n < w.h.next ∧ w1.h.get n = some o := fun n o h1 => by
      simp only [MH.cut] at h1
      split at h1
      · exact ⟨by assumption, h1⟩
      · cases h1
    refine ⟨⟨w1.io, w1.h.cut w.h.next, w1.H, w1.bar⟩, rfl, q _ v rfl ⟨x.io, Nat.le_refl _, fun a u h n => ?_, x.ba⟩ ⟨fun n o h => ?_, fun n m o u h1 h2 e => k.inj n m o u (hg n o h1).2 (hg m u h2).2 e, k.barH, fun n o h => k.barO n o (hg n o h).2⟩ (Rep.cut (w1 := w1) (w2 := ⟨w1.io, w1.h.cut w.h.next, w1.H, w1.bar⟩) rfl rfl ho hz.1 r)⟩
    · obtain ⟨h1, n1⟩ := x.un a u h n
      exact ⟨h1, fun z => n1 (ho a z)⟩
    · obtain ⟨h1, h2⟩ := hg n o h
      refine ⟨h1, ?_⟩
      have hb := hz.2 n h1 o h2
      cases o with
      | lst xs =>
        obtain ⟨vs, q1, q2⟩ := (k.dom n _ h2).2
        exact ⟨vs, q1, Reps.cut (w1 := w1) (w2 := ⟨w1.io, w1.h.cut w.h.next, w1.H, w1.bar⟩) rfl rfl ho hb q2⟩
  · exact ⟨w1, rfl, q w1 v rfl x k r⟩
end
/-! ### what a def promises -/
def spM (K : PySem.W.Frag) (F : Fn) (n : Nat) : Sp := fun vs H Q E => vs.length = n ∧ ∃ w ds, w.H = H ∧ Ok K w ∧ Reps K w ds vs ∧ PostW K E (RepD K) w (F ds w.h) fun _ w' v => Q v w'.H
/-- a def keeps it wherever no repr is under way -/
structure FnG (P : Program) (w : World) (K : PySem.W.Frag) (mg : Str → Option Value) (base : Heap) (k : Nat) (f : Addr) (fd : FuncData) (ps : List Str) (sp : Sp) : Prop where
  len : ∀ vs H Q E, sp vs H Q E → vs.length = ps.length
  run : ∀ (A : Around) (outer : List Env) (s : Shared) (H : Hp) (args : Args) (us : List Value) (vs : List V) (Q : VK) (E : XK), A.guards = some [] → Room k A → Env0 P w K mg base A outer s H → BindsTo s fd args (ps.zip us) →
    Vals vs us → sp vs H Q E → codeAny (model P w) A (.call (.ref f) args) (CR (L2.CX P w) outer P w H s Q E) s
theorem FnG.mono {P : Program} {w : World} {K : PySem.W.Frag} {mg : Str → Option Value} {base : Heap} {j k : Nat} {f : Addr} {fd : FuncData} {ps : List Str} {sp : Sp} (F : FnG P w K mg base j f fd ps sp) (h : j ≤ k) : FnG P w K mg base k f fd ps sp :=
  ⟨F.len, fun A outer s H args us vs Q E hg hr => F.run A outer s H args us vs Q E hg (hr.mono h)⟩
section
variable {P : Program} {w : World} {K : PySem.W.Frag} {mg : Str → Option Value} {base : Heap} {x qual : Str} {params : Arguments} {body : List Stmt} {scope : Scope} {dvs : List V} {kws : List (Str × V)} {f : Addr} {fd : FuncData}
/-- THE RULE: a def by its body's mirror -/
theorem fng {N ps : List Str} {k : Nat} {m : MS} (F : FunD K x qual params body scope dvs kws f fd) (S : FnScope N ps scope)
    (hbody : ∀ X : Cx, X.prog = P → X.w = w → X.K = K → X.mg = mg → X.base = base → X.N = N → X.env.scope = scope → X.calm = true → (∀ y, X.fn y = true) → X.A.guards = some [] → Room k X.A → X.env.blockKind = .function →
      ∀ E, Passes (L2.CX P w) X E → PassesOwn (model P w) X.A X.env X.xe → PSs X body (tMS K E m)) :
    FnG P w K mg base (k + 1) f fd ps (spM K (fnM N.length m) ps.length) := by
  obtain ⟨oc, od, dV, kV, doc, pm, an, cdv, ct, osl, rfl, lk, hcd, _, _⟩ := F.ex
  refine ⟨fun vs H Q E h => h.1, fun A outer s H args us vs Q E hg hr e0 hb r hsp => ?_⟩
  have hin : K.In s.heap := e0.mod.kin.keeps fun b o e => (e0.bs b o e).1
  have hlim : s.heap.NoLimit := e0.mod.nolimit.keeps fun b o e => (e0.bs b o e).1
  have hloc : ∀ y ∈ ps.zip us, scope.names.lookup y.1 = some .local ∨ (scope.names.lookup y.1 = some .cell ∧ ((cellsFrom (s.heap.objs.size + 1) scope.names []).lookup y.1).isSome = true) := by
    intro y hy
    exact (S.par y.1 (List.of_mem_zip (a := y.1) (b := y.2) hy).1).imp id fun q => ⟨q, PySem.W.cellsFrom_some _ _ _ (.inl q)⟩
  refine codeAny_call_function hr.depth (hin _ _ lk) rfl S.co S.gen rfl (PySem.W.codeRec_of hin hcd) (hb _ _ _ _ ?_)
  refine wpAny_newFunctionEnv_cells S.kind hloc fun env he s1 hx => ?_
  subst he
  refine ⟨hlim.keeps hx.toInCall.keep, codeAny_func ?_⟩
  have I := inv_start (CX := L2.CX P w) (E := E) S hr.hd e0 hsp.1 r hx
  obtain ⟨hl, w0, ds, eH, k0, r0, q0⟩ := hsp
  have tk : Takes (cxOf (L2.CX P w) P w K mg base N qual scope f cdv A outer s H E) fun cls d _ H => E cls d H := takes_of rfl rfl rfl rfl
  have hp := hbody (cxOf (L2.CX P w) P w K mg base N qual scope f cdv A outer s H E) rfl rfl rfl rfl rfl rfl rfl rfl (fun _ => rfl) hg (hr.deeper _) (by unfold Env.blockKind; rw [show (cxOf (L2.CX P w) P w K mg base N qual scope f cdv A outer s H E).env.scope.kind = .function from S.kind]; rfl) E
    (passes_call tk fun _ _ _ _ z => z) (passes_of rfl)
  have hds := r0.length
  have sr : SRep K w0 (ds.map some ++ List.replicate (N.length - ds.length) none) (L2.start N vs) := by
    unfold L2.start
    refine ⟨by simp [hds], fun i d hd => ?_⟩
    by_cases hi : i < ds.length
    · rw [List.getElem?_append_left (by simpa using hi), List.getElem?_map, Option.map_eq_some_iff] at hd
      obtain ⟨d', h1, h2⟩ := hd
      cases h2
      obtain ⟨v, h3, h4⟩ := r0.get h1
      exact ⟨v, by rw [List.getElem?_append_left (by simpa using (by omega : i < vs.length)), List.getElem?_map, h3]; rfl, h4⟩
    · rw [List.getElem?_append_right (by simpa using hi), List.getElem?_replicate] at hd
      split at hd <;> cases hd
  subst eH
  have fin : ∀ {σ' : L2.St} {H' : Hp} {v : V} {u : Value} {s' : Shared}, L2.Inv (cxOf (L2.CX P w) P w K mg base N qual scope f cdv A outer s w0.H E) [] σ' H' s' → RelV v u → Q v H' → CE outer P w w0.H s Q u s' := fun J rv q => ⟨_, _, J.os, J.bare, J.base, J.hok, rv, q⟩
  have post : PostS K E w0 (m (ds.map some ++ List.replicate (N.length - ds.length) none) w0.h) (endsM { nx := fun _ H' => Q .non H', rt := Q }) := by
    unfold fnM at q0
    split at q0
    · rename_i d h1 e
      rw [e]
      intro w' v e1 x1 k1 p1
      subst e1
      obtain ⟨w2, e2, q2⟩ := leave_ok x1 k1 p1 q0
      show Q v w'.H
      rw [← e2]; exact q2
    · rename_i s2 h1 e
      rw [e]
      intro w' σ' e1 x1 k1 p1
      subst e1
      obtain ⟨w2, e2, q2⟩ := leave_ok x1 k1 (rep_non.mpr rfl) q0
      show Q .non w'.H
      rw [← e2]; exact q2
    · rename_i ex h1 e
      rw [e]
      exact q0
    · exact q0.elim
  refine wpAny_mono (hp.run [] s1 (L2.start N vs) w0.H _ I (tMS_at k0 sr post)) (fun fl s' hs => ?_) fun e s' hs => hs
  cases fl with
  | ret u =>
    obtain ⟨v, σ', H', J, rv, q⟩ := hs
    exact fin J rv q
  | next =>
    obtain ⟨σ', H', J, q⟩ := hs
    exact fin (v := V.non) (u := Value.none) J rfl q
  | brk =>
    obtain ⟨_, _, _, q⟩ := hs
    exact False.elim q
  | cont =>
    obtain ⟨_, _, _, q⟩ := hs
    exact False.elim q
end
/-! ### calls -/
/-- a call: the positional values, then what stands for the others -/
def mCall (n : Nat) (F : Fn) (dv : List D) (a : MA) : ME := fun s h => (a s h).bind fun ds h1 => if ds.length + dv.length = n then F (ds ++ dv) h1 else .bad
section
variable {X : Cx} {E : XK} {k : Nat} {f : Addr} {fd : FuncData} {ps : List Str} {sp : Sp} {F : Fn} {dvs : List V} {ds : List Value} {dv : List D} {x : Str} {p pos : Pos} {e : Expr} {es : List Expr} {ma : MA}
theorem run_fng {pins : List (Addr × Obj)} {σ : L2.St} {H : Hp} {s : Shared} {Q : VK} {us : List Value} {vs : List V} (G : FnG X.prog X.w X.K X.mg X.base k f fd ps sp) (hg : X.A.guards = some []) (hr : Room k X.A) (hb : Binds X.K fd ps ds) (hd : Vals dvs ds)
    (hx : Passes (L2.CX X.prog X.w) X E) (I : L2.Inv X pins σ H s) (r : Vals vs us) (h : sp (vs ++ dvs) H Q E) : wpAny (model X.prog X.w) X.A (call (.ref f) us) (EP X pins σ Q) X.xe s := by
  have rr := r.append hd
  have hlen := (rr.length).symm.trans (G.len _ _ _ _ h)
  have go := G.run X.A X.stack s H ⟨us, []⟩ (us ++ ds) (vs ++ dvs) Q E hg hr I.env0 (hb s us I.kIn hlen) rr h
  refine wpAny_call (codeAny_mono go fun res s' hq => ?_)
  match res, hq with
  | .ok (.ret u), hq => exact I.after hq
  | .error e, hq => exact hx pins σ H s e s' I hq
theorem me_call (G : FnG X.prog X.w X.K X.mg X.base k f fd ps (spM X.K F ps.length)) (hgd : X.A.guards = some []) (hr : Room k X.A) (hg : Gl X x) (hm : X.mg x = some (.ref f)) (hk : PySem.W.keepIn X.K (.ref f) = true) (hb : Binds X.K fd ps ds) (hd : Vals dvs ds)
    (hdv : ∀ w, Reps X.K w dv dvs) (hx : Passes (L2.CX X.prog X.w) X E) (ha : PA X (e :: es) (tMA X.K E ma)) (hdb : (x == ("__debug__" : Str)) = false)
    (he : starEach (e :: es) X.env = (false, eval e X.env) :: starEach es X.env) (hpl : (backTo pos (starEach es X.env)).any (·.1) = false) : PE X (.Call (.Name x p) (e :: es) [] pos) (tM X.K E (mCall ps.length F dv ma)) := by
  refine ⟨fun pins s σ H Q I hq => ?_⟩
  obtain ⟨w, sl, eH, k0, r0, q⟩ := hq
  subst eH
  have hq1 : tMA X.K E ma σ w.H fun vs H1 => spM X.K F ps.length (vs ++ dvs) H1 Q E := by
    refine tMA_at k0 r0 ((PostW.bind (Rel := RepL X.K) q).imp fun ds w1 vs x1 k1 p1 q2 => ?_)
    split at q2
    · rename_i hz
      have r2 := p1.append (hdv w1)
      exact ⟨by rw [← r2.length, List.length_append]; exact hz, w1, ds ++ dv, rfl, k1, r2, q2⟩
    · exact q2.elim
  refine wpAny_Call_Name_kw (ld_glob I hg hm ?_ hdb)
  refine PySem.W.callWith_K (h₀ := X.base) I.ok.mod.kin hk (thn (ha.run pos pins s σ w.H _ I hq1) fun us s1 hv => ?_) he hpl
  obtain ⟨vs, H1, I1, rv, q2⟩ := hv
  exact ⟨I1.kIn, run_fng G hgd hr hb hd hx I1 rv q2⟩
end
section
variable {X : Cx} {E : XK} {k : Nat} {f : Addr} {fd : FuncData} {ps : List Str} {F : Fn} {dvs : List V} {ds : List Value} {dv : List D} {x : Str} {p pos : Pos}
theorem me_call0 (G : FnG X.prog X.w X.K X.mg X.base k f fd ps (spM X.K F ps.length)) (hgd : X.A.guards = some []) (hr : Room k X.A) (hg : Gl X x) (hm : X.mg x = some (.ref f)) (hk : PySem.W.keepIn X.K (.ref f) = true) (hb : Binds X.K fd ps ds) (hd : Vals dvs ds)
    (hdv : ∀ w, Reps X.K w dv dvs) (hx : Passes (L2.CX X.prog X.w) X E) (hdb : (x == ("__debug__" : Str)) = false) : PE X (.Call (.Name x p) [] [] pos) (tM X.K E (mCall ps.length F dv mNil)) := by
  refine ⟨fun pins s σ H Q I hq => ?_⟩
  obtain ⟨w, sl, eH, k0, r0, q⟩ := hq
  subst eH
  have q2 := (PostW.bind (Rel := RepL X.K) (r := mNil sl w.h) q).here k0 (v := []) Reps.nil
  split at q2
  · rename_i hz
    have r2 := hdv w
    refine wpAny_Call_Name_kw (ld_glob I hg hm ?_ hdb)
    exact PySem.W.callWith_K0 I.kIn hk (run_fng (us := []) (vs := []) G hgd hr hb hd hx I .nil ⟨by rw [List.nil_append, ← r2.length]; simpa using hz, w, _, rfl, k0, r2, q2⟩)
  · exact q2.elim
end
/-! ### calls with keywords -/
def tMK (K : PySem.W.Frag) (E : XK) (m : MA) : TA := tMA K E m
section
variable {X : Cx} {E : XK} {k n : Nat} {f : Addr} {fd : FuncData} {ps ks : List Str} {F : Fn} {x : Str} {p pos kpos : Pos} {e : Expr} {es : List Expr} {kws : List Keyword} {ma mk me : MA} {m : ME} {nm : Option Str}
  {g : List Value → List Value → List Value} {gV : List V → List V → List V} {gD : List D → List D → List D}
theorem pk_imp {t t' : TA} (h : PK X kws t) (hi : ∀ σ H Q, t' σ H Q → t σ H Q) : PK X kws t' := ⟨fun pos pins s σ H Q I q => h.run pos pins s σ H Q I (hi σ H Q q)⟩
theorem mk_nil : PK X [] (tMA X.K E mNil) := by
  refine pk_imp pk_nil fun σ H Q hq => ?_
  obtain ⟨w, s, e, k, r, q⟩ := hq
  subst e
  exact PostW.here (Rel := RepL X.K) q k Reps.nil
theorem mk_cons (ha : PE X e (tM X.K E m)) (ht : PK X kws (tMA X.K E ma)) : PK X (⟨nm, e, kpos⟩ :: kws) (tMA X.K E (mCons m ma)) := by
  refine pk_imp (pk_cons ha ht) fun σ H Q hq => ?_
  obtain ⟨w, s, e, k, r, q⟩ := hq
  subst e
  refine tM_at k r ((PostW.bind (Rel := RepD X.K) q).imp fun x w1 v x1 k1 p1 q1 => ?_)
  refine tMA_at k1 (r.ext x1) ((PostW.bind (Rel := RepL X.K) q1).imp fun xs w2 vs x2 k2 p2 q2 => ?_)
  exact PostW.here (Rel := RepL X.K) q2 k2 (Reps.cons (p1.ext x2) p2)
/-- n values by their places, l by their names -/
def mCallK (n l np : Nat) (F : Fn) (gD : List D → List D → List D) (a kw : MA) : ME := fun s h => (a s h).bind fun ds h1 => (kw s h1).bind fun es h2 => if ds.length = n ∧ es.length = l ∧ (gD ds es).length = np then F (gD ds es) h2 else .bad
theorem run_fngK {pins : List (Addr × Obj)} {σ : L2.St} {H : Hp} {s : Shared} {Q : VK} {us ws : List Value} {vs zs : List V} {sp : Sp} (G : FnG X.prog X.w X.K X.mg X.base k f fd ps sp) (hg : X.A.guards = some []) (hr : Room k X.A) (hb : KBn X.K fd ps n ks g gV)
    (hx : Passes (L2.CX X.prog X.w) X E) (I : L2.Inv X pins σ H s) (r : Vals vs us) (rz : Vals zs ws) (l1 : vs.length = n) (l2 : zs.length = ks.length) (h : sp (gV vs zs) H Q E) : wpAny (model X.prog X.w) X.A (call (.ref f) us (ks.zip ws)) (EP X pins σ Q) X.xe s := by
  have go := G.run X.A X.stack s H ⟨us, ks.zip ws⟩ (g us ws) (gV vs zs) Q E hg hr I.env0 (hb.to s us ws I.kIn (r.length.symm.trans l1) (rz.length.symm.trans l2)) (hb.rel r rz) h
  refine wpAny_call (codeAny_mono go fun res s' hq => ?_)
  match res, hq with
  | .ok (.ret u), hq => exact I.after hq
  | .error e, hq => exact hx pins σ H s e s' I hq
theorem me_callK (G : FnG X.prog X.w X.K X.mg X.base k f fd ps (spM X.K F ps.length)) (hgd : X.A.guards = some []) (hr : Room k X.A) (hg : Gl X x) (hm : X.mg x = some (.ref f)) (hk : PySem.W.keepIn X.K (.ref f) = true) (hb : KBn X.K fd ps n ks g gV)
    (hgV : ∀ (w : W3) (ds es : List D) (vs zs : List V), Reps X.K w ds vs → Reps X.K w es zs → Reps X.K w (gD ds es) (gV vs zs)) (hx : Passes (L2.CX X.prog X.w) X E) (ha : PA X (e :: es) (tMA X.K E ma)) (hkw : PK X kws (tMA X.K E mk))
    (hall : (backToKw pos (keywordEach kws X.env)).all (·.1.isSome) = true) (hks : (backToKw pos (keywordEach kws X.env)).filterMap (·.1) = ks) (hdb : (x == ("__debug__" : Str)) = false)
    (he : starEach (e :: es) X.env = (false, eval e X.env) :: starEach es X.env) (hpl : ((backTo pos (starEach (e :: es) X.env)).any (·.1) || (backToKw pos (keywordEach kws X.env)).any (·.1.isNone)) = false) :
    PE X (.Call (.Name x p) (e :: es) kws pos) (tM X.K E (mCallK n ks.length ps.length F gD ma mk)) := by
  refine ⟨fun pins s σ H Q I hq => ?_⟩
  obtain ⟨w, sl, eH, k0, r0, q⟩ := hq
  subst eH
  have hq1 : tMA X.K E ma σ w.H fun vs H1 => tMA X.K E mk σ H1 fun zs H2 => vs.length = n ∧ zs.length = ks.length ∧ spM X.K F ps.length (gV vs zs) H2 Q E := by
    refine tMA_at k0 r0 ((PostW.bind (Rel := RepL X.K) q).imp fun ds w1 vs x1 k1 p1 q1 => ?_)
    refine tMA_at k1 (r0.ext x1) ((PostW.bind (Rel := RepL X.K) q1).imp fun es w2 zs x2 k2 p2 q2 => ?_)
    split at q2
    · rename_i hz
      have r2 := hgV w2 ds es vs zs (p1.ext x2) p2
      exact ⟨by rw [← p1.length]; exact hz.1, by rw [← p2.length]; exact hz.2.1, by rw [← r2.length]; exact hz.2.2, w2, _, rfl, k2, r2, q2⟩
    · exact q2.elim
  refine wpAny_Call_Name_kw (ld_glob I hg hm ?_ hdb)
  refine PySem.W.callWith_KW (h₀ := X.base) I.ok.mod.kin hk hall (thn (ha.run pos pins s σ w.H _ I hq1) fun us s1 hv => ?_) hpl he
  obtain ⟨vs, H1, I1, rv, q2⟩ := hv
  refine thn (hkw.run pos pins s1 σ H1 _ I1 q2) fun ws s2 hz => ?_
  obtain ⟨zs, H2, I2, rz, l1, l2, q3⟩ := hz
  rw [hks]
  exact ⟨I2.kIn, run_fngK G hgd hr hb hx I2 rv rz l1 l2 q3⟩
end
/-- how keywords bind: a def with defaults, one without -/
theorem kb_dfl {K : PySem.W.Frag} {x qual : Str} {params : Arguments} {body : List Stmt} {scope : Scope} {dvs : List V} {f : Addr} {fd : FuncData} {ps : List Str} (F : FunD K x qual params body scope dvs [] f fd) (n : Nat) (ks : List Str) (g : {α : Type} → List α → List α → List α → List α) (hd : dvs ≠ [])
    (hrel : ∀ {vs ds zs : List V} {us its ws : List Value}, Vals vs us → Vals ds its → Vals zs ws → Vals (g vs ds zs) (g us its ws))
    (h : ∀ (T : Addr) (kV doc pm : Value) (an : Option Addr) (cdv ct : Value) (us its ws : List Value), us.length = n → its.length = dvs.length → ws.length = ks.length →
      ∃ k, bindArgs (PySem.W.fnOf x qual params body scope (.ref T) kV doc pm an cdv ct) ⟨us, ks.zip ws⟩ = seqItems? (.ref T) >>= k ∧ k (some its.toArray) = pure (ps.zip (g us its ws))) :
    ∃ its : List Value, KBn K fd ps n ks (fun us ws => g us its ws) (fun vs zs => g vs dvs zs) := by
  obtain ⟨oc, od, dV, kV, doc, pm, an, cdv, ct, osl, rfl, lk, hcd, hD, hK⟩ := F.ex
  rcases hD with ⟨e, _⟩ | ⟨_, T, o, its, m, rfl, lT, oT, rT⟩
  · exact absurd e hd
  · refine ⟨its, ⟨fun s us ws X l1 l2 => ?_, fun r1 r2 => hrel r1 rT r2⟩⟩
    obtain ⟨k, e1, e2⟩ := h T kV doc pm an cdv ct us its ws l1 rT.length.symm l2
    refine BindsTo.of_looks fun M => ?_
    rw [e1]
    exact looks_items X lT oT (.of_pure e2)
theorem kb_none {K : PySem.W.Frag} {x qual : Str} {params : Arguments} {body : List Stmt} {scope : Scope} {f : Addr} {fd : FuncData} {ps : List Str} (F : FunD K x qual params body scope [] [] f fd) (n : Nat) (ks : List Str) (g : {α : Type} → List α → List α → List α)
    (hrel : ∀ {vs zs : List V} {us ws : List Value}, Vals vs us → Vals zs ws → Vals (g vs zs) (g us ws))
    (h : ∀ (kV doc pm : Value) (an : Option Addr) (cdv ct : Value) (us ws : List Value), us.length = n → ws.length = ks.length → bindArgs (PySem.W.fnOf x qual params body scope .none kV doc pm an cdv ct) ⟨us, ks.zip ws⟩ = pure (ps.zip (g us ws))) :
    KBn K fd ps n ks (fun us ws => g us ws) (fun vs zs => g vs zs) := by
  obtain ⟨oc, od, dV, kV, doc, pm, an, cdv, ct, osl, rfl, lk, hcd, hD, hK⟩ := F.ex
  rcases hD with ⟨_, rfl⟩ | ⟨e, _⟩
  · exact ⟨fun s us ws X l1 l2 => .of_eq (h kV doc pm an cdv ct us ws l1 l2), fun r1 r2 => hrel r1 r2⟩
  · exact absurd rfl e
end Tb
end

section
set_option maxHeartbeats 4000000
namespace Tb
open PySem PySem.Spec PyProof.Rows L2
/-! ## in, not in -/
def flip (neg b : Bool) : Bool := if neg = true then !b else b
def opIn (neg : Bool) : F2
  | .str x, .str y, h => .ok (.bl (flip neg !(Builtin.Str.occurrences y x 0 y.length 1).isEmpty)) h
  | x, y, h => match toD h x, (seqOf h y).bind toPs with
    | some p, some ps => if SeqAt.shaped p = true ∧ SeqAt.shaped (.list ps) = true then .ok (.bl (flip neg (ps.any fun z => PyData.eqv z p))) h else .bad
    | _, _ => .bad
section
variable {X : Cx} {E : XK}
theorem op_inT (hu : X.A.units + 65 < cLine) : OpR X (compareOp .In) fun x y H Q => ∃ d ds, Dp X.K H x d ∧ Dp X.K H y (.tuple ds) ∧ SeqAt.shaped d = true ∧ SeqAt.shaped (.list ds) = true ∧ Q (.bl (ds.any fun z => PyData.eqv z d)) H := by
  intro pins s σ H x y v u Q I rx ry h
  obtain ⟨d, ds, hd, he, sd, se, q⟩ := h
  obtain ⟨as, r1⟩ := Dp.reads I d x v hd rx
  obtain ⟨bs, r2⟩ := Dp.reads I (.tuple ds) y u he ry
  exact SeqAt.in_tuple_reads r2 r1 (SeqAt.canLay_of_shaped se) (SeqAt.canLay_of_shaped sd) (room_in_shaped sd hu) ⟨.bl _, H, I, rfl, q⟩
theorem op_notInT (hu : X.A.units + 65 < cLine) : OpR X (compareOp .NotIn) fun x y H Q => ∃ d ds, Dp X.K H x d ∧ Dp X.K H y (.tuple ds) ∧ SeqAt.shaped d = true ∧ SeqAt.shaped (.list ds) = true ∧ Q (.bl (!ds.any fun z => PyData.eqv z d)) H := by
  intro pins s σ H x y v u Q I rx ry h
  obtain ⟨d, ds, hd, he, sd, se, q⟩ := h
  obtain ⟨as, r1⟩ := Dp.reads I d x v hd rx
  obtain ⟨bs, r2⟩ := Dp.reads I (.tuple ds) y u he ry
  exact SeqAt.notIn_tuple_reads r2 r1 (SeqAt.canLay_of_shaped se) (SeqAt.canLay_of_shaped sd) (room_in_shaped sd hu) ⟨.bl _, H, I, rfl, q⟩
theorem seqD_at {w : W3} (k : Ok X.K w) {d : D} {v : V} {ps : List PyData} (r : Rep X.K w d v) (e : (seqOf w.h d).bind toPs = some ps) : Dp X.K w.H v (.list ps) ∨ Dp X.K w.H v (.tuple ps) := by
  cases e1 : seqOf w.h d with
  | none => rw [e1] at e; cases e
  | some xs =>
    rw [e1] at e
    obtain ⟨a, vs, rfl, h2, h3⟩ := seq_at k r e1
    have h4 := toPs_ok h3 e
    exact h2.imp (fun z => .lst z h4) fun z => .tup z h4
theorem or_in (hu : X.A.units + 65 < cLine) : OpR X (compareOp .In) (rM X.K E (opIn false)) := by
  intro pins s σ H x y v u Q I rx ry h
  obtain ⟨w, d, e, eH, k, rd, re, q⟩ := h
  subst eH
  unfold opIn at q
  split at q
  · rw [rep_str] at rd re
    subst rd re
    exact op_in_str pins s σ _ _ _ v u Q I rx ry ⟨_, _, rfl, rfl, q.here k (rep_bl.mpr rfl)⟩
  · split at q
    · rename_i p ps e1 e2
      split at q
      · rename_i hz
        have q2 := q.here k (rep_bl.mpr rfl)
        rcases seqD_at k re e2 with h2 | h2
        · exact op_inD hu pins s σ _ x y v u Q I rx ry ⟨p, ps, toD_ok k rd e1, h2, hz.1, hz.2, q2⟩
        · exact op_inT hu pins s σ _ x y v u Q I rx ry ⟨p, ps, toD_ok k rd e1, h2, hz.1, hz.2, q2⟩
      · exact q.elim
    · exact q.elim
theorem or_notin (hu : X.A.units + 65 < cLine) : OpR X (compareOp .NotIn) (rM X.K E (opIn true)) := by
  intro pins s σ H x y v u Q I rx ry h
  obtain ⟨w, d, e, eH, k, rd, re, q⟩ := h
  subst eH
  unfold opIn at q
  split at q
  · rw [rep_str] at rd re
    subst rd re
    exact op_notin_str pins s σ _ _ _ v u Q I rx ry ⟨_, _, rfl, rfl, q.here k (rep_bl.mpr rfl)⟩
  · split at q
    · rename_i p ps e1 e2
      split at q
      · rename_i hz
        have q2 := q.here k (rep_bl.mpr rfl)
        rcases seqD_at k re e2 with h2 | h2
        · exact op_notInD hu pins s σ _ x y v u Q I rx ry ⟨p, ps, toD_ok k rd e1, h2, hz.1, hz.2, q2⟩
        · exact op_notInT hu pins s σ _ x y v u Q I rx ry ⟨p, ps, toD_ok k rd e1, h2, hz.1, hz.2, q2⟩
      · exact q.elim
    · exact q.elim
/-! ## a list, a tuple so many times -/
def opRep : F2
  | .int i, .int j, h => opMul (.int i) (.int j) h
  | .tup xs, .int k, h => if xs ≠ [] ∧ 2 ≤ k ∧ k ≤ 1000 ∧ xs.length ≤ 1000 then .ok (.tup (List.replicate k.toNat xs).flatten) h else .bad
  | d, .int k, h => match lstOf h d with
    | some xs => if -(2 ^ 63) ≤ k ∧ k < 2 ^ 63 ∧ xs.length * k.toNat ≤ sizeLine then .ok (.lst (List.replicate k.toNat xs).flatten) h else .bad
    | none => .bad
  | _, _, _ => .bad
theorem Reps.rep {K : PySem.W.Frag} {w : W3} {xs : List D} {vs : List V} (r : Reps K w xs vs) : ∀ n : Nat, Reps K w (List.replicate n xs).flatten (List.replicate n vs).flatten
  | 0 => Reps.nil
  | n + 1 => by
    simp only [List.replicate_succ, List.flatten_cons]
    exact r.append (Reps.rep r n)
theorem or_rep : OpR X (binaryOp .Mult) (rM X.K E opRep) := by
  intro pins s σ H x y v u Q I rx ry h
  obtain ⟨w, d, e, eH, k, rd, re, q⟩ := h
  subst eH
  unfold opRep at q
  split at q
  · exact or_mul pins s σ _ x y v u Q I rx ry ⟨w, _, _, rfl, k, rd, re, q⟩
  · split at q
    · rename_i hz
      obtain ⟨a, vs, rfl, h2, h3⟩ := tup_at rd
      rw [rep_int] at re
      subst re
      refine op_repT pins s σ _ _ _ v u Q I rx ry ⟨a, _, vs, rfl, rfl, h2, fun z => hz.1 ?_, hz.2.1, hz.2.2.1, by rw [← h3.length]; exact hz.2.2.2, q.newT k (h3.rep _)⟩
      subst z
      cases hx : (‹List D› : List D) with
      | nil => rfl
      | cons x xs =>
        have := h3.length
        simp_all
    · exact q.elim
  · split at q
    · rename_i xs e1
      split at q
      · rename_i hz
        obtain ⟨a, vs, rfl, h2, h3⟩ := lst_at k rd e1
        rw [rep_int] at re
        subst re
        exact op_rep pins s σ _ _ _ v u Q I rx ry ⟨a, _, vs, rfl, rfl, h2, hz.1, hz.2.1, by rw [← h3.length]; exact hz.2.2, q.newL k (h3.rep _)⟩
      · exact q.elim
    · exact q.elim
  · exact q.elim
end
/-! ## calls by keywords alone -/
section
variable {X : Cx} {E : XK} {k : Nat} {f : Addr} {fd : FuncData} {ps ks : List Str} {F : Fn} {x : Str} {p pos : Pos} {kws : List Keyword} {mk : MA}
  {g : List Value → List Value → List Value} {gV : List V → List V → List V} {gD : List D → List D → List D}
theorem me_callK0 (G : FnG X.prog X.w X.K X.mg X.base k f fd ps (spM X.K F ps.length)) (hgd : X.A.guards = some []) (hr : Room k X.A) (hg : Gl X x) (hm : X.mg x = some (.ref f)) (hk : PySem.W.keepIn X.K (.ref f) = true) (hb : KBn X.K fd ps 0 ks g gV)
    (hgV : ∀ (w : W3) (ds es : List D) (vs zs : List V), Reps X.K w ds vs → Reps X.K w es zs → Reps X.K w (gD ds es) (gV vs zs)) (hx : Passes (L2.CX X.prog X.w) X E) (hkw : PK X kws (tMA X.K E mk))
    (hall : (backToKw pos (keywordEach kws X.env)).all (·.1.isSome) = true) (hks : (backToKw pos (keywordEach kws X.env)).filterMap (·.1) = ks) (hdb : (x == ("__debug__" : Str)) = false)
    (hpl : ((backTo pos (starEach [] X.env)).any (·.1) || (backToKw pos (keywordEach kws X.env)).any (·.1.isNone)) = false) :
    PE X (.Call (.Name x p) [] kws pos) (tM X.K E (mCallK 0 ks.length ps.length F gD mNil mk)) := by
  refine ⟨fun pins s σ H Q I hq => ?_⟩
  obtain ⟨w, sl, eH, k0, r0, q⟩ := hq
  subst eH
  have q0 := (PostW.bind (Rel := RepL X.K) (r := mNil sl w.h) q).here k0 (v := []) Reps.nil
  have hq1 : tMA X.K E mk σ w.H fun zs H2 => zs.length = ks.length ∧ spM X.K F ps.length (gV [] zs) H2 Q E := by
    refine tMA_at k0 r0 ((PostW.bind (Rel := RepL X.K) q0).imp fun es w2 zs x2 k2 p2 q2 => ?_)
    split at q2
    · rename_i hz
      have r2 := hgV w2 [] es [] zs Reps.nil p2
      exact ⟨by rw [← p2.length]; exact hz.2.1, by rw [← r2.length]; exact hz.2.2, w2, _, rfl, k2, r2, q2⟩
    · exact q2.elim
  refine wpAny_Call_Name_kw (ld_glob I hg hm ?_ hdb)
  refine PySem.W.callWith_KW0 (h₀ := X.base) I.ok.mod.kin hk hall (thn (hkw.run pos pins s σ w.H _ I hq1) fun ws s2 hz => ?_) hpl
  obtain ⟨zs, H2, I2, rz, l2, q3⟩ := hz
  rw [hks]
  exact ⟨I2.kIn, run_fngK (us := []) (vs := []) G hgd hr hb hx I2 .nil rz rfl l2 q3⟩
end
/-! ## pop -/
def lPop : FM
  | .ref n, [.int i], h => match h.get n with
    | some (.lst xs) => if -(2 ^ 63) ≤ i ∧ i < 2 ^ 63 then match seqIndex? i xs.length with
        | some k => match xs[k]? with
          | some y => .ok y (h.set n (.lst (xs.eraseIdx k)))
          | none => .bad
        | none => .bad
      else .bad
    | none => .bad
  | _, _, _ => .bad
theorem Reps.erase {K : PySem.W.Frag} {w : W3} : ∀ {ds : List D} {vs : List V} (i : Nat), Reps K w ds vs → Reps K w (ds.eraseIdx i) (vs.eraseIdx i)
  | [], _, _, h => by rw [h.unnil]; exact Reps.nil
  | d :: ds, _, 0, h => by
    obtain ⟨u, us, rfl, h2, h3⟩ := h.uncons
    exact h3
  | d :: ds, _, i + 1, h => by
    obtain ⟨u, us, rfl, h2, h3⟩ := h.uncons
    exact Reps.cons h2 (Reps.erase i h3)
section
variable {X : Cx} {E : XK}
theorem mr_pop : MtR X "list.pop" (rMeth X.K E lPop) := by
  intro pins s σ H x vs v us Q I rx rv h
  obtain ⟨w, d, ds, eH, k, rd, rs, q⟩ := h
  subst eH
  unfold lPop at q
  split at q
  · split at q
    · rename_i xs e1
      split at q
      · rename_i hz
        split at q
        · rename_i j e2
          split at q
          · rename_i y e3
            obtain ⟨u, rfl, r1⟩ := rs.one
            rw [rep_int] at r1
            subst r1
            have r0 := rd
            simp only [Rep] at r0
            obtain ⟨vs, h1, h2⟩ := (k.dom _ _ e1).2
            obtain ⟨z, h3, h4⟩ := h2.get e3
            refine mt_popAt pins s σ _ x _ v us Q I rx rv ⟨_, vs, _, j, z, r0.2, rfl, h1, hz.1, hz.2, by rw [← h2.length]; exact e2, h3, ?_⟩
            exact q (w.put _ (.lst (vs.eraseIdx j)) (.lst (xs.eraseIdx j))) _ rfl (Ext.put k e1) (put_lst k e1 (h2.erase j)) (h4.ext (Ext.put k e1))
          · exact q.elim
        · exact q.elim
      · exact q.elim
    · exact q.elim
  · exact q.elim
end
end Tb
end

section
set_option maxHeartbeats 4000000
namespace Tb
open PySem PySem.Spec PyProof.Rows HT L2
/-! ## xs[::-1] -/
section
variable {prog : Program} {w : World} {A : Around} {E : Value → Shared → Prop} {s : Shared}
theorem places_back (n : Nat) : Builtin.Slice.slicePlaces ((n : Int) - 1) (-1) (-1) = n := by
  unfold Builtin.Slice.slicePlaces
  rw [if_neg (by decide)]
  by_cases h : (n : Int) - 1 > -1
  · rw [if_pos h, show (-(-1) : Int) = 1 by decide, Int.ediv_one]
    omega
  · rw [if_neg h]
    omega
theorem applied_back {sl : Addr} {vl vu vs : Value} {n : Nat} {Q : Int × Int × Nat → Shared → Prop} (hs : s.heap.IsSliceOf sl vl vu vs) (pl : IsPart vl none) (pu : IsPart vu none) (ps : IsPart vs (some (-1))) (h : Q ((n : Int) - 1, -1, n) s) :
    wpAny (model prog w) A (Builtin.Slice.sliceApplied (.ref sl) (pure (n : Int))) Q E s := by
  obtain ⟨os, e1, _, e3⟩ := id hs
  unfold Builtin.Slice.sliceApplied Builtin.Slice.sliceFields
  refine wpAny_bind (wpAny_bind (wpAny_field e1 e3 (x := vl) rfl (wpAny_bind (wpAny_field e1 e3 (x := vu) rfl (wpAny_bind (wpAny_field e1 e3 (x := vs) rfl (wpAny_pure ?_)))))))
  refine wpAny_bind (slicePart_ ps ?_); show wpAny _ _ (if ((-1 : Int) == 0) = true then _ else _) _ _ s
  rw [if_neg (by decide)]
  refine wpAny_bind (slicePart_ pl (wpAny_bind (slicePart_ pu (wpAny_bind (wpAny_pure ?_)))))
  show wpAny _ _ (pure ((n : Int) - 1, (-1 : Int), Builtin.Slice.slicePlaces ((n : Int) - 1) (-1) (-1))) _ _ s
  rw [places_back]
  exact wpAny_pure h
theorem pick_back (xs : Array Value) : ((List.range xs.size).filterMap fun (k : Nat) => xs[((xs.size : Int) - 1 + (k : Int) * -1).toNat]?).toArray = xs.toList.reverse.toArray := by
  congr 1
  have e : ∀ k, k < xs.size → xs[((xs.size : Int) - 1 + (k : Int) * -1).toNat]? = xs.toList.reverse[k]? := fun k hk => by
    rw [show ((xs.size : Int) - 1 + (k : Int) * -1).toNat = xs.size - 1 - k by omega, List.getElem?_reverse (by simpa using hk)]
    simp
  have gen : ∀ (l : List Value) (f : Nat → Option Value), (∀ k, k < l.length → f k = l[k]?) → (List.range l.length).filterMap f = l := by
    intro l
    induction l with
    | nil => intro f _; rfl
    | cons x l ih =>
      intro f hf
      rw [List.length_cons, List.range_succ_eq_map, List.filterMap_cons, hf 0 (by simp), List.filterMap_map]
      simp only [List.getElem?_cons_zero]
      congr 1
      exact ih (f ∘ Nat.succ) fun k hk => by
        have := hf (k + 1) (by simp; omega)
        simpa using this
  have := gen xs.toList.reverse (fun k => xs[((xs.size : Int) - 1 + (k : Int) * -1).toNat]?) fun k hk => e k (by simpa using hk)
  simpa using this
theorem item_back {t sl : Addr} {items : Array Value} {vl vu vs : Value} {Q : Value → Shared → Prop} (ht : IsTup s.heap t items) (hs : s.heap.IsSliceOf sl vl vu vs) (pl : IsPart vl none) (pu : IsPart vu none) (ps : IsPart vs (some (-1)))
    (h : Q (.ref s.heap.objs.size) { s with heap := s.heap.push { cls := .type "tuple", data := .seq items.toList.reverse.toArray } }) (hsz : items.size ≤ sizeLine) : wpAny (model prog w) A (getItem (.ref t) (.ref sl)) Q E s := by
  obtain ⟨os, e1, e2, e3⟩ := id hs
  have ty : s.TypeIs (.ref sl) "slice" := ⟨os, e1, e2⟩
  unfold getItem
  try with_reducible refine wpAny_holding ?_
  first | refine wpAny_bind (wpAny_pure ?_) | skip
  refine wpAny_bind (wpAny_sequenceKey ht.typeIs (by decide) (wpAny_bind (wpAny_callSpecial?_slot (name := Str.ofString "__getitem__") ht.typeIs PyProof.Rows.slot_tuple_getitem (wpAny_call_entry PyProof.Rows.slot_tuple_getitem ht.typeIs entry_tuple_getitem ?_ (args_tuple_getitem _ _)))))
  show wpAny _ _ (Builtin.Tuple.tupleItemsOf (.ref t) >>= _) _ _ s
  refine wpAny_bind (tupleItemsOf_ ht (wpAny_bind (wpAny_typeOf ty ?_))); rw [if_pos (by decide)]
  refine wpAny_bind (applied_back hs pl pu ps ?_)
  show wpAny _ _ (if (((items.size : Int) - 1) == 0 && (-1 : Int) == 1 && items.size == items.size) = true then _ else _) _ _ s
  have no : ¬ ((((items.size : Int) - 1) == 0 && (-1 : Int) == 1 && items.size == items.size) = true) := by
    simp
  rw [if_neg no]
  rw [pick_back]
  have fits : sizeOk (.seq items.toList.reverse.toArray) := by
    show items.toList.reverse.toArray.size ≤ sizeLine
    simpa using hsz
  first
    | exact wpAny_bind (m := Builtin.Tuple.tupleExact _) (wpAny_newObj_type (wpAny_pure ⟨_, rfl, wpAny_pure h⟩) fits)
    | exact wpAny_bind (m := Builtin.Tuple.tupleExact _) (wpAny_newObj_type (wpAny_bind (wpAny_pure (wpAny_pure ⟨_, rfl, wpAny_pure h⟩))) fits)
    | exact wpAny_bind (wpAny_bind (m := Builtin.Tuple.tupleExact _) (wpAny_newObj_type (wpAny_pure (wpAny_pure ⟨_, rfl, wpAny_pure h⟩)) fits))
    | exact wpAny_bind (wpAny_bind (m := Builtin.Tuple.tupleExact _) (wpAny_newObj_type (wpAny_pure ⟨_, rfl, wpAny_pure h⟩) fits))
end
def opRev : D → MH → R D
  | .tup xs, h => .ok (.tup xs.reverse) h
  | d, h => match lstOf h d with
    | some xs => .ok (.lst xs.reverse) h
    | none => .bad
def mRev (m : ME) : ME := fun s h => (m s h).bind opRev
theorem Reps.rev {K : PySem.W.Frag} {w : W3} : ∀ {ds : List D} {vs : List V}, Reps K w ds vs → Reps K w ds.reverse vs.reverse
  | [], _, h => by rw [h.unnil]; exact Reps.nil
  | d :: ds, _, h => by
    obtain ⟨u, us, rfl, h2, h3⟩ := h.uncons
    rw [List.reverse_cons, List.reverse_cons]
    exact (Reps.rev h3).append (Reps.cons h2 Reps.nil)
section
variable {X : Cx} {E : XK} {e : Expr} {m : ME} {k : Nat} {p1 p2 p3 pos : Pos}
/-- one value turned round, of either kind -/
def tRevA (K : PySem.W.Frag) (te : TE) : TE := fun σ H Q => te σ H fun x H1 => (∃ a xs, x = .ref a ∧ SqL K H1 a xs ∧ ∀ p, H1 p = none → Q (.ref p) (upd H1 p (.lst xs.reverse))) ∨ ∃ a xs, x = .ref a ∧ SqT K H1 a xs ∧ ∀ p, H1 p = none → Q (.ref p) (upd H1 p (.tup xs.reverse))
theorem pe_revA {te : TE} (he : PE X e te) : PE X (.Subscript e (.Slice none none (some (.UnaryOp .USub (.Constant (.int 1) k p1) p2)) p3) pos) (tRevA X.K te) := by
  refine ⟨fun pins s σ H Q I h => ?_⟩
  refine Subscript_ (thn (he.run pins s σ H _ I h) fun v s1 hv => ?_)
  obtain ⟨x, H1, I1, r1, q1⟩ := hv
  have part : PO X (some (.UnaryOp .USub (.Constant (.int 1) k p1) p2)) (tPart (tUn (rU fun i => .int (-i)) (tC (.int 1)))) := po_some (pe_un un_neg pe_int)
  refine wpAny_Slice (thn (po_none.run pins s1 σ H1 (fun o H2 => o = none ∧ H2 = H1) I1 ⟨rfl, rfl⟩) fun vl s2 z2 => ?_)
  obtain ⟨l, H2, I2, pl, rfl, rfl⟩ := z2
  refine thn (po_none.run pins s2 σ H2 (fun o H3 => o = none ∧ H3 = H2) I2 ⟨rfl, rfl⟩) fun vu s3 z3 => ?_
  obtain ⟨u, H3, I3, pu, rfl, rfl⟩ := z3
  refine thn (part.run pins s3 σ H3 (fun o H4 => o = some (-1) ∧ H4 = H3) I3 ⟨1, rfl, -1, rfl, rfl, rfl⟩) fun vs s4 z4 => ?_
  obtain ⟨o, H4, I4, ps, rfl, rfl⟩ := z4
  have I5 : L2.Inv X pins σ H4 { s4 with heap := s4.heap.push { cls := .type "slice", data := .fields #[vl, vu, vs] } } := I4.kept (t' := s4.toks) fun b ob q => Heap.get?_push_of_some _ q
  rcases q1 with ⟨a, xs, rfl, hx, q⟩ | ⟨a, xs, rfl, hx, q⟩
  · cases r1
    obtain ⟨its, r, ht, hz⟩ := I5.list hx
    have len := r.length
    show wpAny (model X.prog X.w) X.A (subscriptTail e (.Slice none none (some (.UnaryOp .USub (.Constant (.int 1) k p1) p2)) p3) (.ref a) (.ref s4.heap.objs.size)) (EP X pins σ Q) X.xe _
    refine tail_any (ops := [.ref a, .ref s4.heap.objs.size]) ht.isList.typeIs (PySem.slot_list_getitem.lookup) ?_ (by with_unfolding_all rfl)
    refine wpAny_getItem_list_slice ht.isList (Heap.IsSliceOf.new _ vl vu vs) pl pu ps (by decide) ?_ (by rw [List.size_toArray]; omega)
    rw [PySem.W.krv_pick]
    exact ⟨.ref _, _, I5.laid (t' := s4.toks) (o := .lst xs.reverse) (fun b ob q => Heap.get?_push_of_some _ q) (Nat.le_refl _) ⟨by rw [List.length_reverse]; exact hz, _, 0, r.reverse, Heap.get?_push_size _ rfl⟩, rfl, q _ (I5.hok.fresh (Nat.le_refl _))⟩
  · cases r1
    obtain ⟨its, r, ht, hz⟩ := I5.tuple hx
    have len := r.length
    show wpAny (model X.prog X.w) X.A (subscriptTail e (.Slice none none (some (.UnaryOp .USub (.Constant (.int 1) k p1) p2)) p3) (.ref a) (.ref s4.heap.objs.size)) (EP X pins σ Q) X.xe _
    refine tail_any (ops := [.ref a, .ref s4.heap.objs.size]) ht.typeIs (PyProof.Rows.slot_tuple_getitem.lookup) ?_ (by with_unfolding_all rfl)
    refine item_back ht (Heap.IsSliceOf.new _ vl vu vs) pl pu ps ?_ (by rw [List.size_toArray]; omega)
    refine ⟨.ref _, _, I5.laid (t' := s4.toks) (o := .tup xs.reverse) (fun b ob q => Heap.get?_push_of_some _ q) (Nat.le_refl _) ⟨by rw [List.length_reverse]; exact hz, its.reverse, r.reverse, ?_⟩, rfl, q _ (I5.hok.fresh (Nat.le_refl _))⟩
    exact ⟨_, Heap.get?_push_size _ rfl, rfl, 0, by simp⟩
theorem me_rev (he : PE X e (tM X.K E m)) : PE X (.Subscript e (.Slice none none (some (.UnaryOp .USub (.Constant (.int 1) k p1) p2)) p3) pos) (tM X.K E (mRev m)) := by
  refine pe_imp (pe_revA he) fun σ H Q hq => ?_
  obtain ⟨w, s, e, k, r, q⟩ := hq
  subst e
  refine tM_at k r ((PostW.bind (Rel := RepD X.K) q).imp fun d w1 v x1 k1 p1 q1 => ?_)
  unfold opRev at q1
  split at q1
  · obtain ⟨a, vs, rfl, h2, h3⟩ := tup_at p1
    exact .inr ⟨a, vs, rfl, h2, q1.newT k1 h3.rev⟩
  · split at q1
    · rename_i xs e1
      obtain ⟨a, vs, rfl, h2, h3⟩ := lst_at k1 p1 e1
      exact .inl ⟨a, vs, rfl, SqL.of h2, q1.newL k1 h3.rev⟩
    · exact q1.elim
end
end Tb
end

section
set_option maxHeartbeats 4000000
namespace Tb
open PySem PySem.Spec L2
/-! ## from the text to its mirror -/
structure Sh where
  name : Str
  n : Nat
  ks : List Str
  np : Nat
  F : Fn
  dv : List D
  gD : List D → List D → List D
structure Cfg where
  N : List Str
  sc : Scope
  G : List Sh
  C : List (Str × D)
  B : List Str
  held : List Str
  retH : Bool
  blk : Bool
  cel : List Str
def ShOk (X : Cx) (k : Nat) (sh : Sh) : Prop := ∃ (f : Addr) (fd : FuncData) (ps : List Str), ps.length = sh.np ∧ X.mg sh.name = some (.ref f) ∧ PySem.W.keepIn X.K (.ref f) = true ∧ FnG X.prog X.w X.K X.mg X.base k f fd ps (spM X.K sh.F ps.length) ∧
  (sh.ks = [] → ∃ dvs ds, Vals dvs ds ∧ Binds X.K fd ps ds ∧ ∀ w, Reps X.K w sh.dv dvs) ∧
  (sh.ks ≠ [] → ∃ g gV, KBn X.K fd ps sh.n sh.ks g gV ∧ ∀ (w : W3) (ds es : List D) (vs zs : List V), Reps X.K w ds vs → Reps X.K w es zs → Reps X.K w (sh.gD ds es) (gV vs zs))
structure CxOk (c : Cfg) (X : Cx) (E : XK) : Prop where
  hN : X.N = c.N
  nd : c.N.Nodup
  sc : X.env.scope = c.sc
  calm : X.calm = true
  gd : X.A.guards = some []
  kk : ∃ k, Room k X.A ∧ ∀ sh ∈ c.G, ShOk X k sh
  con : ∀ p ∈ c.C, ∃ u v, X.mg p.1 = some u ∧ RelV v u ∧ ∀ w, Rep X.K w p.2 v
  blt : ∀ x ∈ c.B, X.mg x = none
  fn : c.blk = false → (∀ y, X.fn y = true) ∧ X.env.blockKind = .function ∧ PassesOwn (model X.prog X.w) X.A X.env X.xe
  pass : Passes (L2.CX X.prog X.w) X E
  cl : ∀ y ∈ c.cel, X.fn y = true
def slotOf : List Str → Str → Option Nat
  | [], _ => none
  | y :: ys, x => if y = x then some 0 else (slotOf ys x).map (· + 1)
theorem slotOf_get : ∀ {N : List Str} {x : Str} {i : Nat}, slotOf N x = some i → N[i]? = some x
  | [], _, _, h => by cases h
  | y :: ys, x, i, h => by
    unfold slotOf at h
    split at h
    · rename_i e
      cases h
      rw [e]; rfl
    · rw [Option.map_eq_some_iff] at h
      obtain ⟨j, h1, rfl⟩ := h
      simpa using slotOf_get h1
def kindB (c : Cfg) (x : Str) : Option NameKind := c.sc.names.lookup x
def visB (c : Cfg) (x : Str) : Bool := kindB c x == some .local || kindB c x == some .cell || kindB c x == some .free
def glB (c : Cfg) (x : Str) : Bool := kindB c x == some .globalImplicit
def notStar : Expr → Bool
  | .Starred .. => false
  | _ => true
def notSlice : Expr → Bool
  | .Slice .. => false
  | _ => true
def notSet : Expr → Bool
  | .Set .. => false
  | _ => true
def notComp : Expr → Bool
  | .ListComp .. => false
  | .SetComp .. => false
  | .DictComp .. => false
  | _ => true
def notTuple : Expr → Bool
  | .Tuple .. => false
  | .List .. => false
  | _ => true
def plainBase : Expr → Bool
  | .Call _ [] _ _ => false
  | _ => true
/-- whose truth is the truth of its value -/
def plainTest : Expr → Bool
  | .UnaryOp .Not _ _ => false
  | .BoolOp .. => false
  | .IfExp .. => false
  | .Compare .. => false
  | _ => true
theorem star_cons {e : Expr} {es : List Expr} {env : Env} (h : notStar e = true) : starEach (e :: es) env = (false, eval e env) :: starEach es env := by
  cases e <;> first | rfl | cases h
theorem star_any {pos : Pos} {env : Env} : ∀ {es : List Expr}, es.all notStar = true → (backTo pos (starEach es env)).any (·.1) = false
  | [], _ => rfl
  | e :: es, h => by
    rw [List.all_cons, Bool.and_eq_true] at h
    rw [star_cons h.1]
    show (false || (backTo pos (starEach es env)).any (·.1)) = false
    rw [star_any h.2]; rfl
theorem star_all {pos : Pos} {env : Env} : ∀ {es : List Expr}, es.all notStar = true → ((backTo pos (starEach es env)).all fun x => !x.1) = true
  | [], _ => rfl
  | e :: es, h => by
    rw [List.all_cons, Bool.and_eq_true] at h
    rw [star_cons h.1]
    show (true && (backTo pos (starEach es env)).all fun x => !x.1) = true
    rw [star_all h.2]; rfl
theorem plainIx_of {b : Expr} (h : notSlice b = true) : PlainIx b := by
  intro o i
  cases b <;> first | rfl | cases h
theorem marks_of {op : CmpOp} {b : Expr} (h : notSet b = true) : behindInMarks op b = false := by
  cases b <;> first | rfl | cases h
theorem folded_of {e : Expr} {env : Env} (h : notSet e = true) : ∀ x, foldedSetIterable e env x = pure x := by
  intro x
  cases e <;> first | rfl | cases h
theorem swaps_none {e : Expr} {l : Nat} {env : Env} (h : notComp e = true) : swapsWith e none l env = pure false := by
  cases e <;> first | rfl | cases h
theorem swaps_some {e t : Expr} {l : Nat} {env : Env} (h : notComp e = true) : swapsWith e (some t) l env = pure false := by
  cases e <;> first | rfl | cases h
theorem swaps_tup {e : Expr} {l : Nat} {env : Env} {es : List Expr} {k : Nat} {p : Pos} : swapsWith e (some (.Tuple es k p)) l env = pure false := by
  cases e <;> rfl
theorem swaps_sub {e a b : Expr} {l : Nat} {env : Env} {p : Pos} : swapsWith e (some (.Subscript a b p)) l env = pure false := by
  cases e <;> rfl
theorem base_of {o : Expr} {name : Str} {env : Env} (h : plainBase o = true) : attributeBase o name env (eval o env) = eval o env := by
  cases o with
  | Call f args kws pos =>
    cases args with
    | nil => cases h
    | cons a as => cases f <;> rfl
  | _ => rfl
theorem test_of {a : Expr} {env : Env} (h : plainTest a = true) : ∀ whole, isTrue a env whole = (do let v ← whole; standAt a.pos; holding [v] (truthy v)) := by
  intro whole
  cases a with
  | UnaryOp op x p => cases op <;> first | rfl | cases h
  | BoolOp => cases h
  | IfExp => cases h
  | Compare => cases h
  | _ => rfl
section
variable {c : Cfg} {X : Cx} {E : XK}
theorem CxOk.vis (k : CxOk c X E) {x : Str} (h : visB c x = true) : Vis X.env.scope x := by
  unfold visB kindB at h
  simp only [Bool.or_eq_true, beq_iff_eq] at h
  unfold Vis
  rw [k.sc]
  rcases h with (h | h) | h
  · exact .inl h
  · exact .inr (.inl h)
  · exact .inr (.inr h)
theorem CxOk.gl (k : CxOk c X E) {x : Str} (h : glB c x = true) : Gl X x := by
  unfold glB kindB at h
  rw [beq_iff_eq] at h
  show X.env.scope.names.lookup x = _
  rw [k.sc]; exact h
theorem CxOk.slot (k : CxOk c X E) {x : Str} {i : Nat} (h : slotOf c.N x = some i) : X.N[i]? = some x := by
  rw [k.hN]; exact slotOf_get h
theorem CxOk.nd' (k : CxOk c X E) : X.N.Nodup := by rw [k.hN]; exact k.nd
theorem CxOk.units (k : CxOk c X E) : X.A.units + 66 < cLine := by
  obtain ⟨j, r, _⟩ := k.kk
  have := r.un
  omega
end
/-! ### names, constants, operators -/
def plainName (x : Str) : Bool := !(x == ("__debug__" : Str)) && !(x == ("__classdict__" : Str)) && !(x == ("__name__" : Str))
theorem pn1 {x : Str} (h : plainName x = true) : (x == ("__debug__" : Str)) = false := by
  unfold plainName at h
  simp only [Bool.and_eq_true, Bool.not_eq_true'] at h
  exact h.1.1
theorem pn2 {x : Str} (h : plainName x = true) : (x == ("__classdict__" : Str)) = false := by
  unfold plainName at h
  simp only [Bool.and_eq_true, Bool.not_eq_true'] at h
  exact h.1.2
theorem pn3 {x : Str} (h : plainName x = true) : x ≠ "__name__" := by
  unfold plainName at h
  simp only [Bool.and_eq_true, Bool.not_eq_true'] at h
  exact beq_eq_false_iff_ne.mp h.2
/-- the built-in classes that stand as values -/
def tyTab : List (Str × String) := [("int", "int"), ("str", "str"), ("tuple", "tuple"), ("list", "list"), ("bool", "bool"), ("dict", "dict")]
theorem tyTab_ok : ∀ p ∈ tyTab, bootBuiltins p.1 = some (.type p.2) := by
  intro p hp
  simp only [tyTab, List.mem_cons, List.not_mem_nil, or_false] at hp
  rcases hp with rfl | rfl | rfl | rfl | rfl | rfl <;> decide +kernel
def cName (c : Cfg) (x : Str) : Option ME :=
  if plainName x = true then
    if visB c x = true then (slotOf c.N x).map mVar
    else if glB c x = true then
      match c.C.find? (fun p => decide (p.1 = x)) with
      | some p => some (mC p.2)
      | none => if x ∈ c.B then (tyTab.find? fun p => decide (p.1 = x)).map fun p => mC (.raw (.ty p.2)) else none
    else none
  else none
def cConst : Const → Option ME
  | .int i => some (mC (.int i))
  | .bool b => some (mC (.bl b))
  | .none => some (mC .non)
  | .str s => some (mC (.str s))
  | _ => none
def binTab (hp : Bool) : Operator → Option F2
  | .Add => some (if hp = true then opAddH else opAdd)
  | .Sub => some opSub
  | .Mult => some opRep
  | .Mod => some opMod
  | .FloorDiv => some opDiv
  | .Pow => some opPow
  | _ => none
def cmpTab : CmpOp → Option F2
  | .Eq => some opEq
  | .NotEq => some opNe
  | .Lt => some opLt
  | .LtE => some opLe
  | .Gt => some opGt
  | .GtE => some opGe
  | .Is => some opIs
  | .IsNot => some opIsNot
  | .In => some (opIn false)
  | .NotIn => some (opIn true)
def augTab : Operator → Option F2
  | .Add => some iopAdd
  | .Sub => some iopSub
  | _ => none
section
variable {c : Cfg} {X : Cx} {E : XK}
theorem cName_ok (k : CxOk c X E) {x : Str} {pos : Pos} {m : ME} (h : cName c x = some m) : PE X (.Name x pos) (tM X.K E m) := by
  unfold cName at h
  split at h
  · rename_i hp
    split at h
    · rename_i hv
      rw [Option.map_eq_some_iff] at h
      obtain ⟨i, h1, rfl⟩ := h
      exact me_var (pe_var (k.slot h1) (k.vis hv) (pn1 hp) (pn2 hp))
    · split at h
      · rename_i hg
        split at h
        · rename_i p hf
          cases h
          have hm := List.mem_of_find?_eq_some hf
          have he : p.1 = x := by simpa using List.find?_some hf
          obtain ⟨u, v, h1, h2, h3⟩ := k.con p hm
          rw [he] at h1
          exact me_const (pe_glob (k.gl hg) h1 h2 (pn1 hp)) h3
        · split at h
          · rename_i hb
            rw [Option.map_eq_some_iff] at h
            obtain ⟨p, hf, rfl⟩ := h
            have hm := List.mem_of_find?_eq_some hf
            have he : p.1 = x := by simpa using List.find?_some hf
            have hv := tyTab_ok p hm
            rw [he] at hv
            exact me_const (v := .ty p.2) (pe_bltn (k.gl hg) (k.blt x hb) hv rfl (pn3 hp) (pn1 hp)) fun w => by simp only [Rep]
          · cases h
      · cases h
  · cases h
theorem cConst_ok {v : Const} {j : Nat} {pos : Pos} {m : ME} (h : cConst v = some m) : PE X (.Constant v j pos) (tM X.K E m) := by
  unfold cConst at h
  split at h <;> cases h
  · exact me_const pe_int fun w => rep_int.mpr rfl
  · exact me_const pe_bl fun w => rep_bl.mpr rfl
  · exact me_const pe_non fun w => rep_non.mpr rfl
  · exact me_const pe_str fun w => rep_str.mpr rfl
theorem binTab_ok {hp : Bool} {op : Operator} {f : F2} (h : binTab hp op = some f) : OpR X (binaryOp op) (rM X.K E f) := by
  unfold binTab at h
  split at h <;> cases h
  · split
    · exact or_addH
    · exact or_add
  · exact or_sub
  · exact or_rep
  · exact or_mod
  · exact or_div
  · exact or_pow
theorem cmpTab_ok (k : CxOk c X E) {op : CmpOp} {f : F2} (h : cmpTab op = some f) : OpR X (compareOp op) (rM X.K E f) := by
  have hu := k.units
  unfold cmpTab at h
  split at h <;> cases h
  · exact or_eq (by omega)
  · exact or_ne (by omega)
  · exact or_lt (by omega)
  · exact or_le
  · exact or_gt
  · exact or_ge
  · exact or_is
  · exact or_isnot
  · exact or_in (by omega)
  · exact or_notin (by omega)
theorem augTab_ok {op : Operator} {f : F2} (h : augTab op = some f) : OpR X (inplaceOp op) (rM X.K E f) := by
  unfold augTab at h
  split at h <;> cases h
  · exact oi_add
  · exact oi_sub
end
/-! ### targets -/
def cGT (c : Cfg) (x : Str) : Option (MG × List Nat) :=
  if plainName x = true ∧ (kindB c x = some .local ∨ ((c.blk = false ∨ x ∈ c.cel) ∧ kindB c x = some .cell)) then (slotOf c.N x).map fun i => (mgName i, [i]) else none
mutual
def cG (c : Cfg) : Nat → Expr → Option (MG × List Nat)
  | 0, _ => none
  | _ + 1, .Name x _ => cGT c x
  | n + 1, .Tuple es _ _ => (cGs c n es).map fun p => (mgTup es.length p.1, p.2)
  | _ + 1, _ => none
def cGs (c : Cfg) : Nat → List Expr → Option (MGs × List Nat)
  | 0, _ => none
  | _ + 1, [] => some (mgNil, [])
  | n + 1, e :: es => if notStar e = true then match cG c n e, cGs c n es with
      | some p, some q => some (mgCons p.1 q.1, p.2 ++ q.2)
      | _, _ => none
    else none
end
/-- the kit's reading of the same target -/
def gGT (c : Cfg) (x : Str) : TG := gName ((slotOf c.N x).getD 0)
mutual
def gG (K : PySem.W.Frag) (c : Cfg) : Nat → Expr → TG
  | _ + 1, .Name x _ => gGT c x
  | n + 1, .Tuple es _ _ => gSeq K es.length (gGs K c n es)
  | _, _ => gName 0
def gGs (K : PySem.W.Frag) (c : Cfg) : Nat → List Expr → TGs
  | n + 1, e :: es => gCons (gG K c n e) (gGs K c n es)
  | _, _ => gNil
end
theorem assign_len {env : Env} : ∀ es : List Expr, (assignEach es env).length = es.length
  | [] => rfl
  | e :: es => by
    have := assign_len (env := env) es
    cases e <;> simp [assignEach, this]
theorem assign_find {env : Env} : ∀ {es : List Expr}, es.all notStar = true → (assignEach es env).findIdx? (·.1) = none
  | [], _ => rfl
  | e :: es, h => by
    rw [List.all_cons, Bool.and_eq_true] at h
    have ih := assign_find (env := env) h.2
    cases e <;> first | (cases h.1; done) | (simp only [assignEach, List.findIdx?_cons, ih]; rfl)
theorem assign_cons {env : Env} {e : Expr} {es : List Expr} (h : notStar e = true) : (assignEach (e :: es) env).map (·.2) = assign e env :: (assignEach es env).map (·.2) := by
  cases e <;> first | rfl | cases h
section
variable {c : Cfg} {X : Cx} {E : XK}
theorem CxOk.loc (k : CxOk c X E) {x : Str} (h : kindB c x = some .local ∨ ((c.blk = false ∨ x ∈ c.cel) ∧ kindB c x = some .cell)) : L2.Loc X.env.scope x ∧ (X.fn x = true ∨ X.env.scope.names.lookup x = some .local) := by
  unfold L2.Loc
  rw [k.sc]
  rcases h with h | ⟨h1, h⟩
  · exact ⟨.inl h, .inr h⟩
  · exact ⟨.inr h, .inl (h1.elim (fun z => (k.fn z).1 x) (k.cl x))⟩
theorem cGT_ok (k : CxOk c X E) {x : Str} {pos : Pos} {m : MG} {vs : List Nat} (h : cGT c x = some (m, vs)) : PG X (.Name x pos) (gGT c x) ∧ ∀ us, (∀ i ∈ vs, i ∈ us) → GOk X.K us (gGT c x) m := by
  unfold cGT at h
  split at h
  · rename_i hz
    rw [Option.map_eq_some_iff] at h
    obtain ⟨i, h1, h2⟩ := h
    cases h2
    obtain ⟨l1, l2⟩ := k.loc hz.2
    have e : gGT c x = gName i := by unfold gGT; rw [h1]; rfl
    rw [e]
    exact ⟨pg_name k.nd' (k.slot h1) l1 l2, fun us hu => go_name (hu i (by simp))⟩
  · cases h
mutual
theorem cG_ok (k : CxOk c X E) : ∀ (n : Nat) {e : Expr} {m : MG} {vs : List Nat}, cG c n e = some (m, vs) → PG X e (gG X.K c n e) ∧ ∀ us, (∀ i ∈ vs, i ∈ us) → GOk X.K us (gG X.K c n e) m
  | 0, e, m, vs, h => by simp [cG] at h
  | n + 1, e, m, vs, h => by
    cases e with
    | Name x p =>
      simp only [cG] at h
      simp only [gG]
      exact cGT_ok k h
    | Tuple es j p =>
      simp only [cG, Option.map_eq_some_iff] at h
      obtain ⟨q, h1, h2⟩ := h
      cases h2
      obtain ⟨h3, h4, h5⟩ := cGs_ok k n h1
      simp only [gG]
      exact ⟨pg_seq k.calm h3 (assign_len es) (assign_find h5), fun us hu => go_tup (h4 us hu)⟩
    | _ => simp [cG] at h
theorem cGs_ok (k : CxOk c X E) : ∀ (n : Nat) {es : List Expr} {p : MGs × List Nat}, cGs c n es = some p → PGs X es (gGs X.K c n es) ∧ (∀ us, (∀ i ∈ p.2, i ∈ us) → GsOk X.K us (gGs X.K c n es) p.1) ∧ es.all notStar = true
  | 0, es, p, h => by simp [cGs] at h
  | n + 1, [], p, h => by
    simp only [cGs, Option.some.injEq] at h
    subst h
    simp only [gGs]
    exact ⟨pgs_nil, fun us _ => gos_nil, rfl⟩
  | n + 1, e :: es, p, h => by
    simp only [cGs] at h
    split at h
    · rename_i hs
      split at h
      · rename_i p1 p2 e1 e2
        cases h
        obtain ⟨h1, h2⟩ := cG_ok k n (m := p1.1) (vs := p1.2) (by simpa using e1)
        obtain ⟨h3, h4, h5⟩ := cGs_ok k n e2
        simp only [gGs]
        exact ⟨pgs_cons h1 h3 (assign_cons hs), fun us hu => gos_cons (h2 us fun i hi => hu i (List.mem_append_left _ hi)) (h4 us fun i hi => hu i (List.mem_append_right _ hi)), by rw [List.all_cons, hs, h5]; rfl⟩
      · cases h
    · cases h
end
end
end Tb
end

section
set_option maxHeartbeats 4000000
namespace Tb
open PySem PySem.Spec L2
/-! ### built-in functions and methods by their names -/
structure BI where
  x : Str
  ty : Bool
  id : String
  f : FB
def bTab (hp : Bool) : List BI := [⟨"len", false, "len", bLen⟩, ⟨"tuple", true, "tuple", bTuple⟩, ⟨"list", true, "list", if hp = true then bListH else bList⟩, ⟨"repr", false, "repr", bRepr⟩, ⟨"abs", false, "abs", bAbs⟩, ⟨"int", true, "int", bInt⟩, ⟨"str", true, "str", bStr⟩,
  ⟨"ord", false, "ord", bOrd⟩, ⟨"max", false, "max", bMax⟩, ⟨"min", false, "min", bMin⟩, ⟨"sum", false, "sum", bSum⟩, ⟨"all", false, "all", bAll⟩, ⟨"any", false, "any", bAny⟩, ⟨"isinstance", false, "isinstance", bIsi⟩]
def BI.v (b : BI) : Value := if b.ty = true then .type b.id else .builtin b.id
theorem bTab_boot (hp : Bool) : ∀ b ∈ bTab hp, bootBuiltins b.x = some b.v := by
  intro b hb
  simp only [bTab, List.mem_cons, List.not_mem_nil, or_false] at hb
  rcases hb with rfl | rfl | rfl | rfl | rfl | rfl | rfl | rfl | rfl | rfl | rfl | rfl | rfl | rfl <;> (simp only [BI.v]; decide +kernel)
theorem bTab_ok {c : Cfg} {X : Cx} {E : XK} (k : CxOk c X E) (hp : Bool) : ∀ b ∈ bTab hp, CallR X b.v (rB X.K E b.f) := by
  intro b hb
  simp only [bTab, List.mem_cons, List.not_mem_nil, or_false] at hb
  rcases hb with rfl | rfl | rfl | rfl | rfl | rfl | rfl | rfl | rfl | rfl | rfl | rfl | rfl | rfl
  · exact cr_len
  · exact cr_tuple
  · show CallR X (.type "list") (rB X.K E (if hp = true then bListH else bList))
    split
    · exact cr_listH
    · exact cr_list
  · exact cr_repr k.gd k.units
  · exact cr_abs
  · exact cr_int
  · exact cr_str
  · exact cr_ord
  · exact cr_maxM k.calm
  · exact cr_minM k.calm
  · exact cr_sumM k.calm
  · exact cr_allM k.calm
  · exact cr_anyM k.calm
  · exact cr_isi
structure MI' where
  name : Str
  T : String
  id : String
  f : FM
def mTab : List MI' := [⟨"append", "list", "list.append", lAppend⟩, ⟨"extend", "list", "list.extend", lExtend⟩, ⟨"pop", "list", "list.pop", lPop⟩]
theorem mTab_ok {X : Cx} {E : XK} : ∀ m ∈ mTab, PlainAttrs m.T ∧ Slot m.T m.name m.id ∧ typeOf (.builtin m.id) = pure (.type "method_descriptor") ∧ MtR X m.id (rMeth X.K E m.f) := by
  intro m hm
  simp only [mTab, List.mem_cons, List.not_mem_nil, or_false] at hm
  rcases hm with rfl | rfl | rfl
  · exact ⟨PySem.F.plainAttrs_list, PySem.F.slot_list_append, PySem.F.type_list_append, mr_append⟩
  · exact ⟨PySem.F.plainAttrs_list, PySem.F.slot_list_extend, PySem.F.type_list_extend, mr_extend⟩
  · exact ⟨PySem.F.plainAttrs_list, PySem.F.slot_list_pop, PySem.F.type_list_pop, mr_pop⟩
/-! ### expressions -/
abbrev RE := Cfg → Bool → Expr → Option ME
abbrev RT := Cfg → Expr → Option MT
def cA (rE : Expr → Option ME) : List Expr → Option MA
  | [] => some mNil
  | e :: es => if notStar e = true then match rE e, cA rE es with
      | some m, some ms => some (mCons m ms)
      | _, _ => none
    else none
def cKw (rE : Expr → Option ME) : List Keyword → Option (MA × List Str)
  | [] => some (mNil, [])
  | ⟨some n, e, _⟩ :: ks => match rE e, cKw rE ks with
      | some m, some p => some (mCons m p.1, n :: p.2)
      | _, _ => none
  | _ => none
def Cfg.inBlk (c : Cfg) (scope : Scope) : Cfg := { c with sc := relS scope c.sc, blk := true, cel := (scope.names.filter fun y => scope.names.lookup y.1 == some .cell).map (·.1) }
def ownOf (N : List Str) : List (Str × NameKind) → List (Str × Nat)
  | [] => []
  | (x, k) :: r => match slotOf N x with
    | some i => if k = .local ∨ k = .cell then (x, i) :: ownOf N r else ownOf N r
    | none => ownOf N r
/-- range(..), or a value -/
def cI (c : Cfg) (rE : RE) : Expr → Option MI
  | .Call (.Name x _) [a] [] _ => if x = "range" ∧ glB c x = true ∧ x ∈ c.B ∧ notStar a = true then (rE c false a).map mRange1 else none
  | .Call (.Name x _) [a, b] [] _ => if x = "range" ∧ glB c x = true ∧ x ∈ c.B ∧ notStar a = true ∧ notStar b = true then match rE c false a, rE c false b with
      | some m, some n => some (mRange2 m n)
      | _, _ => none
    else none
  | _ => none
/-- zip, enumerate: their pairs go to a tuple of names -/
def cZ (c : Cfg) (rE : RE) : Expr → Expr → Option MI
  | .Tuple _ _ _, .Call (.Name x _) [a, b] [] _ => if x = "zip" ∧ glB c x = true ∧ x ∈ c.B ∧ notStar a = true ∧ notStar b = true then match rE c false a, rE c false b with
      | some m, some n => some (mZip m n)
      | _, _ => none
    else none
  | .Tuple _ _ _, .Call (.Name x _) [a] [] _ => if x = "enumerate" ∧ glB c x = true ∧ x ∈ c.B ∧ notStar a = true then (rE c false a).map mEnum else none
  | _, _ => none
def cIter (c : Cfg) (rE : RE) (tg e : Expr) : Option MI := match cI c rE e with
  | some m => some m
  | none => match cZ c rE tg e with
    | some m => some m
    | none => (rE c false e).map mIter
def cIfs (rT : Expr → Option MT) : List Expr → Option MT
  | [] => some mYes
  | [t] => rT t
  | _ => none
structure CP where
  mi : MI
  own : List (Str × Nat)
  mg : MG
  mt : MT
  me : ME
noncomputable def CP.m (p : CP) (f : Fn1) : ME := fun s h => (mComp p.mi (p.own.map (·.2)) p.mg p.mt p.me s h).bind f
def cComp (c : Cfg) (rE : RE) (rT : RT) (elt tg iter : Expr) (ifs : List Expr) (scope : Scope) : Option CP :=
  if blkC c.N c.sc scope (ownOf c.N scope.names) = true ∧ notSet iter = true then
    match cIter c rE tg iter, cG (c.inBlk scope) 9 tg, cIfs (rT (c.inBlk scope)) ifs, rE (c.inBlk scope) false elt with
    | some mi, some p, some mt, some me => if (p.2.all fun i => decide (i ∈ (ownOf c.N scope.names).map (·.2))) = true then some ⟨mi, ownOf c.N scope.names, p.1, mt, me⟩ else none
    | _, _, _, _ => none
  else none
noncomputable def cCall (c : Cfg) (rE : RE) (hp : Bool) : Expr → List Expr → List Keyword → Option ME
  | .Name x _, [], [] => if plainName x = true ∧ glB c x = true then
      (c.G.find? fun sh => decide (sh.name = x) && decide (sh.n = 0) && decide (sh.ks = [])).map fun sh => mCall sh.np sh.F sh.dv mNil
    else none
  | .Name x _, a :: as, [] => if plainName x = true ∧ glB c x = true then
      match cA (rE c false) (a :: as) with
      | some ma => match c.G.find? fun sh => decide (sh.name = x) && decide (sh.n = (a :: as).length) && decide (sh.ks = []) with
        | some sh => some (mCall sh.np sh.F sh.dv ma)
        | none => if x ∈ c.B then ((bTab hp).find? fun b => decide (b.x = x)).map fun b => mCallB b.f ma else none
      | none => none
    else none
  | .Name x _, a :: as, kw :: kws => if plainName x = true ∧ glB c x = true then
      match cA (rE c false) (a :: as), cKw (rE c false) (kw :: kws) with
      | some ma, some mk => (c.G.find? fun sh => decide (sh.name = x) && decide (sh.n = (a :: as).length) && decide (sh.ks = mk.2)).map fun sh => mCallK sh.n sh.ks.length sh.np sh.F sh.gD ma mk.1
      | _, _ => none
    else none
  | .Name x _, [], kw :: kws => if plainName x = true ∧ glB c x = true then
      match cKw (rE c false) (kw :: kws) with
      | some mk => (c.G.find? fun sh => decide (sh.name = x) && decide (sh.n = 0) && decide (sh.ks = mk.2)).map fun sh => mCallK 0 sh.ks.length sh.np sh.F sh.gD mNil mk.1
      | none => none
    else none
  | .Attribute o name apos, a :: as, [] => if plainBase o = true ∧ (a :: as).length < 30 then
      match rE c false o, cA (rE c false) (a :: as), mTab.find? fun m => decide (m.name = name) with
      | some mo, some ma, some m => some (mMeth m.T m.f mo ma)
      | _, _, _ => none
    else none
  | _, _, _ => none
/-- where a call's method stands on its own line -/
def lineOk : Expr → Pos → Bool
  | .Attribute _ _ apos, pos => apos.endLine == pos.line
  | _, _ => true
def cBoolV (rE : Expr → Option ME) (op : BoolOp) : List Expr → Option ME
  | [] => none
  | [a] => rE a
  | a :: b :: r => match rE a, cBoolV rE op (b :: r) with
    | some x, some y => some (match op with | .And => mAndV x y | .Or => mOrV x y)
    | _, _ => none
def cBoolT (rT : Expr → Option MT) (op : BoolOp) : List Expr → Option MT
  | [] => none
  | [a] => rT a
  | a :: b :: r => match rT a, cBoolT rT op (b :: r) with
    | some x, some y => some (match op with | .And => mAnd x y | .Or => mOr x y)
    | _, _ => none
def cCmp (c : Cfg) (rE : RE) (a : Expr) : List CmpOp → List Expr → Option ME
  | [op], [b] => if notSet b = true then match cmpTab op, rE c false a, rE c false b with
      | some f, some x, some y => some (mOp f x y)
      | _, _, _ => none
    else none
  | [op, op'], [b, d] => if notSet d = true then match cmpTab op, cmpTab op', rE c false a, rE c false b, rE c false d with
      | some f, some g, some x, some y, some z => some (mChain f g x y z)
      | _, _, _, _, _ => none
    else none
  | _, _ => none
def cPart (rE : Expr → Option ME) : Option Expr → Option MO'
  | none => some mNoPart
  | some e => (rE e).map mPart
noncomputable def stepE (rE : RE) (rT : RT) : RE := fun c hp e => match e with
  | .Name x _ => cName c x
  | .Constant v _ _ => cConst v
  | .BinOp a op b _ => match binTab hp op, rE c false a, rE c false b with
    | some f, some x, some y => some (mOp f x y)
    | _, _, _ => none
  | .UnaryOp .USub a _ => (rE c false a).map mNeg
  | .UnaryOp .Not a _ => (rE c false a).map mNotV
  | .BoolOp op es _ => cBoolV (rE c false) op es
  | .Compare a ops bs _ => cCmp c rE a ops bs
  | .IfExp t a b _ => match rT c t, rE c hp a, rE c hp b with
    | some mt, some x, some y => some (mIf mt x y)
    | _, _, _ => none
  | .Tuple es _ _ => (cA (rE c false) es).map mTup
  | .List es _ => (cA (rE c false) es).map (if hp = true then mLstH else mLst)
  | .Subscript a (.Slice lo hi none _) _ => match rE c false a, cPart (rE c false) lo, cPart (rE c false) hi with
    | some x, some l, some u => some (mCut (if hp = true then opCutH else opCut) x l u)
    | _, _, _ => none
  | .Subscript a (.Slice none none (some (.UnaryOp .USub (.Constant (.int 1) _ _) _)) _) _ => (rE c false a).map mRev
  | .Subscript a b _ => if notSlice b = true then match rE c false a, rE c false b with
      | some x, some y => some (mOp opIx x y)
      | _, _ => none
    else none
  | .ListComp elt [⟨tg, iter, ifs, as⟩] scope _ => if as = 0 then (cComp c rE rT elt tg iter ifs scope).map fun p => p.m (if hp = true then finH else finL) else none
  | .Call f args kws pos => if lineOk f pos = true then cCall c rE hp f args kws else none
  | _ => none
def stepT (rE : RE) (rT : RT) : RT := fun c e => match e with
  | .Compare a ops bs _ => (cCmp c rE a ops bs).map fun m s h => asB (m s h)
  | .BoolOp op es _ => cBoolT (rT c) op es
  | .UnaryOp .Not a _ => (rT c a).map mNot
  | e => if plainTest e = true then (rE c false e).map mTruth else none
noncomputable def comp : Nat → RE × RT
  | 0 => (fun _ _ _ => none, fun _ _ => none)
  | n + 1 => (stepE (comp n).1 (comp n).2, stepT (comp n).1 (comp n).2)
/-! ### they are right -/
abbrev GoodE (r : RE) : Prop := ∀ (c : Cfg) (X : Cx) (E : XK) (hp : Bool) (e : Expr) (m : ME), CxOk c X E → r c hp e = some m → PE X e (tM X.K E m)
abbrev GoodT (r : RT) : Prop := ∀ (c : Cfg) (X : Cx) (E : XK) (e : Expr) (m : MT), CxOk c X E → r c e = some m → PT X e (tMT X.K E m)
section
variable {rE : RE} {rT : RT} {c : Cfg} {X : Cx} {E : XK}
theorem cA_ok (gE : GoodE rE) (k : CxOk c X E) : ∀ {es : List Expr} {ma : MA}, cA (rE c false) es = some ma → PA X es (tMA X.K E ma) ∧ es.all notStar = true
  | [], ma, h => by
    simp only [cA, Option.some.injEq] at h
    subst h
    exact ⟨mar_nil, rfl⟩
  | e :: es, ma, h => by
    simp only [cA] at h
    split at h
    · rename_i hs
      split at h
      · rename_i m ms e1 e2
        cases h
        obtain ⟨h1, h2⟩ := cA_ok gE k e2
        exact ⟨mar_cons (gE c X E false e m k e1) h1 (star_cons hs), by rw [List.all_cons, hs, h2]; rfl⟩
      · cases h
    · cases h
theorem cKw_ok (gE : GoodE rE) (k : CxOk c X E) : ∀ {ks : List Keyword} {p : MA × List Str}, cKw (rE c false) ks = some p → PK X ks (tMA X.K E p.1) ∧
    (∀ pos, (backToKw pos (keywordEach ks X.env)).all (·.1.isSome) = true ∧ (backToKw pos (keywordEach ks X.env)).filterMap (·.1) = p.2 ∧ (backToKw pos (keywordEach ks X.env)).any (·.1.isNone) = false)
  | [], p, h => by
    simp only [cKw, Option.some.injEq] at h
    subst h
    exact ⟨mk_nil, fun pos => ⟨rfl, rfl, rfl⟩⟩
  | ⟨none, e, kp⟩ :: ks, p, h => by simp [cKw] at h
  | ⟨some n, e, kp⟩ :: ks, p, h => by
    simp only [cKw] at h
    split at h
    · rename_i m q e1 e2
      cases h
      obtain ⟨h1, h2⟩ := cKw_ok gE k e2
      refine ⟨mk_cons (gE c X E false e m k e1) h1, fun pos => ?_⟩
      obtain ⟨h3, h4, h5⟩ := h2 pos
      simp only [backToKw] at h3 h4 h5
      simp only [keywordEach, backToKw, List.map_cons, List.all_cons, List.filterMap_cons, List.any_cons, h3, h4, h5]
      simp
    · cases h
theorem inBlk_ok (k : CxOk c X E) (s : Shared) (H : Hp) (scope : Scope) (C : Addr) (cl : List (Str × Addr)) (fp : List Addr) : CxOk (c.inBlk scope) (X.blk s H scope (compEnvC scope cl C X.env) fp) E0 := by
  refine ⟨k.hN, k.nd, ?_, k.calm, k.gd, k.kk, k.con, k.blt, (fun z => nomatch z), passL, fun y hy => ?_⟩
  · show relabel scope X.env = relS scope c.sc
    rw [← k.sc]
    rfl
  · obtain ⟨p, hp, rfl⟩ := List.mem_map.mp hy
    exact (List.mem_filter.mp hp).2
theorem own_slot {N : List Str} : ∀ {l : List (Str × NameKind)}, ∀ p ∈ ownOf N l, N[p.2]? = some p.1
  | [], p, h => by cases h
  | (x, kd) :: r, p, h => by
    unfold ownOf at h
    split at h
    · rename_i i e
      split at h
      · rcases List.mem_cons.mp h with rfl | h
        · exact slotOf_get e
        · exact own_slot p h
      · exact own_slot p h
    · exact own_slot p h
theorem cI_ok (gE : GoodE rE) (k : CxOk c X E) {tg e : Expr} {m : MI} (h : cI c rE e = some m) : PI X tg e (tMI X.K E m) := by
  unfold cI at h
  split at h
  · split at h
    · rename_i hz
      obtain ⟨rfl, h1, h2, h3⟩ := hz
      rw [Option.map_eq_some_iff] at h
      obtain ⟨ma, e1, rfl⟩ := h
      exact mi_range1 (k.gl h1) (k.blt _ h2) (gE c X E false _ _ k e1) (star_cons h3)
    · cases h
  · split at h
    · rename_i hz
      obtain ⟨rfl, h1, h2, h3, h4⟩ := hz
      split at h
      · rename_i ma mb e1 e2
        cases h
        exact mi_range2 (k.gl h1) (k.blt _ h2) (gE c X E false _ _ k e1) (gE c X E false _ _ k e2) (by rw [star_cons h3, star_cons h4]; rfl) (star_cons h4)
      · cases h
    · cases h
  · cases h
theorem cZ_ok (gE : GoodE rE) (k : CxOk c X E) {tg e : Expr} {m : MI} (h : cZ c rE tg e = some m) : PI X tg e (tMI X.K E m) := by
  unfold cZ at h
  split at h
  · split at h
    · rename_i hz
      obtain ⟨rfl, h1, h2, h3, h4⟩ := hz
      split at h
      · rename_i ma mb e1 e2
        cases h
        exact mi_zip (k.gl h1) (k.blt _ h2) (gE c X E false _ _ k e1) (gE c X E false _ _ k e2) (star_cons h3) (star_cons h4) (by rw [star_cons h4]; rfl)
      · cases h
    · cases h
  · split at h
    · rename_i hz
      obtain ⟨rfl, h1, h2, h3⟩ := hz
      rw [Option.map_eq_some_iff] at h
      obtain ⟨ma, e1, rfl⟩ := h
      exact mi_enum (k.gl h1) (k.blt _ h2) (gE c X E false _ _ k e1) (star_cons h3)
    · cases h
  · cases h
theorem cIter_ok (gE : GoodE rE) (k : CxOk c X E) {tg e : Expr} {m : MI} (h : cIter c rE tg e = some m) : PI X tg e (tMI X.K E m) := by
  unfold cIter at h
  split at h
  · rename_i m' e1
    cases h
    exact cI_ok gE k e1
  · split at h
    · rename_i m' e1
      cases h
      exact cZ_ok gE k e1
    · rw [Option.map_eq_some_iff] at h
      obtain ⟨ma, e1, rfl⟩ := h
      exact mi_val (gE c X E false _ _ k e1)
theorem cIfs_ok (gT : GoodT rT) (k : CxOk c X E) {ifs : List Expr} {m : MT} (h : cIfs (rT c) ifs = some m) : PTs X ifs (tMT X.K E m) := by
  unfold cIfs at h
  split at h
  · cases h; exact mts_nil
  · exact mts_one (gT c X E _ _ k h)
  · cases h
/-- what a comprehension's parts have to be -/
theorem cComp_ok (gE : GoodE rE) (gT : GoodT rT) (k : CxOk c X E) {elt tg iter : Expr} {ifs : List Expr} {scope : Scope} {p : CP} (h : cComp c rE rT elt tg iter ifs scope = some p) :
    PI X tg iter (tMI X.K E p.mi) ∧ BlkOk X.N X.env.scope scope p.own ∧ GOk X.K (p.own.map (·.2)) (gG X.K (c.inBlk scope) 9 tg) p.mg ∧
      (∀ (s : Shared) (H : Hp) (C : Addr) (cl : List (Str × Addr)) (fp : List Addr), PG (X.blk s H scope (compEnvC scope cl C X.env) fp) tg (gG X.K (c.inBlk scope) 9 tg)) ∧
      (∀ (s : Shared) (H : Hp) (C : Addr) (cl : List (Str × Addr)) (fp : List Addr), PTs (X.blk s H scope (compEnvC scope cl C X.env) fp) ifs (tMT X.K E0 p.mt)) ∧
      (∀ (s : Shared) (H : Hp) (C : Addr) (cl : List (Str × Addr)) (fp : List Addr), PE (X.blk s H scope (compEnvC scope cl C X.env) fp) elt (tM X.K E0 p.me)) ∧ notSet iter = true := by
  unfold cComp at h
  split at h
  · rename_i hz
    split at h
    · rename_i mi q mt me e1 e2 e3 e4
      split at h
      · rename_i ha
        cases h
        refine ⟨cIter_ok gE k e1, ?_, ?_, fun s H C cl fp => ?_, fun s H C cl fp => ?_, fun s H C cl fp => ?_, hz.2⟩
        · refine blkOk_by ?_
          rw [k.hN, k.sc]
          exact hz.1
        · have hx := inBlk_ok k (X := X) (X.s_0) (X.H_0) scope 0 [] []
          exact (cG_ok hx 9 (m := q.1) (vs := q.2) (by simpa using e2)).2 _ fun i hi => by
            have := List.all_eq_true.mp ha i hi
            exact of_decide_eq_true this
        · exact (cG_ok (inBlk_ok k s H scope C cl fp) 9 (m := q.1) (vs := q.2) (by simpa using e2)).1
        · exact cIfs_ok gT (inBlk_ok k s H scope C cl fp) e3
        · exact gE _ _ _ false _ _ (inBlk_ok k s H scope C cl fp) e4
      · cases h
    · cases h
  · cases h
end
end Tb
end

section
set_option maxHeartbeats 8000000
namespace Tb
open PySem PySem.Spec L2
section
variable {rE : RE} {rT : RT} {c : Cfg} {X : Cx} {E : XK}
theorem find_mem {α : Type} {l : List α} {p : α → Bool} {a : α} (h : l.find? p = some a) : a ∈ l ∧ p a = true := ⟨List.mem_of_find?_eq_some h, List.find?_some h⟩
theorem kw_ne {rE : Expr → Option ME} {kw : Keyword} {kws : List Keyword} {mk : MA × List Str} (h : cKw rE (kw :: kws) = some mk) : mk.2 ≠ [] := by
  obtain ⟨nm, e, p⟩ := kw
  cases nm with
  | none => simp [cKw] at h
  | some n =>
    simp only [cKw] at h
    split at h
    · cases h
      simp
    · cases h
theorem cCall_ok (gE : GoodE rE) (k : CxOk c X E) {hp : Bool} {f : Expr} {args : List Expr} {kws : List Keyword} {pos : Pos} {m : ME} (hl : lineOk f pos = true) (h : cCall c rE hp f args kws = some m) : PE X (.Call f args kws pos) (tM X.K E m) := by
  obtain ⟨j, hr, hG⟩ := k.kk
  unfold cCall at h
  split at h
  · split at h
    · rename_i hz
      rw [Option.map_eq_some_iff] at h
      obtain ⟨sh, h1, rfl⟩ := h
      obtain ⟨h2, h3⟩ := find_mem h1
      simp only [Bool.and_eq_true, decide_eq_true_eq] at h3
      obtain ⟨⟨rfl, _⟩, h5⟩ := h3
      obtain ⟨fa, fd, ps, e1, e2, e3, G, b1, _⟩ := hG sh h2
      obtain ⟨dvs, ds, b3, b4, b5⟩ := b1 h5
      rw [← e1]
      exact me_call0 G k.gd hr (k.gl hz.2) e2 e3 b4 b3 b5 k.pass (pn1 hz.1)
    · cases h
  · split at h
    · rename_i hz
      split at h
      · rename_i ma e0
        obtain ⟨a1, a2⟩ := cA_ok gE k e0
        rw [List.all_cons, Bool.and_eq_true] at a2
        split at h
        · rename_i sh h1
          cases h
          obtain ⟨h2, h3⟩ := find_mem h1
          simp only [Bool.and_eq_true, decide_eq_true_eq] at h3
          obtain ⟨⟨rfl, _⟩, h5⟩ := h3
          obtain ⟨fa, fd, ps, e1, e2, e3, G, b1, _⟩ := hG sh h2
          obtain ⟨dvs, ds, b3, b4, b5⟩ := b1 h5
          rw [← e1]
          exact me_call G k.gd hr (k.gl hz.2) e2 e3 b4 b3 b5 k.pass a1 (pn1 hz.1) (star_cons a2.1) (star_any a2.2)
        · split at h
          · rename_i hb
            rw [Option.map_eq_some_iff] at h
            obtain ⟨b, h1, rfl⟩ := h
            obtain ⟨h2, h3⟩ := find_mem h1
            have h4 : b.x = _ := of_decide_eq_true h3
            have bb := bTab_boot hp b h2
            have bc := bTab_ok (E := E) k hp b h2
            rw [h4] at bb
            unfold BI.v at bb bc
            split at bb
            · rename_i ht
              rw [if_pos ht] at bc
              exact me_callTy bc (k.gl hz.2) (k.blt _ hb) bb a1 (pn3 hz.1) (pn1 hz.1) (star_cons a2.1) (star_any a2.2)
            · rename_i ht
              rw [if_neg ht] at bc
              exact me_callB bc (k.gl hz.2) (k.blt _ hb) bb a1 (pn3 hz.1) (pn1 hz.1) (star_cons a2.1) (star_any a2.2)
          · cases h
      · cases h
    · cases h
  · split at h
    · rename_i hz
      split at h
      · rename_i ma mk e0 e9
        obtain ⟨a1, a2⟩ := cA_ok gE k e0
        rw [List.all_cons, Bool.and_eq_true] at a2
        obtain ⟨k1, k2⟩ := cKw_ok gE k e9
        obtain ⟨k3, k4, k5⟩ := k2 pos
        rw [Option.map_eq_some_iff] at h
        obtain ⟨sh, h1, rfl⟩ := h
        obtain ⟨h2, h3⟩ := find_mem h1
        simp only [Bool.and_eq_true, decide_eq_true_eq] at h3
        obtain ⟨⟨rfl, h4⟩, h5⟩ := h3
        obtain ⟨fa, fd, ps, e1, e2, e3, G, _, b1⟩ := hG sh h2
        have hne : sh.ks ≠ [] := by
          rw [h5, ← k4]
          intro z
          have := congrArg List.length z
          simp only [keywordEach, backToKw, List.map_cons] at k3 z
          rename_i kw kws' _ _ _
          obtain ⟨nm, ve, kp⟩ := kw
          cases nm with
          | none => simp [keywordEach] at k3
          | some n => simp [keywordEach] at z
        obtain ⟨g, gV, b3, b4⟩ := b1 hne
        rw [← e1]
        exact me_callK G k.gd hr (k.gl hz.2) e2 e3 b3 b4 k.pass a1 k1 k3 (by rw [k4, h5]) (pn1 hz.1) (star_cons a2.1) (by rw [star_cons a2.1, Bool.or_eq_false_iff]; exact ⟨by
          have := star_any (pos := pos) (env := X.env) a2.2
          simpa [backTo] using this, k5⟩)
      · cases h
    · cases h
  · split at h
    · rename_i hz
      split at h
      · rename_i mk e9
        obtain ⟨k1, k2⟩ := cKw_ok gE k e9
        obtain ⟨k3, k4, k5⟩ := k2 pos
        rw [Option.map_eq_some_iff] at h
        obtain ⟨sh, h1, rfl⟩ := h
        obtain ⟨h2, h3⟩ := find_mem h1
        simp only [Bool.and_eq_true, decide_eq_true_eq] at h3
        obtain ⟨⟨rfl, h4⟩, h5⟩ := h3
        obtain ⟨fa, fd, ps, e1, e2, e3, G, _, b1⟩ := hG sh h2
        have hne : sh.ks ≠ [] := by
          rw [h5]
          exact kw_ne e9
        obtain ⟨g, gV, b3, b4⟩ := b1 hne
        rw [h4] at b3
        rw [← e1]
        exact me_callK0 G k.gd hr (k.gl hz.2) e2 e3 b3 b4 k.pass k1 k3 (by rw [k4, h5]) (pn1 hz.1) (by rw [Bool.or_eq_false_iff]; exact ⟨rfl, k5⟩)
      · cases h
    · cases h
  · split at h
    · rename_i hz
      split at h
      · rename_i mo ma md e1 e2 e3
        cases h
        obtain ⟨a1, a2⟩ := cA_ok gE k e2
        have a3 := a2
        rw [List.all_cons, Bool.and_eq_true] at a2
        obtain ⟨m1, m2⟩ := find_mem e3
        have m3 : md.name = _ := of_decide_eq_true m2
        obtain ⟨p1, p2, p3, p4⟩ := mTab_ok (X := X) (E := E) md m1
        rw [m3] at p2
        refine me_meth p1 p2 p3 p4 (gE c X E false _ _ k e1) a1 (base_of hz.1) ?_ hl (star_cons a2.1) (star_any a2.2)
        rw [star_all a3]
        simp only [keywordEach, backToKw, List.map_nil, List.all_nil, Bool.and_self, Bool.true_and, decide_eq_true_eq, List.length_nil, List.isEmpty_nil, if_true, Nat.add_zero]
        exact hz.2
      · cases h
    · cases h
  · cases h
theorem cCmp_ok (gE : GoodE rE) (k : CxOk c X E) {a : Expr} {ops : List CmpOp} {bs : List Expr} {pos : Pos} {m : ME} (h : cCmp c rE a ops bs = some m) : PE X (.Compare a ops bs pos) (tM X.K E m) ∧ PT X (.Compare a ops bs pos) (tMT X.K E fun s h => asB (m s h)) := by
  unfold cCmp at h
  split at h
  · split at h
    · rename_i hs
      split at h
      · rename_i f x y e1 e2 e3
        cases h
        have g1 := gE c X E false _ _ k e2
        have g2 := gE c X E false _ _ k e3
        exact ⟨me_cmp (cmpTab_ok k e1) g1 g2 (marks_of hs), mt_cmp (cmpTab_ok k e1) g1 g2 (marks_of hs)⟩
      · cases h
    · cases h
  · split at h
    · rename_i hs
      split at h
      · rename_i f g x y z e1 e2 e3 e4 e5
        cases h
        have g1 := gE c X E false _ _ k e3
        have g2 := gE c X E false _ _ k e4
        have g3 := gE c X E false _ _ k e5
        exact ⟨me_chain (cmpTab_ok k e1) (cmpTab_ok k e2) g1 g2 g3 (marks_of hs), mt_chain (cmpTab_ok k e1) (cmpTab_ok k e2) g1 g2 g3 (marks_of hs)⟩
      · cases h
    · cases h
  · cases h
theorem cBoolV_ok (gE : GoodE rE) (k : CxOk c X E) {op : BoolOp} {pos : Pos} : ∀ {es : List Expr} {m : ME}, cBoolV (rE c false) op es = some m → PE X (.BoolOp op es pos) (tM X.K E m)
  | [], m, h => by cases h
  | [a], m, h => me_one (gE c X E false _ _ k h)
  | a :: b :: r, m, h => by
    simp only [cBoolV] at h
    split at h
    · rename_i x y e1 e2
      have g1 := gE c X E false _ _ k e1
      have g2 := cBoolV_ok gE k (pos := pos) e2
      cases op <;> cases h
      · exact me_and g1 g2
      · exact me_or g1 g2
    · cases h
theorem cBoolT_ok (gT : GoodT rT) (k : CxOk c X E) {op : BoolOp} {pos : Pos} : ∀ {es : List Expr} {m : MT}, cBoolT (rT c) op es = some m → PW X (.BoolOp op es pos) (tMT X.K E m)
  | [], m, h => by cases h
  | [a], m, h => by
    cases op with
    | And => exact pw_and1 (gT c X E _ _ k h)
    | Or => exact pw_or1 (gT c X E _ _ k h)
  | a :: b :: r, m, h => by
    simp only [cBoolT] at h
    split at h
    · rename_i x y e1 e2
      have g1 := gT c X E _ _ k e1
      have g2 := cBoolT_ok gT k (pos := pos) e2
      cases op <;> cases h
      · exact mw_and g1 g2
      · exact mw_or g1 g2
    · cases h
theorem cPart_ok (gE : GoodE rE) (k : CxOk c X E) {e : Option Expr} {m : MO'} (h : cPart (rE c false) e = some m) : PO X e (tMO X.K E m) := by
  unfold cPart at h
  split at h
  · cases h; exact mo_none
  · rw [Option.map_eq_some_iff] at h
    obtain ⟨x, e1, rfl⟩ := h
    exact mo_some (gE c X E false _ _ k e1)
theorem stepE_ok (gE : GoodE rE) (gT : GoodT rT) : GoodE (stepE rE rT) := by
  intro c X E hp e m k h
  unfold stepE at h
  split at h
  · exact cName_ok k h
  · exact cConst_ok h
  · split at h
    · rename_i f x y e1 e2 e3
      cases h
      exact me_op (binTab_ok e1) (gE c X E false _ _ k e2) (gE c X E false _ _ k e3)
    · cases h
  · rw [Option.map_eq_some_iff] at h
    obtain ⟨x, e1, rfl⟩ := h
    exact me_neg (gE c X E false _ _ k e1)
  · rw [Option.map_eq_some_iff] at h
    obtain ⟨x, e1, rfl⟩ := h
    exact me_not (gE c X E false _ _ k e1)
  · exact cBoolV_ok gE k h
  · exact (cCmp_ok gE k h).1
  · split at h
    · rename_i mt x y e1 e2 e3
      cases h
      exact me_if (gT c X E _ _ k e1) (gE c X E hp _ _ k e2) (gE c X E hp _ _ k e3)
    · cases h
  · rw [Option.map_eq_some_iff] at h
    obtain ⟨ma, e1, rfl⟩ := h
    exact me_tup (cA_ok gE k e1).1
  · rw [Option.map_eq_some_iff] at h
    obtain ⟨ma, e1, rfl⟩ := h
    cases hp with
    | true => exact me_lstH (cA_ok gE k e1).1
    | false => exact me_lst (cA_ok gE k e1).1
  · split at h
    · rename_i x l u e1 e2 e3
      cases h
      cases hp with
      | true => exact me_cut sr_cutH (gE c X E false _ _ k e1) (cPart_ok gE k e2) (cPart_ok gE k e3)
      | false => exact me_cut sr_cut (gE c X E false _ _ k e1) (cPart_ok gE k e2) (cPart_ok gE k e3)
    · cases h
  · rw [Option.map_eq_some_iff] at h
    obtain ⟨x, e1, rfl⟩ := h
    exact me_rev (gE c X E false _ _ k e1)
  · split at h
    · rename_i hs
      split at h
      · rename_i x y e1 e2
        cases h
        exact me_ix (gE c X E false _ _ k e1) (gE c X E false _ _ k e2) (plainIx_of hs)
      · cases h
    · cases h
  · split at h
    · rename_i ha
      subst ha
      rw [Option.map_eq_some_iff] at h
      obtain ⟨p, e1, rfl⟩ := h
      obtain ⟨h1, h2, h3, h4, h5, h6, h7⟩ := cComp_ok gE gT k e1
      cases hp with
      | true => exact me_lc k.calm k.nd' h1 h2 h3 fin_h h4 h5 h6 (folded_of h7)
      | false => exact me_lc k.calm k.nd' h1 h2 h3 fin_l h4 h5 h6 (folded_of h7)
    · cases h
  · split at h
    · rename_i hl
      exact cCall_ok gE k hl h
    · cases h
  · cases h
theorem stepT_ok (gE : GoodE rE) (gT : GoodT rT) : GoodT (stepT rE rT) := by
  intro c X E e m k h
  unfold stepT at h
  split at h
  · rw [Option.map_eq_some_iff] at h
    obtain ⟨x, e1, rfl⟩ := h
    exact (cCmp_ok gE k e1).2
  · exact PW.pt (cBoolT_ok gT k h)
  · rw [Option.map_eq_some_iff] at h
    obtain ⟨x, e1, rfl⟩ := h
    exact mt_not (gT c X E _ _ k e1)
  · split at h
    · rename_i hp
      rw [Option.map_eq_some_iff] at h
      obtain ⟨x, e1, rfl⟩ := h
      exact mt_truth (gE c X E false _ _ k e1) (test_of hp)
    · cases h
theorem comp_ok : ∀ n, GoodE (comp n).1 ∧ GoodT (comp n).2
  | 0 => ⟨fun c X E hp e m k h => (nomatch h), fun c X E e m k h => (nomatch h)⟩
  | n + 1 => ⟨stepE_ok (comp_ok n).1 (comp_ok n).2, stepT_ok (comp_ok n).1 (comp_ok n).2⟩
end
end Tb
end

section
set_option maxHeartbeats 8000000
namespace Tb
open PySem PySem.Spec L2
/-! ### statements -/
/-- a list that the def has made is handed back: nobody holds it any more -/
def mRetF (m : ME) : MS := fun s h => (m s h).toS fun d h1 => match d with
  | .ref n => match h1.get n with
    | some (.lst xs) => .ret (.lst xs) (h1.drop n)
    | none => .bad
  | d => .ret d h1
def mBad : MS := fun _ _ => .bad
section
variable {X : Cx} {E : XK} {e : Expr} {m : ME} {pos : Pos}
theorem ms_bad {st : Stmt} : PS X st (tMS X.K E mBad) := by
  refine ps_imp ps_never fun D σ H hq => ?_
  obtain ⟨w, s, e, k, r, q⟩ := hq
  exact q
theorem ms_retF (h : PE X e (tM X.K E m)) : PS X (.Return (some e) pos) (tMS X.K E (mRetF m)) := by
  refine ps_imp (ps_ret h) fun D σ H hq => ?_
  obtain ⟨w, s, e, k, r, q⟩ := hq
  subst e
  refine tM_at k r ((PostW.toS (Rel := RepD X.K) q).imp fun d w1 v x1 k1 p1 q1 => ?_)
  split at q1
  · split at q1
    · rename_i n _ xs hn
      have hg : ∀ a o, (w1.h.drop n).get a = some o → w1.h.get a = some o := fun a o z => by
        unfold MH.drop at z
        simp only at z
        split at z
        · cases z
        · exact z
      obtain ⟨vs, h1, h2⟩ := (k1.dom n _ hn).2
      have p0 : Rep X.K w1 (.ref n) v := p1
      simp only [Rep] at p0
      refine q1 (w1.less (w1.h.drop n).get) v rfl (Ext.less hg) (k1.less hg) ?_
      simp only [Rep]
      refine ⟨_, vs, p0.2, ⟨h1, fun z => ?_⟩, h2.ext (Ext.less hg)⟩
      rcases z with ⟨a, o, z1, z2⟩ | z
      · have z3 := hg a o z1
        have e : a = n := k1.inj a n _ _ z3 hn z2
        have z4 : (if a = n then none else w1.h.get a) = some o := z1
        rw [if_pos e] at z4; cases z4
      · exact k1.barO n _ hn z
    · exact q1.elim
  · exact q1 w1 v rfl (Ext.refl w1) k1 p1
end
theorem swaps_lc {env : Env} {elt : Expr} {gs : List Comprehension} {scope : Scope} {vp tp : Pos} {t : Str} {l : Nat} {kd : Option NameKind} (hb : env.blockKind = .function) (hk : env.kindOf t = kd) :
    swapsWith (.ListComp elt gs scope vp) (some (.Name t tp)) l env = pure ((kd == some .local) && (tp.line == vp.line) && !(scope.names.any fun (n, k) => n == t && (k == .local || k == .cell))) := by
  unfold swapsWith
  simp only [hb, hk, Expr.pos]
  rfl
theorem swapped_not {ts : List Expr} {k : Nat} {p : Pos} {e : Expr} {env : Env} (h : notTuple e = true) : swappedStores [.Tuple ts k p] e env = pure none := by
  cases e <;> first | rfl | cases h
theorem swapped_len {ts vs : List Expr} {k k2 : Nat} {p p2 : Pos} {env : Env} (h2 : ts.length ≠ 2) (h3 : ts.length ≠ 3) : swappedStores [.Tuple ts k p] (.Tuple vs k2 p2) env = pure none := by
  have e1 : (ts.length == 2) = false := beq_eq_false_iff_ne.mpr h2
  have e2 : (ts.length == 3) = false := beq_eq_false_iff_ne.mpr h3
  unfold swappedStores
  simp only [e1, e2, Bool.or_self, Bool.not_false, Bool.true_or, if_true]
def isCell (c : Cfg) : Expr → Bool
  | .Name x _ => kindB c x == some .cell
  | _ => false
theorem swapped_cell {ts vs : List Expr} {k k2 : Nat} {p p2 : Pos} {env : Env} {t : Expr} {x : Str} {q : Pos} (ht : t ∈ ts) (ex : t = .Name x q) (hx : env.kindOf x = some .cell) : swappedStores [.Tuple ts k p] (.Tuple vs k2 p2) env = pure none := by
  subst ex
  unfold swappedStores
  simp only
  split
  · rfl
  · split
    · rfl
    · split
      · rfl
      · rename_i h3
        exfalso
        apply h3
        rw [Bool.or_eq_true]
        left
        rw [bne_iff_ne]
        intro z
        have := List.filterMap_length_eq_length.mp z (.Name x q) ht
        simp [hx] at this
theorem sole_tup {e : Expr} {l : Nat} {env : Env} {es : List Expr} {k : Nat} {p : Pos} : swapsWithSole [.Tuple es k p] e l env = pure false := by
  cases e <;> rfl
theorem sole_sub {e a b : Expr} {l : Nat} {env : Env} {p : Pos} : swapsWithSole [.Subscript a b p] e l env = pure false := by
  cases e <;> rfl
theorem swapped_sub {o i e : Expr} {p : Pos} {env : Env} : swappedStores [.Subscript o i p] e env = pure none := by
  cases e <;> rfl
/-- a, b (, c) = x, y (, z) : plain names and what they become -/
noncomputable def cPar (c : Cfg) (rE : RE) : List Expr → List Expr → Option MS
  | [.Name x px, .Name y py], [a, b] =>
    if plainName x = true ∧ plainName y = true ∧ kindB c x = some .local ∧ kindB c y = some .local ∧ py.line = px.line ∧ x ≠ y ∧ notStar a = true ∧ notStar b = true ∧ [a, b].all (foldedForSure 8) = false ∧ [a, b].all (constantsAlone 8) = false then
      match slotOf c.N x, slotOf c.N y, rE c (decide (x ∈ c.held)) a, rE c (decide (y ∈ c.held)) b with
      | some i, some j, some ma, some mb => if i ≠ j then some (mPar2 i j ma mb) else none
      | _, _, _, _ => none
    else none
  | [.Name x px, .Name y py, .Name z pz], [a, b, d] =>
    if kindB c x = some .local ∧ kindB c y = some .local ∧ kindB c z = some .local ∧ py.line = px.line ∧ pz.line = px.line ∧ x ≠ y ∧ x ≠ z ∧ y ≠ z ∧ notStar a = true ∧ notStar b = true ∧ notStar d = true ∧ [a, b, d].all (foldedForSure 8) = false ∧ [a, b, d].all (constantsAlone 8) = false then
      match slotOf c.N x, slotOf c.N y, slotOf c.N z, rE c (decide (x ∈ c.held)) a, rE c (decide (y ∈ c.held)) b, rE c (decide (z ∈ c.held)) d with
      | some i, some j, some l, some ma, some mb, some md => if i ≠ j ∧ i ≠ l ∧ j ≠ l then some (mPar3 i j l ma mb md) else none
      | _, _, _, _, _, _ => none
    else none
  | _, _ => none
noncomputable def cAsg (c : Cfg) (rE : RE) (rT : RT) : Expr → Expr → Option MS
  | .Name y tp, .ListComp elt [⟨tg, iter, ifs, as⟩] scope vp =>
    if as = 0 ∧ plainName y = true ∧ (kindB c y = some .local ∨ kindB c y = some .cell) then
      match slotOf c.N y, cComp c rE rT elt tg iter ifs scope with
      | some i, some p => some (mSet i (p.m (if decide (y ∈ c.held) = true then finH else finL)))
      | _, _ => none
    else none
  | .Name y tp, e => if notComp e = true ∧ plainName y = true ∧ (kindB c y = some .local ∨ kindB c y = some .cell) then
      match slotOf c.N y, rE c (decide (y ∈ c.held)) e with
      | some i, some m => some (mSet i m)
      | _, _ => none
    else none
  | .Tuple ts k tp, .Tuple vs k2 vp => if (ts.length = 2 ∨ ts.length = 3) ∧ ts.any (isCell c) = false then cPar c rE ts vs else
      match cG c 9 (.Tuple ts k tp), rE c false (.Tuple vs k2 vp) with
      | some p, some m => some (mUnpack p.1 m)
      | _, _ => none
  | .Tuple ts k tp, e => if notTuple e = true then match cG c 9 (.Tuple ts k tp), rE c false e with
      | some p, some m => some (mUnpack p.1 m)
      | _, _ => none
    else none
  | .Subscript o i _, e => if notSlice i = true then match rE c false o, rE c false i, rE c false e with
      | some mo, some mi, some me => some (mSetSub setIx mo mi me)
      | _, _, _ => none
    else none
  | _, _ => none
noncomputable def cAug (c : Cfg) (rE : RE) (op : Operator) : Expr → Expr → Option MS
  | .Name x _, e => if plainName x = true ∧ (kindB c x = some .local ∨ kindB c x = some .cell) then
      match slotOf c.N x, augTab op, rE c false e with
      | some i, some f, some m => some (mAug i f m)
      | _, _, _ => none
    else none
  | .Subscript o i _, e => if notSlice i = true then match augTab op, rE c false o, rE c false i, rE c false e with
      | some f, some mo, some mi, some me => some (mAugSub getIxL f setIx mo mi me)
      | _, _, _, _ => none
    else none
  | _, _ => none
mutual
noncomputable def cS (c : Cfg) (rE : RE) (rT : RT) : Nat → Stmt → Option MS
  | 0, _ => none
  | _ + 1, .Return none _ => some mRetN
  | _ + 1, .Return (some e) _ => (rE c c.retH e).map (if c.retH = true then mRet else mRetF)
  | _ + 1, .Assign [t] e _ => cAsg c rE rT t e
  | _ + 1, .AugAssign t op e _ => cAug c rE op t e
  | n + 1, .If t a b _ => match rT c t, cSs c rE rT n a, cSs c rE rT n b with
    | some mt, some ma, some mb => some (mIfS mt ma mb)
    | _, _, _ => none
  | n + 1, .For tg iter body [] _ => if notSet iter = true then match cIter c rE tg iter, cG c 9 tg, cSs c rE rT n body with
      | some mi, some p, some mb => some (mFor mi p.1 mb)
      | _, _, _ => none
    else none
  | n + 1, .While t body [] _ => match rT c t, cSs c rE rT n body with
    | some mt, some mb => some (mWhile mt mb)
    | _, _ => none
  | _ + 1, .Expr e _ => if notComp e = true then (rE c false e).map mDo else none
  | _ + 1, .Raise _ _ _ => some mBad
  | _ + 1, .Pass _ => some mSkip
  | _ + 1, .Break _ => some mBreak
  | _ + 1, .Continue _ => some mCont
  | _ + 1, _ => none
noncomputable def cSs (c : Cfg) (rE : RE) (rT : RT) : Nat → List Stmt → Option MS
  | 0, _ => none
  | _ + 1, [] => some mSkip
  | n + 1, [st] => cS c rE rT n st
  | n + 1, st :: r => match cS c rE rT n st, cSs c rE rT n r with
    | some a, some b => some (mSeq a b)
    | _, _ => none
end
section
variable {rE : RE} {rT : RT} {c : Cfg} {X : Cx} {E : XK}
theorem not_star {a : Expr} (h : notStar a = true) : ∀ u p, a ≠ .Starred u p := fun u p e => by subst e; cases h
theorem CxOk.kind (k : CxOk c X E) {x : Str} {kd : Option NameKind} (h : kindB c x = kd) : X.env.scope.names.lookup x = kd := by rw [k.sc]; exact h
theorem cPar_ok (gE : GoodE rE) (k : CxOk c X E) (hb : c.blk = false) {ts vs : List Expr} {k1 k2 : Nat} {p1 p2 pos : Pos} {m : MS} (h : cPar c rE ts vs = some m) : PS X (.Assign [.Tuple ts k1 p1] (.Tuple vs k2 p2) pos) (tMS X.K E m) := by
  have hf := (k.fn hb).2.1
  unfold cPar at h
  split at h
  · split at h
    · rename_i hz
      obtain ⟨_, _, lx, ly, ll, ne, na, nb, hf1, hf2⟩ := hz
      split at h
      · rename_i i j ma mb e1 e2 e3 e4
        split at h
        · rename_i hij
          cases h
          exact ms_par2 k.calm k.nd' (k.slot e1) (k.slot e2) hij (k.kind lx) (k.kind ly) (gE c X E _ _ _ k e3) (gE c X E _ _ _ k e4) (star_cons na) (star_cons nb)
            (swapped2 hf (k.kind lx) (k.kind ly) ll ne (not_star na) (not_star nb) hf1 hf2)
        · cases h
      · cases h
    · cases h
  · split at h
    · rename_i hz
      obtain ⟨lx, ly, lz, ll, ll2, n1, n2, n3, na, nb, nd, hf1, hf2⟩ := hz
      split at h
      · rename_i i j l ma mb md e1 e2 e3 e4 e5 e6
        split at h
        · rename_i hij
          cases h
          exact ms_par3 k.calm k.nd' (k.slot e1) (k.slot e2) (k.slot e3) hij.1 hij.2.1 hij.2.2 (k.kind lx) (k.kind ly) (k.kind lz) (gE c X E _ _ _ k e4) (gE c X E _ _ _ k e5) (gE c X E _ _ _ k e6) (star_cons na) (star_cons nb) (star_cons nd)
            (swapped3 hf (k.kind lx) (k.kind ly) (k.kind lz) ll ll2 n1 n2 n3 (not_star na) (not_star nb) (not_star nd) hf1 hf2)
        · cases h
      · cases h
    · cases h
  · cases h
theorem CxOk.store (k : CxOk c X E) (hb : c.blk = false) {x : Str} (h : kindB c x = some .local ∨ kindB c x = some .cell) : L2.Loc X.env.scope x ∧ (X.fn x = true ∨ X.env.scope.names.lookup x = some .local) := k.loc (h.imp id fun z => ⟨.inl hb, z⟩)
theorem assign_sub {o i : Expr} {pos : Pos} (h : notSlice i = true) : ∀ v, assign (.Subscript o i pos) X.env v = (do
      let ov ← holding [v] (eval o X.env)
      let iv ← holding [v, ov] (eval i X.env)
      standAt pos
      holding [v, ov, iv] (setItem ov iv v)
      release [v, ov, iv] []) := by
  intro v
  cases i <;> first | rfl | cases h
theorem aug_sub {i : Expr} (h : notSlice i = true) : ∀ ov iv new, augStore i ov iv new = (do holding [new, ov, iv] (setItem ov iv new); release [new, ov, iv] []; pure .next) := by
  intro ov iv new
  cases i <;> first | rfl | cases h
theorem cAsg_ok (gE : GoodE rE) (gT : GoodT rT) (k : CxOk c X E) (hb : c.blk = false) {t e : Expr} {pos : Pos} {m : MS} (h : cAsg c rE rT t e = some m) : PS X (.Assign [t] e pos) (tMS X.K E m) := by
  have hf := (k.fn hb).2.1
  unfold cAsg at h
  split at h
  · split at h
    · rename_i hz
      obtain ⟨rfl, hp, hk⟩ := hz
      split at h
      · rename_i i p e1 e2
        cases h
        obtain ⟨h1, h2, h3, h4, h5, h6, h7⟩ := cComp_ok gE gT k e2
        obtain ⟨s1, s2⟩ := k.store hb hk
        rename_i y tp elt tg iter ifs scope vp _ _
        have fk : FinOk X.K (if decide (y ∈ c.held) = true then finH else finL) := by
          split
          · exact fin_h
          · exact fin_l
        have hs := swaps_lc (env := X.env) (elt := elt) (gs := [⟨tg, iter, ifs, 0⟩]) (scope := scope) (vp := vp) (tp := tp) (t := y) (l := pos.line) (kd := kindB c y) hf (k.kind rfl)
        cases hc : (kindB c y == some .local) && (tp.line == vp.line) && !(scope.names.any fun (n, k) => n == y && (k == .local || k == .cell)) with
        | true =>
          rw [hc] at hs
          simp only [Bool.and_eq_true, beq_iff_eq] at hc
          exact ps_imp (ms_setLc k.calm k.nd' (k.slot e1) (k.kind hc.1.1) hs h1 h2 h3 fk h4 h5 h6 (folded_of h7)) fun _ _ _ z => tAsg_of z
        | false =>
          rw [hc] at hs
          exact ms_set k.nd' (k.slot e1) s1 (me_lc k.calm k.nd' h1 h2 h3 fk h4 h5 h6 (folded_of h7)) hs s2
      · cases h
    · cases h
  · split at h
    · rename_i hz
      obtain ⟨hn, hp, hk⟩ := hz
      split at h
      · rename_i i m e1 e2
        cases h
        obtain ⟨s1, s2⟩ := k.store hb hk
        exact ms_set k.nd' (k.slot e1) s1 (gE c X E _ _ _ k e2) (swaps_some hn) s2
      · cases h
    · cases h
  · split at h
    · exact cPar_ok gE k hb h
    · rename_i hz
      split at h
      · rename_i p m e1 e2
        cases h
        obtain ⟨g1, g2⟩ := cG_ok k 9 (m := p.1) (vs := p.2) (by simpa using e1)
        refine ms_unpack (gE c X E _ _ _ k e2) g1 (g2 p.2 fun _ z => z) sole_tup ?_ rfl
        cases ha : List.any _ (isCell c) with
        | false => exact swapped_len (fun z => hz ⟨.inl z, ha⟩) fun z => hz ⟨.inr z, ha⟩
        | true =>
          obtain ⟨t, t1, t2⟩ := List.any_eq_true.mp ha
          cases t with
          | Name x q => exact swapped_cell t1 rfl (k.kind (beq_iff_eq.mp t2))
          | _ => cases t2
      · cases h
  · split at h
    · rename_i hz
      split at h
      · rename_i p m e1 e2
        cases h
        obtain ⟨g1, g2⟩ := cG_ok k 9 (m := p.1) (vs := p.2) (by simpa using e1)
        exact ms_unpack (gE c X E _ _ _ k e2) g1 (g2 p.2 fun _ z => z) sole_tup (swapped_not hz) rfl
      · cases h
    · cases h
  · split at h
    · rename_i hz
      split at h
      · rename_i mo mi me e1 e2 e3
        cases h
        exact ms_setSub sr_set (gE c X E _ _ _ k e3) (gE c X E _ _ _ k e1) (gE c X E _ _ _ k e2) (assign_sub hz) sole_sub swapped_sub rfl
      · cases h
    · cases h
  · cases h
theorem cAug_ok (gE : GoodE rE) (k : CxOk c X E) (hb : c.blk = false) {t e : Expr} {op : Operator} {pos : Pos} {m : MS} (h : cAug c rE op t e = some m) : PS X (.AugAssign t op e pos) (tMS X.K E m) := by
  unfold cAug at h
  split at h
  · split at h
    · rename_i hz
      split at h
      · rename_i i f m e1 e2 e3
        cases h
        obtain ⟨s1, s2⟩ := k.store hb hz.2
        exact ms_aug k.nd' (k.slot e1) s1 (gE c X E _ _ _ k e3) (augTab_ok e2) s2
      · cases h
    · cases h
  · split at h
    · rename_i hz
      split at h
      · rename_i f mo mi me e1 e2 e3 e4
        cases h
        exact ms_augSub gr_ix (augTab_ok e1) sr_set (gE c X E _ _ _ k e2) (gE c X E _ _ _ k e3) (gE c X E _ _ _ k e4) (aug_sub hz)
      · cases h
    · cases h
  · cases h
mutual
theorem cS_ok (gE : GoodE rE) (gT : GoodT rT) (k : CxOk c X E) (hb : c.blk = false) : ∀ (n : Nat) {st : Stmt} {m : MS}, cS c rE rT n st = some m → PS X st (tMS X.K E m)
  | 0, st, m, h => by simp [cS] at h
  | n + 1, st, m, h => by
    unfold cS at h
    split at h
    · cases ‹_ + 1 = 0›
    · cases h; exact ms_retN
    · rw [Option.map_eq_some_iff] at h
      obtain ⟨x, e1, rfl⟩ := h
      split
      · exact ms_ret (gE c X E _ _ _ k e1)
      · exact ms_retF (gE c X E _ _ _ k e1)
    · exact cAsg_ok gE gT k hb h
    · exact cAug_ok gE k hb h
    · split at h
      · rename_i mt ma mb e1 e2 e3
        cases h
        cases ‹n + 1 = _ + 1›
        exact ms_if (gT c X E _ _ k e1) (cSs_ok gE gT k hb n e2) (cSs_ok gE gT k hb n e3)
      · cases h
    · split at h
      · rename_i hz
        split at h
        · rename_i mi p mb e1 e2 e3
          cases h
          cases ‹n + 1 = _ + 1›
          obtain ⟨g1, g2⟩ := cG_ok k 9 (m := p.1) (vs := p.2) (by simpa using e2)
          exact ms_for (k.fn hb).2.2 k.calm (cIter_ok gE k e1) g1 (g2 p.2 fun _ z => z) (cSs_ok gE gT k hb n e3) (folded_of hz)
        · cases h
      · cases h
    · split at h
      · rename_i mt mb e1 e2
        cases h
        cases ‹n + 1 = _ + 1›
        exact ms_while (k.fn hb).2.2 (gT c X E _ _ k e1) (cSs_ok gE gT k hb n e2)
      · cases h
    · split at h
      · rename_i hz
        rw [Option.map_eq_some_iff] at h
        obtain ⟨x, e1, rfl⟩ := h
        exact ms_do (gE c X E _ _ _ k e1) (swaps_none hz)
      · cases h
    · cases h; exact ms_bad
    · cases h; exact ms_pass
    · cases h; exact ms_break
    · cases h; exact ms_cont
    · cases h
theorem cSs_ok (gE : GoodE rE) (gT : GoodT rT) (k : CxOk c X E) (hb : c.blk = false) : ∀ (n : Nat) {sts : List Stmt} {m : MS}, cSs c rE rT n sts = some m → PSs X sts (tMS X.K E m)
  | 0, sts, m, h => by simp [cSs] at h
  | n + 1, [], m, h => by
    simp only [cSs, Option.some.injEq] at h
    subst h
    exact mss_nil
  | n + 1, [st], m, h => by
    simp only [cSs] at h
    exact mss_one (cS_ok gE gT k hb n h)
  | n + 1, st :: st2 :: r, m, h => by
    simp only [cSs] at h
    split at h
    · rename_i a b e1 e2
      cases h
      exact mss_cons (cS_ok gE gT k hb n e1) (cSs_ok gE gT k hb n e2)
    · cases h
end
end
/-- a def's body, compiled -/
noncomputable def cBody (c : Cfg) (body : List Stmt) : Option MS := cSs c (comp 30).1 (comp 30).2 60 body
theorem cBody_ok {c : Cfg} {X : Cx} {E : XK} {body : List Stmt} {m : MS} (k : CxOk c X E) (hb : c.blk = false) (h : cBody c body = some m) : PSs X body (tMS X.K E m) := cSs_ok (comp_ok 30).1 (comp_ok 30).2 k hb 60 h
end Tb
end

section
set_option maxHeartbeats 4000000
namespace Tb
open PySem PySem.Spec PyProof.Rows L2
/-! ## the end: a law by its def's mirror -/
def MH.zero : MH := ⟨fun _ => none, 0⟩
/-- what the law's mirror must tell -/
def Tells (F : Fn) : Prop := ∀ ns : List Int, ns.length ≤ 63 → ∃ h, F [.scr ns] MH.zero = .ok (.bl true) h
theorem vals_of_ints : ∀ {us : List Value} {ns : List Int}, IntsAre us ns → Vals (ns.map V.int) us
  | _, _, .nil => Paired.nil
  | _, _, .cons n t r => Paired.cons ⟨t, rfl⟩ (vals_of_ints r)
theorem spM_law {K : PySem.W.Frag} {F : Fn} {H : Hp} {a : Addr} {ns : List Int} {E : XK} (hF : Tells F) (hl : ns.length ≤ 63) (hS : SqL K H a (ns.map V.int)) : spM K F 1 [.ref a] H (fun v _ => v = .bl true) E := by
  obtain ⟨h1, e1⟩ := hF ns hl
  have no : ∀ b, ¬ Own (⟨fun _ => 0, MH.zero, H, fun _ => False⟩ : W3) b := fun b z => by
    rcases z with ⟨n, o, q, _⟩ | z
    · cases q
    · exact z
  refine ⟨rfl, ⟨fun _ => 0, MH.zero, H, fun _ => False⟩, [.scr ns], rfl, ⟨fun n o q => (by cases q), fun n m o u q => (by cases q), fun b q => q.elim, fun n o q => (by cases q)⟩, Reps.cons ?_ Reps.nil, ?_⟩
  · simp only [Rep]
    exact ⟨a, rfl, hS.imp (fun q => ⟨q, no a⟩) id⟩
  · show PostW K E (RepD K) _ (F [.scr ns] MH.zero) _
    rw [e1]
    intro w' v _ _ _ r
    exact rep_bl.mp r
section
variable {P : Program} {w : World} {K : PySem.W.Frag} {mg mb : Str → Option Value} {k : Nat} {fa a : Addr} {fd : FuncData} {x : Str} {F : Fn} {s₁ : Shared} {us : List Value} {ns : List Int}
/-- with a heap that tracks the script alone, or nothing -/
theorem end_core {H : Hp} (KX : K.In s₁.heap) (n1 : s₁.heap.Ns mainGlobals mg) (n2 : s₁.heap.Ns builtinsNs mb) (n3 : ∀ y : Str, y ≠ "__name__" → mb y = bootBuiltins y) (n4 : s₁.heap.NoLimit) (hg : s₁.gens = #[])
    (ha : s₁.heap.get? a = some { cls := .type "list", data := .seq us.toArray }) (hl : ns.length ≤ 63) (hr : Room k callerA) (hF : Tells F)
    (G : ∀ base : Heap, K.In base → base.Ns mainGlobals mg → FnG P w K mg base k fa fd [x] (spM K F 1)) (hb : ∀ (s : Shared) (u : Value), BindsTo s fd ⟨[u], []⟩ [(x, u)])
    (fz : ∀ b u, H b = some u → ∃ o xs, u = HO.frz o (.lst xs)) (hS : SqL K H a (ns.map V.int)) (hok : HOk P w H s₁.heap) (hA : ∀ b, H b ≠ none → b = a) (hK : H a ≠ none → K.lookup a = none) :
    codeAny (model P w) callerA (.call (.ref fa) ⟨[.ref a], []⟩) (fun r s' => r = .ok (.ret (.bool true)) ∧ OldK s₁.heap s'.heap ∧ s'.os = s₁.os ∧ AllBare s'.gens) s₁ := by
  have tracked : ∀ {b : Addr}, H b ≠ none → s₁.heap.get? b = some { cls := .type "list", data := .seq us.toArray } := fun {b} q => by rw [hA b q]; exact ha
  have seen : ∀ {b : Addr} {o : Obj}, s₁.heap.get? b = some o → H b = none → (hidT s₁.heap H).get? b = some o := fun e q => hidT_get e q
  have dictFree : ∀ {b : Addr} {o : Obj} {es : Array DictEntry} {ep : Nat}, s₁.heap.get? b = some o → o.data = .dict es ep → H b = none := fun {b o es ep} e d => by
    by_cases q : H b = none
    · exact q
    · have z := tracked q
      rw [e] at z
      cases z
      cases (show Data.seq us.toArray _ = Data.dict es ep from d)
  have nsOf : ∀ {b : Addr} {m : Str → Option Value}, s₁.heap.Ns b m → (hidT s₁.heap H).Ns b m := fun ⟨o, es, ep, e, d, r⟩ => ⟨o, es, ep, seen e (dictFree e d), d, r⟩
  have kin : K.In (hidT s₁.heap H) := fun b o e => seen (KX b o e) (by
    by_cases q : H b = none
    · exact q
    · have z := hA b q
      subst z
      rw [hK q] at e
      cases e)
  have md : Mod K mg (hidT s₁.heap H) := ⟨kin, nsOf n1, ⟨mb, nsOf n2, n3⟩, let ⟨mc, c1, c2⟩ := n4; ⟨mc, nsOf c1, c2⟩⟩
  have e0 : Env0 P w K mg (hidT s₁.heap H) callerA [] s₁ H := ⟨rfl, md, fun b o e => of_hidT e, Nat.le_of_eq (hidT_size _ _), trivial, fun b q => absurd (show b ∈ ([] : List Addr) from q) (by simp), hok, .of_eq hg⟩
  have go := (G _ kin (nsOf n1)).run callerA [] s₁ H ⟨[.ref a], []⟩ [.ref a] [.ref a] _ (fun _ _ _ => False) rfl hr e0 (hb s₁ (.ref a)) (Paired.cons rfl Paired.nil) (spM_law hF hl hS)
  refine codeAny_mono go fun r s' q => ?_
  match r, q with
  | .error e, q =>
    obtain ⟨_, _, _, _, _, _, _, _, _, _, _, _, z⟩ := q
    exact z.elim
  | .ok .next, q => exact False.elim q
  | .ok .brk, q => exact False.elim q
  | .ok .cont, q => exact False.elim q
  | .ok (.ret u), q =>
    obtain ⟨v, H', os, bare, un, hok', rv, e⟩ := q
    have e' : v = .bl true := e
    subst e'
    have eu : u = Value.bool true := rv
    subst eu
    refine ⟨rfl, OldK.of_keep fun b o e => ?_, os, bare⟩
    cases hz : H b with
    | none => exact un.keep b o e hz (fun z => absurd (show b ∈ ([] : List Addr) from z) (by simp)) (by simp)
    | some ob =>
      obtain ⟨oo, xs, rfl⟩ := fz b ob hz
      have z2 := un.frzs b oo _ hz
      obtain ⟨f1, _⟩ := hok b _ hz
      obtain ⟨f2, _⟩ := hok' b _ z2
      rw [e] at f1
      cases f1
      exact f2
theorem end_call (KX : K.In s₁.heap) (n1 : s₁.heap.Ns mainGlobals mg) (n2 : s₁.heap.Ns builtinsNs mb) (n3 : ∀ y : Str, y ≠ "__name__" → mb y = bootBuiltins y) (n4 : s₁.heap.NoLimit) (hg : s₁.gens = #[])
    (ha : s₁.heap.get? a = some { cls := .type "list", data := .seq us.toArray }) (hi : IntsAre us ns) (hl : ns.length ≤ 63) (hr : Room k callerA) (hF : Tells F)
    (G : ∀ base : Heap, K.In base → base.Ns mainGlobals mg → FnG P w K mg base k fa fd [x] (spM K F 1)) (hb : ∀ (s : Shared) (u : Value), BindsTo s fd ⟨[u], []⟩ [(x, u)]) :
    codeAny (model P w) callerA (.call (.ref fa) ⟨[.ref a], []⟩) (fun r s' => r = .ok (.ret (.bool true)) ∧ OldK s₁.heap s'.heap ∧ s'.os = s₁.os ∧ AllBare s'.gens) s₁ := by
  have rv := vals_of_ints hi
  have len := hi.length
  have hz : ns.length ≤ sizeLine := Nat.le_trans hl (by decide)
  cases hk : K.lookup a with
  | some o =>
    have e := KX a o hk
    rw [ha] at e
    cases e
    exact end_core (H := fun _ => none) KX n1 n2 n3 n4 hg ha hl hr hF G hb (fun b u z => by cases z) (.inr ⟨_, us.toArray, _, hk, rfl, rfl, rfl, by rw [List.size_toArray, len]; exact hz, by simpa using rv⟩) (fun b u z => by cases (show (none : Option HO) = some u from z)) (fun b z => absurd rfl z) fun z => absurd rfl z
  | none =>
    have at_ : ∀ {b : Addr} {u : HO}, (if b = a then some (HO.frz { cls := .type "list", data := .seq us.toArray } (.lst (ns.map V.int))) else none) = some u → b = a ∧ u = HO.frz { cls := .type "list", data := .seq us.toArray } (.lst (ns.map V.int)) := fun {b u} z => by
      split at z
      · cases z
        exact ⟨by assumption, rfl⟩
      · cases z
    refine end_core (H := fun b => if b = a then some (.frz { cls := .type "list", data := .seq us.toArray } (.lst (ns.map V.int))) else none) KX n1 n2 n3 n4 hg ha hl hr hF G hb (fun b u z => ⟨_, _, (at_ z).2⟩) (.inl (.inr ⟨{ cls := .type "list", data := .seq us.toArray }, if_pos rfl⟩)) (fun b u z => ?_) (fun b z => ?_) fun _ => hk
    · obtain ⟨rfl, rfl⟩ := at_ z
      exact ⟨ha, by rw [List.length_map]; exact hz, us, _, rv, ha⟩
    · by_cases q : b = a
      · exact q
      · exact absurd (if_neg q) z
end
/-- a law's promise, by the written part, the def, its mirror -/
theorem law_of {l : PySem.W.OpenLaw} {k : Nat} {q : Program} {loose : List Str} {XP : (Str → Option Value) → Heap → Prop} {YP : World → Heap → Prop} {d : DefRec} {x : Str} {F : Fn}
    (hn : l.most = some 63) (hdf : d.params.defaults = []) (hr : Room k callerA) (hF : Tells F)
    (G : ∀ (w : World) (mg : Str → Option Value) (fa : Addr) (h : Heap), YP w h → h.Ns mainGlobals mg → mg d.name = some (.ref fa) →
      ∃ (K : PySem.W.Frag) (fd : FuncData), K.In h ∧ (∀ (s : Shared) (u : Value), BindsTo s fd ⟨[u], []⟩ [(x, u)]) ∧ ∀ base : Heap, K.In base → base.Ns mainGlobals mg → FnG l.prog w K mg base k fa fd [x] (spM K F 1)) :
    PySem.W.WalkO q loose XP YP l.row.toRowW d [] (fun f vs => PySem.call f vs) := by
  refine Att.attach_call hn hdf fun w s₀ s₁ mg mb fa o pm cd doc a us ns Gd Y _ _ _ hm hobj hints hlen hg => ?_
  obtain ⟨K, fd, KX, hb, hG⟩ := G w mg fa _ Y Gd.T.g hm
  exact end_call KX Gd.T.g Gd.T.b Gd.T.builtins Gd.T.nolimit hg hobj hints hlen hr hF hG hb
end Tb
end

section
set_option maxHeartbeats 4000000
namespace Tb
open PySem PySem.Spec PyProof.Rows L2
/-! ## defs from their texts -/
noncomputable def mLc (mi : MI) (vs : List Nat) (mg : MG) (mt : MT) (me : ME) (f : Fn1) : ME := fun s h => (mComp mi vs mg mt me s h).bind f
def mAsB (m : ME) : MT := fun s h => asB (m s h)
def gKw (xs ys : List D) : List D := xs ++ ys
/-- keywords in the parameters' order: (j, true) the j-th keyword's value, (j, false) the j-th default -/
def kPick {α : Type} (ix : List (Nat × Bool)) (us its ws : List α) : List α := us ++ ix.filterMap fun p => if p.2 = true then ws[p.1]? else its[p.1]?
theorem vals_opt : ∀ {vs : List V} {us : List Value} (j : Nat), Vals vs us → (vs[j]? = none ∧ us[j]? = none) ∨ ∃ v u, vs[j]? = some v ∧ us[j]? = some u ∧ RelV v u
  | [], _, j, .nil => .inl ⟨rfl, rfl⟩
  | v :: vs, u :: us, 0, .cons r t => .inr ⟨v, u, rfl, rfl, r⟩
  | v :: vs, u :: us, j + 1, .cons r t => by simpa using vals_opt j t
theorem kPick_vals {ix : List (Nat × Bool)} {vs ds zs : List V} {us its ws : List Value} (r1 : Vals vs us) (r2 : Vals ds its) (r3 : Vals zs ws) : Vals (kPick ix vs ds zs) (kPick ix us its ws) := by
  refine r1.append ?_
  induction ix with
  | nil => exact .nil
  | cons p ix ih =>
    obtain ⟨j, b⟩ := p
    rw [List.filterMap_cons, List.filterMap_cons]
    cases b with
    | true =>
      simp only [if_true]
      rcases vals_opt j r3 with ⟨e1, e2⟩ | ⟨v, u, e1, e2, r⟩
      · rw [e1, e2]; exact ih
      · rw [e1, e2]; exact .cons r ih
    | false =>
      simp only [Bool.false_eq_true, if_false]
      rcases vals_opt j r2 with ⟨e1, e2⟩ | ⟨v, u, e1, e2, r⟩
      · rw [e1, e2]; exact ih
      · rw [e1, e2]; exact .cons r ih
theorem reps_opt {K : PySem.W.Frag} {w : W3} : ∀ {ds : List D} {vs : List V} (j : Nat), Reps K w ds vs → (ds[j]? = none ∧ vs[j]? = none) ∨ ∃ d v, ds[j]? = some d ∧ vs[j]? = some v ∧ Rep K w d v
  | [], _, j, h => by rw [h.unnil]; exact .inl ⟨rfl, rfl⟩
  | d :: ds, _, 0, h => by
    obtain ⟨u, us, rfl, h2, h3⟩ := h.uncons
    exact .inr ⟨d, u, rfl, rfl, h2⟩
  | d :: ds, _, j + 1, h => by
    obtain ⟨u, us, rfl, h2, h3⟩ := h.uncons
    simpa using reps_opt j h3
theorem kPick_reps {K : PySem.W.Frag} {w : W3} {ix : List (Nat × Bool)} {xs ys zs : List D} {us vs ws : List V} (r1 : Reps K w xs us) (r2 : Reps K w ys vs) (r3 : Reps K w zs ws) : Reps K w (kPick ix xs ys zs) (kPick ix us vs ws) := by
  refine r1.append ?_
  induction ix with
  | nil => exact Reps.nil
  | cons p ix ih =>
    obtain ⟨j, b⟩ := p
    rw [List.filterMap_cons, List.filterMap_cons]
    cases b with
    | true =>
      simp only [if_true]
      rcases reps_opt j r3 with ⟨e1, e2⟩ | ⟨v, u, e1, e2, r⟩
      · rw [e1, e2]; exact ih
      · rw [e1, e2]; exact Reps.cons r ih
    | false =>
      simp only [Bool.false_eq_true, if_false]
      rcases reps_opt j r2 with ⟨e1, e2⟩ | ⟨v, u, e1, e2, r⟩
      · rw [e1, e2]; exact ih
      · rw [e1, e2]; exact Reps.cons r ih
/-- a call shape, said without a context -/
def ShG (P : Program) (w : World) (K : PySem.W.Frag) (mg : Str → Option Value) (base : Heap) (k : Nat) (sh : Sh) : Prop := ∃ (f : Addr) (fd : FuncData) (ps : List Str), ps.length = sh.np ∧ mg sh.name = some (.ref f) ∧ PySem.W.keepIn K (.ref f) = true ∧ FnG P w K mg base k f fd ps (spM K sh.F ps.length) ∧
  (sh.ks = [] → ∃ dvs ds, Vals dvs ds ∧ Binds K fd ps ds ∧ ∀ w, Reps K w sh.dv dvs) ∧
  (sh.ks ≠ [] → ∃ g gV, KBn K fd ps sh.n sh.ks g gV ∧ ∀ (w : W3) (ds es : List D) (vs zs : List V), Reps K w ds vs → Reps K w es zs → Reps K w (sh.gD ds es) (gV vs zs))
/-- a constant of the module -/
def ConG (K : PySem.W.Frag) (mg : Str → Option Value) (p : Str × D) : Prop := ∃ u v, mg p.1 = some u ∧ RelV v u ∧ ∀ w, Rep K w p.2 v
def allP {α : Type} (p : α → Prop) : List α → Prop
  | [] => True
  | x :: xs => p x ∧ allP p xs
theorem allP_mem {α : Type} {p : α → Prop} : ∀ {l : List α}, allP p l → ∀ x ∈ l, p x
  | _ :: _, h, _, .head _ => h.1
  | _ :: _, h, _, .tail _ q => allP_mem h.2 _ q
section
variable {P : Program} {w : World} {K : PySem.W.Frag} {mg : Str → Option Value} {base : Heap} {x qual : Str} {params : Arguments} {body : List Stmt} {scope : Scope} {dvs : List V} {kws : List (Str × V)} {f : Addr} {fd : FuncData} {ps : List Str} {k j : Nat}
theorem ShG.mono {sh : Sh} (h : ShG P w K mg base j sh) (hj : j ≤ k) : ShG P w K mg base k sh := by
  obtain ⟨f, fd, ps, h1, h2, h3, h4, h5⟩ := h
  exact ⟨f, fd, ps, h1, h2, h3, h4.mono hj, h5⟩
theorem fng_of {c : Cfg} {m : MS} (F : FunD K x qual params body scope dvs kws f fd) (S : FnScope c.N ps scope) (hs : c.sc = scope) (hb : c.blk = false) (hm : cBody c body = some m) (hG : allP (ShG P w K mg base k) c.G) (hC : allP (ConG K mg) c.C) (hB : allP (fun y => mg y = none) c.B) (hcel : c.cel = [] := by rfl) :
    FnG P w K mg base (k + 1) f fd ps (spM K (fnM c.N.length m) ps.length) := by
  refine fng F S fun X e1 e2 e3 e4 e5 e6 e7 h1 h2 h3 h4 h5 E h6 h7 => ?_
  subst e1 e2 e3 e4 e5
  exact cBody_ok (c := c) ⟨e6, S.nd, e7.trans hs.symm, h1, h3, ⟨k, h4, allP_mem hG⟩, allP_mem hC, allP_mem hB, fun _ => ⟨h2, h5, h7⟩, h6, by rw [hcel]; exact fun y hy => (nomatch hy)⟩ hb hm
theorem sh_pos {F : Fn} {name : Str} {n : Nat} {gD : List D → List D → List D} (G : FnG P w K mg base k f fd ps (spM K F ps.length)) (hm : mg name = some (.ref f)) (hk : PySem.W.keepIn K (.ref f) = true) (hb : Binds K fd ps []) : ShG P w K mg base k ⟨name, n, [], ps.length, F, [], gD⟩ :=
  ⟨f, fd, ps, rfl, hm, hk, G, fun _ => ⟨[], [], .nil, hb, fun _ => Reps.nil⟩, fun z => absurd rfl z⟩
theorem sh_dfl {F : Fn} {name : Str} {n : Nat} {dv : List D} {dvs : List V} {gD : List D → List D → List D} (G : FnG P w K mg base k f fd ps (spM K F ps.length)) (hm : mg name = some (.ref f)) (hk : PySem.W.keepIn K (.ref f) = true) (hb : ∃ ds, Vals dvs ds ∧ Binds K fd ps ds) (hr : ∀ w, Reps K w dv dvs) :
    ShG P w K mg base k ⟨name, n, [], ps.length, F, dv, gD⟩ :=
  let ⟨ds, h1, h2⟩ := hb
  ⟨f, fd, ps, rfl, hm, hk, G, fun _ => ⟨dvs, ds, h1, h2, hr⟩, fun z => absurd rfl z⟩
theorem sh_kw {F : Fn} {name : Str} {n : Nat} {ks : List Str} {dv : List D} {gD : List D → List D → List D} {g : List Value → List Value → List Value} {gV : List V → List V → List V} (G : FnG P w K mg base k f fd ps (spM K F ps.length)) (hm : mg name = some (.ref f)) (hk : PySem.W.keepIn K (.ref f) = true)
    (hn : ks ≠ []) (hb : KBn K fd ps n ks g gV) (hr : ∀ (w : W3) (ds es : List D) (vs zs : List V), Reps K w ds vs → Reps K w es zs → Reps K w (gD ds es) (gV vs zs)) : ShG P w K mg base k ⟨name, n, ks, ps.length, F, dv, gD⟩ :=
  ⟨f, fd, ps, rfl, hm, hk, G, fun z => absurd z hn, fun _ => ⟨g, gV, hb, hr⟩⟩
theorem fng_bad (hl : ps.length = ps.length) : FnG P w K mg base k f fd ps (spM K (fun _ _ => .bad) ps.length) :=
  ⟨fun vs H Q E h => h.1, fun A outer s H args us vs Q E _ _ _ _ _ h => by
    obtain ⟨_, w0, ds, _, _, _, q⟩ := h
    exact q.elim⟩
theorem con_int {h : Heap} {i : Int} (X : K.In h) (G : h.Ns mainGlobals mg) (c : (He.Fa.int x i).ok K = true) : ConG K mg (x, .int i) := by
  obtain ⟨t, e⟩ := He.int_ok X G c
  exact ⟨_, .int i, e, ⟨t, rfl⟩, fun w => rep_int.mpr rfl⟩
theorem con_str {h : Heap} {z : Str} (X : K.In h) (G : h.Ns mainGlobals mg) (c : (He.Fa.str x z).ok K = true) : ConG K mg (x, .str z) := by
  obtain ⟨t, e⟩ := He.str_ok X G c
  exact ⟨_, .str z, e, ⟨t, rfl⟩, fun w => rep_str.mpr rfl⟩
end
end Tb
end

section
set_option maxHeartbeats 4000000
namespace Tb
open PySem PySem.Spec PyProof.Rows L2
/-! ## what a mirror tells: a calculus -/
/-- what stands here is looked at later -/
structure Bx {α : Sort _} (x : α) : Type where
structure Bx4 {α β γ δ : Sort _} (x : α) (y : β) (z : γ) (w : δ) : Type where
def R.en {α : Type} (r : R α) (Q : α → MH → Prop) (_ : Bx Q := ⟨⟩) : Prop := match r with
  | .ok a h => Q a h
  | _ => False
def RS.en (r : RS) (N B C : Sl → MH → Prop) (T : D → MH → Prop) (_ : Bx4 N B C T := ⟨⟩) : Prop := match r with
  | .nx s h => N s h
  | .brk s h => B s h
  | .ct s h => C s h
  | .ret d h => T d h
  | _ => False
/-- the statements behind -/
def Nx (m : MS) (N B C : Sl → MH → Prop) (T : D → MH → Prop) (s : Sl) (h : MH) (_ : Bx4 N B C T := ⟨⟩) : Prop := (m s h).en N B C T
section
variable {α β : Type} {r : R α} {q : RS} {Q Q' : α → MH → Prop} {N B C N' B' C' : Sl → MH → Prop} {T T' : D → MH → Prop} {s : Sl} {h : MH} {d : D}
theorem nx {m : MS} : Nx m N B C T s h = (m s h).en N B C T := rfl
theorem en_ext (e : ∀ a h, Q a h = Q' a h) : r.en Q = r.en Q' := by
  cases r with
  | ok a h => exact e a h
  | _ => rfl
theorem enS_ext (e : ∀ a h, N a h = N' a h) : q.en N B C T = q.en N' B C T := by
  cases q with
  | nx a h => exact e a h
  | _ => rfl
@[simp ↓] theorem en_ok {a : α} : (R.ok a h).en Q = Q a h := id rfl
@[simp ↓] theorem en_bind {f : α → MH → R β} {Q : β → MH → Prop} : (r.bind f).en Q = r.en fun a h => (f a h).en Q := by cases r <;> rfl
@[simp ↓] theorem en_toS {f : α → MH → RS} : (r.toS f).en N B C T = r.en fun a h => (f a h).en N B C T := by cases r <;> rfl
@[simp ↓] theorem en_seqR {f : Sl → MH → RS} : (q.seq f).en N B C T = q.en (fun s h => Nx f N B C T s h) B C T := by cases q <;> rfl
@[simp ↓] theorem en_nx : (RS.nx s h).en N B C T = N s h := id rfl
@[simp ↓] theorem en_ct : (RS.ct s h).en N B C T = C s h := id rfl
@[simp ↓] theorem en_brk : (RS.brk s h).en N B C T = B s h := id rfl
@[simp ↓] theorem en_ret : (RS.ret d h).en N B C T = T d h := id rfl
@[simp ↓] theorem en_bad : (R.bad : R α).en Q = False := id rfl
@[simp ↓] theorem enS_bad : (RS.bad).en N B C T = False := id rfl
theorem R.en_mono {Q' : α → MH → Prop} (h : r.en Q) (i : ∀ a h, Q a h → Q' a h) : r.en Q' := by
  cases r with
  | ok a h1 => exact i a h1 h
  | _ => exact h
theorem RS.en_mono (h : q.en N B C T) (i1 : ∀ s h, N s h → N' s h) (i2 : ∀ s h, B s h → B' s h) (i3 : ∀ s h, C s h → C' s h) (i4 : ∀ s h, T s h → T' s h) : q.en N' B' C' T' := by
  cases q with
  | nx s1 h1 => exact i1 _ _ h
  | brk s1 h1 => exact i2 _ _ h
  | ct s1 h1 => exact i3 _ _ h
  | ret s1 h1 => exact i4 _ _ h
  | _ => exact h
theorem R.en_ex (h : r.en Q) : ∃ a h1, r = .ok a h1 ∧ Q a h1 := by
  cases r with
  | ok a h1 => exact ⟨a, h1, rfl, h⟩
  | _ => exact h.elim
@[simp ↓] theorem en_ite {c : Prop} [Decidable c] {a b : R α} : (if c then a else b).en Q = if c then a.en Q else b.en Q := by split <;> rfl
@[simp ↓] theorem enS_ite {c : Prop} [Decidable c] {a b : RS} : (if c then a else b).en N B C T = if c then a.en N B C T else b.en N B C T := by split <;> rfl
/-! ### the words -/
end
section
variable {Q : D → MH → Prop} {QB : Bool → MH → Prop} {QA : List D → MH → Prop} {QO : Option Int → MH → Prop} {QI : List D × Gd → MH → Prop} {N B C : Sl → MH → Prop} {T : D → MH → Prop} {s : Sl} {h : MH} {d : D}
variable {i j l n : Nat} {a b c : ME} {ma mb : MA} {ta tb : MT} {sa sb : MS} {f g : F2} {mi : MI} {tg : MG}
@[simp ↓] theorem ev_var : (mVar i s h).en Q = match s[i]? with | some (some d) => Q d h | _ => False := by
  unfold mVar
  split <;> simp_all
@[simp ↓] theorem ev_c : (mC d s h).en Q = Q d h := id rfl
@[simp ↓] theorem ev_op : (mOp f a b s h).en Q = (a s h).en fun x h1 => (b s h1).en fun y h2 => (f x y h2).en Q := en_bind.trans (en_ext fun _ _ => en_bind)
@[simp ↓] theorem ev_neg : (mNeg a s h).en Q = (a s h).en fun x h1 => (opNeg x h1).en Q := en_bind
@[simp ↓] theorem ev_rev : (mRev a s h).en Q = (a s h).en fun x h1 => (opRev x h1).en Q := en_bind
@[simp ↓] theorem ev_nil : (mNil s h).en QA = QA [] h := id rfl
@[simp ↓] theorem ev_cons : (mCons a ma s h).en QA = (a s h).en fun x h1 => (ma s h1).en fun xs h2 => QA (x :: xs) h2 := en_bind.trans (en_ext fun _ _ => en_bind)
@[simp ↓] theorem ev_tup : (mTup ma s h).en Q = (ma s h).en fun xs h1 => if xs.length ≤ sizeLine then Q (.tup xs) h1 else False := en_bind.trans (en_ext fun _ _ => en_ite)
@[simp ↓] theorem ev_lst : (mLst ma s h).en Q = (ma s h).en fun xs h1 => if xs.length ≤ sizeLine then Q (.lst xs) h1 else False := en_bind.trans (en_ext fun _ _ => en_ite)
@[simp ↓] theorem ev_lstH : (mLstH ma s h).en Q = (ma s h).en fun xs h1 => if xs.length ≤ sizeLine then Q (.ref h1.next) (h1.new (.lst xs)) else False := en_bind.trans (en_ext fun _ _ => en_ite)
@[simp ↓] theorem ev_if : (mIf ta a b s h).en Q = (ta s h).en fun k h1 => if k = true then (a s h1).en Q else (b s h1).en Q := en_bind.trans (en_ext fun _ _ => en_ite)
@[simp ↓] theorem en_asB {r : R D} : (asB r).en QB = r.en fun d h => match d with | .bl b => QB b h | _ => False := en_bind.trans (en_ext fun d h => by cases d <;> rfl)
@[simp ↓] theorem ev_mAsB : (mAsB a s h).en QB = (a s h).en fun d h => match d with | .bl b => QB b h | _ => False := en_asB
@[simp ↓] theorem ev_chain : (mChain f g a b c s h).en Q = (a s h).en fun x h1 => (b s h1).en fun y h2 => (f x y h2).en fun d h3 => match d with | .bl true => (c s h3).en fun z h4 => (g y z h4).en Q | .bl false => Q (.bl false) h3 | _ => False :=
  en_bind.trans (en_ext fun _ _ => en_bind.trans (en_ext fun _ _ => en_bind.trans (en_asB.trans (en_ext fun d h3 => by
    cases d with
    | bl k =>
      cases k with
      | true => exact en_ite.trans ((if_pos rfl).trans en_bind)
      | false => exact en_ite.trans (if_neg Bool.false_ne_true)
    | _ => rfl))))
@[simp ↓] theorem ev_truth : (mTruth a s h).en QB = (a s h).en fun d h1 => (truth d h1).en QB := en_bind
@[simp ↓] theorem ev_and : (mAnd ta tb s h).en QB = (ta s h).en fun k h1 => if k = true then (tb s h1).en QB else QB false h1 := en_bind.trans (en_ext fun _ _ => en_ite)
@[simp ↓] theorem ev_or : (mOr ta tb s h).en QB = (ta s h).en fun k h1 => if k = true then QB true h1 else (tb s h1).en QB := en_bind.trans (en_ext fun _ _ => en_ite)
@[simp ↓] theorem ev_not : (mNot ta s h).en QB = (ta s h).en fun k h1 => QB (!k) h1 := en_bind
@[simp ↓] theorem ev_andV : (mAndV a b s h).en Q = (a s h).en fun d h => match d with | .bl true => (b s h).en Q | .bl false => Q (.bl false) h | _ => False :=
  en_bind.trans (en_asB.trans (en_ext fun d h => by cases d with
    | bl k => cases k <;> rfl
    | _ => rfl))
@[simp ↓] theorem ev_orV : (mOrV a b s h).en Q = (a s h).en fun d h => match d with | .bl true => Q (.bl true) h | .bl false => (b s h).en Q | _ => False :=
  en_bind.trans (en_asB.trans (en_ext fun d h => by cases d with
    | bl k => cases k <;> rfl
    | _ => rfl))
@[simp ↓] theorem ev_notV : (mNotV a s h).en Q = (a s h).en fun d h => match d with | .bl b => Q (.bl !b) h | _ => False := en_bind.trans en_asB
@[simp ↓] theorem ev_noPart : (mNoPart s h).en QO = QO none h := id rfl
@[simp ↓] theorem ev_part : (mPart a s h).en QO = (a s h).en fun d h1 => match d with | .int i => QO (some i) h1 | _ => False := en_bind.trans (en_ext fun d h => by cases d <;> rfl)
@[simp ↓] theorem ev_cut {p : D → Option Int → Option Int → MH → R D} {lo hi : MO'} : (mCut p a lo hi s h).en Q = (a s h).en fun d h1 => (lo s h1).en fun l h2 => (hi s h2).en fun u h3 => (p d l u h3).en Q :=
  en_bind.trans (en_ext fun _ _ => en_bind.trans (en_ext fun _ _ => en_bind))
@[simp ↓] theorem ev_callB {p : FB} : (mCallB p ma s h).en Q = (ma s h).en fun ds h1 => (p ds h1).en Q := en_bind
@[simp ↓] theorem ev_meth {t : String} {p : FM} : (mMeth t p a ma s h).en Q = (a s h).en fun d h1 => if kindIs t d h1 = true then (ma s h1).en fun ds h2 => (p d ds h2).en Q else False :=
  en_bind.trans (en_ext fun _ _ => en_ite.trans (by rw [en_bind]; rfl))
@[simp ↓] theorem ev_call {F : Fn} {dv : List D} : (mCall n F dv ma s h).en Q = (ma s h).en fun ds h1 => if ds.length + dv.length = n then (F (ds ++ dv) h1).en Q else False := en_bind.trans (en_ext fun _ _ => en_ite)
@[simp ↓] theorem ev_callK {F : Fn} {gd : List D → List D → List D} : (mCallK n l i F gd ma mb s h).en Q = (ma s h).en fun ds h1 => (mb s h1).en fun es h2 => if ds.length = n ∧ es.length = l ∧ (gd ds es).length = i then (F (gd ds es) h2).en Q else False :=
  en_bind.trans (en_ext fun _ _ => en_bind.trans (en_ext fun _ _ => en_ite))
@[simp] theorem ev_gKw {xs ys : List D} : gKw xs ys = xs ++ ys := id rfl
@[simp ↓] theorem ev_lc {vs : List Nat} {mt : MT} {fin : Fn1} : (mLc mi vs tg mt a fin s h).en Q = (mi s h).en fun p h1 => (compLoop p.2 tg mt a (wipeM s vs) p.1 [] h1).en fun xs h2 => (fin xs h2).en Q :=
  en_bind.trans (en_bind)
@[simp ↓] theorem ev_iter : (mIter a s h).en QI = (a s h).en fun d h1 => (itOf d h1).en QI := en_bind
@[simp ↓] theorem ev_range1 : (mRange1 a s h).en QI = (a s h).en fun d h1 => match d with | .int j => if -4611686018427387904 ≤ j ∧ j < 4611686018427387904 then QI (rangeD 0 j.toNat, none) h1 else False | _ => False := en_bind.trans (en_ext fun d h => by
  cases d <;> first | rfl | exact en_ite)
@[simp ↓] theorem ev_range2 : (mRange2 a b s h).en QI = (a s h).en fun d h1 => (b s h1).en fun e h2 => match d, e with
  | .int i, .int j => if -4611686018427387904 ≤ i ∧ i < 4611686018427387904 ∧ -4611686018427387904 ≤ j ∧ j < 4611686018427387904 then QI (rangeD i (j - i).toNat, none) h2 else False
  | _, _ => False := en_bind.trans (en_ext fun d h => en_bind.trans (en_ext fun e h => by
  cases d <;> first | rfl | (cases e <;> first | rfl | exact en_ite)))
@[simp ↓] theorem ev_skip : (mSkip s h).en N B C T = N s h := id rfl
@[simp ↓] theorem ev_seq : (mSeq sa sb s h).en N B C T = (sa s h).en (fun s h => Nx sb N B C T s h) B C T := en_seqR
@[simp ↓] theorem ev_break : (mBreak s h).en N B C T = B s h := id rfl
@[simp ↓] theorem ev_cont : (mCont s h).en N B C T = C s h := id rfl
@[simp ↓] theorem ev_ret : (mRet a s h).en N B C T = (a s h).en fun d h1 => T d h1 := en_toS
@[simp ↓] theorem ev_retN : (mRetN s h).en N B C T = T .non h := id rfl
/-- a value that is handed back -/
def ret1 (d : D) (h : MH) (T : D → MH → Prop) (_ : Bx T := ⟨⟩) : Prop := match d with
  | .ref n => match h.get n with
    | some (.lst xs) => T (.lst xs) (h.drop n)
    | none => False
  | d => T d h
@[simp ↓] theorem ev_retF : (mRetF a s h).en N B C T = (a s h).en fun d h1 => ret1 d h1 T := en_toS.trans (en_ext fun d h => by
  cases d with
  | ref n =>
    unfold ret1
    simp only
    cases e : h.get n with
    | none => rfl
    | some o => cases o; rfl
  | _ => rfl)
@[simp ↓] theorem ret1_int {i : Int} : ret1 (.int i) h T = T (.int i) h := id rfl
@[simp ↓] theorem ret1_bl {i : Bool} : ret1 (.bl i) h T = T (.bl i) h := id rfl
@[simp ↓] theorem ret1_str {i : Str} : ret1 (.str i) h T = T (.str i) h := id rfl
@[simp ↓] theorem ret1_non : ret1 .non h T = T .non h := id rfl
@[simp ↓] theorem ret1_tup {xs : List D} : ret1 (.tup xs) h T = T (.tup xs) h := id rfl
@[simp ↓] theorem ret1_lst {xs : List D} : ret1 (.lst xs) h T = T (.lst xs) h := id rfl
theorem ret1_ref {xs : List D} (e : h.get n = some (.lst xs)) : ret1 (.ref n) h T = T (.lst xs) (h.drop n) := by
  unfold ret1
  simp only [e]
@[simp ↓] theorem ev_ifS : (mIfS ta sa sb s h).en N B C T = (ta s h).en fun k h1 => if k = true then (sa s h1).en N B C T else (sb s h1).en N B C T := en_toS.trans (en_ext fun _ _ => enS_ite)
@[simp ↓] theorem ev_do : (mDo a s h).en N B C T = (a s h).en fun _ h1 => N s h1 := en_toS
@[simp ↓] theorem ev_set : (mSet i a s h).en N B C T = (a s h).en fun d h1 => N (s.set i (some d)) h1 := en_toS
@[simp ↓] theorem ev_unpack : (mUnpack tg a s h).en N B C T = (a s h).en fun d h1 => match tg d s with | some s1 => N s1 h1 | none => False := en_toS.trans (en_ext fun d h => by
  show RS.en (match tg d s with | some s1 => RS.nx s1 h | none => RS.bad) N B C T = _
  split <;> rfl)
@[simp ↓] theorem ev_par2 : (mPar2 i j a b s h).en N B C T = (a s h).en fun x h1 => (b s h1).en fun y h2 => N ((s.set i (some x)).set j (some y)) h2 := en_toS.trans (en_ext fun _ _ => en_toS)
@[simp ↓] theorem ev_par3 : (mPar3 i j l a b c s h).en N B C T = (a s h).en fun x h1 => (b s h1).en fun y h2 => (c s h2).en fun z h3 => N (((s.set i (some x)).set j (some y)).set l (some z)) h3 := en_toS.trans (en_ext fun _ _ => en_toS.trans (en_ext fun _ _ => en_toS))
@[simp ↓] theorem ev_setSub {p : D → D → D → MH → R Unit} : (mSetSub p a b c s h).en N B C T = (c s h).en fun c h1 => (a s h1).en fun a h2 => (b s h2).en fun b h3 => (p a b c h3).en fun _ h4 => N s h4 :=
  en_toS.trans (en_ext fun _ _ => en_toS.trans (en_ext fun _ _ => en_toS.trans (en_ext fun _ _ => en_toS)))
@[simp ↓] theorem ev_augSub {st : D → D → D → MH → R Unit} : (mAugSub g f st a b c s h).en N B C T = (a s h).en fun a h1 => (b s h1).en fun b h2 => (g a b h2).en fun x h3 => (c s h3).en fun y h4 => (f x y h4).en fun z h5 => (st a b z h5).en fun _ h6 => N s h6 :=
  en_toS.trans (en_ext fun _ _ => en_toS.trans (en_ext fun _ _ => en_toS.trans (en_ext fun _ _ => en_toS.trans (en_ext fun _ _ => en_toS.trans (en_ext fun _ _ => en_toS)))))
@[simp ↓] theorem ev_aug : (mAug i f a s h).en N B C T = match s[i]? with | some (some x) => (a s h).en fun y h1 => (f x y h1).en fun z h2 => N (s.set i (some z)) h2 | _ => False := by
  unfold mAug
  cases e : s[i]? with
  | none => rfl
  | some o =>
    cases o with
    | none => rfl
    | some x => exact en_toS.trans (en_ext fun _ _ => en_toS)
@[simp ↓] theorem ev_for : (mFor mi tg sa s h).en N B C T = (mi s h).en fun p h1 => (forLoop p.2 tg sa p.1 s h1).en N B C T := en_toS
@[simp] theorem ev_mgName : mgName i d s = some (s.set i (some d)) := id rfl
@[simp ↓] theorem ev_finL {xs : List D} : (finL xs h).en Q = Q (.lst xs) h := id rfl
@[simp ↓] theorem ev_finH {xs : List D} : (finH xs h).en Q = Q (.ref h.next) (h.new (.lst xs)) := id rfl
@[simp ↓] theorem ev_yes : (mYes s h).en QB = QB true h := id rfl
@[simp] theorem ev_gnil : mgNil [] s = some s := id rfl
@[simp] theorem ev_gcons {u : MG} {us : MGs} {ds : List D} : mgCons u us (d :: ds) s = (u d s).bind (us ds) := id rfl
@[simp] theorem ev_gtupL {us : MGs} {xs : List D} : mgTup n us (.lst xs) s = if xs.length = n then us xs s else none := id rfl
@[simp] theorem ev_gtup {us : MGs} {xs : List D} : mgTup n us (.tup xs) s = if xs.length = n then us xs s else none := id rfl
end
/-! ### heaps -/
section
variable {h h' : MH} {m n N : Nat} {o o' : MO} {d : D}
@[simp] theorem get_set : (h.set n o).get m = if m = n then some o else h.get m := id rfl
@[simp] theorem next_set : (h.set n o).next = h.next := id rfl
@[simp] theorem get_new : (h.new o).get m = if m = h.next then some o else h.get m := id rfl
@[simp] theorem next_new : (h.new o).next = h.next + 1 := id rfl
@[simp] theorem get_drop : (h.drop n).get m = if m = n then none else h.get m := id rfl
@[simp] theorem next_drop : (h.drop n).next = h.next := id rfl
theorem MH.ext' {h h' : MH} (e : ∀ n, h.get n = h'.get n) (e2 : h.next = h'.next) : h = h' := by
  cases h; cases h'
  have : _ = _ := funext e
  simp only at this e2
  subst this e2; rfl
@[simp] theorem set_set : (h.set n o).set n o' = h.set n o' := MH.ext' (fun m => by simp only [get_set]; split <;> rfl) rfl
@[simp] theorem new_set : (h.new o).set h.next o' = h.new o' := MH.ext' (fun m => by simp only [get_set, get_new]; split <;> rfl) rfl
theorem set_new (hn : n ≠ h.next) : (h.new o).set n o' = (h.set n o').new o := MH.ext' (fun m => by
  show (if m = n then some o' else if m = h.next then some o else h.get m) = if m = h.next then some o else if m = n then some o' else h.get m
  by_cases e1 : m = n
  · subst e1
    rw [if_pos rfl, if_neg hn, if_pos rfl]
  · rw [if_neg e1, if_neg e1]) rfl
structure Tidy (h : MH) : Prop where
  out : ∀ m, h.next ≤ m → h.get m = none
  bd : ∀ m o, h.get m = some o → o.bd h.next = true
theorem Tidy.zero : Tidy MH.zero := ⟨fun _ _ => rfl, fun m o e => by cases e⟩
theorem Tidy.lt (t : Tidy h) (e : h.get n = some o) : n < h.next := by
  by_cases z : n < h.next
  · exact z
  · rw [t.out n (by omega)] at e; cases e
theorem Tidy.set (t : Tidy h) (hn : n < h.next) (ho : o.bd h.next = true) : Tidy (h.set n o) := ⟨fun m hm => by
  have hm' : h.next ≤ m := hm
  rw [get_set, if_neg (by omega)]; exact t.out m hm', fun m o' e => by
  rw [get_set] at e
  split at e
  · cases e; exact ho
  · exact t.bd m o' e⟩
mutual
theorem bd_mono {N M : Nat} (hm : N ≤ M) : ∀ {d : D}, d.bd N = true → d.bd M = true
  | .ref n, e => by simp only [D.bd, decide_eq_true_eq] at e ⊢; omega
  | .tup xs, e => by simp only [D.bd] at e ⊢; exact bds_mono hm e
  | .lst xs, e => by simp only [D.bd] at e ⊢; exact bds_mono hm e
  | .non, _ | .bl _, _ | .int _, _ | .str _, _ | .raw _, _ | .scr _, _ => rfl
theorem bds_mono {N M : Nat} (hm : N ≤ M) : ∀ {ds : List D}, bds N ds = true → bds M ds = true
  | [], _ => rfl
  | d :: ds, e => by
    simp only [bds, Bool.and_eq_true] at e ⊢
    exact ⟨bd_mono hm e.1, bds_mono hm e.2⟩
end
theorem MO.bd_mono {N M : Nat} (hm : N ≤ M) : ∀ {o : MO}, o.bd N = true → o.bd M = true
  | .lst xs, e => bds_mono hm (ds := xs) e
theorem Tidy.new (t : Tidy h) (ho : o.bd (h.next + 1) = true) : Tidy (h.new o) := ⟨fun m hm => by
  have hm' : h.next + 1 ≤ m := hm
  rw [get_new, if_neg (by omega)]; exact t.out m (by omega), fun m o' e => by
  rw [get_new] at e
  split at e
  · cases e; exact ho
  · exact MO.bd_mono (Nat.le_succ _) (t.bd m o' e)⟩
@[simp] theorem cut_new (hn : N ≤ h.next) : (h.new o).cut N = h.cut N := MH.ext' (fun m => by
  show (if m < N then (h.new o).get m else none) = if m < N then h.get m else none
  split
  · rw [get_new, if_neg (by omega)]
  · rfl) rfl
theorem cut_drop (hn : N ≤ n) : (h.drop n).cut N = h.cut N := MH.ext' (fun m => by
  show (if m < N then (h.drop n).get m else none) = if m < N then h.get m else none
  split
  · rw [get_drop, if_neg (by omega)]
  · rfl) rfl
theorem cut_self (t : ∀ m, h.next ≤ m → h.get m = none) : h.cut h.next = h := MH.ext' (fun m => by
  show (if m < h.next then h.get m else none) = h.get m
  split
  · rfl
  · exact (t m (by omega)).symm) rfl
/-- a def is left; h2: what was there, as it is now -/
theorem leave_to {h1 h2 : MH} (t : Tidy h2) (e : h2.next = N) (c : h1.cut N = h2) (hd : d.bd N = true) : leave N d h1 = .ok d h2 := by
  unfold leave
  subst c
  rw [if_pos]
  refine ⟨hd, fun n hn o ho => ?_⟩
  have := t.bd n o (show (if n < N then h1.get n else none) = some o by rw [if_pos hn]; exact ho)
  rwa [e] at this
theorem leave_same (t : Tidy h) (hd : d.bd h.next = true) : leave h.next d h = .ok d h := leave_to t rfl (cut_self t.out) hd
end
/-! ### defs, loops -/
section
variable {m : MS} {n : Nat} {ds : List D} {h : MH} {Q : D → MH → Prop}
theorem fn_en (hm : (m (ds.map some ++ List.replicate (n - ds.length) none) h).en (fun _ h1 => (leave h.next .non h1).en Q) (fun _ _ => False) (fun _ _ => False) (fun d h1 => (leave h.next d h1).en Q)) : (fnM n m ds h).en Q := by
  unfold fnM
  cases e : m (ds.map some ++ List.replicate (n - ds.length) none) h <;> rw [e] at hm <;> first | exact hm | exact hm.elim
/-- a def that leaves the heap as it was: what it tells -/
theorem en_eq {d : D} {r : R D} (q : r.en fun d' h' => d' = d ∧ h' = h) : r = .ok d h := by
  obtain ⟨a, h1, e, e1, e2⟩ := R.en_ex q
  rw [e, e1, e2]
variable {g : Gd} {tg : MG} {body : MS} {N B C : Sl → MH → Prop} {T : D → MH → Prop}
theorem for_en (I : List D → Sl → MH → Prop) (hg : ∀ xs s h, I xs s h → gOk g h) (step : ∀ x xs s h, I (x :: xs) s h → ∃ s1, tg x s = some s1 ∧ (body s1 h).en (I xs) N (I xs) T) (fin : ∀ s h, I [] s h → N s h) : ∀ xs s h, I xs s h → (forLoop g tg body xs s h).en N B C T
  | [], s, h, i => by
    unfold forLoop
    rw [if_pos (hg _ _ _ i)]
    exact fin _ _ i
  | x :: xs, s, h, i => by
    unfold forLoop
    rw [if_pos (hg _ _ _ i)]
    obtain ⟨s1, e, q⟩ := step x xs s h i
    rw [e]
    simp only
    cases e2 : body s1 h <;> rw [e2] at q
    · exact for_en I hg step fin xs _ _ q
    · exact q
    · exact for_en I hg step fin xs _ _ q
    · exact q
    · exact q.elim
    · exact q.elim
/-- nothing else is walked -/
theorem forT {xs : List D} {s : Sl} (I : List D → Sl → MH → Prop) (i : I xs s h) (step : ∀ x xs s h, I (x :: xs) s h → ∃ s1, tg x s = some s1 ∧ (body s1 h).en (I xs) N (I xs) T) (fin : ∀ s h, I [] s h → N s h) : (forLoop none tg body xs s h).en N B C T :=
  for_en (g := none) I (fun _ _ _ _ => trivial) step fin xs s h i
variable {tt : MT} {el : ME} {s : Sl}
theorem comp_en {P : List D → MH → Prop} (I : List D → List D → MH → Prop) (hg : ∀ xs acc h, I xs acc h → gOk g h)
    (step : ∀ x xs acc h, I (x :: xs) acc h → ∃ s1, tg x s = some s1 ∧ (tt s1 h).en fun b h1 => if b = true then (el s1 h1).en fun y h2 => acc.length < sizeLine ∧ I xs (acc ++ [y]) h2 else I xs acc h1) (fin : ∀ acc h, I [] acc h → P acc h) :
    ∀ xs acc h, I xs acc h → (compLoop g tg tt el s xs acc h).en P
  | [], acc, h, i => by
    unfold compLoop
    rw [if_pos (hg _ _ _ i)]
    exact fin _ _ i
  | x :: xs, acc, h, i => by
    unfold compLoop
    rw [if_pos (hg _ _ _ i)]
    obtain ⟨s1, e, q⟩ := step x xs acc h i
    rw [e]
    simp only
    obtain ⟨b, h1, e1, q1⟩ := R.en_ex q
    rw [e1]
    simp only
    by_cases hb : b = true
    · rw [if_pos hb] at q1 ⊢
      obtain ⟨y, h2, e2, z, q2⟩ := R.en_ex q1
      rw [e2]
      simp only
      rw [if_pos z]
      exact comp_en I hg step fin xs _ _ q2
    · rw [if_neg hb] at q1 ⊢
      exact comp_en I hg step fin xs _ _ q1
/-- each item by itself, the heap stays -/
theorem comp_map {φ : D → D} : ∀ {xs acc : List D}, (∀ x ∈ xs, ∃ s1, tg x s = some s1 ∧ tt s1 h = .ok true h ∧ el s1 h = .ok (φ x) h) → acc.length + xs.length ≤ sizeLine → compLoop none tg tt el s xs acc h = .ok (acc ++ xs.map φ) h
  | [], acc, _, _ => by
    unfold compLoop
    rw [if_pos (show gOk none h from trivial)]
    simp
  | x :: xs, acc, hx, hz => by
    unfold compLoop
    rw [if_pos (show gOk none h from trivial)]
    obtain ⟨s1, e1, e2, e3⟩ := hx x List.mem_cons_self
    simp only [List.length_cons] at hz
    rw [e1]
    simp only [e2, e3, if_true]
    rw [if_pos (by omega), comp_map (fun y hy => hx y (List.mem_cons_of_mem _ hy)) (by simp; omega)]
    simp
theorem comp_filter {p : D → Bool} {φ : D → D} : ∀ {xs acc : List D}, (∀ x ∈ xs, ∃ s1, tg x s = some s1 ∧ tt s1 h = .ok (p x) h ∧ (p x = true → el s1 h = .ok (φ x) h)) → acc.length + xs.length ≤ sizeLine → compLoop none tg tt el s xs acc h = .ok (acc ++ (xs.filter p).map φ) h
  | [], acc, _, _ => by
    unfold compLoop
    rw [if_pos (show gOk none h from trivial)]
    simp
  | x :: xs, acc, hx, hz => by
    unfold compLoop
    rw [if_pos (show gOk none h from trivial)]
    obtain ⟨s1, e1, e2, e3⟩ := hx x List.mem_cons_self
    simp only [List.length_cons] at hz
    rw [e1]
    simp only [e2]
    cases hp : p x with
    | true =>
      simp only [e3 hp, if_true]
      rw [if_pos (by omega), comp_filter (fun y hy => hx y (List.mem_cons_of_mem _ hy)) (by simp; omega), List.filter_cons_of_pos hp]
      simp
    | false =>
      simp only [Bool.false_eq_true, if_false]
      rw [comp_filter (fun y hy => hx y (List.mem_cons_of_mem _ hy)) (by omega), List.filter_cons_of_neg (by simp [hp])]
end
/-! ### operators -/
section
variable {h : MH} {i j : Int} {x y : Str} {xs ys : List D} {Q : D → MH → Prop} {QB : Bool → MH → Prop} {QU : Unit → MH → Prop} {QI : List D × Gd → MH → Prop} {n k : Nat} {d e : D}
@[simp ↓] theorem o_add : (opAdd (.int i) (.int j) h).en Q = Q (.int (i + j)) h := id rfl
@[simp ↓] theorem o_sub : (opSub (.int i) (.int j) h).en Q = Q (.int (i - j)) h := id rfl
theorem o_mul (hs : smallI i ∨ smallI j) : (opMul (.int i) (.int j) h).en Q = Q (.int (i * j)) h := by
  rw [show opMul (.int i) (.int j) h = .ok (.int (i * j)) h from if_pos (hs.imp id .inl)]; rfl
theorem o_div (hj : 0 < j) (hl : j < 2 ^ 200) : (opDiv (.int i) (.int j) h).en Q = Q (.int (i / j)) h := by
  have h1 : j.natAbs < 2 ^ 200 := by omega
  have h2 : CDivW i j := by
    refine ⟨hj, ?_⟩
    by_cases z : j.natAbs = 0
    · rw [z]; decide
    · have := (Nat.log2_lt z).mpr h1
      omega
  rw [show opDiv (.int i) (.int j) h = .ok (.int (i / j)) h from if_pos h2]; rfl
theorem o_mod (hj : 0 < j) : (opMod (.int i) (.int j) h).en Q = Q (.int (i % j)) h := by
  rw [show opMod (.int i) (.int j) h = .ok (.int (i % j)) h from if_pos hj]; rfl
theorem o_pow (h0 : 0 ≤ j) (h1 : j ≤ 1000000) (h2 : i.natAbs < 2 ^ 64) : (opPow (.int i) (.int j) h).en Q = Q (.int (i ^ j.toNat)) h := by
  rw [show opPow (.int i) (.int j) h = .ok (.int (i ^ j.toNat)) h from if_pos ⟨h0, h1, h2⟩]; rfl
@[simp ↓] theorem c_mod (hj : 0 < j) : (opMod (.int i) (.int j) h).en Q = Q (.int (i % j)) h := o_mod hj
@[simp ↓] theorem c_div (hj : 0 < j) (hl : j < 18446744073709551616) : (opDiv (.int i) (.int j) h).en Q = Q (.int (i / j)) h := o_div hj (Int.lt_trans hl (by decide))
@[simp ↓] theorem c_mulL (h1 : -18446744073709551616 < i) (h2 : i < 18446744073709551616) : (opMul (.int i) (.int j) h).en Q = Q (.int (i * j)) h := o_mul (.inl ⟨h1, h2⟩)
@[simp ↓] theorem c_mulR (h1 : -18446744073709551616 < j) (h2 : j < 18446744073709551616) : (opMul (.int i) (.int j) h).en Q = Q (.int (i * j)) h := o_mul (.inr ⟨h1, h2⟩)
@[simp ↓] theorem c_mulM {p : Int} (h1 : 0 < p) (h2 : p < 18446744073709551616) : (opMul (.int (i % p)) (.int j) h).en Q = Q (.int (i % p * j)) h := o_mul (.inl ⟨by have := Int.emod_nonneg i (by omega : p ≠ 0); omega, by have := Int.emod_lt_of_pos i h1; omega⟩)
@[simp ↓] theorem c_pow (h0 : 0 ≤ j) (h1 : j ≤ 1000000) (h2 : i.natAbs < 18446744073709551616) : (opPow (.int i) (.int j) h).en Q = Q (.int (i ^ j.toNat)) h := o_pow h0 h1 h2
@[simp ↓] theorem o_repI : (opRep (.int i) (.int j) h).en Q = (opMul (.int i) (.int j) h).en Q := id rfl
@[simp ↓] theorem o_lt : (opLt (.int i) (.int j) h).en Q = Q (.bl (decide (i < j))) h := id rfl
@[simp ↓] theorem o_le : (opLe (.int i) (.int j) h).en Q = Q (.bl (decide (i ≤ j))) h := id rfl
@[simp ↓] theorem o_gt : (opGt (.int i) (.int j) h).en Q = Q (.bl (decide (j < i))) h := id rfl
@[simp ↓] theorem o_ge : (opGe (.int i) (.int j) h).en Q = Q (.bl (decide (j ≤ i))) h := id rfl
@[simp ↓] theorem o_iadd : (iopAdd (.int i) (.int j) h).en Q = Q (.int (i + j)) h := id rfl
@[simp ↓] theorem o_isub : (iopSub (.int i) (.int j) h).en Q = Q (.int (i - j)) h := id rfl
@[simp ↓] theorem o_neg : (opNeg (.int i) h).en Q = Q (.int (-i)) h := id rfl
theorem eqP {d e : D} {p q : PyData} (h1 : toD h d = some p) (h2 : toD h e = some q) (s1 : SeqAt.shaped p = true) (s2 : SeqAt.shaped q = true) (ns : ∀ x, d ≠ .str x) : opEq d e h = .ok (.bl (PyData.eqv p q)) h := by
  unfold opEq
  split
  · exact absurd rfl (ns _)
  · rw [h1, h2]
    exact if_pos ⟨s1, s2⟩
theorem neP {d e : D} {p q : PyData} (h1 : toD h d = some p) (h2 : toD h e = some q) (s1 : SeqAt.shaped p = true) (s2 : SeqAt.shaped q = true) (ns : ∀ x, d ≠ .str x) : opNe d e h = .ok (.bl (!PyData.eqv p q)) h := by
  unfold opNe
  split
  · exact absurd rfl (ns _)
  · rw [h1, h2]
    exact if_pos ⟨s1, s2⟩
theorem o_eqP {d e : D} {p q : PyData} (h1 : toD h d = some p) (h2 : toD h e = some q) (s1 : SeqAt.shaped p = true) (s2 : SeqAt.shaped q = true) (ns : ∀ x, d ≠ .str x) : (opEq d e h).en Q = Q (.bl (PyData.eqv p q)) h := by rw [eqP h1 h2 s1 s2 ns]; rfl
theorem o_neP {d e : D} {p q : PyData} (h1 : toD h d = some p) (h2 : toD h e = some q) (s1 : SeqAt.shaped p = true) (s2 : SeqAt.shaped q = true) (ns : ∀ x, d ≠ .str x) : (opNe d e h).en Q = Q (.bl (!PyData.eqv p q)) h := by rw [neP h1 h2 s1 s2 ns]; rfl
theorem eqv_int : PyData.eqv (.int i) (.int j) = decide (i = j) := by simp only [PyData.eqv]; exact Bool.eq_iff_iff.mpr (by simp)
@[simp ↓] theorem o_eqI : (opEq (.int i) (.int j) h).en Q = Q (.bl (decide (i = j))) h := by rw [o_eqP (p := .int i) (q := .int j) rfl rfl rfl rfl (by simp), eqv_int]
@[simp ↓] theorem o_neI : (opNe (.int i) (.int j) h).en Q = Q (.bl (!decide (i = j))) h := by rw [o_neP (p := .int i) (q := .int j) rfl rfl rfl rfl (by simp), eqv_int]
@[simp ↓] theorem o_eqS : (opEq (.str x) (.str y) h).en Q = Q (.bl (decide (x = y))) h := id rfl
@[simp ↓] theorem o_neS : (opNe (.str x) (.str y) h).en Q = Q (.bl (!decide (x = y))) h := id rfl
theorem toPs_ints : ∀ ns : List Int, toPs (ns.map .int) = some (ns.map .int)
  | [] => rfl
  | n :: ns => by simp only [List.map_cons, toPs, toP, toPs_ints ns]
theorem lay_ints : ∀ ns : List Int, PyData.canLayAll0 (ns.map .int) = true
  | [] => rfl
  | n :: ns => by simp only [List.map_cons, PyData.canLayAll0, PyData.canLay0, lay_ints ns, Bool.and_self]
theorem depth_ints : ∀ ns : List Int, PyData.depthAll (ns.map .int) ≤ 1
  | [] => by decide
  | n :: ns => by
    have := depth_ints ns
    simp only [List.map_cons, PyData.depthAll, PyData.depth]
    exact Nat.max_le.mpr ⟨by decide, this⟩
theorem o_eqNil {ns : List Int} : (opEq (.lst (ns.map .int)) (.lst []) h).en Q = Q (.bl (decide (ns = []))) h := by
  have e1 : toD h (.lst (ns.map .int)) = some (.list (ns.map .int)) := by
    show toP (.lst (ns.map .int)) = _
    simp only [toP, toPs_ints, Option.map_some]
  rw [o_eqP e1 (q := .list []) rfl ?_ rfl (by simp)]
  · congr 2
    cases ns with
    | nil => rfl
    | cons n ns => simp [PyData.eqv, PyData.eqvAll]
  · unfold SeqAt.shaped
    simp only [PyData.canLay0, lay_ints, Bool.true_and, decide_eq_true_eq, PyData.depth]
    have := depth_ints ns
    exact decide_eq_true (by omega)
@[simp ↓] theorem t_int : (truth (.int i) h).en QB = QB (i != 0) h := id rfl
@[simp ↓] theorem t_bl {b : Bool} : (truth (.bl b) h).en QB = QB b h := id rfl
/-- items -/
theorem o_ix {z : D} (h1 : seqOf h d = some xs) (h2 : atI xs i = some z) : (opIx d (.int i) h).en Q = Q z h := by
  have : opIx d (.int i) h = .ok z h := by
    unfold opIx
    split
    · simp [seqOf, lstOf] at h1
    · rename_i e1
      cases e1
      rw [h1]
      simp only [h2]
    · rename_i n1 _
      exact (n1 i rfl).elim
  rw [this]; rfl
theorem o_gix {z : D} (h1 : lstOf h d = some xs) (h2 : atI xs i = some z) : (getIxL d (.int i) h).en Q = Q z h := by
  have : getIxL d (.int i) h = .ok z h := by
    unfold getIxL
    simp only [h1, h2]
  rw [this]; rfl
theorem o_six (h1 : h.get n = some (.lst xs)) (h2 : ixN xs.length i = some k) : (setIx (.ref n) (.int i) d h).en QU = QU () (h.set n (.lst (xs.set k d))) := by
  have : setIx (.ref n) (.int i) d h = .ok () (h.set n (.lst (xs.set k d))) := by
    unfold setIx
    simp only [h1, h2]
  rw [this]; rfl
theorem o_len (h1 : seqOf h d = some xs) : (bLen [d] h).en Q = Q (.int (xs.length : Nat)) h := by
  have : bLen [d] h = .ok (.int (xs.length : Nat)) h := by
    unfold bLen
    split
    · rename_i e1
      cases e1
      simp [seqOf, lstOf] at h1
    · rename_i e1
      cases e1
      rw [h1]
    · rename_i n1
      exact absurd rfl (n1 d)
  rw [this]; rfl
theorem o_tuple (h1 : seqOf h d = some xs) : (bTuple [d] h).en Q = Q (.tup xs) h := by
  have : bTuple [d] h = .ok (.tup xs) h := by simp only [bTuple, h1]
  rw [this]; rfl
theorem o_list (h1 : seqOf h d = some xs) : (bList [d] h).en Q = Q (.lst xs) h := by
  have : bList [d] h = .ok (.lst xs) h := by simp only [bList, h1]
  rw [this]; rfl
theorem o_append (h1 : h.get n = some (.lst xs)) (h2 : xs.length < sizeLine) : (lAppend (.ref n) [d] h).en Q = Q .non (h.set n (.lst (xs ++ [d]))) := by
  have : lAppend (.ref n) [d] h = .ok .non (h.set n (.lst (xs ++ [d]))) := by
    simp only [lAppend, h1]
    exact if_pos h2
  rw [this]; rfl
/-- items by their kinds -/
def pick (xs : List D) (i : Int) (Q : D → MH → Prop) (h : MH) (_ : Bx Q := ⟨⟩) : Prop := match atI xs i with
  | some z => Q z h
  | none => False
theorem pick_some {z : D} (e : atI xs i = some z) : pick xs i Q h = Q z h := by
  unfold pick
  simp only [e]
@[simp ↓] theorem ix_tup : (opIx (.tup xs) (.int i) h).en Q = pick xs i Q h := by
  unfold pick opIx
  simp only [seqOf]
  cases atI xs i <;> rfl
@[simp ↓] theorem ix_lst : (opIx (.lst xs) (.int i) h).en Q = pick xs i Q h := by
  unfold pick opIx
  simp only [seqOf, lstOf]
  cases atI xs i <;> rfl
theorem ix_ref (e : h.get n = some (.lst xs)) : (opIx (.ref n) (.int i) h).en Q = pick xs i Q h := by
  unfold pick opIx
  simp only [seqOf, lstOf, e]
  cases atI xs i <;> rfl
theorem gix_ref (e : h.get n = some (.lst xs)) : (getIxL (.ref n) (.int i) h).en Q = pick xs i Q h := by
  unfold pick getIxL
  simp only [lstOf, e]
  cases atI xs i <;> rfl
@[simp] theorem at_0 {α : Type} {x0 : α} {r : List α} : atI (x0 :: r) 0 = some x0 := by
  have : (0 : Int) < ((x0 :: r).length : Int) := by simp only [List.length_cons, Int.natCast_add]; omega
  unfold atI ixN
  rw [if_pos (by decide), if_pos this]
  rfl
@[simp] theorem at_1 {α : Type} {x0 x1 : α} {r : List α} : atI (x0 :: x1 :: r) 1 = some x1 := by
  have : (1 : Int) < ((x0 :: x1 :: r).length : Int) := by simp only [List.length_cons, Int.natCast_add]; omega
  unfold atI ixN
  rw [if_pos (by decide), if_pos this]
  rfl
@[simp] theorem at_2 {α : Type} {x0 x1 x2 : α} {r : List α} : atI (x0 :: x1 :: x2 :: r) 2 = some x2 := by
  have : (2 : Int) < ((x0 :: x1 :: x2 :: r).length : Int) := by simp only [List.length_cons, Int.natCast_add]; omega
  unfold atI ixN
  rw [if_pos (by decide), if_pos this]
  rfl
@[simp] theorem at_3 {α : Type} {x0 x1 x2 x3 : α} {r : List α} : atI (x0 :: x1 :: x2 :: x3 :: r) 3 = some x3 := by
  have : (3 : Int) < ((x0 :: x1 :: x2 :: x3 :: r).length : Int) := by simp only [List.length_cons, Int.natCast_add]; omega
  unfold atI ixN
  rw [if_pos (by decide), if_pos this]
  rfl
@[simp] theorem at_4 {α : Type} {x0 x1 x2 x3 x4 : α} {r : List α} : atI (x0 :: x1 :: x2 :: x3 :: x4 :: r) 4 = some x4 := by
  have : (4 : Int) < ((x0 :: x1 :: x2 :: x3 :: x4 :: r).length : Int) := by simp only [List.length_cons, Int.natCast_add]; omega
  unfold atI ixN
  rw [if_pos (by decide), if_pos this]
  rfl
@[simp] theorem at_5 {α : Type} {x0 x1 x2 x3 x4 x5 : α} {r : List α} : atI (x0 :: x1 :: x2 :: x3 :: x4 :: x5 :: r) 5 = some x5 := by
  have : (5 : Int) < ((x0 :: x1 :: x2 :: x3 :: x4 :: x5 :: r).length : Int) := by simp only [List.length_cons, Int.natCast_add]; omega
  unfold atI ixN
  rw [if_pos (by decide), if_pos this]
  rfl
@[simp] theorem at_6 {α : Type} {x0 x1 x2 x3 x4 x5 x6 : α} {r : List α} : atI (x0 :: x1 :: x2 :: x3 :: x4 :: x5 :: x6 :: r) 6 = some x6 := by
  have : (6 : Int) < ((x0 :: x1 :: x2 :: x3 :: x4 :: x5 :: x6 :: r).length : Int) := by simp only [List.length_cons, Int.natCast_add]; omega
  unfold atI ixN
  rw [if_pos (by decide), if_pos this]
  rfl
@[simp] theorem at_7 {α : Type} {x0 x1 x2 x3 x4 x5 x6 x7 : α} {r : List α} : atI (x0 :: x1 :: x2 :: x3 :: x4 :: x5 :: x6 :: x7 :: r) 7 = some x7 := by
  have : (7 : Int) < ((x0 :: x1 :: x2 :: x3 :: x4 :: x5 :: x6 :: x7 :: r).length : Int) := by simp only [List.length_cons, Int.natCast_add]; omega
  unfold atI ixN
  rw [if_pos (by decide), if_pos this]
  rfl
@[simp] theorem at_8 {α : Type} {x0 x1 x2 x3 x4 x5 x6 x7 x8 : α} {r : List α} : atI (x0 :: x1 :: x2 :: x3 :: x4 :: x5 :: x6 :: x7 :: x8 :: r) 8 = some x8 := by
  have : (8 : Int) < ((x0 :: x1 :: x2 :: x3 :: x4 :: x5 :: x6 :: x7 :: x8 :: r).length : Int) := by simp only [List.length_cons, Int.natCast_add]; omega
  unfold atI ixN
  rw [if_pos (by decide), if_pos this]
  rfl
@[simp] theorem at_9 {α : Type} {x0 x1 x2 x3 x4 x5 x6 x7 x8 x9 : α} {r : List α} : atI (x0 :: x1 :: x2 :: x3 :: x4 :: x5 :: x6 :: x7 :: x8 :: x9 :: r) 9 = some x9 := by
  have : (9 : Int) < ((x0 :: x1 :: x2 :: x3 :: x4 :: x5 :: x6 :: x7 :: x8 :: x9 :: r).length : Int) := by simp only [List.length_cons, Int.natCast_add]; omega
  unfold atI ixN
  rw [if_pos (by decide), if_pos this]
  rfl
@[simp] theorem at_10 {α : Type} {x0 x1 x2 x3 x4 x5 x6 x7 x8 x9 x10 : α} {r : List α} : atI (x0 :: x1 :: x2 :: x3 :: x4 :: x5 :: x6 :: x7 :: x8 :: x9 :: x10 :: r) 10 = some x10 := by
  have : (10 : Int) < ((x0 :: x1 :: x2 :: x3 :: x4 :: x5 :: x6 :: x7 :: x8 :: x9 :: x10 :: r).length : Int) := by simp only [List.length_cons, Int.natCast_add]; omega
  unfold atI ixN
  rw [if_pos (by decide), if_pos this]
  rfl
@[simp] theorem at_11 {α : Type} {x0 x1 x2 x3 x4 x5 x6 x7 x8 x9 x10 x11 : α} {r : List α} : atI (x0 :: x1 :: x2 :: x3 :: x4 :: x5 :: x6 :: x7 :: x8 :: x9 :: x10 :: x11 :: r) 11 = some x11 := by
  have : (11 : Int) < ((x0 :: x1 :: x2 :: x3 :: x4 :: x5 :: x6 :: x7 :: x8 :: x9 :: x10 :: x11 :: r).length : Int) := by simp only [List.length_cons, Int.natCast_add]; omega
  unfold atI ixN
  rw [if_pos (by decide), if_pos this]
  rfl
@[simp] theorem at_12 {α : Type} {x0 x1 x2 x3 x4 x5 x6 x7 x8 x9 x10 x11 x12 : α} {r : List α} : atI (x0 :: x1 :: x2 :: x3 :: x4 :: x5 :: x6 :: x7 :: x8 :: x9 :: x10 :: x11 :: x12 :: r) 12 = some x12 := by
  have : (12 : Int) < ((x0 :: x1 :: x2 :: x3 :: x4 :: x5 :: x6 :: x7 :: x8 :: x9 :: x10 :: x11 :: x12 :: r).length : Int) := by simp only [List.length_cons, Int.natCast_add]; omega
  unfold atI ixN
  rw [if_pos (by decide), if_pos this]
  rfl
@[simp] theorem at_13 {α : Type} {x0 x1 x2 x3 x4 x5 x6 x7 x8 x9 x10 x11 x12 x13 : α} {r : List α} : atI (x0 :: x1 :: x2 :: x3 :: x4 :: x5 :: x6 :: x7 :: x8 :: x9 :: x10 :: x11 :: x12 :: x13 :: r) 13 = some x13 := by
  have : (13 : Int) < ((x0 :: x1 :: x2 :: x3 :: x4 :: x5 :: x6 :: x7 :: x8 :: x9 :: x10 :: x11 :: x12 :: x13 :: r).length : Int) := by simp only [List.length_cons, Int.natCast_add]; omega
  unfold atI ixN
  rw [if_pos (by decide), if_pos this]
  rfl
@[simp] theorem at_14 {α : Type} {x0 x1 x2 x3 x4 x5 x6 x7 x8 x9 x10 x11 x12 x13 x14 : α} {r : List α} : atI (x0 :: x1 :: x2 :: x3 :: x4 :: x5 :: x6 :: x7 :: x8 :: x9 :: x10 :: x11 :: x12 :: x13 :: x14 :: r) 14 = some x14 := by
  have : (14 : Int) < ((x0 :: x1 :: x2 :: x3 :: x4 :: x5 :: x6 :: x7 :: x8 :: x9 :: x10 :: x11 :: x12 :: x13 :: x14 :: r).length : Int) := by simp only [List.length_cons, Int.natCast_add]; omega
  unfold atI ixN
  rw [if_pos (by decide), if_pos this]
  rfl
@[simp] theorem at_15 {α : Type} {x0 x1 x2 x3 x4 x5 x6 x7 x8 x9 x10 x11 x12 x13 x14 x15 : α} {r : List α} : atI (x0 :: x1 :: x2 :: x3 :: x4 :: x5 :: x6 :: x7 :: x8 :: x9 :: x10 :: x11 :: x12 :: x13 :: x14 :: x15 :: r) 15 = some x15 := by
  have : (15 : Int) < ((x0 :: x1 :: x2 :: x3 :: x4 :: x5 :: x6 :: x7 :: x8 :: x9 :: x10 :: x11 :: x12 :: x13 :: x14 :: x15 :: r).length : Int) := by simp only [List.length_cons, Int.natCast_add]; omega
  unfold atI ixN
  rw [if_pos (by decide), if_pos this]
  rfl
@[simp] theorem at_16 {α : Type} {x0 x1 x2 x3 x4 x5 x6 x7 x8 x9 x10 x11 x12 x13 x14 x15 x16 : α} {r : List α} : atI (x0 :: x1 :: x2 :: x3 :: x4 :: x5 :: x6 :: x7 :: x8 :: x9 :: x10 :: x11 :: x12 :: x13 :: x14 :: x15 :: x16 :: r) 16 = some x16 := by
  have : (16 : Int) < ((x0 :: x1 :: x2 :: x3 :: x4 :: x5 :: x6 :: x7 :: x8 :: x9 :: x10 :: x11 :: x12 :: x13 :: x14 :: x15 :: x16 :: r).length : Int) := by simp only [List.length_cons, Int.natCast_add]; omega
  unfold atI ixN
  rw [if_pos (by decide), if_pos this]
  rfl
@[simp ↓] theorem pk_0 {x0 : D} {r : List D} : pick (x0 :: r) 0 Q h = Q x0 h := pick_some at_0
@[simp ↓] theorem pk_1 {x0 x1 : D} {r : List D} : pick (x0 :: x1 :: r) 1 Q h = Q x1 h := pick_some at_1
@[simp ↓] theorem pk_2 {x0 x1 x2 : D} {r : List D} : pick (x0 :: x1 :: x2 :: r) 2 Q h = Q x2 h := pick_some at_2
@[simp ↓] theorem pk_3 {x0 x1 x2 x3 : D} {r : List D} : pick (x0 :: x1 :: x2 :: x3 :: r) 3 Q h = Q x3 h := pick_some at_3
@[simp ↓] theorem pk_4 {x0 x1 x2 x3 x4 : D} {r : List D} : pick (x0 :: x1 :: x2 :: x3 :: x4 :: r) 4 Q h = Q x4 h := pick_some at_4
@[simp ↓] theorem pk_5 {x0 x1 x2 x3 x4 x5 : D} {r : List D} : pick (x0 :: x1 :: x2 :: x3 :: x4 :: x5 :: r) 5 Q h = Q x5 h := pick_some at_5
@[simp ↓] theorem pk_6 {x0 x1 x2 x3 x4 x5 x6 : D} {r : List D} : pick (x0 :: x1 :: x2 :: x3 :: x4 :: x5 :: x6 :: r) 6 Q h = Q x6 h := pick_some at_6
@[simp ↓] theorem pk_7 {x0 x1 x2 x3 x4 x5 x6 x7 : D} {r : List D} : pick (x0 :: x1 :: x2 :: x3 :: x4 :: x5 :: x6 :: x7 :: r) 7 Q h = Q x7 h := pick_some at_7
@[simp ↓] theorem pk_8 {x0 x1 x2 x3 x4 x5 x6 x7 x8 : D} {r : List D} : pick (x0 :: x1 :: x2 :: x3 :: x4 :: x5 :: x6 :: x7 :: x8 :: r) 8 Q h = Q x8 h := pick_some at_8
@[simp ↓] theorem pk_9 {x0 x1 x2 x3 x4 x5 x6 x7 x8 x9 : D} {r : List D} : pick (x0 :: x1 :: x2 :: x3 :: x4 :: x5 :: x6 :: x7 :: x8 :: x9 :: r) 9 Q h = Q x9 h := pick_some at_9
@[simp ↓] theorem pk_10 {x0 x1 x2 x3 x4 x5 x6 x7 x8 x9 x10 : D} {r : List D} : pick (x0 :: x1 :: x2 :: x3 :: x4 :: x5 :: x6 :: x7 :: x8 :: x9 :: x10 :: r) 10 Q h = Q x10 h := pick_some at_10
@[simp ↓] theorem pk_11 {x0 x1 x2 x3 x4 x5 x6 x7 x8 x9 x10 x11 : D} {r : List D} : pick (x0 :: x1 :: x2 :: x3 :: x4 :: x5 :: x6 :: x7 :: x8 :: x9 :: x10 :: x11 :: r) 11 Q h = Q x11 h := pick_some at_11
@[simp ↓] theorem pk_12 {x0 x1 x2 x3 x4 x5 x6 x7 x8 x9 x10 x11 x12 : D} {r : List D} : pick (x0 :: x1 :: x2 :: x3 :: x4 :: x5 :: x6 :: x7 :: x8 :: x9 :: x10 :: x11 :: x12 :: r) 12 Q h = Q x12 h := pick_some at_12
@[simp ↓] theorem pk_13 {x0 x1 x2 x3 x4 x5 x6 x7 x8 x9 x10 x11 x12 x13 : D} {r : List D} : pick (x0 :: x1 :: x2 :: x3 :: x4 :: x5 :: x6 :: x7 :: x8 :: x9 :: x10 :: x11 :: x12 :: x13 :: r) 13 Q h = Q x13 h := pick_some at_13
@[simp ↓] theorem pk_14 {x0 x1 x2 x3 x4 x5 x6 x7 x8 x9 x10 x11 x12 x13 x14 : D} {r : List D} : pick (x0 :: x1 :: x2 :: x3 :: x4 :: x5 :: x6 :: x7 :: x8 :: x9 :: x10 :: x11 :: x12 :: x13 :: x14 :: r) 14 Q h = Q x14 h := pick_some at_14
@[simp ↓] theorem pk_15 {x0 x1 x2 x3 x4 x5 x6 x7 x8 x9 x10 x11 x12 x13 x14 x15 : D} {r : List D} : pick (x0 :: x1 :: x2 :: x3 :: x4 :: x5 :: x6 :: x7 :: x8 :: x9 :: x10 :: x11 :: x12 :: x13 :: x14 :: x15 :: r) 15 Q h = Q x15 h := pick_some at_15
@[simp ↓] theorem pk_16 {x0 x1 x2 x3 x4 x5 x6 x7 x8 x9 x10 x11 x12 x13 x14 x15 x16 : D} {r : List D} : pick (x0 :: x1 :: x2 :: x3 :: x4 :: x5 :: x6 :: x7 :: x8 :: x9 :: x10 :: x11 :: x12 :: x13 :: x14 :: x15 :: x16 :: r) 16 Q h = Q x16 h := pick_some at_16
@[simp ↓] theorem len_lst : (bLen [.lst xs] h).en Q = Q (.int (xs.length : Nat)) h := o_len rfl
@[simp ↓] theorem len_tup : (bLen [.tup xs] h).en Q = Q (.int (xs.length : Nat)) h := o_len rfl
@[simp ↓] theorem tup_lst : (bTuple [.lst xs] h).en Q = Q (.tup xs) h := id rfl
@[simp ↓] theorem tup_tup : (bTuple [.tup xs] h).en Q = Q (.tup xs) h := id rfl
@[simp ↓] theorem list_lst : (bList [.lst xs] h).en Q = Q (.lst xs) h := id rfl
@[simp ↓] theorem list_tup : (bList [.tup xs] h).en Q = Q (.lst xs) h := id rfl
theorem at_mod {ns : List Int} {c : Int} (h0 : ns ≠ []) : ∃ x, atI (ns.map D.int) (c % (ns.length : Int)) = some (.int x) := by
  have hp : 0 < (ns.length : Int) := by
    have := List.length_pos_iff.mpr h0
    omega
  have h1 := Int.emod_nonneg c (by omega : (ns.length : Int) ≠ 0)
  have h2 := Int.emod_lt_of_pos c hp
  have h3 : (c % (ns.length : Int)).toNat < ns.length := by omega
  refine ⟨ns[(c % (ns.length : Int)).toNat], ?_⟩
  unfold atI ixN
  rw [List.length_map, if_pos h1, if_pos h2]
  show (ns.map D.int)[(c % (ns.length : Int)).toNat]? = _
  rw [List.getElem?_map, List.getElem?_eq_getElem h3]
  rfl
@[simp ↓] theorem it_tup : (itOf (.tup xs) h).en QI = QI (xs, none) h := id rfl
@[simp ↓] theorem it_lst : (itOf (.lst xs) h).en QI = QI (xs, none) h := id rfl
theorem kind_ref (h1 : h.get n = some (.lst xs)) : kindIs "list" (.ref n) h = true := by simp [kindIs, lstOf, h1]
end
end Tb
end

section
set_option maxHeartbeats 4000000
namespace Tb
open PySem PySem.Spec PyProof.Rows L2
/-! ## more of the calculus -/
/-- not to be looked into by simp -/
def Hold (p : Prop) (_ : Bx p := ⟨⟩) : Prop := p
theorem Hold.mk {p : Prop} (h : p) : Hold p := h
section
variable {tg : MG} {body : MS} {N B C : Sl → MH → Prop} {T : D → MH → Prop} {s : Sl} {h : MH}
/-- a walk of range(lo, lo + n) -/
theorem for_range {lo : Int} {n : Nat} (I : Nat → Sl → MH → Prop) (i0 : I 0 s h) (step : ∀ t s h, t < n → I t s h → ∃ s1, tg (.int (lo + t)) s = some s1 ∧ (body s1 h).en (I (t + 1)) N (I (t + 1)) T) (fin : ∀ s h, I n s h → N s h) :
    (forLoop none tg body (rangeD lo n) s h).en N B C T := by
  have aux : ∀ k t s h, t + k = n → I t s h → (forLoop none tg body ((List.range' t k).map fun i => .int (lo + (i : Nat))) s h).en N B C T := by
    intro k
    induction k with
    | zero =>
      intro t s h e i
      obtain rfl : t = n := by omega
      unfold forLoop
      rw [List.range'_zero, List.map_nil]
      simp only
      rw [if_pos (show gOk none h from trivial)]
      exact fin _ _ i
    | succ k ih =>
      intro t s h e i
      rw [List.range'_succ, List.map_cons]
      unfold forLoop
      rw [if_pos (show gOk none h from trivial)]
      obtain ⟨s1, e1, q⟩ := step t s h (by omega) i
      rw [e1]
      simp only
      cases e2 : body s1 h <;> rw [e2] at q
      · exact ih (t + 1) _ _ (by omega) q
      · exact q
      · exact ih (t + 1) _ _ (by omega) q
      · exact q
      · exact q.elim
      · exact q.elim
  have := aux n 0 s h (by omega) i0
  rwa [← List.range_eq_range'] at this
end
/-! ### isinstance -/
@[simp ↓] theorem isi_non_int {h : MH} {Q : D → MH → Prop} : (bIsi [.non, .raw (.ty "int")] h).en Q = Q (.bl false) h := by simp [bIsi, kindOf, isIn]
@[simp ↓] theorem isi_non_str {h : MH} {Q : D → MH → Prop} : (bIsi [.non, .raw (.ty "str")] h).en Q = Q (.bl false) h := by simp [bIsi, kindOf, isIn]
@[simp ↓] theorem isi_non_tuple {h : MH} {Q : D → MH → Prop} : (bIsi [.non, .raw (.ty "tuple")] h).en Q = Q (.bl false) h := by simp [bIsi, kindOf, isIn]
@[simp ↓] theorem isi_non_list {h : MH} {Q : D → MH → Prop} : (bIsi [.non, .raw (.ty "list")] h).en Q = Q (.bl false) h := by simp [bIsi, kindOf, isIn]
@[simp ↓] theorem isi_non_bool {h : MH} {Q : D → MH → Prop} : (bIsi [.non, .raw (.ty "bool")] h).en Q = Q (.bl false) h := by simp [bIsi, kindOf, isIn]
@[simp ↓] theorem isi_non_dict {h : MH} {Q : D → MH → Prop} : (bIsi [.non, .raw (.ty "dict")] h).en Q = Q (.bl false) h := by simp [bIsi, kindOf, isIn]
@[simp ↓] theorem isi_bl_int {b : Bool} {h : MH} {Q : D → MH → Prop} : (bIsi [(.bl b), .raw (.ty "int")] h).en Q = Q (.bl true) h := by simp [bIsi, kindOf, isIn]
@[simp ↓] theorem isi_bl_str {b : Bool} {h : MH} {Q : D → MH → Prop} : (bIsi [(.bl b), .raw (.ty "str")] h).en Q = Q (.bl false) h := by simp [bIsi, kindOf, isIn]
@[simp ↓] theorem isi_bl_tuple {b : Bool} {h : MH} {Q : D → MH → Prop} : (bIsi [(.bl b), .raw (.ty "tuple")] h).en Q = Q (.bl false) h := by simp [bIsi, kindOf, isIn]
@[simp ↓] theorem isi_bl_list {b : Bool} {h : MH} {Q : D → MH → Prop} : (bIsi [(.bl b), .raw (.ty "list")] h).en Q = Q (.bl false) h := by simp [bIsi, kindOf, isIn]
@[simp ↓] theorem isi_bl_bool {b : Bool} {h : MH} {Q : D → MH → Prop} : (bIsi [(.bl b), .raw (.ty "bool")] h).en Q = Q (.bl true) h := by simp [bIsi, kindOf, isIn]
@[simp ↓] theorem isi_bl_dict {b : Bool} {h : MH} {Q : D → MH → Prop} : (bIsi [(.bl b), .raw (.ty "dict")] h).en Q = Q (.bl false) h := by simp [bIsi, kindOf, isIn]
@[simp ↓] theorem isi_int_int {i : Int} {h : MH} {Q : D → MH → Prop} : (bIsi [(.int i), .raw (.ty "int")] h).en Q = Q (.bl true) h := by simp [bIsi, kindOf, isIn]
@[simp ↓] theorem isi_int_str {i : Int} {h : MH} {Q : D → MH → Prop} : (bIsi [(.int i), .raw (.ty "str")] h).en Q = Q (.bl false) h := by simp [bIsi, kindOf, isIn]
@[simp ↓] theorem isi_int_tuple {i : Int} {h : MH} {Q : D → MH → Prop} : (bIsi [(.int i), .raw (.ty "tuple")] h).en Q = Q (.bl false) h := by simp [bIsi, kindOf, isIn]
@[simp ↓] theorem isi_int_list {i : Int} {h : MH} {Q : D → MH → Prop} : (bIsi [(.int i), .raw (.ty "list")] h).en Q = Q (.bl false) h := by simp [bIsi, kindOf, isIn]
@[simp ↓] theorem isi_int_bool {i : Int} {h : MH} {Q : D → MH → Prop} : (bIsi [(.int i), .raw (.ty "bool")] h).en Q = Q (.bl false) h := by simp [bIsi, kindOf, isIn]
@[simp ↓] theorem isi_int_dict {i : Int} {h : MH} {Q : D → MH → Prop} : (bIsi [(.int i), .raw (.ty "dict")] h).en Q = Q (.bl false) h := by simp [bIsi, kindOf, isIn]
@[simp ↓] theorem isi_str_int {x : Str} {h : MH} {Q : D → MH → Prop} : (bIsi [(.str x), .raw (.ty "int")] h).en Q = Q (.bl false) h := by simp [bIsi, kindOf, isIn]
@[simp ↓] theorem isi_str_str {x : Str} {h : MH} {Q : D → MH → Prop} : (bIsi [(.str x), .raw (.ty "str")] h).en Q = Q (.bl true) h := by simp [bIsi, kindOf, isIn]
@[simp ↓] theorem isi_str_tuple {x : Str} {h : MH} {Q : D → MH → Prop} : (bIsi [(.str x), .raw (.ty "tuple")] h).en Q = Q (.bl false) h := by simp [bIsi, kindOf, isIn]
@[simp ↓] theorem isi_str_list {x : Str} {h : MH} {Q : D → MH → Prop} : (bIsi [(.str x), .raw (.ty "list")] h).en Q = Q (.bl false) h := by simp [bIsi, kindOf, isIn]
@[simp ↓] theorem isi_str_bool {x : Str} {h : MH} {Q : D → MH → Prop} : (bIsi [(.str x), .raw (.ty "bool")] h).en Q = Q (.bl false) h := by simp [bIsi, kindOf, isIn]
@[simp ↓] theorem isi_str_dict {x : Str} {h : MH} {Q : D → MH → Prop} : (bIsi [(.str x), .raw (.ty "dict")] h).en Q = Q (.bl false) h := by simp [bIsi, kindOf, isIn]
@[simp ↓] theorem isi_tup_int {xs : List D} {h : MH} {Q : D → MH → Prop} : (bIsi [(.tup xs), .raw (.ty "int")] h).en Q = Q (.bl false) h := by simp [bIsi, kindOf, isIn]
@[simp ↓] theorem isi_tup_str {xs : List D} {h : MH} {Q : D → MH → Prop} : (bIsi [(.tup xs), .raw (.ty "str")] h).en Q = Q (.bl false) h := by simp [bIsi, kindOf, isIn]
@[simp ↓] theorem isi_tup_tuple {xs : List D} {h : MH} {Q : D → MH → Prop} : (bIsi [(.tup xs), .raw (.ty "tuple")] h).en Q = Q (.bl true) h := by simp [bIsi, kindOf, isIn]
@[simp ↓] theorem isi_tup_list {xs : List D} {h : MH} {Q : D → MH → Prop} : (bIsi [(.tup xs), .raw (.ty "list")] h).en Q = Q (.bl false) h := by simp [bIsi, kindOf, isIn]
@[simp ↓] theorem isi_tup_bool {xs : List D} {h : MH} {Q : D → MH → Prop} : (bIsi [(.tup xs), .raw (.ty "bool")] h).en Q = Q (.bl false) h := by simp [bIsi, kindOf, isIn]
@[simp ↓] theorem isi_tup_dict {xs : List D} {h : MH} {Q : D → MH → Prop} : (bIsi [(.tup xs), .raw (.ty "dict")] h).en Q = Q (.bl false) h := by simp [bIsi, kindOf, isIn]
@[simp ↓] theorem isi_lst_int {xs : List D} {h : MH} {Q : D → MH → Prop} : (bIsi [(.lst xs), .raw (.ty "int")] h).en Q = Q (.bl false) h := by simp [bIsi, kindOf, isIn]
@[simp ↓] theorem isi_lst_str {xs : List D} {h : MH} {Q : D → MH → Prop} : (bIsi [(.lst xs), .raw (.ty "str")] h).en Q = Q (.bl false) h := by simp [bIsi, kindOf, isIn]
@[simp ↓] theorem isi_lst_tuple {xs : List D} {h : MH} {Q : D → MH → Prop} : (bIsi [(.lst xs), .raw (.ty "tuple")] h).en Q = Q (.bl false) h := by simp [bIsi, kindOf, isIn]
@[simp ↓] theorem isi_lst_list {xs : List D} {h : MH} {Q : D → MH → Prop} : (bIsi [(.lst xs), .raw (.ty "list")] h).en Q = Q (.bl true) h := by simp [bIsi, kindOf, isIn]
@[simp ↓] theorem isi_lst_bool {xs : List D} {h : MH} {Q : D → MH → Prop} : (bIsi [(.lst xs), .raw (.ty "bool")] h).en Q = Q (.bl false) h := by simp [bIsi, kindOf, isIn]
@[simp ↓] theorem isi_lst_dict {xs : List D} {h : MH} {Q : D → MH → Prop} : (bIsi [(.lst xs), .raw (.ty "dict")] h).en Q = Q (.bl false) h := by simp [bIsi, kindOf, isIn]
/-! ### lists of ints -/
def intsD (ns : List Int) : List D := ns.map .int
@[simp] theorem ints_len {ns : List Int} : (intsD ns).length = ns.length := by simp [intsD]
theorem ints_bd {N : Nat} : ∀ {ns : List Int}, bds N (intsD ns) = true
  | [] => rfl
  | n :: ns => by
    have := ints_bd (N := N) (ns := ns)
    unfold intsD at this ⊢
    simp [bds, D.bd, this]
theorem ints_set {ns : List Int} {j : Nat} {i : Int} : (intsD ns).set j (.int i) = intsD (ns.set j i) := by simp [intsD, List.map_set]
theorem intsD_at {ns : List Int} {j : Nat} {i : Int} (e : ns[j]? = some i) : (intsD ns)[j]? = some (.int i) := by simp [intsD, e]
theorem ixN_pos {n j : Nat} (hj : j < n) : ixN n (j : Int) = some j := by
  unfold ixN
  rw [if_pos (by omega), if_pos (by omega)]
  rfl
theorem at_pos {xs : List D} {j : Nat} {z : D} (e : xs[j]? = some z) : atI xs (j : Int) = some z := by
  unfold atI
  have hj : j < xs.length := (List.getElem?_eq_some_iff.mp e).1
  rw [ixN_pos hj]
  exact e
theorem rangeD_map {n : Nat} {φ : D → D} {f : Nat → Int} (e : ∀ i, i < n → φ (.int (i : Int)) = .int (f i)) : (rangeD 0 n).map φ = intsD ((List.range n).map f) := by
  unfold rangeD intsD
  rw [List.map_map, List.map_map]
  refine List.map_congr_left fun i hi => ?_
  simp only [Function.comp_apply, Int.zero_add]
  exact e i (List.mem_range.mp hi)
theorem mem_rangeD {n : Nat} {x : D} (h : x ∈ rangeD 0 n) : ∃ i : Nat, i < n ∧ x = .int (i : Int) := by
  unfold rangeD at h
  obtain ⟨i, h1, h2⟩ := List.mem_map.mp h
  exact ⟨i, List.mem_range.mp h1, by rw [← h2]; simp⟩
@[simp] theorem rangeD_len {lo : Int} {n : Nat} : (rangeD lo n).length = n := by simp [rangeD]
theorem range_set {n j : Nat} {f g : Nat → Int} (hj : j < n) (e : ∀ i, i < n → i ≠ j → g i = f i) : ((List.range n).map f).set j (g j) = (List.range n).map g := by
  refine List.ext_getElem (by simp) fun i h1 h2 => ?_
  simp only [List.length_set, List.length_map, List.length_range] at h1
  rw [List.getElem_set]
  simp only [List.getElem_map, List.getElem_range]
  split
  · rename_i e1
    subst e1; rfl
  · rename_i e1
    exact (e i h1 (fun z => e1 z.symm)).symm
theorem eqvAll_ints : ∀ {ns ms : List Int}, PyData.eqvAll (ns.map .int) (ms.map .int) = decide (ns = ms)
  | [], [] => rfl
  | [], m :: ms => by simp [PyData.eqvAll]
  | n :: ns, [] => by simp [PyData.eqvAll]
  | n :: ns, m :: ms => by
    simp only [List.map_cons, PyData.eqvAll, eqvAll_ints, PyData.eqv]
    exact Bool.eq_iff_iff.mpr (by simp)
theorem toP_tupI {ns : List Int} {h : MH} : toD h (.tup (intsD ns)) = some (.tuple (ns.map .int)) := by
  show toP (.tup (intsD ns)) = _
  unfold intsD
  simp only [toP, toPs_ints, Option.map_some]
theorem toP_lstI {ns : List Int} {h : MH} : toD h (.lst (intsD ns)) = some (.list (ns.map .int)) := by
  show toP (.lst (intsD ns)) = _
  unfold intsD
  simp only [toP, toPs_ints, Option.map_some]
theorem shaped_tupI {ns : List Int} : SeqAt.shaped (.tuple (ns.map .int)) = true := by
  unfold SeqAt.shaped
  have := depth_ints ns
  simp only [PyData.canLay0, lay_ints, Bool.true_and, PyData.depth]
  exact decide_eq_true (by omega)
theorem shaped_lstI {ns : List Int} : SeqAt.shaped (.list (ns.map .int)) = true := by
  unfold SeqAt.shaped
  have := depth_ints ns
  simp only [PyData.canLay0, lay_ints, Bool.true_and, PyData.depth]
  exact decide_eq_true (by omega)
section
variable {ns ms : List Int} {h : MH} {Q : D → MH → Prop}
@[simp ↓] theorem o_eqTI : (opEq (.tup (intsD ns)) (.tup (intsD ms)) h).en Q = Q (.bl (decide (ns = ms))) h := by
  rw [o_eqP (p := .tuple (ns.map .int)) (q := .tuple (ms.map .int)) toP_tupI toP_tupI shaped_tupI shaped_tupI (by simp)]
  simp only [PyData.eqv, eqvAll_ints]
@[simp ↓] theorem o_neTI : (opNe (.tup (intsD ns)) (.tup (intsD ms)) h).en Q = Q (.bl (!decide (ns = ms))) h := by
  rw [o_neP (p := .tuple (ns.map .int)) (q := .tuple (ms.map .int)) toP_tupI toP_tupI shaped_tupI shaped_tupI (by simp)]
  simp only [PyData.eqv, eqvAll_ints]
@[simp ↓] theorem o_eqLI : (opEq (.lst (intsD ns)) (.lst (intsD ms)) h).en Q = Q (.bl (decide (ns = ms))) h := by
  rw [o_eqP (p := .list (ns.map .int)) (q := .list (ms.map .int)) toP_lstI toP_lstI shaped_lstI shaped_lstI (by simp)]
  simp only [PyData.eqv, eqvAll_ints]
@[simp ↓] theorem o_neLI : (opNe (.lst (intsD ns)) (.lst (intsD ms)) h).en Q = Q (.bl (!decide (ns = ms))) h := by
  rw [o_neP (p := .list (ns.map .int)) (q := .list (ms.map .int)) toP_lstI toP_lstI shaped_lstI shaped_lstI (by simp)]
  simp only [PyData.eqv, eqvAll_ints]
theorem intsOf_ints : ∀ {ns : List Int}, intsOf (intsD ns) = some ns
  | [] => rfl
  | n :: ns => by
    have := intsOf_ints (ns := ns)
    unfold intsD at this ⊢
    simp only [List.map_cons, intsOf, this, Option.map_some]
@[simp ↓] theorem sum_lstI : (bSum [.lst (intsD ns)] h).en Q = Q (.int ns.sum) h := by
  simp only [bSum, seqOf, lstOf, Option.bind_some, intsOf_ints]
  rfl
@[simp ↓] theorem sum_tupI : (bSum [.tup (intsD ns)] h).en Q = Q (.int ns.sum) h := by
  simp only [bSum, seqOf, Option.bind_some, intsOf_ints]
  rfl
theorem max_tupI (hne : ns ≠ []) : (bMax [.tup (intsD ns)] h).en Q = Q (.int (maxI ns)) h := by
  cases ns with
  | nil => exact absurd rfl hne
  | cons n ns =>
    simp only [bMax, seqOf, Option.bind_some, intsOf_ints]
    rfl
theorem min_tupI (hne : ns ≠ []) : (bMin [.tup (intsD ns)] h).en Q = Q (.int (minI ns)) h := by
  cases ns with
  | nil => exact absurd rfl hne
  | cons n ns =>
    simp only [bMin, seqOf, Option.bind_some, intsOf_ints]
    rfl
theorem max_lstI (hne : ns ≠ []) : (bMax [.lst (intsD ns)] h).en Q = Q (.int (maxI ns)) h := by
  cases ns with
  | nil => exact absurd rfl hne
  | cons n ns =>
    simp only [bMax, seqOf, lstOf, Option.bind_some, intsOf_ints]
    rfl
theorem min_lstI (hne : ns ≠ []) : (bMin [.lst (intsD ns)] h).en Q = Q (.int (minI ns)) h := by
  cases ns with
  | nil => exact absurd rfl hne
  | cons n ns =>
    simp only [bMin, seqOf, lstOf, Option.bind_some, intsOf_ints]
    rfl
theorem maxI_spec (hne : ns ≠ []) : maxI ns ∈ ns ∧ ∀ y ∈ ns, y ≤ maxI ns := by
  cases ns with
  | nil => exact absurd rfl hne
  | cons n ns => exact maxI_mem
theorem minI_spec (hne : ns ≠ []) : minI ns ∈ ns ∧ ∀ y ∈ ns, minI ns ≤ y := by
  cases ns with
  | nil => exact absurd rfl hne
  | cons n ns => exact minI_mem
end
@[simp ↓] theorem ev_zip {a b : ME} {s : Sl} {h : MH} {QI : List D × Gd → MH → Prop} : (mZip a b s h).en QI = (a s h).en fun d h1 => (b s h1).en fun e h2 => (zipOf d e h2).en QI := en_bind.trans (en_ext fun _ _ => en_bind)
@[simp ↓] theorem ev_enum {a : ME} {s : Sl} {h : MH} {QI : List D × Gd → MH → Prop} : (mEnum a s h).en QI = (a s h).en fun d h1 => (enumOf d h1).en QI := en_bind
@[simp ↓] theorem zip_tl {xs ys : List D} {h : MH} {QI : List D × Gd → MH → Prop} : (zipOf (.tup xs) (.lst ys) h).en QI = QI (List.zipWith pairD xs ys, none) h := id rfl
@[simp ↓] theorem zip_tt {xs ys : List D} {h : MH} {QI : List D × Gd → MH → Prop} : (zipOf (.tup xs) (.tup ys) h).en QI = QI (List.zipWith pairD xs ys, none) h := id rfl
@[simp ↓] theorem zip_lt {xs ys : List D} {h : MH} {QI : List D × Gd → MH → Prop} : (zipOf (.lst xs) (.tup ys) h).en QI = QI (List.zipWith pairD xs ys, none) h := id rfl
@[simp ↓] theorem zip_ll {xs ys : List D} {h : MH} {QI : List D × Gd → MH → Prop} : (zipOf (.lst xs) (.lst ys) h).en QI = QI (List.zipWith pairD xs ys, none) h := id rfl
@[simp ↓] theorem cut_tup {xs : List D} {lo hi : Option Int} {h : MH} {Q : D → MH → Prop} : (opCut (.tup xs) lo hi h).en Q = Q (.tup (Tb.cutD xs lo hi)) h := id rfl
@[simp ↓] theorem cut_lst {xs : List D} {lo hi : Option Int} {h : MH} {Q : D → MH → Prop} : (opCut (.lst xs) lo hi h).en Q = Q (.lst (Tb.cutD xs lo hi)) h := id rfl
theorem add_tup {xs ys : List D} {h : MH} {Q : D → MH → Prop} (hz : xs.length + ys.length ≤ sizeLine) : (opAdd (.tup xs) (.tup ys) h).en Q = Q (.tup (xs ++ ys)) h := by
  rw [show opAdd (.tup xs) (.tup ys) h = .ok (.tup (xs ++ ys)) h from if_pos hz]
  rfl
/-! ### what repr tells -/
mutual
/-- numbers and texts that repr shows -/
def D.plain : D → Bool
  | .non | .bl _ => true
  | .int i => decide (i.natAbs < 2 ^ 200)
  | .str x => PyData.canLay0 (.str x)
  | .tup xs | .lst xs => plains xs
  | _ => false
def plains : List D → Bool
  | [] => true
  | x :: xs => x.plain && plains xs
end
mutual
/-- no less than what repr takes -/
def D.wt : D → Nat
  | .str x => 10 * x.length + 2
  | .tup xs | .lst xs => wts xs + 3
  | _ => 202
def wts : List D → Nat
  | [] => 0
  | x :: xs => x.wt + 2 + wts xs
end
mutual
def D.deep : D → Nat
  | .tup xs | .lst xs => deeps xs + 1
  | _ => 0
def deeps : List D → Nat
  | [] => 0
  | x :: xs => max x.deep (deeps xs)
end
structure Shown (d : D) (p : PyData) : Prop where
  to : toP d = some p
  can : p.showable = true
  len : p.shown.length ≤ d.wt
  lay : p.canLay0 = true
  dep : p.depth = d.deep
structure ShownAll (ds : List D) (ps : List PyData) : Prop where
  to : toPs ds = some ps
  can : PyData.showableAll ps = true
  len : ((PyData.shownAll ps).map (·.length)).sum + 2 * (PyData.shownAll ps).length ≤ wts ds
  lay : PyData.canLayAll0 ps = true
  dep : PyData.depthAll ps = deeps ds
mutual
theorem shown_of : ∀ {d : D}, d.plain = true → ∃ p, Shown d p
  | .non, _ => ⟨.none, rfl, rfl, by decide +kernel, rfl, rfl⟩
  | .bl b, _ => ⟨.bool b, rfl, rfl, by cases b <;> decide +kernel, rfl, rfl⟩
  | .int i, h => by
    have h1 : i.natAbs < 2 ^ 200 := by simpa [D.plain] using h
    have h2 : i.natAbs.log2 < 201 := by
      by_cases z : i.natAbs = 0
      · rw [z]; decide
      · have := (Nat.log2_lt z).mpr h1
        omega
    refine ⟨.int i, rfl, ?_, ?_, rfl, rfl⟩
    · simp only [PyData.showable, decide_eq_true_eq]
      omega
    · show (PySem.Str.ofString (toString i)).length ≤ 202
      rw [PySem.ofString_length]
      exact PySem.int_text_length_le (k := 201) (by decide) h2
  | .str x, h => by
    have h1 : PyData.canLay0 (.str x) = true := by simpa only [D.plain] using h
    refine ⟨.str x, rfl, rfl, ?_, h1, rfl⟩
    refine PySem.StrLaws.reprText_len x fun c hc => ?_
    have h2 : x.cps.all (· < 0x110000) = true := h1
    rw [Array.all_eq_true_iff_forall_mem] at h2
    have := of_decide_eq_true (h2 c (Array.mem_def.mpr hc))
    omega
  | .tup xs, h => by
    obtain ⟨ps, h1⟩ := showns_of (ds := xs) (by simpa only [D.plain] using h)
    refine ⟨.tuple ps, by simp only [toP, h1.to, Option.map_some], h1.can, ?_, h1.lay, by simp only [PyData.depth, D.deep, h1.dep]⟩
    have := PySem.tupleText_len_le (PyData.shownAll ps)
    have := h1.len
    simp only [PyData.shown, D.wt]
    omega
  | .lst xs, h => by
    obtain ⟨ps, h1⟩ := showns_of (ds := xs) (by simpa only [D.plain] using h)
    refine ⟨.list ps, by simp only [toP, h1.to, Option.map_some], h1.can, ?_, h1.lay, by simp only [PyData.depth, D.deep, h1.dep]⟩
    have := PySem.listText_len_le (PyData.shownAll ps)
    have := h1.len
    simp only [PyData.shown, D.wt]
    omega
  | .ref _, h => by simp [D.plain] at h
  | .raw _, h => by simp [D.plain] at h
  | .scr _, h => by simp [D.plain] at h
theorem showns_of : ∀ {ds : List D}, plains ds = true → ∃ ps, ShownAll ds ps
  | [], _ => ⟨[], rfl, rfl, by simp [PyData.shownAll, wts], rfl, rfl⟩
  | d :: ds, h => by
    simp only [plains, Bool.and_eq_true] at h
    obtain ⟨p, h1⟩ := shown_of h.1
    obtain ⟨ps, h2⟩ := showns_of h.2
    refine ⟨p :: ps, by simp only [toPs, h1.to, h2.to], by simp only [PyData.showableAll, h1.can, h2.can, Bool.and_self], ?_, by simp only [PyData.canLayAll0, h1.lay, h2.lay, Bool.and_self], by simp only [PyData.depthAll, deeps, h1.dep, h2.dep]⟩
    have := h1.len
    have := h2.len
    simp only [PyData.shownAll, List.map_cons, List.sum_cons, List.length_cons, wts]
    omega
end
/-- what repr tells of it -/
noncomputable def txt (d : D) : Str := ((toP d).map PyData.shown).getD ⟨#[]⟩
theorem o_repr {d : D} {h : MH} {Q : D → MH → Prop} (hp : d.plain = true) (hw : d.wt ≤ sizeLine) (hd : d.deep ≤ 64) : (bRepr [d] h).en Q = Q (.str (txt d)) h := by
  obtain ⟨p, h1⟩ := shown_of hp
  have e1 : toD h d = some p := by
    cases d <;> first | exact h1.to | (simp [D.plain] at hp; done)
  have e2 : bRepr [d] h = .ok (.str p.shown) h := by
    simp only [bRepr, e1]
    refine if_pos ⟨h1.can, Nat.le_trans h1.len hw, ?_⟩
    unfold SeqAt.shaped
    rw [h1.lay, h1.dep]
    simpa using hd
  rw [e2]
  show Q (.str p.shown) h = _
  unfold txt
  rw [h1.to]
  rfl
/-- a held list -/
theorem o_reprH {n : Nat} {xs : List D} {h : MH} {Q : D → MH → Prop} (e : h.get n = some (.lst xs)) (hp : (D.lst xs).plain = true) (hw : (D.lst xs).wt ≤ sizeLine) (hd : (D.lst xs).deep ≤ 64) : (bRepr [.ref n] h).en Q = Q (.str (txt (.lst xs))) h := by
  rw [← o_repr (h := h) (Q := Q) hp hw hd]
  have e1 : toD h (.ref n) = toD h (.lst xs) := by
    simp only [toD, e, toP]
  have e2 : bRepr [.ref n] h = bRepr [.lst xs] h := by simp only [bRepr, e1]
  rw [e2]
theorem ints_plain {ns : List Int} (h : ∀ n ∈ ns, n.natAbs < 2 ^ 200) : plains (intsD ns) = true := by
  induction ns with
  | nil => rfl
  | cons n ns ih =>
    simp only [intsD, List.map_cons, plains, Bool.and_eq_true, D.plain, decide_eq_true_eq]
    exact ⟨h n List.mem_cons_self, ih fun m hm => h m (List.mem_cons_of_mem _ hm)⟩
theorem ints_wt {ns : List Int} : wts (intsD ns) = 204 * ns.length := by
  induction ns with
  | nil => rfl
  | cons n ns ih =>
    unfold intsD at ih
    simp only [intsD, List.map_cons, wts, D.wt, List.length_cons, ih]
    omega
theorem ints_deep {ns : List Int} : deeps (intsD ns) = 0 := by
  induction ns with
  | nil => rfl
  | cons n ns ih =>
    unfold intsD at ih
    simp only [intsD, List.map_cons, deeps, D.deep, ih]
    rfl
end Tb
end

section
set_option maxHeartbeats 0
open PySem PySem.Spec PyProof.Rows L2 Tb
namespace Lw
def top (i : Nat) : Stmt := PySem.Challenge.pw_tablebills_k55_jobs_by_kind.main.body.getD i (.Pass ⟨0, 0, 0, 0⟩)
abbrev FnP (K : PySem.W.Frag) (x : Str) (i : Nat) (dvs : List V) (f : Addr) (fd : FuncData) : Prop := FunD K x x (defArgs (top i)) (defBody (top i)) (defScope (top i)) dvs [] f fd
/-! ### mirrors -/
noncomputable def m_w_coil : MS :=
  mRet (mLstH (mCons (mCut opCut (mVar 0) mNoPart (mPart (mC (.int 63)))) (mCons (mC (.int 0)) (mCons (mC (.int 0)) (mCons (mC (.int 0)) (mNil))))))
noncomputable def f_w_coil : Fn := fnM 1 m_w_coil
noncomputable def m_w_pull_9 : MS :=
  mRetF (mOp opMod (mOp opDiv (mOp opMod (mOp opAdd (mOp opRep (mVar 6) (mVar 6)) (mOp opRep (mC (.int 17)) (mVar 6))) (mC (.int 2147483563))) (mC (.int 64))) (mVar 1))
noncomputable def m_w_pull_8 : MS :=
  mSeq (mSet 6 (mOp opMod (mOp opAdd (mOp opAdd (mOp opRep (mVar 6) (mVar 6)) (mOp opRep (mC (.int 39119)) (mVar 2))) (mC (.int 41))) (mC (.int 2147483629)))) (m_w_pull_9)
noncomputable def m_w_pull_7 : MS :=
  mSeq (mSet 6 (mOp opAdd (mOp opAdd (mOp opAdd (mOp opMod (mVar 5) (mC (.int 2147483549))) (mOp opRep (mOp opRep (mC (.int 6733)) (mVar 2)) (mVar 2))) (mOp opRep (mC (.int 401)) (mVar 2))) (mC (.int 173)))) (m_w_pull_8)
noncomputable def m_w_pull_6 : MS :=
  mSeq (mIfS (mAnd (mAsB (mOp opGe (mVar 5) (mOp opPow (mC (.int 10)) (mC (.int 18))))) (mAsB (mOp opLt (mVar 4) (mCallB bLen (mCons (mOp opIx (mVar 0) (mC (.int 0))) (mNil)))))) (mSeq (mSetSub setIx (mVar 0) (mC (.int 1)) (mOp opDiv (mVar 5) (mVar 1))) (mRetF (mOp opMod (mVar 5) (mVar 1)))) (mSkip)) (m_w_pull_7)
noncomputable def m_w_pull_5 : MS :=
  mSeq (mSet 5 (mIf (mAsB (mOp opNe (mOp opIx (mVar 0) (mC (.int 0))) (mLst (mNil)))) (mOp opIx (mOp opIx (mVar 0) (mC (.int 0))) (mOp opMod (mVar 4) (mCallB bLen (mCons (mOp opIx (mVar 0) (mC (.int 0))) (mNil))))) (mC (.int 8)))) (m_w_pull_6)
noncomputable def m_w_pull_4 : MS :=
  mSeq (mSetSub setIx (mVar 0) (mC (.int 3)) (mOp opAdd (mVar 4) (mC (.int 1)))) (m_w_pull_5)
noncomputable def m_w_pull_3 : MS :=
  mSeq (mSet 4 (mOp opIx (mVar 0) (mC (.int 3)))) (m_w_pull_4)
noncomputable def m_w_pull_2 : MS :=
  mSeq (mIfS (mAsB (mOp opGt (mOp opIx (mVar 0) (mC (.int 1))) (mC (.int 0)))) (mSeq (mSet 3 (mOp opMod (mOp opIx (mVar 0) (mC (.int 1))) (mVar 1))) (mSeq (mSetSub setIx (mVar 0) (mC (.int 1)) (mOp opDiv (mOp opIx (mVar 0) (mC (.int 1))) (mVar 1))) (mRetF (mVar 3)))) (mSkip)) (m_w_pull_3)
noncomputable def m_w_pull_1 : MS :=
  mSeq (mSetSub setIx (mVar 0) (mC (.int 2)) (mOp opAdd (mVar 2) (mC (.int 1)))) (m_w_pull_2)
noncomputable def m_w_pull : MS :=
  mSeq (mSet 2 (mOp opIx (mVar 0) (mC (.int 2)))) (m_w_pull_1)
noncomputable def f_w_pull : Fn := fnM 7 m_w_pull
noncomputable def m_w_jobs_3 : MS :=
  mRetF (mCallB bTuple (mCons (mVar 3) (mNil)))
noncomputable def m_w_jobs_2 : MS :=
  mSeq (mFor (mRange1 (mCall 2 f_w_pull [] (mCons (mVar 0) (mCons (mOp opAdd (mVar 1) (mC (.int 1))) (mNil))))) (mgName 4) (mSeq (mSet 5 (mOp opAdd (mVar 2) (mCall 2 f_w_pull [] (mCons (mVar 0) (mCons (mC (.int 7)) (mNil)))))) (mSeq (mSet 6 (mOp opAdd (mVar 5) (mOp opIx (mLst (mCons (mC (.int 1)) (mCons (mC (.int 2)) (mCons (mC (.int 3)) (mCons (mC (.int 4)) (mCons (mC (.int 6)) (mCons (mOp opAdd (mC (.int 1)) (mCall 2 f_w_pull [] (mCons (mVar 0) (mCons (mC (.int 9)) (mNil))))) (mNil)))))))) (mCall 2 f_w_pull [] (mCons (mVar 0) (mCons (mC (.int 6)) (mNil))))))) (mSeq (mIfS (mAsB (mOp opEq (mCall 2 f_w_pull [] (mCons (mVar 0) (mCons (mC (.int 16)) (mNil)))) (mC (.int 0)))) (mSet 6 (mVar 5)) (mSkip)) (mDo (mMeth "list" lAppend (mVar 3) (mCons (mTup (mCons (mVar 5) (mCons (mVar 6) (mCons (mOp opIx (mLst (mCons (mCall 2 f_w_pull [] (mCons (mVar 0) (mCons (mC (.int 6)) (mNil)))) (mCons (mC (.int 1)) (mCons (mC (.int 2)) (mCons (mC (.int 0)) (mCons (mC (.int 3)) (mCons (mC (.int 7)) (mNil)))))))) (mCall 2 f_w_pull [] (mCons (mVar 0) (mCons (mC (.int 6)) (mNil))))) (mNil))))) (mNil)))))))) (m_w_jobs_3)
noncomputable def m_w_jobs_1 : MS :=
  mSeq (mSet 3 (mLstH (mNil))) (m_w_jobs_2)
noncomputable def m_w_jobs : MS :=
  mSeq (mSet 2 (mOp opIx (mLst (mCons (mC (.int 0)) (mCons (mCall 2 f_w_pull [] (mCons (mVar 0) (mCons (mC (.int 30)) (mNil)))) (mCons (mC (.int 380)) (mNil))))) (mCall 2 f_w_pull [] (mCons (mVar 0) (mCons (mC (.int 3)) (mNil)))))) (m_w_jobs_1)
noncomputable def f_w_jobs : Fn := fnM 7 m_w_jobs
noncomputable def m_later_jobs : MS :=
  mRetF (mCallB bTuple (mCons (mLc (mIter (mVar 0)) [2, 3, 4] (mgTup 3 (mgCons (mgName 2) (mgCons (mgName 3) (mgCons (mgName 4) (mgNil))))) (mYes) (mTup (mCons (mVar 2) (mCons (mOp opAdd (mVar 3) (mVar 1)) (mCons (mVar 4) (mNil))))) finL) (mNil)))
noncomputable def f_later_jobs : Fn := fnM 5 m_later_jobs
noncomputable def m_w_whole : MS :=
  mRetF (mAndV (mCallB bIsi (mCons (mVar 0) (mCons (mC (.raw (.ty "int"))) (mNil)))) (mNotV (mCallB bIsi (mCons (mVar 0) (mCons (mC (.raw (.ty "bool"))) (mNil))))))
noncomputable def f_w_whole : Fn := fnM 1 m_w_whole
noncomputable def m_w_bent_3 (rec : Fn) : MS :=
  mRetF (mOp opIx (mLst (mCons (mC (.int 0)) (mCons (mTup (mNil)) (mCons (mTup (mCons (mC (.int 0)) (mCons (mC (.int 0)) (mNil)))) (mCons (mTup (mCons (mC (.int 0)) (mCons (mC (.int 1)) (mNil)))) (mNil)))))) (mCall 2 f_w_pull [] (mCons (mVar 0) (mCons (mC (.int 4)) (mNil)))))
noncomputable def m_w_bent_2 (rec : Fn) : MS :=
  mSeq (mIfS (mTruth (mCall 1 f_w_whole [] (mCons (mVar 1) (mNil)))) (mRetF (mOp opIx (mLst (mCons (mOp opAdd (mVar 1) (mC (.int 1))) (mCons (mOp opSub (mVar 1) (mC (.int 1))) (mCons (mOp opSub (mC (.int 0)) (mVar 1)) (mCons (mOp opEq (mVar 1) (mC (.int 1))) (mCons (mC .non) (mCons (mC (.str "1")) (mCons (mOp opPow (mC (.int 10)) (mC (.int 60))) (mCons (mOp opSub (mC (.int 0)) (mOp opPow (mC (.int 10)) (mC (.int 60)))) (mNil)))))))))) (mCall 2 f_w_pull [] (mCons (mVar 0) (mCons (mC (.int 8)) (mNil)))))) (mSkip)) (m_w_bent_3 rec)
noncomputable def m_w_bent_1 (rec : Fn) : MS :=
  mSeq (mIfS (mTruth (mCallB bIsi (mCons (mVar 1) (mCons (mC (.raw (.ty "tuple"))) (mNil))))) (mSeq (mSet 2 (mCall 2 f_w_pull [] (mCons (mVar 0) (mCons (mOp opAdd (mCallB bLen (mCons (mVar 1) (mNil))) (mC (.int 1))) (mNil))))) (mSeq (mSet 3 (mLst (mCons (mOp opAdd (mCut opCut (mVar 1) mNoPart (mPart (mVar 2))) (mCut opCut (mVar 1) (mPart (mOp opAdd (mVar 2) (mC (.int 1)))) mNoPart)) (mCons (mOp opAdd (mOp opAdd (mCut opCut (mVar 1) mNoPart (mPart (mVar 2))) (mCut opCut (mVar 1) (mPart (mVar 2)) (mPart (mOp opAdd (mVar 2) (mC (.int 1)))))) (mCut opCut (mVar 1) (mPart (mVar 2)) mNoPart)) (mCons (mCallB bList (mCons (mVar 1) (mNil))) (mCons (mRev (mVar 1)) (mNil))))))) (mRetF (mOp opIx (mOp opAdd (mVar 3) (mLst (mCons (mTup (mNil)) (mCons (mOp opAdd (mVar 1) (mTup (mCons (mC (.int 0)) (mNil)))) (mCons (mC .non) (mCons (mOp opAdd (mCut opCut (mVar 1) (mPart (mVar 2)) mNoPart) (mCut opCut (mVar 1) mNoPart (mPart (mVar 2)))) (mNil))))))) (mCall 2 f_w_pull [] (mCons (mVar 0) (mCons (mC (.int 8)) (mNil)))))))) (mSkip)) (m_w_bent_2 rec)
noncomputable def m_w_bent (rec : Fn) : MS :=
  mSeq (mIfS (mAnd (mTruth (mCallB bIsi (mCons (mVar 1) (mCons (mC (.raw (.ty "tuple"))) (mNil))))) (mAnd (mAsB (mOp opNe (mVar 1) (mTup (mNil)))) (mAsB (mOp opGt (mCall 2 f_w_pull [] (mCons (mVar 0) (mCons (mC (.int 5)) (mNil)))) (mC (.int 0)))))) (mSeq (mSet 2 (mCall 2 f_w_pull [] (mCons (mVar 0) (mCons (mCallB bLen (mCons (mVar 1) (mNil))) (mNil))))) (mRetF (mOp opAdd (mOp opAdd (mCut opCut (mVar 1) mNoPart (mPart (mVar 2))) (mTup (mCons (mCall 2 rec [] (mCons (mVar 0) (mCons (mOp opIx (mVar 1) (mVar 2)) (mNil)))) (mNil)))) (mCut opCut (mVar 1) (mPart (mOp opAdd (mVar 2) (mC (.int 1)))) mNoPart)))) (mSkip)) (m_w_bent_1 rec)
noncomputable def fr_w_bent : Nat → Fn
  | 0 => fun _ _ => .bad
  | k + 1 => fnM 4 (m_w_bent (fr_w_bent k))
noncomputable def f_w_bent : Fn := fr_w_bent 20
noncomputable def m_w_are_jobs_2 : MS :=
  mRetF (mC (.bl true))
noncomputable def m_w_are_jobs_1 : MS :=
  mSeq (mFor (mIter (mVar 0)) (mgName 1) (mSeq (mIfS (mOr (mNot (mTruth (mCallB bIsi (mCons (mVar 1) (mCons (mC (.raw (.ty "tuple"))) (mNil)))))) (mOr (mAsB (mOp opNe (mCallB bLen (mCons (mVar 1) (mNil))) (mC (.int 3)))) (mAsB (mOp (opIn false) (mC (.bl false)) (mLc (mIter (mVar 1)) [2] (mgName 2) (mYes) (mCall 1 f_w_whole [] (mCons (mVar 2) (mNil))) finL))))) (mRetF (mC (.bl false))) (mSkip)) (mIfS (mOr (mAsB (mOp opLt (mCallB bMin (mCons (mVar 1) (mNil))) (mC (.int 0)))) (mAsB (mOp opGt (mOp opIx (mVar 1) (mC (.int 0))) (mOp opIx (mVar 1) (mC (.int 1)))))) (mRetF (mC (.bl false))) (mSkip)))) (m_w_are_jobs_2)
noncomputable def m_w_are_jobs : MS :=
  mSeq (mIfS (mNot (mTruth (mCallB bIsi (mCons (mVar 0) (mCons (mC (.raw (.ty "tuple"))) (mNil)))))) (mRetF (mC (.bl false))) (mSkip)) (m_w_are_jobs_1)
noncomputable def f_w_are_jobs : Fn := fnM 3 m_w_are_jobs
noncomputable def m_is_number : MS :=
  mRetF (mAndV (mCallB bIsi (mCons (mVar 0) (mCons (mC (.raw (.ty "int"))) (mNil)))) (mNotV (mCallB bIsi (mCons (mVar 0) (mCons (mC (.raw (.ty "bool"))) (mNil))))))
noncomputable def f_is_number : Fn := fnM 1 m_is_number
noncomputable def m_is_job : MS :=
  mSeq (mIfS (mOr (mNot (mTruth (mCallB bIsi (mCons (mVar 0) (mCons (mC (.raw (.ty "tuple"))) (mNil)))))) (mOr (mAsB (mOp opNe (mCallB bLen (mCons (mVar 0) (mNil))) (mC (.int 3)))) (mNot (mTruth (mCallB bAll (mCons (mLc (mIter (mVar 0)) [1] (mgName 1) (mYes) (mAndV (mCall 1 f_is_number [] (mCons (mVar 1) (mNil))) (mOp opGe (mVar 1) (mC (.int 0)))) finL) (mNil))))))) (mRetF (mC (.bl false))) (mSkip)) (mRetF (mOp opLe (mOp opIx (mVar 0) (mC (.int 0))) (mOp opIx (mVar 0) (mC (.int 1)))))
noncomputable def f_is_job : Fn := fnM 2 m_is_job
noncomputable def m_is_jobs : MS :=
  mRetF (mAndV (mCallB bIsi (mCons (mVar 0) (mCons (mC (.raw (.ty "tuple"))) (mNil)))) (mCallB bAll (mCons (mLc (mIter (mVar 0)) [1] (mgName 1) (mYes) (mCall 1 f_is_job [] (mCons (mVar 1) (mNil))) finL) (mNil))))
noncomputable def f_is_jobs : Fn := fnM 2 m_is_jobs
noncomputable def m_within : MS :=
  mRetF (mCallB bSum (mCons (mLc (mIter (mVar 0)) [3, 4, 5] (mgTup 3 (mgCons (mgName 3) (mgCons (mgName 4) (mgCons (mgName 5) (mgNil))))) (mAnd (mAsB (mOp opLe (mVar 1) (mVar 3))) (mAsB (mOp opLe (mVar 4) (mVar 2)))) (mVar 5) finL) (mNil)))
noncomputable def f_within : Fn := fnM 6 m_within
noncomputable def m_w_later : MS :=
  mRetF (mCallB bTuple (mCons (mLc (mIter (mVar 0)) [2, 3, 4] (mgTup 3 (mgCons (mgName 2) (mgCons (mgName 3) (mgCons (mgName 4) (mgNil))))) (mYes) (mTup (mCons (mVar 2) (mCons (mOp opAdd (mVar 3) (mVar 1)) (mCons (mVar 4) (mNil))))) finL) (mNil)))
noncomputable def f_w_later : Fn := fnM 5 m_w_later
noncomputable def m_law_13 : MS :=
  mRetF (mAndV (mOp opEq (mCallB bRepr (mCons (mCallK 1 1 2 f_later_jobs (fun xs ys => kPick [(0, true)] xs [(.int 1)] ys) (mCons (mVar 2) (mNil)) (mCons (mC (.int 0)) (mNil))) (mNil))) (mVar 4)) (mOp opEq (mCallB bRepr (mCons (mVar 2) (mNil))) (mVar 4)))
noncomputable def m_law_12 : MS :=
  mSeq (mIfS (mAsB (mOp opNe (mCallB bRepr (mCons (mVar 14) (mNil))) (mCallB bRepr (mCons (mOp opAdd (mOp opRep (mLst (mCons (mCall 2 f_w_later [] (mCons (mVar 2) (mCons (mVar 13) (mNil)))) (mNil))) (mC (.int 3))) (mLst (mCons (mCall 2 f_w_later [] (mCons (mVar 2) (mCons (mC (.int 1)) (mNil)))) (mNil)))) (mNil))))) (mRetF (mC (.bl false))) (mSkip)) (m_law_13)
noncomputable def m_law_11 : MS :=
  mSeq (mSet 14 (mLst (mCons (mCall 2 f_later_jobs [] (mCons (mVar 2) (mCons (mVar 13) (mNil)))) (mCons (mCallK 1 1 2 f_later_jobs (fun xs ys => kPick [(0, true)] xs [(.int 1)] ys) (mCons (mVar 2) (mNil)) (mCons (mVar 13) (mNil))) (mCons (mCallK 0 2 2 f_later_jobs (fun xs ys => kPick [(1, true), (0, true)] xs [(.int 1)] ys) (mNil) (mCons (mVar 13) (mCons (mVar 2) (mNil)))) (mCons (mCall 2 f_later_jobs [(.int 1)] (mCons (mVar 2) (mNil))) (mNil))))))) (m_law_12)
noncomputable def m_law_10 : MS :=
  mSeq (mSet 13 (mCall 2 f_w_pull [] (mCons (mVar 1) (mCons (mC (.int 500)) (mNil))))) (m_law_11)
noncomputable def m_law_9 : MS :=
  mSeq (mFor (mRange1 (mC (.int 6))) (mgName 3) (mSeq (mUnpack (mgTup 2 (mgCons (mgName 8) (mgCons (mgName 9) (mgNil)))) (mLc (mRange1 (mC (.int 2))) [10] (mgName 10) (mYes) (mIf (mAsB (mOp opEq (mCall 2 f_w_pull [] (mCons (mVar 1) (mCons (mC (.int 3)) (mNil)))) (mC (.int 0)))) (mCall 2 f_w_pull [] (mCons (mVar 1) (mCons (mC (.int 400)) (mNil)))) (mCall 2 f_w_pull [] (mCons (mVar 1) (mCons (mC (.int 40)) (mNil))))) finL)) (mSeq (mIfS (mAnd (mAsB (mOp opNe (mVar 2) (mTup (mNil)))) (mAsB (mOp opEq (mCall 2 f_w_pull [] (mCons (mVar 1) (mCons (mC (.int 2)) (mNil)))) (mC (.int 0))))) (mUnpack (mgTup 2 (mgCons (mgName 8) (mgCons (mgName 9) (mgNil)))) (mTup (mCons (mOp opIx (mOp opIx (mVar 2) (mCall 2 f_w_pull [] (mCons (mVar 1) (mCons (mCallB bLen (mCons (mVar 2) (mNil))) (mNil))))) (mC (.int 0))) (mCons (mOp opIx (mOp opIx (mVar 2) (mCall 2 f_w_pull [] (mCons (mVar 1) (mCons (mCallB bLen (mCons (mVar 2) (mNil))) (mNil))))) (mC (.int 1))) (mNil))))) (mSkip)) (mSeq (mSet 11 (mCallB bSum (mCons (mLc (mIter (mVar 2)) [12] (mgName 12) (mAnd (mAsB (mOp opGe (mOp opIx (mVar 12) (mC (.int 0))) (mVar 8))) (mAsB (mOp opLe (mOp opIx (mVar 12) (mC (.int 1))) (mVar 9)))) (mOp opIx (mVar 12) (mC (.int 2))) finL) (mNil)))) (mIfS (mOr (mAsB (mOp opNe (mCallB bRepr (mCons (mCall 3 f_within [] (mCons (mVar 2) (mCons (mVar 8) (mCons (mVar 9) (mNil))))) (mNil))) (mCallB bRepr (mCons (mVar 11) (mNil))))) (mAsB (mOp opNe (mCallB bRepr (mCons (mCallK 1 2 3 f_within (fun xs ys => kPick [(1, true), (0, true)] xs [] ys) (mCons (mVar 2) (mNil)) (mCons (mVar 9) (mCons (mVar 8) (mNil)))) (mNil))) (mCallB bRepr (mCons (mVar 11) (mNil)))))) (mRetF (mC (.bl false))) (mSkip)))))) (m_law_10)
noncomputable def m_law_8 : MS :=
  mSeq (mFor (mIter (mVar 5)) (mgName 6) (mSeq (mSet 7 (mCallB bRepr (mCons (mCall 1 f_w_are_jobs [] (mCons (mVar 6) (mNil))) (mNil)))) (mIfS (mOr (mAsB (mOp opNe (mCallB bRepr (mCons (mCall 1 f_is_jobs [] (mCons (mVar 6) (mNil))) (mNil))) (mVar 7))) (mAsB (mOp opNe (mCallB bRepr (mCons (mCallK 0 1 1 f_is_jobs (fun xs ys => kPick [(0, true)] xs [] ys) (mNil) (mCons (mVar 6) (mNil))) (mNil))) (mVar 7)))) (mRetF (mC (.bl false))) (mSkip)))) (m_law_9)
noncomputable def m_law_7 : MS :=
  mSeq (mFor (mRange1 (mC (.int 6))) (mgName 3) (mSeq (mDo (mMeth "list" lAppend (mVar 5) (mCons (mCall 2 f_w_bent [] (mCons (mVar 1) (mCons (mVar 2) (mNil)))) (mNil)))) (mDo (mMeth "list" lAppend (mVar 5) (mCons (mCall 2 f_w_bent [] (mCons (mVar 1) (mCons (mOp opIx (mVar 5) (mNeg (mC (.int 1)))) (mNil)))) (mNil)))))) (m_law_8)
noncomputable def m_law_6 : MS :=
  mSeq (mSet 5 (mOp opAddH (mVar 5) (mLst (mCons (mTup (mCons (mTup (mCons (mOp opPow (mC (.int 10)) (mC (.int 60))) (mCons (mOp opPow (mC (.int 10)) (mC (.int 61))) (mCons (mOp opPow (mC (.int 10)) (mC (.int 62))) (mNil))))) (mNil))) (mCons (mTup (mCons (mTup (mCons (mC (.int 0)) (mCons (mC (.int 1)) (mCons (mNeg (mC (.int 1))) (mNil))))) (mNil))) (mCons (mTup (mCons (mTup (mCons (mC (.int 0)) (mCons (mC (.int 1)) (mNil)))) (mNil))) (mCons (mTup (mCons (mLst (mCons (mC (.int 0)) (mCons (mC (.int 1)) (mCons (mC (.int 2)) (mNil))))) (mNil))) (mCons (mTup (mCons (mTup (mCons (mC (.int 0)) (mCons (mC (.int 1)) (mCons (mC (.int 2)) (mCons (mC (.int 3)) (mNil)))))) (mNil))) (mNil))))))))) (m_law_7)
noncomputable def m_law_5 : MS :=
  mSeq (mDo (mMeth "list" lAppend (mVar 5) (mCons (mTup (mCons (mTup (mCons (mC (.int 0)) (mCons (mC (.int 0)) (mCons (mC (.bl true)) (mNil))))) (mNil))) (mNil)))) (m_law_6)
noncomputable def m_law_4 : MS :=
  mSeq (mSet 5 (mLstH (mCons (mVar 2) (mCons (mTup (mNil)) (mCons (mC .non) (mCons (mLst (mCons (mVar 2) (mNil))) (mCons (mCallB bList (mCons (mVar 2) (mNil))) (mCons (mTup (mCons (mC (.int 1)) (mCons (mC (.int 2)) (mCons (mC (.int 3)) (mNil))))) (mCons (mTup (mCons (mTup (mCons (mC (.int 1)) (mCons (mC (.int 2)) (mCons (mC (.int 3)) (mNil))))) (mNil))) (mCons (mTup (mCons (mTup (mCons (mC (.int 2)) (mCons (mC (.int 1)) (mCons (mC (.int 3)) (mNil))))) (mNil))) (mCons (mTup (mCons (mTup (mCons (mC (.int 1)) (mCons (mC (.int 1)) (mCons (mC (.int 0)) (mNil))))) (mNil))) (mNil)))))))))))) (m_law_5)
noncomputable def m_law_3 : MS :=
  mSeq (mSet 4 (mCallB bRepr (mCons (mVar 2) (mNil)))) (m_law_4)
noncomputable def m_law_2 : MS :=
  mSeq (mIfS (mAsB (mOp opEq (mCall 2 f_w_pull [] (mCons (mVar 1) (mCons (mC (.int 8)) (mNil)))) (mC (.int 0)))) (mSet 2 (mOp opAdd (mVar 2) (mCallB bTuple (mCons (mLc (mRange1 (mC (.int 6))) [3] (mgName 3) (mYes) (mTup (mCons (mVar 3) (mCons (mOp opSub (mC (.int 400)) (mVar 3)) (mCons (mC (.int 60)) (mNil))))) finL) (mNil))))) (mSkip)) (m_law_3)
noncomputable def m_law_1 : MS :=
  mSeq (mSet 2 (mCall 2 f_w_jobs [] (mCons (mVar 1) (mCons (mC (.int 6)) (mNil))))) (m_law_2)
noncomputable def m_law : MS :=
  mSeq (mSet 1 (mCall 1 f_w_coil [] (mCons (mVar 0) (mNil)))) (m_law_1)
noncomputable def f_law : Fn := fnM 15 m_law
/-! ### their texts -/
noncomputable def sh_w_pull_2 : Sh := ⟨"_law_pull", 2, [], 2, f_w_pull, [], gKw⟩
noncomputable def sh_w_whole_1 : Sh := ⟨"_law_whole", 1, [], 1, f_w_whole, [], gKw⟩
noncomputable def sh_is_number_1 : Sh := ⟨"is_number", 1, [], 1, f_is_number, [], gKw⟩
noncomputable def sh_is_job_1 : Sh := ⟨"is_job", 1, [], 1, f_is_job, [], gKw⟩
noncomputable def sh_w_coil_1 : Sh := ⟨"_law_coil", 1, [], 1, f_w_coil, [], gKw⟩
noncomputable def sh_w_jobs_2 : Sh := ⟨"_law_jobs", 2, [], 2, f_w_jobs, [], gKw⟩
noncomputable def sh_w_bent_2 : Sh := ⟨"_law_bent", 2, [], 2, f_w_bent, [], gKw⟩
noncomputable def sh_is_jobs_0_thing : Sh := ⟨"is_jobs", 0, ["thing"], 1, f_is_jobs, [], fun xs ys => kPick [(0, true)] xs [] ys⟩
noncomputable def sh_is_jobs_1 : Sh := ⟨"is_jobs", 1, [], 1, f_is_jobs, [], gKw⟩
noncomputable def sh_w_are_jobs_1 : Sh := ⟨"_law_are_jobs", 1, [], 1, f_w_are_jobs, [], gKw⟩
noncomputable def sh_within_1_end_begin : Sh := ⟨"within", 1, ["end", "begin"], 3, f_within, [], fun xs ys => kPick [(1, true), (0, true)] xs [] ys⟩
noncomputable def sh_within_3 : Sh := ⟨"within", 3, [], 3, f_within, [], gKw⟩
noncomputable def sh_later_jobs_1 : Sh := ⟨"later_jobs", 1, [], 2, f_later_jobs, [(.int 1)], gKw⟩
noncomputable def sh_later_jobs_0_by_jobs : Sh := ⟨"later_jobs", 0, ["by", "jobs"], 2, f_later_jobs, [], fun xs ys => kPick [(1, true), (0, true)] xs [(.int 1)] ys⟩
noncomputable def sh_later_jobs_1_by : Sh := ⟨"later_jobs", 1, ["by"], 2, f_later_jobs, [], fun xs ys => kPick [(0, true)] xs [(.int 1)] ys⟩
noncomputable def sh_later_jobs_2 : Sh := ⟨"later_jobs", 2, [], 2, f_later_jobs, [], gKw⟩
noncomputable def sh_w_later_2 : Sh := ⟨"_law_later", 2, [], 2, f_w_later, [], gKw⟩
noncomputable def sr_w_bent_2 (rec : Fn) : Sh := ⟨"_law_bent", 2, [], 2, rec, [], gKw⟩
noncomputable def c_w_coil : Cfg := ⟨["_law_script"], defScope (top 8), [], [], [], [], true, false, []⟩
theorem s_w_coil : FnScope ["_law_script"] ["_law_script"] (defScope (top 8)) := ⟨rfl, rfl, rfl, by decide +kernel, rfl, by decide +kernel, by decide +kernel⟩
theorem e_w_coil : cBody c_w_coil (defBody (top 8)) = some m_w_coil := by kernel_rfl
noncomputable def c_w_pull : Cfg := ⟨["_law_coil_here", "_law_many", "_law_turn", "_law_found", "_law_at", "_law_cell", "_law_mixed"], defScope (top 9), [], [], ["len"], ["_law_coil_here"], false, false, []⟩
theorem s_w_pull : FnScope ["_law_coil_here", "_law_many", "_law_turn", "_law_found", "_law_at", "_law_cell", "_law_mixed"] ["_law_coil_here", "_law_many"] (defScope (top 9)) := ⟨rfl, rfl, rfl, by decide +kernel, rfl, by decide +kernel, by decide +kernel⟩
theorem e_w_pull : cBody c_w_pull (defBody (top 9)) = some m_w_pull := by kernel_rfl
noncomputable def c_w_jobs : Cfg := ⟨["_law_coil_here", "_law_many_now", "_law_base", "_law_found", "_law_k", "_law_start", "_law_stop"], defScope (top 11), [sh_w_pull_2], [], ["range", "tuple"], ["_law_coil_here", "_law_found"], false, false, []⟩
theorem s_w_jobs : FnScope ["_law_coil_here", "_law_many_now", "_law_base", "_law_found", "_law_k", "_law_start", "_law_stop"] ["_law_coil_here", "_law_many_now"] (defScope (top 11)) := ⟨rfl, rfl, rfl, by decide +kernel, rfl, by decide +kernel, by decide +kernel⟩
theorem e_w_jobs : cBody c_w_jobs (defBody (top 11)) = some m_w_jobs := by kernel_rfl
noncomputable def c_later_jobs : Cfg := ⟨["jobs", "by", "first", "last", "pieces"], defScope (top 6), [], [], ["tuple"], [], false, false, []⟩
theorem s_later_jobs : FnScope ["jobs", "by", "first", "last", "pieces"] ["jobs", "by"] (defScope (top 6)) := ⟨rfl, rfl, rfl, by decide +kernel, rfl, by decide +kernel, by decide +kernel⟩
theorem e_later_jobs : cBody c_later_jobs (defBody (top 6)) = some m_later_jobs := by kernel_rfl
noncomputable def c_w_whole : Cfg := ⟨["_law_stuff"], defScope (top 10), [], [], ["isinstance", "bool", "int"], [], false, false, []⟩
theorem s_w_whole : FnScope ["_law_stuff"] ["_law_stuff"] (defScope (top 10)) := ⟨rfl, rfl, rfl, by decide +kernel, rfl, by decide +kernel, by decide +kernel⟩
theorem e_w_whole : cBody c_w_whole (defBody (top 10)) = some m_w_whole := by kernel_rfl
noncomputable def c_w_bent (rec : Fn) : Cfg := ⟨["_law_coil_here", "_law_stuff", "_law_at", "_law_part"], defScope (top 12), [sh_w_pull_2, sr_w_bent_2 rec, sh_w_whole_1], [], ["isinstance", "tuple", "len", "list"], ["_law_coil_here"], false, false, []⟩
theorem s_w_bent : FnScope ["_law_coil_here", "_law_stuff", "_law_at", "_law_part"] ["_law_coil_here", "_law_stuff"] (defScope (top 12)) := ⟨rfl, rfl, rfl, by decide +kernel, rfl, by decide +kernel, by decide +kernel⟩
theorem e_w_bent (rec : Fn) : cBody (c_w_bent rec) (defBody (top 12)) = some (m_w_bent rec) := by kernel_rfl
noncomputable def c_w_are_jobs : Cfg := ⟨["_law_stuff", "_law_one", "_law_number"], defScope (top 13), [sh_w_whole_1], [], ["isinstance", "tuple", "min", "len"], [], false, false, []⟩
theorem s_w_are_jobs : FnScope ["_law_stuff", "_law_one", "_law_number"] ["_law_stuff"] (defScope (top 13)) := ⟨rfl, rfl, rfl, by decide +kernel, rfl, by decide +kernel, by decide +kernel⟩
theorem e_w_are_jobs : cBody c_w_are_jobs (defBody (top 13)) = some m_w_are_jobs := by kernel_rfl
noncomputable def c_is_number : Cfg := ⟨["thing"], defScope (top 1), [], [], ["isinstance", "bool", "int"], [], false, false, []⟩
theorem s_is_number : FnScope ["thing"] ["thing"] (defScope (top 1)) := ⟨rfl, rfl, rfl, by decide +kernel, rfl, by decide +kernel, by decide +kernel⟩
theorem e_is_number : cBody c_is_number (defBody (top 1)) = some m_is_number := by kernel_rfl
noncomputable def c_is_job : Cfg := ⟨["thing", "one"], defScope (top 3), [sh_is_number_1], [], ["all", "len", "isinstance", "tuple"], [], false, false, []⟩
theorem s_is_job : FnScope ["thing", "one"] ["thing"] (defScope (top 3)) := ⟨rfl, rfl, rfl, by decide +kernel, rfl, by decide +kernel, by decide +kernel⟩
theorem e_is_job : cBody c_is_job (defBody (top 3)) = some m_is_job := by kernel_rfl
noncomputable def c_is_jobs : Cfg := ⟨["thing", "one"], defScope (top 4), [sh_is_job_1], [], ["all", "isinstance", "tuple"], [], false, false, []⟩
theorem s_is_jobs : FnScope ["thing", "one"] ["thing"] (defScope (top 4)) := ⟨rfl, rfl, rfl, by decide +kernel, rfl, by decide +kernel, by decide +kernel⟩
theorem e_is_jobs : cBody c_is_jobs (defBody (top 4)) = some m_is_jobs := by kernel_rfl
noncomputable def c_within : Cfg := ⟨["jobs", "begin", "end", "first", "last", "pieces"], defScope (top 5), [], [], ["sum"], [], false, false, []⟩
theorem s_within : FnScope ["jobs", "begin", "end", "first", "last", "pieces"] ["jobs", "begin", "end"] (defScope (top 5)) := ⟨rfl, rfl, rfl, by decide +kernel, rfl, by decide +kernel, by decide +kernel⟩
theorem e_within : cBody c_within (defBody (top 5)) = some m_within := by kernel_rfl
noncomputable def c_w_later : Cfg := ⟨["_law_tasks", "_law_many", "_law_start", "_law_stop", "_law_pieces"], defScope (top 14), [], [], ["tuple"], [], false, false, []⟩
theorem s_w_later : FnScope ["_law_tasks", "_law_many", "_law_start", "_law_stop", "_law_pieces"] ["_law_tasks", "_law_many"] (defScope (top 14)) := ⟨rfl, rfl, rfl, by decide +kernel, rfl, by decide +kernel, by decide +kernel⟩
theorem e_w_later : cBody c_w_later (defBody (top 14)) = some m_w_later := by kernel_rfl
noncomputable def c_law : Cfg := ⟨["_law_script", "_law_coil_here", "_law_tasks", "_law_k", "_law_seen", "_law_things", "_law_stuff", "_law_meant", "_law_start", "_law_stop", "_law_side", "_law_due", "_law_job", "_law_many", "_law_told"], defScope (top 15), [sh_w_coil_1, sh_w_jobs_2, sh_w_pull_2, sh_w_bent_2, sh_is_jobs_0_thing, sh_is_jobs_1, sh_w_are_jobs_1, sh_within_1_end_begin, sh_within_3, sh_later_jobs_1, sh_later_jobs_0_by_jobs, sh_later_jobs_1_by, sh_later_jobs_2, sh_w_later_2], [], ["tuple", "range", "repr", "list", "sum", "len"], ["_law_coil_here", "_law_things"], false, false, []⟩
theorem s_law : FnScope ["_law_script", "_law_coil_here", "_law_tasks", "_law_k", "_law_seen", "_law_things", "_law_stuff", "_law_meant", "_law_start", "_law_stop", "_law_side", "_law_due", "_law_job", "_law_many", "_law_told"] ["_law_script"] (defScope (top 15)) := ⟨rfl, rfl, rfl, by decide +kernel, rfl, by decide +kernel, by decide +kernel⟩
theorem e_law : cBody c_law (defBody (top 15)) = some m_law := by kernel_rfl
/-! ### the head -/
def d_w_coil : He.DefD := ⟨("_law_coil", none), "_law_coil", "_law_coil", defArgs (top 8), defBody (top 8), defScope (top 8), [], []⟩
def d_w_pull : He.DefD := ⟨("_law_pull", none), "_law_pull", "_law_pull", defArgs (top 9), defBody (top 9), defScope (top 9), [], []⟩
def d_w_jobs : He.DefD := ⟨("_law_jobs", none), "_law_jobs", "_law_jobs", defArgs (top 11), defBody (top 11), defScope (top 11), [], []⟩
def d_later_jobs : He.DefD := ⟨("later_jobs", none), "later_jobs", "later_jobs", defArgs (top 6), defBody (top 6), defScope (top 6), [(.int 1)], []⟩
def d_w_whole : He.DefD := ⟨("_law_whole", none), "_law_whole", "_law_whole", defArgs (top 10), defBody (top 10), defScope (top 10), [], []⟩
def d_w_bent : He.DefD := ⟨("_law_bent", none), "_law_bent", "_law_bent", defArgs (top 12), defBody (top 12), defScope (top 12), [], []⟩
def d_w_are_jobs : He.DefD := ⟨("_law_are_jobs", none), "_law_are_jobs", "_law_are_jobs", defArgs (top 13), defBody (top 13), defScope (top 13), [], []⟩
def d_is_number : He.DefD := ⟨("is_number", none), "is_number", "is_number", defArgs (top 1), defBody (top 1), defScope (top 1), [], []⟩
def d_is_job : He.DefD := ⟨("is_job", none), "is_job", "is_job", defArgs (top 3), defBody (top 3), defScope (top 3), [], []⟩
def d_is_jobs : He.DefD := ⟨("is_jobs", none), "is_jobs", "is_jobs", defArgs (top 4), defBody (top 4), defScope (top 4), [], []⟩
def d_within : He.DefD := ⟨("within", none), "within", "within", defArgs (top 5), defBody (top 5), defScope (top 5), [], []⟩
def d_w_later : He.DefD := ⟨("_law_later", none), "_law_later", "_law_later", defArgs (top 14), defBody (top 14), defScope (top 14), [], []⟩
def d_law : He.DefD := ⟨("law", none), "law", "law", defArgs (top 15), defBody (top 15), defScope (top 15), [], []⟩
def fn : List He.DefD := [d_w_coil, d_w_pull, d_w_jobs, d_later_jobs, d_w_whole, d_w_bent, d_w_are_jobs, d_is_number, d_is_job, d_is_jobs, d_within, d_w_later, d_law]
def fa : List He.Fa := [.glo "_law_coil", .glo "_law_pull", .glo "_law_jobs", .glo "later_jobs", .glo "_law_whole", .glo "_law_bent", .glo "_law_are_jobs", .glo "is_number", .glo "is_job", .glo "is_jobs", .glo "within", .glo "_law_later", .glo "law", .free "len", .free "range", .free "tuple", .free "isinstance", .free "bool", .free "int", .free "list", .free "min", .free "all", .free "sum", .free "repr"]
abbrev Ro : PySem.W.OpenRow := PySem.W.OpenLaw.row PySem.Challenge.rw_tablebills_k55_jobs_by_kind
abbrev hk : PySem.W.Hook := He.hookD 4 fa fn
def ob (s : PySem.W.SharedT) : He.AlD := He.obsDG 4 fa fn (HandSHeadRun.getT s)
theorem ob_eq (s : PySem.W.SharedT) : ob s = hk.obs s.abs := He.obsDG_eq (HandSHeadRun.getT_eq s)
theorem run (w : World) : HandSHeadRun.RunEq Ro (PySem.W.view Ro.prog [15]) hk ob 900 ["is_number", "is_job", "is_jobs", "within", "later_jobs", "_law_coil", "_law_pull", "_law_whole", "_law_jobs", "_law_bent", "_law_are_jobs", "_law_later"] w := by
  intro os
  kernel_rfl
theorem facts {P : Program} {w : World} {K : PySem.W.Frag} {h : Heap} {mg : Str → Option Value} {f : Addr} (X : K.In h) (G : h.Ns mainGlobals mg) (hfa : mg ("law" : Str) = some (.ref f)) (c : He.SaysD fa fn K) :
    ∃ fd : FuncData, (∀ (s : Shared) (v : Value), BindsTo s fd ⟨[v], []⟩ [("_law_script", v)]) ∧ ∀ base : Heap, K.In base → base.Ns mainGlobals mg → FnG P w K mg base 23 f fd ["_law_script"] (spM K f_law 1) := by
  obtain ⟨fd_w_coil, F_w_coil⟩ := c.def_ 0 (d := d_w_coil) rfl
  have g_w_coil := He.glo_ok X G (c.fact 0 (f := .glo "_law_coil") rfl)
  obtain ⟨fd_w_pull, F_w_pull⟩ := c.def_ 1 (d := d_w_pull) rfl
  have g_w_pull := He.glo_ok X G (c.fact 1 (f := .glo "_law_pull") rfl)
  obtain ⟨fd_w_jobs, F_w_jobs⟩ := c.def_ 2 (d := d_w_jobs) rfl
  have g_w_jobs := He.glo_ok X G (c.fact 2 (f := .glo "_law_jobs") rfl)
  obtain ⟨fd_later_jobs, F_later_jobs⟩ := c.def_ 3 (d := d_later_jobs) rfl
  have g_later_jobs := He.glo_ok X G (c.fact 3 (f := .glo "later_jobs") rfl)
  obtain ⟨fd_w_whole, F_w_whole⟩ := c.def_ 4 (d := d_w_whole) rfl
  have g_w_whole := He.glo_ok X G (c.fact 4 (f := .glo "_law_whole") rfl)
  obtain ⟨fd_w_bent, F_w_bent⟩ := c.def_ 5 (d := d_w_bent) rfl
  have g_w_bent := He.glo_ok X G (c.fact 5 (f := .glo "_law_bent") rfl)
  obtain ⟨fd_w_are_jobs, F_w_are_jobs⟩ := c.def_ 6 (d := d_w_are_jobs) rfl
  have g_w_are_jobs := He.glo_ok X G (c.fact 6 (f := .glo "_law_are_jobs") rfl)
  obtain ⟨fd_is_number, F_is_number⟩ := c.def_ 7 (d := d_is_number) rfl
  have g_is_number := He.glo_ok X G (c.fact 7 (f := .glo "is_number") rfl)
  obtain ⟨fd_is_job, F_is_job⟩ := c.def_ 8 (d := d_is_job) rfl
  have g_is_job := He.glo_ok X G (c.fact 8 (f := .glo "is_job") rfl)
  obtain ⟨fd_is_jobs, F_is_jobs⟩ := c.def_ 9 (d := d_is_jobs) rfl
  have g_is_jobs := He.glo_ok X G (c.fact 9 (f := .glo "is_jobs") rfl)
  obtain ⟨fd_within, F_within⟩ := c.def_ 10 (d := d_within) rfl
  have g_within := He.glo_ok X G (c.fact 10 (f := .glo "within") rfl)
  obtain ⟨fd_w_later, F_w_later⟩ := c.def_ 11 (d := d_w_later) rfl
  have g_w_later := He.glo_ok X G (c.fact 11 (f := .glo "_law_later") rfl)
  obtain ⟨fd_law, F_law⟩ := c.def_ 12 (d := d_law) rfl
  have g_law := He.glo_ok X G (c.fact 12 (f := .glo "law") rfl)
  have b_len := He.free_ok X G (c.fact 13 (f := .free "len") rfl)
  have b_range := He.free_ok X G (c.fact 14 (f := .free "range") rfl)
  have b_tuple := He.free_ok X G (c.fact 15 (f := .free "tuple") rfl)
  have b_isinstance := He.free_ok X G (c.fact 16 (f := .free "isinstance") rfl)
  have b_bool := He.free_ok X G (c.fact 17 (f := .free "bool") rfl)
  have b_int := He.free_ok X G (c.fact 18 (f := .free "int") rfl)
  have b_list := He.free_ok X G (c.fact 19 (f := .free "list") rfl)
  have b_min := He.free_ok X G (c.fact 20 (f := .free "min") rfl)
  have b_all := He.free_ok X G (c.fact 21 (f := .free "all") rfl)
  have b_sum := He.free_ok X G (c.fact 22 (f := .free "sum") rfl)
  have b_repr := He.free_ok X G (c.fact 23 (f := .free "repr") rfl)
  have e := hfa.symm.trans g_law
  cases e
  have bl := FunD.bindsA (ps := ["_law_script"]) F_law fun _ _ _ _ _ _ us hl => match us, hl with | [_], _ => rfl
  refine ⟨fd_law, fun s v => bl s [v] rfl, fun base _ _ => ?_⟩
  have G_w_coil : FnG P w K mg base 1 _ fd_w_coil ["_law_script"] (spM K f_w_coil 1) := fng_of (k := 0) (c := c_w_coil) F_w_coil s_w_coil rfl rfl e_w_coil trivial trivial trivial
  have hsh_w_coil_1 : ShG P w K mg base 1 sh_w_coil_1 := sh_pos G_w_coil g_w_coil F_w_coil.kp (F_w_coil.bindsN fun _ _ _ _ _ _ us hl => match us, hl with | [_], _ => rfl)
  have G_w_pull : FnG P w K mg base 1 _ fd_w_pull ["_law_coil_here", "_law_many"] (spM K f_w_pull 2) := fng_of (k := 0) (c := c_w_pull) F_w_pull s_w_pull rfl rfl e_w_pull trivial trivial ⟨b_len, trivial⟩
  have hsh_w_pull_2 : ShG P w K mg base 1 sh_w_pull_2 := sh_pos G_w_pull g_w_pull F_w_pull.kp (F_w_pull.bindsN fun _ _ _ _ _ _ us hl => match us, hl with | [_, _], _ => rfl)
  have G_w_jobs : FnG P w K mg base 2 _ fd_w_jobs ["_law_coil_here", "_law_many_now"] (spM K f_w_jobs 2) := fng_of (k := 1) (c := c_w_jobs) F_w_jobs s_w_jobs rfl rfl e_w_jobs ⟨hsh_w_pull_2.mono (by decide), trivial⟩ trivial ⟨b_range, b_tuple, trivial⟩
  have hsh_w_jobs_2 : ShG P w K mg base 2 sh_w_jobs_2 := sh_pos G_w_jobs g_w_jobs F_w_jobs.kp (F_w_jobs.bindsN fun _ _ _ _ _ _ us hl => match us, hl with | [_, _], _ => rfl)
  have G_later_jobs : FnG P w K mg base 1 _ fd_later_jobs ["jobs", "by"] (spM K f_later_jobs 2) := fng_of (k := 0) (c := c_later_jobs) F_later_jobs s_later_jobs rfl rfl e_later_jobs trivial trivial ⟨b_tuple, trivial⟩
  have kb_sh_later_jobs_1 := FunD.binds1 (ps := ["jobs", "by"]) F_later_jobs 1 0 (List.cons_ne_nil _ _) rfl fun _ _ _ _ _ _ _ us its h1 h2 => match us, its, h1, h2 with | [_], [_], _, _ => ⟨_, rfl, rfl⟩
  have hsh_later_jobs_1 : ShG P w K mg base 1 sh_later_jobs_1 := sh_dfl G_later_jobs g_later_jobs F_later_jobs.kp kb_sh_later_jobs_1 fun _ => Reps.cons (by simp only [Rep]; rfl) (Reps.nil)
  obtain ⟨its_sh_later_jobs_0_by_jobs, kb_sh_later_jobs_0_by_jobs⟩ := kb_dfl (ps := ["jobs", "by"]) F_later_jobs 0 ["by", "jobs"] (fun us its ws => kPick [(1, true), (0, true)] us its ws) (List.cons_ne_nil _ _) (fun r1 r2 r3 => kPick_vals r1 r2 r3) fun _ _ _ _ _ _ _ us its ws h1 h2 h3 => match us, its, ws, h1, h2, h3 with | [], [_], [_, _], _, _, _ => ⟨_, rfl, rfl⟩
  have hsh_later_jobs_0_by_jobs : ShG P w K mg base 1 sh_later_jobs_0_by_jobs := sh_kw G_later_jobs g_later_jobs F_later_jobs.kp (by decide) kb_sh_later_jobs_0_by_jobs fun _ _ _ _ _ r1 r2 => kPick_reps r1 (Reps.cons (by simp only [Rep]; rfl) (Reps.nil)) r2
  obtain ⟨its_sh_later_jobs_1_by, kb_sh_later_jobs_1_by⟩ := kb_dfl (ps := ["jobs", "by"]) F_later_jobs 1 ["by"] (fun us its ws => kPick [(0, true)] us its ws) (List.cons_ne_nil _ _) (fun r1 r2 r3 => kPick_vals r1 r2 r3) fun _ _ _ _ _ _ _ us its ws h1 h2 h3 => match us, its, ws, h1, h2, h3 with | [_], [_], [_], _, _, _ => ⟨_, rfl, rfl⟩
  have hsh_later_jobs_1_by : ShG P w K mg base 1 sh_later_jobs_1_by := sh_kw G_later_jobs g_later_jobs F_later_jobs.kp (by decide) kb_sh_later_jobs_1_by fun _ _ _ _ _ r1 r2 => kPick_reps r1 (Reps.cons (by simp only [Rep]; rfl) (Reps.nil)) r2
  have kb_sh_later_jobs_2 := FunD.binds1 (ps := ["jobs", "by"]) F_later_jobs 2 1 (List.cons_ne_nil _ _) rfl fun _ _ _ _ _ _ _ us its h1 h2 => match us, its, h1, h2 with | [_, _], [_], _, _ => ⟨_, rfl, rfl⟩
  have hsh_later_jobs_2 : ShG P w K mg base 1 sh_later_jobs_2 := sh_dfl G_later_jobs g_later_jobs F_later_jobs.kp kb_sh_later_jobs_2 fun _ => Reps.nil
  have G_w_whole : FnG P w K mg base 1 _ fd_w_whole ["_law_stuff"] (spM K f_w_whole 1) := fng_of (k := 0) (c := c_w_whole) F_w_whole s_w_whole rfl rfl e_w_whole trivial trivial ⟨b_isinstance, b_bool, b_int, trivial⟩
  have hsh_w_whole_1 : ShG P w K mg base 1 sh_w_whole_1 := sh_pos G_w_whole g_w_whole F_w_whole.kp (F_w_whole.bindsN fun _ _ _ _ _ _ us hl => match us, hl with | [_], _ => rfl)
  have R_w_bent : ∀ k, FnG P w K mg base (2 + k) (He.fAd K d_w_bent.at_) fd_w_bent ["_law_coil_here", "_law_stuff"] (spM K (fr_w_bent k) 2) := by
    intro k
    induction k with
    | zero => exact fng_bad (ps := ["_law_coil_here", "_law_stuff"]) rfl
    | succ k ih => exact fng_of (k := 2 + k) (c := c_w_bent (fr_w_bent k)) F_w_bent s_w_bent rfl rfl (e_w_bent _) ⟨hsh_w_pull_2.mono (Nat.le_add_right_of_le (by decide)), (sh_pos (n := 2) ih g_w_bent F_w_bent.kp (F_w_bent.bindsN fun _ _ _ _ _ _ us hl => match us, hl with | [_, _], _ => rfl)), hsh_w_whole_1.mono (Nat.le_add_right_of_le (by decide)), trivial⟩ trivial ⟨b_isinstance, b_tuple, b_len, b_list, trivial⟩
  have G_w_bent : FnG P w K mg base 22 _ fd_w_bent ["_law_coil_here", "_law_stuff"] (spM K f_w_bent 2) := R_w_bent 20
  have hsh_w_bent_2 : ShG P w K mg base 22 sh_w_bent_2 := sh_pos G_w_bent g_w_bent F_w_bent.kp (F_w_bent.bindsN fun _ _ _ _ _ _ us hl => match us, hl with | [_, _], _ => rfl)
  have G_w_are_jobs : FnG P w K mg base 2 _ fd_w_are_jobs ["_law_stuff"] (spM K f_w_are_jobs 1) := fng_of (k := 1) (c := c_w_are_jobs) F_w_are_jobs s_w_are_jobs rfl rfl e_w_are_jobs ⟨hsh_w_whole_1.mono (by decide), trivial⟩ trivial ⟨b_isinstance, b_tuple, b_min, b_len, trivial⟩
  have hsh_w_are_jobs_1 : ShG P w K mg base 2 sh_w_are_jobs_1 := sh_pos G_w_are_jobs g_w_are_jobs F_w_are_jobs.kp (F_w_are_jobs.bindsN fun _ _ _ _ _ _ us hl => match us, hl with | [_], _ => rfl)
  have G_is_number : FnG P w K mg base 1 _ fd_is_number ["thing"] (spM K f_is_number 1) := fng_of (k := 0) (c := c_is_number) F_is_number s_is_number rfl rfl e_is_number trivial trivial ⟨b_isinstance, b_bool, b_int, trivial⟩
  have hsh_is_number_1 : ShG P w K mg base 1 sh_is_number_1 := sh_pos G_is_number g_is_number F_is_number.kp (F_is_number.bindsN fun _ _ _ _ _ _ us hl => match us, hl with | [_], _ => rfl)
  have G_is_job : FnG P w K mg base 2 _ fd_is_job ["thing"] (spM K f_is_job 1) := fng_of (k := 1) (c := c_is_job) F_is_job s_is_job rfl rfl e_is_job ⟨hsh_is_number_1.mono (by decide), trivial⟩ trivial ⟨b_all, b_len, b_isinstance, b_tuple, trivial⟩
  have hsh_is_job_1 : ShG P w K mg base 2 sh_is_job_1 := sh_pos G_is_job g_is_job F_is_job.kp (F_is_job.bindsN fun _ _ _ _ _ _ us hl => match us, hl with | [_], _ => rfl)
  have G_is_jobs : FnG P w K mg base 3 _ fd_is_jobs ["thing"] (spM K f_is_jobs 1) := fng_of (k := 2) (c := c_is_jobs) F_is_jobs s_is_jobs rfl rfl e_is_jobs ⟨hsh_is_job_1.mono (by decide), trivial⟩ trivial ⟨b_all, b_isinstance, b_tuple, trivial⟩
  have kb_sh_is_jobs_0_thing := kb_none (ps := ["thing"]) F_is_jobs 0 ["thing"] (fun us ws => kPick [(0, true)] us [] ws) (fun r1 r3 => kPick_vals r1 .nil r3) fun _ _ _ _ _ _ us ws h1 h3 => match us, ws, h1, h3 with | [], [_], _, _ => rfl
  have hsh_is_jobs_0_thing : ShG P w K mg base 3 sh_is_jobs_0_thing := sh_kw G_is_jobs g_is_jobs F_is_jobs.kp (by decide) kb_sh_is_jobs_0_thing fun _ _ _ _ _ r1 r2 => kPick_reps r1 (Reps.nil) r2
  have hsh_is_jobs_1 : ShG P w K mg base 3 sh_is_jobs_1 := sh_pos G_is_jobs g_is_jobs F_is_jobs.kp (F_is_jobs.bindsN fun _ _ _ _ _ _ us hl => match us, hl with | [_], _ => rfl)
  have G_within : FnG P w K mg base 1 _ fd_within ["jobs", "begin", "end"] (spM K f_within 3) := fng_of (k := 0) (c := c_within) F_within s_within rfl rfl e_within trivial trivial ⟨b_sum, trivial⟩
  have kb_sh_within_1_end_begin := kb_none (ps := ["jobs", "begin", "end"]) F_within 1 ["end", "begin"] (fun us ws => kPick [(1, true), (0, true)] us [] ws) (fun r1 r3 => kPick_vals r1 .nil r3) fun _ _ _ _ _ _ us ws h1 h3 => match us, ws, h1, h3 with | [_], [_, _], _, _ => rfl
  have hsh_within_1_end_begin : ShG P w K mg base 1 sh_within_1_end_begin := sh_kw G_within g_within F_within.kp (by decide) kb_sh_within_1_end_begin fun _ _ _ _ _ r1 r2 => kPick_reps r1 (Reps.nil) r2
  have hsh_within_3 : ShG P w K mg base 1 sh_within_3 := sh_pos G_within g_within F_within.kp (F_within.bindsN fun _ _ _ _ _ _ us hl => match us, hl with | [_, _, _], _ => rfl)
  have G_w_later : FnG P w K mg base 1 _ fd_w_later ["_law_tasks", "_law_many"] (spM K f_w_later 2) := fng_of (k := 0) (c := c_w_later) F_w_later s_w_later rfl rfl e_w_later trivial trivial ⟨b_tuple, trivial⟩
  have hsh_w_later_2 : ShG P w K mg base 1 sh_w_later_2 := sh_pos G_w_later g_w_later F_w_later.kp (F_w_later.bindsN fun _ _ _ _ _ _ us hl => match us, hl with | [_, _], _ => rfl)
  have G_law : FnG P w K mg base 23 _ fd_law ["_law_script"] (spM K f_law 1) := fng_of (k := 22) (c := c_law) F_law s_law rfl rfl e_law ⟨hsh_w_coil_1.mono (by decide), hsh_w_jobs_2.mono (by decide), hsh_w_pull_2.mono (by decide), hsh_w_bent_2.mono (by decide), hsh_is_jobs_0_thing.mono (by decide), hsh_is_jobs_1.mono (by decide), hsh_w_are_jobs_1.mono (by decide), hsh_within_1_end_begin.mono (by decide), hsh_within_3.mono (by decide), hsh_later_jobs_1.mono (by decide), hsh_later_jobs_0_by_jobs.mono (by decide), hsh_later_jobs_1_by.mono (by decide), hsh_later_jobs_2.mono (by decide), hsh_w_later_2.mono (by decide), trivial⟩ trivial ⟨b_tuple, b_range, b_repr, b_list, b_sum, b_len, trivial⟩
  exact G_law
theorem ends (hT : Tells f_law) : PySem.Challenge.rw_tablebills_k55_jobs_by_kind.Holds := by
  w_on; o_law
  refine HandSHeadRun.head_any (r := Ro) (q := PySem.W.view Ro.prog [15]) (H := hk) (ob := ob) (M := 900) (loose := ["is_number", "is_job", "is_jobs", "within", "later_jobs", "_law_coil", "_law_pull", "_law_whole", "_law_jobs", "_law_bent", "_law_are_jobs", "_law_later"]) (d := HandSHeadRun.topDef Ro.prog 15) (kwd := []) ob_eq
    (by kernel_rfl) (fun s => by kernel_rfl) run (by kernel_rfl) (by kernel_rfl) (by kernel_rfl) (by rfl) (by first | assumption | decide +kernel) (by decide +kernel) ⟨rfl, rfl, rfl, rfl, rfl, by decide +kernel⟩ ?hw ?hc
  case hw => w_witness2
  case hc =>
    refine law_of (l := PySem.Challenge.rw_tablebills_k55_jobs_by_kind) (k := 23) (x := "_law_script") (F := f_law) rfl (by kernel_rfl) ⟨rfl, by decide, by decide⟩ hT ?_
    intro w mg fa0 h Y G hmg0
    obtain ⟨K, KX, c⟩ := Y
    have hmg : mg ("law" : PySem.Str) = some (.ref fa0) := by
      have e : (HandSHeadRun.topDef Ro.prog 15).name = ("law" : PySem.Str) := by kernel_rfl
      rw [← e]
      exact hmg0
    obtain ⟨fd, hb, hF⟩ := facts (P := PySem.Challenge.rw_tablebills_k55_jobs_by_kind.prog) (w := w) KX G hmg c
    exact ⟨K, fd, KX, hb, hF⟩
end Lw
end

section
set_option maxHeartbeats 4000000
open PySem PySem.Spec PyProof.Rows L2 Tb
namespace Lw
/-- the coil: cells, what is left of one, turns, the place -/
def FO (ns : List Int) (a b c : Int) : MO := .lst [.lst (ns.map .int), .int a, .int b, .int c]
theorem FO_bd {ns : List Int} {a b c : Int} {N : Nat} : (FO ns a b c).bd N = true := by
  have := ints_bd (N := N) (ns := ns)
  unfold intsD at this
  simp [FO, MO.bd, bds, D.bd, this]
theorem o_neNil {ns : List Int} {h : MH} {Q : D → MH → Prop} : (opNe (.lst (ns.map .int)) (.lst []) h).en Q = Q (.bl (!decide (ns = []))) h := o_neLI (ms := [])
theorem pull_en {h : MH} {n : Nat} {m : Int} {ns : List Int} {a b c : Int} {Q : D → MH → Prop} (hget : h.get n = some (FO ns a b c)) (t : Tidy h) (hm : 0 < m) (hm2 : m < 2 ^ 200) (hb : 0 ≤ b) (hb2 : b < 1000000)
    (k : ∀ v a' c', 0 ≤ v → v < m → Q (.int v) (h.set n (FO ns a' (b + 1) c'))) : (f_w_pull [.ref n, .int m] h).en Q := by
  have hn := t.lt hget
  refine fn_en ?_
  have hlv : ∀ x : Int, ∀ a' c', (leave h.next (.int (x % m)) (h.set n (FO ns a' (b + 1) c'))).en Q := fun x a' c' => by
    have e := leave_same (h := h.set n (FO ns a' (b + 1) c')) (d := .int (x % m)) (t.set hn FO_bd) rfl
    rw [next_set] at e
    rw [e]
    exact k _ a' c' (Int.emod_nonneg _ (by omega)) (Int.emod_lt_of_pos _ hm)
  have hbS : b < 18446744073709551616 := by omega
  have hbT : -18446744073709551616 < b := by omega
  unfold FO at hlv hget
  -- what is mixed at last
  have tail : ∀ (x c1 : Int), (m_w_pull_7 [some (.ref n), some (.int m), some (.int b), none, some (.int c1), some (.int x), none] (h.set n (.lst [.lst (ns.map .int), .int a, .int (b + 1), .int (c + 1)]))).en (fun x h1 => (leave h.next D.non h1).en Q) (fun x x_1 => False) (fun x x_1 => False) (fun d h1 => (leave h.next d h1).en Q) := by
    intro x c1
    have q1 : 0 ≤ x % 2147483549 := Int.emod_nonneg _ (by decide)
    have q2 : x % 2147483549 < 2147483549 := Int.emod_lt_of_pos _ (by decide)
    have q3 : 0 ≤ 6733 * b * b := Int.mul_nonneg (by omega) hb
    have q4 : 6733 * b * b ≤ 6733000000 * 1000000 := Int.mul_le_mul (by omega) (by omega) hb (by omega)
    unfold m_w_pull_7
    simp [hbS, hbT]
    rw [nx, m_w_pull_8]
    simp [hbS, hbT]
    rw [c_mulL (by omega) (by omega)]
    simp [hbS, hbT]
    rw [nx, m_w_pull_9]
    simp [hm, hlv]
  have rest : ∀ x : Int, (m_w_pull_6 [some (.ref n), some (.int m), some (.int b), none, some (.int c), some (.int x), none] (h.set n (.lst [.lst (ns.map .int), .int a, .int (b + 1), .int (c + 1)]))).en (fun x h1 => (leave h.next D.non h1).en Q) (fun x x_1 => False) (fun x x_1 => False) (fun d h1 => (leave h.next d h1).en Q) := by
    intro x
    unfold m_w_pull_6
    simp [ix_ref, o_six, ixN, hm, o_div hm hm2]
    split
    · split
      · rw [nx]
        simp [hm, hlv]
      · exact tail _ _
    · exact tail _ _
  unfold m_w_pull
  simp [ix_ref, o_six, ixN, hget]
  rw [nx, m_w_pull_1]
  simp [ix_ref, o_six, ixN, hget]
  rw [nx, m_w_pull_2]
  simp [ix_ref, o_six, ixN, hm]
  split
  · rw [nx]
    simp [ix_ref, o_six, ixN, o_div hm hm2]
    rw [nx]
    simp [hlv]
  · rw [nx, m_w_pull_3]
    simp [ix_ref]
    rw [nx, m_w_pull_4]
    simp [o_six, ixN]
    rw [nx, m_w_pull_5]
    simp [ix_ref, o_neNil]
    by_cases hns : ns = []
    · rw [if_pos hns]
      exact rest 8
    · obtain ⟨x, hx⟩ := at_mod (c := c) hns
      have hp : 0 < (ns.length : Int) := by
        have := List.length_pos_iff.mpr hns
        omega
      rw [if_neg hns, c_mod hp, ix_lst, pick_some hx]
      exact rest x
end Lw
end

section
set_option maxHeartbeats 4000000
open PySem PySem.Spec PyProof.Rows L2 Tb
namespace Lw
section
variable {h : MH} {n : Nat} {m : Int} {ns : List Int} {a b c : Int} {Q : D → MH → Prop}
theorem tidyF (t : Tidy h) (hn : n < h.next) : Tidy (h.set n (FO ns a b c)) := t.set hn FO_bd
theorem pullF (t : Tidy h) (hn : n < h.next) (hm : 0 < m) (hm2 : m < 2 ^ 200) (hb : 0 ≤ b) (hb2 : b < 1000000) (k : ∀ v a' c', 0 ≤ v → v < m → Q (.int v) (h.set n (FO ns a' (b + 1) c'))) : (f_w_pull [.ref n, .int m] (h.set n (FO ns a b c))).en Q := by
  refine pull_en (ns := ns) (a := a) (b := b) (c := c) (by simp) (tidyF t hn) hm hm2 hb hb2 fun v a' c' h1 h2 => ?_
  rw [set_set]
  exact k v a' c' h1 h2
/-- while lists of the def stand behind -/
theorem pullN {o : MO} (t : Tidy (h.new o)) (hn : n < h.next) (hm : 0 < m) (hm2 : m < 2 ^ 200) (hb : 0 ≤ b) (hb2 : b < 1000000) (k : ∀ v a' c', 0 ≤ v → v < m → Q (.int v) ((h.set n (FO ns a' (b + 1) c')).new o)) : (f_w_pull [.ref n, .int m] ((h.set n (FO ns a b c)).new o)).en Q := by
  have e : ∀ o', (h.set n o').new o = (h.new o).set n o' := fun o' => (set_new (by omega)).symm
  rw [e]
  exact pullF t (by simp; omega) hm hm2 hb hb2 fun v a' c' h1 h2 => by
    rw [← e]
    exact k v a' c' h1 h2
theorem leaveF {d : D} (t : Tidy h) (hn : n < h.next) (hd : d.bd h.next = true) (q : Q d (h.set n (FO ns a b c))) : (leave h.next d (h.set n (FO ns a b c))).en Q := by
  have e := leave_same (h := h.set n (FO ns a b c)) (d := d) (tidyF t hn) hd
  rw [next_set] at e
  rw [e]
  exact q
end
theorem new_set' {h : MH} {o o' : MO} {n : Nat} (e : n = h.next) : (h.new o).set n o' = h.new o' := by
  subst e
  exact new_set
/-! ### jobs -/
abbrev Job := Int × Int × Int
def jobD (t : Job) : D := .tup [.int t.1, .int t.2.1, .int t.2.2]
def jobsD (ts : List Job) : List D := ts.map jobD
theorem jobs_bd {N : Nat} : ∀ {ts : List Job}, bds N (jobsD ts) = true
  | [] => rfl
  | t :: ts => by
    have := jobs_bd (N := N) (ts := ts)
    unfold jobsD at this ⊢
    simp [bds, D.bd, jobD, this]
theorem jobs_len {ts : List Job} : (jobsD ts).length = ts.length := by simp [jobsD]
def JobOk (t : Job) : Prop := 0 ≤ t.1 ∧ t.1 ≤ t.2.1 ∧ t.2.1 ≤ 1000 ∧ 0 ≤ t.2.2 ∧ t.2.2 ≤ 1000
theorem pick6 {x0 x1 x2 x3 x4 x5 : Int} {v : Int} (h0 : 0 ≤ v) (h1 : v < 6) : ∃ x, (x = x0 ∨ x = x1 ∨ x = x2 ∨ x = x3 ∨ x = x4 ∨ x = x5) ∧ atI [D.int x0, D.int x1, D.int x2, D.int x3, D.int x4, D.int x5] v = some (.int x) := by
  have hv : v = 0 ∨ v = 1 ∨ v = 2 ∨ v = 3 ∨ v = 4 ∨ v = 5 := by omega
  rcases hv with rfl | rfl | rfl | rfl | rfl | rfl
  · exact ⟨x0, by simp, by simp⟩
  · exact ⟨x1, by simp, by simp⟩
  · exact ⟨x2, by simp, by simp⟩
  · exact ⟨x3, by simp, by simp⟩
  · exact ⟨x4, by simp, by simp⟩
  · exact ⟨x5, by simp, by simp⟩
theorem pick3 {x0 x1 x2 : Int} {v : Int} (h0 : 0 ≤ v) (h1 : v < 3) : ∃ x, (x = x0 ∨ x = x1 ∨ x = x2) ∧ atI [D.int x0, D.int x1, D.int x2] v = some (.int x) := by
  have hv : v = 0 ∨ v = 1 ∨ v = 2 := by omega
  rcases hv with rfl | rfl | rfl
  · exact ⟨x0, by simp, by simp⟩
  · exact ⟨x1, by simp, by simp⟩
  · exact ⟨x2, by simp, by simp⟩
section
variable {h : MH} {n : Nat} {ns : List Int} {a b c : Int} {Q : D → MH → Prop}
theorem jobsF (t : Tidy h) (hn : n < h.next) (hb : 0 ≤ b) (hb2 : b < 900000) (k : ∀ ts a' b' c', ts.length ≤ 6 → (∀ t ∈ ts, JobOk t) → 0 ≤ b' → b' ≤ b + 100 → Q (.tup (jobsD ts)) (h.set n (FO ns a' b' c'))) : (f_w_jobs [.ref n, .int 6] (h.set n (FO ns a b c))).en Q := by
  refine fn_en ?_
  unfold m_w_jobs
  simp [sizeLine]
  refine pullF t hn (by decide) (by decide) hb (by omega) fun v0 a0 c0 p0 q0 => ?_
  simp
  refine pullF t hn (by decide) (by decide) (by omega) (by omega) fun v1 a1 c1 p1 q1 => ?_
  obtain ⟨base, hbase, eb⟩ := pick3 (x0 := 0) (x1 := v0) (x2 := 380) p1 q1
  rw [ix_lst, pick_some eb]
  try simp
  rw [nx, m_w_jobs_1]
  simp
  rw [nx, m_w_jobs_2]
  simp
  refine pullN (t.new rfl) hn (by decide) (by decide) (by omega) (by omega) fun v2 a2 c2 p2 q2 => ?_
  simp
  refine ⟨by omega, ?_⟩
  refine for_range (fun i s h' => Hold (∃ (c4 c5 c6 : Option D) (ts : List Job) (a' b' c' : Int), ts.length = i ∧ (∀ t ∈ ts, JobOk t) ∧ 0 ≤ b' ∧ b' ≤ b + 3 + 8 * i ∧ s = [some (.ref n), some (.int 6), some (.int base), some (.ref h.next), c4, c5, c6] ∧ h' = (h.set n (FO ns a' b' c')).new (.lst (jobsD ts)))) (Hold.mk ⟨_, _, _, [], a2, b + 1 + 1 + 1, c2, rfl, by simp, by omega, by omega, rfl, rfl⟩) ?_ ?_
  · rintro i s h' hi ⟨c4, c5, c6, ts, a', b', c', e1, e2, b1, b2, rfl, rfl⟩
    have tN : Tidy (h.new (.lst (jobsD ts))) := t.new jobs_bd
    refine ⟨_, rfl, ?_⟩
    simp
    refine pullN tN hn (by decide) (by decide) (by omega) (by omega) fun v3 a3 c3 p3 q3 => ?_
    try simp
    rw [nx]
    simp [sizeLine]
    refine pullN tN hn (by decide) (by decide) (by omega) (by omega) fun v4 a4 c4 p4 q4 => ?_
    try simp
    refine pullN tN hn (by decide) (by decide) (by omega) (by omega) fun v5 a5 c5 p5 q5 => ?_
    obtain ⟨stop, hstop, es⟩ := pick6 (x0 := 1) (x1 := 2) (x2 := 3) (x3 := 4) (x4 := 6) (x5 := 1 + v4) p5 q5
    rw [ix_lst, pick_some es]
    try simp
    rw [nx]
    simp
    refine pullN tN hn (by decide) (by decide) (by omega) (by omega) fun v6 a6 c6 p6 q6 => ?_
    try simp
    have more : ∀ z : Int, base + v3 ≤ z → z ≤ base + v3 + 9 → (mDo (mMeth "list" lAppend (mVar 3) (mCons (mTup (mCons (mVar 5) (mCons (mVar 6) (mCons (mOp opIx (mLst (mCons (mCall 2 f_w_pull [] (mCons (mVar 0) (mCons (mC (.int 6)) (mNil)))) (mCons (mC (.int 1)) (mCons (mC (.int 2)) (mCons (mC (.int 0)) (mCons (mC (.int 3)) (mCons (mC (.int 7)) (mNil)))))))) (mCall 2 f_w_pull [] (mCons (mVar 0) (mCons (mC (.int 6)) (mNil))))) (mNil))))) (mNil))) [some (.ref n), some (.int 6), some (.int base), some (.ref h.next), some (.int i), some (.int (base + v3)), some (.int z)] ((h.set n (FO ns a6 (b' + 1 + 1 + 1 + 1) c6)).new (.lst (jobsD ts)))).en
        (fun s h' => Hold (∃ (c4 c5 c6 : Option D) (ts : List Job) (a' b' c' : Int), ts.length = i + 1 ∧ (∀ t ∈ ts, JobOk t) ∧ 0 ≤ b' ∧ b' ≤ b + 3 + 8 * ((i + 1 : Nat) : Int) ∧ s = [some (.ref n), some (.int 6), some (.int base), some (.ref h.next), c4, c5, c6] ∧ h' = (h.set n (FO ns a' b' c')).new (.lst (jobsD ts)))) (fun _ _ => False) (fun _ _ => False) (fun _ _ => False) := by
      intro z z1 z2
      simp [sizeLine]
      refine ⟨kind_ref (xs := jobsD ts) (by simp), ?_⟩
      refine pullN tN hn (by decide) (by decide) (by omega) (by omega) fun v7 a7 c7 p7 q7 => ?_
      try simp
      refine pullN tN hn (by decide) (by decide) (by omega) (by omega) fun v8 a8 c8 p8 q8 => ?_
      obtain ⟨y, hy, ey⟩ := pick6 (x0 := v7) (x1 := 1) (x2 := 2) (x3 := 0) (x4 := 3) (x5 := 7) p8 q8
      rw [ix_lst, pick_some ey]
      try simp
      rw [o_append (xs := jobsD ts) (by simp) (by rw [jobs_len]; simp only [sizeLine]; omega), new_set' (by simp)]
      refine Hold.mk ⟨_, _, _, ts ++ [(base + v3, z, y)], a8, b' + 1 + 1 + 1 + 1 + 1 + 1, c8, by simp [e1], ?_, ?_, ?_, rfl, by simp [jobsD, jobD]⟩
      · intro t' ht'
        rcases List.mem_append.mp ht' with ht' | ht'
        · exact e2 t' ht'
        · obtain rfl := List.mem_singleton.mp ht'
          unfold JobOk
          simp only
          omega
      · omega
      · omega
    split
    · rw [nx]
      exact RS.en_mono (more _ (by omega) (by omega)) (fun _ _ z => z) (fun _ _ z => z.elim) (fun _ _ z => z.elim) (fun _ _ z => z.elim)
    · rw [nx]
      exact RS.en_mono (more _ (by omega) (by omega)) (fun _ _ z => z) (fun _ _ z => z.elim) (fun _ _ z => z.elim) (fun _ _ z => z.elim)
  · rintro s h' ⟨c4, c5, c6, ts, a', b', c', e1, e2, b1, b2, rfl, rfl⟩
    rw [nx, m_w_jobs_3]
    simp
    rw [o_tuple (xs := jobsD ts) (by simp [seqOf, lstOf])]
    have e9 : leave h.next (.tup (jobsD ts)) ((h.set n (FO ns a' b' c')).new (.lst (jobsD ts))) = .ok (.tup (jobsD ts)) (h.set n (FO ns a' b' c')) := leave_to (tidyF t hn) rfl (by rw [cut_new (by simp)]; exact cut_self (tidyF t hn).out) (by simp only [D.bd]; exact jobs_bd)
    show (leave h.next (.tup (jobsD ts)) ((h.set n (FO ns a' b' c')).new (.lst (jobsD ts)))).en Q
    rw [e9, en_ok]
    exact k ts a' b' c' (by omega) e2 b1 (by omega)
end
end Lw
end

section
set_option maxHeartbeats 4000000
open PySem PySem.Spec PyProof.Rows L2 Tb
namespace Lw
theorem fn_leave {m : MS} {n : Nat} {ds : List D} {h : MH} {d : D} (t : Tidy h) (hd : d.bd h.next = true)
    (hm : (m (ds.map some ++ List.replicate (n - ds.length) none) h).en (fun _ _ => False) (fun _ _ => False) (fun _ _ => False) (fun d' h' => d' = d ∧ h'.cut h.next = h)) : fnM n m ds h = .ok d h := by
  refine en_eq (fn_en (RS.en_mono hm (fun _ _ z => z.elim) (fun _ _ z => z) (fun _ _ z => z) fun d' h' z => ?_))
  obtain ⟨rfl, e⟩ := z
  rw [leave_to t rfl e hd]
  exact ⟨rfl, rfl⟩
/-! ### things of any kind -/
mutual
def _root_.Tb.D.pur : D → Bool
  | .tup xs | .lst xs => purs xs
  | .ref _ | .raw _ | .scr _ => false
  | _ => true
def purs : List D → Bool
  | [] => true
  | x :: xs => x.pur && purs xs
end
def numB : D → Bool
  | .int _ => true
  | _ => false
def geB : D → Bool
  | .int i => decide (0 ≤ i)
  | _ => false
def jobB : D → Bool
  | .tup [.int a, .int b, .int c] => decide (0 ≤ a) && (decide (0 ≤ b) && (decide (0 ≤ c) && decide (a ≤ b)))
  | _ => false
def jobsB : D → Bool
  | .tup xs => xs.all jobB
  | _ => false
theorem purs_mem : ∀ {xs : List D} {x : D}, purs xs = true → x ∈ xs → x.pur = true
  | y :: ys, x, h, hx => by
    simp only [purs, Bool.and_eq_true] at h
    rcases List.mem_cons.mp hx with rfl | hx
    · exact h.1
    · exact purs_mem h.2 hx
section
variable {h : MH} {d : D} {Q : D → MH → Prop}
theorem all_lst {bs : List Bool} : (bAll [.lst (bs.map .bl)] h).en Q = Q (.bl (bs.all id)) h := by
  have e : ∀ bs : List Bool, blsOf (bs.map .bl) = some bs := fun bs => by
    induction bs with
    | nil => rfl
    | cons b bs ih => simp [blsOf, ih]
  simp only [bAll, seqOf, lstOf, Option.bind_some, e]
  rfl
theorem number_eq (t : Tidy h) (hp : d.pur = true) : f_is_number [d] h = .ok (.bl (numB d)) h := by
  refine fn_leave t rfl ?_
  unfold m_is_number
  cases d <;> first | (simp [D.pur] at hp; done) | (simp [numB, cut_self t.out])
theorem number_en (t : Tidy h) (hp : d.pur = true) : (f_is_number [d] h).en Q = Q (.bl (numB d)) h := by
  rw [number_eq t hp]
  exact en_ok
theorem whole_eq (t : Tidy h) (hp : d.pur = true) : f_w_whole [d] h = .ok (.bl (numB d)) h := by
  refine fn_leave t rfl ?_
  unfold m_w_whole
  cases d <;> first | (simp [D.pur] at hp; done) | (simp [numB, cut_self t.out])
theorem whole_en (t : Tidy h) (hp : d.pur = true) : (f_w_whole [d] h).en Q = Q (.bl (numB d)) h := by
  rw [whole_eq t hp]
  exact en_ok
theorem ge_all {x y z : D} : ([x, y, z].map geB).all id = true ↔ ∃ a b c : Int, x = .int a ∧ y = .int b ∧ z = .int c ∧ 0 ≤ a ∧ 0 ≤ b ∧ 0 ≤ c := by
  constructor
  · intro e
    simp only [List.map_cons, List.map_nil, List.all_cons, List.all_nil, id_eq, Bool.and_true, Bool.and_eq_true] at e
    obtain ⟨e1, e2, e3⟩ := e
    cases x <;> simp [geB] at e1
    cases y <;> simp [geB] at e2
    cases z <;> simp [geB] at e3
    exact ⟨_, _, _, rfl, rfl, rfl, e1, e2, e3⟩
  · rintro ⟨a, b, c, rfl, rfl, rfl, e1, e2, e3⟩
    simp [geB, e1, e2, e3]
theorem job_eq (t : Tidy h) (hp : d.pur = true) : f_is_job [d] h = .ok (.bl (jobB d)) h := by
  refine fn_leave t rfl ?_
  unfold m_is_job
  have el : ∀ (y : D) (s1 : Sl), y.pur = true → s1[1]? = some (some y) → (mAndV (mCall 1 f_is_number [] (mCons (mVar 1) (mNil))) (mOp opGe (mVar 1) (mC (.int 0)))) s1 h = .ok (.bl (geB y)) h := by
    intro y s1 hy hs
    refine en_eq ?_
    simp [hs]
    rw [number_en t hy]
    cases y <;> simp [numB, geB, hs]
  cases d with
  | tup xs =>
    simp
    by_cases hl : (xs.length : Int) = 3
    · have hl' : xs.length = 3 := by omega
      match xs, hl' with
      | [x, y, z], _ =>
        simp
        rw [comp_map (φ := fun d => .bl (geB d))]
        · have e0 : ([] ++ [x, y, z].map fun d => D.bl (geB d)) = ([x, y, z].map geB).map .bl := by simp
          rw [e0, en_ok, ev_finL, ev_nil, all_lst]
          cases hg : ([x, y, z].map geB).all id with
          | true =>
            obtain ⟨a, b, c, rfl, rfl, rfl, e1, e2, e3⟩ := ge_all.mp hg
            simp
            rw [nx]
            simp [jobB, e1, e2, e3, cut_self t.out]
          | false =>
            simp [cut_self t.out]
            cases x <;> cases y <;> cases z <;> simp_all [jobB, geB] <;> intros <;> omega
        · intro y' hy
          refine ⟨_, rfl, rfl, el y' _ (purs_mem (xs := [x, y, z]) (by simpa only [D.pur] using hp) hy) ?_⟩
          rfl
        · simp [sizeLine]
    · simp [hl, cut_self t.out]
      match xs with
      | [] => rfl
      | [x] => cases x <;> rfl
      | [x, y] => cases x <;> cases y <;> rfl
      | [x, y, z] => exact absurd rfl hl
      | x :: y :: z :: u :: r => cases x <;> cases y <;> cases z <;> rfl
  | _ => first | (simp [D.pur] at hp; done) | (simp [jobB, cut_self t.out])
theorem job_en (t : Tidy h) (hp : d.pur = true) : (f_is_job [d] h).en Q = Q (.bl (jobB d)) h := by
  rw [job_eq t hp]
  exact en_ok
end
end Lw
end

section
set_option maxHeartbeats 4000000
open PySem PySem.Spec PyProof.Rows L2 Tb
namespace Lw
section
variable {h : MH} {d : D} {Q : D → MH → Prop}
/-- what is not too long to be walked -/
def shortB : D → Bool
  | .tup xs => decide (xs.length ≤ 1000000)
  | _ => true
theorem jobs_eq (t : Tidy h) (hp : d.pur = true) (hs : shortB d = true) : f_is_jobs [d] h = .ok (.bl (jobsB d)) h := by
  refine fn_leave t rfl ?_
  unfold m_is_jobs
  cases d with
  | tup xs =>
    simp
    rw [comp_map (φ := fun d => .bl (jobB d))]
    · have e0 : ([] ++ xs.map fun d => D.bl (jobB d)) = (xs.map jobB).map .bl := by simp
      rw [e0, en_ok, ev_finL, ev_nil, all_lst]
      simp [jobsB, cut_self t.out]
    · intro y' hy
      refine ⟨_, rfl, rfl, en_eq ?_⟩
      simp [wipeM]
      rw [job_en t (purs_mem (xs := xs) (by simpa only [D.pur] using hp) hy)]
      exact ⟨rfl, rfl⟩
    · simp only [shortB, decide_eq_true_eq] at hs
      simp [sizeLine]
      omega
  | _ => first | (simp [D.pur] at hp; done) | (simp [jobsB, cut_self t.out])
theorem jobs_en (t : Tidy h) (hp : d.pur = true) (hs : shortB d = true) : (f_is_jobs [d] h).en Q = Q (.bl (jobsB d)) h := by
  rw [jobs_eq t hp hs]
  exact en_ok
theorem in_bools {bs : List Bool} : (opIn false (.bl false) (.lst (bs.map .bl)) h).en Q = Q (.bl (bs.any fun b => !b)) h := by
  have e1 : ∀ bs : List Bool, toPs (bs.map .bl) = some (bs.map .bool) := fun bs => by
    induction bs with
    | nil => rfl
    | cons b bs ih => simp [toPs, toP, ih]
  have e2 : ∀ bs : List Bool, PyData.canLayAll0 (bs.map .bool) = true := fun bs => by
    induction bs with
    | nil => rfl
    | cons b bs ih => simp [PyData.canLayAll0, PyData.canLay0, ih]
  have e3 : ∀ bs : List Bool, PyData.depthAll (bs.map .bool) = 0 := fun bs => by
    induction bs with
    | nil => rfl
    | cons b bs ih => simp [PyData.depthAll, PyData.depth, ih]
  have e4 : ∀ bs : List Bool, ((bs.map PyData.bool).any fun z => PyData.eqv z (.bool false)) = bs.any fun b => !b := fun bs => by
    induction bs with
    | nil => rfl
    | cons b bs ih =>
      simp only [List.map_cons, List.any_cons, ih, PyData.eqv]
      cases b <;> rfl
  have e5 : opIn false (.bl false) (.lst (bs.map .bl)) h = .ok (.bl (bs.any fun b => !b)) h := by
    simp only [opIn, toD, toP, seqOf, lstOf, Option.bind_some, e1]
    rw [if_pos ⟨by rfl, by
      unfold SeqAt.shaped
      simp only [PyData.canLay0, e2, Bool.true_and, PyData.depth, e3]
      rfl⟩]
    simp only [Tb.flip, e4]
    rfl
  rw [e5]
  exact en_ok
theorem min3 {a b c : Int} : minI [a, b, c] < 0 ↔ a < 0 ∨ b < 0 ∨ c < 0 := by
  obtain ⟨h1, h2⟩ := minI_spec (ns := [a, b, c]) (by simp)
  have ha := h2 a (by simp)
  have hb := h2 b (by simp)
  have hc := h2 c (by simp)
  simp at h1
  omega
theorem num_all {x y z : D} : ([x, y, z].map numB).any (fun b => !b) = false ↔ ∃ a b c : Int, x = .int a ∧ y = .int b ∧ z = .int c := by
  constructor
  · intro e
    cases x <;> simp [numB] at e
    cases y <;> simp [numB] at e
    cases z <;> simp [numB] at e
    exact ⟨_, _, _, rfl, rfl, rfl⟩
  · rintro ⟨a, b, c, rfl, rfl, rfl⟩
    rfl
theorem job_num {x y z : D} (e : ([x, y, z].map numB).any (fun b => !b) = true) : jobB (.tup [x, y, z]) = false := by
  cases x <;> cases y <;> cases z <;> first | rfl | simp [numB] at e
theorem job_len {xs : List D} (e : (xs.length : Int) ≠ 3) : jobB (.tup xs) = false := by
  match xs with
  | [] => rfl
  | [x] => cases x <;> rfl
  | [x, y] => cases x <;> cases y <;> rfl
  | [x, y, z] => exact absurd rfl e
  | x :: y :: z :: u :: r => cases x <;> cases y <;> cases z <;> rfl
end
end Lw
end

section
set_option maxHeartbeats 4000000
open PySem PySem.Spec PyProof.Rows L2 Tb
namespace Lw
section
variable {h : MH} {d : D} {Q : D → MH → Prop}
theorem are_eq (t : Tidy h) (hp : d.pur = true) : f_w_are_jobs [d] h = .ok (.bl (jobsB d)) h := by
  refine fn_leave t rfl ?_
  unfold m_w_are_jobs
  cases d with
  | tup xs =>
    simp
    rw [nx, m_w_are_jobs_1]
    simp
    refine forT (fun rest s h' => Hold (∃ c1 c2 : Option D, s = [some (.tup xs), c1, c2] ∧ xs.all jobB = rest.all jobB ∧ purs rest = true ∧ h' = h)) (Hold.mk ⟨_, _, rfl, rfl, by simpa only [D.pur] using hp, rfl⟩) ?_ ?_
    · rintro x rest s h' ⟨c1, c2, rfl, e1, e2, rfl⟩
      simp only [purs, Bool.and_eq_true] at e2
      refine ⟨_, rfl, ?_⟩
      have stop : jobB x = false → (jobsB (.tup xs) = false ∧ h'.cut h'.next = h') := fun z => ⟨by simp [jobsB, e1, z], cut_self t.out⟩
      cases x with
      | tup ys =>
        simp
        by_cases hl : (ys.length : Int) = 3
        · have hl' : ys.length = 3 := by omega
          match ys, hl' with
          | [x, y, z], _ =>
            simp
            rw [comp_map (φ := fun d => .bl (numB d))]
            · have e0 : ([] ++ [x, y, z].map fun d => D.bl (numB d)) = ([x, y, z].map numB).map .bl := by simp
              rw [e0, en_ok, ev_finL, in_bools]
              cases hg : ([x, y, z].map numB).any fun b => !b with
              | true =>
                simp
                exact stop (job_num hg)
              | false =>
                obtain ⟨a, b, c, rfl, rfl, rfl⟩ := num_all.mp hg
                simp
                rw [nx]
                simp
                rw [show (bMin [.tup [.int a, .int b, .int c]] h').en _ = _ from min_tupI (ns := [a, b, c]) (by simp)]
                simp [min3]
                by_cases hz : a < 0 ∨ b < 0 ∨ c < 0
                · rw [if_pos hz]
                  exact stop (by simp [jobB]; omega)
                · rw [if_neg hz]
                  split
                  · exact stop (by simp [jobB]; omega)
                  · exact Hold.mk ⟨_, _, rfl, by
                      rw [e1]
                      simp [jobB]
                      omega, e2.2, rfl⟩
            · intro y' hy
              refine ⟨_, rfl, rfl, en_eq ?_⟩
              simp [wipeM]
              rw [whole_en t (purs_mem (xs := [x, y, z]) (by simpa only [D.pur] using e2.1) hy)]
              exact ⟨rfl, rfl⟩
            · simp [sizeLine]
        · simp [hl]
          exact stop (job_len hl)
      | _ => first | (simp [D.pur] at e2; done) | (simp; exact stop rfl)
    · rintro s h' ⟨c1, c2, rfl, e1, e2, rfl⟩
      rw [nx, m_w_are_jobs_2]
      simp [jobsB, e1, cut_self t.out]
  | _ => first | (simp [D.pur] at hp; done) | (simp [jobsB, cut_self t.out])
end
end Lw
end

section
set_option maxHeartbeats 4000000
open PySem PySem.Spec PyProof.Rows L2 Tb
namespace Lw
def dueL (ts : List Job) (b e : Int) : List Int := (ts.filter fun t => decide (b ≤ t.1) && decide (t.2.1 ≤ e)).map fun t => t.2.2
def pJ (b e : Int) : D → Bool
  | .tup [.int f, .int l, _] => decide (b ≤ f) && decide (l ≤ e)
  | _ => false
def fJ : D → D
  | .tup [_, _, z] => z
  | d => d
theorem due_D {b e : Int} : ∀ ts : List Job, ((jobsD ts).filter (pJ b e)).map fJ = intsD (dueL ts b e)
  | [] => rfl
  | t :: ts => by
    have ih := due_D (b := b) (e := e) ts
    unfold jobsD intsD dueL at ih ⊢
    simp only [List.map_cons, List.filter_cons]
    have e0 : pJ b e (jobD t) = (decide (b ≤ t.1) && decide (t.2.1 ≤ e)) := rfl
    rw [e0]
    split
    · simp only [List.map_cons, ih]
      rfl
    · exact ih
def laterL (ts : List Job) (by_ : Int) : List Job := ts.map fun t => (t.1, t.2.1 + by_, t.2.2)
section
variable {h : MH} {Q : D → MH → Prop} {ts : List Job} {b e : Int}
theorem within_eq (t : Tidy h) (hl : ts.length ≤ 1000) : f_within [.tup (jobsD ts), .int b, .int e] h = .ok (.int (dueL ts b e).sum) h := by
  refine fn_leave t rfl ?_
  unfold m_within
  simp
  rw [comp_filter (p := pJ b e) (φ := fJ)]
  · simp only [List.nil_append, due_D]
    simp [cut_self t.out]
  · intro x hx
    obtain ⟨j, hj, rfl⟩ := List.mem_map.mp hx
    refine ⟨_, by simp [jobD, wipeM]; rfl, ?_, fun _ => ?_⟩
    · have : ∀ {r : R Bool} {k : Bool}, (r.en fun k' h' => k' = k ∧ h' = h) → r = .ok k h := fun {r k} q => by
        obtain ⟨a, h1, e1, e2, e3⟩ := R.en_ex q
        rw [e1, e2, e3]
      refine this ?_
      simp [jobD, pJ]
      split
      · rename_i hb
        simp [hb]
      · rename_i hb
        simp [hb]
    · refine en_eq ?_
      simp [jobD, fJ]
  · rw [jobs_len]
    simp [sizeLine]
    omega
theorem later_eq (t : Tidy h) (hl : ts.length ≤ 1000) : f_later_jobs [.tup (jobsD ts), .int b] h = .ok (.tup (jobsD (laterL ts b))) h := by
  refine fn_leave t (by simp only [D.bd]; exact jobs_bd) ?_
  unfold m_later_jobs
  simp
  rw [comp_map (φ := fun d => match d with | .tup [.int f, .int l, z] => .tup [.int f, .int (l + b), z] | d => d)]
  · have e0 : (jobsD ts).map (fun d => match d with | .tup [.int f, .int l, z] => .tup [.int f, .int (l + b), z] | d => d) = jobsD (laterL ts b) := by
      unfold jobsD laterL
      rw [List.map_map, List.map_map]
      rfl
    simp only [List.nil_append, e0]
    simp [cut_self t.out]
  · intro x hx
    obtain ⟨j, hj, rfl⟩ := List.mem_map.mp hx
    refine ⟨_, by simp [jobD, wipeM]; rfl, rfl, en_eq ?_⟩
    simp [jobD, sizeLine]
  · rw [jobs_len]
    simp [sizeLine]
    omega
theorem wlater_eq (t : Tidy h) (hl : ts.length ≤ 1000) : f_w_later [.tup (jobsD ts), .int b] h = .ok (.tup (jobsD (laterL ts b))) h := by
  refine fn_leave t (by simp only [D.bd]; exact jobs_bd) ?_
  unfold m_w_later
  simp
  rw [comp_map (φ := fun d => match d with | .tup [.int f, .int l, z] => .tup [.int f, .int (l + b), z] | d => d)]
  · have e0 : (jobsD ts).map (fun d => match d with | .tup [.int f, .int l, z] => .tup [.int f, .int (l + b), z] | d => d) = jobsD (laterL ts b) := by
      unfold jobsD laterL
      rw [List.map_map, List.map_map]
      rfl
    simp only [List.nil_append, e0]
    simp [cut_self t.out]
  · intro x hx
    obtain ⟨j, hj, rfl⟩ := List.mem_map.mp hx
    refine ⟨_, by simp [jobD, wipeM]; rfl, rfl, en_eq ?_⟩
    simp [jobD, sizeLine]
  · rw [jobs_len]
    simp [sizeLine]
    omega
end
end Lw
end

section
set_option maxHeartbeats 4000000
open PySem PySem.Spec PyProof.Rows L2 Tb
namespace Lw
/-! ### things, bent -/
inductive Good (B : Nat) : Nat → D → Prop
  | non {n : Nat} : Good B n .non
  | bl {n : Nat} (b : Bool) : Good B n (.bl b)
  | int {n : Nat} (i : Int) : Good B n (.int i)
  | str {n : Nat} (x : Str) (h : PyData.canLay0 (.str x) = true) : Good B n (.str x)
  | tup {n : Nat} {xs : List D} (hl : xs.length ≤ B) (h : ∀ x ∈ xs, Good B n x) : Good B (n + 1) (.tup xs)
  | lst {n : Nat} {xs : List D} (hl : xs.length ≤ B) (h : ∀ x ∈ xs, Good B n x) : Good B (n + 1) (.lst xs)
theorem Good.mono {B C n : Nat} {d : D} (g : Good B n d) (hb : B ≤ C) : ∀ {m : Nat}, n ≤ m → Good C m d := by
  induction g with
  | non => exact fun _ => .non
  | bl b => exact fun _ => .bl b
  | int i => exact fun _ => .int i
  | str x h => exact fun _ => .str x h
  | tup hl h ih =>
    intro m hm
    obtain ⟨m', rfl⟩ : ∃ m', m = m' + 1 := ⟨m - 1, by omega⟩
    exact .tup (by omega) fun x hx => ih x hx (by omega)
  | lst hl h ih =>
    intro m hm
    obtain ⟨m', rfl⟩ : ∃ m', m = m' + 1 := ⟨m - 1, by omega⟩
    exact .lst (by omega) fun x hx => ih x hx (by omega)
theorem purs_of : ∀ {xs : List D}, (∀ x ∈ xs, x.pur = true) → purs xs = true
  | [], _ => rfl
  | x :: xs, h => by
    simp only [purs, Bool.and_eq_true]
    exact ⟨h x List.mem_cons_self, purs_of fun y hy => h y (List.mem_cons_of_mem _ hy)⟩
theorem Good.pur {B n : Nat} {d : D} (g : Good B n d) : d.pur = true := by
  induction g with
  | non => rfl
  | bl b => rfl
  | int i => rfl
  | str x h => rfl
  | tup hl h ih =>
    simp only [D.pur]
    exact purs_of ih
  | lst hl h ih =>
    simp only [D.pur]
    exact purs_of ih
theorem bds_of {N : Nat} : ∀ {xs : List D}, (∀ x ∈ xs, x.bd N = true) → bds N xs = true
  | [], _ => rfl
  | x :: xs, h => by
    simp only [bds, Bool.and_eq_true]
    exact ⟨h x List.mem_cons_self, bds_of fun y hy => h y (List.mem_cons_of_mem _ hy)⟩
theorem Good.bd {B n N : Nat} {d : D} (g : Good B n d) : d.bd N = true := by
  induction g with
  | non => rfl
  | bl b => rfl
  | int i => rfl
  | str x h => rfl
  | tup hl h ih =>
    simp only [D.bd]
    exact bds_of ih
  | lst hl h ih =>
    simp only [D.bd]
    exact bds_of ih
/-- what == sees of it -/
theorem Good.toP {B n : Nat} {d : D} (g : Good B n d) : ∃ p, toP d = some p ∧ p.canLay0 = true ∧ p.depth ≤ n := by
  induction g with
  | non => exact ⟨.none, rfl, rfl, Nat.zero_le _⟩
  | bl b => exact ⟨.bool b, rfl, rfl, Nat.zero_le _⟩
  | int i => exact ⟨.int i, rfl, rfl, Nat.zero_le _⟩
  | str x h => exact ⟨.str x, rfl, h, Nat.zero_le _⟩
  | @tup n xs hl h ih =>
    have all : ∀ ys : List D, (∀ x ∈ ys, ∃ p, Tb.toP x = some p ∧ p.canLay0 = true ∧ p.depth ≤ n) → ∃ ps, toPs ys = some ps ∧ PyData.canLayAll0 ps = true ∧ PyData.depthAll ps ≤ n := by
      intro ys
      induction ys with
      | nil => exact fun _ => ⟨[], rfl, rfl, Nat.zero_le _⟩
      | cons y ys ih2 =>
        intro hy
        obtain ⟨p, e1, e2, e3⟩ := hy y List.mem_cons_self
        obtain ⟨ps, e4, e5, e6⟩ := ih2 fun x hx => hy x (List.mem_cons_of_mem _ hx)
        exact ⟨p :: ps, by simp only [toPs, e1, e4], by simp only [PyData.canLayAll0, e2, e5, Bool.and_self], Nat.max_le.mpr ⟨e3, e6⟩⟩
    obtain ⟨ps, e4, e5, e6⟩ := all xs ih
    exact ⟨.tuple ps, by simp only [Tb.toP, e4, Option.map_some], e5, Nat.succ_le_succ e6⟩
  | @lst n xs hl h ih =>
    have all : ∀ ys : List D, (∀ x ∈ ys, ∃ p, Tb.toP x = some p ∧ p.canLay0 = true ∧ p.depth ≤ n) → ∃ ps, toPs ys = some ps ∧ PyData.canLayAll0 ps = true ∧ PyData.depthAll ps ≤ n := by
      intro ys
      induction ys with
      | nil => exact fun _ => ⟨[], rfl, rfl, Nat.zero_le _⟩
      | cons y ys ih2 =>
        intro hy
        obtain ⟨p, e1, e2, e3⟩ := hy y List.mem_cons_self
        obtain ⟨ps, e4, e5, e6⟩ := ih2 fun x hx => hy x (List.mem_cons_of_mem _ hx)
        exact ⟨p :: ps, by simp only [toPs, e1, e4], by simp only [PyData.canLayAll0, e2, e5, Bool.and_self], Nat.max_le.mpr ⟨e3, e6⟩⟩
    obtain ⟨ps, e4, e5, e6⟩ := all xs ih
    exact ⟨.list ps, by simp only [Tb.toP, e4, Option.map_some], e5, Nat.succ_le_succ e6⟩
theorem ne_void {B n : Nat} {xs : List D} {h : MH} {Q : D → MH → Prop} (g : Good B n (.tup xs)) (hn : n ≤ 64) : (opNe (.tup xs) (.tup []) h).en Q = Q (.bl (!xs.isEmpty)) h := by
  obtain ⟨p, e1, e2, e3⟩ := g.toP
  have e0 : SeqAt.shaped p = true := by
    unfold SeqAt.shaped
    rw [e2]
    exact decide_eq_true (by omega)
  have e4 : ∃ ps, toPs xs = some ps ∧ p = .tuple ps := by
    simp only [Tb.toP, Option.map_eq_some_iff] at e1
    obtain ⟨ps, e5, e6⟩ := e1
    exact ⟨ps, e5, e6.symm⟩
  obtain ⟨ps, e5, rfl⟩ := e4
  rw [o_neP (p := .tuple ps) (q := .tuple []) (show toD h (.tup xs) = _ from e1) rfl e0 rfl (by simp)]
  cases xs with
  | nil =>
    cases e5
    rfl
  | cons x xs =>
    simp only [toPs] at e5
    split at e5
    · cases e5
      rfl
    · cases e5
theorem goods_cut {B n : Nat} {xs : List D} {lo hi : Option Int} (h : ∀ x ∈ xs, Good B n x) : ∀ x ∈ Tb.cutD xs lo hi, Good B n x := fun x hx => h x (List.mem_of_mem_drop (List.mem_of_mem_take hx))
theorem cut_short {xs : List D} {lo hi : Option Int} : (Tb.cutD xs lo hi).length ≤ xs.length := by
  unfold Tb.cutD
  rw [List.length_take, List.length_drop]
  omega
end Lw
end

section
set_option maxHeartbeats 4000000
open PySem PySem.Spec PyProof.Rows L2 Tb
namespace Lw
section
variable {h : MH} {n : Nat} {ns : List Int} {a b c : Int} {Q : D → MH → Prop} {rec : Fn} {d : D}
theorem ne_one {i : Int} : (opEq (.int i) (.int 1) h).en Q = Q (.bl (decide (i = 1))) h := o_eqI
theorem pickL {xs : List D} {v : Int} (h0 : 0 ≤ v) (h1 : v < xs.length) : ∃ z, z ∈ xs ∧ atI xs v = some z := by
  obtain ⟨j, rfl⟩ : ∃ j : Nat, v = j := ⟨v.toNat, by omega⟩
  have hj : j < xs.length := by omega
  exact ⟨xs[j], List.getElem_mem hj, at_pos (List.getElem?_eq_getElem hj)⟩
theorem ret1_pur {T : D → MH → Prop} (hp : d.pur = true) : ret1 d h T = T d h := by
  cases d <;> first | rfl | (simp [D.pur] at hp; done)
/-- what no tuple is -/
theorem bent_last (t : Tidy h) (hn : n < h.next) (hb : 0 ≤ b) (hb2 : b < 900000) (k : ∀ d' a' c', Good 2 1 d' → Q d' (h.set n (FO ns a' (b + 1) c'))) :
    (m_w_bent_3 rec [some (.ref n), some d, none, none] (h.set n (FO ns a b c))).en (fun _ h1 => (leave h.next .non h1).en Q) (fun _ _ => False) (fun _ _ => False) (fun d h1 => (leave h.next d h1).en Q) := by
  unfold m_w_bent_3
  simp [sizeLine]
  refine pullF t hn (by decide) (by decide) hb (by omega) fun v a' c' p q => ?_
  obtain ⟨z, hz, ez⟩ := pickL (xs := [D.int 0, .tup [], .tup [.int 0, .int 0], .tup [.int 0, .int 1]]) p (by simpa using q)
  have gz : Good 2 1 z := by
    simp only [List.mem_cons, List.not_mem_nil, or_false] at hz
    rcases hz with rfl | rfl | rfl | rfl
    · exact .int 0
    · exact .tup (by simp) (by simp)
    · exact .tup (by simp) (by simp; exact .int 0)
    · exact .tup (by simp) (by simp; exact ⟨.int 0, .int 1⟩)
  rw [ix_lst, pick_some ez]
  have e1 : ret1 z (h.set n (FO ns a' (b + 1) c')) (fun d h1 => (leave h.next d h1).en Q) = (leave h.next z (h.set n (FO ns a' (b + 1) c'))).en Q := by
    have := gz.pur
    cases z <;> first | rfl | (simp [D.pur] at this; done)
  show ret1 z _ _
  rw [e1]
  exact leaveF t hn gz.bd (k z a' c' gz)
theorem bent_int {i : Int} (t : Tidy h) (hn : n < h.next) (hb : 0 ≤ b) (hb2 : b < 900000) (k : ∀ d' a' c', Good 2 1 d' → Q d' (h.set n (FO ns a' (b + 1) c'))) :
    (m_w_bent_2 rec [some (.ref n), some (.int i), none, none] (h.set n (FO ns a b c))).en (fun _ h1 => (leave h.next .non h1).en Q) (fun _ _ => False) (fun _ _ => False) (fun d h1 => (leave h.next d h1).en Q) := by
  unfold m_w_bent_2
  simp [sizeLine]
  rw [whole_en (tidyF t hn) rfl]
  simp [numB, sizeLine]
  refine pullF t hn (by decide) (by decide) hb (by omega) fun v a' c' p q => ?_
  obtain ⟨z, hz, ez⟩ := pickL (xs := [D.int (i + 1), .int (i - 1), .int (0 - i), .bl (decide (i = 1)), .non, .str "1", .int 1000000000000000000000000000000000000000000000000000000000000, .int (-1000000000000000000000000000000000000000000000000000000000000)]) p (by simpa using q)
  have gz : Good 2 1 z := by
    simp only [List.mem_cons, List.not_mem_nil, or_false] at hz
    rcases hz with rfl | rfl | rfl | rfl | rfl | rfl | rfl | rfl
    · exact .int _
    · exact .int _
    · exact .int _
    · exact .bl _
    · exact .non
    · exact .str _ (by decide +kernel)
    · exact .int _
    · exact .int _
  rw [ix_lst, pick_some ez]
  show ret1 z _ _
  rw [ret1_pur gz.pur]
  exact leaveF t hn gz.bd (k z a' c' gz)
theorem bent_flat {B m : Nat} (g : Good B m d) (nt : ∀ xs, d ≠ .tup xs) (t : Tidy h) (hn : n < h.next) (hb : 0 ≤ b) (hb2 : b < 900000) (k : ∀ d' a' c', Good 2 1 d' → Q d' (h.set n (FO ns a' (b + 1) c'))) :
    (fnM 4 (m_w_bent rec) [.ref n, d] (h.set n (FO ns a b c))).en Q := by
  refine fn_en ?_
  have last := bent_last (rec := rec) (d := d) (a := a) (c := c) (ns := ns) t hn hb hb2 k
  have two : numB d = false → (m_w_bent_2 rec [some (.ref n), some d, none, none] (h.set n (FO ns a b c))).en (fun _ h1 => (leave h.next .non h1).en Q) (fun _ _ => False) (fun _ _ => False) (fun d h1 => (leave h.next d h1).en Q) := by
    intro e
    unfold m_w_bent_2
    simp
    rw [whole_en (tidyF t hn) g.pur]
    simp [e]
    exact last
  unfold m_w_bent
  cases g with
  | tup hl hx => exact absurd rfl (nt _)
  | non =>
    simp
    rw [nx, m_w_bent_1]
    simp
    exact two rfl
  | bl x =>
    simp
    rw [nx, m_w_bent_1]
    simp
    exact two rfl
  | str x hx =>
    simp
    rw [nx, m_w_bent_1]
    simp
    exact two rfl
  | lst hl hx =>
    simp
    rw [nx, m_w_bent_1]
    simp
    exact two rfl
  | int i =>
    simp
    rw [nx, m_w_bent_1]
    simp
    exact bent_int t hn hb hb2 k
end
end Lw
end

section
set_option maxHeartbeats 4000000
open PySem PySem.Spec PyProof.Rows L2 Tb
namespace Lw
section
variable {h : MH} {n : Nat} {ns : List Int} {a b c : Int} {Q : D → MH → Prop} {rec : Fn} {xs : List D}
theorem rev_tup : (opRev (.tup xs) h).en Q = Q (.tup xs.reverse) h := id rfl
theorem add_lst {ys : List D} (hz : xs.length + ys.length ≤ sizeLine) : (opAdd (.lst xs) (.lst ys) h).en Q = Q (.lst (xs ++ ys)) h := by
  have : opAdd (.lst xs) (.lst ys) h = .ok (.lst (xs ++ ys)) h := by
    simp only [opAdd, lstOf]
    exact if_pos hz
  rw [this]
  exact en_ok
theorem bent_tup {B m : Nat} (hB : B ≤ 10000) (hl : xs.length ≤ B) (hx : ∀ x ∈ xs, Good B m x) (t : Tidy h) (hn : n < h.next) (hb : 0 ≤ b) (hb2 : b < 900000) (k : ∀ d' a' c', Good (3 * B + 1) (m + 1) d' → Q d' (h.set n (FO ns a' (b + 2) c'))) :
    (m_w_bent_1 rec [some (.ref n), some (.tup xs), none, none] (h.set n (FO ns a b c))).en (fun _ h1 => (leave h.next .non h1).en Q) (fun _ _ => False) (fun _ _ => False) (fun d h1 => (leave h.next d h1).en Q) := by
  unfold m_w_bent_1
  simp
  refine pullF t hn (by omega) (by omega) hb (by omega) fun v a1 c1 p1 q1 => ?_
  try simp
  rw [nx]
  have len : ∀ {lo hi : Option Int}, (Tb.cutD xs lo hi).length ≤ B := fun {lo hi} => Nat.le_trans cut_short hl
  simp
  rw [add_tup (by have := len (lo := none) (hi := some v); have := len (lo := some (v + 1)) (hi := none); simp only [sizeLine]; omega)]
  simp
  rw [add_tup (by have := len (lo := none) (hi := some v); have := len (lo := some v) (hi := some (v + 1)); simp only [sizeLine]; omega)]
  simp
  rw [add_tup (by have := len (lo := none) (hi := some v); have := len (lo := some v) (hi := some (v + 1)); have := len (lo := some v) (hi := none); simp only [sizeLine, List.length_append]; omega)]
  simp [sizeLine]
  rw [rev_tup]
  simp
  rw [nx]
  simp [sizeLine]
  rw [add_tup (by simp only [sizeLine, List.length_cons, List.length_nil]; omega)]
  simp
  rw [add_tup (by have := len (lo := none) (hi := some v); have := len (lo := some v) (hi := none); simp only [sizeLine]; omega)]
  simp
  rw [add_lst (by simp [sizeLine])]
  simp
  refine pullF t hn (by decide) (by decide) (by omega) (by omega) fun w a2 c2 p2 q2 => ?_
  obtain ⟨z, hz, ez⟩ := pickL (xs := [D.tup (Tb.cutD xs none (some v) ++ Tb.cutD xs (some (v + 1)) none), .tup (Tb.cutD xs none (some v) ++ (Tb.cutD xs (some v) (some (v + 1)) ++ Tb.cutD xs (some v) none)), .lst xs, .tup xs.reverse,
    .tup [], .tup (xs ++ [.int 0]), .non, .tup (Tb.cutD xs (some v) none ++ Tb.cutD xs none (some v))]) p2 (by simpa using q2)
  have up : ∀ x, Good B m x → Good (3 * B + 1) m x := fun x g => g.mono (by omega) (Nat.le_refl _)
  have gc : ∀ {lo hi : Option Int}, ∀ x ∈ Tb.cutD xs lo hi, Good (3 * B + 1) m x := fun {lo hi} x q => up x (goods_cut hx x q)
  have two : ∀ {l1 h1 l2 h2 : Option Int}, Good (3 * B + 1) (m + 1) (.tup (Tb.cutD xs l1 h1 ++ Tb.cutD xs l2 h2)) := fun {l1 h1 l2 h2} => .tup (by
    have := len (lo := l1) (hi := h1)
    have := len (lo := l2) (hi := h2)
    rw [List.length_append]
    omega) fun x q => (List.mem_append.mp q).elim (gc x) (gc x)
  have gz : Good (3 * B + 1) (m + 1) z := by
    simp only [List.mem_cons, List.not_mem_nil, or_false] at hz
    rcases hz with rfl | rfl | rfl | rfl | rfl | rfl | rfl | rfl
    · exact two
    · refine .tup ?_ fun x q => ?_
      · have := len (lo := none) (hi := some v)
        have := len (lo := some v) (hi := some (v + 1))
        have := len (lo := some v) (hi := none)
        rw [List.length_append, List.length_append]
        omega
      · rcases List.mem_append.mp q with q | q
        · exact gc x q
        · rcases List.mem_append.mp q with q | q
          · exact gc x q
          · exact gc x q
    · exact .lst (by omega) fun x q => up x (hx x q)
    · exact .tup (by rw [List.length_reverse]; omega) fun x q => up x (hx x (List.mem_reverse.mp q))
    · exact .tup (by simp) (by simp)
    · refine .tup (by rw [List.length_append]; simp; omega) fun x q => ?_
      rcases List.mem_append.mp q with q | q
      · exact up x (hx x q)
      · obtain rfl := List.mem_singleton.mp q
        exact .int 0
    · exact .non
    · exact two
  rw [ix_lst, pick_some ez]
  show ret1 z _ _
  rw [ret1_pur gz.pur, show b + 1 + 1 = b + 2 by omega]
  exact leaveF t hn gz.bd (k z a2 c2 gz)
end
end Lw
end

section
set_option maxHeartbeats 4000000
open PySem PySem.Spec PyProof.Rows L2 Tb
namespace Lw
theorem bentF {n e : Nat} {ns : List Int} {B : Nat} (hB : B ≤ 10000) : ∀ (m : Nat) {h : MH} {a b c : Int} {Q : D → MH → Prop} {d : D}, Good B m d → m ≤ 60 → Tidy h → n < h.next → 0 ≤ b → b + 3 * m < 800000 →
    (∀ d' a' b' c', Good (3 * B + 2) (m + 1) d' → 0 ≤ b' → b' ≤ b + 3 * (m + 1) → Q d' (h.set n (FO ns a' b' c'))) → (fr_w_bent (e + m + 1) [.ref n, d] (h.set n (FO ns a b c))).en Q := by
  intro m
  induction m with
  | zero =>
    intro h a b c Q d g hm t hn hb hb2 k
    refine bent_flat g (fun xs e' => by subst e'; cases g) t hn hb (by omega) fun d' a' c' g' => k d' a' _ c' (g'.mono (by omega) (by omega)) (by omega) (by omega)
  | succ m ih =>
    intro h a b c Q d g hm t hn hb hb2 k
    by_cases ht : ∃ xs, d = .tup xs
    · obtain ⟨xs, rfl⟩ := ht
      have gx := g
      cases g with
      | tup hl hx =>
        refine fn_en ?_
        have tup : ∀ a0 b0 c0, 0 ≤ b0 → b0 ≤ b + 1 → (m_w_bent_1 (fr_w_bent (e + m + 1)) [some (.ref n), some (.tup xs), none, none] (h.set n (FO ns a0 b0 c0))).en (fun _ h1 => (leave h.next .non h1).en Q) (fun _ _ => False) (fun _ _ => False) (fun d h1 => (leave h.next d h1).en Q) := fun a0 b0 c0 h1 h2 =>
          bent_tup hB hl hx t hn h1 (by omega) fun d' a' c' g' => k d' a' _ c' (g'.mono (by omega) (by omega)) (by omega) (by omega)
        unfold m_w_bent
        simp
        rw [ne_void gx (by omega)]
        cases hxs : xs.isEmpty with
        | true =>
          try simp
          exact tup a b c hb (by omega)
        | false =>
          try simp
          refine pullF t hn (by decide) (by decide) hb (by omega) fun v a1 c1 p1 q1 => ?_
          try simp
          have hlen : 0 < xs.length := by
            cases xs with
            | nil => cases hxs
            | cons x xs => simp
          split
          · refine pullF t hn (by omega) (by omega) (by omega) (by omega) fun w a2 c2 p2 q2 => ?_
            try simp
            rw [nx]
            simp
            obtain ⟨y, hy, ey⟩ := pickL (xs := xs) p2 q2
            rw [pick_some ey]
            try simp
            have len : ∀ {lo hi : Option Int}, (Tb.cutD xs lo hi).length ≤ B := fun {lo hi} => Nat.le_trans cut_short hl
            refine ih (hx y hy) (by omega) t hn (by omega) (by omega) fun d' a' b' c' g' h1 h2 => ?_
            simp [sizeLine]
            rw [add_tup (by have := len (lo := none) (hi := some w); simp only [sizeLine, List.length_cons, List.length_nil]; omega)]
            simp
            rw [add_tup (by have := len (lo := none) (hi := some w); have := len (lo := some (w + 1)) (hi := none); simp only [sizeLine, List.length_append, List.length_cons, List.length_nil]; omega)]
            rw [ret1_tup]
            have gz : Good (3 * B + 2) (m + 1 + 1) (.tup (Tb.cutD xs none (some w) ++ [d'] ++ Tb.cutD xs (some (w + 1)) none)) := by
              have gc : ∀ {lo hi : Option Int}, ∀ x ∈ Tb.cutD xs lo hi, Good (3 * B + 2) (m + 1) x := fun {lo hi} x q => (goods_cut hx x q).mono (by omega) (by omega)
              refine .tup ?_ fun x q => ?_
              · have := len (lo := none) (hi := some w)
                have := len (lo := some (w + 1)) (hi := none)
                simp only [List.length_append, List.length_cons, List.length_nil]
                omega
              · rcases List.mem_append.mp q with q | q
                · rcases List.mem_append.mp q with q | q
                  · exact gc x q
                  · obtain rfl := List.mem_singleton.mp q
                    exact g'
                · exact gc x q
            exact leaveF t hn gz.bd (k _ a' b' c' gz h1 (by omega))
          · exact tup a1 (b + 1) c1 (by omega) (by omega)
    · refine bent_flat g (fun xs e' => ht ⟨xs, e'⟩) t hn hb (by omega) fun d' a' c' g' => k d' a' _ c' (g'.mono (by omega) (by omega)) (by omega) (by omega)
end Lw
end

section
set_option maxHeartbeats 4000000
open PySem PySem.Spec PyProof.Rows L2 Tb
namespace Lw
/-! ### the law -/
def h1 : MH := ⟨fun _ => none, 1⟩
theorem tidy1 : Tidy h1 := ⟨fun _ _ => rfl, fun m o e => by cases e⟩
theorem ints_cut {ns : List Int} {lo hi : Option Int} : Tb.cutD (ns.map D.int) lo hi = (Tb.cutD ns lo hi).map .int := by
  unfold Tb.cutD
  rw [List.length_map, List.map_take, List.map_drop]
theorem coil_eq {ns : List Int} : ∃ ns', f_w_coil [.scr ns] MH.zero = .ok (.ref 0) (h1.set 0 (FO ns' 0 0 0)) := by
  refine ⟨Tb.cutD ns none (some 63), ?_⟩
  have e1 : MH.zero.new (FO (Tb.cutD ns none (some 63)) 0 0 0) = h1.set 0 (FO (Tb.cutD ns none (some 63)) 0 0 0) := MH.ext' (fun m => by
    show (if m = 0 then _ else none) = if m = 0 then _ else none
    rfl) rfl
  rw [← e1]
  unfold f_w_coil
  refine en_eq (fn_en ?_)
  unfold m_w_coil
  simp
  have e2 : ∀ {Q : D → MH → Prop} {h : MH}, (opCut (.scr ns) none (some 63) h).en Q = Q (.lst ((Tb.cutD ns none (some 63)).map .int)) h := fun {Q h} => by
    show Q (.lst (Tb.cutD (ns.map .int) none (some 63))) h = _
    rw [ints_cut]
  rw [e2]
  simp [sizeLine]
  have e3 : leave MH.zero.next (.ref MH.zero.next) (MH.zero.new (FO (Tb.cutD ns none (some 63)) 0 0 0)) = .ok (.ref MH.zero.next) (MH.zero.new (FO (Tb.cutD ns none (some 63)) 0 0 0)) := by
    unfold leave
    rw [if_neg]
    intro z
    have := z.1
    simp [D.bd, MH.zero] at this
  show (leave MH.zero.next (.ref MH.zero.next) (MH.zero.new (FO (Tb.cutD ns none (some 63)) 0 0 0))).en _
  rw [e3]
  exact ⟨rfl, rfl⟩
theorem leave_any {N : Nat} {d : D} {h : MH} : ∃ h', leave N d h = .ok d h' := by
  unfold leave
  split
  · exact ⟨_, rfl⟩
  · exact ⟨_, rfl⟩
theorem job_good {ts : List Job} (hl : ts.length ≤ 12) : Good 12 2 (.tup (jobsD ts)) := .tup (by rw [jobs_len]; exact hl) fun x hx => by
  obtain ⟨j, hj, rfl⟩ := List.mem_map.mp hx
  refine .tup (by simp) fun y hy => ?_
  simp only [List.mem_cons, List.not_mem_nil, or_false] at hy
  rcases hy with rfl | rfl | rfl <;> exact .int _
theorem jobs_plain : ∀ {ts : List Job}, (∀ t ∈ ts, t.1.natAbs < 2 ^ 200 ∧ t.2.1.natAbs < 2 ^ 200 ∧ t.2.2.natAbs < 2 ^ 200) → plains (jobsD ts) = true
  | [], _ => rfl
  | t :: ts, h => by
    have h0 := h t List.mem_cons_self
    have ih := jobs_plain (ts := ts) fun x hx => h x (List.mem_cons_of_mem _ hx)
    unfold jobsD at ih ⊢
    simp only [List.map_cons, plains, ih, Bool.and_true, jobD, D.plain, Bool.and_eq_true, decide_eq_true_eq]
    exact h0
theorem jobs_wt : ∀ {ts : List Job}, wts (jobsD ts) = 617 * ts.length
  | [] => rfl
  | t :: ts => by
    have ih := jobs_wt (ts := ts)
    unfold jobsD at ih ⊢
    simp only [List.map_cons, wts, jobD, D.wt, ih, List.length_cons]
    omega
theorem jobs_deep : ∀ {ts : List Job}, deeps (jobsD ts) ≤ 1
  | [] => by simp [jobsD, deeps]
  | t :: ts => by
    have ih := jobs_deep (ts := ts)
    unfold jobsD at ih ⊢
    simp only [List.map_cons, deeps, jobD, D.deep]
    exact Nat.max_le.mpr ⟨by decide, ih⟩
end Lw
end

section
set_option maxHeartbeats 4000000
open PySem PySem.Spec PyProof.Rows L2 Tb
namespace Lw
def JobZ (t : Job) : Prop := 0 ≤ t.1 ∧ t.1 ≤ 1000 ∧ 0 ≤ t.2.1 ∧ t.2.1 ≤ 1000 ∧ 0 ≤ t.2.2 ∧ t.2.2 ≤ 1000
def moreJobs : List Job := [(0, 400, 60), (1, 399, 60), (2, 398, 60), (3, 397, 60), (4, 396, 60), (5, 395, 60)]
/-- what the law does behind the jobs -/
theorem law_start (goal : ∀ ns ns' ts a b c, ts.length ≤ 12 → (∀ t ∈ ts, JobZ t) → 0 ≤ b → b ≤ 200 →
    (m_law_3 [some (.scr ns), some (.ref 0), some (.tup (jobsD ts)), none, none, none, none, none, none, none, none, none, none, none, none] (h1.set 0 (FO ns' a b c))).en (fun _ _ => False) (fun _ _ => False) (fun _ _ => False) (fun d _ => d = .bl true) ∧
    ∀ x, (m_law_3 [some (.scr ns), some (.ref 0), some (.tup (jobsD ts)), x, none, none, none, none, none, none, none, none, none, none, none] (h1.set 0 (FO ns' a b c))).en (fun _ _ => False) (fun _ _ => False) (fun _ _ => False) (fun d _ => d = .bl true)) : Tells f_law := by
  intro ns hl
  suffices hs : (f_law [.scr ns] MH.zero).en fun d h => d = .bl true by
    obtain ⟨d, h, e, rfl⟩ := R.en_ex hs
    exact ⟨h, e⟩
  refine fn_en ?_
  have toT : ∀ {r : RS}, r.en (fun _ _ => False) (fun _ _ => False) (fun _ _ => False) (fun d _ => d = .bl true) → r.en (fun _ h1 => (leave MH.zero.next .non h1).en fun d h => d = .bl true) (fun _ _ => False) (fun _ _ => False) (fun d h1 => (leave MH.zero.next d h1).en fun d h => d = .bl true) := fun {r} q =>
    RS.en_mono q (fun _ _ z => z.elim) (fun _ _ z => z) (fun _ _ z => z) fun d h z => by
      obtain ⟨h', e⟩ := leave_any (N := MH.zero.next) (d := d) (h := h)
      rw [e]
      exact z
  unfold m_law
  simp
  obtain ⟨ns', e0⟩ := coil_eq (ns := ns)
  rw [e0]
  simp
  have hn : 0 < h1.next := Nat.zero_lt_one
  rw [nx, m_law_1]
  simp
  refine jobsF tidy1 hn (by omega) (by omega) fun ts a1 b1 c1 l1 l2 l3 l4 => ?_
  have z1 : ∀ t ∈ ts, JobZ t := fun t ht => by
    have := l2 t ht
    unfold JobOk at this
    unfold JobZ
    omega
  try simp
  rw [nx, m_law_2]
  simp
  refine pullF tidy1 hn (by decide) (by decide) (by omega) (by omega) fun v a2 c2 p2 q2 => ?_
  try simp
  split
  · rw [comp_map (φ := fun d => match d with | .int i => .tup [.int i, .int (400 - i), .int 60] | d => d)]
    · have e0 : (rangeD 0 6).map (fun d => match d with | .int i => .tup [.int i, .int (400 - i), .int 60] | d => d) = jobsD moreJobs := by
        unfold rangeD jobsD moreJobs
        simp [List.range, List.range.loop, jobD]
      rw [e0]
      simp
      rw [add_tup (by rw [jobs_len, jobs_len]; simp only [sizeLine, moreJobs, List.length_cons, List.length_nil]; omega)]
      have e9 : jobsD ts ++ jobsD moreJobs = jobsD (ts ++ moreJobs) := by simp [jobsD]
      rw [e9]
      exact toT (goal ns ns' (ts ++ moreJobs) a2 (b1 + 1) c2 (by simp [moreJobs]; omega) (fun t ht => by
        rcases List.mem_append.mp ht with ht | ht
        · exact z1 t ht
        · simp only [moreJobs, List.mem_cons, List.not_mem_nil, or_false] at ht
          unfold JobZ
          rcases ht with rfl | rfl | rfl | rfl | rfl | rfl <;> simp) (by omega) (by omega)).1
    · intro x hx
      unfold rangeD at hx
      obtain ⟨i, hi, rfl⟩ := List.mem_map.mp hx
      refine ⟨_, rfl, rfl, en_eq ?_⟩
      simp [wipeM, sizeLine]
    · simp [rangeD, sizeLine]
  · exact toT (goal ns ns' ts a2 (b1 + 1) c2 (by omega) z1 (by omega) (by omega)).1
end Lw
end

section
set_option maxHeartbeats 4000000
open PySem PySem.Spec PyProof.Rows L2 Tb
namespace Lw
theorem jobz_plain {ts : List Job} (z : ∀ t ∈ ts, JobZ t) : plains (jobsD ts) = true := jobs_plain fun t ht => by
  have := z t ht
  unfold JobZ at this
  omega
theorem repr_jobs {ts : List Job} {h : MH} {Q : D → MH → Prop} (l : ts.length ≤ 12) (z : ∀ t ∈ ts, JobZ t) : (bRepr [.tup (jobsD ts)] h).en Q = Q (.str (txt (.tup (jobsD ts)))) h :=
  o_repr (by simp only [D.plain]; exact jobz_plain z) (by simp only [D.wt, jobs_wt, sizeLine]; omega) (by have := jobs_deep (ts := ts); simp only [D.deep]; omega)
theorem o_addH {h : MH} {d e : D} {xs ys : List D} {Q : D → MH → Prop} (h1 : lstOf h d = some xs) (h2 : lstOf h e = some ys) (hz : xs.length + ys.length ≤ sizeLine) : (opAddH d e h).en Q = Q (.ref h.next) (h.new (.lst (xs ++ ys))) := by
  simp only [opAddH, h1, h2]
  rw [if_pos hz]
  rfl
theorem at_last {α : Type} {xs : List α} {x : α} : atI (xs ++ [x]) (-1) = some x := by
  unfold atI ixN
  have e : (-1 + ((xs.length : Int) + 1)).toNat = xs.length := by omega
  simp only [List.length_append, List.length_cons, List.length_nil]
  simp [e]
  rw [if_pos (by omega)]
  simp
/-- the heap of the law's second half -/
noncomputable def HH (ns' : List Int) (a b c : Int) (xs0 Ds : List D) : MH := ((h1.set 0 (FO ns' a b c)).new (.lst xs0)).new (.lst Ds)
def H2 (xs0 Ds : List D) : MH := (h1.new (.lst xs0)).new (.lst Ds)
abbrev Goods (Ds : List D) : Prop := ∀ d ∈ Ds, Good 116 4 d
section
variable {ns' : List Int} {a b c : Int} {xs0 Ds : List D} {Q : D → MH → Prop}
theorem HH_eq : HH ns' a b c xs0 Ds = (H2 xs0 Ds).set 0 (FO ns' a b c) := by
  unfold HH H2
  rw [set_new (n := 0) (by show 0 ≠ 2; decide), set_new (n := 0) (by decide)]
theorem tidyH2 (g0 : Goods xs0) (g : Goods Ds) : Tidy (H2 xs0 Ds) := (tidy1.new (o := .lst xs0) (bds_of fun x hx => (g0 x hx).bd)).new (o := .lst Ds) (bds_of fun x hx => (g x hx).bd)
theorem tidyHH (g0 : Goods xs0) (g : Goods Ds) : Tidy (HH ns' a b c xs0 Ds) := by
  rw [HH_eq]
  exact tidyF (tidyH2 g0 g) (by show 0 < 3; decide)
@[simp] theorem get_HH : (HH ns' a b c xs0 Ds).get 2 = some (.lst Ds) := by
  unfold HH
  rw [get_new]
  exact if_pos rfl
theorem set_HH {o : List D} : (HH ns' a b c xs0 Ds).set 2 (.lst o) = HH ns' a b c xs0 o := by
  unfold HH
  exact new_set' rfl
theorem pullH {m : Int} (g0 : Goods xs0) (g : Goods Ds) (hm : 0 < m) (hm2 : m < 2 ^ 200) (hb : 0 ≤ b) (hb2 : b < 1000000) (k : ∀ v a' c', 0 ≤ v → v < m → Q (.int v) (HH ns' a' (b + 1) c' xs0 Ds)) : (f_w_pull [.ref 0, .int m] (HH ns' a b c xs0 Ds)).en Q := by
  rw [HH_eq]
  refine pullF (tidyH2 g0 g) (by show 0 < 3; decide) hm hm2 hb hb2 fun v a' c' p q => ?_
  rw [← HH_eq]
  exact k v a' c' p q
theorem bentH {B m e : Nat} {d : D} (he : e + m + 1 = 20) (hB : B ≤ 100) (hm : m ≤ 10) (gd : Good B m d) (g0 : Goods xs0) (g : Goods Ds) (hb : 0 ≤ b) (hb2 : b < 100000) (k : ∀ d' a' b' c', Good (3 * B + 2) (m + 1) d' → 0 ≤ b' → b' ≤ b + 3 * (m + 1) → Q d' (HH ns' a' b' c' xs0 Ds)) : (f_w_bent [.ref 0, d] (HH ns' a b c xs0 Ds)).en Q := by
  rw [HH_eq]
  have := bentF (n := 0) (e := e) (ns := ns') (B := B) (by omega) m (h := H2 xs0 Ds) (a := a) (b := b) (c := c) (Q := Q) (d := d) gd (by omega) (tidyH2 g0 g) (by show 0 < 3; decide) hb (by omega) fun d' a' b' c' g' p q => by
    rw [← HH_eq]
    exact k d' a' b' c' g' p q
  rw [he] at this
  exact this
end
/-- what the law does with the things -/
theorem law_things {ns ns' : List Int} {ts : List Job} {a b c : Int} (l : ts.length ≤ 12) (z : ∀ t ∈ ts, JobZ t) (b0 : 0 ≤ b) (b1 : b ≤ 200)
    (goal : ∀ Ds x xs0 a b c, Goods xs0 → Goods Ds → Ds.length ≤ 100 → 0 ≤ b → b ≤ 400 →
      (m_law_8 [some (.scr ns), some (.ref 0), some (.tup (jobsD ts)), x, some (.str (txt (.tup (jobsD ts)))), some (.ref 2), none, none, none, none, none, none, none, none, none] (HH ns' a b c xs0 Ds)).en (fun _ _ => False) (fun _ _ => False) (fun _ _ => False) (fun d _ => d = .bl true)) :
    ∀ x, (m_law_3 [some (.scr ns), some (.ref 0), some (.tup (jobsD ts)), x, none, none, none, none, none, none, none, none, none, none, none] (h1.set 0 (FO ns' a b c))).en (fun _ _ => False) (fun _ _ => False) (fun _ _ => False) (fun d _ => d = .bl true) := by
  intro x
  unfold m_law_3
  simp
  rw [repr_jobs l z]
  rw [nx, m_law_4]
  simp
  refine ⟨by decide, by decide, by decide, by decide, by decide, by decide, by decide, by decide, ?_⟩
  have gt : Good 12 2 (.tup (jobsD ts)) := job_good l
  have gj : ∀ y ∈ jobsD ts, Good 12 1 y := fun y hy => by
    cases gt with
    | tup _ q => exact q y hy
  have gz : ∀ d ∈ [D.tup (jobsD ts), .tup [], .non, .lst [.tup (jobsD ts)], .lst (jobsD ts), .tup [.int 1, .int 2, .int 3], .tup [.tup [.int 1, .int 2, .int 3]], .tup [.tup [.int 2, .int 1, .int 3]], .tup [.tup [.int 1, .int 1, .int 0]]], Good 116 4 d := by
    intro d hd
    simp only [List.mem_cons, List.not_mem_nil, or_false] at hd
    rcases hd with rfl | rfl | rfl | rfl | rfl | rfl | rfl | rfl | rfl
    · exact gt.mono (by decide) (by decide)
    · exact .tup (by simp) (by simp)
    · exact .non
    · exact .lst (by simp) (by simp; exact gt.mono (by decide) (by decide))
    · exact .lst (by rw [jobs_len]; omega) fun y hy => (gj y hy).mono (by decide) (by decide)
    · exact .tup (by simp) (by simp; exact ⟨.int _, .int _, .int _⟩)
    · exact .tup (by simp) (by simp; exact .tup (by simp) (by simp; exact ⟨.int _, .int _, .int _⟩))
    · exact .tup (by simp) (by simp; exact .tup (by simp) (by simp; exact ⟨.int _, .int _, .int _⟩))
    · exact .tup (by simp) (by simp; exact .tup (by simp) (by simp; exact ⟨.int _, .int _⟩))
  have nz : [D.tup (jobsD ts), .tup [], .non, .lst [.tup (jobsD ts)], .lst (jobsD ts), .tup [.int 1, .int 2, .int 3], .tup [.tup [.int 1, .int 2, .int 3]], .tup [.tup [.int 2, .int 1, .int 3]], .tup [.tup [.int 1, .int 1, .int 0]]].length = 9 := rfl
  revert gz nz
  generalize [D.tup (jobsD ts), .tup [], .non, .lst [.tup (jobsD ts)], .lst (jobsD ts), .tup [.int 1, .int 2, .int 3], .tup [.tup [.int 1, .int 2, .int 3]], .tup [.tup [.int 2, .int 1, .int 3]], .tup [.tup [.int 1, .int 1, .int 0]]] = B0
  intro gz nz
  rw [nx, m_law_5]
  simp
  refine ⟨kind_ref (xs := B0) (by simp), by decide, by decide, ?_⟩
  rw [o_append (xs := B0) (by simp) (by rw [nz]; decide), new_set' (by simp)]
  rw [nx, m_law_6]
  simp
  refine ⟨by decide, by decide, by decide, by decide, by decide, by decide, by decide, by decide, by decide, by decide, by decide, ?_⟩
  rw [o_addH (xs := B0 ++ [D.tup [D.tup [D.int 0, D.int 0, D.bl true]]]) (by simp [lstOf]) rfl (by simp [nz, sizeLine])]
  have gE : ∀ d ∈ [D.tup [.tup [.int 1000000000000000000000000000000000000000000000000000000000000, .int 10000000000000000000000000000000000000000000000000000000000000, .int 100000000000000000000000000000000000000000000000000000000000000]], .tup [.tup [.int 0, .int 1, .int (-1)]], .tup [.tup [.int 0, .int 1]], .tup [.lst [.int 0, .int 1, .int 2]], .tup [.tup [.int 0, .int 1, .int 2, .int 3]]], Good 116 4 d := by
    intro d hd
    simp only [List.mem_cons, List.not_mem_nil, or_false] at hd
    rcases hd with rfl | rfl | rfl | rfl | rfl
    · exact .tup (by simp) (by simp; exact .tup (by simp) (by simp; exact ⟨.int _, .int _, .int _⟩))
    · exact .tup (by simp) (by simp; exact .tup (by simp) (by simp; exact ⟨.int _, .int _, .int _⟩))
    · exact .tup (by simp) (by simp; exact .tup (by simp) (by simp; exact ⟨.int _, .int _⟩))
    · exact .tup (by simp) (by simp; exact .lst (by simp) (by simp; exact ⟨.int _, .int _, .int _⟩))
    · exact .tup (by simp) (by simp; exact .tup (by simp) (by simp; exact ⟨.int _, .int _, .int _, .int _⟩))
  have nE : [D.tup [.tup [.int 1000000000000000000000000000000000000000000000000000000000000, .int 10000000000000000000000000000000000000000000000000000000000000, .int 100000000000000000000000000000000000000000000000000000000000000]], .tup [.tup [.int 0, .int 1, .int (-1)]], .tup [.tup [.int 0, .int 1]], .tup [.lst [.int 0, .int 1, .int 2]], .tup [.tup [.int 0, .int 1, .int 2, .int 3]]].length = 5 := rfl
  revert gE nE
  generalize [D.tup [.tup [.int 1000000000000000000000000000000000000000000000000000000000000, .int 10000000000000000000000000000000000000000000000000000000000000, .int 100000000000000000000000000000000000000000000000000000000000000]], .tup [.tup [.int 0, .int 1, .int (-1)]], .tup [.tup [.int 0, .int 1]], .tup [.lst [.int 0, .int 1, .int 2]], .tup [.tup [.int 0, .int 1, .int 2, .int 3]]] = B1
  intro gE nE
  have gA : ∀ d ∈ B0 ++ [D.tup [D.tup [D.int 0, D.int 0, D.bl true]]] ++ B1, Good 116 4 d := by
    intro d hd
    rcases List.mem_append.mp hd with hd | hd
    · rcases List.mem_append.mp hd with hd | hd
      · exact gz d hd
      · obtain rfl := List.mem_singleton.mp hd
        exact .tup (by simp) (by simp; exact .tup (by simp) (by simp; exact ⟨.int _, .bl _⟩))
    · exact gE d hd
  have nA : (B0 ++ [D.tup [D.tup [D.int 0, D.int 0, D.bl true]]] ++ B1).length = 15 := by simp [nz, nE]
  revert gA nA
  have gB2 : Goods (B0 ++ [D.tup [D.tup [D.int 0, D.int 0, D.bl true]]]) := by
    intro d hd
    rcases List.mem_append.mp hd with hd | hd
    · exact gz d hd
    · obtain rfl := List.mem_singleton.mp hd
      exact .tup (by simp) (by simp; exact .tup (by simp) (by simp; exact ⟨.int _, .bl _⟩))
  revert gB2
  generalize B0 ++ [D.tup [D.tup [D.int 0, D.int 0, D.bl true]]] = B2
  generalize B2 ++ B1 = Ds
  intro gB2 gA nA
  rw [nx, m_law_7]
  simp
  have e1 : h1.next = 1 := rfl
  refine for_range (fun i s h' => Hold (∃ (c3 : Option D) (Ds : List D) (a' b' c' : Int), (∀ d ∈ Ds, Good 116 4 d) ∧ Ds.length = 15 + 2 * i ∧ 0 ≤ b' ∧ b' ≤ 200 + 30 * i ∧ s = [some (.scr ns), some (.ref 0), some (.tup (jobsD ts)), c3, some (.str (txt (.tup (jobsD ts)))), some (.ref 2), none, none, none, none, none, none, none, none, none] ∧ h' = HH ns' a' b' c' B2 Ds)) (Hold.mk ⟨_, Ds, a, b, c, gA, nA, b0, by omega, rfl, rfl⟩) ?_ ?_
  · rintro i s h' hi ⟨c3, Ds, a', b', c', gD, nD, p1, p2, rfl, rfl⟩
    refine ⟨_, rfl, ?_⟩
    simp
    refine ⟨kind_ref (xs := Ds) get_HH, ?_⟩
    refine bentH (e := 17) rfl (by decide) (by decide) gt gB2 gD p1 (by omega) fun d1 a1 b1 c1 g1 p3 p4 => ?_
    try simp
    rw [o_append (xs := Ds) get_HH (by simp only [sizeLine]; omega), set_HH]
    have gD1 : Goods (Ds ++ [d1]) := fun x hx => by
      rcases List.mem_append.mp hx with hx | hx
      · exact gD x hx
      · obtain rfl := List.mem_singleton.mp hx
        exact g1.mono (by decide) (by decide)
    rw [nx]
    simp
    refine ⟨kind_ref (xs := Ds ++ [d1]) get_HH, ?_⟩
    have eL : atI (Ds ++ [d1]) (-1) = some d1 := at_last
    rw [ix_ref (xs := Ds ++ [d1]) get_HH, pick_some eL]
    try simp
    refine bentH (e := 16) rfl (by decide) (by decide) g1 gB2 gD1 p3 (by omega) fun d2 a2 b2 c2 g2 p5 p6 => ?_
    try simp
    rw [o_append (xs := Ds ++ [d1]) get_HH (by simp only [sizeLine, List.length_append, List.length_cons, List.length_nil]; omega), set_HH]
    refine Hold.mk ⟨_, _, a2, b2, c2, ?_, ?_, p5, ?_, rfl, rfl⟩
    · intro x hx
      rcases List.mem_append.mp hx with hx | hx
      · exact gD1 x hx
      · obtain rfl := List.mem_singleton.mp hx
        exact g2.mono (by decide) (by decide)
    · simp only [List.length_append, List.length_cons, List.length_nil]
      omega
    · omega
  · rintro s h' ⟨c3, Ds, a', b', c', gD, nD, p1, p2, rfl, rfl⟩
    rw [nx]
    exact goal Ds c3 B2 a' b' c' gB2 gD (by omega) p1 (by omega)
end Lw
end

section
set_option maxHeartbeats 4000000
open PySem PySem.Spec PyProof.Rows L2 Tb
namespace Lw
theorem short_good {B n : Nat} {d : D} (g : Good B n d) (hB : B ≤ 1000000) : shortB d = true := by
  cases g with
  | tup hl hx =>
    simp only [shortB, decide_eq_true_eq]
    omega
  | _ => rfl
theorem repr_bl {b : Bool} {h : MH} {Q : D → MH → Prop} : (bRepr [.bl b] h).en Q = Q (.str (txt (.bl b))) h := o_repr rfl (by simp [D.wt, sizeLine]) (by simp [D.deep])
theorem law_kinds {ns ns' : List Int} {ts : List Job} {a b c : Int} {Ds xs0 : List D} {x : Option D} {S : D} (g0 : Goods xs0) (gD : Goods Ds) 
    (goal : ∀ y z, (m_law_9 [some (.scr ns), some (.ref 0), some (.tup (jobsD ts)), x, some S, some (.ref 2), y, z, none, none, none, none, none, none, none] (HH ns' a b c xs0 Ds)).en (fun _ _ => False) (fun _ _ => False) (fun _ _ => False) (fun d _ => d = .bl true)) :
    (m_law_8 [some (.scr ns), some (.ref 0), some (.tup (jobsD ts)), x, some S, some (.ref 2), none, none, none, none, none, none, none, none, none] (HH ns' a b c xs0 Ds)).en (fun _ _ => False) (fun _ _ => False) (fun _ _ => False) (fun d _ => d = .bl true) := by
  unfold m_law_8
  simp
  rw [show itOf (.ref 2) (HH ns' a b c xs0 Ds) = .ok (Ds, some (2, Ds)) (HH ns' a b c xs0 Ds) from by
    simp only [itOf, get_HH]]
  rw [en_ok]
  have t := tidyHH (ns' := ns') (a := a) (b := b) (c := c) g0 gD
  refine for_en (g := some (2, Ds)) (fun rest s h' => Hold (∃ (y z : Option D), Goods rest ∧ s = [some (.scr ns), some (.ref 0), some (.tup (jobsD ts)), x, some S, some (.ref 2), y, z, none, none, none, none, none, none, none] ∧ h' = HH ns' a b c xs0 Ds)) ?_ ?_ ?_ Ds _ _ (Hold.mk ⟨_, _, gD, rfl, rfl⟩)
  · rintro xs s h ⟨y, z, _, rfl, rfl⟩
    exact get_HH
  · rintro d rest s h ⟨y, z, gr, rfl, rfl⟩
    refine ⟨_, rfl, ?_⟩
    have gd := gr d List.mem_cons_self
    have gs : Goods rest := fun q hq => gr q (List.mem_cons_of_mem _ hq)
    simp
    rw [are_eq t gd.pur, en_ok, ev_nil, repr_bl]
    try simp
    rw [nx]
    simp
    rw [jobs_en t gd.pur (short_good gd (by decide)), ev_nil, repr_bl]
    simp
    rw [show kPick [(0, true)] [] [] [d] = [d] from rfl]
    rw [jobs_en t gd.pur (short_good gd (by decide)), ev_nil, repr_bl]
    simp
    exact Hold.mk ⟨_, _, gs, rfl, rfl⟩
  · rintro s h ⟨y, z, gr, rfl, rfl⟩
    rw [nx]
    exact goal y z
end Lw
end

section
set_option maxHeartbeats 4000000
open PySem PySem.Spec PyProof.Rows L2 Tb
namespace Lw
theorem repr_int {i : Int} {h : MH} {Q : D → MH → Prop} (hi : i.natAbs < 2 ^ 200) : (bRepr [.int i] h).en Q = Q (.str (txt (.int i))) h := o_repr (by simp [D.plain, hi]) (by simp [D.wt, sizeLine]) (by simp [D.deep])
theorem due_small {ts : List Job} {b e : Int} (z : ∀ t ∈ ts, JobZ t) : 0 ≤ (dueL ts b e).sum ∧ (dueL ts b e).sum ≤ 1000 * ts.length := by
  induction ts with
  | nil => simp [dueL]
  | cons t ts ih =>
    have ih := ih fun x hx => z x (List.mem_cons_of_mem _ hx)
    have ht := z t List.mem_cons_self
    unfold JobZ at ht
    unfold dueL at ih ⊢
    rw [List.filter_cons]
    split
    · simp only [List.map_cons, List.sum_cons, List.length_cons]
      push_cast
      omega
    · simp only [List.length_cons]
      push_cast
      omega
abbrev sq (ns : List Int) (ts : List Job) (x : Option D) (S : D) (y z c8 c9 c10 c11 c12 : Option D) : Sl := [some (.scr ns), some (.ref 0), some (.tup (jobsD ts)), x, some S, some (.ref 2), y, z, c8, c9, c10, c11, c12, none, none]
theorem law_spans {ns ns' : List Int} {ts : List Job} {a b c : Int} {Ds xs0 : List D} {x y z : Option D} {S : D} (g0 : Goods xs0) (gD : Goods Ds) (l : ts.length ≤ 12) (hz : ∀ t ∈ ts, JobZ t) (b0 : 0 ≤ b) (b1 : b ≤ 400)
    (goal : ∀ x y z c8 c9 c10 c11 c12 a b c, 0 ≤ b → b ≤ 500 → (m_law_10 (sq ns ts x S y z c8 c9 c10 c11 c12) (HH ns' a b c xs0 Ds)).en (fun _ _ => False) (fun _ _ => False) (fun _ _ => False) (fun d _ => d = .bl true)) :
    (m_law_9 (sq ns ts x S y z none none none none none) (HH ns' a b c xs0 Ds)).en (fun _ _ => False) (fun _ _ => False) (fun _ _ => False) (fun d _ => d = .bl true) := by
  unfold m_law_9
  simp
  refine for_range (fun i s h' => Hold (∃ (x c8 c9 c10 c11 c12 : Option D) (a' b' c' : Int), 0 ≤ b' ∧ b' ≤ 400 + 7 * i ∧ s = sq ns ts x S y z c8 c9 c10 c11 c12 ∧ h' = HH ns' a' b' c' xs0 Ds)) (Hold.mk ⟨_, _, _, _, _, _, a, b, c, b0, by omega, rfl, rfl⟩) ?_ ?_
  · rintro i s h' hi ⟨x, c8, c9, c10, c11, c12, a', b', c', p1, p2, rfl, rfl⟩
    refine ⟨_, rfl, ?_⟩
    have tail : ∀ (u v : Int) (x c10 : Option D) (a2 b2 c2 : Int), 0 ≤ b2 → b2 ≤ 400 + 7 * ((i : Int) + 1) → (mSeq (mSet 11 (mCallB bSum (mCons (mLc (mIter (mVar 2)) [12] (mgName 12) (mAnd (mAsB (mOp opGe (mOp opIx (mVar 12) (mC (.int 0))) (mVar 8))) (mAsB (mOp opLe (mOp opIx (mVar 12) (mC (.int 1))) (mVar 9)))) (mOp opIx (mVar 12) (mC (.int 2))) finL) (mNil)))) (mIfS (mOr (mAsB (mOp opNe (mCallB bRepr (mCons (mCall 3 f_within [] (mCons (mVar 2) (mCons (mVar 8) (mCons (mVar 9) (mNil))))) (mNil))) (mCallB bRepr (mCons (mVar 11) (mNil))))) (mAsB (mOp opNe (mCallB bRepr (mCons (mCallK 1 2 3 f_within (fun xs ys => kPick [(1, true), (0, true)] xs [] ys) (mCons (mVar 2) (mNil)) (mCons (mVar 9) (mCons (mVar 8) (mNil)))) (mNil))) (mCallB bRepr (mCons (mVar 11) (mNil)))))) (mRetF (mC (.bl false))) (mSkip)) (sq ns ts x S y z (some (.int u)) (some (.int v)) c10 c11 c12) (HH ns' a2 b2 c2 xs0 Ds)).en
        (fun s h' => Hold (∃ (x c8 c9 c10 c11 c12 : Option D) (a' b' c' : Int), 0 ≤ b' ∧ b' ≤ 400 + 7 * ((i : Int) + 1) ∧ s = sq ns ts x S y z c8 c9 c10 c11 c12 ∧ h' = HH ns' a' b' c' xs0 Ds)) (fun _ _ => False) (fun _ _ => False) (fun d _ => d = .bl true) := by
      intro u v x c10 a2 b2 c2 q1 q2
      have t := tidyHH (ns' := ns') (a := a2) (b := b2) (c := c2) g0 gD
      have hs := due_small (b := u) (e := v) hz
      simp
      rw [comp_filter (p := pJ u v) (φ := fJ)]
      · simp only [List.nil_append, due_D]
        simp
        rw [nx]
        simp
        rw [within_eq t (by omega), en_ok, ev_nil, repr_int (by omega)]
        simp
        rw [repr_int (by omega)]
        simp
        have ek : kPick [(1, true), (0, true)] [D.tup (jobsD ts)] [] [D.int v, D.int u] = [D.tup (jobsD ts), D.int u, D.int v] := rfl
        rw [ek]
        refine ⟨rfl, ?_⟩
        rw [within_eq t (by omega), en_ok, ev_nil, repr_int (by omega)]
        simp
        rw [repr_int (by omega)]
        simp
        exact Hold.mk ⟨_, _, _, _, _, _, a2, b2, c2, q1, q2, rfl, rfl⟩
      · intro x hx
        obtain ⟨j, hj, rfl⟩ := List.mem_map.mp hx
        refine ⟨_, by simp [jobD, wipeM]; rfl, ?_, fun _ => ?_⟩
        · have : ∀ {r : R Bool} {k : Bool}, (r.en fun k' h' => k' = k ∧ h' = HH ns' a2 b2 c2 xs0 Ds) → r = .ok k (HH ns' a2 b2 c2 xs0 Ds) := fun {r k} q => by
            obtain ⟨a, h1, e1, e2, e3⟩ := R.en_ex q
            rw [e1, e2, e3]
          refine this ?_
          simp [jobD, pJ]
          split
          · rename_i hb
            simp [hb]
          · rename_i hb
            simp [hb]
        · refine en_eq ?_
          simp [jobD, fJ]
      · rw [jobs_len]
        simp [sizeLine]
        omega
    simp
    refine comp_en (g := none) (fun xs acc h' => ∃ (vs : List Int) (a2 b2 c2 : Int), acc = vs.map .int ∧ vs.length + xs.length = 2 ∧ 0 ≤ b2 ∧ b2 ≤ 400 + 7 * i + 2 * vs.length ∧ h' = HH ns' a2 b2 c2 xs0 Ds) (fun _ _ _ _ => trivial) ?_ ?_ _ _ _ ⟨[], a', b', c', rfl, by simp [rangeD], p1, by simpa using p2, rfl⟩
    · rintro w ws acc h' ⟨vs, a2, b2, c2, rfl, e1, q1, q2, rfl⟩
      simp only [List.length_cons] at e1
      refine ⟨_, rfl, ?_⟩
      simp [wipeM]
      refine pullH g0 gD (by decide) (by decide) q1 (by omega) fun v3 a3 c3 p3 q3 => ?_
      try simp
      split
      · refine pullH g0 gD (by decide) (by decide) (by omega) (by omega) fun v4 a4 c4 p4 q4 => ?_
        refine ⟨by simp [sizeLine]; omega, vs ++ [v4], a4, _, c4, by simp, by simp; omega, ?_, ?_, rfl⟩
        · omega
        · simp
          omega
      · refine pullH g0 gD (by decide) (by decide) (by omega) (by omega) fun v4 a4 c4 p4 q4 => ?_
        refine ⟨by simp [sizeLine]; omega, vs ++ [v4], a4, _, c4, by simp, by simp; omega, ?_, ?_, rfl⟩
        · omega
        · simp
          omega
    · rintro acc h' ⟨vs, a2, b2, c2, rfl, e1, q1, q2, rfl⟩
      simp only [List.length_nil, Nat.add_zero] at e1
      match vs, e1 with
      | [u, v], _ =>
        simp
        rw [nx]
        simp
        rw [ne_void (job_good l) (by decide)]
        have hp : 0 < ts.length → 0 < ((jobsD ts).length : Int) := fun q => by rw [jobs_len]; omega
        cases ts with
        | nil =>
          rw [show (jobsD []).isEmpty = true from rfl]
          simp
          rw [nx]
          have := tail u v (some (.int i)) c10 a2 b2 c2 q1 (by simp at q2; omega)
          exact RS.en_mono this (fun _ _ z => z) (fun _ _ z => z.elim) (fun _ _ z => z.elim) (fun _ _ z => z)
        | cons t0 ts0 =>
          have hl : ((jobsD (t0 :: ts0)).length : Int) = ts0.length + 1 := by rw [jobs_len]; simp
          have hat : ∀ w : Int, 0 ≤ w → w < (jobsD (t0 :: ts0)).length → ∃ t : Job, atI (jobsD (t0 :: ts0)) w = some (jobD t) := fun w h0 h1 => by
            have h3 : w.toNat < (t0 :: ts0).length := by rw [jobs_len] at h1; omega
            refine ⟨(t0 :: ts0)[w.toNat], ?_⟩
            unfold atI ixN
            rw [if_pos h0, if_pos h1]
            show (jobsD (t0 :: ts0))[w.toNat]? = _
            unfold jobsD
            rw [List.getElem?_map, List.getElem?_eq_getElem h3]
            rfl
          rw [show (jobsD (t0 :: ts0)).isEmpty = false from rfl]
          simp
          refine pullH g0 gD (by decide) (by decide) q1 (by simp at q2; omega) fun v3 a3 c3 p3 q3 => ?_
          try simp
          split
          · refine pullH g0 gD (hp (by simp)) (by simp at l; omega) (by omega) (by simp at q2; omega) fun v4 a4 c4 p4 q4 => ?_
            obtain ⟨t4, e4⟩ := hat v4 p4 q4
            rw [Tb.ix_tup, pick_some e4]
            simp [jobD]
            refine pullH g0 gD (hp (by simp)) (by simp at l; omega) (by omega) (by simp at q2; omega) fun v5 a5 c5 p5 q5 => ?_
            obtain ⟨t5, e5⟩ := hat v5 p5 q5
            rw [Tb.ix_tup, pick_some e5]
            simp [jobD, sizeLine]
            rw [nx]
            exact RS.en_mono (tail t4.1 t5.2.1 (some (.int i)) c10 a5 _ c5 (by omega) (by simp at q2; omega)) (fun _ _ z => z) (fun _ _ z => z.elim) (fun _ _ z => z.elim) (fun _ _ z => z)
          · rw [nx]
            exact RS.en_mono (tail u v (some (.int i)) c10 a3 _ c3 (by omega) (by simp at q2; omega)) (fun _ _ z => z) (fun _ _ z => z.elim) (fun _ _ z => z.elim) (fun _ _ z => z)
  · rintro s h' ⟨x, c8, c9, c10, c11, c12, a', b', c', p1, p2, rfl, rfl⟩
    rw [nx]
    exact goal _ _ _ _ _ _ _ _ _ _ _ p1 (by omega)
end Lw
end

section
set_option maxHeartbeats 4000000
open PySem PySem.Spec PyProof.Rows L2 Tb
namespace Lw
theorem later_len {ts : List Job} {m : Int} : (laterL ts m).length = ts.length := by simp [laterL]
theorem later_plain {ts : List Job} {m : Int} (z : ∀ t ∈ ts, JobZ t) (h0 : 0 ≤ m) (h1 : m < 1000) : plains (jobsD (laterL ts m)) = true := jobs_plain fun t ht => by
  obtain ⟨j, hj, rfl⟩ := List.mem_map.mp ht
  have := z j hj
  unfold JobZ at this
  simp only
  omega
theorem later_zero {ts : List Job} : laterL ts 0 = ts := by
  unfold laterL
  simp
theorem law_end {ns ns' : List Int} {ts : List Job} {a b c : Int} {Ds xs0 : List D} {x y z c8 c9 c10 c11 c12 : Option D} (g0 : Goods xs0) (gD : Goods Ds) (l : ts.length ≤ 12) (hz : ∀ t ∈ ts, JobZ t) (b0 : 0 ≤ b) (b1 : b ≤ 500) :
    (m_law_10 (sq ns ts x (.str (txt (.tup (jobsD ts)))) y z c8 c9 c10 c11 c12) (HH ns' a b c xs0 Ds)).en (fun _ _ => False) (fun _ _ => False) (fun _ _ => False) (fun d _ => d = .bl true) := by
  unfold m_law_10
  simp
  refine pullH g0 gD (by decide) (by decide) b0 (by omega) fun v a2 c2 p2 q2 => ?_
  try simp
  have t := tidyHH (ns' := ns') (a := a2) (b := b + 1) (c := c2) g0 gD
  have hl1 : ts.length ≤ 1000 := by omega
  rw [nx, m_law_11]
  simp
  rw [later_eq t hl1, en_ok]
  have ek1 : kPick [(0, true)] [D.tup (jobsD ts)] [D.int 1] [D.int v] = [D.tup (jobsD ts), D.int v] := rfl
  have ek2 : kPick [(1, true), (0, true)] [] [D.int 1] [D.int v, D.tup (jobsD ts)] = [D.tup (jobsD ts), D.int v] := rfl
  simp
  rw [ek1, later_eq t hl1, en_ok]
  refine ⟨rfl, ?_⟩
  simp
  rw [ek2, later_eq t hl1, en_ok]
  refine ⟨rfl, ?_⟩
  simp
  rw [later_eq t hl1, en_ok]
  simp [sizeLine]
  rw [nx, m_law_12]
  simp
  have r4 : ∀ {h : MH} {Q : D → MH → Prop}, (bRepr [D.lst [D.tup (jobsD (laterL ts v)), D.tup (jobsD (laterL ts v)), D.tup (jobsD (laterL ts v)), D.tup (jobsD (laterL ts 1))]] h).en Q = Q (.str (txt (D.lst [D.tup (jobsD (laterL ts v)), D.tup (jobsD (laterL ts v)), D.tup (jobsD (laterL ts v)), D.tup (jobsD (laterL ts 1))]))) h := fun {h Q} => by
    have e1 := later_plain hz p2 (by omega : v < 1000)
    have e2 := later_plain (m := 1) hz (by decide) (by decide)
    have d1 := jobs_deep (ts := laterL ts v)
    have d2 := jobs_deep (ts := laterL ts 1)
    refine o_repr ?_ ?_ ?_
    · simp [D.plain, plains, e1, e2]
    · simp only [D.wt, wts, jobs_wt, later_len, sizeLine]
      omega
    · simp only [D.deep, deeps]
      omega
  rw [r4]
  simp
  rw [wlater_eq t hl1, en_ok]
  simp [sizeLine]
  have e3 : ∀ {h : MH} {Q : D → MH → Prop}, (opRep (.lst [D.tup (jobsD (laterL ts v))]) (.int 3) h).en Q = Q (.lst [D.tup (jobsD (laterL ts v)), D.tup (jobsD (laterL ts v)), D.tup (jobsD (laterL ts v))]) h := fun {h Q} => by
    have : opRep (.lst [D.tup (jobsD (laterL ts v))]) (.int 3) h = .ok (.lst [D.tup (jobsD (laterL ts v)), D.tup (jobsD (laterL ts v)), D.tup (jobsD (laterL ts v))]) h := by
      unfold opRep
      simp [sizeLine, List.replicate, lstOf]
    rw [this]
    exact en_ok
  rw [e3]
  simp
  rw [wlater_eq t hl1, en_ok]
  simp [sizeLine]
  rw [add_lst (by simp [sizeLine])]
  simp
  rw [r4]
  simp
  rw [nx, m_law_13]
  simp
  have ek3 : kPick [(0, true)] [D.tup (jobsD ts)] [D.int 1] [D.int 0] = [D.tup (jobsD ts), D.int 0] := rfl
  rw [ek3, later_eq t hl1, en_ok]
  refine ⟨rfl, ?_⟩
  rw [later_zero, ev_nil, repr_jobs l hz]
  simp
  rw [repr_jobs l hz]
  simp
theorem law_tells : Tells f_law := by
  refine law_start fun ns ns' ts a b c l z b0 b1 => ?_
  have go : ∀ x, (m_law_3 [some (.scr ns), some (.ref 0), some (.tup (jobsD ts)), x, none, none, none, none, none, none, none, none, none, none, none] (h1.set 0 (FO ns' a b c))).en (fun _ _ => False) (fun _ _ => False) (fun _ _ => False) (fun d _ => d = .bl true) :=
    law_things l z b0 b1 fun Ds x xs0 a b c g0 gD lD p0 p1 => law_kinds g0 gD fun y z' => law_spans g0 gD l z p0 p1 fun x y z' c8 c9 c10 c11 c12 a b c q0 q1 => law_end g0 gD l z q0 q1
  exact ⟨go none, go⟩
end Lw
theorem PySem.Challenge.cw_tablebills_k55_jobs_by_kind_holds : PySem.Challenge.rw_tablebills_k55_jobs_by_kind.Holds := by
  exact Lw.ends Lw.law_tells
end
