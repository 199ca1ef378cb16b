import PyProof.Rows.All
import Wide.All
import OpenK.AllK
import Wide.FinOn
import HandS.ForMost
import HandS.Walk
import HandS.Deep
import HandS.Wide
import HandS.Flow
import HandS.Style
import HandS.TupLe
import HandS.Conv
import HandS.IsInst
import KE.KUnpackStar
import PyProof.RulesMatch
import HandS.DictComp
import HandS.Ends
import HandS.EndBits
import KE.SortData
import PyProof.ReprRoads
import HandS.RaiseMore
import PyProof.Rows.ReprShort
import PySem.Challenge.RW_touchcontest_k69_reordered_layouts
set_option Elab.async false
set_option linter.all false
set_option maxRecDepth 100000
set_option maxHeartbeats 4000000
/-! FW1: values as trees (T), what a tree owns of the heap (Own), the ghost state (Ok). -/
namespace VS
open PySem L2

inductive T where
  | hole
  | atom (v : V)
  | tup (ts : List T)
  | lst (o : Bool) (ts : List T)
  | ro (ts : List T)
  | dct (o : Bool) (ks : List Key) (ts : List T)
  | obj (C : Addr) (fs : List Str) (ts : List T)

/-! ### partial heaps -/
def Emp (h : Hp) : Prop := ∀ a, h a = none
def Jn (a b c : Hp) : Prop := ∀ x, (a x = none ∧ c x = b x) ∨ (b x = none ∧ c x = a x)
def Sub (a b : Hp) : Prop := ∀ x o, a x = some o → b x = some o
def Dis (a b : Hp) : Prop := ∀ x, a x = none ∨ b x = none
theorem Sub.refl {a : Hp} : Sub a a := fun _ _ h => h
theorem Sub.trans {a b c : Hp} (h : Sub a b) (k : Sub b c) : Sub a c := fun x o e => k x o (h x o e)
theorem Jn.comm {a b c : Hp} (h : Jn a b c) : Jn b a c := fun x => (h x).symm
theorem Jn.l {a b c : Hp} (h : Jn a b c) : Sub a c := fun x o e => by
  rcases h x with ⟨h1, h2⟩ | ⟨h1, h2⟩
  · rw [h1] at e; cases e
  · rw [h2, e]
theorem Jn.r {a b c : Hp} (h : Jn a b c) : Sub b c := h.comm.l
theorem Jn.none {a b c : Hp} (h : Jn a b c) {x : Addr} : c x = none ↔ a x = none ∧ b x = none := by
  rcases h x with ⟨h1, h2⟩ | ⟨h1, h2⟩ <;> rw [h2] <;> simp [h1]
theorem Jn.dis {a b c : Hp} (h : Jn a b c) : Dis a b := fun x => (h x).elim (fun z => .inl z.1) fun z => .inr z.1
def un (a b : Hp) : Hp := fun x => match a x with | some o => some o | none => b x
theorem jn_un {a b : Hp} (d : Dis a b) : Jn a b (un a b) := fun x => by
  unfold un
  cases e : a x with
  | none => exact .inl ⟨rfl, rfl⟩
  | some o =>
    rcases d x with z | z
    · rw [e] at z; cases z
    · exact .inr ⟨z, rfl⟩
theorem Jn.eq {a b c : Hp} (h : Jn a b c) : c = un a b := funext fun x => by
  unfold un
  rcases h x with ⟨h1, h2⟩ | ⟨h1, h2⟩
  · rw [h1, h2]
  · rw [h2]
    cases e : a x with
    | none => rw [h1]
    | some o => rfl
theorem jn_emp {a b : Hp} (e : Emp a) : Jn a b b := fun x => .inl ⟨e x, rfl⟩
theorem jn_emp' {a b : Hp} (e : Emp b) : Jn a b a := fun x => .inr ⟨e x, rfl⟩
theorem Jn.of_emp {a b c : Hp} (h : Jn a b c) (e : Emp a) : c = b := funext fun x => by
  rcases h x with ⟨_, h2⟩ | ⟨h1, h2⟩
  · exact h2
  · rw [h2, h1, e x]
theorem Jn.assoc {a b ab c abc : Hp} (h : Jn a b ab) (k : Jn ab c abc) : ∃ bc, Jn b c bc ∧ Jn a bc abc := by
  have d : Dis b c := fun x => (k.dis x).elim (fun z => .inl (h.none.mp z).2) .inr
  refine ⟨un b c, jn_un d, fun x => ?_⟩
  rcases k x with ⟨h1, h2⟩ | ⟨h1, h2⟩
  · obtain ⟨z1, z2⟩ := h.none.mp h1
    exact .inl ⟨z1, by rw [h2]; unfold un; rw [z2]⟩
  · rcases h x with ⟨h3, h4⟩ | ⟨h3, h4⟩
    · exact .inl ⟨h3, by rw [h2, h4]; unfold un; rw [h1]; cases b x <;> rfl⟩
    · exact .inr ⟨by unfold un; rw [h3, h1], by rw [h2, h4]⟩
theorem Jn.assoc' {a b c bc abc : Hp} (h : Jn b c bc) (k : Jn a bc abc) : ∃ ab, Jn a b ab ∧ Jn ab c abc := by
  obtain ⟨ba, h1, h2⟩ := h.comm.assoc k.comm
  exact ⟨ba, h1.comm, h2.comm⟩

/-! ### what a tree owns -/
mutual
def Own (K : PySem.W.Frag) (I : Hp) : T → V → Hp → Prop
  | .hole, _, h => Emp h
  | .atom w, v, h => v = w ∧ Emp h
  | .tup ts, v, h => ∃ a vs, v = .ref a ∧ SqT K I a vs ∧ Owns K I ts vs h
  | .lst o ts, v, h => ∃ a vs h1, v = .ref a ∧ Owns K I ts vs h1 ∧ cond o (h1 a = none ∧ h = upd h1 a (.lst vs)) (I a = some (.lst vs) ∧ h = h1)
  | .ro ts, v, h => ∃ a vs, v = .ref a ∧ SqL K I a vs ∧ Owns K I ts vs h
  | .dct o ks ts, v, h => ∃ a vs h1, v = .ref a ∧ ks.length = ts.length ∧ ks.Nodup ∧ Owns K I ts vs h1 ∧ cond o (h1 a = none ∧ h = upd h1 a (.dK (ks.zip vs))) (I a = some (.dK (ks.zip vs)) ∧ h = h1)
  | .obj C fs ts, v, h => ∃ a dx vs h1, v = .ref a ∧ fs.length = ts.length ∧ Owns K I ts vs h1 ∧ h1 a = none ∧ h1 dx = none ∧ dx ≠ a ∧ h = upd (upd h1 dx (.own a)) a (.ins C dx (fs.zip vs))
def Owns (K : PySem.W.Frag) (I : Hp) : List T → List V → Hp → Prop
  | [], [], h => Emp h
  | t :: ts, v :: vs, h => ∃ h1 h2, Jn h1 h2 h ∧ Own K I t v h1 ∧ Owns K I ts vs h2
  | _, _, _ => False
end
mutual
def T.imm : T → Bool
  | .hole => false
  | .atom _ => true
  | .tup ts => T.imms ts
  | .lst o ts => !o && T.imms ts
  | .ro ts => T.imms ts
  | .dct o _ ts => !o && T.imms ts
  | .obj _ _ _ => false
def T.imms : List T → Bool
  | [] => true
  | t :: ts => t.imm && T.imms ts
end
mutual
/-- frozen: lists and dicts are no longer one's own -/
def T.frz : T → T
  | .hole => .hole
  | .atom v => .atom v
  | .tup ts => .tup (T.frzs ts)
  | .lst _ ts => .lst false (T.frzs ts)
  | .ro ts => .ro (T.frzs ts)
  | .dct _ ks ts => .dct false ks (T.frzs ts)
  | .obj C fs ts => .obj C fs ts
def T.frzs : List T → List T
  | [] => []
  | t :: ts => t.frz :: T.frzs ts
end
mutual
/-- what may be frozen -/
def T.cold : T → Bool
  | .hole => true
  | .atom _ => true
  | .tup ts => T.colds ts
  | .lst _ ts => T.colds ts
  | .ro ts => T.colds ts
  | .dct _ _ ts => T.colds ts
  | .obj _ _ _ => false
def T.colds : List T → Bool
  | [] => true
  | t :: ts => t.cold && T.colds ts
end

section
variable {K : PySem.W.Frag} {I I' : Hp}
theorem sqT_mono {a : Addr} {vs : List V} (s : Sub I I') (h : SqT K I a vs) : SqT K I' a vs := by
  rcases h with (h | ⟨o, h⟩) | h
  · exact .inl (.inl (s _ _ h))
  · exact .inl (.inr ⟨o, s _ _ h⟩)
  · exact .inr h
theorem sqL_mono {a : Addr} {vs : List V} (s : Sub I I') (h : SqL K I a vs) : SqL K I' a vs := by
  rcases h with (h | ⟨o, h⟩) | h
  · exact .inl (.inl (s _ _ h))
  · exact .inl (.inr ⟨o, s _ _ h⟩)
  · exact .inr h
mutual
theorem own_mono (s : Sub I I') : ∀ {t : T} {v : V} {h : Hp}, Own K I t v h → Own K I' t v h
  | .hole, _, _, q => q
  | .atom _, _, _, q => q
  | .tup ts, v, h, q => by
    simp only [Own] at q ⊢
    obtain ⟨a, vs, e, x, y⟩ := q
    exact ⟨a, vs, e, sqT_mono s x, owns_mono s y⟩
  | .lst o ts, v, h, q => by
    simp only [Own] at q ⊢
    obtain ⟨a, vs, h1, e, y, z⟩ := q
    refine ⟨a, vs, h1, e, owns_mono s y, ?_⟩
    cases o with
    | true => exact z
    | false => exact ⟨s _ _ z.1, z.2⟩
  | .ro ts, v, h, q => by
    simp only [Own] at q ⊢
    obtain ⟨a, vs, e, x, y⟩ := q
    exact ⟨a, vs, e, sqL_mono s x, owns_mono s y⟩
  | .dct o ks ts, v, h, q => by
    simp only [Own] at q ⊢
    obtain ⟨a, vs, h1, e, l, n, y, z⟩ := q
    refine ⟨a, vs, h1, e, l, n, owns_mono s y, ?_⟩
    cases o with
    | true => exact z
    | false => exact ⟨s _ _ z.1, z.2⟩
  | .obj C fs ts, v, h, q => by
    simp only [Own] at q ⊢
    obtain ⟨a, dx, vs, h1, e, l, y, z⟩ := q
    exact ⟨a, dx, vs, h1, e, l, owns_mono s y, z⟩
theorem owns_mono (s : Sub I I') : ∀ {ts : List T} {vs : List V} {h : Hp}, Owns K I ts vs h → Owns K I' ts vs h
  | [], [], _, q => by simp only [Owns] at q ⊢; exact q
  | [], _ :: _, _, q => by simp only [Owns] at q
  | _ :: _, [], _, q => by simp only [Owns] at q
  | t :: ts, v :: vs, h, q => by
    simp only [Owns] at q ⊢
    obtain ⟨h1, h2, j, x, y⟩ := q
    exact ⟨h1, h2, j, own_mono s x, owns_mono s y⟩
end
theorem owns_len : ∀ {ts : List T} {vs : List V} {h : Hp}, Owns K I ts vs h → ts.length = vs.length
  | [], [], _, _ => rfl
  | [], _ :: _, _, q => by simp only [Owns] at q
  | _ :: _, [], _, q => by simp only [Owns] at q
  | t :: ts, v :: vs, h, q => by
    simp only [Owns] at q
    obtain ⟨h1, h2, j, x, y⟩ := q
    simp [owns_len y]
mutual
theorem own_imm : ∀ {t : T} {v : V} {h : Hp}, t.imm = true → Own K I t v h → Emp h
  | .hole, _, _, i, _ => by simp [T.imm] at i
  | .atom _, _, _, _, q => by simp only [Own] at q; exact q.2
  | .tup ts, v, h, i, q => by
    simp only [Own] at q
    obtain ⟨a, vs, e, x, y⟩ := q
    exact owns_imm (by simpa [T.imm] using i) y
  | .lst o ts, v, h, i, q => by
    simp only [Own] at q
    obtain ⟨a, vs, h1, e, y, z⟩ := q
    simp only [T.imm, Bool.and_eq_true] at i
    cases o with
    | true => simp at i
    | false => obtain ⟨_, rfl⟩ := z; exact owns_imm i.2 y
  | .ro ts, v, h, i, q => by
    simp only [Own] at q
    obtain ⟨a, vs, e, x, y⟩ := q
    exact owns_imm (by simpa [T.imm] using i) y
  | .dct o ks ts, v, h, i, q => by
    simp only [Own] at q
    obtain ⟨a, vs, h1, e, l, n, y, z⟩ := q
    simp only [T.imm, Bool.and_eq_true] at i
    cases o with
    | true => simp at i
    | false => obtain ⟨_, rfl⟩ := z; exact owns_imm i.2 y
  | .obj C fs ts, v, h, i, q => by simp [T.imm] at i
theorem owns_imm : ∀ {ts : List T} {vs : List V} {h : Hp}, T.imms ts = true → Owns K I ts vs h → Emp h
  | [], [], _, _, q => by simp only [Owns] at q; exact q
  | [], _ :: _, _, _, q => by simp only [Owns] at q
  | _ :: _, [], _, _, q => by simp only [Owns] at q
  | t :: ts, v :: vs, h, i, q => by
    simp only [Owns] at q
    obtain ⟨h1, h2, j, x, y⟩ := q
    simp only [T.imms, Bool.and_eq_true] at i
    rw [j.of_emp (own_imm i.1 x)]
    exact owns_imm i.2 y
end
mutual
/-- freezing: what it owned goes over to I -/
theorem own_frz (s : Sub I I') : ∀ {t : T} {v : V} {h : Hp}, t.cold = true → Own K I t v h → Sub h I' → ∃ h', Emp h' ∧ Own K I' t.frz v h'
  | .hole, _, h, _, q, _ => ⟨h, by simpa only [Own] using q, by simpa only [Own, T.frz] using q⟩
  | .atom w, _, h, _, q, _ => by
    simp only [Own, T.frz] at q ⊢
    exact ⟨h, q.2, q⟩
  | .tup ts, v, h, c, q, k => by
    simp only [Own, T.frz] at q ⊢
    obtain ⟨a, vs, e, x, y⟩ := q
    obtain ⟨h', e', y'⟩ := owns_frz s (by simpa [T.cold] using c) y k
    exact ⟨h', e', a, vs, e, sqT_mono s x, y'⟩
  | .lst o ts, v, h, c, q, k => by
    simp only [Own, T.frz] at q ⊢
    obtain ⟨a, vs, h1, e, y, z⟩ := q
    have c' : T.colds ts = true := by simpa [T.cold] using c
    cases o with
    | true =>
      obtain ⟨z1, rfl⟩ := z
      obtain ⟨h', e', y'⟩ := owns_frz s c' y fun x o ex => k x o (by rw [upd_ne (ne_of_none ex z1)]; exact ex)
      exact ⟨h', e', a, vs, h', e, y', k a _ upd_same, rfl⟩
    | false =>
      obtain ⟨z1, rfl⟩ := z
      obtain ⟨h', e', y'⟩ := owns_frz s c' y k
      exact ⟨h', e', a, vs, h', e, y', s _ _ z1, rfl⟩
  | .ro ts, v, h, c, q, k => by
    simp only [Own, T.frz] at q ⊢
    obtain ⟨a, vs, e, x, y⟩ := q
    obtain ⟨h', e', y'⟩ := owns_frz s (by simpa [T.cold] using c) y k
    exact ⟨h', e', a, vs, e, sqL_mono s x, y'⟩
  | .dct o ks ts, v, h, c, q, k => by
    simp only [Own, T.frz] at q ⊢
    obtain ⟨a, vs, h1, e, l, n, y, z⟩ := q
    have c' : T.colds ts = true := by simpa [T.cold] using c
    have lf : ks.length = (T.frzs ts).length := by rw [l]; exact (frzs_len ts).symm
    cases o with
    | true =>
      obtain ⟨z1, rfl⟩ := z
      obtain ⟨h', e', y'⟩ := owns_frz s c' y fun x o ex => k x o (by rw [upd_ne (ne_of_none ex z1)]; exact ex)
      exact ⟨h', e', a, vs, h', e, lf, n, y', k a _ upd_same, rfl⟩
    | false =>
      obtain ⟨z1, rfl⟩ := z
      obtain ⟨h', e', y'⟩ := owns_frz s c' y k
      exact ⟨h', e', a, vs, h', e, lf, n, y', s _ _ z1, rfl⟩
  | .obj C fs ts, v, h, c, q, k => by simp [T.cold] at c
theorem owns_frz (s : Sub I I') : ∀ {ts : List T} {vs : List V} {h : Hp}, T.colds ts = true → Owns K I ts vs h → Sub h I' → ∃ h', Emp h' ∧ Owns K I' (T.frzs ts) vs h'
  | [], [], h, _, q, _ => by simp only [Owns, T.frzs] at q ⊢; exact ⟨h, q, q⟩
  | [], _ :: _, _, _, q, _ => by simp only [Owns] at q
  | _ :: _, [], _, _, q, _ => by simp only [Owns] at q
  | t :: ts, v :: vs, h, c, q, k => by
    simp only [Owns, T.frzs] at q ⊢
    obtain ⟨h1, h2, j, x, y⟩ := q
    simp only [T.colds, Bool.and_eq_true] at c
    obtain ⟨g1, e1, x'⟩ := own_frz s c.1 x (j.l.trans k)
    obtain ⟨g2, e2, y'⟩ := owns_frz s c.2 y (j.r.trans k)
    exact ⟨g2, e2, g1, g2, jn_emp e1, x', y'⟩
theorem frzs_len : ∀ ts : List T, (T.frzs ts).length = ts.length
  | [] => rfl
  | t :: ts => by simp only [T.frzs, List.length_cons, frzs_len ts]
end
theorem owns_app : ∀ {xs ys : List T} {vs ws : List V} {h : Hp}, xs.length = vs.length → (Owns K I (xs ++ ys) (vs ++ ws) h ↔ ∃ h1 h2, Jn h1 h2 h ∧ Owns K I xs vs h1 ∧ Owns K I ys ws h2)
  | [], ys, [], ws, h, _ => by
    simp only [List.nil_append, Owns]
    exact ⟨fun q => ⟨fun _ => none, h, jn_emp fun _ => rfl, fun _ => rfl, q⟩, fun ⟨h1, h2, j, e, q⟩ => by rw [j.of_emp e]; exact q⟩
  | x :: xs, ys, v :: vs, ws, h, e => by
    simp only [List.cons_append, Owns]
    have ih := fun h => @owns_app xs ys vs ws h (by simpa using e)
    constructor
    · rintro ⟨h1, h2, j, a, b⟩
      obtain ⟨h3, h4, j2, c, d⟩ := (ih h2).mp b
      obtain ⟨h5, j3, j4⟩ := j2.assoc' j
      exact ⟨h5, h4, j4, ⟨h1, h3, j3, a, c⟩, d⟩
    · rintro ⟨h1, h2, j, ⟨h3, h4, j2, a, b⟩, c⟩
      obtain ⟨h5, j3, j4⟩ := j2.assoc j
      exact ⟨h3, h5, j4, a, (ih h5).mpr ⟨h4, h2, j3, b, c⟩⟩
end
end VS
/-! FW2: the ghost state Ok and its structural rules. -/
namespace VS
open PySem L2

/-- the written part, and the entry: what stood still, what was one's own, all -/
structure G where
  I0 : Hp
  h0 : Hp
  H0 : Hp
  pins : List (Nat × V)
structure OkW (K : PySem.W.Frag) (g : G) (I h H : Hp) (ts : List T) (vs : List V) : Prop where
  own : Owns K I ts vs h
  dis : Dis I h
  si : Sub I H
  sh : Sub h H
  ge : Sub g.I0 I
  keep : ∀ b o, g.H0 b = some o → g.h0 b = none → H b = some o
  dom : ∀ b, (I b ≠ none ∨ h b ≠ none) → g.I0 b ≠ none ∨ g.h0 b ≠ none ∨ g.H0 b = none
def Ok (K : PySem.W.Frag) (g : G) (H : Hp) (ts : List T) (vs : List V) : Prop := ∃ I h, OkW K g I h H ts vs

/-- what is told of some values tells something of others -/
def Ent (ts : List T) (vs : List V) (ts' : List T) (vs' : List V) : Prop := ∀ K I h, Owns K I ts vs h → ∃ h', Sub h' h ∧ Owns K I ts' vs' h'
section
variable {K : PySem.W.Frag} {g : G} {H H' : Hp} {ts ts' xs ys zs : List T} {vs vs' us ws : List V} {t u : T} {v w : V} {a p : Addr}
theorem Ok.len (o : Ok K g H ts vs) : ts.length = vs.length := by
  obtain ⟨I, h, o⟩ := o
  exact owns_len o.own
theorem OkW.shrink {I h h' : Hp} (o : OkW K g I h H ts vs) (s : Sub h' h) (q : Owns K I ts' vs' h') : OkW K g I h' H ts' vs' := by
  have nn : ∀ {x}, h x = none → h' x = none := fun {x} z => by
    cases e : h' x with
    | none => rfl
    | some q => rw [s x q e] at z; cases z
  exact ⟨q, fun x => (o.dis x).imp id nn, o.si, s.trans o.sh, o.ge, o.keep, fun b z => o.dom b (z.imp id fun z e => z (nn e))⟩
theorem Ok.ent (o : Ok K g H ts vs) (e : Ent ts vs ts' vs') : Ok K g H ts' vs' := by
  obtain ⟨I, h, o⟩ := o
  obtain ⟨h', s, q⟩ := e _ _ _ o.own
  exact ⟨I, h', o.shrink s q⟩
theorem Ent.refl : Ent ts vs ts vs := fun _ _ h q => ⟨h, Sub.refl, q⟩
theorem Ent.trans {ts'' : List T} {vs'' : List V} (a : Ent ts vs ts' vs') (b : Ent ts' vs' ts'' vs'') : Ent ts vs ts'' vs'' := fun K I h q => by
  obtain ⟨h1, s1, q1⟩ := a K I h q
  obtain ⟨h2, s2, q2⟩ := b K I h1 q1
  exact ⟨h2, s2.trans s1, q2⟩
theorem sub_jn {a b c a' b' : Hp} (j : Jn a b c) (ha : Sub a' a) (hb : Sub b' b) : ∃ c', Jn a' b' c' ∧ Sub c' c := by
  have d : Dis a' b' := fun x => by
    rcases j.dis x with z | z
    · left
      cases e : a' x with
      | none => rfl
      | some q => rw [ha x q e] at z; cases z
    · right
      cases e : b' x with
      | none => rfl
      | some q => rw [hb x q e] at z; cases z
  refine ⟨un a' b', jn_un d, fun x o e => ?_⟩
  unfold un at e
  cases e1 : a' x with
  | none => rw [e1] at e; exact j.r x o (hb x o e)
  | some q => rw [e1] at e; cases e; exact j.l x _ (ha x _ e1)
theorem Ent.app (a : Ent xs us ts' vs') (l1 : xs.length = us.length) : Ent (xs ++ ys) (us ++ ws) (ts' ++ ys) (vs' ++ ws) := fun K I h q => by
  obtain ⟨h1, h2, j, q1, q2⟩ := (owns_app l1).mp q
  obtain ⟨h3, s3, q3⟩ := a K I h1 q1
  obtain ⟨c', j', s'⟩ := sub_jn j s3 Sub.refl
  exact ⟨c', s', (owns_app (owns_len q3)).mpr ⟨h3, h2, j', q3, q2⟩⟩
theorem Ent.cons (a : Ent ts vs ts' vs') : Ent (t :: ts) (v :: vs) (t :: ts') (v :: vs') := fun K I h q => by
  simp only [Owns] at q
  obtain ⟨h1, h2, j, q1, q2⟩ := q
  obtain ⟨h3, s3, q3⟩ := a K I h2 q2
  obtain ⟨c', j', s'⟩ := sub_jn j Sub.refl s3
  exact ⟨c', s', by simp only [Owns]; exact ⟨h1, h3, j', q1, q3⟩⟩
theorem Ent.apps (a : Ent ts vs ts' vs') : ∀ {xs : List T} {us : List V}, xs.length = us.length → Ent (xs ++ ts) (us ++ vs) (xs ++ ts') (us ++ vs')
  | [], [], _ => a
  | _ :: _, _ :: _, e => Ent.cons (Ent.apps a (by simpa using e))
theorem Ent.rot (l1 : xs.length = us.length) (l2 : ys.length = ws.length) : Ent (xs ++ (ys ++ zs)) (us ++ (ws ++ vs)) (ys ++ (xs ++ zs)) (ws ++ (us ++ vs)) := fun K I h q => by
  obtain ⟨h1, h2, j, q1, q2⟩ := (owns_app l1).mp q
  obtain ⟨h3, h4, j2, q3, q4⟩ := (owns_app l2).mp q2
  obtain ⟨h5, j3, j4⟩ := j2.assoc' j
  obtain ⟨h6, j5, j6⟩ := j3.comm.assoc j4
  exact ⟨h, Sub.refl, (owns_app l2).mpr ⟨h3, h6, j6, q3, (owns_app l1).mpr ⟨h1, h4, j5, q1, q4⟩⟩⟩
theorem Ent.drop : Ent (t :: ts) (v :: vs) ts vs := fun K I h q => by
  simp only [Owns] at q
  obtain ⟨h1, h2, j, q1, q2⟩ := q
  exact ⟨h2, j.r, q2⟩
theorem Ent.swap : Ent (t :: u :: ts) (v :: w :: vs) (u :: t :: ts) (w :: v :: vs) := Ent.rot (xs := [t]) (ys := [u]) (us := [v]) (ws := [w]) rfl rfl
theorem Ent.dup (i : t.imm = true) : Ent (t :: ts) (v :: vs) (t :: t :: ts) (v :: v :: vs) := fun K I h q => by
  simp only [Owns] at q ⊢
  obtain ⟨h1, h2, j, q1, q2⟩ := q
  have e := own_imm i q1
  exact ⟨h, Sub.refl, h1, h, jn_emp e, q1, h1, h2, j, q1, q2⟩
theorem Ent.atom : Ent ts vs (.atom w :: ts) (w :: vs) := fun K I h q => by
  refine ⟨h, Sub.refl, ?_⟩
  simp only [Owns, Own, true_and]
  exact ⟨fun _ => none, h, jn_emp fun _ => rfl, fun _ => rfl, q⟩
theorem Ent.hole : Ent ts vs (.hole :: ts) (w :: vs) := fun K I h q => by
  refine ⟨h, Sub.refl, ?_⟩
  simp only [Owns, Own]
  exact ⟨fun _ => none, h, jn_emp fun _ => rfl, fun _ => rfl, q⟩
theorem Ok.atom_eq (o : Ok K g H (.atom w :: ts) (v :: vs)) : v = w := by
  obtain ⟨I, h, o⟩ := o
  have q := o.own
  simp only [Owns, Own] at q
  obtain ⟨h1, h2, j, ⟨e, _⟩, _⟩ := q
  exact e
theorem Ok.atom_push (o : Ok K g H ts vs) : Ok K g H (.atom w :: ts) (w :: vs) := o.ent Ent.atom
theorem Ok.drop (o : Ok K g H (t :: ts) (v :: vs)) : Ok K g H ts vs := o.ent Ent.drop
theorem Ok.swap (o : Ok K g H (t :: u :: ts) (v :: w :: vs)) : Ok K g H (u :: t :: ts) (w :: v :: vs) := o.ent Ent.swap
theorem Ok.dup (o : Ok K g H (t :: ts) (v :: vs)) (i : t.imm = true) : Ok K g H (t :: t :: ts) (v :: v :: vs) := o.ent (Ent.dup i)

/-- frozen -/
theorem Ok.frz (o : Ok K g H (t :: ts) (v :: vs)) (c : t.cold = true) : Ok K g H (t.frz :: ts) (v :: vs) := by
  obtain ⟨I, h, o⟩ := o
  have q := o.own
  simp only [Owns] at q
  obtain ⟨h1, h2, j, q1, q2⟩ := q
  have d1 : Dis I h1 := fun x => (o.dis x).imp id fun z => (j.none.mp z).1
  have J := jn_un d1
  obtain ⟨h', e', q'⟩ := own_frz J.l c q1 J.r
  refine ⟨un I h1, h2, ?_, fun x => ?_, fun x u e => ?_, j.r.trans o.sh, o.ge.trans J.l, o.keep, fun b z => ?_⟩
  · simp only [Owns]
    exact ⟨h', h2, jn_emp e', q', owns_mono J.l q2⟩
  · rcases o.dis x with z | z
    · rcases j.dis x with y | y
      · exact .inl (J.none.mpr ⟨z, y⟩)
      · exact .inr y
    · exact .inr (j.none.mp z).2
  · rcases J x with ⟨_, z⟩ | ⟨_, z⟩
    · exact o.sh _ _ (j.l _ _ (z ▸ e))
    · exact o.si _ _ (z ▸ e)
  · refine o.dom b ?_
    rcases z with z | z
    · by_cases y : I b = none
      · right
        intro e
        exact z (J.none.mpr ⟨y, (j.none.mp e).1⟩)
      · exact .inl y
    · exact .inr fun e => z (j.none.mp e).2

/-! ### new things -/
theorem OkW.new {I h : Hp} (o : OkW K g I h H ts vs) (n : H p = none) : I p = none ∧ h p = none ∧ (g.I0 p ≠ none ∨ g.h0 p ≠ none ∨ g.H0 p = none) := by
  refine ⟨?_, ?_, ?_⟩
  · cases e : I p with
    | none => rfl
    | some u => rw [o.si _ _ e] at n; cases n
  · cases e : h p with
    | none => rfl
    | some u => rw [o.sh _ _ e] at n; cases n
  · by_cases e : g.h0 p = none
    · right; right
      cases e1 : g.H0 p with
      | none => rfl
      | some u => rw [o.keep _ _ e1 e] at n; cases n
    · exact .inr (.inl e)
theorem sub_upd {A B : Hp} {p : Addr} {o : HO} (s : Sub A B) (n : A p = none) : Sub A (upd B p o) := fun x u e => by
  rw [upd_ne (ne_of_none e n)]; exact s x u e
theorem sub_upd2 {A B : Hp} {p : Addr} {o : HO} (s : Sub A B) : Sub (upd A p o) (upd B p o) := fun x u e => by
  unfold upd at e ⊢
  split
  · rename_i z; rw [if_pos z] at e; exact e
  · rename_i z; rw [if_neg z] at e; exact s x u e
theorem keep_upd {I h : Hp} {o' : HO} (o : OkW K g I h H ts vs) (n : H p = none) : ∀ b u, g.H0 b = some u → g.h0 b = none → upd H p o' b = some u := fun b u e z => by
  have q := o.keep b u e z
  rw [upd_ne (ne_of_none q n)]; exact q
/-- a new tuple of the first values -/
theorem Ok.new_tup (o : Ok K g H (xs ++ ts) (us ++ vs)) (l : xs.length = us.length) (n : H p = none) : Ok K g (upd H p (.tup us)) (.tup xs :: ts) (.ref p :: vs) := by
  obtain ⟨I, h, o⟩ := o
  obtain ⟨n1, n2, n3⟩ := o.new n
  obtain ⟨h1, h2, j, q1, q2⟩ := (owns_app l).mp o.own
  have s : Sub I (upd I p (.tup us)) := sub_upd Sub.refl n1
  refine ⟨upd I p (.tup us), h, ?_, fun x => ?_, sub_upd2 o.si, sub_upd o.sh n2, o.ge.trans s, keep_upd o n, fun b z => ?_⟩
  · simp only [Owns, Own]
    exact ⟨h1, h2, j, ⟨p, us, rfl, .inl (.inl upd_same), owns_mono s q1⟩, owns_mono s q2⟩
  · by_cases e : x = p
    · subst e; exact .inr n2
    · rw [upd_ne e]; exact o.dis x
  · by_cases e : b = p
    · subst e; exact n3
    · rw [upd_ne e] at z; exact o.dom b z
/-- a new list of the first values -/
theorem Ok.new_lst (o : Ok K g H (xs ++ ts) (us ++ vs)) (l : xs.length = us.length) (n : H p = none) : Ok K g (upd H p (.lst us)) (.lst true xs :: ts) (.ref p :: vs) := by
  obtain ⟨I, h, o⟩ := o
  obtain ⟨n1, n2, n3⟩ := o.new n
  obtain ⟨h1, h2, j, q1, q2⟩ := (owns_app l).mp o.own
  obtain ⟨m1, m2⟩ := j.none.mp n2
  refine ⟨I, upd h p (.lst us), ?_, fun x => ?_, sub_upd o.si n1, sub_upd2 o.sh, o.ge, keep_upd o n, fun b z => ?_⟩
  · simp only [Owns, Own]
    refine ⟨upd h1 p (.lst us), h2, fun x => ?_, ⟨p, us, h1, rfl, q1, m1, rfl⟩, q2⟩
    by_cases e : x = p
    · subst e; exact .inr ⟨m2, by rw [upd_same, upd_same]⟩
    · rw [upd_ne e, upd_ne e]; exact j x
  · by_cases e : x = p
    · subst e; exact .inl n1
    · rw [upd_ne e]; exact o.dis x
  · by_cases e : b = p
    · subst e; exact n3
    · rw [upd_ne e] at z; exact o.dom b z
theorem Ok.new_dct {ks : List Key} (o : Ok K g H (xs ++ ts) (us ++ vs)) (l : xs.length = us.length) (lk : ks.length = xs.length) (nd : ks.Nodup) (n : H p = none) : Ok K g (upd H p (.dK (ks.zip us))) (.dct true ks xs :: ts) (.ref p :: vs) := by
  obtain ⟨I, h, o⟩ := o
  obtain ⟨n1, n2, n3⟩ := o.new n
  obtain ⟨h1, h2, j, q1, q2⟩ := (owns_app l).mp o.own
  obtain ⟨m1, m2⟩ := j.none.mp n2
  refine ⟨I, upd h p (.dK (ks.zip us)), ?_, fun x => ?_, sub_upd o.si n1, sub_upd2 o.sh, o.ge, keep_upd o n, fun b z => ?_⟩
  · simp only [Owns, Own]
    refine ⟨upd h1 p (.dK (ks.zip us)), h2, fun x => ?_, ⟨p, us, h1, rfl, lk, nd, q1, m1, rfl⟩, q2⟩
    by_cases e : x = p
    · subst e; exact .inr ⟨m2, by rw [upd_same, upd_same]⟩
    · rw [upd_ne e, upd_ne e]; exact j x
  · by_cases e : x = p
    · subst e; exact .inl n1
    · rw [upd_ne e]; exact o.dis x
  · by_cases e : b = p
    · subst e; exact n3
    · rw [upd_ne e] at z; exact o.dom b z

/-! ### opened -/
theorem Ok.tup_open (o : Ok K g H (.tup xs :: ts) (v :: vs)) : ∃ a us, v = .ref a ∧ xs.length = us.length ∧ SqT K H a us ∧ Ok K g H (xs ++ ts) (us ++ vs) := by
  obtain ⟨I, h, o⟩ := o
  have q := o.own
  simp only [Owns, Own] at q
  obtain ⟨h1, h2, j, ⟨a, us, e, x, y⟩, z⟩ := q
  exact ⟨a, us, e, owns_len y, sqT_mono o.si x, I, h, (owns_app (owns_len y)).mpr ⟨h1, h2, j, y, z⟩, o.dis, o.si, o.sh, o.ge, o.keep, o.dom⟩
theorem sub_of_upd {h1 : Hp} {a : Addr} {o : HO} (n : h1 a = none) : Sub h1 (upd h1 a o) := sub_upd Sub.refl n
/-- a list, one's own or not: what it holds; its items may be taken out if it is dropped -/
theorem Ok.lst_open {b : Bool} (o : Ok K g H (.lst b xs :: ts) (v :: vs)) : ∃ a us, v = .ref a ∧ xs.length = us.length ∧ H a = some (.lst us) ∧ Ok K g H (xs ++ ts) (us ++ vs) := by
  obtain ⟨I, h, o⟩ := o
  have q := o.own
  simp only [Owns, Own] at q
  obtain ⟨h1, h2, j, ⟨a, us, h3, e, y, x⟩, z⟩ := q
  cases b with
  | true =>
    obtain ⟨x1, rfl⟩ := x
    have ha : H a = some (.lst us) := o.sh _ _ (j.l _ _ upd_same)
    obtain ⟨c', jc, sc⟩ := sub_jn j (sub_of_upd x1) Sub.refl
    exact ⟨a, us, e, owns_len y, ha, ⟨I, c', o.shrink sc ((owns_app (owns_len y)).mpr ⟨h3, h2, jc, y, z⟩)⟩⟩
  | false =>
    obtain ⟨x1, rfl⟩ := x
    exact ⟨a, us, e, owns_len y, o.si _ _ x1, ⟨I, h, (owns_app (owns_len y)).mpr ⟨h1, h2, j, y, z⟩, o.dis, o.si, o.sh, o.ge, o.keep, o.dom⟩⟩
theorem Ok.ro_open (o : Ok K g H (.ro xs :: ts) (v :: vs)) : ∃ a us, v = .ref a ∧ xs.length = us.length ∧ SqL K H a us ∧ Ok K g H (xs ++ ts) (us ++ vs) := by
  obtain ⟨I, h, o⟩ := o
  have q := o.own
  simp only [Owns, Own] at q
  obtain ⟨h1, h2, j, ⟨a, us, e, x, y⟩, z⟩ := q
  exact ⟨a, us, e, owns_len y, sqL_mono o.si x, I, h, (owns_app (owns_len y)).mpr ⟨h1, h2, j, y, z⟩, o.dis, o.si, o.sh, o.ge, o.keep, o.dom⟩
theorem OkW.own_ne {I h : Hp} (o : OkW K g I h H ts vs) (e : h a ≠ none) : I a = none ∧ ∀ b u, g.H0 b = some u → g.h0 b = none → b ≠ a := by
  have n : I a = none := (o.dis a).elim id fun z => absurd z e
  refine ⟨n, fun b u e1 e2 e3 => ?_⟩
  subst e3
  rcases o.dom b (.inr e) with z | z | z
  · apply z
    cases q : g.I0 b with
    | none => rfl
    | some u => rw [o.ge _ _ q] at n; cases n
  · exact z e2
  · rw [z] at e1; cases e1
/-- one's own list is changed -/
theorem Ok.lst_mod (o : Ok K g H (.lst true xs :: ts) (v :: ws)) : ∃ a vs, v = .ref a ∧ xs.length = vs.length ∧ H a = some (.lst vs) ∧
    ∀ xs' vs' ts' ws', Ent (xs ++ ts) (vs ++ ws) (xs' ++ ts') (vs' ++ ws') → xs'.length = vs'.length → Ok K g (upd H a (.lst vs')) (.lst true xs' :: ts') (v :: ws') := by
  obtain ⟨I, h, o⟩ := o
  have q := o.own
  simp only [Owns, Own] at q
  obtain ⟨h1, h2, j, ⟨a, vs, h3, e, y, x1, rfl⟩, z⟩ := q
  have ha : h a = some (.lst vs) := j.l _ _ upd_same
  obtain ⟨c, jc, sc⟩ := sub_jn j (sub_of_upd x1) Sub.refl
  have n2 : h2 a = none := by
    rcases j.dis a with r | r
    · rw [upd_same] at r; cases r
    · exact r
  have ca : c a = none := jc.none.mpr ⟨x1, n2⟩
  obtain ⟨nI, nk⟩ := o.own_ne (a := a) (by rw [ha]; simp)
  refine ⟨a, vs, e, owns_len y, o.sh _ _ ha, fun xs' vs' ts' ws' en l => ?_⟩
  obtain ⟨c', sc', q'⟩ := en _ I c ((owns_app (owns_len y)).mpr ⟨h3, h2, jc, y, z⟩)
  obtain ⟨h5, h6, j', q5, q6⟩ := (owns_app l).mp q'
  have ca' : c' a = none := by
    cases e : c' a with
    | none => rfl
    | some u => rw [sc' _ _ e] at ca; cases ca
  obtain ⟨m5, m6⟩ := j'.none.mp ca'
  refine ⟨I, upd c' a (.lst vs'), ?_, fun x => ?_, sub_upd o.si nI, sub_upd2 (sc'.trans (sc.trans o.sh)), o.ge, fun b u e1 e2 => ?_, fun b r => ?_⟩
  · simp only [Owns, Own]
    refine ⟨upd h5 a (.lst vs'), h6, fun x => ?_, ⟨a, vs', h5, e, q5, m5, rfl⟩, q6⟩
    by_cases e : x = a
    · subst e; exact .inr ⟨m6, by rw [upd_same, upd_same]⟩
    · rw [upd_ne e, upd_ne e]; exact j' x
  · by_cases e : x = a
    · subst e; exact .inl nI
    · rw [upd_ne e]
      rcases o.dis x with r | r
      · exact .inl r
      · right
        cases e2 : c' x with
        | none => rfl
        | some u => rw [sc _ _ (sc' _ _ e2)] at r; cases r
  · rw [upd_ne (nk b u e1 e2)]; exact o.keep b u e1 e2
  · by_cases e : b = a
    · subst e; exact o.dom b (.inr (by rw [ha]; simp))
    · rw [upd_ne e] at r
      refine o.dom b (r.imp id fun r z => r ?_)
      cases e2 : c' b with
      | none => rfl
      | some u => rw [sc _ _ (sc' _ _ e2)] at z; cases z
/-- one's own dict is changed -/
theorem Ok.dct_mod {ks : List Key} (o : Ok K g H (.dct true ks xs :: ts) (v :: ws)) : ∃ a vs, v = .ref a ∧ xs.length = vs.length ∧ ks.length = xs.length ∧ ks.Nodup ∧ H a = some (.dK (ks.zip vs)) ∧
    ∀ ks' xs' vs' ts' ws', Ent (xs ++ ts) (vs ++ ws) (xs' ++ ts') (vs' ++ ws') → xs'.length = vs'.length → ks'.length = xs'.length → ks'.Nodup → Ok K g (upd H a (.dK (ks'.zip vs'))) (.dct true ks' xs' :: ts') (v :: ws') := by
  obtain ⟨I, h, o⟩ := o
  have q := o.own
  simp only [Owns, Own] at q
  obtain ⟨h1, h2, j, ⟨a, vs, h3, e, lk, nd, y, x1, rfl⟩, z⟩ := q
  have ha : h a = some (.dK (ks.zip vs)) := j.l _ _ upd_same
  obtain ⟨c, jc, sc⟩ := sub_jn j (sub_of_upd x1) Sub.refl
  have n2 : h2 a = none := by
    rcases j.dis a with r | r
    · rw [upd_same] at r; cases r
    · exact r
  have ca : c a = none := jc.none.mpr ⟨x1, n2⟩
  obtain ⟨nI, nk⟩ := o.own_ne (a := a) (by rw [ha]; simp)
  refine ⟨a, vs, e, owns_len y, lk, nd, o.sh _ _ ha, fun ks' xs' vs' ts' ws' en l lk' nd' => ?_⟩
  obtain ⟨c', sc', q'⟩ := en _ I c ((owns_app (owns_len y)).mpr ⟨h3, h2, jc, y, z⟩)
  obtain ⟨h5, h6, j', q5, q6⟩ := (owns_app l).mp q'
  have ca' : c' a = none := by
    cases e : c' a with
    | none => rfl
    | some u => rw [sc' _ _ e] at ca; cases ca
  obtain ⟨m5, m6⟩ := j'.none.mp ca'
  refine ⟨I, upd c' a (.dK (ks'.zip vs')), ?_, fun x => ?_, sub_upd o.si nI, sub_upd2 (sc'.trans (sc.trans o.sh)), o.ge, fun b u e1 e2 => ?_, fun b r => ?_⟩
  · simp only [Owns, Own]
    refine ⟨upd h5 a (.dK (ks'.zip vs')), h6, fun x => ?_, ⟨a, vs', h5, e, lk', nd', q5, m5, rfl⟩, q6⟩
    by_cases e : x = a
    · subst e; exact .inr ⟨m6, by rw [upd_same, upd_same]⟩
    · rw [upd_ne e, upd_ne e]; exact j' x
  · by_cases e : x = a
    · subst e; exact .inl nI
    · rw [upd_ne e]
      rcases o.dis x with r | r
      · exact .inl r
      · right
        cases e2 : c' x with
        | none => rfl
        | some u => rw [sc _ _ (sc' _ _ e2)] at r; cases r
  · rw [upd_ne (nk b u e1 e2)]; exact o.keep b u e1 e2
  · by_cases e : b = a
    · subst e; exact o.dom b (.inr (by rw [ha]; simp))
    · rw [upd_ne e] at r
      refine o.dom b (r.imp id fun r z => r ?_)
      cases e2 : c' b with
      | none => rfl
      | some u => rw [sc _ _ (sc' _ _ e2)] at z; cases z
theorem Ok.dct_open {b : Bool} {ks : List Key} (o : Ok K g H (.dct b ks xs :: ts) (v :: vs)) : ∃ a us, v = .ref a ∧ xs.length = us.length ∧ ks.length = xs.length ∧ ks.Nodup ∧ H a = some (.dK (ks.zip us)) ∧ Ok K g H (xs ++ ts) (us ++ vs) := by
  obtain ⟨I, h, o⟩ := o
  have q := o.own
  simp only [Owns, Own] at q
  obtain ⟨h1, h2, j, ⟨a, us, h3, e, lk, nd, y, x⟩, z⟩ := q
  cases b with
  | true =>
    obtain ⟨x1, rfl⟩ := x
    obtain ⟨c', jc, sc⟩ := sub_jn j (sub_of_upd x1) Sub.refl
    exact ⟨a, us, e, owns_len y, lk, nd, o.sh _ _ (j.l _ _ upd_same), ⟨I, c', o.shrink sc ((owns_app (owns_len y)).mpr ⟨h3, h2, jc, y, z⟩)⟩⟩
  | false =>
    obtain ⟨x1, rfl⟩ := x
    exact ⟨a, us, e, owns_len y, lk, nd, o.si _ _ x1, ⟨I, h, (owns_app (owns_len y)).mpr ⟨h1, h2, j, y, z⟩, o.dis, o.si, o.sh, o.ge, o.keep, o.dom⟩⟩
end
end VS
/-! FW3: what code means on trees (M), the judgements' readings (tV, tB, tA, tS), expressions. -/
namespace VS
open PySem L2

abbrev Env := List T
inductive Res (α : Type) where
  | no
  | ok (a : α) (ρ : Env)
  | ex (n : Str) (fs : List T) (ρ : Env)
abbrev M (α : Type) := Env → Res α
def T.isHole : T → Bool
  | .hole => true
  | _ => false
def M.pure {α : Type} (a : α) : M α := fun ρ => .ok a ρ
def M.bind {α β : Type} (m : M α) (f : α → M β) : M β := fun ρ => match m ρ with
  | .no => .no
  | .ok a ρ' => f a ρ'
  | .ex n fs ρ' => .ex n fs ρ'
def M.no {α : Type} : M α := fun _ => .no
def M.lift {α : Type} (o : Option α) : M α := fun ρ => match o with
  | some a => .ok a ρ
  | none => .no
def Aft {α : Type} (r : Res α) (P : α → Env → Prop) : Prop := match r with
  | .no => False
  | .ok a ρ => P a ρ
  | .ex _ _ _ => False
@[simp] theorem bind_pure {α β : Type} (a : α) (f : α → M β) : M.bind (M.pure a) f = f a := rfl
theorem bind_assoc {α β γ : Type} (m : M α) (f : α → M β) (k : β → M γ) : M.bind (M.bind m f) k = M.bind m fun a => M.bind (f a) k := by
  funext ρ
  simp only [M.bind]
  cases m ρ <;> rfl
theorem bind_ok {α β : Type} {m : M α} {f : α → M β} {ρ ρ' : Env} {a : α} (h : m ρ = .ok a ρ') : M.bind m f ρ = f a ρ' := by simp only [M.bind, h]
theorem Aft.bind {α β : Type} {m : M α} {f : α → M β} {ρ : Env} {P : β → Env → Prop} (h : Aft (M.bind m f ρ) P) : Aft (m ρ) fun a ρ' => Aft (f a ρ') P := by
  unfold M.bind at h
  cases e : m ρ with
  | no => rw [e] at h; exact h
  | ok a ρ' => rw [e] at h; exact h
  | ex n fs ρ' => rw [e] at h; exact h
theorem Aft.mono {α : Type} {r : Res α} {P P' : α → Env → Prop} (h : Aft r P) (k : ∀ a ρ, P a ρ → P' a ρ) : Aft r P' := by
  cases r with
  | no => exact h
  | ok a ρ => exact k a ρ h
  | ex n fs ρ' => exact h

/-! ### the slots -/
def sl (σ : L2.St) : List V := σ.map (·.getD .non)
structure Sg (K : PySem.W.Frag) (g : G) (σ : L2.St) (H : Hp) (ρ : Env) (ts : List T) (vs : List V) : Prop where
  ok : Ok K g H (ρ ++ ts) (sl σ ++ vs)
  len : ρ.length = σ.length
  ho : ∀ (i : Nat) (t : T), ρ[i]? = some t → t.isHole = false → ∃ v, σ[i]? = some (some v)
  pin : ∀ p ∈ g.pins, σ[p.1]? = some (some p.2)
theorem sl_len (σ : L2.St) : (sl σ).length = σ.length := by simp [sl]
theorem sl_get {σ : L2.St} {i : Nat} {v : V} (h : σ[i]? = some (some v)) : (sl σ)[i]? = some v := by simp [sl, h]
theorem sl_set {σ : L2.St} {i : Nat} {v : V} : sl (σ.set i (some v)) = (sl σ).set i v := by
  unfold sl
  rw [List.map_set]; rfl

section
variable {K : PySem.W.Frag} {g : G} {σ : L2.St} {H H' : Hp} {ρ ρ' : Env} {ts ts' : List T} {vs vs' : List V} {t : T} {v : V} {i : Nat}
theorem split_at : ∀ {α : Type} {l : List α} {i : Nat} {x : α}, l[i]? = some x → ∃ a b, l = a ++ x :: b ∧ a.length = i
  | _, [], _, _, h => by simp at h
  | _, y :: l, 0, x, h => ⟨[], l, by simp at h; rw [h]; rfl, rfl⟩
  | _, y :: l, i + 1, x, h => by
    obtain ⟨a, b, e, n⟩ := split_at (l := l) (i := i) (x := x) (by simpa using h)
    exact ⟨y :: a, b, by rw [e]; rfl, by simp [n]⟩
theorem Sg.tlen (S : Sg K g σ H ρ ts vs) : ts.length = vs.length := by
  have := S.ok.len
  simp only [List.length_append, sl_len, S.len] at this
  omega
theorem Sg.flip (S : Sg K g σ H ρ ts vs) : Ok K g H (ts ++ ρ) (vs ++ sl σ) := by
  have l1 : ρ.length = (sl σ).length := by rw [sl_len]; exact S.len
  simpa using S.ok.ent (Ent.rot (zs := []) (vs := []) l1 S.tlen |> fun e => by simpa using e)
theorem Sg.re (S : Sg K g σ H ρ ts vs) (o' : Ok K g H' (ts' ++ ρ) (vs' ++ sl σ)) : Sg K g σ H' ρ ts' vs' := by
  have l1 : ρ.length = (sl σ).length := by rw [sl_len]; exact S.len
  have l3 : ts'.length = vs'.length := by
    have := o'.len
    simp only [List.length_append, l1] at this
    omega
  exact ⟨by simpa using o'.ent (by simpa using Ent.rot (zs := []) (vs := []) l3 l1), S.len, S.ho, S.pin⟩
/-- the temporaries are told anew -/
theorem Sg.tmp (S : Sg K g σ H ρ ts vs) (f : ∀ rs ws, Ok K g H (ts ++ rs) (vs ++ ws) → Ok K g H' (ts' ++ rs) (vs' ++ ws)) : Sg K g σ H' ρ ts' vs' := S.re (f _ _ S.flip)
theorem set_split {α : Type} {a b : List α} {x y : α} : (a ++ x :: b).set a.length y = a ++ y :: b := by
  induction a with
  | nil => rfl
  | cons z a ih => simp
/-- a slot's value is taken out -/
theorem Sg.take (S : Sg K g σ H ρ ts vs) (e : ρ[i]? = some t) (n : t.isHole = false) : ∃ v, σ[i]? = some (some v) ∧ Sg K g σ H (ρ.set i .hole) (t :: ts) (v :: vs) := by
  obtain ⟨v, hv⟩ := S.ho i t e n
  refine ⟨v, hv, ?_⟩
  obtain ⟨a, b, ea, la⟩ := split_at e
  obtain ⟨c, d, ec, lc⟩ := split_at (sl_get hv)
  have o := S.ok
  rw [ea, ec, List.append_assoc, List.append_assoc, List.cons_append, List.cons_append] at o
  have l : a.length = c.length := by omega
  have lb : b.length = d.length := by
    have h1 : ρ.length = (sl σ).length := by rw [sl_len]; exact S.len
    rw [ea, ec] at h1
    simp only [List.length_append, List.length_cons] at h1
    omega
  refine ⟨?_, by rw [List.length_set]; exact S.len, fun j u hj hu => ?_, S.pin⟩
  · rw [ea, ec, ← la, set_split, List.append_assoc, List.append_assoc, List.cons_append, List.cons_append]
    refine o.ent (Ent.apps ?_ l)
    have e1 : Ent (t :: (b ++ ts)) (v :: (d ++ vs)) (b ++ (t :: ts)) (d ++ (v :: vs)) := by
      have := Ent.rot (xs := [t]) (us := [v]) (ys := b) (ws := d) (zs := ts) (vs := vs) rfl lb
      simpa using this
    exact e1.trans Ent.hole
  · by_cases q : j = i
    · subst q
      have hi : j < ρ.length := (List.getElem?_eq_some_iff.mp e).1
      rw [List.getElem?_set_self hi] at hj
      cases hj
      simp [T.isHole] at hu
    · rw [List.getElem?_set_ne (Ne.symm q)] at hj
      exact S.ho j u hj hu
/-- a value is put into a slot (what stood there is let go) -/
theorem Sg.put (S : Sg K g σ H ρ (t :: ts) (v :: vs)) (hi : i < ρ.length) (hp : g.pins.all (fun p => p.1 != i) = true) : Sg K g (σ.set i (some v)) H (ρ.set i t) ts vs := by
  have hiσ : i < σ.length := by rw [← S.len]; exact hi
  have e0 : ρ[i]? = some ρ[i] := by simp [hi]
  have e1 : (sl σ)[i]? = some ((sl σ)[i]'(by rw [sl_len]; exact hiσ)) := by simp
  obtain ⟨a, b, ea, la⟩ := split_at e0
  obtain ⟨c, d, ec, lc⟩ := split_at e1
  have l : a.length = c.length := by omega
  have lb : b.length = d.length := by
    have h1 : ρ.length = (sl σ).length := by rw [sl_len]; exact S.len
    rw [ea, ec] at h1
    simp only [List.length_append, List.length_cons] at h1
    omega
  have o := S.ok
  refine ⟨?_, by rw [List.length_set, List.length_set]; exact S.len, fun j u hj hu => ?_, fun p hpp => ?_⟩
  · rw [sl_set]
    generalize hx : ρ[i] = x0 at ea
    generalize hy : (sl σ)[i]'(by rw [sl_len]; exact hiσ) = y0 at ec
    rw [ea, ec] at o ⊢
    rw [← la, set_split]
    have : i = c.length := lc.symm
    rw [show a.length = c.length from l, set_split, List.append_assoc, List.append_assoc, List.cons_append, List.cons_append]
    rw [List.append_assoc, List.append_assoc, List.cons_append, List.cons_append] at o
    refine o.ent (Ent.apps (Ent.trans Ent.drop ?_) l)
    have := Ent.rot (xs := b) (us := d) (ys := [t]) (ws := [v]) (zs := ts) (vs := vs) lb rfl
    simpa using this
  · by_cases q : j = i
    · subst q
      exact ⟨v, by simp [hiσ]⟩
    · rw [List.getElem?_set_ne (Ne.symm q)] at hj
      obtain ⟨w, hw⟩ := S.ho j u hj hu
      exact ⟨w, by rw [List.getElem?_set_ne (Ne.symm q)]; exact hw⟩
  · have h1 := List.all_eq_true.mp hp p hpp
    have h2 : p.1 ≠ i := by simpa using h1
    rw [List.getElem?_set_ne (Ne.symm h2)]
    exact S.pin p hpp
/-- what was taken out comes back -/
theorem Sg.back (S : Sg K g σ H ρ (t :: ts) (v :: vs)) (e : σ[i]? = some (some v)) : Sg K g σ H (ρ.set i t) ts vs := by
  have hiσ : i < σ.length := (List.getElem?_eq_some_iff.mp e).1
  have hi : i < ρ.length := by rw [S.len]; exact hiσ
  have S' : Sg K { g with pins := [] } σ H ρ (t :: ts) (v :: vs) := ⟨by obtain ⟨I, h, o⟩ := S.ok; exact ⟨I, h, o.own, o.dis, o.si, o.sh, o.ge, o.keep, o.dom⟩, S.len, S.ho, fun _ z => nomatch z⟩
  have q := S'.put hi rfl
  have es : σ.set i (some v) = σ := by
    obtain ⟨h1, h2⟩ := List.getElem?_eq_some_iff.mp e
    rw [← h2]; exact List.set_getElem_self h1
  rw [es] at q
  exact ⟨by obtain ⟨I, h, o⟩ := q.ok; exact ⟨I, h, o.own, o.dis, o.si, o.sh, o.ge, o.keep, o.dom⟩, q.len, q.ho, S.pin⟩
theorem Sg.copy (S : Sg K g σ H ρ ts vs) (e : ρ[i]? = some t) (im : t.imm = true) : ∃ v, σ[i]? = some (some v) ∧ Sg K g σ H ρ (t :: ts) (v :: vs) := by
  have n : t.isHole = false := by cases t <;> first | rfl | simp [T.imm] at im
  obtain ⟨v, hv, S1⟩ := S.take e n
  refine ⟨v, hv, ?_⟩
  have S2 : Sg K g σ H (ρ.set i .hole) (t :: t :: ts) (v :: v :: vs) := S1.tmp fun rs ws o => o.dup im
  have S3 := S2.back hv
  rw [List.set_set] at S3
  have es : ρ.set i t = ρ := by
    obtain ⟨h1, h2⟩ := List.getElem?_eq_some_iff.mp e
    rw [← h2]; exact List.set_getElem_self h1
  rwa [es] at S3
end
end VS
/-! FW4: readings from meanings; expressions. -/
namespace VS
open PySem L2

inductive Ctl where
  | nx
  | rt (t : T)
  | bk
  | ct
def tV (K : PySem.W.Frag) (g : G) (m : M T) : TE := fun σ H Q => ∃ ρ ts vs, Sg K g σ H ρ ts vs ∧ Aft (m ρ) fun t ρ' => ∀ v H', Sg K g σ H' ρ' (t :: ts) (v :: vs) → Q v H'
def tBo (K : PySem.W.Frag) (g : G) (m : M Bool) : TT := fun σ H Q => ∃ ρ ts vs, Sg K g σ H ρ ts vs ∧ Aft (m ρ) fun b ρ' => ∀ H', Sg K g σ H' ρ' ts vs → Q b H'
def tAr (K : PySem.W.Frag) (g : G) (m : M (List T)) : TA := fun σ H Q => ∃ ρ ts vs, Sg K g σ H ρ ts vs ∧ Aft (m ρ) fun xs ρ' => ∀ us H', xs.length = us.length → Sg K g σ H' ρ' (xs ++ ts) (us ++ vs) → Q us H'
def CtlOk (K : PySem.W.Frag) (g : G) (D : Ends) (ts : List T) (vs : List V) (c : Ctl) (ρ' : Env) : Prop := match c with
  | .nx => ∀ σ' H', Sg K g σ' H' ρ' ts vs → D.nx σ' H'
  | .rt t => ∀ v σ' H', Sg K g σ' H' ρ' (t :: ts) (v :: vs) → D.rt v H'
  | .bk => ∀ σ' H', Sg K g σ' H' ρ' ts vs → D.bk σ' H'
  | .ct => ∀ σ' H', Sg K g σ' H' ρ' ts vs → D.ct σ' H'
def tSt (K : PySem.W.Frag) (g : G) (m : M Ctl) : TS := fun D σ H => ∃ ρ ts vs, Sg K g σ H ρ ts vs ∧ Aft (m ρ) (CtlOk K g D ts vs)
/-- a target takes a value -/
def tTg (K : PySem.W.Frag) (g : G) (a : T → M Unit) : TG := fun v σ H Q => ∃ ρ ts vs t, Sg K g σ H ρ (t :: ts) (v :: vs) ∧ Aft (a t ρ) fun _ ρ' => ∀ σ' H', Sg K g σ' H' ρ' ts vs → Q σ' H'

theorem PE.weak {X : Cx} {e : Expr} {t t' : TE} (h : PE X e t) (w : ∀ σ H Q, t' σ H Q → t σ H Q) : PE X e t' := ⟨fun pins s σ H Q I q => h.run pins s σ H Q I (w σ H Q q)⟩
theorem PT.weak {X : Cx} {e : Expr} {t t' : TT} (h : PT X e t) (w : ∀ σ H Q, t' σ H Q → t σ H Q) : PT X e t' := ⟨fun pins s σ H Q I q => h.run pins s σ H Q I (w σ H Q q)⟩
theorem PA.weak {X : Cx} {es : List Expr} {t t' : TA} (h : PA X es t) (w : ∀ σ H Q, t' σ H Q → t σ H Q) : PA X es t' := ⟨fun pos pins s σ H Q I q => h.run pos pins s σ H Q I (w σ H Q q)⟩
theorem PS.weak {X : Cx} {e : Stmt} {t t' : TS} (h : PS X e t) (w : ∀ D σ H, t' D σ H → t D σ H) : PS X e t' := ⟨fun pins s σ H D I q => h.run pins s σ H D I (w D σ H q)⟩
theorem PSs.weak {X : Cx} {e : List Stmt} {t t' : TS} (h : PSs X e t) (w : ∀ D σ H, t' D σ H → t D σ H) : PSs X e t' := ⟨fun pins s σ H D I q => h.run pins s σ H D I (w D σ H q)⟩
theorem PG.weak {X : Cx} {e : Expr} {t t' : TG} (h : PG X e t) (w : ∀ v σ H Q, t' v σ H Q → t v σ H Q) : PG X e t' := ⟨fun pins s σ H v u Q I r q => h.run pins s σ H v u Q I r (w v σ H Q q)⟩

section
variable {K : PySem.W.Frag} {g : G} {σ : L2.St} {H : Hp} {ρ : Env} {ts : List T} {vs : List V} {β : Type}
theorem go {m : M T} {k : T → M β} {P : β → Env → Prop} {Q : VK} (S : Sg K g σ H ρ ts vs) (h : Aft (M.bind m k ρ) P) (f : ∀ t ρ1 v H1, Sg K g σ H1 ρ1 (t :: ts) (v :: vs) → Aft (k t ρ1) P → Q v H1) : tV K g m σ H Q :=
  ⟨ρ, ts, vs, S, h.bind.mono fun t ρ1 q v H1 S1 => f t ρ1 v H1 S1 q⟩
theorem goB {m : M Bool} {k : Bool → M β} {P : β → Env → Prop} {Q : Bool → Hp → Prop} (S : Sg K g σ H ρ ts vs) (h : Aft (M.bind m k ρ) P) (f : ∀ t ρ1 H1, Sg K g σ H1 ρ1 ts vs → Aft (k t ρ1) P → Q t H1) : tBo K g m σ H Q :=
  ⟨ρ, ts, vs, S, h.bind.mono fun t ρ1 q H1 S1 => f t ρ1 H1 S1 q⟩
theorem goA {m : M (List T)} {k : List T → M β} {P : β → Env → Prop} {Q : List V → Hp → Prop} (S : Sg K g σ H ρ ts vs) (h : Aft (M.bind m k ρ) P) (f : ∀ xs ρ1 us H1, xs.length = us.length → Sg K g σ H1 ρ1 (xs ++ ts) (us ++ vs) → Aft (k xs ρ1) P → Q us H1) : tAr K g m σ H Q :=
  ⟨ρ, ts, vs, S, h.bind.mono fun t ρ1 q v H1 l S1 => f t ρ1 v H1 l S1 q⟩
theorem Aft.lift {α : Type} {o : Option α} {P : α → Env → Prop} (h : Aft (M.lift o ρ) P) : ∃ a, o = some a ∧ P a ρ := by
  unfold M.lift at h
  cases o with
  | none => exact h.elim
  | some a => exact ⟨a, rfl, h⟩
end

/-! ### names, constants -/
def cpv (i : Nat) : M T := fun ρ => match ρ[i]? with
  | some t => if t.imm = true then .ok t ρ else .no
  | none => .no
def mvv (i : Nat) : M T := fun ρ => match ρ[i]? with
  | some t => if t.isHole = false then .ok t (ρ.set i .hole) else .no
  | none => .no
def fzv (i : Nat) : M T := fun ρ => match ρ[i]? with
  | some t => if (t.cold && !t.isHole && t.frz.imm) = true then .ok t.frz (ρ.set i t.frz) else .no
  | none => .no
section
variable {X : Cx} {g : G}
theorem ve_cp (i : Nat) {x : Str} {pos : Pos} (h : PE X (.Name x pos) (tVar i)) : PE X (.Name x pos) (tV X.K g (cpv i)) := PE.weak h fun σ H Q ⟨ρ, ts, vs, S, q⟩ => by
  unfold cpv at q
  cases e : ρ[i]? with
  | none => rw [e] at q; exact q.elim
  | some t =>
    rw [e] at q
    dsimp only at q
    split at q
    · rename_i im
      obtain ⟨v, hv, S'⟩ := S.copy e im
      exact ⟨v, hv, q v H S'⟩
    · exact q.elim
theorem ve_mv (i : Nat) {x : Str} {pos : Pos} (h : PE X (.Name x pos) (tVar i)) : PE X (.Name x pos) (tV X.K g (mvv i)) := PE.weak h fun σ H Q ⟨ρ, ts, vs, S, q⟩ => by
  unfold mvv at q
  cases e : ρ[i]? with
  | none => rw [e] at q; exact q.elim
  | some t =>
    rw [e] at q
    dsimp only at q
    split at q
    · rename_i im
      obtain ⟨v, hv, S'⟩ := S.take e im
      exact ⟨v, hv, q v H S'⟩
    · exact q.elim
theorem ve_fz (i : Nat) {x : Str} {pos : Pos} (h : PE X (.Name x pos) (tVar i)) : PE X (.Name x pos) (tV X.K g (fzv i)) := PE.weak h fun σ H Q ⟨ρ, ts, vs, S, q⟩ => by
  unfold fzv at q
  cases e : ρ[i]? with
  | none => rw [e] at q; exact q.elim
  | some t =>
    rw [e] at q
    dsimp only at q
    split at q
    · rename_i im
      simp only [Bool.and_eq_true, Bool.not_eq_true'] at im
      obtain ⟨v, hv, S'⟩ := S.take e im.1.2
      have S2 : Sg X.K g σ H (ρ.set i .hole) (t.frz :: t.frz :: ts) (v :: v :: vs) := S'.tmp fun rs ws o => (Ok.frz o im.1.1).dup im.2
      have S3 := S2.back hv
      rw [List.set_set] at S3
      exact ⟨v, hv, q v H S3⟩
    · exact q.elim
theorem ve_c {e : Expr} {v : V} (h : PE X e (tC v)) : PE X e (tV X.K g (M.pure (.atom v))) := PE.weak h fun σ H Q ⟨ρ, ts, vs, S, q⟩ => q v H (S.tmp fun rs ws o => o.atom_push)

/-! ### operators -/
/-- r does what F says -/
def RF (K : PySem.W.Frag) (g : G) (F : T → T → Option T) (r : R2) : Prop := ∀ H tx ty x y t ts vs Q, F tx ty = some t → Ok K g H (ty :: tx :: ts) (y :: x :: vs) → (∀ v H', Ok K g H' (t :: ts) (v :: vs) → Q v H') → r x y H Q
def bin (F : T → T → Option T) (a b : M T) : M T := M.bind a fun x => M.bind b fun y => M.lift (F x y)
theorem tOp_weak {F : T → T → Option T} {r : R2} {sa sb : M T} (hr : RF X.K g F r) (σ : L2.St) (H : Hp) (Q : VK) (h : tV X.K g (bin F sa sb) σ H Q) : tOp r (tV X.K g sa) (tV X.K g sb) σ H Q := by
  obtain ⟨ρ, ts, vs, S, q⟩ := h
  refine go S q fun tx ρ1 x H1 S1 q1 => go S1 q1 fun ty ρ2 y H2 S2 q2 => ?_
  obtain ⟨t, e, q3⟩ := Aft.lift q2
  exact hr H2 tx ty x y t (ts ++ ρ2) (vs ++ sl σ) Q e (by simpa using S2.flip) fun v H' f => q3 v H' (S2.re (by simpa using f))
theorem ve_op {op : Operator} {F : T → T → Option T} {r : R2} {a b : Expr} {pos : Pos} {sa sb : M T} (ho : OpR X (binaryOp op) r) (hr : RF X.K g F r) (ha : PE X a (tV X.K g sa)) (hb : PE X b (tV X.K g sb)) : PE X (.BinOp a op b pos) (tV X.K g (bin F sa sb)) :=
  PE.weak (pe_op ho ha hb) fun σ H Q h => tOp_weak hr σ H Q h
theorem ve_cmp {op : CmpOp} {F : T → T → Option T} {r : R2} {a b : Expr} {pos : Pos} {sa sb : M T} (ho : OpR X (compareOp op) r) (hr : RF X.K g F r) (hm : behindInMarks op b = false) (ha : PE X a (tV X.K g sa)) (hb : PE X b (tV X.K g sb)) :
    PE X (.Compare a [op] [b] pos) (tV X.K g (bin F sa sb)) :=
  PE.weak (pe_cmpR ho ha hb hm) fun σ H Q h => tOp_weak hr σ H Q h
def T.bool? : T → Option Bool
  | .atom (.bl b) => some b
  | _ => none
theorem bool?_eq : ∀ {t : T} {b : Bool}, t.bool? = some b → t = .atom (.bl b)
  | .hole, _, h => by simp [T.bool?] at h
  | .atom v, b, h => by
    cases v <;> simp [T.bool?] at h
    rw [h]
  | .tup _, _, h => by simp [T.bool?] at h
  | .lst _ _, _, h => by simp [T.bool?] at h
  | .dct _ _ _, _, h => by simp [T.bool?] at h
  | .obj _ _ _, _, h => by simp [T.bool?] at h
def cmpB (F : T → T → Option T) (a b : M T) : M Bool := M.bind (bin F a b) fun t => M.lift t.bool?
theorem vt_cmp {op : CmpOp} {F : T → T → Option T} {r : R2} {a b : Expr} {pos : Pos} {sa sb : M T} (ho : OpR X (compareOp op) r) (hr : RF X.K g F r) (hm : behindInMarks op b = false) (ha : PE X a (tV X.K g sa)) (hb : PE X b (tV X.K g sb)) :
    PT X (.Compare a [op] [b] pos) (tBo X.K g (cmpB F sa sb)) :=
  PT.weak (pt_cmpR ho ha hb hm) fun σ H Q ⟨ρ, ts, vs, S, q⟩ => by
    refine tOp_weak hr σ H _ ?_
    refine go S q fun t ρ1 v H1 S1 q1 => ?_
    obtain ⟨b, e, q2⟩ := Aft.lift q1
    have := bool?_eq e
    subst this
    have ev : v = .bl b := by
      exact Ok.atom_eq (by simpa using S1.flip)
    exact ⟨b, ev, q2 H1 (S1.tmp fun rs ws o => o.drop)⟩
end
end VS
/-! FW5: operators on trees. -/
namespace VS
open PySem L2

theorem OpR.or {X : Cx} {f : Value → Value → Sem Value} {r r' : R2} (h : OpR X f r) (h' : OpR X f r') : OpR X f (fun x y H Q => r x y H Q ∨ r' x y H Q) :=
  fun pins s σ H x y v u Q I rx ry q => q.elim (h pins s σ H x y v u Q I rx ry) (h' pins s σ H x y v u Q I rx ry)

/-! ### data -/
mutual
def T.dat : T → Option PyData
  | .atom .non => some .none
  | .atom (.bl b) => some (.bool b)
  | .atom (.int i) => some (.int i)
  | .atom (.str x) => some (.str x)
  | .tup ts => (T.dats ts).map .tuple
  | .lst _ ts => (T.dats ts).map .list
  | .ro ts => (T.dats ts).map .list
  | _ => none
def T.dats : List T → Option (List PyData)
  | [] => some []
  | t :: ts => match t.dat, T.dats ts with
    | some d, some ds => some (d :: ds)
    | _, _ => none
end
section
variable {K : PySem.W.Frag} {I h H : Hp}
mutual
theorem own_dp (s : Sub I H) : ∀ {t : T} {v : V} {h : Hp} {d : PyData}, Own K I t v h → Sub h H → t.dat = some d → Dp K H v d
  | .hole, _, _, _, _, _, e => by simp [T.dat] at e
  | .atom w, v, h, d, q, _, e => by
    simp only [Own] at q
    obtain ⟨rfl, _⟩ := q
    cases v <;> simp [T.dat] at e
    · subst e; exact .non
    · subst e; exact .bl _
    · subst e; exact .int _
    · subst e; exact .str _
  | .tup ts, v, h, d, q, k, e => by
    simp only [Own] at q
    obtain ⟨a, vs, rfl, x, y⟩ := q
    simp only [T.dat, Option.map_eq_some_iff] at e
    obtain ⟨ds, e1, rfl⟩ := e
    exact .tup (sqT_mono s x) (owns_dp s y k e1)
  | .lst o ts, v, h, d, q, k, e => by
    simp only [Own] at q
    obtain ⟨a, vs, h1, rfl, y, z⟩ := q
    simp only [T.dat, Option.map_eq_some_iff] at e
    obtain ⟨ds, e1, rfl⟩ := e
    cases o with
    | true =>
      obtain ⟨z1, rfl⟩ := z
      exact .lst (.inl (.inl (k _ _ upd_same))) (owns_dp s y ((sub_of_upd z1).trans k) e1)
    | false =>
      obtain ⟨z1, rfl⟩ := z
      exact .lst (.inl (.inl (s _ _ z1))) (owns_dp s y k e1)
  | .ro ts, v, h, d, q, k, e => by
    simp only [Own] at q
    obtain ⟨a, vs, rfl, x, y⟩ := q
    simp only [T.dat, Option.map_eq_some_iff] at e
    obtain ⟨ds, e1, rfl⟩ := e
    exact .lst (sqL_mono s x) (owns_dp s y k e1)
  | .dct _ _ _, _, _, _, _, _, e => by simp [T.dat] at e
  | .obj _ _ _, _, _, _, _, _, e => by simp [T.dat] at e
theorem owns_dp (s : Sub I H) : ∀ {ts : List T} {vs : List V} {h : Hp} {ds : List PyData}, Owns K I ts vs h → Sub h H → T.dats ts = some ds → DpAll K H vs ds
  | [], [], _, _, _, _, e => by simp [T.dats] at e; subst e; exact .nil
  | [], _ :: _, _, _, q, _, _ => by simp only [Owns] at q
  | _ :: _, [], _, _, q, _, _ => by simp only [Owns] at q
  | t :: ts, v :: vs, h, ds, q, k, e => by
    simp only [Owns] at q
    obtain ⟨h1, h2, j, x, y⟩ := q
    simp only [T.dats] at e
    split at e
    · rename_i d ds' e1 e2
      cases e
      exact .cons (own_dp s x (j.l.trans k) e1) (owns_dp s y (j.r.trans k) e2)
    · cases e
end
end
section
variable {K : PySem.W.Frag} {g : G} {H : Hp} {t u : T} {v w : V} {ts : List T} {vs : List V} {d e : PyData}
theorem Ok.dp (o : Ok K g H (t :: ts) (v :: vs)) (h : t.dat = some d) : Dp K H v d := by
  obtain ⟨I, h1, o⟩ := o
  have q := o.own
  simp only [Owns] at q
  obtain ⟨h2, h3, j, x, y⟩ := q
  exact own_dp o.si x (j.l.trans o.sh) h
theorem Ok.dp2 (o : Ok K g H (t :: u :: ts) (v :: w :: vs)) (h : u.dat = some d) : Dp K H w d := o.drop.dp h
end

/-! ### what the operators do -/
abbrev tI (i : Int) : T := .atom (.int i)
abbrev tS (x : Str) : T := .atom (.str x)
abbrev tBl (b : Bool) : T := .atom (.bl b)
abbrev tN : T := .atom .non
def addT : T → T → Option T
  | .atom (.int i), .atom (.int j) => some (.atom (.int (i + j)))
  | .atom (.str x), .atom (.str y) => if x.length + y.length ≤ sizeLine then some (.atom (.str (x ++ y))) else none
  | .lst _ xs, .lst _ ys => if xs.length + ys.length ≤ sizeLine then some (.lst true (xs ++ ys)) else none
  | .tup xs, .tup ys => if xs.length + ys.length ≤ sizeLine ∧ xs ≠ [] ∧ ys ≠ [] then some (.tup (xs ++ ys)) else none
  | _, _ => none
def iiT (f : Int → Int → Option Int) : T → T → Option T
  | .atom (.int i), .atom (.int j) => (f i j).map fun k => .atom (.int k)
  | _, _ => none
def ibT (f : Int → Int → Bool) : T → T → Option T
  | .atom (.int i), .atom (.int j) => some (.atom (.bl (f i j)))
  | _, _ => none
def subT : T → T → Option T := iiT fun i j => some (i - j)
def bits (i : Int) : Nat := i.natAbs.log2 + 1
def mulI (i j : Int) : Option Int := if i.natAbs.log2 + j.natAbs.log2 < 1000000 then some (i * j) else none
def mulT : T → T → Option T
  | .atom (.int i), .atom (.int j) => (mulI i j).map fun k => .atom (.int k)
  | .lst _ xs, .atom (.int k) => if -(2 ^ 63) ≤ k ∧ k < 2 ^ 63 ∧ xs.length * k.toNat ≤ sizeLine ∧ T.imms xs = true then some (.lst true (List.replicate k.toNat xs).flatten) else none
  | _, _ => none
def fdivT : T → T → Option T := iiT fun i j => if 0 < j ∧ j.natAbs.log2 < 9000 then some (i / j) else none
def modT : T → T → Option T := iiT fun i j => if 0 < j then some (i % j) else none
def powT : T → T → Option T := iiT fun i j => if 0 ≤ j ∧ ((i.natAbs.log2 : Int) + 1) * j ≤ 2 ^ 27 then some (i ^ j.toNat) else none
def ltS (x y : Str) : Bool := decide (x.cps.toList < y.cps.toList)
def eqT (t u : T) : Option T := match t.dat, u.dat with
  | some d, some e => if SeqAt.shaped d = true ∧ SeqAt.shaped e = true then some (.atom (.bl (PyData.eqv d e))) else none
  | _, _ => none
def neT (t u : T) : Option T := match t.dat, u.dat with
  | some d, some e => if SeqAt.shaped d = true ∧ SeqAt.shaped e = true then some (.atom (.bl (!PyData.eqv d e))) else none
  | _, _ => none
def isNT : T → T → Option T
  | .atom x, .atom .non => some (.atom (.bl (decide (x = .non))))
  | .tup _, .atom .non => some (.atom (.bl false))
  | .lst _ _, .atom .non => some (.atom (.bl false))
  | .dct _ _ _, .atom .non => some (.atom (.bl false))
  | .obj _ _ _, .atom .non => some (.atom (.bl false))
  | _, _ => none
def notNT (t u : T) : Option T := match isNT t u with
  | some (.atom (.bl b)) => some (.atom (.bl (!b)))
  | _ => none
section
variable {X : Cx} {g : G}
theorem rf_ii {f : Int → Int → Option Int} {C : Int → Int → Prop} {k : Int → Int → Int} (h : ∀ i j m, f i j = some m → C i j ∧ m = k i j) : RF X.K g (iiT f) (rI C fun i j => .int (k i j)) := by
  intro H tx ty x y t ts vs Q e o q
  unfold iiT at e
  split at e
  · rename_i i j
    obtain ⟨m, e1, rfl⟩ := Option.map_eq_some_iff.mp e
    obtain ⟨c, rfl⟩ := h i j m e1
    exact ⟨i, j, o.drop.atom_eq, o.atom_eq, c, q _ H o.drop.drop.atom_push⟩
  · cases e
theorem rf_ii0 {k : Int → Int → Int} : RF X.K g (iiT fun i j => some (k i j)) (rI0 fun i j => .int (k i j)) := by
  intro H tx ty x y t ts vs Q e o q
  unfold iiT at e
  split at e
  · rename_i i j
    cases e
    exact ⟨i, j, o.drop.atom_eq, o.atom_eq, q _ H o.drop.drop.atom_push⟩
  · cases e
theorem rf_ib {k : Int → Int → Bool} : RF X.K g (ibT k) (rI0 fun i j => .bl (k i j)) := by
  intro H tx ty x y t ts vs Q e o q
  unfold ibT at e
  split at e
  · rename_i i j
    cases e
    exact ⟨i, j, o.drop.atom_eq, o.atom_eq, q _ H o.drop.drop.atom_push⟩
  · cases e
theorem op_powW : OpR X (binaryOp .Pow) (rI (fun i j => 0 ≤ j ∧ ((i.natAbs.log2 : Int) + 1) * j ≤ 2 ^ 27) fun i j => .int (i ^ j.toNat)) := opI fun i j _ _ _ _ _ hc q => by
  refine PyProof.Rows.pow_int hc.1 ?_ q
  have h1 : Builtin.Int.intBits i ≤ i.natAbs.log2 + 1 := by
    unfold Builtin.Int.intBits
    split <;> omega
  have h2 : (Builtin.Int.intBits i : Int) ≤ (i.natAbs.log2 : Int) + 1 := by exact_mod_cast h1
  exact Int.le_trans (Int.mul_le_mul_of_nonneg_right h2 hc.1) hc.2
theorem opr_sub : OpR X (binaryOp .Sub) (rI0 fun i j => .int (i - j)) := op_sub
theorem rf_sub : RF X.K g subT (rI0 fun i j => .int (i - j)) := rf_ii0
theorem rf_fdiv : RF X.K g fdivT (rI CDivW fun i j => .int (i / j)) := rf_ii fun i j m e => by
  split at e
  · rename_i h; cases e; exact ⟨h, rfl⟩
  · cases e
theorem rf_mod : RF X.K g modT (rI (fun _ j => 0 < j) fun i j => .int (i % j)) := rf_ii fun i j m e => by
  split at e
  · rename_i h; cases e; exact ⟨h, rfl⟩
  · cases e
theorem rf_pow : RF X.K g powT (rI (fun i j => 0 ≤ j ∧ ((i.natAbs.log2 : Int) + 1) * j ≤ 2 ^ 27) fun i j => .int (i ^ j.toNat)) := rf_ii fun i j m e => by
  split at e
  · rename_i h; cases e; exact ⟨h, rfl⟩
  · cases e
def rAddS : R2 := fun x y H Q => ∃ i j, x = .str i ∧ y = .str j ∧ i.length + j.length ≤ sizeLine ∧ Q (.str (i ++ j)) H
def rAdd (K : PySem.W.Frag) : R2 := fun x y H Q => rI0 (fun i j => .int (i + j)) x y H Q ∨ rAddS x y H Q ∨ rCat x y H Q ∨ rCatT K x y H Q
theorem opr_add : OpR X (binaryOp .Add) (rAdd X.K) := OpR.or op_add (OpR.or op_add_str (OpR.or op_cat op_catT))
theorem rf_add : RF X.K g addT (rAdd X.K) := by
  intro H tx ty x y t ts vs Q e o q
  unfold addT at e
  split at e
  · rename_i i j
    cases e
    exact .inl ⟨i, j, o.drop.atom_eq, o.atom_eq, q _ H o.drop.drop.atom_push⟩
  · rename_i i j
    split at e
    · rename_i h
      cases e
      exact .inr (.inl ⟨i, j, o.drop.atom_eq, o.atom_eq, h, q _ H o.drop.drop.atom_push⟩)
    · cases e
  · rename_i b1 xs b2 ys
    split at e
    · rename_i h
      cases e
      obtain ⟨b, us, rfl, l1, hb, o1⟩ := o.lst_open
      have o2 : Ok X.K g H (.lst b1 xs :: (ys ++ ts)) (x :: (us ++ vs)) := o1.ent (by simpa using Ent.rot (xs := ys) (us := us) (ys := [T.lst b1 xs]) (ws := [x]) (zs := ts) (vs := vs) l1 rfl)
      obtain ⟨a, ws, rfl, l2, ha, o3⟩ := o2.lst_open
      refine .inr (.inr (.inl ⟨a, b, ws, us, rfl, rfl, ha, hb, by omega, fun p hp => q _ _ ?_⟩))
      refine Ok.new_lst (xs := xs ++ ys) (us := ws ++ us) ?_ (by simp [l1, l2]) hp
      simpa using o3
    · cases e
  · rename_i xs ys
    split at e
    · rename_i h
      obtain ⟨h1, h2, h3⟩ := h
      cases e
      obtain ⟨b, us, rfl, l1, hb, o1⟩ := o.tup_open
      have o2 : Ok X.K g H (.tup xs :: (ys ++ ts)) (x :: (us ++ vs)) := o1.ent (by simpa using Ent.rot (xs := ys) (us := us) (ys := [T.tup xs]) (ws := [x]) (zs := ts) (vs := vs) l1 rfl)
      obtain ⟨a, ws, rfl, l2, ha, o3⟩ := o2.tup_open
      have n1 : ws ≠ [] := fun z => h2 (List.eq_nil_of_length_eq_zero (by rw [l2, z]; rfl))
      have n2 : us ≠ [] := fun z => h3 (List.eq_nil_of_length_eq_zero (by rw [l1, z]; rfl))
      refine .inr (.inr (.inr ⟨a, b, ws, us, rfl, rfl, ha, hb, n1, by omega, fun z => absurd z n2, fun _ p hp => q _ _ ?_⟩))
      refine Ok.new_tup (xs := xs ++ ys) (us := ws ++ us) ?_ (by simp [l1, l2]) hp
      simpa using o3
    · cases e
  · cases e
theorem owns_rep {K : PySem.W.Frag} {xs : List T} {ws : List V} (im : T.imms xs = true) (l : xs.length = ws.length) : ∀ n : Nat, Ent xs ws (List.replicate n xs).flatten (List.replicate n ws).flatten
  | 0 => fun K I h q => by
    refine ⟨fun _ => none, ?_, ?_⟩
    · intro x o e
      cases e
    · show Owns K I [] [] _
      simp only [Owns]
      exact fun _ => rfl
  | n + 1 => fun K I h q => by
    obtain ⟨h', s', q'⟩ := owns_rep (K := K) im l n K I h q
    have e := owns_imm im q
    rw [List.replicate_succ, List.replicate_succ, List.flatten_cons, List.flatten_cons]
    exact ⟨h', s', (owns_app l).mpr ⟨h, h', jn_emp e, q, q'⟩⟩
def rMul : R2 := fun x y H Q => rI CMulW (fun i j => .int (i * j)) x y H Q ∨ rRep x y H Q
theorem opr_mul : OpR X (binaryOp .Mult) rMul := OpR.or op_mulW op_rep
theorem rf_mul : RF X.K g mulT rMul := by
  intro H tx ty x y t ts vs Q e o q
  unfold mulT at e
  split at e
  · rename_i i j
    obtain ⟨m, e1, rfl⟩ := Option.map_eq_some_iff.mp e
    unfold mulI at e1
    split at e1
    · rename_i h
      cases e1
      exact .inl ⟨i, j, o.drop.atom_eq, o.atom_eq, h, q _ H o.drop.drop.atom_push⟩
    · cases e1
  · rename_i b xs k
    split at e
    · rename_i h
      obtain ⟨h1, h2, h3, h4⟩ := h
      cases e
      have ey := o.atom_eq
      subst ey
      obtain ⟨a, us, rfl, l1, ha, o1⟩ := o.drop.lst_open
      refine .inr ⟨a, k, us, rfl, rfl, ha, h1, h2, by rw [← l1]; exact h3, fun p hp => q _ _ ?_⟩
      refine Ok.new_lst (xs := (List.replicate k.toNat xs).flatten) ?_ ?_ hp
      · exact o1.ent ((owns_rep (K := X.K) h4 l1 k.toNat).app l1)
      · simp [List.length_flatten, l1]
    · cases e
  · cases e
theorem rf_eq : RF X.K g eqT (rEqD X.K) := by
  intro H tx ty x y t ts vs Q e o q
  unfold eqT at e
  split at e
  · rename_i d1 d2 e1 e2
    split at e
    · rename_i h
      cases e
      exact ⟨d1, d2, o.drop.dp e1, o.dp e2, h.1, h.2, q _ H o.drop.drop.atom_push⟩
    · cases e
  · cases e
theorem rf_ne : RF X.K g neT (rNeD X.K) := by
  intro H tx ty x y t ts vs Q e o q
  unfold neT at e
  split at e
  · rename_i d1 d2 e1 e2
    split at e
    · rename_i h
      cases e
      exact ⟨d1, d2, o.drop.dp e1, o.dp e2, h.1, h.2, q _ H o.drop.drop.atom_push⟩
    · cases e
  · cases e
theorem Ok.val {K : PySem.W.Frag} {H : Hp} {t : T} {v : V} {ts : List T} {vs : List V} (o : Ok K g H (t :: ts) (v :: vs)) : (∃ w, t = .atom w ∧ v = w) ∨ t = .hole ∨ ∃ a, v = .ref a := by
  cases t with
  | hole => exact .inr (.inl rfl)
  | atom w => exact .inl ⟨w, rfl, o.atom_eq⟩
  | tup xs => obtain ⟨a, us, rfl, _⟩ := o.tup_open; exact .inr (.inr ⟨a, rfl⟩)
  | lst b xs => obtain ⟨a, us, rfl, _⟩ := o.lst_open; exact .inr (.inr ⟨a, rfl⟩)
  | ro xs => obtain ⟨a, us, rfl, _⟩ := o.ro_open; exact .inr (.inr ⟨a, rfl⟩)
  | dct b ks xs => obtain ⟨a, us, rfl, _⟩ := o.dct_open; exact .inr (.inr ⟨a, rfl⟩)
  | obj C fs xs =>
    obtain ⟨I, h, o⟩ := o
    have q := o.own
    simp only [Owns, Own] at q
    obtain ⟨h1, h2, j, ⟨a, _, _, _, e, _⟩, _⟩ := q
    exact .inr (.inr ⟨a, e⟩)
def rIsN : R2 := fun x y H Q => y = .non ∧ Q (.bl (decide (x = .non))) H
def rNotN : R2 := fun x y H Q => y = .non ∧ Q (.bl (!decide (x = .non))) H
theorem opr_is : OpR X (compareOp .Is) rIsN := op_isN
theorem opr_isnt : OpR X (compareOp .IsNot) rNotN := op_notN
theorem isN_of {H : Hp} {tx ty : T} {x y : V} {ts : List T} {vs : List V} {t : T} (e : isNT tx ty = some t) (o : Ok X.K g H (ty :: tx :: ts) (y :: x :: vs)) : y = .non ∧ t = .atom (.bl (decide (x = .non))) := by
  unfold isNT at e
  split at e
  · cases e; rw [o.drop.atom_eq]; exact ⟨o.atom_eq, rfl⟩
  all_goals first
    | (cases e
       refine ⟨o.atom_eq, ?_⟩
       rcases o.drop.val with ⟨w, h, _⟩ | h | ⟨a, h⟩
       · cases h
       · cases h
       · rw [h]; rfl)
    | cases e
theorem rf_is : RF X.K g isNT rIsN := by
  intro H tx ty x y t ts vs Q e o q
  obtain ⟨h1, rfl⟩ := isN_of e o
  exact ⟨h1, q _ H o.drop.drop.atom_push⟩
theorem rf_isnt : RF X.K g notNT rNotN := by
  intro H tx ty x y t ts vs Q e o q
  unfold notNT at e
  split at e
  · rename_i b e1
    cases e
    obtain ⟨h1, h2⟩ := isN_of e1 o
    cases h2
    exact ⟨h1, q _ H o.drop.drop.atom_push⟩
  · cases e
end
end VS
/-! FW6: tests, statements, loops. -/
namespace VS
open PySem L2

/-! ### truth, tests -/
def T.tru : T → Option Bool
  | .atom .non => some false
  | .atom (.bl b) => some b
  | .atom (.int i) => some (i != 0)
  | .atom (.str y) => if y.length ≤ sizeLine then some ((y.length : Int) != 0) else none
  | .tup ts => some (!ts.isEmpty)
  | .lst _ ts => some (!ts.isEmpty)
  | .ro ts => some (!ts.isEmpty)
  | .dct _ ks _ => some (!ks.isEmpty)
  | _ => none
theorem isEmpty_len {α β : Type} {xs : List α} {ys : List β} (h : xs.length = ys.length) : xs.isEmpty = ys.isEmpty := by
  cases xs <;> cases ys <;> first | rfl | simp at h
section
variable {X : Cx} {g : G}
theorem tru_of {K : PySem.W.Frag} {H : Hp} {t : T} {v : V} {ts : List T} {vs : List V} {b : Bool} (o : Ok K g H (t :: ts) (v :: vs)) (e : t.tru = some b) : TruV K v H b := by
  unfold T.tru at e
  split at e
  · cases e; rw [o.atom_eq]; rfl
  · cases e; rw [o.atom_eq]; rfl
  · cases e; rw [o.atom_eq]; rfl
  · split at e
    · rename_i h
      cases e; rw [o.atom_eq]; exact ⟨h, rfl⟩
    · cases e
  · cases e
    obtain ⟨a, us, rfl, l, h, _⟩ := o.tup_open
    exact .inr (.inl ⟨us, h, by rw [isEmpty_len l]⟩)
  · cases e
    obtain ⟨a, us, rfl, l, h, _⟩ := o.lst_open
    exact .inl ⟨us, .inl (.inl h), by rw [isEmpty_len l]⟩
  · cases e
    obtain ⟨a, us, rfl, l, h, _⟩ := o.ro_open
    exact .inl ⟨us, h, by rw [isEmpty_len l]⟩
  · cases e
    rename_i ks xs
    obtain ⟨a, us, rfl, l, lk, nd, h, _⟩ := o.dct_open
    refine .inr (.inr ⟨_, h, ?_⟩)
    rw [isEmpty_len (xs := ks) (ys := ks.zip us) (by rw [List.length_zip, lk, l]; simp)]
  · cases e
def truM (m : M T) : M Bool := M.bind m fun t => M.lift t.tru
theorem vt_tru {e : Expr} {m : M T} (h : PE X e (tV X.K g m)) (he : ∀ whole, isTrue e X.env whole = (do let v ← whole; standAt e.pos; holding [v] (truthy v)) := by intro _; rfl) : PT X e (tBo X.K g (truM m)) :=
  PT.weak (pt_truth h he) fun σ H Q ⟨ρ, ts, vs, S, q⟩ => go S q fun t ρ1 v H1 S1 q1 => by
    obtain ⟨b, e, q2⟩ := Aft.lift q1
    exact ⟨b, tru_of (by simpa using S1.flip) e, q2 H1 (S1.tmp fun rs ws o => o.drop)⟩
def andB (a b : M Bool) : M Bool := M.bind a fun x => if x = true then b else M.pure false
def orB (a b : M Bool) : M Bool := M.bind a fun x => if x = true then M.pure true else b
def notB (a : M Bool) : M Bool := M.bind a fun x => M.pure (!x)
theorem PW.weak {X : Cx} {e : Expr} {t t' : TT} (h : PW X e t) (w : ∀ σ H Q, t' σ H Q → t σ H Q) : PW X e t' := ⟨fun wh pins s σ H Q I q => h.run wh pins s σ H Q I (w σ H Q q)⟩
theorem vw_and {a b : Expr} {rest : List Expr} {pos : Pos} {ma mb : M Bool} (ha : PT X a (tBo X.K g ma)) (hb : PW X (.BoolOp .And (b :: rest) pos) (tBo X.K g mb)) : PW X (.BoolOp .And (a :: b :: rest) pos) (tBo X.K g (andB ma mb)) :=
  PW.weak (pw_and ha hb) fun σ H Q ⟨ρ, ts, vs, S, q⟩ => goB S q fun c ρ1 H1 S1 q1 => by
    cases c with
    | true => exact ⟨ρ1, ts, vs, S1, q1⟩
    | false => exact q1 H1 S1
theorem vw_or {a b : Expr} {rest : List Expr} {pos : Pos} {ma mb : M Bool} (ha : PT X a (tBo X.K g ma)) (hb : PW X (.BoolOp .Or (b :: rest) pos) (tBo X.K g mb)) : PW X (.BoolOp .Or (a :: b :: rest) pos) (tBo X.K g (orB ma mb)) :=
  PW.weak (pw_or ha hb) fun σ H Q ⟨ρ, ts, vs, S, q⟩ => goB S q fun c ρ1 H1 S1 q1 => by
    cases c with
    | true => exact q1 H1 S1
    | false => exact ⟨ρ1, ts, vs, S1, q1⟩
theorem vt_not {a : Expr} {pos : Pos} {ma : M Bool} (ha : PT X a (tBo X.K g ma)) : PT X (.UnaryOp .Not a pos) (tBo X.K g (notB ma)) :=
  PT.weak (pt_not ha) fun σ H Q ⟨ρ, ts, vs, S, q⟩ => goB S q fun c ρ1 H1 S1 q1 => q1 H1 S1
def chainM (F F' : T → T → Option T) (a b c : M T) : M T := M.bind a fun x => M.bind b fun y => M.bind (M.lift (F x y)) fun r => M.bind (M.lift r.bool?) fun k =>
  if k = true then (if y.imm = true then M.bind c fun z => M.lift (F' y z) else M.no) else M.pure (.atom (.bl false))
theorem chain_weak {F F' : T → T → Option T} {r r' : R2} {sa sb sc : M T} (hr : RF X.K g F r) (hr' : RF X.K g F' r') {σ : L2.St} {H : Hp} (Q : VK) : tV X.K g (chainM F F' sa sb sc) σ H Q → tChain r r' (tV X.K g sa) (tV X.K g sb) (tV X.K g sc) σ H Q :=
  fun ⟨ρ, ts, vs, S, q⟩ => go S q fun tx ρ1 x H1 S1 q1 => go S1 q1 fun ty ρ2 y H2 S2 q2 => by
    obtain ⟨t, e, q3⟩ := Aft.lift q2.bind
    obtain ⟨k, ek, q4⟩ := Aft.lift q3.bind
    have et := bool?_eq ek
    subst et
    by_cases im : ty.imm = true
    · -- the second value is kept beside
      have S2' : Sg X.K g σ H2 ρ2 (ty :: tx :: ty :: ts) (y :: x :: y :: vs) := S2.tmp fun rs ws o => by
        have o1 := Ok.dup o im
        exact o1.ent (Ent.cons Ent.swap)
      refine hr H2 tx ty x y _ (ty :: ts ++ ρ2) (y :: vs ++ sl σ) _ e (by simpa using S2'.flip) fun v H3 o3 => ?_
      have S3 : Sg X.K g σ H3 ρ2 (.atom (.bl k) :: ty :: ts) (v :: y :: vs) := S2'.re (by simpa using o3)
      have ev : v = .bl k := Ok.atom_eq (by simpa using S3.flip)
      subst ev
      refine ⟨k, rfl, ?_⟩
      have S4 : Sg X.K g σ H3 ρ2 (ty :: ts) (y :: vs) := S3.tmp fun rs ws o => o.drop
      cases k with
      | true =>
        rw [if_pos rfl] at q4 ⊢
        rw [if_pos im] at q4
        exact go S4 q4 fun tz ρ3 z H4 S5 q5 => by
          obtain ⟨t, e5, q6⟩ := Aft.lift q5
          exact hr' H4 ty tz y z t (ts ++ ρ3) (vs ++ sl σ) Q e5 (by simpa using S5.flip) fun v H5 o5 => q6 v H5 (S5.re (by simpa using o5))
      | false =>
        rw [if_neg (by decide)] at q4 ⊢
        exact q4 _ H3 (S4.tmp fun rs ws o => o.drop.atom_push)
    · refine hr H2 tx ty x y _ (ts ++ ρ2) (vs ++ sl σ) _ e (by simpa using S2.flip) fun v H3 o3 => ?_
      have S3 : Sg X.K g σ H3 ρ2 (.atom (.bl k) :: ts) (v :: vs) := S2.re (by simpa using o3)
      have ev : v = .bl k := Ok.atom_eq (by simpa using S3.flip)
      subst ev
      refine ⟨k, rfl, ?_⟩
      cases k with
      | true =>
        rw [if_pos rfl, if_neg im] at q4
        exact q4.elim
      | false =>
        rw [if_neg (by decide)] at q4 ⊢
        exact q4 _ H3 S3
theorem ve_chain {op op' : CmpOp} {F F' : T → T → Option T} {r r' : R2} {a b c : Expr} {pos : Pos} {sa sb sc : M T} (ho : OpR X (compareOp op) r) (hr : RF X.K g F r) (ho' : OpR X (compareOp op') r') (hr' : RF X.K g F' r') (ha : PE X a (tV X.K g sa)) (hb : PE X b (tV X.K g sb)) (hc : PE X c (tV X.K g sc))
    (hm : lastMarks [op, op'] [b, c] = false := by with_unfolding_all rfl) : PE X (.Compare a [op, op'] [b, c] pos) (tV X.K g (chainM F F' sa sb sc)) :=
  PE.weak (pe_chain ho ho' ha hb hc hm) fun σ H Q h => chain_weak hr hr' Q h
def boolM (m : M T) : M Bool := M.bind m fun t => M.lift t.bool?
theorem vt_chain {op op' : CmpOp} {F F' : T → T → Option T} {r r' : R2} {a b c : Expr} {pos : Pos} {sa sb sc : M T} (ho : OpR X (compareOp op) r) (hr : RF X.K g F r) (ho' : OpR X (compareOp op') r') (hr' : RF X.K g F' r') (ha : PE X a (tV X.K g sa)) (hb : PE X b (tV X.K g sb)) (hc : PE X c (tV X.K g sc))
    (hm : lastMarks [op, op'] [b, c] = false := by with_unfolding_all rfl) : PT X (.Compare a [op, op'] [b, c] pos) (tBo X.K g (boolM (chainM F F' sa sb sc))) := by
  refine PT.weak (pt_chain ho ho' ha hb hc hm) fun σ H Q ⟨ρ, ts, vs, S, q⟩ => ?_
  -- the value's reading, with its answer as a test
  have key : ∀ (Q : VK), tV X.K g (chainM F F' sa sb sc) σ H Q → tChain r r' (tV X.K g sa) (tV X.K g sb) (tV X.K g sc) σ H Q := chain_weak hr hr'
  refine key _ (go S q fun t ρ1 v H1 S1 q1 => ?_)
  obtain ⟨b, e, q2⟩ := Aft.lift q1
  have et := bool?_eq e
  subst et
  have ev : v = .bl b := Ok.atom_eq (by simpa using S1.flip)
  exact ⟨b, ev, q2 H1 (S1.tmp fun rs ws o => o.drop)⟩

/-! ### values by truth -/
def andV (a b : M T) : M T := M.bind a fun x => M.bind (M.lift x.tru) fun k => if k = true then b else M.pure x
def orV (a b : M T) : M T := M.bind a fun x => M.bind (M.lift x.tru) fun k => if k = true then M.pure x else b
def notV (a : M T) : M T := M.bind a fun x => M.bind (M.lift x.tru) fun k => M.pure (.atom (.bl (!k)))
theorem ve_and {a b : Expr} {rest : List Expr} {pos : Pos} {ma mb : M T} (ha : PE X a (tV X.K g ma)) (hb : PE X (.BoolOp .And (b :: rest) pos) (tV X.K g mb)) : PE X (.BoolOp .And (a :: b :: rest) pos) (tV X.K g (andV ma mb)) :=
  PE.weak (pe_andT ha hb) fun σ H Q ⟨ρ, ts, vs, S, q⟩ => go S q fun t ρ1 v H1 S1 q1 => by
    obtain ⟨k, e, q2⟩ := Aft.lift q1.bind
    refine ⟨k, tru_of (by simpa using S1.flip) e, ?_⟩
    cases k with
    | true => exact ⟨ρ1, ts, vs, S1.tmp fun rs ws o => o.drop, q2⟩
    | false => exact q2 v H1 S1
theorem ve_or {a b : Expr} {rest : List Expr} {pos : Pos} {ma mb : M T} (ha : PE X a (tV X.K g ma)) (hb : PE X (.BoolOp .Or (b :: rest) pos) (tV X.K g mb)) : PE X (.BoolOp .Or (a :: b :: rest) pos) (tV X.K g (orV ma mb)) :=
  PE.weak (pe_orT ha hb) fun σ H Q ⟨ρ, ts, vs, S, q⟩ => go S q fun t ρ1 v H1 S1 q1 => by
    obtain ⟨k, e, q2⟩ := Aft.lift q1.bind
    refine ⟨k, tru_of (by simpa using S1.flip) e, ?_⟩
    cases k with
    | true => exact q2 v H1 S1
    | false => exact ⟨ρ1, ts, vs, S1.tmp fun rs ws o => o.drop, q2⟩
theorem ve_one {op : BoolOp} {a : Expr} {pos : Pos} {ma : M T} (ha : PE X a (tV X.K g ma)) : PE X (.BoolOp op [a] pos) (tV X.K g ma) := pe_one ha
theorem ve_not {a : Expr} {pos : Pos} {ma : M T} (ha : PE X a (tV X.K g ma)) : PE X (.UnaryOp .Not a pos) (tV X.K g (notV ma)) :=
  PE.weak (pe_notT ha) fun σ H Q ⟨ρ, ts, vs, S, q⟩ => go S q fun t ρ1 v H1 S1 q1 => by
    obtain ⟨k, e, q2⟩ := Aft.lift q1.bind
    exact ⟨k, tru_of (by simpa using S1.flip) e, q2 _ H1 (S1.tmp fun rs ws o => o.drop.atom_push)⟩
def ifV (c : M Bool) (a b : M T) : M T := M.bind c fun k => if k = true then a else b
theorem ve_if {c a b : Expr} {pos : Pos} {mc : M Bool} {ma mb : M T} (hc : PT X c (tBo X.K g mc)) (ha : PE X a (tV X.K g ma)) (hb : PE X b (tV X.K g mb)) : PE X (.IfExp c a b pos) (tV X.K g (ifV mc ma mb)) :=
  PE.weak (pe_ifExp hc ha hb) fun σ H Q ⟨ρ, ts, vs, S, q⟩ => goB S q fun k ρ1 H1 S1 q1 => by
    cases k with
    | true => exact ⟨ρ1, ts, vs, S1, q1⟩
    | false => exact ⟨ρ1, ts, vs, S1, q1⟩
def negV (a : M T) : M T := M.bind a fun x => M.lift (match x with | .atom (.int i) => some (.atom (.int (-i))) | _ => none)
theorem ve_neg {a : Expr} {pos : Pos} {ma : M T} (ha : PE X a (tV X.K g ma)) : PE X (.UnaryOp .USub a pos) (tV X.K g (negV ma)) :=
  PE.weak (pe_un un_neg ha) fun σ H Q ⟨ρ, ts, vs, S, q⟩ => go S q fun t ρ1 v H1 S1 q1 => by
    obtain ⟨u, e, q2⟩ := Aft.lift q1
    split at e
    · rename_i i
      cases e
      exact ⟨i, Ok.atom_eq (by simpa using S1.flip), q2 _ H1 (S1.tmp fun rs ws o => o.drop.atom_push)⟩
    · cases e

/-! ### displays -/
def nilA : M (List T) := M.pure []
def consA (a : M T) (r : M (List T)) : M (List T) := M.bind a fun x => M.bind r fun xs => M.pure (x :: xs)
theorem va_nil : PA X [] (tAr X.K g nilA) := PA.weak pa_nil fun σ H Q ⟨ρ, ts, vs, S, q⟩ => q [] H rfl S
theorem va_cons {e : Expr} {es : List Expr} {a : M T} {r : M (List T)} (ha : PE X e (tV X.K g a)) (hr : PA X es (tAr X.K g r)) (hs : starEach (e :: es) X.env = (false, eval e X.env) :: starEach es X.env := by rfl) : PA X (e :: es) (tAr X.K g (consA a r)) :=
  PA.weak (pa_cons ha hr hs) fun σ H Q ⟨ρ, ts, vs, S, q⟩ => go S q fun x ρ1 v H1 S1 q1 => goA S1 q1 fun xs ρ2 us H2 l S2 q2 => by
    refine q2 (v :: us) H2 (by simp [l]) (S2.tmp fun rs ws o => ?_)
    have := o.ent (ts := (xs ++ x :: ts) ++ rs) (by simpa using Ent.rot (xs := xs) (us := us) (ys := [x]) (ws := [v]) (zs := ts ++ rs) (vs := vs ++ ws) l rfl)
    simpa using this
def tupM (r : M (List T)) : M T := M.bind r fun xs => if xs.length ≤ 1000000 then M.pure (.tup xs) else M.no
def lstM (r : M (List T)) : M T := M.bind r fun xs => if xs.length ≤ 1000000 then M.pure (.lst true xs) else M.no
theorem mil {n : Nat} (h : n ≤ 1000000) : n ≤ sizeLine := Nat.le_trans h (by decide)
theorem ve_tup {x1} {es : List Expr} {pos : Pos} {r : M (List T)} (h : PA X es (tAr X.K g r)) : PE X (.Tuple es x1 pos) (tV X.K g (tupM r)) :=
  PE.weak (pe_tup h) fun σ H Q ⟨ρ, ts, vs, S, q⟩ => goA S q fun xs ρ1 us H1 l S1 q1 => by
    split at q1
    · rename_i hl
      refine ⟨mil (by omega), fun p hp => q1 _ _ (S1.tmp fun rs ws o => ?_)⟩
      exact Ok.new_tup (xs := xs) (us := us) (ts := ts ++ rs) (vs := vs ++ ws) (by simpa using o) l hp
    · exact q1.elim
theorem ve_lst {es : List Expr} {pos : Pos} {r : M (List T)} (h : PA X es (tAr X.K g r)) : PE X (.List es pos) (tV X.K g (lstM r)) :=
  PE.weak (pe_lst h) fun σ H Q ⟨ρ, ts, vs, S, q⟩ => goA S q fun xs ρ1 us H1 l S1 q1 => by
    split at q1
    · rename_i hl
      refine ⟨mil (by omega), fun p hp => q1 _ _ (S1.tmp fun rs ws o => ?_)⟩
      exact Ok.new_lst (xs := xs) (us := us) (ts := ts ++ rs) (vs := vs ++ ws) (by simpa using o) l hp
    · exact q1.elim

/-! ### statements -/
def seqM (a b : M Ctl) : M Ctl := M.bind a fun c => match c with
  | .nx => b
  | c => M.pure c
theorem vss_nil : PSs X [] (tSt X.K g (M.pure .nx)) := PSs.weak pss_nil fun D σ H ⟨ρ, ts, vs, S, q⟩ => q σ H S
theorem vss_one {st : Stmt} {a : M Ctl} (h : PS X st (tSt X.K g a)) : PSs X [st] (tSt X.K g a) := pss_one h
theorem vss_cons {st : Stmt} {rest : List Stmt} {a b : M Ctl} (h1 : PS X st (tSt X.K g a)) (h2 : PSs X rest (tSt X.K g b)) : PSs X (st :: rest) (tSt X.K g (seqM a b)) :=
  PSs.weak (pss_cons h1 h2) fun D σ H ⟨ρ, ts, vs, S, q⟩ => by
    refine ⟨ρ, ts, vs, S, q.bind.mono fun c ρ1 q1 => ?_⟩
    cases c with
    | nx => exact fun σ' H' S' => ⟨ρ1, ts, vs, S', q1⟩
    | rt t => exact q1
    | bk => exact q1
    | ct => exact q1
def setv (i : Nat) (t : T) : M Unit := fun ρ => if i < ρ.length then .ok () (ρ.set i t) else .no
def asgM (e : M T) (a : T → M Unit) : M Ctl := M.bind e fun t => M.bind (a t) fun _ => M.pure .nx
theorem vg_name (i : Nat) {x : Str} {pos : Pos} (h : PG X (.Name x pos) (gName i)) (hp : g.pins.all (fun p => p.1 != i) = true := by rfl) : PG X (.Name x pos) (tTg X.K g (setv i)) :=
  PG.weak h fun v σ H Q ⟨ρ, ts, vs, t, S, q⟩ => by
    unfold setv at q
    split at q
    · rename_i hi
      exact q _ H (S.put hi hp)
    · exact q.elim
theorem tAsg_weak {e : M T} {a : T → M Unit} (D : Ends) (σ : L2.St) (H : Hp) (h : tSt X.K g (asgM e a) D σ H) : tAsg (tV X.K g e) (tTg X.K g a) D σ H := by
  obtain ⟨ρ, ts, vs, S, q⟩ := h
  exact go S q fun t ρ1 v H1 S1 q1 => ⟨ρ1, ts, vs, t, S1, q1.bind.mono fun _ ρ2 q2 σ' H' S' => q2 σ' H' S'⟩
theorem vs_asg {st : Stmt} {e : M T} {a : T → M Unit} (h : PS X st (tAsg (tV X.K g e) (tTg X.K g a))) : PS X st (tSt X.K g (asgM e a)) := PS.weak h tAsg_weak
theorem vs_set {i : Nat} {st : Stmt} {e : M T} (h : PS X st (tAsg (tV X.K g e) (gName i))) (hp : g.pins.all (fun p => p.1 != i) = true := by rfl) : PS X st (tSt X.K g (asgM e (setv i))) := PS.weak h fun D σ H ⟨ρ, ts, vs, S, q⟩ => go S q fun t ρ1 v H1 S1 q1 => by
  have q2 := Aft.bind q1
  unfold setv at q2
  split at q2
  · rename_i hi
    exact q2 _ H1 (S1.put hi hp)
  · exact q2.elim
/-- the targets of a tuple, one after another -/
def tTgs (K : PySem.W.Frag) (g : G) (f : List T → M Unit) : TGs := fun us σ H Q => ∃ ρ xs ts vs, xs.length = us.length ∧ Sg K g σ H ρ (xs ++ ts) (us ++ vs) ∧ Aft (f xs ρ) fun _ ρ' => ∀ σ' H', Sg K g σ' H' ρ' ts vs → Q σ' H'
def gnil : List T → M Unit
  | [] => M.pure ()
  | _ => M.no
def gcons (a : T → M Unit) (f : List T → M Unit) : List T → M Unit
  | [] => M.no
  | x :: xs => M.bind (a x) fun _ => f xs
theorem PGs.weak {X : Cx} {e : List Expr} {t t' : TGs} (h : PGs X e t) (w : ∀ v σ H Q, t' v σ H Q → t v σ H Q) : PGs X e t' := ⟨fun pins s σ H v u Q I r q => h.run pins s σ H v u Q I r (w v σ H Q q)⟩
theorem vgs_nil : PGs X [] (tTgs X.K g gnil) := PGs.weak pgs_nil fun us σ H Q ⟨ρ, xs, ts, vs, l, S, q⟩ => by
  cases xs with
  | nil => cases us with
    | nil => exact ⟨rfl, q σ H S⟩
    | cons _ _ => cases l
  | cons _ _ => exact q.elim
theorem vgs_cons {e : Expr} {es : List Expr} {a : T → M Unit} {f : List T → M Unit} (h1 : PG X e (tTg X.K g a)) (h2 : PGs X es (tTgs X.K g f))
    (hs : (assignEach (e :: es) X.env).map (·.2) = assign e X.env :: (assignEach es X.env).map (·.2) := by rfl) : PGs X (e :: es) (tTgs X.K g (gcons a f)) :=
  PGs.weak (pgs_cons h1 h2 hs) fun us σ H Q ⟨ρ, xs, ts, vs, l, S, q⟩ => by
    cases xs with
    | nil => exact q.elim
    | cons x xs =>
      cases us with
      | nil => cases l
      | cons v us =>
        refine ⟨v, us, rfl, ρ, xs ++ ts, us ++ vs, x, S, Aft.mono (Aft.bind q) fun _ ρ1 q1 σ' H' S' => ?_⟩
        exact ⟨ρ1, xs, ts, vs, by simpa using l, S', q1⟩
def gtup (n : Nat) (f : List T → M Unit) : T → M Unit
  | .tup xs => if xs.length = n then f xs else M.no
  | _ => M.no
theorem vg_tup {es : List Expr} {k : Nat} {pos : Pos} {f : List T → M Unit} {n : Nat} (hc : X.calm = true) (h : PGs X es (tTgs X.K g f))
    (hn : (assignEach es X.env).length = n := by rfl) (hst : (assignEach es X.env).findIdx? (·.1) = none := by rfl) : PG X (.Tuple es k pos) (tTg X.K g (gtup n f)) :=
  PG.weak (pg_tup hc h hn hst) fun v σ H Q ⟨ρ, ts, vs, t, S, q⟩ => by
    cases t with
    | tup xs =>
      simp only [gtup] at q
      split at q
      · rename_i hl
        obtain ⟨a, us, rfl, l, hq, o⟩ := Ok.tup_open (by simpa using S.flip)
        exact ⟨a, us, rfl, hq, by rw [← l]; exact hl, ρ, xs, ts, vs, l, S.re (by simpa using o), q⟩
      · exact q.elim
    | _ => exact q.elim
def retM (e : M T) : M Ctl := M.bind e fun t => M.pure (.rt t)
theorem vs_ret {e : Expr} {pos : Pos} {m : M T} (h : PE X e (tV X.K g m)) : PS X (.Return (some e) pos) (tSt X.K g (retM m)) :=
  PS.weak (ps_ret h) fun D σ H ⟨ρ, ts, vs, S, q⟩ => go S q fun t ρ1 v H1 S1 q1 => q1 v σ H1 S1
theorem vs_retN {pos : Pos} : PS X (.Return none pos) (tSt X.K g (M.pure (.rt (.atom .non)))) :=
  PS.weak ps_retN fun D σ H ⟨ρ, ts, vs, S, q⟩ => q _ σ H (S.tmp fun rs ws o => o.atom_push)
def drpM (e : M T) : M Ctl := M.bind e fun _ => M.pure .nx
theorem vs_expr {st : Stmt} {m : M T} (h : PS X st (tDrop (tV X.K g m))) : PS X st (tSt X.K g (drpM m)) :=
  PS.weak h fun D σ H ⟨ρ, ts, vs, S, q⟩ => go S q fun t ρ1 v H1 S1 q1 => q1 σ H1 (S1.tmp fun rs ws o => o.drop)
def ifM (c : M Bool) (a b : M Ctl) : M Ctl := M.bind c fun k => if k = true then a else b
theorem vs_if {c : Expr} {a b : List Stmt} {pos : Pos} {mc : M Bool} {ma mb : M Ctl} (hc : PT X c (tBo X.K g mc)) (ha : PSs X a (tSt X.K g ma)) (hb : PSs X b (tSt X.K g mb)) : PS X (.If c a b pos) (tSt X.K g (ifM mc ma mb)) :=
  PS.weak (ps_if hc ha hb) fun D σ H ⟨ρ, ts, vs, S, q⟩ => goB S q fun k ρ1 H1 S1 q1 => by
    cases k with
    | true => exact ⟨ρ1, ts, vs, S1, q1⟩
    | false => exact ⟨ρ1, ts, vs, S1, q1⟩
theorem vs_pass {pos : Pos} : PS X (.Pass pos) (tSt X.K g (M.pure .nx)) := PS.weak ps_pass fun D σ H ⟨ρ, ts, vs, S, q⟩ => q σ H S
theorem vs_break {pos : Pos} : PS X (.Break pos) (tSt X.K g (M.pure .bk)) := PS.weak ps_break fun D σ H ⟨ρ, ts, vs, S, q⟩ => q σ H S
theorem vs_continue {pos : Pos} : PS X (.Continue pos) (tSt X.K g (M.pure .ct)) := PS.weak ps_continue fun D σ H ⟨ρ, ts, vs, S, q⟩ => q σ H S
theorem vs_never {st : Stmt} : PS X st (tSt X.K g M.no) := PS.weak ps_never fun D σ H ⟨ρ, ts, vs, S, q⟩ => q
/-- x += e, numbers -/
def augM (i : Nat) (e : M T) : M Ctl := M.bind (cpv i) fun x => M.bind e fun y => match x, y with
  | .atom (.int a), .atom (.int b) => M.bind (setv i (.atom (.int (a + b)))) fun _ => M.pure .nx
  | _, _ => M.no
end
end VS
/-! FW7: what is walked, for, while, comprehensions. -/
namespace VS
open PySem L2

theorem Ent.drops {ts : List T} {vs : List V} : ∀ {xs : List T} {us : List V}, xs.length = us.length → Ent (xs ++ ts) (us ++ vs) ts vs
  | [], [], _ => Ent.refl
  | _ :: _, _ :: _, e => Ent.drop.trans (Ent.drops (by simpa using e))
theorem owns_at {K : PySem.W.Frag} {I : Hp} : ∀ {xs : List T} {us : List V} {h : Hp} {i : Nat} {x : T}, Owns K I xs us h → xs[i]? = some x → ∃ v h1, us[i]? = some v ∧ Sub h1 h ∧ Own K I x v h1
  | [], _, _, _, _, _, e => by simp at e
  | _ :: _, [], _, _, _, q, _ => by simp only [Owns] at q
  | t :: ts, v :: vs, h, 0, x, q, e => by
    simp only [Owns] at q
    obtain ⟨h1, h2, j, a, b⟩ := q
    simp at e
    subst e
    exact ⟨v, h1, rfl, j.l, a⟩
  | t :: ts, v :: vs, h, i + 1, x, q, e => by
    simp only [Owns] at q
    obtain ⟨h1, h2, j, a, b⟩ := q
    obtain ⟨w, h3, e1, s, o⟩ := owns_at (i := i) b (by simpa using e)
    exact ⟨w, h3, by simpa using e1, s.trans j.r, o⟩
theorem imms_at : ∀ {xs : List T} {i : Nat} {x : T}, T.imms xs = true → xs[i]? = some x → x.imm = true
  | [], _, _, _, e => by simp at e
  | t :: ts, 0, x, h, e => by
    simp only [T.imms, Bool.and_eq_true] at h
    simp at e; subst e; exact h.1
  | t :: ts, i + 1, x, h, e => by
    simp only [T.imms, Bool.and_eq_true] at h
    exact imms_at h.2 (by simpa using e)
/-- an item of a copyable list of values is had beside -/
theorem Ent.item {xs ts : List T} {us vs : List V} {i : Nat} {x : T} {v : V} (im : T.imms xs = true) (e : xs[i]? = some x) (ev : us[i]? = some v) (l : xs.length = us.length) : Ent (xs ++ ts) (us ++ vs) (x :: (xs ++ ts)) (v :: (us ++ vs)) := fun K I h q => by
  obtain ⟨h1, h2, j, q1, q2⟩ := (owns_app l).mp q
  obtain ⟨w, h3, e1, s, o⟩ := owns_at q1 e
  rw [ev] at e1; cases e1
  have em := own_imm (imms_at im e) o
  refine ⟨h, Sub.refl, ?_⟩
  simp only [Owns]
  exact ⟨h3, h, jn_emp em, o, q⟩

/-- J gives the things xs, one after another, as long as what src tells stands -/
def Walks (K : PySem.W.Frag) (g : G) (J : It) (xs src : List T) (srcv : List V) : Prop :=
  ∃ (Gd : Hp → Prop) (Y : Nat → Hp → V → Hp → Prop), Walk J xs.length Gd Y ∧ (∀ H rs ws, Ok K g H (src ++ rs) (srcv ++ ws) → Gd H) ∧
    ∀ i x, xs[i]? = some x → ∀ H v H' rs ws, Ok K g H (src ++ rs) (srcv ++ ws) → Y i H v H' → Ok K g H' (x :: (src ++ rs)) (v :: (srcv ++ ws))
def tIt (K : PySem.W.Frag) (g : G) (m : M (List T)) : TI := fun σ H R => ∃ ρ ts vs, Sg K g σ H ρ ts vs ∧ Aft (m ρ) fun xs ρ' => ∀ (J : It) (src : List T) (srcv : List V) H', src.length = srcv.length → Sg K g σ H' ρ' (src ++ ts) (srcv ++ vs) → Walks K g J xs src srcv → R J H'
theorem PI.weak {X : Cx} {tg e : Expr} {t t' : TI} (h : PI X tg e t) (w : ∀ σ H R, t' σ H R → t σ H R) : PI X tg e t' := ⟨fun pins s σ H R I q => h.run pins s σ H R I (w σ H R q)⟩
section
variable {X : Cx} {g : G}
/-- a frozen list's items -/
def itL : T → Option (List T)
  | .lst b xs => if T.colds xs = true ∧ T.imms (T.frzs xs) = true then some (T.frzs xs) else none
  | _ => none
def itT : T → Option (List T)
  | .tup xs => if T.imms xs = true then some xs else none
  | _ => none
def iterL (m : M T) : M (List T) := M.bind m fun t => M.lift (itL t)
def iterT (m : M T) : M (List T) := M.bind m fun t => M.lift (itT t)
theorem Ok.add {K : PySem.W.Frag} {H : Hp} {ts : List T} {vs : List V} {x : T} {v : V} {I h h1 : Hp} (o : OkW K g I h H ts vs) (q : Own K I x v h1) (im : x.imm = true) : Ok K g H (x :: ts) (v :: vs) := by
  refine ⟨I, h, ?_, o.dis, o.si, o.sh, o.ge, o.keep, o.dom⟩
  simp only [Owns]
  exact ⟨h1, h, jn_emp (own_imm im q), q, o.own⟩
/-- what a list holds: each copyable item can be had beside it -/
theorem Ok.lst_at {K : PySem.W.Frag} {H : Hp} {b : Bool} {xs ts : List T} {v : V} {vs : List V} (o : Ok K g H (.lst b xs :: ts) (v :: vs)) : ∃ a us, v = .ref a ∧ xs.length = us.length ∧ H a = some (.lst us) ∧
    ∀ (i : Nat) x w, xs[i]? = some x → x.imm = true → us[i]? = some w → Ok K g H (x :: .lst b xs :: ts) (w :: v :: vs) := by
  obtain ⟨I, h, o⟩ := o
  have q := o.own
  simp only [Owns, Own] at q
  obtain ⟨h1, h2, j, ⟨a, us, h3, e, y, z⟩, _⟩ := q
  refine ⟨a, us, e, owns_len y, ?_, fun i x w ex im ew => ?_⟩
  · cases b with
    | true => obtain ⟨_, rfl⟩ := z; exact o.sh _ _ (j.l _ _ upd_same)
    | false => exact o.si _ _ z.1
  · obtain ⟨w', h4, e1, _, q⟩ := owns_at y ex
    rw [ew] at e1; cases e1
    exact Ok.add o q im
theorem Ok.ro_at {K : PySem.W.Frag} {H : Hp} {xs ts : List T} {v : V} {vs : List V} (o : Ok K g H (.ro xs :: ts) (v :: vs)) : ∃ a us, v = .ref a ∧ xs.length = us.length ∧ SqL K H a us ∧
    ∀ (i : Nat) x w, xs[i]? = some x → x.imm = true → us[i]? = some w → Ok K g H (x :: .ro xs :: ts) (w :: v :: vs) := by
  obtain ⟨I, h, o⟩ := o
  have q := o.own
  simp only [Owns, Own] at q
  obtain ⟨h1, h2, j, ⟨a, us, e, z, y⟩, _⟩ := q
  refine ⟨a, us, e, owns_len y, sqL_mono o.si z, fun i x w ex im ew => ?_⟩
  obtain ⟨w', h4, e1, _, q⟩ := owns_at y ex
  rw [ew] at e1; cases e1
  exact Ok.add o q im
theorem Ok.tup_at {K : PySem.W.Frag} {H : Hp} {xs ts : List T} {v : V} {vs : List V} (o : Ok K g H (.tup xs :: ts) (v :: vs)) : ∃ a us, v = .ref a ∧ xs.length = us.length ∧ SqT K H a us ∧
    ∀ (i : Nat) x w, xs[i]? = some x → x.imm = true → us[i]? = some w → Ok K g H (x :: .tup xs :: ts) (w :: v :: vs) := by
  obtain ⟨I, h, o⟩ := o
  have q := o.own
  simp only [Owns, Own] at q
  obtain ⟨h1, h2, j, ⟨a, us, e, z, y⟩, _⟩ := q
  refine ⟨a, us, e, owns_len y, sqT_mono o.si z, fun i x w ex im ew => ?_⟩
  obtain ⟨w', h4, e1, _, q⟩ := owns_at y ex
  rw [ew] at e1; cases e1
  exact Ok.add o q im
theorem Ok.dct_at {K : PySem.W.Frag} {H : Hp} {b : Bool} {ks : List Key} {xs ts : List T} {v : V} {vs : List V} (o : Ok K g H (.dct b ks xs :: ts) (v :: vs)) : ∃ a us, v = .ref a ∧ xs.length = us.length ∧ ks.length = xs.length ∧ ks.Nodup ∧ H a = some (.dK (ks.zip us)) ∧
    ∀ (i : Nat) x w, xs[i]? = some x → x.imm = true → us[i]? = some w → Ok K g H (x :: .dct b ks xs :: ts) (w :: v :: vs) := by
  obtain ⟨I, h, o⟩ := o
  have q := o.own
  simp only [Owns, Own] at q
  obtain ⟨h1, h2, j, ⟨a, us, h3, e, lk, nd, y, z⟩, _⟩ := q
  refine ⟨a, us, e, owns_len y, lk, nd, ?_, fun i x w ex im ew => ?_⟩
  · cases b with
    | true => obtain ⟨_, rfl⟩ := z; exact o.sh _ _ (j.l _ _ upd_same)
    | false => exact o.si _ _ z.1
  · obtain ⟨w', h4, e1, _, q⟩ := owns_at y ex
    rw [ew] at e1; cases e1
    exact Ok.add o q im
theorem walks_list {K : PySem.W.Frag} {a : Addr} {b : Bool} {xs : List T} (im : T.imms xs = true) : Walks K g (Itl K a) xs [.lst b xs] [.ref a] := by
  refine ⟨fun H => ∃ us, SqL K H a us ∧ us.length = xs.length, fun i H x H' => (Itl K a).yld i H x H', ⟨fun i H hi ⟨us, q, l⟩ => ?_, fun H ⟨us, q, l⟩ => ⟨us, q, by omega⟩, fun _ _ _ _ _ _ y => y⟩, fun H rs ws o => ?_, fun i x hx H v H' rs ws o y => ?_⟩
  · exact ⟨us, us[i]'(by omega), q, by simp [l, hi]⟩
  · obtain ⟨a', us, e, l, h, _⟩ := Ok.lst_at o
    cases e
    exact ⟨us, .inl (.inl h), l.symm⟩
  · obtain ⟨a', us, e, l, h, f⟩ := Ok.lst_at o
    cases e
    obtain ⟨e1, y⟩ := y
    subst e1
    exact f i x v hx (imms_at im hx) (y us (.inl (.inl h)))
theorem walks_ro {K : PySem.W.Frag} {a : Addr} {xs : List T} (im : T.imms xs = true) : Walks K g (Itl K a) xs [.ro xs] [.ref a] := by
  refine ⟨fun H => ∃ us, SqL K H a us ∧ us.length = xs.length, fun i H x H' => (Itl K a).yld i H x H', ⟨fun i H hi ⟨us, q, l⟩ => ?_, fun H ⟨us, q, l⟩ => ⟨us, q, by omega⟩, fun _ _ _ _ _ _ y => y⟩, fun H rs ws o => ?_, fun i x hx H v H' rs ws o y => ?_⟩
  · exact ⟨us, us[i]'(by omega), q, by simp [l, hi]⟩
  · obtain ⟨a', us, e, l, h, _⟩ := Ok.ro_at o
    cases e
    exact ⟨us, h, l.symm⟩
  · obtain ⟨a', us, e, l, h, f⟩ := Ok.ro_at o
    cases e
    obtain ⟨e1, y⟩ := y
    subst e1
    exact f i x v hx (imms_at im hx) (y us h)
theorem walks_tup {K : PySem.W.Frag} {a : Addr} {xs : List T} (im : T.imms xs = true) : Walks K g (Itt K a) xs [.tup xs] [.ref a] := by
  refine ⟨fun H => ∃ us, SqT K H a us ∧ us.length = xs.length, fun i H x H' => (Itt K a).yld i H x H', ⟨fun i H hi ⟨us, q, l⟩ => ?_, fun H ⟨us, q, l⟩ => ⟨us, q, by omega⟩, fun _ _ _ _ _ _ y => y⟩, fun H rs ws o => ?_, fun i x hx H v H' rs ws o y => ?_⟩
  · exact ⟨us, us[i]'(by omega), q, by simp [l, hi]⟩
  · obtain ⟨a', us, e, l, h, _⟩ := Ok.tup_at o
    cases e
    exact ⟨us, h, l.symm⟩
  · obtain ⟨a', us, e, l, h, f⟩ := Ok.tup_at o
    cases e
    obtain ⟨e1, y⟩ := y
    subst e1
    exact f i x v hx (imms_at im hx) (y us h)
theorem walks_range {K : PySem.W.Frag} {lo : Int} {n : Nat} : Walks K g (Itr lo n) ((List.range n).map fun i => .atom (.int (lo + (i : Nat)))) [] [] := by
  refine ⟨fun _ => True, YFn fun i => .int (lo + i), by simpa using (walk_range (lo := lo) (n := n)), fun _ _ _ _ => trivial, fun i x hx H v H' rs ws o y => ?_⟩
  obtain ⟨e1, e2⟩ := y
  subst e1 e2
  rw [List.getElem?_map, Option.map_eq_some_iff] at hx
  obtain ⟨j, hj, rfl⟩ := hx
  have : j = i := by
    rw [List.getElem?_range] at hj
    · simpa using hj.symm
    · have := (List.getElem?_eq_some_iff.mp hj).1
      simpa using this
  subst this
  exact o.atom_push
theorem vi_list {tg e : Expr} {m : M T} (h : PE X e (tV X.K g m)) : PI X tg e (tIt X.K g (iterL m)) :=
  PI.weak (pi_list h) fun σ H R ⟨ρ, ts, vs, S, q⟩ => go S q fun t ρ1 v H1 S1 q1 => by
    obtain ⟨xs', e, q2⟩ := Aft.lift q1
    cases t with
    | lst b xs =>
      simp only [itL] at e
      split at e
      · rename_i hc
        cases e
        have S2 : Sg X.K g σ H1 ρ1 (.lst false (T.frzs xs) :: ts) (v :: vs) := S1.tmp fun rs ws o => by
          have := Ok.frz (t := .lst b xs) o (by simpa [T.cold] using hc.1)
          simpa [T.frz] using this
        obtain ⟨a, us, rfl, l, ha, _⟩ := Ok.lst_at (by simpa using S2.flip)
        exact ⟨a, rfl, ⟨us, .inl (.inl ha)⟩, q2 _ [.lst false (T.frzs xs)] [.ref a] H1 rfl S2 (walks_list hc.2)⟩
      · cases e
    | _ => cases e
theorem vi_tup {tg e : Expr} {m : M T} (h : PE X e (tV X.K g m)) : PI X tg e (tIt X.K g (iterT m)) :=
  PI.weak (pi_tup h) fun σ H R ⟨ρ, ts, vs, S, q⟩ => go S q fun t ρ1 v H1 S1 q1 => by
    obtain ⟨xs', e, q2⟩ := Aft.lift q1
    cases t with
    | tup xs =>
      simp only [itT] at e
      split at e
      · rename_i hc
        cases e
        obtain ⟨a, us, rfl, l, ha, _⟩ := Ok.tup_at (by simpa using S1.flip)
        exact ⟨a, rfl, ⟨us, ha⟩, q2 _ [.tup xs'] [.ref a] H1 rfl S1 (walks_tup hc)⟩
      · cases e
    | _ => cases e
def rangeL (lo hi : Int) : List T := (List.range (hi - lo).toNat).map fun i => .atom (.int (lo + (i : Nat)))
def rng1 (r : M (List T)) : M (List T) := M.bind r fun xs => match xs with
  | [.atom (.int n)] => if n < 2 ^ 62 ∧ -(2 ^ 62) ≤ n then M.pure (rangeL 0 n) else M.no
  | _ => M.no
def rng2 (r : M (List T)) : M (List T) := M.bind r fun xs => match xs with
  | [.atom (.int a), .atom (.int b)] => if -(2 ^ 62) ≤ a ∧ a < 2 ^ 62 ∧ -(2 ^ 62) ≤ b ∧ b < 2 ^ 62 then M.pure (rangeL a b) else M.no
  | _ => M.no
theorem vi_range1 {tg a : Expr} {p pos : Pos} {r : M (List T)} (hg : Gl X "range") (hm : X.mg "range" = none) (ha : PA X [a] (tAr X.K g r)) (hs : starEach [a] X.env = [(false, eval a X.env)] := by rfl) : PI X tg (.Call (.Name "range" p) [a] [] pos) (tIt X.K g (rng1 r)) :=
  PI.weak (pi_range1 hg hm ha hs) fun σ H R ⟨ρ, ts, vs, S, q⟩ => goA S q fun xs ρ1 us H1 l S1 q1 => by
    split at q1
    · rename_i n
      split at q1
      · rename_i hn
        obtain ⟨v, rfl⟩ : ∃ v, us = [v] := by
          match us, l with
          | [v], _ => exact ⟨v, rfl⟩
        have e : v = .int n := Ok.atom_eq (by simpa using S1.flip)
        subst e
        refine ⟨n, rfl, hn.2, hn.1, ?_⟩
        have := q1 (Itr 0 n.toNat) [] [] H1 rfl (S1.tmp fun rs ws o => by simpa using o.drop)
        exact this (by have := walks_range (g := g) (K := X.K) (lo := 0) (n := n.toNat); simpa [rangeL] using this)
      · exact q1.elim
    · exact q1.elim
theorem vi_range2 {tg a b : Expr} {p pos : Pos} {r : M (List T)} (hg : Gl X "range") (hm : X.mg "range" = none) (ha : PA X [a, b] (tAr X.K g r)) (hs : starEach [a, b] X.env = [(false, eval a X.env), (false, eval b X.env)] := by rfl) (hs2 : starEach [b] X.env = [(false, eval b X.env)] := by rfl) : PI X tg (.Call (.Name "range" p) [a, b] [] pos) (tIt X.K g (rng2 r)) :=
  PI.weak (pi_range2 hg hm ha hs hs2) fun σ H R ⟨ρ, ts, vs, S, q⟩ => goA S q fun xs ρ1 us H1 l S1 q1 => by
    split at q1
    · rename_i i j
      split at q1
      · rename_i hn
        obtain ⟨v, w, rfl⟩ : ∃ v w, us = [v, w] := by
          match us, l with
          | [v, w], _ => exact ⟨v, w, rfl⟩
        have e : v = .int i := Ok.atom_eq (by simpa using S1.flip)
        have e2 : w = .int j := Ok.atom_eq (Ok.drop (by simpa using S1.flip))
        subst e e2
        refine ⟨i, j, rfl, hn, ?_⟩
        have := q1 (Itr i (j - i).toNat) [] [] H1 rfl (S1.tmp fun rs ws o => by simpa using o.drop.drop)
        exact this (by have := walks_range (g := g) (K := X.K) (lo := i) (n := (j - i).toNat); simpa [rangeL] using this)
      · exact q1.elim
    · exact q1.elim

/-! ### for -/
def loopM : List T → (T → M Ctl) → M Ctl
  | [], _ => M.pure .nx
  | x :: xs, f => fun ρ => match f x ρ with
    | .no => .no
    | .ex n fs ρ' => .ex n fs ρ'
    | .ok .nx ρ' => loopM xs f ρ'
    | .ok .ct ρ' => loopM xs f ρ'
    | .ok .bk ρ' => .ok .nx ρ'
    | .ok (.rt t) ρ' => .ok (.rt t) ρ'
def forM (it : M (List T)) (a : T → M Unit) (b : M Ctl) : M Ctl := M.bind it fun xs => loopM xs fun x => M.bind (a x) fun _ => b
theorem CtlOk.sub {K : PySem.W.Frag} {D D' : Ends} {ts : List T} {vs : List V} {c : Ctl} {ρ' : Env} (h : CtlOk K g D ts vs c ρ') (h1 : ∀ σ H, D.nx σ H → D'.nx σ H) (h2 : ∀ v H, D.rt v H → D'.rt v H) (h3 : ∀ σ H, D.bk σ H → D'.bk σ H) (h4 : ∀ σ H, D.ct σ H → D'.ct σ H) : CtlOk K g D' ts vs c ρ' := by
  cases c with
  | nx => exact fun σ H s => h1 _ _ (h σ H s)
  | rt t => exact fun v σ H s => h2 _ _ (h v σ H s)
  | bk => exact fun σ H s => h3 _ _ (h σ H s)
  | ct => exact fun σ H s => h4 _ _ (h σ H s)
theorem vs_for {tg iter : Expr} {body : List Stmt} {pos : Pos} {it : M (List T)} {a : T → M Unit} {b : M Ctl} (hp : PassesOwn (model X.prog X.w) X.A X.env X.xe) (hc : X.calm = true) (hi : PI X tg iter (tIt X.K g it)) (hg : PG X tg (tTg X.K g a)) (hb : PSs X body (tSt X.K g b))
    (hs : ∀ x, foldedSetIterable iter X.env x = pure x := by intro _; rfl) : PS X (.For tg iter body [] pos) (tSt X.K g (forM it a b)) :=
  PS.weak (ps_for hp hc hi hg hb hs) fun D σ H ⟨ρ, ts, vs, S, q⟩ => by
    refine ⟨ρ, ts, vs, S, q.bind.mono fun xs ρ1 q1 J src srcv H1 lsrc S1 W => ?_⟩
    obtain ⟨Gd, Y, w, wG, wY⟩ := W
    have tl : ts.length = vs.length := S.tlen
    refine for_it w (fun i σ H => ∃ ρ, Sg X.K g σ H ρ (src ++ ts) (srcv ++ vs) ∧ Aft (loopM (xs.drop i) (fun x => M.bind (a x) fun _ => b) ρ) (CtlOk X.K g D ts vs)) ⟨ρ1, S1, by simpa using q1⟩ (fun i σ H _ ⟨ρ, S, _⟩ => ?_) (fun i x σ H H' hi ⟨ρ, S, q⟩ y => ?_) fun σ H ⟨ρ, S, q⟩ => ?_
    · have o := S.flip
      rw [List.append_assoc, List.append_assoc] at o
      exact wG H _ _ o
    · have hx : xs[i]? = some xs[i] := by simp [hi]
      generalize xs[i] = t at hx
      have hd : xs.drop i = t :: xs.drop (i + 1) := by
        obtain ⟨h1, h2⟩ := List.getElem?_eq_some_iff.mp hx
        rw [List.drop_eq_getElem_cons h1, h2]
      have S2 : Sg X.K g σ H' ρ (t :: (src ++ ts)) (x :: (srcv ++ vs)) := by
        have o := S.flip
        rw [List.append_assoc, List.append_assoc] at o
        have o2 := wY i t hx H x H' _ _ o y
        exact S.re (by simpa using o2)
      rw [hd] at q
      refine ⟨ρ, src ++ ts, srcv ++ vs, t, S2, ?_⟩
      unfold loopM at q
      have key : ∀ r : Res Unit, a t ρ = r → Aft r fun _ ρ' => ∀ σ' H'', Sg X.K g σ' H'' ρ' (src ++ ts) (srcv ++ vs) →
          tSt X.K g b { D with nx := fun σ H => ∃ ρ, Sg X.K g σ H ρ (src ++ ts) (srcv ++ vs) ∧ Aft (loopM (xs.drop (i + 1)) (fun x => M.bind (a x) fun _ => b) ρ) (CtlOk X.K g D ts vs), ct := fun σ H => ∃ ρ, Sg X.K g σ H ρ (src ++ ts) (srcv ++ vs) ∧ Aft (loopM (xs.drop (i + 1)) (fun x => M.bind (a x) fun _ => b) ρ) (CtlOk X.K g D ts vs), bk := D.nx } σ' H'' := by
        intro r er
        cases r with
        | no => simp [M.bind, er, Aft] at q
        | ex n fs ρ' => simp [M.bind, er, Aft] at q
        | ok u ρ' =>
          intro σ' H'' S'
          refine ⟨ρ', src ++ ts, srcv ++ vs, S', ?_⟩
          simp only [M.bind, er] at q
          cases eb : b ρ' with
          | no => rw [eb] at q; exact q.elim
          | ex n fs ρ' => rw [eb] at q; exact q.elim
          | ok c ρ2 =>
            rw [eb] at q
            have dropsrc : ∀ {σ H}, Sg X.K g σ H ρ2 (src ++ ts) (srcv ++ vs) → Sg X.K g σ H ρ2 ts vs := fun s => s.tmp fun rs ws o => by
              rw [List.append_assoc, List.append_assoc] at o
              exact o.ent (Ent.drops lsrc)
            cases c with
            | nx => exact fun σ3 H3 S3 => ⟨ρ2, S3, q⟩
            | ct => exact fun σ3 H3 S3 => ⟨ρ2, S3, q⟩
            | bk => exact fun σ3 H3 S3 => q σ3 H3 (dropsrc S3)
            | rt t => exact fun v σ3 H3 S3 => q v σ3 H3 (S3.tmp fun rs ws o => by
                have o' : Ok X.K g H3 (t :: (src ++ (ts ++ rs))) (v :: (srcv ++ (vs ++ ws))) := by simpa using o
                exact o'.ent (Ent.cons (Ent.drops lsrc)))
      exact key _ rfl
    · rw [List.drop_length] at q
      exact q σ H (S.tmp fun rs ws o => by
        rw [List.append_assoc, List.append_assoc] at o
        exact o.ent (Ent.drops lsrc))

/-! ### while -/
def whileN (c : M Bool) (b : M Ctl) : Nat → M Ctl
  | 0 => M.no
  | n + 1 => fun ρ => match c ρ with
    | .no => .no
    | .ex n fs ρ' => .ex n fs ρ'
    | .ok false ρ1 => .ok .nx ρ1
    | .ok true ρ1 => match b ρ1 with
      | .no => .no
      | .ex n fs ρ' => .ex n fs ρ'
      | .ok .nx ρ' => whileN c b n ρ'
      | .ok .ct ρ' => whileN c b n ρ'
      | .ok .bk ρ' => .ok .nx ρ'
      | .ok (.rt t) ρ' => .ok (.rt t) ρ'
open Classical in
noncomputable def whileM (c : M Bool) (b : M Ctl) : M Ctl := fun ρ => if h : ∃ n a ρ', whileN c b n ρ = .ok a ρ' then whileN c b h.choose ρ else .no
theorem whileN_mono {c : M Bool} {b : M Ctl} : ∀ {n : Nat} {ρ ρ' : Env} {a : Ctl}, whileN c b n ρ = .ok a ρ' → ∀ k, whileN c b (n + k) ρ = .ok a ρ'
  | 0, ρ, ρ', a, h, k => by cases h
  | n + 1, ρ, ρ', a, h, k => by
    rw [Nat.add_right_comm]
    unfold whileN at h ⊢
    cases e1 : c ρ with
    | no => rw [e1] at h; cases h
    | ex _ _ _ => rw [e1] at h; cases h
    | ok t ρ1 =>
      rw [e1] at h
      cases t with
      | false => exact h
      | true =>
        dsimp only at h ⊢
        cases e2 : b ρ1 with
        | no => rw [e2] at h; cases h
        | ex _ _ _ => rw [e2] at h; cases h
        | ok d ρ2 =>
          rw [e2] at h
          cases d with
          | nx => exact whileN_mono h k
          | ct => exact whileN_mono h k
          | bk => exact h
          | rt t => exact h
theorem whileM_eq {c : M Bool} {b : M Ctl} {n : Nat} {ρ ρ' : Env} {a : Ctl} (h : whileN c b n ρ = .ok a ρ') : whileM c b ρ = .ok a ρ' := by
  unfold whileM
  have hx : ∃ n a ρ', whileN c b n ρ = .ok a ρ' := ⟨n, a, ρ', h⟩
  rw [dif_pos hx]
  obtain ⟨a2, ρ2, h2⟩ := hx.choose_spec
  have e1 := whileN_mono h hx.choose
  have e2 := whileN_mono h2 n
  rw [Nat.add_comm] at e2
  rw [h2, ← e2, e1]
theorem vs_while {c : Expr} {body : List Stmt} {pos : Pos} {mc : M Bool} {b : M Ctl} (hp : PassesOwn (model X.prog X.w) X.A X.env X.xe) (hc : PT X c (tBo X.K g mc)) (hb : PSs X body (tSt X.K g b)) : PS X (.While c body [] pos) (tSt X.K g (whileM mc b)) :=
  PS.weak (ps_while hp hc hb) fun D σ H ⟨ρ, ts, vs, S, q⟩ => by
    unfold whileM at q
    split at q
    · rename_i hx
      obtain ⟨a2, ρ2, h2⟩ := hx.choose_spec
      refine ⟨fun m σ H => ∃ ρ, Sg X.K g σ H ρ ts vs ∧ Aft (whileN mc b m ρ) (CtlOk X.K g D ts vs), ⟨_, ρ, S, q⟩, fun m σ H ⟨ρ, S, q⟩ => ?_⟩
      cases m with
      | zero => exact q.elim
      | succ n =>
        unfold whileN at q
        refine ⟨ρ, ts, vs, S, ?_⟩
        cases e1 : mc ρ with
        | no => rw [e1] at q; exact q.elim
        | ex _ _ _ => rw [e1] at q; exact q.elim
        | ok t ρ1 =>
          rw [e1] at q
          intro H1 S1
          cases t with
          | false =>
            rw [if_neg (by decide)]
            exact q σ H1 S1
          | true =>
            rw [if_pos rfl]
            dsimp only at q
            refine ⟨fun σ H => ∃ ρ, Sg X.K g σ H ρ ts vs ∧ Aft (whileN mc b n ρ) (CtlOk X.K g D ts vs), fun σ' H' z => ⟨n, by omega, z⟩, ρ1, ts, vs, S1, ?_⟩
            cases e2 : b ρ1 with
            | no => rw [e2] at q; exact q.elim
            | ex _ _ _ => rw [e2] at q; exact q.elim
            | ok d ρ2 =>
              rw [e2] at q
              cases d with
              | nx => exact fun σ3 H3 S3 => ⟨ρ2, S3, q⟩
              | ct => exact fun σ3 H3 S3 => ⟨ρ2, S3, q⟩
              | bk => exact q
              | rt t => exact q
    · exact q.elim
end
end VS
/-! FW8: comprehensions, enumerate, zip, subscripts, slices, methods of lists. -/
namespace VS
open PySem L2

section
variable {K : PySem.W.Frag} {g : G} {σ : L2.St} {H H' : Hp} {ρ ρ' : Env} {ts ts' : List T} {vs vs' : List V} {t : T} {v : V} {i : Nat}
theorem sl_setO {σ : L2.St} {i : Nat} {o : Option V} : sl (σ.set i o) = (sl σ).set i (o.getD .non) := by
  unfold sl
  rw [List.map_set]
/-- where nothing is known of a slot it may hold anything -/
theorem Sg.hole_any (S : Sg K g σ H ρ ts vs) (e : ρ[i]? = some .hole) (o : Option V) (hp : g.pins.all (fun p => p.1 != i) = true) : Sg K g (σ.set i o) H ρ ts vs := by
  have hi : i < ρ.length := (List.getElem?_eq_some_iff.mp e).1
  have hiσ : i < σ.length := by rw [← S.len]; exact hi
  have e1 : (sl σ)[i]? = some ((sl σ)[i]'(by rw [sl_len]; exact hiσ)) := by simp
  obtain ⟨a, b, ea, la⟩ := split_at e
  obtain ⟨c, d, ec, lc⟩ := split_at e1
  have l : a.length = c.length := by omega
  have o1 := S.ok
  refine ⟨?_, by rw [List.length_set]; exact S.len, fun j u hj hu => ?_, fun p hpp => ?_⟩
  · rw [sl_setO]
    generalize hy : (sl σ)[i]'(by rw [sl_len]; exact hiσ) = y0 at ec
    rw [ea, ec] at o1 ⊢
    rw [show i = c.length from lc.symm, set_split, List.append_assoc, List.append_assoc, List.cons_append, List.cons_append]
    rw [List.append_assoc, List.append_assoc, List.cons_append, List.cons_append] at o1
    exact o1.ent (Ent.apps (Ent.trans Ent.drop Ent.hole) l)
  · by_cases q : j = i
    · subst q
      rw [e] at hj
      cases hj
      simp [T.isHole] at hu
    · rw [List.getElem?_set_ne (Ne.symm q)]
      exact S.ho j u hj hu
  · have h1 := List.all_eq_true.mp hp p hpp
    have h2 : p.1 ≠ i := by simpa using h1
    rw [List.getElem?_set_ne (Ne.symm h2)]
    exact S.pin p hpp
/-- a slot is forgotten -/
theorem Sg.forget (S : Sg K g σ H ρ ts vs) (i : Nat) : Sg K g σ H (ρ.set i .hole) ts vs := by
  by_cases hi : i < ρ.length
  · have e : ρ[i]? = some ρ[i] := by simp [hi]
    by_cases n : ρ[i].isHole = true
    · have : ρ[i] = .hole := by
        cases h : ρ[i] <;> rw [h] at n <;> first | rfl | simp [T.isHole] at n
      have es : ρ.set i .hole = ρ := by
        rw [← this]; exact List.set_getElem_self hi
      rw [es]; exact S
    · obtain ⟨v, hv, S1⟩ := S.take e (by simpa using n)
      exact S1.tmp fun rs ws o => o.drop
  · rw [List.set_eq_of_length_le (by omega)]; exact S
def wipeE (ρ : Env) : List Nat → Env
  | [] => ρ
  | v :: vs => (wipeE ρ vs).set v .hole
theorem wipeE_len (ρ : Env) : ∀ vs : List Nat, (wipeE ρ vs).length = ρ.length
  | [] => rfl
  | v :: vs => by unfold wipeE; rw [List.length_set, wipeE_len ρ vs]
theorem wipeE_at {ρ : Env} : ∀ {vs : List Nat} {i : Nat}, i ∈ vs → i < ρ.length → (wipeE ρ vs)[i]? = some .hole
  | v :: vs, i, h, l => by
    unfold wipeE
    by_cases e : i = v
    · subst e
      rw [List.getElem?_set_self (by rw [wipeE_len]; exact l)]
    · rw [List.getElem?_set_ne (Ne.symm e)]
      rcases List.mem_cons.mp h with h | h
      · exact absurd h e
      · exact wipeE_at h l
theorem Sg.wipe (S : Sg K g σ H ρ ts vs) : ∀ {own : List Nat}, own.all (fun i => g.pins.all (fun p => p.1 != i)) = true → Sg K g (L2.wipe σ own) H (wipeE ρ own) ts vs
  | [], _ => S
  | i :: own, h => by
    simp only [List.all_cons, Bool.and_eq_true] at h
    have S1 := (S.wipe h.2).forget i
    unfold L2.wipe wipeE
    by_cases hi : i < ρ.length
    · exact S1.hole_any (i := i) (by rw [List.getElem?_set_self (by rw [wipeE_len]; exact hi)]) none h.1
    · have l1 : ¬ i < (L2.wipe σ own).length := by rw [L2.wipe_length, ← S.len]; exact hi
      rw [List.set_eq_of_length_le (by omega)]
      exact S1
theorem Sg.unwipe : ∀ {own : List Nat}, own.all (fun i => g.pins.all (fun p => p.1 != i)) = true → Sg K g (L2.wipe σ own) H ρ ts vs → (∀ i ∈ own, i < ρ.length → ρ[i]? = some .hole) → Sg K g σ H ρ ts vs
  | [], _, S, _ => S
  | i :: own, h, S, ho => by
    simp only [List.all_cons, Bool.and_eq_true] at h
    unfold L2.wipe at S
    by_cases hi : i < ρ.length
    · have l : i < (L2.wipe σ own).length := by have := S.len; rw [List.length_set] at this; omega
      have S1 := S.hole_any (i := i) (ho i List.mem_cons_self hi) ((L2.wipe σ own)[i]) h.1
      rw [List.set_set, List.set_getElem_self] at S1
      exact Sg.unwipe h.2 S1 fun j hj => ho j (List.mem_cons_of_mem _ hj)
    · have l1 : ¬ i < (L2.wipe σ own).length := by have := S.len; rw [List.length_set] at this; omega
      rw [List.set_eq_of_length_le (by omega)] at S
      exact Sg.unwipe h.2 S fun j hj => ho j (List.mem_cons_of_mem _ hj)
theorem Ok.append {u : T} {w : V} {xs : List T} (o : Ok K g H (u :: .lst true xs :: ts) (w :: v :: vs)) : ∃ a us, v = .ref a ∧ xs.length = us.length ∧ H a = some (.lst us) ∧ Ok K g (upd H a (.lst (us ++ [w]))) (.lst true (xs ++ [u]) :: ts) (v :: vs) := by
  obtain ⟨a, us, e, l, h, f⟩ := Ok.lst_mod o.swap
  refine ⟨a, us, e, l, h, f _ _ _ _ ?_ (by simp [l])⟩
  have := Ent.rot (xs := xs) (us := us) (ys := [u]) (ws := [w]) (zs := ts) (vs := vs) l rfl
  have h2 := (Ent.rot (xs := [u]) (us := [w]) (ys := xs) (ws := us) (zs := ts) (vs := vs) rfl l)
  have h3 : Ent (xs ++ u :: ts) (us ++ w :: vs) (xs ++ u :: ts) (us ++ w :: vs) := Ent.refl
  simpa using h3
end

/-! ### comprehensions -/
/-- a target of a comprehension: its own slots alone change -/
def tTo (K : PySem.W.Frag) (g : G) (own : List Nat) (a : T → M Unit) : TG := fun v σ H Q => ∃ ρ ts vs t, Sg K g σ H ρ (t :: ts) (v :: vs) ∧ Aft (a t ρ) fun _ ρ' => ∀ σ' H', wipe σ' own = wipe σ own → Sg K g σ' H' ρ' ts vs → Q σ' H'
def tTos (K : PySem.W.Frag) (g : G) (own : List Nat) (f : List T → M Unit) : TGs := fun us σ H Q => ∃ ρ xs ts vs, xs.length = us.length ∧ Sg K g σ H ρ (xs ++ ts) (us ++ vs) ∧ Aft (f xs ρ) fun _ ρ' => ∀ σ' H', wipe σ' own = wipe σ own → Sg K g σ' H' ρ' ts vs → Q σ' H'
theorem wipe_set {σ : L2.St} {o : Option V} : ∀ {own : List Nat} {i : Nat}, i ∈ own → wipe (σ.set i o) own = wipe σ own
  | j :: own, i, h => by
    unfold wipe
    by_cases e : i ∈ own
    · rw [wipe_set e]
    · have : i = j := (List.mem_cons.mp h).resolve_right e
      subst this
      rw [wipe_other e, List.set_set]
where
  wipe_other {i : Nat} : ∀ {own : List Nat}, i ∉ own → wipe (σ.set i o) own = (wipe σ own).set i o
    | [], _ => rfl
    | k :: own, h => by
      unfold wipe
      have h1 : i ≠ k := fun e => h (e ▸ List.mem_cons_self)
      have h2 : i ∉ own := fun e => h (List.mem_cons_of_mem _ e)
      rw [wipe_other h2, List.set_comm _ _ h1]
theorem wipe_wipe (σ : L2.St) : ∀ own : List Nat, wipe (wipe σ own) own = wipe σ own := fun own => by
    have h : ∀ (l : List Nat) (σ' : L2.St), (∀ i ∈ l, i < σ'.length → σ'[i]? = some none) → wipe σ' l = σ' := by
      intro l
      induction l with
      | nil => intro _ _; rfl
      | cons i l ih =>
        intro σ' h
        unfold wipe
        rw [ih σ' fun j hj => h j (List.mem_cons_of_mem _ hj)]
        by_cases hi : i < σ'.length
        · have := h i List.mem_cons_self hi
          obtain ⟨h1, h2⟩ := List.getElem?_eq_some_iff.mp this
          rw [← h2]; exact List.set_getElem_self h1
        · rw [List.set_eq_of_length_le (by omega)]
    refine h own _ ?_
    have hn : ∀ (l : List Nat) (i : Nat), i ∈ l → i < σ.length → (wipe σ l)[i]? = some none := by
      intro l
      induction l with
      | nil => intro i h; cases h
      | cons j l ih =>
        intro i h hl
        unfold wipe
        by_cases e : i = j
        · subst e
          rw [List.getElem?_set_self (by rw [wipe_length]; exact hl)]
        · rw [List.getElem?_set_ne (Ne.symm e)]
          exact ih i ((List.mem_cons.mp h).resolve_left e) hl
    exact fun i hi hl => hn own i hi (by rw [wipe_length] at hl; exact hl)
def lcStep (a : T → M Unit) (c : M Bool) (e : M T) (x : T) : M (Option T) := M.bind (a x) fun _ => M.bind c fun k => if k = true then M.bind e fun t => M.pure (some t) else M.pure none
def lcLoop (a : T → M Unit) (c : M Bool) (e : M T) (own : List Nat) : List T → List T → M (List T)
  | [], acc => M.pure acc
  | x :: xs, acc => fun ρ => match lcStep a c e x ρ with
    | .no => .no
    | .ex n fs ρ' => .ex n fs ρ'
    | .ok none ρ' => lcLoop a c e own xs acc (wipeE ρ' own)
    | .ok (some t) ρ' => if acc.length < 1000000 then lcLoop a c e own xs (acc ++ [t]) (wipeE ρ' own) else .no
def lcM (it : M (List T)) (a : T → M Unit) (c : M Bool) (e : M T) (own : List Nat) : M T := M.bind it fun xs => M.bind (fun ρ => lcLoop a c e own xs [] (wipeE ρ own)) fun acc => M.pure (.lst true acc)
def yesB : M Bool := M.pure true
theorem PTs.weak {X : Cx} {e : List Expr} {t t' : TT} (h : PTs X e t) (w : ∀ σ H Q, t' σ H Q → t σ H Q) : PTs X e t' := ⟨fun pins s σ H Q I q => h.run pins s σ H Q I (w σ H Q q)⟩
section
variable {X : Cx} {g : G}
theorem vgo_name {own : List Nat} (i : Nat) {x : Str} {pos : Pos} (h : PG X (.Name x pos) (gName i)) (hi : i ∈ own := by decide) (hp : g.pins.all (fun p => p.1 != i) = true := by rfl) : PG X (.Name x pos) (tTo X.K g own (setv i)) :=
  PG.weak h fun v σ H Q ⟨ρ, ts, vs, t, S, q⟩ => by
    unfold setv at q
    split at q
    · rename_i hi'
      exact q _ H (wipe_set hi) (S.put hi' hp)
    · exact q.elim
theorem vgso_nil {own : List Nat} : PGs X [] (tTos X.K g own gnil) := PGs.weak pgs_nil fun us σ H Q ⟨ρ, xs, ts, vs, l, S, q⟩ => by
  cases xs with
  | nil => cases us with
    | nil => exact ⟨rfl, q σ H rfl S⟩
    | cons _ _ => cases l
  | cons _ _ => exact q.elim
theorem vgso_cons {own : List Nat} {e : Expr} {es : List Expr} {a : T → M Unit} {f : List T → M Unit} (h1 : PG X e (tTo X.K g own a)) (h2 : PGs X es (tTos X.K g own f))
    (hs : (assignEach (e :: es) X.env).map (·.2) = assign e X.env :: (assignEach es X.env).map (·.2) := by rfl) : PGs X (e :: es) (tTos X.K g own (gcons a f)) :=
  PGs.weak (pgs_cons h1 h2 hs) fun us σ H Q ⟨ρ, xs, ts, vs, l, S, q⟩ => by
    cases xs with
    | nil => exact q.elim
    | cons x xs =>
      cases us with
      | nil => cases l
      | cons v us =>
        refine ⟨v, us, rfl, ρ, xs ++ ts, us ++ vs, x, S, Aft.mono (Aft.bind q) fun _ ρ1 q1 σ' H' w S' => ?_⟩
        exact ⟨ρ1, xs, ts, vs, by simpa using l, S', q1.mono fun _ ρ2 q2 σ2 H2 w2 S2 => q2 σ2 H2 (w2.trans w) S2⟩
theorem vgo_tup {own : List Nat} {es : List Expr} {k : Nat} {pos : Pos} {f : List T → M Unit} {n : Nat} (hc : X.calm = true) (h : PGs X es (tTos X.K g own f))
    (hn : (assignEach es X.env).length = n := by rfl) (hst : (assignEach es X.env).findIdx? (·.1) = none := by rfl) : PG X (.Tuple es k pos) (tTo X.K g own (gtup n f)) :=
  PG.weak (pg_tup hc h hn hst) fun v σ H Q ⟨ρ, ts, vs, t, S, q⟩ => by
    cases t with
    | tup xs =>
      simp only [gtup] at q
      split at q
      · rename_i hl
        obtain ⟨a, us, rfl, l, hq, o⟩ := Ok.tup_open (by simpa using S.flip)
        exact ⟨a, us, rfl, hq, by rw [← l]; exact hl, ρ, xs, ts, vs, l, S.re (by simpa using o), q⟩
      · exact q.elim
    | _ => exact q.elim
theorem vts_nil : PTs X [] (tBo X.K g yesB) := PTs.weak pts_nil fun σ H Q ⟨ρ, ts, vs, S, q⟩ => q H S
theorem vts_one {c : Expr} {m : M Bool} (h : PT X c (tBo X.K g m)) : PTs X [c] (tBo X.K g m) := pts_one h
theorem tLc_weak {it : M (List T)} {a : T → M Unit} {c : M Bool} {e : M T} {own : List Nat} (hp : own.all (fun i => g.pins.all (fun p => p.1 != i)) = true) (σ : L2.St) (H : Hp) (Q : VK)
    (h : tV X.K g (lcM it a c e own) σ H Q) : tLc (tIt X.K g it) (tTo X.K g own a) (tBo X.K g c) (tV X.K g e) own σ H Q := by
  obtain ⟨ρ, ts, vs, S, q⟩ := h
  refine ⟨ρ, ts, vs, S, q.bind.mono fun xs ρ1 q1 J src srcv H1 lsrc S1 W D nD => ?_⟩
  obtain ⟨Gd, Y, w, wG, wY⟩ := W
  have tl : ts.length = vs.length := S.tlen
  have S2 : Sg X.K g σ (upd H1 D (.lst [])) ρ1 (.lst true [] :: (src ++ ts)) (.ref D :: (srcv ++ vs)) := S1.tmp fun rs ws o => Ok.new_lst (xs := []) (us := []) o rfl nD
  have S3 := S2.wipe hp
  let Fin : List T → Env → Prop := fun acc ρ' => ∀ v H', Sg X.K g σ H' ρ' (.lst true acc :: ts) (v :: vs) → Q v H'
  have q3 : Aft (lcLoop a c e own xs [] (wipeE ρ1 own)) Fin := by
    have := Aft.bind q1
    exact this
  let Hol : Env → Prop := fun ρ => ∀ i ∈ own, i < ρ.length → ρ[i]? = some .hole
  have hol : ∀ ρ : Env, Hol (wipeE ρ own) := fun ρ i hi hl => wipeE_at hi (by rw [wipeE_len] at hl; exact hl)
  refine lc_it w (fun i H => ∃ ρ acc, Hol ρ ∧ Sg X.K g (wipe σ own) H ρ (.lst true acc :: (src ++ ts)) (.ref D :: (srcv ++ vs)) ∧ Aft (lcLoop a c e own (xs.drop i) acc ρ) Fin) ⟨_, _, hol ρ1, S3, by simpa using q3⟩ (fun i H _ ⟨ρ, acc, _, S, _⟩ => ?_) (fun i x H H' hi ⟨ρ, acc, hh, S, q⟩ y => ?_) fun H ⟨ρ, acc, hh, S, q⟩ => ?_
  · have o := S.flip
    have o2 : Ok X.K g H (.lst true acc :: (src ++ (ts ++ ρ))) (.ref D :: (srcv ++ (vs ++ sl (wipe σ own)))) := by simpa using o
    exact wG H _ _ o2.drop
  · have hx : xs[i]? = some xs[i] := by simp [hi]
    generalize xs[i] = t at hx
    have hd : xs.drop i = t :: xs.drop (i + 1) := by
      obtain ⟨h1, h2⟩ := List.getElem?_eq_some_iff.mp hx
      rw [List.drop_eq_getElem_cons h1, h2]
    have S2 : Sg X.K g (wipe σ own) H' ρ (t :: .lst true acc :: (src ++ ts)) (x :: .ref D :: (srcv ++ vs)) := by
      have o := S.flip
      have o1 : Ok X.K g H (src ++ (.lst true acc :: (ts ++ ρ))) (srcv ++ (.ref D :: (vs ++ sl (wipe σ own)))) := by
        have o' : Ok X.K g H ([.lst true acc] ++ (src ++ (ts ++ ρ))) ([.ref D] ++ (srcv ++ (vs ++ sl (wipe σ own)))) := by simpa using o
        simpa using o'.ent (Ent.rot rfl lsrc)
      have o2 := wY i t hx H x H' _ _ o1 y
      have o3 : Ok X.K g H' (t :: ([.lst true acc] ++ (src ++ (ts ++ ρ)))) (x :: ([.ref D] ++ (srcv ++ (vs ++ sl (wipe σ own))))) := o2.ent (Ent.cons (by simpa using Ent.rot (xs := src) (us := srcv) (ys := [T.lst true acc]) (ws := [V.ref D]) (zs := ts ++ ρ) (vs := vs ++ sl (wipe σ own)) lsrc rfl))
      exact S.re (by simpa using o3)
    rw [hd] at q
    unfold lcLoop lcStep at q
    refine ⟨ρ, .lst true acc :: (src ++ ts), .ref D :: (srcv ++ vs), t, S2, ?_⟩
    simp only [M.bind] at q
    cases ea : a t ρ with
    | no => simp [ea, Aft] at q
    | ex n fs ρ' => simp [ea, Aft] at q
    | ok u ρ2 =>
      intro σ2 H2 hw S4
      refine ⟨hw.trans (wipe_wipe σ own), ρ2, _, _, S4, ?_⟩
      simp only [ea] at q
      cases ec : c ρ2 with
      | no => simp [ec, Aft] at q
      | ex n fs ρ' => simp [ec, Aft] at q
      | ok k ρ3 =>
        intro H3 S5
        simp only [ec] at q
        have back : ∀ {H ρ ts' vs'}, Sg X.K g σ2 H ρ ts' vs' → Sg X.K g (wipe σ own) H (wipeE ρ own) ts' vs' := fun s => by
          have := s.wipe hp
          rwa [hw, wipe_wipe] at this
        cases k with
        | false =>
          rw [if_neg (by decide)]
          rw [if_neg (by decide)] at q
          simp only [M.pure] at q
          exact ⟨_, acc, hol ρ3, back S5, q⟩
        | true =>
          rw [if_pos rfl]
          refine ⟨ρ3, _, _, S5, ?_⟩
          rw [if_pos rfl] at q
          simp only [M.bind] at q
          cases ee : e ρ3 with
          | no => simp [ee, Aft] at q
          | ex n fs ρ' => simp [ee, Aft] at q
          | ok t' ρ4 =>
            intro y4 H4 S6
            simp only [ee, M.pure] at q
            split at q
            · rename_i hl
              obtain ⟨a', us, e1, l1, hD, o⟩ := Ok.append (by simpa using S6.flip)
              cases e1
              refine ⟨us, hD, Nat.lt_of_lt_of_le (by rw [← l1]; exact hl) (by decide), _, acc ++ [t'], hol ρ4, back (S6.re (by simpa using o)), q⟩
            · exact q.elim
  · rw [List.drop_length] at q
    have S5 : Sg X.K g σ H ρ (.lst true acc :: ts) (.ref D :: vs) := (Sg.unwipe hp S hh).tmp fun rs ws o => by
      have o' : Ok X.K g H (.lst true acc :: (src ++ (ts ++ rs))) (.ref D :: (srcv ++ (vs ++ ws))) := by simpa using o
      exact o'.ent (Ent.cons (Ent.drops lsrc))
    exact q _ H S5
end
end VS
/-! FW9: defs and their calls. -/
namespace VS
open PySem L2

section
variable {K : PySem.W.Frag} {g : G} {H H' : Hp}
/-- what a callee leaves, told with what stood aside -/
theorem Ok.frame {I h h1 h2 : Hp} {ts rest xs : List T} {vs restv ws : List V} {pins : List (Nat × V)} (o : OkW K g I h H (ts ++ rest) (vs ++ restv)) (j : Jn h1 h2 h) (q2 : Owns K I rest restv h2)
    (o' : Ok K ⟨I, h1, H, pins⟩ H' xs ws) : Ok K g H' (xs ++ rest) (ws ++ restv) := by
  obtain ⟨I', h', o'⟩ := o'
  have ge : Sub I I' := o'.ge
  have h2h : ∀ {b}, h2 b ≠ none → h b ≠ none := fun {b} z e => z (j.none.mp e).2
  have h1h : ∀ {b}, h1 b ≠ none → h b ≠ none := fun {b} z e => z (j.none.mp e).1
  have far : ∀ {b}, h2 b ≠ none → ¬ (I' b ≠ none ∨ h' b ≠ none) := fun {b} z c => by
    have hb := h2h z
    rcases o'.dom b c with y | y | y
    · exact (o.dis b).elim (fun e => y e) fun e => hb e
    · exact (j.dis b).elim (fun e => y e) fun e => z e
    · cases e : h b with
      | none => exact hb e
      | some u =>
        have y' : H b = none := y
        rw [show H b = some u from o.sh _ _ e] at y'; cases y'
  have d : Dis h' h2 := fun b => by
    by_cases z : h2 b = none
    · exact .inr z
    · left
      cases e : h' b with
      | none => rfl
      | some u => exact absurd (.inr (by rw [e]; simp)) (far z)
  have J := jn_un d
  refine ⟨I', un h' h2, (owns_app (owns_len o'.own)).mpr ⟨h', h2, J, o'.own, owns_mono ge q2⟩, fun b => ?_, o'.si, fun b u e => ?_, o.ge.trans ge, fun b u e1 e2 => ?_, fun b z => ?_⟩
  · rcases o'.dis b with z | z
    · exact .inl z
    · by_cases y : h2 b = none
      · exact .inr (J.none.mpr ⟨z, y⟩)
      · left
        cases e : I' b with
        | none => rfl
        | some u => exact absurd (.inl (by rw [e]; simp)) (far y)
  · rcases J b with ⟨_, z⟩ | ⟨_, z⟩
    · rw [z] at e
      have hb : h b = some u := j.r _ _ e
      have n1 : h1 b = none := (j.dis b).elim id fun y => by rw [e] at y; cases y
      exact o'.keep b u (o.sh _ _ hb) n1
    · rw [z] at e
      exact o'.sh _ _ e
  · have hb := o.keep b u e1 e2
    have n1 : h1 b = none := by
      cases e : h1 b with
      | none => rfl
      | some y => exact absurd rfl ((o.own_ne (a := b) (h1h (by rw [e]; simp))).2 b u e1 e2)
    exact o'.keep b u hb n1
  · by_cases y : h2 b = none
    · have z' : I' b ≠ none ∨ h' b ≠ none := z.imp id fun z e => z (J.none.mpr ⟨e, y⟩)
      rcases o'.dom b z' with r | r | r
      · exact o.dom b (.inl r)
      · exact o.dom b (.inr (h1h r))
      · exact (o.new r).2.2
    · exact o.dom b (.inr (h2h y))
theorem owns_holes {I : Hp} : ∀ (n : Nat) (vs : List V), vs.length = n → Owns K I (List.replicate n .hole) vs (fun _ => none)
  | 0, [], _ => by simp only [List.replicate, Owns]; exact fun _ => rfl
  | n + 1, v :: vs, e => by
    rw [List.replicate_succ]
    simp only [Owns, Own]
    exact ⟨_, _, jn_emp fun _ => rfl, fun _ => rfl, owns_holes n vs (by simpa using e)⟩
/-- a def's frame at its start -/
theorem Sg.begin {I h h1 h2 : Hp} {ts rest : List T} {vs restv : List V} {N : List Str} (o : OkW K g I h H (ts ++ rest) (vs ++ restv)) (j : Jn h1 h2 h) (q1 : Owns K I ts vs h1) (l : ts.length = vs.length) (pins : List (Nat × V)) (hp : ∀ p ∈ pins, vs[p.1]? = some p.2) (hn : vs.length ≤ N.length) :
    Sg K ⟨I, h1, H, pins⟩ (L2.start N vs) H (ts ++ List.replicate (N.length - vs.length) .hole) [] [] := by
  have es : sl (L2.start N vs) = vs ++ List.replicate (N.length - vs.length) .non := by
    unfold sl L2.start
    rw [List.map_append, List.map_map, List.map_replicate]
    have : (fun (x : Option V) => x.getD V.non) ∘ some = id := rfl
    rw [this, List.map_id]; rfl
  refine ⟨⟨I, h1, ?_, fun x => (o.dis x).imp id fun z => (j.none.mp z).1, o.si, j.l.trans o.sh, Sub.refl, fun b u e _ => e, fun b z => z.elim .inl fun z => .inr (.inl z)⟩, ?_, fun i t e n => ?_, fun p hpp => ?_⟩
  · rw [es, List.append_nil, List.append_nil]
    exact (owns_app l).mpr ⟨h1, _, jn_emp' fun _ => rfl, q1, owns_holes _ _ (by simp)⟩
  · unfold L2.start; simp [l]
  · by_cases hi : i < ts.length
    · have hv : i < vs.length := by omega
      refine ⟨vs[i], ?_⟩
      unfold L2.start
      rw [List.getElem?_append_left (by simpa using hv)]
      simp [hv]
    · rw [List.getElem?_append_right (by omega)] at e
      have := List.getElem?_replicate (a := T.hole) (n := N.length - vs.length) (i := i - ts.length)
      rw [this] at e
      split at e
      · cases e; simp [T.isHole] at n
      · cases e
  · have h1 := hp p hpp
    have hv : p.1 < vs.length := (List.getElem?_eq_some_iff.mp h1).1
    unfold L2.start
    rw [List.getElem?_append_left (by simpa using hv), List.getElem?_map, h1]; rfl
end

/-- room for k calls, and no repr() under way -/
structure RoomG (k : Nat) (A : Around) : Prop extends L2.Room k A where
  gu : A.guards = some []
theorem RoomG.mono {j k : Nat} {A : Around} (r : RoomG k A) (h : j ≤ k) : RoomG j A := ⟨r.toRoom.mono h, r.gu⟩
theorem RoomG.deeper {k : Nat} {A : Around} (r : RoomG (k + 1) A) (env : PySem.Env) : RoomG k (A.deeper env) := ⟨r.toRoom.deeper env, r.gu⟩
/-- as FnOk, under no repr() -/
structure FnG (P : Program) (w : World) (K : PySem.W.Frag) (mg : Str → Option Value) (base : Heap) (CX : CXT) (k : Nat) (f : Addr) (fd : FuncData) (ps : List Str) (sp : Sp) : Prop where
  len : ∀ vs H Q E, sp vs H Q E → vs.length = ps.length
  run : ∀ (A : Around) (outer : List PySem.Env) (s : Shared) (H : Hp) (args : Args) (us : List Value) (vs : List V) (Q : VK) (E : XK), RoomG k A → Env0 P w K mg base A outer s H →
    BindsTo s fd args (ps.zip us) → Vals vs us → sp vs H Q E → codeAny (model P w) A (.call (.ref f) args) (CR CX outer P w H s Q E) s
section
variable {CX : CXT} {P : Program} {w : World} {K : PySem.W.Frag} {mg : Str → Option Value} {base : Heap} {k : Nat} {f : Addr} {N ps : List Str} {sp : Sp}
theorem FnG.mono {j : Nat} {fd : FuncData} (F : FnG P w K mg base CX j f fd ps sp) (h : j ≤ k) : FnG P w K mg base CX k f fd ps sp :=
  ⟨F.len, fun A o s H ar us vs Q E r => F.run A o s H ar us vs Q E (r.mono h)⟩
theorem fun_okG {x qual : Str} {st : Stmt} {fd : FuncData} (F : Fun K x qual st f fd) (S : FnScope N ps (defScope st)) (len : ∀ vs H Q E, sp vs H Q E → vs.length = ps.length)
    (body : ∀ (cdv : Value) (A : Around) (outer : List PySem.Env) (s : Shared) (H : Hp) (vs : List V) (Q : VK) (E : XK), RoomG k (A.deeper (PyProof.Rows.envOfC qual (defScope st) s.heap.objs.size f cdv)) → sp vs H Q E →
      ∃ t, PSs (cxOf CX P w K mg base N qual (defScope st) f cdv A outer s H E) (defBody st) t ∧ t { nx := fun _ H' => Q .non H', rt := Q } (L2.start N vs) H) : FnG P w K mg base CX (k + 1) f fd ps sp := by
  obtain ⟨oc, od, kV, doc, pm, an, cdv, ct, osl, rfl, lk, hcd⟩ := F.ex
  refine ⟨len, fun A o s H ar us vs Q E room en bi rv prom => ?_⟩
  have n := len _ _ _ _ prom
  have stay : ∀ b ob, base.get? b = some ob → s.heap.get? b = some ob := fun b ob e => (en.bs b ob e).1
  have K1 : K.In s.heap := en.mod.kin.keeps stay
  have places : ∀ q ∈ ps.zip us, (defScope st).names.lookup q.1 = some .local ∨ ((defScope st).names.lookup q.1 = some .cell ∧ ((cellsFrom (s.heap.objs.size + 1) (defScope st).names []).lookup q.1).isSome = true) := by
    rintro ⟨y, u⟩ hq
    exact (S.par y (List.of_mem_zip hq).1).imp id fun c => ⟨c, PySem.W.cellsFrom_some _ _ _ (.inl c)⟩
  have code := PySem.W.codeRec_of K1 hcd
  refine codeAny_call_function room.toRoom.depth (K1 _ _ lk) rfl S.co S.gen rfl code (bi _ _ _ _ ?_)
  refine wpAny_newFunctionEnv_cells S.kind places fun env eq s2 inn => ?_
  subst eq
  obtain ⟨t, walk, at0⟩ := body cdv A o s H vs Q E (room.deeper _) prom
  have J0 := inv_start (CX := CX) (E := E) S room.toRoom.hd en n rv inn
  refine ⟨(en.mod.nolimit.keeps stay).keeps inn.toInCall.keep, codeAny_func (wpAny_mono (walk.run [] s2 (L2.start N vs) H _ J0 at0) (fun fl s3 z => ?_) fun _ _ z => z)⟩
  match fl, z with
  | .ret u, ⟨v, σ1, H1, J, r, q⟩ => exact ⟨v, H1, J.os, J.bare, J.base, J.hok, r, q⟩
  | .next, ⟨σ1, H1, J, q⟩ => exact ⟨.non, H1, J.os, J.bare, J.base, J.hok, rfl, q⟩
  | .brk, ⟨_, _, _, q⟩ => exact q.elim
  | .cont, ⟨_, _, _, q⟩ => exact q.elim
end
section
variable {CX : CXT} {X : Cx} {k : Nat} {f : Addr} {fd : FuncData} {ps : List Str} {sp : Sp} {E : XK} {ds : List Value} {dvs : List V} {x : Str} {p pos : Pos} {e : Expr} {es : List Expr} {t : TA}
theorem run_fnG {pins : List (Addr × Obj)} {σ : L2.St} {H : Hp} {s : Shared} {Q : VK} {us : List Value} {vs : List V} (F : FnG X.prog X.w X.K X.mg X.base CX k f fd ps sp) (hr : RoomG k X.A) (hb : Binds X.K fd ps ds) (hd : Vals dvs ds) (hx : Passes CX X E)
    (I : L2.Inv X pins σ H s) (r : Vals vs us) (h : sp (vs ++ dvs) H Q E) : wpAny (model X.prog X.w) X.A (call (.ref f) us) (EP X pins σ Q) X.xe s := by
  have rr := r.append hd
  have nn : (us ++ ds).length = ps.length := rr.length ▸ F.len _ _ _ _ h
  refine wpAny_call (codeAny_mono (F.run _ _ _ _ ⟨us, []⟩ _ _ _ _ hr I.env0 (hb s us I.kIn nn) rr h) fun res s2 z => ?_)
  match res, z with
  | .error err, z => exact hx pins σ H s err s2 I z
  | .ok (.ret u), z => exact I.after z
  | .ok .next, z => exact z.elim
  | .ok .brk, z => exact z.elim
  | .ok .cont, z => exact z.elim
theorem pe_callG (F : FnG X.prog X.w X.K X.mg X.base CX k f fd ps sp) (hr : RoomG k X.A) (hg : Gl X x) (hm : X.mg x = some (.ref f)) (hk : PySem.W.keepIn X.K (.ref f) = true) (hb : Binds X.K fd ps ds) (hd : Vals dvs ds) (hx : Passes CX X E)
    (ha : PA X (e :: es) t) (hdb : (x == ("__debug__" : Str)) = false := by decide) (he : starEach (e :: es) X.env = (false, eval e X.env) :: starEach es X.env := by rfl) (hpl : (backTo pos (starEach es X.env)).any (·.1) = false := by rfl) :
    PE X (.Call (.Name x p) (e :: es) [] pos) (tCall sp dvs E t) :=
  ⟨fun pins s σ H Q I h => wpAny_Call_Name_kw (ld_glob I hg hm (PySem.W.callWith_K (h₀ := X.base) I.ok.mod.kin hk (thn (ha.run pos pins s σ H _ I h) fun us s1 ⟨vs, H1, I1, r, q⟩ => ⟨I1.kIn, run_fnG F hr hb hd hx I1 r q⟩) he hpl) hdb)⟩
end

/-- a def that hands back m of its arguments -/
def sp0 (K : PySem.W.Frag) (n : Nat) (m : List T → Option T) : Sp := fun vs H Q _ => ∃ g ts rest restv t, Ok K g H (ts ++ rest) (vs ++ restv) ∧ ts.length = vs.length ∧ vs.length = n ∧ m ts = some t ∧ ∀ v H', Ok K g H' (t :: rest) (v :: restv) → Q v H'
/-- .. and changes its first one -/
def sp1 (K : PySem.W.Frag) (n : Nat) (m : List T → Option (T × T)) : Sp := fun vs H Q _ => ∃ g ts rest restv t t0 v0, Ok K g H (ts ++ rest) (vs ++ restv) ∧ ts.length = vs.length ∧ vs.length = n ∧ vs[0]? = some v0 ∧ m ts = some (t, t0) ∧ ∀ v H', Ok K g H' (t :: t0 :: rest) (v :: v0 :: restv) → Q v H'
section
variable {P : Program} {w : World} {K : PySem.W.Frag} {mg : Str → Option Value} {base : Heap}
/-- a body means sem -/
def Body (P : Program) (w : World) (K : PySem.W.Frag) (mg : Str → Option Value) (base : Heap) (k : Nat) (qual : Str) (st : Stmt) (N : List Str) (io : Bool) (sem : M Ctl) : Prop :=
  ∀ (I0 h0 H0 : Hp) (v0 : V) (f : Addr) (cdv : Value) (A : Around) (outer : List PySem.Env) (s : Shared) (H : Hp) (E : XK), RoomG k (A.deeper (PyProof.Rows.envOfC qual (defScope st) s.heap.objs.size f cdv)) →
    PSs (cxOf L2.CX0 P w K mg base N qual (defScope st) f cdv A outer s H E).nox (defBody st) (tSt K ⟨I0, h0, H0, cond io [(0, v0)] []⟩ sem)
def Ret (r : Res Ctl) (t : T) : Prop := (∃ ρ', r = .ok (.rt t) ρ') ∨ (t = .atom .non ∧ ∃ ρ', r = .ok .nx ρ')
def Ret1 (r : Res Ctl) (t t0 : T) : Prop := t0.isHole = false ∧ ((∃ ρ', r = .ok (.rt t) ρ' ∧ ρ'[0]? = some t0) ∨ (t = .atom .non ∧ ∃ ρ', r = .ok .nx ρ' ∧ ρ'[0]? = some t0))
theorem def0 {x qual : Str} {st : Stmt} {f : Addr} {fd : FuncData} {N ps : List Str} {k : Nat} {m : List T → Option T} {sem : M Ctl} (F : Fun K x qual st f fd) (S : FnScope N ps (defScope st)) (hn : ps.length ≤ N.length) (hb : Body P w K mg base k qual st N false sem)
    (hm : ∀ ts t, ts.length = ps.length → m ts = some t → Ret (sem (ts ++ List.replicate (N.length - ps.length) .hole)) t) : FnG P w K mg base L2.CX0 (k + 1) f fd ps (sp0 K ps.length m) := by
  refine fun_okG (CX := L2.CX0) F S (fun vs H Q E ⟨_, _, _, _, _, _, _, l, _⟩ => l) fun cdv A outer s H vs Q E hr h => ?_
  obtain ⟨g, ts, rest, restv, t, ⟨I, h, o⟩, l, ln, e, q⟩ := h
  obtain ⟨h1, h2, j, q1, q2⟩ := (owns_app l).mp o.own
  refine ⟨_, (hb I h1 H .non f cdv A outer s H E hr).nox, ?_⟩
  have S0 := Sg.begin (N := N) o j q1 l [] (fun _ z => nomatch z) (by omega)
  refine ⟨_, [], [], S0, ?_⟩
  have r := hm ts t (by omega) e
  rw [ln]
  rcases r with ⟨ρ', r⟩ | ⟨rfl, ρ', r⟩
  · rw [r]
    intro v σ' H' S'
    exact q v H' (by simpa using Ok.frame o j q2 (xs := [t]) (ws := [v]) ((Ok.ent (by simpa using S'.ok) (Ent.drops (by rw [sl_len]; exact S'.len)))))
  · rw [r]
    intro σ' H' S'
    exact q .non H' (by simpa using Ok.frame o j q2 (xs := [.atom .non]) (ws := [.non]) (Ok.atom_push (Ok.ent S'.ok (Ent.drops (by rw [sl_len]; exact S'.len)))))
theorem def1 {x qual : Str} {st : Stmt} {f : Addr} {fd : FuncData} {N ps : List Str} {k : Nat} {m : List T → Option (T × T)} {sem : M Ctl} (F : Fun K x qual st f fd) (S : FnScope N ps (defScope st)) (hn : ps.length ≤ N.length) (hb : Body P w K mg base k qual st N true sem)
    (hm : ∀ ts t t0, ts.length = ps.length → m ts = some (t, t0) → Ret1 (sem (ts ++ List.replicate (N.length - ps.length) .hole)) t t0) : FnG P w K mg base L2.CX0 (k + 1) f fd ps (sp1 K ps.length m) := by
  refine fun_okG (CX := L2.CX0) F S (fun vs H Q E ⟨_, _, _, _, _, _, _, _, _, l, _⟩ => l) fun cdv A outer s H vs Q E hr h => ?_
  obtain ⟨g, ts, rest, restv, t, t0, v0, ⟨I, h, o⟩, l, ln, e0, e, q⟩ := h
  obtain ⟨h1, h2, j, q1, q2⟩ := (owns_app l).mp o.own
  refine ⟨_, (hb I h1 H v0 f cdv A outer s H E hr).nox, ?_⟩
  have S0 := Sg.begin (N := N) o j q1 l [(0, v0)] (fun p z => by cases List.mem_singleton.mp z; exact e0) (by omega)
  refine ⟨_, [], [], S0, ?_⟩
  obtain ⟨nh, r⟩ := hm ts t t0 (by omega) e
  rw [ln]
  rcases r with ⟨ρ', r, z⟩ | ⟨rfl, ρ', r, z⟩
  · rw [r]
    intro v σ' H' S'
    obtain ⟨w0, e1, S2⟩ := S'.take z nh
    have e2 := S'.pin (0, v0) List.mem_cons_self
    rw [e2] at e1; cases e1
    have o2 : Ok K ⟨I, h1, H, [(0, v0)]⟩ H' [t0, t] [v0, v] := S2.ok.ent (Ent.drops (by rw [sl_len]; exact S2.len))
    exact q v H' (by simpa using Ok.frame o j q2 (xs := [t, t0]) (ws := [v, v0]) o2.swap)
  · rw [r]
    intro σ' H' S'
    obtain ⟨w0, e1, S2⟩ := S'.take z nh
    have e2 := S'.pin (0, v0) List.mem_cons_self
    rw [e2] at e1; cases e1
    have o2 : Ok K ⟨I, h1, H, [(0, v0)]⟩ H' [t0] [v0] := S2.ok.ent (Ent.drops (by rw [sl_len]; exact S2.len))
    exact q .non H' (by simpa using Ok.frame o j q2 (xs := [.atom .non, t0]) (ws := [.non, v0]) o2.atom_push)
/-- a def that may be called by its name -/
structure Fn0 (P : Program) (w : World) (K : PySem.W.Frag) (mg : Str → Option Value) (base : Heap) (k : Nat) (x : Str) (n : Nat) (m : List T → Option T) : Prop where
  ex : ∃ (f : Addr) (fd : FuncData) (ps : List Str), FnG P w K mg base L2.CX0 k f fd ps (sp0 K n m) ∧ mg x = some (.ref f) ∧ PySem.W.keepIn K (.ref f) = true ∧ Binds K fd ps []
structure Fn1 (P : Program) (w : World) (K : PySem.W.Frag) (mg : Str → Option Value) (base : Heap) (k : Nat) (x : Str) (n : Nat) (m : List T → Option (T × T)) : Prop where
  ex : ∃ (f : Addr) (fd : FuncData) (ps : List Str), FnG P w K mg base L2.CX0 k f fd ps (sp1 K n m) ∧ mg x = some (.ref f) ∧ PySem.W.keepIn K (.ref f) = true ∧ Binds K fd ps []
end
/-- a slot that holds something; what it holds, lent -/
def nhv (i : Nat) : M Unit := fun ρ => match ρ[i]? with
  | some t => if t.isHole = false then .ok () ρ else .no
  | none => .no
section
variable {K : PySem.W.Frag} {g : G} {σ : L2.St} {H : Hp} {ρ : Env} {ts : List T} {vs : List V}
theorem nhv_ok {β : Type} {f : Unit → M β} {i : Nat} {P : β → Env → Prop} (S : Sg K g σ H ρ ts vs) (h : Aft (M.bind (nhv i) f ρ) P) : ∃ v, σ[i]? = some (some v) ∧ Aft (f () ρ) P := by
  have q := Aft.bind h
  unfold nhv at q
  split at q
  · rename_i t e
    split at q
    · rename_i n
      obtain ⟨v, hv⟩ := S.ho i t e n
      exact ⟨v, hv, q⟩
    · exact q.elim
  · exact q.elim
end
section
variable {X : Cx} {g : G} {k j n : Nat} {x : Str} {p pos : Pos} {e : Expr} {es : List Expr}
def callM (n : Nat) (m : List T → Option T) (r : M (List T)) : M T := M.bind r fun xs => if xs.length = n then M.lift (m xs) else M.no
def callIO (n : Nat) (m : List T → Option (T × T)) (i : Nat) (r : M (List T)) : M T := M.bind (nhv i) fun _ => M.bind r fun xs => if xs.length + 1 = n then (fun ρ => match ρ[i]? with
  | some t => if t.isHole = false then (match m (t :: xs) with
    | some (t1, t0) => .ok t1 (ρ.set i t0)
    | none => .no) else .no
  | none => .no) else M.no
theorem ve_call0 {m : List T → Option T} {r : M (List T)} (c : Fn0 X.prog X.w X.K X.mg X.base k x n m) (hr : RoomG j X.A) (hk : k ≤ j) (hg : Gl X x) (ha : PA X (e :: es) (tAr X.K g r))
    (hdb : (x == ("__debug__" : Str)) = false := by decide) (he : starEach (e :: es) X.env = (false, eval e X.env) :: starEach es X.env := by rfl) (hpl : (backTo pos (starEach es X.env)).any (·.1) = false := by rfl) :
    PE X (.Call (.Name x p) (e :: es) [] pos) (tV X.K g (callM n m r)) := by
  obtain ⟨f, fd, ps, F, hm, kp, b⟩ := c.ex
  refine PE.weak (pe_callG F (hr.mono hk) hg hm kp b .nil pass0 ha hdb he hpl) fun σ H Q ⟨ρ, ts, vs, S, q⟩ => goA S q fun xs ρ1 us H1 l S1 q1 => ?_
  split at q1
  · rename_i hn
    obtain ⟨t, e1, q2⟩ := Aft.lift q1
    rw [List.append_nil]
    exact ⟨g, xs, ts ++ ρ1, vs ++ sl σ, t, by simpa using S1.flip, l, by omega, e1, fun v H' o => q2 v H' (S1.re (by simpa using o))⟩
  · exact q1.elim
theorem ve_call1 {m : List T → Option (T × T)} {i : Nat} {y : Str} {py : Pos} {r : M (List T)} (c : Fn1 X.prog X.w X.K X.mg X.base k x n m) (hr : RoomG j X.A) (hk : k ≤ j) (hg : Gl X x) (h0 : PE X (.Name y py) (tVar i)) (ha : PA X es (tAr X.K g r))
    (hdb : (x == ("__debug__" : Str)) = false := by decide) (he : starEach (.Name y py :: es) X.env = (false, eval (.Name y py) X.env) :: starEach es X.env := by rfl) (hpl : (backTo pos (starEach es X.env)).any (·.1) = false := by rfl) :
    PE X (.Call (.Name x p) (.Name y py :: es) [] pos) (tV X.K g (callIO n m i r)) := by
  obtain ⟨f, fd, ps, F, hm, kp, b⟩ := c.ex
  refine PE.weak (pe_callG F (hr.mono hk) hg hm kp b .nil pass0 (pa_cons h0 ha he) hdb he hpl) fun σ H Q ⟨ρ, ts, vs, S, q⟩ => ?_
  obtain ⟨v0, hv, q⟩ := nhv_ok S q
  refine ⟨v0, hv, goA S q fun xs ρ1 us H1 l S1 q1 => ?_⟩
  split at q1
  · rename_i hn
    dsimp only at q1
    split at q1
    · rename_i t e1
      split at q1
      · rename_i nh
        obtain ⟨v0', hv', S2⟩ := S1.take e1 nh
        rw [hv] at hv'; cases hv'
        rw [List.append_nil]
        cases em : m (t :: xs) with
        | none => rw [em] at q1; exact q1.elim
        | some tt =>
          obtain ⟨t1, t0⟩ := tt
          rw [em] at q1
          refine ⟨g, t :: xs, ts ++ ρ1.set i .hole, vs ++ sl σ, t1, t0, v0, by simpa using S2.flip, by simp [l], by simp [← l, hn], rfl, em, fun v H' o => q1 v H' ?_⟩
          have S3 : Sg X.K g σ H' (ρ1.set i .hole) (t0 :: t1 :: ts) (v0 :: v :: vs) := S2.re (by simpa using o.swap)
          have := S3.back hv
          rwa [List.set_set] at this
      · exact q1.elim
    · exact q1.elim
  · exact q1.elim
end
end VS
/-! FW10: readers (subscripts, len ..), methods of lists, stores by place. -/
namespace VS
open PySem L2

theorem CallR.or {X : Cx} {f : Value} {r r' : List V → Hp → VK → Prop} (h : CallR X f r) (h' : CallR X f r') : CallR X f (fun xs H Q => r xs H Q ∨ r' xs H Q) :=
  fun pins s σ H xs us Q I rx q => q.elim (h pins s σ H xs us Q I rx) (h' pins s σ H xs us Q I rx)
/-- r does what F says and leaves its operands -/
def RFb (K : PySem.W.Frag) (g : G) (F : T → T → Option T) (r : R2) : Prop := ∀ H tx ty x y t ts vs Q, F tx ty = some t → Ok K g H (ty :: tx :: ts) (y :: x :: vs) → (∀ v H', Ok K g H' (t :: ty :: tx :: ts) (v :: y :: x :: vs) → Q v H') → r x y H Q
theorem RFb.rf {K : PySem.W.Frag} {g : G} {F : T → T → Option T} {r : R2} (h : RFb K g F r) : RF K g F r := fun H tx ty x y t ts vs Q e o q => h H tx ty x y t ts vs Q e o fun v H' o' => q v H' (o'.ent (Ent.cons (Ent.drop.trans Ent.drop)))
def pk (i : Nat) (f : T → Option T) : M T := fun ρ => match ρ[i]? with
  | some t => if t.isHole = false then M.lift (f t) ρ else .no
  | none => .no
/-- a name lent as the first, the second operand -/
def binL (F : T → T → Option T) (i : Nat) (b : M T) : M T := M.bind (nhv i) fun _ => M.bind b fun y => pk i fun t => F t y
def binR (F : T → T → Option T) (a : M T) (i : Nat) : M T := M.bind a fun x => pk i fun t => F x t
section
variable {K : PySem.W.Frag} {g : G} {σ : L2.St} {H : Hp} {ρ : Env} {ts : List T} {vs : List V}
theorem pk_ok {f : T → Option T} {i : Nat} {P : T → Env → Prop} (S : Sg K g σ H ρ ts vs) (h : Aft (pk i f ρ) P) :
    ∃ v t r, σ[i]? = some (some v) ∧ f t = some r ∧ P r ρ ∧ Sg K g σ H (ρ.set i .hole) (t :: ts) (v :: vs) ∧
      ∀ {H' us ws}, Sg K g σ H' (ρ.set i .hole) (t :: us) (v :: ws) → Sg K g σ H' ρ us ws := by
  unfold pk at h
  split at h
  · rename_i t e
    split at h
    · rename_i n
      obtain ⟨v, hv, S1⟩ := S.take e n
      obtain ⟨r, er, p⟩ := Aft.lift h
      refine ⟨v, t, r, hv, er, p, S1, fun {H' us ws} S2 => ?_⟩
      have S3 := S2.back hv
      rw [List.set_set] at S3
      have es : ρ.set i t = ρ := by
        obtain ⟨h1, h2⟩ := List.getElem?_eq_some_iff.mp e
        rw [← h2]; exact List.set_getElem_self h1
      rwa [es] at S3
    · exact h.elim
  · exact h.elim
end
section
variable {X : Cx} {g : G}
theorem opL_weak {F : T → T → Option T} {r : R2} {i : Nat} {sb : M T} (hr : RFb X.K g F r) {σ : L2.St} {H : Hp} {Q : VK} (h : tV X.K g (binL F i sb) σ H Q) : tOp r (tVar i) (tV X.K g sb) σ H Q := by
  obtain ⟨ρ, ts, vs, S, q⟩ := h
  obtain ⟨v, hv, q⟩ := nhv_ok S q
  refine ⟨v, hv, go S q fun ty ρ1 y H1 S1 q1 => ?_⟩
  obtain ⟨v', t, u, hv', e, p, S2, f⟩ := pk_ok S1 q1
  rw [hv] at hv'; cases hv'
  have o : Ok X.K g H1 (ty :: t :: (ts ++ ρ1.set i .hole)) (y :: v :: (vs ++ sl σ)) := Ok.swap (by simpa using S2.flip)
  refine hr H1 t ty v y u _ _ Q e o fun z H' o' => p z H' (f ?_)
  have o2 : Ok X.K g H' (t :: u :: (ts ++ ρ1.set i .hole)) (v :: z :: (vs ++ sl σ)) := (o'.ent (Ent.cons Ent.drop)).swap
  exact S2.re (by simpa using o2)
theorem opR_weak {F : T → T → Option T} {r : R2} {i : Nat} {sa : M T} (hr : RFb X.K g F r) {σ : L2.St} {H : Hp} {Q : VK} (h : tV X.K g (binR F sa i) σ H Q) : tOp r (tV X.K g sa) (tVar i) σ H Q := by
  obtain ⟨ρ, ts, vs, S, q⟩ := h
  refine go S q fun tx ρ1 x H1 S1 q1 => ?_
  obtain ⟨v, t, u, hv, e, p, S2, f⟩ := pk_ok S1 q1
  refine ⟨v, hv, ?_⟩
  have o : Ok X.K g H1 (t :: tx :: (ts ++ ρ1.set i .hole)) (v :: x :: (vs ++ sl σ)) := by simpa using S2.flip
  refine hr H1 tx t x v u _ _ Q e o fun z H' o' => p z H' (f ?_)
  have o2 : Ok X.K g H' (t :: u :: (ts ++ ρ1.set i .hole)) (v :: z :: (vs ++ sl σ)) := (o'.ent (Ent.cons (Ent.cons Ent.drop))).swap
  exact S2.re (by simpa using o2)
theorem ve_cmpL {op : CmpOp} {F : T → T → Option T} {r : R2} {a b : Expr} {pos : Pos} {i : Nat} {sb : M T} (ho : OpR X (compareOp op) r) (hr : RFb X.K g F r) (hm : behindInMarks op b = false) (ha : PE X a (tVar i)) (hb : PE X b (tV X.K g sb)) :
    PE X (.Compare a [op] [b] pos) (tV X.K g (binL F i sb)) := PE.weak (pe_cmpR ho ha hb hm) fun σ H Q h => opL_weak hr h
theorem ve_cmpR {op : CmpOp} {F : T → T → Option T} {r : R2} {a b : Expr} {pos : Pos} {i : Nat} {sa : M T} (ho : OpR X (compareOp op) r) (hr : RFb X.K g F r) (hm : behindInMarks op b = false) (ha : PE X a (tV X.K g sa)) (hb : PE X b (tVar i)) :
    PE X (.Compare a [op] [b] pos) (tV X.K g (binR F sa i)) := PE.weak (pe_cmpR ho ha hb hm) fun σ H Q h => opR_weak hr h
theorem boolM_weak {m : M T} {te : TE} (h : ∀ σ H Q, tV X.K g m σ H Q → te σ H Q) (σ : L2.St) (H : Hp) (Q : Bool → Hp → Prop) (q : tBo X.K g (boolM m) σ H Q) : tTest te σ H Q := by
  obtain ⟨ρ, ts, vs, S, q⟩ := q
  refine h σ H _ (go S q fun t ρ1 v H1 S1 q1 => ?_)
  obtain ⟨b, e, q2⟩ := Aft.lift q1
  have := bool?_eq e
  subst this
  have ev : v = .bl b := Ok.atom_eq (by simpa using S1.flip)
  exact ⟨b, ev, q2 H1 (S1.tmp fun rs ws o => o.drop)⟩
theorem vt_cmpL {op : CmpOp} {F : T → T → Option T} {r : R2} {a b : Expr} {pos : Pos} {i : Nat} {sb : M T} (ho : OpR X (compareOp op) r) (hr : RFb X.K g F r) (hm : behindInMarks op b = false) (ha : PE X a (tVar i)) (hb : PE X b (tV X.K g sb)) :
    PT X (.Compare a [op] [b] pos) (tBo X.K g (boolM (binL F i sb))) := PT.weak (pt_cmpR ho ha hb hm) (boolM_weak fun σ H Q h => opL_weak hr h)
theorem vt_cmpR {op : CmpOp} {F : T → T → Option T} {r : R2} {a b : Expr} {pos : Pos} {i : Nat} {sa : M T} (ho : OpR X (compareOp op) r) (hr : RFb X.K g F r) (hm : behindInMarks op b = false) (ha : PE X a (tV X.K g sa)) (hb : PE X b (tVar i)) :
    PT X (.Compare a [op] [b] pos) (tBo X.K g (boolM (binR F sa i))) := PT.weak (pt_cmpR ho ha hb hm) (boolM_weak fun σ H Q h => opR_weak hr h)
theorem rfb_eq : RFb X.K g eqT (rEqD X.K) := by
  intro H tx ty x y t ts vs Q e o q
  unfold eqT at e
  split at e
  · rename_i d1 d2 e1 e2
    split at e
    · rename_i h
      cases e
      exact ⟨d1, d2, o.drop.dp e1, o.dp e2, h.1, h.2, q _ H o.atom_push⟩
    · cases e
  · cases e
theorem rfb_ne : RFb X.K g neT (rNeD X.K) := by
  intro H tx ty x y t ts vs Q e o q
  unfold neT at e
  split at e
  · rename_i d1 d2 e1 e2
    split at e
    · rename_i h
      cases e
      exact ⟨d1, d2, o.drop.dp e1, o.dp e2, h.1, h.2, q _ H o.atom_push⟩
    · cases e
  · cases e
theorem rfb_is : RFb X.K g isNT rIsN := by
  intro H tx ty x y t ts vs Q e o q
  obtain ⟨h1, rfl⟩ := isN_of e o
  exact ⟨h1, q _ H o.atom_push⟩

/-! ### items -/
theorem atI_ix {α : Type} {xs : List α} {k : Int} {x : α} (h : atI xs k = some x) : ∃ j : Nat, xs[j]? = some x ∧ ∀ {β : Type} {us : List β} {u : β}, xs.length = us.length → us[j]? = some u → atI us k = some u := by
  unfold atI at h
  cases e : ixN xs.length k with
  | none => rw [e] at h; cases h
  | some j =>
    rw [e] at h
    refine ⟨j, h, fun {β us u} l eu => ?_⟩
    unfold atI
    rw [← l, e]
    exact eu
def itemT : T → T → Option T
  | .lst _ xs, .atom (.int k) => (atI xs k).filter T.imm
  | .ro xs, .atom (.int k) => (atI xs k).filter T.imm
  | .tup xs, .atom (.int k) => (atI xs k).filter T.imm
  | .atom (.str z), .atom (.int k) => if z.length ≤ sizeLine then (atI z.cps.toList k).map fun c => .atom (.str ⟨#[c]⟩) else none
  | _, _ => none
theorem rfb_item : RFb X.K g itemT (rIx X.K) := by
  intro H tx ty x y t ts vs Q e o q
  unfold itemT at e
  split at e
  · rename_i b xs k
    obtain ⟨e1, im⟩ := Option.filter_eq_some_iff.mp e
    have ey := o.atom_eq
    subst ey
    obtain ⟨a, us, rfl, l, ha, f⟩ := Ok.lst_at o.swap
    obtain ⟨j, h1, h2⟩ := atI_ix e1
    obtain ⟨w, hw⟩ : ∃ w, us[j]? = some w := by
      have := (List.getElem?_eq_some_iff.mp h1).1
      exact ⟨us[j]'(by omega), by simp⟩
    exact .inl ⟨a, us, k, w, rfl, rfl, .inl (.inl ha), h2 l hw, q w H ((f j t w h1 im hw).ent (Ent.cons Ent.swap))⟩
  · rename_i xs k
    obtain ⟨e1, im⟩ := Option.filter_eq_some_iff.mp e
    have ey := o.atom_eq
    subst ey
    obtain ⟨a, us, rfl, l, ha, f⟩ := Ok.ro_at o.swap
    obtain ⟨j, h1, h2⟩ := atI_ix e1
    obtain ⟨w, hw⟩ : ∃ w, us[j]? = some w := by
      have := (List.getElem?_eq_some_iff.mp h1).1
      exact ⟨us[j]'(by omega), by simp⟩
    exact .inl ⟨a, us, k, w, rfl, rfl, ha, h2 l hw, q w H ((f j t w h1 im hw).ent (Ent.cons Ent.swap))⟩
  · rename_i xs k
    obtain ⟨e1, im⟩ := Option.filter_eq_some_iff.mp e
    have ey := o.atom_eq
    subst ey
    obtain ⟨a, us, rfl, l, ha, f⟩ := Ok.tup_at o.swap
    obtain ⟨j, h1, h2⟩ := atI_ix e1
    obtain ⟨w, hw⟩ : ∃ w, us[j]? = some w := by
      have := (List.getElem?_eq_some_iff.mp h1).1
      exact ⟨us[j]'(by omega), by simp⟩
    exact .inr (.inl ⟨a, us, k, w, rfl, rfl, ha, h2 l hw, q w H ((f j t w h1 im hw).ent (Ent.cons Ent.swap))⟩)
  · rename_i z k
    split at e
    · rename_i hz
      obtain ⟨c, e1, rfl⟩ := Option.map_eq_some_iff.mp e
      exact .inr (.inr ⟨z, k, c, o.drop.atom_eq, o.atom_eq, hz, e1, q _ H o.atom_push⟩)
    · cases e
  · cases e
theorem ve_ix {a b : Expr} {pos : Pos} {sa sb : M T} (ha : PE X a (tV X.K g sa)) (hb : PE X b (tV X.K g sb)) (hs : PlainIx b := by first | exact (fun _ _ => rfl)) : PE X (.Subscript a b pos) (tV X.K g (bin itemT sa sb)) :=
  PE.weak (pe_ix ix_seq ha hb hs) fun σ H Q h => tOp_weak rfb_item.rf σ H Q h
theorem ve_ixL {a b : Expr} {pos : Pos} {i : Nat} {sb : M T} (ha : PE X a (tVar i)) (hb : PE X b (tV X.K g sb)) (hs : PlainIx b := by first | exact (fun _ _ => rfl)) : PE X (.Subscript a b pos) (tV X.K g (binL itemT i sb)) :=
  PE.weak (pe_ix ix_seq ha hb hs) fun σ H Q h => opL_weak rfb_item h

/-! ### calls of built-ins with one argument -/
def RCb (K : PySem.W.Frag) (g : G) (F : T → Option T) (r : List V → Hp → VK → Prop) : Prop := ∀ H t x u ts vs Q, F t = some u → Ok K g H (t :: ts) (x :: vs) → (∀ v H', Ok K g H' (u :: t :: ts) (v :: x :: vs) → Q v H') → r [x] H Q
def un1 (F : T → Option T) (r : M (List T)) : M T := M.bind r fun xs => match xs with
  | [t] => M.lift (F t)
  | _ => M.no
theorem tCB_weak {F : T → Option T} {r : List V → Hp → VK → Prop} {m : M (List T)} (hr : RCb X.K g F r) {σ : L2.St} {H : Hp} {Q : VK} (h : tV X.K g (un1 F m) σ H Q) : tCB r (tAr X.K g m) σ H Q := by
  obtain ⟨ρ, ts, vs, S, q⟩ := h
  refine goA S q fun xs ρ1 us H1 l S1 q1 => ?_
  split at q1
  · rename_i t
    obtain ⟨u, e, p⟩ := Aft.lift q1
    match us, l with
    | [x], _ => exact hr H1 t x u (ts ++ ρ1) (vs ++ sl σ) Q e (by simpa using S1.flip) fun v H' o => p v H' (S1.re (by simpa using o.ent (Ent.cons Ent.drop)))
  · exact q1.elim
theorem tCBL_weak {F : T → Option T} {r : List V → Hp → VK → Prop} {i : Nat} (hr : RCb X.K g F r) {σ : L2.St} {H : Hp} {Q : VK} (h : tV X.K g (pk i F) σ H Q) : tCB r (tCons (tVar i) tNil) σ H Q := by
  obtain ⟨ρ, ts, vs, S, q⟩ := h
  obtain ⟨v, t, u, hv, e, p, S2, f⟩ := pk_ok S q
  exact ⟨v, hv, hr H t v u (ts ++ ρ.set i .hole) (vs ++ sl σ) Q e (by simpa using S2.flip) fun z H' o => p z H' (f (S2.re (by simpa using o.swap)))⟩
section
variable {id : String} {F : T → Option T} {r : List V → Hp → VK → Prop} {x : Str} {e : Expr} {p pos : Pos} {m : M (List T)}
theorem ve_b1 (hc : CallR X (.builtin id) r) (hr : RCb X.K g F r) (hg : Gl X x) (hm : X.mg x = none) (hv : bootBuiltins x = some (.builtin id)) (ha : PA X [e] (tAr X.K g m)) (hn : x ≠ "__name__" := by decide) (hdb : (x == ("__debug__" : Str)) = false := by decide)
    (he : starEach [e] X.env = (false, eval e X.env) :: starEach [] X.env := by rfl) (hpl : (backTo pos (starEach [] X.env)).any (·.1) = false := by rfl) : PE X (.Call (.Name x p) [e] [] pos) (tV X.K g (un1 F m)) :=
  PE.weak (pe_callB hc hg hm hv ha hn hdb he hpl) fun σ H Q h => tCB_weak hr h
theorem ve_b1L {i : Nat} (hc : CallR X (.builtin id) r) (hr : RCb X.K g F r) (hg : Gl X x) (hm : X.mg x = none) (hv : bootBuiltins x = some (.builtin id)) (ha : PE X e (tVar i)) (hn : x ≠ "__name__" := by decide) (hdb : (x == ("__debug__" : Str)) = false := by decide)
    (he : starEach [e] X.env = (false, eval e X.env) :: starEach [] X.env := by rfl) (hpl : (backTo pos (starEach [] X.env)).any (·.1) = false := by rfl) : PE X (.Call (.Name x p) [e] [] pos) (tV X.K g (pk i F)) :=
  PE.weak (pe_callB hc hg hm hv (pa_cons ha pa_nil he) hn hdb he hpl) fun σ H Q h => tCBL_weak hr h
theorem ve_t1 (hc : CallR X (.type id) r) (hr : RCb X.K g F r) (hg : Gl X x) (hm : X.mg x = none) (hv : bootBuiltins x = some (.type id)) (ha : PA X [e] (tAr X.K g m)) (hn : x ≠ "__name__" := by decide) (hdb : (x == ("__debug__" : Str)) = false := by decide)
    (he : starEach [e] X.env = (false, eval e X.env) :: starEach [] X.env := by rfl) (hpl : (backTo pos (starEach [] X.env)).any (·.1) = false := by rfl) : PE X (.Call (.Name x p) [e] [] pos) (tV X.K g (un1 F m)) :=
  PE.weak (pe_callTy hc hg hm hv ha (hn := hn) (hdb := hdb) (he := he) (hpl := hpl)) fun σ H Q h => tCB_weak hr h
theorem ve_t1L {i : Nat} (hc : CallR X (.type id) r) (hr : RCb X.K g F r) (hg : Gl X x) (hm : X.mg x = none) (hv : bootBuiltins x = some (.type id)) (ha : PE X e (tVar i)) (hn : x ≠ "__name__" := by decide) (hdb : (x == ("__debug__" : Str)) = false := by decide)
    (he : starEach [e] X.env = (false, eval e X.env) :: starEach [] X.env := by rfl) (hpl : (backTo pos (starEach [] X.env)).any (·.1) = false := by rfl) : PE X (.Call (.Name x p) [e] [] pos) (tV X.K g (pk i F)) :=
  PE.weak (pe_callTy hc hg hm hv (pa_cons ha pa_nil he) (hn := hn) (hdb := hdb) (he := he) (hpl := hpl)) fun σ H Q h => tCBL_weak hr h
end
def lenT : T → Option T
  | .atom (.str z) => if z.length ≤ sizeLine then some (.atom (.int z.length)) else none
  | .lst _ xs => some (.atom (.int xs.length))
  | .ro xs => some (.atom (.int xs.length))
  | .tup xs => some (.atom (.int xs.length))
  | .dct _ ks _ => some (.atom (.int ks.length))
  | _ => none
def rLenA (K : PySem.W.Frag) : List V → Hp → VK → Prop := fun xs H Q => (∃ x n, xs = [x] ∧ LenV K x H n ∧ Q (.int n) H) ∨ ∃ a kvs, xs = [V.ref a] ∧ H a = some (.dK kvs) ∧ Q (.int kvs.length) H
theorem cr_len : CallR X (.builtin "len") (rLenA X.K) := CallR.or call_len call_lenD
theorem rcb_len : RCb X.K g lenT (rLenA X.K) := by
  intro H t x u ts vs Q e o q
  unfold lenT at e
  split at e
  · rename_i z
    split at e
    · rename_i h
      cases e
      exact .inl ⟨x, z.length, rfl, by rw [o.atom_eq]; exact ⟨h, rfl⟩, q _ H o.atom_push⟩
    · cases e
  · cases e
    obtain ⟨a, us, rfl, l, h, _⟩ := o.lst_open
    exact .inl ⟨_, us.length, rfl, .inl ⟨us, .inl (.inl h), rfl⟩, by rw [← l]; exact q _ H o.atom_push⟩
  · cases e
    obtain ⟨a, us, rfl, l, h, _⟩ := o.ro_open
    exact .inl ⟨_, us.length, rfl, .inl ⟨us, h, rfl⟩, by rw [← l]; exact q _ H o.atom_push⟩
  · cases e
    obtain ⟨a, us, rfl, l, h, _⟩ := o.tup_open
    exact .inl ⟨_, us.length, rfl, .inr ⟨us, h, rfl⟩, by rw [← l]; exact q _ H o.atom_push⟩
  · cases e
    rename_i ks xs
    obtain ⟨a, us, rfl, l, lk, nd, h, _⟩ := o.dct_open
    refine .inr ⟨_, _, rfl, h, ?_⟩
    have : (ks.zip us).length = ks.length := by rw [List.length_zip, lk, l]; simp
    rw [this]
    exact q _ H o.atom_push
  · cases e
def intT : T → Option T
  | .atom (.int i) => some (.atom (.int i))
  | .atom (.bl k) => some (.atom (.int (if k then 1 else 0)))
  | _ => none
def rInt1 : List V → Hp → VK → Prop := fun xs H Q => (∃ i, xs = [.int i] ∧ Q (.int i) H) ∨ ∃ k, xs = [.bl k] ∧ Q (.int (if k then 1 else 0)) H
theorem cr_int : CallR X (.type "int") rInt1 := call_int1
theorem rcb_int : RCb X.K g intT rInt1 := by
  intro H t x u ts vs Q e o q
  unfold intT at e
  split at e
  · cases e
    exact .inl ⟨_, by rw [o.atom_eq], q _ H o.atom_push⟩
  · cases e
    exact .inr ⟨_, by rw [o.atom_eq], q _ H o.atom_push⟩
  · cases e

/-! ### two arguments -/
def un2 (F : T → T → Option T) (r : M (List T)) : M T := M.bind r fun xs => match xs with
  | [t, u] => M.lift (F t u)
  | _ => M.no
def maxT : T → T → Option T
  | .atom (.int i), .atom (.int j) => some (.atom (.int (if j > i then j else i)))
  | _, _ => none
def minT : T → T → Option T
  | .atom (.int i), .atom (.int j) => some (.atom (.int (if j < i then j else i)))
  | _, _ => none
section
variable {x : Str} {e e2 : Expr} {p pos : Pos} {m : M (List T)}
theorem tCB2_weak {G : Int → Int → Int} {F : T → T → Option T} (hF : ∀ t u r, F t u = some r → ∃ i j, t = .atom (.int i) ∧ u = .atom (.int j) ∧ r = .atom (.int (G i j))) {σ : L2.St} {H : Hp} {Q : VK} (h : tV X.K g (un2 F m) σ H Q) :
    tCB (fun xs H Q => ∃ i j, xs = [.int i, .int j] ∧ Q (.int (G i j)) H) (tAr X.K g m) σ H Q := by
  obtain ⟨ρ, ts, vs, S, q⟩ := h
  refine goA S q fun xs ρ1 us H1 l S1 q1 => ?_
  split at q1
  · rename_i t u
    obtain ⟨r, e, p⟩ := Aft.lift q1
    obtain ⟨i, j, rfl, rfl, rfl⟩ := hF _ _ _ e
    match us, l with
    | [x, y], _ =>
      have o := S1.flip
      have e1 : x = .int i := Ok.atom_eq (by simpa using o)
      have e2 : y = .int j := Ok.atom_eq (Ok.drop (by simpa using o))
      subst e1 e2
      exact ⟨i, j, rfl, p _ H1 (S1.tmp fun rs ws o => Ok.atom_push (Ok.drop (Ok.drop (by simpa using o))))⟩
  · exact q1.elim
theorem ve_max (hc : X.calm = true) (hg : Gl X "max") (hm : X.mg "max" = none) (ha : PA X [e, e2] (tAr X.K g m)) (he : starEach [e, e2] X.env = (false, eval e X.env) :: starEach [e2] X.env := by rfl) (hpl : (backTo pos (starEach [e2] X.env)).any (·.1) = false := by rfl) :
    PE X (.Call (.Name "max" p) [e, e2] [] pos) (tV X.K g (un2 maxT m)) :=
  PE.weak (pe_callB (call_max2 hc) hg hm (by decide +kernel) ha (by decide) (by decide) he hpl) fun σ H Q h => tCB2_weak (G := fun i j => if j > i then j else i) (fun t u r e => by
    unfold maxT at e
    split at e
    · cases e; exact ⟨_, _, rfl, rfl, rfl⟩
    · cases e) h
theorem ve_min (hc : X.calm = true) (hg : Gl X "min") (hm : X.mg "min" = none) (ha : PA X [e, e2] (tAr X.K g m)) (he : starEach [e, e2] X.env = (false, eval e X.env) :: starEach [e2] X.env := by rfl) (hpl : (backTo pos (starEach [e2] X.env)).any (·.1) = false := by rfl) :
    PE X (.Call (.Name "min" p) [e, e2] [] pos) (tV X.K g (un2 minT m)) :=
  PE.weak (pe_callB (call_min2 hc) hg hm (by decide +kernel) ha (by decide) (by decide) he hpl) fun σ H Q h => tCB2_weak (G := fun i j => if j < i then j else i) (fun t u r e => by
    unfold minT at e
    split at e
    · cases e; exact ⟨_, _, rfl, rfl, rfl⟩
    · cases e) h
end
end
end VS
/-! FW11: what changes a list, x += e. -/
namespace VS
open PySem L2

def lsv (i : Nat) : M Unit := fun ρ => match ρ[i]? with
  | some (.lst true _) => .ok () ρ
  | _ => .no
/-- a method of the list at a slot -/
def mth (i : Nat) (f : List T → List T → Option (T × List T)) (e : M (List T)) : M T := M.bind (lsv i) fun _ => M.bind e fun as => fun ρ => match ρ[i]? with
  | some (.lst true xs) => (match f xs as with
    | some (r, xs') => .ok r (ρ.set i (.lst true xs'))
    | none => .no)
  | _ => .no
def RMb (K : PySem.W.Frag) (g : G) (f : List T → List T → Option (T × List T)) (r : V → List V → Hp → VK → Prop) : Prop :=
  ∀ H xs as v ys u xs' ts vs Q, f xs as = some (u, xs') → as.length = ys.length → Ok K g H (as ++ .lst true xs :: ts) (ys ++ v :: vs) → (∀ z H', Ok K g H' (u :: .lst true xs' :: ts) (z :: v :: vs) → Q z H') → r v ys H Q
def appF : List T → List T → Option (T × List T)
  | xs, [t] => if xs.length < 1000000 then some (.atom .non, xs ++ [t]) else none
  | _, _ => none
def popF : List T → List T → Option (T × List T)
  | xs, [.atom (.int k)] => if -(2 ^ 63) ≤ k ∧ k < 2 ^ 63 then (seqIndex? k xs.length).bind fun j => xs[j]?.map fun x => (x, xs.eraseIdx j) else none
  | _, _ => none
def extF : List T → List T → Option (T × List T)
  | xs, [.lst _ ys] => if xs.length + ys.length ≤ 1000000 then some (.atom .non, xs ++ ys) else none
  | _, _ => none
def setF (k : Int) (xs : List T) (t : T) : Option (List T) := (ixN xs.length k).map fun j => xs.set j t
section
variable {X : Cx} {g : G}
theorem Ent.setAt {xs ts : List T} {us vs : List V} {j : Nat} {t : T} {w : V} (l : xs.length = us.length) (hj : j < xs.length) : Ent (xs ++ t :: ts) (us ++ w :: vs) (xs.set j t ++ ts) (us.set j w ++ vs) := by
  have e1 : xs[j]? = some xs[j] := by simp [hj]
  have hu : j < us.length := by omega
  have e2 : us[j]? = some us[j] := by simp [hu]
  obtain ⟨a, b, ea, la⟩ := split_at e1
  obtain ⟨c, d, ec, lc⟩ := split_at e2
  have l1 : a.length = c.length := by omega
  generalize xs[j] = x0 at ea
  generalize us[j] = u0 at ec
  have l2 : b.length = d.length := by
    rw [ea, ec] at l
    simp only [List.length_append, List.length_cons] at l
    omega
  have s1 : xs.set j t = a ++ t :: b := by rw [ea, ← la, set_split]
  have s2 : us.set j w = c ++ w :: d := by rw [ec, ← lc, set_split]
  rw [s1, s2, ea, ec]
  have h1 : Ent ((a ++ x0 :: b) ++ ([t] ++ ts)) ((c ++ u0 :: d) ++ ([w] ++ vs)) ([t] ++ ((a ++ x0 :: b) ++ ts)) ([w] ++ ((c ++ u0 :: d) ++ vs)) := Ent.rot (by simp [l1, l2]) rfl
  have h2 : Ent ([t] ++ (a ++ (x0 :: (b ++ ts)))) ([w] ++ (c ++ (u0 :: (d ++ vs)))) (a ++ ([t] ++ (x0 :: (b ++ ts)))) (c ++ ([w] ++ (u0 :: (d ++ vs)))) := Ent.rot rfl l1
  have h3 : Ent (a ++ ([t] ++ (x0 :: (b ++ ts)))) (c ++ ([w] ++ (u0 :: (d ++ vs)))) (a ++ (t :: (b ++ ts))) (c ++ (w :: (d ++ vs))) := Ent.apps (Ent.cons Ent.drop) l1
  have h1' : Ent ((a ++ x0 :: b) ++ t :: ts) ((c ++ u0 :: d) ++ w :: vs) ([t] ++ (a ++ (x0 :: (b ++ ts)))) ([w] ++ (c ++ (u0 :: (d ++ vs)))) := by simpa using h1
  have := (h1'.trans h2).trans h3
  simpa using this
theorem Ent.outAt {xs ts : List T} {us vs : List V} {j : Nat} {x : T} {w : V} (l : xs.length = us.length) (e1 : xs[j]? = some x) (e2 : us[j]? = some w) : Ent (xs ++ ts) (us ++ vs) (xs.eraseIdx j ++ x :: ts) (us.eraseIdx j ++ w :: vs) := by
  obtain ⟨a, b, ea, la⟩ := split_at e1
  obtain ⟨c, d, ec, lc⟩ := split_at e2
  have l1 : a.length = c.length := by omega
  have l2 : b.length = d.length := by
    rw [ea, ec] at l
    simp only [List.length_append, List.length_cons] at l
    omega
  have er : ∀ {α : Type} (a b : List α) (x : α), (a ++ x :: b).eraseIdx a.length = a ++ b := by
    intro α a b x
    induction a with
    | nil => rfl
    | cons y a ih => simp [ih]
  have s1 : xs.eraseIdx j = a ++ b := by rw [ea, ← la, er]
  have s2 : us.eraseIdx j = c ++ d := by rw [ec, ← lc, er]
  rw [s1, s2, ea, ec]
  have h : Ent (a ++ ([x] ++ (b ++ ts))) (c ++ ([w] ++ (d ++ vs))) (a ++ (b ++ ([x] ++ ts))) (c ++ (d ++ ([w] ++ vs))) := Ent.apps (Ent.rot rfl l2) l1
  simpa using h
theorem rm_app : RMb X.K g appF rAppend := by
  intro H xs as v ys u xs' ts vs Q e l o q
  unfold appF at e
  split at e
  · rename_i t
    split at e
    · rename_i hl
      cases e
      match ys, l with
      | [y], _ =>
        obtain ⟨a, us, rfl, l1, ha, o'⟩ := Ok.append o
        exact ⟨a, us, y, rfl, rfl, ha, Nat.lt_of_lt_of_le (by rw [← l1]; exact hl) (by decide), q _ _ o'.atom_push⟩
    · cases e
  · cases e
theorem rm_pop : RMb X.K g popF rPopAt := by
  intro H xs as v ys u xs' ts vs Q e l o q
  unfold popF at e
  split at e
  · rename_i k
    split at e
    · rename_i hk
      obtain ⟨j, e1, e2⟩ := Option.bind_eq_some_iff.mp e
      obtain ⟨x, e3, e4⟩ := Option.map_eq_some_iff.mp e2
      cases e4
      match ys, l with
      | [y], _ =>
        have ey : y = .int k := Ok.atom_eq o
        subst ey
        obtain ⟨a, us, rfl, l1, ha, f⟩ := Ok.lst_mod (Ok.drop o)
        have hj : j < us.length := by have := (List.getElem?_eq_some_iff.mp e3).1; omega
        have e5 : us[j]? = some us[j] := by simp [hj]
        refine ⟨a, us, k, j, us[j], rfl, rfl, ha, hk.1, hk.2, by rw [← l1]; exact e1, e5, q _ _ ?_⟩
        have := f (xs.eraseIdx j) (us.eraseIdx j) (u :: ts) (us[j] :: vs) (Ent.outAt l1 e3 e5) (by simp [List.length_eraseIdx, l1])
        exact this.swap
    · cases e
  · cases e
theorem rm_ext : RMb X.K g extF rExtend := by
  intro H xs as v ys u xs' ts vs Q e l o q
  unfold extF at e
  split at e
  · rename_i b zs
    split at e
    · rename_i hl
      cases e
      match ys, l with
      | [y], _ =>
        obtain ⟨c, ws, rfl, l2, hc, o2⟩ := Ok.lst_open o
        have o3 : Ok X.K g H (.lst true xs :: (zs ++ ts)) (v :: (ws ++ vs)) := o2.ent (by simpa using Ent.rot (xs := zs) (us := ws) (ys := [T.lst true xs]) (ws := [v]) (zs := ts) (vs := vs) l2 rfl)
        obtain ⟨a, us, rfl, l1, ha, f⟩ := Ok.lst_mod o3
        refine ⟨a, c, us, ws, rfl, rfl, ha, hc, mil (by omega), q _ _ (Ok.atom_push ?_)⟩
        exact f (xs ++ zs) (us ++ ws) ts vs (by simpa using (Ent.refl (ts := xs ++ (zs ++ ts)) (vs := us ++ (ws ++ vs)))) (by simp [l1, l2])
    · cases e
  · cases e
theorem lsv_ok {K : PySem.W.Frag} {σ : L2.St} {H : Hp} {ρ : Env} {ts : List T} {vs : List V} {β : Type} {f : Unit → M β} {i : Nat} {P : β → Env → Prop} (S : Sg K g σ H ρ ts vs) (h : Aft (M.bind (lsv i) f ρ) P) : ∃ v, σ[i]? = some (some v) ∧ tyV K "list" v H ∧ Aft (f () ρ) P := by
  have q := Aft.bind h
  unfold lsv at q
  split at q
  · rename_i xs e
    obtain ⟨v, hv, S1⟩ := S.take e rfl
    obtain ⟨a, us, rfl, l, ha, _⟩ := Ok.lst_open (by simpa using S1.flip)
    exact ⟨_, hv, .inl ⟨rfl, us, .inl (.inl ha)⟩, q⟩
  · exact q.elim
theorem tBM_weak {f : List T → List T → Option (T × List T)} {r : V → List V → Hp → VK → Prop} {i : Nat} {m : M (List T)} (hr : RMb X.K g f r) {σ : L2.St} {H : Hp} {Q : VK} (h : tV X.K g (mth i f m) σ H Q) : tBM X.K "list" r (tVar i) (tAr X.K g m) σ H Q := by
  obtain ⟨ρ, ts, vs, S, q⟩ := h
  obtain ⟨v, hv, ty, q⟩ := lsv_ok S q
  refine ⟨v, hv, ty, goA S q fun as ρ1 ys H1 l S1 q1 => ?_⟩
  split at q1
  · rename_i xs e
    obtain ⟨v', hv', S2⟩ := S1.take e rfl
    rw [hv] at hv'; cases hv'
    split at q1
    · rename_i u xs' ef
      have o : Ok X.K g H1 (as ++ .lst true xs :: (ts ++ ρ1.set i .hole)) (ys ++ v :: (vs ++ sl σ)) := by
        have o1 : Ok X.K g H1 ([.lst true xs] ++ (as ++ (ts ++ ρ1.set i .hole))) ([v] ++ (ys ++ (vs ++ sl σ))) := by simpa using S2.flip
        simpa using o1.ent (Ent.rot rfl l)
      refine hr H1 xs as v ys u xs' _ _ Q ef l o fun z H' o' => q1 z H' ?_
      have S3 : Sg X.K g σ H' (ρ1.set i .hole) (.lst true xs' :: u :: ts) (v :: z :: vs) := S2.re (by simpa using o'.swap)
      have := S3.back hv
      rwa [List.set_set] at this
    · exact q1.elim
  · exact q1.elim
theorem ve_mth {o e : Expr} {es : List Expr} {i : Nat} {name : Str} {apos cpos : Pos} {id : String} {r : V → List V → Hp → VK → Prop} {f : List T → List T → Option (T × List T)} {m : M (List T)} (slot : Slot "list" name id) (hty : typeOf (.builtin id) = pure (.type "method_descriptor")) (hm : MtR X id r) (hr : RMb X.K g f r)
    (h : PE X (.Call (.Attribute o name apos) (e :: es) [] cpos) (tBM X.K "list" r (tVar i) (tAr X.K g m))) : PE X (.Call (.Attribute o name apos) (e :: es) [] cpos) (tV X.K g (mth i f m)) := PE.weak h fun σ H Q q => tBM_weak hr q

/-! ### x[k] = e -/
def setIx (i : Nat) (k : M T) (t : T) : M Unit := M.bind (nhv i) fun _ => M.bind k fun n => fun ρ => match ρ[i]?, n with
  | some (.lst true xs), .atom (.int j) => (match setF j xs t with
    | some xs' => .ok () (ρ.set i (.lst true xs'))
    | none => .no)
  | _, _ => .no
theorem vs_setIx {st : Stmt} {e : M T} {k : M T} {i : Nat} (h : PS X st (tAsg (tV X.K g e) (gSub (tVar i) (tV X.K g k) rSetL))) : PS X st (tSt X.K g (asgM e (setIx i k))) := PS.weak h fun D σ H ⟨ρ, ts, vs, S, q⟩ => go S q fun t ρ1 w H1 S1 q1 => by
  have q2 := Aft.bind q1
  obtain ⟨v, hv, q3⟩ := nhv_ok S1 q2
  refine ⟨v, hv, go S1 q3 fun n ρ2 y H2 S2 q4 => ?_⟩
  split at q4
  · rename_i xs j e1
    split at q4
    · rename_i xs' e2
      obtain ⟨jj, e3, e4⟩ := Option.map_eq_some_iff.mp e2
      obtain ⟨v', hv', S3⟩ := S2.take e1 rfl
      rw [hv] at hv'; cases hv'
      have o : Ok X.K g H2 (.lst true xs :: (.atom (.int j) :: t :: (ts ++ ρ2.set i .hole))) (v :: (y :: w :: (vs ++ sl σ))) := by simpa using S3.flip
      have ey : y = .int j := Ok.atom_eq o.drop
      subst ey
      have o2 : Ok X.K g H2 (.lst true xs :: t :: (ts ++ ρ2.set i .hole)) (v :: w :: (vs ++ sl σ)) := o.ent (Ent.cons Ent.drop)
      obtain ⟨a, us, rfl, l1, ha, f⟩ := Ok.lst_mod o2
      have hj : jj < xs.length := (ixN_seq e3).2.1
      refine ⟨a, us, j, jj, rfl, rfl, ha, by rw [← l1]; exact e3, ?_⟩
      have o3 := f (xs.set jj t) (us.set jj w) (ts ++ ρ2.set i .hole) (vs ++ sl σ) (Ent.setAt l1 hj) (by simp [l1])
      rw [e4] at o3
      have S4 : Sg X.K g σ (upd H2 a (.lst (us.set jj w))) (ρ2.set i .hole) (.lst true xs' :: ts) (.ref a :: vs) := S3.re (by simpa using o3)
      have := S4.back hv
      rw [List.set_set] at this
      exact q4 σ _ this
    · exact q4.elim
  · exact q4.elim
theorem vs_aug {st : Stmt} {i : Nat} {m : M T} (h : PS X st (tAug i (tV X.K g m) (ipI fun i j => i + j))) (hp : g.pins.all (fun p => p.1 != i) = true := by rfl) : PS X st (tSt X.K g (augM i m)) := PS.weak h fun D σ H ⟨ρ, ts, vs, S, q⟩ => by
  have q0 := Aft.bind q
  unfold cpv at q0
  split at q0
  · rename_i t e
    split at q0
    · rename_i im
      obtain ⟨v, hv, S1⟩ := S.copy e im
      refine ⟨v, hv, go S1 q0 fun y ρ1 w H1 S2 q1 => ?_⟩
      split at q1
      · rename_i a b
        have o := S2.flip
        have e1 : w = .int b := Ok.atom_eq (by simpa using o)
        have e2 : v = .int a := Ok.atom_eq (Ok.drop (by simpa using o))
        subst e1 e2
        have q2 := Aft.bind q1
        unfold setv at q2
        split at q2
        · rename_i hi
          exact ⟨a, b, rfl, rfl, q2 _ H1 (Sg.put (S2.tmp (ts' := .atom (.int (a + b)) :: ts) (vs' := .int (a + b) :: vs) fun rs ws o => Ok.atom_push (Ok.drop (Ok.drop (by simpa using o)))) hi hp)⟩
        · exact q2.elim
      · exact q1.elim
    · exact q0.elim
  · exact q0.elim
end
end VS
/-! FW12: order, in, slices, list(range), enumerate, zip, several targets, comprehensions as rules. -/
namespace VS
open PySem L2

def T.ints : List T → Option (List Int)
  | [] => some []
  | .atom (.int i) :: ts => (T.ints ts).map (i :: ·)
  | _ => none
section
variable {K : PySem.W.Frag} {g : G} {H : Hp}
theorem Ok.ints : ∀ {xs ts : List T} {us vs : List V} {ns : List Int}, Ok K g H (xs ++ ts) (us ++ vs) → xs.length = us.length → T.ints xs = some ns → us = ns.map V.int
  | [], ts, [], vs, ns, _, _, e => by simp [T.ints] at e; subst e; rfl
  | x :: xs, ts, u :: us, vs, ns, o, l, e => by
    cases x with
    | atom w =>
      cases w with
      | int i =>
        simp only [T.ints, Option.map_eq_some_iff] at e
        obtain ⟨ms, e1, rfl⟩ := e
        have h1 := Ok.atom_eq o
        have h2 := Ok.ints (xs := xs) (us := us) (Ok.drop o) (by simpa using l) e1
        rw [h1, h2]; rfl
      | _ => simp [T.ints] at e
    | _ => simp [T.ints] at e
theorem Ok.tup_ints {xs ts : List T} {v : V} {vs : List V} {ns : List Int} (o : Ok K g H (.tup xs :: ts) (v :: vs)) (e : T.ints xs = some ns) : ∃ a, v = .ref a ∧ SqT K H a (ns.map V.int) := by
  obtain ⟨a, us, rfl, l, h, o'⟩ := o.tup_open
  rw [Ok.ints o' l e] at h
  exact ⟨a, rfl, h⟩
end
def ltL (ns ms : List Int) : Bool := HT.lexLt ns ms
def leL (ns ms : List Int) : Bool := Ob.lexAt (fun j => decide (ns.getD j 0 = ms.getD j 0)) (fun j => decide (ns.getD j 0 ≤ ms.getD j 0)) (decide (ns.length ≤ ms.length)) 0 (min ns.length ms.length)
def ordT (f : Int → Int → Bool) (k : Str → Str → Bool) (l : List Int → List Int → Option Bool) : T → T → Option T
  | .atom (.int i), .atom (.int j) => some (.atom (.bl (f i j)))
  | .atom (.str i), .atom (.str j) => some (.atom (.bl (k i j)))
  | .tup xs, .tup ys => match T.ints xs, T.ints ys with
    | some ns, some ms => (l ns ms).map fun b => .atom (.bl b)
    | _, _ => none
  | _, _ => none
def ltT : T → T → Option T := ordT (fun i j => decide (i < j)) (fun i j => decide (i.cps.toList < j.cps.toList)) fun ns ms => some (HT.lexLt ns ms)
def leT : T → T → Option T := ordT (fun i j => decide (i ≤ j)) (fun i j => !decide (j.cps.toList < i.cps.toList)) fun ns ms => some (leL ns ms)
def gtT : T → T → Option T := ordT (fun i j => decide (j < i)) (fun i j => decide (j.cps.toList < i.cps.toList)) fun _ _ => none
def geT : T → T → Option T := ordT (fun i j => decide (j ≤ i)) (fun i j => !decide (i.cps.toList < j.cps.toList)) fun _ _ => none
def rStr (k : Str → Str → Bool) : R2 := fun x y H Q => ∃ i j, x = .str i ∧ y = .str j ∧ Q (.bl (k i j)) H
def rTup (K : PySem.W.Frag) (l : List Int → List Int → Option Bool) : R2 := fun x y H Q => ∃ a b ns ms z, x = .ref a ∧ y = .ref b ∧ SqT K H a (ns.map V.int) ∧ SqT K H b (ms.map V.int) ∧ l ns ms = some z ∧ Q (.bl z) H
def rOrd (K : PySem.W.Frag) (f : Int → Int → Bool) (k : Str → Str → Bool) (l : List Int → List Int → Option Bool) : R2 := fun x y H Q => rI0 (fun i j => .bl (f i j)) x y H Q ∨ rStr k x y H Q ∨ rTup K l x y H Q
section
variable {X : Cx} {g : G}
theorem rfb_ord {f : Int → Int → Bool} {k : Str → Str → Bool} {l : List Int → List Int → Option Bool} : RFb X.K g (ordT f k l) (rOrd X.K f k l) := by
  intro H tx ty x y t ts vs Q e o q
  unfold ordT at e
  split at e
  · cases e
    exact .inl ⟨_, _, o.drop.atom_eq, o.atom_eq, q _ H o.atom_push⟩
  · cases e
    exact .inr (.inl ⟨_, _, o.drop.atom_eq, o.atom_eq, q _ H o.atom_push⟩)
  · split at e
    · rename_i xs ys ns ms e1 e2
      obtain ⟨b, e3, rfl⟩ := Option.map_eq_some_iff.mp e
      obtain ⟨a, h1, h2⟩ := Ok.tup_ints o.drop e1
      obtain ⟨c, h3, h4⟩ := Ok.tup_ints o e2
      exact .inr (.inr ⟨a, c, ns, ms, b, h1, h3, h2, h4, e3, q _ H o.atom_push⟩)
    · cases e
  · cases e
theorem opr_none {f : Value → Value → Sem Value} {K : PySem.W.Frag} : OpR X f (rTup K fun _ _ => none) := fun pins s σ H x y v u Q I rx ry ⟨_, _, _, _, _, _, _, _, _, e, _⟩ => nomatch e
theorem oprw {f : Value → Value → Sem Value} {r r' : R2} (h : OpR X f r) (w : ∀ x y H Q, r' x y H Q → r x y H Q) : OpR X f r' := fun pins s σ H x y v u Q I rx ry q => h pins s σ H x y v u Q I rx ry (w _ _ _ _ q)
theorem opr_lt (hu : X.A.units + 64 < cLine) : OpR X (compareOp .Lt) (rOrd X.K (fun i j => decide (i < j)) (fun i j => decide (i.cps.toList < j.cps.toList)) fun ns ms => some (HT.lexLt ns ms)) :=
  OpR.or op_lt (OpR.or op_lt_str (oprw (op_ltT (X := X) (by omega)) fun x y H Q ⟨a, b, ns, ms, z, e1, e2, h1, h2, e, q⟩ => ⟨a, b, ns, ms, e1, e2, h1, h2, by cases e; exact q⟩))
theorem opr_le (hu : X.A.units + 64 < cLine) : OpR X (compareOp .LtE) (rOrd X.K (fun i j => decide (i ≤ j)) (fun i j => !decide (j.cps.toList < i.cps.toList)) fun ns ms => some (leL ns ms)) :=
  OpR.or op_le (OpR.or op_le_str (oprw (op_leT (X := X) (by omega)) fun x y H Q ⟨a, b, ns, ms, z, e1, e2, h1, h2, e, q⟩ => ⟨a, b, ns, ms, e1, e2, h1, h2, by cases e; exact q⟩))
theorem opr_gt (hu : X.A.units + 64 < cLine) : OpR X (compareOp .Gt) (rOrd X.K (fun i j => decide (j < i)) (fun i j => decide (j.cps.toList < i.cps.toList)) fun _ _ => none) := OpR.or op_gt (OpR.or op_gt_str opr_none)
theorem opr_ge (hu : X.A.units + 64 < cLine) : OpR X (compareOp .GtE) (rOrd X.K (fun i j => decide (j ≤ i)) (fun i j => !decide (i.cps.toList < j.cps.toList)) fun _ _ => none) := OpR.or op_ge (OpR.or op_ge_str opr_none)
theorem rfb_lt : RFb X.K g ltT (rOrd X.K (fun i j => decide (i < j)) (fun i j => decide (i.cps.toList < j.cps.toList)) fun ns ms => some (HT.lexLt ns ms)) := rfb_ord
theorem rfb_le : RFb X.K g leT (rOrd X.K (fun i j => decide (i ≤ j)) (fun i j => !decide (j.cps.toList < i.cps.toList)) fun ns ms => some (leL ns ms)) := rfb_ord
theorem rfb_gt : RFb X.K g gtT (rOrd X.K (fun i j => decide (j < i)) (fun i j => decide (j.cps.toList < i.cps.toList)) fun _ _ => none) := rfb_ord
theorem rfb_ge : RFb X.K g geT (rOrd X.K (fun i j => decide (j ≤ i)) (fun i j => !decide (i.cps.toList < j.cps.toList)) fun _ _ => none) := rfb_ord
theorem rfb_isnt : RFb X.K g notNT rNotN := by
  intro H tx ty x y t ts vs Q e o q
  unfold notNT at e
  split at e
  · rename_i b e1
    cases e
    obtain ⟨h1, h2⟩ := isN_of e1 o
    cases h2
    exact ⟨h1, q _ H o.atom_push⟩
  · cases e

/-! ### in -/
def T.strs : List T → Option (List Str)
  | [] => some []
  | .atom (.str i) :: ts => (T.strs ts).map (i :: ·)
  | _ => none
theorem Ok.strs {K : PySem.W.Frag} {g : G} {H : Hp} : ∀ {xs ts : List T} {us vs : List V} {ns : List Str}, Ok K g H (xs ++ ts) (us ++ vs) → xs.length = us.length → T.strs xs = some ns → us = ns.map V.str
  | [], ts, [], vs, ns, _, _, e => by simp [T.strs] at e; subst e; rfl
  | x :: xs, ts, u :: us, vs, ns, o, l, e => by
    cases x with
    | atom w =>
      cases w with
      | str i =>
        simp only [T.strs, Option.map_eq_some_iff] at e
        obtain ⟨ms, e1, rfl⟩ := e
        have h1 := Ok.atom_eq o
        have h2 := Ok.strs (xs := xs) (us := us) (Ok.drop o) (by simpa using l) e1
        rw [h1, h2]; rfl
      | _ => simp [T.strs] at e
    | _ => simp [T.strs] at e
def inL (t : T) (xs : List T) : Option Bool := match t.dat, T.dats xs with
  | some d, some ds => if SeqAt.shaped d = true ∧ SeqAt.shaped (.list ds) = true then some (ds.any fun z => PyData.eqv z d) else none
  | _, _ => none
/-- one sign of a text -/
def sgn? (x : Str) : Option Nat := match x.cps.toList with
  | [c] => some c
  | _ => none
def hasK (ks : List Key) (k : Key) : Bool := ks.any fun a => decide (a = k)
def memT : T → T → Option Bool
  | t, .lst _ xs => inL t xs
  | t, .ro xs => inL t xs
  | .atom (.int i), .tup xs => (T.ints xs).map fun ns => decide (i ∈ ns)
  | .atom (.str x), .tup xs => (T.strs xs).map fun ns => decide (x ∈ ns)
  | .atom (.str x), .atom (.str y) => (sgn? x).map fun c => decide (c ∈ y.cps.toList)
  | .atom (.str x), .dct _ ks _ => some (hasK ks (.inr x))
  | .atom (.int i), .dct _ ks _ => some (hasK ks (.inl i))
  | _, _ => none
def inT (t u : T) : Option T := (memT t u).map fun b => .atom (.bl b)
def ninT (t u : T) : Option T := (memT t u).map fun b => .atom (.bl (!b))
def rMem (X : Cx) (f : Bool → Bool) : R2 := fun x y H Q => (∃ d ds, Dp X.K H x d ∧ Dp X.K H y (.list ds) ∧ SeqAt.shaped d = true ∧ SeqAt.shaped (.list ds) = true ∧ Q (.bl (f (ds.any fun z => PyData.eqv z d))) H) ∨
  (∃ p xs, y = .ref p ∧ (SqL X.K H p xs ∨ SqT X.K H p xs) ∧ flatV x = true ∧ xs.all flatV = true ∧ Q (.bl (f (inV x xs))) H) ∨
  (∃ (c : Nat) (z : Str), x = .str ⟨#[c]⟩ ∧ y = .str z ∧ Q (.bl (f (decide (c ∈ z.cps.toList)))) H) ∨
  ∃ a o, y = .ref a ∧ DGet H a x o ∧ Q (.bl (f o.isSome)) H
theorem opr_in (hu : X.A.units + 65 < cLine) : OpR X (compareOp .In) (rMem X fun b => b) :=
  OpR.or (op_inD hu) (OpR.or (oprw op_in_seq fun x y H Q ⟨p, xs, e, h, f1, f2, q⟩ => ⟨p, xs, e, h, f1, f2, q⟩) (OpR.or op_in_sign fun pins s σ H x y v u Q I rx ry ⟨a, o, e, h, q⟩ => by
    subst e
    obtain rfl : u = Value.ref a := ry
    exact d_in (by omega) I h rx fun s' I' => ⟨.bl o.isSome, H, I', rfl, q⟩))
theorem opr_nin (hu : X.A.units + 65 < cLine) : OpR X (compareOp .NotIn) (rMem X fun b => !b) :=
  OpR.or (op_notInD hu) (OpR.or (oprw op_notIn_seq fun x y H Q ⟨p, xs, e, h, f1, f2, q⟩ => ⟨p, xs, e, h, f1, f2, q⟩) (OpR.or op_notIn_sign fun pins s σ H x y v u Q I rx ry ⟨a, o, e, h, q⟩ => by
    subst e
    obtain rfl : u = Value.ref a := ry
    exact d_notIn (by omega) I h rx fun s' I' => ⟨.bl (!o.isSome), H, I', rfl, q⟩))
theorem inV_ints (i : Int) : ∀ ns : List Int, inV (.int i) (ns.map V.int) = decide (i ∈ ns)
  | [] => rfl
  | n :: ns => by
    have h : inV (.int i) ((n :: ns).map V.int) = ((n == i) || inV (.int i) (ns.map V.int)) := rfl
    rw [h, inV_ints i ns]
    by_cases e : n = i
    · subst e; simp
    · have e2 : ¬ i = n := fun z => e z.symm
      simp [e, e2]
theorem flat_ints (ns : List Int) : (ns.map V.int).all flatV = true := by
  rw [List.all_map]
  exact List.all_eq_true.mpr fun _ _ => rfl
theorem inV_strs (i : Str) : ∀ ns : List Str, inV (.str i) (ns.map V.str) = decide (i ∈ ns)
  | [] => rfl
  | n :: ns => by
    have h : inV (.str i) ((n :: ns).map V.str) = ((n == i) || inV (.str i) (ns.map V.str)) := rfl
    rw [h, inV_strs i ns]
    by_cases e : n = i
    · subst e; simp
    · have e2 : ¬ i = n := fun z => e z.symm
      simp [e, e2]
theorem flat_strs (ns : List Str) : (ns.map V.str).all flatV = true := by
  rw [List.all_map]
  exact List.all_eq_true.mpr fun _ _ => rfl
theorem valV_some {k : Key} : ∀ {ks : List Key} {us : List V}, ks.length = us.length → (valV (ks.zip us) k).isSome = hasK ks k
  | [], _, _ => rfl
  | a :: ks, [], l => by cases l
  | a :: ks, u :: us, l => by
    have ih := valV_some (k := k) (ks := ks) (us := us) (by simpa using l)
    unfold valV hasK at ih ⊢
    rw [List.zip_cons_cons, List.find?_cons, List.any_cons]
    by_cases e : a = k
    · simp [e]
    · simp only [e, decide_false, Bool.false_or]
      exact ih
theorem mem_of {H : Hp} {f : Bool → Bool} {tx ty : T} {x y : V} {b : Bool} {ts : List T} {vs : List V} {Q : VK} (e : memT tx ty = some b) (o : Ok X.K g H (ty :: tx :: ts) (y :: x :: vs)) (q : Q (.bl (f b)) H) : rMem X f x y H Q := by
  have deep : ∀ {xs : List T} {ds}, ty.dat = some (.list ds) → inL tx xs = some b → T.dats xs = some ds → rMem X f x y H Q := fun {xs ds} e1 e2 e3 => by
    unfold inL at e2
    rw [e3] at e2
    split at e2
    · rename_i d ds' h1 h2
      cases h2
      split at e2
      · rename_i h
        cases e2
        exact .inl ⟨d, ds, o.drop.dp h1, o.dp e1, h.1, h.2, q⟩
      · cases e2
    · cases e2
  have ex : ∀ {xs : List T}, inL tx xs = some b → ∃ ds, T.dats xs = some ds := fun {xs} e => by
    unfold inL at e
    split at e
    · rename_i d ds h1 h2; exact ⟨ds, h2⟩
    · cases e
  unfold memT at e
  split at e
  · obtain ⟨ds, h⟩ := ex e
    exact deep (by simp [T.dat, h]) e h
  · obtain ⟨ds, h⟩ := ex e
    exact deep (by simp [T.dat, h]) e h
  · obtain ⟨ns, e1, rfl⟩ := Option.map_eq_some_iff.mp e
    obtain ⟨a, rfl, h⟩ := Ok.tup_ints o e1
    have ex := o.drop.atom_eq
    subst ex
    exact .inr (.inl ⟨a, _, rfl, .inr h, rfl, flat_ints ns, by rw [inV_ints]; exact q⟩)
  · obtain ⟨ns, e1, rfl⟩ := Option.map_eq_some_iff.mp e
    obtain ⟨a, us, rfl, l, h, o'⟩ := o.tup_open
    have eu := Ok.strs o' l e1
    subst eu
    have ex := o.drop.atom_eq
    subst ex
    exact .inr (.inl ⟨a, _, rfl, .inr h, rfl, flat_strs ns, by rw [inV_strs]; exact q⟩)
  · rename_i xx yy
    obtain ⟨c, e1, rfl⟩ := Option.map_eq_some_iff.mp e
    have ex := o.drop.atom_eq
    have ey := o.atom_eq
    subst ex ey
    have : xx = ⟨#[c]⟩ := by
      unfold sgn? at e1
      split at e1
      · rename_i d hd
        cases e1
        obtain ⟨arr⟩ := xx
        simp only [Str.mk.injEq]
        exact Array.toList_inj.mp hd
      · cases e1
    exact .inr (.inr (.inl ⟨c, yy, by rw [this], rfl, q⟩))
  · rename_i xx bb ks xs
    cases e
    obtain ⟨a, us, rfl, l, lk, nd, h, _⟩ := o.dct_open
    have ex := o.drop.atom_eq
    subst ex
    refine .inr (.inr (.inr ⟨a, _, rfl, DGet.k (k := Sum.inr xx) h, ?_⟩))
    rw [valV_some (by omega)]; exact q
  · rename_i ii bb ks xs
    cases e
    obtain ⟨a, us, rfl, l, lk, nd, h, _⟩ := o.dct_open
    have ex := o.drop.atom_eq
    subst ex
    refine .inr (.inr (.inr ⟨a, _, rfl, DGet.k (k := Sum.inl ii) h, ?_⟩))
    rw [valV_some (by omega)]; exact q
  · cases e
theorem rfb_in : RFb X.K g inT (rMem X fun b => b) := by
  intro H tx ty x y t ts vs Q e o q
  obtain ⟨b, e1, rfl⟩ := Option.map_eq_some_iff.mp e
  exact mem_of e1 o (q _ H o.atom_push)
theorem rfb_nin : RFb X.K g ninT (rMem X fun b => !b) := by
  intro H tx ty x y t ts vs Q e o q
  obtain ⟨b, e1, rfl⟩ := Option.map_eq_some_iff.mp e
  exact mem_of (f := fun b => !b) e1 o (q _ H o.atom_push)
end
end VS
/-! FW13: slices, list(range), enumerate, zip, several targets, comprehensions as rules, list(), tuple(), index. -/
namespace VS
open PySem L2

/-! ### slices -/
def tOp' (K : PySem.W.Frag) (g : G) (m : M (Option Int)) : TO := fun σ H Q => ∃ ρ ts vs, Sg K g σ H ρ ts vs ∧ Aft (m ρ) fun o ρ' => ∀ H', Sg K g σ H' ρ' ts vs → Q o H'
theorem PO.weak {X : Cx} {e : Option Expr} {t t' : TO} (h : PO X e t) (w : ∀ σ H Q, t' σ H Q → t σ H Q) : PO X e t' := ⟨fun pins s σ H Q I q => h.run pins s σ H Q I (w σ H Q q)⟩
def noP : M (Option Int) := M.pure none
def someP (m : M T) : M (Option Int) := M.bind m fun t => match t with
  | .atom (.int i) => M.pure (some i)
  | _ => M.no
def cutL' {α : Type} (xs : List α) (lo hi : Option Int) : List α := (xs.drop (HT.sIx xs.length 0 lo)).take (HT.sIx xs.length xs.length hi - HT.sIx xs.length 0 lo)
def cutT (t : T) (lo hi : Option Int) : Option T := match t with
  | .lst _ xs => if T.imms xs = true then some (.lst true (cutL' xs lo hi)) else none
  | .tup xs => if T.imms xs = true ∧ ¬ (HT.sIx xs.length 0 lo = 0 ∧ HT.sIx xs.length xs.length hi = xs.length) then some (.tup (cutL' xs lo hi)) else none
  | .atom (.str z) => if z.length ≤ sizeLine then some (.atom (.str (cutS z lo hi))) else none
  | _ => none
def cutM (a : M T) (lo hi : M (Option Int)) : M T := M.bind a fun t => M.bind lo fun l => M.bind hi fun h => M.lift (cutT t l h)
def cutL (i : Nat) (lo hi : M (Option Int)) : M T := M.bind (nhv i) fun _ => M.bind lo fun l => M.bind hi fun h => pk i fun t => cutT t l h
def rCut (K : PySem.W.Frag) : V → Option Int → Option Int → Hp → VK → Prop := fun x lo hi H Q => rSlL K x lo hi H Q ∨ rSlT K x lo hi H Q ∨ rSlS x lo hi H Q
section
variable {X : Cx} {g : G}
theorem vo_none : PO X none (tOp' X.K g noP) := PO.weak po_none fun σ H Q ⟨ρ, ts, vs, S, q⟩ => q H S
theorem vo_some {e : Expr} {m : M T} (h : PE X e (tV X.K g m)) : PO X (some e) (tOp' X.K g (someP m)) := PO.weak (po_some h) fun σ H Q ⟨ρ, ts, vs, S, q⟩ => go S q fun t ρ1 v H1 S1 q1 => by
  split at q1
  · rename_i i
    exact ⟨i, Ok.atom_eq (by simpa using S1.flip), q1 H1 (S1.tmp fun rs ws o => o.drop)⟩
  · exact q1.elim
theorem goO {K : PySem.W.Frag} {σ : L2.St} {H : Hp} {ρ : Env} {ts : List T} {vs : List V} {β : Type} {m : M (Option Int)} {k : Option Int → M β} {P : β → Env → Prop} {Q : Option Int → Hp → Prop} (S : Sg K g σ H ρ ts vs) (h : Aft (M.bind m k ρ) P) (f : ∀ t ρ1 H1, Sg K g σ H1 ρ1 ts vs → Aft (k t ρ1) P → Q t H1) : tOp' K g m σ H Q :=
  ⟨ρ, ts, vs, S, h.bind.mono fun t ρ1 q H1 S1 => f t ρ1 H1 S1 q⟩
theorem imms_sub : ∀ {xs ys : List T}, (∀ y ∈ ys, y ∈ xs) → T.imms xs = true → T.imms ys = true
  | xs, [], _, _ => rfl
  | xs, y :: ys, h, im => by
    simp only [T.imms, Bool.and_eq_true]
    obtain ⟨i, hi⟩ := List.mem_iff_getElem?.mp (h y List.mem_cons_self)
    exact ⟨imms_at im hi, imms_sub (fun z hz => h z (List.mem_cons_of_mem _ hz)) im⟩
def Picks (xs : List T) (us : List V) (ys : List T) (ws : List V) : Prop := ∀ (i : Nat) y w, ys[i]? = some y → ws[i]? = some w → ∃ j : Nat, xs[j]? = some y ∧ us[j]? = some w
theorem owns_picks {K : PySem.W.Frag} {I h : Hp} {xs : List T} {us : List V} (q : Owns K I xs us h) (im : T.imms xs = true) : ∀ {ys : List T} {ws : List V}, ys.length = ws.length → Picks xs us ys ws → Owns K I ys ws (fun _ => none)
  | [], [], _, _ => by simp only [Owns]; exact fun _ => rfl
  | y :: ys, w :: ws, l, h => by
    obtain ⟨j, h1, h2⟩ := h 0 y w rfl rfl
    obtain ⟨w', h3, e1, _, o⟩ := owns_at q h1
    rw [h2] at e1; cases e1
    have em := own_imm (imms_at im h1) o
    simp only [Owns]
    refine ⟨h3, _, jn_emp em, o, owns_picks q im (by simpa using l) fun i y' w' e1 e2 => h (i + 1) y' w' (by simpa using e1) (by simpa using e2)⟩
theorem Ok.adds {K : PySem.W.Frag} {H : Hp} {ts ys : List T} {vs ws : List V} {I h : Hp} (o : OkW K g I h H ts vs) (q : Owns K I ys ws (fun _ => none)) : Ok K g H (ys ++ ts) (ws ++ vs) :=
  ⟨I, h, (owns_app (owns_len q)).mpr ⟨_, h, jn_emp fun _ => rfl, q, o.own⟩, o.dis, o.si, o.sh, o.ge, o.keep, o.dom⟩
theorem Ok.lst_ats {K : PySem.W.Frag} {H : Hp} {b : Bool} {xs ts : List T} {v : V} {vs : List V} (o : Ok K g H (.lst b xs :: ts) (v :: vs)) : ∃ a us, v = .ref a ∧ xs.length = us.length ∧ H a = some (.lst us) ∧
    (T.imms xs = true → ∀ ys ws, ys.length = ws.length → Picks xs us ys ws → Ok K g H (ys ++ .lst b xs :: ts) (ws ++ v :: vs)) := by
  obtain ⟨I, h, o⟩ := o
  have q := o.own
  simp only [Owns, Own] at q
  obtain ⟨h1, h2, j, ⟨a, us, h3, e, y, z⟩, _⟩ := q
  refine ⟨a, us, e, owns_len y, ?_, fun im ys ws l p => Ok.adds o (owns_picks y im l p)⟩
  cases b with
  | true => obtain ⟨_, rfl⟩ := z; exact o.sh _ _ (j.l _ _ upd_same)
  | false => exact o.si _ _ z.1
theorem Ok.tup_ats {K : PySem.W.Frag} {H : Hp} {xs ts : List T} {v : V} {vs : List V} (o : Ok K g H (.tup xs :: ts) (v :: vs)) : ∃ a us, v = .ref a ∧ xs.length = us.length ∧ SqT K H a us ∧
    (T.imms xs = true → ∀ ys ws, ys.length = ws.length → Picks xs us ys ws → Ok K g H (ys ++ .tup xs :: ts) (ws ++ v :: vs)) := by
  obtain ⟨I, h, o⟩ := o
  have q := o.own
  simp only [Owns, Own] at q
  obtain ⟨h1, h2, j, ⟨a, us, e, z, y⟩, _⟩ := q
  exact ⟨a, us, e, owns_len y, sqT_mono o.si z, fun im ys ws l p => Ok.adds o (owns_picks y im l p)⟩
theorem Ok.ro_ats {K : PySem.W.Frag} {H : Hp} {xs ts : List T} {v : V} {vs : List V} (o : Ok K g H (.ro xs :: ts) (v :: vs)) : ∃ a us, v = .ref a ∧ xs.length = us.length ∧ SqL K H a us ∧
    (T.imms xs = true → ∀ ys ws, ys.length = ws.length → Picks xs us ys ws → Ok K g H (ys ++ .ro xs :: ts) (ws ++ v :: vs)) := by
  obtain ⟨I, h, o⟩ := o
  have q := o.own
  simp only [Owns, Own] at q
  obtain ⟨h1, h2, j, ⟨a, us, e, z, y⟩, _⟩ := q
  exact ⟨a, us, e, owns_len y, sqL_mono o.si z, fun im ys ws l p => Ok.adds o (owns_picks y im l p)⟩
theorem cut_pick {α β : Type} {xs : List α} {us : List β} (l : xs.length = us.length) (lo hi : Option Int) : (cutL' xs lo hi).length = (cutL' us lo hi).length ∧ ∀ (i : Nat) y w, (cutL' xs lo hi)[i]? = some y → (cutL' us lo hi)[i]? = some w → ∃ j : Nat, xs[j]? = some y ∧ us[j]? = some w := by
  unfold cutL'
  refine ⟨by simp [l], fun i y w e1 e2 => ?_⟩
  rw [List.getElem?_take] at e1 e2
  split at e1
  · rename_i hh
    rw [l] at e1 hh
    rw [if_pos hh] at e2
    rw [List.getElem?_drop] at e1 e2
    exact ⟨_, e1, e2⟩
  · cases e1
theorem cut_ok {H : Hp} {t u : T} {x : V} {lo hi : Option Int} {ts : List T} {vs : List V} {Q : VK} (e : cutT t lo hi = some u) (o : Ok X.K g H (t :: ts) (x :: vs)) (q : ∀ v H', Ok X.K g H' (u :: t :: ts) (v :: x :: vs) → Q v H') : rCut X.K x lo hi H Q := by
  unfold cutT at e
  split at e
  · rename_i b xs
    split at e
    · rename_i im
      cases e
      obtain ⟨a, us, rfl, l, ha, f⟩ := Ok.lst_ats o
      obtain ⟨l2, pk⟩ := cut_pick l lo hi
      exact .inl ⟨a, us, rfl, .inl (.inl ha), fun p hp => q _ _ (Ok.new_lst (xs := cutL' xs lo hi) (us := cutV us lo hi) (f im _ _ l2 pk) l2 hp)⟩
    · cases e
  · rename_i xs
    split at e
    · rename_i im
      cases e
      obtain ⟨a, us, rfl, l, ha, f⟩ := Ok.tup_ats o
      obtain ⟨l2, pk⟩ := cut_pick l lo hi
      exact .inr (.inl ⟨a, us, rfl, ha, by rw [← l]; exact im.2, fun p hp => q _ _ (Ok.new_tup (xs := cutL' xs lo hi) (us := cutV us lo hi) (f im.1 _ _ l2 pk) l2 hp)⟩)
    · cases e
  · rename_i z
    split at e
    · rename_i hz
      cases e
      exact .inr (.inr ⟨z, o.atom_eq, hz, q _ H o.atom_push⟩)
    · cases e
  · cases e
theorem slr_cut : L2.SlR X (rCut X.K) := L2.SlR.or sl_list (L2.SlR.or sl_tup sl_str)
theorem ve_cut {e : Expr} {lo hi : Option Expr} {pos p2 : Pos} {a : M T} {l h : M (Option Int)} (ha : PE X e (tV X.K g a)) (hl : PO X lo (tOp' X.K g l)) (hh : PO X hi (tOp' X.K g h)) : PE X (.Subscript e (.Slice lo hi none p2) pos) (tV X.K g (cutM a l h)) :=
  PE.weak (pe_slice slr_cut ha hl hh) fun σ H Q ⟨ρ, ts, vs, S, q⟩ => go S q fun t ρ1 x H1 S1 q1 => goO S1 q1 fun i ρ2 H2 S2 q2 => goO S2 q2 fun j ρ3 H3 S3 q3 => by
    obtain ⟨u, e, q4⟩ := Aft.lift q3
    exact cut_ok e (by simpa using S3.flip) fun v H' o => q4 v H' (S3.re (by simpa using o.ent (Ent.cons Ent.drop)))
theorem ve_cutL {e : Expr} {lo hi : Option Expr} {pos p2 : Pos} {i : Nat} {l h : M (Option Int)} (ha : PE X e (tVar i)) (hl : PO X lo (tOp' X.K g l)) (hh : PO X hi (tOp' X.K g h)) : PE X (.Subscript e (.Slice lo hi none p2) pos) (tV X.K g (cutL i l h)) :=
  PE.weak (pe_slice slr_cut ha hl hh) fun σ H Q ⟨ρ, ts, vs, S, q⟩ => by
    obtain ⟨v, hv, q⟩ := nhv_ok S q
    refine ⟨v, hv, goO S q fun i1 ρ2 H2 S2 q2 => goO S2 q2 fun j ρ3 H3 S3 q3 => ?_⟩
    obtain ⟨v', t, u, hv', e, p, S4, f⟩ := pk_ok S3 q3
    rw [hv] at hv'; cases hv'
    exact cut_ok e (ts := ts ++ ρ3.set i .hole) (vs := vs ++ sl σ) (by simpa using S4.flip) fun z H' o => p z H' (f (S4.re (by simpa using o.swap)))

/-! ### list(range(..)) -/
def lrgF : List T → Option T
  | [.atom (.int n)] => if 0 ≤ n ∧ n ≤ 16777216 then some (.lst true (rangeL 0 n)) else none
  | _ => none
def lrg1 (r : M (List T)) : M T := M.bind r fun xs => M.lift (lrgF xs)
theorem owns_ints {K : PySem.W.Frag} {I : Hp} : ∀ ns : List Int, Owns K I (ns.map fun i => .atom (.int i)) (ns.map V.int) (fun _ => none)
  | [] => by simp only [List.map_nil, Owns]; exact fun _ => rfl
  | n :: ns => by
    simp only [List.map_cons, Owns, Own, true_and]
    exact ⟨_, _, jn_emp fun _ => rfl, fun _ => rfl, owns_ints ns⟩
theorem Ok.ints_push {K : PySem.W.Frag} {H : Hp} {ts : List T} {vs : List V} (o : Ok K g H ts vs) (ns : List Int) : Ok K g H ((ns.map fun i => .atom (.int i)) ++ ts) (ns.map V.int ++ vs) := by
  obtain ⟨I, h, o⟩ := o
  exact Ok.adds o (owns_ints ns)
theorem ve_lrg1 {a : Expr} {p pos p2 pos2 : Pos} {m : M T} (hc : X.calm = true) (hg : Gl X "list") (hm : X.mg "list" = none) (hg2 : Gl X "range") (hm2 : X.mg "range" = none) (ha : PE X a (tV X.K g m)) (na : starEach [a] X.env = (false, eval a X.env) :: starEach [] X.env := by rfl)
    (nr : starEach [.Call (.Name "range" p2) [a] [] pos2] X.env = (false, eval (.Call (.Name "range" p2) [a] [] pos2) X.env) :: starEach [] X.env := by rfl) : PE X (.Call (.Name "list" p) [.Call (.Name "range" p2) [a] [] pos2] [] pos) (tV X.K g (lrg1 (consA m nilA))) :=
  PE.weak (pe_listRg hc hg hm (prg_1 hg2 hm2 ha na) nr) fun σ H Q ⟨ρ, ts, vs, S, q⟩ => by
    have q' : Aft (M.bind m (fun t => M.lift (lrgF [t])) ρ) fun t ρ' => ∀ v H', Sg X.K g σ H' ρ' (t :: ts) (v :: vs) → Q v H' := by
      have h := Aft.bind q
      unfold consA nilA at h
      have h2 := Aft.bind h
      unfold M.bind
      cases e : m ρ with
      | no => rw [e] at h2; exact h2.elim
      | ex _ _ _ => rw [e] at h2; exact h2.elim
      | ok t ρ1 => rw [e] at h2; exact h2
    refine go S q' fun t ρ1 v H1 S1 q1 => ?_
    obtain ⟨u, e, q2⟩ := Aft.lift q1
    unfold lrgF at e
    split at e
    · rename_i n e'
      cases e'
      split at e
      · rename_i hn
        cases e
        have ev : v = .int n := Ok.atom_eq (by simpa using S1.flip)
        subst ev
        refine ⟨n, rfl, RgOk.of_le (by omega) (by omega) (by omega) (by omega), fun l hl => q2 _ _ (S1.tmp fun rs ws o => ?_)⟩
        have o2 := Ok.ints_push (Ok.drop (by simpa using o)) ((List.range (n - 0).toNat).map fun i => (0 : Int) + (i : Nat))
        have := Ok.new_lst (xs := rangeL 0 n) (us := rgV 0 n) (ts := ts ++ rs) (vs := vs ++ ws) (by
          unfold rangeL rgV
          simpa [List.map_map, Function.comp_def] using o2) (by unfold rangeL rgV; simp) hl
        simpa using this
      · cases e
    · cases e

/-! ### enumerate, zip -/
def enumL : Nat → List T → List T
  | _, [] => []
  | k, x :: xs => .tup [.atom (.int (k : Nat)), x] :: enumL (k + 1) xs
theorem enumL_at : ∀ {xs : List T} {k i : Nat} {y : T}, (enumL k xs)[i]? = some y → ∃ x, xs[i]? = some x ∧ y = .tup [.atom (.int ((k + i : Nat))), x]
  | [], _, _, _, h => by simp [enumL] at h
  | x :: xs, k, 0, y, h => by simp [enumL] at h; exact ⟨x, rfl, by rw [← h]; rfl⟩
  | x :: xs, k, i + 1, y, h => by
    obtain ⟨z, h1, h2⟩ := enumL_at (xs := xs) (k := k + 1) (i := i) (by simpa [enumL] using h)
    exact ⟨z, by simpa using h1, by rw [h2]; congr 4; omega⟩
theorem enumL_len : ∀ (xs : List T) (k : Nat), (enumL k xs).length = xs.length
  | [], _ => rfl
  | x :: xs, k => by simp [enumL, enumL_len xs]
def zipL (xs ys : List T) : List T := List.zipWith (fun x y => .tup [x, y]) xs ys
def enumM (r : M (List T)) : M (List T) := M.bind r fun as => match as with
  | [t] => M.bind (M.lift (itL t)) fun xs => M.pure (enumL 0 xs)
  | _ => M.no
def zipM (r : M (List T)) : M (List T) := M.bind r fun as => match as with
  | [t, u] => M.bind (M.lift (itL t)) fun xs => M.bind (M.lift (itL u)) fun ys => M.pure (zipL xs ys)
  | _ => M.no
theorem pair_new {K : PySem.W.Frag} {H : Hp} {ts : List T} {vs : List V} {x y : T} {v w : V} {p : Addr} (o : Ok K g H (x :: y :: ts) (v :: w :: vs)) (n : H p = none) : Ok K g (upd H p (.tup [v, w])) (.tup [x, y] :: ts) (.ref p :: vs) :=
  Ok.new_tup (xs := [x, y]) (us := [v, w]) (by simpa using o) rfl n
theorem walks_enum {K : PySem.W.Frag} {a : Addr} {b : Bool} {xs : List T} (im : T.imms xs = true) : Walks K g (Ite K a) (enumL 0 xs) [.lst b xs] [.ref a] := by
  refine ⟨fun H => ∃ us, SqL K H a us ∧ us.length = xs.length, fun i H x H' => (Ite K a).yld i H x H', ⟨fun i H hi ⟨us, q, l⟩ => ?_, fun H ⟨us, q, l⟩ => ⟨us, q, by rw [enumL_len]; omega⟩, fun _ _ _ _ _ _ y => y⟩, fun H rs ws o => ?_, fun i x hx H v H' rs ws o y => ?_⟩
  · rw [enumL_len] at hi
    exact ⟨us, us[i]'(by omega), q, by simp [l, hi]⟩
  · obtain ⟨a', us, e, l, h, _⟩ := Ok.lst_at o
    cases e
    exact ⟨us, .inl (.inl h), l.symm⟩
  · obtain ⟨a', us, e, l, h, f⟩ := Ok.lst_at o
    cases e
    obtain ⟨z, h1, rfl⟩ := enumL_at hx
    obtain ⟨Tp, w, rfl, nT, rfl, hw⟩ := y
    have := f i z w h1 (imms_at im h1) (hw us (.inl (.inl h)))
    rw [Nat.zero_add]
    exact pair_new this.atom_push nT
theorem getElem?_zipWith' {α β γ : Type} {f : α → β → γ} {xs : List α} {ys : List β} {i : Nat} {z : γ} (h : (List.zipWith f xs ys)[i]? = some z) : ∃ x y, xs[i]? = some x ∧ ys[i]? = some y ∧ z = f x y := by
  rw [List.getElem?_zipWith] at h
  cases h1 : xs[i]? <;> cases h2 : ys[i]? <;> simp [h1, h2] at h
  exact ⟨_, _, rfl, rfl, h.symm⟩
theorem walks_zip {K : PySem.W.Frag} {a c : Addr} {b d : Bool} {xs ys : List T} (im : T.imms xs = true) (im2 : T.imms ys = true) : Walks K g (Itz K a c) (zipL xs ys) [.lst b xs, .lst d ys] [.ref a, .ref c] := by
  refine ⟨fun H => ∃ us ws, SqL K H a us ∧ us.length = xs.length ∧ SqL K H c ws ∧ ws.length = ys.length, fun i H x H' => (Itz K a c).yld i H x H', ⟨fun i H hi ⟨us, ws, q, l, q2, l2⟩ => ?_, fun H ⟨us, ws, q, l, q2, l2⟩ => ⟨us, ws, q, q2, ?_⟩, fun _ _ _ _ _ _ y => y⟩, fun H rs ws o => ?_, fun i x hx H v H' rs ws o y => ?_⟩
  · unfold zipL at hi
    rw [List.length_zipWith] at hi
    have h1 : i < us.length := by omega
    have h2 : i < ws.length := by omega
    exact ⟨us, ws, us[i], ws[i], q, q2, by simp [h1], by simp [h2]⟩
  · unfold zipL
    rw [List.length_zipWith]
    omega
  · obtain ⟨a', us, e, l, h, _⟩ := Ok.lst_at o
    obtain ⟨c', us2, e2, l2, h2, _⟩ := Ok.lst_at (Ok.drop o)
    cases e; cases e2
    exact ⟨us, us2, .inl (.inl h), l.symm, .inl (.inl h2), l2.symm⟩
  · obtain ⟨z1, z2, h1, h2, rfl⟩ := getElem?_zipWith' hx
    obtain ⟨Tp, w1, w2, rfl, nT, rfl, hw1, hw2⟩ := y
    obtain ⟨c', us2, e2, l2, hc, f2⟩ := Ok.lst_at (Ok.swap o)
    cases e2
    have o1 := f2 i z2 w2 h2 (imms_at im2 h2) (hw2 us2 (.inl (.inl hc)))
    -- z2, ys, xs, rest: bring xs ahead
    have o2 : Ok K g H (.lst b xs :: z2 :: .lst d ys :: rs) (.ref a :: w2 :: .ref c :: ws) := o1.ent ((Ent.cons Ent.swap).trans Ent.swap)
    obtain ⟨a', us, e, l, ha, f⟩ := Ok.lst_at o2
    cases e
    have o3 := f i z1 w1 h1 (imms_at im h1) (hw1 us (.inl (.inl ha)))
    have o4 : Ok K g H (z1 :: z2 :: .lst b xs :: .lst d ys :: rs) (w1 :: w2 :: .ref a :: .ref c :: ws) := o3.ent (Ent.cons Ent.swap)
    exact pair_new o4 nT
theorem frz_list {K : PySem.W.Frag} {H : Hp} {t : T} {xs : List T} {v : V} {ts : List T} {vs : List V} (e : itL t = some xs) (o : Ok K g H (t :: ts) (v :: vs)) : T.imms xs = true ∧ ∃ a us, v = .ref a ∧ xs.length = us.length ∧ H a = some (.lst us) ∧ Ok K g H (.lst false xs :: ts) (.ref a :: vs) := by
  cases t with
  | lst b ys =>
    simp only [itL] at e
    split at e
    · rename_i hc
      cases e
      have o2 : Ok K g H (.lst false (T.frzs ys) :: ts) (v :: vs) := by
        have := Ok.frz (t := .lst b ys) o (by simpa [T.cold] using hc.1)
        simpa [T.frz] using this
      obtain ⟨a, us, rfl, l, ha, _⟩ := Ok.lst_at o2
      exact ⟨hc.2, a, us, rfl, l, ha, o2⟩
    · cases e
  | _ => cases e
theorem vi_enum {elts : List Expr} {kk : Nat} {tpos p pos : Pos} {e : Expr} {r : M (List T)} (hg : Gl X "enumerate") (hm : X.mg "enumerate" = none) (ha : PA X [e] (tAr X.K g r)) (hs : starEach [e] X.env = [(false, eval e X.env)] := by rfl) :
    PI X (.Tuple elts kk tpos) (.Call (.Name "enumerate" p) [e] [] pos) (tIt X.K g (enumM r)) :=
  PI.weak (pi_enum hg hm ha hs) fun σ H R ⟨ρ, ts, vs, S, q⟩ => goA S q fun as ρ1 us H1 l S1 q1 => by
    split at q1
    · rename_i t
      obtain ⟨xs, e, q2⟩ := Aft.lift q1.bind
      match us, l with
      | [v], _ =>
        obtain ⟨im, a, ws, rfl, lw, ha, o⟩ := frz_list e (by simpa using S1.flip)
        exact ⟨a, ws, rfl, .inl (.inl ha), q2 _ [.lst false xs] [.ref a] H1 rfl (S1.re (by simpa using o)) (walks_enum im)⟩
    · exact q1.elim
theorem vi_zip {elts : List Expr} {kk : Nat} {tpos p pos : Pos} {e e2 : Expr} {r : M (List T)} (hg : Gl X "zip") (hm : X.mg "zip" = none) (ha : PA X [e, e2] (tAr X.K g r))
    (hs : starEach [e, e2] X.env = (false, eval e X.env) :: starEach [e2] X.env := by rfl) (hpl : (backTo pos (starEach [e2] X.env)).any (·.1) = false := by rfl) :
    PI X (.Tuple elts kk tpos) (.Call (.Name "zip" p) [e, e2] [] pos) (tIt X.K g (zipM r)) :=
  PI.weak (pi_zip hg hm ha hs hpl) fun σ H R ⟨ρ, ts, vs, S, q⟩ => goA S q fun as ρ1 us H1 l S1 q1 => by
    split at q1
    · rename_i t u
      obtain ⟨xs, e, q2⟩ := Aft.lift q1.bind
      obtain ⟨ys, e', q3⟩ := Aft.lift q2.bind
      match us, l with
      | [v, w], _ =>
        obtain ⟨im, a, ws, rfl, lw, ha, o⟩ := frz_list e (by simpa using S1.flip)
        obtain ⟨im2, c, ws2, rfl, lw2, hc, o2⟩ := frz_list e' o.swap
        exact ⟨a, c, ws, ws2, rfl, .inl (.inl ha), .inl (.inl hc), q3 _ [.lst false xs, .lst false ys] [.ref a, .ref c] H1 rfl (S1.re (by simpa using o2.swap)) (walks_zip im im2)⟩
    · exact q1.elim

/-! ### several targets at once -/
def par2 (r : M (List T)) (i j : Nat) : M Ctl := M.bind r fun xs => match xs with
  | [t, u] => fun ρ => if i < ρ.length ∧ j < ρ.length then .ok .nx ((ρ.set i t).set j u) else .no
  | _ => M.no
def par3 (r : M (List T)) (i j k : Nat) : M Ctl := M.bind r fun xs => match xs with
  | [t, u, w] => fun ρ => if i < ρ.length ∧ j < ρ.length ∧ k < ρ.length then .ok .nx (((ρ.set i t).set j u).set k w) else .no
  | _ => M.no
theorem vs_par2 {st : Stmt} {i j : Nat} {r : M (List T)} (h : PS X st (tPar i j (tAr X.K g r))) (hp : g.pins.all (fun p => p.1 != i) = true := by rfl) (hp2 : g.pins.all (fun p => p.1 != j) = true := by rfl) : PS X st (tSt X.K g (par2 r i j)) :=
  PS.weak h fun D σ H ⟨ρ, ts, vs, S, q⟩ => goA S q fun xs ρ1 us H1 l S1 q1 => by
    split at q1
    · rename_i t u
      split at q1
      · rename_i hl
        match us, l with
        | [v, w], _ =>
          exact ⟨v, w, rfl, q1 _ H1 (Sg.put (t := u) (Sg.put (t := t) (ts := u :: ts) (vs := w :: vs) (by simpa using S1) hl.1 hp) (by rw [List.length_set]; exact hl.2) hp2)⟩
      · exact q1.elim
    · exact q1.elim
theorem vs_par3 {st : Stmt} {i j k : Nat} {r : M (List T)} (h : PS X st (tPar3 i j k (tAr X.K g r))) (hp : g.pins.all (fun p => p.1 != i) = true := by rfl) (hp2 : g.pins.all (fun p => p.1 != j) = true := by rfl) (hp3 : g.pins.all (fun p => p.1 != k) = true := by rfl) : PS X st (tSt X.K g (par3 r i j k)) :=
  PS.weak h fun D σ H ⟨ρ, ts, vs, S, q⟩ => goA S q fun xs ρ1 us H1 l S1 q1 => by
    split at q1
    · rename_i t u w
      split at q1
      · rename_i hl
        match us, l with
        | [v1, v2, v3], _ =>
          exact ⟨v1, v2, v3, rfl, q1 _ H1 (Sg.put (t := w) (Sg.put (t := u) (ts := w :: ts) (vs := v3 :: vs) (Sg.put (t := t) (ts := u :: w :: ts) (vs := v2 :: v3 :: vs) (by simpa using S1) hl.1 hp) (by rw [List.length_set]; exact hl.2.1) hp2) (by rw [List.length_set, List.length_set]; exact hl.2.2) hp3)⟩
      · exact q1.elim
    · exact q1.elim

/-! ### comprehensions -/
theorem ve_lc {elt tg iter : Expr} {ifs : List Expr} {scope : Scope} {own : List (Str × Nat)} {pos : Pos} {it : M (List T)} {a : T → M Unit} {c : M Bool} {e : M T} (hp : (own.map (·.2)).all (fun i => g.pins.all (fun p => p.1 != i)) = true) (hc : X.calm = true) (hN : X.N.Nodup) (hi : PI X tg iter (tIt X.K g it)) (ok : BlkOk X.N X.env.scope scope own)
    (hg : ∀ (s : Shared) (H : Hp) (C : Addr) (cl : List (Str × Addr)) (fp : List Addr), PG (X.blk s H scope (PySem.compEnvC scope cl C X.env) fp) tg (tTo X.K g (own.map (·.2)) a)) (ht : ∀ (s : Shared) (H : Hp) (C : Addr) (cl : List (Str × Addr)) (fp : List Addr), PTs (X.blk s H scope (PySem.compEnvC scope cl C X.env) fp) ifs (tBo X.K g c))
    (he : ∀ (s : Shared) (H : Hp) (C : Addr) (cl : List (Str × Addr)) (fp : List Addr), PE (X.blk s H scope (PySem.compEnvC scope cl C X.env) fp) elt (tV X.K g e)) (hs : ∀ x, foldedSetIterable iter X.env x = pure x := by intro _; rfl) :
    PE X (.ListComp elt [⟨tg, iter, ifs, 0⟩] scope pos) (tV X.K g (lcM it a c e (own.map (·.2)))) := PE.weak (pe_lc hc hN hi ok hg ht he hs) fun σ H Q h => tLc_weak hp σ H Q h
theorem ve_setLc {i : Nat} {y : Str} {py : Pos} {elt tg iter : Expr} {ifs : List Expr} {scope : Scope} {own : List (Str × Nat)} {pos spos : Pos} {it : M (List T)} {a : T → M Unit} {c : M Bool} {e : M T} (hp : (own.map (·.2)).all (fun i => g.pins.all (fun p => p.1 != i)) = true) (hc : X.calm = true) (hN : X.N.Nodup) (hy : X.N[i]? = some y) (hyl : X.env.scope.names.lookup y = some .local)
    (hsw : swapsWith (.ListComp elt [⟨tg, iter, ifs, 0⟩] scope pos) (some (.Name y py)) spos.line X.env = pure true) (hi : PI X tg iter (tIt X.K g it)) (ok : BlkOk X.N X.env.scope scope own)
    (hg : ∀ (s : Shared) (H : Hp) (C : Addr) (cl : List (Str × Addr)) (fp : List Addr), PG (X.blk s H scope (PySem.compEnvC scope cl C X.env) fp) tg (tTo X.K g (own.map (·.2)) a)) (ht : ∀ (s : Shared) (H : Hp) (C : Addr) (cl : List (Str × Addr)) (fp : List Addr), PTs (X.blk s H scope (PySem.compEnvC scope cl C X.env) fp) ifs (tBo X.K g c))
    (he : ∀ (s : Shared) (H : Hp) (C : Addr) (cl : List (Str × Addr)) (fp : List Addr), PE (X.blk s H scope (PySem.compEnvC scope cl C X.env) fp) elt (tV X.K g e)) (hpi : g.pins.all (fun p => p.1 != i) = true := by rfl) (hs : ∀ x, foldedSetIterable iter X.env x = pure x := by intro _; rfl) :
    PS X (.Assign [.Name y py] (.ListComp elt [⟨tg, iter, ifs, 0⟩] scope pos) spos) (tSt X.K g (asgM (lcM it a c e (own.map (·.2))) (setv i))) :=
  PS.weak (ps_setLc hc hN hy hyl hsw hi ok hg ht he hs) fun D σ H ⟨ρ, ts, vs, S, q⟩ => by
    refine tLc_weak hp σ H _ (go S q fun t ρ1 v H1 S1 q1 => ?_)
    have q2 := Aft.bind q1
    unfold setv at q2
    split at q2
    · rename_i hl
      exact q2 _ H1 (S1.put hl hpi)
    · exact q2.elim
end
end VS
/-! FW14: a def by what its body means. -/
namespace VS
open PySem L2

/-! ### an item taken out of a list of one's own -/
theorem owns_out {K : PySem.W.Frag} {I : Hp} : ∀ {xs : List T} {us : List V} {h : Hp} {j : Nat} {x : T} {w : V}, Owns K I xs us h → xs[j]? = some x → us[j]? = some w → ∃ h1 h2, Jn h1 h2 h ∧ Own K I x w h1 ∧ Owns K I (xs.set j .hole) us h2
  | [], _, _, _, _, _, _, e, _ => by simp at e
  | _ :: _, [], _, _, _, _, q, _, _ => by simp only [Owns] at q
  | t :: ts, v :: vs, h, 0, x, w, q, e, e2 => by
    simp only [Owns] at q
    obtain ⟨h1, h2, j, a, b⟩ := q
    simp at e e2
    subst e e2
    refine ⟨h1, h2, j, a, ?_⟩
    simp only [List.set_cons_zero, Owns, Own]
    exact ⟨fun _ => none, h2, jn_emp fun _ => rfl, fun _ => rfl, b⟩
  | t :: ts, v :: vs, h, i + 1, x, w, q, e, e2 => by
    simp only [Owns] at q
    obtain ⟨h1, h2, j, a, b⟩ := q
    obtain ⟨h3, h4, j2, o, r⟩ := owns_out (j := i) b (by simpa using e) (by simpa using e2)
    -- h = h1 + (h3 + h4)
    obtain ⟨h5, j3, j4⟩ := j2.assoc' j
    obtain ⟨h6, j5, j6⟩ := j3.comm.assoc j4
    refine ⟨h3, h6, j6, o, ?_⟩
    simp only [List.set_cons_succ, Owns]
    exact ⟨h1, h4, j5, a, r⟩
theorem Ok.steal {K : PySem.W.Frag} {g : G} {H : Hp} {xs ts : List T} {v : V} {vs : List V} (o : Ok K g H (.lst true xs :: ts) (v :: vs)) : ∃ a us, v = .ref a ∧ xs.length = us.length ∧ H a = some (.lst us) ∧
    ∀ (j : Nat) x w, xs[j]? = some x → us[j]? = some w → Ok K g H (x :: .lst true (xs.set j .hole) :: ts) (w :: v :: vs) := by
  obtain ⟨I, h, o⟩ := o
  have q := o.own
  simp only [Owns, Own] at q
  obtain ⟨h1, h2, j, ⟨a, us, h3, e, y, z, rfl⟩, q2⟩ := q
  refine ⟨a, us, e, owns_len y, o.sh _ _ (j.l _ _ upd_same), fun jj x w ex ew => ?_⟩
  obtain ⟨h4, h5, j2, ox, oy⟩ := owns_out y ex ew
  obtain ⟨n4, n5⟩ := j2.none.mp z
  have j3 : Jn h4 (upd h5 a (.lst us)) (upd h3 a (.lst us)) := fun b => by
    by_cases eb : b = a
    · subst eb; exact .inl ⟨n4, by rw [upd_same, upd_same]⟩
    · rw [upd_ne eb, upd_ne eb]; exact j2 b
  obtain ⟨h6, j4, j5⟩ := j3.assoc j
  refine ⟨I, h, ?_, o.dis, o.si, o.sh, o.ge, o.keep, o.dom⟩
  simp only [Owns, Own]
  exact ⟨h4, h6, j5, ox, upd h5 a (.lst us), h2, j4, ⟨a, us, h5, e, oy, n5, rfl⟩, q2⟩
def stealM (i : Nat) (b : M T) : M T := M.bind (nhv i) fun _ => M.bind b fun k => fun ρ => match ρ[i]?, k with
  | some (.lst true xs), .atom (.int n) => (match ixN xs.length n with
    | some j => (match xs[j]? with
      | some x => .ok x (ρ.set i (.lst true (xs.set j .hole)))
      | none => .no)
    | none => .no)
  | _, _ => .no
section
variable {X : Cx} {g : G}
theorem ve_steal {a b : Expr} {pos : Pos} {i : Nat} {sb : M T} (ha : PE X a (tVar i)) (hb : PE X b (tV X.K g sb)) (hs : PlainIx b := by first | exact (fun _ _ => rfl)) : PE X (.Subscript a b pos) (tV X.K g (stealM i sb)) :=
  PE.weak (pe_ix ix_list ha hb hs) fun σ H Q ⟨ρ, ts, vs, S, q⟩ => by
    obtain ⟨v, hv, q⟩ := nhv_ok S q
    refine ⟨v, hv, go S q fun t ρ1 y H1 S1 q1 => ?_⟩
    split at q1
    · rename_i xs n e
      split at q1
      · rename_i j ej
        split at q1
        · rename_i x ex
          obtain ⟨v', hv', S2⟩ := S1.take e rfl
          rw [hv] at hv'; cases hv'
          have o : Ok X.K g H1 (.lst true xs :: (.atom (.int n) :: (ts ++ ρ1.set i .hole))) (v :: (y :: (vs ++ sl σ))) := by simpa using S2.flip
          have ey : y = .int n := Ok.atom_eq o.drop
          subst ey
          obtain ⟨a, us, rfl, l, ha, f⟩ := Ok.steal (o.ent (Ent.cons Ent.drop))
          have hj : j < us.length := by have := (List.getElem?_eq_some_iff.mp ex).1; omega
          have ew : us[j]? = some us[j] := by simp [hj]
          have o2 := f j x us[j] ex ew
          refine ⟨a, us, n, us[j], rfl, rfl, .inl (.inl ha), ?_, q1 _ H1 ?_⟩
          · unfold atI
            rw [← l, ej]
            exact ew
          · have S3 : Sg X.K g σ H1 (ρ1.set i .hole) (.lst true (xs.set j .hole) :: x :: ts) (.ref a :: us[j] :: vs) := S2.re (by simpa using o2.swap)
            have := S3.back hv
            rwa [List.set_set] at this
        · exact q1.elim
      · exact q1.elim
    · exact q1.elim
end

def run0 (sem : M Ctl) (n : Nat) (ts : List T) : Option T := match sem (ts ++ List.replicate n .hole) with
  | .ok (.rt t) _ => some t
  | .ok .nx _ => some (.atom .non)
  | _ => none
def run1 (sem : M Ctl) (n : Nat) (ts : List T) : Option (T × T) := match sem (ts ++ List.replicate n .hole) with
  | .ok (.rt t) ρ => (match ρ[0]? with
    | some t0 => if t0.isHole = false then some (t, t0) else none
    | none => none)
  | .ok .nx ρ => (match ρ[0]? with
    | some t0 => if t0.isHole = false then some (.atom .non, t0) else none
    | none => none)
  | _ => none
section
variable {P : Program} {w : World} {K : PySem.W.Frag} {mg : Str → Option Value} {base : Heap}
theorem fn0_mk {x qual : Str} {st : Stmt} {f : Addr} {fd : FuncData} {N ps : List Str} {k n r : Nat} {sem : M Ctl} (F : Fun K x qual st f fd) (S : FnScope N ps (defScope st)) (b : Binds K fd ps []) (hm : mg x = some (.ref f)) (hn : ps.length = n) (hr : N.length = n + r) (hb : Body P w K mg base k qual st N false sem) : Fn0 P w K mg base (k + 1) x n (run0 sem r) := by
  subst hn
  refine ⟨f, fd, ps, def0 (m := run0 sem r) F S (by omega) hb fun ts t l e => ?_, hm, F.kp, b⟩
  rw [show N.length - ps.length = r by omega]
  unfold run0 at e
  split at e
  · rename_i t' ρ h
    cases e
    exact .inl ⟨_, h⟩
  · rename_i ρ h
    cases e
    exact .inr ⟨rfl, _, h⟩
  · cases e
theorem fn1_mk {x qual : Str} {st : Stmt} {f : Addr} {fd : FuncData} {N ps : List Str} {k n r : Nat} {sem : M Ctl} (F : Fun K x qual st f fd) (S : FnScope N ps (defScope st)) (b : Binds K fd ps []) (hm : mg x = some (.ref f)) (hn : ps.length = n) (hr : N.length = n + r) (hb : Body P w K mg base k qual st N true sem) : Fn1 P w K mg base (k + 1) x n (run1 sem r) := by
  subst hn
  refine ⟨f, fd, ps, def1 (m := run1 sem r) F S (by omega) hb fun ts t t0 l e => ?_, hm, F.kp, b⟩
  rw [show N.length - ps.length = r by omega]
  unfold run1 at e
  split at e
  · rename_i t' ρ h
    split at e
    · rename_i t0' h0
      split at e
      · rename_i nh
        cases e
        exact ⟨nh, .inl ⟨_, h, h0⟩⟩
      · cases e
    · cases e
  · rename_i ρ h
    split at e
    · rename_i t0' h0
      split at e
      · rename_i nh
        cases e
        exact ⟨nh, .inr ⟨rfl, _, h, h0⟩⟩
      · cases e
    · cases e
  · cases e
end
end VS
theorem L2.Room.u65 {k : Nat} {A : PySem.Around} (r : L2.Room k A) : A.units + 65 < PySem.cLine := by have := r.un; omega
/-! FW15: isinstance, all, any, dicts, a starred target, match over texts, list(), tuple(), index. -/
namespace VS
open PySem L2

/-! ### isinstance -/
def tyN : T → Option String
  | .atom .non => some "NoneType"
  | .atom (.bl _) => some "bool"
  | .atom (.int _) => some "int"
  | .atom (.str _) => some "str"
  | .lst _ _ => some "list"
  | .ro _ => some "list"
  | .tup _ => some "tuple"
  | .dct _ _ _ => some "dict"
  | _ => none
def isiT (c : String) (t : T) : Option T := (tyN t).bind fun n => (kitB n c).map fun b => .atom (.bl b)
def isiM (c : String) (m : M T) : M T := M.bind m fun t => M.lift (isiT c t)
section
variable {X : Cx} {g : G}
theorem tyx_of {H : Hp} {t : T} {v : V} {n : String} {ts : List T} {vs : List V} (e : tyN t = some n) (o : Ok X.K g H (t :: ts) (v :: vs)) : TyX X.K H v (.type n) := by
  unfold tyN at e
  split at e
  · cases e; rw [o.atom_eq]; exact .base .non
  · cases e; rw [o.atom_eq]; exact .base (.bl _)
  · cases e; rw [o.atom_eq]; exact .base (.int _)
  · cases e; rw [o.atom_eq]; exact .base (.str _)
  · cases e
    obtain ⟨a, us, rfl, _, h, _⟩ := o.lst_open
    exact .base (.lst h)
  · cases e
    obtain ⟨a, us, rfl, _, h, _⟩ := o.ro_open
    rcases h with (h | ⟨ob, h⟩) | ⟨ob, its, nn, h1, h2, _⟩
    · exact .base (.lst h)
    · exact .base (.frz h)
    · exact .kList h1 h2
  · cases e
    obtain ⟨a, us, rfl, _, h, _⟩ := o.tup_open
    rcases h with (h | ⟨ob, h⟩) | ⟨ob, its, nn, h1, h2, _⟩
    · exact .base (.tup h)
    · exact .fTuple h
    · exact .kTuple h1 h2
  · cases e
    obtain ⟨a, us, rfl, _, _, _, h, _⟩ := o.dct_open
    exact .base (.dK h)
  · cases e
theorem isi_ok {H : Hp} {t u : T} {v : V} {c : String} {ts : List T} {vs : List V} {Q : VK} (e : isiT c t = some u) (o : Ok X.K g H (t :: ts) (v :: vs)) (q : ∀ w H', Ok X.K g H' (u :: t :: ts) (w :: v :: vs) → Q w H') : rIsi X.K [v, .ty c] H Q := by
  obtain ⟨n, e1, e2⟩ := Option.bind_eq_some_iff.mp e
  obtain ⟨b, e3, rfl⟩ := Option.map_eq_some_iff.mp e2
  exact ⟨v, .ty c, .type n, .type c, b, rfl, .ty c, tyx_of e1 o, kit_ty e3, q _ H o.atom_push⟩
section
variable {e e2 : Expr} {c : String} {p pos : Pos}
theorem ve_isi {m : M T} (hg : Gl X "isinstance") (hm : X.mg "isinstance" = none) (ha : PE X e (tV X.K g m)) (hb : PE X e2 (tC (.ty c))) (he : starEach [e, e2] X.env = (false, eval e X.env) :: starEach [e2] X.env := by rfl) (he2 : starEach [e2] X.env = (false, eval e2 X.env) :: starEach [] X.env := by rfl) (hpl : (backTo pos (starEach [e2] X.env)).any (·.1) = false := by rfl) :
    PE X (.Call (.Name "isinstance" p) [e, e2] [] pos) (tV X.K g (isiM c m)) :=
  PE.weak (pe_callB call_isi hg hm (by decide +kernel) (pa_cons ha (pa_cons hb pa_nil he2) he) (by decide) (by decide) he hpl) fun σ H Q ⟨ρ, ts, vs, S, q⟩ => go S q fun t ρ1 v H1 S1 q1 => by
    obtain ⟨u, e, p⟩ := Aft.lift q1
    exact isi_ok e (by simpa using S1.flip) fun w H' o => p w H' (S1.re (by simpa using o.ent (Ent.cons Ent.drop)))
theorem ve_isiL {i : Nat} (hg : Gl X "isinstance") (hm : X.mg "isinstance" = none) (ha : PE X e (tVar i)) (hb : PE X e2 (tC (.ty c))) (he : starEach [e, e2] X.env = (false, eval e X.env) :: starEach [e2] X.env := by rfl) (he2 : starEach [e2] X.env = (false, eval e2 X.env) :: starEach [] X.env := by rfl) (hpl : (backTo pos (starEach [e2] X.env)).any (·.1) = false := by rfl) :
    PE X (.Call (.Name "isinstance" p) [e, e2] [] pos) (tV X.K g (pk i (isiT c))) :=
  PE.weak (pe_callB call_isi hg hm (by decide +kernel) (pa_cons ha (pa_cons hb pa_nil he2) he) (by decide) (by decide) he hpl) fun σ H Q ⟨ρ, ts, vs, S, q⟩ => by
    obtain ⟨v, t, u, hv, e, p, S2, f⟩ := pk_ok S q
    exact ⟨v, hv, isi_ok e (ts := ts ++ ρ.set i .hole) (vs := vs ++ sl σ) (by simpa using S2.flip) fun z H' o => p z H' (f (S2.re (by simpa using o.swap)))⟩
end

/-! ### all, any -/
def T.bools : List T → Option (List Bool)
  | [] => some []
  | .atom (.bl b) :: ts => (T.bools ts).map (b :: ·)
  | _ => none
def allT : T → Option T
  | .lst _ xs => (T.bools xs).map fun bs => .atom (.bl (bs.all id))
  | _ => none
def anyT : T → Option T
  | .lst _ xs => (T.bools xs).map fun bs => .atom (.bl (bs.any id))
  | _ => none
theorem Ok.bools {H : Hp} : ∀ {xs ts : List T} {us vs : List V} {ns : List Bool}, Ok X.K g H (xs ++ ts) (us ++ vs) → xs.length = us.length → T.bools xs = some ns → us = ns.map V.bl
  | [], ts, [], vs, ns, _, _, e => by simp [T.bools] at e; subst e; rfl
  | x :: xs, ts, u :: us, vs, ns, o, l, e => by
    cases x with
    | atom w =>
      cases w with
      | bl i =>
        simp only [T.bools, Option.map_eq_some_iff] at e
        obtain ⟨ms, e1, rfl⟩ := e
        have h1 := Ok.atom_eq o
        have h2 := Ok.bools (xs := xs) (us := us) (Ok.drop o) (by simpa using l) e1
        rw [h1, h2]; rfl
      | _ => simp [T.bools] at e
    | _ => simp [T.bools] at e
theorem rcb_all : RCb X.K g allT (rAll X.K) := by
  intro H t x u ts vs Q e o q
  unfold allT at e
  split at e
  · obtain ⟨bs, e1, rfl⟩ := Option.map_eq_some_iff.mp e
    obtain ⟨a, us, rfl, l, h, o'⟩ := o.lst_open
    have := Ok.bools o' l e1
    subst this
    exact ⟨a, bs, rfl, .inl (.inl h), q _ H o.atom_push⟩
  · cases e
theorem rcb_any : RCb X.K g anyT (rAny X.K) := by
  intro H t x u ts vs Q e o q
  unfold anyT at e
  split at e
  · obtain ⟨bs, e1, rfl⟩ := Option.map_eq_some_iff.mp e
    obtain ⟨a, us, rfl, l, h, o'⟩ := o.lst_open
    have := Ok.bools o' l e1
    subst this
    exact ⟨a, bs, rfl, .inl (.inl h), q _ H o.atom_push⟩
  · cases e

/-! ### list(xs), tuple(xs) -/
def listT : T → Option T
  | .lst _ xs => if T.imms xs = true then some (.lst true xs) else none
  | .ro xs => if T.imms xs = true then some (.lst true xs) else none
  | .tup xs => if T.imms xs = true then some (.lst true xs) else none
  | _ => none
def tupT : T → Option T
  | .lst _ xs => if T.imms xs = true then some (.tup xs) else none
  | _ => none
theorem picks_all {xs : List T} {us : List V} (l : xs.length = us.length) : Picks xs us xs us := fun i y w e1 e2 => ⟨i, e1, e2⟩
def rListA (K : PySem.W.Frag) : List V → Hp → VK → Prop := fun xs H Q => ∃ p ys, xs = [.ref p] ∧ (SqL K H p ys ∨ SqT K H p ys) ∧ ∀ l, H l = none → Q (.ref l) (upd H l (.lst ys))
theorem cr_list : CallR X (.type "list") (rListA X.K) := call_list_of
theorem rcb_list : RCb X.K g listT (rListA X.K) := by
  intro H t x u ts vs Q e o q
  unfold listT at e
  split at e
  · split at e
    · rename_i im
      cases e
      obtain ⟨a, us, rfl, l, h, f⟩ := Ok.lst_ats o
      exact ⟨a, us, rfl, .inl (.inl (.inl h)), fun p hp => q _ _ (Ok.new_lst (f im _ _ l (picks_all l)) l hp)⟩
    · cases e
  · split at e
    · rename_i im
      cases e
      obtain ⟨a, us, rfl, l, h, f⟩ := Ok.ro_ats o
      exact ⟨a, us, rfl, .inl h, fun p hp => q _ _ (Ok.new_lst (f im _ _ l (picks_all l)) l hp)⟩
    · cases e
  · split at e
    · rename_i im
      cases e
      obtain ⟨a, us, rfl, l, h, f⟩ := Ok.tup_ats o
      exact ⟨a, us, rfl, .inr h, fun p hp => q _ _ (Ok.new_lst (f im _ _ l (picks_all l)) l hp)⟩
    · cases e
  · cases e
def rTupA (K : PySem.W.Frag) : List V → Hp → VK → Prop := fun xs H Q => ∃ p ys, xs = [.ref p] ∧ ((SqL K H p ys ∧ ∀ l, H l = none → Q (.ref l) (upd H l (.tup ys))) ∨ (SqT K H p ys ∧ Q (.ref p) H))
theorem cr_tuple : CallR X (.type "tuple") (rTupA X.K) := call_tuple_of
theorem rcb_tuple : RCb X.K g tupT (rTupA X.K) := by
  intro H t x u ts vs Q e o q
  unfold tupT at e
  split at e
  · split at e
    · rename_i im
      cases e
      obtain ⟨a, us, rfl, l, h, f⟩ := Ok.lst_ats o
      exact ⟨a, us, rfl, .inl ⟨.inl (.inl h), fun p hp => q _ _ (Ok.new_tup (f im _ _ l (picks_all l)) l hp)⟩⟩
    · cases e
  · cases e
end
end VS
/-! FW16: dicts; a starred target; match over texts. -/
namespace VS
open PySem L2

/-! ### dicts -/
def keyT : T → Option Key
  | .atom (.int i) => some (.inl i)
  | .atom (.str x) => some (.inr x)
  | _ => none
def kIx : List Key → Key → Option Nat
  | [], _ => none
  | a :: ks, k => if a = k then some 0 else (kIx ks k).map (· + 1)
theorem valV_ix {k : Key} : ∀ {ks : List Key} {us : List V}, ks.length = us.length → valV (ks.zip us) k = (kIx ks k).bind fun j => us[j]?
  | [], _, _ => rfl
  | a :: ks, [], l => by cases l
  | a :: ks, u :: us, l => by
    have ih := valV_ix (k := k) (ks := ks) (us := us) (by simpa using l)
    unfold valV at ih ⊢
    rw [List.zip_cons_cons, List.find?_cons]
    unfold kIx
    by_cases e : a = k
    · simp [e]
    · simp only [e, decide_false, if_false]
      rw [ih]
      cases kIx ks k <;> simp
theorem kIx_lt {k : Key} : ∀ {ks : List Key} {j : Nat}, kIx ks k = some j → j < ks.length
  | [], _, h => by simp [kIx] at h
  | a :: ks, j, h => by
    unfold kIx at h
    split at h
    · cases h; simp
    · obtain ⟨i, e, rfl⟩ := Option.map_eq_some_iff.mp h
      have := kIx_lt e
      simp; omega
theorem kIx_none {k : Key} : ∀ {ks : List Key}, kIx ks k = none → k ∉ ks
  | [], _ => by simp
  | a :: ks, h => by
    unfold kIx at h
    split at h
    · cases h
    · rename_i e
      have := kIx_none (Option.map_eq_none_iff.mp h)
      simp only [List.mem_cons, not_or]
      exact ⟨fun z => e z.symm, this⟩
theorem put_new {k : Key} {v : V} {ks : List Key} {us : List V} (l : ks.length = us.length) (h : kIx ks k = none) : putK (ks.zip us) k v = (ks ++ [k]).zip (us ++ [v]) := by
  rw [putK_new _ (by rw [valV_ix l, h]; rfl), List.zip_append l]; rfl
theorem put_old {k : Key} {v : V} : ∀ {ks : List Key} {us : List V} {j : Nat}, ks.Nodup → ks.length = us.length → kIx ks k = some j → putK (ks.zip us) k v = ks.zip (us.set j v)
  | [], _, _, _, _, h => by simp [kIx] at h
  | a :: ks, [], _, _, l, _ => by cases l
  | a :: ks, u :: us, j, nd, l, h => by
    have l' : ks.length = us.length := by simpa using l
    have nd' := List.nodup_cons.mp nd
    have hit : ((a :: ks).zip (u :: us)).any (fun kv => decide (kv.1 = k)) = true := by
      rw [valV_any, valV_ix l, h]
      have := kIx_lt h
      simp at this
      simp [List.getElem?_eq_getElem (show j < (u :: us).length by simp; omega)]
    unfold putK
    rw [if_pos hit, List.zip_cons_cons, List.map_cons]
    unfold kIx at h
    by_cases e : a = k
    · subst e
      rw [if_pos rfl] at h
      cases h
      rw [if_pos rfl, List.set_cons_zero, List.zip_cons_cons]
      congr 1
      have : ∀ p ∈ ks.zip us, p.1 ≠ a := fun p hp z => nd'.1 (z ▸ (List.of_mem_zip hp).1)
      rw [List.map_congr_left (g := id)]
      · simp
      · intro p hp
        rw [if_neg (this p hp)]; rfl
    · rw [if_neg e] at h
      obtain ⟨i, e1, rfl⟩ := Option.map_eq_some_iff.mp h
      rw [if_neg e, List.set_cons_succ, List.zip_cons_cons]
      congr 1
      have ih := put_old (v := v) nd'.2 l' e1
      have hit' : (ks.zip us).any (fun kv => decide (kv.1 = k)) = true := by
        rw [valV_any, valV_ix l', e1]
        have := kIx_lt e1
        simp [List.getElem?_eq_getElem (show i < us.length by omega)]
      unfold putK at ih
      rw [if_pos hit'] at ih
      exact ih
/-- a dict's value at a key, copyable -/
def dgetT : T → T → Option T
  | .dct _ ks ts, k => (keyT k).bind fun k => (kIx ks k).bind fun j => (ts[j]?).filter T.imm
  | _, _ => none
def putD (ks : List Key) (ts : List T) (k : Key) (t : T) : List Key × List T := match kIx ks k with
  | some j => (ks, ts.set j t)
  | none => (ks ++ [k], ts ++ [t])
def dnewM : M T := M.pure (.dct true [] [])
def rDGet : R2 := fun x y H Q => ∃ a v, x = .ref a ∧ DGet H a y (some v) ∧ Q v H
def setD (i : Nat) (k : M T) (t : T) : M Unit := M.bind (nhv i) fun _ => M.bind k fun n => fun ρ => match ρ[i]?, keyT n with
  | some (.dct true ks xs), some k => if ks.length < 1000000 then .ok () (ρ.set i (.dct true (putD ks xs k t).1 (putD ks xs k t).2)) else .no
  | _, _ => .no
section
variable {X : Cx} {g : G}
theorem key_of {H : Hp} {t : T} {v : V} {k : Key} {ts : List T} {vs : List V} (e : keyT t = some k) (o : Ok X.K g H (t :: ts) (v :: vs)) : v = kV k := by
  unfold keyT at e
  split at e
  · cases e; exact o.atom_eq
  · cases e; exact o.atom_eq
  · cases e
theorem ve_dnew {pos : Pos} : PE X (.Dict [] [] pos) (tV X.K g dnewM) := PE.weak pe_dnewK fun σ H Q ⟨ρ, ts, vs, S, q⟩ p hp => q _ _ (S.tmp fun rs ws o => Ok.new_dct (ks := []) (xs := []) (us := []) o rfl rfl List.nodup_nil hp)
theorem rfb_dget : RFb X.K g dgetT rDGet := by
  intro H tx ty x y t ts vs Q e o q
  unfold dgetT at e
  split at e
  · rename_i b ks xs
    obtain ⟨k, e1, e2⟩ := Option.bind_eq_some_iff.mp e
    obtain ⟨j, e3, e4⟩ := Option.bind_eq_some_iff.mp e2
    obtain ⟨e5, im⟩ := Option.filter_eq_some_iff.mp e4
    have ey := key_of e1 o
    obtain ⟨a, us, rfl, l, lk, nd, h, f⟩ := Ok.dct_at o.swap
    have hj : j < us.length := by have := (List.getElem?_eq_some_iff.mp e5).1; omega
    have e6 : us[j]? = some us[j] := by simp [hj]
    refine ⟨a, us[j], rfl, ?_, q _ H ((f j t us[j] e5 im e6).ent (Ent.cons Ent.swap))⟩
    have := DGet.k (k := k) h
    rw [valV_ix (by omega), e3] at this
    rw [ey]
    simpa [e6] using this
  · cases e
theorem ve_dget {a b : Expr} {pos : Pos} {i : Nat} {sb : M T} (hu : X.A.units + 64 < cLine) (ha : PE X a (tVar i)) (hb : PE X b (tV X.K g sb)) (hs : NoSl b := by first | exact (fun _ _ => rfl)) : PE X (.Subscript a b pos) (tV X.K g (binL dgetT i sb)) :=
  PE.weak (pe_dget (by omega) ha hb hs) fun σ H Q h => opL_weak (r := rDGet) rfb_dget h
theorem vs_setD {st : Stmt} {e k : M T} {i : Nat} (h : PS X st (sDPut (tVar i) (tV X.K g k) (tV X.K g e))) : PS X st (tSt X.K g (asgM e (setD i k))) := PS.weak h fun D σ H ⟨ρ, ts, vs, S, q⟩ => go S q fun t ρ1 w H1 S1 q1 => by
  have q2 := Aft.bind q1
  obtain ⟨v, hv, q3⟩ := nhv_ok S1 q2
  refine ⟨v, hv, go S1 q3 fun n ρ2 y H2 S2 q4 => ?_⟩
  split at q4
  · rename_i ks xs kk e1 ek
    split at q4
    · rename_i hl
      obtain ⟨v', hv', S3⟩ := S2.take e1 rfl
      rw [hv] at hv'; cases hv'
      have o : Ok X.K g H2 (.dct true ks xs :: (n :: t :: (ts ++ ρ2.set i .hole))) (v :: (y :: w :: (vs ++ sl σ))) := by simpa using S3.flip
      have ey := key_of ek o.drop
      have o2 : Ok X.K g H2 (.dct true ks xs :: t :: (ts ++ ρ2.set i .hole)) (v :: w :: (vs ++ sl σ)) := o.ent (Ent.cons Ent.drop)
      obtain ⟨a, us, rfl, l1, lk, nd, ha, f⟩ := Ok.dct_mod o2
      have lku : ks.length = us.length := by omega
      have fin : ∀ ks' xs' us', putK (ks.zip us) kk w = ks'.zip us' → (ks', xs') = putD ks xs kk t → Ok X.K g (upd H2 a (.dK (ks'.zip us'))) (.dct true ks' xs' :: (ts ++ ρ2.set i .hole)) (.ref a :: (vs ++ sl σ)) → ∃ a_1 H4, V.ref a = V.ref a_1 ∧ DPut H2 a_1 y w H4 ∧ D.nx σ H4 := fun ks' xs' us' ep ed o3 => by
        refine ⟨a, upd H2 a (.dK (ks'.zip us')), rfl, ?_, q4 σ _ ?_⟩
        · rw [ey, ← ep]
          exact DPut.k ha (by rw [List.length_zip, ← lku, Nat.min_self]; exact Nat.lt_of_lt_of_le hl (by decide))
        · have S4 : Sg X.K g σ (upd H2 a (.dK (ks'.zip us'))) (ρ2.set i .hole) (.dct true ks' xs' :: ts) (.ref a :: vs) := S3.re (by simpa using o3)
          have := S4.back hv
          rw [List.set_set] at this
          rw [← ed]
          exact this
      cases ej : kIx ks kk with
      | some j =>
        have hj : j < xs.length := by have := kIx_lt ej; omega
        exact fin ks (xs.set j t) (us.set j w) (put_old nd lku ej) (by unfold putD; rw [ej]) (f ks (xs.set j t) (us.set j w) _ _ (Ent.setAt l1 hj) (by simp [l1]) (by simp [lk]) nd)
      | none =>
        have h1 : Ent (xs ++ t :: (ts ++ ρ2.set i .hole)) (us ++ w :: (vs ++ sl σ)) ((xs ++ [t]) ++ (ts ++ ρ2.set i .hole)) ((us ++ [w]) ++ (vs ++ sl σ)) := by
          have := Ent.refl (ts := xs ++ t :: (ts ++ ρ2.set i .hole)) (vs := us ++ w :: (vs ++ sl σ))
          simpa using this
        exact fin (ks ++ [kk]) (xs ++ [t]) (us ++ [w]) (put_new lku ej) (by unfold putD; rw [ej]) (f (ks ++ [kk]) (xs ++ [t]) (us ++ [w]) _ _ h1 (by simp [l1]) (by simp [lk]) (by
          rw [List.nodup_append]
          refine ⟨nd, by simp, fun x hx y hy => ?_⟩
          simp at hy
          subst hy
          exact fun z => kIx_none ej (z ▸ hx)))
    · exact q4.elim
  · exact q4.elim

/-! ### match over texts -/
structure PP (X : Cx) (p : Pattern) (xs : List Str) : Prop where
  run : ∀ (pins : List (Addr × Obj)) (s : Shared) (σ : L2.St) (H : Hp) (y : Str) (v : Value) (Q : Option (List (Str × Value)) → Shared → Prop), L2.Inv X pins σ H s → RelV (.str y) v → (∀ s', L2.Inv X pins σ H s' → Q (if xs.any (fun x => decide (x = y)) = true then some [] else none) s') → wpAny (model X.prog X.w) X.A (matchPattern p X.env v) Q X.xe s
theorem pp_val {x : Str} {j} {pos p : Pos} : PP X (.MatchValue (.Constant (.str x) j pos) p) [x] := ⟨fun pins s σ H y v Q I rv h => by
  refine wpAny_matchPattern_Value (thn ((pe_str (X := X)).run pins s σ H (fun z H' => z = .str x ∧ H' = H) I ⟨rfl, rfl⟩) fun u s1 ⟨z, H1, I1, rz, e1, e2⟩ => ?_)
  subst e1 e2
  refine thn (op_eq (X := X) pins s1 σ H1 (.str y) (.str x) v u (fun z H' => z = .bl (decide (V.str y = V.str x)) ∧ H' = H1) I1 rv rz ⟨rfl, rfl, rfl⟩) fun c s2 ⟨z, H2, I2, rc, e1, e2⟩ => ?_
  subst e1 e2
  have : c = Value.bool (decide (V.str y = V.str x)) := rc
  subst this
  refine wpAny_truthy_bool ?_
  have hh := h s2 I2
  by_cases e : y = x
  · subst e
    simpa using hh
  · have e2 : ¬ x = y := fun z => e z.symm
    simpa [e, e2] using hh⟩
structure PPs (X : Cx) (ps : List Pattern) (xs : List Str) : Prop where
  run : ∀ (pins : List (Addr × Obj)) (s : Shared) (σ : L2.St) (H : Hp) (y : Str) (v : Value) (Q : Option (List (Str × Value)) → Shared → Prop), L2.Inv X pins σ H s → RelV (.str y) v → (∀ s', L2.Inv X pins σ H s' → Q (if xs.any (fun x => decide (x = y)) = true then some [] else none) s') → wpAny (model X.prog X.w) X.A (matchFirst ps X.env v) Q X.xe s
theorem pps_nil' : PPs X [] [] := ⟨fun pins s σ H y v Q I rv h => wpAny_matchFirst_nil (by simpa using h s I)⟩
theorem pps_cons' {p : Pattern} {ps : List Pattern} {xs ys : List Str} (h1 : PP X p xs) (h2 : PPs X ps ys) : PPs X (p :: ps) (xs ++ ys) := ⟨fun pins s σ H y v Q I rv h => by
  refine wpAny_matchFirst_cons (h1.run pins s σ H y v _ I rv fun s' I' => ?_)
  by_cases e : xs.any (fun x => decide (x = y)) = true
  · rw [if_pos e]
    have hh := h s' I'
    rw [List.any_append, e, Bool.true_or, if_pos rfl] at hh
    exact hh
  · rw [if_neg e]
    refine h2.run pins s' σ H y v Q I' rv fun s2 I2 => ?_
    have hh := h s2 I2
    have e' : xs.any (fun x => decide (x = y)) = false := Bool.eq_false_iff.mpr e
    rw [List.any_append, e', Bool.false_or] at hh
    exact hh⟩
theorem pp_or {ps : List Pattern} {xs : List Str} {pos : Pos} (h : PPs X ps xs) (hn : namesOfAll (ps.take 1) = [] := by rfl) : PP X (.MatchOr ps pos) xs := ⟨fun pins s σ H y v Q I rv hq => by
  refine wpAny_matchPattern_Or (h.run pins s σ H y v _ I rv fun s' I' => ?_)
  have hh := hq s' I'
  by_cases e : xs.any (fun x => decide (x = y)) = true
  · rw [if_pos e] at hh ⊢
    dsimp only
    rw [hn]
    exact hh
  · rw [if_neg e] at hh ⊢
    exact hh⟩
def casesM : List (List Str × M Ctl) → Str → M Ctl
  | [], _ => M.pure .nx
  | (xs, m) :: cs, y => if xs.any (fun x => decide (x = y)) = true then m else casesM cs y
def matchM (e : M T) (cs : List (List Str × M Ctl)) : M Ctl := M.bind e fun t => match t with
  | .atom (.str y) => casesM cs y
  | _ => M.no
structure PMs (X : Cx) (g : G) (cs : List MatchCase) (ms : List (List Str × M Ctl)) : Prop where
  run : ∀ (b : Bool) (pins : List (Addr × Obj)) (s : Shared) (σ : L2.St) (H : Hp) (y : Str) (v : Value) (D : Ends), L2.Inv X pins σ H s → RelV (.str y) v → tSt X.K g (casesM ms y) D σ H → wpAny (model X.prog X.w) X.A (matchCases cs X.env v b) (SP X pins D) X.xe s
theorem pms_nil : PMs X g [] [] := ⟨fun b pins s σ H y v D I rv ⟨ρ, ts, vs, S, q⟩ => wpAny_matchCases_nil ⟨σ, H, I, q σ H S⟩⟩
theorem pms_cons {p : Pattern} {body : List Stmt} {rest : List MatchCase} {xs : List Str} {m : M Ctl} {ms : List (List Str × M Ctl)} (h1 : PP X p xs) (h2 : PSs X body (tSt X.K g m)) (h3 : PMs X g rest ms) : PMs X g (⟨p, none, body⟩ :: rest) ((xs, m) :: ms) := ⟨fun b pins s σ H y v D I rv q => by
  refine wpAny_matchCases_cons (h1.run pins s σ H y v _ I rv fun s' I' => ?_)
  unfold casesM at q
  by_cases e : xs.any (fun x => decide (x = y)) = true
  · rw [if_pos e] at q ⊢
    exact wpAny_assignInOrder_none (h2.run pins s' σ H D I' q)
  · rw [if_neg e] at q ⊢
    exact h3.run false pins s' σ H y v D I' rv q⟩
theorem vs_match {subject : Expr} {cases : List MatchCase} {pos : Pos} {e : M T} {ms : List (List Str × M Ctl)} (he : PE X subject (tV X.K g e)) (hc : PMs X g cases ms) : PS X (.Match subject cases pos) (tSt X.K g (matchM e ms)) :=
  ⟨fun pins s σ H D I ⟨ρ, ts, vs, S, q⟩ => wpAny_Match (thn (he.run pins s σ H (fun x H1 => ∃ y, x = .str y ∧ tSt X.K g (casesM ms y) D σ H1) I (go S q fun t ρ1 x H1 S1 q1 => by
    split at q1
    · rename_i y
      exact ⟨y, Ok.atom_eq (by simpa using S1.flip), ρ1, ts, vs, S1.tmp fun rs ws o => o.drop, q1⟩
    · exact q1.elim)) fun v s1 ⟨x, H1, I1, rv, y, ex, q2⟩ => by
      subst ex
      exact hc.run true pins s1 σ H1 y v D I1 rv q2)⟩
end
end VS
/-! FW17: dict comprehensions; a starred target. -/
namespace VS
open PySem L2

theorem dc_it {J : It} {n : Nat} {G : Hp → Prop} {Y : Nat → Hp → V → Hp → Prop} (w : Walk J n G Y) {g : TG} {tt : TT} {tk tv : TE} {vs : List Nat} {σ : L2.St} {H1 : Hp} {D : Addr} {Qd : Hp → Prop} (Pv : Nat → Hp → Prop) (h0 : Pv 0 (upd H1 D (.dK []))) (hG : ∀ i H, i ≤ n → Pv i H → G H)
    (hs : ∀ i x H H', i < n → Pv i H → Y i H x H' → g x (wipe σ vs) H' fun σ2 H2 => wipe σ2 vs = wipe σ vs ∧ tt σ2 H2 fun b H3 =>
      if b = true then tk σ2 H3 fun y H4 => tv σ2 H4 fun z H5 => ∃ kvs k, y = kV k ∧ H5 D = some (.dK kvs) ∧ kvs.length < sizeLine ∧ Pv (i + 1) (upd H5 D (.dK (putK kvs k z))) else Pv (i + 1) H3) (hd : ∀ H, Pv n H → Qd H) :
    ∃ W : Nat → Nat → Hp → Prop, (∃ m, W 0 m (upd H1 D (.dK []))) ∧ ∀ i m H, W i m H →
      (J.stop i H ∧ Qd H) ∨ (J.go i H ∧ ∃ Nx : Hp → Prop, (∀ H', Nx H' → ∃ m', m' < m ∧ W (i + 1) m' H') ∧ ∀ x H', J.yld i H x H' → g x (wipe σ vs) H' fun σ2 H2 => wipe σ2 vs = wipe σ vs ∧ tt σ2 H2 fun b H3 =>
        if b = true then tk σ2 H3 fun y H4 => tv σ2 H4 fun z H5 => ∃ kvs k, y = kV k ∧ H5 D = some (.dK kvs) ∧ kvs.length < sizeLine ∧ Nx (upd H5 D (.dK (putK kvs k z))) else Nx H3) := by
  refine ⟨fun i m H => m = n - i ∧ i ≤ n ∧ Pv i H, ⟨n, by simp, Nat.zero_le _, h0⟩, ?_⟩
  rintro i m H ⟨rfl, hi, p⟩
  have q := hG i H hi p
  by_cases hlt : i < n
  · exact .inr ⟨w.goes i H hlt q, Pv (i + 1), fun H' p' => ⟨n - (i + 1), by omega, rfl, hlt, p'⟩, fun x H' y => hs i x H H' hlt p (w.yields i H x H' hlt q y)⟩
  · have e : i = n := by omega
    subst e
    exact .inl ⟨w.stops H q, hd H p⟩
def dcStep (a : T → M Unit) (c : M Bool) (ek e : M T) (x : T) : M (Option (Key × T)) := M.bind (a x) fun _ => M.bind c fun k => if k = true then M.bind ek fun tk => M.bind e fun t => M.bind (M.lift (keyT tk)) fun kk => M.pure (some (kk, t)) else M.pure none
def dcLoop (a : T → M Unit) (c : M Bool) (ek e : M T) (own : List Nat) : List T → List Key × List T → M (List Key × List T)
  | [], acc => M.pure acc
  | x :: xs, acc => fun ρ => match dcStep a c ek e x ρ with
    | .no => .no
    | .ex n fs ρ' => .ex n fs ρ'
    | .ok none ρ' => dcLoop a c ek e own xs acc (wipeE ρ' own)
    | .ok (some (k, t)) ρ' => if acc.1.length < 1000000 then dcLoop a c ek e own xs (putD acc.1 acc.2 k t) (wipeE ρ' own) else .no
def dcM (it : M (List T)) (a : T → M Unit) (c : M Bool) (ek e : M T) (own : List Nat) : M T := M.bind it fun xs => M.bind (fun ρ => dcLoop a c ek e own xs ([], []) (wipeE ρ own)) fun acc => M.pure (.dct true acc.1 acc.2)
section
variable {X : Cx} {g : G}
theorem tDc_weak {it : M (List T)} {a : T → M Unit} {c : M Bool} {ek e : M T} {own : List Nat} (hp : own.all (fun i => g.pins.all (fun p => p.1 != i)) = true) (σ : L2.St) (H : Hp) (Q : VK)
    (h : tV X.K g (dcM it a c ek e own) σ H Q) : tDc (tIt X.K g it) (tTo X.K g own a) (tBo X.K g c) (tV X.K g ek) (tV X.K g e) own σ H Q := by
  obtain ⟨ρ, ts, vs, S, q⟩ := h
  refine ⟨ρ, ts, vs, S, q.bind.mono fun xs ρ1 q1 J src srcv H1 lsrc S1 W D nD => ?_⟩
  obtain ⟨Gd, Y, w, wG, wY⟩ := W
  have tl : ts.length = vs.length := S.tlen
  have S2 : Sg X.K g σ (upd H1 D (.dK [])) ρ1 (.dct true [] [] :: (src ++ ts)) (.ref D :: (srcv ++ vs)) := S1.tmp fun rs ws o => Ok.new_dct (ks := []) (xs := []) (us := []) o rfl rfl List.nodup_nil nD
  have S3 := S2.wipe hp
  let Fin : List Key × List T → Env → Prop := fun acc ρ' => ∀ v H', Sg X.K g σ H' ρ' (.dct true acc.1 acc.2 :: ts) (v :: vs) → Q v H'
  have q3 : Aft (dcLoop a c ek e own xs ([], []) (wipeE ρ1 own)) Fin := by
    have := Aft.bind q1
    exact this
  let Hol : Env → Prop := fun ρ => ∀ i ∈ own, i < ρ.length → ρ[i]? = some .hole
  have hol : ∀ ρ : Env, Hol (wipeE ρ own) := fun ρ i hi hl => wipeE_at hi (by rw [wipeE_len] at hl; exact hl)
  refine dc_it w (fun i H => ∃ ρ acc, Hol ρ ∧ Sg X.K g (wipe σ own) H ρ (.dct true acc.1 acc.2 :: (src ++ ts)) (.ref D :: (srcv ++ vs)) ∧ Aft (dcLoop a c ek e own (xs.drop i) acc ρ) Fin) ⟨_, _, hol ρ1, S3, by simpa using q3⟩ (fun i H _ ⟨ρ, acc, _, S, _⟩ => ?_) (fun i x H H' hi ⟨ρ, acc, hh, S, q⟩ y => ?_) fun H ⟨ρ, acc, hh, S, q⟩ => ?_
  · have o := S.flip
    have o2 : Ok X.K g H (.dct true acc.1 acc.2 :: (src ++ (ts ++ ρ))) (.ref D :: (srcv ++ (vs ++ sl (wipe σ own)))) := by simpa using o
    exact wG H _ _ o2.drop
  · have hx : xs[i]? = some xs[i] := by simp [hi]
    generalize xs[i] = t at hx
    have hd : xs.drop i = t :: xs.drop (i + 1) := by
      obtain ⟨h1, h2⟩ := List.getElem?_eq_some_iff.mp hx
      rw [List.drop_eq_getElem_cons h1, h2]
    have S2 : Sg X.K g (wipe σ own) H' ρ (t :: .dct true acc.1 acc.2 :: (src ++ ts)) (x :: .ref D :: (srcv ++ vs)) := by
      have o := S.flip
      have o1 : Ok X.K g H (src ++ (.dct true acc.1 acc.2 :: (ts ++ ρ))) (srcv ++ (.ref D :: (vs ++ sl (wipe σ own)))) := by
        have o' : Ok X.K g H ([.dct true acc.1 acc.2] ++ (src ++ (ts ++ ρ))) ([.ref D] ++ (srcv ++ (vs ++ sl (wipe σ own)))) := by simpa using o
        simpa using o'.ent (Ent.rot rfl lsrc)
      have o2 := wY i t hx H x H' _ _ o1 y
      have o3 : Ok X.K g H' (t :: ([.dct true acc.1 acc.2] ++ (src ++ (ts ++ ρ)))) (x :: ([.ref D] ++ (srcv ++ (vs ++ sl (wipe σ own))))) := o2.ent (Ent.cons (by simpa using Ent.rot (xs := src) (us := srcv) (ys := [T.dct true acc.1 acc.2]) (ws := [V.ref D]) (zs := ts ++ ρ) (vs := vs ++ sl (wipe σ own)) lsrc rfl))
      exact S.re (by simpa using o3)
    rw [hd] at q
    unfold dcLoop dcStep at q
    refine ⟨ρ, .dct true acc.1 acc.2 :: (src ++ ts), .ref D :: (srcv ++ vs), t, S2, ?_⟩
    simp only [M.bind] at q
    cases ea : a t ρ with
    | no => simp [ea, Aft] at q
    | ex n fs ρ' => simp [ea, Aft] at q
    | ok u ρ2 =>
      intro σ2 H2 hw S4
      refine ⟨hw.trans (wipe_wipe σ own), ρ2, _, _, S4, ?_⟩
      simp only [ea] at q
      cases ec : c ρ2 with
      | no => simp [ec, Aft] at q
      | ex n fs ρ' => simp [ec, Aft] at q
      | ok k ρ3 =>
        intro H3 S5
        simp only [ec] at q
        have back : ∀ {H ρ ts' vs'}, Sg X.K g σ2 H ρ ts' vs' → Sg X.K g (wipe σ own) H (wipeE ρ own) ts' vs' := fun s => by
          have := s.wipe hp
          rwa [hw, wipe_wipe] at this
        cases k with
        | false =>
          rw [if_neg (by decide)]
          rw [if_neg (by decide)] at q
          simp only [M.pure] at q
          exact ⟨_, acc, hol ρ3, back S5, q⟩
        | true =>
          rw [if_pos rfl]
          refine ⟨ρ3, _, _, S5, ?_⟩
          rw [if_pos rfl] at q
          simp only [M.bind] at q
          cases eek : ek ρ3 with
          | no => simp [eek, Aft] at q
          | ex n fs ρ' => simp [eek, Aft] at q
          | ok tk ρ4 =>
            intro y4 H4 S6
            simp only [eek] at q
            refine ⟨ρ4, _, _, S6, ?_⟩
            cases ee : e ρ4 with
            | no => simp [ee, Aft] at q
            | ex n fs ρ' => simp [ee, Aft] at q
            | ok t' ρ5 =>
              intro z5 H5 S7
              simp only [ee, M.lift] at q
              cases ekk : keyT tk with
              | none => rw [ekk] at q; exact q.elim
              | some kk =>
              rw [ekk] at q
              simp only [M.pure] at q
              split at q
              · rename_i hl
                have o : Ok X.K g H5 (t' :: tk :: .dct true acc.1 acc.2 :: (src ++ ts ++ ρ5)) (z5 :: y4 :: .ref D :: (srcv ++ vs ++ sl σ2)) := by simpa using S7.flip
                have ey := key_of ekk o.drop
                have o2 : Ok X.K g H5 (.dct true acc.1 acc.2 :: t' :: (src ++ ts ++ ρ5)) (.ref D :: z5 :: (srcv ++ vs ++ sl σ2)) := (o.ent (Ent.cons Ent.drop)).swap
                obtain ⟨a', us, e1, l1, lk, nd, hD, f⟩ := Ok.dct_mod o2
                cases e1
                have lku : acc.1.length = us.length := by omega
                have fin : ∀ ks' xs' us', putK (acc.1.zip us) kk z5 = ks'.zip us' → (ks', xs') = putD acc.1 acc.2 kk t' → Ok X.K g (upd H5 D (.dK (ks'.zip us'))) (.dct true ks' xs' :: (src ++ ts ++ ρ5)) (.ref D :: (srcv ++ vs ++ sl σ2)) → ∃ kvs k, y4 = kV k ∧ H5 D = some (.dK kvs) ∧ kvs.length < sizeLine ∧ ∃ ρ acc, Hol ρ ∧ Sg X.K g (wipe σ own) (upd H5 D (.dK (putK kvs k z5))) ρ (.dct true acc.1 acc.2 :: (src ++ ts)) (.ref D :: (srcv ++ vs)) ∧ Aft (dcLoop a c ek e own (xs.drop (i + 1)) acc ρ) Fin := fun ks' xs' us' ep ed o3 => by
                  refine ⟨_, kk, ey, hD, by rw [List.length_zip, ← lku, Nat.min_self]; exact Nat.lt_of_lt_of_le hl (by decide), wipeE ρ5 own, putD acc.1 acc.2 kk t', hol ρ5, ?_, q⟩
                  rw [ep, ← ed]
                  exact back (S7.re (by simpa using o3))
                cases ej : kIx acc.1 kk with
                | some j =>
                  have hj : j < acc.2.length := by have := kIx_lt ej; omega
                  exact fin acc.1 (acc.2.set j t') (us.set j z5) (put_old nd lku ej) (by unfold putD; rw [ej]) (f acc.1 (acc.2.set j t') (us.set j z5) _ _ (Ent.setAt l1 hj) (by simp [l1]) (by simp [lk]) nd)
                | none =>
                  have h1 : Ent (acc.2 ++ t' :: (src ++ ts ++ ρ5)) (us ++ z5 :: (srcv ++ vs ++ sl σ2)) ((acc.2 ++ [t']) ++ (src ++ ts ++ ρ5)) ((us ++ [z5]) ++ (srcv ++ vs ++ sl σ2)) := by
                    have := Ent.refl (ts := acc.2 ++ t' :: (src ++ ts ++ ρ5)) (vs := us ++ z5 :: (srcv ++ vs ++ sl σ2))
                    simpa using this
                  exact fin (acc.1 ++ [kk]) (acc.2 ++ [t']) (us ++ [z5]) (put_new lku ej) (by unfold putD; rw [ej]) (f (acc.1 ++ [kk]) (acc.2 ++ [t']) (us ++ [z5]) _ _ h1 (by simp [l1]) (by simp [lk]) (by
                    rw [List.nodup_append]
                    refine ⟨nd, by simp, fun x hx y hy => ?_⟩
                    simp at hy
                    subst hy
                    exact fun z => kIx_none ej (z ▸ hx)))
              · exact q.elim
  · rw [List.drop_length] at q
    have S5 : Sg X.K g σ H ρ (.dct true acc.1 acc.2 :: ts) (.ref D :: vs) := (Sg.unwipe hp S hh).tmp fun rs ws o => by
      have o' : Ok X.K g H (.dct true acc.1 acc.2 :: (src ++ (ts ++ rs))) (.ref D :: (srcv ++ (vs ++ ws))) := by simpa using o
      exact o'.ent (Ent.cons (Ent.drops lsrc))
    exact q _ H S5
theorem ve_dc {kx vx tg iter : Expr} {ifs : List Expr} {scope : Scope} {own : List (Str × Nat)} {pos : Pos} {it : M (List T)} {a : T → M Unit} {c : M Bool} {ek e : M T} (hp : (own.map (·.2)).all (fun i => g.pins.all (fun p => p.1 != i)) = true) (hc : X.calm = true) (hN : X.N.Nodup) (hi : PI X tg iter (tIt X.K g it)) (ok : BlkOk X.N X.env.scope scope own)
    (hg : ∀ (s : Shared) (H : Hp) (C : Addr) (cl : List (Str × Addr)) (fp : List Addr), PG (X.blk s H scope (PySem.compEnvC scope cl C X.env) fp) tg (tTo X.K g (own.map (·.2)) a)) (ht : ∀ (s : Shared) (H : Hp) (C : Addr) (cl : List (Str × Addr)) (fp : List Addr), PTs (X.blk s H scope (PySem.compEnvC scope cl C X.env) fp) ifs (tBo X.K g c))
    (hk : ∀ (s : Shared) (H : Hp) (C : Addr) (cl : List (Str × Addr)) (fp : List Addr), PE (X.blk s H scope (PySem.compEnvC scope cl C X.env) fp) kx (tV X.K g ek))
    (he : ∀ (s : Shared) (H : Hp) (C : Addr) (cl : List (Str × Addr)) (fp : List Addr), PE (X.blk s H scope (PySem.compEnvC scope cl C X.env) fp) vx (tV X.K g e)) (hs : ∀ x, foldedSetIterable iter X.env x = pure x := by intro _; rfl) :
    PE X (.DictComp kx vx [⟨tg, iter, ifs, 0⟩] scope pos) (tV X.K g (dcM it a c ek e (own.map (·.2)))) := PE.weak (pe_dc hc hN hi ok hg ht hk he hs) fun σ H Q h => tDc_weak hp σ H Q h
end
end VS
/-! FW18: a, *b = t. -/
namespace VS
open PySem L2

theorem objOk_get {P : Program} {w : World} {H : Hp} {h : Heap} {a : Addr} {o : HO} (x : ObjOk P w H h a o) : ∃ ob, h.get? a = some ob := by
  induction o with
  | lst xs => obtain ⟨_, _, _, _, e⟩ := x; exact ⟨_, e⟩
  | tup xs => obtain ⟨_, _, _, _, e, _⟩ := x; exact ⟨_, e⟩
  | dK kvs => obtain ⟨_, _, _, _, _, _, _, e, _⟩ := x; exact ⟨_, e⟩
  | dT kvs => obtain ⟨_, _, _, _, _, _, _, e, _⟩ := x; exact ⟨_, e⟩
  | set S n => obtain ⟨_, _, _, _, e, _⟩ := x; exact ⟨_, e⟩
  | ins C dx fs => obtain ⟨_, _, _, e, _⟩ := x; exact ⟨_, e⟩
  | own y => exact x
  | xd fs => obtain ⟨_, ⟨_, _, _, e, _⟩, _⟩ := x; exact ⟨_, e⟩
  | rng lo hi => obtain ⟨_, _, _, e⟩ := x; exact ⟨_, e⟩
  | frz ob u => exact ⟨_, x.1⟩
  | tbl ps => exact ⟨_, x⟩
  | met f y => exact ⟨_, x⟩
  | ext φ => exact x.2.1
def gStar (K : PySem.W.Frag) (g1 g2 : TG) : TG := fun v σ H Q => ∃ a x xs, v = .ref a ∧ SqT K H a (x :: xs) ∧ xs.length ≤ 16000 ∧ ∀ D, H D = none → g1 x σ (upd H D (.lst xs)) fun σ' H' => g2 (.ref D) σ' H' Q
section
variable {X : Cx} {g : G}
theorem pg_star {a b : Expr} {k : Nat} {pos p2 : Pos} {g1 g2 : TG} (hc : X.calm = true) (h1 : PG X a g1) (h2 : PG X b g2)
    (hl : (assignEach [a, .Starred b p2] X.env).length = 2 := by rfl) (hs : (assignEach [a, .Starred b p2] X.env).findIdx? (·.1) = some 1 := by rfl) (hm : (assignEach [a, .Starred b p2] X.env).map (·.2) = [assign a X.env, assign b X.env] := by rfl) :
    PG X (.Tuple [a, .Starred b p2] k pos) (gStar X.K g1 g2) := by
  refine ⟨fun pins s σ H v u Q I r hq => ?_⟩
  obtain ⟨ad, x, xs, rfl, ht, hz, hq⟩ := hq
  obtain rfl : u = Value.ref ad := r
  obtain ⟨its, rv, it, _⟩ := I.tuple ht
  obtain ⟨m, F⟩ := I.fr
  cases rv with
  | cons rx rs =>
    rename_i ux us
    have ls := rs.length
    refine PySem.W.kun_assignT (i := 1) (n := 2) (first := [ux]) (mids := us) (lasts := []) F (news_all (g := X.base) (h := s.heap) (L := X.env.locals)) it (I.ok.hd hc) hl hs (by decide) (by simp) (by simp; omega) (by simp) (by simp) (by simp) fun D h' tk F' N' nd => ?_
    rw [hm]
    have new : PyProof.Rows.News X.base X.env.locals h' (allNews X.base s.heap X.env.locals) := fun p hp => N' p (List.mem_cons_of_mem _ hp)
    obtain ⟨hD, hDL, hDb⟩ := N' _ List.mem_cons_self
    have keep : ∀ c o, c ≠ X.env.locals → s.heap.get? c = some o → h'.get? c = some o := fun c o hc e => by
      cases q : X.base.get? c with
      | some z =>
        have z2 := I.bk c z q
        rw [e] at z2; cases z2
        exact F'.keep c _ q
      | none => exact (new (c, o) (mem_allNews hc q e)).1
    have nD : s.heap.get? D = none := by
      cases e : s.heap.get? D with
      | none => rfl
      | some o => exact absurd (nd (D, o) (mem_allNews hDL hDb e)) (Nat.lt_irrefl _)
    have fD : H D = none := by
      cases e : H D with
      | none => rfl
      | some o =>
        obtain ⟨ob, eo⟩ := objOk_get (I.hok D o e)
        rw [nD] at eo; cases eo
    have ne : ∀ {c o}, H c = some o → c ≠ X.env.locals := fun {c o} e z => by rw [z, I.free] at e; cases e
    have I' : L2.Inv X pins σ (upd H D (.lst xs)) { s with heap := h', toks := tk } := by
      refine I.step (g' := s.gens) (d' := s.drawn) (ch := []) (fun _ z => nomatch z) (fun c o hc _ _ e _ => keep c o hc e) (fun c o hc _ _ e _ => ⟨o.slots, keep c o hc e⟩) (fun c o _ e n => ?_) (fun c o _ e => ?_) (fun c ys e => ?_) (fun c o ys e => ?_) (fun c ps e => ?_) (fun m' hm' => ?_) (fun c o e => ?_) I.bare
      · rw [upd_ne (fun z => by rw [z, nD] at e; cases e)]; exact n
      · by_cases hc : c = X.env.locals
        · obtain ⟨o', _, _, e', _⟩ := F'.ns
          exact ⟨o', by rw [hc]; exact e'⟩
        · exact ⟨o, keep c o hc e⟩
      · rw [upd_ne (ne_of_none e fD)]; exact e
      · rw [upd_ne (ne_of_none e fD)]; exact e
      · exact ⟨#[], by rw [upd_ne (ne_of_none e fD), e]; simp⟩
      · rw [show m' = m from hm'.eq_nsMap.trans F.ns.eq_nsMap.symm]; exact F'.ns
      · by_cases hc : c = D
        · subst hc
          rw [upd_same] at e; cases e
          exact ⟨Nat.le_trans hz (by decide), us, 0, rs, hD⟩
        · rw [upd_ne hc] at e
          refine (I.hok c o e).stay (fun d z hd q => keep d z ?_ q) (fun d q => by rw [upd_ne (ne_of_none q fD)]; exact q) fun d ys q => by rw [upd_ne (ne_of_none q fD)]; exact q
          rcases hd with rfl | hd
          · exact ne e
          · exact ne hd
    refine wpAny_assignInOrder_more (thn (h1.run pins _ σ _ x ux _ I' rx (hq D fD)) fun _ s2 ⟨σ2, H2, I2, q2⟩ => ?_)
    exact wpAny_assignInOrder_more (thn (h2.run pins s2 σ2 H2 (.ref D) (.ref D) Q I2 rfl q2) fun _ s3 z => wpAny_assignInOrder_none z)
/-- a, *b = t -/
def gstar (a b : T → M Unit) : T → M Unit
  | .tup (x :: xs) => if xs.length ≤ 16000 then M.bind (a x) fun _ => b (.lst true xs) else M.no
  | _ => M.no
theorem vg_star {a b : Expr} {k : Nat} {pos p2 : Pos} {ga gb : T → M Unit} (hc : X.calm = true) (h1 : PG X a (tTg X.K g ga)) (h2 : PG X b (tTg X.K g gb))
    (hl : (assignEach [a, .Starred b p2] X.env).length = 2 := by rfl) (hs : (assignEach [a, .Starred b p2] X.env).findIdx? (·.1) = some 1 := by rfl) (hm : (assignEach [a, .Starred b p2] X.env).map (·.2) = [assign a X.env, assign b X.env] := by rfl) :
    PG X (.Tuple [a, .Starred b p2] k pos) (tTg X.K g (gstar ga gb)) :=
  PG.weak (pg_star hc h1 h2 hl hs hm) fun v σ H Q ⟨ρ, ts, vs, t, S, q⟩ => by
    cases t with
    | tup zs =>
      cases zs with
      | nil => exact q.elim
      | cons x xs =>
        simp only [gstar] at q
        split at q
        · rename_i hz
          obtain ⟨ad, us, rfl, l, ht, o⟩ := Ok.tup_open (by simpa using S.flip)
          match us, l with
          | w :: us, l =>
            have l' : xs.length = us.length := by simpa using l
            refine ⟨ad, w, us, rfl, ht, by omega, fun D hD => ?_⟩
            have o2 : Ok X.K g H (xs ++ (x :: (ts ++ ρ))) (us ++ (w :: (vs ++ sl σ))) := by
              have o' : Ok X.K g H ([x] ++ (xs ++ (ts ++ ρ))) ([w] ++ (us ++ (vs ++ sl σ))) := by simpa using o
              simpa using o'.ent (Ent.rot rfl l')
            have o3 := (Ok.new_lst o2 l' hD).swap
            have S2 : Sg X.K g σ (upd H D (.lst us)) ρ (x :: .lst true xs :: ts) (w :: .ref D :: vs) := S.re (by simpa using o3)
            refine ⟨ρ, .lst true xs :: ts, .ref D :: vs, x, S2, (Aft.bind q).mono fun _ ρ1 q1 σ1 H1 S3 => ⟨ρ1, ts, vs, .lst true xs, S3, q1⟩⟩
        · exact q.elim
    | _ => exact q.elim
end
end VS
/-! FW19: the law's end, for promises that know of no repr under way. -/
namespace VS
open PySem L2 PyProof.Rows

/-- the script's own object -/
def scObj (vs : List Value) : Obj := { cls := .type "list", data := .seq vs.toArray }
/-- nothing is tracked but the script (unless the module holds it) -/
def scH (K : PySem.W.Frag) (a : Addr) (vs : List Value) (ns : List Int) : Hp := fun b => if b = a ∧ K.lookup a = none then some (.frz (scObj vs) (.lst (ns.map V.int))) else none
theorem scH_some {K : PySem.W.Frag} {a b : Addr} {vs : List Value} {ns : List Int} {o : HO} (e : scH K a vs ns b = some o) : b = a ∧ K.lookup a = none ∧ o = .frz (scObj vs) (.lst (ns.map V.int)) := by
  unfold scH at e
  split at e
  · rename_i c
    exact ⟨c.1, c.2, (Option.some.inj e).symm⟩
  · cases e
theorem law_callG {P : Program} {w : World} {K : PySem.W.Frag} {mg mb : Str → Option Value} {CX : CXT} {k : Nat} {fa a : Addr} {fd : FuncData} {x : Str} {sp : Sp} {s : Shared} {vs : List Value} {ns : List Int}
    (kin : K.In s.heap) (gl : s.heap.Ns mainGlobals mg) (bl : s.heap.Ns builtinsNs mb) (boot : ∀ y : Str, y ≠ "__name__" → mb y = bootBuiltins y) (free : s.heap.NoLimit) (nogen : s.gens = #[])
    (at0 : s.heap.get? a = some (scObj vs)) (hints0 : PyProof.Rows.IntsAre vs ns) (len : ns.length ≤ sizeLine) (room : RoomG k callerA)
    (fn : ∀ base : Heap, K.In base → base.Ns mainGlobals mg → FnG P w K mg base CX k fa fd [x] sp) (bi : ∀ (s : Shared) (u : Value), BindsTo s fd ⟨[u], []⟩ [(x, u)])
    (prom : ∀ H : Hp, SqL K H a (ns.map V.int) → sp [.ref a] H (fun v _ => v = .bl true) fun _ _ _ => False) (nox : ∀ H e s', CX [] H s (fun _ _ _ => False) e s' → False) :
    codeAny (model P w) callerA (.call (.ref fa) ⟨[.ref a], []⟩) (fun r s' => r = .ok (.ret (.bool true)) ∧ OldK s.heap s'.heap ∧ s'.os = s.os ∧ AllBare s'.gens) s := by
  have rel := vals_ints hints0
  obtain ⟨H, eH⟩ : ∃ H, H = scH K a vs ns := ⟨_, rfl⟩
  have tracked : ∀ {b o}, H b = some o → b = a ∧ K.lookup a = none ∧ o = .frz (scObj vs) (.lst (ns.map V.int)) := fun {b o} e => scH_some (eH ▸ e)
  have seen : ∀ {b u}, s.heap.get? b = some u → b ≠ a → H b = none := fun {b u} _ n => by
    cases q : H b with
    | none => rfl
    | some o => exact absurd (tracked q).1 n
  have seq : SqL K H a (ns.map V.int) := by
    cases q : K.lookup a with
    | none => exact .inl (.inr ⟨scObj vs, by rw [eH]; exact if_pos ⟨rfl, q⟩⟩)
    | some o =>
      have e := kin a o q
      rw [at0] at e
      cases e
      exact .inr ⟨_, vs.toArray, _, q, rfl, rfl, rfl, by rw [List.size_toArray, hints0.length]; exact len, by simpa using rel⟩
  have ok : HOk P w H s.heap := fun b o e => by
    obtain ⟨rfl, _, rfl⟩ := tracked e
    exact ⟨at0, by rw [List.length_map]; exact len, vs, _, rel, at0⟩
  have dictKeeps : ∀ {b m}, s.heap.Ns b m → (hidT s.heap H).Ns b m := fun {b m} ⟨o, es, ep, e, d, r⟩ => by
    refine ⟨o, es, ep, hidT_get e (seen e fun z => ?_), d, r⟩
    rw [z, at0] at e
    cases e
    exact nomatch (show Data.seq vs.toArray _ = Data.dict es ep from d)
  have kin2 : K.In (hidT s.heap H) := fun b o e => hidT_get (kin b o e) (by
    cases q : H b with
    | none => rfl
    | some u =>
      obtain ⟨rfl, z, _⟩ := tracked q
      rw [z] at e; cases e)
  obtain ⟨mc, lim, limb⟩ := free
  have md : Mod K mg (hidT s.heap H) := ⟨kin2, dictKeeps gl, ⟨mb, dictKeeps bl, boot⟩, ⟨mc, dictKeeps lim, limb⟩⟩
  have en : Env0 P w K mg (hidT s.heap H) callerA [] s H := ⟨rfl, md, fun b o e => of_hidT e, Nat.le_of_eq (hidT_size _ _), trivial, (fun b hb => nomatch (show b ∈ ([] : List Addr) from hb)), ok, .of_eq nogen⟩
  refine codeAny_mono ((fn _ kin2 (dictKeeps gl)).run callerA [] s H ⟨[.ref a], []⟩ [.ref a] [.ref a] _ _ room en (bi s _) (.cons rfl .nil) (prom H seq)) fun r s2 z => ?_
  match r, z with
  | .error e, z => exact (nox H e s2 z).elim
  | .ok .next, z => exact z.elim
  | .ok .brk, z => exact z.elim
  | .ok .cont, z => exact z.elim
  | .ok (.ret u), ⟨v, H2, os, bare, un, ok2, ru, q⟩ =>
    have ev : v = .bl true := q
    subst ev
    have eu : u = Value.bool true := ru
    subst eu
    refine ⟨rfl, OldK.of_keep fun b o e => ?_, os, bare⟩
    cases q : H b with
    | none => exact un.keep b o e q (by intro z; cases z) (by simp)
    | some u =>
      obtain ⟨rfl, _, rfl⟩ := tracked q
      have z1 := (ok b _ q).1
      rw [e] at z1; cases z1
      exact (ok2 b _ (un.frzs b _ _ q)).1
theorem fnG_mk {P : Program} {w : World} {K : PySem.W.Frag} {mg : Str → Option Value} {base : Heap} {x qual : Str} {st : Stmt} {f : Addr} {fd : FuncData} {N ps : List Str} {k n r : Nat} {sem : M Ctl} (F : Fun K x qual st f fd) (S : FnScope N ps (defScope st)) (hn : ps.length = n) (hr : N.length = n + r)
    (hb : Body P w K mg base k qual st N false sem) : FnG P w K mg base L2.CX0 (k + 1) f fd ps (sp0 K n (run0 sem r)) := by
  subst hn
  refine def0 (m := run0 sem r) F S (by omega) hb fun ts t l e => ?_
  rw [show N.length - ps.length = r by omega]
  unfold run0 at e
  split at e
  · rename_i t' ρ h
    cases e
    exact .inl ⟨_, h⟩
  · rename_i ρ h
    cases e
    exact .inr ⟨rfl, _, h⟩
  · cases e
/-- the goal that k_head leaves: from the law's promise -/
theorem walk_ofG {l : PySem.W.OpenLaw} {k : Nat} {q : Program} {loose : List Str} {XP : (Str → Option Value) → Heap → Prop} {YP : World → Heap → Prop} {d : DefRec} {K : Params → PySem.W.Frag} {x : Str} {m : List T → Option T}
    (hn : l.most = some 63) (hdf : d.params.defaults = []) (hr : RoomG k callerA) (hY : ∀ (w : World) (h : Heap), YP w h → (K w.params).In h)
    (F : ∀ (w : World) (mg : Str → Option Value) (fa : Addr) (h : Heap), (K w.params).In h → h.Ns mainGlobals mg → mg d.name = some (.ref fa) →
      ∃ fd : FuncData, (∀ (s : Shared) (u : Value), BindsTo s fd ⟨[u], []⟩ [(x, u)]) ∧ ∀ base : Heap, (K w.params).In base → base.Ns mainGlobals mg → FnG l.prog w (K w.params) mg base L2.CX0 k fa fd [x] (sp0 (K w.params) 1 m))
    (law : ∀ ns : List Int, ns.length ≤ 63 → (∀ z ∈ ns, Builtin.Int.intBits z ≤ 1048576) → m [.ro (ns.map fun n => .atom (.int n))] = some (.atom (.bl true))) :
    PySem.W.WalkO q loose XP YP l.row.toRowW d [] (fun f vs => PySem.call f vs) := by
  refine Att.attach_callB hn hdf fun w s0 s mg mb fa o pm cd doc a vs ns gr Y ho hd hcd hmg hobj hints hlen hbits hg => ?_
  have kin := hY w _ Y
  obtain ⟨fd, bi, fn⟩ := F w mg fa _ kin gr.T.g hmg
  refine law_callG kin gr.T.g gr.T.b gr.T.builtins gr.T.nolimit hg hobj hints (Nat.le_trans hlen (by decide)) hr fn bi (fun H hS => ?_) fun _ _ _ z => z
  refine ⟨⟨H, fun _ => none, H, []⟩, [.ro (ns.map fun n => .atom (.int n))], [], [], .atom (.bl true), ⟨H, fun _ => none, ?_, fun _ => .inr rfl, Sub.refl, (fun _ _ e => nomatch e), Sub.refl, (fun _ _ e _ => e), fun b z => z.elim .inl fun z => absurd rfl z⟩, rfl, rfl, law ns hlen hbits, fun v H2 o2 => o2.atom_eq⟩
  have atoms : ∀ ms : List Int, Owns (K w.params) H (ms.map fun n => T.atom (.int n)) (ms.map V.int) (fun _ => none) := fun ms => by
    induction ms with
    | nil => simp only [List.map_nil, Owns]; exact fun _ => rfl
    | cons n ms ih =>
      simp only [List.map_cons, Owns, Own]
      exact ⟨_, _, jn_emp fun _ => rfl, ⟨trivial, fun _ => rfl⟩, ih⟩
  simp only [List.append_nil, Owns, Own]
  exact ⟨_, _, jn_emp' fun _ => rfl, ⟨a, _, rfl, hS, atoms ns⟩, fun _ => rfl⟩
end VS
/-! FW20: repr, sorted, index, texts walked, a lent argument. -/
namespace VS
open PySem L2

/-! ### repr -/
open Classical in
noncomputable def reprT (t : T) : Option T := match t with
  | .atom (.int i) => if i.natAbs.log2 < 1920 then some (.atom (.str (toString i))) else none
  | .atom _ => none
  | t => match t.dat with
    | some d => if d.showable = true ∧ d.hasDict = false ∧ d.depth ≤ 60 ∧ d.shown.length ≤ sizeLine then some (.atom (.str d.shown)) else none
    | none => none
def rRepr (K : PySem.W.Frag) : List V → Hp → VK → Prop := fun xs H Q => (∃ i, xs = [.int i] ∧ i.natAbs.log2 < 1920 ∧ Q (.str (toString i)) H) ∨
  (∃ a d, xs = [.ref a] ∧ Dp K H (.ref a) d ∧ d.showable = true ∧ d.hasDict = false ∧ d.depth ≤ 60 ∧ d.shown.length ≤ sizeLine ∧ Q (.str d.shown) H)
section
variable {X : Cx} {g : G}
theorem cr_repr {k : Nat} (hr : RoomG k X.A) : CallR X (.builtin "repr") (rRepr X.K) := by
  refine CallR.or SkE.call_repr_int ?_
  intro pins s σ H xs us Q I r h
  obtain ⟨a, d, rfl, hd, h1, h2, h3, h4, q⟩ := h
  obtain ⟨u, rfl, ru⟩ := vals1 r
  obtain ⟨as, rd⟩ := Dp.reads I d _ u hd ru
  have eu : u = Value.ref a := ru
  subst eu
  refine repr_of_reads' rd h1 (fun z => by rw [h2] at z; cases z) hr.gu (by have := hr.un; omega) (fun _ _ e => e) (fun h' u tk kp => ?_) h4
  exact ⟨.str d.shown, H, I.kept kp, ⟨u, rfl⟩, q⟩
theorem rcb_repr : RCb X.K g reprT (rRepr X.K) := by
  intro H t x u ts vs Q e o q
  unfold reprT at e
  split at e
  · rename_i i
    split at e
    · rename_i hi
      cases e
      exact .inl ⟨i, by rw [o.atom_eq], hi, q _ H o.atom_push⟩
    · cases e
  · cases e
  · rename_i n1 n2
    split at e
    · rename_i d ed
      split at e
      · rename_i hc
        cases e
        have dp := o.dp ed
        obtain ⟨a, ea⟩ : ∃ a, x = .ref a := by
          cases t with
          | hole => simp [T.dat] at ed
          | atom v => exact absurd rfl (n2 v)
          | tup zs => obtain ⟨a, _, e, _⟩ := Ok.tup_at o; exact ⟨a, e⟩
          | lst b zs => obtain ⟨a, _, e, _⟩ := Ok.lst_at o; exact ⟨a, e⟩
          | ro zs => obtain ⟨a, _, e, _⟩ := Ok.ro_at o; exact ⟨a, e⟩
          | dct b ks zs => simp [T.dat] at ed
          | obj C fs zs => simp [T.dat] at ed
        subst ea
        exact .inr ⟨a, d, rfl, dp, hc.1, hc.2.1, hc.2.2.1, hc.2.2.2, q _ H o.atom_push⟩
      · cases e
    · cases e
end

/-! ### sorted -/
def T.datD (t : T) : PyData := t.dat.getD .none
def SortOk (xs : List T) : Prop := T.imms xs = true ∧ (∀ t ∈ xs, t.dat.isSome = true ∧ t.datD.depth ≤ 100) ∧ PySem.W.AllAlike (xs.map T.datD) ∧ PySem.W.Sortable (xs.map T.datD) ∧ xs.length ≤ 1000000
open Classical in
noncomputable def sortT (t : T) : Option T := match t with
  | .lst _ xs => if SortOk xs then some (.lst true (xs.mergeSort (PySem.W.dataLe false T.datD))) else none
  | _ => none
def rSortD (K : PySem.W.Frag) : List V → Hp → VK → Prop := fun vs H Q => ∃ (bs : List (T × V)) (a : Addr), vs = [.ref a] ∧ SqL K H a (bs.map (·.2)) ∧ (∀ b ∈ bs, Dp K H b.2 b.1.datD) ∧ PySem.W.AllAlike (bs.map fun b => b.1.datD) ∧
  PySem.W.Sortable (bs.map fun b => b.1.datD) ∧ bs.length ≤ 1000000 ∧ (∀ b ∈ bs, b.1.datD.depth ≤ 100) ∧ ∀ p, H p = none → Q (.ref p) (upd H p (.lst ((bs.mergeSort (PySem.W.dataLe false fun b => b.1.datD)).map (·.2))))
theorem each_vals {β : Type} {f : β → V} : ∀ {bs : List β} {us : List Value}, Vals (bs.map f) us → PySem.W.EachIs (fun u b => RelV (f b) u) us bs
  | [], _, h => by cases h; exact .nil
  | b :: bs, _, h => by
    cases h with
    | cons r t => exact .cons r (each_vals t)
theorem vals_each {β : Type} {f : β → V} : ∀ {bs : List β} {us : List Value}, PySem.W.EachIs (fun u b => RelV (f b) u) us bs → Vals (bs.map f) us
  | _, _, .nil => .nil
  | _, _, .cons r t => .cons r (vals_each t)
theorem each_reads {X : Cx} {pins : List (Addr × Obj)} {σ : L2.St} {H : Hp} {s : Shared} (I : L2.Inv X pins σ H s) {β : Type} {f : β → V} {d : β → PyData} : ∀ {bs : List β} {us : List Value}, PySem.W.EachIs (fun u b => RelV (f b) u) us bs → (∀ b ∈ bs, Dp X.K H (f b) (d b)) → PySem.W.EachIs (fun u b => ∃ as, Reads s.heap u (d b) as) us bs
  | _, _, .nil, _ => .nil
  | _, _, .cons r t, h => .cons (Dp.reads I _ _ _ (h _ List.mem_cons_self) r) (each_reads I t fun b hb => h b (List.mem_cons_of_mem _ hb))
theorem zip_fst {α β : Type} : ∀ {xs : List α} {us : List β}, xs.length = us.length → (xs.zip us).map (·.1) = xs
  | [], [], _ => rfl
  | x :: xs, u :: us, l => by simp [zip_fst (by simpa using l)]
theorem zip_snd {α β : Type} : ∀ {xs : List α} {us : List β}, xs.length = us.length → (xs.zip us).map (·.2) = us
  | [], [], _ => rfl
  | x :: xs, u :: us, l => by simp [zip_snd (by simpa using l)]
section
variable {X : Cx} {g : G}
theorem cr_sortD {k : Nat} (hr : RoomG k X.A) : CallR X (.builtin "sorted") (rSortD X.K) := by
  intro pins s σ H vs us Q I r h
  obtain ⟨bs, a, rfl, hs, hd, hal, hso, hl, hde, q⟩ := h
  obtain ⟨u, rfl, ru⟩ := vals1 r
  have eu : u = Value.ref a := ru
  subst eu
  obtain ⟨its, rv, p, hz⟩ := I.list hs
  have ea := each_vals rv
  have un := hr.un
  refine PySem.W.sorted_data (bs := bs) (enc := fun b => b.1.datD) p.isList ea (each_reads I ea hd) hal hso (mil hl) (fun b hb => ?_) fun out lo eo => ?_
  · have := hde b hb
    omega
  · obtain ⟨n, at1⟩ := PyProof.Rows.sortedAll_at s.heap its out.toArray
    have fr : H (s.heap.objs.size + 1) = none := I.hok.fresh (Nat.le_succ _)
    refine ⟨.ref (s.heap.objs.size + 1), _, I.laid (t' := s.toks) (a := s.heap.objs.size + 1) (o := .lst ((bs.mergeSort (PySem.W.dataLe false fun b => b.1.datD)).map (·.2))) (fun b o e => PyProof.Rows.sortedAll_old e) (Nat.le_succ _) ?_, rfl, q _ fr⟩
    refine ⟨?_, out, n, vals_each eo, at1⟩
    rw [List.length_map, List.length_mergeSort]
    exact mil hl
theorem dats_mem {xs : List T} (h : ∀ t ∈ xs, t.dat.isSome = true) {K : PySem.W.Frag} {H : Hp} : ∀ {ys : List T} {us : List V} {ts : List T} {vs : List V}, Ok K g H (ys ++ ts) (us ++ vs) → ys.length = us.length → (∀ t ∈ ys, t ∈ xs) → ∀ b ∈ ys.zip us, Dp K H b.2 b.1.datD
  | [], _, _, _, _, _, _, b, hb => by simp at hb
  | y :: ys, u :: us, ts, vs, o, l, m, b, hb => by
    rw [List.zip_cons_cons, List.mem_cons] at hb
    rcases hb with rfl | hb
    · have := h y (m y List.mem_cons_self)
      obtain ⟨d, e⟩ := Option.isSome_iff_exists.mp this
      have e2 : y.datD = d := by simp [T.datD, e]
      rw [e2]
      exact Ok.dp o e
    · exact dats_mem h (Ok.drop o) (by simpa using l) (fun t ht => m t (List.mem_cons_of_mem _ ht)) b hb
theorem rcb_sorted : RCb X.K g sortT (rSortD X.K) := by
  intro H t x u ts vs Q e o q
  unfold sortT at e
  split at e
  · rename_i b xs
    split at e
    · rename_i hc
      cases e
      obtain ⟨im, hd, hal, hso, hl⟩ := hc
      obtain ⟨a, us, rfl, l, h, f⟩ := Ok.lst_ats o
      have o0 := f im xs us l (picks_all l)
      have m1 : (xs.zip us).map (fun b => b.1.datD) = xs.map T.datD := by
        have := congrArg (List.map T.datD) (zip_fst l)
        rw [List.map_map] at this
        exact this
      refine ⟨xs.zip us, a, rfl, by rw [zip_snd l]; exact .inl (.inl h), dats_mem (fun t ht => (hd t ht).1) o0 l (fun _ h => h), by rw [m1]; exact hal, by rw [m1]; exact hso, by rw [List.length_zip, ← l, Nat.min_self]; exact hl, fun b hb => (hd _ (List.of_mem_zip hb).1).2, fun p hp => q _ _ ?_⟩
      have e1 : ((xs.zip us).mergeSort (PySem.W.dataLe false fun b => b.1.datD)).map (·.1) = xs.mergeSort (PySem.W.dataLe false T.datD) := by
        exact (List.map_mergeSort (f := fun (b : T × V) => b.1) (r := PySem.W.dataLe false fun b => b.1.datD) (s := PySem.W.dataLe false T.datD) (l := xs.zip us) (fun a _ b _ => rfl)).trans (congrArg (fun l => List.mergeSort l (PySem.W.dataLe false T.datD)) (zip_fst l))
      have pm := List.mergeSort_perm (xs.zip us) (PySem.W.dataLe false fun b => b.1.datD)
      refine Ok.new_lst (f im _ _ ?_ ?_) ?_ hp
      · rw [← e1, List.length_map, List.length_map]
      · intro i y w e2 e3
        rw [← e1, List.getElem?_map] at e2
        rw [List.getElem?_map] at e3
        obtain ⟨b1, e4, rfl⟩ := Option.map_eq_some_iff.mp e2
        rw [e4] at e3
        cases e3
        have mem : b1 ∈ xs.zip us := pm.mem_iff.mp (List.mem_of_getElem? e4)
        obtain ⟨j, hj⟩ := List.mem_iff_getElem?.mp mem
        obtain ⟨h1, h2⟩ := List.getElem?_zip_eq_some.mp hj
        exact ⟨j, h1, h2⟩
      · rw [← e1, List.length_map, List.length_map]
    · cases e
  · cases e
end

/-! ### a method that only reads, of the list at a slot -/
def lsr (i : Nat) : M Unit := fun ρ => match ρ[i]? with
  | some t => if (tyN t == some "list") = true then .ok () ρ else .no
  | none => .no
def mrd (i : Nat) (f : T → List T → Option T) (e : M (List T)) : M T := M.bind (lsr i) fun _ => M.bind e fun as => pk i fun t => f t as
def RMr (K : PySem.W.Frag) (g : G) (f : T → List T → Option T) (r : V → List V → Hp → VK → Prop) : Prop :=
  ∀ H t as v ys u ts vs Q, f t as = some u → as.length = ys.length → Ok K g H (t :: (as ++ ts)) (v :: (ys ++ vs)) → (∀ z H', Ok K g H' (u :: t :: ts) (z :: v :: vs) → Q z H') → r v ys H Q
def idxL (d : PyData) : Nat → List PyData → Option Nat
  | _, [] => none
  | n, z :: ds => if PyData.eqv z d = true then some n else idxL d (n + 1) ds
def idxF (t : T) (as : List T) : Option T := match as with
  | [x] => (match t.dat, x.dat with
    | some (.list ds), some d => if SeqAt.shaped d = true ∧ SeqAt.shaped (.list ds) = true then (idxL d 0 ds).map fun j => .atom (.int (j : Nat)) else none
    | _, _ => none)
  | _ => none
theorem idxL_spec {d : PyData} : ∀ {ds : List PyData} {n j : Nat}, idxL d n ds = some j → ∃ i z, j = n + i ∧ ds[i]? = some z ∧ PyData.eqv z d = true ∧ ∀ (m : Nat) (z' : PyData), m < i → ds[m]? = some z' → PyData.eqv z' d = false
  | [], _, _, h => by simp [idxL] at h
  | z :: ds, n, j, h => by
    unfold idxL at h
    split at h
    · rename_i e
      cases h
      exact ⟨0, z, rfl, rfl, e, fun m _ hm => absurd hm (by omega)⟩
    · rename_i ne
      obtain ⟨i, y, e1, e2, e3, e4⟩ := idxL_spec h
      refine ⟨i + 1, y, by omega, by simpa using e2, e3, fun m z' hm e => ?_⟩
      cases m with
      | zero =>
        simp at e
        subst e
        simpa using ne
      | succ m => exact e4 m z' (by omega) (by simpa using e)
section
variable {X : Cx} {g : G}
theorem tyV_list {H : Hp} {t : T} {v : V} {ts : List T} {vs : List V} (e : (tyN t == some "list") = true) (o : Ok X.K g H (t :: ts) (v :: vs)) : tyV X.K "list" v H := by
  have e' : tyN t = some "list" := by simpa using e
  cases t with
  | lst b xs => obtain ⟨a, us, rfl, _, h, _⟩ := o.lst_open; exact .inl ⟨rfl, us, .inl (.inl h)⟩
  | ro xs => obtain ⟨a, us, rfl, _, h, _⟩ := o.ro_open; exact .inl ⟨rfl, us, h⟩
  | hole => simp [tyN] at e'
  | atom v => cases v <;> simp [tyN] at e'
  | tup xs => simp [tyN] at e'
  | dct b ks xs => simp [tyN] at e'
  | obj C fs xs => simp [tyN] at e'
theorem lsr_ok {σ : L2.St} {H : Hp} {ρ : Env} {ts : List T} {vs : List V} {β : Type} {f : Unit → M β} {i : Nat} {P : β → Env → Prop} (S : Sg X.K g σ H ρ ts vs) (h : Aft (M.bind (lsr i) f ρ) P) : ∃ v, σ[i]? = some (some v) ∧ tyV X.K "list" v H ∧ Aft (f () ρ) P := by
  have q := Aft.bind h
  unfold lsr at q
  split at q
  · rename_i t e
    split at q
    · rename_i hl
      have nh : t.isHole = false := by cases t <;> first | rfl | simp [tyN] at hl
      obtain ⟨v, hv, S1⟩ := S.take e nh
      exact ⟨_, hv, tyV_list hl (by simpa using S1.flip), q⟩
    · exact q.elim
  · exact q.elim
theorem ve_mrd {o e : Expr} {es : List Expr} {i : Nat} {name : Str} {apos cpos : Pos} {id : String} {r : V → List V → Hp → VK → Prop} {f : T → List T → Option T} {m : M (List T)} (hm : MtR X id r) (hr : RMr X.K g f r)
    (h : PE X (.Call (.Attribute o name apos) (e :: es) [] cpos) (tBM X.K "list" r (tVar i) (tAr X.K g m))) : PE X (.Call (.Attribute o name apos) (e :: es) [] cpos) (tV X.K g (mrd i f m)) := PE.weak h fun σ H Q ⟨ρ, ts, vs, S, q⟩ => by
  obtain ⟨v, hv, ty, q⟩ := lsr_ok S q
  refine ⟨v, hv, ty, goA S q fun as ρ1 ys H1 l S1 q1 => ?_⟩
  obtain ⟨v', t, u, hv', e, p, S2, fb⟩ := pk_ok S1 q1
  rw [hv] at hv'; cases hv'
  refine hr H1 t as v ys u (ts ++ ρ1.set i .hole) (vs ++ sl σ) Q e l (by simpa using S2.flip) fun z H' o' => p z H' (fb ?_)
  exact S2.re (by simpa using o'.swap)
theorem rmr_idx : RMr X.K g idxF (rIndexD X.K) := by
  intro H t as v ys u ts vs Q e l o q
  unfold idxF at e
  split at e
  · rename_i x
    split at e
    · rename_i ds d e1 e2
      split at e
      · rename_i hc
        obtain ⟨j, e3, rfl⟩ := Option.map_eq_some_iff.mp e
        match ys, l with
        | [y], _ =>
          obtain ⟨i, z, e4, e5, e6, e7⟩ := idxL_spec e3
          have dl := o.dp e1
          have dx := Ok.dp o.drop e2
          obtain ⟨a, ea⟩ : ∃ a, v = .ref a := by cases dl with | lst _ _ => exact ⟨_, rfl⟩
          subst ea
          have : j = i := by omega
          subst this
          exact ⟨a, y, d, ds, j, z, rfl, rfl, dl, dx, hc.2, hc.1, e5, e6, e7, q _ H (Ok.atom_push (o.ent (Ent.cons Ent.drop)))⟩
      · cases e
    · cases e
  · cases e

/-! ### the signs of a text -/
def sgns (x : Str) : List T := x.cps.toList.map fun c => .atom (.str ⟨#[c]⟩)
def iterS (m : M T) : M (List T) := M.bind m fun t => match t with
  | .atom (.str x) => M.pure (sgns x)
  | _ => M.no
theorem walks_str {x : Str} : Walks X.K g (Its x) (sgns x) [] [] := by
  refine ⟨fun _ => True, fun i H v H' => (Its x).yld i H v H', ⟨fun i H hi _ => ?_, fun H _ => ?_, fun _ _ _ _ _ _ y => y⟩, fun _ _ _ _ => trivial, fun i t ht H v H' rs ws o y => ?_⟩
  · simpa [sgns, Its] using hi
  · simp [sgns, Its]
  · obtain ⟨e1, c, e2, e3⟩ := y
    subst e1 e3
    unfold sgns at ht
    rw [List.getElem?_map, Option.map_eq_some_iff] at ht
    obtain ⟨c', e4, rfl⟩ := ht
    have : c' = c := by
      rw [Array.getElem?_toList] at e4
      rw [e2] at e4
      exact (Option.some.inj e4).symm
    subst this
    exact o.atom_push
theorem vi_str {tg e : Expr} {m : M T} (h : PE X e (tV X.K g m)) : PI X tg e (tIt X.K g (iterS m)) :=
  PI.weak (pi_str h) fun σ H R ⟨ρ, ts, vs, S, q⟩ => go S q fun t ρ1 v H1 S1 q1 => by
    split at q1
    · rename_i x
      have ev : v = .str x := Ok.atom_eq (by simpa using S1.flip)
      exact ⟨x, ev, q1 _ [] [] H1 rfl (S1.tmp fun rs ws o => by simpa using o.drop) walks_str⟩
    · exact q1.elim
end

/-! ### a call that looks at one's own things and hands back a plain value -/
def T.plain : T → Bool
  | .atom _ => true
  | _ => false
def lent (m : List T → Option T) (t : T) : Option T := if (t.cold && t.frz.imm) = true then (m [t.frz]).filter T.plain else none
section
variable {X : Cx} {g : G} {k j : Nat} {x : Str} {p pos : Pos} {e : Expr}
theorem Ok.grow {K : PySem.W.Frag} {H H' : Hp} {ts : List T} {vs : List V} (o : Ok K g H ts vs) (s : Sub H H') : Ok K g H' ts vs := by
  obtain ⟨I, h, o⟩ := o
  exact ⟨I, h, o.own, o.dis, o.si.trans s, o.sh.trans s, o.ge, fun b u e n => s _ _ (o.keep b u e n), o.dom⟩
theorem Ok.lend {K : PySem.W.Frag} {H : Hp} {t : T} {v : V} {ts : List T} {vs : List V} (o : Ok K g H (t :: ts) (v :: vs)) (c : t.cold = true) : ∃ g', Ok K g' H [t.frz] [v] ∧ ∀ {H' ts' vs'}, Ok K g' H' ts' vs' → Sub H H' := by
  obtain ⟨I, h, o⟩ := o
  have q := o.own
  simp only [Owns] at q
  obtain ⟨h1, h2, jj, q1, q2⟩ := q
  have d1 : Dis I h1 := fun y => (o.dis y).imp id fun z => (jj.none.mp z).1
  have J := jn_un d1
  obtain ⟨h', e', q'⟩ := own_frz J.l c q1 J.r
  refine ⟨⟨un I h1, fun _ => none, H, []⟩, ⟨un I h1, h', ?_, fun y => .inr (e' y), fun y u e => ?_, (fun y u e => absurd e (by rw [e' y]; simp)), Sub.refl, (fun b u e _ => e), fun b z => z.elim .inl fun z => absurd (e' b) z⟩, fun {H' ts' vs'} o2 y u e => ?_⟩
  · simp only [Owns]
    exact ⟨h', fun _ => none, jn_emp' fun _ => rfl, q', fun _ => rfl⟩
  · rcases J y with ⟨_, z⟩ | ⟨_, z⟩
    · exact o.sh _ _ (jj.l _ _ (z ▸ e))
    · exact o.si _ _ (z ▸ e)
  · obtain ⟨I2, hh, o2⟩ := o2
    exact o2.keep y u e rfl
theorem ve_lend {m : List T → Option T} {i : Nat} (c : Fn0 X.prog X.w X.K X.mg X.base k x 1 m) (hr : RoomG j X.A) (hk : k ≤ j) (hg : Gl X x) (ha : PE X e (tVar i))
    (hdb : (x == ("__debug__" : Str)) = false := by decide) (he : starEach [e] X.env = (false, eval e X.env) :: starEach [] X.env := by rfl) (hpl : (backTo pos (starEach [] X.env)).any (·.1) = false := by rfl) :
    PE X (.Call (.Name x p) [e] [] pos) (tV X.K g (pk i (lent m))) := by
  obtain ⟨f, fd, ps, F, hm, kp, b⟩ := c.ex
  refine PE.weak (pe_callG F (hr.mono hk) hg hm kp b .nil pass0 (pa_cons ha pa_nil he) hdb he hpl) fun σ H Q ⟨ρ, ts, vs, S, q⟩ => ?_
  obtain ⟨v, t, u, hv, e, pp, S2, fb⟩ := pk_ok S q
  refine ⟨v, hv, ?_⟩
  unfold lent at e
  split at e
  · rename_i hc
    simp only [Bool.and_eq_true] at hc
    obtain ⟨e1, pl⟩ := Option.filter_eq_some_iff.mp e
    have o0 : Ok X.K g H (t :: (ts ++ ρ.set i .hole)) (v :: (vs ++ sl σ)) := by simpa using S2.flip
    obtain ⟨g', o1, back⟩ := o0.lend hc.1
    show sp0 X.K 1 m ([v] ++ []) H Q E0
    rw [List.append_nil]
    refine ⟨g', [t.frz], [], [], u, by simpa using o1, rfl, rfl, e1, fun w H' o' => ?_⟩
    have s := back o'
    cases u with
    | atom a =>
      have ew : w = a := o'.atom_eq
      subst ew
      refine pp w H' (fb ?_)
      exact S2.re (by simpa using (Ok.atom_push (w := w) (o0.grow s)).swap)
    | _ => simp [T.plain] at pl
  · cases e
end
end VS
/-! FW21: what is walked, whatever it is; a tuple of one's own things walked; the module's constants. -/
namespace VS
open PySem L2

section
variable {X : Cx} {g : G}
theorem PI.or {tg e : Expr} {t t' : TI} (h : PI X tg e t) (h' : PI X tg e t') : PI X tg e (fun σ H R => t σ H R ∨ t' σ H R) := ⟨fun pins s σ H R I q => q.elim (h.run pins s σ H R I) (h'.run pins s σ H R I)⟩
def itA : T → Option (List T)
  | .lst b xs => itL (.lst b xs)
  | .tup xs => itT (.tup xs)
  | .atom (.str x) => some (sgns x)
  | _ => none
def iterA (m : M T) : M (List T) := M.bind m fun t => M.lift (itA t)
theorem vi_any {tg e : Expr} {m : M T} (h : PE X e (tV X.K g m)) : PI X tg e (tIt X.K g (iterA m)) :=
  PI.weak (PI.or (vi_list (g := g) h) (PI.or (vi_tup (g := g) h) (vi_str (g := g) h))) fun σ H R ⟨ρ, ts, vs, S, q⟩ => by
    have q0 := Aft.bind q
    cases e1 : m ρ with
    | no => rw [e1] at q0; exact q0.elim
    | ex n fs ρ' => rw [e1] at q0; exact q0.elim
    | ok t ρ1 =>
      rw [e1] at q0
      obtain ⟨xs, e2, q1⟩ := Aft.lift q0
      cases t with
      | lst b zs =>
        refine .inl ⟨ρ, ts, vs, S, ?_⟩
        show Aft (M.bind m (fun t => M.lift (itL t)) ρ) _
        rw [bind_ok e1]
        have e3 : itL (.lst b zs) = some xs := e2
        simp only [M.lift, e3]
        exact q1
      | tup zs =>
        refine .inr (.inl ⟨ρ, ts, vs, S, ?_⟩)
        show Aft (M.bind m (fun t => M.lift (itT t)) ρ) _
        rw [bind_ok e1]
        have e3 : itT (.tup zs) = some xs := e2
        simp only [M.lift, e3]
        exact q1
      | atom v =>
        cases v with
        | str x =>
          refine .inr (.inr ⟨ρ, ts, vs, S, ?_⟩)
          show Aft (M.bind m _ ρ) _
          rw [bind_ok e1]
          have e3 : some (sgns x) = some xs := e2
          cases e3
          exact q1
        | _ => cases e2
      | _ => cases e2

/-! ### a tuple of one's own things, each taken out in its turn -/
theorem Ok.tup_out {K : PySem.W.Frag} {H : Hp} {xs ts : List T} {v : V} {vs : List V} (o : Ok K g H (.tup xs :: ts) (v :: vs)) : ∃ a us, v = .ref a ∧ xs.length = us.length ∧ SqT K H a us ∧
    ∀ (j : Nat) x w, xs[j]? = some x → us[j]? = some w → Ok K g H (x :: .tup (xs.set j .hole) :: ts) (w :: v :: vs) := by
  obtain ⟨I, h, o⟩ := o
  have q := o.own
  simp only [Owns, Own] at q
  obtain ⟨h1, h2, j, ⟨a, us, e, z, y⟩, q2⟩ := q
  refine ⟨a, us, e, owns_len y, sqT_mono o.si z, fun jj x w ex ew => ?_⟩
  obtain ⟨h4, h5, j2, ox, oy⟩ := owns_out y ex ew
  obtain ⟨h6, j4, j5⟩ := j2.assoc j
  refine ⟨I, h, ?_, o.dis, o.si, o.sh, o.ge, o.keep, o.dom⟩
  simp only [Owns, Own]
  exact ⟨h4, h6, j5, ox, h5, h2, j4, ⟨a, us, e, z, oy⟩, q2⟩
/-- behind i turns -/
def gone : Nat → List T → List T
  | 0, xs => xs
  | i + 1, xs => (gone i xs).set i .hole
theorem gone_len : ∀ {i : Nat} {xs : List T}, (gone i xs).length = xs.length
  | 0, _ => rfl
  | i + 1, xs => by simp [gone, gone_len (i := i)]
theorem gone_at : ∀ {i j : Nat} {xs : List T}, i ≤ j → (gone i xs)[j]? = xs[j]?
  | 0, _, _, _ => rfl
  | i + 1, j, xs, h => by
    simp only [gone]
    rw [List.getElem?_set_ne (by omega)]
    exact gone_at (by omega)
def tupS : T → Option (List T)
  | .tup xs => some xs
  | _ => none
def forO (m : M T) (a : T → M Unit) (b : M Ctl) : M Ctl := M.bind m fun t => M.bind (M.lift (tupS t)) fun xs => loopM xs fun x => M.bind (a x) fun _ => b
theorem vs_forO {tg iter : Expr} {body : List Stmt} {pos : Pos} {m : M T} {a : T → M Unit} {b : M Ctl} (hp : PassesOwn (model X.prog X.w) X.A X.env X.xe) (hc : X.calm = true) (hi : PE X iter (tV X.K g m)) (hg : PG X tg (tTg X.K g a)) (hb : PSs X body (tSt X.K g b))
    (hs : ∀ x, foldedSetIterable iter X.env x = pure x := by intro _; rfl) : PS X (.For tg iter body [] pos) (tSt X.K g (forO m a b)) :=
  PS.weak (ps_for hp hc (pi_tup hi) hg hb hs) fun D σ H ⟨ρ, ts, vs, S, q⟩ => go S q fun t0 ρ1 v0 H1 S1 q1 => by
    have q1 := Aft.bind q1
    obtain ⟨xs, e0, q1⟩ := Aft.lift q1
    obtain ⟨zs, rfl⟩ : ∃ zs, t0 = .tup zs := by cases t0 <;> first | exact ⟨_, rfl⟩ | cases e0
    have : zs = xs := Option.some.inj e0
    subst this
    obtain ⟨A, us, rfl, l, hA, _⟩ := Ok.tup_out (by simpa using S1.flip)
    refine ⟨A, rfl, ⟨us, hA⟩, ?_⟩
    have w : Walk (Itt X.K A) zs.length (fun H => ∃ us, SqT X.K H A us ∧ us.length = zs.length) fun i H x H' => (Itt X.K A).yld i H x H' := ⟨fun i H hi ⟨us, q, l⟩ => ⟨us, us[i]'(by omega), q, by simp [l, hi]⟩, fun H ⟨us, q, l⟩ => ⟨us, q, by omega⟩, fun _ _ _ _ _ _ y => y⟩
    have dropT : ∀ {i : Nat} {ρ2 : Env} {σ : L2.St} {H : Hp}, Sg X.K g σ H ρ2 (.tup (gone i zs) :: ts) (.ref A :: vs) → Sg X.K g σ H ρ2 ts vs := fun s => s.tmp fun rs ws o => o.drop
    refine for_it w (fun i σ H => ∃ ρ, Sg X.K g σ H ρ (.tup (gone i zs) :: ts) (.ref A :: vs) ∧ Aft (loopM (zs.drop i) (fun x => M.bind (a x) fun _ => b) ρ) (CtlOk X.K g D ts vs)) ⟨ρ1, S1, by simpa using q1⟩ (fun i σ H _ ⟨ρ, S, _⟩ => ?_) (fun i x σ H H' hi ⟨ρ, S, q⟩ y => ?_) fun σ H ⟨ρ, S, q⟩ => ?_
    · obtain ⟨A', us, e, l, h, _⟩ := Ok.tup_out (by simpa using S.flip)
      cases e
      exact ⟨us, h, by rw [← l, gone_len]⟩
    · have hx : zs[i]? = some zs[i] := by simp [hi]
      generalize zs[i] = t at hx
      have hd : zs.drop i = t :: zs.drop (i + 1) := by
        obtain ⟨h1, h2⟩ := List.getElem?_eq_some_iff.mp hx
        rw [List.drop_eq_getElem_cons h1, h2]
      have S2 : Sg X.K g σ H' ρ (t :: .tup (gone (i + 1) zs) :: ts) (x :: .ref A :: vs) := by
        obtain ⟨A', us, e, l, h, f⟩ := Ok.tup_out (by simpa using S.flip)
        cases e
        obtain ⟨e1, y⟩ := y
        subst e1
        have o3 := f i t x (by rw [gone_at (Nat.le_refl _)]; exact hx) (y us h)
        exact S.re (ts' := t :: .tup (gone (i + 1) zs) :: ts) (vs' := x :: .ref A :: vs) o3
      rw [hd] at q
      refine ⟨ρ, .tup (gone (i + 1) zs) :: ts, .ref A :: vs, t, S2, ?_⟩
      unfold loopM at q
      generalize er : a t ρ = r
      cases r with
      | no => simp [M.bind, er, Aft] at q
      | ex n fs ρ' => simp [M.bind, er, Aft] at q
      | ok u ρ' =>
        intro σ' H'' S'
        refine ⟨ρ', .tup (gone (i + 1) zs) :: ts, .ref A :: vs, S', ?_⟩
        simp only [M.bind, er] at q
        cases eb : b ρ' with
        | no => rw [eb] at q; exact q.elim
        | ex n fs ρ' => rw [eb] at q; exact q.elim
        | ok c ρ2 =>
          rw [eb] at q
          cases c with
          | nx => exact fun σ3 H3 S3 => ⟨ρ2, S3, q⟩
          | ct => exact fun σ3 H3 S3 => ⟨ρ2, S3, q⟩
          | bk => exact fun σ3 H3 S3 => q σ3 H3 (dropT S3)
          | rt t => exact fun v σ3 H3 S3 => q v σ3 H3 (S3.tmp fun rs ws o => o.ent (Ent.cons Ent.drop))
    · rw [List.drop_length] at q
      exact q σ H (dropT S)

/-! ### the module's constants -/
theorem ve_gi {x : Str} {pos : Pos} {i : Int} {u : Value} (hg : Gl X x) (hm : X.mg x = some u) (r : RelV (.int i) u) (hd : (x == ("__debug__" : Str)) = false := by decide) : PE X (.Name x pos) (tV X.K g (M.pure (.atom (.int i)))) := ve_c (pe_glob hg hm r hd)
theorem ve_gs {x : Str} {pos : Pos} {i : Str} {u : Value} (hg : Gl X x) (hm : X.mg x = some u) (r : RelV (.str i) u) (hd : (x == ("__debug__" : Str)) = false := by decide) : PE X (.Name x pos) (tV X.K g (M.pure (.atom (.str i)))) := ve_c (pe_glob hg hm r hd)
/-- a tuple of texts or ints that the module holds -/
def KTup (K : PySem.W.Frag) (a : Addr) (vs : List V) : Prop := ∀ H, SqT K H a vs
theorem ve_gt {x : Str} {pos : Pos} {a : Addr} {vs : List V} (hg : Gl X x) (hm : X.mg x = some (.ref a)) (kt : KTup X.K a vs) (hd : (x == ("__debug__" : Str)) = false := by decide) : PE X (.Name x pos) (tV X.K g (M.pure (.tup (vs.map T.atom)))) :=
  PE.weak (pe_glob (v := .ref a) hg hm rfl hd) fun σ H Q ⟨ρ, ts, ws, S, q⟩ => q (.ref a) H (S.tmp fun rs us o => by
    obtain ⟨I, h, o⟩ := o
    refine ⟨I, h, ?_, o.dis, o.si, o.sh, o.ge, o.keep, o.dom⟩
    have all : ∀ vs : List V, Owns X.K I (vs.map T.atom) vs (fun _ => none) := fun vs => by
      induction vs with
      | nil => simp only [List.map_nil, Owns]; exact fun _ => rfl
      | cons w vs ih =>
        simp only [List.map_cons, Owns, Own]
        exact ⟨_, _, jn_emp fun _ => rfl, ⟨trivial, fun _ => rfl⟩, ih⟩
    show Owns X.K I (.tup (vs.map T.atom) :: (ts ++ rs)) (.ref a :: (ws ++ us)) h
    simp only [Owns, Own]
    exact ⟨_, h, jn_emp fun _ => rfl, ⟨a, vs, rfl, kt I, all vs⟩, o.own⟩)
/-- a dict of the module with text keys, as far as it is told -/
def KTab (K : PySem.W.Frag) (w : World) (a : Addr) (tab : List (Str × V)) : Prop := (∃ es n, KDict K w a es n) ∧ ∀ q ∈ tab, ∃ u, PySem.W.nsIn K a q.1 = some (some u) ∧ RelV q.2 u
def tabT (tab : List (Str × V)) (f : V → T) : T → Option T
  | .atom (.str z) => (tab.lookup z).map f
  | _ => none
def tabM (tab : List (Str × V)) (f : V → T) (m : M T) : M T := M.bind m fun t => M.lift (tabT tab f t)
theorem mem_lookup {tab : List (Str × V)} {z : Str} {v : V} (h : tab.lookup z = some v) : (z, v) ∈ tab := by
  induction tab with
  | nil => cases h
  | cons p tab ih =>
    obtain ⟨a, b⟩ := p
    rw [List.lookup_cons] at h
    split at h
    · rename_i e
      have := beq_iff_eq.mp e
      subst this
      cases h
      exact List.mem_cons_self
    · exact List.mem_cons_of_mem _ (ih h)
theorem tabT_of {H : Hp} {tab : List (Str × V)} {f : V → T} {t u : T} {v : V} {ts : List T} {vs : List V} (e : tabT tab f t = some u) (o : Ok X.K g H (t :: ts) (v :: vs)) : ∃ z w, v = .str z ∧ (z, w) ∈ tab ∧ u = f w := by
  unfold tabT at e
  split at e
  · rename_i z
    obtain ⟨w, e1, rfl⟩ := Option.map_eq_some_iff.mp e
    exact ⟨z, w, o.atom_eq, mem_lookup e1, rfl⟩
  · cases e
theorem ve_inK {b : Expr} {x : Str} {p pos : Pos} {a : Addr} {tab : List (Str × V)} {m : M T} (hg : Gl X x) (hm : X.mg x = some (.ref a)) (kt : KTab X.K X.w a tab) (hb : PE X b (tV X.K g m)) (hd : (x == ("__debug__" : Str)) = false := by decide) (hk : behindInMarks .In (.Name x p) = false := by rfl) :
    PE X (.Compare b [.In] [.Name x p] pos) (tV X.K g (tabM tab (fun _ => .atom (.bl true)) m)) := by
  obtain ⟨⟨es, n, D⟩, kt⟩ := kt
  refine PE.weak (pe_cmpR (op_in_kd D) hb (pe_glob (v := .ref a) hg hm rfl hd) hk) fun σ H Q ⟨ρ, ts, vs, S, q⟩ => go S q fun t ρ1 v H1 S1 q1 => ?_
  obtain ⟨u, e, q2⟩ := Aft.lift q1
  obtain ⟨z, w, rfl, hw, rfl⟩ := tabT_of e (by simpa using S1.flip)
  obtain ⟨u, e1, r⟩ := kt _ hw
  exact ⟨z, some u, rfl, rfl, e1, q2 _ H1 (S1.tmp fun rs ws o => Ok.atom_push (o.ent Ent.drop))⟩
theorem ve_ninK {b : Expr} {x : Str} {p pos : Pos} {a : Addr} {tab : List (Str × V)} {m : M T} (hg : Gl X x) (hm : X.mg x = some (.ref a)) (kt : KTab X.K X.w a tab) (hb : PE X b (tV X.K g m)) (hd : (x == ("__debug__" : Str)) = false := by decide) (hk : behindInMarks .NotIn (.Name x p) = false := by rfl) :
    PE X (.Compare b [.NotIn] [.Name x p] pos) (tV X.K g (tabM tab (fun _ => .atom (.bl false)) m)) := by
  obtain ⟨⟨es, n, D⟩, kt⟩ := kt
  refine PE.weak (pe_cmpR (op_notIn_kd D) hb (pe_glob (v := .ref a) hg hm rfl hd) hk) fun σ H Q ⟨ρ, ts, vs, S, q⟩ => go S q fun t ρ1 v H1 S1 q1 => ?_
  obtain ⟨u, e, q2⟩ := Aft.lift q1
  obtain ⟨z, w, rfl, hw, rfl⟩ := tabT_of e (by simpa using S1.flip)
  obtain ⟨u, e1, r⟩ := kt _ hw
  exact ⟨z, some u, rfl, rfl, e1, q2 _ H1 (S1.tmp fun rs ws o => Ok.atom_push (o.ent Ent.drop))⟩
theorem tabW {b : Expr} {a : Addr} {tab : List (Str × V)} {m : M T} {c : Bool} (kt : KTab X.K X.w a tab) {σ : L2.St} {H : Hp} {Q : VK} (h : tV X.K g (tabM tab (fun _ => .atom (.bl c)) m) σ H Q) :
    tOp (fun x y H Q => ∃ (z : Str) (r : Option Value), x = .str z ∧ y = .ref a ∧ PySem.W.nsIn X.K a z = some r ∧ Q (.bl (if c then r.isSome else !r.isSome)) H) (tV X.K g m) (tC (.ref a)) σ H Q := by
  obtain ⟨ρ, ts, vs, S, q⟩ := h
  refine go S q fun t ρ1 v H1 S1 q1 => ?_
  obtain ⟨u, e, q2⟩ := Aft.lift q1
  obtain ⟨z, w, rfl, hw, rfl⟩ := tabT_of e (by simpa using S1.flip)
  obtain ⟨u, e1, r⟩ := kt.2 _ hw
  refine ⟨z, some u, rfl, rfl, e1, ?_⟩
  have q3 := q2 (.bl c) H1 (S1.tmp fun rs ws o => Ok.atom_push (o.ent Ent.drop))
  cases c <;> exact q3
theorem vt_inK {b : Expr} {x : Str} {p pos : Pos} {a : Addr} {tab : List (Str × V)} {m : M T} (hg : Gl X x) (hm : X.mg x = some (.ref a)) (kt : KTab X.K X.w a tab) (hb : PE X b (tV X.K g m)) (hd : (x == ("__debug__" : Str)) = false := by decide) (hk : behindInMarks .In (.Name x p) = false := by rfl) :
    PT X (.Compare b [.In] [.Name x p] pos) (tBo X.K g (boolM (tabM tab (fun _ => .atom (.bl true)) m))) := by
  have D := kt.1
  obtain ⟨es, n, D⟩ := D
  exact PT.weak (pt_cmpR (op_in_kd D) hb (pe_glob (v := .ref a) hg hm rfl hd) hk) (boolM_weak fun σ H Q h => tabW (b := b) (c := true) kt h)
theorem vt_ninK {b : Expr} {x : Str} {p pos : Pos} {a : Addr} {tab : List (Str × V)} {m : M T} (hg : Gl X x) (hm : X.mg x = some (.ref a)) (kt : KTab X.K X.w a tab) (hb : PE X b (tV X.K g m)) (hd : (x == ("__debug__" : Str)) = false := by decide) (hk : behindInMarks .NotIn (.Name x p) = false := by rfl) :
    PT X (.Compare b [.NotIn] [.Name x p] pos) (tBo X.K g (boolM (tabM tab (fun _ => .atom (.bl false)) m))) := by
  have D := kt.1
  obtain ⟨es, n, D⟩ := D
  exact PT.weak (pt_cmpR (op_notIn_kd D) hb (pe_glob (v := .ref a) hg hm rfl hd) hk) (boolM_weak fun σ H Q h => tabW (b := b) (c := false) kt h)
theorem ve_ixK {b : Expr} {x : Str} {p pos : Pos} {a : Addr} {tab : List (Str × V)} {m : M T} (hg : Gl X x) (hm : X.mg x = some (.ref a)) (kt : KTab X.K X.w a tab) (hb : PE X b (tV X.K g m)) (hs : PlainIx b := by first | exact (fun _ _ => rfl)) (hd : (x == ("__debug__" : Str)) = false := by decide) :
    PE X (.Subscript (.Name x p) b pos) (tV X.K g (tabM tab T.atom m)) := by
  obtain ⟨⟨es, n, D⟩, kt⟩ := kt
  refine PE.weak (pe_ix ix_kdict (pe_glob (v := .ref a) hg hm rfl hd) hb hs) fun σ H Q ⟨ρ, ts, vs, S, q⟩ => go S q fun t ρ1 v H1 S1 q1 => ?_
  obtain ⟨u, e, q2⟩ := Aft.lift q1
  obtain ⟨z, w, rfl, hw, rfl⟩ := tabT_of e (by simpa using S1.flip)
  obtain ⟨u, e1, r⟩ := kt _ hw
  exact ⟨a, z, w, rfl, rfl, ⟨es, n, u, D.at_, D.lit, e1, r⟩, q2 _ H1 (S1.tmp fun rs ws o => Ok.atom_push (o.ent Ent.drop))⟩
/-! ### == and != , texts by themselves -/
def eqA : T → T → Option T
  | .atom (.str x), .atom (.str y) => some (.atom (.bl (decide (x = y))))
  | t, u => eqT t u
def neA : T → T → Option T
  | .atom (.str x), .atom (.str y) => some (.atom (.bl (!decide (x = y))))
  | t, u => neT t u
def rEqA (K : PySem.W.Frag) : R2 := fun x y H Q => (∃ i j, x = .str i ∧ y = .str j ∧ Q (.bl (decide (i = j))) H) ∨ rEqD K x y H Q
def rNeA (K : PySem.W.Frag) : R2 := fun x y H Q => (∃ i j, x = .str i ∧ y = .str j ∧ Q (.bl (!decide (i = j))) H) ∨ rNeD K x y H Q
theorem dec_str {i j : Str} : decide (V.str i = V.str j) = decide (i = j) := by
  by_cases e : i = j
  · subst e; simp
  · simp [e]
theorem opr_eq (hu : X.A.units + 64 < cLine) : OpR X (compareOp .Eq) (rEqA X.K) :=
  OpR.or (oprw op_eq fun x y H Q ⟨i, j, e1, e2, q⟩ => by subst e1 e2; exact ⟨rfl, by rw [dec_str]; exact q⟩) (op_eqD hu)
theorem opr_ne (hu : X.A.units + 64 < cLine) : OpR X (compareOp .NotEq) (rNeA X.K) :=
  OpR.or (oprw op_ne fun x y H Q ⟨i, j, e1, e2, q⟩ => by subst e1 e2; exact ⟨rfl, by rw [dec_str]; exact q⟩) (op_neD hu)
theorem rfb_eqA : RFb X.K g eqA (rEqA X.K) := by
  intro H tx ty x y t ts vs Q e o q
  unfold eqA at e
  split at e
  · cases e
    exact .inl ⟨_, _, o.drop.atom_eq, o.atom_eq, q _ H o.atom_push⟩
  · exact .inr (rfb_eq H tx ty x y t ts vs Q e o q)
theorem rfb_neA : RFb X.K g neA (rNeA X.K) := by
  intro H tx ty x y t ts vs Q e o q
  unfold neA at e
  split at e
  · cases e
    exact .inl ⟨_, _, o.drop.atom_eq, o.atom_eq, q _ H o.atom_push⟩
  · exact .inr (rfb_ne H tx ty x y t ts vs Q e o q)
theorem eqA_int {i : Int} {u : T} : eqA (.atom (.int i)) u = eqT (.atom (.int i)) u := rfl
theorem eqA_tup {xs : List T} {u : T} : eqA (.tup xs) u = eqT (.tup xs) u := rfl
theorem eqA_lst {b : Bool} {xs : List T} {u : T} : eqA (.lst b xs) u = eqT (.lst b xs) u := rfl
theorem neA_int {i : Int} {u : T} : neA (.atom (.int i)) u = neT (.atom (.int i)) u := rfl
theorem neA_tup {xs : List T} {u : T} : neA (.tup xs) u = neT (.tup xs) u := rfl
theorem neA_lst {b : Bool} {xs : List T} {u : T} : neA (.lst b xs) u = neT (.lst b xs) u := rfl
theorem eqA_same {x : Str} : eqA (.atom (.str x)) (.atom (.str x)) = some (.atom (.bl true)) := by simp [eqA]
theorem neA_same {x : Str} : neA (.atom (.str x)) (.atom (.str x)) = some (.atom (.bl false)) := by simp [neA]
end
end VS
/-! W1: the plain side: what a meaning leaves, step by step. -/
namespace VS
open PySem L2

section
variable {α β : Type} {ρ : Env} {P : α → Env → Prop}
theorem aft_bind {m : M β} {f : β → M α} : Aft (M.bind m f ρ) P = Aft (m ρ) (fun a ρ' => Aft (f a ρ') P) := by
  unfold M.bind
  cases m ρ <;> rfl
theorem aft_pure {a : α} : Aft (M.pure a ρ) P = P a ρ := rfl
theorem aft_ok {a : α} : Aft (.ok a ρ) P = P a ρ := rfl
theorem aft_some {a : α} : Aft (M.lift (some a) ρ) P = P a ρ := rfl
theorem aft_lift {o : Option α} : Aft (M.lift o ρ) P = ∃ a, o = some a ∧ P a ρ := by
  cases o with
  | none => simp [M.lift, Aft]
  | some a => simp [M.lift, Aft]
theorem aft_ite {c : Prop} [Decidable c] {m n : M α} : Aft ((if c then m else n) ρ) P = if c then Aft (m ρ) P else Aft (n ρ) P := by split <;> rfl
theorem aft_mono {r : Res α} {P' : α → Env → Prop} (h : Aft r P) (k : ∀ a ρ, P a ρ → P' a ρ) : Aft r P' := h.mono k
end
section
variable {ρ : Env} {P : T → Env → Prop} {PB : Bool → Env → Prop} {PC : Ctl → Env → Prop} {PU : Unit → Env → Prop} {PL : List T → Env → Prop}
theorem aft_seq {a b : M Ctl} : Aft (seqM a b ρ) PC = Aft (a ρ) (fun c ρ' => match c with | .nx => Aft (b ρ') PC | .rt t => PC (.rt t) ρ' | .bk => PC .bk ρ' | .ct => PC .ct ρ') := by
  unfold seqM
  rw [aft_bind]
  congr 1
  funext c ρ'
  cases c <;> rfl
theorem aft_if {c : M Bool} {a b : M Ctl} : Aft (ifM c a b ρ) PC = Aft (c ρ) (fun k ρ' => if k = true then Aft (a ρ') PC else Aft (b ρ') PC) := by
  unfold ifM
  rw [aft_bind]
  congr 1
  funext k ρ'
  cases k <;> rfl
theorem aft_asg {e : M T} {a : T → M Unit} : Aft (asgM e a ρ) PC = Aft (e ρ) (fun t ρ' => Aft (a t ρ') (fun _ ρ2 => PC .nx ρ2)) := by
  unfold asgM
  rw [aft_bind]
  congr 1
  funext t ρ'
  rw [aft_bind]
  rfl
theorem aft_ret {e : M T} : Aft (retM e ρ) PC = Aft (e ρ) (fun t ρ' => PC (.rt t) ρ') := by
  unfold retM
  rw [aft_bind]
  rfl
theorem aft_drp {e : M T} : Aft (drpM e ρ) PC = Aft (e ρ) (fun t ρ' => PC .nx ρ') := by
  unfold drpM
  rw [aft_bind]
  rfl
theorem aft_bin {F : T → T → Option T} {a b : M T} : Aft (bin F a b ρ) P = Aft (a ρ) (fun x ρ1 => Aft (b ρ1) (fun y ρ2 => ∃ t, F x y = some t ∧ P t ρ2)) := by
  unfold bin
  rw [aft_bind]
  congr 1
  funext x ρ1
  rw [aft_bind]
  congr 1
  funext y ρ2
  rw [aft_lift]
/-- the slot i -/
def At (ρ : Env) (i : Nat) (Q : T → Prop) : Prop := match ρ[i]? with
  | some t => Q t
  | none => False
theorem at_zero {t : T} {Q : T → Prop} : At (t :: ρ) 0 Q = Q t := rfl
theorem at_succ {t : T} {Q : T → Prop} {i : Nat} : At (t :: ρ) (i + 1) Q = At ρ i Q := by simp [At]
theorem aft_fz {i : Nat} : Aft (fzv i ρ) P = At ρ i fun t => (t.cold = true ∧ t.isHole = false ∧ t.frz.imm = true) ∧ P t.frz (ρ.set i t.frz) := by
  unfold fzv At
  cases e : ρ[i]? with
  | none => rfl
  | some t =>
    dsimp only
    by_cases c : (t.cold && !t.isHole && t.frz.imm) = true
    · rw [if_pos c]
      simp only [Bool.and_eq_true, Bool.not_eq_true'] at c
      simp [Aft, c]
    · rw [if_neg c]
      simp only [Bool.and_eq_true, Bool.not_eq_true'] at c
      simp only [Aft, eq_iff_iff, false_iff]
      rintro ⟨⟨h1, h2, h3⟩, _⟩
      exact c ⟨⟨h1, h2⟩, h3⟩
theorem aft_mv {i : Nat} : Aft (mvv i ρ) P = At ρ i fun t => t.isHole = false ∧ P t (ρ.set i .hole) := by
  unfold mvv At
  cases e : ρ[i]? with
  | none => rfl
  | some t =>
    dsimp only
    by_cases c : t.isHole = false
    · rw [if_pos c]; simp [Aft, c]
    · rw [if_neg c]; simp [Aft, c]
theorem aft_nh {i : Nat} : Aft (nhv i ρ) PU = At ρ i fun t => t.isHole = false ∧ PU () ρ := by
  unfold nhv At
  cases e : ρ[i]? with
  | none => rfl
  | some t =>
    dsimp only
    by_cases c : t.isHole = false
    · rw [if_pos c]; simp [Aft, c]
    · rw [if_neg c]; simp [Aft, c]
theorem aft_pk {i : Nat} {f : T → Option T} : Aft (pk i f ρ) P = At ρ i fun t => t.isHole = false ∧ ∃ u, f t = some u ∧ P u ρ := by
  unfold pk At
  cases e : ρ[i]? with
  | none => rfl
  | some t =>
    dsimp only
    by_cases c : t.isHole = false
    · rw [if_pos c, aft_lift]; simp [c]
    · rw [if_neg c]; simp [Aft, c]
theorem aft_binL {F : T → T → Option T} {i : Nat} {b : M T} : Aft (binL F i b ρ) P = At ρ i fun t => t.isHole = false ∧ Aft (b ρ) (fun y ρ2 => At ρ2 i fun t => t.isHole = false ∧ ∃ u, F t y = some u ∧ P u ρ2) := by
  unfold binL
  rw [aft_bind, aft_nh]
  congr 1
  funext t
  congr 1
  rw [aft_bind]
  congr 1
  funext y ρ2
  rw [aft_pk]
theorem aft_binR {F : T → T → Option T} {i : Nat} {a : M T} : Aft (binR F a i ρ) P = Aft (a ρ) (fun x ρ2 => At ρ2 i fun t => t.isHole = false ∧ ∃ u, F x t = some u ∧ P u ρ2) := by
  unfold binR
  rw [aft_bind]
  congr 1
  funext y ρ2
  rw [aft_pk]
theorem aft_set {i : Nat} {t : T} : Aft (setv i t ρ) PU = (i < ρ.length ∧ PU () (ρ.set i t)) := by
  unfold setv
  by_cases c : i < ρ.length
  · rw [if_pos c]; simp [Aft, c]
  · rw [if_neg c]; simp [Aft, c]
theorem aft_tru {m : M T} : Aft (truM m ρ) PB = Aft (m ρ) (fun t ρ' => ∃ b, t.tru = some b ∧ PB b ρ') := by
  unfold truM
  rw [aft_bind]
  congr 1
  funext t ρ'
  rw [aft_lift]
theorem aft_boolM {m : M T} : Aft (boolM m ρ) PB = Aft (m ρ) (fun t ρ' => ∃ b, t.bool? = some b ∧ PB b ρ') := by
  unfold boolM
  rw [aft_bind]
  congr 1
  funext t ρ'
  rw [aft_lift]
theorem aft_cmpB {F : T → T → Option T} {a b : M T} : Aft (cmpB F a b ρ) PB = Aft (a ρ) (fun x ρ1 => Aft (b ρ1) (fun y ρ2 => ∃ t, F x y = some t ∧ ∃ b, t.bool? = some b ∧ PB b ρ2)) := by
  unfold cmpB
  rw [aft_bind, aft_bin]
  congr 1
  funext x ρ1
  congr 1
  funext y ρ2
  congr 1
  funext t
  rw [aft_lift]
theorem aft_and {a b : M Bool} : Aft (andB a b ρ) PB = Aft (a ρ) (fun x ρ' => if x = true then Aft (b ρ') PB else PB false ρ') := by
  unfold andB
  rw [aft_bind]
  congr 1
  funext x ρ'
  cases x <;> rfl
theorem aft_or {a b : M Bool} : Aft (orB a b ρ) PB = Aft (a ρ) (fun x ρ' => if x = true then PB true ρ' else Aft (b ρ') PB) := by
  unfold orB
  rw [aft_bind]
  congr 1
  funext x ρ'
  cases x <;> rfl
theorem aft_not {a : M Bool} : Aft (notB a ρ) PB = Aft (a ρ) (fun x ρ' => PB (!x) ρ') := by
  unfold notB
  rw [aft_bind]
  rfl
theorem aft_andV {a b : M T} : Aft (andV a b ρ) P = Aft (a ρ) (fun x ρ' => ∃ k, x.tru = some k ∧ if k = true then Aft (b ρ') P else P x ρ') := by
  unfold andV
  rw [aft_bind]
  congr 1
  funext x ρ'
  rw [aft_bind, aft_lift]
  congr 1
  funext k
  cases k <;> rfl
theorem aft_orV {a b : M T} : Aft (orV a b ρ) P = Aft (a ρ) (fun x ρ' => ∃ k, x.tru = some k ∧ if k = true then P x ρ' else Aft (b ρ') P) := by
  unfold orV
  rw [aft_bind]
  congr 1
  funext x ρ'
  rw [aft_bind, aft_lift]
  congr 1
  funext k
  cases k <;> rfl
theorem aft_notV {a : M T} : Aft (notV a ρ) P = Aft (a ρ) (fun x ρ' => ∃ k, x.tru = some k ∧ P (.atom (.bl (!k))) ρ') := by
  unfold notV
  rw [aft_bind]
  congr 1
  funext x ρ'
  rw [aft_bind, aft_lift]
  rfl
theorem aft_ifV {c : M Bool} {a b : M T} : Aft (ifV c a b ρ) P = Aft (c ρ) (fun k ρ' => if k = true then Aft (a ρ') P else Aft (b ρ') P) := by
  unfold ifV
  rw [aft_bind]
  congr 1
  funext k ρ'
  cases k <;> rfl
theorem aft_neg {a : M T} : Aft (negV a ρ) P = Aft (a ρ) (fun x ρ' => ∃ i, x = tI i ∧ P (tI (-i)) ρ') := by
  unfold negV
  rw [aft_bind]
  congr 1
  funext x ρ'
  rw [aft_lift]
  apply propext
  constructor
  · rintro ⟨u, e, q⟩
    cases x with
    | atom v =>
      cases v <;> first | (cases e; exact ⟨_, rfl, q⟩) | cases e
    | _ => cases e
  · rintro ⟨i, rfl, q⟩
    exact ⟨_, rfl, q⟩
theorem aft_nil : Aft (nilA ρ) PL = PL [] ρ := rfl
theorem aft_cons {a : M T} {r : M (List T)} : Aft (consA a r ρ) PL = Aft (a ρ) (fun x ρ1 => Aft (r ρ1) (fun xs ρ2 => PL (x :: xs) ρ2)) := by
  unfold consA
  rw [aft_bind]
  congr 1
  funext x ρ1
  rw [aft_bind]
  rfl
theorem aft_tup {r : M (List T)} : Aft (tupM r ρ) P = Aft (r ρ) (fun xs ρ' => xs.length ≤ 1000000 ∧ P (.tup xs) ρ') := by
  unfold tupM
  rw [aft_bind]
  congr 1
  funext xs ρ'
  by_cases c : xs.length ≤ 1000000
  · rw [if_pos c]; simp [c, aft_pure]
  · rw [if_neg c]; simp [c, M.no, Aft]
theorem aft_lst {r : M (List T)} : Aft (lstM r ρ) P = Aft (r ρ) (fun xs ρ' => xs.length ≤ 1000000 ∧ P (.lst true xs) ρ') := by
  unfold lstM
  rw [aft_bind]
  congr 1
  funext xs ρ'
  by_cases c : xs.length ≤ 1000000
  · rw [if_pos c]; simp [c, aft_pure]
  · rw [if_neg c]; simp [c, M.no, Aft]
theorem aft_un1 {F : T → Option T} {r : M (List T)} : Aft (un1 F r ρ) P = Aft (r ρ) (fun xs ρ' => ∃ t, xs = [t] ∧ ∃ u, F t = some u ∧ P u ρ') := by
  unfold un1
  rw [aft_bind]
  congr 1
  funext xs ρ'
  match xs with
  | [] => simp [M.no, Aft]
  | [t] => simp [aft_lift]
  | _ :: _ :: _ => simp [M.no, Aft]
theorem aft_un2 {F : T → T → Option T} {r : M (List T)} : Aft (un2 F r ρ) P = Aft (r ρ) (fun xs ρ' => ∃ t s, xs = [t, s] ∧ ∃ u, F t s = some u ∧ P u ρ') := by
  unfold un2
  rw [aft_bind]
  congr 1
  funext xs ρ'
  match xs with
  | [] => simp [M.no, Aft]
  | [t] => simp [M.no, Aft]
  | [t, s] =>
    rw [aft_lift]
    apply propext
    constructor
    · rintro ⟨u, e, q⟩; exact ⟨t, s, rfl, u, e, q⟩
    · rintro ⟨_, _, e, u, e2, q⟩; cases e; exact ⟨u, e2, q⟩
  | _ :: _ :: _ :: _ => simp [M.no, Aft]
theorem aft_call {n : Nat} {m : List T → Option T} {r : M (List T)} : Aft (callM n m r ρ) P = Aft (r ρ) (fun xs ρ' => xs.length = n ∧ ∃ t, m xs = some t ∧ P t ρ') := by
  unfold callM
  rw [aft_bind]
  congr 1
  funext xs ρ'
  by_cases c : xs.length = n
  · rw [if_pos c, aft_lift]; simp [c]
  · rw [if_neg c]; simp [c, M.no, Aft]
theorem aft_callIO {n i : Nat} {m : List T → Option (T × T)} {r : M (List T)} : Aft (callIO n m i r ρ) P = At ρ i fun t => t.isHole = false ∧ Aft (r ρ) (fun xs ρ' => xs.length + 1 = n ∧ At ρ' i fun t => t.isHole = false ∧ ∃ u t0, m (t :: xs) = some (u, t0) ∧ P u (ρ'.set i t0)) := by
  unfold callIO
  rw [aft_bind, aft_nh]
  congr 1
  funext t
  congr 1
  rw [aft_bind]
  congr 1
  funext xs ρ'
  by_cases c : xs.length + 1 = n
  · rw [if_pos c]
    unfold At
    cases e : ρ'[i]? with
    | none => simp [Aft]
    | some t =>
      dsimp only
      by_cases c2 : t.isHole = false
      · rw [if_pos c2]
        cases em : m (t :: xs) with
        | none => simp [Aft]
        | some p =>
          simp only [Aft, c, c2, true_and, eq_iff_iff]
          constructor
          · intro q; exact ⟨p.1, p.2, rfl, q⟩
          · rintro ⟨_, _, e, q⟩
            cases e
            exact q
      · rw [if_neg c2]; simp [Aft, c2]
  · rw [if_neg c]; simp [c, M.no, Aft]
theorem aft_gtup {n : Nat} {f : List T → M Unit} {t : T} : Aft (gtup n f t ρ) PU = ∃ xs, t = .tup xs ∧ xs.length = n ∧ Aft (f xs ρ) PU := by
  unfold gtup
  cases t with
  | tup xs =>
    dsimp only
    by_cases c : xs.length = n
    · rw [if_pos c]; simp [c]
    · rw [if_neg c]; simp [c, M.no, Aft]
  | _ => simp [M.no, Aft]
theorem aft_gnil : Aft (gnil [] ρ) PU = PU () ρ := rfl
theorem aft_gcons {a : T → M Unit} {f : List T → M Unit} {x : T} {xs : List T} : Aft (gcons a f (x :: xs) ρ) PU = Aft (a x ρ) (fun _ ρ' => Aft (f xs ρ') PU) := aft_bind
theorem aft_par2 {r : M (List T)} {i j : Nat} : Aft (par2 r i j ρ) PC = Aft (r ρ) (fun xs ρ' => ∃ t u, xs = [t, u] ∧ i < ρ'.length ∧ j < ρ'.length ∧ PC .nx ((ρ'.set i t).set j u)) := by
  unfold par2
  rw [aft_bind]
  congr 1
  funext xs ρ'
  match xs with
  | [] => simp [M.no, Aft]
  | [t] => simp [M.no, Aft]
  | [t, u] =>
    dsimp only
    by_cases c : i < ρ'.length ∧ j < ρ'.length
    · rw [if_pos c]
      apply propext
      constructor
      · intro q; exact ⟨t, u, rfl, c.1, c.2, q⟩
      · rintro ⟨_, _, e, h1, h2, q⟩; cases e; exact q
    · rw [if_neg c]
      simp only [Aft, eq_iff_iff, false_iff]
      rintro ⟨_, _, e, h1, h2, _⟩
      exact c ⟨h1, h2⟩
  | _ :: _ :: _ :: _ => simp [M.no, Aft]
theorem aft_par3 {r : M (List T)} {i j k : Nat} : Aft (par3 r i j k ρ) PC = Aft (r ρ) (fun xs ρ' => ∃ t u w, xs = [t, u, w] ∧ i < ρ'.length ∧ j < ρ'.length ∧ k < ρ'.length ∧ PC .nx (((ρ'.set i t).set j u).set k w)) := by
  unfold par3
  rw [aft_bind]
  congr 1
  funext xs ρ'
  match xs with
  | [] => simp [M.no, Aft]
  | [t] => simp [M.no, Aft]
  | [t, u] => simp [M.no, Aft]
  | [t, u, w] =>
    dsimp only
    by_cases c : i < ρ'.length ∧ j < ρ'.length ∧ k < ρ'.length
    · rw [if_pos c]
      apply propext
      constructor
      · intro q; exact ⟨t, u, w, rfl, c.1, c.2.1, c.2.2, q⟩
      · rintro ⟨_, _, _, e, h1, h2, h3, q⟩; cases e; exact q
    · rw [if_neg c]
      simp only [Aft, eq_iff_iff, false_iff]
      rintro ⟨_, _, _, e, h1, h2, h3, _⟩
      exact c ⟨h1, h2, h3⟩
  | _ :: _ :: _ :: _ :: _ => simp [M.no, Aft]
theorem aft_isi {c : String} {m : M T} : Aft (isiM c m ρ) P = Aft (m ρ) (fun t ρ' => ∃ u, isiT c t = some u ∧ P u ρ') := by
  unfold isiM
  rw [aft_bind]
  congr 1
  funext t ρ'
  rw [aft_lift]
theorem aft_chain {F F' : T → T → Option T} {a b c : M T} : Aft (chainM F F' a b c ρ) P = Aft (a ρ) (fun x ρ1 => Aft (b ρ1) (fun y ρ2 => ∃ r, F x y = some r ∧ ∃ k, r.bool? = some k ∧ if k = true then y.imm = true ∧ Aft (c ρ2) (fun z ρ3 => ∃ u, F' y z = some u ∧ P u ρ3) else P (.atom (.bl false)) ρ2)) := by
  unfold chainM
  rw [aft_bind]
  congr 1
  funext x ρ1
  rw [aft_bind]
  congr 1
  funext y ρ2
  rw [aft_bind, aft_lift]
  congr 1
  funext r
  congr 1
  rw [aft_bind, aft_lift]
  congr 1
  funext k
  congr 1
  cases k
  · rfl
  · rw [if_pos rfl, if_pos rfl]
    by_cases c2 : y.imm = true
    · rw [if_pos c2, aft_bind]
      simp only [c2, true_and]
      congr 1
      funext z ρ3
      rw [aft_lift]
    · rw [if_neg c2]
      simp [c2, M.no, Aft]
/-! what runs give -/
theorem run0_of {sem : M Ctl} {n : Nat} {ts : List T} {t : T} (h : Aft (sem (ts ++ List.replicate n .hole)) fun c _ => c = .rt t) : run0 sem n ts = some t := by
  unfold run0
  cases e : sem (ts ++ List.replicate n .hole) with
  | no => rw [e] at h; exact h.elim
  | ex _ _ _ => rw [e] at h; exact h.elim
  | ok c ρ' =>
    rw [e] at h
    have : c = .rt t := h
    subst this
    rfl
theorem run0_nx {sem : M Ctl} {n : Nat} {ts : List T} (h : Aft (sem (ts ++ List.replicate n .hole)) fun c _ => c = .nx) : run0 sem n ts = some tN := by
  unfold run0
  cases e : sem (ts ++ List.replicate n .hole) with
  | no => rw [e] at h; exact h.elim
  | ex _ _ _ => rw [e] at h; exact h.elim
  | ok c ρ' =>
    rw [e] at h
    have : c = .nx := h
    subst this
    rfl
theorem run1_of {sem : M Ctl} {n : Nat} {ts : List T} {R : T → T → Prop} (h : Aft (sem (ts ++ List.replicate n .hole)) fun c ρ => ∃ t t0, c = .rt t ∧ ρ[0]? = some t0 ∧ t0.isHole = false ∧ R t t0) : ∃ t t0, run1 sem n ts = some (t, t0) ∧ R t t0 := by
  unfold run1
  cases e : sem (ts ++ List.replicate n .hole) with
  | no => rw [e] at h; exact h.elim
  | ex _ _ _ => rw [e] at h; exact h.elim
  | ok c ρ' =>
    rw [e] at h
    obtain ⟨t, t0, rfl, h1, h2, h3⟩ := h
    refine ⟨t, t0, ?_, h3⟩
    simp [h1, h2]
end
end VS
/-! W2: loops, comprehensions; data that can be shown and compared; sorted pairs. -/
namespace VS
open PySem L2

/-! ### isinstance of known things -/
theorem isi_int_int {i : Int} : isiT "int" (.atom (.int i)) = some (.atom (.bl true)) := rfl
theorem isi_int_bool {i : Bool} : isiT "int" (.atom (.bl i)) = some (.atom (.bl true)) := rfl
theorem isi_int_str {i : Str} : isiT "int" (.atom (.str i)) = some (.atom (.bl false)) := rfl
theorem isi_int_NoneType  : isiT "int" (.atom .non) = some (.atom (.bl false)) := rfl
theorem isi_int_list {o : Bool} {i : List T} : isiT "int" (.lst o i) = some (.atom (.bl false)) := rfl
theorem isi_int_tuple {i : List T} : isiT "int" (.tup i) = some (.atom (.bl false)) := rfl
theorem isi_int_ro {i : List T} : isiT "int" (.ro i) = some (.atom (.bl false)) := rfl
theorem isi_bool_int {i : Int} : isiT "bool" (.atom (.int i)) = some (.atom (.bl false)) := rfl
theorem isi_bool_bool {i : Bool} : isiT "bool" (.atom (.bl i)) = some (.atom (.bl true)) := rfl
theorem isi_bool_str {i : Str} : isiT "bool" (.atom (.str i)) = some (.atom (.bl false)) := rfl
theorem isi_bool_NoneType  : isiT "bool" (.atom .non) = some (.atom (.bl false)) := rfl
theorem isi_bool_list {o : Bool} {i : List T} : isiT "bool" (.lst o i) = some (.atom (.bl false)) := rfl
theorem isi_bool_tuple {i : List T} : isiT "bool" (.tup i) = some (.atom (.bl false)) := rfl
theorem isi_bool_ro {i : List T} : isiT "bool" (.ro i) = some (.atom (.bl false)) := rfl
theorem isi_str_int {i : Int} : isiT "str" (.atom (.int i)) = some (.atom (.bl false)) := rfl
theorem isi_str_bool {i : Bool} : isiT "str" (.atom (.bl i)) = some (.atom (.bl false)) := rfl
theorem isi_str_str {i : Str} : isiT "str" (.atom (.str i)) = some (.atom (.bl true)) := rfl
theorem isi_str_NoneType  : isiT "str" (.atom .non) = some (.atom (.bl false)) := rfl
theorem isi_str_list {o : Bool} {i : List T} : isiT "str" (.lst o i) = some (.atom (.bl false)) := rfl
theorem isi_str_tuple {i : List T} : isiT "str" (.tup i) = some (.atom (.bl false)) := rfl
theorem isi_str_ro {i : List T} : isiT "str" (.ro i) = some (.atom (.bl false)) := rfl
theorem isi_list_int {i : Int} : isiT "list" (.atom (.int i)) = some (.atom (.bl false)) := rfl
theorem isi_list_bool {i : Bool} : isiT "list" (.atom (.bl i)) = some (.atom (.bl false)) := rfl
theorem isi_list_str {i : Str} : isiT "list" (.atom (.str i)) = some (.atom (.bl false)) := rfl
theorem isi_list_NoneType  : isiT "list" (.atom .non) = some (.atom (.bl false)) := rfl
theorem isi_list_list {o : Bool} {i : List T} : isiT "list" (.lst o i) = some (.atom (.bl true)) := rfl
theorem isi_list_tuple {i : List T} : isiT "list" (.tup i) = some (.atom (.bl false)) := rfl
theorem isi_list_ro {i : List T} : isiT "list" (.ro i) = some (.atom (.bl true)) := rfl
theorem isi_tuple_int {i : Int} : isiT "tuple" (.atom (.int i)) = some (.atom (.bl false)) := rfl
theorem isi_tuple_bool {i : Bool} : isiT "tuple" (.atom (.bl i)) = some (.atom (.bl false)) := rfl
theorem isi_tuple_str {i : Str} : isiT "tuple" (.atom (.str i)) = some (.atom (.bl false)) := rfl
theorem isi_tuple_NoneType  : isiT "tuple" (.atom .non) = some (.atom (.bl false)) := rfl
theorem isi_tuple_list {o : Bool} {i : List T} : isiT "tuple" (.lst o i) = some (.atom (.bl false)) := rfl
theorem isi_tuple_tuple {i : List T} : isiT "tuple" (.tup i) = some (.atom (.bl true)) := rfl
theorem isi_tuple_ro {i : List T} : isiT "tuple" (.ro i) = some (.atom (.bl false)) := rfl
/-! ### frozen things -/
mutual
theorem frz_imm : ∀ {t : T}, t.imm = true → t.frz = t
  | .hole, h => by simp [T.imm] at h
  | .atom _, _ => rfl
  | .tup ts, h => by simp only [T.imm] at h; simp only [T.frz, frzs_imms h]
  | .lst o ts, h => by
    simp only [T.imm, Bool.and_eq_true, Bool.not_eq_true'] at h
    simp only [T.frz, frzs_imms h.2, h.1]
  | .ro ts, h => by simp only [T.imm] at h; simp only [T.frz, frzs_imms h]
  | .dct o ks ts, h => by
    simp only [T.imm, Bool.and_eq_true, Bool.not_eq_true'] at h
    simp only [T.frz, frzs_imms h.2, h.1]
  | .obj _ _ _, h => by simp [T.imm] at h
theorem frzs_imms : ∀ {ts : List T}, T.imms ts = true → T.frzs ts = ts
  | [], _ => rfl
  | t :: ts, h => by
    simp only [T.imms, Bool.and_eq_true] at h
    simp only [T.frzs, frz_imm h.1, frzs_imms h.2]
end
mutual
theorem cold_imm : ∀ {t : T}, t.imm = true → t.cold = true
  | .hole, h => by simp [T.imm] at h
  | .atom _, _ => rfl
  | .tup ts, h => by simp only [T.imm] at h; simp only [T.cold, colds_imms h]
  | .lst o ts, h => by
    simp only [T.imm, Bool.and_eq_true] at h
    simp only [T.cold, colds_imms h.2]
  | .ro ts, h => by simp only [T.imm] at h; simp only [T.cold, colds_imms h]
  | .dct o ks ts, h => by
    simp only [T.imm, Bool.and_eq_true] at h
    simp only [T.cold, colds_imms h.2]
  | .obj _ _ _, h => by simp [T.imm] at h
theorem colds_imms : ∀ {ts : List T}, T.imms ts = true → T.colds ts = true
  | [], _ => rfl
  | t :: ts, h => by
    simp only [T.imms, Bool.and_eq_true] at h
    simp only [T.colds, cold_imm h.1, colds_imms h.2, Bool.and_self]
end
theorem hole_imm {t : T} (h : t.imm = true) : t.isHole = false := by cases t <;> first | rfl | simp [T.imm] at h
theorem imms_all {ts : List T} : T.imms ts = true ↔ ∀ t ∈ ts, t.imm = true := by
  induction ts with
  | nil => simp [T.imms]
  | cons t ts ih => simp [T.imms, ih]
theorem imms_app {xs ys : List T} : T.imms (xs ++ ys) = true ↔ T.imms xs = true ∧ T.imms ys = true := by
  induction xs with
  | nil => simp [T.imms]
  | cons t ts ih => simp [T.imms, ih, and_assoc]
theorem imms_map {α : Type} {f : α → T} {xs : List α} (h : ∀ x ∈ xs, (f x).imm = true) : T.imms (xs.map f) = true := imms_all.mpr fun t ht => by
  obtain ⟨x, hx, rfl⟩ := List.mem_map.mp ht
  exact h x hx

/-! ### loops -/
theorem loop_inv {f : T → M Ctl} (Inv : Nat → Env → Prop) : ∀ {xs : List T} {ρ : Env} (k : Nat), Inv k ρ → (∀ i x ρ, xs[i]? = some x → Inv (k + i) ρ → Aft (f x ρ) fun c ρ' => c = .nx ∧ Inv (k + i + 1) ρ') → Aft (loopM xs f ρ) fun c ρ' => c = .nx ∧ Inv (k + xs.length) ρ'
  | [], ρ, k, h0, _ => ⟨rfl, h0⟩
  | x :: xs, ρ, k, h0, hs => by
    have h1 := hs 0 x ρ rfl h0
    show Aft (match f x ρ with | .no => .no | .ex n fs ρ' => .ex n fs ρ' | .ok .nx ρ' => loopM xs f ρ' | .ok .ct ρ' => loopM xs f ρ' | .ok .bk ρ' => .ok .nx ρ' | .ok (.rt t) ρ' => .ok (.rt t) ρ') _
    cases e : f x ρ with
    | no => rw [e] at h1; exact h1.elim
    | ex _ _ _ => rw [e] at h1; exact h1.elim
    | ok c ρ' =>
      rw [e] at h1
      obtain ⟨rfl, h2⟩ := h1
      have := loop_inv Inv (xs := xs) (k + 1) h2 fun i y ρ hy hi => by
        have h3 := hs (i + 1) y ρ (by simpa using hy) (by rw [show k + (i + 1) = k + 1 + i by omega]; exact hi)
        rw [show k + 1 + i + 1 = k + (i + 1) + 1 by omega]
        exact h3
      rw [show k + (x :: xs).length = k + 1 + xs.length by simp; omega]
      exact this
theorem aft_for {it : M (List T)} {a : T → M Unit} {b : M Ctl} {ρ : Env} {P : Ctl → Env → Prop} : Aft (forM it a b ρ) P = Aft (it ρ) (fun xs ρ' => Aft (loopM xs (fun x => M.bind (a x) fun _ => b) ρ') P) := aft_bind
theorem aft_forO {m : M T} {a : T → M Unit} {b : M Ctl} {ρ : Env} {P : Ctl → Env → Prop} : Aft (forO m a b ρ) P = Aft (m ρ) (fun t ρ' => ∃ xs, tupS t = some xs ∧ Aft (loopM xs (fun x => M.bind (a x) fun _ => b) ρ') P) := by
  unfold forO
  rw [aft_bind]
  congr 1
  funext t ρ'
  rw [aft_bind, aft_lift]
theorem aft_iterA {m : M T} {ρ : Env} {P : List T → Env → Prop} : Aft (iterA m ρ) P = Aft (m ρ) (fun t ρ' => ∃ xs, itA t = some xs ∧ P xs ρ') := by
  unfold iterA
  rw [aft_bind]
  congr 1
  funext t ρ'
  rw [aft_lift]
theorem aft_rng1 {r : M (List T)} {ρ : Env} {P : List T → Env → Prop} {n : Int} (h : Aft (r ρ) fun xs ρ' => xs = [tI n] ∧ P (rangeL 0 n) ρ') (h1 : n < 2 ^ 62) (h2 : -(2 ^ 62) ≤ n) : Aft (rng1 r ρ) P := by
  unfold rng1
  rw [aft_bind]
  refine h.mono fun xs ρ' ⟨e, q⟩ => ?_
  subst e
  show Aft ((if n < 2 ^ 62 ∧ -(2 ^ 62) ≤ n then M.pure (rangeL 0 n) else M.no) ρ') P
  rw [if_pos ⟨h1, h2⟩]
  exact q
theorem itA_lst {b : Bool} {xs : List T} (h : T.imms xs = true) : itA (.lst b xs) = some xs := by
  simp only [itA, itL, frzs_imms h, colds_imms h, h, and_self, if_true]
theorem itA_tup {xs : List T} (h : T.imms xs = true) : itA (.tup xs) = some xs := by simp only [itA, itT, h, if_true]
theorem range_at {n : Nat} {i : Nat} {x : T} (h : (rangeL 0 (n : Int))[i]? = some x) : x = tI i ∧ i < n := by
  unfold rangeL at h
  rw [List.getElem?_map, Option.map_eq_some_iff] at h
  obtain ⟨j, hj, rfl⟩ := h
  have hl := (List.getElem?_eq_some_iff.mp hj).1
  simp at hl
  rw [List.getElem?_range (by omega)] at hj
  cases hj
  exact ⟨by simp [tI], hl⟩
theorem range_len {n : Nat} : (rangeL 0 (n : Int)).length = n := by simp [rangeL]
theorem range_map {n : Nat} : rangeL 0 (n : Int) = (List.range n).map fun i => tI (i : Nat) := by
  unfold rangeL
  rw [show ((n : Int) - 0).toNat = n by omega]
  apply List.map_congr_left
  intro a _
  simp [tI]
theorem lc_inv {a : T → M Unit} {c : M Bool} {e : M T} {own : List Nat} (Inv : Nat → List T → Env → Prop) : ∀ {xs acc : List T} {ρ : Env} (k : Nat), Inv k acc ρ → acc.length + xs.length ≤ 1000000 →
    (∀ i x acc ρ, xs[i]? = some x → Inv (k + i) acc ρ → Aft (lcStep a c e x ρ) fun o ρ' => Inv (k + i + 1) (acc ++ o.toList) (wipeE ρ' own)) → Aft (lcLoop a c e own xs acc ρ) fun acc' ρ' => Inv (k + xs.length) acc' ρ'
  | [], acc, ρ, k, h0, _, _ => h0
  | x :: xs, acc, ρ, k, h0, hl, hs => by
    have h1 := hs 0 x acc ρ rfl h0
    have sh : ∀ acc' ρ', Inv (k + 0 + 1) acc' ρ' → acc'.length + xs.length ≤ 1000000 → Aft (lcLoop a c e own xs acc' ρ') fun acc' ρ' => Inv (k + (x :: xs).length) acc' ρ' := fun acc' ρ' h2 hl2 => by
      have := lc_inv (a := a) (c := c) (e := e) (own := own) Inv (xs := xs) (k + 1) h2 hl2 fun i y acc ρ hy hi => by
        have h3 := hs (i + 1) y acc ρ (by simpa using hy) (by rw [show k + (i + 1) = k + 1 + i by omega]; exact hi)
        rw [show k + 1 + i + 1 = k + (i + 1) + 1 by omega]
        exact h3
      rw [show k + (x :: xs).length = k + 1 + xs.length by simp; omega]
      exact this
    simp only [List.length_cons] at hl
    show Aft (match lcStep a c e x ρ with | .no => .no | .ex n fs ρ' => .ex n fs ρ' | .ok none ρ' => lcLoop a c e own xs acc (wipeE ρ' own) | .ok (some t) ρ' => if acc.length < 1000000 then lcLoop a c e own xs (acc ++ [t]) (wipeE ρ' own) else .no) _
    cases es : lcStep a c e x ρ with
    | no => rw [es] at h1; exact h1.elim
    | ex _ _ _ => rw [es] at h1; exact h1.elim
    | ok o ρ' =>
      rw [es] at h1
      cases o with
      | none => exact sh acc _ (by have h2 : Inv (k + 0 + 1) (acc ++ []) (wipeE ρ' own) := h1; simpa using h2) (by omega)
      | some t =>
        dsimp only
        rw [if_pos (by omega)]
        exact sh (acc ++ [t]) _ h1 (by simp; omega)
theorem aft_lc {it : M (List T)} {a : T → M Unit} {c : M Bool} {e : M T} {own : List Nat} {ρ : Env} {P : T → Env → Prop} : Aft (lcM it a c e own ρ) P = Aft (it ρ) (fun xs ρ' => Aft (lcLoop a c e own xs [] (wipeE ρ' own)) (fun acc ρ2 => P (.lst true acc) ρ2)) := by
  unfold lcM
  rw [aft_bind]
  congr 1
  funext xs ρ'
  rw [aft_bind]
  rfl
theorem aft_lcStep {a : T → M Unit} {c : M Bool} {e : M T} {x : T} {ρ : Env} {P : Option T → Env → Prop} : Aft (lcStep a c e x ρ) P = Aft (a x ρ) (fun _ ρ1 => Aft (c ρ1) (fun k ρ2 => if k = true then Aft (e ρ2) (fun t ρ3 => P (some t) ρ3) else P none ρ2)) := by
  unfold lcStep
  rw [aft_bind]
  congr 1
  funext _ ρ1
  rw [aft_bind]
  congr 1
  funext k ρ2
  cases k
  · rfl
  · show Aft (M.bind e (fun t => M.pure (some t)) ρ2) P = _
    rw [aft_bind]
    rfl
/-- a comprehension that looks at each item alone -/
theorem lc_map {a : T → M Unit} {c : M Bool} {e : M T} {own : List Nat} {xs : List T} {ρ : Env} {g : T → List T} (hl : xs.length ≤ 1000000) (hs : ∀ x ∈ xs, Aft (lcStep a c e x ρ) fun o ρ' => o.toList = g x ∧ wipeE ρ' own = ρ) :
    Aft (lcLoop a c e own xs [] ρ) fun acc ρ' => acc = (xs.map g).flatten ∧ ρ' = ρ := by
  have := lc_inv (a := a) (c := c) (e := e) (own := own) (fun i acc ρ' => acc = ((xs.take i).map g).flatten ∧ ρ' = ρ) (xs := xs) (acc := []) (ρ := ρ) 0 ⟨by simp, rfl⟩ (by simpa using hl) fun i x acc ρ' hx ⟨h1, h2⟩ => by
    subst h2
    refine (hs x (List.mem_of_getElem? hx)).mono fun o ρ2 ⟨e1, e2⟩ => ⟨?_, e2⟩
    rw [e1, h1, Nat.zero_add]
    have : xs.take (i + 1) = xs.take i ++ [x] := by
      obtain ⟨h3, h4⟩ := List.getElem?_eq_some_iff.mp hx
      rw [List.take_succ, hx]; rfl
    rw [this]
    simp
  refine this.mono fun acc ρ' ⟨h1, h2⟩ => ⟨?_, h2⟩
  rw [h1, Nat.zero_add, List.take_length]

/-! ### data that can be shown and compared -/
structure Nic (t : T) (dp bk : Nat) : Prop where
  ex : ∃ d, t.dat = some d ∧ d.canLay0 = true ∧ d.depth ≤ dp ∧ d.showable = true ∧ d.hasDict = false ∧ d.leavesShort 13 = true ∧ d.bulk ≤ bk
theorem Nic.mono {t : T} {dp bk dp' bk' : Nat} (h : Nic t dp bk) (h1 : dp ≤ dp') (h2 : bk ≤ bk') : Nic t dp' bk' := by
  obtain ⟨d, a, b, c, e, f, g, i⟩ := h.ex
  exact ⟨d, a, b, by omega, e, f, g, by omega⟩
theorem nic_int {i : Int} (h1 : -999999999999 ≤ i) (h2 : i ≤ 999999999999) : Nic (.atom (.int i)) 0 0 := by
  refine ⟨.int i, rfl, rfl, Nat.le_refl _, ?_, rfl, ?_, Nat.le_refl _⟩
  · simp only [PyData.showable, decide_eq_true_eq]
    have : i.natAbs < 2 ^ 40 := by omega
    have := (Nat.log2_lt (n := i.natAbs) (k := 40))
    by_cases e : i.natAbs = 0
    · rw [e]; decide
    · exact Nat.lt_trans ((Nat.log2_lt e).mpr (by omega : i.natAbs < 2 ^ 40)) (by decide)
  · simp only [PyData.leavesShort, decide_eq_true_eq]
    exact PyData.shown_int_le2 h1 h2
theorem nic_str {x : Str} (h : (x.cps.toList.all fun c => decide (c < 0x110000)) = true) : Nic (.atom (.str x)) 0 x.cps.size := by
  refine ⟨.str x, rfl, ?_, Nat.le_refl _, rfl, rfl, ?_, Nat.le_refl _⟩
  · simp only [PyData.canLay0, PyData.strOk]
    rw [← Array.all_toList]
    exact h
  · simp only [PyData.leavesShort]
    rw [List.all_eq_true] at h ⊢
    intro c hc
    have := h c hc
    simp only [decide_eq_true_eq] at this ⊢
    exact Nat.lt_of_lt_of_le this (by decide)
theorem nics {dp bk : Nat} : ∀ {ts : List T}, (∀ t ∈ ts, Nic t dp bk) → ∃ ds, T.dats ts = some ds ∧ PyData.canLayAll0 ds = true ∧ PyData.depthAll ds ≤ dp ∧ PyData.showableAll ds = true ∧ PyData.hasDictAll ds = false ∧ PyData.leavesShortAll 13 ds = true ∧ PyData.bulkAll ds ≤ ts.length * (bk + 1)
  | [], _ => ⟨[], rfl, rfl, Nat.zero_le _, rfl, rfl, rfl, Nat.zero_le _⟩
  | t :: ts, h => by
    obtain ⟨d, a, b, c, e, f, g, i⟩ := (h t List.mem_cons_self).ex
    obtain ⟨ds, a2, b2, c2, e2, f2, g2, i2⟩ := nics fun t ht => h t (List.mem_cons_of_mem _ ht)
    refine ⟨d :: ds, by simp [T.dats, a, a2], by simp [PyData.canLayAll0, b, b2], by simp [PyData.depthAll]; omega, by simp [PyData.showableAll, e, e2], by simp [PyData.hasDictAll, f, f2], by simp [PyData.leavesShortAll, g, g2], ?_⟩
    simp only [PyData.bulkAll, List.length_cons]
    rw [Nat.add_mul]
    omega
theorem nic_tup {ts : List T} {dp bk : Nat} (h : ∀ t ∈ ts, Nic t dp bk) : Nic (.tup ts) (dp + 1) (ts.length * (bk + 1)) := by
  obtain ⟨ds, a2, b2, c2, e2, f2, g2, i2⟩ := nics h
  exact ⟨.tuple ds, by simp [T.dat, a2], by simpa [PyData.canLay0] using b2, by simp [PyData.depth]; omega, by simpa [PyData.showable] using e2, by simpa [PyData.hasDict] using f2, by simpa [PyData.leavesShort] using g2, by simpa [PyData.bulk] using i2⟩
theorem nic_lst {ts : List T} {b : Bool} {dp bk : Nat} (h : ∀ t ∈ ts, Nic t dp bk) : Nic (.lst b ts) (dp + 1) (ts.length * (bk + 1)) := by
  obtain ⟨ds, a2, b2, c2, e2, f2, g2, i2⟩ := nics h
  exact ⟨.list ds, by simp [T.dat, a2], by simpa [PyData.canLay0] using b2, by simp [PyData.depth]; omega, by simpa [PyData.showable] using e2, by simpa [PyData.hasDict] using f2, by simpa [PyData.leavesShort] using g2, by simpa [PyData.bulk] using i2⟩
theorem Nic.repr {t : T} {bk : Nat} (h : Nic t 60 bk) (hb : bk ≤ 2 ^ 20) (ht : ∀ v, t ≠ .atom v) : ∃ d, t.dat = some d ∧ reprT t = some (.atom (.str d.shown)) := by
  obtain ⟨d, a, b, c, e, f, g, i⟩ := h.ex
  refine ⟨d, a, ?_⟩
  unfold reprT
  cases t with
  | atom v => exact absurd rfl (ht v)
  | hole => simp [T.dat] at a
  | dct _ _ _ => simp [T.dat] at a
  | obj _ _ _ => simp [T.dat] at a
  | _ =>
    dsimp only
    rw [a]
    dsimp only
    rw [if_pos ⟨e, f, c, PyData.shown_fits_bulk (by decide) (by decide) g (by omega)⟩]
theorem shaped_of {d : PyData} (h1 : d.canLay0 = true) (h2 : d.depth ≤ 60) : SeqAt.shaped d = true := by
  unfold SeqAt.shaped
  rw [h1, Bool.true_and, decide_eq_true_eq]
  omega
/-- equal data are found equal -/
theorem eq_same {t u : T} {bk bk' : Nat} (h : Nic t 60 bk) (h' : Nic u 60 bk') (e : t.dat = u.dat) : eqT t u = some (.atom (.bl true)) ∧ neT t u = some (.atom (.bl false)) := by
  obtain ⟨d, a, b, c, _⟩ := h.ex
  obtain ⟨d', a', b', c', _⟩ := h'.ex
  rw [a, a'] at e
  cases e
  have s := shaped_of b c
  have r := SeqAt.eqv_refl d b
  constructor
  · simp only [eqT, a, a', s, and_self, if_true, r]
  · simp only [neT, a, a', s, and_self, if_true, r, Bool.not_true]

/-! ### pairs in order -/
def prT (p : Int × Int) : T := .tup [.atom (.int p.1), .atom (.int p.2)]
def ple (p q : Int × Int) : Bool := decide (p.1 < q.1) || (decide (p.1 = q.1) && decide (p.2 ≤ q.2))
theorem ple_total (p q : Int × Int) : (ple p q || ple q p) = true := by
  simp only [ple, Bool.or_eq_true, Bool.and_eq_true, decide_eq_true_eq]
  omega
theorem ple_trans (p q r : Int × Int) (h1 : ple p q = true) (h2 : ple q r = true) : ple p r = true := by
  simp only [ple, Bool.or_eq_true, Bool.and_eq_true, decide_eq_true_eq] at *
  omega
theorem ple_anti (p q : Int × Int) (h1 : ple p q = true) (h2 : ple q p = true) : p = q := by
  simp only [ple, Bool.or_eq_true, Bool.and_eq_true, decide_eq_true_eq] at *
  exact Prod.ext (by omega) (by omega)
def psort (ps : List (Int × Int)) : List (Int × Int) := ps.mergeSort ple
theorem psort_perm (ps : List (Int × Int)) : (psort ps).Perm ps := List.mergeSort_perm _ _
theorem psort_sorted (ps : List (Int × Int)) : (psort ps).Pairwise fun p q => ple p q = true := List.pairwise_mergeSort ple_trans ple_total ps
theorem sorted_unique {ps qs : List (Int × Int)} (h : ps.Perm qs) (h1 : ps.Pairwise fun p q => ple p q = true) (h2 : qs.Pairwise fun p q => ple p q = true) : ps = qs :=
  List.Perm.eq_of_pairwise (fun a b _ _ => ple_anti a b) h1 h2 h
theorem psort_of {ps qs : List (Int × Int)} (h : ps.Perm qs) : psort ps = psort qs := sorted_unique ((psort_perm ps).trans (h.trans (psort_perm qs).symm)) (psort_sorted _) (psort_sorted _)
theorem psort_id {ps : List (Int × Int)} (h : ps.Pairwise fun p q => ple p q = true) : psort ps = ps := sorted_unique (psort_perm ps) (psort_sorted _) h
theorem le_pr (p q : Int × Int) : PySem.W.dataLe false T.datD (prT p) (prT q) = ple p q := by
  obtain ⟨a, b⟩ := p
  obtain ⟨c, d⟩ := q
  simp only [PySem.W.dataLe, PySem.W.sortLe, prT, T.datD, T.dat, T.dats, Option.map_some, Option.getD_some, cond_false, PySem.W.keyToks, PySem.W.keyToksAll, List.append_nil, List.singleton_append, List.cons_append, List.nil_append, ple]
  simp only [PyProof.Rows.lexLt, PyProof.Rows.itemOrd, PyProof.Rows.itemLt]
  rw [Bool.eq_iff_iff]
  simp
  omega
theorem le_int (a b : Int) : PySem.W.dataLe false T.datD (.atom (.int a)) (.atom (.int b)) = decide (a ≤ b) := by
  simp only [PySem.W.dataLe, PySem.W.sortLe, T.datD, T.dat, Option.getD_some, cond_false, PySem.W.keyToks]
  simp only [PyProof.Rows.lexLt, PyProof.Rows.itemOrd, PyProof.Rows.itemLt]
  rw [Bool.eq_iff_iff]
  simp
theorem pr_imm (p : Int × Int) : (prT p).imm = true := rfl
theorem pr_datD (p : Int × Int) : (prT p).datD = .tuple [.int p.1, .int p.2] := rfl
theorem prs_ok (ps : List (Int × Int)) (hl : ps.length ≤ 1000000) : SortOk (ps.map prT) := by
  refine ⟨imms_map fun _ _ => rfl, fun t ht => ?_, fun d hd d' hd' => ?_, .inl fun d hd => ?_, by simpa using hl⟩
  · obtain ⟨p, _, rfl⟩ := List.mem_map.mp ht
    exact ⟨rfl, by rw [pr_datD]; simp [PyData.depth, PyData.depthAll]⟩
  · obtain ⟨t, ht, rfl⟩ := List.mem_map.mp hd
    obtain ⟨p, _, rfl⟩ := List.mem_map.mp ht
    obtain ⟨t', ht', rfl⟩ := List.mem_map.mp hd'
    obtain ⟨p', _, rfl⟩ := List.mem_map.mp ht'
    rw [pr_datD, pr_datD]
    simp [PySem.W.alike, PySem.W.alikeAll]
  · obtain ⟨t, ht, rfl⟩ := List.mem_map.mp hd
    obtain ⟨p, _, rfl⟩ := List.mem_map.mp ht
    exact ⟨_, _, pr_datD p⟩
theorem sort_prs {b : Bool} (ps : List (Int × Int)) (hl : ps.length ≤ 1000000) : sortT (.lst b (ps.map prT)) = some (.lst true ((psort ps).map prT)) := by
  unfold sortT
  dsimp only
  rw [if_pos (prs_ok ps hl)]
  unfold psort
  rw [List.map_mergeSort (s := PySem.W.dataLe false T.datD) fun a _ b _ => (le_pr a b).symm]
def isort (ns : List Int) : List Int := ns.mergeSort fun a b => decide (a ≤ b)
theorem ints_ok (ns : List Int) (hl : ns.length ≤ 1000000) : SortOk (ns.map tI) := by
  refine ⟨imms_map fun _ _ => rfl, fun t ht => ?_, fun d hd d' hd' => ?_, .inr fun d hd => ?_, by simpa using hl⟩
  · obtain ⟨p, _, rfl⟩ := List.mem_map.mp ht
    exact ⟨rfl, Nat.zero_le _⟩
  · obtain ⟨t, ht, rfl⟩ := List.mem_map.mp hd
    obtain ⟨p, _, rfl⟩ := List.mem_map.mp ht
    obtain ⟨t', ht', rfl⟩ := List.mem_map.mp hd'
    obtain ⟨p', _, rfl⟩ := List.mem_map.mp ht'
    simp [PySem.W.alike, T.datD, T.dat, tI]
  · obtain ⟨t, ht, rfl⟩ := List.mem_map.mp hd
    obtain ⟨p, _, rfl⟩ := List.mem_map.mp ht
    exact ⟨by simp [T.datD, T.dat, tI], fun xs => by simp [T.datD, T.dat, tI]⟩
theorem sort_ints {b : Bool} (ns : List Int) (hl : ns.length ≤ 1000000) : sortT (.lst b (ns.map tI)) = some (.lst true ((isort ns).map tI)) := by
  unfold sortT
  dsimp only
  rw [if_pos (ints_ok ns hl)]
  unfold isort
  rw [List.map_mergeSort (f := tI) (r := fun a b => decide (a ≤ b)) (s := PySem.W.dataLe false T.datD) fun a _ b _ => (le_int a b).symm]
theorem isort_unique {ns ms : List Int} (h : ns.Perm ms) (hs : ms.Pairwise (· ≤ ·)) : isort ns = ms := by
  refine List.Perm.eq_of_pairwise (le := (· ≤ ·)) (fun a b _ _ h1 h2 => Int.le_antisymm h1 h2) ?_ hs ((List.mergeSort_perm _ _).trans h)
  have := List.pairwise_mergeSort (le := fun (a b : Int) => decide (a ≤ b)) (fun a b c h1 h2 => by simp at *; omega) (fun a b => by simp; omega) ns
  exact this.imp fun h => by simpa using h
end VS
/-! W3: more steps. -/
namespace VS
open PySem L2
section
theorem hole_atom {v : V} : (T.atom v).isHole = false := rfl
theorem hole_tup {ts : List T} : (T.tup ts).isHole = false := rfl
theorem hole_lst {b : Bool} {ts : List T} : (T.lst b ts).isHole = false := rfl
theorem hole_ro {ts : List T} : (T.ro ts).isHole = false := rfl
theorem hole_dct {b : Bool} {ks : List Key} {ts : List T} : (T.dct b ks ts).isHole = false := rfl
theorem hole_hole : T.hole.isHole = true := rfl
theorem tru_bl {b : Bool} : (T.atom (.bl b)).tru = some b := rfl
theorem tru_int {i : Int} : (T.atom (.int i)).tru = some (i != 0) := rfl
theorem tru_non : (T.atom .non).tru = some false := rfl
theorem tru_lst {b : Bool} {ts : List T} : (T.lst b ts).tru = some (!ts.isEmpty) := rfl
theorem tru_tup {ts : List T} : (T.tup ts).tru = some (!ts.isEmpty) := rfl
theorem eq_int {i j : Int} : eqT (.atom (.int i)) (.atom (.int j)) = some (.atom (.bl (i == j))) := by simp [eqT, T.dat, SeqAt.shaped, PyData.canLay0, PyData.depth, PyData.eqv]
theorem ne_int {i j : Int} : neT (.atom (.int i)) (.atom (.int j)) = some (.atom (.bl (!(i == j)))) := by simp [neT, T.dat, SeqAt.shaped, PyData.canLay0, PyData.depth, PyData.eqv]
theorem eq_nilT {x : T} {xs : List T} {dp bk : Nat} (h : Nic (.tup (x :: xs)) dp bk) (hd : dp ≤ 60) : eqT (.tup (x :: xs)) (.tup []) = some (.atom (.bl false)) := by
  obtain ⟨d, a, b, c, _⟩ := h.ex
  have a' := a
  simp only [T.dat, Option.map_eq_some_iff] at a'
  obtain ⟨ds, e1, rfl⟩ := a'
  obtain ⟨y, ys, rfl⟩ : ∃ y ys, ds = y :: ys := by
    simp only [T.dats] at e1
    split at e1
    · cases e1; exact ⟨_, _, rfl⟩
    · cases e1
  have s := shaped_of b (by omega)
  have s2 : SeqAt.shaped (.tuple []) = true := rfl
  have a2 : (T.tup []).dat = some (.tuple []) := rfl
  have v : PyData.eqv (.tuple (y :: ys)) (.tuple []) = false := by simp [PyData.eqv, PyData.eqvAll]
  simp only [eqT, a, a2, s, s2, and_self, if_true, v]
theorem ne_nilL {b b' : Bool} {x : T} {xs : List T} {dp bk : Nat} (h : Nic (.lst b (x :: xs)) dp bk) (hd : dp ≤ 60) : neT (.lst b (x :: xs)) (.lst b' []) = some (.atom (.bl true)) := by
  obtain ⟨d, a, b, c, _⟩ := h.ex
  have a' := a
  simp only [T.dat, Option.map_eq_some_iff] at a'
  obtain ⟨ds, e1, rfl⟩ := a'
  obtain ⟨y, ys, rfl⟩ : ∃ y ys, ds = y :: ys := by
    simp only [T.dats] at e1
    split at e1
    · cases e1; exact ⟨_, _, rfl⟩
    · cases e1
  have s := shaped_of b (by omega)
  have s2 : SeqAt.shaped (.list []) = true := rfl
  have a2 : (T.lst b' []).dat = some (.list []) := rfl
  have v : PyData.eqv (.list (y :: ys)) (.list []) = false := by simp [PyData.eqv, PyData.eqvAll]
  simp only [neT, a, a2, s, s2, and_self, if_true, v, Bool.not_false]
theorem ne_nilN {b b' : Bool} : neT (.lst b []) (.lst b' []) = some (.atom (.bl false)) := by
  simp [neT, T.dat, T.dats, SeqAt.shaped, PyData.canLay0, PyData.canLayAll0, PyData.depth, PyData.depthAll, PyData.eqv, PyData.eqvAll]
theorem all_lst {b : Bool} {xs : List T} {bs : List Bool} (h : T.bools xs = some bs) : allT (.lst b xs) = some (.atom (.bl (bs.all id))) := by simp [allT, h]
theorem bools_const {xs : List T} {c : Bool} (h : ∀ x ∈ xs, x = .atom (.bl c)) : T.bools xs = some (xs.map fun _ => c) := by
  induction xs with
  | nil => rfl
  | cons x xs ih =>
    have hx := h x List.mem_cons_self
    subst hx
    simp [T.bools, ih fun y hy => h y (List.mem_cons_of_mem _ hy)]
theorem lt_ii {i j : Int} : ltT (.atom (.int i)) (.atom (.int j)) = some (.atom (.bl (decide (i < j)))) := rfl
theorem le_ii {i j : Int} : leT (.atom (.int i)) (.atom (.int j)) = some (.atom (.bl (decide (i ≤ j)))) := rfl
theorem gt_ii {i j : Int} : gtT (.atom (.int i)) (.atom (.int j)) = some (.atom (.bl (decide (j < i)))) := rfl
theorem ge_ii {i j : Int} : geT (.atom (.int i)) (.atom (.int j)) = some (.atom (.bl (decide (j ≤ i)))) := rfl
theorem sub_ii {i j : Int} : subT (.atom (.int i)) (.atom (.int j)) = some (.atom (.int (i - j))) := rfl
theorem add_ii {i j : Int} : addT (.atom (.int i)) (.atom (.int j)) = some (.atom (.int (i + j))) := rfl
theorem item_tup {xs : List T} {k : Int} : itemT (.tup xs) (.atom (.int k)) = (atI xs k).filter T.imm := rfl
theorem item_lst {b : Bool} {xs : List T} {k : Int} : itemT (.lst b xs) (.atom (.int k)) = (atI xs k).filter T.imm := rfl
theorem item_ro {xs : List T} {k : Int} : itemT (.ro xs) (.atom (.int k)) = (atI xs k).filter T.imm := rfl
theorem len_str {x : Str} (h : x.length ≤ 1000000) : lenT (.atom (.str x)) = some (.atom (.int x.length)) := by
  unfold lenT
  dsimp only
  rw [if_pos (mil h)]
theorem len_lst {b : Bool} {xs : List T} : lenT (.lst b xs) = some (.atom (.int xs.length)) := rfl
theorem len_ro {xs : List T} : lenT (.ro xs) = some (.atom (.int xs.length)) := rfl
theorem len_tup {xs : List T} : lenT (.tup xs) = some (.atom (.int xs.length)) := rfl
theorem int_i {i : Int} : intT (.atom (.int i)) = some (.atom (.int i)) := rfl
theorem int_b {b : Bool} : intT (.atom (.bl b)) = some (.atom (.int (if b then 1 else 0))) := rfl
theorem isN_n : isNT (.atom .non) (.atom .non) = some (.atom (.bl true)) := rfl
theorem isN_i {i : Int} : isNT (.atom (.int i)) (.atom .non) = some (.atom (.bl false)) := rfl
theorem isN_t {xs : List T} : isNT (.tup xs) (.atom .non) = some (.atom (.bl false)) := rfl
theorem notN_n : notNT (.atom .non) (.atom .non) = some (.atom (.bl false)) := rfl
theorem notN_i {i : Int} : notNT (.atom (.int i)) (.atom .non) = some (.atom (.bl true)) := rfl
theorem notN_t {xs : List T} : notNT (.tup xs) (.atom .non) = some (.atom (.bl true)) := rfl
theorem itA_str {x : Str} : itA (.atom (.str x)) = some (sgns x) := rfl
theorem le_pp {a b c d : Int} : leT (.tup [.atom (.int a), .atom (.int b)]) (.tup [.atom (.int c), .atom (.int d)]) = some (.atom (.bl (ple (a, b) (c, d)))) := by
  show (some (leL [a, b] [c, d])).map (fun b => T.atom (.bl b)) = _
  rw [Option.map_some]
  congr 3
  show Ob.lexAt _ _ _ 0 2 = _
  rw [show (2 : Nat) = 1 + 1 from rfl, Ob.lexAt_succ]
  simp only [List.getD_cons_zero, ple]
  by_cases h : a = c
  · subst h
    rw [if_pos (by simp), show (1 : Nat) = 0 + 1 from rfl, Ob.lexAt_succ, Ob.lexAt_zero]
    simp only [List.getD_cons_succ, List.getD_cons_zero]
    by_cases h2 : b = d
    · subst h2; simp
    · rw [if_neg (by simpa using h2)]
      simp
  · rw [if_neg (by simpa using h)]
    rw [Bool.eq_iff_iff]
    simp only [decide_eq_true_eq, Bool.or_eq_true, Bool.and_eq_true]
    omega
theorem max_tt {i j : Int} : maxT (.atom (.int i)) (.atom (.int j)) = some (.atom (.int (max i j))) := by
  show some (T.atom (V.int (if j > i then j else i))) = _
  congr 3
  split <;> omega
theorem min_tt {i j : Int} : minT (.atom (.int i)) (.atom (.int j)) = some (.atom (.int (min i j))) := by
  show some (T.atom (V.int (if j < i then j else i))) = _
  congr 3
  split <;> omega
theorem bool_bl {b : Bool} : (T.atom (.bl b)).bool? = some b := rfl
theorem ty_lst {b : Bool} {ts : List T} : tyN (T.lst b ts) = some "list" := rfl
theorem ty_list {b : Bool} {ts : List T} : (tyN (T.lst b ts) == some "list") = true := rfl
theorem aft_lcCons {a : T → M Unit} {c : M Bool} {e : M T} {own : List Nat} {x : T} {xs acc : List T} {ρ : Env} {P : List T → Env → Prop} : Aft (lcLoop a c e own (x :: xs) acc ρ) P = Aft (lcStep a c e x ρ) (fun o ρ' => match o with | none => Aft (lcLoop a c e own xs acc (wipeE ρ' own)) P | some t => acc.length < 1000000 ∧ Aft (lcLoop a c e own xs (acc ++ [t]) (wipeE ρ' own)) P) := by
  show Aft (match lcStep a c e x ρ with | .no => .no | .ex n fs ρ' => .ex n fs ρ' | .ok none ρ' => lcLoop a c e own xs acc (wipeE ρ' own) | .ok (some t) ρ' => if acc.length < 1000000 then lcLoop a c e own xs (acc ++ [t]) (wipeE ρ' own) else .no) _ = _
  cases es : lcStep a c e x ρ with
  | no => rfl
  | ex _ _ _ => rfl
  | ok o ρ' =>
    cases o with
    | none => rfl
    | some t =>
      show Aft (if acc.length < 1000000 then lcLoop a c e own xs (acc ++ [t]) (wipeE ρ' own) else .no) P = (acc.length < 1000000 ∧ Aft (lcLoop a c e own xs (acc ++ [t]) (wipeE ρ' own)) P)
      by_cases h : acc.length < 1000000
      · rw [if_pos h]; simp [h]
      · rw [if_neg h]; simp [h, Aft]
theorem aft_lcNil {a : T → M Unit} {c : M Bool} {e : M T} {own : List Nat} {acc : List T} {ρ : Env} {P : List T → Env → Prop} : Aft (lcLoop a c e own [] acc ρ) P = P acc ρ := rfl
end
section
variable {ρ : Env} {P : T → Env → Prop} {PB : Bool → Env → Prop} {PC : Ctl → Env → Prop} {PU : Unit → Env → Prop} {PL : List T → Env → Prop}
theorem aft_yes : Aft (yesB ρ) PB = PB true ρ := rfl
theorem aft_dnew : Aft (dnewM ρ) P = P (.dct true [] []) ρ := rfl
theorem aft_mrd {i : Nat} {f : T → List T → Option T} {e : M (List T)} : Aft (mrd i f e ρ) P = At ρ i fun t => (tyN t == some "list") = true ∧ Aft (e ρ) (fun as ρ' => At ρ' i fun t => t.isHole = false ∧ ∃ u, f t as = some u ∧ P u ρ') := by
  unfold mrd
  rw [aft_bind]
  unfold lsr At
  cases e1 : ρ[i]? with
  | none => rfl
  | some t =>
    dsimp only
    by_cases c : (tyN t == some "list") = true
    · rw [if_pos c]
      simp only [aft_ok, c, true_and]
      rw [aft_bind]
      congr 1
      funext as ρ'
      rw [aft_pk]
      rfl
    · rw [if_neg c]
      simp [Aft, c]
theorem aft_tab {tab : List (Str × V)} {f : V → T} {m : M T} : Aft (tabM tab f m ρ) P = Aft (m ρ) (fun t ρ' => ∃ u, tabT tab f t = some u ∧ P u ρ') := by
  unfold tabM
  rw [aft_bind]
  congr 1
  funext t ρ'
  rw [aft_lift]
theorem aft_match {e : M T} {cs : List (List Str × M Ctl)} : Aft (matchM e cs ρ) PC = Aft (e ρ) (fun t ρ' => ∃ y, t = .atom (.str y) ∧ Aft (casesM cs y ρ') PC) := by
  unfold matchM
  rw [aft_bind]
  congr 1
  funext t ρ'
  apply propext
  constructor
  · intro h
    split at h
    · exact ⟨_, rfl, h⟩
    · exact h.elim
  · rintro ⟨y, rfl, h⟩
    exact h
theorem aft_mth {i : Nat} {f : List T → List T → Option (T × List T)} {e : M (List T)} : Aft (mth i f e ρ) P = At ρ i fun t => (∃ xs, t = .lst true xs) ∧ Aft (e ρ) (fun as ρ' => At ρ' i fun t => ∃ xs, t = .lst true xs ∧ ∃ r xs', f xs as = some (r, xs') ∧ P r (ρ'.set i (.lst true xs'))) := by
  unfold mth
  rw [aft_bind]
  unfold lsv At
  cases e1 : ρ[i]? with
  | none => rfl
  | some t =>
    dsimp only
    have key : ∀ xs, t = .lst true xs → (Aft (M.bind e (fun as ρ => match ρ[i]? with
        | some (.lst true xs) => (match f xs as with
          | some (r, xs') => .ok r (ρ.set i (.lst true xs'))
          | none => .no)
        | _ => .no) ρ) P = Aft (e ρ) (fun as ρ' => match ρ'[i]? with
          | some t => ∃ xs, t = .lst true xs ∧ ∃ r xs', f xs as = some (r, xs') ∧ P r (ρ'.set i (.lst true xs'))
          | none => False)) := fun xs ht => by
      rw [aft_bind]
      congr 1
      funext as ρ'
      cases e2 : ρ'[i]? with
      | none => rfl
      | some u =>
        dsimp only
        cases u with
        | lst o ys =>
          cases o with
          | false => simp [Aft]
          | true =>
            dsimp only
            cases ef : f ys as with
            | none =>
              simp only [Aft, eq_iff_iff, false_iff]
              rintro ⟨zs, e3, r, xs', e4, _⟩
              cases e3
              rw [ef] at e4
              cases e4
            | some p =>
              obtain ⟨r, xs'⟩ := p
              apply propext
              constructor
              · intro h; exact ⟨ys, rfl, r, xs', ef, h⟩
              · rintro ⟨zs, e3, r2, xs2, e4, h⟩
                cases e3
                rw [ef] at e4
                cases e4
                exact h
        | _ => simp [Aft]
    cases t with
    | lst o xs =>
      cases o with
      | false => simp [Aft]
      | true =>
        simp only [aft_ok]
        exact (key xs rfl).trans (propext ⟨fun h => ⟨⟨xs, rfl⟩, h⟩, fun h => h.2⟩)
    | _ => simp [Aft]
theorem aft_cutL {i : Nat} {lo hi : M (Option Int)} : Aft (cutL i lo hi ρ) P = At ρ i fun t => t.isHole = false ∧ Aft (lo ρ) (fun l ρ1 => Aft (hi ρ1) (fun h ρ2 => At ρ2 i fun t => t.isHole = false ∧ ∃ u, cutT t l h = some u ∧ P u ρ2)) := by
  unfold cutL
  rw [aft_bind, aft_nh]
  congr 1
  funext t
  congr 1
  rw [aft_bind]
  congr 1
  funext l ρ1
  rw [aft_bind]
  congr 1
  funext h ρ2
  rw [aft_pk]
theorem aft_cutM {a : M T} {lo hi : M (Option Int)} : Aft (cutM a lo hi ρ) P = Aft (a ρ) (fun t ρ0 => Aft (lo ρ0) (fun l ρ1 => Aft (hi ρ1) (fun h ρ2 => ∃ u, cutT t l h = some u ∧ P u ρ2))) := by
  unfold cutM
  rw [aft_bind]
  congr 1
  funext t ρ0
  rw [aft_bind]
  congr 1
  funext l ρ1
  rw [aft_bind]
  congr 1
  funext h ρ2
  rw [aft_lift]
theorem aft_noP {PO : Option Int → Env → Prop} : Aft (noP ρ) PO = PO none ρ := rfl
theorem aft_someP {m : M T} {PO : Option Int → Env → Prop} : Aft (someP m ρ) PO = Aft (m ρ) (fun t ρ' => ∃ i, t = .atom (.int i) ∧ PO (some i) ρ') := by
  unfold someP
  rw [aft_bind]
  congr 1
  funext t ρ'
  apply propext
  constructor
  · intro h
    split at h
    · exact ⟨_, rfl, h⟩
    · exact h.elim
  · rintro ⟨y, rfl, h⟩
    exact h
theorem aft_gstar {a b : T → M Unit} {x : T} {xs : List T} : Aft (gstar a b (.tup (x :: xs)) ρ) PU = (xs.length ≤ 16000 ∧ Aft (a x ρ) (fun _ ρ' => Aft (b (.lst true xs) ρ') PU)) := by
  unfold gstar
  by_cases c : xs.length ≤ 16000
  · simp only [c, if_true, true_and]
    rw [aft_bind]
  · simp [c, M.no, Aft]
theorem aft_enum {r : M (List T)} {PL : List T → Env → Prop} : Aft (enumM r ρ) PL = Aft (r ρ) (fun as ρ' => ∃ t, as = [t] ∧ ∃ xs, itL t = some xs ∧ PL (enumL 0 xs) ρ') := by
  unfold enumM
  rw [aft_bind]
  congr 1
  funext as ρ'
  match as with
  | [] => simp [M.no, Aft]
  | [t] =>
    rw [aft_bind, aft_lift]
    apply propext
    constructor
    · rintro ⟨xs, e, h⟩; exact ⟨t, rfl, xs, e, h⟩
    · rintro ⟨_, e, xs, e2, h⟩; cases e; exact ⟨xs, e2, h⟩
  | _ :: _ :: _ => simp [M.no, Aft]
theorem itL_imm {b : Bool} {xs : List T} (h : T.imms xs = true) : itL (.lst b xs) = some xs := by
  simp only [itL, frzs_imms h, colds_imms h, h, and_self, if_true]
theorem aft_rng {r : M (List T)} {PL : List T → Env → Prop} : Aft (rng1 r ρ) PL = Aft (r ρ) (fun as ρ' => ∃ n : Int, as = [.atom (.int n)] ∧ n < 2 ^ 62 ∧ -(2 ^ 62) ≤ n ∧ PL (rangeL 0 n) ρ') := by
  unfold rng1
  rw [aft_bind]
  congr 1
  funext as ρ'
  apply propext
  constructor
  · intro h
    split at h
    · rename_i n
      rw [aft_ite] at h
      split at h
      · rename_i c; exact ⟨n, rfl, c.1, c.2, h⟩
      · exact h.elim
    · exact h.elim
  · rintro ⟨n, rfl, h1, h2, h⟩
    show Aft ((if n < 2 ^ 62 ∧ -(2 ^ 62) ≤ n then M.pure (rangeL 0 n) else M.no) ρ') PL
    rw [if_pos ⟨h1, h2⟩]
    exact h
theorem aft_setD {i : Nat} {k : M T} {t : T} : Aft (setD i k t ρ) PU = At ρ i fun u => u.isHole = false ∧ Aft (k ρ) (fun n ρ' => At ρ' i fun u => ∃ ks xs kk, u = .dct true ks xs ∧ keyT n = some kk ∧ ks.length < 1000000 ∧ PU () (ρ'.set i (.dct true (putD ks xs kk t).1 (putD ks xs kk t).2))) := by
  unfold setD
  rw [aft_bind, aft_nh]
  congr 1
  funext u
  congr 1
  rw [aft_bind]
  congr 1
  funext n ρ'
  unfold At
  cases e1 : ρ'[i]? with
  | none => rfl
  | some u =>
    cases e2 : keyT n with
    | none =>
      simp only [Aft, eq_iff_iff]
      constructor
      · intro h
        exact h.elim
      · rintro ⟨_, _, _, _, e3, _⟩
        cases e3
    | some kk =>
      cases u with
      | dct o ks xs =>
        cases o with
        | false => simp [Aft]
        | true =>
          dsimp only
          apply propext
          constructor
          · intro h
            by_cases c : ks.length < 1000000
            · rw [if_pos c] at h; exact ⟨ks, xs, kk, rfl, rfl, c, h⟩
            · rw [if_neg c] at h; exact h.elim
          · rintro ⟨_, _, _, e3, e4, c, h⟩
            cases e3
            cases e4
            rw [if_pos c]
            exact h
      | _ => simp [Aft]
theorem hasK_no {ks : List Key} {k : Key} (h : ¬ k ∈ ks) : hasK ks k = false := by
  unfold hasK
  rw [List.any_eq_false]
  intro a ha
  simp only [decide_eq_true_eq]
  exact fun e => h (e ▸ ha)
theorem kIx_no : ∀ {ks : List Key} {k : Key}, ¬ k ∈ ks → kIx ks k = none
  | [], _, _ => rfl
  | a :: ks, k, h => by
    simp only [List.mem_cons, not_or] at h
    unfold kIx
    rw [if_neg fun e => h.1 e.symm, kIx_no h.2]
    rfl
theorem aft_loopC {x : T} {xs : List T} {f : T → M Ctl} : Aft (loopM (x :: xs) f ρ) PC = Aft (f x ρ) (fun c ρ' => match c with | .nx => Aft (loopM xs f ρ') PC | .ct => Aft (loopM xs f ρ') PC | .bk => PC .nx ρ' | .rt t => PC (.rt t) ρ') := by
  show Aft (match f x ρ with | .no => .no | .ex n fs ρ' => .ex n fs ρ' | .ok .nx ρ' => loopM xs f ρ' | .ok .ct ρ' => loopM xs f ρ' | .ok .bk ρ' => .ok .nx ρ' | .ok (.rt t) ρ' => .ok (.rt t) ρ') PC = _
  cases f x ρ with
  | no => rfl
  | ex _ _ _ => rfl
  | ok c ρ' => cases c <;> rfl
theorem aft_loopN {f : T → M Ctl} : Aft (loopM [] f ρ) PC = PC .nx ρ := rfl
theorem eq_str {x y : Str} (h1 : PyData.strOk x = true) (h2 : PyData.strOk y = true) : eqT (.atom (.str x)) (.atom (.str y)) = some (.atom (.bl (x == y))) := by
  simp [eqT, T.dat, SeqAt.shaped, PyData.canLay0, h1, h2, PyData.depth, PyData.eqv]
/-- a comprehension over known things -/
theorem lc_mapP {α : Type} {a : T → M Unit} {c : M Bool} {e : M T} {own : List Nat} {ys : List α} {f g : α → T} {ρ : Env} (hl : ys.length ≤ 1000000) (hs : ∀ y ∈ ys, Aft (lcStep a c e (f y) ρ) fun o ρ' => o = some (g y) ∧ wipeE ρ' own = ρ) :
    Aft (lcLoop a c e own (ys.map f) [] ρ) fun acc ρ' => acc = ys.map g ∧ ρ' = ρ := by
  have := lc_inv (a := a) (c := c) (e := e) (own := own) (fun i acc ρ' => acc = (ys.take i).map g ∧ ρ' = ρ) (xs := ys.map f) (acc := []) (ρ := ρ) 0 ⟨by simp, rfl⟩ (by simpa using hl) fun i x acc ρ' hx ⟨h1, h2⟩ => by
    subst h2
    rw [List.getElem?_map, Option.map_eq_some_iff] at hx
    obtain ⟨y, hy, rfl⟩ := hx
    refine (hs y (List.mem_of_getElem? hy)).mono fun o ρ2 ⟨e1, e2⟩ => ⟨?_, e2⟩
    rw [e1, h1, Nat.zero_add, List.take_succ, hy]
    simp
  refine this.mono fun acc ρ' ⟨h1, h2⟩ => ⟨?_, h2⟩
  rw [h1, Nat.zero_add, List.length_map, List.take_length]
theorem aft_setIx {i : Nat} {k : M T} {t : T} : Aft (setIx i k t ρ) PU = At ρ i fun u => u.isHole = false ∧ Aft (k ρ) (fun n ρ' => At ρ' i fun u => ∃ xs j xs', u = .lst true xs ∧ n = .atom (.int j) ∧ setF j xs t = some xs' ∧ PU () (ρ'.set i (.lst true xs'))) := by
  unfold setIx
  rw [aft_bind, aft_nh]
  congr 1
  funext u
  congr 1
  rw [aft_bind]
  congr 1
  funext n ρ'
  unfold At
  cases e1 : ρ'[i]? with
  | none => rfl
  | some u =>
    apply propext
    constructor
    · intro h
      split at h
      · rename_i xs j e2
        cases e2
        split at h
        · rename_i xs' e3
          exact ⟨xs, j, xs', rfl, rfl, e3, h⟩
        · exact h.elim
      · exact h.elim
    · rintro ⟨xs, j, xs', rfl, rfl, e3, h⟩
      dsimp only
      rw [e3]
      exact h
theorem aft_steal {i : Nat} {b : M T} : Aft (stealM i b ρ) P = At ρ i fun u => u.isHole = false ∧ Aft (b ρ) (fun k ρ' => At ρ' i fun u => ∃ xs n j x, u = .lst true xs ∧ k = .atom (.int n) ∧ ixN xs.length n = some j ∧ xs[j]? = some x ∧ P x (ρ'.set i (.lst true (xs.set j .hole)))) := by
  unfold stealM
  rw [aft_bind, aft_nh]
  congr 1
  funext u
  congr 1
  rw [aft_bind]
  congr 1
  funext k ρ'
  unfold At
  cases e1 : ρ'[i]? with
  | none => rfl
  | some u =>
    apply propext
    constructor
    · intro h
      split at h
      · rename_i xs n e2
        cases e2
        split at h
        · rename_i j e3
          split at h
          · rename_i x e4
            exact ⟨xs, n, j, x, rfl, rfl, e3, e4, h⟩
          · exact h.elim
        · exact h.elim
      · exact h.elim
    · rintro ⟨xs, n, j, x, rfl, rfl, e3, e4, h⟩
      dsimp only
      rw [e3]
      dsimp only
      rw [e4]
      exact h
theorem while_dec {c : M Bool} {b : M Ctl} (Inv : Nat → Env → Prop) (Q : Env → Prop) (hs : ∀ n ρ, Inv n ρ → Aft (c ρ) fun k ρ1 => if k = true then Aft (b ρ1) (fun ct ρ2 => ct = .nx ∧ ∃ m, m < n ∧ Inv m ρ2) else Q ρ1) :
    ∀ (n : Nat) (ρ : Env), Inv n ρ → ∃ N ρ', whileN c b N ρ = .ok .nx ρ' ∧ Q ρ' := fun n => by
  induction n using Nat.strongRecOn with
  | _ n ih =>
    intro ρ h
    have h1 := hs n ρ h
    cases e1 : c ρ with
    | no => rw [e1] at h1; exact h1.elim
    | ex _ _ _ => rw [e1] at h1; exact h1.elim
    | ok k ρ1 =>
      rw [e1] at h1
      cases k with
      | false => exact ⟨1, ρ1, by simp only [whileN, e1], by simpa [Aft] using h1⟩
      | true =>
        have h2 : Aft (b ρ1) (fun ct ρ2 => ct = .nx ∧ ∃ m, m < n ∧ Inv m ρ2) := by simpa [Aft] using h1
        cases e2 : b ρ1 with
        | no => rw [e2] at h2; exact h2.elim
        | ex _ _ _ => rw [e2] at h2; exact h2.elim
        | ok ct ρ2 =>
          rw [e2] at h2
          obtain ⟨rfl, m, hm, h3⟩ := h2
          obtain ⟨N, ρ', e3, q⟩ := ih m hm ρ2 h3
          exact ⟨N + 1, ρ', by simp only [whileN, e1, e2]; exact e3, q⟩
theorem aft_while {c : M Bool} {b : M Ctl} {Q : Env → Prop} (h : ∃ N ρ', whileN c b N ρ = .ok .nx ρ' ∧ Q ρ') : Aft (whileM c b ρ) fun ct ρ' => ct = .nx ∧ Q ρ' := by
  obtain ⟨N, ρ', e, q⟩ := h
  rw [whileM_eq e]
  exact ⟨rfl, q⟩
end
end VS
namespace G
open PySem L2 VS
def top (i : Nat) : Stmt := PySem.Challenge.pw_touchcontest_k69_reordered_layouts.main.body.getD i (.Pass ⟨0, 0, 0, 0⟩)
section
variable {P : Program} {w : World} {K : PySem.W.Frag} {mg : Str → Option Value} {base : Heap}
abbrev c_AXES : List V := [.str "x", .str "y", .str "any"]
abbrev c_GREATEST : Int := 1000000000
abbrev c_MOST_BESIDE : Int := 28
abbrev c_MOST_RECOGNIZERS : Int := 8
abbrev c_MOST_VIEWS : Int := 12
abbrev c_MOST_WAITS : Int := 12
abbrev c_SIGNS : Str := "abcdefghijklmnopqrstuvwxyz0123456789"
abbrev c_SIZES : List (Str × V) := [("touch", .int 0), ("tap", .int 2), ("taps", .int 4), ("long", .int 2), ("drag", .int 2), ("pinch", .int 1)]
structure Txt (K : PySem.W.Frag) (w : World) (mg : Str → Option Value) : Prop where
  b_all : mg "all" = none
  b_bool : mg "bool" = none
  b_enumerate : mg "enumerate" = none
  b_int : mg "int" = none
  b_isinstance : mg "isinstance" = none
  b_len : mg "len" = none
  b_list : mg "list" = none
  b_max : mg "max" = none
  b_min : mg "min" = none
  b_range : mg "range" = none
  b_repr : mg "repr" = none
  b_sorted : mg "sorted" = none
  b_str : mg "str" = none
  b_tuple : mg "tuple" = none
  g_AXES : ∃ a : Addr, mg "AXES" = some (.ref a) ∧ KTup K a c_AXES
  g_GREATEST : ∃ u : Value, mg "GREATEST" = some u ∧ RelV (.int c_GREATEST) u
  g_MOST_BESIDE : ∃ u : Value, mg "MOST_BESIDE" = some u ∧ RelV (.int c_MOST_BESIDE) u
  g_MOST_RECOGNIZERS : ∃ u : Value, mg "MOST_RECOGNIZERS" = some u ∧ RelV (.int c_MOST_RECOGNIZERS) u
  g_MOST_VIEWS : ∃ u : Value, mg "MOST_VIEWS" = some u ∧ RelV (.int c_MOST_VIEWS) u
  g_MOST_WAITS : ∃ u : Value, mg "MOST_WAITS" = some u ∧ RelV (.int c_MOST_WAITS) u
  g_SIGNS : ∃ u : Value, mg "SIGNS" = some u ∧ RelV (.str c_SIGNS) u
  g_SIZES : ∃ a : Addr, mg "SIZES" = some (.ref a) ∧ KTab K w a c_SIZES

structure Cs_is_name (P : Program) (w : World) (K : PySem.W.Frag) (mg : Str → Option Value) (base : Heap) : Prop where
  t : True
abbrev s_is_name : Stmt := top 14
abbrev N_is_name : List Str := ["value", "sign"]
theorem sc_is_name : FnScope N_is_name ["value"] (defScope s_is_name) := ⟨rfl, rfl, rfl, by decide +kernel, rfl, by decide +kernel, by decide +kernel⟩
noncomputable def sem_is_name : M Ctl :=
  (retM (andV (pk 0 (isiT "str")) (andV (chainM leT leT (M.pure (tI 1)) (pk 0 lenT) (M.pure (tI 8))) (un1 allT (consA (lcM (iterA (fzv 0)) (setv 1) yesB (binL inT 1 (M.pure (tS c_SIGNS))) [1]) nilA)))))
noncomputable def run_is_name : List T → Option T := run0 sem_is_name 1
theorem body_is_name (T : Txt K w mg) (C : Cs_is_name P w K mg base) : Body P w K mg base 0 "is_name" s_is_name N_is_name false sem_is_name := by
  intro I0 h0 H0 v0 f cdv A outer s H E hr
  have sc := sc_is_name
  exact (vss_one (vs_ret (ve_and (ve_isiL (i := 0) rfl T.b_isinstance (pv 0) (pe_bltn (v := .ty "str") rfl T.b_str (by decide +kernel) rfl)) (ve_and (ve_chain (opr_le hr.units) rfb_le.rf (opr_le hr.units) rfb_le.rf (ve_c pe_int) (ve_b1L (i := 0) cr_len rcb_len rfl T.b_len (by decide +kernel) (pv 0)) (ve_c pe_int)) (ve_one (ve_b1 (cr_all rfl) rcb_all rfl T.b_all (by decide +kernel) (va_cons (ve_lc (own := [("sign", 1)]) rfl rfl sc.nd (vi_any (ve_fz 0 (pv 0))) (blkOk_by (own := [("sign", 1)]) (N := N_is_name) (sc := defScope s_is_name) (by decide +kernel)) (fun _ _ _ _ _ => (vgo_name 1 (pg_name (i := 1) sc.nd rfl (by first | exact Or.inl rfl | exact Or.inr rfl)))) (fun _ _ _ _ _ => vts_nil) (fun _ _ _ _ _ => (ve_cmpL (i := 1) (opr_in hr.u65) rfb_in (by rfl) (pv 1) (ve_gs rfl (Classical.choose_spec T.g_SIGNS).1 (Classical.choose_spec T.g_SIGNS).2)))) va_nil)))))))

structure Cs_is_integer (P : Program) (w : World) (K : PySem.W.Frag) (mg : Str → Option Value) (base : Heap) : Prop where
  t : True
abbrev s_is_integer : Stmt := top 13
abbrev N_is_integer : List Str := ["value", "first", "last"]
theorem sc_is_integer : FnScope N_is_integer ["value", "first", "last"] (defScope s_is_integer) := ⟨rfl, rfl, rfl, by decide +kernel, rfl, by decide +kernel, by decide +kernel⟩
noncomputable def sem_is_integer : M Ctl :=
  (seqM (ifM (orB (notB (truM (pk 0 (isiT "int")))) (truM (pk 0 (isiT "bool"))))
  (retM (M.pure (tBl false)))
  (M.pure .nx))
  (retM (andV (orV (binL isNT 1 (M.pure tN)) (binL geT 0 (fzv 1))) (orV (binL isNT 2 (M.pure tN)) (binL leT 0 (fzv 2))))))
noncomputable def run_is_integer : List T → Option T := run0 sem_is_integer 0
theorem body_is_integer (T : Txt K w mg) (C : Cs_is_integer P w K mg base) : Body P w K mg base 0 "is_integer" s_is_integer N_is_integer false sem_is_integer := by
  intro I0 h0 H0 v0 f cdv A outer s H E hr
  have sc := sc_is_integer
  exact (vss_cons (vs_if (PW.pt (vw_or (vt_not (vt_tru (ve_isiL (i := 0) rfl T.b_isinstance (pv 0) (pe_bltn (v := .ty "int") rfl T.b_int (by decide +kernel) rfl)))) (pw_or1 (vt_tru (ve_isiL (i := 0) rfl T.b_isinstance (pv 0) (pe_bltn (v := .ty "bool") rfl T.b_bool (by decide +kernel) rfl))))))
  (vss_one (vs_ret (ve_c pe_bl)))
  vss_nil)
  (vss_one (vs_ret (ve_and (ve_or (ve_cmpL (i := 1) opr_is rfb_is (nomark _) (pv 1) (ve_c pe_non)) (ve_one (ve_cmpL (i := 0) (opr_ge hr.units) rfb_ge (nomark _) (pv 0) (ve_fz 1 (pv 1))))) (ve_one (ve_or (ve_cmpL (i := 2) opr_is rfb_is (nomark _) (pv 2) (ve_c pe_non)) (ve_one (ve_cmpL (i := 0) (opr_le hr.units) rfb_le (nomark _) (pv 0) (ve_fz 2 (pv 2))))))))))

structure Cs_is_kind (P : Program) (w : World) (K : PySem.W.Frag) (mg : Str → Option Value) (base : Heap) : Prop where
  c_is_integer : Fn0 P w K mg base 1 "is_integer" 3 run_is_integer
abbrev s_is_kind : Stmt := top 15
abbrev N_is_kind : List Str := ["value", "word", "parts", "part"]
theorem sc_is_kind : FnScope N_is_kind ["value"] (defScope s_is_kind) := ⟨rfl, rfl, rfl, by decide +kernel, rfl, by decide +kernel, by decide +kernel⟩
noncomputable def sem_is_kind : M Ctl :=
  (seqM (ifM (orB (notB (truM (pk 0 (isiT "tuple")))) (orB (boolM (binL eqA 0 (tupM nilA))) (notB (truM (isiM "str" (binL itemT 0 (M.pure (tI 0))))))))
  (retM (M.pure (tBl false)))
  (M.pure .nx))
  (seqM (asgM (fzv 0) (gstar (setv 1) (setv 2)))
  (seqM (ifM (orB (boolM (tabM c_SIZES (fun _ => .atom (.bl false)) (fzv 1))) (cmpB neA (pk 2 lenT) (tabM c_SIZES T.atom (fzv 1))))
  (retM (M.pure (tBl false)))
  (M.pure .nx))
  (seqM (ifM (andB (boolM (binL neA 2 (lstM nilA))) (notB (truM (callM 3 run_is_integer (consA (binL itemT 2 (negV (M.pure (tI 1)))) (consA (M.pure (tI 0)) (consA (M.pure (tI c_GREATEST)) nilA)))))))
  (retM (M.pure (tBl false)))
  (M.pure .nx))
  (seqM (matchM (fzv 1) ((((["tap"] : List Str) ++ ((["long"] : List Str) ++ [])), (retM (callM 3 run_is_integer (consA (binL itemT 2 (M.pure (tI 0))) (consA (M.pure (tI 1)) (consA (M.pure (tI c_GREATEST)) nilA)))))) :: ((["taps"], (retM (andV (callM 3 run_is_integer (consA (binL itemT 2 (M.pure (tI 0))) (consA (M.pure (tI 2)) (consA (M.pure (tI 3)) nilA)))) (un1 allT (consA (lcM (iterA (cutL 2 (someP (M.pure (tI 1))) (someP (M.pure (tI 3))))) (setv 3) yesB (callM 3 run_is_integer (consA (fzv 3) (consA (M.pure (tI 1)) (consA (M.pure (tI c_GREATEST)) nilA)))) [3]) nilA))))) :: ((["drag"], (retM (andV (isiM "str" (binL itemT 2 (M.pure (tI 0)))) (bin inT (binL itemT 2 (M.pure (tI 0))) (M.pure (.tup (c_AXES.map T.atom))))))) :: []))))
  (retM (M.pure (tBl true))))))))
noncomputable def run_is_kind : List T → Option T := run0 sem_is_kind 3
theorem body_is_kind (T : Txt K w mg) (C : Cs_is_kind P w K mg base) : Body P w K mg base 1 "is_kind" s_is_kind N_is_kind false sem_is_kind := by
  intro I0 h0 H0 v0 f cdv A outer s H E hr
  have sc := sc_is_kind
  exact (vss_cons (vs_if (PW.pt (vw_or (vt_not (vt_tru (ve_isiL (i := 0) rfl T.b_isinstance (pv 0) (pe_bltn (v := .ty "tuple") rfl T.b_tuple (by decide +kernel) rfl)))) (vw_or (vt_cmpL (i := 0) (opr_eq hr.units) rfb_eqA (nomark _) (pv 0) (ve_tup va_nil)) (pw_or1 (vt_not (vt_tru (ve_isi rfl T.b_isinstance (ve_ixL (i := 0) (pv 0) (ve_c pe_int)) (pe_bltn (v := .ty "str") rfl T.b_str (by decide +kernel) rfl))))))))
  (vss_one (vs_ret (ve_c pe_bl)))
  vss_nil)
  (vss_cons (vs_asg (ps_asg (ve_fz 0 (pv 0)) (vg_star rfl (vg_name 1 (pg_name (i := 1) sc.nd rfl (by first | exact Or.inl rfl | exact Or.inr rfl))) (vg_name 2 (pg_name (i := 2) sc.nd rfl (by first | exact Or.inl rfl | exact Or.inr rfl))))))
  (vss_cons (vs_if (PW.pt (vw_or (vt_ninK rfl (Classical.choose_spec T.g_SIZES).1 (Classical.choose_spec T.g_SIZES).2 (ve_fz 1 (pv 1))) (pw_or1 (vt_cmp (opr_ne hr.units) rfb_neA.rf (nomark _) (ve_b1L (i := 2) cr_len rcb_len rfl T.b_len (by decide +kernel) (pv 2)) (ve_ixK rfl (Classical.choose_spec T.g_SIZES).1 (Classical.choose_spec T.g_SIZES).2 (ve_fz 1 (pv 1)))))))
  (vss_one (vs_ret (ve_c pe_bl)))
  vss_nil)
  (vss_cons (vs_if (PW.pt (vw_and (vt_cmpL (i := 2) (opr_ne hr.units) rfb_neA (nomark _) (pv 2) (ve_lst va_nil)) (pw_and1 (vt_not (vt_tru (ve_call0 (k := 1) C.c_is_integer hr (by decide) rfl (va_cons (ve_ixL (i := 2) (pv 2) (ve_neg (ve_c pe_int))) (va_cons (ve_c pe_int) (va_cons (ve_gi rfl (Classical.choose_spec T.g_GREATEST).1 (Classical.choose_spec T.g_GREATEST).2) va_nil)))))))))
  (vss_one (vs_ret (ve_c pe_bl)))
  vss_nil)
  (vss_cons (vs_match (ve_fz 1 (pv 1)) (pms_cons (pp_or (pps_cons' pp_val (pps_cons' pp_val pps_nil'))) (vss_one (vs_ret (ve_call0 (k := 1) C.c_is_integer hr (by decide) rfl (va_cons (ve_ixL (i := 2) (pv 2) (ve_c pe_int)) (va_cons (ve_c pe_int) (va_cons (ve_gi rfl (Classical.choose_spec T.g_GREATEST).1 (Classical.choose_spec T.g_GREATEST).2) va_nil)))))) (pms_cons pp_val (vss_one (vs_ret (ve_and (ve_call0 (k := 1) C.c_is_integer hr (by decide) rfl (va_cons (ve_ixL (i := 2) (pv 2) (ve_c pe_int)) (va_cons (ve_c pe_int) (va_cons (ve_c pe_int) va_nil)))) (ve_one (ve_b1 (cr_all rfl) rcb_all rfl T.b_all (by decide +kernel) (va_cons (ve_lc (own := [("part", 3)]) rfl rfl sc.nd (vi_any (ve_cutL (i := 2) (pv 2) (vo_some (ve_c pe_int)) (vo_some (ve_c pe_int)))) (blkOk_by (own := [("part", 3)]) (N := N_is_kind) (sc := defScope s_is_kind) (by decide +kernel)) (fun _ _ _ _ _ => (vgo_name 3 (pg_name (i := 3) sc.nd rfl (by first | exact Or.inl rfl | exact Or.inr rfl)))) (fun _ _ _ _ _ => vts_nil) (fun _ _ _ _ _ => (ve_call0 (k := 1) C.c_is_integer hr (by decide) rfl (va_cons (ve_fz 3 (pv 3)) (va_cons (ve_c pe_int) (va_cons (ve_gi rfl (Classical.choose_spec T.g_GREATEST).1 (Classical.choose_spec T.g_GREATEST).2) va_nil)))))) va_nil)))))) (pms_cons pp_val (vss_one (vs_ret (ve_and (ve_isi rfl T.b_isinstance (ve_ixL (i := 2) (pv 2) (ve_c pe_int)) (pe_bltn (v := .ty "str") rfl T.b_str (by decide +kernel) rfl)) (ve_one (ve_cmp (opr_in hr.u65) rfb_in.rf (by rfl) (ve_ixL (i := 2) (pv 2) (ve_c pe_int)) (ve_gt rfl (Classical.choose_spec T.g_AXES).1 (Classical.choose_spec T.g_AXES).2)))))) pms_nil))))
  (vss_one (vs_ret (ve_c pe_bl))))))))

structure Cs_wrong_recognizer (P : Program) (w : World) (K : PySem.W.Frag) (mg : Str → Option Value) (base : Heap) : Prop where
  c_is_name : Fn0 P w K mg base 1 "is_name" 1 run_is_name
  c_is_kind : Fn0 P w K mg base 2 "is_kind" 1 run_is_kind
  c_is_integer : Fn0 P w K mg base 1 "is_integer" 3 run_is_integer
abbrev s_wrong_recognizer : Stmt := top 19
abbrev N_wrong_recognizer : List Str := ["recognizers", "last", "names", "index", "item"]
theorem sc_wrong_recognizer : FnScope N_wrong_recognizer ["recognizers", "last"] (defScope s_wrong_recognizer) := ⟨rfl, rfl, rfl, by decide +kernel, rfl, by decide +kernel, by decide +kernel⟩
noncomputable def sem_wrong_recognizer : M Ctl :=
  (seqM (asgM dnewM (setv 2))
  (seqM (forM (enumM (consA (fzv 0) nilA)) (gtup 2 (gcons (setv 3) (gcons (setv 4) gnil)))
  (seqM (ifM (orB (notB (truM (pk 4 (isiT "tuple")))) (orB (cmpB neA (pk 4 lenT) (M.pure (tI 3))) (orB (notB (truM (callM 1 run_is_name (consA (binL itemT 4 (M.pure (tI 0))) nilA)))) (boolM (binR inT (binL itemT 4 (M.pure (tI 0))) 2)))))
  (retM (fzv 3))
  (M.pure .nx))
  (seqM (ifM (orB (notB (truM (callM 3 run_is_integer (consA (binL itemT 4 (M.pure (tI 1))) (consA (M.pure (tI 0)) (consA (fzv 1) nilA)))))) (notB (truM (callM 1 run_is_kind (consA (binL itemT 4 (M.pure (tI 2))) nilA)))))
  (retM (fzv 3))
  (M.pure .nx))
  (asgM (fzv 3) (setD 2 (binL itemT 4 (M.pure (tI 0))))))))
  (retM (M.pure tN))))
noncomputable def run_wrong_recognizer : List T → Option T := run0 sem_wrong_recognizer 3
theorem body_wrong_recognizer (T : Txt K w mg) (C : Cs_wrong_recognizer P w K mg base) : Body P w K mg base 2 "wrong_recognizer" s_wrong_recognizer N_wrong_recognizer false sem_wrong_recognizer := by
  intro I0 h0 H0 v0 f cdv A outer s H E hr
  have sc := sc_wrong_recognizer
  exact (vss_cons (vs_set (ps_set (i := 2) sc.nd rfl (by first | exact Or.inl rfl | exact Or.inr rfl) ve_dnew))
  (vss_cons (vs_for PassesOwn.never rfl (vi_enum rfl T.b_enumerate (va_cons (ve_fz 0 (pv 0)) va_nil)) (vg_tup rfl (vgs_cons (vg_name 3 (pg_name (i := 3) sc.nd rfl (by first | exact Or.inl rfl | exact Or.inr rfl))) (vgs_cons (vg_name 4 (pg_name (i := 4) sc.nd rfl (by first | exact Or.inl rfl | exact Or.inr rfl))) vgs_nil)))
  (vss_cons (vs_if (PW.pt (vw_or (vt_not (vt_tru (ve_isiL (i := 4) rfl T.b_isinstance (pv 4) (pe_bltn (v := .ty "tuple") rfl T.b_tuple (by decide +kernel) rfl)))) (vw_or (vt_cmp (opr_ne hr.units) rfb_neA.rf (nomark _) (ve_b1L (i := 4) cr_len rcb_len rfl T.b_len (by decide +kernel) (pv 4)) (ve_c pe_int)) (vw_or (vt_not (vt_tru (ve_call0 (k := 1) C.c_is_name hr (by decide) rfl (va_cons (ve_ixL (i := 4) (pv 4) (ve_c pe_int)) va_nil)))) (pw_or1 (vt_cmpR (i := 2) (opr_in hr.u65) rfb_in (by rfl) (ve_ixL (i := 4) (pv 4) (ve_c pe_int)) (pv 2)))))))
  (vss_one (vs_ret (ve_fz 3 (pv 3))))
  vss_nil)
  (vss_cons (vs_if (PW.pt (vw_or (vt_not (vt_tru (ve_call0 (k := 1) C.c_is_integer hr (by decide) rfl (va_cons (ve_ixL (i := 4) (pv 4) (ve_c pe_int)) (va_cons (ve_c pe_int) (va_cons (ve_fz 1 (pv 1)) va_nil)))))) (pw_or1 (vt_not (vt_tru (ve_call0 (k := 2) C.c_is_kind hr (by decide) rfl (va_cons (ve_ixL (i := 4) (pv 4) (ve_c pe_int)) va_nil)))))))
  (vss_one (vs_ret (ve_fz 3 (pv 3))))
  vss_nil)
  (vss_one (vs_setD (ps_dput (hu_of hr.toRoom) (pv 2) (ve_ixL (i := 4) (pv 4) (ve_c pe_int)) (ve_fz 3 (pv 3)) (by rfl)))))))
  (vss_one (vs_ret (ve_c pe_non)))))

structure Cs_is_list (P : Program) (w : World) (K : PySem.W.Frag) (mg : Str → Option Value) (base : Heap) : Prop where
  t : True
abbrev s_is_list : Stmt := top 16
abbrev N_is_list : List Str := ["value", "most"]
theorem sc_is_list : FnScope N_is_list ["value", "most"] (defScope s_is_list) := ⟨rfl, rfl, rfl, by decide +kernel, rfl, by decide +kernel, by decide +kernel⟩
noncomputable def sem_is_list : M Ctl :=
  (retM (andV (pk 0 (isiT "list")) (binR leT (pk 0 lenT) 1)))
noncomputable def run_is_list : List T → Option T := run0 sem_is_list 0
theorem body_is_list (T : Txt K w mg) (C : Cs_is_list P w K mg base) : Body P w K mg base 0 "is_list" s_is_list N_is_list false sem_is_list := by
  intro I0 h0 H0 v0 f cdv A outer s H E hr
  have sc := sc_is_list
  exact (vss_one (vs_ret (ve_and (ve_isiL (i := 0) rfl T.b_isinstance (pv 0) (pe_bltn (v := .ty "list") rfl T.b_list (by decide +kernel) rfl)) (ve_one (ve_cmpR (i := 1) (opr_le hr.units) rfb_le (nomark _) (ve_b1L (i := 0) cr_len rcb_len rfl T.b_len (by decide +kernel) (pv 0)) (pv 1))))))

structure Cs_is_pair (P : Program) (w : World) (K : PySem.W.Frag) (mg : Str → Option Value) (base : Heap) : Prop where
  c_is_integer : Fn0 P w K mg base 1 "is_integer" 3 run_is_integer
abbrev s_is_pair : Stmt := top 20
abbrev N_is_pair : List Str := ["value", "many", "rising", "part"]
theorem sc_is_pair : FnScope N_is_pair ["value", "many", "rising"] (defScope s_is_pair) := ⟨rfl, rfl, rfl, by decide +kernel, rfl, by decide +kernel, by decide +kernel⟩
noncomputable def sem_is_pair : M Ctl :=
  (seqM (ifM (orB (notB (truM (pk 0 (isiT "tuple")))) (orB (cmpB neA (pk 0 lenT) (M.pure (tI 2))) (notB (truM (un1 allT (consA (lcM (iterA (fzv 0)) (setv 3) yesB (callM 3 run_is_integer (consA (fzv 3) (consA (M.pure (tI 0)) (consA (bin subT (fzv 1) (M.pure (tI 1))) nilA)))) [3]) nilA))))))
  (retM (M.pure (tBl false)))
  (M.pure .nx))
  (retM (orV (bin ltT (binL itemT 0 (M.pure (tI 0))) (binL itemT 0 (M.pure (tI 1)))) (andV (notV (fzv 2)) (bin gtT (binL itemT 0 (M.pure (tI 0))) (binL itemT 0 (M.pure (tI 1))))))))
noncomputable def run_is_pair : List T → Option T := run0 sem_is_pair 1
theorem body_is_pair (T : Txt K w mg) (C : Cs_is_pair P w K mg base) : Body P w K mg base 1 "is_pair" s_is_pair N_is_pair false sem_is_pair := by
  intro I0 h0 H0 v0 f cdv A outer s H E hr
  have sc := sc_is_pair
  exact (vss_cons (vs_if (PW.pt (vw_or (vt_not (vt_tru (ve_isiL (i := 0) rfl T.b_isinstance (pv 0) (pe_bltn (v := .ty "tuple") rfl T.b_tuple (by decide +kernel) rfl)))) (vw_or (vt_cmp (opr_ne hr.units) rfb_neA.rf (nomark _) (ve_b1L (i := 0) cr_len rcb_len rfl T.b_len (by decide +kernel) (pv 0)) (ve_c pe_int)) (pw_or1 (vt_not (vt_tru (ve_b1 (cr_all rfl) rcb_all rfl T.b_all (by decide +kernel) (va_cons (ve_lc (own := [("part", 3)]) rfl rfl sc.nd (vi_any (ve_fz 0 (pv 0))) (blkOk_by (own := [("part", 3)]) (N := N_is_pair) (sc := defScope s_is_pair) (by decide +kernel)) (fun _ _ _ _ _ => (vgo_name 3 (pg_name (i := 3) sc.nd rfl (by first | exact Or.inl rfl | exact Or.inr rfl)))) (fun _ _ _ _ _ => vts_nil) (fun _ _ _ _ _ => (ve_call0 (k := 1) C.c_is_integer hr (by decide) rfl (va_cons (ve_fz 3 (pv 3)) (va_cons (ve_c pe_int) (va_cons (ve_op opr_sub rf_sub (ve_fz 1 (pv 1)) (ve_c pe_int)) va_nil)))))) va_nil))))))))
  (vss_one (vs_ret (ve_c pe_bl)))
  vss_nil)
  (vss_one (vs_ret (ve_or (ve_cmp (opr_lt hr.units) rfb_lt.rf (nomark _) (ve_ixL (i := 0) (pv 0) (ve_c pe_int)) (ve_ixL (i := 0) (pv 0) (ve_c pe_int))) (ve_one (ve_and (ve_not (ve_fz 2 (pv 2))) (ve_one (ve_cmp (opr_gt hr.units) rfb_gt.rf (nomark _) (ve_ixL (i := 0) (pv 0) (ve_c pe_int)) (ve_ixL (i := 0) (pv 0) (ve_c pe_int))))))))))

structure Cs_wrong_pair (P : Program) (w : World) (K : PySem.W.Frag) (mg : Str → Option Value) (base : Heap) : Prop where
  c_is_pair : Fn0 P w K mg base 2 "is_pair" 3 run_is_pair
abbrev s_wrong_pair : Stmt := top 21
abbrev N_wrong_pair : List Str := ["pairs", "many", "rising", "index", "pair"]
theorem sc_wrong_pair : FnScope N_wrong_pair ["pairs", "many", "rising"] (defScope s_wrong_pair) := ⟨rfl, rfl, rfl, by decide +kernel, rfl, by decide +kernel, by decide +kernel⟩
noncomputable def sem_wrong_pair : M Ctl :=
  (seqM (forM (enumM (consA (fzv 0) nilA)) (gtup 2 (gcons (setv 3) (gcons (setv 4) gnil)))
  (ifM (orB (notB (truM (callM 3 run_is_pair (consA (fzv 4) (consA (fzv 1) (consA (fzv 2) nilA)))))) (andB (boolM (binL gtT 3 (M.pure (tI 0)))) (boolM (binL leT 4 (binL itemT 0 (bin subT (fzv 3) (M.pure (tI 1))))))))
  (retM (fzv 3))
  (M.pure .nx)))
  (retM (M.pure tN)))
noncomputable def run_wrong_pair : List T → Option T := run0 sem_wrong_pair 2
theorem body_wrong_pair (T : Txt K w mg) (C : Cs_wrong_pair P w K mg base) : Body P w K mg base 2 "wrong_pair" s_wrong_pair N_wrong_pair false sem_wrong_pair := by
  intro I0 h0 H0 v0 f cdv A outer s H E hr
  have sc := sc_wrong_pair
  exact (vss_cons (vs_for PassesOwn.never rfl (vi_enum rfl T.b_enumerate (va_cons (ve_fz 0 (pv 0)) va_nil)) (vg_tup rfl (vgs_cons (vg_name 3 (pg_name (i := 3) sc.nd rfl (by first | exact Or.inl rfl | exact Or.inr rfl))) (vgs_cons (vg_name 4 (pg_name (i := 4) sc.nd rfl (by first | exact Or.inl rfl | exact Or.inr rfl))) vgs_nil)))
  (vss_one (vs_if (PW.pt (vw_or (vt_not (vt_tru (ve_call0 (k := 2) C.c_is_pair hr (by decide) rfl (va_cons (ve_fz 4 (pv 4)) (va_cons (ve_fz 1 (pv 1)) (va_cons (ve_fz 2 (pv 2)) va_nil)))))) (pw_or1 (PW.pt (vw_and (vt_cmpL (i := 3) (opr_gt hr.units) rfb_gt (nomark _) (pv 3) (ve_c pe_int)) (pw_and1 (vt_cmpL (i := 4) (opr_le hr.units) rfb_le (nomark _) (pv 4) (ve_ixL (i := 0) (pv 0) (ve_op opr_sub rf_sub (ve_fz 3 (pv 3)) (ve_c pe_int))))))))))
  (vss_one (vs_ret (ve_fz 3 (pv 3))))
  vss_nil)))
  (vss_one (vs_ret (ve_c pe_non))))

structure Cs_is_view (P : Program) (w : World) (K : PySem.W.Frag) (mg : Str → Option Value) (base : Heap) : Prop where
  c_is_integer : Fn0 P w K mg base 1 "is_integer" 3 run_is_integer
abbrev s_is_view : Stmt := top 17
abbrev N_is_view : List Str := ["value", "number", "parent", "left", "top", "right", "bottom", "part"]
theorem sc_is_view : FnScope N_is_view ["value", "number"] (defScope s_is_view) := ⟨rfl, rfl, rfl, by decide +kernel, rfl, by decide +kernel, by decide +kernel⟩
noncomputable def sem_is_view : M Ctl :=
  (seqM (ifM (orB (notB (truM (pk 0 (isiT "tuple")))) (orB (cmpB neA (pk 0 lenT) (M.pure (tI 5))) (notB (truM (un1 allT (consA (lcM (iterA (fzv 0)) (setv 7) yesB (callM 3 run_is_integer (consA (fzv 7) (consA (M.pure tN) (consA (M.pure tN) nilA)))) [7]) nilA))))))
  (retM (M.pure (tBl false)))
  (M.pure .nx))
  (seqM (asgM (fzv 0) (gtup 5 (gcons (setv 2) (gcons (setv 3) (gcons (setv 4) (gcons (setv 5) (gcons (setv 6) gnil)))))))
  (retM (andV (chainM leT ltT (M.pure (tI 0)) (fzv 2) (fzv 1)) (andV (binL ltT 3 (fzv 5)) (binL ltT 4 (fzv 6)))))))
noncomputable def run_is_view : List T → Option T := run0 sem_is_view 6
theorem body_is_view (T : Txt K w mg) (C : Cs_is_view P w K mg base) : Body P w K mg base 1 "is_view" s_is_view N_is_view false sem_is_view := by
  intro I0 h0 H0 v0 f cdv A outer s H E hr
  have sc := sc_is_view
  exact (vss_cons (vs_if (PW.pt (vw_or (vt_not (vt_tru (ve_isiL (i := 0) rfl T.b_isinstance (pv 0) (pe_bltn (v := .ty "tuple") rfl T.b_tuple (by decide +kernel) rfl)))) (vw_or (vt_cmp (opr_ne hr.units) rfb_neA.rf (nomark _) (ve_b1L (i := 0) cr_len rcb_len rfl T.b_len (by decide +kernel) (pv 0)) (ve_c pe_int)) (pw_or1 (vt_not (vt_tru (ve_b1 (cr_all rfl) rcb_all rfl T.b_all (by decide +kernel) (va_cons (ve_lc (own := [("part", 7)]) rfl rfl sc.nd (vi_any (ve_fz 0 (pv 0))) (blkOk_by (own := [("part", 7)]) (N := N_is_view) (sc := defScope s_is_view) (by decide +kernel)) (fun _ _ _ _ _ => (vgo_name 7 (pg_name (i := 7) sc.nd rfl (by first | exact Or.inl rfl | exact Or.inr rfl)))) (fun _ _ _ _ _ => vts_nil) (fun _ _ _ _ _ => (ve_call0 (k := 1) C.c_is_integer hr (by decide) rfl (va_cons (ve_fz 7 (pv 7)) (va_cons (ve_c pe_non) (va_cons (ve_c pe_non) va_nil)))))) va_nil))))))))
  (vss_one (vs_ret (ve_c pe_bl)))
  vss_nil)
  (vss_cons (vs_asg (ps_asg (ve_fz 0 (pv 0)) (vg_tup rfl (vgs_cons (vg_name 2 (pg_name (i := 2) sc.nd rfl (by first | exact Or.inl rfl | exact Or.inr rfl))) (vgs_cons (vg_name 3 (pg_name (i := 3) sc.nd rfl (by first | exact Or.inl rfl | exact Or.inr rfl))) (vgs_cons (vg_name 4 (pg_name (i := 4) sc.nd rfl (by first | exact Or.inl rfl | exact Or.inr rfl))) (vgs_cons (vg_name 5 (pg_name (i := 5) sc.nd rfl (by first | exact Or.inl rfl | exact Or.inr rfl))) (vgs_cons (vg_name 6 (pg_name (i := 6) sc.nd rfl (by first | exact Or.inl rfl | exact Or.inr rfl))) vgs_nil))))))))
  (vss_one (vs_ret (ve_and (ve_chain (opr_le hr.units) rfb_le.rf (opr_lt hr.units) rfb_lt.rf (ve_c pe_int) (ve_fz 2 (pv 2)) (ve_fz 1 (pv 1))) (ve_and (ve_cmpL (i := 3) (opr_lt hr.units) rfb_lt (nomark _) (pv 3) (ve_fz 5 (pv 5))) (ve_one (ve_cmpL (i := 4) (opr_lt hr.units) rfb_lt (nomark _) (pv 4) (ve_fz 6 (pv 6))))))))))

structure Cs_wrong_view (P : Program) (w : World) (K : PySem.W.Frag) (mg : Str → Option Value) (base : Heap) : Prop where
  c_is_view : Fn0 P w K mg base 2 "is_view" 2 run_is_view
abbrev s_wrong_view : Stmt := top 18
abbrev N_wrong_view : List Str := ["views", "index", "view"]
theorem sc_wrong_view : FnScope N_wrong_view ["views"] (defScope s_wrong_view) := ⟨rfl, rfl, rfl, by decide +kernel, rfl, by decide +kernel, by decide +kernel⟩
noncomputable def sem_wrong_view : M Ctl :=
  (seqM (forM (enumM (consA (fzv 0) nilA)) (gtup 2 (gcons (setv 1) (gcons (setv 2) gnil)))
  (ifM (notB (truM (callM 2 run_is_view (consA (fzv 2) (consA (bin addT (fzv 1) (M.pure (tI 1))) nilA)))))
  (retM (fzv 1))
  (M.pure .nx)))
  (retM (M.pure tN)))
noncomputable def run_wrong_view : List T → Option T := run0 sem_wrong_view 2
theorem body_wrong_view (T : Txt K w mg) (C : Cs_wrong_view P w K mg base) : Body P w K mg base 2 "wrong_view" s_wrong_view N_wrong_view false sem_wrong_view := by
  intro I0 h0 H0 v0 f cdv A outer s H E hr
  have sc := sc_wrong_view
  exact (vss_cons (vs_for PassesOwn.never rfl (vi_enum rfl T.b_enumerate (va_cons (ve_fz 0 (pv 0)) va_nil)) (vg_tup rfl (vgs_cons (vg_name 1 (pg_name (i := 1) sc.nd rfl (by first | exact Or.inl rfl | exact Or.inr rfl))) (vgs_cons (vg_name 2 (pg_name (i := 2) sc.nd rfl (by first | exact Or.inl rfl | exact Or.inr rfl))) vgs_nil)))
  (vss_one (vs_if (vt_not (vt_tru (ve_call0 (k := 2) C.c_is_view hr (by decide) rfl (va_cons (ve_fz 2 (pv 2)) (va_cons (ve_op opr_add rf_add (ve_fz 1 (pv 1)) (ve_c pe_int)) va_nil)))))
  (vss_one (vs_ret (ve_fz 1 (pv 1))))
  vss_nil)))
  (vss_one (vs_ret (ve_c pe_non))))

structure Cs_first_fault (P : Program) (w : World) (K : PySem.W.Frag) (mg : Str → Option Value) (base : Heap) : Prop where
  c_wrong_view : Fn0 P w K mg base 3 "wrong_view" 1 run_wrong_view
  c_is_list : Fn0 P w K mg base 1 "is_list" 2 run_is_list
  c_wrong_recognizer : Fn0 P w K mg base 3 "wrong_recognizer" 2 run_wrong_recognizer
  c_wrong_pair : Fn0 P w K mg base 3 "wrong_pair" 3 run_wrong_pair
abbrev s_first_fault : Stmt := top 22
abbrev N_first_fault : List Str := ["layout", "views", "recognizers", "waits", "beside", "wrong", "part", "pairs", "most"]
theorem sc_first_fault : FnScope N_first_fault ["layout"] (defScope s_first_fault) := ⟨rfl, rfl, rfl, by decide +kernel, rfl, by decide +kernel, by decide +kernel⟩
noncomputable def sem_first_fault : M Ctl :=
  (seqM (asgM (fzv 0) (gtup 4 (gcons (setv 1) (gcons (setv 2) (gcons (setv 3) (gcons (setv 4) gnil))))))
  (seqM (ifM (orB (notB (truM (callM 2 run_is_list (consA (fzv 1) (consA (M.pure (tI c_MOST_VIEWS)) nilA))))) (cmpB notNT (callM 1 run_wrong_view (consA (fzv 1) nilA)) (M.pure tN)))
  (retM (tupM (consA (M.pure (tS "views")) (consA (ifV (truM (callM 2 run_is_list (consA (fzv 1) (consA (M.pure (tI c_MOST_VIEWS)) nilA)))) (callM 1 run_wrong_view (consA (fzv 1) nilA)) (M.pure tN)) nilA))))
  (M.pure .nx))
  (seqM (ifM (notB (truM (callM 2 run_is_list (consA (fzv 2) (consA (M.pure (tI c_MOST_RECOGNIZERS)) nilA)))))
  (retM (tupM (consA (M.pure (tS "recognizers")) (consA (M.pure tN) nilA))))
  (M.pure .nx))
  (seqM (asgM (callM 2 run_wrong_recognizer (consA (fzv 2) (consA (pk 1 lenT) nilA))) (setv 5))
  (seqM (ifM (boolM (binL notNT 5 (M.pure tN)))
  (retM (tupM (consA (M.pure (tS "recognizers")) (consA (fzv 5) nilA))))
  (M.pure .nx))
  (seqM (forM (iterA (tupM (consA (tupM (consA (M.pure (tS "waits")) (consA (fzv 3) (consA (M.pure (tI c_MOST_WAITS)) nilA)))) (consA (tupM (consA (M.pure (tS "beside")) (consA (fzv 4) (consA (M.pure (tI c_MOST_BESIDE)) nilA)))) nilA)))) (gtup 3 (gcons (setv 6) (gcons (setv 7) (gcons (setv 8) gnil))))
  (seqM (ifM (notB (truM (callM 2 run_is_list (consA (fzv 7) (consA (fzv 8) nilA)))))
  (retM (tupM (consA (fzv 6) (consA (M.pure tN) nilA))))
  (M.pure .nx))
  (seqM (asgM (callM 3 run_wrong_pair (consA (fzv 7) (consA (pk 2 lenT) (consA (binL eqA 6 (M.pure (tS "beside"))) nilA)))) (setv 5))
  (ifM (boolM (binL notNT 5 (M.pure tN)))
  (retM (tupM (consA (fzv 6) (consA (fzv 5) nilA))))
  (M.pure .nx)))))
  (retM (M.pure tN))))))))
noncomputable def run_first_fault : List T → Option T := run0 sem_first_fault 8
theorem body_first_fault (T : Txt K w mg) (C : Cs_first_fault P w K mg base) : Body P w K mg base 3 "first_fault" s_first_fault N_first_fault false sem_first_fault := by
  intro I0 h0 H0 v0 f cdv A outer s H E hr
  have sc := sc_first_fault
  exact (vss_cons (vs_asg (ps_asg (ve_fz 0 (pv 0)) (vg_tup rfl (vgs_cons (vg_name 1 (pg_name (i := 1) sc.nd rfl (by first | exact Or.inl rfl | exact Or.inr rfl))) (vgs_cons (vg_name 2 (pg_name (i := 2) sc.nd rfl (by first | exact Or.inl rfl | exact Or.inr rfl))) (vgs_cons (vg_name 3 (pg_name (i := 3) sc.nd rfl (by first | exact Or.inl rfl | exact Or.inr rfl))) (vgs_cons (vg_name 4 (pg_name (i := 4) sc.nd rfl (by first | exact Or.inl rfl | exact Or.inr rfl))) vgs_nil)))))))
  (vss_cons (vs_if (PW.pt (vw_or (vt_not (vt_tru (ve_call0 (k := 1) C.c_is_list hr (by decide) rfl (va_cons (ve_fz 1 (pv 1)) (va_cons (ve_gi rfl (Classical.choose_spec T.g_MOST_VIEWS).1 (Classical.choose_spec T.g_MOST_VIEWS).2) va_nil))))) (pw_or1 (vt_cmp opr_isnt rfb_isnt.rf (nomark _) (ve_call0 (k := 3) C.c_wrong_view hr (by decide) rfl (va_cons (ve_fz 1 (pv 1)) va_nil)) (ve_c pe_non)))))
  (vss_one (vs_ret (ve_tup (va_cons (ve_c pe_str) (va_cons (ve_if (vt_tru (ve_call0 (k := 1) C.c_is_list hr (by decide) rfl (va_cons (ve_fz 1 (pv 1)) (va_cons (ve_gi rfl (Classical.choose_spec T.g_MOST_VIEWS).1 (Classical.choose_spec T.g_MOST_VIEWS).2) va_nil)))) (ve_call0 (k := 3) C.c_wrong_view hr (by decide) rfl (va_cons (ve_fz 1 (pv 1)) va_nil)) (ve_c pe_non)) va_nil)))))
  vss_nil)
  (vss_cons (vs_if (vt_not (vt_tru (ve_call0 (k := 1) C.c_is_list hr (by decide) rfl (va_cons (ve_fz 2 (pv 2)) (va_cons (ve_gi rfl (Classical.choose_spec T.g_MOST_RECOGNIZERS).1 (Classical.choose_spec T.g_MOST_RECOGNIZERS).2) va_nil)))))
  (vss_one (vs_ret (ve_tup (va_cons (ve_c pe_str) (va_cons (ve_c pe_non) va_nil)))))
  vss_nil)
  (vss_cons (vs_set (ps_set (i := 5) sc.nd rfl (by first | exact Or.inl rfl | exact Or.inr rfl) (ve_call0 (k := 3) C.c_wrong_recognizer hr (by decide) rfl (va_cons (ve_fz 2 (pv 2)) (va_cons (ve_b1L (i := 1) cr_len rcb_len rfl T.b_len (by decide +kernel) (pv 1)) va_nil)))))
  (vss_cons (vs_if (vt_cmpL (i := 5) opr_isnt rfb_isnt (nomark _) (pv 5) (ve_c pe_non))
  (vss_one (vs_ret (ve_tup (va_cons (ve_c pe_str) (va_cons (ve_fz 5 (pv 5)) va_nil)))))
  vss_nil)
  (vss_cons (vs_for PassesOwn.never rfl (vi_any (ve_tup (va_cons (ve_tup (va_cons (ve_c pe_str) (va_cons (ve_fz 3 (pv 3)) (va_cons (ve_gi rfl (Classical.choose_spec T.g_MOST_WAITS).1 (Classical.choose_spec T.g_MOST_WAITS).2) va_nil)))) (va_cons (ve_tup (va_cons (ve_c pe_str) (va_cons (ve_fz 4 (pv 4)) (va_cons (ve_gi rfl (Classical.choose_spec T.g_MOST_BESIDE).1 (Classical.choose_spec T.g_MOST_BESIDE).2) va_nil)))) va_nil)))) (vg_tup rfl (vgs_cons (vg_name 6 (pg_name (i := 6) sc.nd rfl (by first | exact Or.inl rfl | exact Or.inr rfl))) (vgs_cons (vg_name 7 (pg_name (i := 7) sc.nd rfl (by first | exact Or.inl rfl | exact Or.inr rfl))) (vgs_cons (vg_name 8 (pg_name (i := 8) sc.nd rfl (by first | exact Or.inl rfl | exact Or.inr rfl))) vgs_nil))))
  (vss_cons (vs_if (vt_not (vt_tru (ve_call0 (k := 1) C.c_is_list hr (by decide) rfl (va_cons (ve_fz 7 (pv 7)) (va_cons (ve_fz 8 (pv 8)) va_nil)))))
  (vss_one (vs_ret (ve_tup (va_cons (ve_fz 6 (pv 6)) (va_cons (ve_c pe_non) va_nil)))))
  vss_nil)
  (vss_cons (vs_set (ps_set (i := 5) sc.nd rfl (by first | exact Or.inl rfl | exact Or.inr rfl) (ve_call0 (k := 3) C.c_wrong_pair hr (by decide) rfl (va_cons (ve_fz 7 (pv 7)) (va_cons (ve_b1L (i := 2) cr_len rcb_len rfl T.b_len (by decide +kernel) (pv 2)) (va_cons (ve_cmpL (i := 6) (opr_eq hr.units) rfb_eqA (nomark _) (pv 6) (ve_c pe_str)) va_nil))))))
  (vss_one (vs_if (vt_cmpL (i := 5) opr_isnt rfb_isnt (nomark _) (pv 5) (ve_c pe_non))
  (vss_one (vs_ret (ve_tup (va_cons (ve_fz 6 (pv 6)) (va_cons (ve_fz 5 (pv 5)) va_nil)))))
  vss_nil)))))
  (vss_one (vs_ret (ve_c pe_non)))))))))

structure Cs_require_layout (P : Program) (w : World) (K : PySem.W.Frag) (mg : Str → Option Value) (base : Heap) : Prop where
  c_first_fault : Fn0 P w K mg base 4 "first_fault" 1 run_first_fault
abbrev s_require_layout : Stmt := top 23
abbrev N_require_layout : List Str := ["layout", "fault"]
theorem sc_require_layout : FnScope N_require_layout ["layout"] (defScope s_require_layout) := ⟨rfl, rfl, rfl, by decide +kernel, rfl, by decide +kernel, by decide +kernel⟩
noncomputable def sem_require_layout : M Ctl :=
  (seqM (ifM (orB (notB (truM (pk 0 (isiT "tuple")))) (cmpB neA (pk 0 lenT) (M.pure (tI 4))))
  M.no
  (M.pure .nx))
  (seqM (asgM (callM 1 run_first_fault (consA (fzv 0) nilA)) (setv 1))
  (ifM (boolM (binL notNT 1 (M.pure tN)))
  M.no
  (M.pure .nx))))
noncomputable def run_require_layout : List T → Option T := run0 sem_require_layout 1
theorem body_require_layout (T : Txt K w mg) (C : Cs_require_layout P w K mg base) : Body P w K mg base 4 "require_layout" s_require_layout N_require_layout false sem_require_layout := by
  intro I0 h0 H0 v0 f cdv A outer s H E hr
  have sc := sc_require_layout
  exact (vss_cons (vs_if (PW.pt (vw_or (vt_not (vt_tru (ve_isiL (i := 0) rfl T.b_isinstance (pv 0) (pe_bltn (v := .ty "tuple") rfl T.b_tuple (by decide +kernel) rfl)))) (pw_or1 (vt_cmp (opr_ne hr.units) rfb_neA.rf (nomark _) (ve_b1L (i := 0) cr_len rcb_len rfl T.b_len (by decide +kernel) (pv 0)) (ve_c pe_int)))))
  (vss_one vs_never)
  vss_nil)
  (vss_cons (vs_set (ps_set (i := 1) sc.nd rfl (by first | exact Or.inl rfl | exact Or.inr rfl) (ve_call0 (k := 4) C.c_first_fault hr (by decide) rfl (va_cons (ve_fz 0 (pv 0)) va_nil))))
  (vss_one (vs_if (vt_cmpL (i := 1) opr_isnt rfb_isnt (nomark _) (pv 1) (ve_c pe_non))
  (vss_one vs_never)
  vss_nil))))

structure Cs_is_order (P : Program) (w : World) (K : PySem.W.Frag) (mg : Str → Option Value) (base : Heap) : Prop where
  c_is_integer : Fn0 P w K mg base 1 "is_integer" 3 run_is_integer
abbrev s_is_order : Stmt := top 25
abbrev N_is_order : List Str := ["value", "many", "one"]
theorem sc_is_order : FnScope N_is_order ["value", "many"] (defScope s_is_order) := ⟨rfl, rfl, rfl, by decide +kernel, rfl, by decide +kernel, by decide +kernel⟩
noncomputable def sem_is_order : M Ctl :=
  (seqM (ifM (orB (notB (truM (pk 0 (isiT "list")))) (notB (truM (un1 allT (consA (lcM (iterA (fzv 0)) (setv 2) yesB (callM 3 run_is_integer (consA (fzv 2) (consA (M.pure (tI 0)) (consA (bin subT (fzv 1) (M.pure (tI 1))) nilA)))) [2]) nilA)))))
  (retM (M.pure (tBl false)))
  (M.pure .nx))
  (retM (bin eqA (pk 0 sortT) (lrg1 (consA (fzv 1) nilA)))))
noncomputable def run_is_order : List T → Option T := run0 sem_is_order 1
theorem body_is_order (T : Txt K w mg) (C : Cs_is_order P w K mg base) : Body P w K mg base 1 "is_order" s_is_order N_is_order false sem_is_order := by
  intro I0 h0 H0 v0 f cdv A outer s H E hr
  have sc := sc_is_order
  exact (vss_cons (vs_if (PW.pt (vw_or (vt_not (vt_tru (ve_isiL (i := 0) rfl T.b_isinstance (pv 0) (pe_bltn (v := .ty "list") rfl T.b_list (by decide +kernel) rfl)))) (pw_or1 (vt_not (vt_tru (ve_b1 (cr_all rfl) rcb_all rfl T.b_all (by decide +kernel) (va_cons (ve_lc (own := [("one", 2)]) rfl rfl sc.nd (vi_any (ve_fz 0 (pv 0))) (blkOk_by (own := [("one", 2)]) (N := N_is_order) (sc := defScope s_is_order) (by decide +kernel)) (fun _ _ _ _ _ => (vgo_name 2 (pg_name (i := 2) sc.nd rfl (by first | exact Or.inl rfl | exact Or.inr rfl)))) (fun _ _ _ _ _ => vts_nil) (fun _ _ _ _ _ => (ve_call0 (k := 1) C.c_is_integer hr (by decide) rfl (va_cons (ve_fz 2 (pv 2)) (va_cons (ve_c pe_int) (va_cons (ve_op opr_sub rf_sub (ve_fz 1 (pv 1)) (ve_c pe_int)) va_nil)))))) va_nil)))))))
  (vss_one (vs_ret (ve_c pe_bl)))
  vss_nil)
  (vss_one (vs_ret (ve_cmp (opr_eq hr.units) rfb_eqA.rf (nomark _) (ve_b1L (i := 0) (cr_sortD hr) rcb_sorted rfl T.b_sorted (by decide +kernel) (pv 0)) (ve_lrg1 rfl rfl T.b_list rfl T.b_range (ve_fz 1 (pv 1)))))))

structure Cs_reordered (P : Program) (w : World) (K : PySem.W.Frag) (mg : Str → Option Value) (base : Heap) : Prop where
  c_require_layout : Fn0 P w K mg base 5 "require_layout" 1 run_require_layout
  c_is_order : Fn0 P w K mg base 2 "is_order" 2 run_is_order
abbrev s_reordered : Stmt := top 26
abbrev N_reordered : List Str := ["layout", "order", "views", "recognizers", "waits", "beside", "places", "later", "pairs", "place", "number", "one", "other"]
theorem sc_reordered : FnScope N_reordered ["layout", "order"] (defScope s_reordered) := ⟨rfl, rfl, rfl, by decide +kernel, rfl, by decide +kernel, by decide +kernel⟩
noncomputable def sem_reordered : M Ctl :=
  (seqM (drpM (callM 1 run_require_layout (consA (fzv 0) nilA)))
  (seqM (asgM (fzv 0) (gtup 4 (gcons (setv 2) (gcons (setv 3) (gcons (setv 4) (gcons (setv 5) gnil))))))
  (seqM (ifM (notB (truM (callM 2 run_is_order (consA (fzv 1) (consA (pk 3 lenT) nilA)))))
  M.no
  (M.pure .nx))
  (seqM (asgM (dcM (enumM (consA (fzv 1) nilA)) (gtup 2 (gcons (setv 9) (gcons (setv 10) gnil))) yesB (fzv 10) (fzv 9) [9, 10]) (setv 6))
  (seqM (asgM (lcM (iterA (fzv 4)) (gtup 2 (gcons (setv 11) (gcons (setv 12) gnil))) yesB (tupM (consA (binL dgetT 6 (fzv 11)) (consA (binL dgetT 6 (fzv 12)) nilA))) [11, 12]) (setv 7))
  (seqM (asgM (lcM (iterA (fzv 5)) (gtup 2 (gcons (setv 11) (gcons (setv 12) gnil))) yesB (un1 tupT (consA (un1 sortT (consA (lstM (consA (binL dgetT 6 (fzv 11)) (consA (binL dgetT 6 (fzv 12)) nilA))) nilA)) nilA)) [11, 12]) (setv 8))
  (retM (tupM (consA (pk 2 listT) (consA (lcM (iterA (fzv 1)) (setv 10) yesB (binL itemT 3 (fzv 10)) [10]) (consA (pk 7 sortT) (consA (pk 8 sortT) nilA))))))))))))
noncomputable def run_reordered : List T → Option T := run0 sem_reordered 11
theorem body_reordered (T : Txt K w mg) (C : Cs_reordered P w K mg base) : Body P w K mg base 5 "reordered" s_reordered N_reordered false sem_reordered := by
  intro I0 h0 H0 v0 f cdv A outer s H E hr
  have sc := sc_reordered
  exact (vss_cons (vs_expr (ps_expr (ve_call0 (k := 5) C.c_require_layout hr (by decide) rfl (va_cons (ve_fz 0 (pv 0)) va_nil))))
  (vss_cons (vs_asg (ps_asg (ve_fz 0 (pv 0)) (vg_tup rfl (vgs_cons (vg_name 2 (pg_name (i := 2) sc.nd rfl (by first | exact Or.inl rfl | exact Or.inr rfl))) (vgs_cons (vg_name 3 (pg_name (i := 3) sc.nd rfl (by first | exact Or.inl rfl | exact Or.inr rfl))) (vgs_cons (vg_name 4 (pg_name (i := 4) sc.nd rfl (by first | exact Or.inl rfl | exact Or.inr rfl))) (vgs_cons (vg_name 5 (pg_name (i := 5) sc.nd rfl (by first | exact Or.inl rfl | exact Or.inr rfl))) vgs_nil)))))))
  (vss_cons (vs_if (vt_not (vt_tru (ve_call0 (k := 2) C.c_is_order hr (by decide) rfl (va_cons (ve_fz 1 (pv 1)) (va_cons (ve_b1L (i := 3) cr_len rcb_len rfl T.b_len (by decide +kernel) (pv 3)) va_nil)))))
  (vss_one vs_never)
  vss_nil)
  (vss_cons (vs_set (ps_set (i := 6) sc.nd rfl (by first | exact Or.inl rfl | exact Or.inr rfl) (ve_dc (own := [("place", 9), ("number", 10)]) rfl rfl sc.nd (vi_enum rfl T.b_enumerate (va_cons (ve_fz 1 (pv 1)) va_nil)) (blkOk_by (own := [("place", 9), ("number", 10)]) (N := N_reordered) (sc := defScope s_reordered) (by decide +kernel)) (fun _ _ _ _ _ => (vgo_tup rfl (vgso_cons (vgo_name 9 (pg_name (i := 9) sc.nd rfl (by first | exact Or.inl rfl | exact Or.inr rfl))) (vgso_cons (vgo_name 10 (pg_name (i := 10) sc.nd rfl (by first | exact Or.inl rfl | exact Or.inr rfl))) vgso_nil)))) (fun _ _ _ _ _ => vts_nil) (fun _ _ _ _ _ => (ve_fz 10 (pv 10))) (fun _ _ _ _ _ => (ve_fz 9 (pv 9))))))
  (vss_cons (by first | exact (ve_setLc (own := [("one", 11), ("other", 12)]) (i := 7) rfl rfl sc.nd rfl rfl (sw_true rfl rfl rfl (by decide +kernel)) (vi_any (ve_fz 4 (pv 4))) (blkOk_by (own := [("one", 11), ("other", 12)]) (N := N_reordered) (sc := defScope s_reordered) (by decide +kernel)) (fun _ _ _ _ _ => (vgo_tup rfl (vgso_cons (vgo_name 11 (pg_name (i := 11) sc.nd rfl (by first | exact Or.inl rfl | exact Or.inr rfl))) (vgso_cons (vgo_name 12 (pg_name (i := 12) sc.nd rfl (by first | exact Or.inl rfl | exact Or.inr rfl))) vgso_nil)))) (fun _ _ _ _ _ => vts_nil) (fun _ _ _ _ _ => (ve_tup (va_cons (ve_dget (i := 6) hr.units (pv 6) (ve_fz 11 (pv 11))) (va_cons (ve_dget (i := 6) hr.units (pv 6) (ve_fz 12 (pv 12))) va_nil))))) | exact (vs_set (ps_set (i := 7) sc.nd rfl (by first | exact Or.inl rfl | exact Or.inr rfl) (ve_lc (own := [("one", 11), ("other", 12)]) rfl rfl sc.nd (vi_any (ve_fz 4 (pv 4))) (blkOk_by (own := [("one", 11), ("other", 12)]) (N := N_reordered) (sc := defScope s_reordered) (by decide +kernel)) (fun _ _ _ _ _ => (vgo_tup rfl (vgso_cons (vgo_name 11 (pg_name (i := 11) sc.nd rfl (by first | exact Or.inl rfl | exact Or.inr rfl))) (vgso_cons (vgo_name 12 (pg_name (i := 12) sc.nd rfl (by first | exact Or.inl rfl | exact Or.inr rfl))) vgso_nil)))) (fun _ _ _ _ _ => vts_nil) (fun _ _ _ _ _ => (ve_tup (va_cons (ve_dget (i := 6) hr.units (pv 6) (ve_fz 11 (pv 11))) (va_cons (ve_dget (i := 6) hr.units (pv 6) (ve_fz 12 (pv 12))) va_nil))))))))
  (vss_cons (by first | exact (ve_setLc (own := [("one", 11), ("other", 12)]) (i := 8) rfl rfl sc.nd rfl rfl (sw_true rfl rfl rfl (by decide +kernel)) (vi_any (ve_fz 5 (pv 5))) (blkOk_by (own := [("one", 11), ("other", 12)]) (N := N_reordered) (sc := defScope s_reordered) (by decide +kernel)) (fun _ _ _ _ _ => (vgo_tup rfl (vgso_cons (vgo_name 11 (pg_name (i := 11) sc.nd rfl (by first | exact Or.inl rfl | exact Or.inr rfl))) (vgso_cons (vgo_name 12 (pg_name (i := 12) sc.nd rfl (by first | exact Or.inl rfl | exact Or.inr rfl))) vgso_nil)))) (fun _ _ _ _ _ => vts_nil) (fun _ _ _ _ _ => (ve_t1 cr_tuple rcb_tuple rfl T.b_tuple (by decide +kernel) (va_cons (ve_b1 (cr_sortD hr) rcb_sorted rfl T.b_sorted (by decide +kernel) (va_cons (ve_lst (va_cons (ve_dget (i := 6) hr.units (pv 6) (ve_fz 11 (pv 11))) (va_cons (ve_dget (i := 6) hr.units (pv 6) (ve_fz 12 (pv 12))) va_nil))) va_nil)) va_nil)))) | exact (vs_set (ps_set (i := 8) sc.nd rfl (by first | exact Or.inl rfl | exact Or.inr rfl) (ve_lc (own := [("one", 11), ("other", 12)]) rfl rfl sc.nd (vi_any (ve_fz 5 (pv 5))) (blkOk_by (own := [("one", 11), ("other", 12)]) (N := N_reordered) (sc := defScope s_reordered) (by decide +kernel)) (fun _ _ _ _ _ => (vgo_tup rfl (vgso_cons (vgo_name 11 (pg_name (i := 11) sc.nd rfl (by first | exact Or.inl rfl | exact Or.inr rfl))) (vgso_cons (vgo_name 12 (pg_name (i := 12) sc.nd rfl (by first | exact Or.inl rfl | exact Or.inr rfl))) vgso_nil)))) (fun _ _ _ _ _ => vts_nil) (fun _ _ _ _ _ => (ve_t1 cr_tuple rcb_tuple rfl T.b_tuple (by decide +kernel) (va_cons (ve_b1 (cr_sortD hr) rcb_sorted rfl T.b_sorted (by decide +kernel) (va_cons (ve_lst (va_cons (ve_dget (i := 6) hr.units (pv 6) (ve_fz 11 (pv 11))) (va_cons (ve_dget (i := 6) hr.units (pv 6) (ve_fz 12 (pv 12))) va_nil))) va_nil)) va_nil)))))))
  (vss_one (vs_ret (ve_tup (va_cons (ve_t1L (i := 2) cr_list rcb_list rfl T.b_list (by decide +kernel) (pv 2)) (va_cons (ve_lc (own := [("number", 10)]) rfl rfl sc.nd (vi_any (ve_fz 1 (pv 1))) (blkOk_by (own := [("number", 10)]) (N := N_reordered) (sc := defScope s_reordered) (by decide +kernel)) (fun _ _ _ _ _ => (vgo_name 10 (pg_name (i := 10) sc.nd rfl (by first | exact Or.inl rfl | exact Or.inr rfl)))) (fun _ _ _ _ _ => vts_nil) (fun _ _ _ _ _ => (ve_ixL (i := 3) (pv 3) (ve_fz 10 (pv 10))))) (va_cons (ve_b1L (i := 7) (cr_sortD hr) rcb_sorted rfl T.b_sorted (by decide +kernel) (pv 7)) (va_cons (ve_b1L (i := 8) (cr_sortD hr) rcb_sorted rfl T.b_sorted (by decide +kernel) (pv 8)) va_nil)))))))))))))

structure Cs__law_fount (P : Program) (w : World) (K : PySem.W.Frag) (mg : Str → Option Value) (base : Heap) : Prop where
  t : True
abbrev s__law_fount : Stmt := top 30
abbrev N__law_fount : List Str := ["_law_script", "_law_k", "_law_cell"]
theorem sc__law_fount : FnScope N__law_fount ["_law_script", "_law_k"] (defScope s__law_fount) := ⟨rfl, rfl, rfl, by decide +kernel, rfl, by decide +kernel, by decide +kernel⟩
noncomputable def sem__law_fount : M Ctl :=
  (seqM (asgM (ifV (boolM (binL ltT 1 (pk 0 lenT))) (binL itemT 0 (fzv 1)) (M.pure (tI 0))) (setv 2))
  (retM (lstM (consA (un2 maxT (consA (M.pure (tI 0)) (consA (bin subT (fzv 2) (bin powT (M.pure (tI 10)) (M.pure (tI 18)))) nilA))) (consA (bin addT (bin mulT (bin addT (bin modT (pk 2 intT) (bin addT (bin powT (M.pure (tI 10)) (M.pure (tI 39))) (M.pure (tI 23)))) (M.pure (tI 11))) (M.pure (tI 64))) (fzv 1)) (consA (M.pure (tI 0)) nilA))))))
noncomputable def run__law_fount : List T → Option T := run0 sem__law_fount 1
theorem body__law_fount (T : Txt K w mg) (C : Cs__law_fount P w K mg base) : Body P w K mg base 0 "_law_fount" s__law_fount N__law_fount false sem__law_fount := by
  intro I0 h0 H0 v0 f cdv A outer s H E hr
  have sc := sc__law_fount
  exact (vss_cons (vs_set (ps_set (i := 2) sc.nd rfl (by first | exact Or.inl rfl | exact Or.inr rfl) (ve_if (vt_cmpL (i := 1) (opr_lt hr.units) rfb_lt (nomark _) (pv 1) (ve_b1L (i := 0) cr_len rcb_len rfl T.b_len (by decide +kernel) (pv 0))) (ve_ixL (i := 0) (pv 0) (ve_fz 1 (pv 1))) (ve_c pe_int))))
  (vss_one (vs_ret (ve_lst (va_cons (ve_max rfl rfl T.b_max (va_cons (ve_c pe_int) (va_cons (ve_op opr_sub rf_sub (ve_fz 2 (pv 2)) (ve_op op_powW rf_pow (ve_c pe_int) (ve_c pe_int))) va_nil))) (va_cons (ve_op opr_add rf_add (ve_op opr_mul rf_mul (ve_op opr_add rf_add (ve_op op_mod rf_mod (ve_t1L (i := 2) cr_int rcb_int rfl T.b_int (by decide +kernel) (pv 2)) (ve_op opr_add rf_add (ve_op op_powW rf_pow (ve_c pe_int) (ve_c pe_int)) (ve_c pe_int))) (ve_c pe_int)) (ve_c pe_int)) (ve_fz 1 (pv 1))) (va_cons (ve_c pe_int) va_nil)))))))

structure Cs__law_dip (P : Program) (w : World) (K : PySem.W.Frag) (mg : Str → Option Value) (base : Heap) : Prop where
  t : True
abbrev s__law_dip : Stmt := top 31
abbrev N__law_dip : List Str := ["_law_fount_here", "_law_many", "_law_digit", "_law_mixed"]
theorem sc__law_dip : FnScope N__law_dip ["_law_fount_here", "_law_many"] (defScope s__law_dip) := ⟨rfl, rfl, rfl, by decide +kernel, rfl, by decide +kernel, by decide +kernel⟩
noncomputable def sem__law_dip : M Ctl :=
  (seqM (ifM (cmpB gtT (binL itemT 0 (M.pure (tI 0))) (M.pure (tI 0)))
  (seqM (asgM (bin modT (un1 intT (consA (binL itemT 0 (M.pure (tI 0))) nilA)) (fzv 1)) (setv 2))
  (seqM (asgM (bin fdivT (binL itemT 0 (M.pure (tI 0))) (fzv 1)) (setIx 0 (M.pure (tI 0))))
  (retM (fzv 2))))
  (M.pure .nx))
  (seqM (asgM (bin addT (binL itemT 0 (M.pure (tI 2))) (M.pure (tI 1))) (setIx 0 (M.pure (tI 2))))
  (seqM (asgM (bin modT (un1 intT (consA (bin powT (bin addT (binL itemT 0 (M.pure (tI 1))) (bin mulT (M.pure (tI 86028121)) (binL itemT 0 (M.pure (tI 2))))) (M.pure (tI 3))) nilA)) (bin addT (bin powT (M.pure (tI 10)) (M.pure (tI 41))) (M.pure (tI 9)))) (setv 3))
  (seqM (asgM (bin modT (un1 intT (consA (bin powT (bin addT (fzv 3) (bin mulT (M.pure (tI 41161739)) (binL itemT 0 (M.pure (tI 2))))) (M.pure (tI 2))) nilA)) (bin addT (bin powT (M.pure (tI 10)) (M.pure (tI 38))) (M.pure (tI 67)))) (setv 3))
  (retM (bin modT (un1 intT (consA (bin fdivT (fzv 3) (bin powT (M.pure (tI 10)) (M.pure (tI 7)))) nilA)) (fzv 1)))))))
noncomputable def run__law_dip : List T → Option (T × T) := run1 sem__law_dip 2
theorem body__law_dip (T : Txt K w mg) (C : Cs__law_dip P w K mg base) : Body P w K mg base 0 "_law_dip" s__law_dip N__law_dip true sem__law_dip := by
  intro I0 h0 H0 v0 f cdv A outer s H E hr
  have sc := sc__law_dip
  exact (vss_cons (vs_if (vt_cmp (opr_gt hr.units) rfb_gt.rf (nomark _) (ve_ixL (i := 0) (pv 0) (ve_c pe_int)) (ve_c pe_int))
  (vss_cons (vs_set (ps_set (i := 2) sc.nd rfl (by first | exact Or.inl rfl | exact Or.inr rfl) (ve_op op_mod rf_mod (ve_t1 cr_int rcb_int rfl T.b_int (by decide +kernel) (va_cons (ve_ixL (i := 0) (pv 0) (ve_c pe_int)) va_nil)) (ve_fz 1 (pv 1)))))
  (vss_cons (vs_setIx (ps_asg (ve_op op_fdivW rf_fdiv (ve_ixL (i := 0) (pv 0) (ve_c pe_int)) (ve_fz 1 (pv 1))) (pg_sub (pv 0) (ve_c pe_int) set_list)))
  (vss_one (vs_ret (ve_fz 2 (pv 2))))))
  vss_nil)
  (vss_cons (vs_setIx (ps_asg (ve_op opr_add rf_add (ve_ixL (i := 0) (pv 0) (ve_c pe_int)) (ve_c pe_int)) (pg_sub (pv 0) (ve_c pe_int) set_list)))
  (vss_cons (vs_set (ps_set (i := 3) sc.nd rfl (by first | exact Or.inl rfl | exact Or.inr rfl) (ve_op op_mod rf_mod (ve_t1 cr_int rcb_int rfl T.b_int (by decide +kernel) (va_cons (ve_op op_powW rf_pow (ve_op opr_add rf_add (ve_ixL (i := 0) (pv 0) (ve_c pe_int)) (ve_op opr_mul rf_mul (ve_c pe_int) (ve_ixL (i := 0) (pv 0) (ve_c pe_int)))) (ve_c pe_int)) va_nil)) (ve_op opr_add rf_add (ve_op op_powW rf_pow (ve_c pe_int) (ve_c pe_int)) (ve_c pe_int)))))
  (vss_cons (vs_set (ps_set (i := 3) sc.nd rfl (by first | exact Or.inl rfl | exact Or.inr rfl) (ve_op op_mod rf_mod (ve_t1 cr_int rcb_int rfl T.b_int (by decide +kernel) (va_cons (ve_op op_powW rf_pow (ve_op opr_add rf_add (ve_fz 3 (pv 3)) (ve_op opr_mul rf_mul (ve_c pe_int) (ve_ixL (i := 0) (pv 0) (ve_c pe_int)))) (ve_c pe_int)) va_nil)) (ve_op opr_add rf_add (ve_op op_powW rf_pow (ve_c pe_int) (ve_c pe_int)) (ve_c pe_int)))))
  (vss_one (vs_ret (ve_op op_mod rf_mod (ve_t1 cr_int rcb_int rfl T.b_int (by decide +kernel) (va_cons (ve_op op_fdivW rf_fdiv (ve_fz 3 (pv 3)) (ve_op op_powW rf_pow (ve_c pe_int) (ve_c pe_int))) va_nil)) (ve_fz 1 (pv 1)))))))))

structure Cs__law_names_of (P : Program) (w : World) (K : PySem.W.Frag) (mg : Str → Option Value) (base : Heap) : Prop where
  c__law_dip : Fn1 P w K mg base 1 "_law_dip" 2 run__law_dip
abbrev s__law_names_of : Stmt := top 35
abbrev N__law_names_of : List Str := ["_law_fount_here", "_law_many", "_law_some", "_law_left", "_law_number"]
theorem sc__law_names_of : FnScope N__law_names_of ["_law_fount_here", "_law_many"] (defScope s__law_names_of) := ⟨rfl, rfl, rfl, by decide +kernel, rfl, by decide +kernel, by decide +kernel⟩
noncomputable def sem__law_names_of : M Ctl :=
  (seqM (asgM (lstM (consA (lstM (consA (M.pure (tS "a")) (consA (M.pure (tS "b0")) (consA (M.pure (tS "zz")) (consA (M.pure (tS "00000000")) (consA (M.pure (tS "tap")) (consA (M.pure (tS "q7abcdef")) (consA (M.pure (tS "9")) (consA (M.pure (tS "long1")) nilA))))))))) nilA)) (setv 2))
  (seqM (drpM (mth 2 appF (consA (lstM (consA (M.pure (tS "tap")) (consA (M.pure (tS "taps")) (consA (M.pure (tS "t")) (consA (M.pure (tS "tap2")) (consA (M.pure (tS "ta")) (consA (M.pure (tS "aptap")) (consA (M.pure (tS "2tap")) (consA (M.pure (tS "tapstaps")) nilA))))))))) nilA)))
  (seqM (drpM (mth 2 appF (consA (lstM (consA (M.pure (tS "aaaaaaab")) (consA (M.pure (tS "aaaaaaaa")) (consA (M.pure (tS "aaabaaaa")) (consA (M.pure (tS "baaaaaaa")) (consA (M.pure (tS "aaaaabaa")) (consA (M.pure (tS "aabaaaaa")) (consA (M.pure (tS "abaaaaaa")) (consA (M.pure (tS "aaaabaaa")) nilA))))))))) nilA)))
  (seqM (asgM (stealM 2 (callIO 2 run__law_dip 0 (consA (M.pure (tI 3)) nilA))) (setv 3))
  (retM (lcM (rng1 (consA (fzv 1) nilA)) (setv 4) yesB (mth 3 popF (consA (callIO 2 run__law_dip 0 (consA (pk 3 lenT) nilA)) nilA)) [4]))))))
noncomputable def run__law_names_of : List T → Option (T × T) := run1 sem__law_names_of 3
theorem body__law_names_of (T : Txt K w mg) (C : Cs__law_names_of P w K mg base) : Body P w K mg base 1 "_law_names_of" s__law_names_of N__law_names_of true sem__law_names_of := by
  intro I0 h0 H0 v0 f cdv A outer s H E hr
  have sc := sc__law_names_of
  exact (vss_cons (vs_set (ps_set (i := 2) sc.nd rfl (by first | exact Or.inl rfl | exact Or.inr rfl) (ve_lst (va_cons (ve_lst (va_cons (ve_c pe_str) (va_cons (ve_c pe_str) (va_cons (ve_c pe_str) (va_cons (ve_c pe_str) (va_cons (ve_c pe_str) (va_cons (ve_c pe_str) (va_cons (ve_c pe_str) (va_cons (ve_c pe_str) va_nil))))))))) va_nil))))
  (vss_cons (vs_expr (ps_expr (ve_mth (i := 2) PySem.F.slot_list_append PySem.F.type_list_append mt_append rm_app (pe_bm PySem.F.plainAttrs_list PySem.F.slot_list_append PySem.F.type_list_append mt_append (pv 2) (va_cons (ve_lst (va_cons (ve_c pe_str) (va_cons (ve_c pe_str) (va_cons (ve_c pe_str) (va_cons (ve_c pe_str) (va_cons (ve_c pe_str) (va_cons (ve_c pe_str) (va_cons (ve_c pe_str) (va_cons (ve_c pe_str) va_nil))))))))) va_nil)))))
  (vss_cons (vs_expr (ps_expr (ve_mth (i := 2) PySem.F.slot_list_append PySem.F.type_list_append mt_append rm_app (pe_bm PySem.F.plainAttrs_list PySem.F.slot_list_append PySem.F.type_list_append mt_append (pv 2) (va_cons (ve_lst (va_cons (ve_c pe_str) (va_cons (ve_c pe_str) (va_cons (ve_c pe_str) (va_cons (ve_c pe_str) (va_cons (ve_c pe_str) (va_cons (ve_c pe_str) (va_cons (ve_c pe_str) (va_cons (ve_c pe_str) va_nil))))))))) va_nil)))))
  (vss_cons (vs_set (ps_set (i := 3) sc.nd rfl (by first | exact Or.inl rfl | exact Or.inr rfl) (ve_steal (i := 2) (pv 2) (ve_call1 (i := 0) (k := 1) C.c__law_dip hr (by decide) rfl (pv 0) (va_cons (ve_c pe_int) va_nil)))))
  (vss_one (vs_ret (ve_lc (own := [("_law_number", 4)]) rfl rfl sc.nd (vi_range1 rfl T.b_range (va_cons (ve_fz 1 (pv 1)) va_nil)) (blkOk_by (own := [("_law_number", 4)]) (N := N__law_names_of) (sc := defScope s__law_names_of) (by decide +kernel)) (fun _ _ _ _ _ => (vgo_name 4 (pg_name (i := 4) sc.nd rfl (by first | exact Or.inl rfl | exact Or.inr rfl)))) (fun _ _ _ _ _ => vts_nil) (fun _ _ _ _ _ => (ve_mth (i := 3) PySem.F.slot_list_pop PySem.F.type_list_pop mt_popAt rm_pop (pe_bm PySem.F.plainAttrs_list PySem.F.slot_list_pop PySem.F.type_list_pop mt_popAt (pv 3) (va_cons (ve_call1 (i := 0) (k := 1) C.c__law_dip hr (by decide) rfl (pv 0) (va_cons (ve_b1L (i := 3) cr_len rcb_len rfl T.b_len (by decide +kernel) (pv 3)) va_nil)) va_nil)))))))))))

structure Cs__law_pairs (P : Program) (w : World) (K : PySem.W.Frag) (mg : Str → Option Value) (base : Heap) : Prop where
  c__law_dip : Fn1 P w K mg base 1 "_law_dip" 2 run__law_dip
abbrev s__law_pairs : Stmt := top 34
abbrev N__law_pairs : List Str := ["_law_fount_here", "_law_many", "_law_is_rising", "_law_most", "_law_every", "_law_one", "_law_size", "_law_two"]
theorem sc__law_pairs : FnScope N__law_pairs ["_law_fount_here", "_law_many", "_law_is_rising", "_law_most"] (defScope s__law_pairs) := ⟨rfl, rfl, rfl, by decide +kernel, rfl, by decide +kernel, by decide +kernel⟩
noncomputable def sem__law_pairs : M Ctl :=
  (seqM (asgM (lstM nilA) (setv 4))
  (seqM (forM (rng1 (consA (fzv 1) nilA)) (setv 5)
  (asgM (bin addT (mvv 4) (lcM (rng1 (consA (fzv 1) nilA)) (setv 7) (orB (boolM (binL ltT 5 (fzv 7))) (andB (notB (truM (fzv 2))) (boolM (binL neA 5 (fzv 7))))) (tupM (consA (fzv 5) (consA (fzv 7) nilA))) [7])) (setv 4)))
  (seqM (asgM (un2 minT (consA (pk 4 lenT) (consA (callIO 2 run__law_dip 0 (consA (bin addT (fzv 3) (M.pure (tI 1))) nilA)) nilA))) (setv 6))
  (seqM (whileM (boolM (binR gtT (pk 4 lenT) 6))
  (drpM (mth 4 popF (consA (callIO 2 run__law_dip 0 (consA (pk 4 lenT) nilA)) nilA))))
  (retM (mvv 4))))))
noncomputable def run__law_pairs : List T → Option (T × T) := run1 sem__law_pairs 4
theorem body__law_pairs (T : Txt K w mg) (C : Cs__law_pairs P w K mg base) : Body P w K mg base 1 "_law_pairs" s__law_pairs N__law_pairs true sem__law_pairs := by
  intro I0 h0 H0 v0 f cdv A outer s H E hr
  have sc := sc__law_pairs
  exact (vss_cons (vs_set (ps_set (i := 4) sc.nd rfl (by first | exact Or.inl rfl | exact Or.inr rfl) (ve_lst va_nil)))
  (vss_cons (vs_for PassesOwn.never rfl (vi_range1 rfl T.b_range (va_cons (ve_fz 1 (pv 1)) va_nil)) (vg_name 5 (pg_name (i := 5) sc.nd rfl (by first | exact Or.inl rfl | exact Or.inr rfl)))
  (vss_one (vs_set (ps_set (i := 4) sc.nd rfl (by first | exact Or.inl rfl | exact Or.inr rfl) (ve_op opr_add rf_add (ve_mv 4 (pv 4)) (ve_lc (own := [("_law_two", 7)]) rfl rfl sc.nd (vi_range1 rfl T.b_range (va_cons (ve_fz 1 (pv 1)) va_nil)) (blkOk_by (own := [("_law_two", 7)]) (N := N__law_pairs) (sc := defScope s__law_pairs) (by decide +kernel)) (fun _ _ _ _ _ => (vgo_name 7 (pg_name (i := 7) sc.nd rfl (by first | exact Or.inl rfl | exact Or.inr rfl)))) (fun _ _ _ _ _ => (vts_one (PW.pt (vw_or (vt_cmpL (i := 5) (opr_lt hr.units) rfb_lt (nomark _) (pv 5) (ve_fz 7 (pv 7))) (pw_or1 (PW.pt (vw_and (vt_not (vt_tru (ve_fz 2 (pv 2)))) (pw_and1 (vt_cmpL (i := 5) (opr_ne hr.units) rfb_neA (nomark _) (pv 5) (ve_fz 7 (pv 7))))))))))) (fun _ _ _ _ _ => (ve_tup (va_cons (ve_fz 5 (pv 5)) (va_cons (ve_fz 7 (pv 7)) va_nil))))))))))
  (vss_cons (vs_set (ps_set (i := 6) sc.nd rfl (by first | exact Or.inl rfl | exact Or.inr rfl) (ve_min rfl rfl T.b_min (va_cons (ve_b1L (i := 4) cr_len rcb_len rfl T.b_len (by decide +kernel) (pv 4)) (va_cons (ve_call1 (i := 0) (k := 1) C.c__law_dip hr (by decide) rfl (pv 0) (va_cons (ve_op opr_add rf_add (ve_fz 3 (pv 3)) (ve_c pe_int)) va_nil)) va_nil)))))
  (vss_cons (vs_while PassesOwn.never (vt_cmpR (i := 6) (opr_gt hr.units) rfb_gt (nomark _) (ve_b1L (i := 4) cr_len rcb_len rfl T.b_len (by decide +kernel) (pv 4)) (pv 6))
  (vss_one (vs_expr (ps_expr (ve_mth (i := 4) PySem.F.slot_list_pop PySem.F.type_list_pop mt_popAt rm_pop (pe_bm PySem.F.plainAttrs_list PySem.F.slot_list_pop PySem.F.type_list_pop mt_popAt (pv 4) (va_cons (ve_call1 (i := 0) (k := 1) C.c__law_dip hr (by decide) rfl (pv 0) (va_cons (ve_b1L (i := 4) cr_len rcb_len rfl T.b_len (by decide +kernel) (pv 4)) va_nil)) va_nil)))))))
  (vss_one (vs_ret (ve_mv 4 (pv 4))))))))

structure Cs__law_kind (P : Program) (w : World) (K : PySem.W.Frag) (mg : Str → Option Value) (base : Heap) : Prop where
  c__law_dip : Fn1 P w K mg base 1 "_law_dip" 2 run__law_dip
abbrev s__law_kind : Stmt := top 33
abbrev N__law_kind : List Str := ["_law_fount_here", "_law_top", "_law_time", "_law_gap", "_law_slop", "_law_some"]
theorem sc__law_kind : FnScope N__law_kind ["_law_fount_here", "_law_top"] (defScope s__law_kind) := ⟨rfl, rfl, rfl, by decide +kernel, rfl, by decide +kernel, by decide +kernel⟩
noncomputable def sem__law_kind : M Ctl :=
  (seqM (par3 (consA (bin addT (M.pure (tI 1)) (callIO 2 run__law_dip 0 (consA (fzv 1) nilA))) (consA (bin addT (M.pure (tI 1)) (callIO 2 run__law_dip 0 (consA (fzv 1) nilA))) (consA (callIO 2 run__law_dip 0 (consA (bin addT (fzv 1) (M.pure (tI 1))) nilA)) nilA))) 2 3 4)
  (seqM (asgM (lstM (consA (tupM (consA (M.pure (tS "touch")) nilA)) (consA (tupM (consA (M.pure (tS "tap")) (consA (fzv 2) (consA (fzv 4) nilA)))) (consA (tupM (consA (M.pure (tS "taps")) (consA (bin addT (M.pure (tI 2)) (callIO 2 run__law_dip 0 (consA (M.pure (tI 2)) nilA))) (consA (fzv 2) (consA (fzv 3) (consA (fzv 4) nilA)))))) (consA (tupM (consA (M.pure (tS "long")) (consA (fzv 2) (consA (fzv 4) nilA)))) nilA))))) (setv 5))
  (retM (bin itemT (bin addT (fzv 5) (lstM (consA (tupM (consA (M.pure (tS "drag")) (consA (bin itemT (lstM (consA (M.pure (tS "x")) (consA (M.pure (tS "y")) (consA (M.pure (tS "any")) nilA)))) (callIO 2 run__law_dip 0 (consA (M.pure (tI 3)) nilA))) (consA (fzv 4) nilA)))) (consA (tupM (consA (M.pure (tS "pinch")) (consA (fzv 4) nilA))) nilA)))) (callIO 2 run__law_dip 0 (consA (M.pure (tI 6)) nilA))))))
noncomputable def run__law_kind : List T → Option (T × T) := run1 sem__law_kind 4
theorem body__law_kind (T : Txt K w mg) (C : Cs__law_kind P w K mg base) : Body P w K mg base 1 "_law_kind" s__law_kind N__law_kind true sem__law_kind := by
  intro I0 h0 H0 v0 f cdv A outer s H E hr
  have sc := sc__law_kind
  exact (vss_cons (vs_par3 (ps_par3 (i := 2) (j := 3) (l := 4) rfl sc.nd rfl rfl rfl (by decide) (by decide) (by decide) rfl rfl rfl (va_cons (ve_op opr_add rf_add (ve_c pe_int) (ve_call1 (i := 0) (k := 1) C.c__law_dip hr (by decide) rfl (pv 0) (va_cons (ve_fz 1 (pv 1)) va_nil))) (va_cons (ve_op opr_add rf_add (ve_c pe_int) (ve_call1 (i := 0) (k := 1) C.c__law_dip hr (by decide) rfl (pv 0) (va_cons (ve_fz 1 (pv 1)) va_nil))) (va_cons (ve_call1 (i := 0) (k := 1) C.c__law_dip hr (by decide) rfl (pv 0) (va_cons (ve_op opr_add rf_add (ve_fz 1 (pv 1)) (ve_c pe_int)) va_nil)) va_nil))) (by rfl)))
  (vss_cons (vs_set (ps_set (i := 5) sc.nd rfl (by first | exact Or.inl rfl | exact Or.inr rfl) (ve_lst (va_cons (ve_tup (va_cons (ve_c pe_str) va_nil)) (va_cons (ve_tup (va_cons (ve_c pe_str) (va_cons (ve_fz 2 (pv 2)) (va_cons (ve_fz 4 (pv 4)) va_nil)))) (va_cons (ve_tup (va_cons (ve_c pe_str) (va_cons (ve_op opr_add rf_add (ve_c pe_int) (ve_call1 (i := 0) (k := 1) C.c__law_dip hr (by decide) rfl (pv 0) (va_cons (ve_c pe_int) va_nil))) (va_cons (ve_fz 2 (pv 2)) (va_cons (ve_fz 3 (pv 3)) (va_cons (ve_fz 4 (pv 4)) va_nil)))))) (va_cons (ve_tup (va_cons (ve_c pe_str) (va_cons (ve_fz 2 (pv 2)) (va_cons (ve_fz 4 (pv 4)) va_nil)))) va_nil)))))))
  (vss_one (vs_ret (ve_ix (ve_op opr_add rf_add (ve_fz 5 (pv 5)) (ve_lst (va_cons (ve_tup (va_cons (ve_c pe_str) (va_cons (ve_ix (ve_lst (va_cons (ve_c pe_str) (va_cons (ve_c pe_str) (va_cons (ve_c pe_str) va_nil)))) (ve_call1 (i := 0) (k := 1) C.c__law_dip hr (by decide) rfl (pv 0) (va_cons (ve_c pe_int) va_nil))) (va_cons (ve_fz 4 (pv 4)) va_nil)))) (va_cons (ve_tup (va_cons (ve_c pe_str) (va_cons (ve_fz 4 (pv 4)) va_nil))) va_nil)))) (ve_call1 (i := 0) (k := 1) C.c__law_dip hr (by decide) rfl (pv 0) (va_cons (ve_c pe_int) va_nil)))))))

structure Cs__law_layout (P : Program) (w : World) (K : PySem.W.Frag) (mg : Str → Option Value) (base : Heap) : Prop where
  c__law_names_of : Fn1 P w K mg base 2 "_law_names_of" 2 run__law_names_of
  c__law_dip : Fn1 P w K mg base 1 "_law_dip" 2 run__law_dip
  c__law_kind : Fn1 P w K mg base 2 "_law_kind" 2 run__law_kind
  c__law_pairs : Fn1 P w K mg base 2 "_law_pairs" 4 run__law_pairs
abbrev s__law_layout : Stmt := top 36
abbrev N__law_layout : List Str := ["_law_fount_here", "_law_views", "_law_many", "_law_top", "_law_names_here", "_law_some", "_law_number", "_law_view"]
theorem sc__law_layout : FnScope N__law_layout ["_law_fount_here", "_law_views", "_law_many", "_law_top"] (defScope s__law_layout) := ⟨rfl, rfl, rfl, by decide +kernel, rfl, by decide +kernel, by decide +kernel⟩
noncomputable def sem__law_layout : M Ctl :=
  (seqM (par2 (consA (callIO 2 run__law_names_of 0 (consA (fzv 2) nilA)) (consA (lstM nilA) nilA)) 4 5)
  (seqM (forM (rng1 (consA (fzv 2) nilA)) (setv 6)
  (seqM (asgM (callIO 2 run__law_dip 0 (consA (bin addT (pk 1 lenT) (M.pure (tI 1))) nilA)) (setv 7))
  (drpM (mth 5 appF (consA (tupM (consA (binL itemT 4 (fzv 6)) (consA (fzv 7) (consA (callIO 2 run__law_kind 0 (consA (fzv 3) nilA)) nilA)))) nilA)))))
  (retM (tupM (consA (fzv 1) (consA (fzv 5) (consA (callIO 4 run__law_pairs 0 (consA (fzv 2) (consA (M.pure (tBl false)) (consA (M.pure (tI 12)) nilA)))) (consA (callIO 4 run__law_pairs 0 (consA (fzv 2) (consA (M.pure (tBl true)) (consA (M.pure (tI 28)) nilA)))) nilA))))))))
noncomputable def run__law_layout : List T → Option (T × T) := run1 sem__law_layout 4
theorem body__law_layout (T : Txt K w mg) (C : Cs__law_layout P w K mg base) : Body P w K mg base 2 "_law_layout" s__law_layout N__law_layout true sem__law_layout := by
  intro I0 h0 H0 v0 f cdv A outer s H E hr
  have sc := sc__law_layout
  exact (vss_cons (vs_par2 (ps_par (i := 4) (j := 5) rfl sc.nd rfl rfl (by decide) rfl rfl (va_cons (ve_call1 (i := 0) (k := 2) C.c__law_names_of hr (by decide) rfl (pv 0) (va_cons (ve_fz 2 (pv 2)) va_nil)) (va_cons (ve_lst va_nil) va_nil)) (by rfl)))
  (vss_cons (vs_for PassesOwn.never rfl (vi_range1 rfl T.b_range (va_cons (ve_fz 2 (pv 2)) va_nil)) (vg_name 6 (pg_name (i := 6) sc.nd rfl (by first | exact Or.inl rfl | exact Or.inr rfl)))
  (vss_cons (vs_set (ps_set (i := 7) sc.nd rfl (by first | exact Or.inl rfl | exact Or.inr rfl) (ve_call1 (i := 0) (k := 1) C.c__law_dip hr (by decide) rfl (pv 0) (va_cons (ve_op opr_add rf_add (ve_b1L (i := 1) cr_len rcb_len rfl T.b_len (by decide +kernel) (pv 1)) (ve_c pe_int)) va_nil))))
  (vss_one (vs_expr (ps_expr (ve_mth (i := 5) PySem.F.slot_list_append PySem.F.type_list_append mt_append rm_app (pe_bm PySem.F.plainAttrs_list PySem.F.slot_list_append PySem.F.type_list_append mt_append (pv 5) (va_cons (ve_tup (va_cons (ve_ixL (i := 4) (pv 4) (ve_fz 6 (pv 6))) (va_cons (ve_fz 7 (pv 7)) (va_cons (ve_call1 (i := 0) (k := 2) C.c__law_kind hr (by decide) rfl (pv 0) (va_cons (ve_fz 3 (pv 3)) va_nil)) va_nil)))) va_nil))))))))
  (vss_one (vs_ret (ve_tup (va_cons (ve_fz 1 (pv 1)) (va_cons (ve_fz 5 (pv 5)) (va_cons (ve_call1 (i := 0) (k := 2) C.c__law_pairs hr (by decide) rfl (pv 0) (va_cons (ve_fz 2 (pv 2)) (va_cons (ve_c pe_bl) (va_cons (ve_c pe_int) va_nil)))) (va_cons (ve_call1 (i := 0) (k := 2) C.c__law_pairs hr (by decide) rfl (pv 0) (va_cons (ve_fz 2 (pv 2)) (va_cons (ve_c pe_bl) (va_cons (ve_c pe_int) va_nil)))) va_nil)))))))))

structure Cs__law_small (P : Program) (w : World) (K : PySem.W.Frag) (mg : Str → Option Value) (base : Heap) : Prop where
  c__law_dip : Fn1 P w K mg base 1 "_law_dip" 2 run__law_dip
abbrev s__law_small : Stmt := top 32
abbrev N__law_small : List Str := ["_law_fount_here", "_law_many", "_law_found", "_law_number", "_law_parent", "_law_left", "_law_top", "_law_right_here", "_law_bottom", "_law_way"]
theorem sc__law_small : FnScope N__law_small ["_law_fount_here", "_law_many"] (defScope s__law_small) := ⟨rfl, rfl, rfl, by decide +kernel, rfl, by decide +kernel, by decide +kernel⟩
noncomputable def sem__law_small : M Ctl :=
  (seqM (asgM (lstM nilA) (setv 2))
  (seqM (forM (rng1 (consA (fzv 1) nilA)) (setv 3)
  (seqM (asgM (callIO 2 run__law_dip 0 (consA (bin addT (fzv 3) (M.pure (tI 1))) nilA)) (setv 4))
  (seqM (par2 (consA (bin subT (callIO 2 run__law_dip 0 (consA (M.pure (tI 12)) nilA)) (M.pure (tI 4))) (consA (bin subT (callIO 2 run__law_dip 0 (consA (M.pure (tI 12)) nilA)) (M.pure (tI 4))) nilA)) 5 6)
  (seqM (par2 (consA (bin addT (bin addT (fzv 5) (M.pure (tI 1))) (callIO 2 run__law_dip 0 (consA (bin subT (M.pure (tI 8)) (fzv 5)) nilA))) (consA (bin addT (bin addT (fzv 6) (M.pure (tI 1))) (callIO 2 run__law_dip 0 (consA (bin subT (M.pure (tI 8)) (fzv 6)) nilA))) nilA)) 7 8)
  (seqM (asgM (callIO 2 run__law_dip 0 (consA (M.pure (tI 9)) nilA)) (setv 9))
  (seqM (ifM (boolM (binL eqA 9 (M.pure (tI 0))))
  (asgM (tupM (consA (negV (M.pure (tI 4))) (consA (negV (M.pure (tI 4))) (consA (M.pure (tI 8)) (consA (M.pure (tI 8)) nilA))))) (gtup 4 (gcons (setv 5) (gcons (setv 6) (gcons (setv 7) (gcons (setv 8) gnil))))))
  (ifM (andB (boolM (binL eqA 9 (M.pure (tI 1)))) (boolM (binL gtT 4 (M.pure (tI 0)))))
  (asgM (cutM (binL itemT 2 (bin subT (fzv 4) (M.pure (tI 1)))) (someP (M.pure (tI 1))) noP) (gtup 4 (gcons (setv 5) (gcons (setv 6) (gcons (setv 7) (gcons (setv 8) gnil))))))
  (M.pure .nx)))
  (drpM (mth 2 appF (consA (tupM (consA (fzv 4) (consA (fzv 5) (consA (fzv 6) (consA (fzv 7) (consA (fzv 8) nilA)))))) nilA)))))))))
  (retM (mvv 2))))
noncomputable def run__law_small : List T → Option (T × T) := run1 sem__law_small 8
theorem body__law_small (T : Txt K w mg) (C : Cs__law_small P w K mg base) : Body P w K mg base 1 "_law_small" s__law_small N__law_small true sem__law_small := by
  intro I0 h0 H0 v0 f cdv A outer s H E hr
  have sc := sc__law_small
  exact (vss_cons (vs_set (ps_set (i := 2) sc.nd rfl (by first | exact Or.inl rfl | exact Or.inr rfl) (ve_lst va_nil)))
  (vss_cons (vs_for PassesOwn.never rfl (vi_range1 rfl T.b_range (va_cons (ve_fz 1 (pv 1)) va_nil)) (vg_name 3 (pg_name (i := 3) sc.nd rfl (by first | exact Or.inl rfl | exact Or.inr rfl)))
  (vss_cons (vs_set (ps_set (i := 4) sc.nd rfl (by first | exact Or.inl rfl | exact Or.inr rfl) (ve_call1 (i := 0) (k := 1) C.c__law_dip hr (by decide) rfl (pv 0) (va_cons (ve_op opr_add rf_add (ve_fz 3 (pv 3)) (ve_c pe_int)) va_nil))))
  (vss_cons (vs_par2 (ps_par (i := 5) (j := 6) rfl sc.nd rfl rfl (by decide) rfl rfl (va_cons (ve_op opr_sub rf_sub (ve_call1 (i := 0) (k := 1) C.c__law_dip hr (by decide) rfl (pv 0) (va_cons (ve_c pe_int) va_nil)) (ve_c pe_int)) (va_cons (ve_op opr_sub rf_sub (ve_call1 (i := 0) (k := 1) C.c__law_dip hr (by decide) rfl (pv 0) (va_cons (ve_c pe_int) va_nil)) (ve_c pe_int)) va_nil)) (by rfl)))
  (vss_cons (vs_par2 (ps_par (i := 7) (j := 8) rfl sc.nd rfl rfl (by decide) rfl rfl (va_cons (ve_op opr_add rf_add (ve_op opr_add rf_add (ve_fz 5 (pv 5)) (ve_c pe_int)) (ve_call1 (i := 0) (k := 1) C.c__law_dip hr (by decide) rfl (pv 0) (va_cons (ve_op opr_sub rf_sub (ve_c pe_int) (ve_fz 5 (pv 5))) va_nil))) (va_cons (ve_op opr_add rf_add (ve_op opr_add rf_add (ve_fz 6 (pv 6)) (ve_c pe_int)) (ve_call1 (i := 0) (k := 1) C.c__law_dip hr (by decide) rfl (pv 0) (va_cons (ve_op opr_sub rf_sub (ve_c pe_int) (ve_fz 6 (pv 6))) va_nil))) va_nil)) (by rfl)))
  (vss_cons (vs_set (ps_set (i := 9) sc.nd rfl (by first | exact Or.inl rfl | exact Or.inr rfl) (ve_call1 (i := 0) (k := 1) C.c__law_dip hr (by decide) rfl (pv 0) (va_cons (ve_c pe_int) va_nil))))
  (vss_cons (vs_if (vt_cmpL (i := 9) (opr_eq hr.units) rfb_eqA (nomark _) (pv 9) (ve_c pe_int))
  (vss_one (vs_asg (ps_asg (ve_tup (va_cons (ve_neg (ve_c pe_int)) (va_cons (ve_neg (ve_c pe_int)) (va_cons (ve_c pe_int) (va_cons (ve_c pe_int) va_nil))))) (vg_tup rfl (vgs_cons (vg_name 5 (pg_name (i := 5) sc.nd rfl (by first | exact Or.inl rfl | exact Or.inr rfl))) (vgs_cons (vg_name 6 (pg_name (i := 6) sc.nd rfl (by first | exact Or.inl rfl | exact Or.inr rfl))) (vgs_cons (vg_name 7 (pg_name (i := 7) sc.nd rfl (by first | exact Or.inl rfl | exact Or.inr rfl))) (vgs_cons (vg_name 8 (pg_name (i := 8) sc.nd rfl (by first | exact Or.inl rfl | exact Or.inr rfl))) vgs_nil))))))))
  (vss_one (vs_if (PW.pt (vw_and (vt_cmpL (i := 9) (opr_eq hr.units) rfb_eqA (nomark _) (pv 9) (ve_c pe_int)) (pw_and1 (vt_cmpL (i := 4) (opr_gt hr.units) rfb_gt (nomark _) (pv 4) (ve_c pe_int)))))
  (vss_one (vs_asg (ps_asg (ve_cut (ve_ixL (i := 2) (pv 2) (ve_op opr_sub rf_sub (ve_fz 4 (pv 4)) (ve_c pe_int))) (vo_some (ve_c pe_int)) vo_none) (vg_tup rfl (vgs_cons (vg_name 5 (pg_name (i := 5) sc.nd rfl (by first | exact Or.inl rfl | exact Or.inr rfl))) (vgs_cons (vg_name 6 (pg_name (i := 6) sc.nd rfl (by first | exact Or.inl rfl | exact Or.inr rfl))) (vgs_cons (vg_name 7 (pg_name (i := 7) sc.nd rfl (by first | exact Or.inl rfl | exact Or.inr rfl))) (vgs_cons (vg_name 8 (pg_name (i := 8) sc.nd rfl (by first | exact Or.inl rfl | exact Or.inr rfl))) vgs_nil))))))))
  vss_nil)))
  (vss_one (vs_expr (ps_expr (ve_mth (i := 2) PySem.F.slot_list_append PySem.F.type_list_append mt_append rm_app (pe_bm PySem.F.plainAttrs_list PySem.F.slot_list_append PySem.F.type_list_append mt_append (pv 2) (va_cons (ve_tup (va_cons (ve_fz 4 (pv 4)) (va_cons (ve_fz 5 (pv 5)) (va_cons (ve_fz 6 (pv 6)) (va_cons (ve_fz 7 (pv 7)) (va_cons (ve_fz 8 (pv 8)) va_nil)))))) va_nil))))))))))))
  (vss_one (vs_ret (ve_mv 2 (pv 2))))))

structure Cs__law_order (P : Program) (w : World) (K : PySem.W.Frag) (mg : Str → Option Value) (base : Heap) : Prop where
  c__law_dip : Fn1 P w K mg base 1 "_law_dip" 2 run__law_dip
abbrev s__law_order : Stmt := top 38
abbrev N__law_order : List Str := ["_law_fount_here", "_law_many", "_law_left", "_law_turn"]
theorem sc__law_order : FnScope N__law_order ["_law_fount_here", "_law_many"] (defScope s__law_order) := ⟨rfl, rfl, rfl, by decide +kernel, rfl, by decide +kernel, by decide +kernel⟩
noncomputable def sem__law_order : M Ctl :=
  (seqM (asgM (lrg1 (consA (fzv 1) nilA)) (setv 2))
  (retM (lcM (rng1 (consA (fzv 1) nilA)) (setv 3) yesB (mth 2 popF (consA (callIO 2 run__law_dip 0 (consA (pk 2 lenT) nilA)) nilA)) [3])))
noncomputable def run__law_order : List T → Option (T × T) := run1 sem__law_order 2
theorem body__law_order (T : Txt K w mg) (C : Cs__law_order P w K mg base) : Body P w K mg base 1 "_law_order" s__law_order N__law_order true sem__law_order := by
  intro I0 h0 H0 v0 f cdv A outer s H E hr
  have sc := sc__law_order
  exact (vss_cons (vs_set (ps_set (i := 2) sc.nd rfl (by first | exact Or.inl rfl | exact Or.inr rfl) (ve_lrg1 rfl rfl T.b_list rfl T.b_range (ve_fz 1 (pv 1)))))
  (vss_one (vs_ret (ve_lc (own := [("_law_turn", 3)]) rfl rfl sc.nd (vi_range1 rfl T.b_range (va_cons (ve_fz 1 (pv 1)) va_nil)) (blkOk_by (own := [("_law_turn", 3)]) (N := N__law_order) (sc := defScope s__law_order) (by decide +kernel)) (fun _ _ _ _ _ => (vgo_name 3 (pg_name (i := 3) sc.nd rfl (by first | exact Or.inl rfl | exact Or.inr rfl)))) (fun _ _ _ _ _ => vts_nil) (fun _ _ _ _ _ => (ve_mth (i := 2) PySem.F.slot_list_pop PySem.F.type_list_pop mt_popAt rm_pop (pe_bm PySem.F.plainAttrs_list PySem.F.slot_list_pop PySem.F.type_list_pop mt_popAt (pv 2) (va_cons (ve_call1 (i := 0) (k := 1) C.c__law_dip hr (by decide) rfl (pv 0) (va_cons (ve_b1L (i := 2) cr_len rcb_len rfl T.b_len (by decide +kernel) (pv 2)) va_nil)) va_nil))))))))

structure Cs__law_turned (P : Program) (w : World) (K : PySem.W.Frag) (mg : Str → Option Value) (base : Heap) : Prop where
  t : True
abbrev s__law_turned : Stmt := top 37
abbrev N__law_turned : List Str := ["_law_layout_here", "_law_order_here", "_law_views", "_law_some", "_law_waits", "_law_beside", "_law_later", "_law_pairs_here", "_law_one", "_law_two", "_law_number"]
theorem sc__law_turned : FnScope N__law_turned ["_law_layout_here", "_law_order_here"] (defScope s__law_turned) := ⟨rfl, rfl, rfl, by decide +kernel, rfl, by decide +kernel, by decide +kernel⟩
noncomputable def sem__law_turned : M Ctl :=
  (seqM (asgM (fzv 0) (gtup 4 (gcons (setv 2) (gcons (setv 3) (gcons (setv 4) (gcons (setv 5) gnil))))))
  (seqM (asgM (un1 sortT (consA (lcM (iterA (fzv 4)) (gtup 2 (gcons (setv 8) (gcons (setv 9) gnil))) yesB (tupM (consA (mrd 1 idxF (consA (fzv 8) nilA)) (consA (mrd 1 idxF (consA (fzv 9) nilA)) nilA))) [8, 9]) nilA)) (setv 6))
  (seqM (asgM (lstM nilA) (setv 7))
  (seqM (forM (iterA (fzv 5)) (gtup 2 (gcons (setv 8) (gcons (setv 9) gnil)))
  (drpM (mth 7 appF (consA (tupM (consA (un2 minT (consA (mrd 1 idxF (consA (fzv 8) nilA)) (consA (mrd 1 idxF (consA (fzv 9) nilA)) nilA))) (consA (un2 maxT (consA (mrd 1 idxF (consA (fzv 8) nilA)) (consA (mrd 1 idxF (consA (fzv 9) nilA)) nilA))) nilA))) nilA))))
  (retM (tupM (consA (fzv 2) (consA (lcM (iterA (fzv 1)) (setv 10) yesB (binL itemT 3 (fzv 10)) [10]) (consA (fzv 6) (consA (pk 7 sortT) nilA))))))))))
noncomputable def run__law_turned : List T → Option T := run0 sem__law_turned 9
theorem body__law_turned (T : Txt K w mg) (C : Cs__law_turned P w K mg base) : Body P w K mg base 0 "_law_turned" s__law_turned N__law_turned false sem__law_turned := by
  intro I0 h0 H0 v0 f cdv A outer s H E hr
  have sc := sc__law_turned
  exact (vss_cons (vs_asg (ps_asg (ve_fz 0 (pv 0)) (vg_tup rfl (vgs_cons (vg_name 2 (pg_name (i := 2) sc.nd rfl (by first | exact Or.inl rfl | exact Or.inr rfl))) (vgs_cons (vg_name 3 (pg_name (i := 3) sc.nd rfl (by first | exact Or.inl rfl | exact Or.inr rfl))) (vgs_cons (vg_name 4 (pg_name (i := 4) sc.nd rfl (by first | exact Or.inl rfl | exact Or.inr rfl))) (vgs_cons (vg_name 5 (pg_name (i := 5) sc.nd rfl (by first | exact Or.inl rfl | exact Or.inr rfl))) vgs_nil)))))))
  (vss_cons (vs_set (ps_set (i := 6) sc.nd rfl (by first | exact Or.inl rfl | exact Or.inr rfl) (ve_b1 (cr_sortD hr) rcb_sorted rfl T.b_sorted (by decide +kernel) (va_cons (ve_lc (own := [("_law_one", 8), ("_law_two", 9)]) rfl rfl sc.nd (vi_any (ve_fz 4 (pv 4))) (blkOk_by (own := [("_law_one", 8), ("_law_two", 9)]) (N := N__law_turned) (sc := defScope s__law_turned) (by decide +kernel)) (fun _ _ _ _ _ => (vgo_tup rfl (vgso_cons (vgo_name 8 (pg_name (i := 8) sc.nd rfl (by first | exact Or.inl rfl | exact Or.inr rfl))) (vgso_cons (vgo_name 9 (pg_name (i := 9) sc.nd rfl (by first | exact Or.inl rfl | exact Or.inr rfl))) vgso_nil)))) (fun _ _ _ _ _ => vts_nil) (fun _ _ _ _ _ => (ve_tup (va_cons (ve_mrd (i := 1) (mt_indexD hr.u65) rmr_idx (pe_bm PySem.F.plainAttrs_list PySem.F.slot_list_index PySem.F.type_list_index (mt_indexD hr.u65) (pv 1) (va_cons (ve_fz 8 (pv 8)) va_nil))) (va_cons (ve_mrd (i := 1) (mt_indexD hr.u65) rmr_idx (pe_bm PySem.F.plainAttrs_list PySem.F.slot_list_index PySem.F.type_list_index (mt_indexD hr.u65) (pv 1) (va_cons (ve_fz 9 (pv 9)) va_nil))) va_nil))))) va_nil))))
  (vss_cons (vs_set (ps_set (i := 7) sc.nd rfl (by first | exact Or.inl rfl | exact Or.inr rfl) (ve_lst va_nil)))
  (vss_cons (vs_for PassesOwn.never rfl (vi_any (ve_fz 5 (pv 5))) (vg_tup rfl (vgs_cons (vg_name 8 (pg_name (i := 8) sc.nd rfl (by first | exact Or.inl rfl | exact Or.inr rfl))) (vgs_cons (vg_name 9 (pg_name (i := 9) sc.nd rfl (by first | exact Or.inl rfl | exact Or.inr rfl))) vgs_nil)))
  (vss_one (vs_expr (ps_expr (ve_mth (i := 7) PySem.F.slot_list_append PySem.F.type_list_append mt_append rm_app (pe_bm PySem.F.plainAttrs_list PySem.F.slot_list_append PySem.F.type_list_append mt_append (pv 7) (va_cons (ve_tup (va_cons (ve_min rfl rfl T.b_min (va_cons (ve_mrd (i := 1) (mt_indexD hr.u65) rmr_idx (pe_bm PySem.F.plainAttrs_list PySem.F.slot_list_index PySem.F.type_list_index (mt_indexD hr.u65) (pv 1) (va_cons (ve_fz 8 (pv 8)) va_nil))) (va_cons (ve_mrd (i := 1) (mt_indexD hr.u65) rmr_idx (pe_bm PySem.F.plainAttrs_list PySem.F.slot_list_index PySem.F.type_list_index (mt_indexD hr.u65) (pv 1) (va_cons (ve_fz 9 (pv 9)) va_nil))) va_nil))) (va_cons (ve_max rfl rfl T.b_max (va_cons (ve_mrd (i := 1) (mt_indexD hr.u65) rmr_idx (pe_bm PySem.F.plainAttrs_list PySem.F.slot_list_index PySem.F.type_list_index (mt_indexD hr.u65) (pv 1) (va_cons (ve_fz 8 (pv 8)) va_nil))) (va_cons (ve_mrd (i := 1) (mt_indexD hr.u65) rmr_idx (pe_bm PySem.F.plainAttrs_list PySem.F.slot_list_index PySem.F.type_list_index (mt_indexD hr.u65) (pv 1) (va_cons (ve_fz 9 (pv 9)) va_nil))) va_nil))) va_nil))) va_nil)))))))
  (vss_one (vs_ret (ve_tup (va_cons (ve_fz 2 (pv 2)) (va_cons (ve_lc (own := [("_law_number", 10)]) rfl rfl sc.nd (vi_any (ve_fz 1 (pv 1))) (blkOk_by (own := [("_law_number", 10)]) (N := N__law_turned) (sc := defScope s__law_turned) (by decide +kernel)) (fun _ _ _ _ _ => (vgo_name 10 (pg_name (i := 10) sc.nd rfl (by first | exact Or.inl rfl | exact Or.inr rfl)))) (fun _ _ _ _ _ => vts_nil) (fun _ _ _ _ _ => (ve_ixL (i := 3) (pv 3) (ve_fz 10 (pv 10))))) (va_cons (ve_fz 6 (pv 6)) (va_cons (ve_b1L (i := 7) (cr_sortD hr) rcb_sorted rfl T.b_sorted (by decide +kernel) (pv 7)) va_nil)))))))))))

structure Cs_is_layout (P : Program) (w : World) (K : PySem.W.Frag) (mg : Str → Option Value) (base : Heap) : Prop where
  c_first_fault : Fn0 P w K mg base 4 "first_fault" 1 run_first_fault
abbrev s_is_layout : Stmt := top 28
abbrev N_is_layout : List Str := ["value"]
theorem sc_is_layout : FnScope N_is_layout ["value"] (defScope s_is_layout) := ⟨rfl, rfl, rfl, by decide +kernel, rfl, by decide +kernel, by decide +kernel⟩
noncomputable def sem_is_layout : M Ctl :=
  (retM (andV (pk 0 (isiT "tuple")) (andV (bin eqA (pk 0 lenT) (M.pure (tI 4))) (bin isNT (callM 1 run_first_fault (consA (fzv 0) nilA)) (M.pure tN)))))
noncomputable def run_is_layout : List T → Option T := run0 sem_is_layout 0
theorem body_is_layout (T : Txt K w mg) (C : Cs_is_layout P w K mg base) : Body P w K mg base 4 "is_layout" s_is_layout N_is_layout false sem_is_layout := by
  intro I0 h0 H0 v0 f cdv A outer s H E hr
  have sc := sc_is_layout
  exact (vss_one (vs_ret (ve_and (ve_isiL (i := 0) rfl T.b_isinstance (pv 0) (pe_bltn (v := .ty "tuple") rfl T.b_tuple (by decide +kernel) rfl)) (ve_and (ve_cmp (opr_eq hr.units) rfb_eqA.rf (nomark _) (ve_b1L (i := 0) cr_len rcb_len rfl T.b_len (by decide +kernel) (pv 0)) (ve_c pe_int)) (ve_one (ve_cmp opr_is rfb_is.rf (nomark _) (ve_call0 (k := 4) C.c_first_fault hr (by decide) rfl (va_cons (ve_fz 0 (pv 0)) va_nil)) (ve_c pe_non)))))))

structure Cs__law_right (P : Program) (w : World) (K : PySem.W.Frag) (mg : Str → Option Value) (base : Heap) : Prop where
  c__law_order : Fn1 P w K mg base 2 "_law_order" 2 run__law_order
  c__law_turned : Fn0 P w K mg base 1 "_law_turned" 2 run__law_turned
  c_reordered : Fn0 P w K mg base 6 "reordered" 2 run_reordered
  c_is_layout : Fn0 P w K mg base 5 "is_layout" 1 run_is_layout
abbrev s__law_right : Stmt := top 39
abbrev N__law_right : List Str := ["_law_fount_here", "_law_layout_here", "_law_many", "_law_order_here", "_law_other", "_law_kept", "_law_due", "_law_again", "_law_found", "_law_part", "_law_back", "_law_both", "_law_number"]
theorem sc__law_right : FnScope N__law_right ["_law_fount_here", "_law_layout_here"] (defScope s__law_right) := ⟨rfl, rfl, rfl, by decide +kernel, rfl, by decide +kernel, by decide +kernel⟩
noncomputable def sem__law_right : M Ctl :=
  (seqM (asgM (un1 lenT (consA (binL itemT 1 (M.pure (tI 1))) nilA)) (setv 2))
  (seqM (asgM (tupM (consA (callIO 2 run__law_order 0 (consA (fzv 2) nilA)) (consA (callIO 2 run__law_order 0 (consA (fzv 2) nilA)) nilA))) (gtup 2 (gcons (setv 3) (gcons (setv 4) gnil))))
  (seqM (par2 (consA (un1 reprT (consA (lstM (consA (fzv 1) (consA (fzv 3) nilA))) nilA)) (consA (callM 2 run__law_turned (consA (fzv 1) (consA (fzv 3) nilA))) nilA)) 5 6)
  (seqM (forM (rng1 (consA (M.pure (tI 2)) nilA)) (setv 7)
  (seqM (asgM (callM 2 run_reordered (consA (fzv 1) (consA (fzv 3) nilA))) (setv 8))
  (seqM (ifM (orB (cmpB neA (pk 8 reprT) (pk 6 reprT)) (notB (truM (pk 8 (lent run_is_layout)))))
  (retM (M.pure (tBl false)))
  (M.pure .nx))
  (forO (mvv 8) (setv 9)
  (drpM (mth 9 appF (consA (M.pure (tI 0)) nilA)))))))
  (seqM (asgM (lcM (rng1 (consA (fzv 2) nilA)) (setv 12) yesB (mrd 3 idxF (consA (fzv 12) nilA)) [12]) (setv 10))
  (seqM (ifM (orB (cmpB neA (un1 reprT (consA (callM 2 run_reordered (consA (fzv 6) (consA (fzv 10) nilA))) nilA)) (pk 1 reprT)) (cmpB neA (un1 reprT (consA (callM 2 run_reordered (consA (fzv 1) (consA (lrg1 (consA (fzv 2) nilA)) nilA))) nilA)) (pk 1 reprT)))
  (retM (M.pure (tBl false)))
  (M.pure .nx))
  (seqM (asgM (lcM (iterA (fzv 4)) (setv 12) yesB (binL itemT 3 (fzv 12)) [12]) (setv 11))
  (retM (andV (bin eqA (callM 2 run_reordered (consA (fzv 6) (consA (fzv 4) nilA))) (callM 2 run_reordered (consA (fzv 1) (consA (fzv 11) nilA)))) (binR eqA (un1 reprT (consA (lstM (consA (fzv 1) (consA (fzv 3) nilA))) nilA)) 5))))))))))
noncomputable def run__law_right : List T → Option (T × T) := run1 sem__law_right 11
theorem body__law_right (T : Txt K w mg) (C : Cs__law_right P w K mg base) : Body P w K mg base 6 "_law_right" s__law_right N__law_right true sem__law_right := by
  intro I0 h0 H0 v0 f cdv A outer s H E hr
  have sc := sc__law_right
  exact (vss_cons (vs_set (ps_set (i := 2) sc.nd rfl (by first | exact Or.inl rfl | exact Or.inr rfl) (ve_b1 cr_len rcb_len rfl T.b_len (by decide +kernel) (va_cons (ve_ixL (i := 1) (pv 1) (ve_c pe_int)) va_nil))))
  (vss_cons (vs_asg (ps_asg (ve_tup (va_cons (ve_call1 (i := 0) (k := 2) C.c__law_order hr (by decide) rfl (pv 0) (va_cons (ve_fz 2 (pv 2)) va_nil)) (va_cons (ve_call1 (i := 0) (k := 2) C.c__law_order hr (by decide) rfl (pv 0) (va_cons (ve_fz 2 (pv 2)) va_nil)) va_nil))) (vg_tup rfl (vgs_cons (vg_name 3 (pg_name (i := 3) sc.nd rfl (by first | exact Or.inl rfl | exact Or.inr rfl))) (vgs_cons (vg_name 4 (pg_name (i := 4) sc.nd rfl (by first | exact Or.inl rfl | exact Or.inr rfl))) vgs_nil)))))
  (vss_cons (vs_par2 (ps_par (i := 5) (j := 6) rfl sc.nd rfl rfl (by decide) rfl rfl (va_cons (ve_b1 (cr_repr hr) rcb_repr rfl T.b_repr (by decide +kernel) (va_cons (ve_lst (va_cons (ve_fz 1 (pv 1)) (va_cons (ve_fz 3 (pv 3)) va_nil))) va_nil)) (va_cons (ve_call0 (k := 1) C.c__law_turned hr (by decide) rfl (va_cons (ve_fz 1 (pv 1)) (va_cons (ve_fz 3 (pv 3)) va_nil))) va_nil)) (by rfl)))
  (vss_cons (vs_for PassesOwn.never rfl (vi_range1 rfl T.b_range (va_cons (ve_c pe_int) va_nil)) (vg_name 7 (pg_name (i := 7) sc.nd rfl (by first | exact Or.inl rfl | exact Or.inr rfl)))
  (vss_cons (vs_set (ps_set (i := 8) sc.nd rfl (by first | exact Or.inl rfl | exact Or.inr rfl) (ve_call0 (k := 6) C.c_reordered hr (by decide) rfl (va_cons (ve_fz 1 (pv 1)) (va_cons (ve_fz 3 (pv 3)) va_nil)))))
  (vss_cons (vs_if (PW.pt (vw_or (vt_cmp (opr_ne hr.units) rfb_neA.rf (nomark _) (ve_b1L (i := 8) (cr_repr hr) rcb_repr rfl T.b_repr (by decide +kernel) (pv 8)) (ve_b1L (i := 6) (cr_repr hr) rcb_repr rfl T.b_repr (by decide +kernel) (pv 6))) (pw_or1 (vt_not (vt_tru (ve_lend (i := 8) (k := 5) C.c_is_layout hr (by decide) rfl (pv 8)))))))
  (vss_one (vs_ret (ve_c pe_bl)))
  vss_nil)
  (vss_one (vs_forO PassesOwn.never rfl (ve_mv 8 (pv 8)) (vg_name 9 (pg_name (i := 9) sc.nd rfl (by first | exact Or.inl rfl | exact Or.inr rfl)))
  (vss_one (vs_expr (ps_expr (ve_mth (i := 9) PySem.F.slot_list_append PySem.F.type_list_append mt_append rm_app (pe_bm PySem.F.plainAttrs_list PySem.F.slot_list_append PySem.F.type_list_append mt_append (pv 9) (va_cons (ve_c pe_int) va_nil)))))))))))
  (vss_cons (by first | exact (ve_setLc (own := [("_law_number", 12)]) (i := 10) rfl rfl sc.nd rfl rfl (sw_true rfl rfl rfl (by decide +kernel)) (vi_range1 rfl T.b_range (va_cons (ve_fz 2 (pv 2)) va_nil)) (blkOk_by (own := [("_law_number", 12)]) (N := N__law_right) (sc := defScope s__law_right) (by decide +kernel)) (fun _ _ _ _ _ => (vgo_name 12 (pg_name (i := 12) sc.nd rfl (by first | exact Or.inl rfl | exact Or.inr rfl)))) (fun _ _ _ _ _ => vts_nil) (fun _ _ _ _ _ => (ve_mrd (i := 3) (mt_indexD hr.u65) rmr_idx (pe_bm PySem.F.plainAttrs_list PySem.F.slot_list_index PySem.F.type_list_index (mt_indexD hr.u65) (pv 3) (va_cons (ve_fz 12 (pv 12)) va_nil))))) | exact (vs_set (ps_set (i := 10) sc.nd rfl (by first | exact Or.inl rfl | exact Or.inr rfl) (ve_lc (own := [("_law_number", 12)]) rfl rfl sc.nd (vi_range1 rfl T.b_range (va_cons (ve_fz 2 (pv 2)) va_nil)) (blkOk_by (own := [("_law_number", 12)]) (N := N__law_right) (sc := defScope s__law_right) (by decide +kernel)) (fun _ _ _ _ _ => (vgo_name 12 (pg_name (i := 12) sc.nd rfl (by first | exact Or.inl rfl | exact Or.inr rfl)))) (fun _ _ _ _ _ => vts_nil) (fun _ _ _ _ _ => (ve_mrd (i := 3) (mt_indexD hr.u65) rmr_idx (pe_bm PySem.F.plainAttrs_list PySem.F.slot_list_index PySem.F.type_list_index (mt_indexD hr.u65) (pv 3) (va_cons (ve_fz 12 (pv 12)) va_nil))))))))
  (vss_cons (vs_if (PW.pt (vw_or (vt_cmp (opr_ne hr.units) rfb_neA.rf (nomark _) (ve_b1 (cr_repr hr) rcb_repr rfl T.b_repr (by decide +kernel) (va_cons (ve_call0 (k := 6) C.c_reordered hr (by decide) rfl (va_cons (ve_fz 6 (pv 6)) (va_cons (ve_fz 10 (pv 10)) va_nil))) va_nil)) (ve_b1L (i := 1) (cr_repr hr) rcb_repr rfl T.b_repr (by decide +kernel) (pv 1))) (pw_or1 (vt_cmp (opr_ne hr.units) rfb_neA.rf (nomark _) (ve_b1 (cr_repr hr) rcb_repr rfl T.b_repr (by decide +kernel) (va_cons (ve_call0 (k := 6) C.c_reordered hr (by decide) rfl (va_cons (ve_fz 1 (pv 1)) (va_cons (ve_lrg1 rfl rfl T.b_list rfl T.b_range (ve_fz 2 (pv 2))) va_nil))) va_nil)) (ve_b1L (i := 1) (cr_repr hr) rcb_repr rfl T.b_repr (by decide +kernel) (pv 1))))))
  (vss_one (vs_ret (ve_c pe_bl)))
  vss_nil)
  (vss_cons (by first | exact (ve_setLc (own := [("_law_number", 12)]) (i := 11) rfl rfl sc.nd rfl rfl (sw_true rfl rfl rfl (by decide +kernel)) (vi_any (ve_fz 4 (pv 4))) (blkOk_by (own := [("_law_number", 12)]) (N := N__law_right) (sc := defScope s__law_right) (by decide +kernel)) (fun _ _ _ _ _ => (vgo_name 12 (pg_name (i := 12) sc.nd rfl (by first | exact Or.inl rfl | exact Or.inr rfl)))) (fun _ _ _ _ _ => vts_nil) (fun _ _ _ _ _ => (ve_ixL (i := 3) (pv 3) (ve_fz 12 (pv 12))))) | exact (vs_set (ps_set (i := 11) sc.nd rfl (by first | exact Or.inl rfl | exact Or.inr rfl) (ve_lc (own := [("_law_number", 12)]) rfl rfl sc.nd (vi_any (ve_fz 4 (pv 4))) (blkOk_by (own := [("_law_number", 12)]) (N := N__law_right) (sc := defScope s__law_right) (by decide +kernel)) (fun _ _ _ _ _ => (vgo_name 12 (pg_name (i := 12) sc.nd rfl (by first | exact Or.inl rfl | exact Or.inr rfl)))) (fun _ _ _ _ _ => vts_nil) (fun _ _ _ _ _ => (ve_ixL (i := 3) (pv 3) (ve_fz 12 (pv 12))))))))
  (vss_one (vs_ret (ve_and (ve_cmp (opr_eq hr.units) rfb_eqA.rf (nomark _) (ve_call0 (k := 6) C.c_reordered hr (by decide) rfl (va_cons (ve_fz 6 (pv 6)) (va_cons (ve_fz 4 (pv 4)) va_nil))) (ve_call0 (k := 6) C.c_reordered hr (by decide) rfl (va_cons (ve_fz 1 (pv 1)) (va_cons (ve_fz 11 (pv 11)) va_nil)))) (ve_one (ve_cmpR (i := 5) (opr_eq hr.units) rfb_eqA (nomark _) (ve_b1 (cr_repr hr) rcb_repr rfl T.b_repr (by decide +kernel) (va_cons (ve_lst (va_cons (ve_fz 1 (pv 1)) (va_cons (ve_fz 3 (pv 3)) va_nil))) va_nil)) (pv 5)))))))))))))

structure Cs_law (P : Program) (w : World) (K : PySem.W.Frag) (mg : Str → Option Value) (base : Heap) : Prop where
  c__law_fount : Fn0 P w K mg base 1 "_law_fount" 2 run__law_fount
  c__law_dip : Fn1 P w K mg base 1 "_law_dip" 2 run__law_dip
  c__law_layout : Fn1 P w K mg base 3 "_law_layout" 4 run__law_layout
  c__law_small : Fn1 P w K mg base 2 "_law_small" 2 run__law_small
  c__law_right : Fn1 P w K mg base 7 "_law_right" 2 run__law_right
  c_reordered : Fn0 P w K mg base 6 "reordered" 2 run_reordered
abbrev s_law : Stmt := top 40
abbrev N_law : List Str := ["_law_script", "_law_k", "_law_fount_here", "_law_turn", "_law_first", "_law_many", "_law_layout_here", "_law_some", "_law_found"]
theorem sc_law : FnScope N_law ["_law_script"] (defScope s_law) := ⟨rfl, rfl, rfl, by decide +kernel, rfl, by decide +kernel, by decide +kernel⟩
noncomputable def sem_law : M Ctl :=
  (seqM (forM (rng1 (consA (un2 maxT (consA (M.pure (tI 1)) (consA (un2 minT (consA (M.pure (tI 5)) (consA (pk 0 lenT) nilA))) nilA))) nilA)) (setv 1)
  (seqM (asgM (callM 2 run__law_fount (consA (fzv 0) (consA (fzv 1) nilA))) (setv 2))
  (forM (rng1 (consA (bin itemT (lstM (consA (M.pure (tI 6)) (consA (M.pure (tI 15)) nilA))) (un1 intT (consA (binL eqA 1 (M.pure (tI 0))) nilA))) nilA)) (setv 3)
  (seqM (asgM (ifV (boolM (binL eqA 3 (M.pure (tI 0)))) (tupM (consA (M.pure (tI 12)) (consA (M.pure (tI 8)) nilA))) (tupM (consA (callIO 2 run__law_dip 2 (consA (M.pure (tI 13)) nilA)) (consA (callIO 2 run__law_dip 2 (consA (M.pure (tI 9)) nilA)) nilA)))) (gtup 2 (gcons (setv 4) (gcons (setv 5) gnil))))
  (seqM (asgM (callIO 4 run__law_layout 2 (consA (callIO 2 run__law_small 2 (consA (fzv 4) nilA)) (consA (fzv 5) (consA (bin itemT (lstM (consA (M.pure (tI 5)) (consA (bin powT (M.pure (tI 10)) (M.pure (tI 9))) nilA))) (callIO 2 run__law_dip 2 (consA (M.pure (tI 2)) nilA))) nilA)))) (setv 6))
  (ifM (notB (truM (callIO 2 run__law_right 2 (consA (fzv 6) nilA))))
  (retM (M.pure (tBl false)))
  (M.pure .nx)))))))
  (seqM (asgM (lstM (consA (tupM (consA (M.pure (tS "a")) (consA (M.pure (tI 0)) (consA (tupM (consA (M.pure (tS "drag")) (consA (M.pure (tS "x")) (consA (M.pure (tI 5)) nilA)))) nilA)))) (consA (tupM (consA (M.pure (tS "b")) (consA (M.pure (tI 0)) (consA (tupM (consA (M.pure (tS "drag")) (consA (M.pure (tS "any")) (consA (M.pure (tI 5)) nilA)))) nilA)))) (consA (tupM (consA (M.pure (tS "c")) (consA (M.pure (tI 0)) (consA (tupM (consA (M.pure (tS "tap")) (consA (M.pure (tI 200)) (consA (M.pure (tI 20)) nilA)))) nilA)))) nilA)))) (setv 7))
  (seqM (asgM (callM 2 run_reordered (consA (tupM (consA (lstM nilA) (consA (fzv 7) (consA (lstM (consA (tupM (consA (M.pure (tI 0)) (consA (M.pure (tI 2)) nilA))) nilA)) (consA (lstM (consA (tupM (consA (M.pure (tI 1)) (consA (M.pure (tI 2)) nilA))) nilA)) nilA))))) (consA (lstM (consA (M.pure (tI 2)) (consA (M.pure (tI 0)) (consA (M.pure (tI 1)) nilA)))) nilA))) (setv 8))
  (seqM (ifM (boolM (binL neA 8 (tupM (consA (lstM nilA) (consA (lstM (consA (binL itemT 7 (M.pure (tI 2))) (consA (binL itemT 7 (M.pure (tI 0))) (consA (binL itemT 7 (M.pure (tI 1))) nilA)))) (consA (lstM (consA (tupM (consA (M.pure (tI 1)) (consA (M.pure (tI 0)) nilA))) nilA)) (consA (lstM (consA (tupM (consA (M.pure (tI 0)) (consA (M.pure (tI 2)) nilA))) nilA)) nilA)))))))
  (retM (M.pure (tBl false)))
  (M.pure .nx))
  (retM (bin eqA (callM 2 run_reordered (consA (tupM (consA (lstM nilA) (consA (lstM nilA) (consA (lstM nilA) (consA (lstM nilA) nilA))))) (consA (lstM nilA) nilA))) (tupM (consA (lstM nilA) (consA (lstM nilA) (consA (lstM nilA) (consA (lstM nilA) nilA)))))))))))
noncomputable def run_law : List T → Option T := run0 sem_law 8
theorem body_law (T : Txt K w mg) (C : Cs_law P w K mg base) : Body P w K mg base 7 "law" s_law N_law false sem_law := by
  intro I0 h0 H0 v0 f cdv A outer s H E hr
  have sc := sc_law
  exact (vss_cons (vs_for PassesOwn.never rfl (vi_range1 rfl T.b_range (va_cons (ve_max rfl rfl T.b_max (va_cons (ve_c pe_int) (va_cons (ve_min rfl rfl T.b_min (va_cons (ve_c pe_int) (va_cons (ve_b1L (i := 0) cr_len rcb_len rfl T.b_len (by decide +kernel) (pv 0)) va_nil))) va_nil))) va_nil)) (vg_name 1 (pg_name (i := 1) sc.nd rfl (by first | exact Or.inl rfl | exact Or.inr rfl)))
  (vss_cons (vs_set (ps_set (i := 2) sc.nd rfl (by first | exact Or.inl rfl | exact Or.inr rfl) (ve_call0 (k := 1) C.c__law_fount hr (by decide) rfl (va_cons (ve_fz 0 (pv 0)) (va_cons (ve_fz 1 (pv 1)) va_nil)))))
  (vss_one (vs_for PassesOwn.never rfl (vi_range1 rfl T.b_range (va_cons (ve_ix (ve_lst (va_cons (ve_c pe_int) (va_cons (ve_c pe_int) va_nil))) (ve_t1 cr_int rcb_int rfl T.b_int (by decide +kernel) (va_cons (ve_cmpL (i := 1) (opr_eq hr.units) rfb_eqA (nomark _) (pv 1) (ve_c pe_int)) va_nil))) va_nil)) (vg_name 3 (pg_name (i := 3) sc.nd rfl (by first | exact Or.inl rfl | exact Or.inr rfl)))
  (vss_cons (vs_asg (ps_asg (ve_if (vt_cmpL (i := 3) (opr_eq hr.units) rfb_eqA (nomark _) (pv 3) (ve_c pe_int)) (ve_tup (va_cons (ve_c pe_int) (va_cons (ve_c pe_int) va_nil))) (ve_tup (va_cons (ve_call1 (i := 2) (k := 1) C.c__law_dip hr (by decide) rfl (pv 2) (va_cons (ve_c pe_int) va_nil)) (va_cons (ve_call1 (i := 2) (k := 1) C.c__law_dip hr (by decide) rfl (pv 2) (va_cons (ve_c pe_int) va_nil)) va_nil)))) (vg_tup rfl (vgs_cons (vg_name 4 (pg_name (i := 4) sc.nd rfl (by first | exact Or.inl rfl | exact Or.inr rfl))) (vgs_cons (vg_name 5 (pg_name (i := 5) sc.nd rfl (by first | exact Or.inl rfl | exact Or.inr rfl))) vgs_nil)))))
  (vss_cons (vs_set (ps_set (i := 6) sc.nd rfl (by first | exact Or.inl rfl | exact Or.inr rfl) (ve_call1 (i := 2) (k := 3) C.c__law_layout hr (by decide) rfl (pv 2) (va_cons (ve_call1 (i := 2) (k := 2) C.c__law_small hr (by decide) rfl (pv 2) (va_cons (ve_fz 4 (pv 4)) va_nil)) (va_cons (ve_fz 5 (pv 5)) (va_cons (ve_ix (ve_lst (va_cons (ve_c pe_int) (va_cons (ve_op op_powW rf_pow (ve_c pe_int) (ve_c pe_int)) va_nil))) (ve_call1 (i := 2) (k := 1) C.c__law_dip hr (by decide) rfl (pv 2) (va_cons (ve_c pe_int) va_nil))) va_nil))))))
  (vss_one (vs_if (vt_not (vt_tru (ve_call1 (i := 2) (k := 7) C.c__law_right hr (by decide) rfl (pv 2) (va_cons (ve_fz 6 (pv 6)) va_nil))))
  (vss_one (vs_ret (ve_c pe_bl)))
  vss_nil))))))))
  (vss_cons (vs_set (ps_set (i := 7) sc.nd rfl (by first | exact Or.inl rfl | exact Or.inr rfl) (ve_lst (va_cons (ve_tup (va_cons (ve_c pe_str) (va_cons (ve_c pe_int) (va_cons (ve_tup (va_cons (ve_c pe_str) (va_cons (ve_c pe_str) (va_cons (ve_c pe_int) va_nil)))) va_nil)))) (va_cons (ve_tup (va_cons (ve_c pe_str) (va_cons (ve_c pe_int) (va_cons (ve_tup (va_cons (ve_c pe_str) (va_cons (ve_c pe_str) (va_cons (ve_c pe_int) va_nil)))) va_nil)))) (va_cons (ve_tup (va_cons (ve_c pe_str) (va_cons (ve_c pe_int) (va_cons (ve_tup (va_cons (ve_c pe_str) (va_cons (ve_c pe_int) (va_cons (ve_c pe_int) va_nil)))) va_nil)))) va_nil))))))
  (vss_cons (vs_set (ps_set (i := 8) sc.nd rfl (by first | exact Or.inl rfl | exact Or.inr rfl) (ve_call0 (k := 6) C.c_reordered hr (by decide) rfl (va_cons (ve_tup (va_cons (ve_lst va_nil) (va_cons (ve_fz 7 (pv 7)) (va_cons (ve_lst (va_cons (ve_tup (va_cons (ve_c pe_int) (va_cons (ve_c pe_int) va_nil))) va_nil)) (va_cons (ve_lst (va_cons (ve_tup (va_cons (ve_c pe_int) (va_cons (ve_c pe_int) va_nil))) va_nil)) va_nil))))) (va_cons (ve_lst (va_cons (ve_c pe_int) (va_cons (ve_c pe_int) (va_cons (ve_c pe_int) va_nil)))) va_nil)))))
  (vss_cons (vs_if (vt_cmpL (i := 8) (opr_ne hr.units) rfb_neA (nomark _) (pv 8) (ve_tup (va_cons (ve_lst va_nil) (va_cons (ve_lst (va_cons (ve_ixL (i := 7) (pv 7) (ve_c pe_int)) (va_cons (ve_ixL (i := 7) (pv 7) (ve_c pe_int)) (va_cons (ve_ixL (i := 7) (pv 7) (ve_c pe_int)) va_nil)))) (va_cons (ve_lst (va_cons (ve_tup (va_cons (ve_c pe_int) (va_cons (ve_c pe_int) va_nil))) va_nil)) (va_cons (ve_lst (va_cons (ve_tup (va_cons (ve_c pe_int) (va_cons (ve_c pe_int) va_nil))) va_nil)) va_nil))))))
  (vss_one (vs_ret (ve_c pe_bl)))
  vss_nil)
  (vss_one (vs_ret (ve_cmp (opr_eq hr.units) rfb_eqA.rf (nomark _) (ve_call0 (k := 6) C.c_reordered hr (by decide) rfl (va_cons (ve_tup (va_cons (ve_lst va_nil) (va_cons (ve_lst va_nil) (va_cons (ve_lst va_nil) (va_cons (ve_lst va_nil) va_nil))))) (va_cons (ve_lst va_nil) va_nil))) (ve_tup (va_cons (ve_lst va_nil) (va_cons (ve_lst va_nil) (va_cons (ve_lst va_nil) (va_cons (ve_lst va_nil) va_nil))))))))))))
end
theorem asm {P : Program} {w : World} {K : PySem.W.Frag} {mg : Str → Option Value} {f_is_name f_is_integer f_is_kind f_wrong_recognizer f_is_list f_is_pair f_wrong_pair f_is_view f_wrong_view f_first_fault f_require_layout f_is_order f_reordered f__law_fount f__law_dip f__law_names_of f__law_pairs f__law_kind f__law_layout f__law_small f__law_order f__law_turned f_is_layout f__law_right f_law : Addr} {fd_is_name fd_is_integer fd_is_kind fd_wrong_recognizer fd_is_list fd_is_pair fd_wrong_pair fd_is_view fd_wrong_view fd_first_fault fd_require_layout fd_is_order fd_reordered fd__law_fount fd__law_dip fd__law_names_of fd__law_pairs fd__law_kind fd__law_layout fd__law_small fd__law_order fd__law_turned fd_is_layout fd__law_right fd_law : FuncData} (T : Txt K w mg)
    (m_is_name : mg "is_name" = some (.ref f_is_name)) (F_is_name : Fun K "is_name" "is_name" s_is_name f_is_name fd_is_name)
    (m_is_integer : mg "is_integer" = some (.ref f_is_integer)) (F_is_integer : Fun K "is_integer" "is_integer" s_is_integer f_is_integer fd_is_integer)
    (m_is_kind : mg "is_kind" = some (.ref f_is_kind)) (F_is_kind : Fun K "is_kind" "is_kind" s_is_kind f_is_kind fd_is_kind)
    (m_wrong_recognizer : mg "wrong_recognizer" = some (.ref f_wrong_recognizer)) (F_wrong_recognizer : Fun K "wrong_recognizer" "wrong_recognizer" s_wrong_recognizer f_wrong_recognizer fd_wrong_recognizer)
    (m_is_list : mg "is_list" = some (.ref f_is_list)) (F_is_list : Fun K "is_list" "is_list" s_is_list f_is_list fd_is_list)
    (m_is_pair : mg "is_pair" = some (.ref f_is_pair)) (F_is_pair : Fun K "is_pair" "is_pair" s_is_pair f_is_pair fd_is_pair)
    (m_wrong_pair : mg "wrong_pair" = some (.ref f_wrong_pair)) (F_wrong_pair : Fun K "wrong_pair" "wrong_pair" s_wrong_pair f_wrong_pair fd_wrong_pair)
    (m_is_view : mg "is_view" = some (.ref f_is_view)) (F_is_view : Fun K "is_view" "is_view" s_is_view f_is_view fd_is_view)
    (m_wrong_view : mg "wrong_view" = some (.ref f_wrong_view)) (F_wrong_view : Fun K "wrong_view" "wrong_view" s_wrong_view f_wrong_view fd_wrong_view)
    (m_first_fault : mg "first_fault" = some (.ref f_first_fault)) (F_first_fault : Fun K "first_fault" "first_fault" s_first_fault f_first_fault fd_first_fault)
    (m_require_layout : mg "require_layout" = some (.ref f_require_layout)) (F_require_layout : Fun K "require_layout" "require_layout" s_require_layout f_require_layout fd_require_layout)
    (m_is_order : mg "is_order" = some (.ref f_is_order)) (F_is_order : Fun K "is_order" "is_order" s_is_order f_is_order fd_is_order)
    (m_reordered : mg "reordered" = some (.ref f_reordered)) (F_reordered : Fun K "reordered" "reordered" s_reordered f_reordered fd_reordered)
    (m__law_fount : mg "_law_fount" = some (.ref f__law_fount)) (F__law_fount : Fun K "_law_fount" "_law_fount" s__law_fount f__law_fount fd__law_fount)
    (m__law_dip : mg "_law_dip" = some (.ref f__law_dip)) (F__law_dip : Fun K "_law_dip" "_law_dip" s__law_dip f__law_dip fd__law_dip)
    (m__law_names_of : mg "_law_names_of" = some (.ref f__law_names_of)) (F__law_names_of : Fun K "_law_names_of" "_law_names_of" s__law_names_of f__law_names_of fd__law_names_of)
    (m__law_pairs : mg "_law_pairs" = some (.ref f__law_pairs)) (F__law_pairs : Fun K "_law_pairs" "_law_pairs" s__law_pairs f__law_pairs fd__law_pairs)
    (m__law_kind : mg "_law_kind" = some (.ref f__law_kind)) (F__law_kind : Fun K "_law_kind" "_law_kind" s__law_kind f__law_kind fd__law_kind)
    (m__law_layout : mg "_law_layout" = some (.ref f__law_layout)) (F__law_layout : Fun K "_law_layout" "_law_layout" s__law_layout f__law_layout fd__law_layout)
    (m__law_small : mg "_law_small" = some (.ref f__law_small)) (F__law_small : Fun K "_law_small" "_law_small" s__law_small f__law_small fd__law_small)
    (m__law_order : mg "_law_order" = some (.ref f__law_order)) (F__law_order : Fun K "_law_order" "_law_order" s__law_order f__law_order fd__law_order)
    (m__law_turned : mg "_law_turned" = some (.ref f__law_turned)) (F__law_turned : Fun K "_law_turned" "_law_turned" s__law_turned f__law_turned fd__law_turned)
    (m_is_layout : mg "is_layout" = some (.ref f_is_layout)) (F_is_layout : Fun K "is_layout" "is_layout" s_is_layout f_is_layout fd_is_layout)
    (m__law_right : mg "_law_right" = some (.ref f__law_right)) (F__law_right : Fun K "_law_right" "_law_right" s__law_right f__law_right fd__law_right)
    (m_law : mg "law" = some (.ref f_law)) (F_law : Fun K "law" "law" s_law f_law fd_law) (base : Heap) : FnG P w K mg base L2.CX0 8 f_law fd_law ["_law_script"] (sp0 K 1 run_law) := by
  have n_is_name : Fn0 P w K mg base 1 "is_name" 1 run_is_name := fn0_mk F_is_name sc_is_name (F_is_name.binds (ps := ["value"]) fun _ _ _ _ _ _ us hl => match us, hl with | [_], _ => rfl) m_is_name rfl rfl (body_is_name T ⟨trivial⟩)
  have n_is_integer : Fn0 P w K mg base 1 "is_integer" 3 run_is_integer := fn0_mk F_is_integer sc_is_integer (F_is_integer.binds (ps := ["value", "first", "last"]) fun _ _ _ _ _ _ us hl => match us, hl with | [_, _, _], _ => rfl) m_is_integer rfl rfl (body_is_integer T ⟨trivial⟩)
  have n_is_kind : Fn0 P w K mg base 2 "is_kind" 1 run_is_kind := fn0_mk F_is_kind sc_is_kind (F_is_kind.binds (ps := ["value"]) fun _ _ _ _ _ _ us hl => match us, hl with | [_], _ => rfl) m_is_kind rfl rfl (body_is_kind T ⟨n_is_integer⟩)
  have n_wrong_recognizer : Fn0 P w K mg base 3 "wrong_recognizer" 2 run_wrong_recognizer := fn0_mk F_wrong_recognizer sc_wrong_recognizer (F_wrong_recognizer.binds (ps := ["recognizers", "last"]) fun _ _ _ _ _ _ us hl => match us, hl with | [_, _], _ => rfl) m_wrong_recognizer rfl rfl (body_wrong_recognizer T ⟨n_is_name, n_is_kind, n_is_integer⟩)
  have n_is_list : Fn0 P w K mg base 1 "is_list" 2 run_is_list := fn0_mk F_is_list sc_is_list (F_is_list.binds (ps := ["value", "most"]) fun _ _ _ _ _ _ us hl => match us, hl with | [_, _], _ => rfl) m_is_list rfl rfl (body_is_list T ⟨trivial⟩)
  have n_is_pair : Fn0 P w K mg base 2 "is_pair" 3 run_is_pair := fn0_mk F_is_pair sc_is_pair (F_is_pair.binds (ps := ["value", "many", "rising"]) fun _ _ _ _ _ _ us hl => match us, hl with | [_, _, _], _ => rfl) m_is_pair rfl rfl (body_is_pair T ⟨n_is_integer⟩)
  have n_wrong_pair : Fn0 P w K mg base 3 "wrong_pair" 3 run_wrong_pair := fn0_mk F_wrong_pair sc_wrong_pair (F_wrong_pair.binds (ps := ["pairs", "many", "rising"]) fun _ _ _ _ _ _ us hl => match us, hl with | [_, _, _], _ => rfl) m_wrong_pair rfl rfl (body_wrong_pair T ⟨n_is_pair⟩)
  have n_is_view : Fn0 P w K mg base 2 "is_view" 2 run_is_view := fn0_mk F_is_view sc_is_view (F_is_view.binds (ps := ["value", "number"]) fun _ _ _ _ _ _ us hl => match us, hl with | [_, _], _ => rfl) m_is_view rfl rfl (body_is_view T ⟨n_is_integer⟩)
  have n_wrong_view : Fn0 P w K mg base 3 "wrong_view" 1 run_wrong_view := fn0_mk F_wrong_view sc_wrong_view (F_wrong_view.binds (ps := ["views"]) fun _ _ _ _ _ _ us hl => match us, hl with | [_], _ => rfl) m_wrong_view rfl rfl (body_wrong_view T ⟨n_is_view⟩)
  have n_first_fault : Fn0 P w K mg base 4 "first_fault" 1 run_first_fault := fn0_mk F_first_fault sc_first_fault (F_first_fault.binds (ps := ["layout"]) fun _ _ _ _ _ _ us hl => match us, hl with | [_], _ => rfl) m_first_fault rfl rfl (body_first_fault T ⟨n_wrong_view, n_is_list, n_wrong_recognizer, n_wrong_pair⟩)
  have n_require_layout : Fn0 P w K mg base 5 "require_layout" 1 run_require_layout := fn0_mk F_require_layout sc_require_layout (F_require_layout.binds (ps := ["layout"]) fun _ _ _ _ _ _ us hl => match us, hl with | [_], _ => rfl) m_require_layout rfl rfl (body_require_layout T ⟨n_first_fault⟩)
  have n_is_order : Fn0 P w K mg base 2 "is_order" 2 run_is_order := fn0_mk F_is_order sc_is_order (F_is_order.binds (ps := ["value", "many"]) fun _ _ _ _ _ _ us hl => match us, hl with | [_, _], _ => rfl) m_is_order rfl rfl (body_is_order T ⟨n_is_integer⟩)
  have n_reordered : Fn0 P w K mg base 6 "reordered" 2 run_reordered := fn0_mk F_reordered sc_reordered (F_reordered.binds (ps := ["layout", "order"]) fun _ _ _ _ _ _ us hl => match us, hl with | [_, _], _ => rfl) m_reordered rfl rfl (body_reordered T ⟨n_require_layout, n_is_order⟩)
  have n__law_fount : Fn0 P w K mg base 1 "_law_fount" 2 run__law_fount := fn0_mk F__law_fount sc__law_fount (F__law_fount.binds (ps := ["_law_script", "_law_k"]) fun _ _ _ _ _ _ us hl => match us, hl with | [_, _], _ => rfl) m__law_fount rfl rfl (body__law_fount T ⟨trivial⟩)
  have n__law_dip : Fn1 P w K mg base 1 "_law_dip" 2 run__law_dip := fn1_mk F__law_dip sc__law_dip (F__law_dip.binds (ps := ["_law_fount_here", "_law_many"]) fun _ _ _ _ _ _ us hl => match us, hl with | [_, _], _ => rfl) m__law_dip rfl rfl (body__law_dip T ⟨trivial⟩)
  have n__law_names_of : Fn1 P w K mg base 2 "_law_names_of" 2 run__law_names_of := fn1_mk F__law_names_of sc__law_names_of (F__law_names_of.binds (ps := ["_law_fount_here", "_law_many"]) fun _ _ _ _ _ _ us hl => match us, hl with | [_, _], _ => rfl) m__law_names_of rfl rfl (body__law_names_of T ⟨n__law_dip⟩)
  have n__law_pairs : Fn1 P w K mg base 2 "_law_pairs" 4 run__law_pairs := fn1_mk F__law_pairs sc__law_pairs (F__law_pairs.binds (ps := ["_law_fount_here", "_law_many", "_law_is_rising", "_law_most"]) fun _ _ _ _ _ _ us hl => match us, hl with | [_, _, _, _], _ => rfl) m__law_pairs rfl rfl (body__law_pairs T ⟨n__law_dip⟩)
  have n__law_kind : Fn1 P w K mg base 2 "_law_kind" 2 run__law_kind := fn1_mk F__law_kind sc__law_kind (F__law_kind.binds (ps := ["_law_fount_here", "_law_top"]) fun _ _ _ _ _ _ us hl => match us, hl with | [_, _], _ => rfl) m__law_kind rfl rfl (body__law_kind T ⟨n__law_dip⟩)
  have n__law_layout : Fn1 P w K mg base 3 "_law_layout" 4 run__law_layout := fn1_mk F__law_layout sc__law_layout (F__law_layout.binds (ps := ["_law_fount_here", "_law_views", "_law_many", "_law_top"]) fun _ _ _ _ _ _ us hl => match us, hl with | [_, _, _, _], _ => rfl) m__law_layout rfl rfl (body__law_layout T ⟨n__law_names_of, n__law_dip, n__law_kind, n__law_pairs⟩)
  have n__law_small : Fn1 P w K mg base 2 "_law_small" 2 run__law_small := fn1_mk F__law_small sc__law_small (F__law_small.binds (ps := ["_law_fount_here", "_law_many"]) fun _ _ _ _ _ _ us hl => match us, hl with | [_, _], _ => rfl) m__law_small rfl rfl (body__law_small T ⟨n__law_dip⟩)
  have n__law_order : Fn1 P w K mg base 2 "_law_order" 2 run__law_order := fn1_mk F__law_order sc__law_order (F__law_order.binds (ps := ["_law_fount_here", "_law_many"]) fun _ _ _ _ _ _ us hl => match us, hl with | [_, _], _ => rfl) m__law_order rfl rfl (body__law_order T ⟨n__law_dip⟩)
  have n__law_turned : Fn0 P w K mg base 1 "_law_turned" 2 run__law_turned := fn0_mk F__law_turned sc__law_turned (F__law_turned.binds (ps := ["_law_layout_here", "_law_order_here"]) fun _ _ _ _ _ _ us hl => match us, hl with | [_, _], _ => rfl) m__law_turned rfl rfl (body__law_turned T ⟨trivial⟩)
  have n_is_layout : Fn0 P w K mg base 5 "is_layout" 1 run_is_layout := fn0_mk F_is_layout sc_is_layout (F_is_layout.binds (ps := ["value"]) fun _ _ _ _ _ _ us hl => match us, hl with | [_], _ => rfl) m_is_layout rfl rfl (body_is_layout T ⟨n_first_fault⟩)
  have n__law_right : Fn1 P w K mg base 7 "_law_right" 2 run__law_right := fn1_mk F__law_right sc__law_right (F__law_right.binds (ps := ["_law_fount_here", "_law_layout_here"]) fun _ _ _ _ _ _ us hl => match us, hl with | [_, _], _ => rfl) m__law_right rfl rfl (body__law_right T ⟨n__law_order, n__law_turned, n_reordered, n_is_layout⟩)
  exact fnG_mk F_law sc_law rfl rfl (body_law T ⟨n__law_fount, n__law_dip, n__law_layout, n__law_small, n__law_right, n_reordered⟩)
theorem all_mk {P : Program} {w : World} {K : PySem.W.Frag} {h : Heap} {mg : Str → Option Value} {fa : Addr} {f_is_name f_is_integer f_is_kind f_wrong_recognizer f_is_list f_is_pair f_wrong_pair f_is_view f_wrong_view f_first_fault f_require_layout f_is_order f_reordered f__law_fount f__law_dip f__law_names_of f__law_pairs f__law_kind f__law_layout f__law_small f__law_order f__law_turned f_is_layout f__law_right f_law a_AXES a_SIZES : Addr} {od_is_name an_is_name od_is_integer an_is_integer od_is_kind an_is_kind od_wrong_recognizer an_wrong_recognizer od_is_list an_is_list od_is_pair an_is_pair od_wrong_pair an_wrong_pair od_is_view an_is_view od_wrong_view an_wrong_view od_first_fault an_first_fault od_require_layout an_require_layout od_is_order an_is_order od_reordered an_reordered od__law_fount an__law_fount od__law_dip an__law_dip od__law_names_of an__law_names_of od__law_pairs an__law_pairs od__law_kind an__law_kind od__law_layout an__law_layout od__law_small an__law_small od__law_order an__law_order od__law_turned an__law_turned od_is_layout an_is_layout od__law_right an__law_right od_law an_law : Option Addr} {sl_is_name sl_is_integer sl_is_kind sl_wrong_recognizer sl_is_list sl_is_pair sl_wrong_pair sl_is_view sl_wrong_view sl_first_fault sl_require_layout sl_is_order sl_reordered sl__law_fount sl__law_dip sl__law_names_of sl__law_pairs sl__law_kind sl__law_layout sl__law_small sl__law_order sl__law_turned sl_is_layout sl__law_right sl_law : Array (Option Value)} {oc_is_name kV_is_name dc_is_name pm_is_name cd_is_name ct_is_name oc_is_integer kV_is_integer dc_is_integer pm_is_integer cd_is_integer ct_is_integer oc_is_kind kV_is_kind dc_is_kind pm_is_kind cd_is_kind ct_is_kind oc_wrong_recognizer kV_wrong_recognizer dc_wrong_recognizer pm_wrong_recognizer cd_wrong_recognizer ct_wrong_recognizer oc_is_list kV_is_list dc_is_list pm_is_list cd_is_list ct_is_list oc_is_pair kV_is_pair dc_is_pair pm_is_pair cd_is_pair ct_is_pair oc_wrong_pair kV_wrong_pair dc_wrong_pair pm_wrong_pair cd_wrong_pair ct_wrong_pair oc_is_view kV_is_view dc_is_view pm_is_view cd_is_view ct_is_view oc_wrong_view kV_wrong_view dc_wrong_view pm_wrong_view cd_wrong_view ct_wrong_view oc_first_fault kV_first_fault dc_first_fault pm_first_fault cd_first_fault ct_first_fault oc_require_layout kV_require_layout dc_require_layout pm_require_layout cd_require_layout ct_require_layout oc_is_order kV_is_order dc_is_order pm_is_order cd_is_order ct_is_order oc_reordered kV_reordered dc_reordered pm_reordered cd_reordered ct_reordered oc__law_fount kV__law_fount dc__law_fount pm__law_fount cd__law_fount ct__law_fount oc__law_dip kV__law_dip dc__law_dip pm__law_dip cd__law_dip ct__law_dip oc__law_names_of kV__law_names_of dc__law_names_of pm__law_names_of cd__law_names_of ct__law_names_of oc__law_pairs kV__law_pairs dc__law_pairs pm__law_pairs cd__law_pairs ct__law_pairs oc__law_kind kV__law_kind dc__law_kind pm__law_kind cd__law_kind ct__law_kind oc__law_layout kV__law_layout dc__law_layout pm__law_layout cd__law_layout ct__law_layout oc__law_small kV__law_small dc__law_small pm__law_small cd__law_small ct__law_small oc__law_order kV__law_order dc__law_order pm__law_order cd__law_order ct__law_order oc__law_turned kV__law_turned dc__law_turned pm__law_turned cd__law_turned ct__law_turned oc_is_layout kV_is_layout dc_is_layout pm_is_layout cd_is_layout ct_is_layout oc__law_right kV__law_right dc__law_right pm__law_right cd__law_right ct__law_right oc_law kV_law dc_law pm_law cd_law ct_law : Value} {t_AXES_0 t_AXES_1 t_AXES_2 t_GREATEST t_MOST_BESIDE t_MOST_RECOGNIZERS t_MOST_VIEWS t_MOST_WAITS t_SIGNS t_SIZES_0 t_SIZES_1 t_SIZES_2 t_SIZES_3 t_SIZES_4 t_SIZES_5 : Tok} {d_AXES : Option Addr} {n_AXES : Nat} {s_AXES : Array (Option Value)} {es_SIZES : Array DictEntry} {n_SIZES : Nat} (X : K.In h) (G : h.Ns mainGlobals mg) (hfa : mg "law" = some (.ref fa))
    (z_all : PySem.W.nsIn K mainGlobals "all" = some none)
    (z_bool : PySem.W.nsIn K mainGlobals "bool" = some none)
    (z_enumerate : PySem.W.nsIn K mainGlobals "enumerate" = some none)
    (z_int : PySem.W.nsIn K mainGlobals "int" = some none)
    (z_isinstance : PySem.W.nsIn K mainGlobals "isinstance" = some none)
    (z_len : PySem.W.nsIn K mainGlobals "len" = some none)
    (z_list : PySem.W.nsIn K mainGlobals "list" = some none)
    (z_max : PySem.W.nsIn K mainGlobals "max" = some none)
    (z_min : PySem.W.nsIn K mainGlobals "min" = some none)
    (z_range : PySem.W.nsIn K mainGlobals "range" = some none)
    (z_repr : PySem.W.nsIn K mainGlobals "repr" = some none)
    (z_sorted : PySem.W.nsIn K mainGlobals "sorted" = some none)
    (z_str : PySem.W.nsIn K mainGlobals "str" = some none)
    (z_tuple : PySem.W.nsIn K mainGlobals "tuple" = some none)
    (g_AXES : PySem.W.nsIn K mainGlobals "AXES" = some (some (.ref a_AXES)))
    (l_AXES : K.lookup a_AXES = some ⟨.type "tuple", d_AXES, .seq #[.str "x" t_AXES_0, .str "y" t_AXES_1, .str "any" t_AXES_2] n_AXES, s_AXES⟩)
    (g_GREATEST : PySem.W.nsIn K mainGlobals "GREATEST" = some (some (.int 1000000000 t_GREATEST)))
    (g_MOST_BESIDE : PySem.W.nsIn K mainGlobals "MOST_BESIDE" = some (some (.int 28 t_MOST_BESIDE)))
    (g_MOST_RECOGNIZERS : PySem.W.nsIn K mainGlobals "MOST_RECOGNIZERS" = some (some (.int 8 t_MOST_RECOGNIZERS)))
    (g_MOST_VIEWS : PySem.W.nsIn K mainGlobals "MOST_VIEWS" = some (some (.int 12 t_MOST_VIEWS)))
    (g_MOST_WAITS : PySem.W.nsIn K mainGlobals "MOST_WAITS" = some (some (.int 12 t_MOST_WAITS)))
    (g_SIGNS : PySem.W.nsIn K mainGlobals "SIGNS" = some (some (.str "abcdefghijklmnopqrstuvwxyz0123456789" t_SIGNS)))
    (g_SIZES : PySem.W.nsIn K mainGlobals "SIZES" = some (some (.ref a_SIZES)))
    (l_SIZES : K.lookup a_SIZES = some ⟨.type "dict", none, .dict es_SIZES n_SIZES, #[]⟩)
    (k_SIZES : PySem.W.KeysLit w.params es_SIZES.toList)
    (o_SIZES : (a_SIZES == sysModules) = false)
    (e_SIZES_0 : PySem.W.nsIn K a_SIZES "touch" = some (some (.int 0 t_SIZES_0)))
    (e_SIZES_1 : PySem.W.nsIn K a_SIZES "tap" = some (some (.int 2 t_SIZES_1)))
    (e_SIZES_2 : PySem.W.nsIn K a_SIZES "taps" = some (some (.int 4 t_SIZES_2)))
    (e_SIZES_3 : PySem.W.nsIn K a_SIZES "long" = some (some (.int 2 t_SIZES_3)))
    (e_SIZES_4 : PySem.W.nsIn K a_SIZES "drag" = some (some (.int 2 t_SIZES_4)))
    (e_SIZES_5 : PySem.W.nsIn K a_SIZES "pinch" = some (some (.int 1 t_SIZES_5)))
    (a_is_name : PySem.W.nsIn K mainGlobals "is_name" = some (some (.ref f_is_name)))
    (l_is_name : K.lookup f_is_name = some ⟨oc_is_name, od_is_name, .func (PySem.W.fnOf "is_name" "is_name" (defArgs s_is_name) (defBody s_is_name) (defScope s_is_name) .none kV_is_name dc_is_name pm_is_name an_is_name cd_is_name ct_is_name), sl_is_name⟩)
    (c_is_name : PySem.W.codeIn K cd_is_name "is_name" = true) (k_is_name : PySem.W.keepIn K (.ref f_is_name) = true)
    (a_is_integer : PySem.W.nsIn K mainGlobals "is_integer" = some (some (.ref f_is_integer)))
    (l_is_integer : K.lookup f_is_integer = some ⟨oc_is_integer, od_is_integer, .func (PySem.W.fnOf "is_integer" "is_integer" (defArgs s_is_integer) (defBody s_is_integer) (defScope s_is_integer) .none kV_is_integer dc_is_integer pm_is_integer an_is_integer cd_is_integer ct_is_integer), sl_is_integer⟩)
    (c_is_integer : PySem.W.codeIn K cd_is_integer "is_integer" = true) (k_is_integer : PySem.W.keepIn K (.ref f_is_integer) = true)
    (a_is_kind : PySem.W.nsIn K mainGlobals "is_kind" = some (some (.ref f_is_kind)))
    (l_is_kind : K.lookup f_is_kind = some ⟨oc_is_kind, od_is_kind, .func (PySem.W.fnOf "is_kind" "is_kind" (defArgs s_is_kind) (defBody s_is_kind) (defScope s_is_kind) .none kV_is_kind dc_is_kind pm_is_kind an_is_kind cd_is_kind ct_is_kind), sl_is_kind⟩)
    (c_is_kind : PySem.W.codeIn K cd_is_kind "is_kind" = true) (k_is_kind : PySem.W.keepIn K (.ref f_is_kind) = true)
    (a_wrong_recognizer : PySem.W.nsIn K mainGlobals "wrong_recognizer" = some (some (.ref f_wrong_recognizer)))
    (l_wrong_recognizer : K.lookup f_wrong_recognizer = some ⟨oc_wrong_recognizer, od_wrong_recognizer, .func (PySem.W.fnOf "wrong_recognizer" "wrong_recognizer" (defArgs s_wrong_recognizer) (defBody s_wrong_recognizer) (defScope s_wrong_recognizer) .none kV_wrong_recognizer dc_wrong_recognizer pm_wrong_recognizer an_wrong_recognizer cd_wrong_recognizer ct_wrong_recognizer), sl_wrong_recognizer⟩)
    (c_wrong_recognizer : PySem.W.codeIn K cd_wrong_recognizer "wrong_recognizer" = true) (k_wrong_recognizer : PySem.W.keepIn K (.ref f_wrong_recognizer) = true)
    (a_is_list : PySem.W.nsIn K mainGlobals "is_list" = some (some (.ref f_is_list)))
    (l_is_list : K.lookup f_is_list = some ⟨oc_is_list, od_is_list, .func (PySem.W.fnOf "is_list" "is_list" (defArgs s_is_list) (defBody s_is_list) (defScope s_is_list) .none kV_is_list dc_is_list pm_is_list an_is_list cd_is_list ct_is_list), sl_is_list⟩)
    (c_is_list : PySem.W.codeIn K cd_is_list "is_list" = true) (k_is_list : PySem.W.keepIn K (.ref f_is_list) = true)
    (a_is_pair : PySem.W.nsIn K mainGlobals "is_pair" = some (some (.ref f_is_pair)))
    (l_is_pair : K.lookup f_is_pair = some ⟨oc_is_pair, od_is_pair, .func (PySem.W.fnOf "is_pair" "is_pair" (defArgs s_is_pair) (defBody s_is_pair) (defScope s_is_pair) .none kV_is_pair dc_is_pair pm_is_pair an_is_pair cd_is_pair ct_is_pair), sl_is_pair⟩)
    (c_is_pair : PySem.W.codeIn K cd_is_pair "is_pair" = true) (k_is_pair : PySem.W.keepIn K (.ref f_is_pair) = true)
    (a_wrong_pair : PySem.W.nsIn K mainGlobals "wrong_pair" = some (some (.ref f_wrong_pair)))
    (l_wrong_pair : K.lookup f_wrong_pair = some ⟨oc_wrong_pair, od_wrong_pair, .func (PySem.W.fnOf "wrong_pair" "wrong_pair" (defArgs s_wrong_pair) (defBody s_wrong_pair) (defScope s_wrong_pair) .none kV_wrong_pair dc_wrong_pair pm_wrong_pair an_wrong_pair cd_wrong_pair ct_wrong_pair), sl_wrong_pair⟩)
    (c_wrong_pair : PySem.W.codeIn K cd_wrong_pair "wrong_pair" = true) (k_wrong_pair : PySem.W.keepIn K (.ref f_wrong_pair) = true)
    (a_is_view : PySem.W.nsIn K mainGlobals "is_view" = some (some (.ref f_is_view)))
    (l_is_view : K.lookup f_is_view = some ⟨oc_is_view, od_is_view, .func (PySem.W.fnOf "is_view" "is_view" (defArgs s_is_view) (defBody s_is_view) (defScope s_is_view) .none kV_is_view dc_is_view pm_is_view an_is_view cd_is_view ct_is_view), sl_is_view⟩)
    (c_is_view : PySem.W.codeIn K cd_is_view "is_view" = true) (k_is_view : PySem.W.keepIn K (.ref f_is_view) = true)
    (a_wrong_view : PySem.W.nsIn K mainGlobals "wrong_view" = some (some (.ref f_wrong_view)))
    (l_wrong_view : K.lookup f_wrong_view = some ⟨oc_wrong_view, od_wrong_view, .func (PySem.W.fnOf "wrong_view" "wrong_view" (defArgs s_wrong_view) (defBody s_wrong_view) (defScope s_wrong_view) .none kV_wrong_view dc_wrong_view pm_wrong_view an_wrong_view cd_wrong_view ct_wrong_view), sl_wrong_view⟩)
    (c_wrong_view : PySem.W.codeIn K cd_wrong_view "wrong_view" = true) (k_wrong_view : PySem.W.keepIn K (.ref f_wrong_view) = true)
    (a_first_fault : PySem.W.nsIn K mainGlobals "first_fault" = some (some (.ref f_first_fault)))
    (l_first_fault : K.lookup f_first_fault = some ⟨oc_first_fault, od_first_fault, .func (PySem.W.fnOf "first_fault" "first_fault" (defArgs s_first_fault) (defBody s_first_fault) (defScope s_first_fault) .none kV_first_fault dc_first_fault pm_first_fault an_first_fault cd_first_fault ct_first_fault), sl_first_fault⟩)
    (c_first_fault : PySem.W.codeIn K cd_first_fault "first_fault" = true) (k_first_fault : PySem.W.keepIn K (.ref f_first_fault) = true)
    (a_require_layout : PySem.W.nsIn K mainGlobals "require_layout" = some (some (.ref f_require_layout)))
    (l_require_layout : K.lookup f_require_layout = some ⟨oc_require_layout, od_require_layout, .func (PySem.W.fnOf "require_layout" "require_layout" (defArgs s_require_layout) (defBody s_require_layout) (defScope s_require_layout) .none kV_require_layout dc_require_layout pm_require_layout an_require_layout cd_require_layout ct_require_layout), sl_require_layout⟩)
    (c_require_layout : PySem.W.codeIn K cd_require_layout "require_layout" = true) (k_require_layout : PySem.W.keepIn K (.ref f_require_layout) = true)
    (a_is_order : PySem.W.nsIn K mainGlobals "is_order" = some (some (.ref f_is_order)))
    (l_is_order : K.lookup f_is_order = some ⟨oc_is_order, od_is_order, .func (PySem.W.fnOf "is_order" "is_order" (defArgs s_is_order) (defBody s_is_order) (defScope s_is_order) .none kV_is_order dc_is_order pm_is_order an_is_order cd_is_order ct_is_order), sl_is_order⟩)
    (c_is_order : PySem.W.codeIn K cd_is_order "is_order" = true) (k_is_order : PySem.W.keepIn K (.ref f_is_order) = true)
    (a_reordered : PySem.W.nsIn K mainGlobals "reordered" = some (some (.ref f_reordered)))
    (l_reordered : K.lookup f_reordered = some ⟨oc_reordered, od_reordered, .func (PySem.W.fnOf "reordered" "reordered" (defArgs s_reordered) (defBody s_reordered) (defScope s_reordered) .none kV_reordered dc_reordered pm_reordered an_reordered cd_reordered ct_reordered), sl_reordered⟩)
    (c_reordered : PySem.W.codeIn K cd_reordered "reordered" = true) (k_reordered : PySem.W.keepIn K (.ref f_reordered) = true)
    (a__law_fount : PySem.W.nsIn K mainGlobals "_law_fount" = some (some (.ref f__law_fount)))
    (l__law_fount : K.lookup f__law_fount = some ⟨oc__law_fount, od__law_fount, .func (PySem.W.fnOf "_law_fount" "_law_fount" (defArgs s__law_fount) (defBody s__law_fount) (defScope s__law_fount) .none kV__law_fount dc__law_fount pm__law_fount an__law_fount cd__law_fount ct__law_fount), sl__law_fount⟩)
    (c__law_fount : PySem.W.codeIn K cd__law_fount "_law_fount" = true) (k__law_fount : PySem.W.keepIn K (.ref f__law_fount) = true)
    (a__law_dip : PySem.W.nsIn K mainGlobals "_law_dip" = some (some (.ref f__law_dip)))
    (l__law_dip : K.lookup f__law_dip = some ⟨oc__law_dip, od__law_dip, .func (PySem.W.fnOf "_law_dip" "_law_dip" (defArgs s__law_dip) (defBody s__law_dip) (defScope s__law_dip) .none kV__law_dip dc__law_dip pm__law_dip an__law_dip cd__law_dip ct__law_dip), sl__law_dip⟩)
    (c__law_dip : PySem.W.codeIn K cd__law_dip "_law_dip" = true) (k__law_dip : PySem.W.keepIn K (.ref f__law_dip) = true)
    (a__law_names_of : PySem.W.nsIn K mainGlobals "_law_names_of" = some (some (.ref f__law_names_of)))
    (l__law_names_of : K.lookup f__law_names_of = some ⟨oc__law_names_of, od__law_names_of, .func (PySem.W.fnOf "_law_names_of" "_law_names_of" (defArgs s__law_names_of) (defBody s__law_names_of) (defScope s__law_names_of) .none kV__law_names_of dc__law_names_of pm__law_names_of an__law_names_of cd__law_names_of ct__law_names_of), sl__law_names_of⟩)
    (c__law_names_of : PySem.W.codeIn K cd__law_names_of "_law_names_of" = true) (k__law_names_of : PySem.W.keepIn K (.ref f__law_names_of) = true)
    (a__law_pairs : PySem.W.nsIn K mainGlobals "_law_pairs" = some (some (.ref f__law_pairs)))
    (l__law_pairs : K.lookup f__law_pairs = some ⟨oc__law_pairs, od__law_pairs, .func (PySem.W.fnOf "_law_pairs" "_law_pairs" (defArgs s__law_pairs) (defBody s__law_pairs) (defScope s__law_pairs) .none kV__law_pairs dc__law_pairs pm__law_pairs an__law_pairs cd__law_pairs ct__law_pairs), sl__law_pairs⟩)
    (c__law_pairs : PySem.W.codeIn K cd__law_pairs "_law_pairs" = true) (k__law_pairs : PySem.W.keepIn K (.ref f__law_pairs) = true)
    (a__law_kind : PySem.W.nsIn K mainGlobals "_law_kind" = some (some (.ref f__law_kind)))
    (l__law_kind : K.lookup f__law_kind = some ⟨oc__law_kind, od__law_kind, .func (PySem.W.fnOf "_law_kind" "_law_kind" (defArgs s__law_kind) (defBody s__law_kind) (defScope s__law_kind) .none kV__law_kind dc__law_kind pm__law_kind an__law_kind cd__law_kind ct__law_kind), sl__law_kind⟩)
    (c__law_kind : PySem.W.codeIn K cd__law_kind "_law_kind" = true) (k__law_kind : PySem.W.keepIn K (.ref f__law_kind) = true)
    (a__law_layout : PySem.W.nsIn K mainGlobals "_law_layout" = some (some (.ref f__law_layout)))
    (l__law_layout : K.lookup f__law_layout = some ⟨oc__law_layout, od__law_layout, .func (PySem.W.fnOf "_law_layout" "_law_layout" (defArgs s__law_layout) (defBody s__law_layout) (defScope s__law_layout) .none kV__law_layout dc__law_layout pm__law_layout an__law_layout cd__law_layout ct__law_layout), sl__law_layout⟩)
    (c__law_layout : PySem.W.codeIn K cd__law_layout "_law_layout" = true) (k__law_layout : PySem.W.keepIn K (.ref f__law_layout) = true)
    (a__law_small : PySem.W.nsIn K mainGlobals "_law_small" = some (some (.ref f__law_small)))
    (l__law_small : K.lookup f__law_small = some ⟨oc__law_small, od__law_small, .func (PySem.W.fnOf "_law_small" "_law_small" (defArgs s__law_small) (defBody s__law_small) (defScope s__law_small) .none kV__law_small dc__law_small pm__law_small an__law_small cd__law_small ct__law_small), sl__law_small⟩)
    (c__law_small : PySem.W.codeIn K cd__law_small "_law_small" = true) (k__law_small : PySem.W.keepIn K (.ref f__law_small) = true)
    (a__law_order : PySem.W.nsIn K mainGlobals "_law_order" = some (some (.ref f__law_order)))
    (l__law_order : K.lookup f__law_order = some ⟨oc__law_order, od__law_order, .func (PySem.W.fnOf "_law_order" "_law_order" (defArgs s__law_order) (defBody s__law_order) (defScope s__law_order) .none kV__law_order dc__law_order pm__law_order an__law_order cd__law_order ct__law_order), sl__law_order⟩)
    (c__law_order : PySem.W.codeIn K cd__law_order "_law_order" = true) (k__law_order : PySem.W.keepIn K (.ref f__law_order) = true)
    (a__law_turned : PySem.W.nsIn K mainGlobals "_law_turned" = some (some (.ref f__law_turned)))
    (l__law_turned : K.lookup f__law_turned = some ⟨oc__law_turned, od__law_turned, .func (PySem.W.fnOf "_law_turned" "_law_turned" (defArgs s__law_turned) (defBody s__law_turned) (defScope s__law_turned) .none kV__law_turned dc__law_turned pm__law_turned an__law_turned cd__law_turned ct__law_turned), sl__law_turned⟩)
    (c__law_turned : PySem.W.codeIn K cd__law_turned "_law_turned" = true) (k__law_turned : PySem.W.keepIn K (.ref f__law_turned) = true)
    (a_is_layout : PySem.W.nsIn K mainGlobals "is_layout" = some (some (.ref f_is_layout)))
    (l_is_layout : K.lookup f_is_layout = some ⟨oc_is_layout, od_is_layout, .func (PySem.W.fnOf "is_layout" "is_layout" (defArgs s_is_layout) (defBody s_is_layout) (defScope s_is_layout) .none kV_is_layout dc_is_layout pm_is_layout an_is_layout cd_is_layout ct_is_layout), sl_is_layout⟩)
    (c_is_layout : PySem.W.codeIn K cd_is_layout "is_layout" = true) (k_is_layout : PySem.W.keepIn K (.ref f_is_layout) = true)
    (a__law_right : PySem.W.nsIn K mainGlobals "_law_right" = some (some (.ref f__law_right)))
    (l__law_right : K.lookup f__law_right = some ⟨oc__law_right, od__law_right, .func (PySem.W.fnOf "_law_right" "_law_right" (defArgs s__law_right) (defBody s__law_right) (defScope s__law_right) .none kV__law_right dc__law_right pm__law_right an__law_right cd__law_right ct__law_right), sl__law_right⟩)
    (c__law_right : PySem.W.codeIn K cd__law_right "_law_right" = true) (k__law_right : PySem.W.keepIn K (.ref f__law_right) = true)
    (a_law : PySem.W.nsIn K mainGlobals "law" = some (some (.ref f_law)))
    (l_law : K.lookup f_law = some ⟨oc_law, od_law, .func (PySem.W.fnOf "law" "law" (defArgs s_law) (defBody s_law) (defScope s_law) .none kV_law dc_law pm_law an_law cd_law ct_law), sl_law⟩)
    (c_law : PySem.W.codeIn K cd_law "law" = true) (k_law : PySem.W.keepIn K (.ref f_law) = true) :
    ∃ fd : FuncData, (∀ (s : Shared) (v : Value), BindsTo s fd ⟨[v], []⟩ [("_law_script", v)]) ∧ ∀ base : Heap, K.In base → base.Ns mainGlobals mg → FnG P w K mg base L2.CX0 8 fa fd ["_law_script"] (sp0 K 1 run_law) := by
  have e := hfa.symm.trans (PySem.W.mg_of X G a_law)
  cases e
  have T : Txt K w mg := ⟨PySem.W.mg_none_of X G z_all, PySem.W.mg_none_of X G z_bool, PySem.W.mg_none_of X G z_enumerate, PySem.W.mg_none_of X G z_int, PySem.W.mg_none_of X G z_isinstance, PySem.W.mg_none_of X G z_len, PySem.W.mg_none_of X G z_list, PySem.W.mg_none_of X G z_max, PySem.W.mg_none_of X G z_min, PySem.W.mg_none_of X G z_range, PySem.W.mg_none_of X G z_repr, PySem.W.mg_none_of X G z_sorted, PySem.W.mg_none_of X G z_str, PySem.W.mg_none_of X G z_tuple, ⟨a_AXES, PySem.W.mg_of X G g_AXES, fun _ => .inr ⟨_, _, _, l_AXES, rfl, rfl, (by show 3 ≤ sizeLine; decide), (.cons ⟨t_AXES_0, rfl⟩ (.cons ⟨t_AXES_1, rfl⟩ (.cons ⟨t_AXES_2, rfl⟩ .nil)))⟩⟩, ⟨_, PySem.W.mg_of X G g_GREATEST, ⟨t_GREATEST, rfl⟩⟩, ⟨_, PySem.W.mg_of X G g_MOST_BESIDE, ⟨t_MOST_BESIDE, rfl⟩⟩, ⟨_, PySem.W.mg_of X G g_MOST_RECOGNIZERS, ⟨t_MOST_RECOGNIZERS, rfl⟩⟩, ⟨_, PySem.W.mg_of X G g_MOST_VIEWS, ⟨t_MOST_VIEWS, rfl⟩⟩, ⟨_, PySem.W.mg_of X G g_MOST_WAITS, ⟨t_MOST_WAITS, rfl⟩⟩, ⟨_, PySem.W.mg_of X G g_SIGNS, ⟨t_SIGNS, rfl⟩⟩, ⟨a_SIZES, PySem.W.mg_of X G g_SIZES, ⟨_, _, l_SIZES, k_SIZES, o_SIZES⟩, fun q hq => by
    simp only [c_SIZES, List.mem_cons, List.not_mem_nil, or_false] at hq
    rcases hq with rfl | rfl | rfl | rfl | rfl | rfl
    · exact ⟨_, e_SIZES_0, ⟨t_SIZES_0, rfl⟩⟩
    · exact ⟨_, e_SIZES_1, ⟨t_SIZES_1, rfl⟩⟩
    · exact ⟨_, e_SIZES_2, ⟨t_SIZES_2, rfl⟩⟩
    · exact ⟨_, e_SIZES_3, ⟨t_SIZES_3, rfl⟩⟩
    · exact ⟨_, e_SIZES_4, ⟨t_SIZES_4, rfl⟩⟩
    · exact ⟨_, e_SIZES_5, ⟨t_SIZES_5, rfl⟩⟩⟩⟩
  exact ⟨_, fun s v => .of_eq rfl, fun base _ _ => asm T (PySem.W.mg_of X G a_is_name) (fun_mk (st := s_is_name) l_is_name c_is_name k_is_name) (PySem.W.mg_of X G a_is_integer) (fun_mk (st := s_is_integer) l_is_integer c_is_integer k_is_integer) (PySem.W.mg_of X G a_is_kind) (fun_mk (st := s_is_kind) l_is_kind c_is_kind k_is_kind) (PySem.W.mg_of X G a_wrong_recognizer) (fun_mk (st := s_wrong_recognizer) l_wrong_recognizer c_wrong_recognizer k_wrong_recognizer) (PySem.W.mg_of X G a_is_list) (fun_mk (st := s_is_list) l_is_list c_is_list k_is_list) (PySem.W.mg_of X G a_is_pair) (fun_mk (st := s_is_pair) l_is_pair c_is_pair k_is_pair) (PySem.W.mg_of X G a_wrong_pair) (fun_mk (st := s_wrong_pair) l_wrong_pair c_wrong_pair k_wrong_pair) (PySem.W.mg_of X G a_is_view) (fun_mk (st := s_is_view) l_is_view c_is_view k_is_view) (PySem.W.mg_of X G a_wrong_view) (fun_mk (st := s_wrong_view) l_wrong_view c_wrong_view k_wrong_view) (PySem.W.mg_of X G a_first_fault) (fun_mk (st := s_first_fault) l_first_fault c_first_fault k_first_fault) (PySem.W.mg_of X G a_require_layout) (fun_mk (st := s_require_layout) l_require_layout c_require_layout k_require_layout) (PySem.W.mg_of X G a_is_order) (fun_mk (st := s_is_order) l_is_order c_is_order k_is_order) (PySem.W.mg_of X G a_reordered) (fun_mk (st := s_reordered) l_reordered c_reordered k_reordered) (PySem.W.mg_of X G a__law_fount) (fun_mk (st := s__law_fount) l__law_fount c__law_fount k__law_fount) (PySem.W.mg_of X G a__law_dip) (fun_mk (st := s__law_dip) l__law_dip c__law_dip k__law_dip) (PySem.W.mg_of X G a__law_names_of) (fun_mk (st := s__law_names_of) l__law_names_of c__law_names_of k__law_names_of) (PySem.W.mg_of X G a__law_pairs) (fun_mk (st := s__law_pairs) l__law_pairs c__law_pairs k__law_pairs) (PySem.W.mg_of X G a__law_kind) (fun_mk (st := s__law_kind) l__law_kind c__law_kind k__law_kind) (PySem.W.mg_of X G a__law_layout) (fun_mk (st := s__law_layout) l__law_layout c__law_layout k__law_layout) (PySem.W.mg_of X G a__law_small) (fun_mk (st := s__law_small) l__law_small c__law_small k__law_small) (PySem.W.mg_of X G a__law_order) (fun_mk (st := s__law_order) l__law_order c__law_order k__law_order) (PySem.W.mg_of X G a__law_turned) (fun_mk (st := s__law_turned) l__law_turned c__law_turned k__law_turned) (PySem.W.mg_of X G a_is_layout) (fun_mk (st := s_is_layout) l_is_layout c_is_layout k_is_layout) (PySem.W.mg_of X G a__law_right) (fun_mk (st := s__law_right) l__law_right c__law_right k__law_right) (PySem.W.mg_of X G a_law) (fun_mk (st := s_law) l_law c_law k_law) base⟩
end G
namespace G
open PySem L2 VS
/-! ### the checks of one thing -/
theorem is_integer_free {i : Int} : run_is_integer [tI i, tN, tN] = some (tBl true) := by
  refine run0_of ?_
  unfold sem_is_integer
  simp [↓aft_seq, ↓aft_if, ↓aft_asg, ↓aft_ret, ↓aft_drp, ↓aft_bin, ↓aft_fz, ↓aft_mv, ↓aft_nh, ↓aft_pk, ↓aft_binL, ↓aft_binR, ↓aft_set, ↓aft_tru, ↓aft_boolM, ↓aft_cmpB, ↓aft_and, ↓aft_or, ↓aft_not, ↓aft_andV, ↓aft_orV, ↓aft_notV, ↓aft_ifV, ↓aft_neg, ↓aft_nil, ↓aft_cons, ↓aft_tup, ↓aft_lst, ↓aft_un1, ↓aft_un2, ↓aft_call, ↓aft_callIO, ↓aft_gtup, ↓aft_gnil, ↓aft_gcons, ↓aft_par2, ↓aft_par3, ↓aft_isi, ↓aft_chain, ↓aft_pure, ↓aft_bind, ↓aft_iterA, ↓aft_lc, ↓aft_for, ↓aft_forO, ↓aft_lcStep, ↓aft_some, ↓aft_yes, ↓aft_mrd, ↓aft_tab, ↓aft_match, ↓aft_mth, ↓aft_cutL, ↓aft_dnew, ↓aft_cutM, ↓aft_noP, ↓aft_someP, ↓aft_gstar, ↓aft_enum, ↓aft_rng, ↓aft_setD, ↓aft_loopC, ↓aft_loopN, ↓aft_setIx, ↓aft_steal, and_assoc, exists_eq_left', at_zero, at_succ, List.cons_append, List.nil_append, List.replicate, List.set_cons_zero, List.set_cons_succ, T.cold, T.colds, T.imm, T.imms, T.frz, T.frzs, hole_atom, hole_tup, hole_lst, hole_ro, hole_dct, hole_hole, tru_bl, tru_int, tru_non, tru_lst, tru_tup, bool_bl, ty_list, ty_lst, eq_int, ne_int, eqA_int, eqA_tup, eqA_lst, neA_int, neA_tup, neA_lst, eqA_same, neA_same, wipeE, allT, T.bools, itA_tup, itA_lst, ↓aft_lcCons, ↓aft_lcNil, tI, tS, tBl, tN, lt_ii, le_ii, gt_ii, ge_ii, sub_ii, add_ii, item_tup, item_lst, item_ro, len_str, len_lst, len_ro, len_tup, int_i, int_b, isN_n, isN_i, isN_t, notN_n, notN_i, notN_t, itA_str, le_pp, max_tt, min_tt, atI, ixN, tabT, isi_int_int, isi_int_bool, isi_int_str, isi_int_NoneType, isi_int_list, isi_int_tuple, isi_int_ro, isi_bool_int, isi_bool_bool, isi_bool_str, isi_bool_NoneType, isi_bool_list, isi_bool_tuple, isi_bool_ro, isi_str_int, isi_str_bool, isi_str_str, isi_str_NoneType, isi_str_list, isi_str_tuple, isi_str_ro, isi_list_int, isi_list_bool, isi_list_str, isi_list_NoneType, isi_list_list, isi_list_tuple, isi_list_ro, isi_tuple_int, isi_tuple_bool, isi_tuple_str, isi_tuple_NoneType, isi_tuple_list, isi_tuple_tuple, isi_tuple_ro]
theorem is_integer_in {i a b : Int} (h1 : a ≤ i) (h2 : i ≤ b) : run_is_integer [tI i, tI a, tI b] = some (tBl true) := by
  refine run0_of ?_
  unfold sem_is_integer
  simp [↓aft_seq, ↓aft_if, ↓aft_asg, ↓aft_ret, ↓aft_drp, ↓aft_bin, ↓aft_fz, ↓aft_mv, ↓aft_nh, ↓aft_pk, ↓aft_binL, ↓aft_binR, ↓aft_set, ↓aft_tru, ↓aft_boolM, ↓aft_cmpB, ↓aft_and, ↓aft_or, ↓aft_not, ↓aft_andV, ↓aft_orV, ↓aft_notV, ↓aft_ifV, ↓aft_neg, ↓aft_nil, ↓aft_cons, ↓aft_tup, ↓aft_lst, ↓aft_un1, ↓aft_un2, ↓aft_call, ↓aft_callIO, ↓aft_gtup, ↓aft_gnil, ↓aft_gcons, ↓aft_par2, ↓aft_par3, ↓aft_isi, ↓aft_chain, ↓aft_pure, ↓aft_bind, ↓aft_iterA, ↓aft_lc, ↓aft_for, ↓aft_forO, ↓aft_lcStep, ↓aft_some, ↓aft_yes, ↓aft_mrd, ↓aft_tab, ↓aft_match, ↓aft_mth, ↓aft_cutL, ↓aft_dnew, ↓aft_cutM, ↓aft_noP, ↓aft_someP, ↓aft_gstar, ↓aft_enum, ↓aft_rng, ↓aft_setD, ↓aft_loopC, ↓aft_loopN, ↓aft_setIx, ↓aft_steal, and_assoc, exists_eq_left', at_zero, at_succ, List.cons_append, List.nil_append, List.replicate, List.set_cons_zero, List.set_cons_succ, T.cold, T.colds, T.imm, T.imms, T.frz, T.frzs, hole_atom, hole_tup, hole_lst, hole_ro, hole_dct, hole_hole, tru_bl, tru_int, tru_non, tru_lst, tru_tup, bool_bl, ty_list, ty_lst, eq_int, ne_int, eqA_int, eqA_tup, eqA_lst, neA_int, neA_tup, neA_lst, eqA_same, neA_same, wipeE, allT, T.bools, itA_tup, itA_lst, ↓aft_lcCons, ↓aft_lcNil, tI, tS, tBl, tN, lt_ii, le_ii, gt_ii, ge_ii, sub_ii, add_ii, item_tup, item_lst, item_ro, len_str, len_lst, len_ro, len_tup, int_i, int_b, isN_n, isN_i, isN_t, notN_n, notN_i, notN_t, itA_str, le_pp, max_tt, min_tt, atI, ixN, tabT, isi_int_int, isi_int_bool, isi_int_str, isi_int_NoneType, isi_int_list, isi_int_tuple, isi_int_ro, isi_bool_int, isi_bool_bool, isi_bool_str, isi_bool_NoneType, isi_bool_list, isi_bool_tuple, isi_bool_ro, isi_str_int, isi_str_bool, isi_str_str, isi_str_NoneType, isi_str_list, isi_str_tuple, isi_str_ro, isi_list_int, isi_list_bool, isi_list_str, isi_list_NoneType, isi_list_list, isi_list_tuple, isi_list_ro, isi_tuple_int, isi_tuple_bool, isi_tuple_str, isi_tuple_NoneType, isi_tuple_list, isi_tuple_tuple, isi_tuple_ro, h1, h2]
theorem is_list_ok {b : Bool} {xs : List T} {n : Int} (h : (xs.length : Int) ≤ n) : run_is_list [.lst b xs, tI n] = some (tBl true) := by
  refine run0_of ?_
  unfold sem_is_list
  simp [↓aft_seq, ↓aft_if, ↓aft_asg, ↓aft_ret, ↓aft_drp, ↓aft_bin, ↓aft_fz, ↓aft_mv, ↓aft_nh, ↓aft_pk, ↓aft_binL, ↓aft_binR, ↓aft_set, ↓aft_tru, ↓aft_boolM, ↓aft_cmpB, ↓aft_and, ↓aft_or, ↓aft_not, ↓aft_andV, ↓aft_orV, ↓aft_notV, ↓aft_ifV, ↓aft_neg, ↓aft_nil, ↓aft_cons, ↓aft_tup, ↓aft_lst, ↓aft_un1, ↓aft_un2, ↓aft_call, ↓aft_callIO, ↓aft_gtup, ↓aft_gnil, ↓aft_gcons, ↓aft_par2, ↓aft_par3, ↓aft_isi, ↓aft_chain, ↓aft_pure, ↓aft_bind, ↓aft_iterA, ↓aft_lc, ↓aft_for, ↓aft_forO, ↓aft_lcStep, ↓aft_some, ↓aft_yes, ↓aft_mrd, ↓aft_tab, ↓aft_match, ↓aft_mth, ↓aft_cutL, ↓aft_dnew, ↓aft_cutM, ↓aft_noP, ↓aft_someP, ↓aft_gstar, ↓aft_enum, ↓aft_rng, ↓aft_setD, ↓aft_loopC, ↓aft_loopN, ↓aft_setIx, ↓aft_steal, and_assoc, exists_eq_left', at_zero, at_succ, List.cons_append, List.nil_append, List.replicate, List.set_cons_zero, List.set_cons_succ, T.cold, T.colds, T.imm, T.imms, T.frz, T.frzs, hole_atom, hole_tup, hole_lst, hole_ro, hole_dct, hole_hole, tru_bl, tru_int, tru_non, tru_lst, tru_tup, bool_bl, ty_list, ty_lst, eq_int, ne_int, eqA_int, eqA_tup, eqA_lst, neA_int, neA_tup, neA_lst, eqA_same, neA_same, wipeE, allT, T.bools, itA_tup, itA_lst, ↓aft_lcCons, ↓aft_lcNil, tI, tS, tBl, tN, lt_ii, le_ii, gt_ii, ge_ii, sub_ii, add_ii, item_tup, item_lst, item_ro, len_str, len_lst, len_ro, len_tup, int_i, int_b, isN_n, isN_i, isN_t, notN_n, notN_i, notN_t, itA_str, le_pp, max_tt, min_tt, atI, ixN, tabT, isi_int_int, isi_int_bool, isi_int_str, isi_int_NoneType, isi_int_list, isi_int_tuple, isi_int_ro, isi_bool_int, isi_bool_bool, isi_bool_str, isi_bool_NoneType, isi_bool_list, isi_bool_tuple, isi_bool_ro, isi_str_int, isi_str_bool, isi_str_str, isi_str_NoneType, isi_str_list, isi_str_tuple, isi_str_ro, isi_list_int, isi_list_bool, isi_list_str, isi_list_NoneType, isi_list_list, isi_list_tuple, isi_list_ro, isi_tuple_int, isi_tuple_bool, isi_tuple_str, isi_tuple_NoneType, isi_tuple_list, isi_tuple_tuple, isi_tuple_ro, h]
theorem is_view_ok {p l t r b n : Int} (h1 : 0 ≤ p) (h2 : p < n) (h3 : l < r) (h4 : t < b) : run_is_view [.tup [tI p, tI l, tI t, tI r, tI b], tI n] = some (tBl true) := by
  refine run0_of ?_
  unfold sem_is_view
  simp [↓aft_seq, ↓aft_if, ↓aft_asg, ↓aft_ret, ↓aft_drp, ↓aft_bin, ↓aft_fz, ↓aft_mv, ↓aft_nh, ↓aft_pk, ↓aft_binL, ↓aft_binR, ↓aft_set, ↓aft_tru, ↓aft_boolM, ↓aft_cmpB, ↓aft_and, ↓aft_or, ↓aft_not, ↓aft_andV, ↓aft_orV, ↓aft_notV, ↓aft_ifV, ↓aft_neg, ↓aft_nil, ↓aft_cons, ↓aft_tup, ↓aft_lst, ↓aft_un1, ↓aft_un2, ↓aft_call, ↓aft_callIO, ↓aft_gtup, ↓aft_gnil, ↓aft_gcons, ↓aft_par2, ↓aft_par3, ↓aft_isi, ↓aft_chain, ↓aft_pure, ↓aft_bind, ↓aft_iterA, ↓aft_lc, ↓aft_for, ↓aft_forO, ↓aft_lcStep, ↓aft_some, ↓aft_yes, ↓aft_mrd, ↓aft_tab, ↓aft_match, ↓aft_mth, ↓aft_cutL, ↓aft_dnew, ↓aft_cutM, ↓aft_noP, ↓aft_someP, ↓aft_gstar, ↓aft_enum, ↓aft_rng, ↓aft_setD, ↓aft_loopC, ↓aft_loopN, ↓aft_setIx, ↓aft_steal, and_assoc, exists_eq_left', at_zero, at_succ, List.cons_append, List.nil_append, List.replicate, List.set_cons_zero, List.set_cons_succ, T.cold, T.colds, T.imm, T.imms, T.frz, T.frzs, hole_atom, hole_tup, hole_lst, hole_ro, hole_dct, hole_hole, tru_bl, tru_int, tru_non, tru_lst, tru_tup, bool_bl, ty_list, ty_lst, eq_int, ne_int, eqA_int, eqA_tup, eqA_lst, neA_int, neA_tup, neA_lst, eqA_same, neA_same, wipeE, allT, T.bools, itA_tup, itA_lst, ↓aft_lcCons, ↓aft_lcNil, tI, tS, tBl, tN, lt_ii, le_ii, gt_ii, ge_ii, sub_ii, add_ii, item_tup, item_lst, item_ro, len_str, len_lst, len_ro, len_tup, int_i, int_b, isN_n, isN_i, isN_t, notN_n, notN_i, notN_t, itA_str, le_pp, max_tt, min_tt, atI, ixN, tabT, isi_int_int, isi_int_bool, isi_int_str, isi_int_NoneType, isi_int_list, isi_int_tuple, isi_int_ro, isi_bool_int, isi_bool_bool, isi_bool_str, isi_bool_NoneType, isi_bool_list, isi_bool_tuple, isi_bool_ro, isi_str_int, isi_str_bool, isi_str_str, isi_str_NoneType, isi_str_list, isi_str_tuple, isi_str_ro, isi_list_int, isi_list_bool, isi_list_str, isi_list_NoneType, isi_list_list, isi_list_tuple, isi_list_ro, isi_tuple_int, isi_tuple_bool, isi_tuple_str, isi_tuple_NoneType, isi_tuple_list, isi_tuple_tuple, isi_tuple_ro, is_integer_free, h1, h2, h3, h4]
theorem is_pair_ok {a b n : Int} {rising : Bool} (h1 : 0 ≤ a) (h2 : a < n) (h3 : 0 ≤ b) (h4 : b < n) (h5 : a < b ∨ (rising = false ∧ b < a)) : run_is_pair [.tup [tI a, tI b], tI n, tBl rising] = some (tBl true) := by
  refine run0_of ?_
  unfold sem_is_pair
  simp [↓aft_seq, ↓aft_if, ↓aft_asg, ↓aft_ret, ↓aft_drp, ↓aft_bin, ↓aft_fz, ↓aft_mv, ↓aft_nh, ↓aft_pk, ↓aft_binL, ↓aft_binR, ↓aft_set, ↓aft_tru, ↓aft_boolM, ↓aft_cmpB, ↓aft_and, ↓aft_or, ↓aft_not, ↓aft_andV, ↓aft_orV, ↓aft_notV, ↓aft_ifV, ↓aft_neg, ↓aft_nil, ↓aft_cons, ↓aft_tup, ↓aft_lst, ↓aft_un1, ↓aft_un2, ↓aft_call, ↓aft_callIO, ↓aft_gtup, ↓aft_gnil, ↓aft_gcons, ↓aft_par2, ↓aft_par3, ↓aft_isi, ↓aft_chain, ↓aft_pure, ↓aft_bind, ↓aft_iterA, ↓aft_lc, ↓aft_for, ↓aft_forO, ↓aft_lcStep, ↓aft_some, ↓aft_yes, ↓aft_mrd, ↓aft_tab, ↓aft_match, ↓aft_mth, ↓aft_cutL, ↓aft_dnew, ↓aft_cutM, ↓aft_noP, ↓aft_someP, ↓aft_gstar, ↓aft_enum, ↓aft_rng, ↓aft_setD, ↓aft_loopC, ↓aft_loopN, ↓aft_setIx, ↓aft_steal, and_assoc, exists_eq_left', at_zero, at_succ, List.cons_append, List.nil_append, List.replicate, List.set_cons_zero, List.set_cons_succ, T.cold, T.colds, T.imm, T.imms, T.frz, T.frzs, hole_atom, hole_tup, hole_lst, hole_ro, hole_dct, hole_hole, tru_bl, tru_int, tru_non, tru_lst, tru_tup, bool_bl, ty_list, ty_lst, eq_int, ne_int, eqA_int, eqA_tup, eqA_lst, neA_int, neA_tup, neA_lst, eqA_same, neA_same, wipeE, allT, T.bools, itA_tup, itA_lst, ↓aft_lcCons, ↓aft_lcNil, tI, tS, tBl, tN, lt_ii, le_ii, gt_ii, ge_ii, sub_ii, add_ii, item_tup, item_lst, item_ro, len_str, len_lst, len_ro, len_tup, int_i, int_b, isN_n, isN_i, isN_t, notN_n, notN_i, notN_t, itA_str, le_pp, max_tt, min_tt, atI, ixN, tabT, isi_int_int, isi_int_bool, isi_int_str, isi_int_NoneType, isi_int_list, isi_int_tuple, isi_int_ro, isi_bool_int, isi_bool_bool, isi_bool_str, isi_bool_NoneType, isi_bool_list, isi_bool_tuple, isi_bool_ro, isi_str_int, isi_str_bool, isi_str_str, isi_str_NoneType, isi_str_list, isi_str_tuple, isi_str_ro, isi_list_int, isi_list_bool, isi_list_str, isi_list_NoneType, isi_list_list, isi_list_tuple, isi_list_ro, isi_tuple_int, isi_tuple_bool, isi_tuple_str, isi_tuple_NoneType, isi_tuple_list, isi_tuple_tuple, isi_tuple_ro, is_integer_in h1 (show a ≤ n - 1 by omega), is_integer_in h3 (show b ≤ n - 1 by omega)]
  rcases h5 with h | ⟨h, h6⟩
  · right; exact h
  · by_cases c : a < b
    · right; exact c
    · left; exact ⟨by omega, h, h6⟩
theorem flat_const {α : Type} {xs : List α} {t : T} : (xs.map fun _ => [t]).flatten = xs.map fun _ => t := by
  induction xs with
  | nil => rfl
  | cons x xs ih => simp [ih]
theorem is_name_ok {x : Str} (h1 : 1 ≤ x.length) (h2 : x.length ≤ 8) (h3 : ∀ c ∈ x.cps.toList, c ∈ (c_SIGNS : Str).cps.toList) : run_is_name [tS x] = some (tBl true) := by
  refine run0_of ?_
  unfold sem_is_name
  have hl : (sgns x).length = x.length := by simp [sgns, Str.length]
  simp [↓aft_seq, ↓aft_if, ↓aft_asg, ↓aft_ret, ↓aft_drp, ↓aft_bin, ↓aft_fz, ↓aft_mv, ↓aft_nh, ↓aft_pk, ↓aft_binL, ↓aft_binR, ↓aft_set, ↓aft_tru, ↓aft_boolM, ↓aft_cmpB, ↓aft_and, ↓aft_or, ↓aft_not, ↓aft_andV, ↓aft_orV, ↓aft_notV, ↓aft_ifV, ↓aft_neg, ↓aft_nil, ↓aft_cons, ↓aft_tup, ↓aft_lst, ↓aft_un1, ↓aft_un2, ↓aft_call, ↓aft_callIO, ↓aft_gtup, ↓aft_gnil, ↓aft_gcons, ↓aft_par2, ↓aft_par3, ↓aft_isi, ↓aft_chain, ↓aft_pure, ↓aft_bind, ↓aft_iterA, ↓aft_lc, ↓aft_for, ↓aft_forO, ↓aft_lcStep, ↓aft_some, ↓aft_yes, ↓aft_mrd, ↓aft_tab, ↓aft_match, ↓aft_mth, ↓aft_cutL, ↓aft_dnew, ↓aft_cutM, ↓aft_noP, ↓aft_someP, ↓aft_gstar, ↓aft_enum, ↓aft_rng, ↓aft_setD, ↓aft_loopC, ↓aft_loopN, ↓aft_setIx, ↓aft_steal, and_assoc, exists_eq_left', at_zero, at_succ, List.cons_append, List.nil_append, List.replicate, List.set_cons_zero, List.set_cons_succ, T.cold, T.colds, T.imm, T.imms, T.frz, T.frzs, hole_atom, hole_tup, hole_lst, hole_ro, hole_dct, hole_hole, tru_bl, tru_int, tru_non, tru_lst, tru_tup, bool_bl, ty_list, ty_lst, eq_int, ne_int, eqA_int, eqA_tup, eqA_lst, neA_int, neA_tup, neA_lst, eqA_same, neA_same, wipeE, allT, T.bools, itA_tup, itA_lst, ↓aft_lcCons, ↓aft_lcNil, tI, tS, tBl, tN, lt_ii, le_ii, gt_ii, ge_ii, sub_ii, add_ii, item_tup, item_lst, item_ro, len_str, len_lst, len_ro, len_tup, int_i, int_b, isN_n, isN_i, isN_t, notN_n, notN_i, notN_t, itA_str, le_pp, max_tt, min_tt, atI, ixN, tabT, isi_int_int, isi_int_bool, isi_int_str, isi_int_NoneType, isi_int_list, isi_int_tuple, isi_int_ro, isi_bool_int, isi_bool_bool, isi_bool_str, isi_bool_NoneType, isi_bool_list, isi_bool_tuple, isi_bool_ro, isi_str_int, isi_str_bool, isi_str_str, isi_str_NoneType, isi_str_list, isi_str_tuple, isi_str_ro, isi_list_int, isi_list_bool, isi_list_str, isi_list_NoneType, isi_list_list, isi_list_tuple, isi_list_ro, isi_tuple_int, isi_tuple_bool, isi_tuple_str, isi_tuple_NoneType, isi_tuple_list, isi_tuple_tuple, isi_tuple_ro, len_str (show x.length ≤ 1000000 by omega), show (1 : Int) ≤ x.length by omega, show (x.length : Int) ≤ 8 by omega]
  refine (lc_map (g := fun _ => [tBl true]) (by omega) fun t ht => ?_).mono fun acc ρ ⟨e, _⟩ => ?_
  · obtain ⟨c, hc, rfl⟩ := List.mem_map.mp ht
    simp [↓aft_seq, ↓aft_if, ↓aft_asg, ↓aft_ret, ↓aft_drp, ↓aft_bin, ↓aft_fz, ↓aft_mv, ↓aft_nh, ↓aft_pk, ↓aft_binL, ↓aft_binR, ↓aft_set, ↓aft_tru, ↓aft_boolM, ↓aft_cmpB, ↓aft_and, ↓aft_or, ↓aft_not, ↓aft_andV, ↓aft_orV, ↓aft_notV, ↓aft_ifV, ↓aft_neg, ↓aft_nil, ↓aft_cons, ↓aft_tup, ↓aft_lst, ↓aft_un1, ↓aft_un2, ↓aft_call, ↓aft_callIO, ↓aft_gtup, ↓aft_gnil, ↓aft_gcons, ↓aft_par2, ↓aft_par3, ↓aft_isi, ↓aft_chain, ↓aft_pure, ↓aft_bind, ↓aft_iterA, ↓aft_lc, ↓aft_for, ↓aft_forO, ↓aft_lcStep, ↓aft_some, ↓aft_yes, ↓aft_mrd, ↓aft_tab, ↓aft_match, ↓aft_mth, ↓aft_cutL, ↓aft_dnew, ↓aft_cutM, ↓aft_noP, ↓aft_someP, ↓aft_gstar, ↓aft_enum, ↓aft_rng, ↓aft_setD, ↓aft_loopC, ↓aft_loopN, ↓aft_setIx, ↓aft_steal, and_assoc, exists_eq_left', at_zero, at_succ, List.cons_append, List.nil_append, List.replicate, List.set_cons_zero, List.set_cons_succ, T.cold, T.colds, T.imm, T.imms, T.frz, T.frzs, hole_atom, hole_tup, hole_lst, hole_ro, hole_dct, hole_hole, tru_bl, tru_int, tru_non, tru_lst, tru_tup, bool_bl, ty_list, ty_lst, eq_int, ne_int, eqA_int, eqA_tup, eqA_lst, neA_int, neA_tup, neA_lst, eqA_same, neA_same, wipeE, allT, T.bools, itA_tup, itA_lst, ↓aft_lcCons, ↓aft_lcNil, tI, tS, tBl, tN, lt_ii, le_ii, gt_ii, ge_ii, sub_ii, add_ii, item_tup, item_lst, item_ro, len_str, len_lst, len_ro, len_tup, int_i, int_b, isN_n, isN_i, isN_t, notN_n, notN_i, notN_t, itA_str, le_pp, max_tt, min_tt, atI, ixN, tabT, isi_int_int, isi_int_bool, isi_int_str, isi_int_NoneType, isi_int_list, isi_int_tuple, isi_int_ro, isi_bool_int, isi_bool_bool, isi_bool_str, isi_bool_NoneType, isi_bool_list, isi_bool_tuple, isi_bool_ro, isi_str_int, isi_str_bool, isi_str_str, isi_str_NoneType, isi_str_list, isi_str_tuple, isi_str_ro, isi_list_int, isi_list_bool, isi_list_str, isi_list_NoneType, isi_list_list, isi_list_tuple, isi_list_ro, isi_tuple_int, isi_tuple_bool, isi_tuple_str, isi_tuple_NoneType, isi_tuple_list, isi_tuple_tuple, isi_tuple_ro, inT, memT, sgn?]
    simpa using h3 c hc
  · subst e
    rw [flat_const]
    exact ⟨_, bools_const (c := true) (by simp), by simp⟩
/-! ### kinds -/
inductive Kind : T → Prop where
  | touch : Kind (.tup [tS "touch"])
  | tap {a b : Int} (h1 : 1 ≤ a) (h2 : a ≤ 1000000000) (h3 : 0 ≤ b) (h4 : b ≤ 1000000000) : Kind (.tup [tS "tap", tI a, tI b])
  | taps {n a c b : Int} (h0 : 2 ≤ n) (h0' : n ≤ 3) (h1 : 1 ≤ a) (h2 : a ≤ 1000000000) (h5 : 1 ≤ c) (h6 : c ≤ 1000000000) (h3 : 0 ≤ b) (h4 : b ≤ 1000000000) : Kind (.tup [tS "taps", tI n, tI a, tI c, tI b])
  | long {a b : Int} (h1 : 1 ≤ a) (h2 : a ≤ 1000000000) (h3 : 0 ≤ b) (h4 : b ≤ 1000000000) : Kind (.tup [tS "long", tI a, tI b])
  | drag {x : Str} {b : Int} (hx : x = "x" ∨ x = "y" ∨ x = "any") (h3 : 0 ≤ b) (h4 : b ≤ 1000000000) : Kind (.tup [tS "drag", tS x, tI b])
  | pinch {b : Int} (h3 : 0 ≤ b) (h4 : b ≤ 1000000000) : Kind (.tup [tS "pinch", tI b])
theorem nic_s {x : Str} (h : (x.cps.toList.all fun c => decide (c < 0x110000)) = true) (hl : x.cps.size ≤ 8) : Nic (.atom (.str x)) 0 8 := (nic_str h).mono (Nat.le_refl _) hl
theorem nic_i {i : Int} (h1 : -999999999999 ≤ i) (h2 : i ≤ 999999999999) : Nic (.atom (.int i)) 0 8 := (nic_int h1 h2).mono (Nat.le_refl _) (by omega)
theorem Kind.nic {k : T} (h : Kind k) : Nic k 1 45 := by
  cases h with
  | touch => exact (nic_tup (dp := 0) (bk := 8) (by simp; exact nic_s (by decide) (by decide))).mono (by omega) (by simp)
  | tap h1 h2 h3 h4 => exact (nic_tup (dp := 0) (bk := 8) (by simp; exact ⟨nic_s (by decide) (by decide), nic_i (by omega) (by omega), nic_i (by omega) (by omega)⟩)).mono (by omega) (by simp)
  | taps h0 h0' h1 h2 h5 h6 h3 h4 => exact (nic_tup (dp := 0) (bk := 8) (by simp; exact ⟨nic_s (by decide) (by decide), nic_i (by omega) (by omega), nic_i (by omega) (by omega), nic_i (by omega) (by omega), nic_i (by omega) (by omega)⟩)).mono (by omega) (by simp)
  | long h1 h2 h3 h4 => exact (nic_tup (dp := 0) (bk := 8) (by simp; exact ⟨nic_s (by decide) (by decide), nic_i (by omega) (by omega), nic_i (by omega) (by omega)⟩)).mono (by omega) (by simp)
  | drag hx h3 h4 =>
    have hn : Nic (.atom (.str ‹Str›)) 0 8 := by rcases hx with rfl | rfl | rfl <;> exact nic_s (by decide) (by decide)
    exact (nic_tup (dp := 0) (bk := 8) (by simp; exact ⟨nic_s (by decide) (by decide), hn, nic_i (by omega) (by omega)⟩)).mono (by omega) (by simp)
  | pinch h3 h4 => exact (nic_tup (dp := 0) (bk := 8) (by simp; exact ⟨nic_s (by decide) (by decide), nic_i (by omega) (by omega)⟩)).mono (by omega) (by simp)
theorem aft_case {xs : List Str} {m : M Ctl} {cs : List (List Str × M Ctl)} {y : Str} {ρ : VS.Env} {P : Ctl → VS.Env → Prop} : Aft (casesM ((xs, m) :: cs) y ρ) P = if xs.any (fun x => decide (x = y)) = true then Aft (m ρ) P else Aft (casesM cs y ρ) P := by
  show Aft ((if xs.any (fun x => decide (x = y)) = true then m else casesM cs y) ρ) P = _
  rw [aft_ite]
theorem aft_case0 {y : Str} {ρ : VS.Env} {P : Ctl → VS.Env → Prop} : Aft (casesM [] y ρ) P = P .nx ρ := rfl
theorem sz_touch : List.lookup ("touch" : Str) c_SIZES = some (.int 0) := rfl
theorem sz_tap : List.lookup ("tap" : Str) c_SIZES = some (.int 2) := rfl
theorem sz_taps : List.lookup ("taps" : Str) c_SIZES = some (.int 4) := rfl
theorem sz_long : List.lookup ("long" : Str) c_SIZES = some (.int 2) := rfl
theorem sz_drag : List.lookup ("drag" : Str) c_SIZES = some (.int 2) := rfl
theorem sz_pinch : List.lookup ("pinch" : Str) c_SIZES = some (.int 1) := rfl
theorem Kind.ok {k : T} (h : Kind k) : run_is_kind [k] = some (tBl true) := by
  have nk := h.nic
  cases h with
  | touch =>
    refine run0_of ?_
    unfold sem_is_kind
    simp (decide := true) [↓aft_seq, ↓aft_if, ↓aft_asg, ↓aft_ret, ↓aft_drp, ↓aft_bin, ↓aft_fz, ↓aft_mv, ↓aft_nh, ↓aft_pk, ↓aft_binL, ↓aft_binR, ↓aft_set, ↓aft_tru, ↓aft_boolM, ↓aft_cmpB, ↓aft_and, ↓aft_or, ↓aft_not, ↓aft_andV, ↓aft_orV, ↓aft_notV, ↓aft_ifV, ↓aft_neg, ↓aft_nil, ↓aft_cons, ↓aft_tup, ↓aft_lst, ↓aft_un1, ↓aft_un2, ↓aft_call, ↓aft_callIO, ↓aft_gtup, ↓aft_gnil, ↓aft_gcons, ↓aft_par2, ↓aft_par3, ↓aft_isi, ↓aft_chain, ↓aft_pure, ↓aft_bind, ↓aft_iterA, ↓aft_lc, ↓aft_for, ↓aft_forO, ↓aft_lcStep, ↓aft_some, ↓aft_yes, ↓aft_mrd, ↓aft_tab, ↓aft_match, ↓aft_mth, ↓aft_cutL, ↓aft_dnew, ↓aft_cutM, ↓aft_noP, ↓aft_someP, ↓aft_gstar, ↓aft_enum, ↓aft_rng, ↓aft_setD, ↓aft_loopC, ↓aft_loopN, ↓aft_setIx, ↓aft_steal, and_assoc, exists_eq_left', at_zero, at_succ, List.cons_append, List.nil_append, List.replicate, List.set_cons_zero, List.set_cons_succ, T.cold, T.colds, T.imm, T.imms, T.frz, T.frzs, hole_atom, hole_tup, hole_lst, hole_ro, hole_dct, hole_hole, tru_bl, tru_int, tru_non, tru_lst, tru_tup, bool_bl, ty_list, ty_lst, eq_int, ne_int, eqA_int, eqA_tup, eqA_lst, neA_int, neA_tup, neA_lst, eqA_same, neA_same, wipeE, allT, T.bools, itA_tup, itA_lst, ↓aft_lcCons, ↓aft_lcNil, tI, tS, tBl, tN, lt_ii, le_ii, gt_ii, ge_ii, sub_ii, add_ii, item_tup, item_lst, item_ro, len_str, len_lst, len_ro, len_tup, int_i, int_b, isN_n, isN_i, isN_t, notN_n, notN_i, notN_t, itA_str, le_pp, max_tt, min_tt, atI, ixN, tabT, isi_int_int, isi_int_bool, isi_int_str, isi_int_NoneType, isi_int_list, isi_int_tuple, isi_int_ro, isi_bool_int, isi_bool_bool, isi_bool_str, isi_bool_NoneType, isi_bool_list, isi_bool_tuple, isi_bool_ro, isi_str_int, isi_str_bool, isi_str_str, isi_str_NoneType, isi_str_list, isi_str_tuple, isi_str_ro, isi_list_int, isi_list_bool, isi_list_str, isi_list_NoneType, isi_list_list, isi_list_tuple, isi_list_ro, isi_tuple_int, isi_tuple_bool, isi_tuple_str, isi_tuple_NoneType, isi_tuple_list, isi_tuple_tuple, isi_tuple_ro, eq_nilT nk, ne_nilN, aft_case, aft_case0, sz_touch, sz_tap, sz_taps, sz_long, sz_drag, sz_pinch]
  | @tap a b h1 h2 h3 h4 =>
    refine run0_of ?_
    unfold sem_is_kind
    have nl : Nic (.lst true [tI a, tI b]) 1 18 := nic_lst (ts := [tI a, tI b]) (dp := 0) (bk := 8) (by simp; exact ⟨nic_i (by omega) (by omega), nic_i (by omega) (by omega)⟩)
    simp (decide := true) [↓aft_seq, ↓aft_if, ↓aft_asg, ↓aft_ret, ↓aft_drp, ↓aft_bin, ↓aft_fz, ↓aft_mv, ↓aft_nh, ↓aft_pk, ↓aft_binL, ↓aft_binR, ↓aft_set, ↓aft_tru, ↓aft_boolM, ↓aft_cmpB, ↓aft_and, ↓aft_or, ↓aft_not, ↓aft_andV, ↓aft_orV, ↓aft_notV, ↓aft_ifV, ↓aft_neg, ↓aft_nil, ↓aft_cons, ↓aft_tup, ↓aft_lst, ↓aft_un1, ↓aft_un2, ↓aft_call, ↓aft_callIO, ↓aft_gtup, ↓aft_gnil, ↓aft_gcons, ↓aft_par2, ↓aft_par3, ↓aft_isi, ↓aft_chain, ↓aft_pure, ↓aft_bind, ↓aft_iterA, ↓aft_lc, ↓aft_for, ↓aft_forO, ↓aft_lcStep, ↓aft_some, ↓aft_yes, ↓aft_mrd, ↓aft_tab, ↓aft_match, ↓aft_mth, ↓aft_cutL, ↓aft_dnew, ↓aft_cutM, ↓aft_noP, ↓aft_someP, ↓aft_gstar, ↓aft_enum, ↓aft_rng, ↓aft_setD, ↓aft_loopC, ↓aft_loopN, ↓aft_setIx, ↓aft_steal, and_assoc, exists_eq_left', at_zero, at_succ, List.cons_append, List.nil_append, List.replicate, List.set_cons_zero, List.set_cons_succ, T.cold, T.colds, T.imm, T.imms, T.frz, T.frzs, hole_atom, hole_tup, hole_lst, hole_ro, hole_dct, hole_hole, tru_bl, tru_int, tru_non, tru_lst, tru_tup, bool_bl, ty_list, ty_lst, eq_int, ne_int, eqA_int, eqA_tup, eqA_lst, neA_int, neA_tup, neA_lst, eqA_same, neA_same, wipeE, allT, T.bools, itA_tup, itA_lst, ↓aft_lcCons, ↓aft_lcNil, tI, tS, tBl, tN, lt_ii, le_ii, gt_ii, ge_ii, sub_ii, add_ii, item_tup, item_lst, item_ro, len_str, len_lst, len_ro, len_tup, int_i, int_b, isN_n, isN_i, isN_t, notN_n, notN_i, notN_t, itA_str, le_pp, max_tt, min_tt, atI, ixN, tabT, isi_int_int, isi_int_bool, isi_int_str, isi_int_NoneType, isi_int_list, isi_int_tuple, isi_int_ro, isi_bool_int, isi_bool_bool, isi_bool_str, isi_bool_NoneType, isi_bool_list, isi_bool_tuple, isi_bool_ro, isi_str_int, isi_str_bool, isi_str_str, isi_str_NoneType, isi_str_list, isi_str_tuple, isi_str_ro, isi_list_int, isi_list_bool, isi_list_str, isi_list_NoneType, isi_list_list, isi_list_tuple, isi_list_ro, isi_tuple_int, isi_tuple_bool, isi_tuple_str, isi_tuple_NoneType, isi_tuple_list, isi_tuple_tuple, isi_tuple_ro, eq_nilT nk, ne_nilL nl, aft_case, aft_case0, sz_touch, sz_tap, sz_taps, sz_long, sz_drag, sz_pinch, is_integer_in h1 h2, is_integer_in h3 h4]
  | @long a b h1 h2 h3 h4 =>
    refine run0_of ?_
    unfold sem_is_kind
    have nl : Nic (.lst true [tI a, tI b]) 1 18 := nic_lst (ts := [tI a, tI b]) (dp := 0) (bk := 8) (by simp; exact ⟨nic_i (by omega) (by omega), nic_i (by omega) (by omega)⟩)
    simp (decide := true) [↓aft_seq, ↓aft_if, ↓aft_asg, ↓aft_ret, ↓aft_drp, ↓aft_bin, ↓aft_fz, ↓aft_mv, ↓aft_nh, ↓aft_pk, ↓aft_binL, ↓aft_binR, ↓aft_set, ↓aft_tru, ↓aft_boolM, ↓aft_cmpB, ↓aft_and, ↓aft_or, ↓aft_not, ↓aft_andV, ↓aft_orV, ↓aft_notV, ↓aft_ifV, ↓aft_neg, ↓aft_nil, ↓aft_cons, ↓aft_tup, ↓aft_lst, ↓aft_un1, ↓aft_un2, ↓aft_call, ↓aft_callIO, ↓aft_gtup, ↓aft_gnil, ↓aft_gcons, ↓aft_par2, ↓aft_par3, ↓aft_isi, ↓aft_chain, ↓aft_pure, ↓aft_bind, ↓aft_iterA, ↓aft_lc, ↓aft_for, ↓aft_forO, ↓aft_lcStep, ↓aft_some, ↓aft_yes, ↓aft_mrd, ↓aft_tab, ↓aft_match, ↓aft_mth, ↓aft_cutL, ↓aft_dnew, ↓aft_cutM, ↓aft_noP, ↓aft_someP, ↓aft_gstar, ↓aft_enum, ↓aft_rng, ↓aft_setD, ↓aft_loopC, ↓aft_loopN, ↓aft_setIx, ↓aft_steal, and_assoc, exists_eq_left', at_zero, at_succ, List.cons_append, List.nil_append, List.replicate, List.set_cons_zero, List.set_cons_succ, T.cold, T.colds, T.imm, T.imms, T.frz, T.frzs, hole_atom, hole_tup, hole_lst, hole_ro, hole_dct, hole_hole, tru_bl, tru_int, tru_non, tru_lst, tru_tup, bool_bl, ty_list, ty_lst, eq_int, ne_int, eqA_int, eqA_tup, eqA_lst, neA_int, neA_tup, neA_lst, eqA_same, neA_same, wipeE, allT, T.bools, itA_tup, itA_lst, ↓aft_lcCons, ↓aft_lcNil, tI, tS, tBl, tN, lt_ii, le_ii, gt_ii, ge_ii, sub_ii, add_ii, item_tup, item_lst, item_ro, len_str, len_lst, len_ro, len_tup, int_i, int_b, isN_n, isN_i, isN_t, notN_n, notN_i, notN_t, itA_str, le_pp, max_tt, min_tt, atI, ixN, tabT, isi_int_int, isi_int_bool, isi_int_str, isi_int_NoneType, isi_int_list, isi_int_tuple, isi_int_ro, isi_bool_int, isi_bool_bool, isi_bool_str, isi_bool_NoneType, isi_bool_list, isi_bool_tuple, isi_bool_ro, isi_str_int, isi_str_bool, isi_str_str, isi_str_NoneType, isi_str_list, isi_str_tuple, isi_str_ro, isi_list_int, isi_list_bool, isi_list_str, isi_list_NoneType, isi_list_list, isi_list_tuple, isi_list_ro, isi_tuple_int, isi_tuple_bool, isi_tuple_str, isi_tuple_NoneType, isi_tuple_list, isi_tuple_tuple, isi_tuple_ro, eq_nilT nk, ne_nilL nl, aft_case, aft_case0, sz_touch, sz_tap, sz_taps, sz_long, sz_drag, sz_pinch, is_integer_in h1 h2, is_integer_in h3 h4]
  | @pinch b h3 h4 =>
    refine run0_of ?_
    unfold sem_is_kind
    have nl : Nic (.lst true [tI b]) 1 9 := nic_lst (ts := [tI b]) (dp := 0) (bk := 8) (by simp; exact nic_i (by omega) (by omega))
    simp (decide := true) [↓aft_seq, ↓aft_if, ↓aft_asg, ↓aft_ret, ↓aft_drp, ↓aft_bin, ↓aft_fz, ↓aft_mv, ↓aft_nh, ↓aft_pk, ↓aft_binL, ↓aft_binR, ↓aft_set, ↓aft_tru, ↓aft_boolM, ↓aft_cmpB, ↓aft_and, ↓aft_or, ↓aft_not, ↓aft_andV, ↓aft_orV, ↓aft_notV, ↓aft_ifV, ↓aft_neg, ↓aft_nil, ↓aft_cons, ↓aft_tup, ↓aft_lst, ↓aft_un1, ↓aft_un2, ↓aft_call, ↓aft_callIO, ↓aft_gtup, ↓aft_gnil, ↓aft_gcons, ↓aft_par2, ↓aft_par3, ↓aft_isi, ↓aft_chain, ↓aft_pure, ↓aft_bind, ↓aft_iterA, ↓aft_lc, ↓aft_for, ↓aft_forO, ↓aft_lcStep, ↓aft_some, ↓aft_yes, ↓aft_mrd, ↓aft_tab, ↓aft_match, ↓aft_mth, ↓aft_cutL, ↓aft_dnew, ↓aft_cutM, ↓aft_noP, ↓aft_someP, ↓aft_gstar, ↓aft_enum, ↓aft_rng, ↓aft_setD, ↓aft_loopC, ↓aft_loopN, ↓aft_setIx, ↓aft_steal, and_assoc, exists_eq_left', at_zero, at_succ, List.cons_append, List.nil_append, List.replicate, List.set_cons_zero, List.set_cons_succ, T.cold, T.colds, T.imm, T.imms, T.frz, T.frzs, hole_atom, hole_tup, hole_lst, hole_ro, hole_dct, hole_hole, tru_bl, tru_int, tru_non, tru_lst, tru_tup, bool_bl, ty_list, ty_lst, eq_int, ne_int, eqA_int, eqA_tup, eqA_lst, neA_int, neA_tup, neA_lst, eqA_same, neA_same, wipeE, allT, T.bools, itA_tup, itA_lst, ↓aft_lcCons, ↓aft_lcNil, tI, tS, tBl, tN, lt_ii, le_ii, gt_ii, ge_ii, sub_ii, add_ii, item_tup, item_lst, item_ro, len_str, len_lst, len_ro, len_tup, int_i, int_b, isN_n, isN_i, isN_t, notN_n, notN_i, notN_t, itA_str, le_pp, max_tt, min_tt, atI, ixN, tabT, isi_int_int, isi_int_bool, isi_int_str, isi_int_NoneType, isi_int_list, isi_int_tuple, isi_int_ro, isi_bool_int, isi_bool_bool, isi_bool_str, isi_bool_NoneType, isi_bool_list, isi_bool_tuple, isi_bool_ro, isi_str_int, isi_str_bool, isi_str_str, isi_str_NoneType, isi_str_list, isi_str_tuple, isi_str_ro, isi_list_int, isi_list_bool, isi_list_str, isi_list_NoneType, isi_list_list, isi_list_tuple, isi_list_ro, isi_tuple_int, isi_tuple_bool, isi_tuple_str, isi_tuple_NoneType, isi_tuple_list, isi_tuple_tuple, isi_tuple_ro, eq_nilT nk, ne_nilL nl, aft_case, aft_case0, sz_touch, sz_tap, sz_taps, sz_long, sz_drag, sz_pinch, is_integer_in h3 h4]
  | @drag x b hx h3 h4 =>
    refine run0_of ?_
    unfold sem_is_kind
    have hn : Nic (.atom (.str x)) 0 8 := by rcases hx with rfl | rfl | rfl <;> exact nic_s (by decide) (by decide)
    have nl : Nic (.lst true [tS x, tI b]) 1 18 := nic_lst (ts := [tS x, tI b]) (dp := 0) (bk := 8) (by simp; exact ⟨hn, nic_i (by omega) (by omega)⟩)
    simp (decide := true) [↓aft_seq, ↓aft_if, ↓aft_asg, ↓aft_ret, ↓aft_drp, ↓aft_bin, ↓aft_fz, ↓aft_mv, ↓aft_nh, ↓aft_pk, ↓aft_binL, ↓aft_binR, ↓aft_set, ↓aft_tru, ↓aft_boolM, ↓aft_cmpB, ↓aft_and, ↓aft_or, ↓aft_not, ↓aft_andV, ↓aft_orV, ↓aft_notV, ↓aft_ifV, ↓aft_neg, ↓aft_nil, ↓aft_cons, ↓aft_tup, ↓aft_lst, ↓aft_un1, ↓aft_un2, ↓aft_call, ↓aft_callIO, ↓aft_gtup, ↓aft_gnil, ↓aft_gcons, ↓aft_par2, ↓aft_par3, ↓aft_isi, ↓aft_chain, ↓aft_pure, ↓aft_bind, ↓aft_iterA, ↓aft_lc, ↓aft_for, ↓aft_forO, ↓aft_lcStep, ↓aft_some, ↓aft_yes, ↓aft_mrd, ↓aft_tab, ↓aft_match, ↓aft_mth, ↓aft_cutL, ↓aft_dnew, ↓aft_cutM, ↓aft_noP, ↓aft_someP, ↓aft_gstar, ↓aft_enum, ↓aft_rng, ↓aft_setD, ↓aft_loopC, ↓aft_loopN, ↓aft_setIx, ↓aft_steal, and_assoc, exists_eq_left', at_zero, at_succ, List.cons_append, List.nil_append, List.replicate, List.set_cons_zero, List.set_cons_succ, T.cold, T.colds, T.imm, T.imms, T.frz, T.frzs, hole_atom, hole_tup, hole_lst, hole_ro, hole_dct, hole_hole, tru_bl, tru_int, tru_non, tru_lst, tru_tup, bool_bl, ty_list, ty_lst, eq_int, ne_int, eqA_int, eqA_tup, eqA_lst, neA_int, neA_tup, neA_lst, eqA_same, neA_same, wipeE, allT, T.bools, itA_tup, itA_lst, ↓aft_lcCons, ↓aft_lcNil, tI, tS, tBl, tN, lt_ii, le_ii, gt_ii, ge_ii, sub_ii, add_ii, item_tup, item_lst, item_ro, len_str, len_lst, len_ro, len_tup, int_i, int_b, isN_n, isN_i, isN_t, notN_n, notN_i, notN_t, itA_str, le_pp, max_tt, min_tt, atI, ixN, tabT, isi_int_int, isi_int_bool, isi_int_str, isi_int_NoneType, isi_int_list, isi_int_tuple, isi_int_ro, isi_bool_int, isi_bool_bool, isi_bool_str, isi_bool_NoneType, isi_bool_list, isi_bool_tuple, isi_bool_ro, isi_str_int, isi_str_bool, isi_str_str, isi_str_NoneType, isi_str_list, isi_str_tuple, isi_str_ro, isi_list_int, isi_list_bool, isi_list_str, isi_list_NoneType, isi_list_list, isi_list_tuple, isi_list_ro, isi_tuple_int, isi_tuple_bool, isi_tuple_str, isi_tuple_NoneType, isi_tuple_list, isi_tuple_tuple, isi_tuple_ro, eq_nilT nk, ne_nilL nl, aft_case, aft_case0, sz_touch, sz_tap, sz_taps, sz_long, sz_drag, sz_pinch, is_integer_in h3 h4, inT, memT, T.strs]
    exact hx
  | @taps n a c b h0 h0' h1 h2 h5 h6 h3 h4 =>
    refine run0_of ?_
    unfold sem_is_kind
    have nl : Nic (.lst true [tI n, tI a, tI c, tI b]) 1 36 := nic_lst (ts := [tI n, tI a, tI c, tI b]) (dp := 0) (bk := 8) (by simp; exact ⟨nic_i (by omega) (by omega), nic_i (by omega) (by omega), nic_i (by omega) (by omega), nic_i (by omega) (by omega)⟩)
    simp (decide := true) [↓aft_seq, ↓aft_if, ↓aft_asg, ↓aft_ret, ↓aft_drp, ↓aft_bin, ↓aft_fz, ↓aft_mv, ↓aft_nh, ↓aft_pk, ↓aft_binL, ↓aft_binR, ↓aft_set, ↓aft_tru, ↓aft_boolM, ↓aft_cmpB, ↓aft_and, ↓aft_or, ↓aft_not, ↓aft_andV, ↓aft_orV, ↓aft_notV, ↓aft_ifV, ↓aft_neg, ↓aft_nil, ↓aft_cons, ↓aft_tup, ↓aft_lst, ↓aft_un1, ↓aft_un2, ↓aft_call, ↓aft_callIO, ↓aft_gtup, ↓aft_gnil, ↓aft_gcons, ↓aft_par2, ↓aft_par3, ↓aft_isi, ↓aft_chain, ↓aft_pure, ↓aft_bind, ↓aft_iterA, ↓aft_lc, ↓aft_for, ↓aft_forO, ↓aft_lcStep, ↓aft_some, ↓aft_yes, ↓aft_mrd, ↓aft_tab, ↓aft_match, ↓aft_mth, ↓aft_cutL, ↓aft_dnew, ↓aft_cutM, ↓aft_noP, ↓aft_someP, ↓aft_gstar, ↓aft_enum, ↓aft_rng, ↓aft_setD, ↓aft_loopC, ↓aft_loopN, ↓aft_setIx, ↓aft_steal, and_assoc, exists_eq_left', at_zero, at_succ, List.cons_append, List.nil_append, List.replicate, List.set_cons_zero, List.set_cons_succ, T.cold, T.colds, T.imm, T.imms, T.frz, T.frzs, hole_atom, hole_tup, hole_lst, hole_ro, hole_dct, hole_hole, tru_bl, tru_int, tru_non, tru_lst, tru_tup, bool_bl, ty_list, ty_lst, eq_int, ne_int, eqA_int, eqA_tup, eqA_lst, neA_int, neA_tup, neA_lst, eqA_same, neA_same, wipeE, allT, T.bools, itA_tup, itA_lst, ↓aft_lcCons, ↓aft_lcNil, tI, tS, tBl, tN, lt_ii, le_ii, gt_ii, ge_ii, sub_ii, add_ii, item_tup, item_lst, item_ro, len_str, len_lst, len_ro, len_tup, int_i, int_b, isN_n, isN_i, isN_t, notN_n, notN_i, notN_t, itA_str, le_pp, max_tt, min_tt, atI, ixN, tabT, isi_int_int, isi_int_bool, isi_int_str, isi_int_NoneType, isi_int_list, isi_int_tuple, isi_int_ro, isi_bool_int, isi_bool_bool, isi_bool_str, isi_bool_NoneType, isi_bool_list, isi_bool_tuple, isi_bool_ro, isi_str_int, isi_str_bool, isi_str_str, isi_str_NoneType, isi_str_list, isi_str_tuple, isi_str_ro, isi_list_int, isi_list_bool, isi_list_str, isi_list_NoneType, isi_list_list, isi_list_tuple, isi_list_ro, isi_tuple_int, isi_tuple_bool, isi_tuple_str, isi_tuple_NoneType, isi_tuple_list, isi_tuple_tuple, isi_tuple_ro, eq_nilT nk, ne_nilL nl, aft_case, aft_case0, sz_touch, sz_tap, sz_taps, sz_long, sz_drag, sz_pinch, is_integer_in h0 h0', is_integer_in h1 h2, is_integer_in h5 h6, is_integer_in h3 h4, cutT, cutL', HT.sIx]
/-! ### the checks of lists -/
def ViewAt (i : Nat) (v : T) : Prop := ∃ p l t r b : Int, v = .tup [tI p, tI l, tI t, tI r, tI b] ∧ 0 ≤ p ∧ p < i + 1 ∧ l < r ∧ t < b ∧ -999999999999 ≤ l ∧ -999999999999 ≤ t ∧ r ≤ 999999999999 ∧ b ≤ 999999999999
theorem wrong_view_ok {b : Bool} {vs : List T} (him : T.imms vs = true) (h : ∀ i v, vs[i]? = some v → ViewAt i v) : run_wrong_view [.lst b vs] = some tN := by
  refine run0_of ?_
  unfold sem_wrong_view
  simp [↓aft_seq, ↓aft_if, ↓aft_asg, ↓aft_ret, ↓aft_drp, ↓aft_bin, ↓aft_fz, ↓aft_mv, ↓aft_nh, ↓aft_pk, ↓aft_binL, ↓aft_binR, ↓aft_set, ↓aft_tru, ↓aft_boolM, ↓aft_cmpB, ↓aft_and, ↓aft_or, ↓aft_not, ↓aft_andV, ↓aft_orV, ↓aft_notV, ↓aft_ifV, ↓aft_neg, ↓aft_nil, ↓aft_cons, ↓aft_tup, ↓aft_lst, ↓aft_un1, ↓aft_un2, ↓aft_call, ↓aft_callIO, ↓aft_gtup, ↓aft_gnil, ↓aft_gcons, ↓aft_par2, ↓aft_par3, ↓aft_isi, ↓aft_chain, ↓aft_pure, ↓aft_bind, ↓aft_iterA, ↓aft_lc, ↓aft_for, ↓aft_forO, ↓aft_lcStep, ↓aft_some, ↓aft_yes, ↓aft_mrd, ↓aft_tab, ↓aft_match, ↓aft_mth, ↓aft_cutL, ↓aft_dnew, ↓aft_cutM, ↓aft_noP, ↓aft_someP, ↓aft_gstar, ↓aft_enum, ↓aft_rng, ↓aft_setD, ↓aft_loopC, ↓aft_loopN, ↓aft_setIx, ↓aft_steal, and_assoc, exists_eq_left', at_zero, at_succ, List.cons_append, List.nil_append, List.replicate, List.set_cons_zero, List.set_cons_succ, T.cold, T.colds, T.imm, T.imms, T.frz, T.frzs, hole_atom, hole_tup, hole_lst, hole_ro, hole_dct, hole_hole, tru_bl, tru_int, tru_non, tru_lst, tru_tup, bool_bl, ty_list, ty_lst, eq_int, ne_int, eqA_int, eqA_tup, eqA_lst, neA_int, neA_tup, neA_lst, eqA_same, neA_same, wipeE, allT, T.bools, itA_tup, itA_lst, ↓aft_lcCons, ↓aft_lcNil, tI, tS, tBl, tN, lt_ii, le_ii, gt_ii, ge_ii, sub_ii, add_ii, item_tup, item_lst, item_ro, len_str, len_lst, len_ro, len_tup, int_i, int_b, isN_n, isN_i, isN_t, notN_n, notN_i, notN_t, itA_str, le_pp, max_tt, min_tt, atI, ixN, tabT, isi_int_int, isi_int_bool, isi_int_str, isi_int_NoneType, isi_int_list, isi_int_tuple, isi_int_ro, isi_bool_int, isi_bool_bool, isi_bool_str, isi_bool_NoneType, isi_bool_list, isi_bool_tuple, isi_bool_ro, isi_str_int, isi_str_bool, isi_str_str, isi_str_NoneType, isi_str_list, isi_str_tuple, isi_str_ro, isi_list_int, isi_list_bool, isi_list_str, isi_list_NoneType, isi_list_list, isi_list_tuple, isi_list_ro, isi_tuple_int, isi_tuple_bool, isi_tuple_str, isi_tuple_NoneType, isi_tuple_list, isi_tuple_tuple, isi_tuple_ro, him, colds_imms him, frzs_imms him, itL_imm him]
  refine (loop_inv (fun i ρ => ∃ a c, ρ = [.lst false vs, a, c]) 0 ⟨_, _, rfl⟩ fun i x ρ hx ⟨a, c, e⟩ => ?_).mono fun c ρ ⟨e, _⟩ => by subst e; exact True.intro
  subst e
  obtain ⟨v, hv, rfl⟩ := enumL_at hx
  obtain ⟨p, l, t, r, bb, e, hr⟩ := h i v hv
  subst e
  have h1 := hr.1
  have h2 := hr.2.1
  have h3 := hr.2.2.1
  have h4 := hr.2.2.2.1
  rw [Nat.zero_add]
  simp [↓aft_seq, ↓aft_if, ↓aft_asg, ↓aft_ret, ↓aft_drp, ↓aft_bin, ↓aft_fz, ↓aft_mv, ↓aft_nh, ↓aft_pk, ↓aft_binL, ↓aft_binR, ↓aft_set, ↓aft_tru, ↓aft_boolM, ↓aft_cmpB, ↓aft_and, ↓aft_or, ↓aft_not, ↓aft_andV, ↓aft_orV, ↓aft_notV, ↓aft_ifV, ↓aft_neg, ↓aft_nil, ↓aft_cons, ↓aft_tup, ↓aft_lst, ↓aft_un1, ↓aft_un2, ↓aft_call, ↓aft_callIO, ↓aft_gtup, ↓aft_gnil, ↓aft_gcons, ↓aft_par2, ↓aft_par3, ↓aft_isi, ↓aft_chain, ↓aft_pure, ↓aft_bind, ↓aft_iterA, ↓aft_lc, ↓aft_for, ↓aft_forO, ↓aft_lcStep, ↓aft_some, ↓aft_yes, ↓aft_mrd, ↓aft_tab, ↓aft_match, ↓aft_mth, ↓aft_cutL, ↓aft_dnew, ↓aft_cutM, ↓aft_noP, ↓aft_someP, ↓aft_gstar, ↓aft_enum, ↓aft_rng, ↓aft_setD, ↓aft_loopC, ↓aft_loopN, ↓aft_setIx, ↓aft_steal, and_assoc, exists_eq_left', at_zero, at_succ, List.cons_append, List.nil_append, List.replicate, List.set_cons_zero, List.set_cons_succ, T.cold, T.colds, T.imm, T.imms, T.frz, T.frzs, hole_atom, hole_tup, hole_lst, hole_ro, hole_dct, hole_hole, tru_bl, tru_int, tru_non, tru_lst, tru_tup, bool_bl, ty_list, ty_lst, eq_int, ne_int, eqA_int, eqA_tup, eqA_lst, neA_int, neA_tup, neA_lst, eqA_same, neA_same, wipeE, allT, T.bools, itA_tup, itA_lst, ↓aft_lcCons, ↓aft_lcNil, tI, tS, tBl, tN, lt_ii, le_ii, gt_ii, ge_ii, sub_ii, add_ii, item_tup, item_lst, item_ro, len_str, len_lst, len_ro, len_tup, int_i, int_b, isN_n, isN_i, isN_t, notN_n, notN_i, notN_t, itA_str, le_pp, max_tt, min_tt, atI, ixN, tabT, isi_int_int, isi_int_bool, isi_int_str, isi_int_NoneType, isi_int_list, isi_int_tuple, isi_int_ro, isi_bool_int, isi_bool_bool, isi_bool_str, isi_bool_NoneType, isi_bool_list, isi_bool_tuple, isi_bool_ro, isi_str_int, isi_str_bool, isi_str_str, isi_str_NoneType, isi_str_list, isi_str_tuple, isi_str_ro, isi_list_int, isi_list_bool, isi_list_str, isi_list_NoneType, isi_list_list, isi_list_tuple, isi_list_ro, isi_tuple_int, isi_tuple_bool, isi_tuple_str, isi_tuple_NoneType, isi_tuple_list, isi_tuple_tuple, isi_tuple_ro, is_view_ok h1 h2 h3 h4]
def mpr (a b : Int) (rising : Bool) : Prop := a < b ∨ (rising = false ∧ b < a)
def PairsOk (ps : List (Int × Int)) (n : Int) (rising : Bool) : Prop := (∀ p ∈ ps, 0 ≤ p.1 ∧ p.1 < n ∧ 0 ≤ p.2 ∧ p.2 < n ∧ mpr p.1 p.2 rising) ∧ ps.Pairwise fun p q => ple q p = false
theorem prs_imm (ps : List (Int × Int)) : T.imms (ps.map prT) = true := imms_map fun _ _ => rfl
theorem wrong_pair_ok {b : Bool} {ps : List (Int × Int)} {n : Int} {rising : Bool} (h : PairsOk ps n rising) (hl : ps.length ≤ 1000) : run_wrong_pair [.lst b (ps.map prT), tI n, tBl rising] = some tN := by
  have him := prs_imm ps
  refine run0_of ?_
  unfold sem_wrong_pair
  simp [↓aft_seq, ↓aft_if, ↓aft_asg, ↓aft_ret, ↓aft_drp, ↓aft_bin, ↓aft_fz, ↓aft_mv, ↓aft_nh, ↓aft_pk, ↓aft_binL, ↓aft_binR, ↓aft_set, ↓aft_tru, ↓aft_boolM, ↓aft_cmpB, ↓aft_and, ↓aft_or, ↓aft_not, ↓aft_andV, ↓aft_orV, ↓aft_notV, ↓aft_ifV, ↓aft_neg, ↓aft_nil, ↓aft_cons, ↓aft_tup, ↓aft_lst, ↓aft_un1, ↓aft_un2, ↓aft_call, ↓aft_callIO, ↓aft_gtup, ↓aft_gnil, ↓aft_gcons, ↓aft_par2, ↓aft_par3, ↓aft_isi, ↓aft_chain, ↓aft_pure, ↓aft_bind, ↓aft_iterA, ↓aft_lc, ↓aft_for, ↓aft_forO, ↓aft_lcStep, ↓aft_some, ↓aft_yes, ↓aft_mrd, ↓aft_tab, ↓aft_match, ↓aft_mth, ↓aft_cutL, ↓aft_dnew, ↓aft_cutM, ↓aft_noP, ↓aft_someP, ↓aft_gstar, ↓aft_enum, ↓aft_rng, ↓aft_setD, ↓aft_loopC, ↓aft_loopN, ↓aft_setIx, ↓aft_steal, and_assoc, exists_eq_left', at_zero, at_succ, List.cons_append, List.nil_append, List.replicate, List.set_cons_zero, List.set_cons_succ, T.cold, T.colds, T.imm, T.imms, T.frz, T.frzs, hole_atom, hole_tup, hole_lst, hole_ro, hole_dct, hole_hole, tru_bl, tru_int, tru_non, tru_lst, tru_tup, bool_bl, ty_list, ty_lst, eq_int, ne_int, eqA_int, eqA_tup, eqA_lst, neA_int, neA_tup, neA_lst, eqA_same, neA_same, wipeE, allT, T.bools, itA_tup, itA_lst, ↓aft_lcCons, ↓aft_lcNil, tI, tS, tBl, tN, lt_ii, le_ii, gt_ii, ge_ii, sub_ii, add_ii, item_tup, item_lst, item_ro, len_str, len_lst, len_ro, len_tup, int_i, int_b, isN_n, isN_i, isN_t, notN_n, notN_i, notN_t, itA_str, le_pp, max_tt, min_tt, atI, ixN, tabT, isi_int_int, isi_int_bool, isi_int_str, isi_int_NoneType, isi_int_list, isi_int_tuple, isi_int_ro, isi_bool_int, isi_bool_bool, isi_bool_str, isi_bool_NoneType, isi_bool_list, isi_bool_tuple, isi_bool_ro, isi_str_int, isi_str_bool, isi_str_str, isi_str_NoneType, isi_str_list, isi_str_tuple, isi_str_ro, isi_list_int, isi_list_bool, isi_list_str, isi_list_NoneType, isi_list_list, isi_list_tuple, isi_list_ro, isi_tuple_int, isi_tuple_bool, isi_tuple_str, isi_tuple_NoneType, isi_tuple_list, isi_tuple_tuple, isi_tuple_ro, him, colds_imms him, frzs_imms him, itL_imm him]
  refine (loop_inv (fun i ρ => ∃ a c, ρ = [.lst false (ps.map prT), tI n, tBl rising, a, c]) 0 ⟨_, _, rfl⟩ fun i x ρ hx ⟨a, c, e⟩ => ?_).mono fun c ρ ⟨e, _⟩ => by subst e; exact True.intro
  subst e
  obtain ⟨v, hv, rfl⟩ := enumL_at hx
  rw [List.getElem?_map, Option.map_eq_some_iff] at hv
  obtain ⟨q, hq, rfl⟩ := hv
  obtain ⟨h1, h2, h3, h4, h5⟩ := h.1 q (List.mem_of_getElem? hq)
  have hil := (List.getElem?_eq_some_iff.mp hq).1
  rw [Nat.zero_add]
  simp [↓aft_seq, ↓aft_if, ↓aft_asg, ↓aft_ret, ↓aft_drp, ↓aft_bin, ↓aft_fz, ↓aft_mv, ↓aft_nh, ↓aft_pk, ↓aft_binL, ↓aft_binR, ↓aft_set, ↓aft_tru, ↓aft_boolM, ↓aft_cmpB, ↓aft_and, ↓aft_or, ↓aft_not, ↓aft_andV, ↓aft_orV, ↓aft_notV, ↓aft_ifV, ↓aft_neg, ↓aft_nil, ↓aft_cons, ↓aft_tup, ↓aft_lst, ↓aft_un1, ↓aft_un2, ↓aft_call, ↓aft_callIO, ↓aft_gtup, ↓aft_gnil, ↓aft_gcons, ↓aft_par2, ↓aft_par3, ↓aft_isi, ↓aft_chain, ↓aft_pure, ↓aft_bind, ↓aft_iterA, ↓aft_lc, ↓aft_for, ↓aft_forO, ↓aft_lcStep, ↓aft_some, ↓aft_yes, ↓aft_mrd, ↓aft_tab, ↓aft_match, ↓aft_mth, ↓aft_cutL, ↓aft_dnew, ↓aft_cutM, ↓aft_noP, ↓aft_someP, ↓aft_gstar, ↓aft_enum, ↓aft_rng, ↓aft_setD, ↓aft_loopC, ↓aft_loopN, ↓aft_setIx, ↓aft_steal, and_assoc, exists_eq_left', at_zero, at_succ, List.cons_append, List.nil_append, List.replicate, List.set_cons_zero, List.set_cons_succ, T.cold, T.colds, T.imm, T.imms, T.frz, T.frzs, hole_atom, hole_tup, hole_lst, hole_ro, hole_dct, hole_hole, tru_bl, tru_int, tru_non, tru_lst, tru_tup, bool_bl, ty_list, ty_lst, eq_int, ne_int, eqA_int, eqA_tup, eqA_lst, neA_int, neA_tup, neA_lst, eqA_same, neA_same, wipeE, allT, T.bools, itA_tup, itA_lst, ↓aft_lcCons, ↓aft_lcNil, tI, tS, tBl, tN, lt_ii, le_ii, gt_ii, ge_ii, sub_ii, add_ii, item_tup, item_lst, item_ro, len_str, len_lst, len_ro, len_tup, int_i, int_b, isN_n, isN_i, isN_t, notN_n, notN_i, notN_t, itA_str, le_pp, max_tt, min_tt, atI, ixN, tabT, isi_int_int, isi_int_bool, isi_int_str, isi_int_NoneType, isi_int_list, isi_int_tuple, isi_int_ro, isi_bool_int, isi_bool_bool, isi_bool_str, isi_bool_NoneType, isi_bool_list, isi_bool_tuple, isi_bool_ro, isi_str_int, isi_str_bool, isi_str_str, isi_str_NoneType, isi_str_list, isi_str_tuple, isi_str_ro, isi_list_int, isi_list_bool, isi_list_str, isi_list_NoneType, isi_list_list, isi_list_tuple, isi_list_ro, isi_tuple_int, isi_tuple_bool, isi_tuple_str, isi_tuple_NoneType, isi_tuple_list, isi_tuple_tuple, isi_tuple_ro, prT, is_pair_ok h1 h2 h3 h4 h5]
  by_cases hi : i = 0
  · left; exact hi
  · right
    refine ⟨by omega, ?_⟩
    have hp : ps[i - 1]? = some ps[i - 1] := by simp
    have hq' : ps[i]? = some ps[i] := by simp
    have eq : q = ps[i] := by rw [hq] at hq'; exact Option.some.inj hq'
    have lt := List.pairwise_iff_getElem.mp h.2 (i - 1) i (by omega) (by omega) (by omega)
    rw [if_pos (by omega), if_pos (by omega)]
    simp [hp, prT, T.imm, T.imms]
    rw [le_pp, eq]
    have z : (T.atom (V.bl (ple ps[i] ps[i - 1]))).bool? = some false := by rw [bool_bl, lt]
    exact ⟨_, rfl, z⟩
abbrev Rec := Str × Int × T
def recT (r : Rec) : T := .tup [tS r.1, tI r.2.1, r.2.2]
def NameOk (x : Str) : Prop := 1 ≤ x.length ∧ x.length ≤ 8 ∧ (∀ c ∈ x.cps.toList, c ∈ (c_SIGNS : Str).cps.toList) ∧ (x.cps.toList.all fun c => decide (c < 0x110000)) = true
def RecOk (last : Int) (r : Rec) : Prop := NameOk r.1 ∧ 0 ≤ r.2.1 ∧ r.2.1 ≤ last ∧ Kind r.2.2 ∧ r.2.2.imm = true
theorem rec_imm {last : Int} {r : Rec} (h : RecOk last r) : (recT r).imm = true := by simp [recT, T.imm, T.imms, h.2.2.2.2]
theorem recs_imm {last : Int} {rs : List Rec} (h : ∀ r ∈ rs, RecOk last r) : T.imms (rs.map recT) = true := imms_map fun r hr => rec_imm (h r hr)
def keyN (r : Rec) : Key := .inr r.1
theorem wrong_recognizer_ok {b : Bool} {rs : List Rec} {last : Int} (h : ∀ r ∈ rs, RecOk last r) (nd : (rs.map (·.1)).Nodup) (hl : rs.length ≤ 1000) : run_wrong_recognizer [.lst b (rs.map recT), tI last] = some tN := by
  have him := recs_imm h
  refine run0_of ?_
  unfold sem_wrong_recognizer
  simp [↓aft_seq, ↓aft_if, ↓aft_asg, ↓aft_ret, ↓aft_drp, ↓aft_bin, ↓aft_fz, ↓aft_mv, ↓aft_nh, ↓aft_pk, ↓aft_binL, ↓aft_binR, ↓aft_set, ↓aft_tru, ↓aft_boolM, ↓aft_cmpB, ↓aft_and, ↓aft_or, ↓aft_not, ↓aft_andV, ↓aft_orV, ↓aft_notV, ↓aft_ifV, ↓aft_neg, ↓aft_nil, ↓aft_cons, ↓aft_tup, ↓aft_lst, ↓aft_un1, ↓aft_un2, ↓aft_call, ↓aft_callIO, ↓aft_gtup, ↓aft_gnil, ↓aft_gcons, ↓aft_par2, ↓aft_par3, ↓aft_isi, ↓aft_chain, ↓aft_pure, ↓aft_bind, ↓aft_iterA, ↓aft_lc, ↓aft_for, ↓aft_forO, ↓aft_lcStep, ↓aft_some, ↓aft_yes, ↓aft_mrd, ↓aft_tab, ↓aft_match, ↓aft_mth, ↓aft_cutL, ↓aft_dnew, ↓aft_cutM, ↓aft_noP, ↓aft_someP, ↓aft_gstar, ↓aft_enum, ↓aft_rng, ↓aft_setD, ↓aft_loopC, ↓aft_loopN, ↓aft_setIx, ↓aft_steal, and_assoc, exists_eq_left', at_zero, at_succ, List.cons_append, List.nil_append, List.replicate, List.set_cons_zero, List.set_cons_succ, T.cold, T.colds, T.imm, T.imms, T.frz, T.frzs, hole_atom, hole_tup, hole_lst, hole_ro, hole_dct, hole_hole, tru_bl, tru_int, tru_non, tru_lst, tru_tup, bool_bl, ty_list, ty_lst, eq_int, ne_int, eqA_int, eqA_tup, eqA_lst, neA_int, neA_tup, neA_lst, eqA_same, neA_same, wipeE, allT, T.bools, itA_tup, itA_lst, ↓aft_lcCons, ↓aft_lcNil, tI, tS, tBl, tN, lt_ii, le_ii, gt_ii, ge_ii, sub_ii, add_ii, item_tup, item_lst, item_ro, len_str, len_lst, len_ro, len_tup, int_i, int_b, isN_n, isN_i, isN_t, notN_n, notN_i, notN_t, itA_str, le_pp, max_tt, min_tt, atI, ixN, tabT, isi_int_int, isi_int_bool, isi_int_str, isi_int_NoneType, isi_int_list, isi_int_tuple, isi_int_ro, isi_bool_int, isi_bool_bool, isi_bool_str, isi_bool_NoneType, isi_bool_list, isi_bool_tuple, isi_bool_ro, isi_str_int, isi_str_bool, isi_str_str, isi_str_NoneType, isi_str_list, isi_str_tuple, isi_str_ro, isi_list_int, isi_list_bool, isi_list_str, isi_list_NoneType, isi_list_list, isi_list_tuple, isi_list_ro, isi_tuple_int, isi_tuple_bool, isi_tuple_str, isi_tuple_NoneType, isi_tuple_list, isi_tuple_tuple, isi_tuple_ro, him, colds_imms him, frzs_imms him, itL_imm him]
  refine (loop_inv (fun i ρ => ∃ ts a c, ρ = [.lst false (rs.map recT), tI last, .dct true ((rs.map keyN).take i) ts, a, c]) 0 ⟨_, _, _, rfl⟩ fun i x ρ hx ⟨ts, a, c, e⟩ => ?_).mono fun c ρ ⟨e, _⟩ => by subst e; exact True.intro
  subst e
  obtain ⟨v, hv, rfl⟩ := enumL_at hx
  rw [List.getElem?_map, Option.map_eq_some_iff] at hv
  obtain ⟨q, hq, rfl⟩ := hv
  have ok := h q (List.mem_of_getElem? hq)
  have hil := (List.getElem?_eq_some_iff.mp hq).1
  have nm := is_name_ok ok.1.1 ok.1.2.1 ok.1.2.2.1
  have ki := ok.2.2.2.1.ok
  have ii := is_integer_in ok.2.1 ok.2.2.1
  have im := ok.2.2.2.2
  have fresh : ¬ Sum.inr q.1 ∈ (rs.map keyN).take i := by
    intro hy
    obtain ⟨j, hj, e2⟩ := List.mem_take_iff_getElem.mp hy
    have hj' : j < i := by omega
    have hjl : j < rs.length := by omega
    have h3 := List.pairwise_iff_getElem.mp nd j i (by simpa using hjl) (by simpa using hil) hj'
    apply h3
    rw [List.getElem_map] at e2
    have e3 : rs[j].1 = q.1 := Sum.inr.inj e2
    rw [List.getElem_map, List.getElem_map, e3]
    have h5 := (List.getElem?_eq_some_iff.mp hq).2
    rw [h5]
  have next : (rs.map keyN).take (i + 1) = (rs.map keyN).take i ++ [Sum.inr q.1] := by
    rw [List.take_succ, List.getElem?_map, hq]; rfl
  rw [Nat.zero_add]
  simp [↓aft_seq, ↓aft_if, ↓aft_asg, ↓aft_ret, ↓aft_drp, ↓aft_bin, ↓aft_fz, ↓aft_mv, ↓aft_nh, ↓aft_pk, ↓aft_binL, ↓aft_binR, ↓aft_set, ↓aft_tru, ↓aft_boolM, ↓aft_cmpB, ↓aft_and, ↓aft_or, ↓aft_not, ↓aft_andV, ↓aft_orV, ↓aft_notV, ↓aft_ifV, ↓aft_neg, ↓aft_nil, ↓aft_cons, ↓aft_tup, ↓aft_lst, ↓aft_un1, ↓aft_un2, ↓aft_call, ↓aft_callIO, ↓aft_gtup, ↓aft_gnil, ↓aft_gcons, ↓aft_par2, ↓aft_par3, ↓aft_isi, ↓aft_chain, ↓aft_pure, ↓aft_bind, ↓aft_iterA, ↓aft_lc, ↓aft_for, ↓aft_forO, ↓aft_lcStep, ↓aft_some, ↓aft_yes, ↓aft_mrd, ↓aft_tab, ↓aft_match, ↓aft_mth, ↓aft_cutL, ↓aft_dnew, ↓aft_cutM, ↓aft_noP, ↓aft_someP, ↓aft_gstar, ↓aft_enum, ↓aft_rng, ↓aft_setD, ↓aft_loopC, ↓aft_loopN, ↓aft_setIx, ↓aft_steal, and_assoc, exists_eq_left', at_zero, at_succ, List.cons_append, List.nil_append, List.replicate, List.set_cons_zero, List.set_cons_succ, T.cold, T.colds, T.imm, T.imms, T.frz, T.frzs, hole_atom, hole_tup, hole_lst, hole_ro, hole_dct, hole_hole, tru_bl, tru_int, tru_non, tru_lst, tru_tup, bool_bl, ty_list, ty_lst, eq_int, ne_int, eqA_int, eqA_tup, eqA_lst, neA_int, neA_tup, neA_lst, eqA_same, neA_same, wipeE, allT, T.bools, itA_tup, itA_lst, ↓aft_lcCons, ↓aft_lcNil, tI, tS, tBl, tN, lt_ii, le_ii, gt_ii, ge_ii, sub_ii, add_ii, item_tup, item_lst, item_ro, len_str, len_lst, len_ro, len_tup, int_i, int_b, isN_n, isN_i, isN_t, notN_n, notN_i, notN_t, itA_str, le_pp, max_tt, min_tt, atI, ixN, tabT, isi_int_int, isi_int_bool, isi_int_str, isi_int_NoneType, isi_int_list, isi_int_tuple, isi_int_ro, isi_bool_int, isi_bool_bool, isi_bool_str, isi_bool_NoneType, isi_bool_list, isi_bool_tuple, isi_bool_ro, isi_str_int, isi_str_bool, isi_str_str, isi_str_NoneType, isi_str_list, isi_str_tuple, isi_str_ro, isi_list_int, isi_list_bool, isi_list_str, isi_list_NoneType, isi_list_list, isi_list_tuple, isi_list_ro, isi_tuple_int, isi_tuple_bool, isi_tuple_str, isi_tuple_NoneType, isi_tuple_list, isi_tuple_tuple, isi_tuple_ro, recT, nm, ki, ii, im, frz_imm im, cold_imm im, hole_imm im, inT, memT, hasK_no fresh, keyT, putD, kIx_no fresh, next]
  omega
end G
namespace G
open PySem L2 VS
/-! ### layouts -/
structure Lay where
  views : List T
  recs : List Rec
  waits : List (Int × Int)
  beside : List (Int × Int)
def layT (b1 b2 b3 b4 : Bool) (L : Lay) : T := .tup [.lst b1 L.views, .lst b2 (L.recs.map recT), .lst b3 (L.waits.map prT), .lst b4 (L.beside.map prT)]
structure Valid (L : Lay) : Prop where
  vim : T.imms L.views = true
  vlen : L.views.length ≤ 12
  vok : ∀ i v, L.views[i]? = some v → ViewAt i v
  rlen : L.recs.length ≤ 8
  rok : ∀ r ∈ L.recs, RecOk L.views.length r
  nd : (L.recs.map (·.1)).Nodup
  wok : PairsOk L.waits L.recs.length false
  wlen : L.waits.length ≤ 12
  bok : PairsOk L.beside L.recs.length true
  blen : L.beside.length ≤ 28
variable {L : Lay}
theorem lay_frz {b1 b2 b3 b4 : Bool} (h : Valid L) : (layT b1 b2 b3 b4 L).frz = layT false false false false L := by
  simp [layT, T.frz, T.frzs, frzs_imms h.vim, frzs_imms (recs_imm h.rok), frzs_imms (prs_imm _)]
theorem lay_imm (h : Valid L) : (layT false false false false L).imm = true := by
  simp [layT, T.imm, T.imms, h.vim, recs_imm h.rok, prs_imm]
theorem lay_cold {b1 b2 b3 b4 : Bool} (h : Valid L) : (layT b1 b2 b3 b4 L).cold = true := by
  simp [layT, T.cold, T.colds, colds_imms h.vim, colds_imms (recs_imm h.rok), colds_imms (prs_imm _)]
theorem eq_wb : eqA (.atom (.str "waits")) (.atom (.str "beside")) = some (.atom (.bl false)) := by
  rfl
theorem eq_bb : eqA (.atom (.str "beside")) (.atom (.str "beside")) = some (.atom (.bl true)) := by
  rfl
theorem first_fault_ok {b1 b2 b3 b4 : Bool} (h : Valid L) : run_first_fault [layT b1 b2 b3 b4 L] = some tN := by
  have f := lay_frz (b1 := b1) (b2 := b2) (b3 := b3) (b4 := b4) h
  have c := lay_cold (b1 := b1) (b2 := b2) (b3 := b3) (b4 := b4) h
  have m := lay_imm h
  have v1 := h.vim
  have v2 := recs_imm h.rok
  have v3 := prs_imm L.waits
  have v4 := prs_imm L.beside
  have ho : (layT b1 b2 b3 b4 L).isHole = false := rfl
  have l1 := is_list_ok (b := false) (xs := L.views) (n := c_MOST_VIEWS) (by have := h.vlen; show _ ≤ (12 : Int); omega)
  have l2 := is_list_ok (b := false) (xs := L.recs.map recT) (n := c_MOST_RECOGNIZERS) (by have := h.rlen; show _ ≤ (8 : Int); simp; omega)
  have l3 := is_list_ok (b := false) (xs := L.waits.map prT) (n := c_MOST_WAITS) (by have := h.wlen; show _ ≤ (12 : Int); simp; omega)
  have l4 := is_list_ok (b := false) (xs := L.beside.map prT) (n := c_MOST_BESIDE) (by have := h.blen; show _ ≤ (28 : Int); simp; omega)
  have w1 := wrong_view_ok (b := false) h.vim h.vok
  have w2 := wrong_recognizer_ok (b := false) h.rok h.nd (by have := h.rlen; omega)
  have w3 := wrong_pair_ok (b := false) h.wok (by have := h.wlen; omega)
  have w4 := wrong_pair_ok (b := false) h.bok (by have := h.blen; omega)
  refine run0_of ?_
  unfold sem_first_fault
  simp [↓aft_seq, ↓aft_if, ↓aft_asg, ↓aft_ret, ↓aft_drp, ↓aft_bin, ↓aft_fz, ↓aft_mv, ↓aft_nh, ↓aft_pk, ↓aft_binL, ↓aft_binR, ↓aft_set, ↓aft_tru, ↓aft_boolM, ↓aft_cmpB, ↓aft_and, ↓aft_or, ↓aft_not, ↓aft_andV, ↓aft_orV, ↓aft_notV, ↓aft_ifV, ↓aft_neg, ↓aft_nil, ↓aft_cons, ↓aft_tup, ↓aft_lst, ↓aft_un1, ↓aft_un2, ↓aft_call, ↓aft_callIO, ↓aft_gtup, ↓aft_gnil, ↓aft_gcons, ↓aft_par2, ↓aft_par3, ↓aft_isi, ↓aft_chain, ↓aft_pure, ↓aft_bind, ↓aft_iterA, ↓aft_lc, ↓aft_for, ↓aft_forO, ↓aft_lcStep, ↓aft_some, ↓aft_yes, ↓aft_mrd, ↓aft_tab, ↓aft_match, ↓aft_mth, ↓aft_cutL, ↓aft_dnew, ↓aft_cutM, ↓aft_noP, ↓aft_someP, ↓aft_gstar, ↓aft_enum, ↓aft_rng, ↓aft_setD, ↓aft_loopC, ↓aft_loopN, ↓aft_setIx, ↓aft_steal, and_assoc, exists_eq_left', at_zero, at_succ, List.cons_append, List.nil_append, List.replicate, List.set_cons_zero, List.set_cons_succ, T.cold, T.colds, T.imm, T.imms, T.frz, T.frzs, hole_atom, hole_tup, hole_lst, hole_ro, hole_dct, hole_hole, tru_bl, tru_int, tru_non, tru_lst, tru_tup, bool_bl, ty_list, ty_lst, eq_int, ne_int, eqA_int, eqA_tup, eqA_lst, neA_int, neA_tup, neA_lst, eqA_same, neA_same, wipeE, allT, T.bools, itA_tup, itA_lst, ↓aft_lcCons, ↓aft_lcNil, tI, tS, tBl, tN, lt_ii, le_ii, gt_ii, ge_ii, sub_ii, add_ii, item_tup, item_lst, item_ro, len_str, len_lst, len_ro, len_tup, int_i, int_b, isN_n, isN_i, isN_t, notN_n, notN_i, notN_t, itA_str, le_pp, max_tt, min_tt, atI, ixN, tabT, isi_int_int, isi_int_bool, isi_int_str, isi_int_NoneType, isi_int_list, isi_int_tuple, isi_int_ro, isi_bool_int, isi_bool_bool, isi_bool_str, isi_bool_NoneType, isi_bool_list, isi_bool_tuple, isi_bool_ro, isi_str_int, isi_str_bool, isi_str_str, isi_str_NoneType, isi_str_list, isi_str_tuple, isi_str_ro, isi_list_int, isi_list_bool, isi_list_str, isi_list_NoneType, isi_list_list, isi_list_tuple, isi_list_ro, isi_tuple_int, isi_tuple_bool, isi_tuple_str, isi_tuple_NoneType, isi_tuple_list, isi_tuple_tuple, isi_tuple_ro, f, c, m, ho]
  simp [↓aft_seq, ↓aft_if, ↓aft_asg, ↓aft_ret, ↓aft_drp, ↓aft_bin, ↓aft_fz, ↓aft_mv, ↓aft_nh, ↓aft_pk, ↓aft_binL, ↓aft_binR, ↓aft_set, ↓aft_tru, ↓aft_boolM, ↓aft_cmpB, ↓aft_and, ↓aft_or, ↓aft_not, ↓aft_andV, ↓aft_orV, ↓aft_notV, ↓aft_ifV, ↓aft_neg, ↓aft_nil, ↓aft_cons, ↓aft_tup, ↓aft_lst, ↓aft_un1, ↓aft_un2, ↓aft_call, ↓aft_callIO, ↓aft_gtup, ↓aft_gnil, ↓aft_gcons, ↓aft_par2, ↓aft_par3, ↓aft_isi, ↓aft_chain, ↓aft_pure, ↓aft_bind, ↓aft_iterA, ↓aft_lc, ↓aft_for, ↓aft_forO, ↓aft_lcStep, ↓aft_some, ↓aft_yes, ↓aft_mrd, ↓aft_tab, ↓aft_match, ↓aft_mth, ↓aft_cutL, ↓aft_dnew, ↓aft_cutM, ↓aft_noP, ↓aft_someP, ↓aft_gstar, ↓aft_enum, ↓aft_rng, ↓aft_setD, ↓aft_loopC, ↓aft_loopN, ↓aft_setIx, ↓aft_steal, and_assoc, exists_eq_left', at_zero, at_succ, List.cons_append, List.nil_append, List.replicate, List.set_cons_zero, List.set_cons_succ, T.cold, T.colds, T.imm, T.imms, T.frz, T.frzs, hole_atom, hole_tup, hole_lst, hole_ro, hole_dct, hole_hole, tru_bl, tru_int, tru_non, tru_lst, tru_tup, bool_bl, ty_list, ty_lst, eq_int, ne_int, eqA_int, eqA_tup, eqA_lst, neA_int, neA_tup, neA_lst, eqA_same, neA_same, wipeE, allT, T.bools, itA_tup, itA_lst, ↓aft_lcCons, ↓aft_lcNil, tI, tS, tBl, tN, lt_ii, le_ii, gt_ii, ge_ii, sub_ii, add_ii, item_tup, item_lst, item_ro, len_str, len_lst, len_ro, len_tup, int_i, int_b, isN_n, isN_i, isN_t, notN_n, notN_i, notN_t, itA_str, le_pp, max_tt, min_tt, atI, ixN, tabT, isi_int_int, isi_int_bool, isi_int_str, isi_int_NoneType, isi_int_list, isi_int_tuple, isi_int_ro, isi_bool_int, isi_bool_bool, isi_bool_str, isi_bool_NoneType, isi_bool_list, isi_bool_tuple, isi_bool_ro, isi_str_int, isi_str_bool, isi_str_str, isi_str_NoneType, isi_str_list, isi_str_tuple, isi_str_ro, isi_list_int, isi_list_bool, isi_list_str, isi_list_NoneType, isi_list_list, isi_list_tuple, isi_list_ro, isi_tuple_int, isi_tuple_bool, isi_tuple_str, isi_tuple_NoneType, isi_tuple_list, isi_tuple_tuple, isi_tuple_ro, layT, v1, v2, v3, v4, colds_imms v1, colds_imms v2, colds_imms v3, colds_imms v4, frzs_imms v1, frzs_imms v2, frzs_imms v3, frzs_imms v4, l1, l2, l3, l4, w1, w2, w3, w4, eq_wb, eq_bb]
theorem require_ok {b1 b2 b3 b4 : Bool} (h : Valid L) : run_require_layout [layT b1 b2 b3 b4 L] = some tN := by
  have f := lay_frz (b1 := b1) (b2 := b2) (b3 := b3) (b4 := b4) h
  have c := lay_cold (b1 := b1) (b2 := b2) (b3 := b3) (b4 := b4) h
  have m := lay_imm h
  have ho : (layT b1 b2 b3 b4 L).isHole = false := rfl
  have i1 : isiT "tuple" (layT b1 b2 b3 b4 L) = some (.atom (.bl true)) := rfl
  have i2 : lenT (layT b1 b2 b3 b4 L) = some (.atom (.int 4)) := rfl
  have ff := first_fault_ok (b1 := false) (b2 := false) (b3 := false) (b4 := false) h
  refine run0_nx ?_
  unfold sem_require_layout
  simp [↓aft_seq, ↓aft_if, ↓aft_asg, ↓aft_ret, ↓aft_drp, ↓aft_bin, ↓aft_fz, ↓aft_mv, ↓aft_nh, ↓aft_pk, ↓aft_binL, ↓aft_binR, ↓aft_set, ↓aft_tru, ↓aft_boolM, ↓aft_cmpB, ↓aft_and, ↓aft_or, ↓aft_not, ↓aft_andV, ↓aft_orV, ↓aft_notV, ↓aft_ifV, ↓aft_neg, ↓aft_nil, ↓aft_cons, ↓aft_tup, ↓aft_lst, ↓aft_un1, ↓aft_un2, ↓aft_call, ↓aft_callIO, ↓aft_gtup, ↓aft_gnil, ↓aft_gcons, ↓aft_par2, ↓aft_par3, ↓aft_isi, ↓aft_chain, ↓aft_pure, ↓aft_bind, ↓aft_iterA, ↓aft_lc, ↓aft_for, ↓aft_forO, ↓aft_lcStep, ↓aft_some, ↓aft_yes, ↓aft_mrd, ↓aft_tab, ↓aft_match, ↓aft_mth, ↓aft_cutL, ↓aft_dnew, ↓aft_cutM, ↓aft_noP, ↓aft_someP, ↓aft_gstar, ↓aft_enum, ↓aft_rng, ↓aft_setD, ↓aft_loopC, ↓aft_loopN, ↓aft_setIx, ↓aft_steal, and_assoc, exists_eq_left', at_zero, at_succ, List.cons_append, List.nil_append, List.replicate, List.set_cons_zero, List.set_cons_succ, T.cold, T.colds, T.imm, T.imms, T.frz, T.frzs, hole_atom, hole_tup, hole_lst, hole_ro, hole_dct, hole_hole, tru_bl, tru_int, tru_non, tru_lst, tru_tup, bool_bl, ty_list, ty_lst, eq_int, ne_int, eqA_int, eqA_tup, eqA_lst, neA_int, neA_tup, neA_lst, eqA_same, neA_same, wipeE, allT, T.bools, itA_tup, itA_lst, ↓aft_lcCons, ↓aft_lcNil, tI, tS, tBl, tN, lt_ii, le_ii, gt_ii, ge_ii, sub_ii, add_ii, item_tup, item_lst, item_ro, len_str, len_lst, len_ro, len_tup, int_i, int_b, isN_n, isN_i, isN_t, notN_n, notN_i, notN_t, itA_str, le_pp, max_tt, min_tt, atI, ixN, tabT, isi_int_int, isi_int_bool, isi_int_str, isi_int_NoneType, isi_int_list, isi_int_tuple, isi_int_ro, isi_bool_int, isi_bool_bool, isi_bool_str, isi_bool_NoneType, isi_bool_list, isi_bool_tuple, isi_bool_ro, isi_str_int, isi_str_bool, isi_str_str, isi_str_NoneType, isi_str_list, isi_str_tuple, isi_str_ro, isi_list_int, isi_list_bool, isi_list_str, isi_list_NoneType, isi_list_list, isi_list_tuple, isi_list_ro, isi_tuple_int, isi_tuple_bool, isi_tuple_str, isi_tuple_NoneType, isi_tuple_list, isi_tuple_tuple, isi_tuple_ro, f, c, m, ho, i1, i2, ff]
theorem is_layout_ok {b1 b2 b3 b4 : Bool} (h : Valid L) : run_is_layout [layT b1 b2 b3 b4 L] = some (tBl true) := by
  have f := lay_frz (b1 := b1) (b2 := b2) (b3 := b3) (b4 := b4) h
  have c := lay_cold (b1 := b1) (b2 := b2) (b3 := b3) (b4 := b4) h
  have m := lay_imm h
  have ho : (layT b1 b2 b3 b4 L).isHole = false := rfl
  have i1 : isiT "tuple" (layT b1 b2 b3 b4 L) = some (.atom (.bl true)) := rfl
  have i2 : lenT (layT b1 b2 b3 b4 L) = some (.atom (.int 4)) := rfl
  have ff := first_fault_ok (b1 := false) (b2 := false) (b3 := false) (b4 := false) h
  refine run0_of ?_
  unfold sem_is_layout
  simp [↓aft_seq, ↓aft_if, ↓aft_asg, ↓aft_ret, ↓aft_drp, ↓aft_bin, ↓aft_fz, ↓aft_mv, ↓aft_nh, ↓aft_pk, ↓aft_binL, ↓aft_binR, ↓aft_set, ↓aft_tru, ↓aft_boolM, ↓aft_cmpB, ↓aft_and, ↓aft_or, ↓aft_not, ↓aft_andV, ↓aft_orV, ↓aft_notV, ↓aft_ifV, ↓aft_neg, ↓aft_nil, ↓aft_cons, ↓aft_tup, ↓aft_lst, ↓aft_un1, ↓aft_un2, ↓aft_call, ↓aft_callIO, ↓aft_gtup, ↓aft_gnil, ↓aft_gcons, ↓aft_par2, ↓aft_par3, ↓aft_isi, ↓aft_chain, ↓aft_pure, ↓aft_bind, ↓aft_iterA, ↓aft_lc, ↓aft_for, ↓aft_forO, ↓aft_lcStep, ↓aft_some, ↓aft_yes, ↓aft_mrd, ↓aft_tab, ↓aft_match, ↓aft_mth, ↓aft_cutL, ↓aft_dnew, ↓aft_cutM, ↓aft_noP, ↓aft_someP, ↓aft_gstar, ↓aft_enum, ↓aft_rng, ↓aft_setD, ↓aft_loopC, ↓aft_loopN, ↓aft_setIx, ↓aft_steal, and_assoc, exists_eq_left', at_zero, at_succ, List.cons_append, List.nil_append, List.replicate, List.set_cons_zero, List.set_cons_succ, T.cold, T.colds, T.imm, T.imms, T.frz, T.frzs, hole_atom, hole_tup, hole_lst, hole_ro, hole_dct, hole_hole, tru_bl, tru_int, tru_non, tru_lst, tru_tup, bool_bl, ty_list, ty_lst, eq_int, ne_int, eqA_int, eqA_tup, eqA_lst, neA_int, neA_tup, neA_lst, eqA_same, neA_same, wipeE, allT, T.bools, itA_tup, itA_lst, ↓aft_lcCons, ↓aft_lcNil, tI, tS, tBl, tN, lt_ii, le_ii, gt_ii, ge_ii, sub_ii, add_ii, item_tup, item_lst, item_ro, len_str, len_lst, len_ro, len_tup, int_i, int_b, isN_n, isN_i, isN_t, notN_n, notN_i, notN_t, itA_str, le_pp, max_tt, min_tt, atI, ixN, tabT, isi_int_int, isi_int_bool, isi_int_str, isi_int_NoneType, isi_int_list, isi_int_tuple, isi_int_ro, isi_bool_int, isi_bool_bool, isi_bool_str, isi_bool_NoneType, isi_bool_list, isi_bool_tuple, isi_bool_ro, isi_str_int, isi_str_bool, isi_str_str, isi_str_NoneType, isi_str_list, isi_str_tuple, isi_str_ro, isi_list_int, isi_list_bool, isi_list_str, isi_list_NoneType, isi_list_list, isi_list_tuple, isi_list_ro, isi_tuple_int, isi_tuple_bool, isi_tuple_str, isi_tuple_NoneType, isi_tuple_list, isi_tuple_tuple, isi_tuple_ro, f, c, m, ho, i1, i2, ff]
end G
namespace G
open PySem L2 VS
/-! ### orders -/
def rngI (n : Nat) : List Int := (List.range n).map fun (i : Nat) => ((i : Nat) : Int)
def Ord (o : List Int) (n : Nat) : Prop := o.Perm (rngI n)
def ix (o : List Int) (a : Int) : Int := (o.idxOf a : Nat)
def ix2 (o : List Int) (p : Int × Int) : Int × Int := (ix o p.1, ix o p.2)
def srt (p : Int × Int) : Int × Int := (min p.1 p.2, max p.1 p.2)
def recD (rs : List Rec) (n : Int) : Rec := (rs[n.toNat]?).getD ("", 0, .hole)
def reord (L : Lay) (o : List Int) : Lay := ⟨L.views, o.map (recD L.recs), psort (L.waits.map (ix2 o)), psort (L.beside.map fun p => srt (ix2 o p))⟩
theorem mem_rng {n : Nat} {a : Int} : a ∈ rngI n ↔ 0 ≤ a ∧ a < n := by
  unfold rngI
  rw [List.mem_map]
  constructor
  · rintro ⟨i, hi, rfl⟩
    rw [List.mem_range] at hi
    omega
  · rintro ⟨h1, h2⟩
    exact ⟨a.toNat, by rw [List.mem_range]; omega, by omega⟩
theorem rng_nodup {n : Nat} : (rngI n).Nodup := by
  unfold rngI
  rw [List.nodup_iff_pairwise_ne, List.pairwise_map]
  exact List.nodup_range.imp fun h e => h (by omega)
theorem rng_len {n : Nat} : (rngI n).length = n := by simp [rngI]
theorem rng_at {n i : Nat} (h : i < n) : (rngI n)[i]? = some (i : Int) := by simp [rngI, h]
variable {o o2 : List Int} {n : Nat}
theorem Ord.mem (h : Ord o n) {a : Int} : a ∈ o ↔ 0 ≤ a ∧ a < n := (h.mem_iff).trans mem_rng
theorem Ord.nodup (h : Ord o n) : o.Nodup := h.nodup_iff.mpr rng_nodup
theorem Ord.len (h : Ord o n) : o.length = n := h.length_eq.trans rng_len
theorem ix_lt (h : Ord o n) {a : Int} (h1 : 0 ≤ a) (h2 : a < n) : 0 ≤ ix o a ∧ ix o a < n := by
  have := List.idxOf_lt_length_of_mem (h.mem.mpr ⟨h1, h2⟩)
  rw [h.len] at this
  unfold ix
  omega
theorem ix_inj (h : Ord o n) {a b : Int} (h1 : 0 ≤ a ∧ a < n) (h2 : 0 ≤ b ∧ b < n) (e : ix o a = ix o b) : a = b := by
  have e' : o.idxOf a = o.idxOf b := by unfold ix at e; omega
  have l1 := List.idxOf_lt_length_of_mem (h.mem.mpr h1)
  have l2 := List.idxOf_lt_length_of_mem (h.mem.mpr h2)
  have g1 := List.getElem_idxOf l1
  have g2 := List.getElem_idxOf l2
  rw [← g1, ← g2]
  congr 1
theorem ix_at (h : Ord o n) {a : Int} (h1 : 0 ≤ a ∧ a < n) : o[o.idxOf a]? = some a := by
  have l1 := List.idxOf_lt_length_of_mem (h.mem.mpr h1)
  rw [List.getElem?_eq_getElem l1, List.getElem_idxOf l1]
theorem ord_rng : Ord (rngI n) n := List.Perm.refl _
theorem ix_rng {a : Int} (h1 : 0 ≤ a ∧ a < n) : ix (rngI n) a = a := by
  have e := ix_at (o := rngI n) ord_rng h1
  have l1 := List.idxOf_lt_length_of_mem ((ord_rng (n := n)).mem.mpr h1)
  rw [rng_len] at l1
  rw [rng_at l1] at e
  unfold ix
  exact Option.some.inj e
/-- one order behind the other -/
def atD (o : List Int) (k : Int) : Int := (o[k.toNat]?).getD 0
def comp (o o2 : List Int) : List Int := o2.map (atD o)
theorem atD_mem (h : Ord o n) {k : Int} (h1 : 0 ≤ k ∧ k < n) : 0 ≤ atD o k ∧ atD o k < n ∧ ix o (atD o k) = k := by
  have hl : k.toNat < o.length := by rw [h.len]; omega
  have e : atD o k = o[k.toNat] := by simp [atD, hl]
  have hm := h.mem.mp (List.getElem_mem hl)
  rw [e]
  refine ⟨hm.1, hm.2, ?_⟩
  unfold ix
  rw [List.Nodup.idxOf_getElem h.nodup]
  omega
theorem atD_ix (h : Ord o n) {a : Int} (h1 : 0 ≤ a ∧ a < n) : atD o (ix o a) = a := by
  have := ix_at h h1
  simp [atD, ix, this]
theorem map_atD (h : o.length = n) : (rngI n).map (atD o) = o := by
  apply List.ext_getElem
  · rw [List.length_map, rng_len, h]
  · intro i h1 h2
    have : (rngI n)[i]'(by simpa using h1) = (i : Int) := by
      have := rng_at (n := n) (i := i) (by omega)
      exact (List.getElem?_eq_some_iff.mp this).2
    rw [List.getElem_map, this]
    simp [atD, h2]
theorem comp_ord (h : Ord o n) (h2 : Ord o2 n) : Ord (comp o o2) n := by
  unfold Ord comp
  refine (h2.map (atD o)).trans ?_
  rw [map_atD h.len]
  exact h
theorem ix_comp (h : Ord o n) (h2 : Ord o2 n) {a : Int} (h1 : 0 ≤ a ∧ a < n) : ix (comp o o2) a = ix o2 (ix o a) := by
  have i1 := ix_lt h h1.1 h1.2
  have i2 := ix_lt h2 i1.1 i1.2
  have e1 := ix_at (comp_ord h h2) h1
  have l2 := List.idxOf_lt_length_of_mem (h2.mem.mpr i1)
  -- the place of a behind both
  have e2 : (comp o o2)[o2.idxOf (ix o a)]? = some a := by
    unfold comp
    rw [List.getElem?_map, ix_at h2 i1]
    simp [atD_ix h h1]
  have l3 := List.idxOf_lt_length_of_mem ((comp_ord h h2).mem.mpr h1)
  have nd := (comp_ord h h2).nodup
  unfold ix
  congr 1
  have l4 : o2.idxOf (ix o a) < (comp o o2).length := (List.getElem?_eq_some_iff.mp e2).1
  have g1 := (List.getElem?_eq_some_iff.mp e1).2
  have g2 := (List.getElem?_eq_some_iff.mp e2).2
  exact (List.getElem_inj nd).mp (g1.trans g2.symm)
/-- the order turned round -/
def back (o : List Int) (n : Nat) : List Int := (rngI n).map (ix o)
theorem map_ix (h : Ord o n) : o.map (ix o) = rngI n := by
  apply List.ext_getElem
  · rw [List.length_map, rng_len, h.len]
  · intro i h1 h2
    have : (rngI n)[i] = (i : Int) := by
      have := rng_at (n := n) (i := i) (by simpa [rng_len] using h2)
      exact (List.getElem?_eq_some_iff.mp this).2
    rw [List.getElem_map, this]
    unfold ix
    rw [List.Nodup.idxOf_getElem h.nodup]
theorem back_ord (h : Ord o n) : Ord (back o n) n := by
  unfold Ord back
  refine (h.symm.map (ix o)).trans ?_
  rw [map_ix h]
theorem comp_back (h : Ord o n) : comp o (back o n) = rngI n := by
  unfold comp back
  rw [List.map_map]
  apply (List.map_congr_left (g := id) ?_).trans (List.map_id _)
  intro a ha
  exact atD_ix h (mem_rng.mp ha)
/-! ### layouts in another order -/
variable {L : Lay}
theorem recD_at {rs : List Rec} {k : Nat} (h : k < rs.length) : recD rs (k : Int) = rs[k] := by simp [recD, h]
theorem recs_rng (rs : List Rec) : (rngI rs.length).map (recD rs) = rs := by
  apply List.ext_getElem
  · rw [List.length_map, rng_len]
  · intro i h1 h2
    have : (rngI rs.length)[i]'(by simpa using h1) = (i : Int) := (List.getElem?_eq_some_iff.mp (rng_at (n := rs.length) (i := i) h2)).2
    rw [List.getElem_map, this, recD_at h2]
theorem recs_perm (h : Ord o L.recs.length) : (o.map (recD L.recs)).Perm L.recs := by
  have := h.map (recD L.recs)
  rwa [recs_rng] at this
theorem recD_comp (h : Ord o L.recs.length) {k : Int} (h1 : 0 ≤ k ∧ k < L.recs.length) : recD (o.map (recD L.recs)) k = recD L.recs (atD o k) := by
  have hl : k.toNat < o.length := by rw [h.len]; omega
  simp [recD, atD, hl]
theorem srt_cases (p : Int × Int) : (srt p = p ∧ p.1 ≤ p.2) ∨ (srt p = (p.2, p.1) ∧ p.2 ≤ p.1) := by
  unfold srt
  by_cases h : p.1 ≤ p.2
  · left; exact ⟨Prod.ext (by simp; omega) (by simp; omega), h⟩
  · right; exact ⟨Prod.ext (by simp; omega) (by simp; omega), by omega⟩
theorem srt_le {p : Int × Int} (h : p.1 ≤ p.2) : srt p = p := by
  rcases srt_cases p with ⟨e, _⟩ | ⟨e, h2⟩
  · exact e
  · rw [e]; exact Prod.ext (by simp; omega) (by simp; omega)
theorem srt_f (f : Int → Int) (p : Int × Int) : srt (f (srt p).1, f (srt p).2) = srt (f p.1, f p.2) := by
  rcases srt_cases p with ⟨e, _⟩ | ⟨e, _⟩
  · rw [e]
  · rw [e]
    unfold srt
    exact Prod.ext (by simp; omega) (by simp; omega)
theorem sorted_le {ps : List (Int × Int)} (h : ps.Pairwise fun p q => ple q p = false) : ps.Pairwise fun p q => ple p q = true := h.imp fun {p q} e => by
  have := ple_total p q
  rw [e] at this
  simpa using this
theorem reord_rng (h : Valid L) : reord L (rngI L.recs.length) = L := by
  obtain ⟨v, rs, ws, bs⟩ := L
  unfold reord
  have e1 := recs_rng rs
  have e2 : ws.map (ix2 (rngI rs.length)) = ws := by
    apply (List.map_congr_left (g := id) ?_).trans (List.map_id _)
    intro p hp
    obtain ⟨a, b, c, d, _⟩ := h.wok.1 p hp
    exact Prod.ext (ix_rng ⟨a, b⟩) (ix_rng ⟨c, d⟩)
  have e3 : (bs.map fun p => srt (ix2 (rngI rs.length) p)) = bs := by
    apply (List.map_congr_left (g := id) ?_).trans (List.map_id _)
    intro p hp
    obtain ⟨a, b, c, d, m⟩ := h.bok.1 p hp
    have : ix2 (rngI rs.length) p = p := Prod.ext (ix_rng ⟨a, b⟩) (ix_rng ⟨c, d⟩)
    show srt (ix2 (rngI rs.length) p) = p
    rw [this]
    rcases m with m | ⟨z, _⟩
    · exact srt_le (by omega)
    · cases z
  dsimp only at e1 e2 e3 ⊢
  rw [e1, e2, e3, psort_id (sorted_le h.wok.2), psort_id (sorted_le h.bok.2)]
theorem reord_comp (h : Valid L) (ho : Ord o L.recs.length) (ho2 : Ord o2 L.recs.length) : reord (reord L o) o2 = reord L (comp o o2) := by
  unfold reord
  dsimp only
  congr 1
  · unfold comp
    rw [List.map_map]
    exact List.map_congr_left fun k hk => recD_comp ho (ho2.mem.mp hk)
  · apply psort_of
    refine ((psort_perm _).map _).trans ?_
    rw [List.map_map]
    refine List.Perm.of_eq (List.map_congr_left fun p hp => ?_)
    obtain ⟨a, b, c, d, _⟩ := h.wok.1 p hp
    exact Prod.ext (ix_comp ho ho2 ⟨a, b⟩).symm (ix_comp ho ho2 ⟨c, d⟩).symm
  · apply psort_of
    refine ((psort_perm _).map _).trans ?_
    rw [List.map_map]
    refine List.Perm.of_eq (List.map_congr_left fun p hp => ?_)
    obtain ⟨a, b, c, d, _⟩ := h.bok.1 p hp
    show srt (ix2 o2 (srt (ix2 o p))) = srt (ix2 (comp o o2) p)
    have e1 := srt_f (ix o2) (ix2 o p)
    have e2 : ix2 (comp o o2) p = (ix o2 (ix2 o p).1, ix o2 (ix2 o p).2) := Prod.ext (ix_comp ho ho2 ⟨a, b⟩) (ix_comp ho ho2 ⟨c, d⟩)
    rw [e2]
    exact e1
theorem pairs_inj {ps : List (Int × Int)} {f : Int × Int → Int × Int} (h : ps.Pairwise fun p q => ple q p = false) (hf : ∀ p ∈ ps, ∀ q ∈ ps, f p = f q → p = q) : (psort (ps.map f)).Pairwise fun p q => ple q p = false := by
  have s := psort_sorted (ps.map f)
  have nd : (psort (ps.map f)).Nodup := by
    rw [(psort_perm _).nodup_iff, List.nodup_iff_pairwise_ne, List.pairwise_map]
    refine List.Pairwise.imp_of_mem (fun {p q} hp hq e z => ?_) h
    have := hf p hp q hq z
    subst this
    have t := ple_total p p
    rw [e] at t
    simp at t
  refine (s.and (List.nodup_iff_pairwise_ne.mp nd)).imp fun {p q} ⟨h1, h2⟩ => ?_
  cases e : ple q p with
  | false => rfl
  | true => exact absurd (ple_anti p q h1 e) h2
theorem reord_valid (h : Valid L) (ho : Ord o L.recs.length) : Valid (reord L o) := by
  have rl : (o.map (recD L.recs)).length = L.recs.length := by rw [List.length_map, ho.len]
  have pm := recs_perm (L := L) ho
  have inr : ∀ p : Int × Int, 0 ≤ p.1 ∧ p.1 < L.recs.length ∧ 0 ≤ p.2 ∧ p.2 < L.recs.length → 0 ≤ ix o p.1 ∧ ix o p.1 < L.recs.length ∧ 0 ≤ ix o p.2 ∧ ix o p.2 < L.recs.length := fun p ⟨a, b, c, d⟩ =>
    ⟨(ix_lt ho a b).1, (ix_lt ho a b).2, (ix_lt ho c d).1, (ix_lt ho c d).2⟩
  refine ⟨h.vim, h.vlen, h.vok, by show (o.map _).length ≤ 8; rw [rl]; exact h.rlen, fun r hr => h.rok r (pm.mem_iff.mp hr), ?_, ⟨fun p hp => ?_, ?_⟩, ?_, ⟨fun p hp => ?_, ?_⟩, ?_⟩
  · exact ((pm.map (·.1)).nodup_iff).mpr h.nd
  · obtain ⟨q, hq, rfl⟩ := List.mem_map.mp ((psort_perm _).mem_iff.mp hp)
    obtain ⟨a, b, c, d, m⟩ := h.wok.1 q hq
    obtain ⟨a2, b2, c2, d2⟩ := inr q ⟨a, b, c, d⟩
    show 0 ≤ ix o q.1 ∧ ix o q.1 < ((o.map (recD L.recs)).length : Int) ∧ 0 ≤ ix o q.2 ∧ ix o q.2 < ((o.map (recD L.recs)).length : Int) ∧ mpr (ix o q.1) (ix o q.2) false
    rw [rl]
    refine ⟨a2, b2, c2, d2, ?_⟩
    have ne : q.1 ≠ q.2 := by rcases m with m | ⟨_, m⟩ <;> omega
    have ne2 : ix o q.1 ≠ ix o q.2 := fun e => ne (ix_inj ho ⟨a, b⟩ ⟨c, d⟩ e)
    unfold mpr
    by_cases l : ix o q.1 < ix o q.2
    · exact .inl l
    · exact .inr ⟨rfl, by omega⟩
  · refine pairs_inj h.wok.2 fun p hp q hq e => ?_
    obtain ⟨a, b, c, d, _⟩ := h.wok.1 p hp
    obtain ⟨a', b', c', d', _⟩ := h.wok.1 q hq
    exact Prod.ext (ix_inj ho ⟨a, b⟩ ⟨a', b'⟩ (congrArg (·.1) e)) (ix_inj ho ⟨c, d⟩ ⟨c', d'⟩ (congrArg (·.2) e))
  · show (psort _).length ≤ 12
    rw [(psort_perm _).length_eq, List.length_map]
    exact h.wlen
  · obtain ⟨q, hq, rfl⟩ := List.mem_map.mp ((psort_perm _).mem_iff.mp hp)
    obtain ⟨a, b, c, d, m⟩ := h.bok.1 q hq
    obtain ⟨a2, b2, c2, d2⟩ := inr q ⟨a, b, c, d⟩
    have ne : q.1 ≠ q.2 := by rcases m with m | ⟨_, m⟩ <;> omega
    have ne2 : ix o q.1 ≠ ix o q.2 := fun e => ne (ix_inj ho ⟨a, b⟩ ⟨c, d⟩ e)
    show 0 ≤ (srt (ix2 o q)).1 ∧ (srt (ix2 o q)).1 < ((o.map (recD L.recs)).length : Int) ∧ 0 ≤ (srt (ix2 o q)).2 ∧ (srt (ix2 o q)).2 < ((o.map (recD L.recs)).length : Int) ∧ mpr (srt (ix2 o q)).1 (srt (ix2 o q)).2 true
    rw [rl]
    rcases srt_cases (ix2 o q) with ⟨e, l⟩ | ⟨e, l⟩
    · rw [e]
      exact ⟨a2, b2, c2, d2, .inl (by have : ix o q.1 ≤ ix o q.2 := l; show ix o q.1 < ix o q.2; omega)⟩
    · rw [e]
      exact ⟨c2, d2, a2, b2, .inl (by have : ix o q.2 ≤ ix o q.1 := l; show ix o q.2 < ix o q.1; omega)⟩
  · refine pairs_inj h.bok.2 fun p hp q hq e => ?_
    obtain ⟨a, b, c, d, m⟩ := h.bok.1 p hp
    obtain ⟨a', b', c', d', m'⟩ := h.bok.1 q hq
    have m1 : p.1 < p.2 := by rcases m with m | ⟨z, _⟩ <;> first | exact m | cases z
    have m2 : q.1 < q.2 := by rcases m' with m | ⟨z, _⟩ <;> first | exact m | cases z
    have i1 : ∀ {x y : Int}, 0 ≤ x ∧ x < L.recs.length → 0 ≤ y ∧ y < L.recs.length → ix o x = ix o y → x = y := fun h1 h2 e => ix_inj ho h1 h2 e
    rcases srt_cases (ix2 o p) with ⟨e1, _⟩ | ⟨e1, _⟩ <;> rcases srt_cases (ix2 o q) with ⟨e2, _⟩ | ⟨e2, _⟩ <;> (rw [e1, e2] at e)
    · exact Prod.ext (i1 ⟨a, b⟩ ⟨a', b'⟩ (congrArg (·.1) e)) (i1 ⟨c, d⟩ ⟨c', d'⟩ (congrArg (·.2) e))
    · have x1 := i1 ⟨a, b⟩ ⟨c', d'⟩ (congrArg (·.1) e)
      have x2 := i1 ⟨c, d⟩ ⟨a', b'⟩ (congrArg (·.2) e)
      omega
    · have x1 := i1 ⟨c, d⟩ ⟨a', b'⟩ (congrArg (·.1) e)
      have x2 := i1 ⟨a, b⟩ ⟨c', d'⟩ (congrArg (·.2) e)
      omega
    · exact Prod.ext (i1 ⟨a, b⟩ ⟨a', b'⟩ (congrArg (·.2) e)) (i1 ⟨c, d⟩ ⟨c', d'⟩ (congrArg (·.1) e))
  · show (psort _).length ≤ 28
    rw [(psort_perm _).length_eq, List.length_map]
    exact h.blen
end G
namespace G
open PySem L2 VS
variable {L : Lay} {o : List Int} {n : Nat}
/-! ### what the two ways compute -/
theorem ints_imm (ns : List Int) : T.imms (ns.map tI) = true := imms_map fun _ _ => rfl
theorem range_tI : rangeL 0 (n : Int) = (rngI n).map tI := by
  rw [range_map]
  unfold rngI
  rw [List.map_map]
  rfl
theorem nic_ints {b : Bool} {ns : List Int} (h : ∀ x ∈ ns, 0 ≤ x ∧ x ≤ 1000) : Nic (.lst b (ns.map tI)) 1 (ns.length * 1) := by
  have := nic_lst (b := b) (ts := ns.map tI) (dp := 0) (bk := 0) fun t ht => by
    obtain ⟨x, hx, rfl⟩ := List.mem_map.mp ht
    have := h x hx
    exact nic_int (by omega) (by omega)
  simpa using this
theorem isort_ord (h : Ord o n) : isort o = rngI n := isort_unique h (by
  unfold rngI
  rw [List.pairwise_map]
  exact List.pairwise_lt_range.imp fun h => by omega)
theorem bools_true {xs : List T} : T.bools (xs.map fun _ => tBl true) = some (xs.map fun _ => true) := by
  have := bools_const (xs := xs.map fun _ => tBl true) (c := true) (by simp)
  rw [this, List.map_map]; rfl
theorem is_order_ok {b : Bool} (h : Ord o n) (hn : n ≤ 1000) : run_is_order [.lst b (o.map tI), tI n] = some (tBl true) := by
  have im := ints_imm o
  have hl := h.len
  have so := sort_ints (b := false) o (by omega)
  rw [isort_ord h] at so
  have n1 := nic_ints (b := true) (ns := rngI n) fun x hx => by have := mem_rng.mp hx; omega
  have eq := (eq_same (n1.mono (by omega) (Nat.le_refl _)) (n1.mono (by omega) (Nat.le_refl _)) rfl).1
  refine run0_of ?_
  unfold sem_is_order
  simp [↓aft_seq, ↓aft_if, ↓aft_asg, ↓aft_ret, ↓aft_drp, ↓aft_bin, ↓aft_fz, ↓aft_mv, ↓aft_nh, ↓aft_pk, ↓aft_binL, ↓aft_binR, ↓aft_set, ↓aft_tru, ↓aft_boolM, ↓aft_cmpB, ↓aft_and, ↓aft_or, ↓aft_not, ↓aft_andV, ↓aft_orV, ↓aft_notV, ↓aft_ifV, ↓aft_neg, ↓aft_nil, ↓aft_cons, ↓aft_tup, ↓aft_lst, ↓aft_un1, ↓aft_un2, ↓aft_call, ↓aft_callIO, ↓aft_gtup, ↓aft_gnil, ↓aft_gcons, ↓aft_par2, ↓aft_par3, ↓aft_isi, ↓aft_chain, ↓aft_pure, ↓aft_bind, ↓aft_iterA, ↓aft_lc, ↓aft_for, ↓aft_forO, ↓aft_lcStep, ↓aft_some, ↓aft_yes, ↓aft_mrd, ↓aft_tab, ↓aft_match, ↓aft_mth, ↓aft_cutL, ↓aft_dnew, ↓aft_cutM, ↓aft_noP, ↓aft_someP, ↓aft_gstar, ↓aft_enum, ↓aft_rng, ↓aft_setD, ↓aft_loopC, ↓aft_loopN, ↓aft_setIx, ↓aft_steal, and_assoc, exists_eq_left', at_zero, at_succ, List.cons_append, List.nil_append, List.replicate, List.set_cons_zero, List.set_cons_succ, T.cold, T.colds, T.imm, T.imms, T.frz, T.frzs, hole_atom, hole_tup, hole_lst, hole_ro, hole_dct, hole_hole, tru_bl, tru_int, tru_non, tru_lst, tru_tup, bool_bl, ty_list, ty_lst, eq_int, ne_int, eqA_int, eqA_tup, eqA_lst, neA_int, neA_tup, neA_lst, eqA_same, neA_same, wipeE, allT, T.bools, itA_tup, itA_lst, ↓aft_lcCons, ↓aft_lcNil, tI, tS, tBl, tN, lt_ii, le_ii, gt_ii, ge_ii, sub_ii, add_ii, item_tup, item_lst, item_ro, len_str, len_lst, len_ro, len_tup, int_i, int_b, isN_n, isN_i, isN_t, notN_n, notN_i, notN_t, itA_str, le_pp, max_tt, min_tt, atI, ixN, tabT, isi_int_int, isi_int_bool, isi_int_str, isi_int_NoneType, isi_int_list, isi_int_tuple, isi_int_ro, isi_bool_int, isi_bool_bool, isi_bool_str, isi_bool_NoneType, isi_bool_list, isi_bool_tuple, isi_bool_ro, isi_str_int, isi_str_bool, isi_str_str, isi_str_NoneType, isi_str_list, isi_str_tuple, isi_str_ro, isi_list_int, isi_list_bool, isi_list_str, isi_list_NoneType, isi_list_list, isi_list_tuple, isi_list_ro, isi_tuple_int, isi_tuple_bool, isi_tuple_str, isi_tuple_NoneType, isi_tuple_list, isi_tuple_tuple, isi_tuple_ro, im, colds_imms im, frzs_imms im]
  refine (lc_map (g := fun _ => [tBl true]) (by simp; omega) fun t ht => ?_).mono fun acc ρ ⟨e, e2⟩ => ?_
  · obtain ⟨x, hx, rfl⟩ := List.mem_map.mp ht
    have := h.mem.mp hx
    simp [↓aft_seq, ↓aft_if, ↓aft_asg, ↓aft_ret, ↓aft_drp, ↓aft_bin, ↓aft_fz, ↓aft_mv, ↓aft_nh, ↓aft_pk, ↓aft_binL, ↓aft_binR, ↓aft_set, ↓aft_tru, ↓aft_boolM, ↓aft_cmpB, ↓aft_and, ↓aft_or, ↓aft_not, ↓aft_andV, ↓aft_orV, ↓aft_notV, ↓aft_ifV, ↓aft_neg, ↓aft_nil, ↓aft_cons, ↓aft_tup, ↓aft_lst, ↓aft_un1, ↓aft_un2, ↓aft_call, ↓aft_callIO, ↓aft_gtup, ↓aft_gnil, ↓aft_gcons, ↓aft_par2, ↓aft_par3, ↓aft_isi, ↓aft_chain, ↓aft_pure, ↓aft_bind, ↓aft_iterA, ↓aft_lc, ↓aft_for, ↓aft_forO, ↓aft_lcStep, ↓aft_some, ↓aft_yes, ↓aft_mrd, ↓aft_tab, ↓aft_match, ↓aft_mth, ↓aft_cutL, ↓aft_dnew, ↓aft_cutM, ↓aft_noP, ↓aft_someP, ↓aft_gstar, ↓aft_enum, ↓aft_rng, ↓aft_setD, ↓aft_loopC, ↓aft_loopN, ↓aft_setIx, ↓aft_steal, and_assoc, exists_eq_left', at_zero, at_succ, List.cons_append, List.nil_append, List.replicate, List.set_cons_zero, List.set_cons_succ, T.cold, T.colds, T.imm, T.imms, T.frz, T.frzs, hole_atom, hole_tup, hole_lst, hole_ro, hole_dct, hole_hole, tru_bl, tru_int, tru_non, tru_lst, tru_tup, bool_bl, ty_list, ty_lst, eq_int, ne_int, eqA_int, eqA_tup, eqA_lst, neA_int, neA_tup, neA_lst, eqA_same, neA_same, wipeE, allT, T.bools, itA_tup, itA_lst, ↓aft_lcCons, ↓aft_lcNil, tI, tS, tBl, tN, lt_ii, le_ii, gt_ii, ge_ii, sub_ii, add_ii, item_tup, item_lst, item_ro, len_str, len_lst, len_ro, len_tup, int_i, int_b, isN_n, isN_i, isN_t, notN_n, notN_i, notN_t, itA_str, le_pp, max_tt, min_tt, atI, ixN, tabT, isi_int_int, isi_int_bool, isi_int_str, isi_int_NoneType, isi_int_list, isi_int_tuple, isi_int_ro, isi_bool_int, isi_bool_bool, isi_bool_str, isi_bool_NoneType, isi_bool_list, isi_bool_tuple, isi_bool_ro, isi_str_int, isi_str_bool, isi_str_str, isi_str_NoneType, isi_str_list, isi_str_tuple, isi_str_ro, isi_list_int, isi_list_bool, isi_list_str, isi_list_NoneType, isi_list_list, isi_list_tuple, isi_list_ro, isi_tuple_int, isi_tuple_bool, isi_tuple_str, isi_tuple_NoneType, isi_tuple_list, isi_tuple_tuple, isi_tuple_ro, im, colds_imms im, frzs_imms im, is_integer_in this.1 (show x ≤ n - 1 by omega)]
  · subst e e2
    rw [flat_const]
    simp [↓aft_seq, ↓aft_if, ↓aft_asg, ↓aft_ret, ↓aft_drp, ↓aft_bin, ↓aft_fz, ↓aft_mv, ↓aft_nh, ↓aft_pk, ↓aft_binL, ↓aft_binR, ↓aft_set, ↓aft_tru, ↓aft_boolM, ↓aft_cmpB, ↓aft_and, ↓aft_or, ↓aft_not, ↓aft_andV, ↓aft_orV, ↓aft_notV, ↓aft_ifV, ↓aft_neg, ↓aft_nil, ↓aft_cons, ↓aft_tup, ↓aft_lst, ↓aft_un1, ↓aft_un2, ↓aft_call, ↓aft_callIO, ↓aft_gtup, ↓aft_gnil, ↓aft_gcons, ↓aft_par2, ↓aft_par3, ↓aft_isi, ↓aft_chain, ↓aft_pure, ↓aft_bind, ↓aft_iterA, ↓aft_lc, ↓aft_for, ↓aft_forO, ↓aft_lcStep, ↓aft_some, ↓aft_yes, ↓aft_mrd, ↓aft_tab, ↓aft_match, ↓aft_mth, ↓aft_cutL, ↓aft_dnew, ↓aft_cutM, ↓aft_noP, ↓aft_someP, ↓aft_gstar, ↓aft_enum, ↓aft_rng, ↓aft_setD, ↓aft_loopC, ↓aft_loopN, ↓aft_setIx, ↓aft_steal, and_assoc, exists_eq_left', at_zero, at_succ, List.cons_append, List.nil_append, List.replicate, List.set_cons_zero, List.set_cons_succ, T.cold, T.colds, T.imm, T.imms, T.frz, T.frzs, hole_atom, hole_tup, hole_lst, hole_ro, hole_dct, hole_hole, tru_bl, tru_int, tru_non, tru_lst, tru_tup, bool_bl, ty_list, ty_lst, eq_int, ne_int, eqA_int, eqA_tup, eqA_lst, neA_int, neA_tup, neA_lst, eqA_same, neA_same, wipeE, allT, T.bools, itA_tup, itA_lst, ↓aft_lcCons, ↓aft_lcNil, tI, tS, tBl, tN, lt_ii, le_ii, gt_ii, ge_ii, sub_ii, add_ii, item_tup, item_lst, item_ro, len_str, len_lst, len_ro, len_tup, int_i, int_b, isN_n, isN_i, isN_t, notN_n, notN_i, notN_t, itA_str, le_pp, max_tt, min_tt, atI, ixN, tabT, isi_int_int, isi_int_bool, isi_int_str, isi_int_NoneType, isi_int_list, isi_int_tuple, isi_int_ro, isi_bool_int, isi_bool_bool, isi_bool_str, isi_bool_NoneType, isi_bool_list, isi_bool_tuple, isi_bool_ro, isi_str_int, isi_str_bool, isi_str_str, isi_str_NoneType, isi_str_list, isi_str_tuple, isi_str_ro, isi_list_int, isi_list_bool, isi_list_str, isi_list_NoneType, isi_list_list, isi_list_tuple, isi_list_ro, isi_tuple_int, isi_tuple_bool, isi_tuple_str, isi_tuple_NoneType, isi_tuple_list, isi_tuple_tuple, isi_tuple_ro, bools_true, so, lrg1, lrgF, aft_lift, show (n : Int) ≤ 16777216 by omega, range_tI, eq, -List.map_map]
/-! dict comprehensions -/
theorem dc_inv {a : T → M Unit} {c : M Bool} {ek e : M T} {own : List Nat} (Inv : Nat → List Key × List T → VS.Env → Prop) : ∀ {xs : List T} {acc : List Key × List T} {ρ : VS.Env} (k : Nat), Inv k acc ρ →
    (∀ i x acc ρ, xs[i]? = some x → Inv (k + i) acc ρ → Aft (dcStep a c ek e x ρ) fun o ρ' => ∃ kk t, o = some (kk, t) ∧ acc.1.length < 1000000 ∧ Inv (k + i + 1) (putD acc.1 acc.2 kk t) (wipeE ρ' own)) → Aft (dcLoop a c ek e own xs acc ρ) fun acc' ρ' => Inv (k + xs.length) acc' ρ'
  | [], acc, ρ, k, h0, _ => h0
  | x :: xs, acc, ρ, k, h0, hs => by
    have h1 := hs 0 x acc ρ rfl h0
    show Aft (match dcStep a c ek e x ρ with | .no => .no | .ex n fs ρ' => .ex n fs ρ' | .ok none ρ' => dcLoop a c ek e own xs acc (wipeE ρ' own) | .ok (some (k, t)) ρ' => if acc.1.length < 1000000 then dcLoop a c ek e own xs (putD acc.1 acc.2 k t) (wipeE ρ' own) else .no) _
    cases es : dcStep a c ek e x ρ with
    | no => rw [es] at h1; exact h1.elim
    | ex _ _ _ => rw [es] at h1; exact h1.elim
    | ok o ρ' =>
      rw [es] at h1
      obtain ⟨kk, t, rfl, hl, h2⟩ := h1
      dsimp only
      rw [if_pos hl]
      have := dc_inv (a := a) (c := c) (ek := ek) (e := e) (own := own) Inv (xs := xs) (k + 1) h2 fun i y acc ρ hy hi => by
        have h3 := hs (i + 1) y acc ρ (by simpa using hy) (by rw [show k + (i + 1) = k + 1 + i by omega]; exact hi)
        rw [show k + 1 + i + 1 = k + (i + 1) + 1 by omega]
        exact h3
      rw [show k + (x :: xs).length = k + 1 + xs.length by simp; omega]
      exact this
theorem aft_dc {it : M (List T)} {a : T → M Unit} {c : M Bool} {ek e : M T} {own : List Nat} {ρ : VS.Env} {P : T → VS.Env → Prop} : Aft (dcM it a c ek e own ρ) P = Aft (it ρ) (fun xs ρ' => Aft (dcLoop a c ek e own xs ([], []) (wipeE ρ' own)) (fun acc ρ2 => P (.dct true acc.1 acc.2) ρ2)) := by
  unfold dcM
  rw [aft_bind]
  congr 1
  funext xs ρ'
  rw [aft_bind]
  rfl
theorem aft_dcStep {a : T → M Unit} {c : M Bool} {ek e : M T} {x : T} {ρ : VS.Env} {P : Option (Key × T) → VS.Env → Prop} : Aft (dcStep a c ek e x ρ) P = Aft (a x ρ) (fun _ ρ1 => Aft (c ρ1) (fun k ρ2 => if k = true then Aft (ek ρ2) (fun tk ρ3 => Aft (e ρ3) (fun t ρ4 => ∃ kk, keyT tk = some kk ∧ P (some (kk, t)) ρ4)) else P none ρ2)) := by
  unfold dcStep
  rw [aft_bind]
  congr 1
  funext _ ρ1
  rw [aft_bind]
  congr 1
  funext k ρ2
  cases k
  · rfl
  · rw [if_pos rfl, if_pos rfl, aft_bind]
    congr 1
    funext tk ρ3
    rw [aft_bind]
    congr 1
    funext t ρ4
    rw [aft_bind, aft_lift]
    rfl
/-! places -/
def keyI (a : Int) : Key := .inl a
theorem kIx_ix : ∀ {o : List Int} {a : Int}, a ∈ o → kIx (o.map keyI) (.inl a) = some (o.idxOf a)
  | [], _, h => by cases h
  | b :: o, a, h => by
    by_cases e : b = a
    · subst e
      simp [kIx, keyI]
    · have e2 : ¬ keyI b = Sum.inl a := fun z => e (Sum.inl.inj z)
      have hm : a ∈ o := by rcases List.mem_cons.mp h with r | r; exact absurd r.symm e; exact r
      have ih := kIx_ix (o := o) hm
      rw [List.map_cons]
      unfold kIx
      rw [if_neg e2, ih, List.idxOf_cons]
      have e3 : (b == a) = false := by simpa using e
      rw [e3]
      rfl
theorem dget_ix (h : Ord o n) {a : Int} (h1 : 0 ≤ a ∧ a < n) : dgetT (.dct true (o.map keyI) ((rngI n).map tI)) (tI a) = some (tI (ix o a)) := by
  have hm := h.mem.mpr h1
  have hl := List.idxOf_lt_length_of_mem hm
  rw [h.len] at hl
  simp only [dgetT, keyT, Option.bind_some]
  rw [kIx_ix hm]
  simp only [Option.bind_some, List.getElem?_map, rng_at hl, Option.map_some]
  rfl
theorem idxL_ix : ∀ {o : List Int} {a : Int} {k : Nat}, a ∈ o → idxL (.int a) k (o.map PyData.int) = some (k + o.idxOf a)
  | [], _, _, h => by cases h
  | b :: o, a, k, h => by
    rw [List.map_cons]
    unfold idxL
    by_cases e : b = a
    · subst e
      simp [PyData.eqv]
    · have hm : a ∈ o := by rcases List.mem_cons.mp h with r | r; exact absurd r.symm e; exact r
      have ih := idxL_ix (o := o) (k := k + 1) hm
      rw [if_neg (by simp [PyData.eqv, e]), ih, List.idxOf_cons]
      have e3 : (b == a) = false := by simpa using e
      rw [e3]
      show some _ = some _
      congr 1
      show k + 1 + _ = k + (_ + 1)
      omega
theorem ints_dats : ∀ ns : List Int, T.dats (ns.map tI) = some (ns.map PyData.int)
  | [] => rfl
  | n :: ns => by simp [T.dats, T.dat, ints_dats ns]
theorem idx_ix {b : Bool} (h : Ord o n) (hn : n ≤ 1000) {a : Int} (h1 : 0 ≤ a ∧ a < n) : idxF (.lst b (o.map tI)) [tI a] = some (tI (ix o a)) := by
  have hm := h.mem.mpr h1
  have s1 : SeqAt.shaped (.int a) = true := rfl
  have s2 : SeqAt.shaped (.list (o.map PyData.int)) = true := by
    obtain ⟨d, e1, e2, e3, _⟩ := (nic_ints (b := b) (ns := o) (fun x hx => by have := h.mem.mp hx; omega)).ex
    simp only [T.dat, ints_dats, Option.map_some, Option.some.injEq] at e1
    subst e1
    exact shaped_of e2 (by omega)
  simp only [idxF, T.dat, ints_dats, Option.map_some, s1, s2, and_self, if_true]
  rw [idxL_ix hm]
  simp [ix]
theorem tup_two {a b : Int} : (un1 tupT (consA (un1 sortT (consA (lstM (consA (M.pure (tI a)) (consA (M.pure (tI b)) nilA))) nilA)) nilA)) = un1 tupT (consA (un1 sortT (consA (lstM (consA (M.pure (tI a)) (consA (M.pure (tI b)) nilA))) nilA)) nilA) := rfl
theorem isort_two (a b : Int) : isort [a, b] = [min a b, max a b] := by
  by_cases h : a ≤ b
  · rw [show min a b = a by omega, show max a b = b by omega]
    exact isort_unique (List.Perm.refl _) (by simp [h])
  · rw [show min a b = b by omega, show max a b = a by omega]
    exact isort_unique (List.Perm.swap _ _ _) (by simp; omega)
theorem sort_two (a b : Int) : sortT (.lst true [tI a, tI b]) = some (.lst true [tI (min a b), tI (max a b)]) := by
  have := sort_ints (b := true) [a, b] (by simp)
  rw [isort_two] at this
  exact this
theorem rec_at {b : Bool} (hr : ∀ r ∈ L.recs, RecOk L.views.length r) {k : Int} (h1 : 0 ≤ k ∧ k < L.recs.length) : itemT (.lst b (L.recs.map recT)) (tI k) = some (recT (recD L.recs k)) := by
  have hl : k.toNat < L.recs.length := by omega
  have e : recD L.recs k = L.recs[k.toNat] := by simp [recD, hl]
  have im := rec_imm (hr _ (List.getElem_mem hl))
  show (atI (L.recs.map recT) k).filter T.imm = _
  simp [atI, ixN, h1.1, h1.2, hl, e, im]
theorem reordered_ok {b1 b2 b3 b4 b5 : Bool} (h : Valid L) (ho : Ord o L.recs.length) : run_reordered [layT b1 b2 b3 b4 L, .lst b5 (o.map tI)] = some (layT true true true true (reord L o)) := by
  have f := lay_frz (b1 := b1) (b2 := b2) (b3 := b3) (b4 := b4) h
  have c := lay_cold (b1 := b1) (b2 := b2) (b3 := b3) (b4 := b4) h
  have m := lay_imm h
  have f' := lay_frz (b1 := false) (b2 := false) (b3 := false) (b4 := false) h
  have c' := lay_cold (b1 := false) (b2 := false) (b3 := false) (b4 := false) h
  have v1 := h.vim
  have v2 := recs_imm h.rok
  have v3 := prs_imm L.waits
  have v4 := prs_imm L.beside
  have v5 := ints_imm o
  have ho1 : ∀ {b1 b2 b3 b4}, (layT b1 b2 b3 b4 L).isHole = false := rfl
  have rq := require_ok (b1 := false) (b2 := false) (b3 := false) (b4 := false) h
  have hn : L.recs.length ≤ 1000 := by have := h.rlen; omega
  have io := is_order_ok (b := false) ho hn
  refine run0_of ?_
  unfold sem_reordered
  simp [↓aft_seq, ↓aft_if, ↓aft_asg, ↓aft_ret, ↓aft_drp, ↓aft_bin, ↓aft_fz, ↓aft_mv, ↓aft_nh, ↓aft_pk, ↓aft_binL, ↓aft_binR, ↓aft_set, ↓aft_tru, ↓aft_boolM, ↓aft_cmpB, ↓aft_and, ↓aft_or, ↓aft_not, ↓aft_andV, ↓aft_orV, ↓aft_notV, ↓aft_ifV, ↓aft_neg, ↓aft_nil, ↓aft_cons, ↓aft_tup, ↓aft_lst, ↓aft_un1, ↓aft_un2, ↓aft_call, ↓aft_callIO, ↓aft_gtup, ↓aft_gnil, ↓aft_gcons, ↓aft_par2, ↓aft_par3, ↓aft_isi, ↓aft_chain, ↓aft_pure, ↓aft_bind, ↓aft_iterA, ↓aft_lc, ↓aft_for, ↓aft_forO, ↓aft_lcStep, ↓aft_some, ↓aft_yes, ↓aft_mrd, ↓aft_tab, ↓aft_match, ↓aft_mth, ↓aft_cutL, ↓aft_dnew, ↓aft_cutM, ↓aft_noP, ↓aft_someP, ↓aft_gstar, ↓aft_enum, ↓aft_rng, ↓aft_setD, ↓aft_loopC, ↓aft_loopN, ↓aft_setIx, ↓aft_steal, and_assoc, exists_eq_left', at_zero, at_succ, List.cons_append, List.nil_append, List.replicate, List.set_cons_zero, List.set_cons_succ, T.cold, T.colds, T.imm, T.imms, T.frz, T.frzs, hole_atom, hole_tup, hole_lst, hole_ro, hole_dct, hole_hole, tru_bl, tru_int, tru_non, tru_lst, tru_tup, bool_bl, ty_list, ty_lst, eq_int, ne_int, eqA_int, eqA_tup, eqA_lst, neA_int, neA_tup, neA_lst, eqA_same, neA_same, wipeE, allT, T.bools, itA_tup, itA_lst, ↓aft_lcCons, ↓aft_lcNil, tI, tS, tBl, tN, lt_ii, le_ii, gt_ii, ge_ii, sub_ii, add_ii, item_tup, item_lst, item_ro, len_str, len_lst, len_ro, len_tup, int_i, int_b, isN_n, isN_i, isN_t, notN_n, notN_i, notN_t, itA_str, le_pp, max_tt, min_tt, atI, ixN, tabT, isi_int_int, isi_int_bool, isi_int_str, isi_int_NoneType, isi_int_list, isi_int_tuple, isi_int_ro, isi_bool_int, isi_bool_bool, isi_bool_str, isi_bool_NoneType, isi_bool_list, isi_bool_tuple, isi_bool_ro, isi_str_int, isi_str_bool, isi_str_str, isi_str_NoneType, isi_str_list, isi_str_tuple, isi_str_ro, isi_list_int, isi_list_bool, isi_list_str, isi_list_NoneType, isi_list_list, isi_list_tuple, isi_list_ro, isi_tuple_int, isi_tuple_bool, isi_tuple_str, isi_tuple_NoneType, isi_tuple_list, isi_tuple_tuple, isi_tuple_ro, f, c, m, ho1, f', c', rq]
  simp only [layT]
  simp [↓aft_seq, ↓aft_if, ↓aft_asg, ↓aft_ret, ↓aft_drp, ↓aft_bin, ↓aft_fz, ↓aft_mv, ↓aft_nh, ↓aft_pk, ↓aft_binL, ↓aft_binR, ↓aft_set, ↓aft_tru, ↓aft_boolM, ↓aft_cmpB, ↓aft_and, ↓aft_or, ↓aft_not, ↓aft_andV, ↓aft_orV, ↓aft_notV, ↓aft_ifV, ↓aft_neg, ↓aft_nil, ↓aft_cons, ↓aft_tup, ↓aft_lst, ↓aft_un1, ↓aft_un2, ↓aft_call, ↓aft_callIO, ↓aft_gtup, ↓aft_gnil, ↓aft_gcons, ↓aft_par2, ↓aft_par3, ↓aft_isi, ↓aft_chain, ↓aft_pure, ↓aft_bind, ↓aft_iterA, ↓aft_lc, ↓aft_for, ↓aft_forO, ↓aft_lcStep, ↓aft_some, ↓aft_yes, ↓aft_mrd, ↓aft_tab, ↓aft_match, ↓aft_mth, ↓aft_cutL, ↓aft_dnew, ↓aft_cutM, ↓aft_noP, ↓aft_someP, ↓aft_gstar, ↓aft_enum, ↓aft_rng, ↓aft_setD, ↓aft_loopC, ↓aft_loopN, ↓aft_setIx, ↓aft_steal, and_assoc, exists_eq_left', at_zero, at_succ, List.cons_append, List.nil_append, List.replicate, List.set_cons_zero, List.set_cons_succ, T.cold, T.colds, T.imm, T.imms, T.frz, T.frzs, hole_atom, hole_tup, hole_lst, hole_ro, hole_dct, hole_hole, tru_bl, tru_int, tru_non, tru_lst, tru_tup, bool_bl, ty_list, ty_lst, eq_int, ne_int, eqA_int, eqA_tup, eqA_lst, neA_int, neA_tup, neA_lst, eqA_same, neA_same, wipeE, allT, T.bools, itA_tup, itA_lst, ↓aft_lcCons, ↓aft_lcNil, tI, tS, tBl, tN, lt_ii, le_ii, gt_ii, ge_ii, sub_ii, add_ii, item_tup, item_lst, item_ro, len_str, len_lst, len_ro, len_tup, int_i, int_b, isN_n, isN_i, isN_t, notN_n, notN_i, notN_t, itA_str, le_pp, max_tt, min_tt, atI, ixN, tabT, isi_int_int, isi_int_bool, isi_int_str, isi_int_NoneType, isi_int_list, isi_int_tuple, isi_int_ro, isi_bool_int, isi_bool_bool, isi_bool_str, isi_bool_NoneType, isi_bool_list, isi_bool_tuple, isi_bool_ro, isi_str_int, isi_str_bool, isi_str_str, isi_str_NoneType, isi_str_list, isi_str_tuple, isi_str_ro, isi_list_int, isi_list_bool, isi_list_str, isi_list_NoneType, isi_list_list, isi_list_tuple, isi_list_ro, isi_tuple_int, isi_tuple_bool, isi_tuple_str, isi_tuple_NoneType, isi_tuple_list, isi_tuple_tuple, isi_tuple_ro, v1, v2, v3, v4, v5, colds_imms v1, colds_imms v2, colds_imms v3, colds_imms v4, colds_imms v5, frzs_imms v1, frzs_imms v2, frzs_imms v3, frzs_imms v4, frzs_imms v5, io, aft_dc, itL_imm]
  refine (dc_inv (fun i acc ρ => acc = ((o.take i).map keyI, (rngI i).map tI) ∧ ρ = [.tup [.lst false L.views, .lst false (L.recs.map recT), .lst false (L.waits.map prT), .lst false (L.beside.map prT)], .lst false (o.map tI), .lst false L.views, .lst false (L.recs.map recT), .lst false (L.waits.map prT), .lst false (L.beside.map prT), .hole, .hole, .hole, .hole, .hole, .hole, .hole]) 0 ⟨rfl, rfl⟩ fun i x acc ρ hx ⟨e1, e2⟩ => ?_).mono fun acc ρ ⟨e1, e2⟩ => ?_
  · subst e1 e2
    obtain ⟨v, hv, rfl⟩ := enumL_at hx
    rw [List.getElem?_map, Option.map_eq_some_iff] at hv
    obtain ⟨q, hq, rfl⟩ := hv
    have hil := (List.getElem?_eq_some_iff.mp hq).1
    have hol := ho.len
    have fresh : ¬ Sum.inl q ∈ (o.take i).map keyI := by
      intro hy
      obtain ⟨y, hy2, e2⟩ := List.mem_map.mp hy
      have e3 : y = q := Sum.inl.inj e2
      subst e3
      obtain ⟨j, hj, e2⟩ := List.mem_take_iff_getElem.mp hy2
      have hj' : j < i := by omega
      exact List.pairwise_iff_getElem.mp (List.nodup_iff_pairwise_ne.mp ho.nodup) j i (by omega) hil hj' (e2.trans (List.getElem?_eq_some_iff.mp hq).2.symm)
    have n1 : (o.take (i + 1)).map keyI = (o.take i).map keyI ++ [Sum.inl q] := by
      rw [List.take_succ, hq, List.map_append]; rfl
    have n2 : (rngI (i + 1)).map tI = (rngI i).map tI ++ [tI i] := by
      unfold rngI
      rw [List.range_succ, List.map_append, List.map_append]; rfl
    rw [Nat.zero_add]
    simp [↓aft_seq, ↓aft_if, ↓aft_asg, ↓aft_ret, ↓aft_drp, ↓aft_bin, ↓aft_fz, ↓aft_mv, ↓aft_nh, ↓aft_pk, ↓aft_binL, ↓aft_binR, ↓aft_set, ↓aft_tru, ↓aft_boolM, ↓aft_cmpB, ↓aft_and, ↓aft_or, ↓aft_not, ↓aft_andV, ↓aft_orV, ↓aft_notV, ↓aft_ifV, ↓aft_neg, ↓aft_nil, ↓aft_cons, ↓aft_tup, ↓aft_lst, ↓aft_un1, ↓aft_un2, ↓aft_call, ↓aft_callIO, ↓aft_gtup, ↓aft_gnil, ↓aft_gcons, ↓aft_par2, ↓aft_par3, ↓aft_isi, ↓aft_chain, ↓aft_pure, ↓aft_bind, ↓aft_iterA, ↓aft_lc, ↓aft_for, ↓aft_forO, ↓aft_lcStep, ↓aft_some, ↓aft_yes, ↓aft_mrd, ↓aft_tab, ↓aft_match, ↓aft_mth, ↓aft_cutL, ↓aft_dnew, ↓aft_cutM, ↓aft_noP, ↓aft_someP, ↓aft_gstar, ↓aft_enum, ↓aft_rng, ↓aft_setD, ↓aft_loopC, ↓aft_loopN, ↓aft_setIx, ↓aft_steal, and_assoc, exists_eq_left', at_zero, at_succ, List.cons_append, List.nil_append, List.replicate, List.set_cons_zero, List.set_cons_succ, T.cold, T.colds, T.imm, T.imms, T.frz, T.frzs, hole_atom, hole_tup, hole_lst, hole_ro, hole_dct, hole_hole, tru_bl, tru_int, tru_non, tru_lst, tru_tup, bool_bl, ty_list, ty_lst, eq_int, ne_int, eqA_int, eqA_tup, eqA_lst, neA_int, neA_tup, neA_lst, eqA_same, neA_same, wipeE, allT, T.bools, itA_tup, itA_lst, ↓aft_lcCons, ↓aft_lcNil, tI, tS, tBl, tN, lt_ii, le_ii, gt_ii, ge_ii, sub_ii, add_ii, item_tup, item_lst, item_ro, len_str, len_lst, len_ro, len_tup, int_i, int_b, isN_n, isN_i, isN_t, notN_n, notN_i, notN_t, itA_str, le_pp, max_tt, min_tt, atI, ixN, tabT, isi_int_int, isi_int_bool, isi_int_str, isi_int_NoneType, isi_int_list, isi_int_tuple, isi_int_ro, isi_bool_int, isi_bool_bool, isi_bool_str, isi_bool_NoneType, isi_bool_list, isi_bool_tuple, isi_bool_ro, isi_str_int, isi_str_bool, isi_str_str, isi_str_NoneType, isi_str_list, isi_str_tuple, isi_str_ro, isi_list_int, isi_list_bool, isi_list_str, isi_list_NoneType, isi_list_list, isi_list_tuple, isi_list_ro, isi_tuple_int, isi_tuple_bool, isi_tuple_str, isi_tuple_NoneType, isi_tuple_list, isi_tuple_tuple, isi_tuple_ro, aft_dcStep, keyT, putD, kIx_no fresh, n1, n2, -List.map_take]
    omega
  have ol := ho.len
  have el : (enumL 0 (o.map tI)).length = o.length := by rw [enumL_len, List.length_map]
  rw [Nat.zero_add, el, List.take_length, ol] at e1
  subst e1 e2
  have hx : ∀ {a : Int}, 0 ≤ a ∧ a < L.recs.length → dgetT (.dct true (o.map keyI) ((rngI L.recs.length).map tI)) (tI a) = some (tI (ix o a)) := fun h => dget_ix ho h
  simp [↓aft_seq, ↓aft_if, ↓aft_asg, ↓aft_ret, ↓aft_drp, ↓aft_bin, ↓aft_fz, ↓aft_mv, ↓aft_nh, ↓aft_pk, ↓aft_binL, ↓aft_binR, ↓aft_set, ↓aft_tru, ↓aft_boolM, ↓aft_cmpB, ↓aft_and, ↓aft_or, ↓aft_not, ↓aft_andV, ↓aft_orV, ↓aft_notV, ↓aft_ifV, ↓aft_neg, ↓aft_nil, ↓aft_cons, ↓aft_tup, ↓aft_lst, ↓aft_un1, ↓aft_un2, ↓aft_call, ↓aft_callIO, ↓aft_gtup, ↓aft_gnil, ↓aft_gcons, ↓aft_par2, ↓aft_par3, ↓aft_isi, ↓aft_chain, ↓aft_pure, ↓aft_bind, ↓aft_iterA, ↓aft_lc, ↓aft_for, ↓aft_forO, ↓aft_lcStep, ↓aft_some, ↓aft_yes, ↓aft_mrd, ↓aft_tab, ↓aft_match, ↓aft_mth, ↓aft_cutL, ↓aft_dnew, ↓aft_cutM, ↓aft_noP, ↓aft_someP, ↓aft_gstar, ↓aft_enum, ↓aft_rng, ↓aft_setD, ↓aft_loopC, ↓aft_loopN, ↓aft_setIx, ↓aft_steal, and_assoc, exists_eq_left', at_zero, at_succ, List.cons_append, List.nil_append, List.replicate, List.set_cons_zero, List.set_cons_succ, T.cold, T.colds, T.imm, T.imms, T.frz, T.frzs, hole_atom, hole_tup, hole_lst, hole_ro, hole_dct, hole_hole, tru_bl, tru_int, tru_non, tru_lst, tru_tup, bool_bl, ty_list, ty_lst, eq_int, ne_int, eqA_int, eqA_tup, eqA_lst, neA_int, neA_tup, neA_lst, eqA_same, neA_same, wipeE, allT, T.bools, itA_tup, itA_lst, ↓aft_lcCons, ↓aft_lcNil, tI, tS, tBl, tN, lt_ii, le_ii, gt_ii, ge_ii, sub_ii, add_ii, item_tup, item_lst, item_ro, len_str, len_lst, len_ro, len_tup, int_i, int_b, isN_n, isN_i, isN_t, notN_n, notN_i, notN_t, itA_str, le_pp, max_tt, min_tt, atI, ixN, tabT, isi_int_int, isi_int_bool, isi_int_str, isi_int_NoneType, isi_int_list, isi_int_tuple, isi_int_ro, isi_bool_int, isi_bool_bool, isi_bool_str, isi_bool_NoneType, isi_bool_list, isi_bool_tuple, isi_bool_ro, isi_str_int, isi_str_bool, isi_str_str, isi_str_NoneType, isi_str_list, isi_str_tuple, isi_str_ro, isi_list_int, isi_list_bool, isi_list_str, isi_list_NoneType, isi_list_list, isi_list_tuple, isi_list_ro, isi_tuple_int, isi_tuple_bool, isi_tuple_str, isi_tuple_NoneType, isi_tuple_list, isi_tuple_tuple, isi_tuple_ro, v3, v4, colds_imms v3, colds_imms v4, frzs_imms v3, frzs_imms v4, ol]
  refine (lc_mapP (g := fun p => prT (ix2 o p)) (by have := h.wlen; omega) fun p hp => ?_).mono fun acc ρ ⟨e1, e2⟩ => ?_
  · obtain ⟨a1, a2, a3, a4, _⟩ := h.wok.1 p hp
    have i1 := ix_lt ho a1 a2
    have i2 := ix_lt ho a3 a4
    simp [↓aft_seq, ↓aft_if, ↓aft_asg, ↓aft_ret, ↓aft_drp, ↓aft_bin, ↓aft_fz, ↓aft_mv, ↓aft_nh, ↓aft_pk, ↓aft_binL, ↓aft_binR, ↓aft_set, ↓aft_tru, ↓aft_boolM, ↓aft_cmpB, ↓aft_and, ↓aft_or, ↓aft_not, ↓aft_andV, ↓aft_orV, ↓aft_notV, ↓aft_ifV, ↓aft_neg, ↓aft_nil, ↓aft_cons, ↓aft_tup, ↓aft_lst, ↓aft_un1, ↓aft_un2, ↓aft_call, ↓aft_callIO, ↓aft_gtup, ↓aft_gnil, ↓aft_gcons, ↓aft_par2, ↓aft_par3, ↓aft_isi, ↓aft_chain, ↓aft_pure, ↓aft_bind, ↓aft_iterA, ↓aft_lc, ↓aft_for, ↓aft_forO, ↓aft_lcStep, ↓aft_some, ↓aft_yes, ↓aft_mrd, ↓aft_tab, ↓aft_match, ↓aft_mth, ↓aft_cutL, ↓aft_dnew, ↓aft_cutM, ↓aft_noP, ↓aft_someP, ↓aft_gstar, ↓aft_enum, ↓aft_rng, ↓aft_setD, ↓aft_loopC, ↓aft_loopN, ↓aft_setIx, ↓aft_steal, and_assoc, exists_eq_left', at_zero, at_succ, List.cons_append, List.nil_append, List.replicate, List.set_cons_zero, List.set_cons_succ, T.cold, T.colds, T.imm, T.imms, T.frz, T.frzs, hole_atom, hole_tup, hole_lst, hole_ro, hole_dct, hole_hole, tru_bl, tru_int, tru_non, tru_lst, tru_tup, bool_bl, ty_list, ty_lst, eq_int, ne_int, eqA_int, eqA_tup, eqA_lst, neA_int, neA_tup, neA_lst, eqA_same, neA_same, wipeE, allT, T.bools, itA_tup, itA_lst, ↓aft_lcCons, ↓aft_lcNil, tI, tS, tBl, tN, lt_ii, le_ii, gt_ii, ge_ii, sub_ii, add_ii, item_tup, item_lst, item_ro, len_str, len_lst, len_ro, len_tup, int_i, int_b, isN_n, isN_i, isN_t, notN_n, notN_i, notN_t, itA_str, le_pp, max_tt, min_tt, atI, ixN, tabT, isi_int_int, isi_int_bool, isi_int_str, isi_int_NoneType, isi_int_list, isi_int_tuple, isi_int_ro, isi_bool_int, isi_bool_bool, isi_bool_str, isi_bool_NoneType, isi_bool_list, isi_bool_tuple, isi_bool_ro, isi_str_int, isi_str_bool, isi_str_str, isi_str_NoneType, isi_str_list, isi_str_tuple, isi_str_ro, isi_list_int, isi_list_bool, isi_list_str, isi_list_NoneType, isi_list_list, isi_list_tuple, isi_list_ro, isi_tuple_int, isi_tuple_bool, isi_tuple_str, isi_tuple_NoneType, isi_tuple_list, isi_tuple_tuple, isi_tuple_ro, prT, hx ⟨a1, a2⟩, hx ⟨a3, a4⟩, ix2]
  subst e1 e2
  simp [↓aft_seq, ↓aft_if, ↓aft_asg, ↓aft_ret, ↓aft_drp, ↓aft_bin, ↓aft_fz, ↓aft_mv, ↓aft_nh, ↓aft_pk, ↓aft_binL, ↓aft_binR, ↓aft_set, ↓aft_tru, ↓aft_boolM, ↓aft_cmpB, ↓aft_and, ↓aft_or, ↓aft_not, ↓aft_andV, ↓aft_orV, ↓aft_notV, ↓aft_ifV, ↓aft_neg, ↓aft_nil, ↓aft_cons, ↓aft_tup, ↓aft_lst, ↓aft_un1, ↓aft_un2, ↓aft_call, ↓aft_callIO, ↓aft_gtup, ↓aft_gnil, ↓aft_gcons, ↓aft_par2, ↓aft_par3, ↓aft_isi, ↓aft_chain, ↓aft_pure, ↓aft_bind, ↓aft_iterA, ↓aft_lc, ↓aft_for, ↓aft_forO, ↓aft_lcStep, ↓aft_some, ↓aft_yes, ↓aft_mrd, ↓aft_tab, ↓aft_match, ↓aft_mth, ↓aft_cutL, ↓aft_dnew, ↓aft_cutM, ↓aft_noP, ↓aft_someP, ↓aft_gstar, ↓aft_enum, ↓aft_rng, ↓aft_setD, ↓aft_loopC, ↓aft_loopN, ↓aft_setIx, ↓aft_steal, and_assoc, exists_eq_left', at_zero, at_succ, List.cons_append, List.nil_append, List.replicate, List.set_cons_zero, List.set_cons_succ, T.cold, T.colds, T.imm, T.imms, T.frz, T.frzs, hole_atom, hole_tup, hole_lst, hole_ro, hole_dct, hole_hole, tru_bl, tru_int, tru_non, tru_lst, tru_tup, bool_bl, ty_list, ty_lst, eq_int, ne_int, eqA_int, eqA_tup, eqA_lst, neA_int, neA_tup, neA_lst, eqA_same, neA_same, wipeE, allT, T.bools, itA_tup, itA_lst, ↓aft_lcCons, ↓aft_lcNil, tI, tS, tBl, tN, lt_ii, le_ii, gt_ii, ge_ii, sub_ii, add_ii, item_tup, item_lst, item_ro, len_str, len_lst, len_ro, len_tup, int_i, int_b, isN_n, isN_i, isN_t, notN_n, notN_i, notN_t, itA_str, le_pp, max_tt, min_tt, atI, ixN, tabT, isi_int_int, isi_int_bool, isi_int_str, isi_int_NoneType, isi_int_list, isi_int_tuple, isi_int_ro, isi_bool_int, isi_bool_bool, isi_bool_str, isi_bool_NoneType, isi_bool_list, isi_bool_tuple, isi_bool_ro, isi_str_int, isi_str_bool, isi_str_str, isi_str_NoneType, isi_str_list, isi_str_tuple, isi_str_ro, isi_list_int, isi_list_bool, isi_list_str, isi_list_NoneType, isi_list_list, isi_list_tuple, isi_list_ro, isi_tuple_int, isi_tuple_bool, isi_tuple_str, isi_tuple_NoneType, isi_tuple_list, isi_tuple_tuple, isi_tuple_ro, v3, v4, colds_imms v3, colds_imms v4, frzs_imms v3, frzs_imms v4, ol, -List.map_map]
  refine (lc_mapP (g := fun p => prT (srt (ix2 o p))) (by have := h.blen; omega) fun p hp => ?_).mono fun acc ρ ⟨e1, e2⟩ => ?_
  · obtain ⟨a1, a2, a3, a4, _⟩ := h.bok.1 p hp
    simp [↓aft_seq, ↓aft_if, ↓aft_asg, ↓aft_ret, ↓aft_drp, ↓aft_bin, ↓aft_fz, ↓aft_mv, ↓aft_nh, ↓aft_pk, ↓aft_binL, ↓aft_binR, ↓aft_set, ↓aft_tru, ↓aft_boolM, ↓aft_cmpB, ↓aft_and, ↓aft_or, ↓aft_not, ↓aft_andV, ↓aft_orV, ↓aft_notV, ↓aft_ifV, ↓aft_neg, ↓aft_nil, ↓aft_cons, ↓aft_tup, ↓aft_lst, ↓aft_un1, ↓aft_un2, ↓aft_call, ↓aft_callIO, ↓aft_gtup, ↓aft_gnil, ↓aft_gcons, ↓aft_par2, ↓aft_par3, ↓aft_isi, ↓aft_chain, ↓aft_pure, ↓aft_bind, ↓aft_iterA, ↓aft_lc, ↓aft_for, ↓aft_forO, ↓aft_lcStep, ↓aft_some, ↓aft_yes, ↓aft_mrd, ↓aft_tab, ↓aft_match, ↓aft_mth, ↓aft_cutL, ↓aft_dnew, ↓aft_cutM, ↓aft_noP, ↓aft_someP, ↓aft_gstar, ↓aft_enum, ↓aft_rng, ↓aft_setD, ↓aft_loopC, ↓aft_loopN, ↓aft_setIx, ↓aft_steal, and_assoc, exists_eq_left', at_zero, at_succ, List.cons_append, List.nil_append, List.replicate, List.set_cons_zero, List.set_cons_succ, T.cold, T.colds, T.imm, T.imms, T.frz, T.frzs, hole_atom, hole_tup, hole_lst, hole_ro, hole_dct, hole_hole, tru_bl, tru_int, tru_non, tru_lst, tru_tup, bool_bl, ty_list, ty_lst, eq_int, ne_int, eqA_int, eqA_tup, eqA_lst, neA_int, neA_tup, neA_lst, eqA_same, neA_same, wipeE, allT, T.bools, itA_tup, itA_lst, ↓aft_lcCons, ↓aft_lcNil, tI, tS, tBl, tN, lt_ii, le_ii, gt_ii, ge_ii, sub_ii, add_ii, item_tup, item_lst, item_ro, len_str, len_lst, len_ro, len_tup, int_i, int_b, isN_n, isN_i, isN_t, notN_n, notN_i, notN_t, itA_str, le_pp, max_tt, min_tt, atI, ixN, tabT, isi_int_int, isi_int_bool, isi_int_str, isi_int_NoneType, isi_int_list, isi_int_tuple, isi_int_ro, isi_bool_int, isi_bool_bool, isi_bool_str, isi_bool_NoneType, isi_bool_list, isi_bool_tuple, isi_bool_ro, isi_str_int, isi_str_bool, isi_str_str, isi_str_NoneType, isi_str_list, isi_str_tuple, isi_str_ro, isi_list_int, isi_list_bool, isi_list_str, isi_list_NoneType, isi_list_list, isi_list_tuple, isi_list_ro, isi_tuple_int, isi_tuple_bool, isi_tuple_str, isi_tuple_NoneType, isi_tuple_list, isi_tuple_tuple, isi_tuple_ro, prT, hx ⟨a1, a2⟩, hx ⟨a3, a4⟩, sort_two, tupT, ix2, srt]
  subst e1 e2
  have s1 : sortT (.lst true (L.waits.map fun p => prT (ix2 o p))) = some (.lst true ((psort (L.waits.map (ix2 o))).map prT)) := by
    have := sort_prs (b := true) (L.waits.map (ix2 o)) (by have := h.wlen; simp; omega)
    rwa [List.map_map] at this
  have s2 : sortT (.lst true (L.beside.map fun p => prT (srt (ix2 o p)))) = some (.lst true ((psort (L.beside.map fun p => srt (ix2 o p))).map prT)) := by
    have := sort_prs (b := true) (L.beside.map fun p => srt (ix2 o p)) (by have := h.blen; simp; omega)
    rwa [List.map_map] at this
  simp [↓aft_seq, ↓aft_if, ↓aft_asg, ↓aft_ret, ↓aft_drp, ↓aft_bin, ↓aft_fz, ↓aft_mv, ↓aft_nh, ↓aft_pk, ↓aft_binL, ↓aft_binR, ↓aft_set, ↓aft_tru, ↓aft_boolM, ↓aft_cmpB, ↓aft_and, ↓aft_or, ↓aft_not, ↓aft_andV, ↓aft_orV, ↓aft_notV, ↓aft_ifV, ↓aft_neg, ↓aft_nil, ↓aft_cons, ↓aft_tup, ↓aft_lst, ↓aft_un1, ↓aft_un2, ↓aft_call, ↓aft_callIO, ↓aft_gtup, ↓aft_gnil, ↓aft_gcons, ↓aft_par2, ↓aft_par3, ↓aft_isi, ↓aft_chain, ↓aft_pure, ↓aft_bind, ↓aft_iterA, ↓aft_lc, ↓aft_for, ↓aft_forO, ↓aft_lcStep, ↓aft_some, ↓aft_yes, ↓aft_mrd, ↓aft_tab, ↓aft_match, ↓aft_mth, ↓aft_cutL, ↓aft_dnew, ↓aft_cutM, ↓aft_noP, ↓aft_someP, ↓aft_gstar, ↓aft_enum, ↓aft_rng, ↓aft_setD, ↓aft_loopC, ↓aft_loopN, ↓aft_setIx, ↓aft_steal, and_assoc, exists_eq_left', at_zero, at_succ, List.cons_append, List.nil_append, List.replicate, List.set_cons_zero, List.set_cons_succ, T.cold, T.colds, T.imm, T.imms, T.frz, T.frzs, hole_atom, hole_tup, hole_lst, hole_ro, hole_dct, hole_hole, tru_bl, tru_int, tru_non, tru_lst, tru_tup, bool_bl, ty_list, ty_lst, eq_int, ne_int, eqA_int, eqA_tup, eqA_lst, neA_int, neA_tup, neA_lst, eqA_same, neA_same, wipeE, allT, T.bools, itA_tup, itA_lst, ↓aft_lcCons, ↓aft_lcNil, tI, tS, tBl, tN, lt_ii, le_ii, gt_ii, ge_ii, sub_ii, add_ii, item_tup, item_lst, item_ro, len_str, len_lst, len_ro, len_tup, int_i, int_b, isN_n, isN_i, isN_t, notN_n, notN_i, notN_t, itA_str, le_pp, max_tt, min_tt, atI, ixN, tabT, isi_int_int, isi_int_bool, isi_int_str, isi_int_NoneType, isi_int_list, isi_int_tuple, isi_int_ro, isi_bool_int, isi_bool_bool, isi_bool_str, isi_bool_NoneType, isi_bool_list, isi_bool_tuple, isi_bool_ro, isi_str_int, isi_str_bool, isi_str_str, isi_str_NoneType, isi_str_list, isi_str_tuple, isi_str_ro, isi_list_int, isi_list_bool, isi_list_str, isi_list_NoneType, isi_list_list, isi_list_tuple, isi_list_ro, isi_tuple_int, isi_tuple_bool, isi_tuple_str, isi_tuple_NoneType, isi_tuple_list, isi_tuple_tuple, isi_tuple_ro, v1, v5, colds_imms v5, frzs_imms v5, ol, listT, -List.map_map]
  refine (lc_mapP (g := fun k => recT (recD L.recs k)) (by omega) fun k hk => ?_).mono fun acc ρ ⟨e1, e2⟩ => ?_
  · simp [↓aft_seq, ↓aft_if, ↓aft_asg, ↓aft_ret, ↓aft_drp, ↓aft_bin, ↓aft_fz, ↓aft_mv, ↓aft_nh, ↓aft_pk, ↓aft_binL, ↓aft_binR, ↓aft_set, ↓aft_tru, ↓aft_boolM, ↓aft_cmpB, ↓aft_and, ↓aft_or, ↓aft_not, ↓aft_andV, ↓aft_orV, ↓aft_notV, ↓aft_ifV, ↓aft_neg, ↓aft_nil, ↓aft_cons, ↓aft_tup, ↓aft_lst, ↓aft_un1, ↓aft_un2, ↓aft_call, ↓aft_callIO, ↓aft_gtup, ↓aft_gnil, ↓aft_gcons, ↓aft_par2, ↓aft_par3, ↓aft_isi, ↓aft_chain, ↓aft_pure, ↓aft_bind, ↓aft_iterA, ↓aft_lc, ↓aft_for, ↓aft_forO, ↓aft_lcStep, ↓aft_some, ↓aft_yes, ↓aft_mrd, ↓aft_tab, ↓aft_match, ↓aft_mth, ↓aft_cutL, ↓aft_dnew, ↓aft_cutM, ↓aft_noP, ↓aft_someP, ↓aft_gstar, ↓aft_enum, ↓aft_rng, ↓aft_setD, ↓aft_loopC, ↓aft_loopN, ↓aft_setIx, ↓aft_steal, and_assoc, exists_eq_left', at_zero, at_succ, List.cons_append, List.nil_append, List.replicate, List.set_cons_zero, List.set_cons_succ, T.cold, T.colds, T.imm, T.imms, T.frz, T.frzs, hole_atom, hole_tup, hole_lst, hole_ro, hole_dct, hole_hole, tru_bl, tru_int, tru_non, tru_lst, tru_tup, bool_bl, ty_list, ty_lst, eq_int, ne_int, eqA_int, eqA_tup, eqA_lst, neA_int, neA_tup, neA_lst, eqA_same, neA_same, wipeE, allT, T.bools, itA_tup, itA_lst, ↓aft_lcCons, ↓aft_lcNil, tI, tS, tBl, tN, lt_ii, le_ii, gt_ii, ge_ii, sub_ii, add_ii, item_tup, item_lst, item_ro, len_str, len_lst, len_ro, len_tup, int_i, int_b, isN_n, isN_i, isN_t, notN_n, notN_i, notN_t, itA_str, le_pp, max_tt, min_tt, atI, ixN, tabT, isi_int_int, isi_int_bool, isi_int_str, isi_int_NoneType, isi_int_list, isi_int_tuple, isi_int_ro, isi_bool_int, isi_bool_bool, isi_bool_str, isi_bool_NoneType, isi_bool_list, isi_bool_tuple, isi_bool_ro, isi_str_int, isi_str_bool, isi_str_str, isi_str_NoneType, isi_str_list, isi_str_tuple, isi_str_ro, isi_list_int, isi_list_bool, isi_list_str, isi_list_NoneType, isi_list_list, isi_list_tuple, isi_list_ro, isi_tuple_int, isi_tuple_bool, isi_tuple_str, isi_tuple_NoneType, isi_tuple_list, isi_tuple_tuple, isi_tuple_ro, -item_lst, rec_at h.rok (ho.mem.mp hk)]
  subst e1 e2
  simp [↓aft_seq, ↓aft_if, ↓aft_asg, ↓aft_ret, ↓aft_drp, ↓aft_bin, ↓aft_fz, ↓aft_mv, ↓aft_nh, ↓aft_pk, ↓aft_binL, ↓aft_binR, ↓aft_set, ↓aft_tru, ↓aft_boolM, ↓aft_cmpB, ↓aft_and, ↓aft_or, ↓aft_not, ↓aft_andV, ↓aft_orV, ↓aft_notV, ↓aft_ifV, ↓aft_neg, ↓aft_nil, ↓aft_cons, ↓aft_tup, ↓aft_lst, ↓aft_un1, ↓aft_un2, ↓aft_call, ↓aft_callIO, ↓aft_gtup, ↓aft_gnil, ↓aft_gcons, ↓aft_par2, ↓aft_par3, ↓aft_isi, ↓aft_chain, ↓aft_pure, ↓aft_bind, ↓aft_iterA, ↓aft_lc, ↓aft_for, ↓aft_forO, ↓aft_lcStep, ↓aft_some, ↓aft_yes, ↓aft_mrd, ↓aft_tab, ↓aft_match, ↓aft_mth, ↓aft_cutL, ↓aft_dnew, ↓aft_cutM, ↓aft_noP, ↓aft_someP, ↓aft_gstar, ↓aft_enum, ↓aft_rng, ↓aft_setD, ↓aft_loopC, ↓aft_loopN, ↓aft_setIx, ↓aft_steal, and_assoc, exists_eq_left', at_zero, at_succ, List.cons_append, List.nil_append, List.replicate, List.set_cons_zero, List.set_cons_succ, T.cold, T.colds, T.imm, T.imms, T.frz, T.frzs, hole_atom, hole_tup, hole_lst, hole_ro, hole_dct, hole_hole, tru_bl, tru_int, tru_non, tru_lst, tru_tup, bool_bl, ty_list, ty_lst, eq_int, ne_int, eqA_int, eqA_tup, eqA_lst, neA_int, neA_tup, neA_lst, eqA_same, neA_same, wipeE, allT, T.bools, itA_tup, itA_lst, ↓aft_lcCons, ↓aft_lcNil, tI, tS, tBl, tN, lt_ii, le_ii, gt_ii, ge_ii, sub_ii, add_ii, item_tup, item_lst, item_ro, len_str, len_lst, len_ro, len_tup, int_i, int_b, isN_n, isN_i, isN_t, notN_n, notN_i, notN_t, itA_str, le_pp, max_tt, min_tt, atI, ixN, tabT, isi_int_int, isi_int_bool, isi_int_str, isi_int_NoneType, isi_int_list, isi_int_tuple, isi_int_ro, isi_bool_int, isi_bool_bool, isi_bool_str, isi_bool_NoneType, isi_bool_list, isi_bool_tuple, isi_bool_ro, isi_str_int, isi_str_bool, isi_str_str, isi_str_NoneType, isi_str_list, isi_str_tuple, isi_str_ro, isi_list_int, isi_list_bool, isi_list_str, isi_list_NoneType, isi_list_list, isi_list_tuple, isi_list_ro, isi_tuple_int, isi_tuple_bool, isi_tuple_str, isi_tuple_NoneType, isi_tuple_list, isi_tuple_tuple, isi_tuple_ro, s1, s2, -List.map_map]
  simp [layT, reord]
end G
namespace G
open PySem L2 VS
variable {L : Lay} {o : List Int} {n : Nat}
theorem turned_ok {b1 b2 b3 b4 b5 : Bool} (h : Valid L) (ho : Ord o L.recs.length) : run__law_turned [layT b1 b2 b3 b4 L, .lst b5 (o.map tI)] = some (layT false true false true (reord L o)) := by
  have f := lay_frz (b1 := b1) (b2 := b2) (b3 := b3) (b4 := b4) h
  have c := lay_cold (b1 := b1) (b2 := b2) (b3 := b3) (b4 := b4) h
  have m := lay_imm h
  have v1 := h.vim
  have v2 := recs_imm h.rok
  have v3 := prs_imm L.waits
  have v4 := prs_imm L.beside
  have v5 := ints_imm o
  have ho1 : ∀ {b1 b2 b3 b4}, (layT b1 b2 b3 b4 L).isHole = false := rfl
  have hn : L.recs.length ≤ 1000 := by have := h.rlen; omega
  have hx : ∀ {b : Bool} {a : Int}, 0 ≤ a ∧ a < L.recs.length → idxF (.lst b (o.map tI)) [tI a] = some (tI (ix o a)) := fun h => idx_ix ho hn h
  have ol := ho.len
  refine run0_of ?_
  unfold sem__law_turned
  simp [↓aft_seq, ↓aft_if, ↓aft_asg, ↓aft_ret, ↓aft_drp, ↓aft_bin, ↓aft_fz, ↓aft_mv, ↓aft_nh, ↓aft_pk, ↓aft_binL, ↓aft_binR, ↓aft_set, ↓aft_tru, ↓aft_boolM, ↓aft_cmpB, ↓aft_and, ↓aft_or, ↓aft_not, ↓aft_andV, ↓aft_orV, ↓aft_notV, ↓aft_ifV, ↓aft_neg, ↓aft_nil, ↓aft_cons, ↓aft_tup, ↓aft_lst, ↓aft_un1, ↓aft_un2, ↓aft_call, ↓aft_callIO, ↓aft_gtup, ↓aft_gnil, ↓aft_gcons, ↓aft_par2, ↓aft_par3, ↓aft_isi, ↓aft_chain, ↓aft_pure, ↓aft_bind, ↓aft_iterA, ↓aft_lc, ↓aft_for, ↓aft_forO, ↓aft_lcStep, ↓aft_some, ↓aft_yes, ↓aft_mrd, ↓aft_tab, ↓aft_match, ↓aft_mth, ↓aft_cutL, ↓aft_dnew, ↓aft_cutM, ↓aft_noP, ↓aft_someP, ↓aft_gstar, ↓aft_enum, ↓aft_rng, ↓aft_setD, ↓aft_loopC, ↓aft_loopN, ↓aft_setIx, ↓aft_steal, and_assoc, exists_eq_left', at_zero, at_succ, List.cons_append, List.nil_append, List.replicate, List.set_cons_zero, List.set_cons_succ, T.cold, T.colds, T.imm, T.imms, T.frz, T.frzs, hole_atom, hole_tup, hole_lst, hole_ro, hole_dct, hole_hole, tru_bl, tru_int, tru_non, tru_lst, tru_tup, bool_bl, ty_list, ty_lst, eq_int, ne_int, eqA_int, eqA_tup, eqA_lst, neA_int, neA_tup, neA_lst, eqA_same, neA_same, wipeE, allT, T.bools, itA_tup, itA_lst, ↓aft_lcCons, ↓aft_lcNil, tI, tS, tBl, tN, lt_ii, le_ii, gt_ii, ge_ii, sub_ii, add_ii, item_tup, item_lst, item_ro, len_str, len_lst, len_ro, len_tup, int_i, int_b, isN_n, isN_i, isN_t, notN_n, notN_i, notN_t, itA_str, le_pp, max_tt, min_tt, atI, ixN, tabT, isi_int_int, isi_int_bool, isi_int_str, isi_int_NoneType, isi_int_list, isi_int_tuple, isi_int_ro, isi_bool_int, isi_bool_bool, isi_bool_str, isi_bool_NoneType, isi_bool_list, isi_bool_tuple, isi_bool_ro, isi_str_int, isi_str_bool, isi_str_str, isi_str_NoneType, isi_str_list, isi_str_tuple, isi_str_ro, isi_list_int, isi_list_bool, isi_list_str, isi_list_NoneType, isi_list_list, isi_list_tuple, isi_list_ro, isi_tuple_int, isi_tuple_bool, isi_tuple_str, isi_tuple_NoneType, isi_tuple_list, isi_tuple_tuple, isi_tuple_ro, f, c, m, ho1]
  simp only [layT]
  simp [↓aft_seq, ↓aft_if, ↓aft_asg, ↓aft_ret, ↓aft_drp, ↓aft_bin, ↓aft_fz, ↓aft_mv, ↓aft_nh, ↓aft_pk, ↓aft_binL, ↓aft_binR, ↓aft_set, ↓aft_tru, ↓aft_boolM, ↓aft_cmpB, ↓aft_and, ↓aft_or, ↓aft_not, ↓aft_andV, ↓aft_orV, ↓aft_notV, ↓aft_ifV, ↓aft_neg, ↓aft_nil, ↓aft_cons, ↓aft_tup, ↓aft_lst, ↓aft_un1, ↓aft_un2, ↓aft_call, ↓aft_callIO, ↓aft_gtup, ↓aft_gnil, ↓aft_gcons, ↓aft_par2, ↓aft_par3, ↓aft_isi, ↓aft_chain, ↓aft_pure, ↓aft_bind, ↓aft_iterA, ↓aft_lc, ↓aft_for, ↓aft_forO, ↓aft_lcStep, ↓aft_some, ↓aft_yes, ↓aft_mrd, ↓aft_tab, ↓aft_match, ↓aft_mth, ↓aft_cutL, ↓aft_dnew, ↓aft_cutM, ↓aft_noP, ↓aft_someP, ↓aft_gstar, ↓aft_enum, ↓aft_rng, ↓aft_setD, ↓aft_loopC, ↓aft_loopN, ↓aft_setIx, ↓aft_steal, and_assoc, exists_eq_left', at_zero, at_succ, List.cons_append, List.nil_append, List.replicate, List.set_cons_zero, List.set_cons_succ, T.cold, T.colds, T.imm, T.imms, T.frz, T.frzs, hole_atom, hole_tup, hole_lst, hole_ro, hole_dct, hole_hole, tru_bl, tru_int, tru_non, tru_lst, tru_tup, bool_bl, ty_list, ty_lst, eq_int, ne_int, eqA_int, eqA_tup, eqA_lst, neA_int, neA_tup, neA_lst, eqA_same, neA_same, wipeE, allT, T.bools, itA_tup, itA_lst, ↓aft_lcCons, ↓aft_lcNil, tI, tS, tBl, tN, lt_ii, le_ii, gt_ii, ge_ii, sub_ii, add_ii, item_tup, item_lst, item_ro, len_str, len_lst, len_ro, len_tup, int_i, int_b, isN_n, isN_i, isN_t, notN_n, notN_i, notN_t, itA_str, le_pp, max_tt, min_tt, atI, ixN, tabT, isi_int_int, isi_int_bool, isi_int_str, isi_int_NoneType, isi_int_list, isi_int_tuple, isi_int_ro, isi_bool_int, isi_bool_bool, isi_bool_str, isi_bool_NoneType, isi_bool_list, isi_bool_tuple, isi_bool_ro, isi_str_int, isi_str_bool, isi_str_str, isi_str_NoneType, isi_str_list, isi_str_tuple, isi_str_ro, isi_list_int, isi_list_bool, isi_list_str, isi_list_NoneType, isi_list_list, isi_list_tuple, isi_list_ro, isi_tuple_int, isi_tuple_bool, isi_tuple_str, isi_tuple_NoneType, isi_tuple_list, isi_tuple_tuple, isi_tuple_ro, v1, v2, v3, v4, v5, colds_imms v1, colds_imms v2, colds_imms v3, colds_imms v4, colds_imms v5, frzs_imms v1, frzs_imms v2, frzs_imms v3, frzs_imms v4, frzs_imms v5]
  refine (lc_mapP (g := fun p => prT (ix2 o p)) (by have := h.wlen; omega) fun p hp => ?_).mono fun acc ρ ⟨e1, e2⟩ => ?_
  · obtain ⟨a1, a2, a3, a4, _⟩ := h.wok.1 p hp
    simp [↓aft_seq, ↓aft_if, ↓aft_asg, ↓aft_ret, ↓aft_drp, ↓aft_bin, ↓aft_fz, ↓aft_mv, ↓aft_nh, ↓aft_pk, ↓aft_binL, ↓aft_binR, ↓aft_set, ↓aft_tru, ↓aft_boolM, ↓aft_cmpB, ↓aft_and, ↓aft_or, ↓aft_not, ↓aft_andV, ↓aft_orV, ↓aft_notV, ↓aft_ifV, ↓aft_neg, ↓aft_nil, ↓aft_cons, ↓aft_tup, ↓aft_lst, ↓aft_un1, ↓aft_un2, ↓aft_call, ↓aft_callIO, ↓aft_gtup, ↓aft_gnil, ↓aft_gcons, ↓aft_par2, ↓aft_par3, ↓aft_isi, ↓aft_chain, ↓aft_pure, ↓aft_bind, ↓aft_iterA, ↓aft_lc, ↓aft_for, ↓aft_forO, ↓aft_lcStep, ↓aft_some, ↓aft_yes, ↓aft_mrd, ↓aft_tab, ↓aft_match, ↓aft_mth, ↓aft_cutL, ↓aft_dnew, ↓aft_cutM, ↓aft_noP, ↓aft_someP, ↓aft_gstar, ↓aft_enum, ↓aft_rng, ↓aft_setD, ↓aft_loopC, ↓aft_loopN, ↓aft_setIx, ↓aft_steal, and_assoc, exists_eq_left', at_zero, at_succ, List.cons_append, List.nil_append, List.replicate, List.set_cons_zero, List.set_cons_succ, T.cold, T.colds, T.imm, T.imms, T.frz, T.frzs, hole_atom, hole_tup, hole_lst, hole_ro, hole_dct, hole_hole, tru_bl, tru_int, tru_non, tru_lst, tru_tup, bool_bl, ty_list, ty_lst, eq_int, ne_int, eqA_int, eqA_tup, eqA_lst, neA_int, neA_tup, neA_lst, eqA_same, neA_same, wipeE, allT, T.bools, itA_tup, itA_lst, ↓aft_lcCons, ↓aft_lcNil, tI, tS, tBl, tN, lt_ii, le_ii, gt_ii, ge_ii, sub_ii, add_ii, item_tup, item_lst, item_ro, len_str, len_lst, len_ro, len_tup, int_i, int_b, isN_n, isN_i, isN_t, notN_n, notN_i, notN_t, itA_str, le_pp, max_tt, min_tt, atI, ixN, tabT, isi_int_int, isi_int_bool, isi_int_str, isi_int_NoneType, isi_int_list, isi_int_tuple, isi_int_ro, isi_bool_int, isi_bool_bool, isi_bool_str, isi_bool_NoneType, isi_bool_list, isi_bool_tuple, isi_bool_ro, isi_str_int, isi_str_bool, isi_str_str, isi_str_NoneType, isi_str_list, isi_str_tuple, isi_str_ro, isi_list_int, isi_list_bool, isi_list_str, isi_list_NoneType, isi_list_list, isi_list_tuple, isi_list_ro, isi_tuple_int, isi_tuple_bool, isi_tuple_str, isi_tuple_NoneType, isi_tuple_list, isi_tuple_tuple, isi_tuple_ro, prT, hx ⟨a1, a2⟩, hx ⟨a3, a4⟩, ix2]
  subst e1 e2
  have s1 : sortT (.lst true (L.waits.map fun p => prT (ix2 o p))) = some (.lst true ((psort (L.waits.map (ix2 o))).map prT)) := by
    have := sort_prs (b := true) (L.waits.map (ix2 o)) (by have := h.wlen; simp; omega)
    rwa [List.map_map] at this
  have s2 : sortT (.lst true (L.beside.map fun p => prT (srt (ix2 o p)))) = some (.lst true ((psort (L.beside.map fun p => srt (ix2 o p))).map prT)) := by
    have := sort_prs (b := true) (L.beside.map fun p => srt (ix2 o p)) (by have := h.blen; simp; omega)
    rwa [List.map_map] at this
  have v6 := prs_imm (psort (L.waits.map (ix2 o)))
  simp [↓aft_seq, ↓aft_if, ↓aft_asg, ↓aft_ret, ↓aft_drp, ↓aft_bin, ↓aft_fz, ↓aft_mv, ↓aft_nh, ↓aft_pk, ↓aft_binL, ↓aft_binR, ↓aft_set, ↓aft_tru, ↓aft_boolM, ↓aft_cmpB, ↓aft_and, ↓aft_or, ↓aft_not, ↓aft_andV, ↓aft_orV, ↓aft_notV, ↓aft_ifV, ↓aft_neg, ↓aft_nil, ↓aft_cons, ↓aft_tup, ↓aft_lst, ↓aft_un1, ↓aft_un2, ↓aft_call, ↓aft_callIO, ↓aft_gtup, ↓aft_gnil, ↓aft_gcons, ↓aft_par2, ↓aft_par3, ↓aft_isi, ↓aft_chain, ↓aft_pure, ↓aft_bind, ↓aft_iterA, ↓aft_lc, ↓aft_for, ↓aft_forO, ↓aft_lcStep, ↓aft_some, ↓aft_yes, ↓aft_mrd, ↓aft_tab, ↓aft_match, ↓aft_mth, ↓aft_cutL, ↓aft_dnew, ↓aft_cutM, ↓aft_noP, ↓aft_someP, ↓aft_gstar, ↓aft_enum, ↓aft_rng, ↓aft_setD, ↓aft_loopC, ↓aft_loopN, ↓aft_setIx, ↓aft_steal, and_assoc, exists_eq_left', at_zero, at_succ, List.cons_append, List.nil_append, List.replicate, List.set_cons_zero, List.set_cons_succ, T.cold, T.colds, T.imm, T.imms, T.frz, T.frzs, hole_atom, hole_tup, hole_lst, hole_ro, hole_dct, hole_hole, tru_bl, tru_int, tru_non, tru_lst, tru_tup, bool_bl, ty_list, ty_lst, eq_int, ne_int, eqA_int, eqA_tup, eqA_lst, neA_int, neA_tup, neA_lst, eqA_same, neA_same, wipeE, allT, T.bools, itA_tup, itA_lst, ↓aft_lcCons, ↓aft_lcNil, tI, tS, tBl, tN, lt_ii, le_ii, gt_ii, ge_ii, sub_ii, add_ii, item_tup, item_lst, item_ro, len_str, len_lst, len_ro, len_tup, int_i, int_b, isN_n, isN_i, isN_t, notN_n, notN_i, notN_t, itA_str, le_pp, max_tt, min_tt, atI, ixN, tabT, isi_int_int, isi_int_bool, isi_int_str, isi_int_NoneType, isi_int_list, isi_int_tuple, isi_int_ro, isi_bool_int, isi_bool_bool, isi_bool_str, isi_bool_NoneType, isi_bool_list, isi_bool_tuple, isi_bool_ro, isi_str_int, isi_str_bool, isi_str_str, isi_str_NoneType, isi_str_list, isi_str_tuple, isi_str_ro, isi_list_int, isi_list_bool, isi_list_str, isi_list_NoneType, isi_list_list, isi_list_tuple, isi_list_ro, isi_tuple_int, isi_tuple_bool, isi_tuple_str, isi_tuple_NoneType, isi_tuple_list, isi_tuple_tuple, isi_tuple_ro, s1, v1, v4, v5, v6, colds_imms v4, frzs_imms v4, -List.map_map]
  refine (loop_inv (fun i ρ => ∃ a c, ρ = [.tup [.lst false L.views, .lst false (L.recs.map recT), .lst false (L.waits.map prT), .lst false (L.beside.map prT)], .lst b5 (o.map tI), .lst false L.views, .lst false (L.recs.map recT), .lst false (L.waits.map prT), .lst false (L.beside.map prT), .lst true ((psort (L.waits.map (ix2 o))).map prT), .lst true ((L.beside.take i).map fun p => prT (srt (ix2 o p))), a, c, .hole]) 0 ⟨_, _, rfl⟩ fun i x ρ hx2 ⟨a, c, e⟩ => ?_).mono fun c ρ hh => ?_
  · subst e
    rw [List.getElem?_map, Option.map_eq_some_iff] at hx2
    obtain ⟨p, hp, rfl⟩ := hx2
    have hil := (List.getElem?_eq_some_iff.mp hp).1
    obtain ⟨a1, a2, a3, a4, _⟩ := h.bok.1 p (List.mem_of_getElem? hp)
    have n1 : (L.beside.take (i + 1)).map (fun p => prT (srt (ix2 o p))) = (L.beside.take i).map (fun p => prT (srt (ix2 o p))) ++ [prT (srt (ix2 o p))] := by
      rw [List.take_succ, hp, List.map_append]; rfl
    rw [Nat.zero_add]
    simp [↓aft_seq, ↓aft_if, ↓aft_asg, ↓aft_ret, ↓aft_drp, ↓aft_bin, ↓aft_fz, ↓aft_mv, ↓aft_nh, ↓aft_pk, ↓aft_binL, ↓aft_binR, ↓aft_set, ↓aft_tru, ↓aft_boolM, ↓aft_cmpB, ↓aft_and, ↓aft_or, ↓aft_not, ↓aft_andV, ↓aft_orV, ↓aft_notV, ↓aft_ifV, ↓aft_neg, ↓aft_nil, ↓aft_cons, ↓aft_tup, ↓aft_lst, ↓aft_un1, ↓aft_un2, ↓aft_call, ↓aft_callIO, ↓aft_gtup, ↓aft_gnil, ↓aft_gcons, ↓aft_par2, ↓aft_par3, ↓aft_isi, ↓aft_chain, ↓aft_pure, ↓aft_bind, ↓aft_iterA, ↓aft_lc, ↓aft_for, ↓aft_forO, ↓aft_lcStep, ↓aft_some, ↓aft_yes, ↓aft_mrd, ↓aft_tab, ↓aft_match, ↓aft_mth, ↓aft_cutL, ↓aft_dnew, ↓aft_cutM, ↓aft_noP, ↓aft_someP, ↓aft_gstar, ↓aft_enum, ↓aft_rng, ↓aft_setD, ↓aft_loopC, ↓aft_loopN, ↓aft_setIx, ↓aft_steal, and_assoc, exists_eq_left', at_zero, at_succ, List.cons_append, List.nil_append, List.replicate, List.set_cons_zero, List.set_cons_succ, T.cold, T.colds, T.imm, T.imms, T.frz, T.frzs, hole_atom, hole_tup, hole_lst, hole_ro, hole_dct, hole_hole, tru_bl, tru_int, tru_non, tru_lst, tru_tup, bool_bl, ty_list, ty_lst, eq_int, ne_int, eqA_int, eqA_tup, eqA_lst, neA_int, neA_tup, neA_lst, eqA_same, neA_same, wipeE, allT, T.bools, itA_tup, itA_lst, ↓aft_lcCons, ↓aft_lcNil, tI, tS, tBl, tN, lt_ii, le_ii, gt_ii, ge_ii, sub_ii, add_ii, item_tup, item_lst, item_ro, len_str, len_lst, len_ro, len_tup, int_i, int_b, isN_n, isN_i, isN_t, notN_n, notN_i, notN_t, itA_str, le_pp, max_tt, min_tt, atI, ixN, tabT, isi_int_int, isi_int_bool, isi_int_str, isi_int_NoneType, isi_int_list, isi_int_tuple, isi_int_ro, isi_bool_int, isi_bool_bool, isi_bool_str, isi_bool_NoneType, isi_bool_list, isi_bool_tuple, isi_bool_ro, isi_str_int, isi_str_bool, isi_str_str, isi_str_NoneType, isi_str_list, isi_str_tuple, isi_str_ro, isi_list_int, isi_list_bool, isi_list_str, isi_list_NoneType, isi_list_list, isi_list_tuple, isi_list_ro, isi_tuple_int, isi_tuple_bool, isi_tuple_str, isi_tuple_NoneType, isi_tuple_list, isi_tuple_tuple, isi_tuple_ro, prT, hx ⟨a1, a2⟩, hx ⟨a3, a4⟩, max_tt, min_tt, appF, -List.map_take]
    have hb := h.blen
    refine ⟨by omega, ?_⟩
    exact n1.symm
  · obtain ⟨e, a, c2, e2⟩ := hh
    rw [Nat.zero_add, List.length_map, List.take_length] at e2
    subst e e2
    simp [↓aft_seq, ↓aft_if, ↓aft_asg, ↓aft_ret, ↓aft_drp, ↓aft_bin, ↓aft_fz, ↓aft_mv, ↓aft_nh, ↓aft_pk, ↓aft_binL, ↓aft_binR, ↓aft_set, ↓aft_tru, ↓aft_boolM, ↓aft_cmpB, ↓aft_and, ↓aft_or, ↓aft_not, ↓aft_andV, ↓aft_orV, ↓aft_notV, ↓aft_ifV, ↓aft_neg, ↓aft_nil, ↓aft_cons, ↓aft_tup, ↓aft_lst, ↓aft_un1, ↓aft_un2, ↓aft_call, ↓aft_callIO, ↓aft_gtup, ↓aft_gnil, ↓aft_gcons, ↓aft_par2, ↓aft_par3, ↓aft_isi, ↓aft_chain, ↓aft_pure, ↓aft_bind, ↓aft_iterA, ↓aft_lc, ↓aft_for, ↓aft_forO, ↓aft_lcStep, ↓aft_some, ↓aft_yes, ↓aft_mrd, ↓aft_tab, ↓aft_match, ↓aft_mth, ↓aft_cutL, ↓aft_dnew, ↓aft_cutM, ↓aft_noP, ↓aft_someP, ↓aft_gstar, ↓aft_enum, ↓aft_rng, ↓aft_setD, ↓aft_loopC, ↓aft_loopN, ↓aft_setIx, ↓aft_steal, and_assoc, exists_eq_left', at_zero, at_succ, List.cons_append, List.nil_append, List.replicate, List.set_cons_zero, List.set_cons_succ, T.cold, T.colds, T.imm, T.imms, T.frz, T.frzs, hole_atom, hole_tup, hole_lst, hole_ro, hole_dct, hole_hole, tru_bl, tru_int, tru_non, tru_lst, tru_tup, bool_bl, ty_list, ty_lst, eq_int, ne_int, eqA_int, eqA_tup, eqA_lst, neA_int, neA_tup, neA_lst, eqA_same, neA_same, wipeE, allT, T.bools, itA_tup, itA_lst, ↓aft_lcCons, ↓aft_lcNil, tI, tS, tBl, tN, lt_ii, le_ii, gt_ii, ge_ii, sub_ii, add_ii, item_tup, item_lst, item_ro, len_str, len_lst, len_ro, len_tup, int_i, int_b, isN_n, isN_i, isN_t, notN_n, notN_i, notN_t, itA_str, le_pp, max_tt, min_tt, atI, ixN, tabT, isi_int_int, isi_int_bool, isi_int_str, isi_int_NoneType, isi_int_list, isi_int_tuple, isi_int_ro, isi_bool_int, isi_bool_bool, isi_bool_str, isi_bool_NoneType, isi_bool_list, isi_bool_tuple, isi_bool_ro, isi_str_int, isi_str_bool, isi_str_str, isi_str_NoneType, isi_str_list, isi_str_tuple, isi_str_ro, isi_list_int, isi_list_bool, isi_list_str, isi_list_NoneType, isi_list_list, isi_list_tuple, isi_list_ro, isi_tuple_int, isi_tuple_bool, isi_tuple_str, isi_tuple_NoneType, isi_tuple_list, isi_tuple_tuple, isi_tuple_ro, v1, v5, colds_imms v1, frzs_imms v1, colds_imms v5, frzs_imms v5]
    refine (lc_mapP (g := fun k => recT (recD L.recs k)) (by have := h.rlen; omega) fun k hk => ?_).mono fun acc ρ ⟨e1, e2⟩ => ?_
    · simp [↓aft_seq, ↓aft_if, ↓aft_asg, ↓aft_ret, ↓aft_drp, ↓aft_bin, ↓aft_fz, ↓aft_mv, ↓aft_nh, ↓aft_pk, ↓aft_binL, ↓aft_binR, ↓aft_set, ↓aft_tru, ↓aft_boolM, ↓aft_cmpB, ↓aft_and, ↓aft_or, ↓aft_not, ↓aft_andV, ↓aft_orV, ↓aft_notV, ↓aft_ifV, ↓aft_neg, ↓aft_nil, ↓aft_cons, ↓aft_tup, ↓aft_lst, ↓aft_un1, ↓aft_un2, ↓aft_call, ↓aft_callIO, ↓aft_gtup, ↓aft_gnil, ↓aft_gcons, ↓aft_par2, ↓aft_par3, ↓aft_isi, ↓aft_chain, ↓aft_pure, ↓aft_bind, ↓aft_iterA, ↓aft_lc, ↓aft_for, ↓aft_forO, ↓aft_lcStep, ↓aft_some, ↓aft_yes, ↓aft_mrd, ↓aft_tab, ↓aft_match, ↓aft_mth, ↓aft_cutL, ↓aft_dnew, ↓aft_cutM, ↓aft_noP, ↓aft_someP, ↓aft_gstar, ↓aft_enum, ↓aft_rng, ↓aft_setD, ↓aft_loopC, ↓aft_loopN, ↓aft_setIx, ↓aft_steal, and_assoc, exists_eq_left', at_zero, at_succ, List.cons_append, List.nil_append, List.replicate, List.set_cons_zero, List.set_cons_succ, T.cold, T.colds, T.imm, T.imms, T.frz, T.frzs, hole_atom, hole_tup, hole_lst, hole_ro, hole_dct, hole_hole, tru_bl, tru_int, tru_non, tru_lst, tru_tup, bool_bl, ty_list, ty_lst, eq_int, ne_int, eqA_int, eqA_tup, eqA_lst, neA_int, neA_tup, neA_lst, eqA_same, neA_same, wipeE, allT, T.bools, itA_tup, itA_lst, ↓aft_lcCons, ↓aft_lcNil, tI, tS, tBl, tN, lt_ii, le_ii, gt_ii, ge_ii, sub_ii, add_ii, item_tup, item_lst, item_ro, len_str, len_lst, len_ro, len_tup, int_i, int_b, isN_n, isN_i, isN_t, notN_n, notN_i, notN_t, itA_str, le_pp, max_tt, min_tt, atI, ixN, tabT, isi_int_int, isi_int_bool, isi_int_str, isi_int_NoneType, isi_int_list, isi_int_tuple, isi_int_ro, isi_bool_int, isi_bool_bool, isi_bool_str, isi_bool_NoneType, isi_bool_list, isi_bool_tuple, isi_bool_ro, isi_str_int, isi_str_bool, isi_str_str, isi_str_NoneType, isi_str_list, isi_str_tuple, isi_str_ro, isi_list_int, isi_list_bool, isi_list_str, isi_list_NoneType, isi_list_list, isi_list_tuple, isi_list_ro, isi_tuple_int, isi_tuple_bool, isi_tuple_str, isi_tuple_NoneType, isi_tuple_list, isi_tuple_tuple, isi_tuple_ro, -item_lst, rec_at h.rok (ho.mem.mp hk)]
    subst e1 e2
    simp [↓aft_seq, ↓aft_if, ↓aft_asg, ↓aft_ret, ↓aft_drp, ↓aft_bin, ↓aft_fz, ↓aft_mv, ↓aft_nh, ↓aft_pk, ↓aft_binL, ↓aft_binR, ↓aft_set, ↓aft_tru, ↓aft_boolM, ↓aft_cmpB, ↓aft_and, ↓aft_or, ↓aft_not, ↓aft_andV, ↓aft_orV, ↓aft_notV, ↓aft_ifV, ↓aft_neg, ↓aft_nil, ↓aft_cons, ↓aft_tup, ↓aft_lst, ↓aft_un1, ↓aft_un2, ↓aft_call, ↓aft_callIO, ↓aft_gtup, ↓aft_gnil, ↓aft_gcons, ↓aft_par2, ↓aft_par3, ↓aft_isi, ↓aft_chain, ↓aft_pure, ↓aft_bind, ↓aft_iterA, ↓aft_lc, ↓aft_for, ↓aft_forO, ↓aft_lcStep, ↓aft_some, ↓aft_yes, ↓aft_mrd, ↓aft_tab, ↓aft_match, ↓aft_mth, ↓aft_cutL, ↓aft_dnew, ↓aft_cutM, ↓aft_noP, ↓aft_someP, ↓aft_gstar, ↓aft_enum, ↓aft_rng, ↓aft_setD, ↓aft_loopC, ↓aft_loopN, ↓aft_setIx, ↓aft_steal, and_assoc, exists_eq_left', at_zero, at_succ, List.cons_append, List.nil_append, List.replicate, List.set_cons_zero, List.set_cons_succ, T.cold, T.colds, T.imm, T.imms, T.frz, T.frzs, hole_atom, hole_tup, hole_lst, hole_ro, hole_dct, hole_hole, tru_bl, tru_int, tru_non, tru_lst, tru_tup, bool_bl, ty_list, ty_lst, eq_int, ne_int, eqA_int, eqA_tup, eqA_lst, neA_int, neA_tup, neA_lst, eqA_same, neA_same, wipeE, allT, T.bools, itA_tup, itA_lst, ↓aft_lcCons, ↓aft_lcNil, tI, tS, tBl, tN, lt_ii, le_ii, gt_ii, ge_ii, sub_ii, add_ii, item_tup, item_lst, item_ro, len_str, len_lst, len_ro, len_tup, int_i, int_b, isN_n, isN_i, isN_t, notN_n, notN_i, notN_t, itA_str, le_pp, max_tt, min_tt, atI, ixN, tabT, isi_int_int, isi_int_bool, isi_int_str, isi_int_NoneType, isi_int_list, isi_int_tuple, isi_int_ro, isi_bool_int, isi_bool_bool, isi_bool_str, isi_bool_NoneType, isi_bool_list, isi_bool_tuple, isi_bool_ro, isi_str_int, isi_str_bool, isi_str_str, isi_str_NoneType, isi_str_list, isi_str_tuple, isi_str_ro, isi_list_int, isi_list_bool, isi_list_str, isi_list_NoneType, isi_list_list, isi_list_tuple, isi_list_ro, isi_tuple_int, isi_tuple_bool, isi_tuple_str, isi_tuple_NoneType, isi_tuple_list, isi_tuple_tuple, isi_tuple_ro, s2, v6, colds_imms v6, frzs_imms v6, -List.map_map]
    simp [layT, reord]
end G
namespace G
open PySem L2 VS
/-! ### draws -/
def Fv (k : Nat) (t : T) : Prop := ∃ a b c : Int, t = .lst true [tI a, tI b, tI c] ∧ 0 ≤ a ∧ 0 ≤ b ∧ b < 2 ^ 200 ∧ 0 ≤ c ∧ c ≤ k
theorem Fv.mono {k k' : Nat} {t : T} (h : Fv k t) (l : k ≤ k') : Fv k' t := by
  obtain ⟨a, b, c, e, h1, h2, h3, h4, h5⟩ := h
  exact ⟨a, b, c, e, h1, h2, h3, h4, by omega⟩
theorem log2_lt' {i : Int} {k : Nat} (h1 : 0 ≤ i) (h2 : i < 2 ^ k) (hk : 0 < k) : i.natAbs.log2 < k := by
  by_cases e : i.natAbs = 0
  · rw [e]; simpa using hk
  · refine (Nat.log2_lt e).mpr ?_
    have : (i.natAbs : Int) < 2 ^ k := by omega
    exact_mod_cast this
theorem pow_ok {i : Int} {j k : Nat} (h1 : 0 ≤ i) (h2 : i < 2 ^ k) (hk : 0 < k) (hj : k * j ≤ 2 ^ 27) : powT (.atom (.int i)) (.atom (.int (j : Nat))) = some (.atom (.int (i ^ j))) := by
  have := log2_lt' h1 h2 hk
  simp only [powT, iiT]
  rw [if_pos]
  · simp
  · refine ⟨by omega, ?_⟩
    have h3 : (i.natAbs.log2 + 1) * j ≤ k * j := Nat.mul_le_mul_right _ (by omega)
    have h4 : (((i.natAbs.log2 + 1) * j : Nat) : Int) ≤ ((2 ^ 27 : Nat) : Int) := by exact_mod_cast (Nat.le_trans h3 hj)
    simpa using h4
theorem mul_ok {i j : Int} {k l : Nat} (h1 : 0 ≤ i) (h2 : i < 2 ^ k) (hk : 0 < k) (h3 : 0 ≤ j) (h4 : j < 2 ^ l) (hl : 0 < l) (h : k + l ≤ 1000000) : mulT (.atom (.int i)) (.atom (.int j)) = some (.atom (.int (i * j))) := by
  have a := log2_lt' h1 h2 hk
  have b := log2_lt' h3 h4 hl
  simp only [mulT, mulI]
  rw [if_pos (by omega)]
  rfl
theorem mod_ok {i j : Int} (h : 0 < j) : modT (.atom (.int i)) (.atom (.int j)) = some (.atom (.int (i % j))) := by
  simp [modT, iiT, h]
theorem fdiv_ok {i j : Int} (h : 0 < j) (h2 : j < 2 ^ 900) : fdivT (.atom (.int i)) (.atom (.int j)) = some (.atom (.int (i / j))) := by
  have := log2_lt' (k := 900) (by omega) h2 (by omega)
  simp only [fdivT, iiT]
  rw [if_pos ⟨h, by omega⟩]
  rfl
theorem dip_ok {k : Nat} {F : T} {m : Int} (hF : Fv k F) (hk : k ≤ 1000000000) (hm : 0 < m) (hm2 : m ≤ 1000000000000) : ∃ d F', run__law_dip [F, tI m] = some (tI d, F') ∧ 0 ≤ d ∧ d < m ∧ Fv (k + 1) F' := by
  obtain ⟨a, b, c, rfl, h1, h2, h3, h4, h5⟩ := hF
  have key := run1_of (sem := sem__law_dip) (n := 2) (ts := [.lst true [tI a, tI b, tI c], tI m]) (R := fun t t0 => ∃ d, t = tI d ∧ 0 ≤ d ∧ d < m ∧ Fv (k + 1) t0) ?_
  · obtain ⟨t, t0, e, d, rfl, q1, q2, q3⟩ := key
    exact ⟨d, t0, e, q1, q2, q3⟩
  · have m0 := Int.emod_nonneg
    unfold sem__law_dip
    by_cases ha : 0 < a
    · simp [↓aft_seq, ↓aft_if, ↓aft_asg, ↓aft_ret, ↓aft_drp, ↓aft_bin, ↓aft_fz, ↓aft_mv, ↓aft_nh, ↓aft_pk, ↓aft_binL, ↓aft_binR, ↓aft_set, ↓aft_tru, ↓aft_boolM, ↓aft_cmpB, ↓aft_and, ↓aft_or, ↓aft_not, ↓aft_andV, ↓aft_orV, ↓aft_notV, ↓aft_ifV, ↓aft_neg, ↓aft_nil, ↓aft_cons, ↓aft_tup, ↓aft_lst, ↓aft_un1, ↓aft_un2, ↓aft_call, ↓aft_callIO, ↓aft_gtup, ↓aft_gnil, ↓aft_gcons, ↓aft_par2, ↓aft_par3, ↓aft_isi, ↓aft_chain, ↓aft_pure, ↓aft_bind, ↓aft_iterA, ↓aft_lc, ↓aft_for, ↓aft_forO, ↓aft_lcStep, ↓aft_some, ↓aft_yes, ↓aft_mrd, ↓aft_tab, ↓aft_match, ↓aft_mth, ↓aft_cutL, ↓aft_dnew, ↓aft_cutM, ↓aft_noP, ↓aft_someP, ↓aft_gstar, ↓aft_enum, ↓aft_rng, ↓aft_setD, ↓aft_loopC, ↓aft_loopN, ↓aft_setIx, ↓aft_steal, and_assoc, exists_eq_left', at_zero, at_succ, List.cons_append, List.nil_append, List.replicate, List.set_cons_zero, List.set_cons_succ, T.cold, T.colds, T.imm, T.imms, T.frz, T.frzs, hole_atom, hole_tup, hole_lst, hole_ro, hole_dct, hole_hole, tru_bl, tru_int, tru_non, tru_lst, tru_tup, bool_bl, ty_list, ty_lst, eq_int, ne_int, eqA_int, eqA_tup, eqA_lst, neA_int, neA_tup, neA_lst, eqA_same, neA_same, wipeE, allT, T.bools, itA_tup, itA_lst, ↓aft_lcCons, ↓aft_lcNil, tI, tS, tBl, tN, lt_ii, le_ii, gt_ii, ge_ii, sub_ii, add_ii, item_tup, item_lst, item_ro, len_str, len_lst, len_ro, len_tup, int_i, int_b, isN_n, isN_i, isN_t, notN_n, notN_i, notN_t, itA_str, le_pp, max_tt, min_tt, atI, ixN, tabT, isi_int_int, isi_int_bool, isi_int_str, isi_int_NoneType, isi_int_list, isi_int_tuple, isi_int_ro, isi_bool_int, isi_bool_bool, isi_bool_str, isi_bool_NoneType, isi_bool_list, isi_bool_tuple, isi_bool_ro, isi_str_int, isi_str_bool, isi_str_str, isi_str_NoneType, isi_str_list, isi_str_tuple, isi_str_ro, isi_list_int, isi_list_bool, isi_list_str, isi_list_NoneType, isi_list_list, isi_list_tuple, isi_list_ro, isi_tuple_int, isi_tuple_bool, isi_tuple_str, isi_tuple_NoneType, isi_tuple_list, isi_tuple_tuple, isi_tuple_ro, setF, ha, mod_ok hm, fdiv_ok hm (show m < 2 ^ 900 by omega)]
      exact ⟨Int.emod_nonneg _ (by omega), Int.emod_lt_of_pos _ hm, _, _, _, rfl, Int.ediv_nonneg h1 (by omega), h2, h3, h4, by omega⟩
    · have p1 : powT (.atom (.int 10)) (.atom (.int 41)) = some (.atom (.int (10 ^ 41))) := pow_ok (j := 41) (k := 4) (by omega) (by omega) (by omega) (by omega)
      have p2 : powT (.atom (.int 10)) (.atom (.int 38)) = some (.atom (.int (10 ^ 38))) := pow_ok (j := 38) (k := 4) (by omega) (by omega) (by omega) (by omega)
      have p3 : powT (.atom (.int 10)) (.atom (.int 7)) = some (.atom (.int (10 ^ 7))) := pow_ok (j := 7) (k := 4) (by omega) (by omega) (by omega) (by omega)
      have x1 : mulT (.atom (.int 86028121)) (.atom (.int (c + 1))) = some (.atom (.int (86028121 * (c + 1)))) := mul_ok (k := 40) (l := 40) (by omega) (by omega) (by omega) (by omega) (by omega) (by omega) (by omega)
      have x2 : mulT (.atom (.int 41161739)) (.atom (.int (c + 1))) = some (.atom (.int (41161739 * (c + 1)))) := mul_ok (k := 40) (l := 40) (by omega) (by omega) (by omega) (by omega) (by omega) (by omega) (by omega)
      have y1 : powT (.atom (.int (b + 86028121 * (c + 1)))) (.atom (.int 3)) = some (.atom (.int ((b + 86028121 * (c + 1)) ^ 3))) := pow_ok (j := 3) (k := 300) (by omega) (by omega) (by omega) (by omega)
      generalize hx : (b + 86028121 * (c + 1)) ^ 3 = x at y1
      have r1 := Int.emod_nonneg x (b := 100000000000000000000000000000000000000009) (by omega)
      have r2 := Int.emod_lt_of_pos x (b := 100000000000000000000000000000000000000009) (by omega)
      have y2 : powT (.atom (.int (x % 100000000000000000000000000000000000000009 + 41161739 * (c + 1)))) (.atom (.int 2)) = some (.atom (.int ((x % 100000000000000000000000000000000000000009 + 41161739 * (c + 1)) ^ 2))) := pow_ok (j := 2) (k := 300) (by omega) (by omega) (by omega) (by omega)
      have z1 : modT (.atom (.int x)) (.atom (.int 100000000000000000000000000000000000000009)) = some (.atom (.int (x % 100000000000000000000000000000000000000009))) := mod_ok (by omega)
      generalize hy : (x % 100000000000000000000000000000000000000009 + 41161739 * (c + 1)) ^ 2 = y at y2
      have z2 : modT (.atom (.int y)) (.atom (.int 100000000000000000000000000000000000067)) = some (.atom (.int (y % 100000000000000000000000000000000000067))) := mod_ok (by omega)
      have z3 : ∀ w : Int, fdivT (.atom (.int w)) (.atom (.int 10000000)) = some (.atom (.int (w / 10000000))) := fun w => fdiv_ok (by omega) (by omega)
      simp [↓aft_seq, ↓aft_if, ↓aft_asg, ↓aft_ret, ↓aft_drp, ↓aft_bin, ↓aft_fz, ↓aft_mv, ↓aft_nh, ↓aft_pk, ↓aft_binL, ↓aft_binR, ↓aft_set, ↓aft_tru, ↓aft_boolM, ↓aft_cmpB, ↓aft_and, ↓aft_or, ↓aft_not, ↓aft_andV, ↓aft_orV, ↓aft_notV, ↓aft_ifV, ↓aft_neg, ↓aft_nil, ↓aft_cons, ↓aft_tup, ↓aft_lst, ↓aft_un1, ↓aft_un2, ↓aft_call, ↓aft_callIO, ↓aft_gtup, ↓aft_gnil, ↓aft_gcons, ↓aft_par2, ↓aft_par3, ↓aft_isi, ↓aft_chain, ↓aft_pure, ↓aft_bind, ↓aft_iterA, ↓aft_lc, ↓aft_for, ↓aft_forO, ↓aft_lcStep, ↓aft_some, ↓aft_yes, ↓aft_mrd, ↓aft_tab, ↓aft_match, ↓aft_mth, ↓aft_cutL, ↓aft_dnew, ↓aft_cutM, ↓aft_noP, ↓aft_someP, ↓aft_gstar, ↓aft_enum, ↓aft_rng, ↓aft_setD, ↓aft_loopC, ↓aft_loopN, ↓aft_setIx, ↓aft_steal, and_assoc, exists_eq_left', at_zero, at_succ, List.cons_append, List.nil_append, List.replicate, List.set_cons_zero, List.set_cons_succ, T.cold, T.colds, T.imm, T.imms, T.frz, T.frzs, hole_atom, hole_tup, hole_lst, hole_ro, hole_dct, hole_hole, tru_bl, tru_int, tru_non, tru_lst, tru_tup, bool_bl, ty_list, ty_lst, eq_int, ne_int, eqA_int, eqA_tup, eqA_lst, neA_int, neA_tup, neA_lst, eqA_same, neA_same, wipeE, allT, T.bools, itA_tup, itA_lst, ↓aft_lcCons, ↓aft_lcNil, tI, tS, tBl, tN, lt_ii, le_ii, gt_ii, ge_ii, sub_ii, add_ii, item_tup, item_lst, item_ro, len_str, len_lst, len_ro, len_tup, int_i, int_b, isN_n, isN_i, isN_t, notN_n, notN_i, notN_t, itA_str, le_pp, max_tt, min_tt, atI, ixN, tabT, isi_int_int, isi_int_bool, isi_int_str, isi_int_NoneType, isi_int_list, isi_int_tuple, isi_int_ro, isi_bool_int, isi_bool_bool, isi_bool_str, isi_bool_NoneType, isi_bool_list, isi_bool_tuple, isi_bool_ro, isi_str_int, isi_str_bool, isi_str_str, isi_str_NoneType, isi_str_list, isi_str_tuple, isi_str_ro, isi_list_int, isi_list_bool, isi_list_str, isi_list_NoneType, isi_list_list, isi_list_tuple, isi_list_ro, isi_tuple_int, isi_tuple_bool, isi_tuple_str, isi_tuple_NoneType, isi_tuple_list, isi_tuple_tuple, isi_tuple_ro, setF, ha, p1, p2, p3, x1, x2, y1, y2, z1, z2, z3, mod_ok hm]
      exact ⟨Int.emod_nonneg _ (by omega), Int.emod_lt_of_pos _ hm, _, _, _, rfl, h1, h2, h3, by omega, by omega⟩
/-! an order drawn -/
theorem seqIx {i : Int} {n : Nat} (h1 : 0 ≤ i) (h2 : i < n) : seqIndex? i n = some i.toNat := by
  have : ¬ i < 0 := by omega
  simp [seqIndex?, h1, h2, this]
theorem pop_ok {xs : List T} {d : Int} (h1 : 0 ≤ d) (h2 : d < xs.length) (hl : xs.length ≤ 1000000) : popF xs [tI d] = some (xs[d.toNat]'(by omega), xs.eraseIdx d.toNat) := by
  simp only [popF]
  rw [if_pos (by omega), seqIx h1 h2]
  simp [show d.toNat < xs.length by omega]
theorem erase_map {α : Type} {f : α → T} : ∀ {xs : List α} {j : Nat}, (xs.map f).eraseIdx j = (xs.eraseIdx j).map f
  | [], _ => rfl
  | _ :: _, 0 => rfl
  | x :: xs, j + 1 => by simp [List.eraseIdx_cons_succ, erase_map (xs := xs) (j := j)]
theorem pop_map {α : Type} {f : α → T} {xs : List α} {d : Int} (h1 : 0 ≤ d) (h2 : d < xs.length) (hl : xs.length ≤ 1000000) : popF (xs.map f) [tI d] = some (f (xs[d.toNat]'(by omega)), (xs.eraseIdx d.toNat).map f) := by
  rw [pop_ok h1 (by simpa using h2) (by simpa using hl), List.getElem_map]
  congr 2
  rw [erase_map]
theorem out_perm {α : Type} {xs : List α} {j : Nat} (h : j < xs.length) : (xs[j] :: xs.eraseIdx j).Perm xs := by
  induction xs generalizing j with
  | nil => simp at h
  | cons x xs ih =>
    cases j with
    | zero => simp
    | succ j =>
      simp only [List.getElem_cons_succ, List.eraseIdx_cons_succ]
      exact (List.Perm.swap _ _ _).trans ((ih (by simpa using h)).cons x)
theorem order_ok {k n : Nat} {F : T} (hF : Fv k F) (hk : k ≤ 900000000) (hn : n ≤ 1000) : ∃ o F', run__law_order [F, tI n] = some (.lst true (o.map tI), F') ∧ Ord o n ∧ Fv (k + n) F' := by
  have key := run1_of (sem := sem__law_order) (n := 2) (ts := [F, tI n]) (R := fun t t0 => ∃ o, t = .lst true (o.map tI) ∧ Ord o n ∧ Fv (k + n) t0) ?_
  · obtain ⟨t, t0, e, o, rfl, q1, q2⟩ := key
    exact ⟨o, t0, e, q1, q2⟩
  unfold sem__law_order
  have hF0 : F.isHole = false := by obtain ⟨a, b, c, rfl, _⟩ := hF; rfl
  simp [↓aft_seq, ↓aft_if, ↓aft_asg, ↓aft_ret, ↓aft_drp, ↓aft_bin, ↓aft_fz, ↓aft_mv, ↓aft_nh, ↓aft_pk, ↓aft_binL, ↓aft_binR, ↓aft_set, ↓aft_tru, ↓aft_boolM, ↓aft_cmpB, ↓aft_and, ↓aft_or, ↓aft_not, ↓aft_andV, ↓aft_orV, ↓aft_notV, ↓aft_ifV, ↓aft_neg, ↓aft_nil, ↓aft_cons, ↓aft_tup, ↓aft_lst, ↓aft_un1, ↓aft_un2, ↓aft_call, ↓aft_callIO, ↓aft_gtup, ↓aft_gnil, ↓aft_gcons, ↓aft_par2, ↓aft_par3, ↓aft_isi, ↓aft_chain, ↓aft_pure, ↓aft_bind, ↓aft_iterA, ↓aft_lc, ↓aft_for, ↓aft_forO, ↓aft_lcStep, ↓aft_some, ↓aft_yes, ↓aft_mrd, ↓aft_tab, ↓aft_match, ↓aft_mth, ↓aft_cutL, ↓aft_dnew, ↓aft_cutM, ↓aft_noP, ↓aft_someP, ↓aft_gstar, ↓aft_enum, ↓aft_rng, ↓aft_setD, ↓aft_loopC, ↓aft_loopN, ↓aft_setIx, ↓aft_steal, and_assoc, exists_eq_left', at_zero, at_succ, List.cons_append, List.nil_append, List.replicate, List.set_cons_zero, List.set_cons_succ, T.cold, T.colds, T.imm, T.imms, T.frz, T.frzs, hole_atom, hole_tup, hole_lst, hole_ro, hole_dct, hole_hole, tru_bl, tru_int, tru_non, tru_lst, tru_tup, bool_bl, ty_list, ty_lst, eq_int, ne_int, eqA_int, eqA_tup, eqA_lst, neA_int, neA_tup, neA_lst, eqA_same, neA_same, wipeE, allT, T.bools, itA_tup, itA_lst, ↓aft_lcCons, ↓aft_lcNil, tI, tS, tBl, tN, lt_ii, le_ii, gt_ii, ge_ii, sub_ii, add_ii, item_tup, item_lst, item_ro, len_str, len_lst, len_ro, len_tup, int_i, int_b, isN_n, isN_i, isN_t, notN_n, notN_i, notN_t, itA_str, le_pp, max_tt, min_tt, atI, ixN, tabT, isi_int_int, isi_int_bool, isi_int_str, isi_int_NoneType, isi_int_list, isi_int_tuple, isi_int_ro, isi_bool_int, isi_bool_bool, isi_bool_str, isi_bool_NoneType, isi_bool_list, isi_bool_tuple, isi_bool_ro, isi_str_int, isi_str_bool, isi_str_str, isi_str_NoneType, isi_str_list, isi_str_tuple, isi_str_ro, isi_list_int, isi_list_bool, isi_list_str, isi_list_NoneType, isi_list_list, isi_list_tuple, isi_list_ro, isi_tuple_int, isi_tuple_bool, isi_tuple_str, isi_tuple_NoneType, isi_tuple_list, isi_tuple_tuple, isi_tuple_ro, hF0, lrg1, lrgF, aft_lift, show (n : Int) ≤ 16777216 by omega, range_tI, show (n : Int) < 4611686018427387904 by omega, show -4611686018427387904 ≤ (n : Int) by omega]
  have s := lc_inv (a := setv 3) (c := yesB) (e := mth 2 popF (consA (callIO 2 run__law_dip 0 (consA (pk 2 lenT) nilA)) nilA)) (own := [3])
    (fun i acc ρ => ∃ F' os rest, acc = os.map tI ∧ ρ = [F', tI n, .lst true (rest.map tI), .hole] ∧ (os ++ rest).Perm (rngI n) ∧ os.length = i ∧ Fv (k + i) F') (xs := (rngI n).map tI) (acc := []) (ρ := [F, tI n, .lst true ((rngI n).map tI), .hole]) 0
    ⟨F, [], rngI n, rfl, rfl, List.Perm.refl _, rfl, hF⟩ (by simp [rng_len]; omega) fun i x acc ρ hx ⟨F', os, rest, e1, e2, pm, ol, hF'⟩ => ?_
  · refine s.mono fun acc ρ ⟨F', os, rest, e1, e2, pm, ol, hF'⟩ => ?_
    subst e1 e2
    have l1 := pm.length_eq
    simp only [Nat.zero_add, List.length_map, rng_len, List.length_append] at ol l1 hF'
    have r0 : rest = [] := List.eq_nil_of_length_eq_zero (by omega)
    subst r0
    refine ⟨F', rfl, ?_, os, rfl, by simpa [Ord] using pm, hF'⟩
    obtain ⟨a, b, c, rfl, _⟩ := hF'; rfl
  · subst e1 e2
    have hil := (List.getElem?_eq_some_iff.mp hx).1
    have l1 := pm.length_eq
    simp only [Nat.zero_add, List.length_map, rng_len, List.length_append] at ol l1 hF' hil
    obtain ⟨d, F2, e, d1, d2, hF2⟩ := dip_ok (m := rest.length) hF' (by omega) (by omega) (by omega)
    have pp := pop_map (f := tI) (xs := rest) d1 d2 (by omega)
    have hF0 : F'.isHole = false := by obtain ⟨a, b, c, rfl, _⟩ := hF'; rfl
    refine (show Aft _ (fun o ρ' => o = some (tI (rest[d.toNat]'(by omega))) ∧ wipeE ρ' [3] = [F2, tI n, .lst true ((rest.eraseIdx d.toNat).map tI), .hole]) by simp [↓aft_seq, ↓aft_if, ↓aft_asg, ↓aft_ret, ↓aft_drp, ↓aft_bin, ↓aft_fz, ↓aft_mv, ↓aft_nh, ↓aft_pk, ↓aft_binL, ↓aft_binR, ↓aft_set, ↓aft_tru, ↓aft_boolM, ↓aft_cmpB, ↓aft_and, ↓aft_or, ↓aft_not, ↓aft_andV, ↓aft_orV, ↓aft_notV, ↓aft_ifV, ↓aft_neg, ↓aft_nil, ↓aft_cons, ↓aft_tup, ↓aft_lst, ↓aft_un1, ↓aft_un2, ↓aft_call, ↓aft_callIO, ↓aft_gtup, ↓aft_gnil, ↓aft_gcons, ↓aft_par2, ↓aft_par3, ↓aft_isi, ↓aft_chain, ↓aft_pure, ↓aft_bind, ↓aft_iterA, ↓aft_lc, ↓aft_for, ↓aft_forO, ↓aft_lcStep, ↓aft_some, ↓aft_yes, ↓aft_mrd, ↓aft_tab, ↓aft_match, ↓aft_mth, ↓aft_cutL, ↓aft_dnew, ↓aft_cutM, ↓aft_noP, ↓aft_someP, ↓aft_gstar, ↓aft_enum, ↓aft_rng, ↓aft_setD, ↓aft_loopC, ↓aft_loopN, ↓aft_setIx, ↓aft_steal, and_assoc, exists_eq_left', at_zero, at_succ, List.cons_append, List.nil_append, List.replicate, List.set_cons_zero, List.set_cons_succ, T.cold, T.colds, T.imm, T.imms, T.frz, T.frzs, hole_atom, hole_tup, hole_lst, hole_ro, hole_dct, hole_hole, tru_bl, tru_int, tru_non, tru_lst, tru_tup, bool_bl, ty_list, ty_lst, eq_int, ne_int, eqA_int, eqA_tup, eqA_lst, neA_int, neA_tup, neA_lst, eqA_same, neA_same, wipeE, allT, T.bools, itA_tup, itA_lst, ↓aft_lcCons, ↓aft_lcNil, tI, tS, tBl, tN, lt_ii, le_ii, gt_ii, ge_ii, sub_ii, add_ii, item_tup, item_lst, item_ro, len_str, len_lst, len_ro, len_tup, int_i, int_b, isN_n, isN_i, isN_t, notN_n, notN_i, notN_t, itA_str, le_pp, max_tt, min_tt, atI, ixN, tabT, isi_int_int, isi_int_bool, isi_int_str, isi_int_NoneType, isi_int_list, isi_int_tuple, isi_int_ro, isi_bool_int, isi_bool_bool, isi_bool_str, isi_bool_NoneType, isi_bool_list, isi_bool_tuple, isi_bool_ro, isi_str_int, isi_str_bool, isi_str_str, isi_str_NoneType, isi_str_list, isi_str_tuple, isi_str_ro, isi_list_int, isi_list_bool, isi_list_str, isi_list_NoneType, isi_list_list, isi_list_tuple, isi_list_ro, isi_tuple_int, isi_tuple_bool, isi_tuple_str, isi_tuple_NoneType, isi_tuple_list, isi_tuple_tuple, isi_tuple_ro, hF0, e, pp]).mono fun z ρ' ⟨z1, z2⟩ => ?_
    rw [z1, z2]
    refine ⟨F2, os ++ [rest[d.toNat]'(by omega)], rest.eraseIdx d.toNat, by simp, rfl, ?_, by simp [ol], by rw [show k + (0 + i + 1) = k + i + 1 by omega]; exact hF2⟩
    have q := out_perm (xs := rest) (j := d.toNat) (by omega)
    have q2 : (os ++ (rest[d.toNat]'(by omega) :: rest.eraseIdx d.toNat)).Perm (os ++ rest) := q.append_left os
    simpa using q2.trans pm
end G
namespace G
open PySem L2 VS
variable {L : Lay} {o : List Int} {n : Nat}
/-! ### layouts can be shown -/
theorem nic_view {i : Nat} {v : T} (h : ViewAt i v) (hi : i ≤ 12) : Nic v 1 45 := by
  obtain ⟨p, l, t, r, bb, e, hr⟩ := h
  subst e
  have h1 := hr.1
  have h2 := hr.2.1
  have h3 := hr.2.2.1
  have h4 := hr.2.2.2.1
  have h5 := hr.2.2.2.2.1
  have h6 := hr.2.2.2.2.2.1
  have h7 := hr.2.2.2.2.2.2.1
  have h8 := hr.2.2.2.2.2.2.2
  exact nic_tup (ts := [tI p, tI l, tI t, tI r, tI bb]) (dp := 0) (bk := 8) (by simp; exact ⟨nic_i (by omega) (by omega), nic_i (by omega) (by omega), nic_i (by omega) (by omega), nic_i (by omega) (by omega), nic_i (by omega) (by omega)⟩)
theorem nic_rec {last : Int} {r : Rec} (h : RecOk last r) (hl : last ≤ 1000) : Nic (recT r) 2 138 := by
  obtain ⟨⟨_, n2, _, n4⟩, h2, h3, h4, _⟩ := h
  have a : Nic (tS r.1) 1 45 := (nic_s n4 n2).mono (by omega) (by omega)
  have b : Nic (tI r.2.1) 1 45 := (nic_i (by omega) (by omega)).mono (by omega) (by omega)
  exact nic_tup (ts := [tS r.1, tI r.2.1, r.2.2]) (dp := 1) (bk := 45) (by simp; exact ⟨a, b, h4.nic⟩)
theorem nic_pr {p : Int × Int} {n : Int} {rising : Bool} (h : 0 ≤ p.1 ∧ p.1 < n ∧ 0 ≤ p.2 ∧ p.2 < n ∧ mpr p.1 p.2 rising) (hn : n ≤ 1000) : Nic (prT p) 1 18 := by
  obtain ⟨a, b, c, d, _⟩ := h
  exact nic_tup (ts := [tI p.1, tI p.2]) (dp := 0) (bk := 8) (by simp; exact ⟨nic_i (by omega) (by omega), nic_i (by omega) (by omega)⟩)
theorem nic_lay {b1 b2 b3 b4 : Bool} (h : Valid L) : Nic (layT b1 b2 b3 b4 L) 4 4452 := by
  have hv := h.vlen
  have hr := h.rlen
  have hw := h.wlen
  have hb := h.blen
  have a : Nic (.lst b1 L.views) 3 1112 := (nic_lst (dp := 1) (bk := 45) fun t ht => by
    obtain ⟨i, hi⟩ := List.mem_iff_getElem?.mp ht
    have := (List.getElem?_eq_some_iff.mp hi).1
    exact nic_view (h.vok i t hi) (by omega)).mono (by omega) (by omega)
  have b : Nic (.lst b2 (L.recs.map recT)) 3 1112 := (nic_lst (dp := 2) (bk := 138) fun t ht => by
    obtain ⟨r, hr, rfl⟩ := List.mem_map.mp ht
    exact nic_rec (h.rok r hr) (by omega)).mono (by omega) (by simp; omega)
  have c : Nic (.lst b3 (L.waits.map prT)) 3 1112 := (nic_lst (dp := 1) (bk := 18) fun t ht => by
    obtain ⟨r, hr, rfl⟩ := List.mem_map.mp ht
    exact nic_pr (h.wok.1 r hr) (by omega)).mono (by omega) (by simp; omega)
  have d : Nic (.lst b4 (L.beside.map prT)) 3 1112 := (nic_lst (dp := 1) (bk := 18) fun t ht => by
    obtain ⟨r, hr, rfl⟩ := List.mem_map.mp ht
    exact nic_pr (h.bok.1 r hr) (by omega)).mono (by omega) (by simp; omega)
  exact nic_tup (ts := [_, _, _, _]) (dp := 3) (bk := 1112) (by simp; exact ⟨a, b, c, d⟩)
theorem lay_dat {b1 b2 b3 b4 : Bool} : (layT b1 b2 b3 b4 L).dat = (layT false false false false L).dat := by simp [layT, T.dat, T.dats]
theorem repr_lay (h : Valid L) : ∃ s, ∀ b1 b2 b3 b4 : Bool, reprT (layT b1 b2 b3 b4 L) = some (tS s) := by
  obtain ⟨d, e, _⟩ := ((nic_lay (b1 := false) (b2 := false) (b3 := false) (b4 := false) h).mono (show 4 ≤ 60 by omega) (Nat.le_refl _)).repr (by omega) (fun v => by simp [layT])
  refine ⟨d.shown, fun b1 b2 b3 b4 => ?_⟩
  obtain ⟨d', e', q⟩ := ((nic_lay (b1 := b1) (b2 := b2) (b3 := b3) (b4 := b4) h).mono (show 4 ≤ 60 by omega) (Nat.le_refl _)).repr (by omega) (fun v => by simp [layT])
  rw [lay_dat, e] at e'
  cases e'
  exact q
theorem repr_both (h : Valid L) (ho : Ord o n) (hn : n ≤ 100) : ∃ s, reprT (.lst true [layT false false false false L, .lst false (o.map tI)]) = some (tS s) := by
  have a := (nic_lay (b1 := false) (b2 := false) (b3 := false) (b4 := false) h)
  have b := (nic_ints (b := false) (ns := o) (fun x hx => by have := ho.mem.mp hx; omega)).mono (show 1 ≤ 4 by omega) (show o.length * 1 ≤ 4452 by have := ho.len; omega)
  obtain ⟨d, e, q⟩ := ((nic_lst (b := true) (ts := [layT false false false false L, .lst false (o.map tI)]) (dp := 4) (bk := 4452) (by simp; exact ⟨a, b⟩)).mono (show 5 ≤ 60 by omega) (Nat.le_refl _)).repr (by simp) (fun v => by simp)
  exact ⟨_, q⟩
theorem range2 : rangeL 0 2 = [tI 0, tI 1] := rfl
theorem right_ok {k : Nat} {F : T} (hF : Fv k F) (hk : k ≤ 800000000) (h : Valid L) : ∃ F', run__law_right [F, layT false false false false L] = some (tBl true, F') ∧ Fv (k + 16) F' := by
  have key := run1_of (sem := sem__law_right) (n := 11) (ts := [F, layT false false false false L]) (R := fun t t0 => t = tBl true ∧ Fv (k + 16) t0) ?_
  · obtain ⟨t, t0, e, rfl, q⟩ := key
    exact ⟨t0, e, q⟩
  have hr := h.rlen
  have hF0 : F.isHole = false := by obtain ⟨a, b, c, rfl, _⟩ := hF; rfl
  obtain ⟨o, F1, e1, ho, hF1⟩ := order_ok (n := L.recs.length) hF (by omega) (by omega)
  obtain ⟨o2, F2, e2, ho2, hF2⟩ := order_ok (n := L.recs.length) hF1 (by omega) (by omega)
  have hF10 : F1.isHole = false := by obtain ⟨a, b, c, rfl, _⟩ := hF1; rfl
  have hF20 : F2.isHole = false := by obtain ⟨a, b, c, rfl, _⟩ := hF2; rfl
  have f : ∀ {b1 b2 b3 b4}, (layT b1 b2 b3 b4 L).frz = layT false false false false L := lay_frz h
  have c : ∀ {b1 b2 b3 b4}, (layT b1 b2 b3 b4 L).cold = true := lay_cold h
  have m := lay_imm h
  have ho1 : ∀ {b1 b2 b3 b4} {L : Lay}, (layT b1 b2 b3 b4 L).isHole = false := rfl
  have hR := reord_valid h ho
  have fR : ∀ {b1 b2 b3 b4}, (layT b1 b2 b3 b4 (reord L o)).frz = layT false false false false (reord L o) := lay_frz hR
  have cR : ∀ {b1 b2 b3 b4}, (layT b1 b2 b3 b4 (reord L o)).cold = true := lay_cold hR
  have mR := lay_imm hR
  have rl : (reord L o).recs.length = L.recs.length := by show (o.map _).length = _; rw [List.length_map, ho.len]
  have v1 := ints_imm o
  have v2 := ints_imm o2
  have item : itemT (layT false false false false L) (tI 1) = some (.lst false (L.recs.map recT)) := by
    have : itemT (layT false false false false L) (tI 1) = (atI [.lst false L.views, .lst false (L.recs.map recT), .lst false (L.waits.map prT), .lst false (L.beside.map prT)] 1).filter T.imm := rfl
    rw [this]
    simp [atI, ixN, T.imm, recs_imm h.rok]
  obtain ⟨s0, r0⟩ := repr_both h ho (by omega)
  obtain ⟨sL, rL⟩ := repr_lay h
  obtain ⟨sR, rR⟩ := repr_lay hR
  have tu := turned_ok (b1 := false) (b2 := false) (b3 := false) (b4 := false) (b5 := false) h ho
  have re := reordered_ok (b1 := false) (b2 := false) (b3 := false) (b4 := false) (b5 := false) h ho
  have il := is_layout_ok (b1 := false) (b2 := false) (b3 := false) (b4 := false) hR
  have ts : tupS (layT true true true true (reord L o)) = some [.lst true (reord L o).views, .lst true ((reord L o).recs.map recT), .lst true ((reord L o).waits.map prT), .lst true ((reord L o).beside.map prT)] := rfl
  have a1 : (reord L o).views.length < 1000000 := by have := hR.vlen; omega
  have a2 : (reord L o).recs.length < 1000000 := by have := hR.rlen; omega
  have a3 : (reord L o).waits.length < 1000000 := by have := hR.wlen; omega
  have a4 : (reord L o).beside.length < 1000000 := by have := hR.blen; omega
  have bo := back_ord ho
  have re2 : run_reordered [layT false false false false (reord L o), .lst false ((back o L.recs.length).map tI)] = some (layT true true true true L) := by
    rw [reordered_ok hR (by rw [rl]; exact bo), reord_comp h ho bo, comp_back ho, reord_rng h]
  have re3 : run_reordered [layT false false false false L, .lst true ((rngI L.recs.length).map tI)] = some (layT true true true true L) := by
    rw [reordered_ok h ord_rng, reord_rng h]
  have re4 : run_reordered [layT false false false false (reord L o), .lst false (o2.map tI)] = some (layT true true true true (reord L (comp o o2))) := by
    rw [reordered_ok hR (by rw [rl]; exact ho2), reord_comp h ho ho2]
  have re5 : run_reordered [layT false false false false L, .lst false ((comp o o2).map tI)] = some (layT true true true true (reord L (comp o o2))) := reordered_ok h (comp_ord ho ho2)
  have hC := reord_valid h (comp_ord ho ho2)
  have nC := (nic_lay (b1 := true) (b2 := true) (b3 := true) (b4 := true) hC).mono (show 4 ≤ 60 by omega) (Nat.le_refl _)
  have eC : eqA (layT true true true true (reord L (comp o o2))) (layT true true true true (reord L (comp o o2))) = some (.atom (.bl true)) := (eq_same nC nC rfl).1
  have v3 := ints_imm (back o L.recs.length)
  have v4 := ints_imm (comp o o2)
  have bl : (back o L.recs.length).map tI = (rngI L.recs.length).map fun k => tI (ix o k) := by unfold back; rw [List.map_map]; rfl
  have cl : (comp o o2).map tI = o2.map fun k => tI (atD o k) := by unfold comp; rw [List.map_map]; rfl
  have n62 : (L.recs.length : Int) < 4611686018427387904 := by omega
  have n63 : -4611686018427387904 ≤ (L.recs.length : Int) := by omega
  have n24 : (L.recs.length : Int) ≤ 16777216 := by omega
  unfold sem__law_right
  simp [↓aft_seq, ↓aft_if, ↓aft_asg, ↓aft_ret, ↓aft_drp, ↓aft_bin, ↓aft_fz, ↓aft_mv, ↓aft_nh, ↓aft_pk, ↓aft_binL, ↓aft_binR, ↓aft_set, ↓aft_tru, ↓aft_boolM, ↓aft_cmpB, ↓aft_and, ↓aft_or, ↓aft_not, ↓aft_andV, ↓aft_orV, ↓aft_notV, ↓aft_ifV, ↓aft_neg, ↓aft_nil, ↓aft_cons, ↓aft_tup, ↓aft_lst, ↓aft_un1, ↓aft_un2, ↓aft_call, ↓aft_callIO, ↓aft_gtup, ↓aft_gnil, ↓aft_gcons, ↓aft_par2, ↓aft_par3, ↓aft_isi, ↓aft_chain, ↓aft_pure, ↓aft_bind, ↓aft_iterA, ↓aft_lc, ↓aft_for, ↓aft_forO, ↓aft_lcStep, ↓aft_some, ↓aft_yes, ↓aft_mrd, ↓aft_tab, ↓aft_match, ↓aft_mth, ↓aft_cutL, ↓aft_dnew, ↓aft_cutM, ↓aft_noP, ↓aft_someP, ↓aft_gstar, ↓aft_enum, ↓aft_rng, ↓aft_setD, ↓aft_loopC, ↓aft_loopN, ↓aft_setIx, ↓aft_steal, and_assoc, exists_eq_left', at_zero, at_succ, List.cons_append, List.nil_append, List.replicate, List.set_cons_zero, List.set_cons_succ, T.cold, T.colds, T.imm, T.imms, T.frz, T.frzs, hole_atom, hole_tup, hole_lst, hole_ro, hole_dct, hole_hole, tru_bl, tru_int, tru_non, tru_lst, tru_tup, bool_bl, ty_list, ty_lst, eq_int, ne_int, eqA_int, eqA_tup, eqA_lst, neA_int, neA_tup, neA_lst, eqA_same, neA_same, wipeE, allT, T.bools, itA_tup, itA_lst, ↓aft_lcCons, ↓aft_lcNil, tI, tS, tBl, tN, lt_ii, le_ii, gt_ii, ge_ii, sub_ii, add_ii, item_tup, item_lst, item_ro, len_str, len_lst, len_ro, len_tup, int_i, int_b, isN_n, isN_i, isN_t, notN_n, notN_i, notN_t, itA_str, le_pp, max_tt, min_tt, atI, ixN, tabT, isi_int_int, isi_int_bool, isi_int_str, isi_int_NoneType, isi_int_list, isi_int_tuple, isi_int_ro, isi_bool_int, isi_bool_bool, isi_bool_str, isi_bool_NoneType, isi_bool_list, isi_bool_tuple, isi_bool_ro, isi_str_int, isi_str_bool, isi_str_str, isi_str_NoneType, isi_str_list, isi_str_tuple, isi_str_ro, isi_list_int, isi_list_bool, isi_list_str, isi_list_NoneType, isi_list_list, isi_list_tuple, isi_list_ro, isi_tuple_int, isi_tuple_bool, isi_tuple_str, isi_tuple_NoneType, isi_tuple_list, isi_tuple_tuple, isi_tuple_ro, hF0, hF10, hF20, f, c, m, ho1, item, e1, e2, v1, v2, colds_imms v1, frzs_imms v1, colds_imms v2, frzs_imms v2, r0, rL, rR, tu, re, fR, cR, mR, range2, lent, il, T.plain, ts, appF, a1, a2, a3, a4, n62, n63, range_tI]
  refine (lc_mapP (g := fun k => tI (ix o k)) (by rw [rng_len]; omega) fun k hk => ?_).mono fun acc ρ ⟨z1, z2⟩ => ?_
  · have := idx_ix (b := false) ho (by omega) (mem_rng.mp hk)
    simp [↓aft_seq, ↓aft_if, ↓aft_asg, ↓aft_ret, ↓aft_drp, ↓aft_bin, ↓aft_fz, ↓aft_mv, ↓aft_nh, ↓aft_pk, ↓aft_binL, ↓aft_binR, ↓aft_set, ↓aft_tru, ↓aft_boolM, ↓aft_cmpB, ↓aft_and, ↓aft_or, ↓aft_not, ↓aft_andV, ↓aft_orV, ↓aft_notV, ↓aft_ifV, ↓aft_neg, ↓aft_nil, ↓aft_cons, ↓aft_tup, ↓aft_lst, ↓aft_un1, ↓aft_un2, ↓aft_call, ↓aft_callIO, ↓aft_gtup, ↓aft_gnil, ↓aft_gcons, ↓aft_par2, ↓aft_par3, ↓aft_isi, ↓aft_chain, ↓aft_pure, ↓aft_bind, ↓aft_iterA, ↓aft_lc, ↓aft_for, ↓aft_forO, ↓aft_lcStep, ↓aft_some, ↓aft_yes, ↓aft_mrd, ↓aft_tab, ↓aft_match, ↓aft_mth, ↓aft_cutL, ↓aft_dnew, ↓aft_cutM, ↓aft_noP, ↓aft_someP, ↓aft_gstar, ↓aft_enum, ↓aft_rng, ↓aft_setD, ↓aft_loopC, ↓aft_loopN, ↓aft_setIx, ↓aft_steal, and_assoc, exists_eq_left', at_zero, at_succ, List.cons_append, List.nil_append, List.replicate, List.set_cons_zero, List.set_cons_succ, T.cold, T.colds, T.imm, T.imms, T.frz, T.frzs, hole_atom, hole_tup, hole_lst, hole_ro, hole_dct, hole_hole, tru_bl, tru_int, tru_non, tru_lst, tru_tup, bool_bl, ty_list, ty_lst, eq_int, ne_int, eqA_int, eqA_tup, eqA_lst, neA_int, neA_tup, neA_lst, eqA_same, neA_same, wipeE, allT, T.bools, itA_tup, itA_lst, ↓aft_lcCons, ↓aft_lcNil, tI, tS, tBl, tN, lt_ii, le_ii, gt_ii, ge_ii, sub_ii, add_ii, item_tup, item_lst, item_ro, len_str, len_lst, len_ro, len_tup, int_i, int_b, isN_n, isN_i, isN_t, notN_n, notN_i, notN_t, itA_str, le_pp, max_tt, min_tt, atI, ixN, tabT, isi_int_int, isi_int_bool, isi_int_str, isi_int_NoneType, isi_int_list, isi_int_tuple, isi_int_ro, isi_bool_int, isi_bool_bool, isi_bool_str, isi_bool_NoneType, isi_bool_list, isi_bool_tuple, isi_bool_ro, isi_str_int, isi_str_bool, isi_str_str, isi_str_NoneType, isi_str_list, isi_str_tuple, isi_str_ro, isi_list_int, isi_list_bool, isi_list_str, isi_list_NoneType, isi_list_list, isi_list_tuple, isi_list_ro, isi_tuple_int, isi_tuple_bool, isi_tuple_str, isi_tuple_NoneType, isi_tuple_list, isi_tuple_tuple, isi_tuple_ro, this]
  subst z1 z2
  rw [← bl]
  simp [↓aft_seq, ↓aft_if, ↓aft_asg, ↓aft_ret, ↓aft_drp, ↓aft_bin, ↓aft_fz, ↓aft_mv, ↓aft_nh, ↓aft_pk, ↓aft_binL, ↓aft_binR, ↓aft_set, ↓aft_tru, ↓aft_boolM, ↓aft_cmpB, ↓aft_and, ↓aft_or, ↓aft_not, ↓aft_andV, ↓aft_orV, ↓aft_notV, ↓aft_ifV, ↓aft_neg, ↓aft_nil, ↓aft_cons, ↓aft_tup, ↓aft_lst, ↓aft_un1, ↓aft_un2, ↓aft_call, ↓aft_callIO, ↓aft_gtup, ↓aft_gnil, ↓aft_gcons, ↓aft_par2, ↓aft_par3, ↓aft_isi, ↓aft_chain, ↓aft_pure, ↓aft_bind, ↓aft_iterA, ↓aft_lc, ↓aft_for, ↓aft_forO, ↓aft_lcStep, ↓aft_some, ↓aft_yes, ↓aft_mrd, ↓aft_tab, ↓aft_match, ↓aft_mth, ↓aft_cutL, ↓aft_dnew, ↓aft_cutM, ↓aft_noP, ↓aft_someP, ↓aft_gstar, ↓aft_enum, ↓aft_rng, ↓aft_setD, ↓aft_loopC, ↓aft_loopN, ↓aft_setIx, ↓aft_steal, and_assoc, exists_eq_left', at_zero, at_succ, List.cons_append, List.nil_append, List.replicate, List.set_cons_zero, List.set_cons_succ, T.cold, T.colds, T.imm, T.imms, T.frz, T.frzs, hole_atom, hole_tup, hole_lst, hole_ro, hole_dct, hole_hole, tru_bl, tru_int, tru_non, tru_lst, tru_tup, bool_bl, ty_list, ty_lst, eq_int, ne_int, eqA_int, eqA_tup, eqA_lst, neA_int, neA_tup, neA_lst, eqA_same, neA_same, wipeE, allT, T.bools, itA_tup, itA_lst, ↓aft_lcCons, ↓aft_lcNil, tI, tS, tBl, tN, lt_ii, le_ii, gt_ii, ge_ii, sub_ii, add_ii, item_tup, item_lst, item_ro, len_str, len_lst, len_ro, len_tup, int_i, int_b, isN_n, isN_i, isN_t, notN_n, notN_i, notN_t, itA_str, le_pp, max_tt, min_tt, atI, ixN, tabT, isi_int_int, isi_int_bool, isi_int_str, isi_int_NoneType, isi_int_list, isi_int_tuple, isi_int_ro, isi_bool_int, isi_bool_bool, isi_bool_str, isi_bool_NoneType, isi_bool_list, isi_bool_tuple, isi_bool_ro, isi_str_int, isi_str_bool, isi_str_str, isi_str_NoneType, isi_str_list, isi_str_tuple, isi_str_ro, isi_list_int, isi_list_bool, isi_list_str, isi_list_NoneType, isi_list_list, isi_list_tuple, isi_list_ro, isi_tuple_int, isi_tuple_bool, isi_tuple_str, isi_tuple_NoneType, isi_tuple_list, isi_tuple_tuple, isi_tuple_ro, hF0, hF10, hF20, f, c, m, ho1, v1, v2, v3, colds_imms v1, frzs_imms v1, colds_imms v2, frzs_imms v2, colds_imms v3, frzs_imms v3, r0, rL, rR, fR, cR, mR, re2, re3, lrg1, lrgF, aft_lift, n24, range_tI, -List.map_map]
  refine (lc_mapP (g := fun k => tI (atD o k)) (by rw [ho2.len]; omega) fun k hk => ?_).mono fun acc ρ ⟨z1, z2⟩ => ?_
  · have hk2 := ho2.mem.mp hk
    have ol := ho.len
    have : itemT (.lst false (o.map tI)) (tI k) = some (tI (atD o k)) := by
      show (atI (o.map tI) k).filter T.imm = _
      have hl : k.toNat < o.length := by omega
      simp [atI, ixN, hk2.1, ol, hk2.2, hl, atD, T.imm]
    simp [↓aft_seq, ↓aft_if, ↓aft_asg, ↓aft_ret, ↓aft_drp, ↓aft_bin, ↓aft_fz, ↓aft_mv, ↓aft_nh, ↓aft_pk, ↓aft_binL, ↓aft_binR, ↓aft_set, ↓aft_tru, ↓aft_boolM, ↓aft_cmpB, ↓aft_and, ↓aft_or, ↓aft_not, ↓aft_andV, ↓aft_orV, ↓aft_notV, ↓aft_ifV, ↓aft_neg, ↓aft_nil, ↓aft_cons, ↓aft_tup, ↓aft_lst, ↓aft_un1, ↓aft_un2, ↓aft_call, ↓aft_callIO, ↓aft_gtup, ↓aft_gnil, ↓aft_gcons, ↓aft_par2, ↓aft_par3, ↓aft_isi, ↓aft_chain, ↓aft_pure, ↓aft_bind, ↓aft_iterA, ↓aft_lc, ↓aft_for, ↓aft_forO, ↓aft_lcStep, ↓aft_some, ↓aft_yes, ↓aft_mrd, ↓aft_tab, ↓aft_match, ↓aft_mth, ↓aft_cutL, ↓aft_dnew, ↓aft_cutM, ↓aft_noP, ↓aft_someP, ↓aft_gstar, ↓aft_enum, ↓aft_rng, ↓aft_setD, ↓aft_loopC, ↓aft_loopN, ↓aft_setIx, ↓aft_steal, and_assoc, exists_eq_left', at_zero, at_succ, List.cons_append, List.nil_append, List.replicate, List.set_cons_zero, List.set_cons_succ, T.cold, T.colds, T.imm, T.imms, T.frz, T.frzs, hole_atom, hole_tup, hole_lst, hole_ro, hole_dct, hole_hole, tru_bl, tru_int, tru_non, tru_lst, tru_tup, bool_bl, ty_list, ty_lst, eq_int, ne_int, eqA_int, eqA_tup, eqA_lst, neA_int, neA_tup, neA_lst, eqA_same, neA_same, wipeE, allT, T.bools, itA_tup, itA_lst, ↓aft_lcCons, ↓aft_lcNil, tI, tS, tBl, tN, lt_ii, le_ii, gt_ii, ge_ii, sub_ii, add_ii, item_tup, item_lst, item_ro, len_str, len_lst, len_ro, len_tup, int_i, int_b, isN_n, isN_i, isN_t, notN_n, notN_i, notN_t, itA_str, le_pp, max_tt, min_tt, atI, ixN, tabT, isi_int_int, isi_int_bool, isi_int_str, isi_int_NoneType, isi_int_list, isi_int_tuple, isi_int_ro, isi_bool_int, isi_bool_bool, isi_bool_str, isi_bool_NoneType, isi_bool_list, isi_bool_tuple, isi_bool_ro, isi_str_int, isi_str_bool, isi_str_str, isi_str_NoneType, isi_str_list, isi_str_tuple, isi_str_ro, isi_list_int, isi_list_bool, isi_list_str, isi_list_NoneType, isi_list_list, isi_list_tuple, isi_list_ro, isi_tuple_int, isi_tuple_bool, isi_tuple_str, isi_tuple_NoneType, isi_tuple_list, isi_tuple_tuple, isi_tuple_ro, -item_lst, this]
  subst z1 z2
  rw [← cl]
  simp [↓aft_seq, ↓aft_if, ↓aft_asg, ↓aft_ret, ↓aft_drp, ↓aft_bin, ↓aft_fz, ↓aft_mv, ↓aft_nh, ↓aft_pk, ↓aft_binL, ↓aft_binR, ↓aft_set, ↓aft_tru, ↓aft_boolM, ↓aft_cmpB, ↓aft_and, ↓aft_or, ↓aft_not, ↓aft_andV, ↓aft_orV, ↓aft_notV, ↓aft_ifV, ↓aft_neg, ↓aft_nil, ↓aft_cons, ↓aft_tup, ↓aft_lst, ↓aft_un1, ↓aft_un2, ↓aft_call, ↓aft_callIO, ↓aft_gtup, ↓aft_gnil, ↓aft_gcons, ↓aft_par2, ↓aft_par3, ↓aft_isi, ↓aft_chain, ↓aft_pure, ↓aft_bind, ↓aft_iterA, ↓aft_lc, ↓aft_for, ↓aft_forO, ↓aft_lcStep, ↓aft_some, ↓aft_yes, ↓aft_mrd, ↓aft_tab, ↓aft_match, ↓aft_mth, ↓aft_cutL, ↓aft_dnew, ↓aft_cutM, ↓aft_noP, ↓aft_someP, ↓aft_gstar, ↓aft_enum, ↓aft_rng, ↓aft_setD, ↓aft_loopC, ↓aft_loopN, ↓aft_setIx, ↓aft_steal, and_assoc, exists_eq_left', at_zero, at_succ, List.cons_append, List.nil_append, List.replicate, List.set_cons_zero, List.set_cons_succ, T.cold, T.colds, T.imm, T.imms, T.frz, T.frzs, hole_atom, hole_tup, hole_lst, hole_ro, hole_dct, hole_hole, tru_bl, tru_int, tru_non, tru_lst, tru_tup, bool_bl, ty_list, ty_lst, eq_int, ne_int, eqA_int, eqA_tup, eqA_lst, neA_int, neA_tup, neA_lst, eqA_same, neA_same, wipeE, allT, T.bools, itA_tup, itA_lst, ↓aft_lcCons, ↓aft_lcNil, tI, tS, tBl, tN, lt_ii, le_ii, gt_ii, ge_ii, sub_ii, add_ii, item_tup, item_lst, item_ro, len_str, len_lst, len_ro, len_tup, int_i, int_b, isN_n, isN_i, isN_t, notN_n, notN_i, notN_t, itA_str, le_pp, max_tt, min_tt, atI, ixN, tabT, isi_int_int, isi_int_bool, isi_int_str, isi_int_NoneType, isi_int_list, isi_int_tuple, isi_int_ro, isi_bool_int, isi_bool_bool, isi_bool_str, isi_bool_NoneType, isi_bool_list, isi_bool_tuple, isi_bool_ro, isi_str_int, isi_str_bool, isi_str_str, isi_str_NoneType, isi_str_list, isi_str_tuple, isi_str_ro, isi_list_int, isi_list_bool, isi_list_str, isi_list_NoneType, isi_list_list, isi_list_tuple, isi_list_ro, isi_tuple_int, isi_tuple_bool, isi_tuple_str, isi_tuple_NoneType, isi_tuple_list, isi_tuple_tuple, isi_tuple_ro, hF0, hF10, hF20, f, c, m, ho1, v1, v2, v3, v4, colds_imms v1, frzs_imms v1, colds_imms v2, frzs_imms v2, colds_imms v4, frzs_imms v4, r0, fR, cR, mR, re4, re5, eC, -List.map_map]
  exact hF2.mono (by omega)
end G
namespace G
open PySem L2 VS
/-! ### kinds drawn -/
theorem fv_hole {k : Nat} {F : T} (h : Fv k F) : F.isHole = false := by obtain ⟨a, b, c, rfl, _⟩ := h; rfl
theorem kind_ok {k : Nat} {F : T} {top : Int} (hF : Fv k F) (hk : k ≤ 700000000) (h1 : 1 ≤ top) (h2 : top ≤ 1000000000) : ∃ t F', run__law_kind [F, tI top] = some (t, F') ∧ Kind t ∧ t.imm = true ∧ Fv (k + 6) F' := by
  obtain ⟨d1, F1, e1, p1, q1, hF1⟩ := dip_ok (m := top) hF (by omega) (by omega) (by omega)
  obtain ⟨d2, F2, e2, p2, q2, hF2⟩ := dip_ok (m := top) hF1 (by omega) (by omega) (by omega)
  obtain ⟨d3, F3, e3, p3, q3, hF3⟩ := dip_ok (m := top + 1) hF2 (by omega) (by omega) (by omega)
  obtain ⟨d4, F4, e4, p4, q4, hF4⟩ := dip_ok (m := 2) hF3 (by omega) (by omega) (by omega)
  obtain ⟨d5, F5, e5, p5, q5, hF5⟩ := dip_ok (m := 3) hF4 (by omega) (by omega) (by omega)
  obtain ⟨d6, F6, e6, p6, q6, hF6⟩ := dip_ok (m := 6) hF5 (by omega) (by omega) (by omega)
  have key := run1_of (sem := sem__law_kind) (n := 4) (ts := [F, tI top]) (R := fun t t0 => Kind t ∧ t.imm = true ∧ Fv (k + 6) t0) ?_
  · obtain ⟨t, t0, e, q⟩ := key
    exact ⟨t, t0, e, q⟩
  have ml : ∀ b1 b2 : Bool, ∀ xs ys : List T, xs.length + ys.length ≤ 100 → addT (.lst b1 xs) (.lst b2 ys) = some (.lst true (xs ++ ys)) := fun b1 b2 xs ys hl => by
    simp only [addT]
    rw [if_pos (Nat.le_trans hl (by decide))]
  have fin : Fv (k + 6) F6 := hF6.mono (by omega)
  unfold sem__law_kind
  have c5 : d5 = 0 ∨ d5 = 1 ∨ d5 = 2 := by omega
  have c6 : d6 = 0 ∨ d6 = 1 ∨ d6 = 2 ∨ d6 = 3 ∨ d6 = 4 ∨ d6 = 5 := by omega
  have k1 : Kind (.tup [tS "tap", tI (1 + d1), tI d3]) := .tap (by omega) (by omega) (by omega) (by omega)
  have k2 : Kind (.tup [tS "taps", tI (2 + d4), tI (1 + d1), tI (1 + d2), tI d3]) := .taps (by omega) (by omega) (by omega) (by omega) (by omega) (by omega) (by omega) (by omega)
  have k3 : Kind (.tup [tS "long", tI (1 + d1), tI d3]) := .long (by omega) (by omega) (by omega) (by omega)
  have k4 : Kind (.tup [tS "pinch", tI d3]) := .pinch (by omega) (by omega)
  have k5 : ∀ x : Str, x = "x" ∨ x = "y" ∨ x = "any" → Kind (.tup [tS "drag", tS x, tI d3]) := fun x hx => .drag hx (by omega) (by omega)
  rcases c5 with rfl | rfl | rfl <;> rcases c6 with rfl | rfl | rfl | rfl | rfl | rfl <;>
    simp [↓aft_seq, ↓aft_if, ↓aft_asg, ↓aft_ret, ↓aft_drp, ↓aft_bin, ↓aft_fz, ↓aft_mv, ↓aft_nh, ↓aft_pk, ↓aft_binL, ↓aft_binR, ↓aft_set, ↓aft_tru, ↓aft_boolM, ↓aft_cmpB, ↓aft_and, ↓aft_or, ↓aft_not, ↓aft_andV, ↓aft_orV, ↓aft_notV, ↓aft_ifV, ↓aft_neg, ↓aft_nil, ↓aft_cons, ↓aft_tup, ↓aft_lst, ↓aft_un1, ↓aft_un2, ↓aft_call, ↓aft_callIO, ↓aft_gtup, ↓aft_gnil, ↓aft_gcons, ↓aft_par2, ↓aft_par3, ↓aft_isi, ↓aft_chain, ↓aft_pure, ↓aft_bind, ↓aft_iterA, ↓aft_lc, ↓aft_for, ↓aft_forO, ↓aft_lcStep, ↓aft_some, ↓aft_yes, ↓aft_mrd, ↓aft_tab, ↓aft_match, ↓aft_mth, ↓aft_cutL, ↓aft_dnew, ↓aft_cutM, ↓aft_noP, ↓aft_someP, ↓aft_gstar, ↓aft_enum, ↓aft_rng, ↓aft_setD, ↓aft_loopC, ↓aft_loopN, ↓aft_setIx, ↓aft_steal, and_assoc, exists_eq_left', at_zero, at_succ, List.cons_append, List.nil_append, List.replicate, List.set_cons_zero, List.set_cons_succ, T.cold, T.colds, T.imm, T.imms, T.frz, T.frzs, hole_atom, hole_tup, hole_lst, hole_ro, hole_dct, hole_hole, tru_bl, tru_int, tru_non, tru_lst, tru_tup, bool_bl, ty_list, ty_lst, eq_int, ne_int, eqA_int, eqA_tup, eqA_lst, neA_int, neA_tup, neA_lst, eqA_same, neA_same, wipeE, allT, T.bools, itA_tup, itA_lst, ↓aft_lcCons, ↓aft_lcNil, tI, tS, tBl, tN, lt_ii, le_ii, gt_ii, ge_ii, sub_ii, add_ii, item_tup, item_lst, item_ro, len_str, len_lst, len_ro, len_tup, int_i, int_b, isN_n, isN_i, isN_t, notN_n, notN_i, notN_t, itA_str, le_pp, max_tt, min_tt, atI, ixN, tabT, isi_int_int, isi_int_bool, isi_int_str, isi_int_NoneType, isi_int_list, isi_int_tuple, isi_int_ro, isi_bool_int, isi_bool_bool, isi_bool_str, isi_bool_NoneType, isi_bool_list, isi_bool_tuple, isi_bool_ro, isi_str_int, isi_str_bool, isi_str_str, isi_str_NoneType, isi_str_list, isi_str_tuple, isi_str_ro, isi_list_int, isi_list_bool, isi_list_str, isi_list_NoneType, isi_list_list, isi_list_tuple, isi_list_ro, isi_tuple_int, isi_tuple_bool, isi_tuple_str, isi_tuple_NoneType, isi_tuple_list, isi_tuple_tuple, isi_tuple_ro, fv_hole hF, fv_hole hF1, fv_hole hF2, fv_hole hF3, fv_hole hF4, fv_hole hF5, fv_hole hF6, e1, e2, e3, e4, e5, e6, ml, fin] <;>
    first | exact .touch | exact k1 | exact k2 | exact k3 | exact k4 | exact k5 _ (.inl rfl) | exact k5 _ (.inr (.inl rfl)) | exact k5 _ (.inr (.inr rfl))
end G
namespace G
open PySem L2 VS
/-! ### names drawn -/
def NB (xs : List Str) : Prop := xs.Nodup ∧ xs.length = 8 ∧ ∀ x ∈ xs, NameOk x
def base0 : List Str := ["a", "b0", "zz", "00000000", "tap", "q7abcdef", "9", "long1"]
def base1 : List Str := ["tap", "taps", "t", "tap2", "ta", "aptap", "2tap", "tapstaps"]
def base2 : List Str := ["aaaaaaab", "aaaaaaaa", "aaabaaaa", "baaaaaaa", "aaaaabaa", "aabaaaaa", "abaaaaaa", "aaaabaaa"]
def nameB (x : Str) : Bool := decide (1 ≤ x.length) && decide (x.length ≤ 8) && (x.cps.toList.all fun c => (c_SIGNS : Str).cps.toList.contains c) && x.cps.toList.all fun c => decide (c < 0x110000)
theorem name_of {x : Str} (h : nameB x = true) : NameOk x := by
  simp only [nameB, Bool.and_eq_true, decide_eq_true_eq] at h
  obtain ⟨⟨⟨a, b⟩, c⟩, d⟩ := h
  refine ⟨a, b, fun z hz => ?_, d⟩
  have := List.all_eq_true.mp c z hz
  simpa using this
theorem nb_of {xs : List Str} (h1 : decide xs.Nodup = true) (h2 : xs.length = 8) (h3 : xs.all nameB = true) : NB xs := ⟨of_decide_eq_true h1, h2, fun x hx => name_of (List.all_eq_true.mp h3 x hx)⟩
theorem nb0 : NB base0 := nb_of (by decide +kernel) rfl (by decide +kernel)
theorem nb1 : NB base1 := nb_of (by decide +kernel) rfl (by decide +kernel)
theorem nb2 : NB base2 := nb_of (by decide +kernel) rfl (by decide +kernel)
theorem names_loop {k n : Nat} {F X : T} {base : List Str} (hF : Fv k F) (hk : k ≤ 600000000) (hb : NB base) (hn : n ≤ 8) :
    Aft (lcLoop (setv 4) yesB (mth 3 popF (consA (callIO 2 run__law_dip 0 (consA (pk 3 lenT) nilA)) nilA)) [4] ((rngI n).map tI) [] [F, tI n, X, .lst true (base.map tS), .hole]) fun acc ρ => ∃ (F' : T) (os : List Str), acc = os.map tS ∧ ρ[0]? = some F' ∧ os.Nodup ∧ os.length = n ∧ (∀ x ∈ os, NameOk x) ∧ Fv (k + n) F' := by
  have s := lc_inv (a := setv 4) (c := yesB) (e := mth 3 popF (consA (callIO 2 run__law_dip 0 (consA (pk 3 lenT) nilA)) nilA)) (own := [4])
    (fun i acc ρ => ∃ (F' : T) (os rest : List Str), acc = os.map tS ∧ ρ = [F', tI n, X, .lst true (rest.map tS), .hole] ∧ (os ++ rest).Perm base ∧ os.length = i ∧ Fv (k + i) F') (xs := (rngI n).map tI) (acc := []) (ρ := [F, tI n, X, .lst true (base.map tS), .hole]) 0
    ⟨F, [], base, rfl, rfl, List.Perm.refl _, rfl, hF⟩ (by simp [rng_len]; omega) fun i x acc ρ hx ⟨F', os, rest, e1, e2, pm, ol, hF'⟩ => ?_
  · refine s.mono fun acc ρ ⟨F', os, rest, e1, e2, pm, ol, hF'⟩ => ?_
    subst e1 e2
    simp only [Nat.zero_add, List.length_map, rng_len] at ol hF'
    have nd : (os ++ rest).Nodup := pm.nodup_iff.mpr hb.1
    exact ⟨F', os, rfl, rfl, (List.nodup_append.mp nd).1, ol, fun x hx => hb.2.2 x (pm.mem_iff.mp (List.mem_append_left _ hx)), hF'⟩
  · subst e1 e2
    have hil := (List.getElem?_eq_some_iff.mp hx).1
    have l1 := pm.length_eq
    have l2 := hb.2.1
    simp only [Nat.zero_add, List.length_map, rng_len, List.length_append] at ol l1 hF' hil
    obtain ⟨d, F2, e, d1, d2, hF2⟩ := dip_ok (m := rest.length) hF' (by omega) (by omega) (by omega)
    have pp := pop_map (f := tS) (xs := rest) d1 d2 (by omega)
    refine (show Aft _ (fun o ρ' => o = some (tS (rest[d.toNat]'(by omega))) ∧ wipeE ρ' [4] = [F2, tI n, X, .lst true ((rest.eraseIdx d.toNat).map tS), .hole]) by simp [↓aft_seq, ↓aft_if, ↓aft_asg, ↓aft_ret, ↓aft_drp, ↓aft_bin, ↓aft_fz, ↓aft_mv, ↓aft_nh, ↓aft_pk, ↓aft_binL, ↓aft_binR, ↓aft_set, ↓aft_tru, ↓aft_boolM, ↓aft_cmpB, ↓aft_and, ↓aft_or, ↓aft_not, ↓aft_andV, ↓aft_orV, ↓aft_notV, ↓aft_ifV, ↓aft_neg, ↓aft_nil, ↓aft_cons, ↓aft_tup, ↓aft_lst, ↓aft_un1, ↓aft_un2, ↓aft_call, ↓aft_callIO, ↓aft_gtup, ↓aft_gnil, ↓aft_gcons, ↓aft_par2, ↓aft_par3, ↓aft_isi, ↓aft_chain, ↓aft_pure, ↓aft_bind, ↓aft_iterA, ↓aft_lc, ↓aft_for, ↓aft_forO, ↓aft_lcStep, ↓aft_some, ↓aft_yes, ↓aft_mrd, ↓aft_tab, ↓aft_match, ↓aft_mth, ↓aft_cutL, ↓aft_dnew, ↓aft_cutM, ↓aft_noP, ↓aft_someP, ↓aft_gstar, ↓aft_enum, ↓aft_rng, ↓aft_setD, ↓aft_loopC, ↓aft_loopN, ↓aft_setIx, ↓aft_steal, and_assoc, exists_eq_left', at_zero, at_succ, List.cons_append, List.nil_append, List.replicate, List.set_cons_zero, List.set_cons_succ, T.cold, T.colds, T.imm, T.imms, T.frz, T.frzs, hole_atom, hole_tup, hole_lst, hole_ro, hole_dct, hole_hole, tru_bl, tru_int, tru_non, tru_lst, tru_tup, bool_bl, ty_list, ty_lst, eq_int, ne_int, eqA_int, eqA_tup, eqA_lst, neA_int, neA_tup, neA_lst, eqA_same, neA_same, wipeE, allT, T.bools, itA_tup, itA_lst, ↓aft_lcCons, ↓aft_lcNil, tI, tS, tBl, tN, lt_ii, le_ii, gt_ii, ge_ii, sub_ii, add_ii, item_tup, item_lst, item_ro, len_str, len_lst, len_ro, len_tup, int_i, int_b, isN_n, isN_i, isN_t, notN_n, notN_i, notN_t, itA_str, le_pp, max_tt, min_tt, atI, ixN, tabT, isi_int_int, isi_int_bool, isi_int_str, isi_int_NoneType, isi_int_list, isi_int_tuple, isi_int_ro, isi_bool_int, isi_bool_bool, isi_bool_str, isi_bool_NoneType, isi_bool_list, isi_bool_tuple, isi_bool_ro, isi_str_int, isi_str_bool, isi_str_str, isi_str_NoneType, isi_str_list, isi_str_tuple, isi_str_ro, isi_list_int, isi_list_bool, isi_list_str, isi_list_NoneType, isi_list_list, isi_list_tuple, isi_list_ro, isi_tuple_int, isi_tuple_bool, isi_tuple_str, isi_tuple_NoneType, isi_tuple_list, isi_tuple_tuple, isi_tuple_ro, fv_hole hF', e, pp]).mono fun z ρ' ⟨z1, z2⟩ => ?_
    rw [z1, z2]
    refine ⟨F2, os ++ [rest[d.toNat]'(by omega)], rest.eraseIdx d.toNat, by simp, rfl, ?_, by simp [ol], by rw [show k + (0 + i + 1) = k + i + 1 by omega]; exact hF2⟩
    have q := out_perm (xs := rest) (j := d.toNat) (by omega)
    have q2 : (os ++ (rest[d.toNat]'(by omega) :: rest.eraseIdx d.toNat)).Perm (os ++ rest) := q.append_left os
    simpa using q2.trans pm
theorem names_ok {k n : Nat} {F : T} (hF : Fv k F) (hk : k ≤ 500000000) (hn : n ≤ 8) : ∃ (os : List Str) (F' : T), run__law_names_of [F, tI n] = some (.lst true (os.map tS), F') ∧ os.Nodup ∧ os.length = n ∧ (∀ x ∈ os, NameOk x) ∧ Fv (k + 9) F' := by
  obtain ⟨d, F1, e, p, q, hF1⟩ := dip_ok (m := 3) hF (by omega) (by omega) (by omega)
  have key := run1_of (sem := sem__law_names_of) (n := 3) (ts := [F, tI n]) (R := fun t t0 => ∃ os : List Str, t = .lst true (os.map tS) ∧ os.Nodup ∧ os.length = n ∧ (∀ x ∈ os, NameOk x) ∧ Fv (k + 9) t0) ?_
  · obtain ⟨t, t0, e, os, rfl, q⟩ := key
    exact ⟨os, t0, e, q⟩
  have n62 : (n : Int) < 4611686018427387904 := by omega
  have n63 : -4611686018427387904 ≤ (n : Int) := by omega
  have fin : ∀ {acc : List T} {ρ : VS.Env}, (∃ (F' : T) (os : List Str), acc = os.map tS ∧ ρ[0]? = some F' ∧ os.Nodup ∧ os.length = n ∧ (∀ x ∈ os, NameOk x) ∧ Fv (k + 1 + n) F') → ∃ x, ρ[0]? = some x ∧ x.isHole = false ∧ ∃ os : List Str, acc = os.map tS ∧ os.Nodup ∧ os.length = n ∧ (∀ x ∈ os, NameOk x) ∧ Fv (k + 9) x := fun ⟨F', os, a, b, c, d, e, f⟩ => ⟨F', b, fv_hole f, os, a, c, d, e, f.mono (by omega)⟩
  have c3 : d = 0 ∨ d = 1 ∨ d = 2 := by omega
  unfold sem__law_names_of
  rcases c3 with rfl | rfl | rfl
  · simp [↓aft_seq, ↓aft_if, ↓aft_asg, ↓aft_ret, ↓aft_drp, ↓aft_bin, ↓aft_fz, ↓aft_mv, ↓aft_nh, ↓aft_pk, ↓aft_binL, ↓aft_binR, ↓aft_set, ↓aft_tru, ↓aft_boolM, ↓aft_cmpB, ↓aft_and, ↓aft_or, ↓aft_not, ↓aft_andV, ↓aft_orV, ↓aft_notV, ↓aft_ifV, ↓aft_neg, ↓aft_nil, ↓aft_cons, ↓aft_tup, ↓aft_lst, ↓aft_un1, ↓aft_un2, ↓aft_call, ↓aft_callIO, ↓aft_gtup, ↓aft_gnil, ↓aft_gcons, ↓aft_par2, ↓aft_par3, ↓aft_isi, ↓aft_chain, ↓aft_pure, ↓aft_bind, ↓aft_iterA, ↓aft_lc, ↓aft_for, ↓aft_forO, ↓aft_lcStep, ↓aft_some, ↓aft_yes, ↓aft_mrd, ↓aft_tab, ↓aft_match, ↓aft_mth, ↓aft_cutL, ↓aft_dnew, ↓aft_cutM, ↓aft_noP, ↓aft_someP, ↓aft_gstar, ↓aft_enum, ↓aft_rng, ↓aft_setD, ↓aft_loopC, ↓aft_loopN, ↓aft_setIx, ↓aft_steal, and_assoc, exists_eq_left', at_zero, at_succ, List.cons_append, List.nil_append, List.replicate, List.set_cons_zero, List.set_cons_succ, T.cold, T.colds, T.imm, T.imms, T.frz, T.frzs, hole_atom, hole_tup, hole_lst, hole_ro, hole_dct, hole_hole, tru_bl, tru_int, tru_non, tru_lst, tru_tup, bool_bl, ty_list, ty_lst, eq_int, ne_int, eqA_int, eqA_tup, eqA_lst, neA_int, neA_tup, neA_lst, eqA_same, neA_same, wipeE, allT, T.bools, itA_tup, itA_lst, ↓aft_lcCons, ↓aft_lcNil, tI, tS, tBl, tN, lt_ii, le_ii, gt_ii, ge_ii, sub_ii, add_ii, item_tup, item_lst, item_ro, len_str, len_lst, len_ro, len_tup, int_i, int_b, isN_n, isN_i, isN_t, notN_n, notN_i, notN_t, itA_str, le_pp, max_tt, min_tt, atI, ixN, tabT, isi_int_int, isi_int_bool, isi_int_str, isi_int_NoneType, isi_int_list, isi_int_tuple, isi_int_ro, isi_bool_int, isi_bool_bool, isi_bool_str, isi_bool_NoneType, isi_bool_list, isi_bool_tuple, isi_bool_ro, isi_str_int, isi_str_bool, isi_str_str, isi_str_NoneType, isi_str_list, isi_str_tuple, isi_str_ro, isi_list_int, isi_list_bool, isi_list_str, isi_list_NoneType, isi_list_list, isi_list_tuple, isi_list_ro, isi_tuple_int, isi_tuple_bool, isi_tuple_str, isi_tuple_NoneType, isi_tuple_list, isi_tuple_tuple, isi_tuple_ro, appF, fv_hole hF, fv_hole hF1, e, n62, n63, range_tI]
    have := names_loop (X := .lst true [.hole, .lst true (base1.map tS), .lst true (base2.map tS)]) hF1 (by omega) nb0 hn
    refine (Aft.mono this fun acc ρ h => ?_)
    simpa using fin h
  · simp [↓aft_seq, ↓aft_if, ↓aft_asg, ↓aft_ret, ↓aft_drp, ↓aft_bin, ↓aft_fz, ↓aft_mv, ↓aft_nh, ↓aft_pk, ↓aft_binL, ↓aft_binR, ↓aft_set, ↓aft_tru, ↓aft_boolM, ↓aft_cmpB, ↓aft_and, ↓aft_or, ↓aft_not, ↓aft_andV, ↓aft_orV, ↓aft_notV, ↓aft_ifV, ↓aft_neg, ↓aft_nil, ↓aft_cons, ↓aft_tup, ↓aft_lst, ↓aft_un1, ↓aft_un2, ↓aft_call, ↓aft_callIO, ↓aft_gtup, ↓aft_gnil, ↓aft_gcons, ↓aft_par2, ↓aft_par3, ↓aft_isi, ↓aft_chain, ↓aft_pure, ↓aft_bind, ↓aft_iterA, ↓aft_lc, ↓aft_for, ↓aft_forO, ↓aft_lcStep, ↓aft_some, ↓aft_yes, ↓aft_mrd, ↓aft_tab, ↓aft_match, ↓aft_mth, ↓aft_cutL, ↓aft_dnew, ↓aft_cutM, ↓aft_noP, ↓aft_someP, ↓aft_gstar, ↓aft_enum, ↓aft_rng, ↓aft_setD, ↓aft_loopC, ↓aft_loopN, ↓aft_setIx, ↓aft_steal, and_assoc, exists_eq_left', at_zero, at_succ, List.cons_append, List.nil_append, List.replicate, List.set_cons_zero, List.set_cons_succ, T.cold, T.colds, T.imm, T.imms, T.frz, T.frzs, hole_atom, hole_tup, hole_lst, hole_ro, hole_dct, hole_hole, tru_bl, tru_int, tru_non, tru_lst, tru_tup, bool_bl, ty_list, ty_lst, eq_int, ne_int, eqA_int, eqA_tup, eqA_lst, neA_int, neA_tup, neA_lst, eqA_same, neA_same, wipeE, allT, T.bools, itA_tup, itA_lst, ↓aft_lcCons, ↓aft_lcNil, tI, tS, tBl, tN, lt_ii, le_ii, gt_ii, ge_ii, sub_ii, add_ii, item_tup, item_lst, item_ro, len_str, len_lst, len_ro, len_tup, int_i, int_b, isN_n, isN_i, isN_t, notN_n, notN_i, notN_t, itA_str, le_pp, max_tt, min_tt, atI, ixN, tabT, isi_int_int, isi_int_bool, isi_int_str, isi_int_NoneType, isi_int_list, isi_int_tuple, isi_int_ro, isi_bool_int, isi_bool_bool, isi_bool_str, isi_bool_NoneType, isi_bool_list, isi_bool_tuple, isi_bool_ro, isi_str_int, isi_str_bool, isi_str_str, isi_str_NoneType, isi_str_list, isi_str_tuple, isi_str_ro, isi_list_int, isi_list_bool, isi_list_str, isi_list_NoneType, isi_list_list, isi_list_tuple, isi_list_ro, isi_tuple_int, isi_tuple_bool, isi_tuple_str, isi_tuple_NoneType, isi_tuple_list, isi_tuple_tuple, isi_tuple_ro, appF, fv_hole hF, fv_hole hF1, e, n62, n63, range_tI]
    have := names_loop (X := .lst true [.lst true (base0.map tS), .hole, .lst true (base2.map tS)]) hF1 (by omega) nb1 hn
    refine (Aft.mono this fun acc ρ h => ?_)
    simpa using fin h
  · simp [↓aft_seq, ↓aft_if, ↓aft_asg, ↓aft_ret, ↓aft_drp, ↓aft_bin, ↓aft_fz, ↓aft_mv, ↓aft_nh, ↓aft_pk, ↓aft_binL, ↓aft_binR, ↓aft_set, ↓aft_tru, ↓aft_boolM, ↓aft_cmpB, ↓aft_and, ↓aft_or, ↓aft_not, ↓aft_andV, ↓aft_orV, ↓aft_notV, ↓aft_ifV, ↓aft_neg, ↓aft_nil, ↓aft_cons, ↓aft_tup, ↓aft_lst, ↓aft_un1, ↓aft_un2, ↓aft_call, ↓aft_callIO, ↓aft_gtup, ↓aft_gnil, ↓aft_gcons, ↓aft_par2, ↓aft_par3, ↓aft_isi, ↓aft_chain, ↓aft_pure, ↓aft_bind, ↓aft_iterA, ↓aft_lc, ↓aft_for, ↓aft_forO, ↓aft_lcStep, ↓aft_some, ↓aft_yes, ↓aft_mrd, ↓aft_tab, ↓aft_match, ↓aft_mth, ↓aft_cutL, ↓aft_dnew, ↓aft_cutM, ↓aft_noP, ↓aft_someP, ↓aft_gstar, ↓aft_enum, ↓aft_rng, ↓aft_setD, ↓aft_loopC, ↓aft_loopN, ↓aft_setIx, ↓aft_steal, and_assoc, exists_eq_left', at_zero, at_succ, List.cons_append, List.nil_append, List.replicate, List.set_cons_zero, List.set_cons_succ, T.cold, T.colds, T.imm, T.imms, T.frz, T.frzs, hole_atom, hole_tup, hole_lst, hole_ro, hole_dct, hole_hole, tru_bl, tru_int, tru_non, tru_lst, tru_tup, bool_bl, ty_list, ty_lst, eq_int, ne_int, eqA_int, eqA_tup, eqA_lst, neA_int, neA_tup, neA_lst, eqA_same, neA_same, wipeE, allT, T.bools, itA_tup, itA_lst, ↓aft_lcCons, ↓aft_lcNil, tI, tS, tBl, tN, lt_ii, le_ii, gt_ii, ge_ii, sub_ii, add_ii, item_tup, item_lst, item_ro, len_str, len_lst, len_ro, len_tup, int_i, int_b, isN_n, isN_i, isN_t, notN_n, notN_i, notN_t, itA_str, le_pp, max_tt, min_tt, atI, ixN, tabT, isi_int_int, isi_int_bool, isi_int_str, isi_int_NoneType, isi_int_list, isi_int_tuple, isi_int_ro, isi_bool_int, isi_bool_bool, isi_bool_str, isi_bool_NoneType, isi_bool_list, isi_bool_tuple, isi_bool_ro, isi_str_int, isi_str_bool, isi_str_str, isi_str_NoneType, isi_str_list, isi_str_tuple, isi_str_ro, isi_list_int, isi_list_bool, isi_list_str, isi_list_NoneType, isi_list_list, isi_list_tuple, isi_list_ro, isi_tuple_int, isi_tuple_bool, isi_tuple_str, isi_tuple_NoneType, isi_tuple_list, isi_tuple_tuple, isi_tuple_ro, appF, fv_hole hF, fv_hole hF1, e, n62, n63, range_tI]
    have := names_loop (X := .lst true [.lst true (base0.map tS), .lst true (base1.map tS), .hole]) hF1 (by omega) nb2 hn
    refine (Aft.mono this fun acc ρ h => ?_)
    simpa using fin h
end G
namespace G
open PySem L2 VS
/-! ### pairs drawn -/
theorem lc_filP {α : Type} {a : T → M Unit} {c : M Bool} {e : M T} {own : List Nat} {ys : List α} {f g : α → T} {p : α → Bool} {ρ : VS.Env} (hl : ys.length ≤ 1000000) (hs : ∀ y ∈ ys, Aft (lcStep a c e (f y) ρ) fun o ρ' => o = (if p y = true then some (g y) else none) ∧ wipeE ρ' own = ρ) :
    Aft (lcLoop a c e own (ys.map f) [] ρ) fun acc ρ' => acc = (ys.filter p).map g ∧ ρ' = ρ := by
  have := lc_inv (a := a) (c := c) (e := e) (own := own) (fun i acc ρ' => acc = ((ys.take i).filter p).map g ∧ ρ' = ρ) (xs := ys.map f) (acc := []) (ρ := ρ) 0 ⟨by simp, rfl⟩ (by simpa using hl) fun i x acc ρ' hx ⟨h1, h2⟩ => by
    subst h2
    rw [List.getElem?_map, Option.map_eq_some_iff] at hx
    obtain ⟨y, hy, rfl⟩ := hx
    refine (hs y (List.mem_of_getElem? hy)).mono fun o ρ2 ⟨e1, e2⟩ => ⟨?_, e2⟩
    rw [e1, h1, Nat.zero_add, List.take_succ, hy]
    cases e3 : p y <;> simp [List.filter_append, List.filter_cons, e3]
  refine this.mono fun acc ρ' ⟨h1, h2⟩ => ⟨?_, h2⟩
  rw [h1, Nat.zero_add, List.length_map, List.take_length]
def cnd (one : Int) (rising : Bool) (two : Int) : Bool := decide (one < two) || (!rising && decide (one ≠ two))
def row (one : Int) (n : Nat) (rising : Bool) : List (Int × Int) := ((rngI n).filter (cnd one rising)).map fun two => (one, two)
theorem rng_lt {n : Nat} : (rngI n).Pairwise (· < ·) := by
  unfold rngI
  rw [List.pairwise_map]
  exact List.pairwise_lt_range.imp fun h => by omega
theorem row_ok {ps : List (Int × Int)} {i n : Nat} {rising : Bool} (hi : i < n) (h : PairsOk ps n rising) (hp : ∀ p ∈ ps, p.1 < i) : PairsOk (ps ++ row i n rising) n rising ∧ ∀ p ∈ ps ++ row i n rising, p.1 < (i + 1 : Nat) := by
  have mem : ∀ p ∈ row i n rising, p.1 = i ∧ 0 ≤ p.2 ∧ p.2 < n ∧ mpr p.1 p.2 rising := fun p hp => by
    obtain ⟨two, ht, rfl⟩ := List.mem_map.mp hp
    obtain ⟨h1, h2⟩ := List.mem_filter.mp ht
    have := mem_rng.mp h1
    refine ⟨rfl, this.1, this.2, ?_⟩
    unfold cnd at h2
    unfold mpr
    simp only [Bool.or_eq_true, Bool.and_eq_true, decide_eq_true_eq, Bool.not_eq_true'] at h2
    rcases h2 with h2 | ⟨h2, h3⟩
    · exact .inl h2
    · by_cases l : (i : Int) < two
      · exact .inl l
      · exact .inr ⟨h2, by show two < (i : Int); omega⟩
  refine ⟨⟨fun p hp' => ?_, ?_⟩, fun p hp' => ?_⟩
  · rcases List.mem_append.mp hp' with hp' | hp'
    · exact h.1 p hp'
    · obtain ⟨a, b, c, d⟩ := mem p hp'
      exact ⟨by omega, by omega, b, c, d⟩
  · rw [List.pairwise_append]
    refine ⟨h.2, ?_, fun p hp' q hq => ?_⟩
    · unfold row
      rw [List.pairwise_map]
      refine (rng_lt.filter _).imp fun {a b} hab => ?_
      simp [ple]
      omega
    · have h1 := hp p hp'
      have h2 := (mem q hq).1
      simp [ple]
      omega
  · rcases List.mem_append.mp hp' with hp' | hp'
    · have := hp p hp'; omega
    · have := (mem p hp').1; omega
theorem rng_map_at {n i : Nat} {x : T} (h : ((rngI n).map tI)[i]? = some x) : x = tI i ∧ i < n := by
  rw [← range_tI] at h
  exact range_at h
theorem row_len {one : Int} {n : Nat} {rising : Bool} : (row one n rising).length ≤ n := by
  unfold row
  rw [List.length_map]
  exact Nat.le_trans (List.length_filter_le _ _) (Nat.le_of_eq rng_len)
theorem pairs_ok {k n : Nat} {F : T} {rising : Bool} {most : Nat} (hF : Fv k F) (hk : k ≤ 400000000) (hn : n ≤ 8) (hm : most ≤ 100) : ∃ (ps : List (Int × Int)) (F' : T), run__law_pairs [F, tI n, tBl rising, tI most] = some (.lst true (ps.map prT), F') ∧ PairsOk ps n rising ∧ ps.length ≤ most ∧ Fv (k + 66) F' := by
  obtain ⟨d, F1, e, p, q, hF1⟩ := dip_ok (m := most + 1) hF (by omega) (by omega) (by omega)
  have key := run1_of (sem := sem__law_pairs) (n := 4) (ts := [F, tI n, tBl rising, tI most]) (R := fun t t0 => ∃ ps : List (Int × Int), t = .lst true (ps.map prT) ∧ PairsOk ps n rising ∧ ps.length ≤ most ∧ Fv (k + 66) t0) ?_
  · obtain ⟨t, t0, e, os, rfl, q⟩ := key
    exact ⟨os, t0, e, q⟩
  have n62 : (n : Int) < 4611686018427387904 := by omega
  have n63 : -4611686018427387904 ≤ (n : Int) := by omega
  unfold sem__law_pairs
  simp [↓aft_seq, ↓aft_if, ↓aft_asg, ↓aft_ret, ↓aft_drp, ↓aft_bin, ↓aft_fz, ↓aft_mv, ↓aft_nh, ↓aft_pk, ↓aft_binL, ↓aft_binR, ↓aft_set, ↓aft_tru, ↓aft_boolM, ↓aft_cmpB, ↓aft_and, ↓aft_or, ↓aft_not, ↓aft_andV, ↓aft_orV, ↓aft_notV, ↓aft_ifV, ↓aft_neg, ↓aft_nil, ↓aft_cons, ↓aft_tup, ↓aft_lst, ↓aft_un1, ↓aft_un2, ↓aft_call, ↓aft_callIO, ↓aft_gtup, ↓aft_gnil, ↓aft_gcons, ↓aft_par2, ↓aft_par3, ↓aft_isi, ↓aft_chain, ↓aft_pure, ↓aft_bind, ↓aft_iterA, ↓aft_lc, ↓aft_for, ↓aft_forO, ↓aft_lcStep, ↓aft_some, ↓aft_yes, ↓aft_mrd, ↓aft_tab, ↓aft_match, ↓aft_mth, ↓aft_cutL, ↓aft_dnew, ↓aft_cutM, ↓aft_noP, ↓aft_someP, ↓aft_gstar, ↓aft_enum, ↓aft_rng, ↓aft_setD, ↓aft_loopC, ↓aft_loopN, ↓aft_setIx, ↓aft_steal, and_assoc, exists_eq_left', at_zero, at_succ, List.cons_append, List.nil_append, List.replicate, List.set_cons_zero, List.set_cons_succ, T.cold, T.colds, T.imm, T.imms, T.frz, T.frzs, hole_atom, hole_tup, hole_lst, hole_ro, hole_dct, hole_hole, tru_bl, tru_int, tru_non, tru_lst, tru_tup, bool_bl, ty_list, ty_lst, eq_int, ne_int, eqA_int, eqA_tup, eqA_lst, neA_int, neA_tup, neA_lst, eqA_same, neA_same, wipeE, allT, T.bools, itA_tup, itA_lst, ↓aft_lcCons, ↓aft_lcNil, tI, tS, tBl, tN, lt_ii, le_ii, gt_ii, ge_ii, sub_ii, add_ii, item_tup, item_lst, item_ro, len_str, len_lst, len_ro, len_tup, int_i, int_b, isN_n, isN_i, isN_t, notN_n, notN_i, notN_t, itA_str, le_pp, max_tt, min_tt, atI, ixN, tabT, isi_int_int, isi_int_bool, isi_int_str, isi_int_NoneType, isi_int_list, isi_int_tuple, isi_int_ro, isi_bool_int, isi_bool_bool, isi_bool_str, isi_bool_NoneType, isi_bool_list, isi_bool_tuple, isi_bool_ro, isi_str_int, isi_str_bool, isi_str_str, isi_str_NoneType, isi_str_list, isi_str_tuple, isi_str_ro, isi_list_int, isi_list_bool, isi_list_str, isi_list_NoneType, isi_list_list, isi_list_tuple, isi_list_ro, isi_tuple_int, isi_tuple_bool, isi_tuple_str, isi_tuple_NoneType, isi_tuple_list, isi_tuple_tuple, isi_tuple_ro, n62, n63, range_tI]
  refine Aft.mono (loop_inv (fun i ρ => ∃ (ps : List (Int × Int)) (a : T), ρ = [F, tI n, tBl rising, tI most, .lst true (ps.map prT), a, .hole, .hole] ∧ PairsOk ps n rising ∧ (∀ p ∈ ps, p.1 < (i : Int)) ∧ ps.length ≤ 8 * i) 0 ?_ ?_) ?_
  · refine ⟨[], .hole, rfl, ⟨fun p h => absurd h (by simp), List.Pairwise.nil⟩, fun p h => absurd h (by simp), Nat.zero_le _⟩
  · intro i x ρ hx hinv
    obtain ⟨ps, a, e0, h1, h2, h3⟩ := hinv
    subst e0
    have hx2 := rng_map_at hx
    have ex := hx2.1
    have hil := hx2.2
    rw [ex]
    rw [Nat.zero_add] at h2 h3 ⊢
    simp [↓aft_seq, ↓aft_if, ↓aft_asg, ↓aft_ret, ↓aft_drp, ↓aft_bin, ↓aft_fz, ↓aft_mv, ↓aft_nh, ↓aft_pk, ↓aft_binL, ↓aft_binR, ↓aft_set, ↓aft_tru, ↓aft_boolM, ↓aft_cmpB, ↓aft_and, ↓aft_or, ↓aft_not, ↓aft_andV, ↓aft_orV, ↓aft_notV, ↓aft_ifV, ↓aft_neg, ↓aft_nil, ↓aft_cons, ↓aft_tup, ↓aft_lst, ↓aft_un1, ↓aft_un2, ↓aft_call, ↓aft_callIO, ↓aft_gtup, ↓aft_gnil, ↓aft_gcons, ↓aft_par2, ↓aft_par3, ↓aft_isi, ↓aft_chain, ↓aft_pure, ↓aft_bind, ↓aft_iterA, ↓aft_lc, ↓aft_for, ↓aft_forO, ↓aft_lcStep, ↓aft_some, ↓aft_yes, ↓aft_mrd, ↓aft_tab, ↓aft_match, ↓aft_mth, ↓aft_cutL, ↓aft_dnew, ↓aft_cutM, ↓aft_noP, ↓aft_someP, ↓aft_gstar, ↓aft_enum, ↓aft_rng, ↓aft_setD, ↓aft_loopC, ↓aft_loopN, ↓aft_setIx, ↓aft_steal, and_assoc, exists_eq_left', at_zero, at_succ, List.cons_append, List.nil_append, List.replicate, List.set_cons_zero, List.set_cons_succ, T.cold, T.colds, T.imm, T.imms, T.frz, T.frzs, hole_atom, hole_tup, hole_lst, hole_ro, hole_dct, hole_hole, tru_bl, tru_int, tru_non, tru_lst, tru_tup, bool_bl, ty_list, ty_lst, eq_int, ne_int, eqA_int, eqA_tup, eqA_lst, neA_int, neA_tup, neA_lst, eqA_same, neA_same, wipeE, allT, T.bools, itA_tup, itA_lst, ↓aft_lcCons, ↓aft_lcNil, tI, tS, tBl, tN, lt_ii, le_ii, gt_ii, ge_ii, sub_ii, add_ii, item_tup, item_lst, item_ro, len_str, len_lst, len_ro, len_tup, int_i, int_b, isN_n, isN_i, isN_t, notN_n, notN_i, notN_t, itA_str, le_pp, max_tt, min_tt, atI, ixN, tabT, isi_int_int, isi_int_bool, isi_int_str, isi_int_NoneType, isi_int_list, isi_int_tuple, isi_int_ro, isi_bool_int, isi_bool_bool, isi_bool_str, isi_bool_NoneType, isi_bool_list, isi_bool_tuple, isi_bool_ro, isi_str_int, isi_str_bool, isi_str_str, isi_str_NoneType, isi_str_list, isi_str_tuple, isi_str_ro, isi_list_int, isi_list_bool, isi_list_str, isi_list_NoneType, isi_list_list, isi_list_tuple, isi_list_ro, isi_tuple_int, isi_tuple_bool, isi_tuple_str, isi_tuple_NoneType, isi_tuple_list, isi_tuple_tuple, isi_tuple_ro, n62, n63, range_tI]
    refine (lc_filP (p := cnd i rising) (g := fun two => prT (i, two)) (by rw [rng_len]; omega) fun two ht => ?_).mono fun acc ρ ⟨z1, z2⟩ => ?_
    · by_cases l : (i : Int) < two
      · simp [↓aft_seq, ↓aft_if, ↓aft_asg, ↓aft_ret, ↓aft_drp, ↓aft_bin, ↓aft_fz, ↓aft_mv, ↓aft_nh, ↓aft_pk, ↓aft_binL, ↓aft_binR, ↓aft_set, ↓aft_tru, ↓aft_boolM, ↓aft_cmpB, ↓aft_and, ↓aft_or, ↓aft_not, ↓aft_andV, ↓aft_orV, ↓aft_notV, ↓aft_ifV, ↓aft_neg, ↓aft_nil, ↓aft_cons, ↓aft_tup, ↓aft_lst, ↓aft_un1, ↓aft_un2, ↓aft_call, ↓aft_callIO, ↓aft_gtup, ↓aft_gnil, ↓aft_gcons, ↓aft_par2, ↓aft_par3, ↓aft_isi, ↓aft_chain, ↓aft_pure, ↓aft_bind, ↓aft_iterA, ↓aft_lc, ↓aft_for, ↓aft_forO, ↓aft_lcStep, ↓aft_some, ↓aft_yes, ↓aft_mrd, ↓aft_tab, ↓aft_match, ↓aft_mth, ↓aft_cutL, ↓aft_dnew, ↓aft_cutM, ↓aft_noP, ↓aft_someP, ↓aft_gstar, ↓aft_enum, ↓aft_rng, ↓aft_setD, ↓aft_loopC, ↓aft_loopN, ↓aft_setIx, ↓aft_steal, and_assoc, exists_eq_left', at_zero, at_succ, List.cons_append, List.nil_append, List.replicate, List.set_cons_zero, List.set_cons_succ, T.cold, T.colds, T.imm, T.imms, T.frz, T.frzs, hole_atom, hole_tup, hole_lst, hole_ro, hole_dct, hole_hole, tru_bl, tru_int, tru_non, tru_lst, tru_tup, bool_bl, ty_list, ty_lst, eq_int, ne_int, eqA_int, eqA_tup, eqA_lst, neA_int, neA_tup, neA_lst, eqA_same, neA_same, wipeE, allT, T.bools, itA_tup, itA_lst, ↓aft_lcCons, ↓aft_lcNil, tI, tS, tBl, tN, lt_ii, le_ii, gt_ii, ge_ii, sub_ii, add_ii, item_tup, item_lst, item_ro, len_str, len_lst, len_ro, len_tup, int_i, int_b, isN_n, isN_i, isN_t, notN_n, notN_i, notN_t, itA_str, le_pp, max_tt, min_tt, atI, ixN, tabT, isi_int_int, isi_int_bool, isi_int_str, isi_int_NoneType, isi_int_list, isi_int_tuple, isi_int_ro, isi_bool_int, isi_bool_bool, isi_bool_str, isi_bool_NoneType, isi_bool_list, isi_bool_tuple, isi_bool_ro, isi_str_int, isi_str_bool, isi_str_str, isi_str_NoneType, isi_str_list, isi_str_tuple, isi_str_ro, isi_list_int, isi_list_bool, isi_list_str, isi_list_NoneType, isi_list_list, isi_list_tuple, isi_list_ro, isi_tuple_int, isi_tuple_bool, isi_tuple_str, isi_tuple_NoneType, isi_tuple_list, isi_tuple_tuple, isi_tuple_ro, l, cnd, prT]
      · cases rising
        · by_cases l2 : (i : Int) = two
          · simp [↓aft_seq, ↓aft_if, ↓aft_asg, ↓aft_ret, ↓aft_drp, ↓aft_bin, ↓aft_fz, ↓aft_mv, ↓aft_nh, ↓aft_pk, ↓aft_binL, ↓aft_binR, ↓aft_set, ↓aft_tru, ↓aft_boolM, ↓aft_cmpB, ↓aft_and, ↓aft_or, ↓aft_not, ↓aft_andV, ↓aft_orV, ↓aft_notV, ↓aft_ifV, ↓aft_neg, ↓aft_nil, ↓aft_cons, ↓aft_tup, ↓aft_lst, ↓aft_un1, ↓aft_un2, ↓aft_call, ↓aft_callIO, ↓aft_gtup, ↓aft_gnil, ↓aft_gcons, ↓aft_par2, ↓aft_par3, ↓aft_isi, ↓aft_chain, ↓aft_pure, ↓aft_bind, ↓aft_iterA, ↓aft_lc, ↓aft_for, ↓aft_forO, ↓aft_lcStep, ↓aft_some, ↓aft_yes, ↓aft_mrd, ↓aft_tab, ↓aft_match, ↓aft_mth, ↓aft_cutL, ↓aft_dnew, ↓aft_cutM, ↓aft_noP, ↓aft_someP, ↓aft_gstar, ↓aft_enum, ↓aft_rng, ↓aft_setD, ↓aft_loopC, ↓aft_loopN, ↓aft_setIx, ↓aft_steal, and_assoc, exists_eq_left', at_zero, at_succ, List.cons_append, List.nil_append, List.replicate, List.set_cons_zero, List.set_cons_succ, T.cold, T.colds, T.imm, T.imms, T.frz, T.frzs, hole_atom, hole_tup, hole_lst, hole_ro, hole_dct, hole_hole, tru_bl, tru_int, tru_non, tru_lst, tru_tup, bool_bl, ty_list, ty_lst, eq_int, ne_int, eqA_int, eqA_tup, eqA_lst, neA_int, neA_tup, neA_lst, eqA_same, neA_same, wipeE, allT, T.bools, itA_tup, itA_lst, ↓aft_lcCons, ↓aft_lcNil, tI, tS, tBl, tN, lt_ii, le_ii, gt_ii, ge_ii, sub_ii, add_ii, item_tup, item_lst, item_ro, len_str, len_lst, len_ro, len_tup, int_i, int_b, isN_n, isN_i, isN_t, notN_n, notN_i, notN_t, itA_str, le_pp, max_tt, min_tt, atI, ixN, tabT, isi_int_int, isi_int_bool, isi_int_str, isi_int_NoneType, isi_int_list, isi_int_tuple, isi_int_ro, isi_bool_int, isi_bool_bool, isi_bool_str, isi_bool_NoneType, isi_bool_list, isi_bool_tuple, isi_bool_ro, isi_str_int, isi_str_bool, isi_str_str, isi_str_NoneType, isi_str_list, isi_str_tuple, isi_str_ro, isi_list_int, isi_list_bool, isi_list_str, isi_list_NoneType, isi_list_list, isi_list_tuple, isi_list_ro, isi_tuple_int, isi_tuple_bool, isi_tuple_str, isi_tuple_NoneType, isi_tuple_list, isi_tuple_tuple, isi_tuple_ro, l, l2, cnd, prT]
          · simp [↓aft_seq, ↓aft_if, ↓aft_asg, ↓aft_ret, ↓aft_drp, ↓aft_bin, ↓aft_fz, ↓aft_mv, ↓aft_nh, ↓aft_pk, ↓aft_binL, ↓aft_binR, ↓aft_set, ↓aft_tru, ↓aft_boolM, ↓aft_cmpB, ↓aft_and, ↓aft_or, ↓aft_not, ↓aft_andV, ↓aft_orV, ↓aft_notV, ↓aft_ifV, ↓aft_neg, ↓aft_nil, ↓aft_cons, ↓aft_tup, ↓aft_lst, ↓aft_un1, ↓aft_un2, ↓aft_call, ↓aft_callIO, ↓aft_gtup, ↓aft_gnil, ↓aft_gcons, ↓aft_par2, ↓aft_par3, ↓aft_isi, ↓aft_chain, ↓aft_pure, ↓aft_bind, ↓aft_iterA, ↓aft_lc, ↓aft_for, ↓aft_forO, ↓aft_lcStep, ↓aft_some, ↓aft_yes, ↓aft_mrd, ↓aft_tab, ↓aft_match, ↓aft_mth, ↓aft_cutL, ↓aft_dnew, ↓aft_cutM, ↓aft_noP, ↓aft_someP, ↓aft_gstar, ↓aft_enum, ↓aft_rng, ↓aft_setD, ↓aft_loopC, ↓aft_loopN, ↓aft_setIx, ↓aft_steal, and_assoc, exists_eq_left', at_zero, at_succ, List.cons_append, List.nil_append, List.replicate, List.set_cons_zero, List.set_cons_succ, T.cold, T.colds, T.imm, T.imms, T.frz, T.frzs, hole_atom, hole_tup, hole_lst, hole_ro, hole_dct, hole_hole, tru_bl, tru_int, tru_non, tru_lst, tru_tup, bool_bl, ty_list, ty_lst, eq_int, ne_int, eqA_int, eqA_tup, eqA_lst, neA_int, neA_tup, neA_lst, eqA_same, neA_same, wipeE, allT, T.bools, itA_tup, itA_lst, ↓aft_lcCons, ↓aft_lcNil, tI, tS, tBl, tN, lt_ii, le_ii, gt_ii, ge_ii, sub_ii, add_ii, item_tup, item_lst, item_ro, len_str, len_lst, len_ro, len_tup, int_i, int_b, isN_n, isN_i, isN_t, notN_n, notN_i, notN_t, itA_str, le_pp, max_tt, min_tt, atI, ixN, tabT, isi_int_int, isi_int_bool, isi_int_str, isi_int_NoneType, isi_int_list, isi_int_tuple, isi_int_ro, isi_bool_int, isi_bool_bool, isi_bool_str, isi_bool_NoneType, isi_bool_list, isi_bool_tuple, isi_bool_ro, isi_str_int, isi_str_bool, isi_str_str, isi_str_NoneType, isi_str_list, isi_str_tuple, isi_str_ro, isi_list_int, isi_list_bool, isi_list_str, isi_list_NoneType, isi_list_list, isi_list_tuple, isi_list_ro, isi_tuple_int, isi_tuple_bool, isi_tuple_str, isi_tuple_NoneType, isi_tuple_list, isi_tuple_tuple, isi_tuple_ro, l, l2, cnd, prT]
        · simp [↓aft_seq, ↓aft_if, ↓aft_asg, ↓aft_ret, ↓aft_drp, ↓aft_bin, ↓aft_fz, ↓aft_mv, ↓aft_nh, ↓aft_pk, ↓aft_binL, ↓aft_binR, ↓aft_set, ↓aft_tru, ↓aft_boolM, ↓aft_cmpB, ↓aft_and, ↓aft_or, ↓aft_not, ↓aft_andV, ↓aft_orV, ↓aft_notV, ↓aft_ifV, ↓aft_neg, ↓aft_nil, ↓aft_cons, ↓aft_tup, ↓aft_lst, ↓aft_un1, ↓aft_un2, ↓aft_call, ↓aft_callIO, ↓aft_gtup, ↓aft_gnil, ↓aft_gcons, ↓aft_par2, ↓aft_par3, ↓aft_isi, ↓aft_chain, ↓aft_pure, ↓aft_bind, ↓aft_iterA, ↓aft_lc, ↓aft_for, ↓aft_forO, ↓aft_lcStep, ↓aft_some, ↓aft_yes, ↓aft_mrd, ↓aft_tab, ↓aft_match, ↓aft_mth, ↓aft_cutL, ↓aft_dnew, ↓aft_cutM, ↓aft_noP, ↓aft_someP, ↓aft_gstar, ↓aft_enum, ↓aft_rng, ↓aft_setD, ↓aft_loopC, ↓aft_loopN, ↓aft_setIx, ↓aft_steal, and_assoc, exists_eq_left', at_zero, at_succ, List.cons_append, List.nil_append, List.replicate, List.set_cons_zero, List.set_cons_succ, T.cold, T.colds, T.imm, T.imms, T.frz, T.frzs, hole_atom, hole_tup, hole_lst, hole_ro, hole_dct, hole_hole, tru_bl, tru_int, tru_non, tru_lst, tru_tup, bool_bl, ty_list, ty_lst, eq_int, ne_int, eqA_int, eqA_tup, eqA_lst, neA_int, neA_tup, neA_lst, eqA_same, neA_same, wipeE, allT, T.bools, itA_tup, itA_lst, ↓aft_lcCons, ↓aft_lcNil, tI, tS, tBl, tN, lt_ii, le_ii, gt_ii, ge_ii, sub_ii, add_ii, item_tup, item_lst, item_ro, len_str, len_lst, len_ro, len_tup, int_i, int_b, isN_n, isN_i, isN_t, notN_n, notN_i, notN_t, itA_str, le_pp, max_tt, min_tt, atI, ixN, tabT, isi_int_int, isi_int_bool, isi_int_str, isi_int_NoneType, isi_int_list, isi_int_tuple, isi_int_ro, isi_bool_int, isi_bool_bool, isi_bool_str, isi_bool_NoneType, isi_bool_list, isi_bool_tuple, isi_bool_ro, isi_str_int, isi_str_bool, isi_str_str, isi_str_NoneType, isi_str_list, isi_str_tuple, isi_str_ro, isi_list_int, isi_list_bool, isi_list_str, isi_list_NoneType, isi_list_list, isi_list_tuple, isi_list_ro, isi_tuple_int, isi_tuple_bool, isi_tuple_str, isi_tuple_NoneType, isi_tuple_list, isi_tuple_tuple, isi_tuple_ro, l, cnd, prT]
    · subst z1 z2
      obtain ⟨r1, r2⟩ := row_ok (rising := rising) hil h1 h2
      have rl := row_len (one := i) (n := n) (rising := rising)
      have re : ((rngI n).filter (cnd i rising)).map (fun two => prT (i, two)) = (row i n rising).map prT := by
        unfold row
        rw [List.map_map]; rfl
      have ad : addT (.lst true (ps.map prT)) (.lst true ((row i n rising).map prT)) = some (.lst true ((ps ++ row i n rising).map prT)) := by
        simp only [addT]
        rw [if_pos (by simp; exact mil (by omega)), List.map_append]
      rw [re]
      simp only [ad]
      simp [↓aft_seq, ↓aft_if, ↓aft_asg, ↓aft_ret, ↓aft_drp, ↓aft_bin, ↓aft_fz, ↓aft_mv, ↓aft_nh, ↓aft_pk, ↓aft_binL, ↓aft_binR, ↓aft_set, ↓aft_tru, ↓aft_boolM, ↓aft_cmpB, ↓aft_and, ↓aft_or, ↓aft_not, ↓aft_andV, ↓aft_orV, ↓aft_notV, ↓aft_ifV, ↓aft_neg, ↓aft_nil, ↓aft_cons, ↓aft_tup, ↓aft_lst, ↓aft_un1, ↓aft_un2, ↓aft_call, ↓aft_callIO, ↓aft_gtup, ↓aft_gnil, ↓aft_gcons, ↓aft_par2, ↓aft_par3, ↓aft_isi, ↓aft_chain, ↓aft_pure, ↓aft_bind, ↓aft_iterA, ↓aft_lc, ↓aft_for, ↓aft_forO, ↓aft_lcStep, ↓aft_some, ↓aft_yes, ↓aft_mrd, ↓aft_tab, ↓aft_match, ↓aft_mth, ↓aft_cutL, ↓aft_dnew, ↓aft_cutM, ↓aft_noP, ↓aft_someP, ↓aft_gstar, ↓aft_enum, ↓aft_rng, ↓aft_setD, ↓aft_loopC, ↓aft_loopN, ↓aft_setIx, ↓aft_steal, and_assoc, exists_eq_left', at_zero, at_succ, List.cons_append, List.nil_append, List.replicate, List.set_cons_zero, List.set_cons_succ, T.cold, T.colds, T.imm, T.imms, T.frz, T.frzs, hole_atom, hole_tup, hole_lst, hole_ro, hole_dct, hole_hole, tru_bl, tru_int, tru_non, tru_lst, tru_tup, bool_bl, ty_list, ty_lst, eq_int, ne_int, eqA_int, eqA_tup, eqA_lst, neA_int, neA_tup, neA_lst, eqA_same, neA_same, wipeE, allT, T.bools, itA_tup, itA_lst, ↓aft_lcCons, ↓aft_lcNil, tI, tS, tBl, tN, lt_ii, le_ii, gt_ii, ge_ii, sub_ii, add_ii, item_tup, item_lst, item_ro, len_str, len_lst, len_ro, len_tup, int_i, int_b, isN_n, isN_i, isN_t, notN_n, notN_i, notN_t, itA_str, le_pp, max_tt, min_tt, atI, ixN, tabT, isi_int_int, isi_int_bool, isi_int_str, isi_int_NoneType, isi_int_list, isi_int_tuple, isi_int_ro, isi_bool_int, isi_bool_bool, isi_bool_str, isi_bool_NoneType, isi_bool_list, isi_bool_tuple, isi_bool_ro, isi_str_int, isi_str_bool, isi_str_str, isi_str_NoneType, isi_str_list, isi_str_tuple, isi_str_ro, isi_list_int, isi_list_bool, isi_list_str, isi_list_NoneType, isi_list_list, isi_list_tuple, isi_list_ro, isi_tuple_int, isi_tuple_bool, isi_tuple_str, isi_tuple_NoneType, isi_tuple_list, isi_tuple_tuple, isi_tuple_ro]
      exact ⟨ps ++ row i n rising, by simp, r1, fun a b hab => r2 (a, b) (by simpa using hab), by simp; omega⟩
  · rintro c ρ ⟨e0, ps, a, e1, h1, h2, h3⟩
    subst e0 e1
    rw [Nat.zero_add, List.length_map, rng_len] at h3
    have s8 : (d : Int) = d := rfl
    have ne1 : ∀ p ∈ ps, True := fun _ _ => trivial
    simp [↓aft_seq, ↓aft_if, ↓aft_asg, ↓aft_ret, ↓aft_drp, ↓aft_bin, ↓aft_fz, ↓aft_mv, ↓aft_nh, ↓aft_pk, ↓aft_binL, ↓aft_binR, ↓aft_set, ↓aft_tru, ↓aft_boolM, ↓aft_cmpB, ↓aft_and, ↓aft_or, ↓aft_not, ↓aft_andV, ↓aft_orV, ↓aft_notV, ↓aft_ifV, ↓aft_neg, ↓aft_nil, ↓aft_cons, ↓aft_tup, ↓aft_lst, ↓aft_un1, ↓aft_un2, ↓aft_call, ↓aft_callIO, ↓aft_gtup, ↓aft_gnil, ↓aft_gcons, ↓aft_par2, ↓aft_par3, ↓aft_isi, ↓aft_chain, ↓aft_pure, ↓aft_bind, ↓aft_iterA, ↓aft_lc, ↓aft_for, ↓aft_forO, ↓aft_lcStep, ↓aft_some, ↓aft_yes, ↓aft_mrd, ↓aft_tab, ↓aft_match, ↓aft_mth, ↓aft_cutL, ↓aft_dnew, ↓aft_cutM, ↓aft_noP, ↓aft_someP, ↓aft_gstar, ↓aft_enum, ↓aft_rng, ↓aft_setD, ↓aft_loopC, ↓aft_loopN, ↓aft_setIx, ↓aft_steal, and_assoc, exists_eq_left', at_zero, at_succ, List.cons_append, List.nil_append, List.replicate, List.set_cons_zero, List.set_cons_succ, T.cold, T.colds, T.imm, T.imms, T.frz, T.frzs, hole_atom, hole_tup, hole_lst, hole_ro, hole_dct, hole_hole, tru_bl, tru_int, tru_non, tru_lst, tru_tup, bool_bl, ty_list, ty_lst, eq_int, ne_int, eqA_int, eqA_tup, eqA_lst, neA_int, neA_tup, neA_lst, eqA_same, neA_same, wipeE, allT, T.bools, itA_tup, itA_lst, ↓aft_lcCons, ↓aft_lcNil, tI, tS, tBl, tN, lt_ii, le_ii, gt_ii, ge_ii, sub_ii, add_ii, item_tup, item_lst, item_ro, len_str, len_lst, len_ro, len_tup, int_i, int_b, isN_n, isN_i, isN_t, notN_n, notN_i, notN_t, itA_str, le_pp, max_tt, min_tt, atI, ixN, tabT, isi_int_int, isi_int_bool, isi_int_str, isi_int_NoneType, isi_int_list, isi_int_tuple, isi_int_ro, isi_bool_int, isi_bool_bool, isi_bool_str, isi_bool_NoneType, isi_bool_list, isi_bool_tuple, isi_bool_ro, isi_str_int, isi_str_bool, isi_str_str, isi_str_NoneType, isi_str_list, isi_str_tuple, isi_str_ro, isi_list_int, isi_list_bool, isi_list_str, isi_list_NoneType, isi_list_list, isi_list_tuple, isi_list_ro, isi_tuple_int, isi_tuple_bool, isi_tuple_str, isi_tuple_NoneType, isi_tuple_list, isi_tuple_tuple, isi_tuple_ro, fv_hole hF, fv_hole hF1, e]
    refine Aft.mono (aft_while (while_dec (fun m ρ => ∃ (qs : List (Int × Int)) (F' : T), ρ = [F', tI n, tBl rising, tI most, .lst true (qs.map prT), a, tI (min (ps.length : Int) d), .hole] ∧ PairsOk qs n rising ∧ qs.length = m ∧ m ≤ 64 ∧ Fv (k + 1 + (64 - m)) F')
      (fun ρ => ∃ (qs : List (Int × Int)) (F' : T), ρ = [F', tI n, tBl rising, tI most, .lst true (qs.map prT), a, tI (min (ps.length : Int) d), .hole] ∧ PairsOk qs n rising ∧ (qs.length : Int) ≤ min (ps.length : Int) d ∧ Fv (k + 66) F') ?_ ps.length _ ?_)) ?_
    · rintro m ρ ⟨qs, F', e1, g1, g2, g3, g4⟩
      subst e1
      by_cases c : min (ps.length : Int) d < (qs.length : Int)
      · have q0 : 0 < qs.length := by omega
        obtain ⟨d2, F2, e2, d3, d4, hF2⟩ := dip_ok (m := qs.length) g4 (by omega) (by omega) (by omega)
        have pp := pop_map (f := prT) (xs := qs) d3 d4 (by omega)
        simp [↓aft_seq, ↓aft_if, ↓aft_asg, ↓aft_ret, ↓aft_drp, ↓aft_bin, ↓aft_fz, ↓aft_mv, ↓aft_nh, ↓aft_pk, ↓aft_binL, ↓aft_binR, ↓aft_set, ↓aft_tru, ↓aft_boolM, ↓aft_cmpB, ↓aft_and, ↓aft_or, ↓aft_not, ↓aft_andV, ↓aft_orV, ↓aft_notV, ↓aft_ifV, ↓aft_neg, ↓aft_nil, ↓aft_cons, ↓aft_tup, ↓aft_lst, ↓aft_un1, ↓aft_un2, ↓aft_call, ↓aft_callIO, ↓aft_gtup, ↓aft_gnil, ↓aft_gcons, ↓aft_par2, ↓aft_par3, ↓aft_isi, ↓aft_chain, ↓aft_pure, ↓aft_bind, ↓aft_iterA, ↓aft_lc, ↓aft_for, ↓aft_forO, ↓aft_lcStep, ↓aft_some, ↓aft_yes, ↓aft_mrd, ↓aft_tab, ↓aft_match, ↓aft_mth, ↓aft_cutL, ↓aft_dnew, ↓aft_cutM, ↓aft_noP, ↓aft_someP, ↓aft_gstar, ↓aft_enum, ↓aft_rng, ↓aft_setD, ↓aft_loopC, ↓aft_loopN, ↓aft_setIx, ↓aft_steal, and_assoc, exists_eq_left', at_zero, at_succ, List.cons_append, List.nil_append, List.replicate, List.set_cons_zero, List.set_cons_succ, T.cold, T.colds, T.imm, T.imms, T.frz, T.frzs, hole_atom, hole_tup, hole_lst, hole_ro, hole_dct, hole_hole, tru_bl, tru_int, tru_non, tru_lst, tru_tup, bool_bl, ty_list, ty_lst, eq_int, ne_int, eqA_int, eqA_tup, eqA_lst, neA_int, neA_tup, neA_lst, eqA_same, neA_same, wipeE, allT, T.bools, itA_tup, itA_lst, ↓aft_lcCons, ↓aft_lcNil, tI, tS, tBl, tN, lt_ii, le_ii, gt_ii, ge_ii, sub_ii, add_ii, item_tup, item_lst, item_ro, len_str, len_lst, len_ro, len_tup, int_i, int_b, isN_n, isN_i, isN_t, notN_n, notN_i, notN_t, itA_str, le_pp, max_tt, min_tt, atI, ixN, tabT, isi_int_int, isi_int_bool, isi_int_str, isi_int_NoneType, isi_int_list, isi_int_tuple, isi_int_ro, isi_bool_int, isi_bool_bool, isi_bool_str, isi_bool_NoneType, isi_bool_list, isi_bool_tuple, isi_bool_ro, isi_str_int, isi_str_bool, isi_str_str, isi_str_NoneType, isi_str_list, isi_str_tuple, isi_str_ro, isi_list_int, isi_list_bool, isi_list_str, isi_list_NoneType, isi_list_list, isi_list_tuple, isi_list_ro, isi_tuple_int, isi_tuple_bool, isi_tuple_str, isi_tuple_NoneType, isi_tuple_list, isi_tuple_tuple, isi_tuple_ro, c, fv_hole g4, e2, pp]
        refine ⟨m - 1, by omega, qs.eraseIdx d2.toNat, rfl, ⟨fun p hp => g1.1 p (List.mem_of_mem_eraseIdx hp), g1.2.sublist (List.eraseIdx_sublist _ _)⟩, ?_, by omega, hF2.mono (by omega)⟩
        rw [List.length_eraseIdx, if_pos (by omega)]
        omega
      · simp [↓aft_seq, ↓aft_if, ↓aft_asg, ↓aft_ret, ↓aft_drp, ↓aft_bin, ↓aft_fz, ↓aft_mv, ↓aft_nh, ↓aft_pk, ↓aft_binL, ↓aft_binR, ↓aft_set, ↓aft_tru, ↓aft_boolM, ↓aft_cmpB, ↓aft_and, ↓aft_or, ↓aft_not, ↓aft_andV, ↓aft_orV, ↓aft_notV, ↓aft_ifV, ↓aft_neg, ↓aft_nil, ↓aft_cons, ↓aft_tup, ↓aft_lst, ↓aft_un1, ↓aft_un2, ↓aft_call, ↓aft_callIO, ↓aft_gtup, ↓aft_gnil, ↓aft_gcons, ↓aft_par2, ↓aft_par3, ↓aft_isi, ↓aft_chain, ↓aft_pure, ↓aft_bind, ↓aft_iterA, ↓aft_lc, ↓aft_for, ↓aft_forO, ↓aft_lcStep, ↓aft_some, ↓aft_yes, ↓aft_mrd, ↓aft_tab, ↓aft_match, ↓aft_mth, ↓aft_cutL, ↓aft_dnew, ↓aft_cutM, ↓aft_noP, ↓aft_someP, ↓aft_gstar, ↓aft_enum, ↓aft_rng, ↓aft_setD, ↓aft_loopC, ↓aft_loopN, ↓aft_setIx, ↓aft_steal, and_assoc, exists_eq_left', at_zero, at_succ, List.cons_append, List.nil_append, List.replicate, List.set_cons_zero, List.set_cons_succ, T.cold, T.colds, T.imm, T.imms, T.frz, T.frzs, hole_atom, hole_tup, hole_lst, hole_ro, hole_dct, hole_hole, tru_bl, tru_int, tru_non, tru_lst, tru_tup, bool_bl, ty_list, ty_lst, eq_int, ne_int, eqA_int, eqA_tup, eqA_lst, neA_int, neA_tup, neA_lst, eqA_same, neA_same, wipeE, allT, T.bools, itA_tup, itA_lst, ↓aft_lcCons, ↓aft_lcNil, tI, tS, tBl, tN, lt_ii, le_ii, gt_ii, ge_ii, sub_ii, add_ii, item_tup, item_lst, item_ro, len_str, len_lst, len_ro, len_tup, int_i, int_b, isN_n, isN_i, isN_t, notN_n, notN_i, notN_t, itA_str, le_pp, max_tt, min_tt, atI, ixN, tabT, isi_int_int, isi_int_bool, isi_int_str, isi_int_NoneType, isi_int_list, isi_int_tuple, isi_int_ro, isi_bool_int, isi_bool_bool, isi_bool_str, isi_bool_NoneType, isi_bool_list, isi_bool_tuple, isi_bool_ro, isi_str_int, isi_str_bool, isi_str_str, isi_str_NoneType, isi_str_list, isi_str_tuple, isi_str_ro, isi_list_int, isi_list_bool, isi_list_str, isi_list_NoneType, isi_list_list, isi_list_tuple, isi_list_ro, isi_tuple_int, isi_tuple_bool, isi_tuple_str, isi_tuple_NoneType, isi_tuple_list, isi_tuple_tuple, isi_tuple_ro, c]
        exact ⟨qs, rfl, g1, by omega, g4.mono (by omega)⟩
    · exact ⟨ps, F1, rfl, h1, rfl, by omega, hF1.mono (by omega)⟩
    · rintro c ρ ⟨e0, qs, F', e1, g1, g2, g3⟩
      subst e0 e1
      simp [↓aft_seq, ↓aft_if, ↓aft_asg, ↓aft_ret, ↓aft_drp, ↓aft_bin, ↓aft_fz, ↓aft_mv, ↓aft_nh, ↓aft_pk, ↓aft_binL, ↓aft_binR, ↓aft_set, ↓aft_tru, ↓aft_boolM, ↓aft_cmpB, ↓aft_and, ↓aft_or, ↓aft_not, ↓aft_andV, ↓aft_orV, ↓aft_notV, ↓aft_ifV, ↓aft_neg, ↓aft_nil, ↓aft_cons, ↓aft_tup, ↓aft_lst, ↓aft_un1, ↓aft_un2, ↓aft_call, ↓aft_callIO, ↓aft_gtup, ↓aft_gnil, ↓aft_gcons, ↓aft_par2, ↓aft_par3, ↓aft_isi, ↓aft_chain, ↓aft_pure, ↓aft_bind, ↓aft_iterA, ↓aft_lc, ↓aft_for, ↓aft_forO, ↓aft_lcStep, ↓aft_some, ↓aft_yes, ↓aft_mrd, ↓aft_tab, ↓aft_match, ↓aft_mth, ↓aft_cutL, ↓aft_dnew, ↓aft_cutM, ↓aft_noP, ↓aft_someP, ↓aft_gstar, ↓aft_enum, ↓aft_rng, ↓aft_setD, ↓aft_loopC, ↓aft_loopN, ↓aft_setIx, ↓aft_steal, and_assoc, exists_eq_left', at_zero, at_succ, List.cons_append, List.nil_append, List.replicate, List.set_cons_zero, List.set_cons_succ, T.cold, T.colds, T.imm, T.imms, T.frz, T.frzs, hole_atom, hole_tup, hole_lst, hole_ro, hole_dct, hole_hole, tru_bl, tru_int, tru_non, tru_lst, tru_tup, bool_bl, ty_list, ty_lst, eq_int, ne_int, eqA_int, eqA_tup, eqA_lst, neA_int, neA_tup, neA_lst, eqA_same, neA_same, wipeE, allT, T.bools, itA_tup, itA_lst, ↓aft_lcCons, ↓aft_lcNil, tI, tS, tBl, tN, lt_ii, le_ii, gt_ii, ge_ii, sub_ii, add_ii, item_tup, item_lst, item_ro, len_str, len_lst, len_ro, len_tup, int_i, int_b, isN_n, isN_i, isN_t, notN_n, notN_i, notN_t, itA_str, le_pp, max_tt, min_tt, atI, ixN, tabT, isi_int_int, isi_int_bool, isi_int_str, isi_int_NoneType, isi_int_list, isi_int_tuple, isi_int_ro, isi_bool_int, isi_bool_bool, isi_bool_str, isi_bool_NoneType, isi_bool_list, isi_bool_tuple, isi_bool_ro, isi_str_int, isi_str_bool, isi_str_str, isi_str_NoneType, isi_str_list, isi_str_tuple, isi_str_ro, isi_list_int, isi_list_bool, isi_list_str, isi_list_NoneType, isi_list_list, isi_list_tuple, isi_list_ro, isi_tuple_int, isi_tuple_bool, isi_tuple_str, isi_tuple_NoneType, isi_tuple_list, isi_tuple_tuple, isi_tuple_ro]
      exact ⟨fv_hole g3, qs, rfl, g1, by omega, g3⟩
end G
namespace G
open PySem L2 VS
/-! ### views drawn -/
def vwT (p l t r b : Int) : T := .tup [tI p, tI l, tI t, tI r, tI b]
def VwOk (i : Nat) (v : T) : Prop := ∃ p l t r b : Int, v = vwT p l t r b ∧ 0 ≤ p ∧ p < i + 1 ∧ l < r ∧ t < b ∧ -4 ≤ l ∧ -4 ≤ t ∧ r ≤ 100 ∧ b ≤ 100
theorem VwOk.at {i : Nat} {v : T} (h : VwOk i v) : ViewAt i v := by
  obtain ⟨p, l, t, r, b, e, h1, h2, h3, h4, h5, h6, h7, h8⟩ := h
  exact ⟨p, l, t, r, b, e, h1, h2, h3, h4, by omega, by omega, by omega, by omega⟩
theorem VwOk.imm {i : Nat} {v : T} (h : VwOk i v) : v.imm = true := by
  obtain ⟨p, l, t, r, b, e, _⟩ := h
  rw [e]; rfl
theorem cut_vw {p l t r b : Int} : cutT (vwT p l t r b) (some 1) none = some (.tup [tI l, tI t, tI r, tI b]) := rfl
theorem small_ok {k n : Nat} {F : T} (hF : Fv k F) (hk : k ≤ 300000000) (hn : n ≤ 12) : ∃ (vs : List T) (F' : T), run__law_small [F, tI n] = some (.lst true vs, F') ∧ vs.length = n ∧ (∀ j v, vs[j]? = some v → VwOk j v) ∧ Fv (k + 6 * n) F' := by
  have key := run1_of (sem := sem__law_small) (n := 8) (ts := [F, tI n]) (R := fun t t0 => ∃ vs : List T, t = .lst true vs ∧ vs.length = n ∧ (∀ j v, vs[j]? = some v → VwOk j v) ∧ Fv (k + 6 * n) t0) ?_
  · obtain ⟨t, t0, e, os, rfl, q⟩ := key
    exact ⟨os, t0, e, q⟩
  have n62 : (n : Int) < 4611686018427387904 := by omega
  have n63 : -4611686018427387904 ≤ (n : Int) := by omega
  unfold sem__law_small
  simp [↓aft_seq, ↓aft_if, ↓aft_asg, ↓aft_ret, ↓aft_drp, ↓aft_bin, ↓aft_fz, ↓aft_mv, ↓aft_nh, ↓aft_pk, ↓aft_binL, ↓aft_binR, ↓aft_set, ↓aft_tru, ↓aft_boolM, ↓aft_cmpB, ↓aft_and, ↓aft_or, ↓aft_not, ↓aft_andV, ↓aft_orV, ↓aft_notV, ↓aft_ifV, ↓aft_neg, ↓aft_nil, ↓aft_cons, ↓aft_tup, ↓aft_lst, ↓aft_un1, ↓aft_un2, ↓aft_call, ↓aft_callIO, ↓aft_gtup, ↓aft_gnil, ↓aft_gcons, ↓aft_par2, ↓aft_par3, ↓aft_isi, ↓aft_chain, ↓aft_pure, ↓aft_bind, ↓aft_iterA, ↓aft_lc, ↓aft_for, ↓aft_forO, ↓aft_lcStep, ↓aft_some, ↓aft_yes, ↓aft_mrd, ↓aft_tab, ↓aft_match, ↓aft_mth, ↓aft_cutL, ↓aft_dnew, ↓aft_cutM, ↓aft_noP, ↓aft_someP, ↓aft_gstar, ↓aft_enum, ↓aft_rng, ↓aft_setD, ↓aft_loopC, ↓aft_loopN, ↓aft_setIx, ↓aft_steal, and_assoc, exists_eq_left', at_zero, at_succ, List.cons_append, List.nil_append, List.replicate, List.set_cons_zero, List.set_cons_succ, T.cold, T.colds, T.imm, T.imms, T.frz, T.frzs, hole_atom, hole_tup, hole_lst, hole_ro, hole_dct, hole_hole, tru_bl, tru_int, tru_non, tru_lst, tru_tup, bool_bl, ty_list, ty_lst, eq_int, ne_int, eqA_int, eqA_tup, eqA_lst, neA_int, neA_tup, neA_lst, eqA_same, neA_same, wipeE, allT, T.bools, itA_tup, itA_lst, ↓aft_lcCons, ↓aft_lcNil, tI, tS, tBl, tN, lt_ii, le_ii, gt_ii, ge_ii, sub_ii, add_ii, item_tup, item_lst, item_ro, len_str, len_lst, len_ro, len_tup, int_i, int_b, isN_n, isN_i, isN_t, notN_n, notN_i, notN_t, itA_str, le_pp, max_tt, min_tt, atI, ixN, tabT, isi_int_int, isi_int_bool, isi_int_str, isi_int_NoneType, isi_int_list, isi_int_tuple, isi_int_ro, isi_bool_int, isi_bool_bool, isi_bool_str, isi_bool_NoneType, isi_bool_list, isi_bool_tuple, isi_bool_ro, isi_str_int, isi_str_bool, isi_str_str, isi_str_NoneType, isi_str_list, isi_str_tuple, isi_str_ro, isi_list_int, isi_list_bool, isi_list_str, isi_list_NoneType, isi_list_list, isi_list_tuple, isi_list_ro, isi_tuple_int, isi_tuple_bool, isi_tuple_str, isi_tuple_NoneType, isi_tuple_list, isi_tuple_tuple, isi_tuple_ro, n62, n63, range_tI]
  clear n62 n63
  refine Aft.mono (loop_inv (fun i ρ => ∃ (F' : T) (vs : List T) (x3 x4 x5 x6 x7 x8 x9 : T), ρ = [F', tI n, .lst true vs, x3, x4, x5, x6, x7, x8, x9] ∧ vs.length = i ∧ (∀ j v, vs[j]? = some v → VwOk j v) ∧ Fv (k + 6 * i) F') 0 ?_ ?_) ?_
  · exact ⟨F, [], _, _, _, _, _, _, _, rfl, rfl, fun j v h => by simp at h, hF⟩
  · intro i x ρ hx hinv
    obtain ⟨F0, vs, x3, x4, x5, x6, x7, x8, x9, e0, h1, h2, h3⟩ := hinv
    have hx2 := rng_map_at hx
    have ex := hx2.1
    have hil := hx2.2
    rw [ex, e0]
    rw [Nat.zero_add] at h1 h3 ⊢
    obtain ⟨d1, F1, e1, p1, q1, hF1⟩ := dip_ok (m := i + 1) h3 (by omega) (by omega) (by omega)
    obtain ⟨d2, F2, e2, p2, q2, hF2⟩ := dip_ok (m := 12) hF1 (by omega) (by omega) (by omega)
    obtain ⟨d3, F3, e3, p3, q3, hF3⟩ := dip_ok (m := 12) hF2 (by omega) (by omega) (by omega)
    obtain ⟨d4, F4, e4, p4, q4, hF4⟩ := dip_ok (m := 8 - (d2 - 4)) hF3 (by omega) (by omega) (by omega)
    obtain ⟨d5, F5, e5, p5, q5, hF5⟩ := dip_ok (m := 8 - (d3 - 4)) hF4 (by omega) (by omega) (by omega)
    obtain ⟨d6, F6, e6, p6, q6, hF6⟩ := dip_ok (m := 9) hF5 (by omega) (by omega) (by omega)
    have app : ∀ v, VwOk i v → ∀ j w, (vs ++ [v])[j]? = some w → VwOk j w := fun v hv j w hw => by
      by_cases c : j < vs.length
      · rw [List.getElem?_append_left c] at hw; exact h2 j w hw
      · rw [List.getElem?_append_right (by omega)] at hw
        have : j - vs.length = 0 := by
          have := (List.getElem?_eq_some_iff.mp hw).1
          simp at this; omega
        rw [this] at hw
        have e : v = w := by simpa using hw
        rw [← e, show j = i by omega]; exact hv
    have vlen : vs.length < 1000000 := by omega
    have fin : Fv (k + 6 * (i + 1)) F6 := hF6.mono (by omega)
    by_cases c0 : d6 = 0
    · have hv : VwOk i (vwT d1 (-4) (-4) 8 8) := ⟨_, _, _, _, _, rfl, p1, q1, by omega, by omega, by omega, by omega, by omega, by omega⟩
      simp [↓aft_seq, ↓aft_if, ↓aft_asg, ↓aft_ret, ↓aft_drp, ↓aft_bin, ↓aft_fz, ↓aft_mv, ↓aft_nh, ↓aft_pk, ↓aft_binL, ↓aft_binR, ↓aft_set, ↓aft_tru, ↓aft_boolM, ↓aft_cmpB, ↓aft_and, ↓aft_or, ↓aft_not, ↓aft_andV, ↓aft_orV, ↓aft_notV, ↓aft_ifV, ↓aft_neg, ↓aft_nil, ↓aft_cons, ↓aft_tup, ↓aft_lst, ↓aft_un1, ↓aft_un2, ↓aft_call, ↓aft_callIO, ↓aft_gtup, ↓aft_gnil, ↓aft_gcons, ↓aft_par2, ↓aft_par3, ↓aft_isi, ↓aft_chain, ↓aft_pure, ↓aft_bind, ↓aft_iterA, ↓aft_lc, ↓aft_for, ↓aft_forO, ↓aft_lcStep, ↓aft_some, ↓aft_yes, ↓aft_mrd, ↓aft_tab, ↓aft_match, ↓aft_mth, ↓aft_cutL, ↓aft_dnew, ↓aft_cutM, ↓aft_noP, ↓aft_someP, ↓aft_gstar, ↓aft_enum, ↓aft_rng, ↓aft_setD, ↓aft_loopC, ↓aft_loopN, ↓aft_setIx, ↓aft_steal, and_assoc, exists_eq_left', at_zero, at_succ, List.cons_append, List.nil_append, List.replicate, List.set_cons_zero, List.set_cons_succ, T.cold, T.colds, T.imm, T.imms, T.frz, T.frzs, hole_atom, hole_tup, hole_lst, hole_ro, hole_dct, hole_hole, tru_bl, tru_int, tru_non, tru_lst, tru_tup, bool_bl, ty_list, ty_lst, eq_int, ne_int, eqA_int, eqA_tup, eqA_lst, neA_int, neA_tup, neA_lst, eqA_same, neA_same, wipeE, allT, T.bools, itA_tup, itA_lst, ↓aft_lcCons, ↓aft_lcNil, tI, tS, tBl, tN, lt_ii, le_ii, gt_ii, ge_ii, sub_ii, add_ii, item_tup, item_lst, item_ro, len_str, len_lst, len_ro, len_tup, int_i, int_b, isN_n, isN_i, isN_t, notN_n, notN_i, notN_t, itA_str, le_pp, max_tt, min_tt, atI, ixN, tabT, isi_int_int, isi_int_bool, isi_int_str, isi_int_NoneType, isi_int_list, isi_int_tuple, isi_int_ro, isi_bool_int, isi_bool_bool, isi_bool_str, isi_bool_NoneType, isi_bool_list, isi_bool_tuple, isi_bool_ro, isi_str_int, isi_str_bool, isi_str_str, isi_str_NoneType, isi_str_list, isi_str_tuple, isi_str_ro, isi_list_int, isi_list_bool, isi_list_str, isi_list_NoneType, isi_list_list, isi_list_tuple, isi_list_ro, isi_tuple_int, isi_tuple_bool, isi_tuple_str, isi_tuple_NoneType, isi_tuple_list, isi_tuple_tuple, isi_tuple_ro, fv_hole h3, fv_hole hF1, fv_hole hF2, fv_hole hF3, fv_hole hF4, fv_hole hF5, fv_hole hF6, e1, e2, e3, e4, e5, e6, c0, appF, vlen]
      first | exact ⟨h1, app _ hv, fin⟩ | exact ⟨by simp [h1], app _ hv, fin⟩
    · by_cases c1 : d6 = 1 ∧ 0 < d1
      · have hj : (d1 - 1).toNat < vs.length := by omega
        have hg : vs[(d1 - 1).toNat]? = some vs[(d1 - 1).toNat] := by simp [hj]
        obtain ⟨p, l, t, r, b, e, v1, v2, v3, v4, v5, v6, v7, v8⟩ := h2 _ _ hg
        have it : itemT (.lst true vs) (tI (d1 - 1)) = some (vwT p l t r b) := by
          show (atI vs (d1 - 1)).filter T.imm = _
          have a1 : 0 ≤ d1 - 1 := by omega
          have a2 : d1 - 1 < (vs.length : Int) := by omega
          simp only [atI, ixN, a1, a2, if_true, Option.bind_some, hg, e]
          rfl
        have hv : VwOk i (vwT d1 l t r b) := ⟨_, _, _, _, _, rfl, p1, q1, v3, v4, v5, v6, v7, v8⟩
        simp [↓aft_seq, ↓aft_if, ↓aft_asg, ↓aft_ret, ↓aft_drp, ↓aft_bin, ↓aft_fz, ↓aft_mv, ↓aft_nh, ↓aft_pk, ↓aft_binL, ↓aft_binR, ↓aft_set, ↓aft_tru, ↓aft_boolM, ↓aft_cmpB, ↓aft_and, ↓aft_or, ↓aft_not, ↓aft_andV, ↓aft_orV, ↓aft_notV, ↓aft_ifV, ↓aft_neg, ↓aft_nil, ↓aft_cons, ↓aft_tup, ↓aft_lst, ↓aft_un1, ↓aft_un2, ↓aft_call, ↓aft_callIO, ↓aft_gtup, ↓aft_gnil, ↓aft_gcons, ↓aft_par2, ↓aft_par3, ↓aft_isi, ↓aft_chain, ↓aft_pure, ↓aft_bind, ↓aft_iterA, ↓aft_lc, ↓aft_for, ↓aft_forO, ↓aft_lcStep, ↓aft_some, ↓aft_yes, ↓aft_mrd, ↓aft_tab, ↓aft_match, ↓aft_mth, ↓aft_cutL, ↓aft_dnew, ↓aft_cutM, ↓aft_noP, ↓aft_someP, ↓aft_gstar, ↓aft_enum, ↓aft_rng, ↓aft_setD, ↓aft_loopC, ↓aft_loopN, ↓aft_setIx, ↓aft_steal, and_assoc, exists_eq_left', at_zero, at_succ, List.cons_append, List.nil_append, List.replicate, List.set_cons_zero, List.set_cons_succ, T.cold, T.colds, T.imm, T.imms, T.frz, T.frzs, hole_atom, hole_tup, hole_lst, hole_ro, hole_dct, hole_hole, tru_bl, tru_int, tru_non, tru_lst, tru_tup, bool_bl, ty_list, ty_lst, eq_int, ne_int, eqA_int, eqA_tup, eqA_lst, neA_int, neA_tup, neA_lst, eqA_same, neA_same, wipeE, allT, T.bools, itA_tup, itA_lst, ↓aft_lcCons, ↓aft_lcNil, tI, tS, tBl, tN, lt_ii, le_ii, gt_ii, ge_ii, sub_ii, add_ii, item_tup, item_lst, item_ro, len_str, len_lst, len_ro, len_tup, int_i, int_b, isN_n, isN_i, isN_t, notN_n, notN_i, notN_t, itA_str, le_pp, max_tt, min_tt, atI, ixN, tabT, isi_int_int, isi_int_bool, isi_int_str, isi_int_NoneType, isi_int_list, isi_int_tuple, isi_int_ro, isi_bool_int, isi_bool_bool, isi_bool_str, isi_bool_NoneType, isi_bool_list, isi_bool_tuple, isi_bool_ro, isi_str_int, isi_str_bool, isi_str_str, isi_str_NoneType, isi_str_list, isi_str_tuple, isi_str_ro, isi_list_int, isi_list_bool, isi_list_str, isi_list_NoneType, isi_list_list, isi_list_tuple, isi_list_ro, isi_tuple_int, isi_tuple_bool, isi_tuple_str, isi_tuple_NoneType, isi_tuple_list, isi_tuple_tuple, isi_tuple_ro, -item_lst, fv_hole h3, fv_hole hF1, fv_hole hF2, fv_hole hF3, fv_hole hF4, fv_hole hF5, fv_hole hF6, e1, e2, e3, e4, e5, e6, c1.1, c1.2, it, cut_vw, appF, vlen]
        first | exact ⟨h1, app _ hv, fin⟩ | exact ⟨by simp [h1], app _ hv, fin⟩
      · have hv : VwOk i (vwT d1 (d2 - 4) (d3 - 4) (d2 - 4 + 1 + d4) (d3 - 4 + 1 + d5)) := ⟨_, _, _, _, _, rfl, p1, q1, by omega, by omega, by omega, by omega, by omega, by omega⟩
        have c2 : d6 = 1 → ¬ 0 < d1 := fun a b => c1 ⟨a, b⟩
        by_cases c3 : d6 = 1
        · have c4 := c2 c3
          simp [↓aft_seq, ↓aft_if, ↓aft_asg, ↓aft_ret, ↓aft_drp, ↓aft_bin, ↓aft_fz, ↓aft_mv, ↓aft_nh, ↓aft_pk, ↓aft_binL, ↓aft_binR, ↓aft_set, ↓aft_tru, ↓aft_boolM, ↓aft_cmpB, ↓aft_and, ↓aft_or, ↓aft_not, ↓aft_andV, ↓aft_orV, ↓aft_notV, ↓aft_ifV, ↓aft_neg, ↓aft_nil, ↓aft_cons, ↓aft_tup, ↓aft_lst, ↓aft_un1, ↓aft_un2, ↓aft_call, ↓aft_callIO, ↓aft_gtup, ↓aft_gnil, ↓aft_gcons, ↓aft_par2, ↓aft_par3, ↓aft_isi, ↓aft_chain, ↓aft_pure, ↓aft_bind, ↓aft_iterA, ↓aft_lc, ↓aft_for, ↓aft_forO, ↓aft_lcStep, ↓aft_some, ↓aft_yes, ↓aft_mrd, ↓aft_tab, ↓aft_match, ↓aft_mth, ↓aft_cutL, ↓aft_dnew, ↓aft_cutM, ↓aft_noP, ↓aft_someP, ↓aft_gstar, ↓aft_enum, ↓aft_rng, ↓aft_setD, ↓aft_loopC, ↓aft_loopN, ↓aft_setIx, ↓aft_steal, and_assoc, exists_eq_left', at_zero, at_succ, List.cons_append, List.nil_append, List.replicate, List.set_cons_zero, List.set_cons_succ, T.cold, T.colds, T.imm, T.imms, T.frz, T.frzs, hole_atom, hole_tup, hole_lst, hole_ro, hole_dct, hole_hole, tru_bl, tru_int, tru_non, tru_lst, tru_tup, bool_bl, ty_list, ty_lst, eq_int, ne_int, eqA_int, eqA_tup, eqA_lst, neA_int, neA_tup, neA_lst, eqA_same, neA_same, wipeE, allT, T.bools, itA_tup, itA_lst, ↓aft_lcCons, ↓aft_lcNil, tI, tS, tBl, tN, lt_ii, le_ii, gt_ii, ge_ii, sub_ii, add_ii, item_tup, item_lst, item_ro, len_str, len_lst, len_ro, len_tup, int_i, int_b, isN_n, isN_i, isN_t, notN_n, notN_i, notN_t, itA_str, le_pp, max_tt, min_tt, atI, ixN, tabT, isi_int_int, isi_int_bool, isi_int_str, isi_int_NoneType, isi_int_list, isi_int_tuple, isi_int_ro, isi_bool_int, isi_bool_bool, isi_bool_str, isi_bool_NoneType, isi_bool_list, isi_bool_tuple, isi_bool_ro, isi_str_int, isi_str_bool, isi_str_str, isi_str_NoneType, isi_str_list, isi_str_tuple, isi_str_ro, isi_list_int, isi_list_bool, isi_list_str, isi_list_NoneType, isi_list_list, isi_list_tuple, isi_list_ro, isi_tuple_int, isi_tuple_bool, isi_tuple_str, isi_tuple_NoneType, isi_tuple_list, isi_tuple_tuple, isi_tuple_ro, fv_hole h3, fv_hole hF1, fv_hole hF2, fv_hole hF3, fv_hole hF4, fv_hole hF5, fv_hole hF6, e1, e2, e3, e4, e5, e6, c3, c4, appF, vlen]
          first | exact ⟨h1, app _ hv, fin⟩ | exact ⟨by simp [h1], app _ hv, fin⟩
        · simp [↓aft_seq, ↓aft_if, ↓aft_asg, ↓aft_ret, ↓aft_drp, ↓aft_bin, ↓aft_fz, ↓aft_mv, ↓aft_nh, ↓aft_pk, ↓aft_binL, ↓aft_binR, ↓aft_set, ↓aft_tru, ↓aft_boolM, ↓aft_cmpB, ↓aft_and, ↓aft_or, ↓aft_not, ↓aft_andV, ↓aft_orV, ↓aft_notV, ↓aft_ifV, ↓aft_neg, ↓aft_nil, ↓aft_cons, ↓aft_tup, ↓aft_lst, ↓aft_un1, ↓aft_un2, ↓aft_call, ↓aft_callIO, ↓aft_gtup, ↓aft_gnil, ↓aft_gcons, ↓aft_par2, ↓aft_par3, ↓aft_isi, ↓aft_chain, ↓aft_pure, ↓aft_bind, ↓aft_iterA, ↓aft_lc, ↓aft_for, ↓aft_forO, ↓aft_lcStep, ↓aft_some, ↓aft_yes, ↓aft_mrd, ↓aft_tab, ↓aft_match, ↓aft_mth, ↓aft_cutL, ↓aft_dnew, ↓aft_cutM, ↓aft_noP, ↓aft_someP, ↓aft_gstar, ↓aft_enum, ↓aft_rng, ↓aft_setD, ↓aft_loopC, ↓aft_loopN, ↓aft_setIx, ↓aft_steal, and_assoc, exists_eq_left', at_zero, at_succ, List.cons_append, List.nil_append, List.replicate, List.set_cons_zero, List.set_cons_succ, T.cold, T.colds, T.imm, T.imms, T.frz, T.frzs, hole_atom, hole_tup, hole_lst, hole_ro, hole_dct, hole_hole, tru_bl, tru_int, tru_non, tru_lst, tru_tup, bool_bl, ty_list, ty_lst, eq_int, ne_int, eqA_int, eqA_tup, eqA_lst, neA_int, neA_tup, neA_lst, eqA_same, neA_same, wipeE, allT, T.bools, itA_tup, itA_lst, ↓aft_lcCons, ↓aft_lcNil, tI, tS, tBl, tN, lt_ii, le_ii, gt_ii, ge_ii, sub_ii, add_ii, item_tup, item_lst, item_ro, len_str, len_lst, len_ro, len_tup, int_i, int_b, isN_n, isN_i, isN_t, notN_n, notN_i, notN_t, itA_str, le_pp, max_tt, min_tt, atI, ixN, tabT, isi_int_int, isi_int_bool, isi_int_str, isi_int_NoneType, isi_int_list, isi_int_tuple, isi_int_ro, isi_bool_int, isi_bool_bool, isi_bool_str, isi_bool_NoneType, isi_bool_list, isi_bool_tuple, isi_bool_ro, isi_str_int, isi_str_bool, isi_str_str, isi_str_NoneType, isi_str_list, isi_str_tuple, isi_str_ro, isi_list_int, isi_list_bool, isi_list_str, isi_list_NoneType, isi_list_list, isi_list_tuple, isi_list_ro, isi_tuple_int, isi_tuple_bool, isi_tuple_str, isi_tuple_NoneType, isi_tuple_list, isi_tuple_tuple, isi_tuple_ro, fv_hole h3, fv_hole hF1, fv_hole hF2, fv_hole hF3, fv_hole hF4, fv_hole hF5, fv_hole hF6, e1, e2, e3, e4, e5, e6, c0, c3, appF, vlen]
          first | exact ⟨h1, app _ hv, fin⟩ | exact ⟨by simp [h1], app _ hv, fin⟩
  · rintro c ρ ⟨e0, F0, vs, x3, x4, x5, x6, x7, x8, x9, e1, h1, h2, h3⟩
    subst e0 e1
    rw [Nat.zero_add, List.length_map, rng_len] at h1 h3
    simp [↓aft_seq, ↓aft_if, ↓aft_asg, ↓aft_ret, ↓aft_drp, ↓aft_bin, ↓aft_fz, ↓aft_mv, ↓aft_nh, ↓aft_pk, ↓aft_binL, ↓aft_binR, ↓aft_set, ↓aft_tru, ↓aft_boolM, ↓aft_cmpB, ↓aft_and, ↓aft_or, ↓aft_not, ↓aft_andV, ↓aft_orV, ↓aft_notV, ↓aft_ifV, ↓aft_neg, ↓aft_nil, ↓aft_cons, ↓aft_tup, ↓aft_lst, ↓aft_un1, ↓aft_un2, ↓aft_call, ↓aft_callIO, ↓aft_gtup, ↓aft_gnil, ↓aft_gcons, ↓aft_par2, ↓aft_par3, ↓aft_isi, ↓aft_chain, ↓aft_pure, ↓aft_bind, ↓aft_iterA, ↓aft_lc, ↓aft_for, ↓aft_forO, ↓aft_lcStep, ↓aft_some, ↓aft_yes, ↓aft_mrd, ↓aft_tab, ↓aft_match, ↓aft_mth, ↓aft_cutL, ↓aft_dnew, ↓aft_cutM, ↓aft_noP, ↓aft_someP, ↓aft_gstar, ↓aft_enum, ↓aft_rng, ↓aft_setD, ↓aft_loopC, ↓aft_loopN, ↓aft_setIx, ↓aft_steal, and_assoc, exists_eq_left', at_zero, at_succ, List.cons_append, List.nil_append, List.replicate, List.set_cons_zero, List.set_cons_succ, T.cold, T.colds, T.imm, T.imms, T.frz, T.frzs, hole_atom, hole_tup, hole_lst, hole_ro, hole_dct, hole_hole, tru_bl, tru_int, tru_non, tru_lst, tru_tup, bool_bl, ty_list, ty_lst, eq_int, ne_int, eqA_int, eqA_tup, eqA_lst, neA_int, neA_tup, neA_lst, eqA_same, neA_same, wipeE, allT, T.bools, itA_tup, itA_lst, ↓aft_lcCons, ↓aft_lcNil, tI, tS, tBl, tN, lt_ii, le_ii, gt_ii, ge_ii, sub_ii, add_ii, item_tup, item_lst, item_ro, len_str, len_lst, len_ro, len_tup, int_i, int_b, isN_n, isN_i, isN_t, notN_n, notN_i, notN_t, itA_str, le_pp, max_tt, min_tt, atI, ixN, tabT, isi_int_int, isi_int_bool, isi_int_str, isi_int_NoneType, isi_int_list, isi_int_tuple, isi_int_ro, isi_bool_int, isi_bool_bool, isi_bool_str, isi_bool_NoneType, isi_bool_list, isi_bool_tuple, isi_bool_ro, isi_str_int, isi_str_bool, isi_str_str, isi_str_NoneType, isi_str_list, isi_str_tuple, isi_str_ro, isi_list_int, isi_list_bool, isi_list_str, isi_list_NoneType, isi_list_list, isi_list_tuple, isi_list_ro, isi_tuple_int, isi_tuple_bool, isi_tuple_str, isi_tuple_NoneType, isi_tuple_list, isi_tuple_tuple, isi_tuple_ro]
    exact ⟨fv_hole h3, h1, h2, h3⟩
end G
namespace G
open PySem L2 VS
/-! ### layouts drawn -/
theorem layout_ok {k n : Nat} {F : T} {vs : List T} {top : Int} {b : Bool} (hF : Fv k F) (hk : k ≤ 200000000) (hn : n ≤ 8) (hv : ∀ j v, vs[j]? = some v → VwOk j v) (hl : vs.length ≤ 12) (h1 : 1 ≤ top) (h2 : top ≤ 1000000000) :
    ∃ (L : Lay) (F' : T), run__law_layout [F, .lst b vs, tI n, tI top] = some (layT false false true true L, F') ∧ Valid L ∧ Fv (k + 300) F' := by
  obtain ⟨os, F1, e1, nd, ol, on, hF1⟩ := names_ok (n := n) hF (by omega) hn
  have key := run1_of (sem := sem__law_layout) (n := 4) (ts := [F, .lst b vs, tI n, tI top]) (R := fun t t0 => ∃ L : Lay, t = layT false false true true L ∧ Valid L ∧ Fv (k + 300) t0) ?_
  · obtain ⟨t, t0, e, L, rfl, q⟩ := key
    exact ⟨L, t0, e, q⟩
  have vim : T.imms vs = true := imms_all.mpr fun t ht => by
    obtain ⟨j, hj⟩ := List.mem_iff_getElem?.mp ht
    exact (hv j t hj).imm
  have n62 : (n : Int) < 4611686018427387904 := by omega
  have n63 : -4611686018427387904 ≤ (n : Int) := by omega
  unfold sem__law_layout
  simp [↓aft_seq, ↓aft_if, ↓aft_asg, ↓aft_ret, ↓aft_drp, ↓aft_bin, ↓aft_fz, ↓aft_mv, ↓aft_nh, ↓aft_pk, ↓aft_binL, ↓aft_binR, ↓aft_set, ↓aft_tru, ↓aft_boolM, ↓aft_cmpB, ↓aft_and, ↓aft_or, ↓aft_not, ↓aft_andV, ↓aft_orV, ↓aft_notV, ↓aft_ifV, ↓aft_neg, ↓aft_nil, ↓aft_cons, ↓aft_tup, ↓aft_lst, ↓aft_un1, ↓aft_un2, ↓aft_call, ↓aft_callIO, ↓aft_gtup, ↓aft_gnil, ↓aft_gcons, ↓aft_par2, ↓aft_par3, ↓aft_isi, ↓aft_chain, ↓aft_pure, ↓aft_bind, ↓aft_iterA, ↓aft_lc, ↓aft_for, ↓aft_forO, ↓aft_lcStep, ↓aft_some, ↓aft_yes, ↓aft_mrd, ↓aft_tab, ↓aft_match, ↓aft_mth, ↓aft_cutL, ↓aft_dnew, ↓aft_cutM, ↓aft_noP, ↓aft_someP, ↓aft_gstar, ↓aft_enum, ↓aft_rng, ↓aft_setD, ↓aft_loopC, ↓aft_loopN, ↓aft_setIx, ↓aft_steal, and_assoc, exists_eq_left', at_zero, at_succ, List.cons_append, List.nil_append, List.replicate, List.set_cons_zero, List.set_cons_succ, T.cold, T.colds, T.imm, T.imms, T.frz, T.frzs, hole_atom, hole_tup, hole_lst, hole_ro, hole_dct, hole_hole, tru_bl, tru_int, tru_non, tru_lst, tru_tup, bool_bl, ty_list, ty_lst, eq_int, ne_int, eqA_int, eqA_tup, eqA_lst, neA_int, neA_tup, neA_lst, eqA_same, neA_same, wipeE, allT, T.bools, itA_tup, itA_lst, ↓aft_lcCons, ↓aft_lcNil, tI, tS, tBl, tN, lt_ii, le_ii, gt_ii, ge_ii, sub_ii, add_ii, item_tup, item_lst, item_ro, len_str, len_lst, len_ro, len_tup, int_i, int_b, isN_n, isN_i, isN_t, notN_n, notN_i, notN_t, itA_str, le_pp, max_tt, min_tt, atI, ixN, tabT, isi_int_int, isi_int_bool, isi_int_str, isi_int_NoneType, isi_int_list, isi_int_tuple, isi_int_ro, isi_bool_int, isi_bool_bool, isi_bool_str, isi_bool_NoneType, isi_bool_list, isi_bool_tuple, isi_bool_ro, isi_str_int, isi_str_bool, isi_str_str, isi_str_NoneType, isi_str_list, isi_str_tuple, isi_str_ro, isi_list_int, isi_list_bool, isi_list_str, isi_list_NoneType, isi_list_list, isi_list_tuple, isi_list_ro, isi_tuple_int, isi_tuple_bool, isi_tuple_str, isi_tuple_NoneType, isi_tuple_list, isi_tuple_tuple, isi_tuple_ro, n62, n63, range_tI, fv_hole hF, e1]
  clear n62 n63
  refine Aft.mono (loop_inv (fun i ρ => ∃ (F' : T) (rs : List Rec) (x6 x7 : T), ρ = [F', .lst b vs, tI n, tI top, .lst true (os.map tS), .lst true (rs.map recT), x6, x7] ∧ rs.length = i ∧ rs.map (·.1) = os.take i ∧ (∀ r ∈ rs, RecOk vs.length r) ∧ Fv (k + 9 + 7 * i) F') 0 ?_ ?_) ?_
  · exact ⟨F1, [], _, _, rfl, rfl, rfl, fun r h => by simp at h, hF1⟩
  · intro i x ρ hx hinv
    obtain ⟨F0, rs, x6, x7, e0, g1, g2, g3, g4⟩ := hinv
    have hx2 := rng_map_at hx
    have ex := hx2.1
    have hil := hx2.2
    rw [ex, e0]
    rw [Nat.zero_add] at g1 g2 g4 ⊢
    obtain ⟨d1, F2, e2, p1, q1, hF2⟩ := dip_ok (m := vs.length + 1) g4 (by omega) (by omega) (by omega)
    obtain ⟨kt, F3, e3, hk3, ik, hF3⟩ := kind_ok (top := top) hF2 (by omega) h1 h2
    have hio : i < os.length := by omega
    have hg : os[i]? = some os[i] := by simp [hio]
    have it : itemT (.lst true (os.map tS)) (tI i) = some (tS os[i]) := by
      show (atI (os.map tS) (i : Int)).filter T.imm = _
      have a1 : (0 : Int) ≤ i := by omega
      have a2 : (i : Int) < (os.length : Int) := by omega
      simp [atI, ixN, a1, hio, T.imm]
    have rlen : rs.length < 1000000 := by omega
    have nr : RecOk vs.length (os[i], d1, kt) := ⟨on _ (List.getElem_mem hio), p1, by show d1 ≤ (vs.length : Int); omega, hk3, ik⟩
    have fin : Fv (k + 9 + 7 * (i + 1)) F3 := hF3.mono (by omega)
    have mt : (rs ++ [(os[i], d1, kt)]).map (·.1) = os.take (i + 1) := by
      rw [List.map_append, g2, List.take_succ, hg]; rfl
    refine (show Aft _ (fun c ρ => c = .nx ∧ ρ = [F3, .lst b vs, tI n, tI top, .lst true (os.map tS), .lst true ((rs ++ [(os[i], d1, kt)]).map recT), tI i, tI d1]) by
      simp [↓aft_seq, ↓aft_if, ↓aft_asg, ↓aft_ret, ↓aft_drp, ↓aft_bin, ↓aft_fz, ↓aft_mv, ↓aft_nh, ↓aft_pk, ↓aft_binL, ↓aft_binR, ↓aft_set, ↓aft_tru, ↓aft_boolM, ↓aft_cmpB, ↓aft_and, ↓aft_or, ↓aft_not, ↓aft_andV, ↓aft_orV, ↓aft_notV, ↓aft_ifV, ↓aft_neg, ↓aft_nil, ↓aft_cons, ↓aft_tup, ↓aft_lst, ↓aft_un1, ↓aft_un2, ↓aft_call, ↓aft_callIO, ↓aft_gtup, ↓aft_gnil, ↓aft_gcons, ↓aft_par2, ↓aft_par3, ↓aft_isi, ↓aft_chain, ↓aft_pure, ↓aft_bind, ↓aft_iterA, ↓aft_lc, ↓aft_for, ↓aft_forO, ↓aft_lcStep, ↓aft_some, ↓aft_yes, ↓aft_mrd, ↓aft_tab, ↓aft_match, ↓aft_mth, ↓aft_cutL, ↓aft_dnew, ↓aft_cutM, ↓aft_noP, ↓aft_someP, ↓aft_gstar, ↓aft_enum, ↓aft_rng, ↓aft_setD, ↓aft_loopC, ↓aft_loopN, ↓aft_setIx, ↓aft_steal, and_assoc, exists_eq_left', at_zero, at_succ, List.cons_append, List.nil_append, List.replicate, List.set_cons_zero, List.set_cons_succ, T.cold, T.colds, T.imm, T.imms, T.frz, T.frzs, hole_atom, hole_tup, hole_lst, hole_ro, hole_dct, hole_hole, tru_bl, tru_int, tru_non, tru_lst, tru_tup, bool_bl, ty_list, ty_lst, eq_int, ne_int, eqA_int, eqA_tup, eqA_lst, neA_int, neA_tup, neA_lst, eqA_same, neA_same, wipeE, allT, T.bools, itA_tup, itA_lst, ↓aft_lcCons, ↓aft_lcNil, tI, tS, tBl, tN, lt_ii, le_ii, gt_ii, ge_ii, sub_ii, add_ii, item_tup, item_lst, item_ro, len_str, len_lst, len_ro, len_tup, int_i, int_b, isN_n, isN_i, isN_t, notN_n, notN_i, notN_t, itA_str, le_pp, max_tt, min_tt, atI, ixN, tabT, isi_int_int, isi_int_bool, isi_int_str, isi_int_NoneType, isi_int_list, isi_int_tuple, isi_int_ro, isi_bool_int, isi_bool_bool, isi_bool_str, isi_bool_NoneType, isi_bool_list, isi_bool_tuple, isi_bool_ro, isi_str_int, isi_str_bool, isi_str_str, isi_str_NoneType, isi_str_list, isi_str_tuple, isi_str_ro, isi_list_int, isi_list_bool, isi_list_str, isi_list_NoneType, isi_list_list, isi_list_tuple, isi_list_ro, isi_tuple_int, isi_tuple_bool, isi_tuple_str, isi_tuple_NoneType, isi_tuple_list, isi_tuple_tuple, isi_tuple_ro, -item_lst, fv_hole g4, fv_hole hF2, fv_hole hF3, e2, e3, it, appF, rlen, recT]).mono fun c ρ hh => ⟨hh.1, F3, rs ++ [(os[i], d1, kt)], _, _, hh.2, by simp [g1], mt, fun r hr => ?_, fin⟩
    rcases List.mem_append.mp hr with hr | hr
    · exact g3 r hr
    · rw [List.mem_singleton.mp hr]; exact nr
  · rintro c ρ ⟨e0, F0, rs, x6, x7, e2, g1, g2, g3, g4⟩
    subst e0 e2
    rw [Nat.zero_add, List.length_map, rng_len] at g1 g2 g4
    obtain ⟨ws, F2, e3, pw, lw, hF2⟩ := pairs_ok (n := n) (rising := false) (most := 12) g4 (by omega) hn (by omega)
    obtain ⟨bs, F3, e4, pb, lb, hF3⟩ := pairs_ok (n := n) (rising := true) (most := 28) hF2 (by omega) hn (by omega)
    have rim := recs_imm g3
    have tk : os.take n = os := by rw [← ol]; exact List.take_length
    have e3' : run__law_pairs [F0, tI n, tBl false, tI 12] = some (.lst true (ws.map prT), F2) := e3
    have e4' : run__law_pairs [F2, tI n, tBl true, tI 28] = some (.lst true (bs.map prT), F3) := e4
    simp [↓aft_seq, ↓aft_if, ↓aft_asg, ↓aft_ret, ↓aft_drp, ↓aft_bin, ↓aft_fz, ↓aft_mv, ↓aft_nh, ↓aft_pk, ↓aft_binL, ↓aft_binR, ↓aft_set, ↓aft_tru, ↓aft_boolM, ↓aft_cmpB, ↓aft_and, ↓aft_or, ↓aft_not, ↓aft_andV, ↓aft_orV, ↓aft_notV, ↓aft_ifV, ↓aft_neg, ↓aft_nil, ↓aft_cons, ↓aft_tup, ↓aft_lst, ↓aft_un1, ↓aft_un2, ↓aft_call, ↓aft_callIO, ↓aft_gtup, ↓aft_gnil, ↓aft_gcons, ↓aft_par2, ↓aft_par3, ↓aft_isi, ↓aft_chain, ↓aft_pure, ↓aft_bind, ↓aft_iterA, ↓aft_lc, ↓aft_for, ↓aft_forO, ↓aft_lcStep, ↓aft_some, ↓aft_yes, ↓aft_mrd, ↓aft_tab, ↓aft_match, ↓aft_mth, ↓aft_cutL, ↓aft_dnew, ↓aft_cutM, ↓aft_noP, ↓aft_someP, ↓aft_gstar, ↓aft_enum, ↓aft_rng, ↓aft_setD, ↓aft_loopC, ↓aft_loopN, ↓aft_setIx, ↓aft_steal, and_assoc, exists_eq_left', at_zero, at_succ, List.cons_append, List.nil_append, List.replicate, List.set_cons_zero, List.set_cons_succ, T.cold, T.colds, T.imm, T.imms, T.frz, T.frzs, hole_atom, hole_tup, hole_lst, hole_ro, hole_dct, hole_hole, tru_bl, tru_int, tru_non, tru_lst, tru_tup, bool_bl, ty_list, ty_lst, eq_int, ne_int, eqA_int, eqA_tup, eqA_lst, neA_int, neA_tup, neA_lst, eqA_same, neA_same, wipeE, allT, T.bools, itA_tup, itA_lst, ↓aft_lcCons, ↓aft_lcNil, tI, tS, tBl, tN, lt_ii, le_ii, gt_ii, ge_ii, sub_ii, add_ii, item_tup, item_lst, item_ro, len_str, len_lst, len_ro, len_tup, int_i, int_b, isN_n, isN_i, isN_t, notN_n, notN_i, notN_t, itA_str, le_pp, max_tt, min_tt, atI, ixN, tabT, isi_int_int, isi_int_bool, isi_int_str, isi_int_NoneType, isi_int_list, isi_int_tuple, isi_int_ro, isi_bool_int, isi_bool_bool, isi_bool_str, isi_bool_NoneType, isi_bool_list, isi_bool_tuple, isi_bool_ro, isi_str_int, isi_str_bool, isi_str_str, isi_str_NoneType, isi_str_list, isi_str_tuple, isi_str_ro, isi_list_int, isi_list_bool, isi_list_str, isi_list_NoneType, isi_list_list, isi_list_tuple, isi_list_ro, isi_tuple_int, isi_tuple_bool, isi_tuple_str, isi_tuple_NoneType, isi_tuple_list, isi_tuple_tuple, isi_tuple_ro, vim, colds_imms vim, frzs_imms vim, rim, colds_imms rim, frzs_imms rim, fv_hole g4, fv_hole hF2, fv_hole hF3, e3', e4']
    refine ⟨⟨vs, rs, ws, bs⟩, rfl, ⟨vim, hl, fun i v h => (hv i v h).at, by show rs.length ≤ 8; omega, g3, by show (rs.map (·.1)).Nodup; rw [g2, tk]; exact nd, by show PairsOk ws (rs.length : Int) false; rw [g1]; exact pw, lw, by show PairsOk bs (rs.length : Int) true; rw [g1]; exact pb, lb⟩, hF3.mono (by omega)⟩
end G
namespace G
open PySem L2 VS
/-! ### the law -/
theorem fount_ok {ns : List Int} {k : Nat} (hk : k ≤ 60) : ∃ F, run__law_fount [.ro (ns.map tI), tI k] = some F ∧ Fv 0 F := by
  have p1 : powT (.atom (.int 10)) (.atom (.int 18)) = some (.atom (.int (10 ^ 18))) := pow_ok (j := 18) (k := 4) (by omega) (by omega) (by omega) (by omega)
  have p2 : powT (.atom (.int 10)) (.atom (.int 39)) = some (.atom (.int (10 ^ 39))) := pow_ok (j := 39) (k := 4) (by omega) (by omega) (by omega) (by omega)
  have go : ∀ c : Int, Fv 0 (.lst true [tI (max 0 (c - 1000000000000000000)), tI ((c % 1000000000000000000000000000000000000023 + 11) * 64 + k), tI 0]) := fun c => by
    have r1 := Int.emod_nonneg c (b := 1000000000000000000000000000000000000023) (by omega)
    have r2 := Int.emod_lt_of_pos c (b := 1000000000000000000000000000000000000023) (by omega)
    exact ⟨_, _, _, rfl, by omega, by omega, by omega, by omega, by omega⟩
  have z1 : ∀ c : Int, modT (.atom (.int c)) (.atom (.int 1000000000000000000000000000000000000023)) = some (.atom (.int (c % 1000000000000000000000000000000000000023))) := fun c => mod_ok (by omega)
  have z2 : ∀ c : Int, mulT (.atom (.int (c % 1000000000000000000000000000000000000023 + 11))) (.atom (.int 64)) = some (.atom (.int ((c % 1000000000000000000000000000000000000023 + 11) * 64))) := fun c => by
    have r1 := Int.emod_nonneg c (b := 1000000000000000000000000000000000000023) (by omega)
    have r2 := Int.emod_lt_of_pos c (b := 1000000000000000000000000000000000000023) (by omega)
    exact mul_ok (k := 140) (l := 7) (by omega) (by omega) (by omega) (by omega) (by omega) (by omega) (by omega)
  by_cases hl : (k : Int) < (ns.length : Int)
  · have hk2 : k < ns.length := by omega
    have it : itemT (.ro (ns.map tI)) (tI k) = some (tI ns[k]) := by
      show (atI (ns.map tI) (k : Int)).filter T.imm = _
      simp [atI, ixN, hk2, T.imm]
    refine ⟨_, run0_of ?_, go ns[k]⟩
    unfold sem__law_fount
    simp [↓aft_seq, ↓aft_if, ↓aft_asg, ↓aft_ret, ↓aft_drp, ↓aft_bin, ↓aft_fz, ↓aft_mv, ↓aft_nh, ↓aft_pk, ↓aft_binL, ↓aft_binR, ↓aft_set, ↓aft_tru, ↓aft_boolM, ↓aft_cmpB, ↓aft_and, ↓aft_or, ↓aft_not, ↓aft_andV, ↓aft_orV, ↓aft_notV, ↓aft_ifV, ↓aft_neg, ↓aft_nil, ↓aft_cons, ↓aft_tup, ↓aft_lst, ↓aft_un1, ↓aft_un2, ↓aft_call, ↓aft_callIO, ↓aft_gtup, ↓aft_gnil, ↓aft_gcons, ↓aft_par2, ↓aft_par3, ↓aft_isi, ↓aft_chain, ↓aft_pure, ↓aft_bind, ↓aft_iterA, ↓aft_lc, ↓aft_for, ↓aft_forO, ↓aft_lcStep, ↓aft_some, ↓aft_yes, ↓aft_mrd, ↓aft_tab, ↓aft_match, ↓aft_mth, ↓aft_cutL, ↓aft_dnew, ↓aft_cutM, ↓aft_noP, ↓aft_someP, ↓aft_gstar, ↓aft_enum, ↓aft_rng, ↓aft_setD, ↓aft_loopC, ↓aft_loopN, ↓aft_setIx, ↓aft_steal, and_assoc, exists_eq_left', at_zero, at_succ, List.cons_append, List.nil_append, List.replicate, List.set_cons_zero, List.set_cons_succ, T.cold, T.colds, T.imm, T.imms, T.frz, T.frzs, hole_atom, hole_tup, hole_lst, hole_ro, hole_dct, hole_hole, tru_bl, tru_int, tru_non, tru_lst, tru_tup, bool_bl, ty_list, ty_lst, eq_int, ne_int, eqA_int, eqA_tup, eqA_lst, neA_int, neA_tup, neA_lst, eqA_same, neA_same, wipeE, allT, T.bools, itA_tup, itA_lst, ↓aft_lcCons, ↓aft_lcNil, tI, tS, tBl, tN, lt_ii, le_ii, gt_ii, ge_ii, sub_ii, add_ii, item_tup, item_lst, item_ro, len_str, len_lst, len_ro, len_tup, int_i, int_b, isN_n, isN_i, isN_t, notN_n, notN_i, notN_t, itA_str, le_pp, max_tt, min_tt, atI, ixN, tabT, isi_int_int, isi_int_bool, isi_int_str, isi_int_NoneType, isi_int_list, isi_int_tuple, isi_int_ro, isi_bool_int, isi_bool_bool, isi_bool_str, isi_bool_NoneType, isi_bool_list, isi_bool_tuple, isi_bool_ro, isi_str_int, isi_str_bool, isi_str_str, isi_str_NoneType, isi_str_list, isi_str_tuple, isi_str_ro, isi_list_int, isi_list_bool, isi_list_str, isi_list_NoneType, isi_list_list, isi_list_tuple, isi_list_ro, isi_tuple_int, isi_tuple_bool, isi_tuple_str, isi_tuple_NoneType, isi_tuple_list, isi_tuple_tuple, isi_tuple_ro, -item_ro, hk2, it, p1, p2, z1, z2]
  · have hk2 : ¬ k < ns.length := by omega
    refine ⟨_, run0_of ?_, go 0⟩
    unfold sem__law_fount
    have z1' := z1 0
    have z2' := z2 0
    simp at z1' z2'
    simp [↓aft_seq, ↓aft_if, ↓aft_asg, ↓aft_ret, ↓aft_drp, ↓aft_bin, ↓aft_fz, ↓aft_mv, ↓aft_nh, ↓aft_pk, ↓aft_binL, ↓aft_binR, ↓aft_set, ↓aft_tru, ↓aft_boolM, ↓aft_cmpB, ↓aft_and, ↓aft_or, ↓aft_not, ↓aft_andV, ↓aft_orV, ↓aft_notV, ↓aft_ifV, ↓aft_neg, ↓aft_nil, ↓aft_cons, ↓aft_tup, ↓aft_lst, ↓aft_un1, ↓aft_un2, ↓aft_call, ↓aft_callIO, ↓aft_gtup, ↓aft_gnil, ↓aft_gcons, ↓aft_par2, ↓aft_par3, ↓aft_isi, ↓aft_chain, ↓aft_pure, ↓aft_bind, ↓aft_iterA, ↓aft_lc, ↓aft_for, ↓aft_forO, ↓aft_lcStep, ↓aft_some, ↓aft_yes, ↓aft_mrd, ↓aft_tab, ↓aft_match, ↓aft_mth, ↓aft_cutL, ↓aft_dnew, ↓aft_cutM, ↓aft_noP, ↓aft_someP, ↓aft_gstar, ↓aft_enum, ↓aft_rng, ↓aft_setD, ↓aft_loopC, ↓aft_loopN, ↓aft_setIx, ↓aft_steal, and_assoc, exists_eq_left', at_zero, at_succ, List.cons_append, List.nil_append, List.replicate, List.set_cons_zero, List.set_cons_succ, T.cold, T.colds, T.imm, T.imms, T.frz, T.frzs, hole_atom, hole_tup, hole_lst, hole_ro, hole_dct, hole_hole, tru_bl, tru_int, tru_non, tru_lst, tru_tup, bool_bl, ty_list, ty_lst, eq_int, ne_int, eqA_int, eqA_tup, eqA_lst, neA_int, neA_tup, neA_lst, eqA_same, neA_same, wipeE, allT, T.bools, itA_tup, itA_lst, ↓aft_lcCons, ↓aft_lcNil, tI, tS, tBl, tN, lt_ii, le_ii, gt_ii, ge_ii, sub_ii, add_ii, item_tup, item_lst, item_ro, len_str, len_lst, len_ro, len_tup, int_i, int_b, isN_n, isN_i, isN_t, notN_n, notN_i, notN_t, itA_str, le_pp, max_tt, min_tt, atI, ixN, tabT, isi_int_int, isi_int_bool, isi_int_str, isi_int_NoneType, isi_int_list, isi_int_tuple, isi_int_ro, isi_bool_int, isi_bool_bool, isi_bool_str, isi_bool_NoneType, isi_bool_list, isi_bool_tuple, isi_bool_ro, isi_str_int, isi_str_bool, isi_str_str, isi_str_NoneType, isi_str_list, isi_str_tuple, isi_str_ro, isi_list_int, isi_list_bool, isi_list_str, isi_list_NoneType, isi_list_list, isi_list_tuple, isi_list_ro, isi_tuple_int, isi_tuple_bool, isi_tuple_str, isi_tuple_NoneType, isi_tuple_list, isi_tuple_tuple, isi_tuple_ro, hk2, p1, p2, z1, z1', z2, z2']
def ra : Rec := ("a", 0, .tup [tS "drag", tS "x", tI 5])
def rb : Rec := ("b", 0, .tup [tS "drag", tS "any", tI 5])
def rc : Rec := ("c", 0, .tup [tS "tap", tI 200, tI 20])
def someR : List Rec := [ra, rb, rc]
def L0 : Lay := ⟨[], someR, [(0, 2)], [(1, 2)]⟩
def LE : Lay := ⟨[], [], [], []⟩
theorem l0_ok : Valid L0 := by
  have na : NameOk "a" := name_of (by decide +kernel)
  have nb : NameOk "b" := name_of (by decide +kernel)
  have nc : NameOk "c" := name_of (by decide +kernel)
  refine ⟨rfl, Nat.zero_le _, fun i v h => by simp [L0] at h, by decide, fun r hr => ?_, by decide +kernel, ⟨fun p hp => ?_, List.pairwise_singleton _ _⟩, by decide, ⟨fun p hp => ?_, List.pairwise_singleton _ _⟩, by decide⟩
  · have h : r = ra ∨ r = rb ∨ r = rc := by simpa [L0, someR] using hr
    rcases h with e | e | e <;> rw [e]
    · exact ⟨na, by decide, by decide, .drag (.inl rfl) (by omega) (by omega), rfl⟩
    · exact ⟨nb, by decide, by decide, .drag (.inr (.inr rfl)) (by omega) (by omega), rfl⟩
    · exact ⟨nc, by decide, by decide, .tap (by omega) (by omega) (by omega) (by omega), rfl⟩
  · have h : p = (0, 2) := by simpa [L0] using hp
    rw [h]
    exact ⟨by decide, by decide, by decide, by decide, .inl (by decide)⟩
  · have h : p = (1, 2) := by simpa [L0] using hp
    rw [h]
    exact ⟨by decide, by decide, by decide, by decide, .inl (by decide)⟩
theorem le_ok : Valid LE := ⟨rfl, Nat.zero_le _, fun i v h => by simp [LE] at h, Nat.zero_le _, fun r hr => by simp [LE] at hr, List.Pairwise.nil, ⟨fun p hp => by simp [LE] at hp, List.Pairwise.nil⟩, Nat.zero_le _, ⟨fun p hp => by simp [LE] at hp, List.Pairwise.nil⟩, Nat.zero_le _⟩
theorem ord0 : Ord [2, 0, 1] 3 := by
  show List.Perm [2, 0, 1] [0, 1, 2]
  decide
theorem reord0 : reord L0 [2, 0, 1] = ⟨[], [rc, ra, rb], [(1, 0)], [(0, 2)]⟩ := by
  have e1 : L0.waits.map (ix2 [2, 0, 1]) = [(1, 0)] := by decide
  have e2 : (L0.beside.map fun p => srt (ix2 [2, 0, 1] p)) = [(0, 2)] := by decide
  have s : ∀ p : Int × Int, psort [p] = [p] := fun p => by simp [psort]
  unfold reord
  rw [e1, e2, s, s]
  rfl
theorem ro_frz (ns : List Int) : T.imms (ns.map tI) = true := ints_imm ns
theorem law_true (ns : List Int) (hn : ns.length ≤ 63) (hb : ∀ z ∈ ns, Builtin.Int.intBits z ≤ 1048576) : run_law [.ro (ns.map fun n => .atom (.int n))] = some (.atom (.bl true)) := by
  show run_law [.ro (ns.map tI)] = some (.atom (.bl true))
  have v1 := ints_imm ns
  obtain ⟨M, hM, hM2⟩ : ∃ M : Nat, max 1 (min 5 (ns.length : Int)) = (M : Int) ∧ M ≤ 5 := ⟨max 1 (min 5 ns.length), by omega, by omega⟩
  have n62 : (M : Int) < 4611686018427387904 := by omega
  have n63 : -4611686018427387904 ≤ (M : Int) := by omega
  refine run0_of ?_
  unfold sem_law
  simp [↓aft_seq, ↓aft_if, ↓aft_asg, ↓aft_ret, ↓aft_drp, ↓aft_bin, ↓aft_fz, ↓aft_mv, ↓aft_nh, ↓aft_pk, ↓aft_binL, ↓aft_binR, ↓aft_set, ↓aft_tru, ↓aft_boolM, ↓aft_cmpB, ↓aft_and, ↓aft_or, ↓aft_not, ↓aft_andV, ↓aft_orV, ↓aft_notV, ↓aft_ifV, ↓aft_neg, ↓aft_nil, ↓aft_cons, ↓aft_tup, ↓aft_lst, ↓aft_un1, ↓aft_un2, ↓aft_call, ↓aft_callIO, ↓aft_gtup, ↓aft_gnil, ↓aft_gcons, ↓aft_par2, ↓aft_par3, ↓aft_isi, ↓aft_chain, ↓aft_pure, ↓aft_bind, ↓aft_iterA, ↓aft_lc, ↓aft_for, ↓aft_forO, ↓aft_lcStep, ↓aft_some, ↓aft_yes, ↓aft_mrd, ↓aft_tab, ↓aft_match, ↓aft_mth, ↓aft_cutL, ↓aft_dnew, ↓aft_cutM, ↓aft_noP, ↓aft_someP, ↓aft_gstar, ↓aft_enum, ↓aft_rng, ↓aft_setD, ↓aft_loopC, ↓aft_loopN, ↓aft_setIx, ↓aft_steal, and_assoc, exists_eq_left', at_zero, at_succ, List.cons_append, List.nil_append, List.replicate, List.set_cons_zero, List.set_cons_succ, T.cold, T.colds, T.imm, T.imms, T.frz, T.frzs, hole_atom, hole_tup, hole_lst, hole_ro, hole_dct, hole_hole, tru_bl, tru_int, tru_non, tru_lst, tru_tup, bool_bl, ty_list, ty_lst, eq_int, ne_int, eqA_int, eqA_tup, eqA_lst, neA_int, neA_tup, neA_lst, eqA_same, neA_same, wipeE, allT, T.bools, itA_tup, itA_lst, ↓aft_lcCons, ↓aft_lcNil, tI, tS, tBl, tN, lt_ii, le_ii, gt_ii, ge_ii, sub_ii, add_ii, item_tup, item_lst, item_ro, len_str, len_lst, len_ro, len_tup, int_i, int_b, isN_n, isN_i, isN_t, notN_n, notN_i, notN_t, itA_str, le_pp, max_tt, min_tt, atI, ixN, tabT, isi_int_int, isi_int_bool, isi_int_str, isi_int_NoneType, isi_int_list, isi_int_tuple, isi_int_ro, isi_bool_int, isi_bool_bool, isi_bool_str, isi_bool_NoneType, isi_bool_list, isi_bool_tuple, isi_bool_ro, isi_str_int, isi_str_bool, isi_str_str, isi_str_NoneType, isi_str_list, isi_str_tuple, isi_str_ro, isi_list_int, isi_list_bool, isi_list_str, isi_list_NoneType, isi_list_list, isi_list_tuple, isi_list_ro, isi_tuple_int, isi_tuple_bool, isi_tuple_str, isi_tuple_NoneType, isi_tuple_list, isi_tuple_tuple, isi_tuple_ro, hM, n62, n63, range_tI, v1, colds_imms v1, frzs_imms v1]
  clear n62 n63
  refine Aft.mono (loop_inv (fun i ρ => ∃ x1 x2 x3 x4 x5 x6 : T, ρ = [.ro (ns.map tI), x1, x2, x3, x4, x5, x6, .hole, .hole]) 0 ?_ ?_) ?_
  · exact ⟨_, _, _, _, _, _, rfl⟩
  · intro i x ρ hx hinv
    obtain ⟨x1, x2, x3, x4, x5, x6, e0⟩ := hinv
    have hx2 := rng_map_at hx
    rw [hx2.1, e0]
    have hil := hx2.2
    obtain ⟨F, e1, hF⟩ := fount_ok (ns := ns) (k := i) (by omega)
    obtain ⟨N, hN, hN2⟩ : ∃ N : Nat, itemT (.lst true [tI 6, tI 15]) (tI (if i = 0 then 1 else 0)) = some (tI N) ∧ N ≤ 15 := by
      by_cases c : i = 0
      · rw [if_pos c]; exact ⟨15, rfl, by omega⟩
      · rw [if_neg c]; exact ⟨6, rfl, by omega⟩
    have n62 : (N : Int) < 4611686018427387904 := by omega
    have n63 : -4611686018427387904 ≤ (N : Int) := by omega
    simp [↓aft_seq, ↓aft_if, ↓aft_asg, ↓aft_ret, ↓aft_drp, ↓aft_bin, ↓aft_fz, ↓aft_mv, ↓aft_nh, ↓aft_pk, ↓aft_binL, ↓aft_binR, ↓aft_set, ↓aft_tru, ↓aft_boolM, ↓aft_cmpB, ↓aft_and, ↓aft_or, ↓aft_not, ↓aft_andV, ↓aft_orV, ↓aft_notV, ↓aft_ifV, ↓aft_neg, ↓aft_nil, ↓aft_cons, ↓aft_tup, ↓aft_lst, ↓aft_un1, ↓aft_un2, ↓aft_call, ↓aft_callIO, ↓aft_gtup, ↓aft_gnil, ↓aft_gcons, ↓aft_par2, ↓aft_par3, ↓aft_isi, ↓aft_chain, ↓aft_pure, ↓aft_bind, ↓aft_iterA, ↓aft_lc, ↓aft_for, ↓aft_forO, ↓aft_lcStep, ↓aft_some, ↓aft_yes, ↓aft_mrd, ↓aft_tab, ↓aft_match, ↓aft_mth, ↓aft_cutL, ↓aft_dnew, ↓aft_cutM, ↓aft_noP, ↓aft_someP, ↓aft_gstar, ↓aft_enum, ↓aft_rng, ↓aft_setD, ↓aft_loopC, ↓aft_loopN, ↓aft_setIx, ↓aft_steal, and_assoc, exists_eq_left', at_zero, at_succ, List.cons_append, List.nil_append, List.replicate, List.set_cons_zero, List.set_cons_succ, T.cold, T.colds, T.imm, T.imms, T.frz, T.frzs, hole_atom, hole_tup, hole_lst, hole_ro, hole_dct, hole_hole, tru_bl, tru_int, tru_non, tru_lst, tru_tup, bool_bl, ty_list, ty_lst, eq_int, ne_int, eqA_int, eqA_tup, eqA_lst, neA_int, neA_tup, neA_lst, eqA_same, neA_same, wipeE, allT, T.bools, itA_tup, itA_lst, ↓aft_lcCons, ↓aft_lcNil, tI, tS, tBl, tN, lt_ii, le_ii, gt_ii, ge_ii, sub_ii, add_ii, item_tup, item_lst, item_ro, len_str, len_lst, len_ro, len_tup, int_i, int_b, isN_n, isN_i, isN_t, notN_n, notN_i, notN_t, itA_str, le_pp, max_tt, min_tt, atI, ixN, tabT, isi_int_int, isi_int_bool, isi_int_str, isi_int_NoneType, isi_int_list, isi_int_tuple, isi_int_ro, isi_bool_int, isi_bool_bool, isi_bool_str, isi_bool_NoneType, isi_bool_list, isi_bool_tuple, isi_bool_ro, isi_str_int, isi_str_bool, isi_str_str, isi_str_NoneType, isi_str_list, isi_str_tuple, isi_str_ro, isi_list_int, isi_list_bool, isi_list_str, isi_list_NoneType, isi_list_list, isi_list_tuple, isi_list_ro, isi_tuple_int, isi_tuple_bool, isi_tuple_str, isi_tuple_NoneType, isi_tuple_list, isi_tuple_tuple, isi_tuple_ro, -item_lst, v1, colds_imms v1, frzs_imms v1, e1, fv_hole hF, hN, n62, n63, range_tI]
    clear n62 n63
    refine Aft.mono (loop_inv (fun j ρ => ∃ F y4 y5 y6 : T, ρ = [.ro (ns.map tI), tI i, F, if j = 0 then x3 else tI ((j - 1 : Nat) : Int), y4, y5, y6, .hole, .hole] ∧ Fv (1000000 * j) F) 0 ?_ ?_) ?_
    · exact ⟨F, _, _, _, rfl, hF⟩
    · intro j y ρ hy hinv
      obtain ⟨F0, y4, y5, y6, e0, g1⟩ := hinv
      have hy2 := rng_map_at hy
      rw [hy2.1, e0]
      have hjl := hy2.2
      rw [Nat.zero_add] at g1 ⊢
      have step : ∀ (F1 : T) (fi ma : Nat), fi ≤ 12 → ma ≤ 8 → Fv (1000000 * j + 2) F1 → ∃ F2 F3 F4 F5 vs d top L, run__law_small [F1, tI fi] = some (.lst true vs, F2) ∧ run__law_dip [F2, tI 2] = some (tI d, F3) ∧ itemT (.lst true [tI 5, tI 1000000000]) (tI d) = some (tI top) ∧ run__law_layout [F3, .lst true vs, tI ma, tI top] = some (layT false false true true L, F4) ∧ Valid L ∧ run__law_right [F4, layT false false false false L] = some (tBl true, F5) ∧ Fv (1000000 * (j + 1)) F5 ∧ F2.isHole = false ∧ F3.isHole = false ∧ F4.isHole = false ∧ F5.isHole = false := fun F1 fi ma h1 h2 hF1 => by
        obtain ⟨vs, F2, e2, vl, vk, hF2⟩ := small_ok (n := fi) hF1 (by omega) h1
        obtain ⟨d, F3, e3, p3, q3, hF3⟩ := dip_ok (m := 2) hF2 (by omega) (by omega) (by omega)
        obtain ⟨top, ht, t1, t2⟩ : ∃ top : Int, itemT (.lst true [tI 5, tI 1000000000]) (tI d) = some (tI top) ∧ 1 ≤ top ∧ top ≤ 1000000000 := by
          have c : d = 0 ∨ d = 1 := by omega
          rcases c with c | c <;> rw [c]
          · exact ⟨5, rfl, by omega, by omega⟩
          · exact ⟨1000000000, rfl, by omega, by omega⟩
        obtain ⟨L, F4, e4, hL, hF4⟩ := layout_ok (n := ma) (b := true) hF3 (by omega) h2 vk (by omega) t1 t2
        obtain ⟨F5, e5, hF5⟩ := right_ok hF4 (by omega) hL
        exact ⟨F2, F3, F4, F5, vs, d, top, L, e2, e3, ht, e4, hL, e5, hF5.mono (by omega), fv_hole hF2, fv_hole hF3, fv_hole hF4, fv_hole hF5⟩
      have p9 : powT (.atom (.int 10)) (.atom (.int 9)) = some (.atom (.int (10 ^ 9))) := pow_ok (j := 9) (k := 4) (by omega) (by omega) (by omega) (by omega)
      have fin : ∀ (F5 t4 t5 t6 : T), Fv (1000000 * (j + 1)) F5 → ∃ F y4 y5 y6 : T, [T.ro (ns.map tI), tI i, F5, tI j, t4, t5, t6, .hole, .hole] = [.ro (ns.map tI), tI i, F, if j + 1 = 0 then x3 else tI ((j + 1 - 1 : Nat) : Int), y4, y5, y6, .hole, .hole] ∧ Fv (1000000 * (j + 1)) F := fun F5 t4 t5 t6 h => ⟨F5, t4, t5, t6, by simp, h⟩
      by_cases c : j = 0
      · obtain ⟨F2, F3, F4, F5, vs, d, top, L, s1, s2, s3, s4, hL, s5, hF5, f2, f3, f4, f5⟩ := step F0 12 8 (by omega) (by omega) (g1.mono (by omega))
        have s1' : run__law_small [F0, tI 12] = some (.lst true vs, F2) := s1
        have s4' : run__law_layout [F3, .lst true vs, tI 8, tI top] = some (layT false false true true L, F4) := s4
        have lf := lay_frz (b1 := false) (b2 := false) (b3 := true) (b4 := true) hL
        have lc := lay_cold (b1 := false) (b2 := false) (b3 := true) (b4 := true) hL
        have lh : (layT false false true true L).isHole = false := rfl
        refine (show Aft _ (fun c ρ => c = .nx ∧ ρ = [T.ro (ns.map tI), tI i, F5, tI j, tI 12, tI 8, layT false false false false L, .hole, .hole]) by
          simp [↓aft_seq, ↓aft_if, ↓aft_asg, ↓aft_ret, ↓aft_drp, ↓aft_bin, ↓aft_fz, ↓aft_mv, ↓aft_nh, ↓aft_pk, ↓aft_binL, ↓aft_binR, ↓aft_set, ↓aft_tru, ↓aft_boolM, ↓aft_cmpB, ↓aft_and, ↓aft_or, ↓aft_not, ↓aft_andV, ↓aft_orV, ↓aft_notV, ↓aft_ifV, ↓aft_neg, ↓aft_nil, ↓aft_cons, ↓aft_tup, ↓aft_lst, ↓aft_un1, ↓aft_un2, ↓aft_call, ↓aft_callIO, ↓aft_gtup, ↓aft_gnil, ↓aft_gcons, ↓aft_par2, ↓aft_par3, ↓aft_isi, ↓aft_chain, ↓aft_pure, ↓aft_bind, ↓aft_iterA, ↓aft_lc, ↓aft_for, ↓aft_forO, ↓aft_lcStep, ↓aft_some, ↓aft_yes, ↓aft_mrd, ↓aft_tab, ↓aft_match, ↓aft_mth, ↓aft_cutL, ↓aft_dnew, ↓aft_cutM, ↓aft_noP, ↓aft_someP, ↓aft_gstar, ↓aft_enum, ↓aft_rng, ↓aft_setD, ↓aft_loopC, ↓aft_loopN, ↓aft_setIx, ↓aft_steal, and_assoc, exists_eq_left', at_zero, at_succ, List.cons_append, List.nil_append, List.replicate, List.set_cons_zero, List.set_cons_succ, T.cold, T.colds, T.imm, T.imms, T.frz, T.frzs, hole_atom, hole_tup, hole_lst, hole_ro, hole_dct, hole_hole, tru_bl, tru_int, tru_non, tru_lst, tru_tup, bool_bl, ty_list, ty_lst, eq_int, ne_int, eqA_int, eqA_tup, eqA_lst, neA_int, neA_tup, neA_lst, eqA_same, neA_same, wipeE, allT, T.bools, itA_tup, itA_lst, ↓aft_lcCons, ↓aft_lcNil, tI, tS, tBl, tN, lt_ii, le_ii, gt_ii, ge_ii, sub_ii, add_ii, item_tup, item_lst, item_ro, len_str, len_lst, len_ro, len_tup, int_i, int_b, isN_n, isN_i, isN_t, notN_n, notN_i, notN_t, itA_str, le_pp, max_tt, min_tt, atI, ixN, tabT, isi_int_int, isi_int_bool, isi_int_str, isi_int_NoneType, isi_int_list, isi_int_tuple, isi_int_ro, isi_bool_int, isi_bool_bool, isi_bool_str, isi_bool_NoneType, isi_bool_list, isi_bool_tuple, isi_bool_ro, isi_str_int, isi_str_bool, isi_str_str, isi_str_NoneType, isi_str_list, isi_str_tuple, isi_str_ro, isi_list_int, isi_list_bool, isi_list_str, isi_list_NoneType, isi_list_list, isi_list_tuple, isi_list_ro, isi_tuple_int, isi_tuple_bool, isi_tuple_str, isi_tuple_NoneType, isi_tuple_list, isi_tuple_tuple, isi_tuple_ro, -item_lst, c, fv_hole g1, p9, s1', s2, s3, s4', s5, f2, f3, f4, f5, lf, lc, lh, lay_imm hL]).mono fun c ρ hh => ⟨hh.1, ?_⟩
        rw [hh.2]
        exact fin _ _ _ _ hF5
      · obtain ⟨d1, G1, r1, a1, b1, hG1⟩ := dip_ok (m := 13) g1 (by omega) (by omega) (by omega)
        obtain ⟨d2, G2, r2, a2, b2, hG2⟩ := dip_ok (m := 9) hG1 (by omega) (by omega) (by omega)
        obtain ⟨w1, k1⟩ : ∃ w1 : Nat, d1 = w1 := ⟨d1.toNat, by omega⟩
        obtain ⟨w2, k2⟩ : ∃ w2 : Nat, d2 = w2 := ⟨d2.toNat, by omega⟩
        rw [k1] at r1
        rw [k2] at r2
        obtain ⟨F2, F3, F4, F5, vs, d, top, L, s1, s2, s3, s4, hL, s5, hF5, f2, f3, f4, f5⟩ := step G2 w1 w2 (by omega) (by omega) hG2
        have lf := lay_frz (b1 := false) (b2 := false) (b3 := true) (b4 := true) hL
        have lc := lay_cold (b1 := false) (b2 := false) (b3 := true) (b4 := true) hL
        have lh : (layT false false true true L).isHole = false := rfl
        refine (show Aft _ (fun c ρ => c = .nx ∧ ρ = [T.ro (ns.map tI), tI i, F5, tI j, tI w1, tI w2, layT false false false false L, .hole, .hole]) by
          simp [↓aft_seq, ↓aft_if, ↓aft_asg, ↓aft_ret, ↓aft_drp, ↓aft_bin, ↓aft_fz, ↓aft_mv, ↓aft_nh, ↓aft_pk, ↓aft_binL, ↓aft_binR, ↓aft_set, ↓aft_tru, ↓aft_boolM, ↓aft_cmpB, ↓aft_and, ↓aft_or, ↓aft_not, ↓aft_andV, ↓aft_orV, ↓aft_notV, ↓aft_ifV, ↓aft_neg, ↓aft_nil, ↓aft_cons, ↓aft_tup, ↓aft_lst, ↓aft_un1, ↓aft_un2, ↓aft_call, ↓aft_callIO, ↓aft_gtup, ↓aft_gnil, ↓aft_gcons, ↓aft_par2, ↓aft_par3, ↓aft_isi, ↓aft_chain, ↓aft_pure, ↓aft_bind, ↓aft_iterA, ↓aft_lc, ↓aft_for, ↓aft_forO, ↓aft_lcStep, ↓aft_some, ↓aft_yes, ↓aft_mrd, ↓aft_tab, ↓aft_match, ↓aft_mth, ↓aft_cutL, ↓aft_dnew, ↓aft_cutM, ↓aft_noP, ↓aft_someP, ↓aft_gstar, ↓aft_enum, ↓aft_rng, ↓aft_setD, ↓aft_loopC, ↓aft_loopN, ↓aft_setIx, ↓aft_steal, and_assoc, exists_eq_left', at_zero, at_succ, List.cons_append, List.nil_append, List.replicate, List.set_cons_zero, List.set_cons_succ, T.cold, T.colds, T.imm, T.imms, T.frz, T.frzs, hole_atom, hole_tup, hole_lst, hole_ro, hole_dct, hole_hole, tru_bl, tru_int, tru_non, tru_lst, tru_tup, bool_bl, ty_list, ty_lst, eq_int, ne_int, eqA_int, eqA_tup, eqA_lst, neA_int, neA_tup, neA_lst, eqA_same, neA_same, wipeE, allT, T.bools, itA_tup, itA_lst, ↓aft_lcCons, ↓aft_lcNil, tI, tS, tBl, tN, lt_ii, le_ii, gt_ii, ge_ii, sub_ii, add_ii, item_tup, item_lst, item_ro, len_str, len_lst, len_ro, len_tup, int_i, int_b, isN_n, isN_i, isN_t, notN_n, notN_i, notN_t, itA_str, le_pp, max_tt, min_tt, atI, ixN, tabT, isi_int_int, isi_int_bool, isi_int_str, isi_int_NoneType, isi_int_list, isi_int_tuple, isi_int_ro, isi_bool_int, isi_bool_bool, isi_bool_str, isi_bool_NoneType, isi_bool_list, isi_bool_tuple, isi_bool_ro, isi_str_int, isi_str_bool, isi_str_str, isi_str_NoneType, isi_str_list, isi_str_tuple, isi_str_ro, isi_list_int, isi_list_bool, isi_list_str, isi_list_NoneType, isi_list_list, isi_list_tuple, isi_list_ro, isi_tuple_int, isi_tuple_bool, isi_tuple_str, isi_tuple_NoneType, isi_tuple_list, isi_tuple_tuple, isi_tuple_ro, -item_lst, c, fv_hole g1, fv_hole hG1, fv_hole hG2, r1, r2, p9, s1, s2, s3, s4, s5, f2, f3, f4, f5, lf, lc, lh, lay_imm hL]).mono fun c ρ hh => ⟨hh.1, ?_⟩
        rw [hh.2]
        exact fin _ _ _ _ hF5
    · rintro c ρ ⟨e0, F1, y4, y5, y6, e2, _⟩
      subst e0 e2
      exact ⟨rfl, _, _, _, _, _, _, rfl⟩
  · rintro c ρ ⟨e0, x1, x2, x3, x4, x5, x6, e1⟩
    subst e0 e1
    have q1 : run_reordered [.tup [.lst true [], .lst false [recT ra, recT rb, recT rc], .lst true [.tup [tI 0, tI 2]], .lst true [.tup [tI 1, tI 2]]], .lst true [tI 2, tI 0, tI 1]] = some (layT true true true true (reord L0 [2, 0, 1])) := reordered_ok (b1 := true) (b2 := false) (b3 := true) (b4 := true) (b5 := true) l0_ok ord0
    have q2 : run_reordered [.tup [.lst true [], .lst true [], .lst true [], .lst true []], .lst true []] = some (layT true true true true (reord LE [])) := reordered_ok (b1 := true) (b2 := true) (b3 := true) (b4 := true) (b5 := true) (o := []) le_ok (List.Perm.refl _)
    have q3 : layT true true true true (reord LE []) = .tup [.lst true [], .lst true [], .lst true [], .lst true []] := by
      have : reord LE [] = LE := by simp [reord, LE, psort]
      rw [this]; rfl
    have v0 := reord_valid l0_ok ord0
    have n0 := (nic_lay (b1 := true) (b2 := true) (b3 := true) (b4 := true) v0).mono (show 4 ≤ 60 by omega) (Nat.le_refl _)
    rw [reord0] at q1 n0
    have ne := (eq_same n0 n0 rfl).2
    have nE := (nic_lay (b1 := true) (b2 := true) (b3 := true) (b4 := true) le_ok).mono (show 4 ≤ 60 by omega) (Nat.le_refl _)
    have eE := (eq_same nE nE rfl).1
    rw [q3] at q2
    simp only [layT, List.map_cons, List.map_nil, ra, rb, rc, recT, prT, LE] at q1 ne eE
    simp [↓aft_seq, ↓aft_if, ↓aft_asg, ↓aft_ret, ↓aft_drp, ↓aft_bin, ↓aft_fz, ↓aft_mv, ↓aft_nh, ↓aft_pk, ↓aft_binL, ↓aft_binR, ↓aft_set, ↓aft_tru, ↓aft_boolM, ↓aft_cmpB, ↓aft_and, ↓aft_or, ↓aft_not, ↓aft_andV, ↓aft_orV, ↓aft_notV, ↓aft_ifV, ↓aft_neg, ↓aft_nil, ↓aft_cons, ↓aft_tup, ↓aft_lst, ↓aft_un1, ↓aft_un2, ↓aft_call, ↓aft_callIO, ↓aft_gtup, ↓aft_gnil, ↓aft_gcons, ↓aft_par2, ↓aft_par3, ↓aft_isi, ↓aft_chain, ↓aft_pure, ↓aft_bind, ↓aft_iterA, ↓aft_lc, ↓aft_for, ↓aft_forO, ↓aft_lcStep, ↓aft_some, ↓aft_yes, ↓aft_mrd, ↓aft_tab, ↓aft_match, ↓aft_mth, ↓aft_cutL, ↓aft_dnew, ↓aft_cutM, ↓aft_noP, ↓aft_someP, ↓aft_gstar, ↓aft_enum, ↓aft_rng, ↓aft_setD, ↓aft_loopC, ↓aft_loopN, ↓aft_setIx, ↓aft_steal, and_assoc, exists_eq_left', at_zero, at_succ, List.cons_append, List.nil_append, List.replicate, List.set_cons_zero, List.set_cons_succ, T.cold, T.colds, T.imm, T.imms, T.frz, T.frzs, hole_atom, hole_tup, hole_lst, hole_ro, hole_dct, hole_hole, tru_bl, tru_int, tru_non, tru_lst, tru_tup, bool_bl, ty_list, ty_lst, eq_int, ne_int, eqA_int, eqA_tup, eqA_lst, neA_int, neA_tup, neA_lst, eqA_same, neA_same, wipeE, allT, T.bools, itA_tup, itA_lst, ↓aft_lcCons, ↓aft_lcNil, tI, tS, tBl, tN, lt_ii, le_ii, gt_ii, ge_ii, sub_ii, add_ii, item_tup, item_lst, item_ro, len_str, len_lst, len_ro, len_tup, int_i, int_b, isN_n, isN_i, isN_t, notN_n, notN_i, notN_t, itA_str, le_pp, max_tt, min_tt, atI, ixN, tabT, isi_int_int, isi_int_bool, isi_int_str, isi_int_NoneType, isi_int_list, isi_int_tuple, isi_int_ro, isi_bool_int, isi_bool_bool, isi_bool_str, isi_bool_NoneType, isi_bool_list, isi_bool_tuple, isi_bool_ro, isi_str_int, isi_str_bool, isi_str_str, isi_str_NoneType, isi_str_list, isi_str_tuple, isi_str_ro, isi_list_int, isi_list_bool, isi_list_str, isi_list_NoneType, isi_list_list, isi_list_tuple, isi_list_ro, isi_tuple_int, isi_tuple_bool, isi_tuple_str, isi_tuple_NoneType, isi_tuple_list, isi_tuple_tuple, isi_tuple_ro, q1, q2, ne, eE]
end G
open PySem PySem.W PyProof.Rows
set_option maxRecDepth 100000 in
set_option maxHeartbeats 0 in
theorem PySem.Challenge.cw_touchcontest_k69_reordered_layouts_holds : PySem.Challenge.rw_touchcontest_k69_reordered_layouts.Holds := by
  w_on; o_law; k_head; (case hw => w_witness2)
  k_fill
  refine VS.walk_ofG (l := PySem.Challenge.rw_touchcontest_k69_reordered_layouts) (k := 8) (x := "_law_script") (m := G.run_law) rfl rfl ⟨⟨rfl, by decide, by decide⟩, rfl⟩ (fun w h Y => PySem.W.kIn_of Y) ?F fun ns hl hb => G.law_true ns hl hb
  case F =>
    intro w mg fa h KX GX hmg
    refine' G.all_mk KX GX hmg ?z_all ?z_bool ?z_enumerate ?z_int ?z_isinstance ?z_len ?z_list ?z_max ?z_min ?z_range ?z_repr ?z_sorted ?z_str ?z_tuple ?g_AXES ?l_AXES ?g_GREATEST ?g_MOST_BESIDE ?g_MOST_RECOGNIZERS ?g_MOST_VIEWS ?g_MOST_WAITS ?g_SIGNS ?g_SIZES ?l_SIZES ?k_SIZES ?o_SIZES ?e_SIZES_0 ?e_SIZES_1 ?e_SIZES_2 ?e_SIZES_3 ?e_SIZES_4 ?e_SIZES_5 ?a_is_name ?l_is_name ?c_is_name ?k_is_name ?a_is_integer ?l_is_integer ?c_is_integer ?k_is_integer ?a_is_kind ?l_is_kind ?c_is_kind ?k_is_kind ?a_wrong_recognizer ?l_wrong_recognizer ?c_wrong_recognizer ?k_wrong_recognizer ?a_is_list ?l_is_list ?c_is_list ?k_is_list ?a_is_pair ?l_is_pair ?c_is_pair ?k_is_pair ?a_wrong_pair ?l_wrong_pair ?c_wrong_pair ?k_wrong_pair ?a_is_view ?l_is_view ?c_is_view ?k_is_view ?a_wrong_view ?l_wrong_view ?c_wrong_view ?k_wrong_view ?a_first_fault ?l_first_fault ?c_first_fault ?k_first_fault ?a_require_layout ?l_require_layout ?c_require_layout ?k_require_layout ?a_is_order ?l_is_order ?c_is_order ?k_is_order ?a_reordered ?l_reordered ?c_reordered ?k_reordered ?a__law_fount ?l__law_fount ?c__law_fount ?k__law_fount ?a__law_dip ?l__law_dip ?c__law_dip ?k__law_dip ?a__law_names_of ?l__law_names_of ?c__law_names_of ?k__law_names_of ?a__law_pairs ?l__law_pairs ?c__law_pairs ?k__law_pairs ?a__law_kind ?l__law_kind ?c__law_kind ?k__law_kind ?a__law_layout ?l__law_layout ?c__law_layout ?k__law_layout ?a__law_small ?l__law_small ?c__law_small ?k__law_small ?a__law_order ?l__law_order ?c__law_order ?k__law_order ?a__law_turned ?l__law_turned ?c__law_turned ?k__law_turned ?a_is_layout ?l_is_layout ?c_is_layout ?k_is_layout ?a__law_right ?l__law_right ?c__law_right ?k__law_right ?a_law ?l_law ?c_law ?k_law
    (case z_all => k_is)
    (case z_bool => k_is)
    (case z_enumerate => k_is)
    (case z_int => k_is)
    (case z_isinstance => k_is)
    (case z_len => k_is)
    (case z_list => k_is)
    (case z_max => k_is)
    (case z_min => k_is)
    (case z_range => k_is)
    (case z_repr => k_is)
    (case z_sorted => k_is)
    (case z_str => k_is)
    (case z_tuple => k_is)
    (case g_AXES => k_is)
    (case l_AXES => k_is)
    (case g_GREATEST => k_is)
    (case g_MOST_BESIDE => k_is)
    (case g_MOST_RECOGNIZERS => k_is)
    (case g_MOST_VIEWS => k_is)
    (case g_MOST_WAITS => k_is)
    (case g_SIGNS => k_is)
    (case g_SIZES => k_is)
    (case l_SIZES => k_is)
    (case k_SIZES => k_keys)
    (case o_SIZES => decide)
    (case e_SIZES_0 => k_is)
    (case e_SIZES_1 => k_is)
    (case e_SIZES_2 => k_is)
    (case e_SIZES_3 => k_is)
    (case e_SIZES_4 => k_is)
    (case e_SIZES_5 => k_is)
    (case a_is_name => k_is); (case l_is_name => k_is); (case c_is_name => k_is); (case k_is_name => k_is)
    (case a_is_integer => k_is); (case l_is_integer => k_is); (case c_is_integer => k_is); (case k_is_integer => k_is)
    (case a_is_kind => k_is); (case l_is_kind => k_is); (case c_is_kind => k_is); (case k_is_kind => k_is)
    (case a_wrong_recognizer => k_is); (case l_wrong_recognizer => k_is); (case c_wrong_recognizer => k_is); (case k_wrong_recognizer => k_is)
    (case a_is_list => k_is); (case l_is_list => k_is); (case c_is_list => k_is); (case k_is_list => k_is)
    (case a_is_pair => k_is); (case l_is_pair => k_is); (case c_is_pair => k_is); (case k_is_pair => k_is)
    (case a_wrong_pair => k_is); (case l_wrong_pair => k_is); (case c_wrong_pair => k_is); (case k_wrong_pair => k_is)
    (case a_is_view => k_is); (case l_is_view => k_is); (case c_is_view => k_is); (case k_is_view => k_is)
    (case a_wrong_view => k_is); (case l_wrong_view => k_is); (case c_wrong_view => k_is); (case k_wrong_view => k_is)
    (case a_first_fault => k_is); (case l_first_fault => k_is); (case c_first_fault => k_is); (case k_first_fault => k_is)
    (case a_require_layout => k_is); (case l_require_layout => k_is); (case c_require_layout => k_is); (case k_require_layout => k_is)
    (case a_is_order => k_is); (case l_is_order => k_is); (case c_is_order => k_is); (case k_is_order => k_is)
    (case a_reordered => k_is); (case l_reordered => k_is); (case c_reordered => k_is); (case k_reordered => k_is)
    (case a__law_fount => k_is); (case l__law_fount => k_is); (case c__law_fount => k_is); (case k__law_fount => k_is)
    (case a__law_dip => k_is); (case l__law_dip => k_is); (case c__law_dip => k_is); (case k__law_dip => k_is)
    (case a__law_names_of => k_is); (case l__law_names_of => k_is); (case c__law_names_of => k_is); (case k__law_names_of => k_is)
    (case a__law_pairs => k_is); (case l__law_pairs => k_is); (case c__law_pairs => k_is); (case k__law_pairs => k_is)
    (case a__law_kind => k_is); (case l__law_kind => k_is); (case c__law_kind => k_is); (case k__law_kind => k_is)
    (case a__law_layout => k_is); (case l__law_layout => k_is); (case c__law_layout => k_is); (case k__law_layout => k_is)
    (case a__law_small => k_is); (case l__law_small => k_is); (case c__law_small => k_is); (case k__law_small => k_is)
    (case a__law_order => k_is); (case l__law_order => k_is); (case c__law_order => k_is); (case k__law_order => k_is)
    (case a__law_turned => k_is); (case l__law_turned => k_is); (case c__law_turned => k_is); (case k__law_turned => k_is)
    (case a_is_layout => k_is); (case l_is_layout => k_is); (case c_is_layout => k_is); (case k_is_layout => k_is)
    (case a__law_right => k_is); (case l__law_right => k_is); (case c__law_right => k_is); (case k__law_right => k_is)
    (case a_law => k_is); (case l_law => k_is); (case c_law => k_is); (case k_law => k_is)
